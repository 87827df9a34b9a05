import PyProof.Rows.All
import Wide.All
import OpenK.AllK
import Wide.FinOn
import HandS.ForMost
import HandS.IsInst
import HandS.Style
import HandS.Exc
import HandS.TupAny
import HandS.Deep
import HandS.Strs
import HandS.Zip
import HandS.Text
import PyProof.StrLawsChain
import PySem.Challenge.RW_steadyhall_k01_words
set_option Elab.async false
set_option linter.all false
set_option maxRecDepth 100000
set_option maxHeartbeats 4000000
/-! A small evaluator beside the model: data, heaps, outcomes, and how they lie in the layer's abstract heap. -/
namespace Ev
open PySem PySem.Spec PyProof.Rows L2

/-- a datum: tuples by value, lists, dicts and objects by their place in the small heap -/
inductive D where
  | non
  | bl (b : Bool)
  | int (i : Int)
  | str (s : Str)
  | tup (xs : List D)
  | loc (n : Nat)
  | scr (ns : List Int)

/-- an object of the small heap -/
inductive O where
  | lst (xs : List D)
  | dct (kvs : List (Key × D))
  | ins (c : Nat) (fs : List (Str × D))

abbrev Hh := List O

inductive R (A : Type) where
  | ok (a : A) (h : Hh)
  | exc (c : Nat) (fs : List D) (h : Hh)
  | bad

def R.bind {A B : Type} (r : R A) (f : A → Hh → R B) : R B :=
  match r with
  | .ok a h => f a h
  | .exc c fs h => .exc c fs h
  | .bad => .bad

/-! ### data in the abstract heap -/
/-- a tuple whose object is known to have no dict of its own -/
def SqP (K : PySem.W.Frag) (H : Hp) (a : Addr) (xs : List V) : Prop :=
  (∃ ob : Obj, ob.dict = none ∧ H a = some (.frz ob (.tup xs))) ∨
    ∃ (o : Obj) (its : Array Value) (n : Nat), K.lookup a = some o ∧ o.cls = .type "tuple" ∧ o.dict = none ∧ o.data = .seq its n ∧ its.size ≤ sizeLine ∧ Vals xs its.toList
theorem SqP.sq {K : PySem.W.Frag} {H : Hp} {a : Addr} {xs : List V} (h : SqP K H a xs) : SqT K H a xs := by
  rcases h with ⟨ob, _, e⟩ | ⟨o, its, n, h1, h2, _, h4, h5, h6⟩
  · exact .inl (.inr ⟨ob, e⟩)
  · exact .inr ⟨o, its, n, h1, h2, h4, h5, h6⟩
/-- the script: a list that nobody changes -/
def SqF (K : PySem.W.Frag) (H : Hp) (a : Addr) (xs : List V) : Prop :=
  (∃ ob : Obj, H a = some (.frz ob (.lst xs))) ∨
    ∃ (o : Obj) (its : Array Value) (n : Nat), K.lookup a = some o ∧ o.cls = .type "list" ∧ o.dict = none ∧ o.data = .seq its n ∧ its.size ≤ sizeLine ∧ Vals xs its.toList
theorem SqF.sq {K : PySem.W.Frag} {H : Hp} {a : Addr} {xs : List V} (h : SqF K H a xs) : SqL K H a xs := by
  rcases h with ⟨ob, e⟩ | h
  · exact .inl (.inr ⟨ob, e⟩)
  · exact .inr h
/-- nothing that is known to its object stands there -/
def NT (H : Hp) (p : Addr) : Prop := ∀ (ob : Obj) (u : HO), H p ≠ some (.frz ob u)
mutual
inductive Rp (K : PySem.W.Frag) (as : List Addr) (H : Hp) : D → V → Prop
  | non : Rp K as H .non .non
  | bl (b : Bool) : Rp K as H (.bl b) (.bl b)
  | int (i : Int) : Rp K as H (.int i) (.int i)
  | str (s : Str) : Rp K as H (.str s) (.str s)
  | loc {n : Nat} {a : Addr} : as[n]? = some a → Rp K as H (.loc n) (.ref a)
  | tup {ds : List D} {xs : List V} {a : Addr} : SqP K H a xs → RpL K as H ds xs → Rp K as H (.tup ds) (.ref a)
  | scr {ns : List Int} {a : Addr} : SqF K H a (ns.map V.int) → Rp K as H (.scr ns) (.ref a)
inductive RpL (K : PySem.W.Frag) (as : List Addr) (H : Hp) : List D → List V → Prop
  | nil : RpL K as H [] []
  | cons {d : D} {v : V} {ds : List D} {vs : List V} : Rp K as H d v → RpL K as H ds vs → RpL K as H (d :: ds) (v :: vs)
end

def Le (as bs : List Addr) : Prop := ∀ (n : Nat) (a : Addr), as[n]? = some a → bs[n]? = some a
def TK (K : PySem.W.Frag) (H H1 : Hp) : Prop := ∀ (b : Addr) (xs : List V), (SqP K H b xs → SqP K H1 b xs) ∧ (SqF K H b xs → SqF K H1 b xs)
theorem Le.refl (as : List Addr) : Le as as := fun _ _ h => h
theorem Le.trans {a b c : List Addr} (h : Le a b) (k : Le b c) : Le a c := fun n x e => k n x (h n x e)
theorem Le.app (as bs : List Addr) : Le as (as ++ bs) := fun n a h => by
  rw [List.getElem?_append_left (List.getElem?_eq_some_iff.mp h).1]
  exact h
theorem TK.refl (K : PySem.W.Frag) (H : Hp) : TK K H H := fun _ _ => ⟨fun h => h, fun h => h⟩
theorem TK.trans {K : PySem.W.Frag} {H H1 H2 : Hp} (h : TK K H H1) (k : TK K H1 H2) : TK K H H2 := fun b xs => ⟨fun e => (k b xs).1 ((h b xs).1 e), fun e => (k b xs).2 ((h b xs).2 e)⟩
/-- a new thing, or a change of what is no tuple -/
theorem TK.upd {K : PySem.W.Frag} {H : Hp} {p : Addr} {o : HO} (h : NT H p) : TK K H (upd H p o) := fun b xs => by
  have ne : ∀ ob u, H b = some (.frz ob u) → b ≠ p := fun ob u e z => by
    subst z
    exact h ob u e
  refine ⟨fun e => ?_, fun e => ?_⟩
  · rcases e with ⟨ob, hd, e⟩ | e
    · exact .inl ⟨ob, hd, by rw [upd_ne (ne _ _ e)]; exact e⟩
    · exact .inr e
  · rcases e with ⟨ob, e⟩ | e
    · exact .inl ⟨ob, by rw [upd_ne (ne _ _ e)]; exact e⟩
    · exact .inr e
theorem noTup_none {H : Hp} {p : Addr} (h : H p = none) : NT H p := fun ob xs e => by rw [h] at e; cases e
theorem noTup_lst {H : Hp} {p : Addr} {ys : List V} (h : H p = some (.lst ys)) : NT H p := fun ob xs e => by rw [h] at e; cases e
theorem noTup_dK {H : Hp} {p : Addr} {ys : List (Key × V)} (h : H p = some (.dK ys)) : NT H p := fun ob xs e => by rw [h] at e; cases e
theorem noTup_ins {H : Hp} {p C dx : Addr} {ys : List (Str × V)} (h : H p = some (.ins C dx ys)) : NT H p := fun ob xs e => by rw [h] at e; cases e

section
variable {K : PySem.W.Frag} {as bs : List Addr} {H H1 : Hp}
mutual
theorem Rp.mono {d : D} {v : V} (hl : Le as bs) (ht : TK K H H1) : Rp K as H d v → Rp K bs H1 d v
  | .non => .non
  | .bl b => .bl b
  | .int i => .int i
  | .str s => .str s
  | .loc e => .loc (hl _ _ e)
  | .tup e r => .tup ((ht _ _).1 e) (RpL.mono hl ht r)
  | .scr e => .scr ((ht _ _).2 e)
theorem RpL.mono {ds : List D} {vs : List V} (hl : Le as bs) (ht : TK K H H1) : RpL K as H ds vs → RpL K bs H1 ds vs
  | .nil => .nil
  | .cons r rs => .cons (Rp.mono hl ht r) (RpL.mono hl ht rs)
end
theorem RpL.length {ds : List D} {vs : List V} (h : RpL K as H ds vs) : ds.length = vs.length := by
  induction ds generalizing vs with
  | nil => cases h; rfl
  | cons d ds ih =>
    cases h with
    | cons r rs => simp [ih rs]
theorem RpL.get {ds : List D} {vs : List V} (h : RpL K as H ds vs) : ∀ {i : Nat} {d : D}, ds[i]? = some d → ∃ v, vs[i]? = some v ∧ Rp K as H d v := by
  induction ds generalizing vs with
  | nil => intro i d e; simp at e
  | cons x xs ih =>
    cases h with
    | cons r rs =>
      intro i d e
      cases i with
      | zero => simp at e; subst e; exact ⟨_, rfl, r⟩
      | succ i => simpa using ih rs (by simpa using e)
theorem RpL.get' {ds : List D} {vs : List V} (h : RpL K as H ds vs) : ∀ {i : Nat} {v : V}, vs[i]? = some v → ∃ d, ds[i]? = some d ∧ Rp K as H d v := by
  induction ds generalizing vs with
  | nil => cases h; intro i d e; simp at e
  | cons x xs ih =>
    cases h with
    | cons r rs =>
      intro i d e
      cases i with
      | zero => simp at e; subst e; exact ⟨_, rfl, r⟩
      | succ i => simpa using ih rs (by simpa using e)
theorem RpL.app {ds es : List D} {vs us : List V} (h : RpL K as H ds vs) (k : RpL K as H es us) : RpL K as H (ds ++ es) (vs ++ us) := by
  induction ds generalizing vs with
  | nil => cases h; exact k
  | cons x xs ih =>
    cases h with
    | cons r rs => exact .cons r (ih rs)
theorem RpL.take {ds : List D} {vs : List V} (h : RpL K as H ds vs) (n : Nat) : RpL K as H (ds.take n) (vs.take n) := by
  induction ds generalizing vs n with
  | nil => cases h; simp; exact .nil
  | cons x xs ih =>
    cases h with
    | cons r rs =>
      cases n with
      | zero => simp; exact .nil
      | succ n => simp only [List.take_succ_cons]; exact .cons r (ih rs n)
theorem RpL.drop {ds : List D} {vs : List V} (h : RpL K as H ds vs) (n : Nat) : RpL K as H (ds.drop n) (vs.drop n) := by
  induction ds generalizing vs n with
  | nil => cases h; simp; exact .nil
  | cons x xs ih =>
    cases h with
    | cons r rs =>
      cases n with
      | zero => simp; exact .cons r rs
      | succ n => simp only [List.drop_succ_cons]; exact ih rs n
theorem RpL.set {ds : List D} {vs : List V} {d : D} {v : V} (h : RpL K as H ds vs) (hd : Rp K as H d v) (n : Nat) : RpL K as H (ds.set n d) (vs.set n v) := by
  induction ds generalizing vs n with
  | nil => cases h; simp; exact .nil
  | cons x xs ih =>
    cases h with
    | cons r rs =>
      cases n with
      | zero => simp; exact .cons hd rs
      | succ n => simp only [List.set_cons_succ]; exact .cons r (ih rs n)
theorem RpL.one {d : D} {v : V} (h : Rp K as H d v) : RpL K as H [d] [v] := .cons h .nil
end

/-- keys and values of a dict, fields of an object -/
def RpK {B : Type} (K : PySem.W.Frag) (as : List Addr) (H : Hp) (kvs : List (B × D)) (ys : List (B × V)) : Prop :=
  kvs.map (·.1) = ys.map (·.1) ∧ RpL K as H (kvs.map (·.2)) (ys.map (·.2))
theorem RpK.mono {B : Type} {K : PySem.W.Frag} {as bs : List Addr} {H H1 : Hp} {kvs : List (B × D)} {ys : List (B × V)} (hl : Le as bs) (ht : TK K H H1) (h : RpK K as H kvs ys) : RpK K bs H1 kvs ys :=
  ⟨h.1, h.2.mono hl ht⟩

/-- an object as it lies at an address; cl: where the classes lie -/
def OR (K : PySem.W.Frag) (cl : Nat → Option Addr) (as : List Addr) (H : Hp) (a : Addr) : O → Prop
  | .lst ds => ∃ xs, H a = some (.lst xs) ∧ RpL K as H ds xs
  | .dct kvs => ∃ ys, H a = some (.dK ys) ∧ RpK K as H kvs ys
  | .ins c fs => ∃ C dx ys, cl c = some C ∧ H a = some (.ins C dx ys) ∧ RpK K as H fs ys

structure Rl (K : PySem.W.Frag) (cl : Nat → Option Addr) (as : List Addr) (h : Hh) (H : Hp) : Prop where
  len : as.length = h.length
  nd : as.Nodup
  ob : ∀ (i : Nat) (o : O) (a : Addr), h[i]? = some o → as[i]? = some a → OR K cl as H a o

section
variable {K : PySem.W.Frag} {cl : Nat → Option Addr} {as bs : List Addr} {h : Hh} {H H1 : Hp}
theorem OR.there {a : Addr} {o : O} (x : OR K cl as H a o) : ∃ u, H a = some u := by
  cases o with
  | lst ds => obtain ⟨xs, e, _⟩ := x; exact ⟨_, e⟩
  | dct kvs => obtain ⟨xs, e, _⟩ := x; exact ⟨_, e⟩
  | ins c fs => obtain ⟨C, dx, ys, _, e, _⟩ := x; exact ⟨_, e⟩
theorem OR.noTup {a : Addr} {o : O} (x : OR K cl as H a o) : NT H a := by
  cases o with
  | lst ds => obtain ⟨xs, e1, _⟩ := x; exact noTup_lst e1
  | dct kvs => obtain ⟨xs, e1, _⟩ := x; exact noTup_dK e1
  | ins c fs => obtain ⟨C, dx, zs, _, e1, _⟩ := x; exact noTup_ins e1
/-- an object stays where its address does -/
theorem OR.mono {a : Addr} {o : O} (hl : Le as bs) (ht : TK K H H1) (ha : H1 a = H a) (x : OR K cl as H a o) : OR K cl bs H1 a o := by
  cases o with
  | lst ds => obtain ⟨xs, e, r⟩ := x; exact ⟨xs, by rw [ha]; exact e, r.mono hl ht⟩
  | dct kvs => obtain ⟨xs, e, r⟩ := x; exact ⟨xs, by rw [ha]; exact e, r.mono hl ht⟩
  | ins c fs => obtain ⟨C, dx, ys, e0, e, r⟩ := x; exact ⟨C, dx, ys, e0, by rw [ha]; exact e, r.mono hl ht⟩
theorem Rl.at (x : Rl K cl as h H) {i : Nat} {o : O} (e : h[i]? = some o) : ∃ a, as[i]? = some a ∧ OR K cl as H a o := by
  have hi : i < as.length := by rw [x.len]; exact (List.getElem?_eq_some_iff.mp e).1
  exact ⟨as[i], List.getElem?_eq_getElem hi, x.ob i o _ e (List.getElem?_eq_getElem hi)⟩
theorem Rl.tracked (x : Rl K cl as h H) {i : Nat} {a : Addr} (e : as[i]? = some a) : ∃ o, h[i]? = some o ∧ OR K cl as H a o := by
  have hi : i < h.length := by rw [← x.len]; exact (List.getElem?_eq_some_iff.mp e).1
  exact ⟨h[i], List.getElem?_eq_getElem hi, x.ob i _ a (List.getElem?_eq_getElem hi) e⟩
theorem Rl.notIn (x : Rl K cl as h H) {p : Addr} (hp : H p = none) : p ∉ as := fun hm => by
  obtain ⟨i, hi, e⟩ := List.getElem_of_mem hm
  obtain ⟨o, _, r⟩ := x.tracked (i := i) (a := p) (by rw [List.getElem?_eq_getElem hi, e])
  obtain ⟨u, q⟩ := r.there
  rw [hp] at q
  cases q
/-- something beside the tracked objects changes (a new tuple, a list that is being made) -/
theorem Rl.beside (x : Rl K cl as h H) {p : Addr} {o : HO} (hp : p ∉ as) (ht : NT H p) : Rl K cl as h (upd H p o) where
  len := x.len
  nd := x.nd
  ob := fun i ob a e1 e2 => (x.ob i ob a e1 e2).mono (Le.refl _) (TK.upd ht) (upd_ne fun z => hp (z ▸ List.mem_of_getElem? e2))
/-- a thing at p, known and as it is wanted, becomes the next object -/
theorem Rl.take (x : Rl K cl as h H) {p : Addr} {o : O} (hp : p ∉ as) (ho : OR K cl (as ++ [p]) H p o) : Rl K cl (as ++ [p]) (h ++ [o]) H where
  len := by simp [x.len]
  nd := by
    rw [List.nodup_append]
    refine ⟨x.nd, by simp, fun a ha b hb => ?_⟩
    simp at hb
    subst hb
    exact fun e => hp (e ▸ ha)
  ob := fun i ob a e1 e2 => by
    by_cases hi : i < h.length
    · rw [List.getElem?_append_left hi] at e1
      rw [List.getElem?_append_left (by rw [x.len]; exact hi)] at e2
      exact (x.ob i ob a e1 e2).mono (Le.app _ _) (TK.refl _ _) rfl
    · have hi2 : i = h.length := by
        have := (List.getElem?_eq_some_iff.mp e1).1
        simp at this
        omega
      subst hi2
      rw [← x.len] at e2
      simp at e1 e2
      subst e1 e2
      exact ho
/-- an object changes -/
theorem Rl.set (x : Rl K cl as h H) {i : Nat} {a : Addr} {u : HO} {o : O} (ha : as[i]? = some a) (ho : OR K cl as (upd H a u) a o) : Rl K cl as (h.set i o) (upd H a u) ∧ TK K H (upd H a u) := by
  obtain ⟨o0, e0, r0⟩ := x.tracked ha
  have tk : TK K H (upd H a u) := TK.upd r0.noTup
  refine ⟨⟨by simp [x.len], x.nd, fun j ob b e1 e2 => ?_⟩, tk⟩
  by_cases hij : i = j
  · subst hij
    rw [List.getElem?_set_self (List.getElem?_eq_some_iff.mp e0).1] at e1
    cases e1
    rw [ha] at e2
    cases e2
    exact ho
  · rw [List.getElem?_set_ne hij] at e1
    refine (x.ob j ob b e1 e2).mono (Le.refl _) tk (upd_ne fun z => ?_)
    subst z
    obtain ⟨l1, q1⟩ := List.getElem?_eq_some_iff.mp ha
    obtain ⟨l2, q2⟩ := List.getElem?_eq_some_iff.mp e2
    exact hij ((List.getElem_inj x.nd).mp (q1.trans q2.symm))
end

/-! ### outcomes -/
/-- a step: old places stay, what isn't an object of the small heap stays as it is -/
structure Step (as : List Addr) (H : Hp) (bs : List Addr) (H1 : Hp) : Prop where
  le : Le as bs
  keep : ∀ (b : Addr) (u : HO), H b = some u → b ∉ as → H1 b = some u ∧ b ∉ bs
section
variable {K : PySem.W.Frag} {cl : Nat → Option Addr} {as bs cs : List Addr} {h : Hh} {H H1 H2 : Hp}
theorem Step.refl (as : List Addr) (H : Hp) : Step as H as H := ⟨Le.refl _, fun _ _ e n => ⟨e, n⟩⟩
theorem Step.trans (x : Step as H bs H1) (y : Step bs H1 cs H2) : Step as H cs H2 :=
  ⟨x.le.trans y.le, fun b u e n => let ⟨e1, n1⟩ := x.keep b u e n; y.keep b u e1 n1⟩
theorem Rl.noTupIn (x : Rl K cl as h H) {b : Addr} {ob : Obj} {u : HO} (e : H b = some (.frz ob u)) : b ∉ as := fun hm => by
  obtain ⟨i, hi, q⟩ := List.getElem_of_mem hm
  obtain ⟨o, _, r⟩ := x.tracked (i := i) (a := b) (by rw [List.getElem?_eq_getElem hi, q])
  exact r.noTup ob u e
theorem Step.tk (y : Step as H bs H1) (x : Rl K cl as h H) : TK K H H1 := fun b xs => by
  refine ⟨fun e => ?_, fun e => ?_⟩
  · rcases e with ⟨ob, hd, e⟩ | e
    · exact .inl ⟨ob, hd, (y.keep b _ e (x.noTupIn e)).1⟩
    · exact .inr e
  · rcases e with ⟨ob, e⟩ | e
    · exact .inl ⟨ob, (y.keep b _ e (x.noTupIn e)).1⟩
    · exact .inr e
/-- something new beside the objects -/
theorem Step.new {p : Addr} {o : HO} (hp : H p = none) : Step as H as (upd H p o) :=
  ⟨Le.refl _, fun b u e n => ⟨by rw [upd_ne (ne_of_none e hp)]; exact e, n⟩⟩
/-- it becomes an object -/
theorem Step.newIn {p : Addr} {o : HO} (hp : H p = none) : Step as H (as ++ [p]) (upd H p o) :=
  ⟨Le.app _ _, fun b u e n => ⟨by rw [upd_ne (ne_of_none e hp)]; exact e, by
    simp only [List.mem_append, List.mem_singleton, not_or]
    exact ⟨n, ne_of_none e hp⟩⟩⟩
/-- an object changes -/
theorem Step.set {i : Nat} {a : Addr} {u : HO} (ha : as[i]? = some a) : Step as H as (upd H a u) :=
  ⟨Le.refl _, fun b v e n => ⟨by
    have hb : b ≠ a := fun z => n (by rw [z]; exact List.mem_of_getElem? ha)
    rw [upd_ne hb]
    exact e, n⟩⟩
end
/-- what is wanted of an exception that leaves: class, fields, places, small heap, slots, heap -/
abbrev XWT := Nat → List D → List Addr → Hh → L2.St → Hp → Prop
def Out {A : Type} (K : PySem.W.Frag) (cl : Nat → Option Addr) (XW : XWT) (s : L2.St) (as : List Addr) (H : Hp) (r : R A) (Q : A → List Addr → Hh → Hp → Prop) : Prop :=
  match r with
  | .ok a h => ∀ as' H', Step as H as' H' → Rl K cl as' h H' → Q a as' h H'
  | .exc c fs h => ∀ as' H', Step as H as' H' → Rl K cl as' h H' → XW c fs as' h s H'
  | .bad => False
section
variable {A B : Type} {K : PySem.W.Frag} {cl : Nat → Option Addr} {XW : XWT} {s : L2.St} {as : List Addr} {H : Hp}
theorem Out.mono {r : R A} {Q Q' : A → List Addr → Hh → Hp → Prop} (o : Out K cl XW s as H r Q) (f : ∀ a as' h H', Step as H as' H' → Rl K cl as' h H' → Q a as' h H' → Q' a as' h H') : Out K cl XW s as H r Q' := by
  cases r with
  | ok a h => exact fun as' H' l x => f a as' h H' l x (o as' H' l x)
  | exc c fs h => exact o
  | bad => exact o
theorem Out.after {as0 : List Addr} {H0 : Hp} {r : R A} {Q : A → List Addr → Hh → Hp → Prop} (o : Out K cl XW s as0 H0 r Q) (y : Step as0 H0 as H) : Out K cl XW s as H r Q := by
  cases r with
  | ok a h => exact fun as' H' l x => o as' H' (y.trans l) x
  | exc c fs h => exact fun as' H' l x => o as' H' (y.trans l) x
  | bad => exact o
theorem Out.bind {r : R A} {g : A → Hh → R B} {Q : B → List Addr → Hh → Hp → Prop} (o : Out K cl XW s as H (r.bind g) Q) : Out K cl XW s as H r fun a as1 h1 H1 => Out K cl XW s as1 H1 (g a h1) Q := by
  cases r with
  | ok a h =>
    intro as1 H1 l1 x1
    have o : Out K cl XW s as H (g a h) Q := o
    exact o.after l1
  | exc c fs h => exact o
  | bad => exact o
theorem Out.here {a : A} {h : Hh} {Q : A → List Addr → Hh → Hp → Prop} (o : Out K cl XW s as H (.ok a h) Q) (x : Rl K cl as h H) : Q a as h H := o as H (Step.refl _ _) x
theorem Out.ok {a : A} {h : Hh} {Q : A → List Addr → Hh → Hp → Prop} (o : Out K cl XW s as H (.ok a h) Q) {as' : List Addr} {H' : Hp} (y : Step as H as' H') (x : Rl K cl as' h H') : Q a as' h H' := o as' H' y x
end

/-- an outcome without exceptions -/
def lift {A : Type} (o : Option (A × Hh)) : R A :=
  match o with
  | some (a, h) => .ok a h
  | none => .bad
def Got {A : Type} (K : PySem.W.Frag) (cl : Nat → Option Addr) (as : List Addr) (H : Hp) (o : Option (A × Hh)) (Q : A → List Addr → Hh → Hp → Prop) : Prop :=
  match o with
  | some (a, h) => ∀ as' H', Step as H as' H' → Rl K cl as' h H' → Q a as' h H'
  | none => False
theorem Out.got {A : Type} {K : PySem.W.Frag} {cl : Nat → Option Addr} {XW : XWT} {s : L2.St} {as : List Addr} {H : Hp} {o : Option (A × Hh)} {Q : A → List Addr → Hh → Hp → Prop} (x : Out K cl XW s as H (lift o) Q) : Got K cl as H o Q := by
  cases o with
  | none => exact x
  | some p => exact x

/-! ### the slots -/
abbrev Nv := List (Option D)
structure EnvR (K : PySem.W.Frag) (as : List Addr) (H : Hp) (env : Nv) (s : L2.St) : Prop where
  len : env.length = s.length
  val : ∀ (i : Nat) (d : D), env[i]? = some (some d) → ∃ v, s[i]? = some (some v) ∧ Rp K as H d v
theorem EnvR.mono {K : PySem.W.Frag} {as bs : List Addr} {H H1 : Hp} {env : Nv} {s : L2.St} (x : EnvR K as H env s) (hl : Le as bs) (ht : TK K H H1) : EnvR K bs H1 env s :=
  ⟨x.len, fun i d e => let ⟨v, e1, r⟩ := x.val i d e; ⟨v, e1, r.mono hl ht⟩⟩
theorem EnvR.set {K : PySem.W.Frag} {as : List Addr} {H : Hp} {env : Nv} {s : L2.St} {d : D} {v : V} (x : EnvR K as H env s) (r : Rp K as H d v) (i : Nat) : EnvR K as H (env.set i (some d)) (s.set i (some v)) := by
  refine ⟨by simp [x.len], fun j e h => ?_⟩
  by_cases hij : i = j
  · subst hij
    have hi : i < env.length := by
      have := (List.getElem?_eq_some_iff.mp h).1
      simpa using this
    rw [List.getElem?_set_self hi] at h
    cases h
    exact ⟨v, by rw [List.getElem?_set_self (by rw [← x.len]; exact hi)], r⟩
  · rw [List.getElem?_set_ne hij] at h
    rw [List.getElem?_set_ne hij]
    exact x.val j e h
theorem EnvR.unset {K : PySem.W.Frag} {as : List Addr} {H : Hp} {env : Nv} {s : L2.St} (x : EnvR K as H env s) (i : Nat) : EnvR K as H (env.set i none) (s.set i none) := by
  refine ⟨by simp [x.len], fun j e h => ?_⟩
  by_cases hij : i = j
  · subst hij
    have hi : i < env.length := by
      have := (List.getElem?_eq_some_iff.mp h).1
      simpa using this
    rw [List.getElem?_set_self hi] at h
    cases h
  · rw [List.getElem?_set_ne hij] at h
    rw [List.getElem?_set_ne hij]
    exact x.val j e h
end Ev

namespace Ev
open PySem PySem.Spec PyProof.Rows L2

/-! ### readings -/
abbrev FE := Nv → Hh → R D
abbrev FA := Nv → Hh → R (List D)
/-- a value is wanted -/
def QD (K : PySem.W.Frag) (Q : VK) : D → List Addr → Hh → Hp → Prop := fun d as _ H => ∀ v, Rp K as H d v → Q v H
def tF (K : PySem.W.Frag) (cl : Nat → Option Addr) (XW : XWT) (f : FE) : TE := fun s H Q => ∃ as env h, Rl K cl as h H ∧ EnvR K as H env s ∧ Out K cl XW s as H (f env h) (QD K Q)
def tFA (K : PySem.W.Frag) (cl : Nat → Option Addr) (XW : XWT) (f : FA) : TA := fun s H Q => ∃ as env h, Rl K cl as h H ∧ EnvR K as H env s ∧
  Out K cl XW s as H (f env h) fun ds as' _ H' => ∀ vs, RpL K as' H' ds vs → Q vs H'
def asB (d : D) (h : Hh) : R Bool :=
  match d with
  | .bl b => .ok b h
  | _ => .bad
/-- a test: a truth is wanted -/
def tFT (K : PySem.W.Frag) (cl : Nat → Option Addr) (XW : XWT) (f : FE) : TT := fun s H Q => ∃ as env h, Rl K cl as h H ∧ EnvR K as H env s ∧
  Out K cl XW s as H ((f env h).bind asB) fun b _ _ H' => Q b H'

section
variable {X : Cx} {cl : Nat → Option Addr} {XW : XWT} {a b c : Expr} {fa fb fc : FE} {pos : Pos}
theorem Out.asb {K : PySem.W.Frag} {s : L2.St} {as : List Addr} {H : Hp} {d : D} {h : Hh} {Q : Bool → List Addr → Hh → Hp → Prop} (o : Out K cl XW s as H (asB d h) Q) (x : Rl K cl as h H) : ∃ b, d = .bl b ∧ Q b as h H := by
  cases d with
  | bl b => exact ⟨b, rfl, Out.here (a := b) o x⟩
  | _ => exact False.elim o
theorem Rp.bl_inv {K : PySem.W.Frag} {as : List Addr} {H : Hp} {b : Bool} {v : V} (r : Rp K as H (.bl b) v) : v = .bl b := by
  cases r
  rfl
theorem Rp.int_inv {K : PySem.W.Frag} {as : List Addr} {H : Hp} {b : Int} {v : V} (r : Rp K as H (.int b) v) : v = .int b := by
  cases r
  rfl
theorem Rp.str_inv {K : PySem.W.Frag} {as : List Addr} {H : Hp} {b : Str} {v : V} (r : Rp K as H (.str b) v) : v = .str b := by
  cases r
  rfl
theorem Rp.non_inv {K : PySem.W.Frag} {as : List Addr} {H : Hp} {v : V} (r : Rp K as H .non v) : v = .non := by
  cases r
  rfl
theorem Rp.loc_inv {K : PySem.W.Frag} {as : List Addr} {H : Hp} {n : Nat} {v : V} (r : Rp K as H (.loc n) v) : ∃ a, v = .ref a ∧ as[n]? = some a := by
  cases r with
  | loc e => exact ⟨_, rfl, e⟩
theorem Rp.tup_inv {K : PySem.W.Frag} {as : List Addr} {H : Hp} {ds : List D} {v : V} (r : Rp K as H (.tup ds) v) : ∃ a xs, v = .ref a ∧ SqP K H a xs ∧ RpL K as H ds xs := by
  cases r with
  | tup e q => exact ⟨_, _, rfl, e, q⟩

theorem Rp.scr_inv {K : PySem.W.Frag} {as : List Addr} {H : Hp} {ns : List Int} {v : V} (r : Rp K as H (.scr ns) v) : ∃ a, v = .ref a ∧ SqF K H a (ns.map V.int) := by
  cases r with
  | scr e => exact ⟨_, rfl, e⟩
theorem rp_ints {K : PySem.W.Frag} {as : List Addr} {H : Hp} : ∀ ns : List Int, RpL K as H (ns.map D.int) (ns.map V.int)
  | [] => .nil
  | n :: ns => .cons (.int n) (rp_ints ns)

/-- one value, then the rest of the reading -/
theorem tF.step {K : PySem.W.Frag} {s : L2.St} {H : Hp} {as : List Addr} {env : Nv} {h : Hh} {f : FE} {A : Type} {g : D → Hh → R A} {Qa : A → List Addr → Hh → Hp → Prop} {Q' : VK}
    (x : Rl K cl as h H) (e : EnvR K as H env s) (o : Out K cl XW s as H ((f env h).bind g) Qa)
    (k : ∀ d v as1 h1 H1, Step as H as1 H1 → Rl K cl as1 h1 H1 → EnvR K as1 H1 env s → Rp K as1 H1 d v → Out K cl XW s as1 H1 (g d h1) Qa → Q' v H1) : tF K cl XW f s H Q' :=
  ⟨as, env, h, x, e, o.bind.mono fun d as1 h1 H1 y x1 q v r => k d v as1 h1 H1 y x1 (e.mono y.le (y.tk x)) r q⟩

/-! ### leaves -/
def fVar (i : Nat) : FE := fun env h => match env[i]? with
  | some (some d) => .ok d h
  | _ => .bad
theorem se_var {i : Nat} {x : Str} (hN : X.N[i]? = some x) (hv : Vis X.env.scope x) (hd : (x == ("__debug__" : Str)) = false) (hcd : (x == ("__classdict__" : Str)) = false) : PE X (.Name x pos) (tF X.K cl XW (fVar i)) := by
  refine ⟨fun pins s σ H Q I h => (pe_var hN hv hd hcd).run pins s σ H Q I ?_⟩
  obtain ⟨as, env, hh, x, e, o⟩ := h
  unfold fVar at o
  split at o
  · rename_i d hd
    obtain ⟨v, e1, r⟩ := e.val i d hd
    exact ⟨v, e1, Out.here o x v r⟩
  · exact False.elim o
def fC (d : D) : FE := fun _ h => .ok d h
theorem se_c {e : Expr} {v : V} {d : D} (he : PE X e (tC v)) (hv : ∀ as H, Rp X.K as H d v) : PE X e (tF X.K cl XW (fC d)) :=
  ⟨fun pins s σ H Q I h => he.run pins s σ H Q I (by
    obtain ⟨as, env, hh, x, e, o⟩ := h
    exact Out.here (a := d) o x v (hv as H))⟩

/-! ### operators -/
/-- a two-place operation of values -/
def rG2 (K : PySem.W.Frag) (cl : Nat → Option Addr) (f : D → D → Hh → Option (D × Hh)) : R2 := fun vx vy H Q => ∃ as h x y, Rl K cl as h H ∧ Rp K as H x vx ∧ Rp K as H y vy ∧ Got K cl as H (f x y h) (QD K Q)
def f2 (f : D → D → Hh → Option (D × Hh)) (fa fb : FE) : FE := fun env h => (fa env h).bind fun x h1 => (fb env h1).bind fun y h2 => lift (f x y h2)
theorem t2_of {K : PySem.W.Frag} {f : D → D → Hh → Option (D × Hh)} {s : L2.St} {H : Hp} {Q : VK} (h : tF K cl XW (f2 f fa fb) s H Q) : tOp (rG2 K cl f) (tF K cl XW fa) (tF K cl XW fb) s H Q := by
  obtain ⟨as, env, hh, x, e, o⟩ := h
  refine tF.step x e o fun d v as1 h1 H1 y1 x1 e1 r1 o1 => ?_
  refine tF.step x1 e1 o1 fun d2 v2 as2 h2 H2 y2 x2 e2 r2 o2 => ?_
  exact ⟨as2, h2, d, d2, x2, r1.mono y2.le (y2.tk x1), r2, o2.got⟩
theorem se_op {op : Operator} {f : D → D → Hh → Option (D × Hh)} (ho : OpR X (binaryOp op) (rG2 X.K cl f)) (ha : PE X a (tF X.K cl XW fa)) (hb : PE X b (tF X.K cl XW fb)) : PE X (.BinOp a op b pos) (tF X.K cl XW (f2 f fa fb)) :=
  ⟨fun pins s σ H Q I h => (pe_op ho ha hb).run pins s σ H Q I (t2_of h)⟩
theorem se_cmp {op : CmpOp} {f : D → D → Hh → Option (D × Hh)} (ho : OpR X (compareOp op) (rG2 X.K cl f)) (ha : PE X a (tF X.K cl XW fa)) (hb : PE X b (tF X.K cl XW fb)) (hm : behindInMarks op b = false) :
    PE X (.Compare a [op] [b] pos) (tF X.K cl XW (f2 f fa fb)) :=
  ⟨fun pins s σ H Q I h => (pe_cmpR ho ha hb hm).run pins s σ H Q I (t2_of h)⟩
theorem tt_of {K : PySem.W.Frag} {f : FE} {s : L2.St} {H : Hp} {Q : Bool → Hp → Prop} (h : tFT K cl XW f s H Q) : tF K cl XW f s H (fun v H' => ∃ k, v = .bl k ∧ Q k H') := by
  obtain ⟨as, env, hh, x, e, o⟩ := h
  refine tF.step x e o fun d v as1 h1 H1 y1 x1 e1 r1 o1 => ?_
  obtain ⟨b, rfl, q⟩ := o1.asb x1
  exact ⟨b, r1.bl_inv, q⟩
theorem st_cmp {op : CmpOp} {f : D → D → Hh → Option (D × Hh)} (ho : OpR X (compareOp op) (rG2 X.K cl f)) (ha : PE X a (tF X.K cl XW fa)) (hb : PE X b (tF X.K cl XW fb)) (hm : behindInMarks op b = false) :
    PT X (.Compare a [op] [b] pos) (tFT X.K cl XW (f2 f fa fb)) :=
  ⟨fun pins s σ H Q I h => (pt_cmpR ho ha hb hm).run pins s σ H Q I (t2_of (tt_of h))⟩
/-- a leaf as a test -/
theorem st_val {e : Expr} {f : FE} (h : PE X e (tF X.K cl XW f)) (he : ∀ whole, isTrue e X.env whole = (do let v ← whole; standAt e.pos; holding [v] (truthy v))) : PT X e (tFT X.K cl XW f) :=
  ⟨fun pins s σ H Q I hw => (pt_val h he).run pins s σ H Q I (tt_of hw)⟩
/-- chains -/
def fChain (f g : D → D → Hh → Option (D × Hh)) (fa fb fc : FE) : FE := fun env h => (fa env h).bind fun x h1 => (fb env h1).bind fun y h2 => (lift (f x y h2)).bind fun z h3 => (asB z h3).bind fun k h4 =>
  if k = true then (fc env h4).bind fun w h5 => lift (g y w h5) else .ok (.bl false) h4
theorem tChain_of {K : PySem.W.Frag} {f g : D → D → Hh → Option (D × Hh)} {s : L2.St} {H : Hp} {Q : VK} (h : tF K cl XW (fChain f g fa fb fc) s H Q) : tChain (rG2 K cl f) (rG2 K cl g) (tF K cl XW fa) (tF K cl XW fb) (tF K cl XW fc) s H Q := by
  obtain ⟨as, env, hh, x, e, o⟩ := h
  refine tF.step x e o fun d v as1 h1 H1 y1 x1 e1 r1 o1 => ?_
  refine tF.step x1 e1 o1 fun d2 v2 as2 h2 H2 y2 x2 e2 r2 o2 => ?_
  refine ⟨as2, h2, d, d2, x2, r1.mono y2.le (y2.tk x1), r2, ?_⟩
  have o3 := o2.bind.got
  revert o3
  cases f d d2 h2 with
  | none => exact fun z => z
  | some p =>
    intro o3 as3 H3 y3 x3 v3 r3
    have o4 := (o3 as3 H3 y3 x3).bind
    have e3 := e2.mono y3.le (y3.tk x2)
    cases hp : p.1 with
    | bl k =>
      rw [hp] at o4 r3
      have o5 : Out K cl XW s as3 H3 (if k = true then _ else _) _ := Out.here (a := k) (h := p.2) o4 x3
      refine ⟨k, r3.bl_inv, ?_⟩
      cases k with
      | false => exact Out.here (a := D.bl false) (h := p.2) o5 x3 _ (.bl false)
      | true =>
        rw [if_pos rfl] at o5 ⊢
        refine tF.step x3 e3 o5 fun d4 v4 as4 h4 H4 y4 x4 e4 r4 o6 => ?_
        exact ⟨as4, h4, d2, d4, x4, (r2.mono y3.le (y3.tk x2)).mono y4.le (y4.tk x3), r4, o6.got⟩
    | _ => rw [hp] at o4; exact False.elim o4
theorem se_chain {op op' : CmpOp} {f g : D → D → Hh → Option (D × Hh)} (ho : OpR X (compareOp op) (rG2 X.K cl f)) (ho' : OpR X (compareOp op') (rG2 X.K cl g)) (ha : PE X a (tF X.K cl XW fa)) (hb : PE X b (tF X.K cl XW fb)) (hc : PE X c (tF X.K cl XW fc))
    (hm : lastMarks [op, op'] [b, c] = false) : PE X (.Compare a [op, op'] [b, c] pos) (tF X.K cl XW (fChain f g fa fb fc)) :=
  ⟨fun pins s σ H Q I h => (pe_chain ho ho' ha hb hc hm).run pins s σ H Q I (tChain_of h)⟩
theorem st_chain {op op' : CmpOp} {f g : D → D → Hh → Option (D × Hh)} (ho : OpR X (compareOp op) (rG2 X.K cl f)) (ho' : OpR X (compareOp op') (rG2 X.K cl g)) (ha : PE X a (tF X.K cl XW fa)) (hb : PE X b (tF X.K cl XW fb)) (hc : PE X c (tF X.K cl XW fc))
    (hm : lastMarks [op, op'] [b, c] = false) : PT X (.Compare a [op, op'] [b, c] pos) (tFT X.K cl XW (fChain f g fa fb fc)) :=
  ⟨fun pins s σ H Q I h => (pt_chain ho ho' ha hb hc hm).run pins s σ H Q I (tChain_of (tt_of h))⟩
/-- one-place operations -/
def rG1 (K : PySem.W.Frag) (cl : Nat → Option Addr) (f : D → Hh → Option (D × Hh)) : V → Hp → VK → Prop := fun vx H Q => ∃ as h x, Rl K cl as h H ∧ Rp K as H x vx ∧ Got K cl as H (f x h) (QD K Q)
def f1 (f : D → Hh → Option (D × Hh)) (fa : FE) : FE := fun env h => (fa env h).bind fun x h1 => lift (f x h1)
theorem se_un {op : UnaryOp} {f : D → Hh → Option (D × Hh)} (ho : UnR X (unaryOp op) (rG1 X.K cl f)) (ha : PE X a (tF X.K cl XW fa)) : PE X (.UnaryOp op a pos) (tF X.K cl XW (f1 f fa)) := by
  refine ⟨fun pins s σ H Q I h => (pe_un ho ha).run pins s σ H Q I ?_⟩
  obtain ⟨as, env, hh, x, e, o⟩ := h
  exact tF.step x e o fun d v as1 h1 H1 y1 x1 e1 r1 o1 => ⟨as1, h1, d, x1, r1, o1.got⟩
def fNot (fa : FE) : FE := fun env h => (fa env h).bind fun x h1 => (asB x h1).bind fun k h2 => .ok (.bl (!k)) h2
theorem se_not (ha : PE X a (tF X.K cl XW fa)) : PE X (.UnaryOp .Not a pos) (tF X.K cl XW (fNot fa)) := by
  refine ⟨fun pins s σ H Q I h => (pe_not ha).run pins s σ H Q I ?_⟩
  obtain ⟨as, env, hh, x, e, o⟩ := h
  refine tF.step x e o fun d v as1 h1 H1 y1 x1 e1 r1 o1 => ?_
  obtain ⟨k, rfl, q⟩ := o1.bind.asb x1
  exact ⟨k, r1.bl_inv, Out.here q x1 _ (.bl _)⟩
theorem st_not (ha : PT X a (tFT X.K cl XW fa)) : PT X (.UnaryOp .Not a pos) (tFT X.K cl XW (fNot fa)) := by
  refine ⟨fun pins s σ H Q I h => (pt_not ha).run pins s σ H Q I ?_⟩
  obtain ⟨as, env, hh, x, e, o⟩ := h
  refine ⟨as, env, hh, x, e, ?_⟩
  unfold fNot at o
  revert o
  cases fa env hh with
  | bad => exact fun z => z
  | exc c fs h1 => exact fun z => z
  | ok d h1 =>
    cases d with
    | bl k => exact fun o as' H' y x' => o as' H' y x'
    | _ => exact fun z => z
/-- and, or -/
def fAnd (fa fb : FE) : FE := fun env h => (fa env h).bind fun x h1 => (asB x h1).bind fun k h2 => if k = true then fb env h2 else .ok (.bl false) h2
def fOr (fa fb : FE) : FE := fun env h => (fa env h).bind fun x h1 => (asB x h1).bind fun k h2 => if k = true then .ok (.bl true) h2 else fb env h2
variable {rest : List Expr}
theorem se_one {op} (h : PE X a (tF X.K cl XW fa)) : PE X (.BoolOp op [a] pos) (tF X.K cl XW fa) := pe_one h
theorem se_and (ha : PE X a (tF X.K cl XW fa)) (hb : PE X (.BoolOp .And (b :: rest) pos) (tF X.K cl XW fb)) : PE X (.BoolOp .And (a :: b :: rest) pos) (tF X.K cl XW (fAnd fa fb)) := by
  refine ⟨fun pins s σ H Q I h => (pe_and ha hb).run pins s σ H Q I ?_⟩
  obtain ⟨as, env, hh, x, e, o⟩ := h
  refine tF.step x e o fun d v as1 h1 H1 y1 x1 e1 r1 o1 => ?_
  obtain ⟨k, rfl, q⟩ := o1.bind.asb x1
  refine ⟨k, r1.bl_inv, ?_⟩
  cases k with
  | true => exact ⟨as1, env, h1, x1, e1, q⟩
  | false => exact Out.here (a := D.bl false) q x1 _ (.bl _)
theorem se_or (ha : PE X a (tF X.K cl XW fa)) (hb : PE X (.BoolOp .Or (b :: rest) pos) (tF X.K cl XW fb)) : PE X (.BoolOp .Or (a :: b :: rest) pos) (tF X.K cl XW (fOr fa fb)) := by
  refine ⟨fun pins s σ H Q I h => (pe_or ha hb).run pins s σ H Q I ?_⟩
  obtain ⟨as, env, hh, x, e, o⟩ := h
  refine tF.step x e o fun d v as1 h1 H1 y1 x1 e1 r1 o1 => ?_
  obtain ⟨k, rfl, q⟩ := o1.bind.asb x1
  refine ⟨k, r1.bl_inv, ?_⟩
  cases k with
  | false => exact ⟨as1, env, h1, x1, e1, q⟩
  | true => exact Out.here (a := D.bl true) q x1 _ (.bl _)
/-- a test, then what its truth asks -/
theorem tFT.step {K : PySem.W.Frag} {s : L2.St} {H : Hp} {as : List Addr} {env : Nv} {h : Hh} {f : FE} {A : Type} {g : Bool → Hh → R A} {Qa : A → List Addr → Hh → Hp → Prop} {Q' : Bool → Hp → Prop}
    (x : Rl K cl as h H) (e : EnvR K as H env s) (o : Out K cl XW s as H ((f env h).bind fun d h1 => (asB d h1).bind g) Qa)
    (k : ∀ b as1 h1 H1, Step as H as1 H1 → Rl K cl as1 h1 H1 → EnvR K as1 H1 env s → Out K cl XW s as1 H1 (g b h1) Qa → Q' b H1) : tFT K cl XW f s H Q' := by
  refine ⟨as, env, h, x, e, ?_⟩
  revert o
  cases f env h with
  | bad => exact fun z => z
  | exc c fs h1 => exact fun z => z
  | ok d h1 =>
    cases d with
    | bl b => exact fun o as1 H1 y x1 => k b as1 h1 H1 y x1 (e.mono y.le (y.tk x)) (o.after y)
    | _ => exact fun z => z
theorem sw_one {op : BoolOp} (ha : PT X a (tFT X.K cl XW fa)) : PW X (.BoolOp op [a] pos) (tFT X.K cl XW fa) := by
  cases op with
  | And => exact pw_and1 ha
  | Or => exact pw_or1 ha
theorem sw_and (ha : PT X a (tFT X.K cl XW fa)) (hb : PW X (.BoolOp .And (b :: rest) pos) (tFT X.K cl XW fb)) : PW X (.BoolOp .And (a :: b :: rest) pos) (tFT X.K cl XW (fAnd fa fb)) := by
  refine ⟨fun wh pins s σ H Q I h => (pw_and ha hb).run wh pins s σ H Q I ?_⟩
  obtain ⟨as, env, hh, x, e, o⟩ := h
  have o' : Out X.K cl XW σ as H ((fa env hh).bind fun d h1 => (asB d h1).bind fun k h2 => ((if k = true then fb env h2 else .ok (.bl false) h2).bind asB)) (fun b _ _ H' => Q b H') := by
    unfold fAnd at o
    revert o
    cases fa env hh with
    | bad => exact fun z => z
    | exc c fs h1 => exact fun z => z
    | ok d h1 =>
      cases d with
      | bl k => exact fun z => z
      | _ => exact fun z => z
  refine tFT.step x e o' fun k as1 h1 H1 y1 x1 e1 q => ?_
  cases k with
  | true => exact ⟨as1, env, h1, x1, e1, q⟩
  | false => exact Out.here (a := false) (h := h1) q x1
theorem sw_or (ha : PT X a (tFT X.K cl XW fa)) (hb : PW X (.BoolOp .Or (b :: rest) pos) (tFT X.K cl XW fb)) : PW X (.BoolOp .Or (a :: b :: rest) pos) (tFT X.K cl XW (fOr fa fb)) := by
  refine ⟨fun wh pins s σ H Q I h => (pw_or ha hb).run wh pins s σ H Q I ?_⟩
  obtain ⟨as, env, hh, x, e, o⟩ := h
  have o' : Out X.K cl XW σ as H ((fa env hh).bind fun d h1 => (asB d h1).bind fun k h2 => ((if k = true then .ok (.bl true) h2 else fb env h2).bind asB)) (fun b _ _ H' => Q b H') := by
    unfold fOr at o
    revert o
    cases fa env hh with
    | bad => exact fun z => z
    | exc c fs h1 => exact fun z => z
    | ok d h1 =>
      cases d with
      | bl k => exact fun z => z
      | _ => exact fun z => z
  refine tFT.step x e o' fun k as1 h1 H1 y1 x1 e1 q => ?_
  cases k with
  | false => exact ⟨as1, env, h1, x1, e1, q⟩
  | true => exact Out.here (a := true) (h := h1) q x1
def fIf (fc fa fb : FE) : FE := fun env h => (fc env h).bind fun x h1 => (asB x h1).bind fun k h2 => if k = true then fa env h2 else fb env h2
theorem se_if (hc : PT X c (tFT X.K cl XW fc)) (ha : PE X a (tF X.K cl XW fa)) (hb : PE X b (tF X.K cl XW fb)) : PE X (.IfExp c a b pos) (tF X.K cl XW (fIf fc fa fb)) := by
  refine ⟨fun pins s σ H Q I h => (pe_ifExp hc ha hb).run pins s σ H Q I ?_⟩
  obtain ⟨as, env, hh, x, e, o⟩ := h
  refine tFT.step x e o fun k as1 h1 H1 y1 x1 e1 q => ?_
  cases k with
  | true => exact ⟨as1, env, h1, x1, e1, q⟩
  | false => exact ⟨as1, env, h1, x1, e1, q⟩

/-! ### argument lists, displays -/
variable {e : Expr} {es : List Expr} {fs : FA}
def aNil : FA := fun _ h => .ok [] h
def aCons (fa : FE) (fs : FA) : FA := fun env h => (fa env h).bind fun x h1 => (fs env h1).bind fun xs h2 => .ok (x :: xs) h2
theorem sa_nil : PA X [] (tFA X.K cl XW aNil) := by
  refine ⟨fun pos pins s σ H Q I h => (pa_nil).run pos pins s σ H Q I ?_⟩
  obtain ⟨as, env, hh, x, e, o⟩ := h
  exact Out.here (a := []) o x [] .nil
theorem tFA.step {K : PySem.W.Frag} {s : L2.St} {H : Hp} {as : List Addr} {env : Nv} {h : Hh} {f : FA} {A : Type} {g : List D → Hh → R A} {Qa : A → List Addr → Hh → Hp → Prop} {Q' : List V → Hp → Prop}
    (x : Rl K cl as h H) (e : EnvR K as H env s) (o : Out K cl XW s as H ((f env h).bind g) Qa)
    (k : ∀ ds vs as1 h1 H1, Step as H as1 H1 → Rl K cl as1 h1 H1 → EnvR K as1 H1 env s → RpL K as1 H1 ds vs → Out K cl XW s as1 H1 (g ds h1) Qa → Q' vs H1) : tFA K cl XW f s H Q' :=
  ⟨as, env, h, x, e, o.bind.mono fun ds as1 h1 H1 y x1 q vs r => k ds vs as1 h1 H1 y x1 (e.mono y.le (y.tk x)) r q⟩
theorem sa_cons (ha : PE X e (tF X.K cl XW fa)) (hr : PA X es (tFA X.K cl XW fs)) (hs : starEach (e :: es) X.env = (false, eval e X.env) :: starEach es X.env) : PA X (e :: es) (tFA X.K cl XW (aCons fa fs)) := by
  refine ⟨fun pos pins s σ H Q I h => (pa_cons ha hr hs).run pos pins s σ H Q I ?_⟩
  obtain ⟨as, env, hh, x, e, o⟩ := h
  refine tF.step x e o fun d v as1 h1 H1 y1 x1 e1 r1 o1 => ?_
  refine tFA.step x1 e1 o1 fun ds vs as2 h2 H2 y2 x2 e2 r2 o2 => ?_
  exact Out.here (a := d :: ds) o2 x2 (v :: vs) (.cons (r1.mono y2.le (y2.tk x1)) r2)
def fTup (fs : FA) : FE := fun env h => (fs env h).bind fun xs h1 => if xs.length ≤ sizeLine then .ok (.tup xs) h1 else .bad
def fLst (fs : FA) : FE := fun env h => (fs env h).bind fun xs h1 => if xs.length ≤ sizeLine then .ok (.loc h1.length) (h1 ++ [.lst xs]) else .bad
/-- the object that a new tuple is -/
def tupO (us : List Value) : Obj := { cls := .type "tuple", data := .seq us.toArray }
theorem laid_tup {pins : List (Addr × Obj)} {s : Shared} {σ : L2.St} {H : Hp} {us : List Value} {xs : List V} (I : L2.Inv X pins σ H s) (r : Vals xs us) (z : xs.length ≤ sizeLine) :
    L2.Inv X pins σ (upd H s.heap.objs.size (.frz (tupO us) (.tup xs))) { s with heap := s.heap.push (tupO us) } :=
  I.laid (t' := s.toks) (fun b u e => Heap.get?_push_of_some _ e) (Nat.le_refl _) ⟨Heap.get?_push_size _ rfl, z, us, r, ⟨_, Heap.get?_push_size _ rfl, rfl, _, rfl⟩⟩
/-- a new tuple of ours: its place -/
def NewT (Q : VK) (H : Hp) (xs : List V) : Prop := ∀ p, H p = none → ∀ ob : Obj, ob.dict = none → Q (.ref p) (upd H p (.frz ob (.tup xs)))
theorem new_tup {K : PySem.W.Frag} {as : List Addr} {h : Hh} {H : Hp} {ds : List D} {vs : List V} {Q : VK} (x : Rl K cl as h H) (r : RpL K as H ds vs)
    (o : ∀ as' H', Step as H as' H' → Rl K cl as' h H' → QD K Q (.tup ds) as' h H') : NewT Q H vs := fun p hp ob hd => by
  have tk : TK K H (upd H p (.frz ob (.tup vs))) := TK.upd (noTup_none hp)
  exact o as _ (Step.new hp) (x.beside (x.notIn hp) (noTup_none hp)) _ (.tup (.inl ⟨ob, hd, upd_same⟩) (r.mono (Le.refl _) tk))
theorem se_tup {x1} (h : PA X es (tFA X.K cl XW fs)) : PE X (.Tuple es x1 pos) (tF X.K cl XW (fTup fs)) := by
  refine ⟨fun pins s σ H Q I hq => ?_⟩
  have hr : tFA X.K cl XW fs σ H fun xs H1 => xs.length ≤ sizeLine ∧ NewT Q H1 xs := by
    obtain ⟨as, env, hh, x, e, o⟩ := hq
    refine tFA.step x e o fun ds vs as1 h1 H1 y1 x1 e1 r1 o1 => ?_
    by_cases hl : ds.length ≤ sizeLine
    · rw [if_pos hl] at o1
      exact ⟨by rw [← r1.length]; exact hl, new_tup x1 r1 o1⟩
    · rw [if_neg hl] at o1
      exact False.elim o1
  refine wpAny_Tuple_spliced (thn (h.run pos pins s σ H _ I hr) fun us s1 ⟨xs, H1, I1, r, z, q⟩ => ⟨by rw [← r.length]; exact z, ?_⟩)
  exact ⟨.ref s1.heap.objs.size, _, laid_tup I1 r z, rfl, q _ (I1.hok.fresh (Nat.le_refl _)) _ rfl⟩
/-- a new list comes to the small heap -/
theorem new_lst {K : PySem.W.Frag} {as : List Addr} {h : Hh} {H : Hp} {p : Addr} {ds : List D} {vs : List V} (x : Rl K cl as h H) (hp : H p = none) (r : RpL K as H ds vs) :
    Rl K cl (as ++ [p]) (h ++ [.lst ds]) (upd H p (.lst vs)) ∧ Step as H (as ++ [p]) (upd H p (.lst vs)) ∧ Rp K (as ++ [p]) (upd H p (.lst vs)) (.loc h.length) (.ref p) := by
  have tk : TK K H (upd H p (.lst vs)) := TK.upd (noTup_none hp)
  refine ⟨(x.beside (o := .lst vs) (x.notIn hp) (noTup_none hp)).take (x.notIn hp) ⟨vs, upd_same, r.mono (Le.app _ _) tk⟩, Step.newIn hp, .loc ?_⟩
  rw [← x.len]
  simp
theorem se_lst (h : PA X es (tFA X.K cl XW fs)) : PE X (.List es pos) (tF X.K cl XW (fLst fs)) := by
  refine ⟨fun pins s σ H Q I hq => (pe_lst h).run pins s σ H Q I ?_⟩
  obtain ⟨as, env, hh, x, e, o⟩ := hq
  refine tFA.step x e o fun ds vs as1 h1 H1 y1 x1 e1 r1 o1 => ?_
  by_cases hl : ds.length ≤ sizeLine
  · rw [if_pos hl] at o1
    refine ⟨by rw [← r1.length]; exact hl, fun p hp => ?_⟩
    obtain ⟨n1, n2, n3⟩ := new_lst x1 hp r1
    exact Out.ok o1 n2 n1 _ n3
  · rw [if_neg hl] at o1
    exact False.elim o1
end
end Ev

namespace Ev
open PySem PySem.Spec PyProof.Rows L2

section
variable {K : PySem.W.Frag} {cl : Nat → Option Addr} {as : List Addr} {h : Hh} {H : Hp}
theorem Got.here {A : Type} {a : A} {Q : A → List Addr → Hh → Hp → Prop} (o : Got K cl as H (some (a, h)) Q) (x : Rl K cl as h H) : Q a as h H := o as H (Step.refl _ _) x
theorem Got.ok {A : Type} {a : A} {h' : Hh} {Q : A → List Addr → Hh → Hp → Prop} (o : Got K cl as H (some (a, h')) Q) {as' : List Addr} {H' : Hp} (y : Step as H as' H') (x : Rl K cl as' h' H') : Q a as' h' H' := o as' H' y x
theorem Rl.lst (x : Rl K cl as h H) {n : Nat} {a : Addr} {xs : List D} (e : h[n]? = some (.lst xs)) (ha : as[n]? = some a) : ∃ vs, H a = some (.lst vs) ∧ RpL K as H xs vs := x.ob n _ a e ha
theorem Rl.dct (x : Rl K cl as h H) {n : Nat} {a : Addr} {xs : List (Key × D)} (e : h[n]? = some (.dct xs)) (ha : as[n]? = some a) : ∃ ys, H a = some (.dK ys) ∧ RpK K as H xs ys := x.ob n _ a e ha
/-- a list to be read: its items -/
def itemsOf (h : Hh) (n : Nat) : Option (List D) :=
  match h[n]? with
  | some (.lst xs) => some xs
  | _ => none
theorem Rl.items (x : Rl K cl as h H) {n : Nat} {a : Addr} {xs : List D} (e : itemsOf h n = some xs) (ha : as[n]? = some a) : ∃ vs, SqL K H a vs ∧ RpL K as H xs vs := by
  unfold itemsOf at e
  split at e
  · rename_i q
    cases e
    obtain ⟨vs, e1, r⟩ := x.lst q ha
    exact ⟨vs, SqL.of e1, r⟩
  · cases e
end

/-! ### arithmetic -/
def sBin (op : Operator) (x y : D) (h : Hh) : Option (D × Hh) :=
  match op, x, y with
  | .Add, .int i, .int j => some (.int (i + j), h)
  | .Sub, .int i, .int j => some (.int (i - j), h)
  | .Mult, .int i, .int j => if (-(2 ^ 64) < i ∧ i < 2 ^ 64) ∨ (-(2 ^ 64) < j ∧ j < 2 ^ 64) then some (.int (i * j), h) else none
  | .FloorDiv, .int i, .int j => if 0 < j ∧ j < 1073741824 then some (.int (i / j), h) else none
  | .Mod, .int i, .int j => if 0 < j then some (.int (i % j), h) else none
  | .Pow, .int i, .int j => if 0 ≤ j ∧ j ≤ 1000000 ∧ i.natAbs < 2 ^ 64 then some (.int (i ^ j.toNat), h) else none
  | .Add, .str a, .str b => if a.length + b.length ≤ sizeLine then some (.str (a ++ b), h) else none
  | .Add, .tup xs, .tup ys => if xs.length + ys.length ≤ sizeLine then some (.tup (xs ++ ys), h) else none
  | .Add, .loc m, .loc n => match h[m]?, h[n]? with
    | some (.lst xs), some (.lst ys) => if xs.length + ys.length ≤ sizeLine then some (.loc h.length, h ++ [.lst (xs ++ ys)]) else none
    | _, _ => none
  | .Mult, .loc m, .int k => match h[m]? with
    | some (.lst xs) => if -(2 ^ 63) ≤ k ∧ k < 2 ^ 63 ∧ xs.length * k.toNat ≤ sizeLine then some (.loc h.length, h ++ [.lst (List.replicate k.toNat xs).flatten]) else none
    | _ => none
  | .Mult, .str a, .int k => if 1 < k ∧ k ≤ 1000000 ∧ a.length ≤ 16 then some (.str (Txt.mul a k), h) else none
  | _, _, _ => none

section
variable {X : Cx} {cl : Nat → Option Addr}
theorem RpL.nil_of {K : PySem.W.Frag} {as : List Addr} {H : Hp} {ds : List D} {vs : List V} (r : RpL K as H ds vs) (e : vs = []) : ds = [] := by
  subst e
  cases r
  rfl
theorem RpL.rep {K : PySem.W.Frag} {as : List Addr} {H : Hp} {ds : List D} {vs : List V} (r : RpL K as H ds vs) : ∀ k : Nat, RpL K as H (List.replicate k ds).flatten (List.replicate k vs).flatten
  | 0 => .nil
  | k + 1 => by
    rw [List.replicate_succ, List.replicate_succ, List.flatten_cons, List.flatten_cons]
    exact r.app (RpL.rep r k)
theorem op_mulS : OpR X (binaryOp .Mult) (fun x y H Q => ∃ a k, x = .str a ∧ y = .int k ∧ 1 < k ∧ k ≤ 1000000 ∧ a.length ≤ 16 ∧ Q (.str (Txt.mul a k)) H) := by
  intro pins s σ H x y v u Q I rx ry q
  obtain ⟨a, k, rfl, rfl, h1, h2, h3, q⟩ := q
  obtain ⟨t, rfl⟩ := rx
  obtain ⟨t2, rfl⟩ := ry
  refine PySem.SB.mul ?_ fun t3 k3 => ⟨.str _, H, I.tok _, ⟨_, rfl⟩, q⟩
  refine ⟨?_, fun _ _ => ?_, fun _ _ => ?_⟩
  · simp
    omega
  · have e : (2 ^ 63 - 1 : Int) / k ≥ (2 ^ 63 - 1) / 1000000 := by
      apply Int.le_ediv_of_mul_le (by omega)
      have : ((2 ^ 63 - 1 : Int) / 1000000) * k ≤ ((2 ^ 63 - 1 : Int) / 1000000) * 1000000 := by
        apply Int.mul_le_mul_of_nonneg_left h2 (by decide)
      omega
    have e2 : ((2 ^ 63 - 1 : Int) / 1000000) = 9223372036854 := by decide
    omega
  · have h4 : a.length * k.toNat ≤ 16 * 1000000 := Nat.mul_le_mul h3 (by omega)
    have : sizeLine = 16777216 := sizeLine_eq
    unfold Builtin.Str.tooLong
    simp
    omega
theorem op_sBin (op : Operator) : OpR X (binaryOp op) (rG2 X.K cl (sBin op)) := by
  intro pins s σ H vx vy v u Q I rx ry q
  obtain ⟨as, h, x, y, l, r1, r2, g⟩ := q
  unfold sBin at g
  split at g
  · cases r1.int_inv; cases r2.int_inv
    exact op_add pins s σ H _ _ v u Q I rx ry ⟨_, _, rfl, rfl, g.here l _ (.int _)⟩
  · cases r1.int_inv; cases r2.int_inv
    exact op_sub pins s σ H _ _ v u Q I rx ry ⟨_, _, rfl, rfl, g.here l _ (.int _)⟩
  · cases r1.int_inv; cases r2.int_inv
    split at g
    · rename_i hc
      exact op_mul pins s σ H _ _ v u Q I rx ry ⟨_, _, rfl, rfl, hc, g.here l _ (.int _)⟩
    · exact False.elim g
  · cases r1.int_inv; cases r2.int_inv
    split at g
    · rename_i hc
      exact op_fdiv pins s σ H _ _ v u Q I rx ry ⟨_, _, rfl, rfl, hc, g.here l _ (.int _)⟩
    · exact False.elim g
  · cases r1.int_inv; cases r2.int_inv
    split at g
    · rename_i hc
      exact op_mod pins s σ H _ _ v u Q I rx ry ⟨_, _, rfl, rfl, hc, g.here l _ (.int _)⟩
    · exact False.elim g
  · cases r1.int_inv; cases r2.int_inv
    split at g
    · rename_i hc
      exact op_pow pins s σ H _ _ v u Q I rx ry ⟨_, _, rfl, rfl, hc, g.here l _ (.int _)⟩
    · exact False.elim g
  · cases r1.str_inv; cases r2.str_inv
    split at g
    · rename_i hc
      exact op_add_str pins s σ H _ _ v u Q I rx ry ⟨_, _, rfl, rfl, hc, g.here l _ (.str _)⟩
    · exact False.elim g
  · obtain ⟨a, xs, rfl, t1, q1⟩ := r1.tup_inv
    obtain ⟨b, ys, rfl, t2, q2⟩ := r2.tup_inv
    split at g
    · rename_i hc
      cases rx
      cases ry
      obtain ⟨its, v1, p1, _⟩ := I.tuple t1.sq
      obtain ⟨its2, v2, p2, _⟩ := I.tuple t2.sq
      by_cases hx : xs = []
      · subst hx
        cases v1
        rw [q1.nil_of rfl] at g
        exact cat_tup0 p1 p2 ⟨.ref b, H, I, rfl, g.here l _ (.tup t2 q2)⟩
      · refine HT.cat_tup p1 p2 (fun z => hx (v1.nil_iff.mp z)) (fun z => ?_) (fun z => ?_) (by rw [← v1.length, ← v2.length, ← q1.length, ← q2.length]; exact hc)
        · rw [q2.nil_of (v2.nil_iff.mp z), List.append_nil] at g
          exact ⟨.ref a, H, I, rfl, g.here l _ (.tup t1 q1)⟩
        · refine ⟨.ref s.heap.objs.size, _, laid_tup I (v1.append v2) ?_, rfl, new_tup l (q1.app q2) g _ (I.hok.fresh (Nat.le_refl _)) _ rfl⟩
          rw [List.length_append, ← q1.length, ← q2.length]
          exact hc
    · exact False.elim g
  · obtain ⟨a, rfl, e1⟩ := r1.loc_inv
    obtain ⟨b, rfl, e2⟩ := r2.loc_inv
    split at g
    · rename_i xs ys hm hn
      obtain ⟨us, t1, q1⟩ := l.lst hm e1
      obtain ⟨ws, t2, q2⟩ := l.lst hn e2
      split at g
      · rename_i hc
        refine op_cat pins s σ H _ _ v u Q I rx ry ⟨a, b, us, ws, rfl, rfl, t1, t2, by rw [← q1.length, ← q2.length]; exact hc, fun p hp => ?_⟩
        obtain ⟨n1, n2, n3⟩ := new_lst l hp (q1.app q2)
        exact g.ok n2 n1 _ n3
      · exact False.elim g
    · exact False.elim g
  · obtain ⟨a, rfl, e1⟩ := r1.loc_inv
    cases r2.int_inv
    split at g
    · rename_i xs hm
      obtain ⟨us, t1, q1⟩ := l.lst hm e1
      split at g
      · rename_i hc
        refine op_rep pins s σ H _ _ v u Q I rx ry ⟨a, _, us, rfl, rfl, t1, hc.1, hc.2.1, by rw [← q1.length]; exact hc.2.2, fun p hp => ?_⟩
        obtain ⟨n1, n2, n3⟩ := new_lst l hp (q1.rep _)
        exact g.ok n2 n1 _ n3
      · exact False.elim g
    · exact False.elim g
  · cases r1.str_inv; cases r2.int_inv
    split at g
    · rename_i hc
      exact op_mulS pins s σ H _ _ v u Q I rx ry ⟨_, _, rfl, rfl, hc.1, hc.2.1, hc.2.2, g.here l _ (.str _)⟩
    · exact False.elim g
  · exact False.elim g
end

/-! ### comparisons -/
def mapO {A B : Type} (f : A → Option B) : List A → Option (List B)
  | [] => some []
  | a :: r => match f a, mapO f r with
    | some b, some bs => some (b :: bs)
    | _, _ => none
/-- a datum as a whole -/
def toData : Nat → Hh → D → Option PyData
  | 0, _, _ => none
  | _ + 1, _, .non => some .none
  | _ + 1, _, .bl b => some (.bool b)
  | _ + 1, _, .int i => some (.int i)
  | _ + 1, _, .str x => some (.str x)
  | _ + 1, _, .scr ns => some (.list (ns.map .int))
  | n + 1, h, .tup xs => (mapO (toData n h) xs).map .tuple
  | n + 1, h, .loc l => match itemsOf h l with
    | some xs => (mapO (toData n h) xs).map .list
    | none => none
section
variable {K : PySem.W.Frag} {cl : Nat → Option Addr} {as : List Addr} {h : Hh} {H : Hp}
theorem dp_all {f : D → Option PyData} (hf : ∀ d v p, f d = some p → Rp K as H d v → Dp K H v p) : ∀ {ds : List D} {vs : List V} {ps : List PyData}, mapO f ds = some ps → RpL K as H ds vs → DpAll K H vs ps
  | [], _, _, e, r => by
    cases r
    cases e
    exact .nil
  | d :: ds, _, _, e, .cons r rs => by
    unfold mapO at e
    split at e
    · rename_i b bs e1 e2
      cases e
      exact .cons (hf _ _ _ e1 r) (dp_all hf e2 rs)
    · cases e
theorem dp_ints : ∀ ns : List Int, DpAll K H (ns.map V.int) (ns.map PyData.int)
  | [] => .nil
  | n :: ns => .cons (.int n) (dp_ints ns)
theorem dp_of (x : Rl K cl as h H) : ∀ (n : Nat) (d : D) (v : V) (p : PyData), toData n h d = some p → Rp K as H d v → Dp K H v p
  | 0, _, _, _, e, _ => by cases e
  | n + 1, d, v, p, e, r => by
    cases d with
    | non => cases r.non_inv; cases e; exact .non
    | bl b => cases r.bl_inv; cases e; exact .bl b
    | int i => cases r.int_inv; cases e; exact .int i
    | str s => cases r.str_inv; cases e; exact .str s
    | scr ns =>
      obtain ⟨a, rfl, t⟩ := r.scr_inv
      cases e
      exact .lst t.sq (dp_ints ns)
    | tup xs =>
      obtain ⟨a, vs, rfl, t, q⟩ := r.tup_inv
      have e : (mapO (toData n h) xs).map PyData.tuple = some p := e
      cases hm : mapO (toData n h) xs with
      | none => rw [hm] at e; cases e
      | some ps =>
        rw [hm] at e
        cases e
        exact .tup t.sq (dp_all (dp_of x n) hm q)
    | loc l =>
      obtain ⟨a, rfl, ha⟩ := r.loc_inv
      have e : (match itemsOf h l with
        | some xs => (mapO (toData n h) xs).map PyData.list
        | none => none) = some p := e
      cases hi : itemsOf h l with
      | none => rw [hi] at e; cases e
      | some xs =>
        rw [hi] at e
        have e : (mapO (toData n h) xs).map PyData.list = some p := e
        obtain ⟨vs, t, q⟩ := x.items hi ha
        cases hm : mapO (toData n h) xs with
        | none => rw [hm] at e; cases e
        | some ps =>
          rw [hm] at e
          cases e
          exact .lst t (dp_all (dp_of x n) hm q)
end
def flatD : D → Bool
  | .non => true
  | .bl _ => true
  | .int _ => true
  | .str _ => true
  | _ => false
/-- == of flat data -/
def eqF : D → D → Bool
  | .non, .non => true
  | .bl a, .bl b => a == b
  | .bl a, .int b => (if a then 1 else 0) == b
  | .int a, .bl b => a == (if b then 1 else 0)
  | .int a, .int b => a == b
  | .str a, .str b => a == b
  | _, _ => false
def toV : D → V
  | .non => .non
  | .bl b => .bl b
  | .int i => .int i
  | .str s => .str s
  | _ => .non
theorem flat_rp {K : PySem.W.Frag} {as : List Addr} {H : Hp} {d : D} {v : V} (r : Rp K as H d v) (f : flatD d = true) : v = toV d ∧ flatV v = true := by
  cases r <;> first | exact ⟨rfl, rfl⟩ | exact absurd f Bool.false_ne_true
theorem eqF_eq {x y : D} (fx : flatD x = true) (fy : flatD y = true) : eqV (toV x) (toV y) = eqF x y := by
  cases x <;> cases y <;> first | rfl | exact absurd fx Bool.false_ne_true | exact absurd fy Bool.false_ne_true
/-- the scalars that == tells apart at once -/
def scalD : D → D → Bool
  | .non, .non => true | .non, .int _ => true | .int _, .non => true | .non, .bl _ => true | .bl _, .non => true | .non, .str _ => true | .str _, .non => true
  | .int _, .int _ => true | .bl _, .bl _ => true | .str _, .str _ => true
  | .int _, .str _ => true | .str _, .int _ => true | .bl _, .str _ => true | .str _, .bl _ => true
  | _, _ => false
theorem scal_rp {K : PySem.W.Frag} {as : List Addr} {H : Hp} {x y : D} {vx vy : V} (rx : Rp K as H x vx) (ry : Rp K as H y vy) (f : scalD x y = true) : scal vx vy = true ∧ decide (vx = vy) = eqF x y := by
  cases rx <;> cases ry <;> first
    | exact ⟨rfl, by first | exact dec_int | exact dec_bl | exact dec_str | rfl | (simp [eqF]; done)⟩
    | exact absurd f Bool.false_ne_true
def eqD (x y : D) (h : Hh) : Option Bool :=
  if scalD x y = true then some (eqF x y) else
  match toData 60 h x, toData 60 h y with
  | some p, some q => if (SeqAt.shaped p && SeqAt.shaped q) = true then some (PyData.eqv p q) else none
  | _, _ => none
/-- x in a list or tuple -/
def inD (x : D) (xs : List D) (h : Hh) : Option Bool :=
  if (flatD x && xs.all flatD) = true then some (xs.any fun y => eqF y x) else
  match toData 60 h x, mapO (toData 59 h) xs with
  | some p, some ps => if (SeqAt.shaped p && SeqAt.shaped (.list ps)) = true then some (ps.any fun z => PyData.eqv z p) else none
  | _, _ => none
def keyOf : D → Option Key
  | .int i => some (.inl i)
  | .str s => some (.inr s)
  | _ => none
def valD (kvs : List (Key × D)) (k : Key) : Option D := (kvs.find? fun kv => decide (kv.1 = k)).map (·.2)
def inB (x y : D) (h : Hh) : Option Bool :=
  match y with
  | .str b => match x with
    | .str a => some (!(Builtin.Str.occurrences b a 0 b.length 1).isEmpty)
    | _ => none
  | .tup xs => if (flatD x && xs.all flatD) = true then some (xs.any fun y => eqF y x) else none
  | .loc n => match h[n]? with
    | some (.lst xs) => inD x xs h
    | some (.dct kvs) => (keyOf x).map fun k => (valD kvs k).isSome
    | _ => none
  | _ => none
def isB (x y : D) : Option Bool :=
  match x, y with
  | .non, .non => some true
  | _, .non => some false
  | .bl a, .bl b => some (decide (a = b))
  | _, _ => none
def bRes (o : Option Bool) (h : Hh) : Option (D × Hh) := o.map fun b => (.bl b, h)
def ltB (x y : D) : Option Bool :=
  match x, y with
  | .int i, .int j => some (decide (i < j))
  | .str i, .str j => some (decide (i.cps.toList < j.cps.toList))
  | _, _ => none
def leB (x y : D) : Option Bool :=
  match x, y with
  | .int i, .int j => some (decide (i ≤ j))
  | .str i, .str j => some (!decide (j.cps.toList < i.cps.toList))
  | _, _ => none
def sCmp (op : CmpOp) (x y : D) (h : Hh) : Option (D × Hh) :=
  match op with
  | .Eq => bRes (eqD x y h) h
  | .NotEq => bRes ((eqD x y h).map (!·)) h
  | .Lt => bRes (ltB x y) h
  | .LtE => bRes (leB x y) h
  | .Gt => bRes (ltB y x) h
  | .GtE => bRes (leB y x) h
  | .In => bRes (inB x y h) h
  | .NotIn => bRes ((inB x y h).map (!·)) h
  | .Is => bRes (isB x y) h
  | .IsNot => bRes ((isB x y).map (!·)) h

section
variable {X : Cx} {cl : Nat → Option Addr} {as : List Addr} {h : Hh} {H : Hp}
theorem bRes_got {K : PySem.W.Frag} {o : Option Bool} {Q : VK} (g : Got K cl as H (bRes o h) (QD K Q)) (l : Rl K cl as h H) : ∃ b, o = some b ∧ Q (.bl b) H := by
  cases o with
  | none => exact False.elim g
  | some b => exact ⟨b, rfl, Got.here (a := D.bl b) g l _ (.bl b)⟩
theorem all_flat {K : PySem.W.Frag} : ∀ {xs : List D} {vs : List V}, RpL K as H xs vs → xs.all flatD = true → vs.all flatV = true ∧ ∀ x v, Rp K as H x v → flatD x = true → inV v vs = xs.any fun y => eqF y x
  | [], _, .nil, _ => ⟨rfl, fun _ _ _ _ => rfl⟩
  | d :: ds, _, .cons r rs, f => by
    rw [List.all_cons, Bool.and_eq_true] at f
    obtain ⟨h1, h2⟩ := all_flat rs f.2
    obtain ⟨e1, f1⟩ := flat_rp r f.1
    refine ⟨by rw [List.all_cons, f1, h1]; rfl, fun x v rx fx => ?_⟩
    obtain ⟨e2, f2⟩ := flat_rp rx fx
    have := h2 x v rx fx
    unfold inV at this ⊢
    rw [List.any_cons, List.any_cons, this, e1, e2, eqF_eq f.1 fx]
theorem valD_rp {K : PySem.W.Frag} {k : Key} : ∀ {kvs : List (Key × D)} {ys : List (Key × V)}, RpK K as H kvs ys → (∀ d, valD kvs k = some d → ∃ v, valV ys k = some v ∧ Rp K as H d v) ∧ (valD kvs k = none → valV ys k = none)
  | [], [], _ => ⟨fun d e => (by cases (show none = some d from e)), fun _ => rfl⟩
  | [], _ :: _, r => by
    have := r.1
    simp at this
  | _ :: _, [], r => by
    have := r.1
    simp at this
  | (a, d) :: kvs, (b, v) :: ys, r => by
    obtain ⟨r1, r2⟩ := r
    simp only [List.map_cons, List.cons.injEq] at r1
    obtain ⟨e1, e2⟩ := r1
    cases r2 with
    | cons q qs =>
      have ih := valD_rp (k := k) (kvs := kvs) (ys := ys) ⟨e2, qs⟩
      have e1 : a = b := e1
      subst e1
      by_cases hk : a = k
      · subst hk
        refine ⟨fun d2 e => ?_, fun e => ?_⟩
        · simp [valD] at e
          subst e
          exact ⟨v, valV_pos rfl, q⟩
        · simp [valD] at e
      · have e3 : valD ((a, d) :: kvs) k = valD kvs k := by simp [valD, List.find?_cons, hk]
        rw [e3, valV_neg hk]
        exact ih
theorem keyOf_kV {K : PySem.W.Frag} {x : D} {v : V} {k : Key} (r : Rp K as H x v) (e : keyOf x = some k) : v = kV k := by
  cases r <;> first | (cases e; rfl) | cases e

theorem op_eqE (hu : X.A.units + 64 < cLine) (pins : List (Addr × Obj)) (s : Shared) (σ : L2.St) (x y : D) (vx vy : V) (v u : Value) (Q : VK) (I : L2.Inv X pins σ H s) (rx : L2.RelV vx v) (ry : L2.RelV vy u) (l : Rl X.K cl as h H) (r1 : Rp X.K as H x vx) (r2 : Rp X.K as H y vy)
    {b : Bool} (e : eqD x y h = some b) : (Q (.bl b) H → wpAny (model X.prog X.w) X.A (compareOp .Eq v u) (EP X pins σ Q) X.xe s) ∧ (Q (.bl (!b)) H → wpAny (model X.prog X.w) X.A (compareOp .NotEq v u) (EP X pins σ Q) X.xe s) := by
  unfold eqD at e
  split at e
  · rename_i hs
    cases e
    obtain ⟨h1, h2⟩ := scal_rp r1 r2 hs
    exact ⟨fun q => op_eq pins s σ H vx vy v u Q I rx ry ⟨h1, by rw [h2]; exact q⟩, fun q => op_ne pins s σ H vx vy v u Q I rx ry ⟨h1, by rw [h2]; exact q⟩⟩
  · split at e
    · rename_i p q e1 e2
      split at e
      · rename_i hs
        cases e
        rw [Bool.and_eq_true] at hs
        have d1 := dp_of l 60 x vx p e1 r1
        have d2 := dp_of l 60 y vy q e2 r2
        exact ⟨fun z => op_eqD hu pins s σ H vx vy v u Q I rx ry ⟨p, q, d1, d2, hs.1, hs.2, z⟩, fun z => op_neD hu pins s σ H vx vy v u Q I rx ry ⟨p, q, d1, d2, hs.1, hs.2, z⟩⟩
      · cases e
    · cases e
theorem op_inE (hu : X.A.units + 65 < cLine) (pins : List (Addr × Obj)) (s : Shared) (σ : L2.St) (x y : D) (vx vy : V) (v u : Value) (Q : VK) (I : L2.Inv X pins σ H s) (rx : L2.RelV vx v) (ry : L2.RelV vy u) (l : Rl X.K cl as h H) (r1 : Rp X.K as H x vx) (r2 : Rp X.K as H y vy)
    {b : Bool} (e : inB x y h = some b) : (Q (.bl b) H → wpAny (model X.prog X.w) X.A (compareOp .In v u) (EP X pins σ Q) X.xe s) ∧ (Q (.bl (!b)) H → wpAny (model X.prog X.w) X.A (compareOp .NotIn v u) (EP X pins σ Q) X.xe s) := by
  have seq : ∀ (a : Addr) (xs : List D) (vs : List V), vy = .ref a → (SqL X.K H a vs ∨ SqT X.K H a vs) → RpL X.K as H xs vs → (flatD x && xs.all flatD) = true → some (xs.any fun y => eqF y x) = some b →
      (Q (.bl b) H → wpAny (model X.prog X.w) X.A (compareOp .In v u) (EP X pins σ Q) X.xe s) ∧ (Q (.bl (!b)) H → wpAny (model X.prog X.w) X.A (compareOp .NotIn v u) (EP X pins σ Q) X.xe s) := by
    intro a xs vs e0 hq r f eb
    cases eb
    rw [Bool.and_eq_true] at f
    obtain ⟨f1, f2⟩ := all_flat r f.2
    have f3 := f2 x vx r1 f.1
    obtain ⟨_, f4⟩ := flat_rp r1 f.1
    refine ⟨fun q => op_in_seq pins s σ H vx vy v u Q I rx ry ⟨a, vs, e0, hq, f4, f1, ?_⟩, fun q => op_notIn_seq pins s σ H vx vy v u Q I rx ry ⟨a, vs, e0, hq, f4, f1, ?_⟩⟩
    · simp only [Bool.false_eq_true, if_false]; rw [f3]; exact q
    · simp only [if_true]; rw [f3]; exact q
  have lst : ∀ (n : Nat) (a : Addr) (xs : List D), y = .loc n → vy = .ref a → as[n]? = some a → itemsOf h n = some xs → inD x xs h = some b →
      (Q (.bl b) H → wpAny (model X.prog X.w) X.A (compareOp .In v u) (EP X pins σ Q) X.xe s) ∧ (Q (.bl (!b)) H → wpAny (model X.prog X.w) X.A (compareOp .NotIn v u) (EP X pins σ Q) X.xe s) := by
    intro n a xs ey e0 ha hi ei
    subst ey e0
    obtain ⟨vs, t, q⟩ := l.items hi ha
    unfold inD at ei
    split at ei
    · rename_i f
      exact seq a xs vs rfl (.inl t) q f ei
    · split at ei
      · rename_i p ps e1 e2
        split at ei
        · rename_i hs
          cases ei
          rw [Bool.and_eq_true] at hs
          have d1 := dp_of l 60 x vx p e1 r1
          have d2 : Dp X.K H (.ref a) (.list ps) := .lst t (dp_all (dp_of l 59) e2 q)
          exact ⟨fun z => op_inD hu pins s σ H vx _ v u Q I rx ry ⟨p, ps, d1, d2, hs.1, hs.2, z⟩, fun z => op_notInD hu pins s σ H vx _ v u Q I rx ry ⟨p, ps, d1, d2, hs.1, hs.2, z⟩⟩
        · cases ei
      · cases ei
  unfold inB at e
  split at e
  · split at e
    · cases e
      cases r1.str_inv
      cases r2.str_inv
      exact ⟨fun q => op_in_str pins s σ H _ _ v u Q I rx ry ⟨_, _, rfl, rfl, q⟩, fun q => op_notin_str pins s σ H _ _ v u Q I rx ry ⟨_, _, rfl, rfl, q⟩⟩
    · cases e
  · split at e
    · rename_i f
      obtain ⟨a, vs, e0, t, q⟩ := r2.tup_inv
      exact seq a _ vs e0 (.inr t.sq) q f e
    · cases e
  · obtain ⟨a, e0, ha⟩ := r2.loc_inv
    split at e
    · rename_i n xs hn
      exact lst _ a xs rfl e0 ha (by unfold itemsOf; rw [hn]) e
    · rename_i n kvs hn
      subst e0
      obtain ⟨ys, t, q⟩ := l.dct hn ha
      cases hk : keyOf x with
      | none => rw [hk] at e; cases e
      | some k =>
        rw [hk] at e
        cases e
        have ek := keyOf_kV r1 hk
        subst ek
        have hv : (valV ys k).isSome = (valD kvs k).isSome := by
          cases hd : valD kvs k with
          | none => rw [(valD_rp q).2 hd] <;> rfl
          | some d =>
            obtain ⟨w, e2, _⟩ := (valD_rp q).1 d hd
            rw [e2]; rfl
        have ru : u = Value.ref a := ry
        subst ru
        have hu1 : X.A.units + 1 < cLine := by omega
        refine ⟨fun z => d_in hu1 I (DGet.k t) rx fun s' I' => ⟨.bl _, H, I', rfl, by rw [hv]; exact z⟩, fun z => d_notIn hu1 I (DGet.k t) rx fun s' I' => ⟨.bl _, H, I', rfl, by rw [hv]; exact z⟩⟩
    · cases e
  · cases e
theorem op_isE (pins : List (Addr × Obj)) (s : Shared) (σ : L2.St) (x y : D) (vx vy : V) (v u : Value) (Q : VK) (I : L2.Inv X pins σ H s) (rx : L2.RelV vx v) (ry : L2.RelV vy u) (r1 : Rp X.K as H x vx) (r2 : Rp X.K as H y vy)
    {b : Bool} (e : isB x y = some b) : (Q (.bl b) H → wpAny (model X.prog X.w) X.A (compareOp .Is v u) (EP X pins σ Q) X.xe s) ∧ (Q (.bl (!b)) H → wpAny (model X.prog X.w) X.A (compareOp .IsNot v u) (EP X pins σ Q) X.xe s) := by
  unfold isB at e
  split at e
  · cases e
    cases r1.non_inv; cases r2.non_inv
    exact ⟨fun q => op_isN pins s σ H _ _ v u Q I rx ry ⟨rfl, q⟩, fun q => op_notN pins s σ H _ _ v u Q I rx ry ⟨rfl, q⟩⟩
  · rename_i hne
    cases e
    cases r2.non_inv
    have hv : vx ≠ .non := fun z => by
      subst z
      cases r1
      exact hne rfl
    exact ⟨fun q => op_isN pins s σ H _ _ v u Q I rx ry ⟨rfl, by rw [decide_eq_false hv]; exact q⟩, fun q => op_notN pins s σ H _ _ v u Q I rx ry ⟨rfl, by rw [decide_eq_false hv]; exact q⟩⟩
  · cases e
    cases r1.bl_inv; cases r2.bl_inv
    exact ⟨fun q => op_isBl pins s σ H _ _ v u Q I rx ry ⟨_, _, rfl, rfl, q⟩, fun q => op_notBl pins s σ H _ _ v u Q I rx ry ⟨_, _, rfl, rfl, q⟩⟩
  · cases e
theorem op_sCmp (hu : X.A.units + 65 < cLine) (op : CmpOp) : OpR X (compareOp op) (rG2 X.K cl (sCmp op)) := by
  intro pins s σ H vx vy v u Q I rx ry q
  obtain ⟨as, h, x, y, l, r1, r2, g⟩ := q
  have hu4 : X.A.units + 64 < cLine := by omega
  cases op with
  | Eq =>
    obtain ⟨b, e, q⟩ := bRes_got g l
    exact (op_eqE hu4 pins s σ x y vx vy v u Q I rx ry l r1 r2 e).1 q
  | NotEq =>
    obtain ⟨b, e, q⟩ := bRes_got g l
    cases hb : eqD x y h with
    | none => rw [hb] at e; cases e
    | some k =>
      rw [hb] at e
      cases e
      exact (op_eqE hu4 pins s σ x y vx vy v u Q I rx ry l r1 r2 hb).2 q
  | Lt =>
    obtain ⟨b, e, q⟩ := bRes_got g l
    unfold ltB at e
    split at e
    · cases e; cases r1.int_inv; cases r2.int_inv
      exact op_lt pins s σ H _ _ v u Q I rx ry ⟨_, _, rfl, rfl, q⟩
    · cases e; cases r1.str_inv; cases r2.str_inv
      exact op_lt_str pins s σ H _ _ v u Q I rx ry ⟨_, _, rfl, rfl, q⟩
    · cases e
  | LtE =>
    obtain ⟨b, e, q⟩ := bRes_got g l
    unfold leB at e
    split at e
    · cases e; cases r1.int_inv; cases r2.int_inv
      exact op_le pins s σ H _ _ v u Q I rx ry ⟨_, _, rfl, rfl, q⟩
    · cases e; cases r1.str_inv; cases r2.str_inv
      exact op_le_str pins s σ H _ _ v u Q I rx ry ⟨_, _, rfl, rfl, q⟩
    · cases e
  | Gt =>
    obtain ⟨b, e, q⟩ := bRes_got g l
    unfold ltB at e
    split at e
    · cases e; cases r1.int_inv; cases r2.int_inv
      exact op_gt pins s σ H _ _ v u Q I rx ry ⟨_, _, rfl, rfl, q⟩
    · cases e; cases r1.str_inv; cases r2.str_inv
      exact op_gt_str pins s σ H _ _ v u Q I rx ry ⟨_, _, rfl, rfl, q⟩
    · cases e
  | GtE =>
    obtain ⟨b, e, q⟩ := bRes_got g l
    unfold leB at e
    split at e
    · cases e; cases r1.int_inv; cases r2.int_inv
      exact op_ge pins s σ H _ _ v u Q I rx ry ⟨_, _, rfl, rfl, q⟩
    · cases e; cases r1.str_inv; cases r2.str_inv
      exact op_ge_str pins s σ H _ _ v u Q I rx ry ⟨_, _, rfl, rfl, q⟩
    · cases e
  | In =>
    obtain ⟨b, e, q⟩ := bRes_got g l
    exact (op_inE hu pins s σ x y vx vy v u Q I rx ry l r1 r2 e).1 q
  | NotIn =>
    obtain ⟨b, e, q⟩ := bRes_got g l
    cases hb : inB x y h with
    | none => rw [hb] at e; cases e
    | some k =>
      rw [hb] at e
      cases e
      exact (op_inE hu pins s σ x y vx vy v u Q I rx ry l r1 r2 hb).2 q
  | Is =>
    obtain ⟨b, e, q⟩ := bRes_got g l
    exact (op_isE pins s σ x y vx vy v u Q I rx ry r1 r2 e).1 q
  | IsNot =>
    obtain ⟨b, e, q⟩ := bRes_got g l
    cases hb : isB x y with
    | none => rw [hb] at e; cases e
    | some k =>
      rw [hb] at e
      cases e
      exact (op_isE pins s σ x y vx vy v u Q I rx ry r1 r2 hb).2 q
def sNeg (x : D) (h : Hh) : Option (D × Hh) :=
  match x with
  | .int i => some (.int (-i), h)
  | _ => none
theorem un_sNeg : UnR X (unaryOp .USub) (rG1 X.K cl sNeg) := by
  intro pins s σ H vx v Q I rx q
  obtain ⟨as, h, x, l, r, g⟩ := q
  unfold sNeg at g
  split at g
  · cases r.int_inv
    exact un_neg pins s σ H _ v Q I rx ⟨_, rfl, g.here l _ (.int _)⟩
  · exact False.elim g
end
end Ev

namespace Ev
open PySem PySem.Spec PyProof.Rows L2

/-! ### calls of built-ins, by values -/
def rGn (K : PySem.W.Frag) (cl : Nat → Option Addr) (f : List D → Hh → Option (D × Hh)) : List V → Hp → VK → Prop := fun vs H Q => ∃ as h ds, Rl K cl as h H ∧ RpL K as H ds vs ∧ Got K cl as H (f ds h) (QD K Q)
def fN (f : List D → Hh → Option (D × Hh)) (fs : FA) : FE := fun env h => (fs env h).bind fun ds h1 => lift (f ds h1)
section
variable {X : Cx} {cl : Nat → Option Addr} {XW : XWT} {e o : Expr} {es : List Expr} {fs : FA} {fo : FE} {pos p apos : Pos}
theorem tN_of {K : PySem.W.Frag} {f : List D → Hh → Option (D × Hh)} {s : L2.St} {H : Hp} {Q : VK} (h : tF K cl XW (fN f fs) s H Q) : tCB (rGn K cl f) (tFA K cl XW fs) s H Q := by
  obtain ⟨as, env, hh, x, e, o⟩ := h
  exact tFA.step x e o fun ds vs as1 h1 H1 y1 x1 e1 r1 o1 => ⟨as1, h1, ds, x1, r1, o1.got⟩
theorem se_blt {x : Str} {id : String} {f : List D → Hh → Option (D × Hh)} (hc : CallR X (.builtin id) (rGn X.K cl f)) (hg : Gl X x) (hm : X.mg x = none) (hv : bootBuiltins x = some (.builtin id)) (ha : PA X (e :: es) (tFA X.K cl XW fs)) (hn : x ≠ "__name__") (hdb : (x == ("__debug__" : Str)) = false)
    (he : starEach (e :: es) X.env = (false, eval e X.env) :: starEach es X.env) (hpl : (backTo pos (starEach es X.env)).any (·.1) = false) : PE X (.Call (.Name x p) (e :: es) [] pos) (tF X.K cl XW (fN f fs)) :=
  ⟨fun pins s σ H Q I h => (pe_callB hc hg hm hv ha hn hdb he hpl).run pins s σ H Q I (tN_of h)⟩
theorem se_bty {x : Str} {T : String} {f : List D → Hh → Option (D × Hh)} (hc : CallR X (.type T) (rGn X.K cl f)) (hg : Gl X x) (hm : X.mg x = none) (hv : bootBuiltins x = some (.type T)) (ha : PA X (e :: es) (tFA X.K cl XW fs)) (hn : x ≠ "__name__") (hdb : (x == ("__debug__" : Str)) = false)
    (he : starEach (e :: es) X.env = (false, eval e X.env) :: starEach es X.env) (hpl : (backTo pos (starEach es X.env)).any (·.1) = false) : PE X (.Call (.Name x p) (e :: es) [] pos) (tF X.K cl XW (fN f fs)) :=
  ⟨fun pins s σ H Q I h => (pe_callTy hc hg hm hv ha hn hdb he hpl).run pins s σ H Q I (tN_of h)⟩

/-! ### which built-ins -/
def isBlD : D → Option Bool
  | .bl b => some b
  | _ => none
def isIntD : D → Option Int
  | .int i => some i
  | _ => none
def isStrD : D → Option Str
  | .str s => some s
  | _ => none
def seqOf (h : Hh) : D → Option (List D)
  | .tup xs => some xs
  | .loc n => itemsOf h n
  | .scr ns => some (ns.map .int)
  | _ => none
inductive Bi where
  | len | all | any | sum | abs | list | tuple | repr
  deriving DecidableEq
def sB (b : Bi) (ds : List D) (h : Hh) : Option (D × Hh) :=
  match ds with
  | [x] =>
    match b with
    | .len => match x with
      | .str s => if s.length ≤ sizeLine then some (.int s.length, h) else none
      | .tup xs => some (.int xs.length, h)
      | .scr ns => some (.int ns.length, h)
      | .loc n => match h[n]? with
        | some (.lst xs) => some (.int xs.length, h)
        | some (.dct kvs) => some (.int kvs.length, h)
        | _ => none
      | _ => none
    | .all => match x with
      | .loc n => ((itemsOf h n).bind (mapO isBlD)).map fun bs => (.bl (bs.all id), h)
      | _ => none
    | .any => match x with
      | .loc n => ((itemsOf h n).bind (mapO isBlD)).map fun bs => (.bl (bs.any id), h)
      | _ => none
    | .sum => match x with
      | .loc n => ((itemsOf h n).bind (mapO isIntD)).map fun ns => (.int ns.sum, h)
      | .scr ns => some (.int ns.sum, h)
      | _ => none
    | .abs => match x with
      | .int i => some (.int (if i < 0 then -i else i), h)
      | _ => none
    | .list => (seqOf h x).map fun xs => (.loc h.length, h ++ [.lst xs])
    | .tuple => (seqOf h x).map fun xs => (.tup xs, h)
    | .repr => match toData 60 h x with
      | some q => if (q.showable && decide (q.shown.length ≤ sizeLine)) = true then some (.str q.shown, h) else none
      | none => none
  | _ => none

section
variable {K : PySem.W.Frag} {as : List Addr} {h : Hh} {H : Hp}
theorem bls_of : ∀ {xs : List D} {bs : List Bool} {vs : List V}, mapO isBlD xs = some bs → RpL K as H xs vs → vs = bs.map V.bl
  | [], _, _, e, .nil => by cases e; rfl
  | x :: xs, _, _, e, .cons r rs => by
    unfold mapO at e
    split at e
    · rename_i b bs e1 e2
      cases e
      cases x with
      | bl k => cases e1; rw [r.bl_inv, bls_of e2 rs]; rfl
      | _ => cases e1
    · cases e
theorem ints_of : ∀ {xs : List D} {bs : List Int} {vs : List V}, mapO isIntD xs = some bs → RpL K as H xs vs → vs = bs.map V.int
  | [], _, _, e, .nil => by cases e; rfl
  | x :: xs, _, _, e, .cons r rs => by
    unfold mapO at e
    split at e
    · rename_i b bs e1 e2
      cases e
      cases x with
      | int k => cases e1; rw [r.int_inv, ints_of e2 rs]; rfl
      | _ => cases e1
    · cases e
theorem strs_of : ∀ {xs : List D} {bs : List Str} {vs : List V}, mapO isStrD xs = some bs → RpL K as H xs vs → vs = bs.map V.str
  | [], _, _, e, .nil => by cases e; rfl
  | x :: xs, _, _, e, .cons r rs => by
    unfold mapO at e
    split at e
    · rename_i b bs e1 e2
      cases e
      cases x with
      | str k => cases e1; rw [r.str_inv, strs_of e2 rs]; rfl
      | _ => cases e1
    · cases e
theorem rp_strs : ∀ ss : List Str, RpL K as H (ss.map D.str) (ss.map V.str)
  | [] => .nil
  | s :: ss => .cons (.str s) (rp_strs ss)
/-- a whole datum bears no dict, and isn't deep -/
theorem mapO_dict {n : Nat} {h : Hh} (ih : ∀ d p, toData n h d = some p → p.hasDict = false ∧ p.depth ≤ n) : ∀ {xs : List D} {ps : List PyData}, mapO (toData n h) xs = some ps → PyData.hasDictAll ps = false ∧ PyData.depthAll ps ≤ n
  | [], _, e => by cases e; exact ⟨by simp only [PyData.hasDictAll], by simp only [PyData.depthAll]; exact Nat.zero_le _⟩
  | x :: xs, _, e => by
    unfold mapO at e
    split at e
    · rename_i b bs e1 e2
      cases e
      obtain ⟨h1, h2⟩ := ih _ _ e1
      obtain ⟨h3, h4⟩ := mapO_dict ih e2
      exact ⟨by simp only [PyData.hasDictAll, h1, h3, Bool.or_self], by simp only [PyData.depthAll]; omega⟩
    · cases e
theorem toData_dict : ∀ (n : Nat) (d : D) (p : PyData), toData n h d = some p → p.hasDict = false ∧ p.depth ≤ n
  | 0, _, _, e => by cases e
  | n + 1, d, p, e => by
    cases d with
    | non => cases e; exact ⟨by simp only [PyData.hasDict], by simp only [PyData.depth]; omega⟩
    | bl b => cases e; exact ⟨by simp only [PyData.hasDict], by simp only [PyData.depth]; omega⟩
    | int i => cases e; exact ⟨by simp only [PyData.hasDict], by simp only [PyData.depth]; omega⟩
    | str s => cases e; exact ⟨by simp only [PyData.hasDict], by simp only [PyData.depth]; omega⟩
    | scr ns =>
      cases e
      have hd : ∀ l : List Int, PyData.hasDictAll (l.map PyData.int) = false ∧ PyData.depthAll (l.map PyData.int) = 0 := fun l => by
        induction l with
        | nil => exact ⟨by simp only [List.map_nil, PyData.hasDictAll], by simp only [List.map_nil, PyData.depthAll]⟩
        | cons x r ih => exact ⟨by simp only [List.map_cons, PyData.hasDictAll, PyData.hasDict, ih.1, Bool.or_self], by simp only [List.map_cons, PyData.depthAll, PyData.depth, ih.2, Nat.max_self]⟩
      exact ⟨by simp only [PyData.hasDict, (hd ns).1], by simp only [PyData.depth, (hd ns).2]; omega⟩
    | tup xs =>
      have e : (mapO (toData n h) xs).map PyData.tuple = some p := e
      cases hm : mapO (toData n h) xs with
      | none => rw [hm] at e; cases e
      | some ps =>
        rw [hm] at e
        cases e
        obtain ⟨h1, h2⟩ := mapO_dict (toData_dict n) hm
        exact ⟨by simp only [PyData.hasDict, h1], by simp only [PyData.depth]; omega⟩
    | loc l =>
      have e : (match itemsOf h l with
        | some xs => (mapO (toData n h) xs).map PyData.list
        | none => none) = some p := e
      cases hi : itemsOf h l with
      | none => rw [hi] at e; cases e
      | some xs =>
        rw [hi] at e
        have e : (mapO (toData n h) xs).map PyData.list = some p := e
        cases hm : mapO (toData n h) xs with
        | none => rw [hm] at e; cases e
        | some ps =>
          rw [hm] at e
          cases e
          obtain ⟨h1, h2⟩ := mapO_dict (toData_dict n) hm
          exact ⟨by simp only [PyData.hasDict, h1], by simp only [PyData.depth]; omega⟩
end
theorem seqOf_sq {K : PySem.W.Frag} {as : List Addr} {h : Hh} {H : Hp} (l : Rl K cl as h H) {x : D} {v : V} {xs : List D} (r : Rp K as H x v) (e : seqOf h x = some xs) : ∃ a vs, v = .ref a ∧ (SqL K H a vs ∨ SqT K H a vs) ∧ RpL K as H xs vs := by
  cases x with
  | tup ys =>
    cases e
    obtain ⟨a, vs, rfl, t, q⟩ := r.tup_inv
    exact ⟨a, vs, rfl, .inr t.sq, q⟩
  | loc n =>
    obtain ⟨a, rfl, ha⟩ := r.loc_inv
    obtain ⟨vs, t, q⟩ := l.items e ha
    exact ⟨a, vs, rfl, .inl t, q⟩
  | scr ns =>
    obtain ⟨a, rfl, t⟩ := r.scr_inv
    cases e
    exact ⟨a, _, rfl, .inl t.sq, rp_ints ns⟩
  | _ => cases e
def biName : Bi → Str
  | .len => "len"
  | .all => "all"
  | .any => "any"
  | .sum => "sum"
  | .abs => "abs"
  | .list => "list"
  | .tuple => "tuple"
  | .repr => "repr"
def biVal : Bi → Value
  | .len => .builtin "len"
  | .all => .builtin "all"
  | .any => .builtin "any"
  | .sum => .builtin "sum"
  | .abs => .builtin "abs"
  | .list => .type "list"
  | .tuple => .type "tuple"
  | .repr => .builtin "repr"
theorem bi_boot (b : Bi) : bootBuiltins (biName b) = some (biVal b) := by cases b <;> decide +kernel
theorem bi_name (b : Bi) : biName b ≠ "__name__" ∧ (biName b == ("__debug__" : Str)) = false := by cases b <;> decide +kernel

theorem cr_repr (hg : X.A.guards = some []) (hu : X.A.units + 65 < cLine) : CallR X (.builtin "repr") (rGn X.K cl (sB .repr)) := by
  intro pins s σ H vs us Q I rs q
  obtain ⟨as, h, ds, l, r, g⟩ := q
  unfold sB at g
  split at g
  · rename_i x
    cases r with
    | cons r1 r0 =>
      cases r0
      obtain ⟨u, rfl, ru⟩ := vals1 rs
      simp only at g
      split at g
      · rename_i p hp
        split at g
        · rename_i hs
          rw [Bool.and_eq_true, decide_eq_true_eq] at hs
          have fin : ∀ (t : Tok) (h' : Heap) (k : Nat), (∀ b o, s.heap.get? b = some o → h'.get? b = some o) → EP X pins σ Q (.str p.shown t) { s with heap := h', toks := k } := fun t h' k kp =>
            ⟨.str p.shown, H, I.kept kp, ⟨_, rfl⟩, g.here l _ (.str _)⟩
          have kp0 : ∀ b o, s.heap.get? b = some o → s.heap.get? b = some o := fun _ _ e => e
          cases x with
          | non =>
            cases hp
            cases r1.non_inv
            cases ru
            exact PySem.P.repr_of_none (by simpa [PyData.shown] using fin s.toks s.heap (s.toks + 1) kp0)
          | bl b =>
            cases hp
            cases r1.bl_inv
            cases ru
            exact PySem.P.repr_of_bool (by simpa [PyData.shown] using fin s.toks s.heap (s.toks + 1) kp0)
          | int i =>
            cases hp
            cases r1.int_inv
            obtain ⟨t, rfl⟩ := ru
            exact PySem.P.repr_of_int (by simpa [PyData.showable] using hs.1) (by simpa [PyData.shown] using fin s.toks s.heap (s.toks + 1) kp0)
          | str z =>
            cases hp
            cases r1.str_inv
            obtain ⟨t, rfl⟩ := ru
            exact PySem.P.repr_of_str (by simpa [PyData.shown] using fin s.toks s.heap (s.toks + 1) kp0) (by simpa [PyData.shown] using hs.2)
          | tup xs =>
            have dp := dp_of l 60 _ _ p hp r1
            obtain ⟨a, ws, rfl, _, _⟩ := r1.tup_inv
            cases (show u = Value.ref a from ru)
            obtain ⟨bs, rd⟩ := Dp.reads I p _ _ dp rfl
            obtain ⟨d1, d2⟩ := toData_dict 60 _ p hp
            exact PySem.repr_of_reads' rd hs.1 (fun z => by rw [d1] at z; cases z) hg (by omega) kp0 (fun h' t k kp => fin t h' k kp) hs.2
          | scr ns =>
            have dp := dp_of l 60 _ _ p hp r1
            obtain ⟨a, rfl, _⟩ := r1.scr_inv
            cases (show u = Value.ref a from ru)
            obtain ⟨bs, rd⟩ := Dp.reads I p _ _ dp rfl
            obtain ⟨d1, d2⟩ := toData_dict 60 _ p hp
            exact PySem.repr_of_reads' rd hs.1 (fun z => by rw [d1] at z; cases z) hg (by omega) kp0 (fun h' t k kp => fin t h' k kp) hs.2
          | loc n =>
            have dp := dp_of l 60 _ _ p hp r1
            obtain ⟨a, rfl, _⟩ := r1.loc_inv
            cases (show u = Value.ref a from ru)
            obtain ⟨bs, rd⟩ := Dp.reads I p _ _ dp rfl
            obtain ⟨d1, d2⟩ := toData_dict 60 _ p hp
            exact PySem.repr_of_reads' rd hs.1 (fun z => by rw [d1] at z; cases z) hg (by omega) kp0 (fun h' t k kp => fin t h' k kp) hs.2
        · exact False.elim g
      · exact False.elim g
  · exact False.elim g
theorem cr_sB (hc : X.calm = true) (hg : X.A.guards = some []) (hu : X.A.units + 65 < cLine) (b : Bi) : CallR X (biVal b) (rGn X.K cl (sB b)) := by
  by_cases hb : b = .repr
  · subst hb
    exact cr_repr hg hu
  · intro pins s σ H vs us Q I rs q
    obtain ⟨as, h, ds, l, r, g⟩ := q
    unfold sB at g
    split at g
    · rename_i x
      cases r with
      | cons r1 r0 =>
        cases r0
        cases b with
        | repr => exact absurd rfl hb
        | len =>
          simp only at g
          split at g
          · cases r1.str_inv
            split at g
            · rename_i hz
              exact call_len_str pins s σ H _ us Q I rs ⟨_, rfl, hz, g.here l _ (.int _)⟩
            · exact False.elim g
          · obtain ⟨a, ws, rfl, t, q⟩ := r1.tup_inv
            rw [q.length] at g
            exact call_len_seq pins s σ H _ us Q I rs ⟨a, ws, rfl, .inr t.sq, g.here l _ (.int _)⟩
          · obtain ⟨a, rfl, t⟩ := r1.scr_inv
            refine call_len_seq pins s σ H _ us Q I rs ⟨a, _, rfl, .inl t.sq, ?_⟩
            rw [List.length_map]
            exact g.here l _ (.int _)
          · obtain ⟨a, rfl, ha⟩ := r1.loc_inv
            split at g
            · rename_i xs hn
              obtain ⟨ws, t, q⟩ := l.lst hn ha
              rw [q.length] at g
              exact call_len_seq pins s σ H _ us Q I rs ⟨a, ws, rfl, .inl (SqL.of t), g.here l _ (.int _)⟩
            · rename_i kvs hn
              obtain ⟨ws, t, q⟩ := l.dct hn ha
              have hl : kvs.length = ws.length := by
                have := congrArg List.length q.1
                simpa using this
              rw [hl] at g
              exact call_lenD pins s σ H _ us Q I rs ⟨a, ws, rfl, t, g.here l _ (.int _)⟩
            · exact False.elim g
          · exact False.elim g
        | all =>
          simp only at g
          split at g
          · obtain ⟨a, rfl, ha⟩ := r1.loc_inv
            cases hi : itemsOf h _ with
            | none => rw [hi] at g; exact False.elim g
            | some xs =>
              rw [hi] at g
              obtain ⟨ws, t, q⟩ := l.items hi ha
              cases hm : mapO isBlD xs with
              | none => rw [Option.bind_some, hm] at g; exact False.elim g
              | some bs =>
                rw [Option.bind_some, hm] at g
                rw [bls_of hm q] at t
                exact cr_all hc pins s σ H _ us Q I rs ⟨a, bs, rfl, t, Got.here (a := D.bl (bs.all id)) g l _ (.bl _)⟩
          · exact False.elim g
        | any =>
          simp only at g
          split at g
          · obtain ⟨a, rfl, ha⟩ := r1.loc_inv
            cases hi : itemsOf h _ with
            | none => rw [hi] at g; exact False.elim g
            | some xs =>
              rw [hi] at g
              obtain ⟨ws, t, q⟩ := l.items hi ha
              cases hm : mapO isBlD xs with
              | none => rw [Option.bind_some, hm] at g; exact False.elim g
              | some bs =>
                rw [Option.bind_some, hm] at g
                rw [bls_of hm q] at t
                exact cr_any hc pins s σ H _ us Q I rs ⟨a, bs, rfl, t, Got.here (a := D.bl (bs.any id)) g l _ (.bl _)⟩
          · exact False.elim g
        | sum =>
          simp only at g
          split at g
          · obtain ⟨a, rfl, ha⟩ := r1.loc_inv
            cases hi : itemsOf h _ with
            | none => rw [hi] at g; exact False.elim g
            | some xs =>
              rw [hi] at g
              obtain ⟨ws, t, q⟩ := l.items hi ha
              cases hm : mapO isIntD xs with
              | none => rw [Option.bind_some, hm] at g; exact False.elim g
              | some bs =>
                rw [Option.bind_some, hm] at g
                rw [ints_of hm q] at t
                exact cr_sum hc pins s σ H _ us Q I rs ⟨a, bs, rfl, t, Got.here (a := D.int bs.sum) g l _ (.int _)⟩
          · obtain ⟨a, rfl, t⟩ := r1.scr_inv
            exact cr_sum hc pins s σ H _ us Q I rs ⟨a, _, rfl, t.sq, g.here l _ (.int _)⟩
          · exact False.elim g
        | abs =>
          simp only at g
          split at g
          · cases r1.int_inv
            exact call_abs pins s σ H _ us Q I rs ⟨_, rfl, g.here l _ (.int _)⟩
          · exact False.elim g
        | list =>
          simp only at g
          cases hs : seqOf h x with
          | none => rw [hs] at g; exact False.elim g
          | some xs =>
            rw [hs] at g
            obtain ⟨a, ws, rfl, t, q⟩ := seqOf_sq l r1 hs
            refine call_list_of pins s σ H _ us Q I rs ⟨a, ws, rfl, t, fun p hp => ?_⟩
            obtain ⟨n1, n2, n3⟩ := new_lst l hp q
            exact Got.ok (a := D.loc h.length) g n2 n1 _ n3
        | tuple =>
          simp only at g
          cases x with
          | tup xs =>
            obtain ⟨a, ws, rfl, t, q⟩ := r1.tup_inv
            exact call_tupleT pins s σ H _ us Q I rs ⟨a, ws, rfl, t.sq, Got.here (a := D.tup xs) (h := h) g l _ (.tup t q)⟩
          | loc n =>
            obtain ⟨a, rfl, ha⟩ := r1.loc_inv
            have g : Got X.K cl as H ((itemsOf h n).map fun xs => (D.tup xs, h)) (QD X.K Q) := g
            cases hi : itemsOf h n with
            | none => rw [hi] at g; exact False.elim g
            | some xs =>
              rw [hi] at g
              obtain ⟨ws, t, q⟩ := l.items hi ha
              obtain ⟨u, rfl, ru⟩ := vals1 rs
              cases (show u = Value.ref a from ru)
              obtain ⟨its, r', pl, hz⟩ := I.list t
              have hlen := r'.length
              refine call_tuple_list pl.isList (fun h' kp => ?_) (by simp only [List.size_toArray]; omega)
              have I1 : L2.Inv X pins σ H { s with heap := h' } := I.kept (t' := s.toks) kp
              exact ⟨.ref h'.objs.size, _, laid_tup I1 r' hz, rfl, new_tup l q g _ (I1.hok.fresh (Nat.le_refl _)) _ rfl⟩
          | scr ns =>
            obtain ⟨a, rfl, t⟩ := r1.scr_inv
            obtain ⟨u, rfl, ru⟩ := vals1 rs
            cases (show u = Value.ref a from ru)
            obtain ⟨its, r', pl, hz⟩ := I.list t.sq
            have hlen := r'.length
            refine call_tuple_list pl.isList (fun h' kp => ?_) (by simp only [List.size_toArray]; omega)
            have I1 : L2.Inv X pins σ H { s with heap := h' } := I.kept (t' := s.toks) kp
            exact ⟨.ref h'.objs.size, _, laid_tup I1 r' hz, rfl, new_tup l (rp_ints ns) g _ (I1.hok.fresh (Nat.le_refl _)) _ rfl⟩
          | _ => exact False.elim g
    · exact False.elim g
end
end Ev

namespace Ev
open PySem PySem.Spec PyProof.Rows L2

/-! ### isinstance -/
inductive Tk where
  | none | bool | int | str | list | tuple | dict
  deriving DecidableEq
def tkName : Tk → String
  | .none => "NoneType"
  | .bool => "bool"
  | .int => "int"
  | .str => "str"
  | .list => "list"
  | .tuple => "tuple"
  | .dict => "dict"
def tkOf (h : Hh) : D → Option Tk
  | .non => some .none
  | .bl _ => some .bool
  | .int _ => some .int
  | .str _ => some .str
  | .tup _ => some .tuple
  | .scr _ => some .list
  | .loc n => match h[n]? with
    | some (.lst _) => some .list
    | some (.dct _) => some .dict
    | _ => Option.none
/-- whether a thing of one type is one of the other -/
def isiK (a b : Tk) : Bool := decide (a = b) || (decide (a = .bool) && decide (b = .int))
theorem kit_all (a b : Tk) : kitB (tkName a) (tkName b) = some (isiK a b) := by cases a <;> cases b <;> decide +kernel
def tkStr : Tk → Str
  | .none => "None"
  | .bool => "bool"
  | .int => "int"
  | .str => "str"
  | .list => "list"
  | .tuple => "tuple"
  | .dict => "dict"
theorem tk_boot (t : Tk) (h : t ≠ .none) : bootBuiltins (tkStr t) = some (.type (tkName t)) := by
  cases t <;> first | exact absurd rfl h | decide +kernel
theorem tk_name (t : Tk) : tkStr t ≠ "__name__" ∧ (tkStr t == ("__debug__" : Str)) = false := by cases t <;> decide +kernel
theorem isi_boot : bootBuiltins "isinstance" = some (.builtin "isinstance") := by decide +kernel
def sIsi (t : Tk) (x : D) (h : Hh) : Option (D × Hh) := (tkOf h x).map fun k => (.bl (isiK k t), h)
section
variable {X : Cx} {cl : Nat → Option Addr} {XW : XWT} {a b e o : Expr} {es : List Expr} {fs : FA} {fa fb fo : FE} {pos p p2 apos : Pos}
theorem tyx_of {K : PySem.W.Frag} {as : List Addr} {h : Hh} {H : Hp} (l : Rl K cl as h H) {x : D} {v : V} {k : Tk} (r : Rp K as H x v) (e : tkOf h x = some k) : TyX K H v (.type (tkName k)) := by
  cases x with
  | non => cases e; cases r.non_inv; exact .base .non
  | bl b => cases e; cases r.bl_inv; exact .base (.bl b)
  | int b => cases e; cases r.int_inv; exact .base (.int b)
  | str b => cases e; cases r.str_inv; exact .base (.str b)
  | tup xs =>
    cases e
    obtain ⟨a, vs, rfl, t, _⟩ := r.tup_inv
    rcases t with ⟨ob, _, t⟩ | ⟨ob, its, n, h1, h2, _⟩
    · exact .fTuple t
    · exact .kTuple h1 h2
  | scr ns =>
    cases e
    obtain ⟨a, rfl, t⟩ := r.scr_inv
    rcases t with ⟨ob, t⟩ | ⟨ob, its, n, h1, h2, _⟩
    · exact .base (.frz t)
    · exact .kList h1 h2
  | loc n =>
    obtain ⟨a, rfl, ha⟩ := r.loc_inv
    unfold tkOf at e
    simp only at e
    split at e
    · rename_i xs hn
      cases e
      obtain ⟨vs, t, _⟩ := l.lst hn ha
      exact .base (.lst t)
    · rename_i xs hn
      cases e
      obtain ⟨vs, t, _⟩ := l.dct hn ha
      exact .base (.dK t)
    · cases e
theorem se_isi {t : Tk} (ht : t ≠ .none) (hg : Gl X "isinstance") (hm : X.mg "isinstance" = none) (hg2 : Gl X (tkStr t)) (hm2 : X.mg (tkStr t) = none) (ha : PE X a (tF X.K cl XW fa))
    (hs : starEach [a, .Name (tkStr t) p2] X.env = [(false, eval a X.env), (false, eval (.Name (tkStr t) p2) X.env)]) : PE X (.Call (.Name "isinstance" p) [a, .Name (tkStr t) p2] [] pos) (tF X.K cl XW (f1 (sIsi t) fa)) := by
  have pn : PE X (.Name (tkStr t) p2) (tC (.ty (tkName t))) := pe_bltn hg2 hm2 (tk_boot t ht) rfl (tk_name t).1 (tk_name t).2
  refine ⟨fun pins s σ H Q I h => (pe_callB call_isi hg hm isi_boot (pa_cons ha (pa_cons pn pa_nil rfl) hs) (by decide) (by decide) hs rfl).run pins s σ H Q I ?_⟩
  obtain ⟨as, env, hh, x, e, o⟩ := h
  refine tF.step x e o fun d v as1 h1 H1 y1 x1 e1 r1 o1 => ?_
  have g := o1.got
  unfold sIsi at g
  cases hk : tkOf h1 d with
  | none => rw [hk] at g; exact False.elim g
  | some k =>
    rw [hk] at g
    exact ⟨v, .ty (tkName t), .type (tkName k), .type (tkName t), isiK k t, rfl, .ty _, tyx_of x1 r1 hk, kit_ty (kit_all k t), Got.here (a := D.bl (isiK k t)) (h := h1) g x1 _ (.bl _)⟩

/-! ### a[b] -/
def sIdx (x y : D) (h : Hh) : Option (D × Hh) :=
  match x with
  | .str z => match y with
    | .int i => if z.length ≤ sizeLine then (atI z.cps.toList i).map fun c => (.str ⟨#[c]⟩, h) else none
    | _ => none
  | .tup xs => match y with
    | .int i => (atI xs i).map fun d => (d, h)
    | _ => none
  | .scr ns => match y with
    | .int i => (atI ns i).map fun d => (.int d, h)
    | _ => none
  | .loc n => match h[n]? with
    | some (.lst xs) => match y with
      | .int i => (atI xs i).map fun d => (d, h)
      | _ => none
    | some (.dct kvs) => ((keyOf y).bind fun k => valD kvs k).map fun d => (d, h)
    | _ => none
  | _ => none
theorem atI_rp {K : PySem.W.Frag} {as : List Addr} {H : Hp} {xs : List D} {vs : List V} {i : Int} {d : D} (r : RpL K as H xs vs) (e : atI xs i = some d) : ∃ v, atI vs i = some v ∧ Rp K as H d v := by
  unfold atI at e ⊢
  rw [← r.length]
  cases hj : ixN xs.length i with
  | none => rw [hj] at e; cases e
  | some j =>
    rw [hj] at e
    exact r.get e
theorem atI_int {ns : List Int} {i d : Int} (h : atI ns i = some d) : atI (ns.map D.int) i = some (.int d) := by
  unfold atI at h ⊢
  rw [List.length_map]
  cases hj : ixN ns.length i with
  | none => rw [hj] at h; cases h
  | some j =>
    rw [hj] at h
    have h : ns[j]? = some d := h
    show (ns.map D.int)[j]? = _
    rw [List.getElem?_map, h]
    rfl
theorem sub_dict {M : Program} {w : World} {A : Around} {E : Value → Shared → Prop} {s : Shared} {value slice : Expr} {d : Addr} {i : Value} {Q : Value → Shared → Prop} (hT : s.TypeIs (.ref d) "dict")
    (hs : subscripted slice false (.ref d) i = operate [.ref d, i] (getItem (.ref d) i)) (h : wpAny (model M w) A (getItem (.ref d) i) Q E s) : wpAny (model M w) A (subscriptTail value slice (.ref d) i) Q E s := by
  unfold subscriptTail
  refine wpAny_bind ?_
  rw [getitemInPython_of_ne hT.not_modules]
  have k : wpAny (model M w) A (subscripted slice false (.ref d) i) (fun r s1 => wpAny (model M w) A (letTemporaryGo value (.ref d) r >>= fun _ => pure r) Q E s1) E s := by
    rw [hs]
    refine wpAny_operating (wpAny_mono h (fun r s1 q => ?_) fun _ _ z => z)
    exact wpAny_bind (wpAny_letTemporaryGo (wpAny_pure q))
  refine wpAny_bind (wpAny_specialOf hT PySem.F.slot_dict_getitem.lookup ?_)
  first
    | exact wpAny_pure (wpAny_bind k)
    | exact wpAny_bind (wpAny_pure (wpAny_bind k))
    | exact wpAny_bind k
theorem ix_sIdx (hu : X.A.units + 65 < cLine) : IxR X (rG2 X.K cl sIdx) := by
  intro value slice pins s σ H vx vy v u Q I rx ry q hs
  obtain ⟨as, h, x, y, l, r1, r2, g⟩ := q
  unfold sIdx at g
  split at g
  · split at g
    · cases r1.str_inv; cases r2.int_inv
      split at g
      · rename_i hz
        cases hc : atI _ _ with
        | none => rw [hc] at g; exact False.elim g
        | some c =>
          rw [hc] at g
          exact ix_str value slice pins s σ H _ _ v u Q I rx ry ⟨_, _, c, rfl, rfl, hz, hc, Got.here (a := D.str ⟨#[c]⟩) (h := h) g l _ (.str _)⟩ hs
      · exact False.elim g
    · exact False.elim g
  · split at g
    · cases r2.int_inv
      obtain ⟨a, ws, rfl, t, q⟩ := r1.tup_inv
      cases hc : atI _ _ with
      | none => rw [hc] at g; exact False.elim g
      | some d =>
        rw [hc] at g
        obtain ⟨w, e1, rw'⟩ := atI_rp q hc
        exact ix_tup value slice pins s σ H _ _ v u Q I rx ry ⟨a, ws, _, w, rfl, rfl, t.sq, e1, Got.here (a := d) (h := h) g l _ rw'⟩ hs
    · exact False.elim g
  · split at g
    · cases r2.int_inv
      obtain ⟨a, rfl, t⟩ := r1.scr_inv
      cases hc : atI _ _ with
      | none => rw [hc] at g; exact False.elim g
      | some d =>
        rw [hc] at g
        obtain ⟨w, e1, rw'⟩ := atI_rp (xs := List.map D.int _) (rp_ints (K := X.K) (as := as) (H := H) _) (atI_int hc)
        cases rw'.int_inv
        exact ix_list value slice pins s σ H _ _ v u Q I rx ry ⟨a, _, _, _, rfl, rfl, t.sq, e1, Got.here (a := D.int d) (h := h) g l _ (.int _)⟩ hs
    · exact False.elim g
  · obtain ⟨a, rfl, ha⟩ := r1.loc_inv
    split at g
    · rename_i xs hn
      split at g
      · cases r2.int_inv
        obtain ⟨ws, t, q⟩ := l.lst hn ha
        cases hc : atI _ _ with
        | none => rw [hc] at g; exact False.elim g
        | some d =>
          rw [hc] at g
          obtain ⟨w, e1, rw'⟩ := atI_rp q hc
          exact ix_list value slice pins s σ H _ _ v u Q I rx ry ⟨a, ws, _, w, rfl, rfl, SqL.of t, e1, Got.here (a := d) (h := h) g l _ rw'⟩ hs
      · exact False.elim g
    · rename_i kvs hn
      obtain ⟨ws, t, q⟩ := l.dct hn ha
      cases hk : keyOf y with
      | none => rw [hk] at g; exact False.elim g
      | some k =>
        rw [hk] at g
        cases hd : valD kvs k with
        | none => rw [Option.bind_some, hd] at g; exact False.elim g
        | some d =>
          rw [Option.bind_some, hd] at g
          obtain ⟨w, e1, rw'⟩ := (valD_rp q).1 d hd
          cases keyOf_kV r2 hk
          cases (show v = Value.ref a from rx)
          have dg : DGet H a (kV k) (some w) := by rw [← e1]; exact DGet.k t
          exact sub_dict (dict_typeIs I dg) hs (d_getItem (by omega) I dg ry fun w' s' I' rv => ⟨w, H, I', rv, Got.here (a := d) (h := h) g l _ rw'⟩)
    · exact False.elim g
  · exact False.elim g
theorem se_idx (hu : X.A.units + 65 < cLine) (ha : PE X a (tF X.K cl XW fa)) (hb : PE X b (tF X.K cl XW fb)) (hs : PlainIx b) : PE X (.Subscript a b pos) (tF X.K cl XW (f2 sIdx fa fb)) :=
  ⟨fun pins s σ H Q I h => (pe_ix (ix_sIdx hu) ha hb hs).run pins s σ H Q I (t2_of h)⟩

/-! ### a[lo:hi] -/
abbrev FO := Nv → Hh → R (Option Int)
def tFO (K : PySem.W.Frag) (cl : Nat → Option Addr) (XW : XWT) (f : FO) : TO := fun s H Q => ∃ as env h, Rl K cl as h H ∧ EnvR K as H env s ∧ Out K cl XW s as H (f env h) fun i _ _ H' => Q i H'
def oNil : FO := fun _ h => .ok none h
def oSome (fa : FE) : FO := fun env h => (fa env h).bind fun x h1 => match x with
  | .int i => .ok (some i) h1
  | _ => .bad
theorem so_nil : PO X none (tFO X.K cl XW oNil) := by
  refine ⟨fun pins s σ H Q I h => po_none.run pins s σ H Q I ?_⟩
  obtain ⟨as, env, hh, x, e, o⟩ := h
  exact Out.here (a := none) o x
theorem so_some (ha : PE X a (tF X.K cl XW fa)) : PO X (some a) (tFO X.K cl XW (oSome fa)) := by
  refine ⟨fun pins s σ H Q I h => (po_some ha).run pins s σ H Q I ?_⟩
  obtain ⟨as, env, hh, x, e, o⟩ := h
  refine tF.step x e o fun d v as1 h1 H1 y1 x1 e1 r1 o1 => ?_
  cases d with
  | int i => exact ⟨i, r1.int_inv, Out.here (a := some i) o1 x1⟩
  | _ => exact False.elim o1
def cutD (xs : List D) (lo hi : Option Int) : List D := (xs.drop (HT.sIx xs.length 0 lo)).take (HT.sIx xs.length xs.length hi - HT.sIx xs.length 0 lo)
theorem cut_rp {K : PySem.W.Frag} {as : List Addr} {H : Hp} {xs : List D} {vs : List V} (r : RpL K as H xs vs) (lo hi : Option Int) : RpL K as H (cutD xs lo hi) (cutV vs lo hi) := by
  unfold cutD cutV
  rw [r.length]
  exact (r.drop _).take _
def sSlc (x : D) (lo hi : Option Int) (h : Hh) : Option (D × Hh) :=
  match x with
  | .str z => if z.length ≤ sizeLine then some (.str (cutS z lo hi), h) else none
  | .tup xs => some (.tup (cutD xs lo hi), h)
  | .loc n => (itemsOf h n).map fun xs => (.loc h.length, h ++ [.lst (cutD xs lo hi)])
  | .scr ns => some (.loc h.length, h ++ [.lst (cutD (ns.map .int) lo hi)])
  | _ => none
def rGs (K : PySem.W.Frag) (cl : Nat → Option Addr) : V → Option Int → Option Int → Hp → VK → Prop := fun vx lo hi H Q => ∃ as h x, Rl K cl as h H ∧ Rp K as H x vx ∧ Got K cl as H (sSlc x lo hi h) (QD K Q)
theorem sl_sSlc : SlR X (rGs X.K cl) := by
  intro pins s σ H vx v vl vu lo hi sl Q I rx hs pl pu q
  obtain ⟨as, h, x, l, r, g⟩ := q
  unfold sSlc at g
  split at g
  · cases r.str_inv
    split at g
    · rename_i hz
      exact sl_str pins s σ H _ v vl vu lo hi sl Q I rx hs pl pu ⟨_, rfl, hz, g.here l _ (.str _)⟩
    · exact False.elim g
  · obtain ⟨a, ws, rfl, t, q⟩ := r.tup_inv
    rename_i xs
    cases rx
    obtain ⟨its, rv, ht, hz⟩ := I.tuple t.sq
    have hlen : its.toArray.size = ws.length := by rw [List.size_toArray]; exact rv.length.symm
    by_cases hw : HT.sIx ws.length 0 lo = 0 ∧ HT.sIx ws.length ws.length hi = ws.length
    · have hc : cutD xs lo hi = xs := by
        unfold cutD
        rw [q.length, hw.1, hw.2, ← q.length]
        simp
      rw [hc] at g
      exact sl_tupA pins s σ H (.ref a) _ vl vu lo hi sl Q I rfl hs pl pu ⟨a, ws, rfl, t.sq, fun _ => g.here l _ (.tup t q), fun z => absurd hw z⟩
    · refine ⟨"tuple", _, PyProof.Rows.slot_tuple_getitem.lookup, ht.typeIs, ?_⟩
      refine HT.getItem_tuple_cut ht hs pl pu (by rw [hlen]; exact hw) ?_ (by rw [hlen]; exact hz)
      rw [hlen]
      refine ⟨.ref s.heap.objs.size, _, laid_tup (xs := cutV ws lo hi) I ?_ (Nat.le_trans (cutV_length ws lo hi) hz), rfl, new_tup l (cut_rp q lo hi) g _ (I.hok.fresh (Nat.le_refl _)) _ rfl⟩
      exact (rv.drop _).take _
  · obtain ⟨a, rfl, ha⟩ := r.loc_inv
    rename_i n
    cases hi' : itemsOf h n with
    | none => rw [hi'] at g; exact False.elim g
    | some xs =>
      rw [hi'] at g
      obtain ⟨ws, t, q⟩ := l.items hi' ha
      refine sl_list pins s σ H _ v vl vu lo hi sl Q I rx hs pl pu ⟨a, ws, rfl, t, fun p hp => ?_⟩
      obtain ⟨n1, n2, n3⟩ := new_lst l hp (cut_rp q lo hi)
      exact Got.ok (a := D.loc h.length) g n2 n1 _ n3
  · obtain ⟨a, rfl, t⟩ := r.scr_inv
    refine sl_list pins s σ H _ v vl vu lo hi sl Q I rx hs pl pu ⟨a, _, rfl, t.sq, fun p hp => ?_⟩
    obtain ⟨n1, n2, n3⟩ := new_lst l hp (cut_rp (rp_ints _) lo hi)
    exact g.ok n2 n1 _ n3
  · exact False.elim g
def fSlc (fa : FE) (flo fhi : FO) : FE := fun env h => (fa env h).bind fun x h1 => (flo env h1).bind fun lo h2 => (fhi env h2).bind fun hi h3 => lift (sSlc x lo hi h3)
theorem se_slc {lo hi : Option Expr} {flo fhi : FO} (ha : PE X a (tF X.K cl XW fa)) (hl : PO X lo (tFO X.K cl XW flo)) (hh : PO X hi (tFO X.K cl XW fhi)) : PE X (.Subscript a (.Slice lo hi none p2) pos) (tF X.K cl XW (fSlc fa flo fhi)) := by
  refine ⟨fun pins s σ H Q I h => (pe_slice (sl_sSlc (cl := cl)) ha hl hh).run pins s σ H Q I ?_⟩
  obtain ⟨as, env, hp, x, e, o⟩ := h
  refine tF.step x e o fun d v as1 h1 H1 y1 x1 e1 r1 o1 => ?_
  refine ⟨as1, env, h1, x1, e1, o1.bind.mono fun i as2 h2 H2 y2 x2 o2 => ?_⟩
  have e2 := e1.mono y2.le (y2.tk x1)
  refine ⟨as2, env, h2, x2, e2, o2.bind.mono fun j as3 h3 H3 y3 x3 o3 => ?_⟩
  exact ⟨as3, h3, d, x3, (r1.mono y2.le (y2.tk x1)).mono y3.le (y3.tk x2), o3.got⟩
end
end Ev

namespace Ev
open PySem PySem.Spec PyProof.Rows L2

/-! ### methods of built-in things -/
inductive Mn where
  | append | extend | pop | index | split | join | upper | get
  deriving DecidableEq
def mnStr : Mn → Str
  | .append => "append"
  | .extend => "extend"
  | .pop => "pop"
  | .index => "index"
  | .split => "split"
  | .join => "join"
  | .upper => "upper"
  | .get => "get"
def mId : Tk → Mn → Option String
  | .list, .append => some "list.append"
  | .list, .extend => some "list.extend"
  | .list, .pop => some "list.pop"
  | .list, .index => some "list.index"
  | .tuple, .index => some "tuple.index"
  | .str, .split => some "str.split"
  | .str, .join => some "str.join"
  | .str, .upper => some "str.upper"
  | .dict, .get => some "dict.get"
  | _, _ => none
structure MF (T : String) (name : Str) (id : String) : Prop where
  pa : PlainAttrs T
  slot : Slot T name id
  ty : typeOf (.builtin id) = pure (.type "method_descriptor")
theorem mf_of {t : Tk} {m : Mn} {id : String} (e : mId t m = some id) : MF (tkName t) (mnStr m) id := by
  unfold mId at e
  split at e <;> first
    | (cases e; exact ⟨PySem.F.plainAttrs_list, PySem.F.slot_list_append, PySem.F.type_list_append⟩)
    | (cases e; exact ⟨PySem.F.plainAttrs_list, PySem.F.slot_list_extend, PySem.F.type_list_extend⟩)
    | (cases e; exact ⟨PySem.F.plainAttrs_list, PySem.F.slot_list_pop, PySem.F.type_list_pop⟩)
    | (cases e; exact ⟨PySem.F.plainAttrs_list, PySem.F.slot_list_index, PySem.F.type_list_index⟩)
    | (cases e; exact ⟨PySem.F.plainAttrs_tuple, PySem.F.slot_tuple_index, PySem.F.type_tuple_index⟩)
    | (cases e; exact ⟨PySem.F.plainAttrs_str, PySem.F.slot_str_split, PySem.F.type_str_split⟩)
    | (cases e; exact ⟨PySem.F.plainAttrs_str, PySem.F.slot_str_join, PySem.F.type_str_join⟩)
    | (cases e; exact ⟨PySem.F.plainAttrs_str, PySem.F.slot_str_upper, PySem.F.type_str_upper⟩)
    | (cases e; exact ⟨PySem.F.plainAttrs_dict, PySem.F.slot_dict_get, PySem.F.type_dict_get⟩)
    | cases e
/-- the first place of a flat datum -/
def firstF (x : D) : List D → Option Nat
  | [] => none
  | y :: ys => if eqF y x = true then some 0 else (firstF x ys).map (· + 1)
def sM (m : Mn) (t : Tk) (x : D) (ds : List D) (h : Hh) : Option (D × Hh) :=
  match t, m with
  | .list, .append => match x, ds with
    | .loc n, [y] => match h[n]? with
      | some (.lst xs) => if xs.length < sizeLine then some (.non, h.set n (.lst (xs ++ [y]))) else none
      | _ => none
    | _, _ => none
  | .list, .extend => match x, ds with
    | .loc n, [.loc k] => match h[n]?, h[k]? with
      | some (.lst xs), some (.lst ys) => if xs.length + ys.length ≤ sizeLine then some (.non, h.set n (.lst (xs ++ ys))) else none
      | _, _ => none
    | _, _ => none
  | .list, .pop => match x, ds with
    | .loc n, [] => match h[n]? with
      | some (.lst xs) => (xs[xs.length - 1]?).map fun y => (y, h.set n (.lst xs.dropLast))
      | _ => none
    | .loc n, [.int 0] => match h[n]? with
      | some (.lst (y :: xs)) => some (y, h.set n (.lst xs))
      | _ => none
    | _, _ => none
  | .list, .index => match x, ds with
    | .loc n, [y] => match itemsOf h n with
      | some xs => if (flatD y && xs.all flatD) = true then (firstF y xs).map fun j => (.int j, h) else none
      | _ => none
    | _, _ => none
  | .tuple, .index => match x, ds with
    | .tup xs, [.str z] => match mapO isStrD xs with
      | some ss => (firstF (.str z) xs).map fun j => (.int j, h)
      | none => none
    | _, _ => none
  | .str, .split => match x, ds with
    | .str a, [.str b] => if (b.length == 0) = false ∧ a.length + 2 ≤ sizeLine then some (.loc h.length, h ++ [.lst ((Txt.split a b).map D.str)]) else none
    | _, _ => none
  | .str, .join => match x, ds with
    | .str a, [y] => match (seqOf h y).bind (mapO isStrD) with
      | some ss => if (ss.map (·.length)).sum + ss.length * a.length ≤ 16777216 then some (.str (Txt.join a ss), h) else none
      | none => none
    | _, _ => none
  | .str, .upper => match x, ds with
    | .str a, [] => if a.length ≤ 5592405 then some (.str (Txt.upper a), h) else none
    | _, _ => none
  | .dict, .get => match x, ds with
    | .loc n, [y] => match h[n]? with
      | some (.dct kvs) => (keyOf y).map fun k => ((valD kvs k).getD .non, h)
      | _ => none
    | .loc n, [y, z] => match h[n]? with
      | some (.dct kvs) => (keyOf y).map fun k => ((valD kvs k).getD z, h)
      | _ => none
    | _, _ => none
  | _, _ => none
def rGm (K : PySem.W.Frag) (cl : Nat → Option Addr) (f : D → List D → Hh → Option (D × Hh)) : V → List V → Hp → VK → Prop := fun vx vs H Q => ∃ as h x ds, Rl K cl as h H ∧ Rp K as H x vx ∧ RpL K as H ds vs ∧ Got K cl as H (f x ds h) (QD K Q)
section
variable {X : Cx} {cl : Nat → Option Addr} {XW : XWT} {a b e o : Expr} {es : List Expr} {fs : FA} {fa fb fo : FE} {pos p p2 apos : Pos}
theorem firstF_at {x : D} : ∀ {xs : List D} {j : Nat}, firstF x xs = some j → (∃ y, xs[j]? = some y ∧ eqF y x = true) ∧ ∀ m y, m < j → xs[m]? = some y → eqF y x = false
  | [], _, e => by cases e
  | y :: ys, j, e => by
    unfold firstF at e
    split at e
    · rename_i hy
      cases e
      exact ⟨⟨y, rfl, hy⟩, fun m z hm => absurd hm (Nat.not_lt_zero _)⟩
    · rename_i hy
      cases hf : firstF x ys with
      | none => rw [hf] at e; cases e
      | some k =>
        rw [hf] at e
        cases e
        obtain ⟨⟨z, h1, h2⟩, h3⟩ := firstF_at hf
        refine ⟨⟨z, by simpa using h1, h2⟩, fun m w hm hw => ?_⟩
        cases m with
        | zero =>
          simp at hw
          subst hw
          simpa using hy
        | succ m =>
          have hm : m + 1 < k + 1 := hm
          exact h3 m w (by omega) (by simpa using hw)
/-- a list changes -/
theorem set_lst {K : PySem.W.Frag} {as : List Addr} {h : Hh} {H : Hp} {n : Nat} {a : Addr} {ds : List D} {vs : List V} (l : Rl K cl as h H) (ha : as[n]? = some a) (ht : NT H a) (r : RpL K as H ds vs) :
    Rl K cl as (h.set n (.lst ds)) (upd H a (.lst vs)) ∧ TK K H (upd H a (.lst vs)) :=
  l.set ha ⟨vs, upd_same, r.mono (Le.refl _) (TK.upd ht)⟩
theorem RpL.dropLast {K : PySem.W.Frag} {as : List Addr} {H : Hp} {ds : List D} {vs : List V} (r : RpL K as H ds vs) : RpL K as H ds.dropLast vs.dropLast := by
  rw [List.dropLast_eq_take, List.dropLast_eq_take, r.length]
  exact r.take _
theorem getD_rp {K : PySem.W.Frag} {as : List Addr} {H : Hp} {kvs : List (Key × D)} {ys : List (Key × V)} {k : Key} {z : D} {v : V} (r : RpK K as H kvs ys) (rz : Rp K as H z v) : Rp K as H ((valD kvs k).getD z) ((valV ys k).getD v) := by
  cases hd : valD kvs k with
  | none => rw [(valD_rp r).2 hd]; exact rz
  | some d =>
    obtain ⟨w, e, rw'⟩ := (valD_rp r).1 d hd
    rw [e]
    exact rw'
theorem mt_sM (hu : X.A.units + 65 < cLine) {t : Tk} {m : Mn} {id : String} (hid : mId t m = some id) : MtR X id (rGm X.K cl (sM m t)) := by
  intro pins s σ H vx vs v us Q I rx rs q
  obtain ⟨as, h, x, ds, l, r, rd, g⟩ := q
  unfold mId at hid
  split at hid
  · cases hid
    unfold sM at g
    simp only at g
    split at g
    · rename_i n y
      obtain ⟨a, rfl, ha⟩ := r.loc_inv
      cases rd with
      | cons ry r0 =>
        cases r0
        split at g
        · rename_i xs hn
          obtain ⟨ws, tl, q⟩ := l.lst hn ha
          split at g
          · rename_i hz
            have nt := noTup_lst tl
            obtain ⟨n1, n2⟩ := set_lst l ha nt (q.app (RpL.one ry))
            exact mt_append pins s σ H _ _ v us Q I rx rs ⟨a, ws, _, rfl, rfl, tl, by rw [← q.length]; exact hz, g.ok (Step.set ha) n1 _ .non⟩
          · exact False.elim g
        · exact False.elim g
    · exact False.elim g
  · cases hid
    unfold sM at g
    simp only at g
    split at g
    · rename_i n k
      obtain ⟨a, rfl, ha⟩ := r.loc_inv
      cases rd with
      | cons ry r0 =>
        cases r0
        obtain ⟨b, rfl, hb⟩ := ry.loc_inv
        split at g
        · rename_i xs ys hn hk
          obtain ⟨ws, tl, q⟩ := l.lst hn ha
          obtain ⟨zs, tl2, q2⟩ := l.lst hk hb
          split at g
          · rename_i hz
            obtain ⟨n1, n2⟩ := set_lst l ha (noTup_lst tl) (q.app q2)
            exact mt_extend pins s σ H _ _ v us Q I rx rs ⟨a, b, ws, zs, rfl, rfl, tl, tl2, by rw [← q.length, ← q2.length]; exact hz, g.ok (Step.set ha) n1 _ .non⟩
          · exact False.elim g
        · exact False.elim g
    · exact False.elim g
  · cases hid
    unfold sM at g
    simp only at g
    split at g
    · rename_i n
      obtain ⟨a, rfl, ha⟩ := r.loc_inv
      cases rd
      split at g
      · rename_i xs hn
        obtain ⟨ws, tl, q⟩ := l.lst hn ha
        cases hy : xs[xs.length - 1]? with
        | none => rw [hy] at g; exact False.elim g
        | some y =>
          rw [hy] at g
          obtain ⟨w, e1, rw'⟩ := q.get hy
          obtain ⟨n1, n2⟩ := set_lst l ha (noTup_lst tl) q.dropLast
          exact mt_pop pins s σ H _ _ v us Q I rx rs ⟨a, ws, w, rfl, rfl, tl, by rw [← q.length]; exact e1, Got.ok (a := y) g (Step.set ha) n1 _ (rw'.mono (Le.refl _) n2)⟩
      · exact False.elim g
    · rename_i n
      obtain ⟨a, rfl, ha⟩ := r.loc_inv
      cases rd with
      | cons ry r0 =>
        cases r0
        cases ry.int_inv
        split at g
        · rename_i y xs hn
          obtain ⟨ws, tl, q⟩ := l.lst hn ha
          cases q with
          | @cons _ w _ ws qy qs =>
            obtain ⟨n1, n2⟩ := set_lst l ha (noTup_lst tl) qs
            exact mt_popAt pins s σ H _ _ v us Q I rx rs ⟨a, w :: ws, 0, 0, w, rfl, rfl, tl, by decide, by decide, by simp [seqIndex?], rfl, g.ok (Step.set ha) n1 _ (qy.mono (Le.refl _) n2)⟩
        · exact False.elim g
    · exact False.elim g
  · cases hid
    unfold sM at g
    simp only at g
    split at g
    · rename_i n y
      obtain ⟨a, rfl, ha⟩ := r.loc_inv
      cases rd with
      | cons ry r0 =>
        cases r0
        split at g
        · rename_i xs hi
          obtain ⟨ws, tl, q⟩ := l.items hi ha
          split at g
          · rename_i hf
            rw [Bool.and_eq_true] at hf
            cases hj : firstF y xs with
            | none => rw [hj] at g; exact False.elim g
            | some j =>
              rw [hj] at g
              obtain ⟨⟨z, h1, h2⟩, h3⟩ := firstF_at hj
              obtain ⟨w, e1, rw'⟩ := q.get h1
              obtain ⟨f1, f2⟩ := all_flat q hf.2
              have fz : flatD z = true := List.all_eq_true.mp hf.2 z (List.mem_of_getElem? h1)
              obtain ⟨ez, fz'⟩ := flat_rp rw' fz
              obtain ⟨ey, fy'⟩ := flat_rp ry hf.1
              refine mt_index pins s σ H _ _ v us Q I rx rs ⟨a, ws, _, j, w, rfl, rfl, tl, fy', f1, e1, by rw [ez, ey, eqF_eq fz hf.1]; exact h2, fun m z' hm hz' => ?_, Got.here (a := D.int j) (h := h) g l _ (.int _)⟩
              obtain ⟨d, e2, rd2⟩ := q.get' hz'
              have fd : flatD d = true := List.all_eq_true.mp hf.2 d (List.mem_of_getElem? e2)
              obtain ⟨ed, _⟩ := flat_rp rd2 fd
              rw [ed, ey, eqF_eq fd hf.1]
              exact h3 m d hm e2
          · exact False.elim g
        · exact False.elim g
    · exact False.elim g
  · cases hid
    unfold sM at g
    simp only at g
    split at g
    · rename_i xs z
      obtain ⟨a, ws, rfl, tl, q⟩ := r.tup_inv
      cases rd with
      | cons ry r0 =>
        cases r0
        cases ry.str_inv
        split at g
        · rename_i ss hs
          cases hj : firstF (.str z) xs with
          | none => rw [hj] at g; exact False.elim g
          | some j =>
            rw [hj] at g
            obtain ⟨⟨y, h1, h2⟩, h3⟩ := firstF_at hj
            have ew := strs_of hs q
            subst ew
            have back : ∀ (m : Nat) (y : Str), ss[m]? = some y → xs[m]? = some (.str y) := fun m y e => by
              obtain ⟨d, e2, r2⟩ := q.get' (i := m) (v := V.str y) (by rw [List.getElem?_map, e]; rfl)
              cases r2
              exact e2
            obtain ⟨w, e1, r1⟩ := q.get h1
            rw [List.getElem?_map] at e1
            cases hsj : ss[j]? with
            | none => rw [hsj] at e1; cases e1
            | some y2 =>
              have e3 := back j y2 hsj
              rw [h1] at e3
              cases e3
              have hyz : y2 = z := by simpa [eqF] using h2
              subst hyz
              exact mt_tup_index pins s σ H _ _ v us Q I rx rs ⟨a, ss, y2, j, rfl, rfl, tl.sq, hsj, fun m hm e => (by
                have := h3 m _ hm (back m y2 e)
                simp [eqF] at this), Got.here (a := D.int j) (h := h) g l _ (.int _)⟩
        · exact False.elim g
    · exact False.elim g
  · cases hid
    unfold sM at g
    simp only at g
    split at g
    · cases r.str_inv
      cases rd with
      | cons ry r0 =>
        cases r0
        cases ry.str_inv
        split at g
        · rename_i hz
          refine mt_split pins s σ H _ _ v us Q I rx rs ⟨_, _, rfl, rfl, hz.1, hz.2, fun p hp => ?_⟩
          obtain ⟨n1, n2, n3⟩ := new_lst l hp (rp_strs _)
          exact g.ok n2 n1 _ n3
        · exact False.elim g
    · exact False.elim g
  · cases hid
    unfold sM at g
    simp only at g
    split at g
    · rename_i y
      cases r.str_inv
      cases rd with
      | cons ry r0 =>
        cases r0
        cases hs : seqOf h y with
        | none => rw [hs] at g; exact False.elim g
        | some xs =>
          rw [hs, Option.bind_some] at g
          split at g
          · rename_i ss hm
            split at g
            · rename_i hz
              obtain ⟨a, ws, rfl, tl, q⟩ := seqOf_sq l ry hs
              have ew := strs_of hm q
              subst ew
              exact mt_join pins s σ H _ _ v us Q I rx rs ⟨_, a, ss, rfl, rfl, tl, hz, g.here l _ (.str _)⟩
            · exact False.elim g
          · exact False.elim g
    · exact False.elim g
  · cases hid
    unfold sM at g
    simp only at g
    split at g
    · cases r.str_inv
      cases rd
      split at g
      · rename_i hz
        exact mt_upper pins s σ H _ _ v us Q I rx rs ⟨_, rfl, rfl, hz, g.here l _ (.str _)⟩
      · exact False.elim g
    · exact False.elim g
  · cases hid
    unfold sM at g
    simp only at g
    have hu1 : X.A.units + 1 < cLine := by omega
    split at g
    · rename_i n y
      obtain ⟨a, rfl, ha⟩ := r.loc_inv
      cases (show v = Value.ref a from rx)
      cases rd with
      | cons ry r0 =>
        cases r0
        obtain ⟨u, rfl, ru⟩ := vals1 rs
        split at g
        · rename_i kvs hn
          obtain ⟨ws, tl, q⟩ := l.dct hn ha
          cases hk : keyOf y with
          | none => rw [hk] at g; exact False.elim g
          | some k =>
            rw [hk] at g
            cases keyOf_kV ry hk
            exact d_get1 hu1 I (DGet.k tl) ru fun w' s' I' rw' => ⟨_, H, I', rw', Got.here (a := (valD kvs k).getD .non) (h := h) g l _ (getD_rp q .non)⟩
        · exact False.elim g
    · rename_i n y z
      obtain ⟨a, rfl, ha⟩ := r.loc_inv
      cases (show v = Value.ref a from rx)
      cases rd with
      | cons ry r0 =>
        cases r0 with
        | cons rz r0 =>
          cases r0
          obtain ⟨u, u2, rfl, ru, ru2⟩ := vals2 rs
          split at g
          · rename_i kvs hn
            obtain ⟨ws, tl, q⟩ := l.dct hn ha
            cases hk : keyOf y with
            | none => rw [hk] at g; exact False.elim g
            | some k =>
              rw [hk] at g
              cases keyOf_kV ry hk
              exact d_get2 hu1 I (DGet.k tl) ru ru2 fun w' s' I' rw' => ⟨_, H, I', rw', Got.here (a := (valD kvs k).getD z) (h := h) g l _ (getD_rp q rz)⟩
          · exact False.elim g
    · exact False.elim g
  · cases hid
theorem ty_at {pins : List (Addr × Obj)} {s : Shared} {σ : L2.St} {H : Hp} {as : List Addr} {h : Hh} {x : D} {v : V} {u : Value} {t : Tk} (I : L2.Inv X pins σ H s) (l : Rl X.K cl as h H) (r : Rp X.K as H x v) (rv : L2.RelV v u) (e : tkOf h x = some t) :
    s.TypeIs u (tkName t) ∧ ∀ a, u = .ref a → ∃ ob, s.heap.get? a = some ob ∧ ob.dict = none := by
  cases x with
  | non => cases e; cases r.non_inv; cases rv; exact ⟨PySem.typeIs_none s, fun _ q => nomatch q⟩
  | bl b => cases e; cases r.bl_inv; cases rv; exact ⟨PySem.typeIs_bool s b, fun _ q => nomatch q⟩
  | int b => cases e; cases r.int_inv; obtain ⟨t, rfl⟩ := rv; exact ⟨typeIs_int s b t, fun _ q => nomatch q⟩
  | str b => cases e; cases r.str_inv; obtain ⟨t, rfl⟩ := rv; exact ⟨typeIs_str s b t, fun _ q => nomatch q⟩
  | tup xs =>
    cases e
    obtain ⟨a, vs, rfl, t, _⟩ := r.tup_inv
    cases (show u = Value.ref a from rv)
    obtain ⟨its, _, p, _⟩ := I.tuple t.sq
    refine ⟨p.typeIs, fun b q => ?_⟩
    cases q
    rcases t with ⟨ob, hd, t⟩ | ⟨ob, its, n, h1, _, h3, _⟩
    · exact ⟨ob, (I.hok a _ t).1, hd⟩
    · exact ⟨ob, I.kIn a ob h1, h3⟩
  | scr ns =>
    cases e
    obtain ⟨a, rfl, t⟩ := r.scr_inv
    cases (show u = Value.ref a from rv)
    obtain ⟨its, _, pl, _⟩ := I.list t.sq
    refine ⟨pl.isList.typeIs, fun b q => ?_⟩
    cases q
    obtain ⟨o, n, e, c, hd, _⟩ := pl
    exact ⟨o, e, hd⟩
  | loc n =>
    obtain ⟨a, rfl, ha⟩ := r.loc_inv
    cases (show u = Value.ref a from rv)
    have lst : ∀ ws, SqL X.K H a ws → s.TypeIs (.ref a) "list" ∧ ∀ b, Value.ref a = .ref b → ∃ ob, s.heap.get? b = some ob ∧ ob.dict = none := fun ws hq => by
      obtain ⟨its, _, pl, _⟩ := I.list hq
      refine ⟨pl.isList.typeIs, fun b q => ?_⟩
      cases q
      obtain ⟨o, n, e, c, hd, _⟩ := pl
      exact ⟨o, e, hd⟩
    unfold tkOf at e
    simp only at e
    split at e
    · rename_i xs hn
      cases e
      obtain ⟨vs, t, _⟩ := l.lst hn ha
      exact lst vs (SqL.of t)
    · rename_i xs hn
      cases e
      obtain ⟨vs, t, _⟩ := l.dct hn ha
      obtain ⟨t1, t2, _⟩ := isD_at I (.inl ⟨vs, .inl t⟩)
      exact ⟨t1, t2⟩
    · cases e
def fM (m : Mn) (fo : FE) (fs : FA) : FE := fun env h => (fo env h).bind fun x h1 => match tkOf h1 x with
  | some t => if (mId t m).isSome = true then (fs env h1).bind fun ds h2 => lift (sM m t x ds h2) else .bad
  | none => .bad
theorem se_mth (hu : X.A.units + 65 < cLine) {m : Mn} {name : Str} (hn : name = mnStr m) (ho : PE X o (tF X.K cl XW fo)) (ha : PA X es (tFA X.K cl XW fs)) (hbase : attributeBase o name X.env (eval o X.env) = eval o X.env)
    (hfew : ((backTo pos (starEach es X.env)).all (fun x => !x.1) && (backToKw pos (keywordEach [] X.env)).all (fun x => x.1.isSome) && decide (es.length + ([] : List Keyword).length + (if ([] : List Keyword).isEmpty then 0 else 1) < 30)) = true)
    (hline : (apos.endLine == pos.line) = true) (hplain : (backTo pos (starEach es X.env)).any (·.1) = false) (hs : ∀ e r, es = e :: r → starEach (e :: r) X.env = (false, eval e X.env) :: starEach r X.env) :
    PE X (.Call (.Attribute o name apos) es [] pos) (tF X.K cl XW (fM m fo fs)) := by
  subst hn
  refine ⟨fun pins s σ H Q I h => ?_⟩
  have hr : tF X.K cl XW fo σ H fun v H1 => ∃ (t : Tk) (id : String) (as1 : List Addr) (h1 : Hh) (x : D), mId t m = some id ∧ tkOf h1 x = some t ∧ Rl X.K cl as1 h1 H1 ∧ Rp X.K as1 H1 x v ∧
      tFA X.K cl XW fs σ H1 fun vs H2 => rGm X.K cl (sM m t) v vs H2 Q := by
    obtain ⟨as, env, hh, x, e, o⟩ := h
    refine tF.step x e o fun d v as1 h1 H1 y1 x1 e1 r1 o1 => ?_
    cases ht : tkOf h1 d with
    | none => rw [ht] at o1; exact False.elim o1
    | some t =>
      rw [ht] at o1
      simp only at o1
      cases hi : mId t m with
      | none =>
        rw [hi] at o1
        rw [if_neg (by simp)] at o1
        exact False.elim o1
      | some id =>
        rw [hi] at o1
        rw [if_pos (by simp)] at o1
        refine ⟨t, id, as1, h1, d, hi, ht, x1, r1, ?_⟩
        exact tFA.step x1 e1 o1 fun ds vs as2 h2 H2 y2 x2 e2 r2 o2 => ⟨as2, h2, d, ds, x2, r1.mono y2.le (y2.tk x1), r2, o2.got⟩
  refine wpAny_Call_method_late hbase hfew hline rfl (thn (ho.run pins s σ H _ I hr) fun v s1 ⟨x, H1, I1, r1, t, id, as1, h1, d, hi, ht, l1, rp, q1⟩ => ?_)
  obtain ⟨t1, t2⟩ := ty_at I1 l1 rp r1 ht
  have mf := mf_of hi
  refine ⟨tkName t, id, mf.pa, mf.slot, mf.ty, t1, t2, Calls.callWith_builtin hplain ?_⟩
  have go := thn (ha.run pos pins s1 σ H1 _ I1 q1) fun us s2 ⟨vs, H2, I2, r2, q2⟩ => mt_sM hu hi pins s2 σ H2 x vs v us Q I2 r1 r2 q2
  cases es with
  | nil =>
    unfold evalArgs
    show wpAny (model X.prog X.w) X.A (spliced (backTo pos (starEach [] X.env)) >>= _) _ _ s1
    refine wpAny_bind (thn go fun us s2 q => ?_)
    refine wpAny_bind (wpAny_pure (wpAny_holding ?_))
    exact wpAny_bind (wpAny_pure (wpAny_bind (wpAny_pure (wpAny_pure q))))
  | cons e1 r =>
    rw [hs e1 r rfl] at go ⊢
    exact Calls.evalArgs_plain go
end
end Ev

namespace Ev
open PySem PySem.Spec PyProof.Rows L2

/-! ### dicts: stores and displays -/
def putD (kvs : List (Key × D)) (k : Key) (v : D) : List (Key × D) :=
  if (kvs.any fun kv => decide (kv.1 = k)) = true then kvs.map (fun kv => if kv.1 = k then (kv.1, v) else kv) else kvs ++ [(k, v)]
def mergeD (kvs more : List (Key × D)) : List (Key × D) := more.foldl (fun acc kv => putD acc kv.1 kv.2) kvs
section
variable {K : PySem.W.Frag} {as : List Addr} {H : Hp}
theorem RpK.cons {kvs : List (Key × D)} {ys : List (Key × V)} {k : Key} {d : D} {v : V} (r : Rp K as H d v) (q : RpK K as H kvs ys) : RpK K as H ((k, d) :: kvs) ((k, v) :: ys) :=
  ⟨by simp [q.1], .cons r q.2⟩
theorem RpK.any {kvs : List (Key × D)} {ys : List (Key × V)} (q : RpK K as H kvs ys) (k : Key) : (kvs.any fun kv => decide (kv.1 = k)) = (ys.any fun kv => decide (kv.1 = k)) := by
  have h1 : (kvs.any fun kv => decide (kv.1 = k)) = (kvs.map (·.1)).any fun x => decide (x = k) := by rw [List.any_map]; rfl
  have h2 : (ys.any fun kv => decide (kv.1 = k)) = (ys.map (·.1)).any fun x => decide (x = k) := by rw [List.any_map]; rfl
  rw [h1, h2, q.1]
theorem RpK.repl {k : Key} {d : D} {v : V} (r : Rp K as H d v) : ∀ {kvs : List (Key × D)} {ys : List (Key × V)}, RpK K as H kvs ys →
    RpK K as H (kvs.map fun kv => if kv.1 = k then (kv.1, d) else kv) (ys.map fun kv => if kv.1 = k then (kv.1, v) else kv)
  | [], [], q => q
  | [], _ :: _, q => by have := q.1; simp at this
  | _ :: _, [], q => by have := q.1; simp at this
  | (a, x) :: kvs, (b, y) :: ys, q => by
    obtain ⟨q1, q2⟩ := q
    simp only [List.map_cons, List.cons.injEq] at q1
    cases q2 with
    | cons c cs =>
      have ih := RpK.repl r (k := k) (kvs := kvs) (ys := ys) ⟨q1.2, cs⟩
      have e : a = b := q1.1
      subst e
      rw [List.map_cons, List.map_cons]
      by_cases ha : a = k
      · simp only [ha, if_true]
        exact RpK.cons r ih
      · simp only [ha, if_false]
        exact RpK.cons c ih
theorem RpK.put {k : Key} {d : D} {v : V} {kvs : List (Key × D)} {ys : List (Key × V)} (q : RpK K as H kvs ys) (r : Rp K as H d v) : RpK K as H (putD kvs k d) (putK ys k v) := by
  unfold putD putK
  rw [q.any k]
  split
  · exact RpK.repl r q
  · refine ⟨by simp [q.1], ?_⟩
    rw [List.map_append, List.map_append]
    exact q.2.app (RpL.one r)
theorem RpK.merge : ∀ {more : List (Key × D)} {ms : List (Key × V)} {kvs : List (Key × D)} {ys : List (Key × V)}, RpK K as H more ms → RpK K as H kvs ys → RpK K as H (mergeD kvs more) (mergeK ys ms)
  | [], [], _, _, _, q => q
  | [], _ :: _, _, _, m, _ => by have := m.1; simp at this
  | _ :: _, [], _, _, m, _ => by have := m.1; simp at this
  | (a, x) :: more, (b, y) :: ms, kvs, ys, m, q => by
    obtain ⟨m1, m2⟩ := m
    simp only [List.map_cons, List.cons.injEq] at m1
    cases m2 with
    | cons c cs =>
      have e : a = b := m1.1
      subst e
      exact RpK.merge (more := more) (ms := ms) ⟨m1.2, cs⟩ (q.put c)
theorem RpK.zip : ∀ {ks : List Key} {ds : List D} {vs : List V}, RpL K as H ds vs → RpK K as H (ks.zip ds) (ks.zip vs)
  | [], _, _, _ => ⟨rfl, .nil⟩
  | _ :: _, [], _, .nil => ⟨rfl, .nil⟩
  | k :: ks, _ :: _, _ :: _, .cons r rs => RpK.cons r (RpK.zip rs)
end
section
variable {X : Cx} {cl : Nat → Option Addr} {XW : XWT} {a b e o : Expr} {es : List Expr} {fs : FA} {fa fb fo : FE} {pos p p2 apos : Pos}
/-- the pairs of a display whose keys are texts -/
def DP (X : Cx) (cl : Nat → Option Addr) (XW : XWT) (pos : Pos) (ks : List Str) (keys : List (Option Expr)) (vals : List Expr) (fs : FA) : Prop :=
  ∃ trs, PPs X pos keys vals trs ∧ ∀ s H Q, tFA X.K cl XW fs s H (fun vs H' => Q ((ks.map V.str).zip vs) H') → tPairs trs s H Q
theorem dp_nil : DP X cl XW pos [] [] [] aNil := by
  refine ⟨[], pps_nil, fun s H Q h => ?_⟩
  obtain ⟨as, env, hh, x, e, o⟩ := h
  exact Out.here (a := []) o x [] .nil
theorem dp_cons {k : Str} {ks : List Str} {keys : List (Option Expr)} {vals : List Expr} {j : Nat} {kp : Pos} (ha : PE X a (tF X.K cl XW fa)) (hr : DP X cl XW pos ks keys vals fs) :
    DP X cl XW pos (k :: ks) (some (.Constant (.str k) j kp) :: keys) (a :: vals) (aCons fa fs) := by
  obtain ⟨trs, h1, h2⟩ := hr
  refine ⟨_, pps_cons pe_str ha h1, fun s H Q h => ?_⟩
  obtain ⟨as, env, hh, x, e, o⟩ := h
  show tF X.K cl XW fa s H fun y H2 => tPairs trs s H2 fun ps H3 => Q ((V.str k, y) :: ps) H3
  refine tF.step x e o fun d v as1 h1 H1 y1 x1 e1 r1 o1 => h2 _ _ _ ?_
  refine tFA.step x1 e1 o1 fun ds vs as2 h2 H2 y2 x2 e2 r2 o2 => ?_
  exact Out.here (a := d :: ds) o2 x2 (v :: vs) (.cons (r1.mono y2.le (y2.tk x1)) r2)
def fDct (ks : List Str) (fs : FA) : FE := fun env h => (fs env h).bind fun ds h1 => if ds.length = ks.length ∧ ks.length ≤ 15 then .ok (.loc h1.length) (h1 ++ [.dct (mergeD [] ((ks.map Sum.inr).zip ds))]) else .bad
theorem zip_kV : ∀ (ks : List Str) (vs : List V), (ks.map V.str).zip vs = ((ks.map (Sum.inr : Str → Key)).zip vs).map fun kv => (kV kv.1, kv.2)
  | [], _ => rfl
  | _ :: _, [] => rfl
  | k :: ks, v :: vs => by
    simp only [List.map_cons, List.zip_cons_cons, zip_kV ks vs]
    rfl
/-- what stands beside the objects becomes one -/
theorem take_dct {K : PySem.W.Frag} {as : List Addr} {h : Hh} {H : Hp} {p : Addr} {kvs : List (Key × D)} {ys : List (Key × V)} {u : HO} (x : Rl K cl as h H) (hp : p ∉ as) (e : H p = some u) (ht : NT H p) (r : RpK K as H kvs ys) :
    Rl K cl (as ++ [p]) (h ++ [.dct kvs]) (upd H p (.dK ys)) ∧ Rp K (as ++ [p]) (upd H p (.dK ys)) (.loc h.length) (.ref p) := by
  have tk : TK K H (upd H p (.dK ys)) := TK.upd ht
  refine ⟨(x.beside (o := .dK ys) hp ht).take hp ⟨ys, upd_same, r.mono (Le.app _ _) tk⟩, .loc ?_⟩
  rw [← x.len]
  simp
theorem take_lst {K : PySem.W.Frag} {as : List Addr} {h : Hh} {H : Hp} {p : Addr} {ds : List D} {vs : List V} (x : Rl K cl as h H) (hp : p ∉ as) (e : H p = some (.lst vs)) (r : RpL K as H ds vs) :
    Rl K cl (as ++ [p]) (h ++ [.lst ds]) H ∧ Rp K (as ++ [p]) H (.loc h.length) (.ref p) := by
  refine ⟨x.take hp ⟨vs, e, r.mono (Le.app _ _) (TK.refl _ _)⟩, .loc ?_⟩
  rw [← x.len]
  simp
/-- p was new ahead of a step and stood beside the objects through it; then it becomes one -/
theorem Step.around {as bs : List Addr} {H H2 : Hp} {p : Addr} {o u : HO} (hp : H p = none) (y : Step as (upd H p o) bs H2) : Step as H (bs ++ [p]) (upd H2 p u) := by
  refine ⟨y.le.trans (Le.app _ _), fun b w e n => ?_⟩
  have hb : b ≠ p := ne_of_none e hp
  obtain ⟨e1, n1⟩ := y.keep b w (by rw [upd_ne hb]; exact e) n
  refine ⟨by rw [upd_ne hb]; exact e1, ?_⟩
  simp only [List.mem_append, List.mem_singleton, not_or]
  exact ⟨n1, hb⟩
theorem se_dct {ks : List Str} {keys : List (Option Expr)} {vals : List Expr} (hd : DP X cl XW pos ks keys vals fs) (hall : keys.all (·.isSome) = true) (hl : keys.length = vals.length) (h0 : keys ≠ []) (h15 : keys.length ≤ 15) :
    PE X (.Dict keys vals pos) (tF X.K cl XW (fDct ks fs)) := by
  obtain ⟨trs, h1, h2⟩ := hd
  refine ⟨fun pins s σ H Q I h => (pe_disp h1 hall hl h0 h15).run pins s σ H Q I fun p hp => h2 _ _ _ ?_⟩
  obtain ⟨as, env, hh, x, e, o⟩ := h
  have nin := x.notIn hp
  have x0 := x.beside (o := .dK []) nin (noTup_none hp)
  have y0 : Step as H as (upd H p (.dK [])) := Step.new hp
  have e0 := e.mono y0.le (y0.tk x)
  refine ⟨as, env, hh, x0, e0, ?_⟩
  unfold fDct at o
  revert o
  cases fs env hh with
  | bad => exact fun z => z
  | exc c gs h3 => exact fun z as' H' y x' => z as' H' (y0.trans y) x'
  | ok ds h3 =>
    intro o as2 H2 y2 x2 vs r
    have o : Out X.K cl XW σ as H (if ds.length = ks.length ∧ ks.length ≤ 15 then .ok (.loc h3.length) (h3 ++ [.dct (mergeD [] ((ks.map Sum.inr).zip ds))]) else .bad) (QD X.K Q) := o
    obtain ⟨e2, n2⟩ := y2.keep p _ upd_same nin
    refine ⟨e2, (ks.map Sum.inr).zip vs, zip_kV ks vs, ?_⟩
    by_cases hc : ds.length = ks.length ∧ ks.length ≤ 15
    · rw [if_pos hc] at o
      have rk : RpK X.K as2 H2 (mergeD [] ((ks.map Sum.inr).zip ds)) (mergeK [] ((ks.map Sum.inr).zip vs)) := RpK.merge (RpK.zip r) ⟨rfl, .nil⟩
      obtain ⟨n3, n4⟩ := take_dct x2 n2 e2 (noTup_dK e2) rk
      refine ⟨?_, o _ _ (Step.around hp y2) n3 _ n4⟩
      rw [List.length_zip, List.length_map]
      omega
    · rw [if_neg hc] at o
      exact False.elim o
def fDct0 : FE := fun _ h => .ok (.loc h.length) (h ++ [.dct []])
theorem se_dct0 : PE X (.Dict [] [] pos) (tF X.K cl XW fDct0) := by
  refine ⟨fun pins s σ H Q I h => pe_dnewK.run pins s σ H Q I fun p hp => ?_⟩
  obtain ⟨as, env, hh, x, e, o⟩ := h
  have x0 := x.beside (o := .dK []) (x.notIn hp) (noTup_none hp)
  refine Out.ok o (Step.newIn hp) (x0.take (x.notIn hp) ⟨[], upd_same, rfl, .nil⟩) _ (.loc ?_)
  rw [← x.len]
  simp

/-! ### targets -/
inductive Tg where
  | nm (i : Nat)
  | tp (l : Tg)
  | tnil
  | tcons (a r : Tg)
mutual
def setT : Tg → D → Nv → Option Nv
  | .nm i, d, env => some (env.set i (some d))
  | .tp l, .tup ds, env => setTs l ds env
  | _, _, _ => none
def setTs : Tg → List D → Nv → Option Nv
  | .tnil, [], env => some env
  | .tcons a r, d :: ds, env => match setT a d env with
    | some env1 => setTs r ds env1
    | none => none
  | _, _, _ => none
end
def slotsT : Tg → List Nat
  | .nm i => [i]
  | .tp l => slotsT l
  | .tnil => []
  | .tcons a r => slotsT a ++ slotsT r
/-- only these slots differ -/
def SmB (vs : List Nat) (s t : L2.St) : Prop := t.length = s.length ∧ ∀ i, i ∉ vs → t[i]? = s[i]?
theorem SmB.refl (vs : List Nat) (s : L2.St) : SmB vs s s := ⟨rfl, fun _ _ => rfl⟩
theorem SmB.trans {vs : List Nat} {s t u : L2.St} (a : SmB vs s t) (b : SmB vs t u) : SmB vs s u := ⟨b.1.trans a.1, fun i hi => (b.2 i hi).trans (a.2 i hi)⟩
theorem SmB.mono {vs ws : List Nat} {s t : L2.St} (a : SmB vs s t) (h : ∀ i ∈ vs, i ∈ ws) : SmB ws s t := ⟨a.1, fun i hi => a.2 i fun z => hi (h i z)⟩
theorem SmB.set (s : L2.St) (i : Nat) (o : Option V) : SmB [i] s (s.set i o) := ⟨by simp, fun j hj => by
  rw [List.getElem?_set_ne fun z => hj (by simp [z])]⟩
/-- a datum, or a tuple that is taken apart at once -/
def RpW (K : PySem.W.Frag) (as : List Addr) (H : Hp) (d : D) (v : V) : Prop :=
  Rp K as H d v ∨ ∃ ds xs a, d = .tup ds ∧ v = .ref a ∧ SqT K H a xs ∧ RpL K as H ds xs
/-- a target by values: what it is for the data -/
def GOk (K : PySem.W.Frag) (t : Tg) (g : TG) : Prop := ∀ (as : List Addr) (env env' : Nv) (d : D) (v : V) (s : L2.St) (H : Hp) (Q : L2.St → Hp → Prop), EnvR K as H env s → Rp K as H d v → setT t d env = some env' →
  (∀ s', EnvR K as H env' s' → SmB (slotsT t) s s' → Q s' H) → g v s H Q
def GOkW (K : PySem.W.Frag) (t : Tg) (g : TG) : Prop := ∀ (as : List Addr) (env env' : Nv) (d : D) (v : V) (s : L2.St) (H : Hp) (Q : L2.St → Hp → Prop), EnvR K as H env s → RpW K as H d v → setT t d env = some env' →
  (∀ s', EnvR K as H env' s' → SmB (slotsT t) s s' → Q s' H) → g v s H Q
def GsOk (K : PySem.W.Frag) (t : Tg) (g : TGs) : Prop := ∀ (as : List Addr) (env env' : Nv) (ds : List D) (vs : List V) (s : L2.St) (H : Hp) (Q : L2.St → Hp → Prop), EnvR K as H env s → RpL K as H ds vs → setTs t ds env = some env' →
  (∀ s', EnvR K as H env' s' → SmB (slotsT t) s s' → Q s' H) → g vs s H Q
theorem GOkW.gok {K : PySem.W.Frag} {t : Tg} {g : TG} (h : GOkW K t g) : GOk K t g := fun as env env' d v s H Q e r st q => h as env env' d v s H Q e (.inl r) st q
theorem gok_name {K : PySem.W.Frag} (i : Nat) : GOk K (.nm i) (gName i) := fun as env env' d v s H Q e r st q => by
  cases (show some (env.set i (some d)) = some env' from st)
  exact q _ (e.set r i) (SmB.set s i _)
theorem gok_tup {K : PySem.W.Frag} {t : Tg} {g : TGs} {n : Nat} (h : GsOk K t g) (hn : ∀ ds env env', setTs t ds env = some env' → ds.length = n) : GOkW K (.tp t) (gTup K n g) := fun as env env' d v s H Q e r st q => by
  have go : ∀ (ds : List D) (xs : List V) (a : Addr), d = .tup ds → v = .ref a → SqT K H a xs → RpL K as H ds xs → gTup K n g v s H Q := fun ds xs a ed ev t rl => by
    subst ed
    have st : setTs _ ds env = some env' := st
    exact ⟨a, xs, ev, t, by rw [← rl.length]; exact hn ds env env' st, h as env env' ds xs s H Q e rl st q⟩
  rcases r with r | ⟨ds, xs, a, ed, ev, t, rl⟩
  · cases d with
    | tup ds =>
      obtain ⟨a, xs, ev, t, rl⟩ := r.tup_inv
      exact go ds xs a rfl ev t.sq rl
    | _ => cases st
  · exact go ds xs a ed ev t rl
theorem gsok_nil {K : PySem.W.Frag} : GsOk K .tnil gNil := fun as env env' ds vs s H Q e r st q => by
  cases ds with
  | nil =>
    cases r
    cases (show some env = some env' from st)
    exact ⟨rfl, q s e (SmB.refl _ _)⟩
  | cons d ds => cases st
theorem gsok_cons {K : PySem.W.Frag} {a r : Tg} {g : TG} {gs : TGs} (h1 : GOk K a g) (h2 : GsOk K r gs) : GsOk K (.tcons a r) (gCons g gs) := fun as env env' ds vs s H Q e rl st q => by
  cases ds with
  | nil => cases st
  | cons d ds =>
    cases rl with
    | @cons _ v _ vs r1 r2 =>
      have st : (match setT a d env with
        | some env1 => setTs r ds env1
        | none => none) = some env' := st
      cases hs : setT a d env with
      | none => rw [hs] at st; cases st
      | some env1 =>
        rw [hs] at st
        refine ⟨v, vs, rfl, h1 as env env1 d v s H _ e r1 hs fun s1 e1 b1 => h2 as env1 env' ds vs s1 H Q e1 r2 st fun s2 e2 b2 => q s2 e2 ?_⟩
        exact (b1.mono fun i hi => List.mem_append_left _ hi).trans (b2.mono fun i hi => List.mem_append_right _ hi)
end
end Ev

namespace Ev
open PySem PySem.Spec PyProof.Rows L2

/-! ### what is walked -/
abbrev Lk := List (Nat × List D)
/-- the lists that are walked stand as they stood -/
def Chk (lk : Lk) (h : Hh) : Prop := ∀ q ∈ lk, itemsOf h q.1 = some q.2
abbrev FI := Nv → Hh → R (List D × Lk)
/-- strong: the items may be kept; else they are taken apart at once -/
def RpS (st : Bool) (K : PySem.W.Frag) (as : List Addr) (H : Hp) (d : D) (v : V) : Prop := if st = true then Rp K as H d v else RpW K as H d v
structure IterR (K : PySem.W.Frag) (cl : Nat → Option Addr) (st : Bool) (as0 : List Addr) (H0 : Hp) (J : It) (ds : List D) (lk : Lk) : Prop where
  go : ∀ (i : Nat) (as : List Addr) (h : Hh) (H : Hp) (d : D), Step as0 H0 as H → Rl K cl as h H → Chk lk h → ds[i]? = some d →
    J.go i H ∧ ∀ x H', J.yld i H x H' → Step as H as H' ∧ Rl K cl as h H' ∧ RpS st K as H' d x
  stop : ∀ (i : Nat) (as : List Addr) (h : Hh) (H : Hp), Step as0 H0 as H → Rl K cl as h H → Chk lk h → ds.length ≤ i → J.stop i H
def tFI (K : PySem.W.Frag) (cl : Nat → Option Addr) (XW : XWT) (st : Bool) (f : FI) : TI := fun s H R => ∃ as env h, Rl K cl as h H ∧ EnvR K as H env s ∧
  Out K cl XW s as H (f env h) fun p as' _ H' => ∀ J, IterR K cl st as' H' J p.1 p.2 → R J H'

section
variable {X : Cx} {cl : Nat → Option Addr} {XW : XWT} {a b e o tg : Expr} {es : List Expr} {fs : FA} {fa fb fo fe : FE} {pos p p2 apos tpos : Pos}
theorem SqL.inj {K : PySem.W.Frag} {H : Hp} {a : Addr} {xs ys : List V} {o : HO} (e : H a = some o) (h : SqL K H a xs) (h' : Rd H a (.lst ys)) (hk : ∀ ob, K.lookup a ≠ some ob) : xs = ys := by
  rcases h with h | ⟨ob, _, _, q, _⟩
  · rcases h with h | ⟨o1, h⟩ <;> rcases h' with h' | ⟨o2, h'⟩ <;> rw [h] at h' <;> cases h' <;> rfl
  · exact absurd q (hk ob)
def signs (z : Str) : List D := z.cps.toList.map fun c => .str ⟨#[c]⟩
def iExp (fe : FE) : FI := fun env h => (fe env h).bind fun x h1 => match x with
  | .tup xs => .ok (xs, []) h1
  | .str z => .ok (signs z, []) h1
  | .scr ns => .ok (ns.map .int, []) h1
  | .loc n => match itemsOf h1 n with
    | some xs => .ok (xs, [(n, xs)]) h1
    | none => .bad
  | _ => .bad
theorem iter_tup {K : PySem.W.Frag} {as : List Addr} {h : Hh} {H : Hp} {a : Addr} {ds : List D} {vs : List V} (l : Rl K cl as h H) (t : SqP K H a vs) (r : RpL K as H ds vs) (lk : Lk) : IterR K cl true as H (Itt K a) ds lk where
  go := fun i as' h' H' d y x ck e => by
    have t' := ((y.tk l) a vs).1 t
    have r' := r.mono y.le (y.tk l)
    obtain ⟨v, e1, rv⟩ := r'.get e
    exact ⟨⟨vs, v, t'.sq, e1⟩, fun x2 H2 ⟨e2, f2⟩ => by
      subst e2
      have := f2 vs t'.sq
      rw [e1] at this
      cases this
      exact ⟨Step.refl _ _, x, rv⟩⟩
  stop := fun i as' h' H' y x ck hi => ⟨vs, (((y.tk l) a vs).1 t).sq, by rw [← r.length]; exact hi⟩
theorem iter_scr {K : PySem.W.Frag} {as : List Addr} {h : Hh} {H : Hp} {a : Addr} {ns : List Int} (l : Rl K cl as h H) (t : SqF K H a (ns.map V.int)) (lk : Lk) : IterR K cl true as H (Itl K a) (ns.map D.int) lk where
  go := fun i as' h' H' d y x ck e => by
    have t' := ((y.tk l) a _).2 t
    obtain ⟨v, e1, rv⟩ := (rp_ints (K := K) (as := as') (H := H') ns).get e
    exact ⟨⟨_, v, t'.sq, e1⟩, fun x2 H2 ⟨e2, f2⟩ => by
      subst e2
      have := f2 _ t'.sq
      rw [e1] at this
      cases this
      exact ⟨Step.refl _ _, x, rv⟩⟩
  stop := fun i as' h' H' y x ck hi => ⟨_, (((y.tk l) a _).2 t).sq, by rw [List.length_map] at hi ⊢; exact hi⟩
theorem iter_lst {K : PySem.W.Frag} {as : List Addr} {H : Hp} {n : Nat} {a : Addr} {ds : List D} (ha : as[n]? = some a) : IterR K cl true as H (Itl K a) ds [(n, ds)] where
  go := fun i as' h' H' d y x ck e => by
    obtain ⟨vs, t, r⟩ := x.items (ck (n, ds) (by simp)) (y.le _ _ ha)
    obtain ⟨v, e1, rv⟩ := r.get e
    exact ⟨⟨vs, v, t, e1⟩, fun x2 H2 ⟨e2, f2⟩ => by
      subst e2
      have := f2 vs t
      rw [e1] at this
      cases this
      exact ⟨Step.refl _ _, x, rv⟩⟩
  stop := fun i as' h' H' y x ck hi => by
    obtain ⟨vs, t, r⟩ := x.items (ck (n, ds) (by simp)) (y.le _ _ ha)
    exact ⟨vs, t, by rw [← r.length]; exact hi⟩
theorem iter_str {K : PySem.W.Frag} {as : List Addr} {H : Hp} {z : Str} (lk : Lk) : IterR K cl true as H (Its z) (signs z) lk where
  go := fun i as' h' H' d y x ck e => by
    unfold signs at e
    rw [List.getElem?_map] at e
    cases hc : z.cps.toList[i]? with
    | none => rw [hc] at e; cases e
    | some c =>
      rw [hc] at e
      cases e
      have hc2 : z.cps[i]? = some c := by simpa using hc
      refine ⟨?_, fun x2 H2 ⟨e2, c2, e3, e4⟩ => ?_⟩
      · show i < z.cps.size
        have := (List.getElem?_eq_some_iff.mp hc).1
        simpa using this
      · subst e2
        rw [hc2] at e3
        cases e3
        subst e4
        exact ⟨Step.refl _ _, x, .str _⟩
  stop := fun i as' h' H' y x ck hi => by
    show z.cps.size ≤ i
    unfold signs at hi
    simpa using hi
theorem si_exp (he : PE X e (tF X.K cl XW fe)) : PI X tg e (tFI X.K cl XW true (iExp fe)) := by
  refine ⟨fun pins s σ H R I h => ?_⟩
  obtain ⟨as, env, hh, x, e0, o⟩ := h
  unfold iExp at o
  cases hr : fe env hh with
  | bad => rw [hr] at o; exact False.elim o
  | exc c gs h1 =>
    rw [hr] at o
    refine (pi_list he).run pins s σ H R I ⟨as, env, hh, x, e0, ?_⟩
    rw [hr]
    exact o
  | ok d h1 =>
    rw [hr] at o
    cases d with
    | tup xs =>
      refine (pi_tup he).run pins s σ H R I ⟨as, env, hh, x, e0, ?_⟩
      rw [hr]
      intro as1 H1 y x1 v rv
      obtain ⟨a, vs, rfl, t, r⟩ := rv.tup_inv
      exact ⟨a, rfl, ⟨vs, t.sq⟩, Out.ok (a := (xs, ([] : Lk))) (h := h1) o y x1 _ (iter_tup x1 t r _)⟩
    | str z =>
      refine (pi_str he).run pins s σ H R I ⟨as, env, hh, x, e0, ?_⟩
      rw [hr]
      intro as1 H1 y x1 v rv
      exact ⟨z, rv.str_inv, Out.ok (a := (signs z, ([] : Lk))) (h := h1) o y x1 _ (iter_str _)⟩
    | scr ns =>
      refine (pi_list he).run pins s σ H R I ⟨as, env, hh, x, e0, ?_⟩
      rw [hr]
      intro as1 H1 y x1 v rv
      obtain ⟨a, rfl, t⟩ := rv.scr_inv
      exact ⟨a, rfl, ⟨_, t.sq⟩, Out.ok (a := (ns.map D.int, ([] : Lk))) (h := h1) o y x1 _ (iter_scr x1 t _)⟩
    | loc n =>
      have o : Out X.K cl XW σ as H (match itemsOf h1 n with
        | some xs => Ev.R.ok (xs, [(n, xs)]) h1
        | none => .bad) _ := o
      cases hi : itemsOf h1 n with
      | none => rw [hi] at o; exact False.elim o
      | some xs =>
        rw [hi] at o
        refine (pi_list he).run pins s σ H R I ⟨as, env, hh, x, e0, ?_⟩
        rw [hr]
        intro as1 H1 y x1 v rv
        obtain ⟨a, rfl, ha⟩ := rv.loc_inv
        obtain ⟨vs, t, r⟩ := x1.items hi ha
        exact ⟨a, rfl, ⟨vs, t⟩, Out.ok (a := (xs, [(n, xs)])) (h := h1) o y x1 _ (iter_lst ha)⟩
    | _ => exact False.elim o
/-- numbers from lo on -/
def rngD (lo : Int) (n : Nat) : List D := (List.range n).map fun (i : Nat) => .int (lo + i)
theorem iter_rng {K : PySem.W.Frag} {as : List Addr} {H : Hp} (lo : Int) (n : Nat) (lk : Lk) : IterR K cl true as H (Itr lo n) (rngD lo n) lk where
  go := fun i as' h' H' d y x ck e => by
    unfold rngD at e
    rw [List.getElem?_map] at e
    by_cases hi : i < n
    · rw [List.getElem?_range hi] at e
      cases e
      exact ⟨hi, fun x2 H2 ⟨e2, e3⟩ => by
        subst e2 e3
        exact ⟨Step.refl _ _, x, .int _⟩⟩
    · rw [List.getElem?_eq_none (by simp; omega)] at e
      cases e
  stop := fun i as' h' H' y x ck hi => by
    show n ≤ i
    unfold rngD at hi
    simpa using hi
def iRng (fs : FA) : FI := fun env h => (fs env h).bind fun ds h1 => match ds with
  | [.int j] => if -(2 ^ 62) ≤ j ∧ j < 2 ^ 62 then .ok (rngD 0 j.toNat, []) h1 else .bad
  | [.int i, .int j] => if -(2 ^ 62) ≤ i ∧ i < 2 ^ 62 ∧ -(2 ^ 62) ≤ j ∧ j < 2 ^ 62 then .ok (rngD i (j - i).toNat, []) h1 else .bad
  | _ => .bad
theorem si_rng1 (hg : Gl X "range") (hm : X.mg "range" = none) (ha : PA X [a] (tFA X.K cl XW fs)) (hs : starEach [a] X.env = [(false, eval a X.env)]) (hlen : ∀ env h ds h1, fs env h = .ok ds h1 → ds.length = 1) :
    PI X tg (.Call (.Name "range" p) [a] [] pos) (tFI X.K cl XW true (iRng fs)) := by
  refine ⟨fun pins s σ H R I h => (pi_range1 hg hm ha hs).run pins s σ H R I ?_⟩
  obtain ⟨as, env, hh, x, e0, o⟩ := h
  unfold iRng at o
  have hl := hlen env hh
  refine ⟨as, env, hh, x, e0, ?_⟩
  revert o
  cases hr : fs env hh with
  | bad => exact fun z => z
  | exc c gs h1 => exact fun z => z
  | ok ds h1 =>
    intro o as1 H1 y x1 vs r
    have l1 := hl ds h1 hr
    cases ds with
    | nil => cases l1
    | cons d ds =>
      cases ds with
      | cons d2 ds => simp at l1
      | nil =>
        cases r with
        | cons r1 r0 =>
          cases r0
          cases d with
          | int j =>
            have o : Out X.K cl XW σ as H (if -(2 ^ 62) ≤ j ∧ j < 2 ^ 62 then Ev.R.ok (rngD 0 j.toNat, ([] : Lk)) h1 else .bad) _ := o
            by_cases hc : -(2 ^ 62) ≤ j ∧ j < 2 ^ 62
            · rw [if_pos hc] at o
              exact ⟨j, by rw [r1.int_inv], hc.1, hc.2, Out.ok (a := (rngD 0 j.toNat, ([] : Lk))) (h := h1) o y x1 _ (iter_rng 0 _ _)⟩
            · rw [if_neg hc] at o
              exact False.elim o
          | _ => exact False.elim o
theorem si_rng2 (hg : Gl X "range") (hm : X.mg "range" = none) (ha : PA X [a, b] (tFA X.K cl XW fs)) (hs : starEach [a, b] X.env = [(false, eval a X.env), (false, eval b X.env)]) (hs2 : starEach [b] X.env = [(false, eval b X.env)])
    (hlen : ∀ env h ds h1, fs env h = .ok ds h1 → ds.length = 2) : PI X tg (.Call (.Name "range" p) [a, b] [] pos) (tFI X.K cl XW true (iRng fs)) := by
  refine ⟨fun pins s σ H R I h => (pi_range2 hg hm ha hs hs2).run pins s σ H R I ?_⟩
  obtain ⟨as, env, hh, x, e0, o⟩ := h
  unfold iRng at o
  have hl := hlen env hh
  refine ⟨as, env, hh, x, e0, ?_⟩
  revert o
  cases hr : fs env hh with
  | bad => exact fun z => z
  | exc c gs h1 => exact fun z => z
  | ok ds h1 =>
    intro o as1 H1 y x1 vs r
    have l1 := hl ds h1 hr
    cases ds with
    | nil => cases l1
    | cons d ds =>
      cases ds with
      | nil => simp at l1
      | cons d2 ds =>
        cases ds with
        | cons d3 ds => simp at l1
        | nil =>
          cases r with
          | cons r1 r0 =>
            cases r0 with
            | cons r2 r0 =>
              cases r0
              cases d with
              | int i =>
                cases d2 with
                | int j =>
                  have o : Out X.K cl XW σ as H (if -(2 ^ 62) ≤ i ∧ i < 2 ^ 62 ∧ -(2 ^ 62) ≤ j ∧ j < 2 ^ 62 then Ev.R.ok (rngD i (j - i).toNat, ([] : Lk)) h1 else .bad) _ := o
                  by_cases hc : -(2 ^ 62) ≤ i ∧ i < 2 ^ 62 ∧ -(2 ^ 62) ≤ j ∧ j < 2 ^ 62
                  · rw [if_pos hc] at o
                    exact ⟨i, j, by rw [r1.int_inv, r2.int_inv], hc, Out.ok (a := (rngD i (j - i).toNat, ([] : Lk))) (h := h1) o y x1 _ (iter_rng i _ _)⟩
                  · rw [if_neg hc] at o
                    exact False.elim o
                | _ => exact False.elim o
              | _ => exact False.elim o
/-- enumerate(list) -/
def enumD : Nat → List D → List D
  | _, [] => []
  | i, d :: ds => .tup [.int i, d] :: enumD (i + 1) ds
theorem enumD_get : ∀ (ds : List D) (k i : Nat), (enumD k ds)[i]? = (ds[i]?).map fun d => .tup [.int ((k + i : Nat) : Int), d]
  | [], _, _ => by simp [enumD]
  | d :: ds, k, 0 => by simp [enumD]
  | d :: ds, k, i + 1 => by
    have := enumD_get ds (k + 1) i
    simp only [enumD, List.getElem?_cons_succ]
    rw [this]
    congr 1
    funext d
    have : k + 1 + i = k + (i + 1) := by omega
    rw [this]
theorem enumD_length : ∀ (ds : List D) (k : Nat), (enumD k ds).length = ds.length
  | [], _ => rfl
  | d :: ds, k => by simp [enumD, enumD_length ds (k + 1)]
def iEnumL (fe : FE) : FI := fun env h => (fe env h).bind fun x h1 => match x with
  | .loc n => match itemsOf h1 n with
    | some xs => .ok (enumD 0 xs, [(n, xs)]) h1
    | none => .bad
  | _ => .bad
theorem iter_enum {K : PySem.W.Frag} {as : List Addr} {H : Hp} {n : Nat} {a : Addr} {ds : List D} (ha : as[n]? = some a) : IterR K cl false as H (Ite K a) (enumD 0 ds) [(n, ds)] where
  go := fun i as' h' H' d y x ck e => by
    obtain ⟨vs, t, r⟩ := x.items (ck (n, ds) (by simp)) (y.le _ _ ha)
    rw [enumD_get] at e
    cases hd : ds[i]? with
    | none => rw [hd] at e; cases e
    | some d0 =>
      rw [hd] at e
      cases e
      obtain ⟨v, e1, rv⟩ := r.get hd
      refine ⟨⟨vs, v, t, e1⟩, fun x2 H2 ⟨T, w, e2, hT, e3, f2⟩ => ?_⟩
      have := f2 vs t
      rw [e1] at this
      cases this
      subst e2 e3
      have st : Step as' H' as' (upd H' T (.tup [.int (i : Nat), v])) := Step.new hT
      refine ⟨st, x.beside (x.notIn hT) (noTup_none hT), .inr ⟨_, _, T, rfl, rfl, SqT.of upd_same, .cons ?_ (.cons (rv.mono st.le (st.tk x)) .nil)⟩⟩
      rw [Nat.zero_add]
      exact .int _
  stop := fun i as' h' H' y x ck hi => by
    obtain ⟨vs, t, r⟩ := x.items (ck (n, ds) (by simp)) (y.le _ _ ha)
    exact ⟨vs, t, by rw [← r.length, ← enumD_length ds 0]; exact hi⟩
theorem si_enum {elts : List Expr} {kk : Nat} (hg : Gl X "enumerate") (hm : X.mg "enumerate" = none) (ha : PE X a (tF X.K cl XW fa)) (hs : starEach [a] X.env = [(false, eval a X.env)]) :
    PI X (.Tuple elts kk tpos) (.Call (.Name "enumerate" p) [a] [] pos) (tFI X.K cl XW false (iEnumL fa)) := by
  refine ⟨fun pins s σ H R I h => (pi_enum hg hm (pa_cons ha pa_nil hs) hs).run pins s σ H R I ?_⟩
  obtain ⟨as, env, hh, x, e0, o⟩ := h
  refine tF.step x e0 o fun d v as1 h1 H1 y1 x1 e1 r1 o1 => ?_
  cases d with
  | loc n =>
    have o1 : Out X.K cl XW σ as1 H1 (match itemsOf h1 n with
        | some xs => Ev.R.ok (enumD 0 xs, [(n, xs)]) h1
        | none => .bad) _ := o1
    cases hi : itemsOf h1 n with
    | none => rw [hi] at o1; exact False.elim o1
    | some xs =>
      rw [hi] at o1
      obtain ⟨a, rfl, ha⟩ := r1.loc_inv
      obtain ⟨vs, t, r⟩ := x1.items hi ha
      exact ⟨a, vs, rfl, t, Out.here (a := (enumD 0 xs, [(n, xs)])) (h := h1) o1 x1 _ (iter_enum ha)⟩
  | _ => exact False.elim o1

/-! ### comprehensions -/
def noExc {A : Type} (r : R A) : R A :=
  match r with
  | .ok a h => .ok a h
  | _ => .bad
def XF : XWT := fun _ _ _ _ _ _ => False
theorem Out.noExc {A : Type} {K : PySem.W.Frag} {s s' : L2.St} {as : List Addr} {H : Hp} {r : R A} {Q : A → List Addr → Hh → Hp → Prop} (o : Out K cl XW s as H (noExc r) Q) : Out K cl XF s' as H r Q := by
  cases r with
  | ok a h => exact o
  | exc c fs h => exact False.elim o
  | bad => exact o
def wipeE (env : Nv) : List Nat → Nv
  | [] => env
  | v :: vs => (wipeE env vs).set v none
theorem EnvR.wipe {K : PySem.W.Frag} {as : List Addr} {H : Hp} {env : Nv} {s : L2.St} (e : EnvR K as H env s) : ∀ vs : List Nat, EnvR K as H (wipeE env vs) (wipe s vs)
  | [] => e
  | v :: vs => (EnvR.wipe e vs).unset v
theorem wipe_get : ∀ (vs : List Nat) (s : L2.St) (i : Nat), (wipe s vs)[i]? = if i ∈ vs ∧ i < s.length then some none else s[i]?
  | [], s, i => by simp [wipe]
  | v :: vs, s, i => by
    unfold wipe
    by_cases hv : v = i
    · subst hv
      by_cases hl : v < s.length
      · rw [List.getElem?_set_self (by rw [wipe_length]; exact hl), if_pos ⟨by simp, hl⟩]
      · rw [List.getElem?_eq_none (by simp [wipe_length]; omega), if_neg (by simp; omega), List.getElem?_eq_none (by omega)]
    · rw [List.getElem?_set_ne hv, wipe_get vs s i]
      have : (i ∈ v :: vs) ↔ i ∈ vs := by
        simp only [List.mem_cons]
        exact ⟨fun h => h.resolve_left fun z => hv z.symm, fun h => .inr h⟩
      simp only [this]
theorem wipe_same {vs : List Nat} {s t : L2.St} (h : SmB vs (wipe s vs) t) : wipe t vs = wipe s vs := by
  apply List.ext_getElem?
  intro i
  have hl : t.length = s.length := by rw [h.1, wipe_length]
  rw [wipe_get, wipe_get, hl]
  split
  · rfl
  · rename_i hi
    by_cases hv : i ∈ vs
    · have : ¬ i < s.length := fun z => hi ⟨hv, z⟩
      rw [List.getElem?_eq_none (by omega), List.getElem?_eq_none (by omega)]
    · rw [h.2 i hv, wipe_get, if_neg fun z => hv z.1]
open Classical in
noncomputable def compL (lk : Lk) (t : Tg) (fc fe : FE) : List D → Nv → Hh → R (List D)
  | [], _, h => if Chk lk h then .ok [] h else .bad
  | d :: r, env, h => if Chk lk h then
      match setT t d env with
      | some env1 => (noExc (fc env1 h)).bind fun cv h1 => (asB cv h1).bind fun b h2 => if b = true then (noExc (fe env1 h2)).bind fun y h3 => (compL lk t fc fe r env h3).bind fun ys h4 => .ok (y :: ys) h4 else compL lk t fc fe r env h2
      | none => .bad
    else .bad
noncomputable def fComp (vs : List Nat) (fi : FI) (t : Tg) (fc fe : FE) : FE := fun env h => (fi env h).bind fun q h1 => if q.1.length ≤ sizeLine then (compL q.2 t fc fe q.1 (wipeE env vs) h1).bind fun ys h2 => .ok (.loc h2.length) (h2 ++ [.lst ys]) else .bad
def fYes : FE := fun _ h => .ok (.bl true) h
theorem Step.beside {as bs : List Addr} {H H1 : Hp} {p : Addr} {u : HO} (hp : H p = none) (y : Step as H bs H1) : Step as H bs (upd H1 p u) :=
  ⟨y.le, fun b w e n => let ⟨e1, n1⟩ := y.keep b w e n; ⟨by rw [upd_ne (ne_of_none e hp)]; exact e1, n1⟩⟩
theorem Step.taken {as bs : List Addr} {H H1 : Hp} {p : Addr} (hp : H p = none) (y : Step as H bs H1) : Step as H (bs ++ [p]) H1 :=
  ⟨y.le.trans (Le.app _ _), fun b w e n => let ⟨e1, n1⟩ := y.keep b w e n; ⟨e1, by
    simp only [List.mem_append, List.mem_singleton, not_or]
    exact ⟨n1, ne_of_none e hp⟩⟩⟩
theorem bind_ok_map (r : R (List D)) (d : D) (acc : List D) : ((r.bind fun ys h4 => R.ok (d :: ys) h4).bind fun ys h2 => R.ok (D.loc h2.length) (h2 ++ [O.lst (acc ++ ys)])) = r.bind fun ys h2 => R.ok (D.loc h2.length) (h2 ++ [O.lst ((acc ++ [d]) ++ ys)]) := by
  cases r with
  | ok a h => simp [R.bind]
  | exc c fs h => rfl
  | bad => rfl
/-- the loop of a comprehension -/
theorem comp_loop {K : PySem.W.Frag} {st : Bool} {s : L2.St} {vs : List Nat} {g : TG} {t : Tg} {tt : TT} {te : TE} {fc fe : FE} {as1 : List Addr} {H1 : Hp} {J : It} {ds : List D} {lk : Lk} {env : Nv} {Q : VK} {D0 : Addr} {h1 : Hh}
    (IR : IterR K cl st as1 H1 J ds lk) (hg : if st = true then GOk K t g else GOkW K t g) (hsl : ∀ i ∈ slotsT t, i ∈ vs)
    (htt : ∀ (s : L2.St) (H : Hp) (Q : Bool → Hp → Prop), tFT K cl XF fc s H Q → tt s H Q) (hte : ∀ (s : L2.St) (H : Hp) (Q : VK), tF K cl XF fe s H Q → te s H Q)
    (hD : H1 D0 = none) (e0 : EnvR K as1 H1 env s) (l1 : Rl K cl as1 h1 H1) (hlen : ds.length ≤ sizeLine)
    (o : Out K cl XW s as1 H1 ((compL lk t fc fe ds (wipeE env vs) h1).bind fun ys h2 => .ok (.loc h2.length) (h2 ++ [.lst ys])) (QD K Q)) :
    ∃ W : Nat → Nat → Hp → Prop, (∃ m, W 0 m (upd H1 D0 (.lst []))) ∧ ∀ i m H, W i m H →
      (J.stop i H ∧ Q (.ref D0) H) ∨ (J.go i H ∧ ∃ Nx : Hp → Prop, (∀ H', Nx H' → ∃ m', m' < m ∧ W (i + 1) m' H') ∧ ∀ x H', J.yld i H x H' → g x (wipe s vs) H' fun s2 H2 => wipe s2 vs = wipe s vs ∧ tt s2 H2 fun b H3 =>
        if b = true then te s2 H3 fun y H4 => ∃ acc, H4 D0 = some (.lst acc) ∧ acc.length < sizeLine ∧ Nx (upd H4 D0 (.lst (acc ++ [y]))) else Nx H3) := by
  have P : Nat → Hp → Prop := fun _ _ => True
  let W : Nat → Nat → Hp → Prop := fun i m H => ∃ as h ys acc, m = ds.length - i ∧ i ≤ ds.length ∧ acc.length ≤ i ∧ Step as1 H1 as H ∧ D0 ∉ as ∧ H D0 = some (.lst acc) ∧ Rl K cl as h H ∧ RpL K as H ys acc ∧
    Out K cl XW s as1 H1 ((compL lk t fc fe (ds.drop i) (wipeE env vs) h).bind fun zs h2 => .ok (.loc h2.length) (h2 ++ [.lst (ys ++ zs)])) (QD K Q)
  refine ⟨W, ⟨ds.length, as1, h1, [], [], rfl, Nat.zero_le _, Nat.le_refl _, Step.new hD, l1.notIn hD, upd_same, l1.beside (l1.notIn hD) (noTup_none hD), .nil, o⟩, ?_⟩
  rintro i m H ⟨as, h, ys, acc, hm, hi, ha, y, nD, eD, l, ry, o⟩
  by_cases hlt : i < ds.length
  · rw [List.drop_eq_getElem_cons hlt] at o
    unfold compL at o
    have gi : ds[i]? = some ds[i] := List.getElem?_eq_getElem hlt
    generalize ds[i] = d at o gi
    split at o
    · rename_i ck
      split at o
      · rename_i env1 hset
        obtain ⟨jg, jy⟩ := IR.go i as h H d y l ck gi
        refine .inr ⟨jg, fun H' => W (i + 1) (ds.length - (i + 1)) H', fun H' w => ⟨_, by omega, w⟩, fun x H' hy => ?_⟩
        obtain ⟨yy, l', rx⟩ := jy x H' hy
        have y' := y.trans yy
        obtain ⟨eD', _⟩ := yy.keep D0 _ eD nD
        have ew : EnvR K as H' (wipeE env vs) (wipe s vs) := (e0.mono y'.le (y'.tk l1)).wipe vs
        have ry' := ry.mono yy.le (yy.tk l)
        have gg : ∀ Q', (∀ s', EnvR K as H' env1 s' → SmB (slotsT t) (wipe s vs) s' → Q' s' H') → g x (wipe s vs) H' Q' := by
          intro Q' hq
          cases st with
          | true =>
            rw [if_pos rfl] at hg
            exact hg as _ env1 d x _ H' Q' ew (by simpa [RpS] using rx) hset hq
          | false =>
            rw [if_neg Bool.false_ne_true] at hg
            exact hg as _ env1 d x _ H' Q' ew (by simpa [RpS] using rx) hset hq
        refine gg _ fun s' e1 sm => ⟨wipe_same (sm.mono hsl), htt _ _ _ ?_⟩
        refine ⟨as, env1, h, l', e1, ?_⟩
        revert o
        cases fc env1 h with
        | bad => exact fun z => z
        | exc c gs h3 => exact fun z => False.elim z
        | ok cv h3 =>
          cases cv with
          | bl b =>
            intro o as3 H3 y3 l3
            have y13 := y'.trans y3
            obtain ⟨eD3, nD3⟩ := y3.keep D0 _ eD' nD
            have ry3 := ry'.mono y3.le (y3.tk l')
            cases b with
            | false =>
              show W (i + 1) _ H3
              exact ⟨as3, h3, ys, acc, rfl, hlt, by omega, y13, nD3, eD3, l3, ry3, o⟩
            | true =>
              show te s' H3 _
              refine hte _ _ _ ⟨as3, env1, h3, l3, e1.mono y3.le (y3.tk l'), ?_⟩
              have o : Out K cl XW s as1 H1 (((noExc (fe env1 h3)).bind fun y h4 => (compL lk t fc fe (ds.drop (i + 1)) (wipeE env vs) h4).bind fun ys h5 => R.ok (y :: ys) h5).bind fun zs h2 => R.ok (D.loc h2.length) (h2 ++ [O.lst (ys ++ zs)])) (QD K Q) := o
              revert o
              cases fe env1 h3 with
              | bad => exact fun z => z
              | exc c gs h4 => exact fun z => False.elim z
              | ok dy h4 =>
                intro o as4 H4 y4 l4 v rv
                have o : Out K cl XW s as1 H1 (((compL lk t fc fe (ds.drop (i + 1)) (wipeE env vs) h4).bind fun ys h5 => R.ok (dy :: ys) h5).bind fun zs h2 => R.ok (D.loc h2.length) (h2 ++ [O.lst (ys ++ zs)])) (QD K Q) := o
                rw [bind_ok_map] at o
                obtain ⟨eD4, nD4⟩ := y4.keep D0 _ eD3 nD3
                have ry4 := ry3.mono y4.le (y4.tk l3)
                have nt := noTup_lst eD4
                have tk : TK K H4 (upd H4 D0 (.lst (acc ++ [v]))) := TK.upd nt
                refine ⟨acc, eD4, by omega, as4, h4, ys ++ [dy], acc ++ [v], rfl, hlt, by simp; omega, (y13.trans y4).beside hD, nD4, upd_same, l4.beside nD4 nt, (ry4.app (RpL.one rv)).mono (Le.refl _) tk, o⟩
          | _ => exact fun z => False.elim z
      · exact False.elim o
    · exact False.elim o
  · have e : i = ds.length := by omega
    subst e
    rw [List.drop_length] at o
    unfold compL at o
    split at o
    · rename_i ck
      refine .inl ⟨IR.stop _ as h H y l ck (Nat.le_refl _), ?_⟩
      have o : Out K cl XW s as1 H1 (R.ok (D.loc h.length) (h ++ [O.lst (ys ++ [])])) (QD K Q) := o
      rw [List.append_nil] at o
      obtain ⟨n1, n2⟩ := take_lst l nD eD ry
      exact o _ _ (y.taken hD) n1 _ n2
    · exact False.elim o
theorem lc_read {st : Bool} {fi : FI} {vs : List Nat} {t : Tg} {fc fe : FE} {g : TG} {tt : TT} {te : TE} {K : PySem.W.Frag} {s : L2.St} {H : Hp} {Q : VK} (hg : if st = true then GOk K t g else GOkW K t g) (hsl : ∀ i ∈ slotsT t, i ∈ vs)
    (htt : ∀ (s : L2.St) (H : Hp) (Q : Bool → Hp → Prop), tFT K cl XF fc s H Q → tt s H Q) (hte : ∀ (s : L2.St) (H : Hp) (Q : VK), tF K cl XF fe s H Q → te s H Q) (h : tF K cl XW (fComp vs fi t fc fe) s H Q) : tLc (tFI K cl XW st fi) g tt te vs s H Q := by
  obtain ⟨as, env, hh, x, e, o⟩ := h
  refine ⟨as, env, hh, x, e, o.bind.mono fun q as1 h1 H1 y x1 o1 J IR D0 hD => ?_⟩
  by_cases hl : q.1.length ≤ sizeLine
  · rw [if_pos hl] at o1
    exact comp_loop IR hg hsl htt hte hD (e.mono y.le (y.tk x)) x1 hl o1
  · rw [if_neg hl] at o1
    exact False.elim o1
end
end Ev

namespace Ev
open PySem PySem.Spec PyProof.Rows L2

/-! ### statements -/
inductive Fl where
  | nx
  | rt (d : D)
  | bk
  | ct
inductive SR where
  | ok (f : Fl) (env : Nv) (h : Hh)
  | exc (c : Nat) (fs : List D) (env : Nv) (h : Hh)
  | bad
abbrev FS := Nv → Hh → SR
def Fin (K : PySem.W.Frag) (E : Ends) (as : List Addr) (H : Hp) (s : L2.St) : Fl → Prop
  | .nx => E.nx s H
  | .rt d => ∀ v, Rp K as H d v → E.rt v H
  | .bk => E.bk s H
  | .ct => E.ct s H
def SOut (K : PySem.W.Frag) (cl : Nat → Option Addr) (XW : XWT) (as : List Addr) (H : Hp) (r : SR) (E : Ends) : Prop :=
  match r with
  | .ok f env h => ∀ as' H' s', Step as H as' H' → Rl K cl as' h H' → EnvR K as' H' env s' → Fin K E as' H' s' f
  | .exc c fs env h => ∀ as' H' s', Step as H as' H' → Rl K cl as' h H' → EnvR K as' H' env s' → XW c fs as' h s' H'
  | .bad => False
def tS (K : PySem.W.Frag) (cl : Nat → Option Addr) (XW : XWT) (f : FS) : TS := fun E s H => ∃ as env h, Rl K cl as h H ∧ EnvR K as H env s ∧ SOut K cl XW as H (f env h) E
/-- behind an expression -/
def SR.of {A : Type} (r : R A) (env : Nv) (k : A → Hh → SR) : SR :=
  match r with
  | .ok a h => k a h
  | .exc c fs h => .exc c fs env h
  | .bad => .bad
section
variable {X : Cx} {cl : Nat → Option Addr} {XW : XWT} {a b e o tg : Expr} {es : List Expr} {fs : FA} {fa fb fo fe : FE} {f g : FS} {pos p p2 apos tpos : Pos} {st : Stmt} {rest body : List Stmt}
theorem SOut.after {K : PySem.W.Frag} {as as0 : List Addr} {H H0 : Hp} {r : SR} {E : Ends} (o : SOut K cl XW as0 H0 r E) (y : Step as0 H0 as H) : SOut K cl XW as H r E := by
  cases r with
  | ok f env h => exact fun as' H' s' y' x e => o as' H' s' (y.trans y') x e
  | exc c fs env h => exact fun as' H' s' y' x e => o as' H' s' (y.trans y') x e
  | bad => exact o
theorem SOut.here {K : PySem.W.Frag} {as : List Addr} {H : Hp} {fl : Fl} {env : Nv} {h : Hh} {s : L2.St} {E : Ends} (o : SOut K cl XW as H (.ok fl env h) E) (x : Rl K cl as h H) (e : EnvR K as H env s) : Fin K E as H s fl := o as H s (Step.refl _ _) x e
/-- an expression first -/
theorem SOut.of {A : Type} {K : PySem.W.Frag} {as : List Addr} {H : Hp} {r : R A} {env : Nv} {k : A → Hh → SR} {E : Ends} {s : L2.St} {h : Hh} (o : SOut K cl XW as H (SR.of r env k) E) (x : Rl K cl as h H) (e : EnvR K as H env s) :
    Out K cl XW s as H r fun a as1 h1 H1 => SOut K cl XW as1 H1 (k a h1) E := by
  cases r with
  | ok a h1 =>
    have o : SOut K cl XW as H (k a h1) E := o
    exact fun as1 H1 y x1 => o.after y
  | exc c fs h1 => exact fun as1 H1 y x1 => o as1 H1 s y x1 (e.mono y.le (y.tk x))
  | bad => exact o
theorem tS.step {K : PySem.W.Frag} {s : L2.St} {H : Hp} {as : List Addr} {env : Nv} {h : Hh} {f : FE} {k : D → Hh → SR} {E : Ends} {Q' : VK} (x : Rl K cl as h H) (e : EnvR K as H env s) (o : SOut K cl XW as H (SR.of (f env h) env k) E)
    (kk : ∀ d v as1 h1 H1, Step as H as1 H1 → Rl K cl as1 h1 H1 → EnvR K as1 H1 env s → Rp K as1 H1 d v → SOut K cl XW as1 H1 (k d h1) E → Q' v H1) : tF K cl XW f s H Q' :=
  ⟨as, env, h, x, e, (o.of x e).mono fun d as1 h1 H1 y x1 q v r => kk d v as1 h1 H1 y x1 (e.mono y.le (y.tk x)) r q⟩

def sNil : FS := fun env h => .ok .nx env h
def sSeq (f g : FS) : FS := fun env h => match f env h with
  | .ok .nx env1 h1 => g env1 h1
  | r => r
theorem ss_nil : PSs X [] (tS X.K cl XW sNil) := by
  refine ⟨fun pins s σ H E I h => pss_nil.run pins s σ H E I ?_⟩
  obtain ⟨as, env, hh, x, e, o⟩ := h
  exact SOut.here (fl := .nx) o x e
theorem ss_cons (h1 : PS X st (tS X.K cl XW f)) (h2 : PSs X rest (tS X.K cl XW g)) : PSs X (st :: rest) (tS X.K cl XW (sSeq f g)) := by
  refine ⟨fun pins s σ H E I h => (pss_cons h1 h2).run pins s σ H E I ?_⟩
  obtain ⟨as, env, hh, x, e, o⟩ := h
  refine ⟨as, env, hh, x, e, ?_⟩
  unfold sSeq at o
  revert o
  cases f env hh with
  | bad => exact fun z => z
  | exc c gs env1 h1 => exact fun z => z
  | ok fl env1 h1 =>
    cases fl with
    | nx => exact fun o as1 H1 s1 y x1 e1 => ⟨as1, env1, h1, x1, e1, SOut.after o y⟩
    | rt d => exact fun z => z
    | bk => exact fun z => z
    | ct => exact fun z => z
def sExpr (f : FE) : FS := fun env h => SR.of (f env h) env fun _ h1 => .ok .nx env h1
theorem ss_expr (he : PE X e (tF X.K cl XW fe)) (hs : swapsWith e none pos.line X.env = pure false) : PS X (.Expr e pos) (tS X.K cl XW (sExpr fe)) := by
  refine ⟨fun pins s σ H E I h => (ps_expr he hs).run pins s σ H E I ?_⟩
  obtain ⟨as, env, hh, x, e, o⟩ := h
  exact tS.step x e o fun d v as1 h1 H1 y1 x1 e1 r1 o1 => SOut.here (fl := .nx) o1 x1 e1
theorem ss_doc {x j pos pos'} : PS X (.Expr (.Constant (.str x) j pos) pos') (tS X.K cl XW sNil) := by
  refine ⟨fun pins s σ H E I h => ps_doc.run pins s σ H E I ?_⟩
  obtain ⟨as, env, hh, x, e, o⟩ := h
  exact SOut.here (fl := .nx) o x e
def sRet (f : FE) : FS := fun env h => SR.of (f env h) env fun d h1 => .ok (.rt d) env h1
theorem ss_ret (he : PE X e (tF X.K cl XW fe)) : PS X (.Return (some e) pos) (tS X.K cl XW (sRet fe)) := by
  refine ⟨fun pins s σ H E I h => (ps_ret he).run pins s σ H E I ?_⟩
  obtain ⟨as, env, hh, x, e, o⟩ := h
  exact tS.step x e o fun d v as1 h1 H1 y1 x1 e1 r1 o1 => SOut.here (fl := .rt d) o1 x1 e1 v r1
def sRetN : FS := fun env h => .ok (.rt .non) env h
theorem ss_retN : PS X (.Return none pos) (tS X.K cl XW sRetN) := by
  refine ⟨fun pins s σ H E I h => ps_retN.run pins s σ H E I ?_⟩
  obtain ⟨as, env, hh, x, e, o⟩ := h
  exact SOut.here (fl := .rt .non) o x e _ .non
theorem ss_pass : PS X (.Pass pos) (tS X.K cl XW sNil) := by
  refine ⟨fun pins s σ H E I h => ps_pass.run pins s σ H E I ?_⟩
  obtain ⟨as, env, hh, x, e, o⟩ := h
  exact SOut.here (fl := .nx) o x e
def sBrk : FS := fun env h => .ok .bk env h
def sCnt : FS := fun env h => .ok .ct env h
theorem ss_brk : PS X (.Break pos) (tS X.K cl XW sBrk) := by
  refine ⟨fun pins s σ H E I h => ps_break.run pins s σ H E I ?_⟩
  obtain ⟨as, env, hh, x, e, o⟩ := h
  exact SOut.here (fl := .bk) o x e
theorem ss_cnt : PS X (.Continue pos) (tS X.K cl XW sCnt) := by
  refine ⟨fun pins s σ H E I h => ps_continue.run pins s σ H E I ?_⟩
  obtain ⟨as, env, hh, x, e, o⟩ := h
  exact SOut.here (fl := .ct) o x e
/-- a test first -/
theorem tS.test {K : PySem.W.Frag} {s : L2.St} {H : Hp} {as : List Addr} {env : Nv} {h : Hh} {f : FE} {k : Bool → Hh → SR} {E : Ends} {Q' : Bool → Hp → Prop} (x : Rl K cl as h H) (e : EnvR K as H env s) (o : SOut K cl XW as H (SR.of ((f env h).bind asB) env k) E)
    (kk : ∀ b as1 h1 H1, Step as H as1 H1 → Rl K cl as1 h1 H1 → EnvR K as1 H1 env s → SOut K cl XW as1 H1 (k b h1) E → Q' b H1) : tFT K cl XW f s H Q' :=
  ⟨as, env, h, x, e, (o.of x e).mono fun b as1 h1 H1 y x1 q => kk b as1 h1 H1 y x1 (e.mono y.le (y.tk x)) q⟩
def sIf (fc : FE) (f g : FS) : FS := fun env h => SR.of ((fc env h).bind asB) env fun b h1 => if b = true then f env h1 else g env h1
theorem ss_if {c : Expr} {fc : FE} {sa sb : List Stmt} (hc : PT X c (tFT X.K cl XW fc)) (ha : PSs X sa (tS X.K cl XW f)) (hb : PSs X sb (tS X.K cl XW g)) : PS X (.If c sa sb pos) (tS X.K cl XW (sIf fc f g)) := by
  refine ⟨fun pins s σ H E I h => (ps_if hc ha hb).run pins s σ H E I ?_⟩
  obtain ⟨as, env, hh, x, e, o⟩ := h
  refine tS.test x e o fun b as1 h1 H1 y1 x1 e1 o1 => ?_
  cases b with
  | true => exact ⟨as1, env, h1, x1, e1, o1⟩
  | false => exact ⟨as1, env, h1, x1, e1, o1⟩
/-- assignments -/
def sAsg (t : Tg) (f : FE) : FS := fun env h => SR.of (f env h) env fun d h1 => match setT t d env with
  | some env1 => .ok .nx env1 h1
  | none => .bad
theorem asg_read {K : PySem.W.Frag} {t : Tg} {gg : TG} (hg : GOk K t gg) {E : Ends} {s : L2.St} {H : Hp} (h : tS K cl XW (sAsg t fe) E s H) : tAsg (tF K cl XW fe) gg E s H := by
  obtain ⟨as, env, hh, x, e, o⟩ := h
  refine tS.step x e o fun d v as1 h1 H1 y1 x1 e1 r1 o1 => ?_
  cases hs : setT t d env with
  | none => rw [hs] at o1; exact False.elim o1
  | some env1 =>
    rw [hs] at o1
    exact hg as1 env env1 d v s H1 _ e1 r1 hs fun s' e' _ => SOut.here (fl := .nx) o1 x1 e'
theorem ss_set {i : Nat} {x : Str} {pos' : Pos} (hN : X.N.Nodup) (hi : X.N[i]? = some x) (hx : Loc X.env.scope x) (he : PE X e (tF X.K cl XW fe)) (hs : swapsWith e (some (.Name x pos')) pos.line X.env = pure false) (hf : X.fn x = true ∨ X.env.scope.names.lookup x = some .local) :
    PS X (.Assign [.Name x pos'] e pos) (tS X.K cl XW (sAsg (.nm i) fe)) :=
  ⟨fun pins s σ H E I h => (ps_set hN hi hx he hs hf).run pins s σ H E I (asg_read (gok_name i) h)⟩
theorem ss_asg {t : Tg} {gg : TG} (hg : GOk X.K t gg) (he : PE X e (tF X.K cl XW fe)) (pg : PG X tg gg) (hs : swapsWithSole [tg] e pos.line X.env = pure false) (hw : swappedStores [tg] e X.env = pure none) (h1 : (assignEach [tg] X.env).map (·.2) = [assign tg X.env]) :
    PS X (.Assign [tg] e pos) (tS X.K cl XW (sAsg t fe)) :=
  ⟨fun pins s σ H E I h => (ps_asg he pg hs hw h1).run pins s σ H E I (asg_read hg h)⟩
/-- a, b = x, y -/
def sPar (i j : Nat) (fs : FA) : FS := fun env h => SR.of (fs env h) env fun ds h1 => match ds with
  | [d, d2] => .ok .nx ((env.set i (some d)).set j (some d2)) h1
  | _ => .bad
theorem ss_par {i j : Nat} {x y : Str} {px py pt : Pos} {kt k2 pt2} (hc : X.calm = true) (hN : X.N.Nodup) (hi : X.N[i]? = some x) (hj : X.N[j]? = some y) (hij : i ≠ j) (hx : X.env.scope.names.lookup x = some .local) (hy : X.env.scope.names.lookup y = some .local) (ha : PA X [a, b] (tFA X.K cl XW fs))
    (hw : swappedStores [.Tuple [.Name x px, .Name y py] kt pt] (.Tuple [a, b] k2 pt2) X.env = pure (some [x, y])) (hs : swapsWithSole [.Tuple [.Name x px, .Name y py] kt pt] (.Tuple [a, b] k2 pt2) pos.line X.env = pure false) :
    PS X (.Assign [.Tuple [.Name x px, .Name y py] kt pt] (.Tuple [a, b] k2 pt2) pos) (tS X.K cl XW (sPar i j fs)) := by
  refine ⟨fun pins s σ H E I h => (ps_par hc hN hi hj hij hx hy ha hw hs).run pins s σ H E I ?_⟩
  obtain ⟨as, env, hh, x, e, o⟩ := h
  refine ⟨as, env, hh, x, e, (SOut.of o x e).mono fun ds as1 h1 H1 y1 x1 o1 vs r => ?_⟩
  have e1 := e.mono y1.le (y1.tk x)
  cases r with
  | nil => exact False.elim o1
  | cons r1 r =>
    cases r with
    | nil => exact False.elim o1
    | cons r2 r =>
      cases r with
      | nil => exact ⟨_, _, rfl, SOut.here (fl := .nx) o1 x1 ((e1.set r1 i).set r2 j)⟩
      | cons r3 r => exact False.elim o1
/-- o[i] = v -/
def sStore (x y v : D) (h : Hh) : Option Hh :=
  match x with
  | .loc n => match h[n]? with
    | some (.lst xs) => match y with
      | .int i => (ixN xs.length i).map fun j => h.set n (.lst (xs.set j v))
      | _ => none
    | some (.dct kvs) => match keyOf y with
      | some k => if kvs.length < sizeLine then some (h.set n (.dct (putD kvs k v))) else none
      | none => none
    | _ => none
  | _ => none
def rGset (K : PySem.W.Frag) (cl : Nat → Option Addr) : TSet := fun vo vi vv H Q => ∃ as h x y v h', Rl K cl as h H ∧ Rp K as H x vo ∧ Rp K as H y vi ∧ Rp K as H v vv ∧ sStore x y v h = some h' ∧ ∀ H', Step as H as H' → Rl K cl as h' H' → Q H'
theorem set_store (hu : X.A.units + 65 < cLine) : PSet X (rGset X.K cl) := by
  intro pins s σ H vo vi vv ov iv u Q I ro ri rv q
  obtain ⟨as, h, x, y, v, h', l, rx, ry, rw', es, q⟩ := q
  unfold sStore at es
  split at es
  · obtain ⟨a, rfl, ha⟩ := rx.loc_inv
    split at es
    · rename_i xs hn
      obtain ⟨ws, t, r⟩ := l.lst hn ha
      split at es
      · rename_i i
        cases ry.int_inv
        cases hj : ixN xs.length i with
        | none => rw [hj] at es; cases es
        | some j =>
          rw [hj] at es
          cases es
          obtain ⟨n1, n2⟩ := set_lst l ha (noTup_lst t) (r.set rw' j)
          exact set_list pins s σ H _ _ vv ov iv u Q I ro ri rv ⟨a, ws, i, j, rfl, rfl, t, by rw [← r.length]; exact hj, q _ (Step.set ha) n1⟩
      · cases es
    · rename_i kvs hn
      obtain ⟨ws, t, r⟩ := l.dct hn ha
      split at es
      · rename_i k hk
        split at es
        · rename_i hz
          cases es
          cases keyOf_kV ry hk
          cases (show ov = Value.ref a from ro)
          have hl : kvs.length = ws.length := by
            have := congrArg List.length r.1
            simpa using this
          have tk : TK X.K H (upd H a (.dK (putK ws k vv))) := TK.upd (noTup_dK t)
          obtain ⟨n1, _⟩ := l.set (u := .dK (putK ws k vv)) (o := .dct (putD kvs k v)) ha ⟨_, upd_same, (r.put rw').mono (Le.refl _) tk⟩
          exact d_setItem (by omega) I (DPut.k t (by rw [← hl]; exact hz)) ri rv fun s' I' => ⟨_, I', q _ (Step.set ha) n1⟩
        · cases es
      · cases es
    · cases es
  · cases es
def sSub (fo fi fv : FE) : FS := fun env h => SR.of (fv env h) env fun v h1 => SR.of (fo env h1) env fun x h2 => SR.of (fi env h2) env fun y h3 => match sStore x y v h3 with
  | some h4 => .ok .nx env h4
  | none => .bad
theorem ss_sub {o i value : Expr} {fi fv : FE} (hu : X.A.units + 65 < cLine) (ho : PE X o (tF X.K cl XW fo)) (hi : PE X i (tF X.K cl XW fi)) (hv : PE X value (tF X.K cl XW fv))
    (ha : ∀ v, assign (.Subscript o i p2) X.env v = (do
      let ov ← holding [v] (eval o X.env)
      let iv ← holding [v, ov] (eval i X.env)
      standAt p2
      holding [v, ov, iv] (setItem ov iv v)
      release [v, ov, iv] []))
    (hs : swapsWithSole [.Subscript o i p2] value pos.line X.env = pure false) (hw : swappedStores [.Subscript o i p2] value X.env = pure none) (h1 : (assignEach [.Subscript o i p2] X.env).map (·.2) = [assign (.Subscript o i p2) X.env]) :
    PS X (.Assign [.Subscript o i p2] value pos) (tS X.K cl XW (sSub fo fi fv)) := by
  refine ⟨fun pins s σ H E I h => (ps_asg hv (pg_sub ho hi (set_store (cl := cl) hu) ha) hs hw h1).run pins s σ H E I ?_⟩
  obtain ⟨as, env, hh, x, e, o⟩ := h
  refine tS.step x e o fun d v as1 h1 H1 y1 x1 e1 r1 o1 => ?_
  refine tS.step x1 e1 o1 fun d2 v2 as2 h2 H2 y2 x2 e2 r2 o2 => ?_
  refine tS.step x2 e2 o2 fun d3 v3 as3 h3 H3 y3 x3 e3 r3 o3 => ?_
  cases hst : sStore d2 d3 d h3 with
  | none => rw [hst] at o3; exact False.elim o3
  | some h4 =>
    rw [hst] at o3
    exact ⟨as3, h3, d2, d3, d, h4, x3, r2.mono y3.le (y3.tk x2), r3, (r1.mono y2.le (y2.tk x1)).mono y3.le (y3.tk x2), hst, fun H4 y4 x4 => o3 as3 H4 σ y4 x4 (e3.mono y4.le (y4.tk x3))⟩

/-! ### loops -/
open Classical in
noncomputable def forL (lk : Lk) (t : Tg) (f : FS) : List D → Nv → Hh → SR
  | [], env, h => if Chk lk h then .ok .nx env h else .bad
  | d :: r, env, h => if Chk lk h then
      match setT t d env with
      | some env1 => match f env1 h with
        | .ok .nx env2 h2 => forL lk t f r env2 h2
        | .ok .ct env2 h2 => forL lk t f r env2 h2
        | .ok .bk env2 h2 => .ok .nx env2 h2
        | q => q
      | none => .bad
    else .bad
noncomputable def sFor (fi : FI) (t : Tg) (f : FS) : FS := fun env h => SR.of (fi env h) env fun q h1 => forL q.2 t f q.1 env h1
theorem ss_for {iter : Expr} {fi : FI} {stt : Bool} {t : Tg} {gg : TG} (hp : PassesOwn (model X.prog X.w) X.A X.env X.xe) (hc : X.calm = true) (hi : PI X tg iter (tFI X.K cl XW stt fi)) (hg : if stt = true then GOk X.K t gg else GOkW X.K t gg) (pg : PG X tg gg) (hb : PSs X body (tS X.K cl XW f))
    (hs : ∀ x, foldedSetIterable iter X.env x = pure x) : PS X (.For tg iter body [] pos) (tS X.K cl XW (sFor fi t f)) := by
  refine ⟨fun pins s σ H E I h => (ps_for hp hc hi pg hb hs).run pins s σ H E I ?_⟩
  obtain ⟨as, env, hh, x, e, o⟩ := h
  refine ⟨as, env, hh, x, e, (SOut.of o x e).mono fun q as1 h1 H1 y1 x1 o1 J IR => ?_⟩
  refine ⟨fun i m s' H' => ∃ as' env' h', m = q.1.length - i ∧ i ≤ q.1.length ∧ Step as1 H1 as' H' ∧ Rl X.K cl as' h' H' ∧ EnvR X.K as' H' env' s' ∧ SOut X.K cl XW as' H' (forL q.2 t f (q.1.drop i) env' h') E,
    ⟨q.1.length, as1, env, h1, rfl, Nat.zero_le _, Step.refl _ _, x1, e.mono y1.le (y1.tk x), o1⟩, ?_⟩
  rintro i m s2 H2 ⟨as2, env2, h2, hm, hi, y2, x2, e2, o2⟩
  by_cases hlt : i < q.1.length
  · rw [List.drop_eq_getElem_cons hlt] at o2
    unfold forL at o2
    have gi : q.1[i]? = some q.1[i] := List.getElem?_eq_getElem hlt
    generalize q.1[i] = d at o2 gi
    split at o2
    · rename_i ck
      split at o2
      · rename_i env3 hset
        obtain ⟨jg, jy⟩ := IR.go i as2 h2 H2 d y2 x2 ck gi
        refine .inr ⟨jg, fun s' H' => ∃ as' env' h', Step as1 H1 as' H' ∧ Rl X.K cl as' h' H' ∧ EnvR X.K as' H' env' s' ∧ SOut X.K cl XW as' H' (forL q.2 t f (q.1.drop (i + 1)) env' h') E, fun s' H' ⟨as', env', h', z1, z2, z3, z4⟩ => ⟨q.1.length - (i + 1), by omega, as', env', h', rfl, hlt, z1, z2, z3, z4⟩, fun x H' hy => ?_⟩
        obtain ⟨yy, l', rx⟩ := jy x H' hy
        have e3 := e2.mono yy.le (yy.tk x2)
        have gok : ∀ Q', (∀ s', EnvR X.K as2 H' env3 s' → Q' s' H') → gg x s2 H' Q' := by
          intro Q' hq
          cases stt with
          | true =>
            rw [if_pos rfl] at hg
            exact hg as2 _ env3 d x _ H' Q' e3 (by simpa [RpS] using rx) hset fun s' e' _ => hq s' e'
          | false =>
            rw [if_neg Bool.false_ne_true] at hg
            exact hg as2 _ env3 d x _ H' Q' e3 (by simpa [RpS] using rx) hset fun s' e' _ => hq s' e'
        refine gok _ fun s' e' => ⟨as2, env3, h2, l', e', ?_⟩
        have o3 := SOut.after o2 yy
        revert o3
        cases f env3 h2 with
        | bad => exact fun z => z
        | exc c gs env4 h4 => exact fun z => z
        | ok fl env4 h4 =>
          cases fl with
          | nx => exact fun o3 as4 H4 s4 y4 x4 e4 => ⟨as4, env4, h4, (y2.trans yy).trans y4, x4, e4, SOut.after o3 y4⟩
          | ct => exact fun o3 as4 H4 s4 y4 x4 e4 => ⟨as4, env4, h4, (y2.trans yy).trans y4, x4, e4, SOut.after o3 y4⟩
          | bk => exact fun o3 as4 H4 s4 y4 x4 e4 => o3 as4 H4 s4 y4 x4 e4
          | rt d => exact fun z => z
      · exact False.elim o2
    · exact False.elim o2
  · have ei : i = q.1.length := by omega
    subst ei
    rw [List.drop_length] at o2
    unfold forL at o2
    split at o2
    · rename_i ck
      exact .inl ⟨IR.stop _ as2 h2 H2 y2 x2 ck (Nat.le_refl _), SOut.here (fl := .nx) o2 x2 e2⟩
    · exact False.elim o2
def whileL (fc : FE) (f : FS) : Nat → Nv → Hh → SR
  | 0, _, _ => .bad
  | n + 1, env, h => SR.of ((fc env h).bind asB) env fun b h1 => if b = true then
      match f env h1 with
      | .ok .nx env2 h2 => whileL fc f n env2 h2
      | .ok .ct env2 h2 => whileL fc f n env2 h2
      | .ok .bk env2 h2 => .ok .nx env2 h2
      | q => q
    else .ok .nx env h1
def sWhile (m : Nat) (fc : FE) (f : FS) : FS := fun env h => whileL fc f m env h
theorem ss_while {c : Expr} {fc : FE} {m : Nat} (hp : PassesOwn (model X.prog X.w) X.A X.env X.xe) (hc : PT X c (tFT X.K cl XW fc)) (hb : PSs X body (tS X.K cl XW f)) : PS X (.While c body [] pos) (tS X.K cl XW (sWhile m fc f)) := by
  refine ⟨fun pins s σ H E I h => (ps_while hp hc hb).run pins s σ H E I ?_⟩
  obtain ⟨as, env, hh, x, e, o⟩ := h
  refine ⟨fun n s' H' => ∃ as' env' h', Rl X.K cl as' h' H' ∧ EnvR X.K as' H' env' s' ∧ SOut X.K cl XW as' H' (whileL fc f n env' h') E, ⟨m, as, env, hh, x, e, o⟩, ?_⟩
  rintro n s2 H2 ⟨as2, env2, h2, x2, e2, o2⟩
  cases n with
  | zero => exact False.elim o2
  | succ n =>
    refine tS.test x2 e2 o2 fun b as3 h3 H3 y3 x3 e3 o3 => ?_
    cases b with
    | false => exact SOut.here (fl := .nx) o3 x3 e3
    | true =>
      refine ⟨fun s' H' => ∃ as' env' h', Rl X.K cl as' h' H' ∧ EnvR X.K as' H' env' s' ∧ SOut X.K cl XW as' H' (whileL fc f n env' h') E, fun s' H' z => ⟨n, Nat.lt_succ_self _, z⟩, as3, env2, h3, x3, e3, ?_⟩
      have o3 : SOut X.K cl XW as3 H3 (match f env2 h3 with
        | .ok .nx env2 h2 => whileL fc f n env2 h2
        | .ok .ct env2 h2 => whileL fc f n env2 h2
        | .ok .bk env2 h2 => .ok .nx env2 h2
        | q => q) E := o3
      revert o3
      cases f env2 h3 with
      | bad => exact fun z => z
      | exc c gs env4 h4 => exact fun z => z
      | ok fl env4 h4 =>
        cases fl with
        | nx => exact fun o4 as4 H4 s4 y4 x4 e4 => ⟨as4, env4, h4, x4, e4, SOut.after o4 y4⟩
        | ct => exact fun o4 as4 H4 s4 y4 x4 e4 => ⟨as4, env4, h4, x4, e4, SOut.after o4 y4⟩
        | bk => exact fun o4 as4 H4 s4 y4 x4 e4 => o4 as4 H4 s4 y4 x4 e4
        | rt d => exact fun z => z
end
end Ev

namespace Ev
open PySem PySem.Spec PyProof.Rows L2

/-! ### defs, where no repr is under way -/
/-- a def keeps its promise wherever it is called outside of all guards -/
structure FG (P : Program) (w : World) (K : PySem.W.Frag) (mg : Str → Option Value) (base : Heap) (CX : CXT) (k : Nat) (f : Addr) (fd : FuncData) (ps : List Str) (sp : Sp) : Prop where
  len : ∀ vs H Q E, sp vs H Q E → vs.length = ps.length
  run : ∀ (A : Around) (outer : List PySem.Env) (s : Shared) (H : Hp) (args : Args) (us : List Value) (vs : List V) (Q : VK) (E : XK), Room k A → A.guards = some [] → Env0 P w K mg base A outer s H →
    BindsTo s fd args (ps.zip us) → Vals vs us → sp vs H Q E → codeAny (model P w) A (.call (.ref f) args) (CR CX outer P w H s Q E) s
section
variable {P : Program} {w : World} {K : PySem.W.Frag} {mg : Str → Option Value} {base : Heap} {CX : CXT}
theorem fg_of {k : Nat} {f : Addr} {x qual : Str} {st : Stmt} {fd : FuncData} {N ps : List Str} {sp : Sp} (F : Fun K x qual st f fd) (S : FnScope N ps (defScope st)) (len : ∀ vs H Q E, sp vs H Q E → vs.length = ps.length)
    (hbody : ∀ (cdv : Value) (A : Around) (outer : List PySem.Env) (s : Shared) (H : Hp) (vs : List V) (Q : VK) (E : XK), Room k (A.deeper (envOfC qual (defScope st) s.heap.objs.size f cdv)) →
      (A.deeper (envOfC qual (defScope st) s.heap.objs.size f cdv)).guards = some [] → sp vs H Q E →
      ∃ t, PSs (cxOf CX P w K mg base N qual (defScope st) f cdv A outer s H E) (defBody st) t ∧ t { nx := fun _ H' => Q .non H', rt := Q } (start N vs) H) :
    FG P w K mg base CX (k + 1) f fd ps sp := by
  obtain ⟨oc, od, kV, doc, pm, an, cdv, ct, osl, rfl, lk, hcd⟩ := F.ex
  refine ⟨len, fun A outer s H args us vs Q E hr hgd e0 hb r hsp => ?_⟩
  have KX : K.In s.heap := e0.mod.kin.keeps fun b o e => (e0.bs b o e).1
  have lim : s.heap.NoLimit := e0.mod.nolimit.keeps fun b o e => (e0.bs b o e).1
  refine codeAny_call_function hr.depth (KX _ _ lk) rfl S.co S.gen rfl (PySem.W.codeRec_of KX hcd) (hb _ _ _ _ ?_)
  refine wpAny_newFunctionEnv_cells S.kind (fun y hy => ?_) fun env he s1 inc => ?_
  · obtain ⟨n, v⟩ := y
    have hn := S.par n (List.of_mem_zip hy).1
    rcases hn with q | q
    · exact .inl q
    · exact .inr ⟨q, PySem.W.cellsFrom_some _ _ _ (.inl q)⟩
  · subst he
    refine ⟨lim.keeps inc.toInCall.keep, codeAny_func ?_⟩
    obtain ⟨t, ht, hq⟩ := hbody cdv A outer s H vs Q E (hr.deeper _) hgd hsp
    have I := inv_start (CX := CX) (cd := cdv) (f := f) (E := E) (qual := qual) S hr.hd e0 (len _ _ _ _ hsp) r inc
    refine wpAny_mono (ht.run [] s1 (start N vs) H _ I hq) (fun fl s' hs => ?_) fun e s' hs => hs
    cases fl with
    | ret u =>
      obtain ⟨v, s2, H', J, rv, q⟩ := hs
      exact ⟨v, H', J.os, J.bare, J.base, J.hok, rv, q⟩
    | next =>
      obtain ⟨s2, H', J, q⟩ := hs
      exact ⟨.non, H', J.os, J.bare, J.base, J.hok, rfl, q⟩
    | brk =>
      obtain ⟨_, _, _, q⟩ := hs
      exact False.elim q
    | cont =>
      obtain ⟨_, _, _, q⟩ := hs
      exact False.elim q
end
section
variable {X : Cx} {CX : CXT} {k : Nat} {f : Addr} {fd : FuncData} {ps : List Str} {sp : Sp} {E : XK} {x : Str} {p pos : Pos} {e : Expr} {es : List Expr} {t : TA}
theorem run_fg {pins : List (Addr × Obj)} {σ : L2.St} {H : Hp} {s : Shared} {Q : VK} {us : List Value} {vs : List V} (F : FG X.prog X.w X.K X.mg X.base CX k f fd ps sp) (hr : Room k X.A) (hgd : X.A.guards = some []) (hb : Binds X.K fd ps []) (hx : Passes CX X E)
    (I : L2.Inv X pins σ H s) (r : Vals vs us) (h : sp vs H Q E) : wpAny (model X.prog X.w) X.A (call (.ref f) us) (EP X pins σ Q) X.xe s := by
  have hl : us.length = ps.length := by rw [← r.length]; exact F.len _ _ _ _ h
  have hbb := hb s us I.kIn (by simpa using hl)
  rw [List.append_nil] at hbb
  refine wpAny_call (codeAny_mono (F.run X.A X.stack s H ⟨us, []⟩ us vs Q E hr hgd I.env0 hbb r h) fun r s' hq => ?_)
  cases r with
  | error e => exact hx pins σ H s e s' I hq
  | ok fl =>
    cases fl with
    | ret u => exact I.after hq
    | next => exact False.elim hq
    | brk => exact False.elim hq
    | cont => exact False.elim hq
theorem pe_callG (F : FG X.prog X.w X.K X.mg X.base CX k f fd ps sp) (hr : Room k X.A) (hgd : X.A.guards = some []) (hg : Gl X x) (hm : X.mg x = some (.ref f)) (hk : PySem.W.keepIn X.K (.ref f) = true) (hb : Binds X.K fd ps []) (hx : Passes CX X E)
    (ha : PA X (e :: es) t) (hdb : (x == ("__debug__" : Str)) = false) (he : starEach (e :: es) X.env = (false, eval e X.env) :: starEach es X.env) (hpl : (backTo pos (starEach es X.env)).any (·.1) = false) :
    PE X (.Call (.Name x p) (e :: es) [] pos) (fun σ H Q => t σ H fun vs H1 => sp vs H1 Q E) := by
  refine ⟨fun pins s σ H Q I h => ?_⟩
  refine wpAny_Call_Name_kw (ld_glob I hg hm ?_ hdb)
  refine PySem.W.callWith_K (h₀ := X.base) I.ok.mod.kin hk (thn (ha.run pos pins s σ H _ I h) fun us s1 ⟨vs, H1, I1, r, q⟩ => ⟨I1.kIn, ?_⟩) he hpl
  exact run_fg F hr hgd hb hx I1 r q
theorem pe_callG0 (F : FG X.prog X.w X.K X.mg X.base CX k f fd ps sp) (hr : Room k X.A) (hgd : X.A.guards = some []) (hg : Gl X x) (hm : X.mg x = some (.ref f)) (hk : PySem.W.keepIn X.K (.ref f) = true) (hb : Binds X.K fd ps []) (hx : Passes CX X E)
    (hdb : (x == ("__debug__" : Str)) = false) : PE X (.Call (.Name x p) [] [] pos) (fun σ H Q => sp [] H Q E) := by
  refine ⟨fun pins s σ H Q I h => ?_⟩
  refine wpAny_Call_Name_kw (ld_glob I hg hm ?_ hdb)
  exact PySem.W.callWith_K0 I.kIn hk (run_fg (us := []) F hr hgd hb hx I .nil h)
end

/-! ### the end: the law's own call -/
theorem law_callG {P : Program} {w : World} {K : PySem.W.Frag} {mg mb : Str → Option Value} {CX : CXT} {k : Nat} {fa a : Addr} {fd : FuncData} {x : Str} {sp : Sp} {s1 : Shared} {vs : List Value} {ns : List Int}
    (KX : K.In s1.heap) (hns : s1.heap.Ns mainGlobals mg) (hb : s1.heap.Ns builtinsNs mb) (hbb : ∀ x : Str, x ≠ "__name__" → mb x = bootBuiltins x) (hlim : s1.heap.NoLimit) (hg : s1.gens = #[])
    (ha : s1.heap.get? a = some { cls := .type "list", data := .seq vs.toArray }) (hi : IntsAre vs ns) (hl : ns.length ≤ sizeLine) (hr : Room k callerA)
    (F : ∀ base : Heap, K.In base → base.Ns mainGlobals mg → FG P w K mg base CX k fa fd [x] sp) (hbind : ∀ (s : Shared) (u : Value), K.In s.heap → BindsTo s fd ⟨[u], []⟩ [(x, u)])
    (hsp : ∀ H : Hp, Only H → SqF K H a (ns.map V.int) → sp [.ref a] H (fun v _ => v = .bl true) fun _ _ _ => False)
    (hCX : ∀ H e s', CX [] H s1 (fun _ _ _ => False) e s' → False) :
    codeAny (model P w) callerA (.call (.ref fa) ⟨[.ref a], []⟩) (fun r s' => r = .ok (.ret (.bool true)) ∧ OldK s1.heap s'.heap ∧ s'.os = s1.os ∧ AllBare s'.gens) s1 := by
  have rv : Vals (ns.map V.int) vs := vals_of_ints hi
  have lenV := hi.length
  have core : ∀ H : Hp, Only H → SqF K H a (ns.map V.int) → HOk P w H s1.heap → (∀ b u, H b = some u → b = a) → (∀ u, H a = some u → K.lookup a = none) →
      codeAny (model P w) callerA (.call (.ref fa) ⟨[.ref a], []⟩) (fun r s' => r = .ok (.ret (.bool true)) ∧ OldK s1.heap s'.heap ∧ s'.os = s1.os ∧ AllBare s'.gens) s1 := by
    intro H hO hS hok hA hK
    have free : ∀ {b : Addr} {o : Obj}, s1.heap.get? b = some o → (∀ its n, o.data ≠ .seq its n) → H b = none := fun {b o} e d => by
      cases q : H b with
      | none => rfl
      | some u =>
        have z := hA b u q
        subst z
        rw [ha] at e
        cases e
        exact absurd rfl (d _ _)
    have nsK : ∀ {b : Addr} {m : Str → Option Value}, s1.heap.Ns b m → (hidT s1.heap H).Ns b m := fun {b m} ⟨o, es, ep, e, d, r⟩ =>
      ⟨o, es, ep, hidT_get e (free e fun its n z => by rw [d] at z; cases z), d, r⟩
    have hKb : K.In (hidT s1.heap H) := fun b o e => hidT_get (KX b o e) (by
      cases q : H b with
      | none => rfl
      | some u =>
        have z := hA b u q
        subst z
        rw [hK u q] at e
        cases e)
    have hM : Mod K mg (hidT s1.heap H) := by
      obtain ⟨mc, l1, l2⟩ := hlim
      exact ⟨hKb, nsK hns, ⟨mb, nsK hb, hbb⟩, ⟨mc, nsK l1, l2⟩⟩
    have e0 : Env0 P w K mg (hidT s1.heap H) callerA [] s1 H :=
      ⟨rfl, hM, fun b o e => of_hidT e, Nat.le_of_eq (hidT_size _ _), trivial, fun b hb => absurd (show b ∈ ([] : List Addr) from hb) (by simp), hok, .of_eq hg⟩
    refine codeAny_mono ((F _ hKb (nsK hns)).run callerA [] s1 H ⟨[.ref a], []⟩ [.ref a] [.ref a] _ _ hr rfl e0 (hbind s1 (.ref a) KX) (.cons rfl .nil) (hsp H hO hS)) fun r s' h => ?_
    cases r with
    | error e => exact (hCX H e s' h).elim
    | ok fl =>
      cases fl with
      | next => exact False.elim h
      | brk => exact False.elim h
      | cont => exact False.elim h
      | ret u =>
        obtain ⟨v, H', os, bare, un, hok', r', q⟩ := h
        have q : v = .bl true := q
        subst q
        cases (show u = Value.bool true from r')
        refine ⟨rfl, OldK.of_keep fun b o e => ?_, os, bare⟩
        rcases hO b with z | ⟨ob, xs, z⟩
        · exact un.keep b o e z (fun y => absurd (show b ∈ ([] : List Addr) from y) (by simp)) (by simp)
        · have e1 : s1.heap.get? b = some ob := (hok b _ z).1
          have e2 : s'.heap.get? b = some ob := (hok' b _ (un.frzs b ob _ z)).1
          rw [e1] at e
          cases e
          exact e2
  cases hk : K.lookup a with
  | some o =>
    have e := KX a o hk
    rw [ha] at e
    cases e
    refine core (fun _ => none) (fun _ => .inl rfl) (.inr ⟨_, vs.toArray, _, hk, rfl, rfl, rfl, ?_, by simpa using rv⟩) (fun b u z => nomatch z) (fun b u z => nomatch z) fun u z => nomatch z
    rw [List.size_toArray, lenV]
    exact hl
  | none =>
    let ob : Obj := { cls := .type "list", data := .seq vs.toArray }
    refine core (upd (fun _ => none) a (.frz ob (.lst (ns.map V.int)))) (fun b => ?_) (.inl ⟨ob, upd_same⟩) (fun b u z => ?_) (fun b u z => ?_) fun _ _ => hk
    · by_cases hb : b = a
      · subst hb
        exact .inr ⟨ob, _, upd_same⟩
      · exact .inl (upd_ne hb)
    · by_cases hb : b = a
      · subst hb
        rw [upd_same] at z
        cases z
        exact ⟨ha, by rw [List.length_map]; exact hl, vs, _, rv, ha⟩
      · rw [upd_ne hb] at z
        cases z
    · by_cases hb : b = a
      · exact hb
      · rw [upd_ne hb] at z
        cases z
theorem walk_G {l : PySem.W.OpenLaw} {n k : Nat} {q : Program} {loose : List Str} {XP : (Str → Option Value) → Heap → Prop} {YP : World → Heap → Prop} {d : DefRec} {K : Params → PySem.W.Frag} {CX : World → CXT} {sp : World → Sp} {x : Str}
    (hn : l.most = some n) (hn2 : n ≤ sizeLine) (hdf : d.params.defaults = []) (hr : Room k callerA) (hY : ∀ (w : World) (h : Heap), YP w h → (K w.params).In h)
    (F : ∀ (w : World) (mg : Str → Option Value) (fa : Addr) (h : Heap), (K w.params).In h → h.Ns mainGlobals mg → mg d.name = some (.ref fa) →
      ∃ fd : FuncData, (∀ (s : Shared) (u : Value), (K w.params).In s.heap → BindsTo s fd ⟨[u], []⟩ [(x, u)]) ∧ ∀ base : Heap, (K w.params).In base → base.Ns mainGlobals mg → FG l.prog w (K w.params) mg base (CX w) k fa fd [x] (sp w))
    (hsp : ∀ (w : World) (H : Hp) (a : Addr) (ns : List Int), ns.length ≤ n → Only H → SqF (K w.params) H a (ns.map V.int) → sp w [.ref a] H (fun v _ => v = .bl true) fun _ _ _ => False)
    (hCX : ∀ (w : World) (H : Hp) (s : Shared) (e : Value) (s' : Shared), CX w [] H s (fun _ _ _ => False) e s' → False) :
    PySem.W.WalkO q loose XP YP l.row.toRowW d [] (fun f vs => PySem.call f vs) := by
  refine Att.attach_call hn hdf fun w s0 s1 mg mb fa o pm cd doc a vs ns G Y ho hd hcd hmg hobj hints hlen hg => ?_
  have KX := hY w _ Y
  obtain ⟨fd, hb, hF⟩ := F w mg fa _ KX G.T.g hmg
  exact law_callG KX G.T.g G.T.b G.T.builtins G.T.nolimit hg hobj hints (Nat.le_trans hlen hn2) hr hF hb (fun H hO hS => hsp w H a ns hlen hO hS) fun H e s' => hCX w H s1 e s'
end Ev

/-! The text as a tree of our own, its run, and how it is held against the linked text. -/
namespace Ev
open PySem PySem.Spec PyProof.Rows L2

inductive E where
  | var (i : Nat)
  | gv (j : Nat)
  | int (i : Int)
  | str (s : Str)
  | bl (b : Bool)
  | non
  | bin (op : Operator) (a b : E)
  | neg (a : E)
  | not (a : E)
  | one (a : E)
  | and (a r : E)
  | or (a r : E)
  | cmp (op : CmpOp) (a b : E)
  | chain (o p : CmpOp) (a b c : E)
  | ife (c a b : E)
  | call (f : Nat) (args : E)
  | blt (b : Bi) (args : E)
  | isi (a : E) (t : Tk)
  | mth (m : Mn) (o args : E)
  | lst (es : E)
  | tup (es : E)
  | dct (ks : List Str) (es : E)
  | idx (o i : E)
  | slc (o lo hi : E)
  | comp (vs : List Nat) (t : Tg) (it c e : E)
  | yes
  | anil
  | acons (a r : E)
  | onil
  | osome (a : E)
  | iexp (e : E)
  | irng (args : E)
  | ienum (e : E)
inductive S where
  | nil
  | cons (a r : S)
  | expr (e : E)
  | doc
  | ret (e : E)
  | retN
  | pass
  | brk
  | cnt
  | ife (c : E) (a b : S)
  | asg (t : Tg) (e : E)
  | par (i j : Nat) (es : E)
  | sub (o i v : E)
  | fora (t : Tg) (it : E) (b : S)
  | whil (c : E) (b : S)

def fBad : FE := fun _ _ => .bad
def whFuel : Nat := 1000000
section
variable (T : Nat → Option D) (cal : Nat → List D → Hh → R D)
mutual
noncomputable def evE : E → FE
  | .var i => fVar i
  | .gv j => match T j with
    | some d => fC d
    | none => fBad
  | .int i => fC (.int i)
  | .str s => fC (.str s)
  | .bl b => fC (.bl b)
  | .non => fC .non
  | .bin op a b => f2 (sBin op) (evE a) (evE b)
  | .neg a => f1 sNeg (evE a)
  | .not a => fNot (evE a)
  | .one a => evE a
  | .and a r => fAnd (evE a) (evE r)
  | .or a r => fOr (evE a) (evE r)
  | .cmp op a b => f2 (sCmp op) (evE a) (evE b)
  | .chain o p a b c => fChain (sCmp o) (sCmp p) (evE a) (evE b) (evE c)
  | .ife c a b => fIf (evE c) (evE a) (evE b)
  | .call f args => fun env h => (evA args env h).bind fun ds h1 => cal f ds h1
  | .blt b args => fN (sB b) (evA args)
  | .isi a t => f1 (sIsi t) (evE a)
  | .mth m o args => fM m (evE o) (evA args)
  | .lst es => fLst (evA es)
  | .tup es => fTup (evA es)
  | .dct ks es => match ks with
    | [] => fDct0
    | k :: r => fDct (k :: r) (evA es)
  | .idx o i => f2 sIdx (evE o) (evE i)
  | .slc o lo hi => fSlc (evE o) (evO lo) (evO hi)
  | .comp vs t it c e => fComp vs (evI it) t (evE c) (evE e)
  | .yes => fYes
  | .anil => fBad
  | .acons _ _ => fBad
  | .onil => fBad
  | .osome _ => fBad
  | .iexp _ => fBad
  | .irng _ => fBad
  | .ienum _ => fBad
noncomputable def evA : E → FA
  | .anil => aNil
  | .acons a r => aCons (evE a) (evA r)
  | _ => fun _ _ => .bad
noncomputable def evO : E → FO
  | .onil => oNil
  | .osome a => oSome (evE a)
  | _ => fun _ _ => .bad
noncomputable def evI : E → FI
  | .iexp e => iExp (evE e)
  | .irng args => iRng (evA args)
  | .ienum e => iEnumL (evE e)
  | _ => fun _ _ => .bad
end
noncomputable def evS : S → FS
  | .nil => sNil
  | .cons a r => sSeq (evS a) (evS r)
  | .expr e => sExpr (evE T cal e)
  | .doc => sNil
  | .ret e => sRet (evE T cal e)
  | .retN => sRetN
  | .pass => sNil
  | .brk => sBrk
  | .cnt => sCnt
  | .ife c a b => sIf (evE T cal c) (evS a) (evS b)
  | .asg t e => sAsg t (evE T cal e)
  | .par i j es => sPar i j (evA T cal es)
  | .sub o i v => sSub (evE T cal o) (evE T cal i) (evE T cal v)
  | .fora t it b => sFor (evI T cal it) t (evS b)
  | .whil c b => sWhile whFuel (evE T cal c) (evS b)
end
structure Fd where
  np : Nat
  ns : Nat
  body : S
def start0 (fd : Fd) (ds : List D) : Nv := ds.map some ++ List.replicate (fd.ns - ds.length) none
def endS (r : SR) : R D :=
  match r with
  | .ok (.rt d) _ h => .ok d h
  | .ok .nx _ h => .ok .non h
  | .exc c fs _ h => .exc c fs h
  | _ => .bad
noncomputable def callK (T : Nat → Option D) (F : Nat → Option Fd) : Nat → Nat → List D → Hh → R D
  | 0, _, _, _ => .bad
  | k + 1, f, ds, h => match F f with
    | some fd => if ds.length = fd.np then endS (evS T (callK T F k) fd.body (start0 fd ds) h) else .bad
    | none => .bad

/-! ### the text held against the tree -/
def visB (sc : Scope) (x : Str) : Bool := match sc.names.lookup x with
  | some .local => true
  | some .cell => true
  | some .free => true
  | _ => false
def locB (sc : Scope) (x : Str) : Bool := match sc.names.lookup x with
  | some .local => true
  | some .cell => true
  | _ => false
def glB (sc : Scope) (x : Str) : Bool := match sc.names.lookup x with
  | some .globalImplicit => true
  | _ => false
def starB : Expr → Bool
  | .Starred _ _ => true
  | _ => false
def compB : Expr → Bool
  | .ListComp _ _ _ _ => true
  | .SetComp _ _ _ _ => true
  | .DictComp _ _ _ _ _ => true
  | _ => false
def setB : Expr → Bool
  | .Set _ _ _ => true
  | _ => false
def sliceB : Expr → Bool
  | .Slice _ _ _ _ => true
  | _ => false
def call0B : Expr → Bool
  | .Call (.Name _ _) [] [] _ => true
  | _ => false
def tupB : Expr → Bool
  | .Tuple _ _ _ => true
  | _ => false
structure CC where
  N : List Str
  gn : List Str
  fn : List Str
def chkT (N : List Str) (st : Str → Bool) : Tg → Expr → Bool
  | .nm i, .Name x _ => decide (N[i]? = some x) && st x
  | .tp (.tcons a (.tcons b .tnil)), .Tuple [ea, eb] _ _ => chkT N st a ea && chkT N st b eb && !starB ea && !starB eb
  | .tp (.tcons a (.tcons b (.tcons c .tnil))), .Tuple [ea, eb, ec] _ _ => chkT N st a ea && chkT N st b eb && chkT N st c ec && !starB ea && !starB eb && !starB ec
  | _, _ => false
def ownOf (N : List Str) (vs : List Nat) : List (Str × Nat) := vs.map fun i => (N.getD i "", i)
/-- what may stand as a test -/
def tst : E → Bool
  | .ife _ _ _ => false
  | .not a => tst a
  | .one a => tst a
  | .and a r => tst a && tst r
  | .or a r => tst a && tst r
  | _ => true
def isBo : E → Bool
  | .one _ => true
  | .and _ _ => true
  | .or _ _ => true
  | _ => false
def stI : E → Bool
  | .ienum _ => false
  | _ => true
mutual
def chkE (C : CC) : Scope → E → Expr → Bool
  | sc, .var i, .Name x _ => decide (C.N[i]? = some x) && visB sc x && !(x == ("__debug__" : Str)) && !(x == ("__classdict__" : Str))
  | sc, .gv j, .Name x _ => decide (C.gn[j]? = some x) && glB sc x && !(x == ("__debug__" : Str))
  | _, .int i, .Constant (.int j) _ _ => decide (i = j)
  | _, .str s, .Constant (.str t) _ _ => decide (s = t)
  | _, .bl b, .Constant (.bool c) _ _ => decide (b = c)
  | _, .non, .Constant .none _ _ => true
  | sc, .bin op a b, .BinOp ea eop eb _ => decide (op = eop) && chkE C sc a ea && chkE C sc b eb
  | sc, .neg a, .UnaryOp .USub ea _ => chkE C sc a ea
  | sc, .not a, .UnaryOp .Not ea _ => chkE C sc a ea
  | sc, .one a, .BoolOp _ [ea] _ => chkE C sc a ea
  | sc, .and a r, .BoolOp .And (ea :: eb :: rest) pos => chkE C sc a ea && chkE C sc r (.BoolOp .And (eb :: rest) pos) && isBo r
  | sc, .or a r, .BoolOp .Or (ea :: eb :: rest) pos => chkE C sc a ea && chkE C sc r (.BoolOp .Or (eb :: rest) pos) && isBo r
  | sc, .cmp op a b, .Compare ea [eop] [eb] _ => decide (op = eop) && chkE C sc a ea && chkE C sc b eb && !setB eb
  | sc, .chain o p a b c, .Compare ea [eo, ep] [eb, ec] _ => decide (o = eo) && decide (p = ep) && chkE C sc a ea && chkE C sc b eb && chkE C sc c ec && !setB ec
  | sc, .ife c a b, .IfExp ec ea eb _ => chkE C sc c ec && chkE C sc a ea && chkE C sc b eb && tst c
  | sc, .call f args, .Call (.Name x _) es [] _ => decide (C.fn[f]? = some x) && glB sc x && !(x == ("__debug__" : Str)) && chkA C sc args es
  | sc, .blt b args, .Call (.Name x _) (e :: es) [] _ => decide (x = biName b) && glB sc x && chkA C sc args (e :: es)
  | sc, .isi a t, .Call (.Name x _) [ea, .Name y _] [] _ => decide (x = "isinstance") && decide (y = tkStr t) && decide (t ≠ .none) && glB sc x && glB sc y && chkE C sc a ea && !starB ea
  | sc, .mth m o args, .Call (.Attribute eo name apos) es [] pos => decide (name = mnStr m) && chkE C sc o eo && chkA C sc args es && !call0B eo && decide (es.length < 29) && (apos.endLine == pos.line)
  | sc, .lst es, .List ees _ => chkA C sc es ees
  | sc, .tup es, .Tuple ees _ _ => chkA C sc es ees
  | sc, .dct ks es, .Dict keys vals _ => chkD C sc ks es keys vals && decide (keys.length ≤ 15)
  | sc, .idx o i, .Subscript eo ei _ => chkE C sc o eo && chkE C sc i ei && !sliceB ei
  | sc, .slc o lo hi, .Subscript eo (.Slice elo ehi none _) _ => chkE C sc o eo && chkO C sc lo elo && chkO C sc hi ehi
  | sc, .comp vs t it c e, .ListComp ee [⟨tg, iter, ifs, 0⟩] scope _ => blkC C.N sc scope (ownOf C.N vs) && chkI C sc it iter && (stI it || tupB tg) && !setB iter && chkT C.N (locB scope) t tg && (slotsT t).all (fun i => decide (i ∈ vs)) &&
      (match ifs with
      | [] => (match c with | .yes => true | _ => false)
      | [ec] => chkE C (relS scope sc) c ec && tst c
      | _ => false) && chkE C (relS scope sc) e ee
  | _, _, _ => false
def chkA (C : CC) : Scope → E → List Expr → Bool
  | _, .anil, [] => true
  | sc, .acons a r, ea :: es => chkE C sc a ea && chkA C sc r es && !starB ea
  | _, _, _ => false
def chkD (C : CC) : Scope → List Str → E → List (Option Expr) → List Expr → Bool
  | _, [], .anil, [], [] => true
  | sc, k :: ks, .acons a r, some (.Constant (.str s) _ _) :: keys, v :: vals => decide (k = s) && chkE C sc a v && chkD C sc ks r keys vals
  | _, _, _, _, _ => false
def chkO (C : CC) : Scope → E → Option Expr → Bool
  | _, .onil, none => true
  | sc, .osome a, some e => chkE C sc a e
  | _, _, _ => false
def chkI (C : CC) : Scope → E → Expr → Bool
  | sc, .iexp a, e => chkE C sc a e
  | sc, .irng args, .Call (.Name x _) es [] _ => decide (x = "range") && glB sc x && chkA C sc args es && (decide (es.length = 1) || decide (es.length = 2))
  | sc, .ienum a, .Call (.Name x _) [e] [] _ => decide (x = "enumerate") && glB sc x && chkE C sc a e && !starB e
  | _, _, _ => false
end
/-- whether «y = [..]» is stored within the comprehension -/
def swapB (sc scope : Scope) (y : Str) (py pos : Pos) : Bool := decide (sc.names.lookup y = some .local) && (py.line == pos.line) && !(scope.names.any fun (n, k) => n == y && (k == .local || k == .cell))
def chkS (C : CC) (sc : Scope) : S → Stmt → Bool
  | .expr e, .Expr ee _ => chkE C sc e ee && !compB ee
  | .doc, .Expr (.Constant (.str _) _ _) _ => true
  | .ret e, .Return (some ee) _ => chkE C sc e ee
  | .retN, .Return none _ => true
  | .pass, .Pass _ => true
  | .brk, .Break _ => true
  | .cnt, .Continue _ => true
  | .ife c a b, .If ec sa sb _ => chkE C sc c ec && tst c && chkL C sc a sa && chkL C sc b sb
  | .asg t e, .Assign [tg] ee _ => chkE C sc e ee && chkT C.N (locB sc) t tg && !(tupB tg && tupB ee)
  | .par i j es, .Assign [.Tuple [.Name x px, .Name y py] _ _] (.Tuple [ea, eb] _ _) _ => decide (C.N[i]? = some x) && decide (C.N[j]? = some y) && decide (i ≠ j) && decide (sc.names.lookup x = some .local) && decide (sc.names.lookup y = some .local) && (py.line == px.line) && decide (x ≠ y) &&
      !([ea, eb].all (foldedForSure 8)) && !([ea, eb].all (constantsAlone 8)) && chkA C sc es [ea, eb]
  | .sub o i v, .Assign [.Subscript eo ei _] ev _ => chkE C sc o eo && chkE C sc i ei && chkE C sc v ev && !sliceB ei
  | .fora t it b, .For tg iter body [] _ => chkI C sc it iter && (stI it || tupB tg) && !setB iter && chkT C.N (locB sc) t tg && chkL C sc b body
  | .whil c b, .While ec body [] _ => chkE C sc c ec && tst c && chkL C sc b body
  | _, _ => false
where chkL (C : CC) (sc : Scope) : S → List Stmt → Bool
  | .nil, [] => true
  | .cons a r, st :: rest => chkS C sc a st && chkL C sc r rest
  | _, _ => false
end Ev

namespace Ev
open PySem PySem.Spec PyProof.Rows L2

/-! ### what is seen of the text at once -/
theorem star_ok {e : Expr} {es : List Expr} {env : PySem.Env} (h : starB e = false) : starEach (e :: es) env = (false, eval e env) :: starEach es env := by
  cases e <;> first | rfl | cases h
theorem stars_ok {env : PySem.Env} {pos : Pos} : ∀ {es : List Expr}, (es.all fun e => !starB e) = true → (backTo pos (starEach es env)).any (·.1) = false ∧ (backTo pos (starEach es env)).all (fun x => !x.1) = true
  | [], _ => ⟨rfl, rfl⟩
  | e :: es, h => by
    rw [List.all_cons, Bool.and_eq_true] at h
    obtain ⟨h1, h2⟩ := stars_ok (pos := pos) (env := env) h.2
    rw [star_ok (by simpa using h.1)]
    exact ⟨by simpa [backTo] using h1, by simpa [backTo] using h2⟩
theorem swaps_plain {e : Expr} {t : Option Expr} {l : Nat} {env : PySem.Env} (h : compB e = false) : swapsWith e t l env = pure false := by
  cases e <;> first | rfl | cases h
theorem fold_set {e : Expr} {env : PySem.Env} (h : setB e = false) : ∀ x, foldedSetIterable e env x = pure x := by
  intro x
  cases e <;> first | rfl | cases h
theorem marks_ok {op : CmpOp} {b : Expr} (h : setB b = false) : behindInMarks op b = false := by
  cases b <;> first | rfl | cases h
theorem last_ok {o p : CmpOp} {b c : Expr} (h : setB c = false) : lastMarks [o, p] [b, c] = false := by
  cases c <;> first | rfl | cases h
theorem ix_ok {b : Expr} (h : sliceB b = false) : PlainIx b := by
  intro o i
  cases b <;> first | rfl | cases h
theorem attr_ok {o : Expr} {m : Str} {env : PySem.Env} (h : call0B o = false) : attributeBase o m env (eval o env) = eval o env := by
  cases o with
  | Call f args kws pos =>
    cases f with
    | Name id p =>
      cases args with
      | nil =>
        cases kws with
        | nil => cases h
        | cons _ _ => rfl
      | cons _ _ => rfl
    | _ => rfl
  | _ => rfl
theorem few_ok {env : PySem.Env} {pos : Pos} {es : List Expr} (h : (es.all fun e => !starB e) = true) (hl : es.length < 29) :
    ((backTo pos (starEach es env)).all (fun x => !x.1) && (backToKw pos (keywordEach [] env)).all (fun x => x.1.isSome) && decide (es.length + ([] : List Keyword).length + (if ([] : List Keyword).isEmpty then 0 else 1) < 30)) = true := by
  rw [(stars_ok h).2]
  simp [backToKw, keywordEach]
  omega
theorem gl_ok {X : Cx} {x : Str} (h : glB X.env.scope x = true) : Gl X x := by
  unfold glB at h
  show X.env.scope.names.lookup x = some .globalImplicit
  split at h
  · assumption
  · cases h
theorem vis_ok {X : Cx} {x : Str} (h : visB X.env.scope x = true) : Vis X.env.scope x := by
  unfold visB at h
  split at h
  · exact .inl (by assumption)
  · exact .inr (.inl (by assumption))
  · exact .inr (.inr (by assumption))
  · cases h
theorem loc_ok {sc : Scope} {x : Str} (h : locB sc x = true) : Loc sc x := by
  unfold locB at h
  split at h
  · exact .inl (by assumption)
  · exact .inr (by assumption)
  · cases h

/-! ### targets -/
def lenT : Tg → Nat
  | .tcons _ r => lenT r + 1
  | _ => 0
mutual
def gT (K : PySem.W.Frag) : Tg → TG
  | .nm i => gName i
  | .tp l => gTup K (lenT l) (gTs K l)
  | _ => fun _ _ _ _ => False
def gTs (K : PySem.W.Frag) : Tg → TGs
  | .tnil => gNil
  | .tcons a r => gCons (gT K a) (gTs K r)
  | _ => fun _ _ _ _ => False
end
theorem len_setTs : ∀ (t : Tg) (ds : List D) (env env' : Nv), setTs t ds env = some env' → ds.length = lenT t
  | .tnil, [], _, _, _ => rfl
  | .tnil, _ :: _, _, _, h => by cases h
  | .tcons a r, [], _, _, h => by cases h
  | .tcons a r, d :: ds, env, env', h => by
    have h : (match setT a d env with
        | some env1 => setTs r ds env1
        | none => none) = some env' := h
    cases hs : setT a d env with
    | none => rw [hs] at h; cases h
    | some env1 =>
      rw [hs] at h
      have := len_setTs r ds env1 env' h
      simp [lenT, this]
  | .nm _, ds, _, _, h => by cases ds <;> cases h
  | .tp _, ds, _, _, h => by cases ds <;> cases h
theorem gok_all (K : PySem.W.Frag) : ∀ t : Tg, GOk K t (gT K t) ∧ GsOk K t (gTs K t) ∧ (∀ l, t = .tp l → GOkW K t (gT K t)) := by
  intro t
  induction t with
  | nm i => exact ⟨gok_name i, fun as env env' ds vs s H Q e r st q => (by cases ds <;> cases st), fun l z => nomatch z⟩
  | tp l ih =>
    have w : GOkW K (.tp l) (gT K (.tp l)) := gok_tup ih.2.1 (len_setTs l)
    exact ⟨w.gok, fun as env env' ds vs s H Q e r st q => (by cases ds <;> cases st), fun _ _ => w⟩
  | tnil => exact ⟨fun as env env' d v s H Q e r st q => (by cases st), gsok_nil, fun l z => nomatch z⟩
  | tcons a r iha ihr => exact ⟨fun as env env' d v s H Q e r st q => (by cases st), gsok_cons iha.1 ihr.2.1, fun l z => nomatch z⟩
/-- a context in which names may be stored -/
def StoOk (X : Cx) (st : Str → Bool) : Prop := ∀ x, st x = true → Loc X.env.scope x ∧ (X.fn x = true ∨ X.env.scope.names.lookup x = some .local)
theorem pgs_c {X : Cx} {e : Expr} {es : List Expr} {t : TG} {u : TGs} (h1 : PG X e t) (h2 : PGs X es u) (h : starB e = false) : PGs X (e :: es) (gCons t u) := by
  refine pgs_cons h1 h2 ?_
  cases e <;> first | rfl | cases h
theorem each_ok {env : PySem.Env} : ∀ {es : List Expr}, (es.all fun e => !starB e) = true → (assignEach es env).length = es.length ∧ (assignEach es env).findIdx? (·.1) = none
  | [], _ => ⟨rfl, rfl⟩
  | e :: es, h => by
    rw [List.all_cons, Bool.and_eq_true] at h
    obtain ⟨h1, h2⟩ := each_ok (env := env) h.2
    have hs : starB e = false := by simpa using h.1
    have : assignEach (e :: es) env = (false, assign e env) :: assignEach es env := by
      cases e <;> first | rfl | cases hs
    rw [this]
    refine ⟨by simp [h1], ?_⟩
    rw [List.findIdx?_cons]
    simp [h2]
theorem pg_all {X : Cx} {st : Str → Bool} (hc : X.calm = true) (hN : X.N.Nodup) (ho : StoOk X st) : ∀ (t : Tg) (tg : Expr), chkT X.N st t tg = true → PG X tg (gT X.K t)
  | .nm i, tg, h => by
    cases tg with
    | Name x p =>
      have h : (decide (X.N[i]? = some x) && st x) = true := h
      rw [Bool.and_eq_true, decide_eq_true_eq] at h
      obtain ⟨h1, h2⟩ := ho x h.2
      exact pg_name hN h.1 h1 h2
    | _ => cases h
  | .tp (.tcons a (.tcons b .tnil)), tg, h => by
    unfold chkT at h
    split at h
    · cases ‹Tg.tp _ = Tg.nm _›
    · rename_i a' b' ea eb k p z
      cases z
      simp only [Bool.and_eq_true] at h
      obtain ⟨⟨⟨h1, h2⟩, h3⟩, h4⟩ := h
      have s1 : starB ea = false := by simpa using h3
      have s2 : starB eb = false := by simpa using h4
      obtain ⟨l1, l2⟩ := each_ok (env := X.env) (es := [ea, eb]) (by simp [s1, s2])
      exact pg_tup hc (pgs_c (pg_all hc hN ho a ea h1) (pgs_c (pg_all hc hN ho b eb h2) pgs_nil s2) s1) l1 l2
    · rename_i z
      cases z
    · cases h
  | .tp (.tcons a (.tcons b (.tcons c .tnil))), tg, h => by
    unfold chkT at h
    split at h
    · cases ‹Tg.tp _ = Tg.nm _›
    · rename_i z
      cases z
    · rename_i a' b' c' ea eb ec k p z
      cases z
      simp only [Bool.and_eq_true] at h
      obtain ⟨⟨⟨⟨⟨h1, h2⟩, h3⟩, h4⟩, h5⟩, h6⟩ := h
      have s1 : starB ea = false := by simpa using h4
      have s2 : starB eb = false := by simpa using h5
      have s3 : starB ec = false := by simpa using h6
      obtain ⟨l1, l2⟩ := each_ok (env := X.env) (es := [ea, eb, ec]) (by simp [s1, s2, s3])
      exact pg_tup hc (pgs_c (pg_all hc hN ho a ea h1) (pgs_c (pg_all hc hN ho b eb h2) (pgs_c (pg_all hc hN ho c ec h3) pgs_nil s3) s2) s1) l1 l2
    · cases h
  | .tnil, tg, h => by cases tg <;> cases h
  | .tcons _ _, tg, h => by cases tg <;> cases h
  | .tp .tnil, tg, h => by cases tg <;> cases h
  | .tp (.nm _), tg, h => by cases tg <;> cases h
  | .tp (.tp _), tg, h => by cases tg <;> cases h
  | .tp (.tcons _ .tnil), tg, h => by cases tg <;> cases h
  | .tp (.tcons _ (.nm _)), tg, h => by cases tg <;> cases h
  | .tp (.tcons _ (.tp _)), tg, h => by cases tg <;> cases h
  | .tp (.tcons _ (.tcons _ (.nm _))), tg, h => by cases tg <;> cases h
  | .tp (.tcons _ (.tcons _ (.tp _))), tg, h => by cases tg <;> cases h
  | .tp (.tcons _ (.tcons _ (.tcons _ (.nm _)))), tg, h => by cases tg <;> cases h
  | .tp (.tcons _ (.tcons _ (.tcons _ (.tp _)))), tg, h => by cases tg <;> cases h
  | .tp (.tcons _ (.tcons _ (.tcons _ (.tcons _ _)))), tg, h => by cases tg <;> cases h
end Ev

namespace Ev
open PySem PySem.Spec PyProof.Rows L2

/-- the names of built-ins that the text may call -/
def bltNames : List Str := ["len", "all", "any", "sum", "abs", "list", "tuple", "repr", "bool", "int", "str", "dict", "isinstance", "range", "enumerate"]
def spF (K : PySem.W.Frag) (cl : Nat → Option Addr) (cal : Nat → List D → Hh → R D) (j : Nat) : Sp := fun vs H Q _ => ∃ as h ds, Rl K cl as h H ∧ RpL K as H ds vs ∧ Out K cl XF [] as H (cal j ds h) (QD K Q)
structure Good (C : CC) (cl : Nat → Option Addr) (T : Nat → Option D) (cal : Nat → List D → Hh → R D) (k : Nat) (X : Cx) : Prop where
  N : X.N = C.N
  nd : X.N.Nodup
  calm : X.calm = true
  gd : X.A.guards = some []
  room : Room k X.A
  kind : X.env.scope.kind = .function
  blt : ∀ x ∈ bltNames, X.mg x = none
  gvs : ∀ (j : Nat) (x : Str), C.gn[j]? = some x → ∃ d v u, T j = some d ∧ X.mg x = some u ∧ L2.RelV v u ∧ ∀ as H, Rp X.K as H d v
  fns : ∀ (j : Nat) (x : Str), C.fn[j]? = some x → ∃ f fd ps, X.mg x = some (.ref f) ∧ PySem.W.keepIn X.K (.ref f) = true ∧ Binds X.K fd ps [] ∧ FG X.prog X.w X.K X.mg X.base CX0 k f fd ps (spF X.K cl cal j)
section
variable {C : CC} {cl : Nat → Option Addr} {T : Nat → Option D} {cal : Nat → List D → Hh → R D} {k : Nat}
theorem Good.units {X : Cx} (g : Good C cl T cal k X) : X.A.units + 65 < cLine := by
  have := g.room.un
  omega
theorem Good.blk {X : Cx} (g : Good C cl T cal k X) {scope : Scope} (hk : scope.kind = .function) (s : Shared) (H : Hp) (Ca : Addr) (c : List (Str × Addr)) (fp : List Addr) : Good C cl T cal k (X.blk s H scope (compEnvC scope c Ca X.env) fp) :=
  ⟨g.N, g.nd, g.calm, g.gd, g.room, hk, g.blt, g.gvs, g.fns⟩
variable (C cl T cal k)
def SdE (e : E) : Prop := ∀ (X : Cx) (ex : Expr), Good C cl T cal k X → chkE C X.env.scope e ex = true →
  PE X ex (tF X.K cl XF (evE T cal e)) ∧ (tst e = true → PT X ex (tFT X.K cl XF (evE T cal e))) ∧ (isBo e = true → tst e = true → PW X ex (tFT X.K cl XF (evE T cal e)))
def SdA (e : E) : Prop := ∀ (X : Cx) (es : List Expr), Good C cl T cal k X → chkA C X.env.scope e es = true →
  PA X es (tFA X.K cl XF (evA T cal e)) ∧ (es.all fun e => !starB e) = true ∧ ∀ env h ds h1, evA T cal e env h = .ok ds h1 → ds.length = es.length
def SdD (e : E) : Prop := ∀ (X : Cx) (pos : Pos) (ks : List Str) (keys : List (Option Expr)) (vals : List Expr), Good C cl T cal k X → chkD C X.env.scope ks e keys vals = true →
  DP X cl XF pos ks keys vals (evA T cal e) ∧ keys.all (·.isSome) = true ∧ keys.length = vals.length ∧ ks.length = keys.length
def SdO (e : E) : Prop := ∀ (X : Cx) (eo : Option Expr), Good C cl T cal k X → chkO C X.env.scope e eo = true → PO X eo (tFO X.K cl XF (evO T cal e))
def SdI (e : E) : Prop := ∀ (X : Cx) (tg iter : Expr), Good C cl T cal k X → chkI C X.env.scope e iter = true → (stI e || tupB tg) = true → PI X tg iter (tFI X.K cl XF (stI e) (evI T cal e))
structure Sd (z : E) : Prop where
  e : SdE C cl T cal k z
  a : SdA C cl T cal k z
  d : SdD C cl T cal k z
  o : SdO C cl T cal k z
  i : SdI C cl T cal k z
variable {C cl T cal k}
/-- a leaf as a test -/
theorem leafT {X : Cx} {ex : Expr} {e : E} (h : PE X ex (tF X.K cl XF (evE T cal e))) (he : ∀ whole, isTrue ex X.env whole = (do let v ← whole; standAt ex.pos; holding [v] (truthy v))) (hb : isBo e = false) :
    PE X ex (tF X.K cl XF (evE T cal e)) ∧ (tst e = true → PT X ex (tFT X.K cl XF (evE T cal e))) ∧ (isBo e = true → tst e = true → PW X ex (tFT X.K cl XF (evE T cal e))) :=
  ⟨h, fun _ => st_val h he, fun z => by rw [hb] at z; cases z⟩
theorem noA {e : E} (h : ∀ sc es, chkA C sc e es = false) : SdA C cl T cal k e := fun X es g hc => by rw [h] at hc; cases hc
theorem noD {e : E} (h : ∀ sc ks keys vals, chkD C sc ks e keys vals = false) : SdD C cl T cal k e := fun X pos ks keys vals g hc => by rw [h] at hc; cases hc
theorem noO {e : E} (h : ∀ sc eo, chkO C sc e eo = false) : SdO C cl T cal k e := fun X eo g hc => by rw [h] at hc; cases hc
theorem noI {e : E} (h : ∀ sc it, chkI C sc e it = false) : SdI C cl T cal k e := fun X tg it g hc => by rw [h] at hc; cases hc
theorem noE {e : E} (h : ∀ sc ex, chkE C sc e ex = false) : SdE C cl T cal k e := fun X ex g hc => by rw [h] at hc; cases hc
/-- an expression's tree alone -/
theorem onlyE {e : E} (h : SdE C cl T cal k e) (ha : ∀ sc es, chkA C sc e es = false) (hd : ∀ sc ks keys vals, chkD C sc ks e keys vals = false) (ho : ∀ sc eo, chkO C sc e eo = false) (hi : ∀ sc it, chkI C sc e it = false) : Sd C cl T cal k e :=
  ⟨h, noA ha, noD hd, noO ho, noI hi⟩
theorem mem_b {x : Str} {X : Cx} (g : Good C cl T cal k X) (h : x ∈ bltNames) : X.mg x = none := g.blt x h
theorem bi_mem (b : Bi) : biName b ∈ bltNames := by cases b <;> decide +kernel
theorem tk_mem (t : Tk) (h : t ≠ .none) : tkStr t ∈ bltNames := by cases t <;> first | exact absurd rfl h | decide +kernel
theorem sto_blk {X : Cx} {scope : Scope} {s : Shared} {H : Hp} {Ca : Addr} {c : List (Str × Addr)} {fp : List Addr} : StoOk (X.blk s H scope (compEnvC scope c Ca X.env) fp) (locB scope) := fun x h => by
  have hl : scope.names.lookup x = some .local ∨ scope.names.lookup x = some .cell := by
    rcases loc_ok h with q | q
    · exact .inl q
    · exact .inr q
  have hs : (compEnvC scope c Ca X.env).scope = relS scope X.env.scope := rfl
  rcases hl with q | q
  · have z : (relS scope X.env.scope).names.lookup x = some .local := lookup_relS_keep (by decide) q
    exact ⟨.inl z, .inr z⟩
  · have z : (relS scope X.env.scope).names.lookup x = some .cell := lookup_relS_keep (by decide) q
    refine ⟨.inr z, .inl ?_⟩
    show (scope.names.lookup x == some .cell) = true
    rw [q]
    rfl

theorem sd_var (i : Nat) : SdE C cl T cal k (.var i) := fun X ex g h => by
  cases ex <;> first
    | (simp only [chkE, Bool.and_eq_true, decide_eq_true_eq] at h
       obtain ⟨⟨⟨h1, h2⟩, h3⟩, h4⟩ := h
       refine leafT ?_ (fun _ => rfl) rfl
       simp only [evE]
       exact se_var (by rw [g.N]; exact h1) (vis_ok h2) (by simpa using h3) (by simpa using h4))
    | (simp [chkE] at h; done)
theorem sd_gv (j : Nat) : SdE C cl T cal k (.gv j) := fun X ex g h => by
  cases ex <;> first
    | (simp only [chkE, Bool.and_eq_true, decide_eq_true_eq] at h
       obtain ⟨⟨h1, h2⟩, h3⟩ := h
       obtain ⟨d, v, u, e1, e2, e3, e4⟩ := g.gvs j _ h1
       refine leafT ?_ (fun _ => rfl) rfl
       simp only [evE, e1]
       exact se_c (pe_glob (gl_ok h2) e2 e3 (by simpa using h3)) e4)
    | (simp [chkE] at h; done)
theorem sd_int (i : Int) : SdE C cl T cal k (.int i) := fun X ex g h => by
  cases ex with
  | Constant c j p =>
    cases c <;> first
      | (simp only [chkE, decide_eq_true_eq] at h
         subst h
         refine leafT ?_ (fun _ => rfl) rfl
         simp only [evE]
         exact se_c pe_int fun _ _ => .int _)
      | (simp [chkE] at h; done)
  | _ => simp [chkE] at h
theorem sd_str (i : Str) : SdE C cl T cal k (.str i) := fun X ex g h => by
  cases ex with
  | Constant c j p =>
    cases c <;> first
      | (simp only [chkE, decide_eq_true_eq] at h
         subst h
         refine leafT ?_ (fun _ => rfl) rfl
         simp only [evE]
         exact se_c pe_str fun _ _ => .str _)
      | (simp [chkE] at h; done)
  | _ => simp [chkE] at h
theorem sd_bl (i : Bool) : SdE C cl T cal k (.bl i) := fun X ex g h => by
  cases ex with
  | Constant c j p =>
    cases c <;> first
      | (simp only [chkE, decide_eq_true_eq] at h
         subst h
         refine leafT ?_ (fun _ => rfl) rfl
         simp only [evE]
         exact se_c pe_bl fun _ _ => .bl _)
      | (simp [chkE] at h; done)
  | _ => simp [chkE] at h
theorem sd_non : SdE C cl T cal k .non := fun X ex g h => by
  cases ex with
  | Constant c j p =>
    cases c <;> first
      | (refine leafT ?_ (fun _ => rfl) rfl
         simp only [evE]
         exact se_c pe_non fun _ _ => .non)
      | (simp [chkE] at h; done)
  | _ => simp [chkE] at h
theorem sd_bin {op : Operator} {a b : E} (ia : Sd C cl T cal k a) (ib : Sd C cl T cal k b) : SdE C cl T cal k (.bin op a b) := fun X ex g h => by
  cases ex with
  | BinOp ea eop eb p =>
    simp only [chkE, Bool.and_eq_true, decide_eq_true_eq] at h
    obtain ⟨⟨rfl, h1⟩, h2⟩ := h
    refine leafT ?_ (fun _ => rfl) rfl
    simp only [evE]
    exact se_op (op_sBin op) (ia.e X _ g h1).1 (ib.e X _ g h2).1
  | _ => simp [chkE] at h
theorem sd_neg {a : E} (ia : Sd C cl T cal k a) : SdE C cl T cal k (.neg a) := fun X ex g h => by
  cases ex with
  | UnaryOp op ea p =>
    cases op with
    | USub =>
      simp only [chkE] at h
      refine leafT ?_ (fun _ => rfl) rfl
      simp only [evE]
      exact se_un un_sNeg (ia.e X _ g h).1
    | _ => simp [chkE] at h
  | _ => simp [chkE] at h
theorem sd_not {a : E} (ia : Sd C cl T cal k a) : SdE C cl T cal k (.not a) := fun X ex g h => by
  cases ex with
  | UnaryOp op ea p =>
    cases op with
    | Not =>
      simp only [chkE] at h
      obtain ⟨h1, h2, _⟩ := ia.e X _ g h
      refine ⟨?_, fun t => ?_, fun z => (by cases z)⟩
      · simp only [evE]
        exact se_not h1
      · simp only [evE]
        exact st_not (h2 (by simpa [tst] using t))
    | _ => simp [chkE] at h
  | _ => simp [chkE] at h
theorem sd_one {a : E} (ia : Sd C cl T cal k a) : SdE C cl T cal k (.one a) := fun X ex g h => by
  cases ex with
  | BoolOp op es p =>
    cases es with
    | nil => simp [chkE] at h
    | cons ea r =>
      cases r with
      | cons _ _ => simp [chkE] at h
      | nil =>
        simp only [chkE] at h
        obtain ⟨h1, h2, _⟩ := ia.e X _ g h
        refine ⟨?_, fun t => ?_, fun _ t => ?_⟩
        · simp only [evE]
          exact se_one h1
        · simp only [evE]
          exact (sw_one (h2 (by simpa [tst] using t))).pt
        · simp only [evE]
          exact sw_one (h2 (by simpa [tst] using t))
  | _ => simp [chkE] at h
theorem sd_and {a r : E} (ia : Sd C cl T cal k a) (ir : Sd C cl T cal k r) : SdE C cl T cal k (.and a r) := fun X ex g h => by
  cases ex with
  | BoolOp op es p =>
    cases op with
    | Or => cases es with
      | nil => simp [chkE] at h
      | cons ea q => cases q <;> simp [chkE] at h
    | And => cases es with
      | nil => simp [chkE] at h
      | cons ea q => cases q with
        | nil => simp [chkE] at h
        | cons eb rest =>
          simp only [chkE, Bool.and_eq_true] at h
          obtain ⟨⟨h1, h2⟩, h3⟩ := h
          obtain ⟨a1, a2, _⟩ := ia.e X _ g h1
          obtain ⟨r1, _, r3⟩ := ir.e X _ g h2
          have w : tst (.and a r) = true → PW X (.BoolOp .And (ea :: eb :: rest) p) (tFT X.K cl XF (evE T cal (.and a r))) := fun t => by
            simp only [tst, Bool.and_eq_true] at t
            simp only [evE]
            exact sw_and (a2 t.1) (r3 h3 t.2)
          refine ⟨?_, fun t => (w t).pt, fun _ t => w t⟩
          simp only [evE]
          exact se_and a1 r1
  | _ => simp [chkE] at h
theorem sd_or {a r : E} (ia : Sd C cl T cal k a) (ir : Sd C cl T cal k r) : SdE C cl T cal k (.or a r) := fun X ex g h => by
  cases ex with
  | BoolOp op es p =>
    cases op with
    | And => cases es with
      | nil => simp [chkE] at h
      | cons ea q => cases q <;> simp [chkE] at h
    | Or => cases es with
      | nil => simp [chkE] at h
      | cons ea q => cases q with
        | nil => simp [chkE] at h
        | cons eb rest =>
          simp only [chkE, Bool.and_eq_true] at h
          obtain ⟨⟨h1, h2⟩, h3⟩ := h
          obtain ⟨a1, a2, _⟩ := ia.e X _ g h1
          obtain ⟨r1, _, r3⟩ := ir.e X _ g h2
          have w : tst (.or a r) = true → PW X (.BoolOp .Or (ea :: eb :: rest) p) (tFT X.K cl XF (evE T cal (.or a r))) := fun t => by
            simp only [tst, Bool.and_eq_true] at t
            simp only [evE]
            exact sw_or (a2 t.1) (r3 h3 t.2)
          refine ⟨?_, fun t => (w t).pt, fun _ t => w t⟩
          simp only [evE]
          exact se_or a1 r1
  | _ => simp [chkE] at h
theorem sd_cmp {op : CmpOp} {a b : E} (ia : Sd C cl T cal k a) (ib : Sd C cl T cal k b) : SdE C cl T cal k (.cmp op a b) := fun X ex g h => by
  unfold chkE at h
  split at h <;> first
    | (rename_i q; cases q; done)
    | cases h
    | skip
  rename_i q
  cases q
  simp only [Bool.and_eq_true, decide_eq_true_eq] at h
  obtain ⟨⟨⟨rfl, h1⟩, h2⟩, h3⟩ := h
  refine ⟨?_, fun _ => ?_, fun z => (by cases z)⟩
  · simp only [evE]
    exact se_cmp (op_sCmp g.units op) (ia.e X _ g h1).1 (ib.e X _ g h2).1 (marks_ok (by simpa using h3))
  · simp only [evE]
    exact st_cmp (op_sCmp g.units op) (ia.e X _ g h1).1 (ib.e X _ g h2).1 (marks_ok (by simpa using h3))
theorem sd_chain {o p : CmpOp} {a b c : E} (ia : Sd C cl T cal k a) (ib : Sd C cl T cal k b) (ic : Sd C cl T cal k c) : SdE C cl T cal k (.chain o p a b c) := fun X ex g h => by
  unfold chkE at h
  split at h <;> first
    | (rename_i q; cases q; done)
    | cases h
    | skip
  rename_i q
  cases q
  simp only [Bool.and_eq_true, decide_eq_true_eq] at h
  obtain ⟨⟨⟨⟨⟨rfl, rfl⟩, h1⟩, h2⟩, h3⟩, h4⟩ := h
  refine ⟨?_, fun _ => ?_, fun z => (by cases z)⟩
  · simp only [evE]
    exact se_chain (op_sCmp g.units o) (op_sCmp g.units p) (ia.e X _ g h1).1 (ib.e X _ g h2).1 (ic.e X _ g h3).1 (last_ok (by simpa using h4))
  · simp only [evE]
    exact st_chain (op_sCmp g.units o) (op_sCmp g.units p) (ia.e X _ g h1).1 (ib.e X _ g h2).1 (ic.e X _ g h3).1 (last_ok (by simpa using h4))
theorem sd_ife {c a b : E} (ic : Sd C cl T cal k c) (ia : Sd C cl T cal k a) (ib : Sd C cl T cal k b) : SdE C cl T cal k (.ife c a b) := fun X ex g h => by
  cases ex with
  | IfExp ec ea eb p =>
    simp only [chkE, Bool.and_eq_true] at h
    obtain ⟨⟨⟨h1, h2⟩, h3⟩, h4⟩ := h
    refine ⟨?_, fun t => (by cases t), fun z => (by cases z)⟩
    simp only [evE]
    exact se_if ((ic.e X _ g h1).2.1 h4) (ia.e X _ g h2).1 (ib.e X _ g h3).1
  | _ => simp [chkE] at h
end
end Ev

namespace Ev
open PySem PySem.Spec PyProof.Rows L2
section
variable {C : CC} {cl : Nat → Option Addr} {T : Nat → Option D} {cal : Nat → List D → Hh → R D} {k : Nat}
theorem st_noA {X : Cx} {es : List Expr} (h : (es.all fun e => !starB e) = true) : ∀ e r, es = e :: r → starEach (e :: r) X.env = (false, eval e X.env) :: starEach r X.env := fun e r q => by
  subst q
  rw [List.all_cons, Bool.and_eq_true] at h
  exact star_ok (by simpa using h.1)
theorem st_tail {X : Cx} {e : Expr} {es : List Expr} {pos : Pos} (h : ((e :: es).all fun e => !starB e) = true) : (backTo pos (starEach es X.env)).any (·.1) = false := by
  rw [List.all_cons, Bool.and_eq_true] at h
  exact (stars_ok h.2).1
theorem Out.xf {A : Type} {K : PySem.W.Frag} {s s' : L2.St} {as : List Addr} {H : Hp} {r : R A} {Q : A → List Addr → Hh → Hp → Prop} (o : Out K cl XF s as H r Q) : Out K cl XF s' as H r Q := by
  cases r with
  | ok d h2 => exact o
  | exc c fs h2 => exact o
  | bad => exact o
theorem se_callF {X : Cx} {x : Str} {f : Addr} {fd : FuncData} {ps : List Str} {j : Nat} {e : Expr} {es : List Expr} {fs : FA} {p pos : Pos} (g : Good C cl T cal k X) (F : FG X.prog X.w X.K X.mg X.base CX0 k f fd ps (spF X.K cl cal j)) (hg : Gl X x) (hm : X.mg x = some (.ref f)) (hk : PySem.W.keepIn X.K (.ref f) = true) (hb : Binds X.K fd ps [])
    (ha : PA X (e :: es) (tFA X.K cl XF fs)) (hdb : (x == ("__debug__" : Str)) = false) (hst : ((e :: es).all fun e => !starB e) = true) :
    PE X (.Call (.Name x p) (e :: es) [] pos) (tF X.K cl XF fun env h => (fs env h).bind fun ds h1 => cal j ds h1) := by
  refine ⟨fun pins s σ H Q I h => (pe_callG F g.room g.gd hg hm hk hb pass0 ha hdb (st_noA hst e es rfl) (st_tail hst)).run pins s σ H Q I ?_⟩
  obtain ⟨as, env, hh, x, e, o⟩ := h
  exact tFA.step x e o fun ds vs as1 h1 H1 y1 x1 e1 r1 o1 => ⟨as1, h1, ds, x1, r1, o1.xf⟩
theorem se_callF0 {X : Cx} {x : Str} {f : Addr} {fd : FuncData} {ps : List Str} {j : Nat} {p pos : Pos} (g : Good C cl T cal k X) (F : FG X.prog X.w X.K X.mg X.base CX0 k f fd ps (spF X.K cl cal j)) (hg : Gl X x) (hm : X.mg x = some (.ref f)) (hk : PySem.W.keepIn X.K (.ref f) = true) (hb : Binds X.K fd ps [])
    (hdb : (x == ("__debug__" : Str)) = false) : PE X (.Call (.Name x p) [] [] pos) (tF X.K cl XF fun env h => (aNil env h).bind fun ds h1 => cal j ds h1) := by
  refine ⟨fun pins s σ H Q I h => (pe_callG0 F g.room g.gd hg hm hk hb pass0 hdb).run pins s σ H Q I ?_⟩
  obtain ⟨as, env, hh, x, e, o⟩ := h
  have o : Out X.K cl XF σ as H (cal j [] hh) (QD X.K Q) := o
  exact ⟨as, hh, [], x, .nil, o.xf⟩
theorem sd_call {f : Nat} {args : E} (ia : Sd C cl T cal k args) : SdE C cl T cal k (.call f args) := fun X ex g h => by
  unfold chkE at h
  split at h <;> first
    | (rename_i q; cases q; done)
    | cases h
    | skip
  rename_i es pos q
  cases q
  simp only [Bool.and_eq_true, decide_eq_true_eq] at h
  obtain ⟨⟨⟨h1, h2⟩, h3⟩, h4⟩ := h
  obtain ⟨f1, fd, ps, e1, e2, e3, e4⟩ := g.fns _ _ h1
  obtain ⟨a1, a2, a3⟩ := ia.a X _ g h4
  refine leafT ?_ (fun _ => rfl) rfl
  simp only [evE]
  cases es with
  | cons e es => exact se_callF g e4 (gl_ok h2) e1 e2 e3 a1 (by simpa using h3) a2
  | nil =>
    cases args <;> first
      | (simp only [evA]
         exact se_callF0 g e4 (gl_ok h2) e1 e2 e3 (by simpa using h3))
      | (simp [chkA] at h4; done)
theorem sd_blt {b : Bi} {args : E} (ia : Sd C cl T cal k args) : SdE C cl T cal k (.blt b args) := fun X ex g h => by
  unfold chkE at h
  split at h <;> first
    | (rename_i q; cases q; done)
    | cases h
    | skip
  rename_i q
  cases q
  simp only [Bool.and_eq_true, decide_eq_true_eq] at h
  obtain ⟨⟨rfl, h2⟩, h4⟩ := h
  obtain ⟨a1, a2, a3⟩ := ia.a X _ g h4
  have cr := cr_sB (cl := cl) g.calm g.gd g.units b
  have bt := bi_boot b
  have bn := bi_name b
  refine leafT ?_ (fun _ => rfl) rfl
  simp only [evE]
  have hm := mem_b g (bi_mem b)
  cases b <;> first
    | exact se_blt cr (gl_ok h2) hm bt a1 bn.1 bn.2 (st_noA a2 _ _ rfl) (st_tail a2)
    | exact se_bty cr (gl_ok h2) hm bt a1 bn.1 bn.2 (st_noA a2 _ _ rfl) (st_tail a2)
theorem sd_isi {a : E} {t : Tk} (ia : Sd C cl T cal k a) : SdE C cl T cal k (.isi a t) := fun X ex g h => by
  unfold chkE at h
  split at h <;> first
    | (rename_i q; cases q; done)
    | cases h
    | skip
  rename_i q
  cases q
  simp only [Bool.and_eq_true, decide_eq_true_eq] at h
  obtain ⟨⟨⟨⟨⟨⟨rfl, rfl⟩, h3⟩, h4⟩, h5⟩, h6⟩, h7⟩ := h
  refine leafT ?_ (fun _ => rfl) rfl
  simp only [evE]
  exact se_isi h3 (gl_ok h4) (mem_b g (by decide +kernel)) (gl_ok h5) (mem_b g (tk_mem t h3)) (ia.e X _ g h6).1 (star_ok (by simpa using h7))
theorem sd_mth {m : Mn} {o args : E} (io : Sd C cl T cal k o) (ia : Sd C cl T cal k args) : SdE C cl T cal k (.mth m o args) := fun X ex g h => by
  unfold chkE at h
  split at h <;> first
    | (rename_i q; cases q; done)
    | cases h
    | skip
  rename_i q
  cases q
  simp only [Bool.and_eq_true, decide_eq_true_eq] at h
  obtain ⟨⟨⟨⟨⟨h1, h2⟩, h3⟩, h4⟩, h5⟩, h6⟩ := h
  obtain ⟨a1, a2, a3⟩ := ia.a X _ g h3
  refine leafT ?_ (fun _ => rfl) rfl
  simp only [evE]
  exact se_mth g.units h1 (io.e X _ g h2).1 a1 (attr_ok (by simpa using h4)) (few_ok a2 h5) h6 (stars_ok a2).1 (st_noA a2)
theorem sd_lst {es : E} (ia : Sd C cl T cal k es) : SdE C cl T cal k (.lst es) := fun X ex g h => by
  cases ex with
  | List ees p =>
    simp only [chkE] at h
    refine leafT ?_ (fun _ => rfl) rfl
    simp only [evE]
    exact se_lst (ia.a X _ g h).1
  | _ => simp [chkE] at h
theorem sd_tup {es : E} (ia : Sd C cl T cal k es) : SdE C cl T cal k (.tup es) := fun X ex g h => by
  cases ex with
  | Tuple ees j p =>
    simp only [chkE] at h
    refine leafT ?_ (fun _ => rfl) rfl
    simp only [evE]
    exact se_tup (ia.a X _ g h).1
  | _ => simp [chkE] at h
theorem sd_dct {ks : List Str} {es : E} (ia : Sd C cl T cal k es) : SdE C cl T cal k (.dct ks es) := fun X ex g h => by
  cases ex with
  | Dict keys vals p =>
    simp only [chkE, Bool.and_eq_true, decide_eq_true_eq] at h
    obtain ⟨d1, d2, d3, d4⟩ := ia.d X p ks keys vals g h.1
    refine leafT ?_ (fun _ => rfl) rfl
    cases ks with
    | nil =>
      cases keys with
      | nil =>
        cases vals with
        | nil =>
          simp only [evE]
          exact se_dct0
        | cons _ _ => simp at d3
      | cons _ _ => simp at d4
    | cons s r =>
      simp only [evE]
      refine se_dct d1 d2 d3 (fun z => ?_) h.2
      subst z
      simp at d4
  | _ => simp [chkE] at h
theorem sd_idx {o i : E} (io : Sd C cl T cal k o) (ii : Sd C cl T cal k i) : SdE C cl T cal k (.idx o i) := fun X ex g h => by
  cases ex with
  | Subscript eo ei p =>
    simp only [chkE, Bool.and_eq_true] at h
    obtain ⟨⟨h1, h2⟩, h3⟩ := h
    refine leafT ?_ (fun _ => rfl) rfl
    simp only [evE]
    exact se_idx g.units (io.e X _ g h1).1 (ii.e X _ g h2).1 (ix_ok (by simpa using h3))
  | _ => simp [chkE] at h
theorem sd_slc {o lo hi : E} (io : Sd C cl T cal k o) (il : Sd C cl T cal k lo) (ih : Sd C cl T cal k hi) : SdE C cl T cal k (.slc o lo hi) := fun X ex g h => by
  unfold chkE at h
  split at h <;> first
    | (rename_i q; cases q; done)
    | cases h
    | skip
  rename_i q
  cases q
  simp only [Bool.and_eq_true] at h
  obtain ⟨⟨h1, h2⟩, h3⟩ := h
  refine leafT ?_ (fun _ => rfl) rfl
  simp only [evE]
  exact se_slc (io.e X _ g h1).1 (il.o X _ g h2) (ih.o X _ g h3)
theorem sd_anil : Sd C cl T cal k .anil := by
  refine ⟨noE fun sc ex => ?_, fun X es g h => ?_, fun X pos ks keys vals g h => ?_, noO fun sc eo => ?_, noI fun sc it => ?_⟩
  · cases ex <;> simp [chkE]
  · cases es with
    | nil =>
      simp only [evA]
      refine ⟨sa_nil, rfl, fun env h ds h1 e => ?_⟩
      cases e
      rfl
    | cons _ _ => simp [chkA] at h
  · cases ks <;> cases keys <;> cases vals <;> first
      | (simp only [evA]; exact ⟨dp_nil, rfl, rfl, rfl⟩)
      | (simp [chkD] at h; done)
  · cases eo <;> simp [chkO]
  · cases it <;> simp [chkI]
theorem sd_acons {a r : E} (ia : Sd C cl T cal k a) (ir : Sd C cl T cal k r) : Sd C cl T cal k (.acons a r) := by
  refine ⟨noE fun sc ex => ?_, fun X es g h => ?_, fun X pos ks keys vals g h => ?_, noO fun sc eo => ?_, noI fun sc it => ?_⟩
  · cases ex <;> simp [chkE]
  · cases es with
    | nil => simp [chkA] at h
    | cons e es =>
      simp only [chkA, Bool.and_eq_true] at h
      obtain ⟨⟨h1, h2⟩, h3⟩ := h
      obtain ⟨r1, r2, r3⟩ := ir.a X _ g h2
      have hs : starB e = false := by simpa using h3
      simp only [evA]
      refine ⟨sa_cons (ia.e X _ g h1).1 r1 (star_ok hs), by rw [List.all_cons, hs, r2]; rfl, fun env h ds h4 he => ?_⟩
      unfold aCons at he
      cases ha : evE T cal a env h with
      | bad => rw [ha] at he; cases he
      | exc c fs h5 => rw [ha] at he; cases he
      | ok d h5 =>
        rw [ha] at he
        have he : ((evA T cal r env h5).bind fun xs h2 => R.ok (d :: xs) h2) = R.ok ds h4 := he
        cases hr : evA T cal r env h5 with
        | bad => rw [hr] at he; cases he
        | exc c fs h6 => rw [hr] at he; cases he
        | ok xs h6 =>
          rw [hr] at he
          cases he
          simp [r3 env h5 xs _ hr]
  · unfold chkD at h
    split at h
    · rename_i z; cases z
    · rename_i z
      cases z
      simp only [Bool.and_eq_true, decide_eq_true_eq] at h
      obtain ⟨⟨rfl, h2⟩, h3⟩ := h
      obtain ⟨d1, d2, d3, d4⟩ := ir.d X pos _ _ _ g h3
      simp only [evA]
      exact ⟨dp_cons (ia.e X _ g h2).1 d1, by simpa using d2, by simp [d3], by simp [d4]⟩
    · cases h
  · cases eo <;> simp [chkO]
  · cases it <;> simp [chkI]
theorem sd_onil : Sd C cl T cal k .onil := by
  refine ⟨noE fun sc ex => ?_, noA fun sc es => ?_, noD fun sc ks keys vals => ?_, fun X eo g h => ?_, noI fun sc it => ?_⟩
  · cases ex <;> simp [chkE]
  · cases es <;> simp [chkA]
  · cases ks <;> simp [chkD]
  · cases eo with
    | none =>
      simp only [evO]
      exact so_nil
    | some _ => simp [chkO] at h
  · cases it <;> simp [chkI]
theorem sd_osome {a : E} (ia : Sd C cl T cal k a) : Sd C cl T cal k (.osome a) := by
  refine ⟨noE fun sc ex => ?_, noA fun sc es => ?_, noD fun sc ks keys vals => ?_, fun X eo g h => ?_, noI fun sc it => ?_⟩
  · cases ex <;> simp [chkE]
  · cases es <;> simp [chkA]
  · cases ks <;> simp [chkD]
  · cases eo with
    | some e =>
      simp only [chkO] at h
      simp only [evO]
      exact so_some (ia.e X _ g h).1
    | none => simp [chkO] at h
  · cases it <;> simp [chkI]
theorem sd_iexp {a : E} (ia : Sd C cl T cal k a) : Sd C cl T cal k (.iexp a) := by
  refine ⟨noE fun sc ex => ?_, noA fun sc es => ?_, noD fun sc ks keys vals => ?_, noO fun sc eo => ?_, fun X tg it g h hs => ?_⟩
  · cases ex <;> simp [chkE]
  · cases es <;> simp [chkA]
  · cases ks <;> simp [chkD]
  · cases eo <;> simp [chkO]
  · simp only [chkI] at h
    simp only [evI]
    exact si_exp (ia.e X _ g h).1
theorem sd_irng {args : E} (ia : Sd C cl T cal k args) : Sd C cl T cal k (.irng args) := by
  refine ⟨noE fun sc ex => ?_, noA fun sc es => ?_, noD fun sc ks keys vals => ?_, noO fun sc eo => ?_, fun X tg it g h hs => ?_⟩
  · cases ex <;> simp [chkE]
  · cases es <;> simp [chkA]
  · cases ks <;> simp [chkD]
  · cases eo <;> simp [chkO]
  · unfold chkI at h
    split at h <;> first
      | (rename_i q; cases q; done)
      | cases h
      | skip
    rename_i q
    cases q
    simp only [Bool.and_eq_true, Bool.or_eq_true, decide_eq_true_eq] at h
    obtain ⟨⟨⟨rfl, h2⟩, h3⟩, h4⟩ := h
    obtain ⟨a1, a2, a3⟩ := ia.a X _ g h3
    simp only [evI]
    have hm := mem_b g (x := "range") (by decide +kernel)
    rename_i es _
    cases es with
    | nil => simp at h4
    | cons e1 r =>
      cases r with
      | nil => exact si_rng1 (gl_ok h2) hm a1 (st_noA a2 e1 [] rfl) a3
      | cons e2 r =>
        cases r with
        | nil =>
          have a2' := a2
          rw [List.all_cons, Bool.and_eq_true] at a2'
          have s2 := st_noA (X := X) a2'.2 e2 [] rfl
          refine si_rng2 (gl_ok h2) hm a1 ?_ s2 a3
          rw [st_noA (X := X) a2 e1 [e2] rfl, s2]
          rfl
        | cons _ _ => simp at h4
theorem sd_ienum {a : E} (ia : Sd C cl T cal k a) : Sd C cl T cal k (.ienum a) := by
  refine ⟨noE fun sc ex => ?_, noA fun sc es => ?_, noD fun sc ks keys vals => ?_, noO fun sc eo => ?_, fun X tg it g h hs => ?_⟩
  · cases ex <;> simp [chkE]
  · cases es <;> simp [chkA]
  · cases ks <;> simp [chkD]
  · cases eo <;> simp [chkO]
  · unfold chkI at h
    split at h <;> first
      | (rename_i q; cases q; done)
      | cases h
      | skip
    rename_i q
    cases q
    simp only [Bool.and_eq_true, decide_eq_true_eq] at h
    obtain ⟨⟨⟨rfl, h2⟩, h3⟩, h4⟩ := h
    simp only [evI]
    have hm := mem_b g (x := "enumerate") (by decide +kernel)
    cases tg with
    | Tuple elts kk tp => exact si_enum (gl_ok h2) hm (ia.e X _ g h3).1 (star_ok (by simpa using h4))
    | _ => simp [stI, tupB] at hs
end
end Ev

namespace Ev
open PySem PySem.Spec PyProof.Rows L2
section
variable {C : CC} {cl : Nat → Option Addr} {T : Nat → Option D} {cal : Nat → List D → Hh → R D} {k : Nat}
theorem own_slots (N : List Str) (vs : List Nat) : (ownOf N vs).map (·.2) = vs := by
  unfold ownOf
  rw [List.map_map]
  exact List.map_id vs
def okC (C : CC) (sc : Scope) (vs : List Nat) (t : Tg) (it c e : E) (ee tg iter : Expr) (ifs : List Expr) (scope : Scope) : Bool :=
  blkC C.N sc scope (ownOf C.N vs) && chkI C sc it iter && (stI it || tupB tg) && !setB iter && chkT C.N (locB scope) t tg && (slotsT t).all (fun i => decide (i ∈ vs)) &&
      (match ifs with
      | [] => (match c with | .yes => true | _ => false)
      | [ec] => chkE C (relS scope sc) c ec && tst c
      | _ => false) && chkE C (relS scope sc) e ee
/-- all that a comprehension's rules ask -/
theorem lc_all {X : Cx} {vs : List Nat} {t : Tg} {it c e : E} {ee tg iter : Expr} {ifs : List Expr} {scope : Scope} (g : Good C cl T cal k X) (ii : Sd C cl T cal k it) (ic : Sd C cl T cal k c) (ie : Sd C cl T cal k e) (h : okC C X.env.scope vs t it c e ee tg iter ifs scope = true) :
    PI X tg iter (tFI X.K cl XF (stI it) (evI T cal it)) ∧ BlkOk X.N X.env.scope scope (ownOf C.N vs) ∧ (∀ x, foldedSetIterable iter X.env x = pure x) ∧
    ∃ (gg : TG) (tt : TT) (te : TE), (∀ (s : Shared) (H : Hp) (Ca : Addr) (c : List (Str × Addr)) (fp : List Addr), PG (X.blk s H scope (compEnvC scope c Ca X.env) fp) tg gg) ∧
      (∀ (s : Shared) (H : Hp) (Ca : Addr) (c : List (Str × Addr)) (fp : List Addr), PTs (X.blk s H scope (compEnvC scope c Ca X.env) fp) ifs tt) ∧
      (∀ (s : Shared) (H : Hp) (Ca : Addr) (c : List (Str × Addr)) (fp : List Addr), PE (X.blk s H scope (compEnvC scope c Ca X.env) fp) ee te) ∧
      ∀ s H Q, tF X.K cl XF (fComp vs (evI T cal it) t (evE T cal c) (evE T cal e)) s H Q → tLc (tFI X.K cl XF (stI it) (evI T cal it)) gg tt te ((ownOf C.N vs).map (·.2)) s H Q := by
  unfold okC at h
  simp only [Bool.and_eq_true] at h
  obtain ⟨⟨⟨⟨⟨⟨⟨h1, h2⟩, h3⟩, h4⟩, h5⟩, h6⟩, h7⟩, h8⟩ := h
  have bk : BlkOk X.N X.env.scope scope (ownOf C.N vs) := by
    rw [g.N]
    exact blkOk_by h1
  have gb := fun s H Ca c fp => g.blk bk.kind s H Ca c fp
  refine ⟨ii.i X tg iter g h2 h3, bk, fold_set (by simpa using h4), gT X.K t, ?_⟩
  have hg : ∀ (s : Shared) (H : Hp) (Ca : Addr) (c : List (Str × Addr)) (fp : List Addr), PG (X.blk s H scope (compEnvC scope c Ca X.env) fp) tg (gT X.K t) := fun s H Ca c fp =>
    pg_all (X := X.blk s H scope (compEnvC scope c Ca X.env) fp) g.calm g.nd sto_blk t tg (by show chkT X.N _ t tg = true; rw [g.N]; exact h5)
  have he : ∀ (s : Shared) (H : Hp) (Ca : Addr) (c : List (Str × Addr)) (fp : List Addr), PE (X.blk s H scope (compEnvC scope c Ca X.env) fp) ee (tF X.K cl XF (evE T cal e)) := fun s H Ca c fp => (ie.e _ ee (gb s H Ca c fp) h8).1
  have hsl : ∀ i ∈ slotsT t, i ∈ vs := fun i hi => by
    have := List.all_eq_true.mp h6 i hi
    simpa using this
  obtain ⟨o1, _, o3⟩ := gok_all X.K t
  have hgo : if stI it = true then GOk X.K t (gT X.K t) else GOkW X.K t (gT X.K t) := by
    cases hs : stI it with
    | true => rw [if_pos rfl]; exact o1
    | false =>
      rw [if_neg Bool.false_ne_true]
      rw [hs, Bool.false_or] at h3
      cases t with
      | tp l => exact o3 l rfl
      | nm i =>
        cases tg <;> first
          | (cases h3; done)
          | (simp [chkT] at h5; done)
      | tnil => cases tg <;> simp [chkT] at h5
      | tcons a r => cases tg <;> simp [chkT] at h5
  cases ifs with
  | nil =>
    cases c <;> first
      | (refine ⟨tYes, tF X.K cl XF (evE T cal e), hg, fun s H Ca c fp => pts_nil, he, fun s H Q hq => ?_⟩
         rw [own_slots]
         refine lc_read hgo hsl (fun s H Q hq => ?_) (fun s H Q hq => hq) hq
         obtain ⟨as, env, hh, x, e0, o⟩ := hq
         simp only [evE] at o
         exact Out.here (a := true) (h := hh) o x)
      | (cases h7; done)
  | cons ec r =>
    cases r with
    | cons _ _ => cases h7
    | nil =>
      simp only [Bool.and_eq_true] at h7
      refine ⟨tFT X.K cl XF (evE T cal c), tF X.K cl XF (evE T cal e), hg, fun s H Ca c fp => pts_one ((ic.e _ ec (gb s H Ca c fp) h7.1).2.1 h7.2), he, fun s H Q hq => ?_⟩
      rw [own_slots]
      exact lc_read hgo hsl (fun s H Q hq => hq) (fun s H Q hq => hq) hq
theorem sd_comp {vs : List Nat} {t : Tg} {it c e : E} (ii : Sd C cl T cal k it) (ic : Sd C cl T cal k c) (ie : Sd C cl T cal k e) : SdE C cl T cal k (.comp vs t it c e) := fun X ex g h => by
  unfold chkE at h
  split at h <;> first
    | (rename_i q; cases q; done)
    | cases h
    | skip
  rename_i q
  cases q
  obtain ⟨p1, p2, p3, gg, tt, te, p4, p5, p6, p7⟩ := lc_all g ii ic ie h
  refine leafT ?_ (fun _ => rfl) rfl
  simp only [evE]
  exact ⟨fun pins s σ H Q I hq => (pe_lc g.calm g.nd p1 p2 p4 p5 p6 p3).run pins s σ H Q I (p7 σ H Q hq)⟩
theorem sd_yes : SdE C cl T cal k .yes := noE fun sc ex => by cases ex <;> simp [chkE]
theorem sd_all : ∀ e : E, Sd C cl T cal k e := by
  intro e
  induction e with
  | var i => exact onlyE (sd_var i) (fun _ es => by cases es <;> simp [chkA]) (fun _ ks _ _ => by cases ks <;> simp [chkD]) (fun _ eo => by cases eo <;> simp [chkO]) fun _ it => by cases it <;> simp [chkI]
  | gv i => exact onlyE (sd_gv i) (fun _ es => by cases es <;> simp [chkA]) (fun _ ks _ _ => by cases ks <;> simp [chkD]) (fun _ eo => by cases eo <;> simp [chkO]) fun _ it => by cases it <;> simp [chkI]
  | int i => exact onlyE (sd_int i) (fun _ es => by cases es <;> simp [chkA]) (fun _ ks _ _ => by cases ks <;> simp [chkD]) (fun _ eo => by cases eo <;> simp [chkO]) fun _ it => by cases it <;> simp [chkI]
  | str i => exact onlyE (sd_str i) (fun _ es => by cases es <;> simp [chkA]) (fun _ ks _ _ => by cases ks <;> simp [chkD]) (fun _ eo => by cases eo <;> simp [chkO]) fun _ it => by cases it <;> simp [chkI]
  | bl i => exact onlyE (sd_bl i) (fun _ es => by cases es <;> simp [chkA]) (fun _ ks _ _ => by cases ks <;> simp [chkD]) (fun _ eo => by cases eo <;> simp [chkO]) fun _ it => by cases it <;> simp [chkI]
  | non => exact onlyE sd_non (fun _ es => by cases es <;> simp [chkA]) (fun _ ks _ _ => by cases ks <;> simp [chkD]) (fun _ eo => by cases eo <;> simp [chkO]) fun _ it => by cases it <;> simp [chkI]
  | bin op a b ia ib => exact onlyE (sd_bin ia ib) (fun _ es => by cases es <;> simp [chkA]) (fun _ ks _ _ => by cases ks <;> simp [chkD]) (fun _ eo => by cases eo <;> simp [chkO]) fun _ it => by cases it <;> simp [chkI]
  | neg a ia => exact onlyE (sd_neg ia) (fun _ es => by cases es <;> simp [chkA]) (fun _ ks _ _ => by cases ks <;> simp [chkD]) (fun _ eo => by cases eo <;> simp [chkO]) fun _ it => by cases it <;> simp [chkI]
  | not a ia => exact onlyE (sd_not ia) (fun _ es => by cases es <;> simp [chkA]) (fun _ ks _ _ => by cases ks <;> simp [chkD]) (fun _ eo => by cases eo <;> simp [chkO]) fun _ it => by cases it <;> simp [chkI]
  | one a ia => exact onlyE (sd_one ia) (fun _ es => by cases es <;> simp [chkA]) (fun _ ks _ _ => by cases ks <;> simp [chkD]) (fun _ eo => by cases eo <;> simp [chkO]) fun _ it => by cases it <;> simp [chkI]
  | and a b ia ib => exact onlyE (sd_and ia ib) (fun _ es => by cases es <;> simp [chkA]) (fun _ ks _ _ => by cases ks <;> simp [chkD]) (fun _ eo => by cases eo <;> simp [chkO]) fun _ it => by cases it <;> simp [chkI]
  | or a b ia ib => exact onlyE (sd_or ia ib) (fun _ es => by cases es <;> simp [chkA]) (fun _ ks _ _ => by cases ks <;> simp [chkD]) (fun _ eo => by cases eo <;> simp [chkO]) fun _ it => by cases it <;> simp [chkI]
  | cmp op a b ia ib => exact onlyE (sd_cmp ia ib) (fun _ es => by cases es <;> simp [chkA]) (fun _ ks _ _ => by cases ks <;> simp [chkD]) (fun _ eo => by cases eo <;> simp [chkO]) fun _ it => by cases it <;> simp [chkI]
  | chain o p a b c ia ib ic => exact onlyE (sd_chain ia ib ic) (fun _ es => by cases es <;> simp [chkA]) (fun _ ks _ _ => by cases ks <;> simp [chkD]) (fun _ eo => by cases eo <;> simp [chkO]) fun _ it => by cases it <;> simp [chkI]
  | ife a b c ia ib ic => exact onlyE (sd_ife ia ib ic) (fun _ es => by cases es <;> simp [chkA]) (fun _ ks _ _ => by cases ks <;> simp [chkD]) (fun _ eo => by cases eo <;> simp [chkO]) fun _ it => by cases it <;> simp [chkI]
  | call f a ia => exact onlyE (sd_call ia) (fun _ es => by cases es <;> simp [chkA]) (fun _ ks _ _ => by cases ks <;> simp [chkD]) (fun _ eo => by cases eo <;> simp [chkO]) fun _ it => by cases it <;> simp [chkI]
  | blt b a ia => exact onlyE (sd_blt ia) (fun _ es => by cases es <;> simp [chkA]) (fun _ ks _ _ => by cases ks <;> simp [chkD]) (fun _ eo => by cases eo <;> simp [chkO]) fun _ it => by cases it <;> simp [chkI]
  | isi a t ia => exact onlyE (sd_isi ia) (fun _ es => by cases es <;> simp [chkA]) (fun _ ks _ _ => by cases ks <;> simp [chkD]) (fun _ eo => by cases eo <;> simp [chkO]) fun _ it => by cases it <;> simp [chkI]
  | mth m o a io ia => exact onlyE (sd_mth io ia) (fun _ es => by cases es <;> simp [chkA]) (fun _ ks _ _ => by cases ks <;> simp [chkD]) (fun _ eo => by cases eo <;> simp [chkO]) fun _ it => by cases it <;> simp [chkI]
  | lst a ia => exact onlyE (sd_lst ia) (fun _ es => by cases es <;> simp [chkA]) (fun _ ks _ _ => by cases ks <;> simp [chkD]) (fun _ eo => by cases eo <;> simp [chkO]) fun _ it => by cases it <;> simp [chkI]
  | tup a ia => exact onlyE (sd_tup ia) (fun _ es => by cases es <;> simp [chkA]) (fun _ ks _ _ => by cases ks <;> simp [chkD]) (fun _ eo => by cases eo <;> simp [chkO]) fun _ it => by cases it <;> simp [chkI]
  | dct ks a ia => exact onlyE (sd_dct ia) (fun _ es => by cases es <;> simp [chkA]) (fun _ ks _ _ => by cases ks <;> simp [chkD]) (fun _ eo => by cases eo <;> simp [chkO]) fun _ it => by cases it <;> simp [chkI]
  | idx a b ia ib => exact onlyE (sd_idx ia ib) (fun _ es => by cases es <;> simp [chkA]) (fun _ ks _ _ => by cases ks <;> simp [chkD]) (fun _ eo => by cases eo <;> simp [chkO]) fun _ it => by cases it <;> simp [chkI]
  | slc a b c ia ib ic => exact onlyE (sd_slc ia ib ic) (fun _ es => by cases es <;> simp [chkA]) (fun _ ks _ _ => by cases ks <;> simp [chkD]) (fun _ eo => by cases eo <;> simp [chkO]) fun _ it => by cases it <;> simp [chkI]
  | comp vs t a b c ia ib ic => exact onlyE (sd_comp ia ib ic) (fun _ es => by cases es <;> simp [chkA]) (fun _ ks _ _ => by cases ks <;> simp [chkD]) (fun _ eo => by cases eo <;> simp [chkO]) fun _ it => by cases it <;> simp [chkI]
  | yes => exact onlyE sd_yes (fun _ es => by cases es <;> simp [chkA]) (fun _ ks _ _ => by cases ks <;> simp [chkD]) (fun _ eo => by cases eo <;> simp [chkO]) fun _ it => by cases it <;> simp [chkI]
  | anil => exact sd_anil
  | acons a r ia ir => exact sd_acons ia ir
  | onil => exact sd_onil
  | osome a ia => exact sd_osome ia
  | iexp a ia => exact sd_iexp ia
  | irng a ia => exact sd_irng ia
  | ienum a ia => exact sd_ienum ia
end
end Ev

namespace Ev
open PySem PySem.Spec PyProof.Rows L2
section
variable {C : CC} {cl : Nat → Option Addr} {T : Nat → Option D} {cal : Nat → List D → Hh → R D} {k : Nat}
theorem assign_sub {o i : Expr} {p : Pos} {env : PySem.Env} (h : sliceB i = false) : ∀ v, assign (.Subscript o i p) env v = (do
      let ov ← holding [v] (eval o env)
      let iv ← holding [v, ov] (eval i env)
      standAt p
      holding [v, ov, iv] (setItem ov iv v)
      release [v, ov, iv] []) := by
  intro v
  cases i <;> first | rfl | cases h
theorem sw_tup {es : List Expr} {kk : Nat} {p : Pos} {e : Expr} {l : Nat} {env : PySem.Env} : swapsWithSole [.Tuple es kk p] e l env = pure false := by
  show swapsWith e (some (.Tuple es kk p)) l env = pure false
  cases e <;> rfl
theorem sw_sub {o i : Expr} {p : Pos} {e : Expr} {l : Nat} {env : PySem.Env} : swapsWithSole [.Subscript o i p] e l env = pure false := by
  show swapsWith e (some (.Subscript o i p)) l env = pure false
  cases e <;> rfl
theorem st_tup {es : List Expr} {kk : Nat} {p : Pos} {e : Expr} {env : PySem.Env} (h : tupB e = false) : swappedStores [.Tuple es kk p] e env = pure none := by
  cases e <;> first | rfl | cases h
theorem st_sub {o i : Expr} {p : Pos} {e : Expr} {env : PySem.Env} : swappedStores [.Subscript o i p] e env = pure none := by
  cases e <;> rfl
theorem sw_lc {elt : Expr} {gs : List Comprehension} {scope : Scope} {pos py : Pos} {y : Str} {l : Nat} {env : PySem.Env} : swapsWith (.ListComp elt gs scope pos) (some (.Name y py)) l env =
    pure (env.blockKind == .function && env.kindOf y == some .local && py.line == pos.line && !(scope.names.any fun (n, k) => n == y && (k == .local || k == .cell))) := rfl
theorem sw_par {x y : Str} {px py pt pt2 : Pos} {kt k2 : Nat} {a b : Expr} {env : PySem.Env} (hk : env.scope.kind = .function) (hx : env.scope.names.lookup x = some .local) (hy : env.scope.names.lookup y = some .local) (hl : (py.line == px.line) = true) (hxy : x ≠ y)
    (h1 : ([a, b].all (foldedForSure 8)) = false) (h2 : ([a, b].all (constantsAlone 8)) = false) (s1 : starB a = false) (s2 : starB b = false) :
    swappedStores [.Tuple [.Name x px, .Name y py] kt pt] (.Tuple [a, b] k2 pt2) env = pure (some [x, y]) := by
  have hb : env.blockKind = .function := by unfold Env.blockKind; rw [hk]; rfl
  have kx : env.kindOf x = some .local := hx
  have ky : env.kindOf y = some .local := hy
  have hl2 : py.line = px.line := by simpa using hl
  have hd : ([x, y].eraseDups).length = 2 := by
    have : (y == x) = false := by simpa using fun z => hxy z.symm
    simp [List.eraseDups_cons, this]
  unfold swappedStores
  simp only [hb]
  have e1 : ∀ b : Bool, b = false → ¬ b = true := fun b h q => by rw [h] at q; cases q
  rw [if_neg (by simp), if_neg (e1 _ (by cases a <;> cases b <;> first | rfl | (exact Bool.noConfusion s1) | (exact Bool.noConfusion s2))), if_neg (e1 _ (by simp [kx, ky, Expr.pos, hl2, hd])), if_neg (e1 _ h1), if_neg (e1 _ h2)]
  simp [kx, ky, Expr.pos, hl2]
def SdS (s : S) : Prop := (∀ (X : Cx) (st : Stmt), Good C cl T cal k X → StoOk X (locB X.env.scope) → PassesOwn (model X.prog X.w) X.A X.env X.xe → chkS C X.env.scope s st = true → PS X st (tS X.K cl XF (evS T cal s))) ∧
  (∀ (X : Cx) (st : List Stmt), Good C cl T cal k X → StoOk X (locB X.env.scope) → PassesOwn (model X.prog X.w) X.A X.env X.xe → chkS.chkL C X.env.scope s st = true → PSs X st (tS X.K cl XF (evS T cal s)))
theorem onlyS {s : S} (h : ∀ (X : Cx) (st : Stmt), Good C cl T cal k X → StoOk X (locB X.env.scope) → PassesOwn (model X.prog X.w) X.A X.env X.xe → chkS C X.env.scope s st = true → PS X st (tS X.K cl XF (evS T cal s)))
    (hl : ∀ sc st, chkS.chkL C sc s st = false) : SdS (C := C) (cl := cl) (T := T) (cal := cal) (k := k) s := ⟨h, fun X st _ _ _ hc => by rw [hl] at hc; cases hc⟩
theorem ss_asgAll {X : Cx} {t : Tg} {e : E} {tg ee : Expr} {pos : Pos} (g : Good C cl T cal k X) (ho : StoOk X (locB X.env.scope)) (h1 : chkE C X.env.scope e ee = true) (h2 : chkT C.N (locB X.env.scope) t tg = true) (h3 : (!(tupB tg && tupB ee)) = true) :
    PS X (.Assign [tg] ee pos) (tS X.K cl XF (sAsg t (evE T cal e))) := by
  have pe := ((sd_all (C := C) (cl := cl) (T := T) (cal := cal) (k := k) e).e X ee g h1).1
  have h2' : chkT X.N (locB X.env.scope) t tg = true := by rw [g.N]; exact h2
  cases tg with
  | Name x p =>
    cases t with
    | nm i =>
      have h2 : (decide (X.N[i]? = some x) && locB X.env.scope x) = true := h2'
      rw [Bool.and_eq_true, decide_eq_true_eq] at h2
      obtain ⟨l1, l2⟩ := ho x h2.2
      cases hc : compB ee with
      | false => exact ss_set g.nd h2.1 l1 pe (swaps_plain hc) l2
      | true =>
        cases ee with
        | ListComp elt gs scope lp =>
          cases hw : (X.env.blockKind == .function && X.env.kindOf x == some .local && p.line == lp.line && !(scope.names.any fun (n, k) => n == x && (k == .local || k == .cell))) with
          | false => exact ss_set g.nd h2.1 l1 pe (by rw [sw_lc, hw]) l2
          | true =>
            have hsw := sw_lc (elt := elt) (gs := gs) (scope := scope) (pos := lp) (py := p) (y := x) (l := pos.line) (env := X.env)
            rw [hw] at hsw
            simp only [Bool.and_eq_true] at hw
            have kx : X.env.scope.names.lookup x = some .local := by
              have := hw.1.1.2
              have : X.env.kindOf x = some .local := by simpa using this
              exact this
            unfold chkE at h1
            split at h1 <;> first
              | (rename_i q; cases q; done)
              | cases h1
              | skip
            rename_i q
            cases q
            obtain ⟨p1, p2, p3, gg, tt, te, p4, p5, p6, p7⟩ := lc_all g (sd_all _) (sd_all _) (sd_all _) h1
            refine ⟨fun pins s σ H E I hq => (ps_setLc g.calm g.nd h2.1 kx hsw p1 p2 p4 p5 p6 p3).run pins s σ H E I ?_⟩
            have hq : tAsg (tF X.K cl XF (evE T cal (.comp _ _ _ _ _))) (gName i) E σ H := asg_read (gok_name i) hq
            simp only [evE] at hq
            exact p7 σ H _ hq
        | _ => first | (cases hc; done) | (simp [chkE] at h1; done)
    | _ => simp [chkT] at h2'
  | Tuple es kk p =>
    have hne : tupB ee = false := by simpa [tupB] using h3
    exact ss_asg (gok_all X.K t).1 pe (pg_all g.calm g.nd ho t _ h2') sw_tup (st_tup hne) rfl
  | _ => cases t <;> simp [chkT] at h2'
theorem sds_all : ∀ s : S, SdS (C := C) (cl := cl) (T := T) (cal := cal) (k := k) s := by
  have sd := sd_all (C := C) (cl := cl) (T := T) (cal := cal) (k := k)
  intro s
  induction s with
  | nil =>
    refine ⟨fun X st g ho hp h => ?_, fun X st g ho hp h => ?_⟩
    · cases st <;> simp [chkS] at h
    · cases st with
      | nil => simp only [evS]; exact ss_nil
      | cons _ _ => simp [chkS.chkL] at h
  | cons a r ia ir =>
    refine ⟨fun X st g ho hp h => ?_, fun X st g ho hp h => ?_⟩
    · cases st <;> simp [chkS] at h
    · cases st with
      | nil => simp [chkS.chkL] at h
      | cons st rest =>
        simp only [chkS.chkL, Bool.and_eq_true] at h
        simp only [evS]
        exact ss_cons (ia.1 X st g ho hp h.1) (ir.2 X rest g ho hp h.2)
  | expr e =>
    refine onlyS (fun X st g ho hp h => ?_) fun sc st => by cases st <;> simp [chkS.chkL]
    cases st with
    | Expr ee p =>
      simp only [chkS, Bool.and_eq_true] at h
      simp only [evS]
      exact ss_expr ((sd e).e X ee g h.1).1 (swaps_plain (by simpa using h.2))
    | _ => simp [chkS] at h
  | doc =>
    refine onlyS (fun X st g ho hp h => ?_) fun sc st => by cases st <;> simp [chkS.chkL]
    unfold chkS at h
    split at h <;> first
      | (rename_i q; cases q; done)
      | cases h
      | skip
    simp only [evS]
    exact ss_doc
  | ret e =>
    refine onlyS (fun X st g ho hp h => ?_) fun sc st => by cases st <;> simp [chkS.chkL]
    unfold chkS at h
    split at h <;> first
      | (rename_i q; cases q; done)
      | cases h
      | skip
    rename_i q
    cases q
    simp only [evS]
    exact ss_ret ((sd e).e X _ g h).1
  | retN =>
    refine onlyS (fun X st g ho hp h => ?_) fun sc st => by cases st <;> simp [chkS.chkL]
    unfold chkS at h
    split at h <;> first
      | (rename_i q; cases q; done)
      | cases h
      | skip
    simp only [evS]
    exact ss_retN
  | pass =>
    refine onlyS (fun X st g ho hp h => ?_) fun sc st => by cases st <;> simp [chkS.chkL]
    cases st with
    | Pass p => simp only [evS]; exact ss_pass
    | _ => simp [chkS] at h
  | brk =>
    refine onlyS (fun X st g ho hp h => ?_) fun sc st => by cases st <;> simp [chkS.chkL]
    cases st with
    | Break p => simp only [evS]; exact ss_brk
    | _ => simp [chkS] at h
  | cnt =>
    refine onlyS (fun X st g ho hp h => ?_) fun sc st => by cases st <;> simp [chkS.chkL]
    cases st with
    | Continue p => simp only [evS]; exact ss_cnt
    | _ => simp [chkS] at h
  | ife c a b ia ib =>
    refine onlyS (fun X st g ho hp h => ?_) fun sc st => by cases st <;> simp [chkS.chkL]
    cases st with
    | If ec sa sb p =>
      simp only [chkS, Bool.and_eq_true] at h
      obtain ⟨⟨⟨h1, h2⟩, h3⟩, h4⟩ := h
      simp only [evS]
      exact ss_if (((sd c).e X ec g h1).2.1 h2) (ia.2 X sa g ho hp h3) (ib.2 X sb g ho hp h4)
    | _ => simp [chkS] at h
  | asg t e =>
    refine onlyS (fun X st g ho hp h => ?_) fun sc st => by cases st <;> simp [chkS.chkL]
    unfold chkS at h
    split at h <;> first
      | (rename_i q; cases q; done)
      | cases h
      | skip
    rename_i q
    cases q
    simp only [Bool.and_eq_true] at h
    obtain ⟨⟨h1, h2⟩, h3⟩ := h
    simp only [evS]
    exact ss_asgAll g ho h1 h2 h3
  | par i j es =>
    refine onlyS (fun X st g ho hp h => ?_) fun sc st => by cases st <;> simp [chkS.chkL]
    unfold chkS at h
    split at h <;> first
      | (rename_i q; cases q; done)
      | cases h
      | skip
    rename_i q
    cases q
    simp only [Bool.and_eq_true, decide_eq_true_eq] at h
    obtain ⟨⟨⟨⟨⟨⟨⟨⟨⟨h1, h2⟩, h3⟩, h4⟩, h5⟩, h6⟩, h7⟩, h8⟩, h9⟩, h10⟩ := h
    obtain ⟨a1, a2, a3⟩ := (sd es).a X _ g h10
    simp only [List.all_cons, List.all_nil, Bool.and_true, Bool.and_eq_true] at a2
    simp only [evS]
    exact ss_par g.calm g.nd (by rw [g.N]; exact h1) (by rw [g.N]; exact h2) h3 h4 h5 a1 (sw_par g.kind h4 h5 h6 h7 (by cases q : [_, _].all (foldedForSure 8) <;> simp_all) (by cases q : [_, _].all (constantsAlone 8) <;> simp_all) (by simpa using a2.1) (by simpa using a2.2)) sw_tup
  | sub o i v =>
    refine onlyS (fun X st g ho hp h => ?_) fun sc st => by cases st <;> simp [chkS.chkL]
    unfold chkS at h
    split at h <;> first
      | (rename_i q; cases q; done)
      | cases h
      | skip
    rename_i q
    cases q
    simp only [Bool.and_eq_true] at h
    obtain ⟨⟨⟨h1, h2⟩, h3⟩, h4⟩ := h
    simp only [evS]
    exact ss_sub g.units ((sd o).e X _ g h1).1 ((sd i).e X _ g h2).1 ((sd v).e X _ g h3).1 (assign_sub (by simpa using h4)) sw_sub st_sub rfl
  | fora t it b ib =>
    refine onlyS (fun X st g ho hp h => ?_) fun sc st => by cases st <;> simp [chkS.chkL]
    unfold chkS at h
    split at h <;> first
      | (rename_i q; cases q; done)
      | cases h
      | skip
    rename_i q
    cases q
    simp only [Bool.and_eq_true] at h
    obtain ⟨⟨⟨⟨h1, h2⟩, h3⟩, h4⟩, h5⟩ := h
    rename_i tg _ _ _
    have h4' : chkT X.N (locB X.env.scope) t tg = true := by rw [g.N]; exact h4
    have hgo : if stI it = true then GOk X.K t (gT X.K t) else GOkW X.K t (gT X.K t) := by
      obtain ⟨o1, _, o3⟩ := gok_all X.K t
      cases hs : stI it with
      | true => rw [if_pos rfl]; exact o1
      | false =>
        rw [if_neg Bool.false_ne_true]
        rw [hs, Bool.false_or] at h2
        cases t with
        | tp l => exact o3 l rfl
        | nm i =>
          cases tg <;> first
            | (cases h2; done)
            | (simp [chkT] at h4; done)
        | tnil => cases tg <;> simp [chkT] at h4
        | tcons a r => cases tg <;> simp [chkT] at h4
    simp only [evS]
    exact ss_for hp g.calm ((sd it).i X _ _ g h1 h2) hgo (pg_all g.calm g.nd ho t _ h4') (ib.2 X _ g ho hp h5) (fold_set (by simpa using h3))
  | whil c b ib =>
    refine onlyS (fun X st g ho hp h => ?_) fun sc st => by cases st <;> simp [chkS.chkL]
    unfold chkS at h
    split at h <;> first
      | (rename_i q; cases q; done)
      | cases h
      | skip
    rename_i q
    cases q
    simp only [Bool.and_eq_true] at h
    obtain ⟨⟨h1, h2⟩, h3⟩ := h
    simp only [evS]
    exact ss_while hp (((sd c).e X _ g h1).2.1 h2) (ib.2 X _ g ho hp h3)
end
end Ev

/-! All defs of a text at once, and the law. -/
namespace Ev
open PySem PySem.Spec PyProof.Rows L2
def scB (N ps : List Str) (sc : Scope) : Bool :=
  decide (sc.kind = .function) && !sc.isCoroutine && !sc.isGenerator && decide N.Nodup && decide (N.take ps.length = ps) && ps.all (fun x => locB sc x) && sc.names.all fun y => decide (y.2 ≠ .free)
theorem scB_ok {N ps : List Str} {sc : Scope} (h : scB N ps sc = true) : FnScope N ps sc := by
  unfold scB at h
  simp only [Bool.and_eq_true, decide_eq_true_eq, Bool.not_eq_true', List.all_eq_true] at h
  obtain ⟨⟨⟨⟨⟨⟨h1, h2⟩, h3⟩, h4⟩, h5⟩, h6⟩, h7⟩ := h
  exact ⟨h1, h2, h3, h4, h5, fun x hx => loc_ok (h6 x hx), h7⟩
structure Dn where
  x : Str
  qual : Str
  st : Stmt
  N : List Str
  ps : List Str
  fd : Fd
def Dn.ok (gn fn : List Str) (d : Dn) : Bool :=
  scB d.N d.ps (defScope d.st) && decide (d.fd.np = d.ps.length) && decide (d.fd.ns = d.N.length) && chkS.chkL ⟨d.N, gn, fn⟩ (defScope d.st) d.fd.body (defBody d.st)
theorem env_start {K : PySem.W.Frag} {as : List Addr} {H : Hp} {fd : Fd} {N : List Str} {ds : List D} {vs : List V} (h : RpL K as H ds vs) (hn : fd.ns = N.length) : EnvR K as H (start0 fd ds) (L2.start N vs) := by
  have hl := h.length
  refine ⟨?_, fun i d e => ?_⟩
  · unfold start0 L2.start
    simp [hl, hn]
  · unfold start0 at e
    unfold L2.start
    by_cases hi : i < ds.length
    · rw [List.getElem?_append_left (by simpa using hi), List.getElem?_map] at e
      cases q : ds[i]? with
      | none => rw [q] at e; cases e
      | some d' =>
        rw [q] at e
        cases e
        obtain ⟨v, e1, r⟩ := h.get q
        exact ⟨v, by rw [List.getElem?_append_left (by simpa [hl] using hi), List.getElem?_map, e1]; rfl, r⟩
    · rw [List.getElem?_append_right (by simpa using Nat.le_of_not_lt hi)] at e
      rw [List.getElem?_replicate] at e
      split at e <;> cases e
section
variable {P : Program} {w : World} {K : PySem.W.Frag} {mg : Str → Option Value} {base : Heap} {cl : Nat → Option Addr} {T : Nat → Option D} {gn : List Str} {ds : List Dn}
def fdOf (ds : List Dn) (j : Nat) : Option Fd := (ds[j]?).map (·.fd)
theorem fg_all (hok : ∀ d ∈ ds, Dn.ok gn (ds.map (·.x)) d = true) (hblt : ∀ x ∈ bltNames, mg x = none)
    (hgv : ∀ (j : Nat) (x : Str), gn[j]? = some x → ∃ d v u, T j = some d ∧ mg x = some u ∧ L2.RelV v u ∧ ∀ as H, Rp K as H d v)
    (hF : ∀ d ∈ ds, ∃ f fd, mg d.x = some (.ref f) ∧ L2.Fun K d.x d.qual d.st f fd ∧ Binds K fd d.ps []) :
    ∀ (k j : Nat) (d : Dn) (f : Addr) (fd : FuncData), ds[j]? = some d → L2.Fun K d.x d.qual d.st f fd → FG P w K mg base L2.CX0 k f fd d.ps (spF K cl (callK T (fdOf ds) k) j) := by
  intro k
  induction k with
  | zero =>
    intro j d f fd hj hf
    exact ⟨fun vs H Q E ⟨as, h, xs, _, _, o⟩ => o.elim, fun A outer s H args us vs Q E hr hg e0 hb hv ⟨as, h, xs, _, _, o⟩ => o.elim⟩
  | succ k ih =>
    intro j d f fd hj hf
    have hd : d ∈ ds := List.mem_of_getElem? hj
    have ho := hok d hd
    unfold Dn.ok at ho
    simp only [Bool.and_eq_true, decide_eq_true_eq] at ho
    obtain ⟨⟨⟨o1, o2⟩, o3⟩, o4⟩ := ho
    have S := scB_ok o1
    have ef : fdOf ds j = some d.fd := by unfold fdOf; rw [hj]; rfl
    have ec : ∀ xs h, callK T (fdOf ds) (k + 1) j xs h = if xs.length = d.fd.np then endS (evS T (callK T (fdOf ds) k) d.fd.body (start0 d.fd xs) h) else .bad := fun xs h => by
      show (match fdOf ds j with | some fd => if xs.length = fd.np then endS (evS T (callK T (fdOf ds) k) fd.body (start0 fd xs) h) else .bad | none => .bad) = _
      rw [ef]
    refine fg_of hf S (fun vs H Q E ⟨as, h, xs, r1, r2, o⟩ => ?_) fun cdv A outer s H vs Q E hr hgd ⟨as, h, xs, r1, r2, o⟩ => ?_
    · rw [ec] at o
      split at o
      · rename_i q
        rw [← r2.length, q, o2]
      · exact o.elim
    · refine ⟨_, PSs.nox ((sds_all (C := ⟨d.N, gn, ds.map (·.x)⟩) (cl := cl) (T := T) (cal := callK T (fdOf ds) k) (k := k) d.fd.body).2 _ (defBody d.st) ⟨rfl, S.nd, rfl, hgd, hr, S.kind, hblt, hgv, ?_⟩ ?_ ?_ o4), ?_⟩
      · intro i x hi
        have hi : (ds.map (·.x))[i]? = some x := hi
        rw [List.getElem?_map] at hi
        cases q : ds[i]? with
        | none => rw [q] at hi; cases hi
        | some d' =>
          rw [q] at hi
          cases hi
          obtain ⟨f', fd', g1, g2, g3⟩ := hF d' (List.mem_of_getElem? q)
          exact ⟨f', fd', d'.ps, g1, g2.kp, g3, ih i d' f' fd' q g2⟩
      · intro x hx
        exact ⟨loc_ok hx, .inl rfl⟩
      · exact PassesOwn.never
      · rw [ec] at o
        split at o
        · refine ⟨as, start0 d.fd xs, h, r1, env_start r2 o3, ?_⟩
          cases q : evS T (callK T (fdOf ds) k) d.fd.body (start0 d.fd xs) h with
          | bad => rw [q] at o; exact o.elim
          | exc c fs env h' =>
            rw [q] at o
            exact fun as' H' s' y z _ => o as' H' y z
          | ok fl env h' =>
            rw [q] at o
            cases fl with
            | nx => exact fun as' H' s' y z _ => o as' H' y z .non .non
            | rt d => exact fun as' H' s' y z _ => o as' H' y z
            | bk => exact o.elim
            | ct => exact o.elim
        · exact o.elim
/-- the law: what the tree's run tells is what the law tells -/
theorem law_all (hok : ∀ d ∈ ds, Dn.ok gn (ds.map (·.x)) d = true) (hblt : ∀ x ∈ bltNames, mg x = none)
    (hgv : ∀ (j : Nat) (x : Str), gn[j]? = some x → ∃ d v u, T j = some d ∧ mg x = some u ∧ L2.RelV v u ∧ ∀ as H, Rp K as H d v)
    (hF : ∀ d ∈ ds, ∃ f fd, mg d.x = some (.ref f) ∧ L2.Fun K d.x d.qual d.st f fd ∧ Binds K fd d.ps [])
    {k j : Nat} {d : Dn} {fa : Addr} {x : Str} (hj : ds[j]? = some d) (hx : d.ps = [x]) (hm : mg d.x = some (.ref fa)) :
    ∃ fd : FuncData, (∀ (s : Shared) (u : Value), K.In s.heap → BindsTo s fd ⟨[u], []⟩ [(x, u)]) ∧ FG P w K mg base L2.CX0 k fa fd [x] (spF K cl (callK T (fdOf ds) k) j) := by
  obtain ⟨f, fd, g1, g2, g3⟩ := hF d (List.mem_of_getElem? hj)
  cases hm.symm.trans g1
  rw [hx] at g3
  refine ⟨fd, fun s u hK => ?_, ?_⟩
  · have := g3 s [u] hK rfl
    exact this
  · have := fg_all (P := P) (w := w) (base := base) (cl := cl) hok hblt hgv hF k j d _ fd hj g2
    rw [hx] at this
    exact this
end
end Ev

/-! The end: from the tree's run to the law. -/
namespace Ev
open PySem PySem.Spec PyProof.Rows L2
/-- a def of the text as the head has it -/
def HasDef (K : PySem.W.Frag) (d : Dn) : Prop := ∃ f fd, PySem.W.nsIn K mainGlobals d.x = some (some (.ref f)) ∧ L2.Fun K d.x d.qual d.st f fd ∧ Binds K fd d.ps []
/-- a constant of the top -/
def HasC (K : PySem.W.Frag) (x : Str) (d : D) : Prop := ∃ u v, PySem.W.nsIn K mainGlobals x = some (some u) ∧ L2.RelV v u ∧ ∀ as H, Rp K as H d v
structure Heads (K : PySem.W.Frag) (T : Nat → Option D) (gn : List Str) (ds : List Dn) : Prop where
  blt : ∀ x ∈ bltNames, PySem.W.nsIn K mainGlobals x = some none
  gv : ∀ (j : Nat) (x : Str), gn[j]? = some x → ∃ d, T j = some d ∧ HasC K x d
  fns : ∀ d ∈ ds, HasDef K d
theorem hasDef_mk {K : PySem.W.Frag} {d : Dn} {f : Addr} {oc : Value} {od an : Option Addr} {osl : Array (Option Value)} {kV doc pm cdv ct : Value} (a : PySem.W.nsIn K mainGlobals d.x = some (some (.ref f)))
    (l : K.lookup f = some ⟨oc, od, .func (PySem.W.fnOf d.x d.qual (defArgs d.st) (defBody d.st) (defScope d.st) .none kV doc pm an cdv ct), osl⟩)
    (c : PySem.W.codeIn K cdv d.qual = true) (k : PySem.W.keepIn K (.ref f) = true)
    (b : ∀ (kV doc pm : Value) (an : Option Addr) (cdv ct : Value) (us : List Value), us.length = d.ps.length → bindArgs (PySem.W.fnOf d.x d.qual (defArgs d.st) (defBody d.st) (defScope d.st) .none kV doc pm an cdv ct) ⟨us, []⟩ = pure (d.ps.zip us)) : HasDef K d :=
  have F := fun_mk (x := d.x) (qual := d.qual) (st := d.st) l c k
  ⟨f, _, a, F, F.binds b⟩
theorem hasC_str {K : PySem.W.Frag} {x s : Str} {t : Tok} (a : PySem.W.nsIn K mainGlobals x = some (some (.str s t))) : HasC K x (.str s) := ⟨_, .str s, a, ⟨t, rfl⟩, fun _ _ => .str s⟩
theorem hasC_int {K : PySem.W.Frag} {x : Str} {i : Int} {t : Tok} (a : PySem.W.nsIn K mainGlobals x = some (some (.int i t))) : HasC K x (.int i) := ⟨_, .int i, a, ⟨t, rfl⟩, fun _ _ => .int i⟩
theorem walk_E {l : PySem.W.OpenLaw} {n k j : Nat} {q : Program} {loose : List Str} {XP : (Str → Option Value) → Heap → Prop} {YP : World → Heap → Prop} {d : DefRec} {K : Params → PySem.W.Frag} {T : Nat → Option D} {gn : List Str} {ds : List Dn} {dn : Dn} {x : Str}
    (hn : l.most = some n) (hn2 : n ≤ sizeLine) (hdf : d.params.defaults = []) (hr : Room k callerA) (hY : ∀ (w : World) (h : Heap), YP w h → (K w.params).In h)
    (hok : ∀ d ∈ ds, Dn.ok gn (ds.map (·.x)) d = true) (hj : ds[j]? = some dn) (hps : dn.ps = [x]) (hdx : dn.x = d.name)
    (hrun : ∀ ns : List Int, ns.length ≤ n → ∃ h, callK T (fdOf ds) k j [.scr ns] [] = .ok (.bl true) h)
    (F : ∀ w : World, Heads (K w.params) T gn ds) :
    PySem.W.WalkO q loose XP YP l.row.toRowW d [] (fun f vs => PySem.call f vs) := by
  refine walk_G (l := l) (n := n) (k := k) (x := x) (CX := fun _ => L2.CX0) (K := K) (sp := fun w => spF (K w.params) (fun _ => none) (callK T (fdOf ds) k) j) hn hn2 hdf hr hY ?_ (fun w H a ns hl hO hS => ?_) (fun _ _ _ _ _ h => h)
  · intro w mg fa h KX G hmg
    obtain ⟨h1, h2, h3⟩ := F w
    have g1 : ∀ x ∈ bltNames, mg x = none := fun x hx => PySem.W.mg_none_of KX G (h1 x hx)
    have g2 : ∀ (j : Nat) (x : Str), gn[j]? = some x → ∃ d v u, T j = some d ∧ mg x = some u ∧ L2.RelV v u ∧ ∀ as H, Rp (K w.params) as H d v := fun j x hx => by
      obtain ⟨d, e, u, v, a, r, p⟩ := h2 j x hx
      exact ⟨d, v, u, e, PySem.W.mg_of KX G a, r, p⟩
    have g3 : ∀ d ∈ ds, ∃ f fd, mg d.x = some (.ref f) ∧ L2.Fun (K w.params) d.x d.qual d.st f fd ∧ Binds (K w.params) fd d.ps [] := fun d hd => by
      obtain ⟨f, fd, a, b, c⟩ := h3 d hd
      exact ⟨f, fd, PySem.W.mg_of KX G a, b, c⟩
    have g4 : mg dn.x = some (.ref fa) := by rw [hdx]; exact hmg
    obtain ⟨f, fd, a, b, c⟩ := g3 dn (List.mem_of_getElem? hj)
    cases a.symm.trans g4
    rw [hps] at c
    refine ⟨fd, fun s u hK => c s [u] hK rfl, fun base _ _ => ?_⟩
    have := fg_all (P := l.prog) (w := w) (base := base) (cl := fun _ => none) (T := T) hok g1 g2 g3 k j dn _ fd hj b
    rw [hps] at this
    exact this
  · obtain ⟨h, e⟩ := hrun ns hl
    refine ⟨[], [], [.scr ns], ⟨rfl, .nil, fun i o a e => by simp at e⟩, .cons (.scr hS) .nil, ?_⟩
    rw [e]
    intro as' H' _ _ v r
    cases r
    rfl
end Ev

/-! Reading a tree's run. -/
namespace Ev
open PySem PySem.Spec PyProof.Rows L2
def R.W {A : Type} (r : R A) (Q : A → Hh → Prop) : Prop :=
  match r with
  | .ok a h => Q a h
  | _ => False
def SR.W (r : SR) (Q : Fl → Nv → Hh → Prop) : Prop :=
  match r with
  | .ok f env h => Q f env h
  | _ => False
section
variable {A B : Type}
@[simp] theorem W_ok {a : A} {h : Hh} {Q : A → Hh → Prop} : (R.ok a h).W Q ↔ Q a h := Iff.rfl
@[simp] theorem W_bad {Q : A → Hh → Prop} : (R.bad : R A).W Q ↔ False := Iff.rfl
@[simp] theorem W_exc {c : Nat} {fs : List D} {h : Hh} {Q : A → Hh → Prop} : (R.exc c fs h : R A).W Q ↔ False := Iff.rfl
@[simp] theorem W_bind {r : R A} {f : A → Hh → R B} {Q : B → Hh → Prop} : (r.bind f).W Q ↔ r.W fun a h => (f a h).W Q := by cases r <;> exact Iff.rfl
theorem R.W.mono {r : R A} {P Q : A → Hh → Prop} (w : r.W P) (f : ∀ a h, P a h → Q a h) : r.W Q := by
  cases r with
  | ok a h => exact f _ _ w
  | _ => exact w
theorem R.W.ex {r : R A} {Q : A → Hh → Prop} (w : r.W Q) : ∃ a h, r = .ok a h ∧ Q a h := by
  cases r with
  | ok a h => exact ⟨a, h, rfl, w⟩
  | exc _ _ _ => exact w.elim
  | bad => exact w.elim
@[simp] theorem SW_ok {f : Fl} {env : Nv} {h : Hh} {Q : Fl → Nv → Hh → Prop} : (SR.ok f env h).W Q ↔ Q f env h := Iff.rfl
@[simp] theorem SW_bad {Q : Fl → Nv → Hh → Prop} : SR.bad.W Q ↔ False := Iff.rfl
@[simp] theorem SW_of {r : R A} {env : Nv} {k : A → Hh → SR} {Q : Fl → Nv → Hh → Prop} : (SR.of r env k).W Q ↔ r.W fun a h => (k a h).W Q := by cases r <;> exact Iff.rfl
theorem SR.W.mono {r : SR} {P Q : Fl → Nv → Hh → Prop} (w : r.W P) (f : ∀ a e h, P a e h → Q a e h) : r.W Q := by
  cases r with
  | ok a e h => exact f _ _ _ w
  | _ => exact w
end
/-- what follows a statement -/
def thenW (g : Nv → Hh → Prop) (Q : Fl → Nv → Hh → Prop) : Fl → Nv → Hh → Prop
  | .nx, env, h => g env h
  | .rt d, env, h => Q (.rt d) env h
  | .bk, env, h => Q .bk env h
  | .ct, env, h => Q .ct env h
section
variable {T : Nat → Option D} {cal : Nat → List D → Hh → R D} {env : Nv} {h : Hh} {Q : Fl → Nv → Hh → Prop}
theorem w_cons {a r : S} : (evS T cal (.cons a r) env h).W Q ↔ (evS T cal a env h).W (thenW (fun e1 h1 => (evS T cal r e1 h1).W Q) Q) := by
  simp only [evS, sSeq]
  cases evS T cal a env h with
  | ok f e1 h1 => cases f <;> exact Iff.rfl
  | exc _ _ _ _ => exact Iff.rfl
  | bad => exact Iff.rfl
theorem w_nil : (evS T cal .nil env h).W Q ↔ Q .nx env h := by simp only [evS, sNil]; exact Iff.rfl
theorem w_ret {e : E} : (evS T cal (.ret e) env h).W Q ↔ (evE T cal e env h).W fun d h1 => Q (.rt d) env h1 := by
  simp only [evS, sRet]
  cases evE T cal e env h <;> exact Iff.rfl
theorem w_expr {e : E} : (evS T cal (.expr e) env h).W Q ↔ (evE T cal e env h).W fun d h1 => Q .nx env h1 := by
  simp only [evS, sExpr]
  cases evE T cal e env h <;> exact Iff.rfl
theorem w_asg {t : Tg} {e : E} : (evS T cal (.asg t e) env h).W Q ↔ (evE T cal e env h).W fun d h1 => ∃ env1, setT t d env = some env1 ∧ Q .nx env1 h1 := by
  simp only [evS, sAsg, SW_of]
  refine ⟨fun w => w.mono fun d h1 q => ?_, fun w => w.mono fun d h1 q => ?_⟩
  · cases e : setT t d env with
    | none => rw [e] at q; exact q.elim
    | some env1 => rw [e] at q; exact ⟨env1, rfl, q⟩
  · obtain ⟨env1, e, q⟩ := q
    rw [e]
    exact q
theorem w_set {i : Nat} {e : E} : (evS T cal (.asg (.nm i) e) env h).W Q ↔ (evE T cal e env h).W fun d h1 => Q .nx (env.set i (some d)) h1 := by
  rw [w_asg]
  refine ⟨fun w => w.mono fun d h1 ⟨e1, q, z⟩ => ?_, fun w => w.mono fun d h1 q => ⟨_, rfl, q⟩⟩
  cases q
  exact z
theorem w_ife {c : E} {a b : S} : (evS T cal (.ife c a b) env h).W Q ↔ (evE T cal c env h).W fun d h1 => ∃ k, d = .bl k ∧ if k = true then (evS T cal a env h1).W Q else (evS T cal b env h1).W Q := by
  simp only [evS, sIf, SW_of, W_bind]
  refine ⟨fun w => w.mono fun d h1 q => ?_, fun w => w.mono fun d h1 ⟨k, e, q⟩ => ?_⟩
  · cases d with
    | bl k => refine ⟨k, rfl, ?_⟩; cases k <;> exact q
    | _ => exact q.elim
  · subst e
    cases k <;> exact q
theorem w_sub {o i v : E} : (evS T cal (.sub o i v) env h).W Q ↔ (evE T cal v env h).W fun d h1 => (evE T cal o env h1).W fun x h2 => (evE T cal i env h2).W fun y h3 => ∃ h4, sStore x y d h3 = some h4 ∧ Q .nx env h4 := by
  simp only [evS, sSub, SW_of]
  refine ⟨fun w => w.mono fun d h1 w => w.mono fun x h2 w => w.mono fun y h3 q => ?_, fun w => w.mono fun d h1 w => w.mono fun x h2 w => w.mono fun y h3 ⟨h4, e, q⟩ => ?_⟩
  · cases e : sStore x y d h3 with
    | none => rw [e] at q; exact q.elim
    | some h4 => rw [e] at q; exact ⟨h4, rfl, q⟩
  · rw [e]
    exact q
theorem w_for {t : Tg} {it : E} {b : S} : (evS T cal (.fora t it b) env h).W Q ↔ (evI T cal it env h).W fun q h1 => (forL q.2 t (evS T cal b) q.1 env h1).W Q := by simp only [evS, sFor, SW_of]
/-- what a body's end tells -/
def retW (Q : D → Hh → Prop) : Fl → Nv → Hh → Prop
  | .rt d, _, h => Q d h
  | .nx, _, h => Q .non h
  | .bk, _, _ => False
  | .ct, _, _ => False
/-- what the end of a loop's body tells: I goes on, Q is told behind the loop -/
def loopW (I : Nv → Hh → Prop) (Q : Fl → Nv → Hh → Prop) : Fl → Nv → Hh → Prop
  | .nx, env, h => I env h
  | .ct, env, h => I env h
  | .bk, env, h => Q .nx env h
  | .rt d, env, h => Q (.rt d) env h
theorem w_callK {F : Nat → Option Fd} {k f : Nat} {ds : List D} {fd : Fd} {Q : D → Hh → Prop} (hf : F f = some fd) (hl : ds.length = fd.np) (w : (evS T (callK T F k) fd.body (start0 fd ds) h).W (retW Q)) :
    (callK T F (k + 1) f ds h).W Q := by
  unfold callK
  rw [hf]
  simp only [hl, if_true]
  cases e : evS T (callK T F k) fd.body (start0 fd ds) h with
  | ok fl e1 h1 => rw [e] at w; cases fl <;> exact w
  | exc _ _ _ _ => rw [e] at w; exact w.elim
  | bad => rw [e] at w; exact w.elim
/-- a walk with an invariant -/
theorem w_forL {lk : Lk} {t : Tg} {f : FS} (I : Nat → Nv → Hh → Prop) : ∀ (xs : List D) (i : Nat) (env : Nv) (h : Hh), I i env h →
    (∀ j e h, I j e h → Chk lk h) →
    (∀ j d e h, xs[j]? = some d → I (i + j) e h → ∃ e1, setT t d e = some e1 ∧ (f e1 h).W (loopW (I (i + j + 1)) Q)) →
    (∀ e h, I (i + xs.length) e h → Q .nx e h) → (forL lk t f xs env h).W Q
  | [], i, env, h, hI, hc, hb, hq => by
    unfold forL
    rw [if_pos (hc _ _ _ hI)]
    exact hq env h hI
  | d :: r, i, env, h, hI, hc, hb, hq => by
    unfold forL
    rw [if_pos (hc _ _ _ hI)]
    obtain ⟨e1, es, w⟩ := hb 0 d env h rfl hI
    rw [es]
    dsimp only
    have rest : ∀ e2 h2, I (i + 1) e2 h2 → (forL lk t f r e2 h2).W Q := fun e2 h2 hI2 => by
      refine w_forL I r (i + 1) e2 h2 hI2 hc (fun j d' e h' hj hI' => ?_) (fun e h' hI' => ?_)
      · have := hb (j + 1) d' e h' (by simpa using hj) (by rw [← Nat.add_assoc, Nat.add_right_comm]; exact hI')
        rw [show i + 1 + j + 1 = i + (j + 1) + 1 by omega]
        exact this
      · exact hq e h' (by rw [show i + (d :: r).length = i + 1 + r.length by simp; omega]; exact hI')
    cases q : f e1 h with
    | ok fl e2 h2 =>
      rw [q] at w
      cases fl with
      | nx => exact rest e2 h2 w
      | ct => exact rest e2 h2 w
      | bk => exact w
      | rt d => exact w
    | exc _ _ _ _ => rw [q] at w; exact w.elim
    | bad => rw [q] at w; exact w.elim
end
/-- the heap has grown; what was there is as it was -/
def Gr (h h' : Hh) : Prop := h.length ≤ h'.length ∧ ∀ i, i < h.length → h'[i]? = h[i]?
theorem Gr.refl (h : Hh) : Gr h h := ⟨Nat.le_refl _, fun _ _ => rfl⟩
theorem Gr.trans {a b c : Hh} (x : Gr a b) (y : Gr b c) : Gr a c := ⟨Nat.le_trans x.1 y.1, fun i hi => (y.2 i (Nat.lt_of_lt_of_le hi x.1)).trans (x.2 i hi)⟩
theorem Gr.app (h t : Hh) : Gr h (h ++ t) := ⟨by simp, fun i hi => List.getElem?_append_left hi⟩
theorem Gr.push {h h' : Hh} (x : Gr h h') (t : Hh) : Gr h (h' ++ t) := x.trans (Gr.app h' t)
theorem Gr.set {h h' : Hh} (x : Gr h h') {p : Nat} {o : O} (hp : h.length ≤ p) : Gr h (h'.set p o) := ⟨by rw [List.length_set]; exact x.1, fun i hi => by rw [List.getElem?_set_ne (by omega)]; exact x.2 i hi⟩
theorem Gr.get {h h' : Hh} (x : Gr h h') {i : Nat} {o : O} (e : h[i]? = some o) : h'[i]? = some o := by
  have : i < h.length := (List.getElem?_eq_some_iff.mp e).1
  rw [x.2 i this]; exact e
theorem Gr.items {h h' : Hh} (x : Gr h h') {i : Nat} {xs : List D} (e : itemsOf h i = some xs) : itemsOf h' i = some xs := by
  unfold itemsOf at e ⊢
  cases q : h[i]? with
  | none => rw [q] at e; cases e
  | some o => rw [x.get q]; rw [q] at e; exact e
theorem getEnd (h : Hh) (o : O) : (h ++ [o])[h.length]? = some o := by simp
theorem itemsEnd (h : Hh) (xs : List D) : itemsOf (h ++ [.lst xs]) h.length = some xs := by unfold itemsOf; rw [getEnd]
end Ev

namespace Ev
open PySem PySem.Spec PyProof.Rows L2
section
variable {T : Nat → Option D} {cal : Nat → List D → Hh → R D} {env : Nv} {h : Hh} {Q : D → Hh → Prop} {QA : List D → Hh → Prop} {A : Type}
@[simp] theorem W_lift_some {a : A} {h : Hh} {Q : A → Hh → Prop} : (lift (some (a, h))).W Q ↔ Q a h := Iff.rfl
@[simp] theorem W_lift_none {Q : A → Hh → Prop} : (lift (none : Option (A × Hh))).W Q ↔ False := Iff.rfl
theorem W_fVar {i : Nat} : (fVar i env h).W Q ↔ ∃ d, env[i]? = some (some d) ∧ Q d h := by
  unfold fVar
  split
  · rename_i d e
    simp only [W_ok]
    exact ⟨fun q => ⟨d, e, q⟩, fun ⟨d', e', q⟩ => by rw [e] at e'; cases e'; exact q⟩
  · rename_i n
    exact ⟨fun q => q.elim, fun ⟨d, e, _⟩ => n d e⟩
@[simp] theorem W_var {i : Nat} : (evE T cal (.var i) env h).W Q ↔ ∃ d, env[i]? = some (some d) ∧ Q d h := by
  simp only [evE]
  exact W_fVar
@[simp] theorem W_gv {j : Nat} : (evE T cal (.gv j) env h).W Q ↔ ∃ d, T j = some d ∧ Q d h := by
  simp only [evE]
  cases e : T j with
  | none => exact ⟨fun q => q.elim, fun ⟨d, e, _⟩ => by cases e⟩
  | some d => exact ⟨fun q => ⟨d, rfl, q⟩, fun ⟨d', e', q⟩ => by cases e'; exact q⟩
@[simp] theorem W_int {i : Int} : (evE T cal (.int i) env h).W Q ↔ Q (.int i) h := by simp only [evE, fC, W_ok]
@[simp] theorem W_str {s : Str} : (evE T cal (.str s) env h).W Q ↔ Q (.str s) h := by simp only [evE, fC, W_ok]
@[simp] theorem W_bl {b : Bool} : (evE T cal (.bl b) env h).W Q ↔ Q (.bl b) h := by simp only [evE, fC, W_ok]
@[simp] theorem W_non : (evE T cal .non env h).W Q ↔ Q .non h := by simp only [evE, fC, W_ok]
@[simp] theorem W_yes : (evE T cal .yes env h).W Q ↔ Q (.bl true) h := by simp only [evE, fYes, W_ok]
@[simp] theorem W_bin {op : Operator} {a b : E} : (evE T cal (.bin op a b) env h).W Q ↔ (evE T cal a env h).W fun x h1 => (evE T cal b env h1).W fun y h2 => (lift (sBin op x y h2)).W Q := by simp only [evE, f2, W_bind]
@[simp] theorem W_cmp {op : CmpOp} {a b : E} : (evE T cal (.cmp op a b) env h).W Q ↔ (evE T cal a env h).W fun x h1 => (evE T cal b env h1).W fun y h2 => (lift (sCmp op x y h2)).W Q := by simp only [evE, f2, W_bind]
@[simp] theorem W_idx {a b : E} : (evE T cal (.idx a b) env h).W Q ↔ (evE T cal a env h).W fun x h1 => (evE T cal b env h1).W fun y h2 => (lift (sIdx x y h2)).W Q := by simp only [evE, f2, W_bind]
@[simp] theorem W_neg {a : E} : (evE T cal (.neg a) env h).W Q ↔ (evE T cal a env h).W fun x h1 => (lift (sNeg x h1)).W Q := by simp only [evE, f1, W_bind]
@[simp] theorem W_isi {a : E} {t : Tk} : (evE T cal (.isi a t) env h).W Q ↔ (evE T cal a env h).W fun x h1 => (lift (sIsi t x h1)).W Q := by simp only [evE, f1, W_bind]
@[simp] theorem W_one {a : E} : (evE T cal (.one a) env h).W Q ↔ (evE T cal a env h).W Q := by simp only [evE]
theorem W_asB {d : D} {P : Bool → Hh → Prop} : (asB d h).W P ↔ ∃ b, d = .bl b ∧ P b h := by
  cases d with
  | bl b => exact ⟨fun q => ⟨b, rfl, q⟩, fun ⟨b', e, q⟩ => by cases e; exact q⟩
  | _ => exact ⟨fun q => q.elim, fun ⟨b', e, q⟩ => by cases e⟩
@[simp] theorem W_not {a : E} : (evE T cal (.not a) env h).W Q ↔ (evE T cal a env h).W fun x h1 => ∃ b, x = .bl b ∧ Q (.bl (!b)) h1 := by simp only [evE, fNot, W_bind, W_asB, W_ok]
theorem W_ite {r s : R A} {c : Prop} [Decidable c] {Q : A → Hh → Prop} : (if c then r else s).W Q ↔ if c then r.W Q else s.W Q := by split <;> exact Iff.rfl
@[simp] theorem W_and {a r : E} : (evE T cal (.and a r) env h).W Q ↔ (evE T cal a env h).W fun x h1 => ∃ b, x = .bl b ∧ if b = true then (evE T cal r env h1).W Q else Q (.bl false) h1 := by simp only [evE, fAnd, W_bind, W_asB, W_ite, W_ok]
@[simp] theorem W_or {a r : E} : (evE T cal (.or a r) env h).W Q ↔ (evE T cal a env h).W fun x h1 => ∃ b, x = .bl b ∧ if b = true then Q (.bl true) h1 else (evE T cal r env h1).W Q := by simp only [evE, fOr, W_bind, W_asB, W_ite, W_ok]
@[simp] theorem W_ife {c a b : E} : (evE T cal (.ife c a b) env h).W Q ↔ (evE T cal c env h).W fun x h1 => ∃ k, x = .bl k ∧ if k = true then (evE T cal a env h1).W Q else (evE T cal b env h1).W Q := by simp only [evE, fIf, W_bind, W_asB, W_ite]
@[simp] theorem W_chain {o p : CmpOp} {a b c : E} : (evE T cal (.chain o p a b c) env h).W Q ↔ (evE T cal a env h).W fun x h1 => (evE T cal b env h1).W fun y h2 => (lift (sCmp o x y h2)).W fun z h3 => ∃ k, z = .bl k ∧
    if k = true then (evE T cal c env h3).W fun w h4 => (lift (sCmp p y w h4)).W Q else Q (.bl false) h3 := by simp only [evE, fChain, W_bind, W_asB, W_ite, W_ok]
@[simp] theorem W_call {f : Nat} {args : E} : (evE T cal (.call f args) env h).W Q ↔ (evA T cal args env h).W fun ds h1 => (cal f ds h1).W Q := by simp only [evE, W_bind]
@[simp] theorem W_blt {b : Bi} {args : E} : (evE T cal (.blt b args) env h).W Q ↔ (evA T cal args env h).W fun ds h1 => (lift (sB b ds h1)).W Q := by simp only [evE, fN, W_bind]
@[simp] theorem W_anil : (evA T cal .anil env h).W QA ↔ QA [] h := by simp only [evA, aNil, W_ok]
@[simp] theorem W_acons {a r : E} : (evA T cal (.acons a r) env h).W QA ↔ (evE T cal a env h).W fun x h1 => (evA T cal r env h1).W fun xs h2 => QA (x :: xs) h2 := by simp only [evA, aCons, W_bind, W_ok]
@[simp] theorem W_lst {es : E} : (evE T cal (.lst es) env h).W Q ↔ (evA T cal es env h).W fun xs h1 => xs.length ≤ sizeLine ∧ Q (.loc h1.length) (h1 ++ [.lst xs]) := by
  simp only [evE, fLst, W_bind, W_ite, W_ok, W_bad]
  refine ⟨fun w => w.mono fun a h1 q => ?_, fun w => w.mono fun a h1 q => by rw [if_pos q.1]; exact q.2⟩
  split at q
  · exact ⟨by assumption, q⟩
  · exact q.elim
@[simp] theorem W_tup {es : E} : (evE T cal (.tup es) env h).W Q ↔ (evA T cal es env h).W fun xs h1 => xs.length ≤ sizeLine ∧ Q (.tup xs) h1 := by
  simp only [evE, fTup, W_bind, W_ite, W_ok, W_bad]
  refine ⟨fun w => w.mono fun a h1 q => ?_, fun w => w.mono fun a h1 q => by rw [if_pos q.1]; exact q.2⟩
  split at q
  · exact ⟨by assumption, q⟩
  · exact q.elim
@[simp] theorem W_dct0 {es : E} : (evE T cal (.dct [] es) env h).W Q ↔ Q (.loc h.length) (h ++ [.dct []]) := by simp only [evE, fDct0, W_ok]
@[simp] theorem W_dct {k : Str} {ks : List Str} {es : E} : (evE T cal (.dct (k :: ks) es) env h).W Q ↔ (evA T cal es env h).W fun xs h1 => (xs.length = (k :: ks).length ∧ (k :: ks).length ≤ 15) ∧ Q (.loc h1.length) (h1 ++ [.dct (mergeD [] (((k :: ks).map Sum.inr).zip xs))]) := by
  simp only [evE, fDct, W_bind, W_ite, W_ok, W_bad]
  refine ⟨fun w => w.mono fun a h1 q => ?_, fun w => w.mono fun a h1 q => by rw [if_pos q.1]; exact q.2⟩
  split at q
  · exact ⟨by assumption, q⟩
  · exact q.elim
@[simp] theorem W_mth {m : Mn} {o args : E} : (evE T cal (.mth m o args) env h).W Q ↔ (evE T cal o env h).W fun x h1 => ∃ t, tkOf h1 x = some t ∧ (mId t m).isSome = true ∧ (evA T cal args env h1).W fun ds h2 => (lift (sM m t x ds h2)).W Q := by
  simp only [evE, fM, W_bind]
  refine ⟨fun w => w.mono fun x h1 q => ?_, fun w => w.mono fun x h1 ⟨t, e, i, q⟩ => ?_⟩
  · cases e : tkOf h1 x with
    | none => rw [e] at q; exact q.elim
    | some t =>
      rw [e] at q
      dsimp only at q
      rw [W_ite] at q
      split at q
      · exact ⟨t, rfl, by assumption, W_bind.mp q⟩
      · exact q.elim
  · rw [e]
    dsimp only
    rw [if_pos i, W_bind]
    exact q
@[simp] theorem W_onil {P : Option Int → Hh → Prop} : (evO T cal .onil env h).W P ↔ P none h := by simp only [evO, oNil, W_ok]
@[simp] theorem W_osome {a : E} {P : Option Int → Hh → Prop} : (evO T cal (.osome a) env h).W P ↔ (evE T cal a env h).W fun x h1 => ∃ i, x = .int i ∧ P (some i) h1 := by
  simp only [evO, oSome, W_bind]
  refine ⟨fun w => w.mono fun x h1 q => ?_, fun w => w.mono fun x h1 ⟨i, e, q⟩ => by subst e; exact q⟩
  cases x with
  | int i => exact ⟨i, rfl, q⟩
  | _ => exact q.elim
@[simp] theorem W_slc {o lo hi : E} : (evE T cal (.slc o lo hi) env h).W Q ↔ (evE T cal o env h).W fun x h1 => (evO T cal lo env h1).W fun l h2 => (evO T cal hi env h2).W fun u h3 => (lift (sSlc x l u h3)).W Q := by simp only [evE, fSlc, W_bind]
@[simp] theorem W_comp {vs : List Nat} {t : Tg} {it c e : E} : (evE T cal (.comp vs t it c e) env h).W Q ↔ (evI T cal it env h).W fun q h1 => q.1.length ≤ sizeLine ∧ (compL q.2 t (evE T cal c) (evE T cal e) q.1 (wipeE env vs) h1).W fun ys h2 => Q (.loc h2.length) (h2 ++ [.lst ys]) := by
  simp only [evE, fComp, W_bind]
  refine ⟨fun w => w.mono fun a h1 q => ?_, fun w => w.mono fun a h1 q => by rw [if_pos q.1, W_bind]; exact q.2⟩
  split at q
  · exact ⟨by assumption, by rw [W_bind] at q; exact q⟩
  · exact q.elim
@[simp] theorem W_iexp {e : E} {P : List D × Lk → Hh → Prop} : (evI T cal (.iexp e) env h).W P ↔ (evE T cal e env h).W fun x h1 => (match x with
  | .tup xs => R.ok (xs, []) h1
  | .str z => .ok (signs z, []) h1
  | .scr ns => .ok (ns.map .int, []) h1
  | .loc n => match itemsOf h1 n with
    | some xs => .ok (xs, [(n, xs)]) h1
    | none => .bad
  | _ => .bad).W P := by first | (simp only [evI, iExp, W_bind]; done) | (simp only [evI, iExp, W_bind]; exact Iff.rfl)
@[simp] theorem W_irng {e : E} {P : List D × Lk → Hh → Prop} : (evI T cal (.irng e) env h).W P ↔ (evA T cal e env h).W fun ds h1 => (match ds with
  | [.int j] => if -(2 ^ 62) ≤ j ∧ j < 2 ^ 62 then R.ok (rngD 0 j.toNat, []) h1 else .bad
  | [.int i, .int j] => if -(2 ^ 62) ≤ i ∧ i < 2 ^ 62 ∧ -(2 ^ 62) ≤ j ∧ j < 2 ^ 62 then .ok (rngD i (j - i).toNat, []) h1 else .bad
  | _ => .bad).W P := by first | (simp only [evI, iRng, W_bind]; done) | (simp only [evI, iRng, W_bind]; exact Iff.rfl)
@[simp] theorem W_ienum {e : E} {P : List D × Lk → Hh → Prop} : (evI T cal (.ienum e) env h).W P ↔ (evE T cal e env h).W fun x h1 => (match x with
  | .loc n => match itemsOf h1 n with
    | some xs => R.ok (enumD 0 xs, [(n, xs)]) h1
    | none => .bad
  | _ => .bad).W P := by first | (simp only [evI, iEnumL, W_bind]; done) | (simp only [evI, iEnumL, W_bind]; exact Iff.rfl)
theorem W_noExc {A : Type} {r : R A} {P : A → Hh → Prop} : (noExc r).W P ↔ r.W P := by cases r <;> exact Iff.rfl
/-- a comprehension, with what is told so far -/
theorem w_compL {lk : Lk} {t : Tg} {fc fe : FE} {env : Nv} (I : List D → Nat → Hh → Prop) : ∀ (xs acc : List D) (i : Nat) (h : Hh) (QA : List D → Hh → Prop), I acc i h → (∀ acc i h, I acc i h → Chk lk h) →
    (∀ j d acc h, xs[j]? = some d → I acc (i + j) h → ∃ e1, setT t d env = some e1 ∧ (fc e1 h).W fun cv h1 => ∃ b, cv = .bl b ∧ if b = true then (fe e1 h1).W fun y h2 => I (acc ++ [y]) (i + j + 1) h2 else I acc (i + j + 1) h1) →
    (∀ ys h, I (acc ++ ys) (i + xs.length) h → QA ys h) → (compL lk t fc fe xs env h).W QA
  | [], acc, i, h, QA, hI, hc, hb, hq => by
    unfold compL
    rw [if_pos (hc _ _ _ hI)]
    exact hq [] h (by simpa using hI)
  | d :: r, acc, i, h, QA, hI, hc, hb, hq => by
    unfold compL
    rw [if_pos (hc _ _ _ hI)]
    obtain ⟨e1, es, w⟩ := hb 0 d acc h rfl hI
    rw [es]
    dsimp only
    rw [W_bind, W_noExc]
    refine w.mono fun cv h1 ⟨b, e, w⟩ => ?_
    subst e
    rw [W_bind, W_asB]
    refine ⟨b, rfl, ?_⟩
    have next : (∀ j d acc h, r[j]? = some d → I acc (i + 1 + j) h → ∃ e1, setT t d env = some e1 ∧ (fc e1 h).W fun cv h1 => ∃ b, cv = .bl b ∧ if b = true then (fe e1 h1).W fun y h2 => I (acc ++ [y]) (i + 1 + j + 1) h2 else I acc (i + 1 + j + 1) h1) := fun j d' a2 h2 hj hI2 => by
      have := hb (j + 1) d' a2 h2 (by simpa using hj) (by rw [show i + (j + 1) = i + 1 + j by omega]; exact hI2)
      rw [show i + (j + 1) + 1 = i + 1 + j + 1 by omega] at this
      exact this
    rw [W_ite]
    by_cases hbt : b = true
    · rw [if_pos hbt] at w ⊢
      rw [W_bind, W_noExc]
      refine w.mono fun y h2 hI2 => ?_
      rw [W_bind]
      refine w_compL I r (acc ++ [y]) (i + 1) h2 (fun ys h4 => (R.ok (y :: ys) h4).W QA) hI2 hc next fun ys h3 hI3 => ?_
      exact hq (y :: ys) h3 (by rw [List.append_assoc] at hI3; rw [show i + (d :: r).length = i + 1 + r.length by simp; omega]; exact hI3)
    · rw [if_neg hbt] at w ⊢
      refine w_compL I r acc (i + 1) h1 QA w hc next fun ys h3 hI3 => ?_
      exact hq ys h3 (by rw [show i + (d :: r).length = i + 1 + r.length by simp; omega]; exact hI3)
/-- a comprehension that leaves the heap as it is -/
theorem w_compP {lk : Lk} {t : Tg} {fc fe : FE} {env : Nv} {xs : List D} (p : D → Bool) (g : D → D) (hc : Chk lk h)
    (hb : ∀ d ∈ xs, ∃ e1, setT t d env = some e1 ∧ ((fc e1 h).W fun cv h1 => cv = .bl (p d) ∧ h1 = h) ∧ (p d = true → (fe e1 h).W fun y h1 => y = g d ∧ h1 = h)) (hq : QA ((xs.filter p).map g) h) : (compL lk t fc fe xs env h).W QA := by
  refine w_compL (fun acc i h' => h' = h ∧ acc = ((xs.take i).filter p).map g) xs [] 0 h QA ⟨rfl, rfl⟩ (fun acc i h' q => by rw [q.1]; exact hc) (fun j d acc h' hj ⟨e, ea⟩ => ?_) fun ys h' ⟨e, ea⟩ => ?_
  · subst e
    obtain ⟨e1, es, w, w2⟩ := hb d (List.mem_of_getElem? hj)
    refine ⟨e1, es, w.mono fun cv h1 ⟨ec, eh⟩ => ⟨p d, ec, ?_⟩⟩
    subst eh
    rw [Nat.zero_add] at ea ⊢
    have et : xs.take (j + 1) = xs.take j ++ [d] := by rw [List.take_add_one, hj]; rfl
    by_cases hp : p d = true
    · rw [if_pos hp]
      refine (w2 hp).mono fun y h2 ⟨ey, eh⟩ => ⟨eh, ?_⟩
      rw [et, ea, ey, List.filter_append, List.map_append]
      simp [hp]
    · rw [if_neg hp]
      refine ⟨rfl, ?_⟩
      rw [et, ea, List.filter_append, List.map_append]
      simp [hp]
  · subst e
    rw [Nat.zero_add, List.take_length, List.nil_append] at ea
    rw [ea]
    exact hq
end
end Ev

namespace Ev.Tx
open PySem PySem.Spec PyProof.Rows L2 Ev
/-! ### the text -/
def topS (i : Nat) : Stmt := PySem.Challenge.pw_steadyhall_k01_words.main.body.getD i (.Pass ⟨0, 0, 0, 0⟩)
def b3 : S := .cons (.ret (.and (.isi (.var 0) .int) (.one (.not (.isi (.var 0) .bool)))))
 .nil
def d3 : Dn := { x := "is_whole", qual := "is_whole", st := topS 3, N := ["thing"], ps := ["thing"], fd := ⟨1, 1, b3⟩ }
def b4 : S := .cons (.ret (.and (.call 0 (.acons (.var 0) .anil)) (.one (.chain .LtE .LtE (.var 1) (.var 0) (.var 2)))))
 .nil
def d4 : Dn := { x := "is_among", qual := "is_among", st := topS 4, N := ["thing", "least", "most"], ps := ["thing", "least", "most"], fd := ⟨3, 3, b4⟩ }
def b5t1 : S := .cons (.ret (.blt .all (.acons (.comp [1] (.nm 1) (.iexp (.var 0)) .yes (.cmp .In (.var 1) (.gv 0))) .anil)))
 .nil
def b5 : S := .cons (.ife (.or (.not (.isi (.var 0) .str)) (.one (.not (.chain .LtE .LtE (.int 1) (.blt .len (.acons (.var 0) .anil)) (.gv 1))))) (.cons (.ret (.bl false))
 .nil) .nil)
 b5t1
def d5 : Dn := { x := "is_name", qual := "is_name", st := topS 5, N := ["thing", "sign"], ps := ["thing"], fd := ⟨1, 2, b5⟩ }
def b6t1 : S := .cons (.ret (.mth .split (.var 0) (.acons (.str " ") .anil)))
 .nil
def b6 : S := .cons (.ife (.or (.not (.isi (.var 0) .str)) (.one (.cmp .In (.str "") (.mth .split (.var 0) (.acons (.str " ") .anil))))) (.cons (.ret .non)
 .nil) .nil)
 b6t1
def d6 : Dn := { x := "words_of", qual := "words_of", st := topS 6, N := ["row"], ps := ["row"], fd := ⟨1, 1, b6⟩ }
def b8t1 : S := .cons (.ret (.bin .Mod (.bin .Mult (.bin .Mod (.bin .Mult (.var 0) (.var 0)) (.int 1000000007)) (.int 48271)) (.int 2147483647)))
 .nil
def b8 : S := .cons (.asg (.nm 0) (.bin .Add (.bin .Add (.bin .Mod (.var 0) (.int 1000000007)) (.bin .Mult (.int 7919) (.var 1))) (.int 13)))
 b8t1
def d8 : Dn := { x := "_law_mixed", qual := "_law_mixed", st := topS 8, N := ["_law_cell", "_law_k"], ps := ["_law_cell", "_law_k"], fd := ⟨2, 2, b8⟩ }
def b9 : S := .cons (.ret (.dct ["left", "seed", "turns"] (.acons (.ife (.cmp .GtE (.var 0) (.bin .Pow (.int 10) (.int 18))) (.var 0) (.int 0)) (.acons (.call 4 (.acons (.var 0) (.acons (.var 1) .anil))) (.acons (.var 1) .anil)))))
 .nil
def d9 : Dn := { x := "_law_draw", qual := "_law_draw", st := topS 9, N := ["_law_cell", "_law_k"], ps := ["_law_cell", "_law_k"], fd := ⟨2, 2, b9⟩ }
def b10t3 : S := .cons (.ret (.var 2))
 .nil
def b10t2 : S := .cons (.sub (.var 0) (.str "left") (.bin .FloorDiv (.idx (.var 0) (.str "left")) (.var 1)))
 b10t3
def b10t1 : S := .cons (.asg (.nm 2) (.bin .Mod (.idx (.var 0) (.str "left")) (.var 1)))
 b10t2
def b10l0 : S := .cons (.sub (.var 0) (.str "left") (.bin .Add (.bin .Mult (.idx (.var 0) (.str "left")) (.int 2147483647)) (.call 4 (.acons (.idx (.var 0) (.str "seed")) (.acons (.bin .Add (.bin .Mult (.int 4) (.idx (.var 0) (.str "turns"))) (.var 3)) .anil)))))
 .nil
def b10 : S := .cons (.ife (.cmp .Eq (.idx (.var 0) (.str "left")) (.int 0)) (.cons (.sub (.var 0) (.str "turns") (.bin .Add (.idx (.var 0) (.str "turns")) (.int 1)))
 (.cons (.fora (.nm 3) (.irng (.acons (.int 4) .anil)) b10l0)
 .nil)) .nil)
 b10t1
def d10 : Dn := { x := "_law_digit", qual := "_law_digit", st := topS 10, N := ["_law_state", "_law_many", "_law_found", "_law_j"], ps := ["_law_state", "_law_many"], fd := ⟨2, 4, b10⟩ }
def b11t5 : S := .cons (.ret (.bl true))
 .nil
def b11l0t2 : S := .cons (.ife (.cmp .IsNot (.var 5) .non) (.cons (.expr (.mth .append (.var 5) (.acons (.str "x") .anil)))
 .nil) .nil)
 .nil
def b11l0t1 : S := .cons (.ife (.or (.cmp .NotEq (.var 5) (.ife (.cmp .In (.str "") (.var 3)) .non (.var 3))) (.one (.and (.cmp .IsNot (.var 5) .non) (.one (.not (.isi (.var 5) .list)))))) (.cons (.ret (.bl false))
 .nil) .nil)
 b11l0t2
def b11l0 : S := .cons (.asg (.nm 5) (.call 3 (.acons (.var 0) .anil)))
 b11l0t1
def b11t4 : S := .cons (.fora (.nm 4) (.irng (.acons (.int 2) .anil)) b11l0)
 b11t5
def b11t3 : S := .cons (.asg (.nm 3) (.mth .split (.var 0) (.acons (.str " ") .anil)))
 b11t4
def b11t2 : S := .cons (.ife (.cmp .NotEq (.blt .repr (.acons (.lst (.acons (.call 2 (.acons (.var 0) .anil)) (.acons (.call 0 (.acons (.var 0) .anil)) (.acons (.call 1 (.acons (.var 0) (.acons (.int 0) (.acons (.int 9) .anil)))) .anil)))) .anil)) (.blt .repr (.acons (.var 2) .anil))) (.cons (.ret (.bl false))
 .nil) .nil)
 b11t3
def b11t1 : S := .cons (.asg (.nm 2) (.lst (.acons (.and (.chain .Lt .Lt (.int 0) (.blt .len (.acons (.var 0) .anil)) (.int 9)) (.one (.cmp .Eq (.var 1) (.lst .anil)))) (.acons (.bl false) (.acons (.bl false) .anil)))))
 b11t2
def b11 : S := .cons (.asg (.nm 1) (.comp [6] (.nm 6) (.iexp (.var 0)) (.cmp .NotIn (.var 6) (.str "abcdefghijklmnopqrstuvwxyz")) (.var 6)))
 b11t1
def d11 : Dn := { x := "_law_word_right", qual := "_law_word_right", st := topS 11, N := ["_law_word", "_law_others", "_law_due", "_law_parts", "_law_again", "_law_told", "_law_sign"], ps := ["_law_word"], fd := ⟨1, 7, b11⟩ }
def b12t6 : S := .cons (.ret (.and (.cmp .Eq (.call 3 (.acons (.var 4) .anil)) (.bin .Mult (.lst (.acons (.str "ab") .anil)) (.int 6000))) (.and (.cmp .Is (.call 3 (.acons (.bin .Add (.var 4) (.str " ")) .anil)) .non) (.one (.cmp .Is (.call 2 (.acons (.bin .Mult (.str "a") (.int 5000)) .anil)) (.bl false))))))
 .nil
def b12t5 : S := .cons (.asg (.nm 4) (.mth .join (.str " ") (.acons (.bin .Mult (.lst (.acons (.str "ab") .anil)) (.int 6000)) .anil)))
 b12t6
def b12t4 : S := .cons (.ife (.cmp .NotEq (.blt .repr (.acons (.var 3) .anil)) (.str "[True, True, True, False]")) (.cons (.ret (.bl false))
 .nil) .nil)
 b12t5
def b12t3 : S := .cons (.asg (.nm 3) (.lst (.acons (.call 0 (.acons (.var 2) .anil)) (.acons (.call 0 (.acons (.bin .Sub (.int 0) (.var 2)) .anil)) (.acons (.call 1 (.acons (.var 2) (.acons (.int 0) (.acons (.var 2) .anil)))) (.acons (.call 1 (.acons (.var 2) (.acons (.int 0) (.acons (.bin .Sub (.var 2) (.int 1)) .anil)))) .anil))))))
 b12t4
def b12t2 : S := .cons (.asg (.nm 2) (.bin .Add (.bin .Pow (.int 10) (.int 40)) (.blt .abs (.acons (.blt .sum (.acons (.var 0) .anil)) .anil))))
 b12t3
def b12l0t10 : S := .cons (.ife (.cmp .NotEq (.blt .repr (.acons (.bin .Add (.var 3) (.lst (.acons (.call 1 (.acons (.var 13) (.acons (.bin .Sub (.var 13) (.int 2)) (.acons (.bin .Sub (.var 13) (.int 1)) .anil)))) (.acons (.call 3 (.acons (.var 13) .anil)) .anil)))) .anil)) (.str "[True, True, False, False, False, None]")) (.cons (.ret (.bl false))
 .nil) .nil)
 .nil
def b12l0t9 : S := .cons (.asg (.nm 3) (.lst (.acons (.call 0 (.acons (.var 13) .anil)) (.acons (.call 1 (.acons (.var 13) (.acons (.var 13) (.acons (.var 13) .anil)))) (.acons (.call 1 (.acons (.var 13) (.acons (.bin .Add (.var 13) (.int 1)) (.acons (.bin .Add (.var 13) (.int 2)) .anil)))) (.acons (.call 2 (.acons (.var 13) .anil)) .anil))))))
 b12l0t10
def b12l0t8 : S := .cons (.asg (.nm 13) (.bin .Sub (.call 6 (.acons (.var 7) (.acons (.int 1000) .anil))) (.int 400)))
 b12l0t9
def b12l0t7 : S := .cons (.ife (.cmp .NotEq (.blt .repr (.acons (.lst (.acons (.call 2 (.acons (.var 12) .anil)) (.acons (.call 3 (.acons (.var 12) .anil)) (.acons (.call 0 (.acons (.var 12) .anil)) (.acons (.call 1 (.acons (.var 12) (.acons (.int 0) (.acons (.int 1) .anil)))) .anil))))) .anil)) (.str "[False, None, False, False]")) (.cons (.ret (.bl false))
 .nil) .nil)
 b12l0t8
def b12l0t6 : S := .cons (.asg (.nm 12) (.idx (.lst (.acons .non (.acons (.bl true) (.acons (.lst .anil) (.acons (.lst (.acons (.str "a") .anil)) (.acons (.dct [] .anil) (.acons (.tup (.acons (.str "a") .anil)) (.acons (.bl false) .anil)))))))) (.call 6 (.acons (.var 7) (.acons (.int 7) .anil)))))
 b12l0t7
def b12l0t5 : S := .cons (.ife (.cmp .NotEq (.comp [15] (.nm 15) (.iexp (.bin .Add (.var 11) (.lst (.acons (.str "") (.acons (.bin .Add (.bin .Add (.str "ab") (.var 10)) (.str "c")) (.acons (.bin .Add (.bin .Add (.var 9) (.str " ")) (.var 9)) .anil)))))) (.not (.call 7 (.acons (.var 15) .anil))) (.var 15)) (.lst .anil)) (.cons (.ret (.bl false))
 .nil) .nil)
 b12l0t6
def b12l0t4 : S := .cons (.asg (.nm 11) (.lst (.acons (.var 9) (.acons (.bin .Add (.bin .Add (.var 9) (.str "  ")) (.var 9)) (.acons (.bin .Add (.str " ") (.var 9)) (.acons (.bin .Add (.var 9) (.str " ")) (.acons (.mth .upper (.var 9) .anil) (.acons (.var 10) (.acons (.bin .Add (.var 10) (.slc (.var 9) .onil (.osome (.int 3)))) (.acons (.bin .Add (.slc (.var 9) .onil (.osome (.int 3))) (.var 10)) .anil))))))))))
 b12l0t5
def b12l0t3 : S := .cons (.asg (.nm 10) (.idx (.var 1) (.call 6 (.acons (.var 7) (.acons (.blt .len (.acons (.var 1) .anil)) .anil)))))
 b12l0t4
def b12l0t2 : S := .cons (.asg (.nm 9) (.mth .join (.str "") (.acons (.comp [14] (.nm 14) (.irng (.acons (.call 6 (.acons (.var 7) (.acons (.int 11) .anil))) .anil)) .yes (.idx (.var 8) (.call 6 (.acons (.var 7) (.acons (.blt .len (.acons (.var 8) .anil)) .anil))))) .anil)))
 b12l0t3
def b12l0t1 : S := .cons (.asg (.nm 8) (.idx (.lst (.acons (.str "abcdefghijklmnopqrstuvwxyz") (.acons (.str "0123456789") (.acons (.str "a1 -") (.acons (.var 1) .anil))))) (.call 6 (.acons (.var 7) (.acons (.int 4) .anil)))))
 b12l0t2
def b12l0 : S := .cons (.asg (.nm 7) (.call 5 (.acons (.var 6) (.acons (.var 5) .anil))))
 b12l0t1
def b12t1 : S := .cons (.fora (.tp (.tcons (.nm 5) (.tcons (.nm 6) .tnil))) (.ienum (.bin .Add (.slc (.var 0) .onil (.osome (.int 12))) (.lst (.acons (.blt .sum (.acons (.var 0) .anil)) .anil)))) b12l0)
 b12t2
def b12 : S := .cons (.asg (.nm 1) (.str "!\"#$&'()*+,-./0123456789:;<=>?@ABCDEFGHIJKLMNOPQRSTUVWXYZ[\\]^_`abcdefghijklmnopqrstuvwxyz{|}~ \n"))
 b12t1
def d12 : Dn := { x := "law", qual := "law", st := topS 12, N := ["_law_script", "_law_every", "_law_great", "_law_told", "_law_row", "_law_k", "_law_cell", "_law_state", "_law_signs", "_law_word", "_law_sign", "_law_some", "_law_odd", "_law_own", "_law_j", "_law_one"], ps := ["_law_script"], fd := ⟨1, 16, b12⟩ }
def gn : List Str := ["LETTERS", "MOST_LETTERS"]
def gT (j : Nat) : Option D := match j with
  | 0 => some (.str "abcdefghijklmnopqrstuvwxyz")
  | 1 => some (.int 8)
  | _ => none
def ds : List Dn := [d3, d4, d5, d6, d8, d9, d10, d11, d12]
def fnn : List Str := ["is_whole", "is_among", "is_name", "words_of", "_law_mixed", "_law_draw", "_law_digit", "_law_word_right", "law"]
theorem ok3 : Dn.ok gn fnn d3 = true := by decide +kernel
theorem ok4 : Dn.ok gn fnn d4 = true := by decide +kernel
theorem ok5 : Dn.ok gn fnn d5 = true := by decide +kernel
theorem ok6 : Dn.ok gn fnn d6 = true := by decide +kernel
theorem ok8 : Dn.ok gn fnn d8 = true := by decide +kernel
theorem ok9 : Dn.ok gn fnn d9 = true := by decide +kernel
theorem ok10 : Dn.ok gn fnn d10 = true := by decide +kernel
theorem ok11 : Dn.ok gn fnn d11 = true := by decide +kernel
theorem ok12 : Dn.ok gn fnn d12 = true := by decide +kernel
end Ev.Tx

namespace Ev.Tx
open PySem PySem.Spec PyProof.Rows L2 Ev
noncomputable abbrev cal (k : Nat) := callK gT (fdOf ds) k
variable {h : Hh} {k : Nat}
def whB (t : Tk) : Bool := isiK t .int && !isiK t .bool
theorem r_whole {d : D} {t : Tk} (ht : tkOf h d = some t) : (cal (k + 1) 0 [d] h).W fun r h1 => r = .bl (whB t) ∧ h1 = h := by
  refine w_callK (fd := d3.fd) rfl rfl ?_
  show (evS gT (cal k) b3 (start0 d3.fd [d]) h).W _
  unfold b3
  simp [w_cons, w_ret, start0, thenW, retW, d3, sIsi, ht, whB]
  cases isiK t .int <;> simp
def amB (a b : Int) : D → Bool
  | .int i => decide (a ≤ i) && decide (i ≤ b)
  | _ => false
theorem r_among {d : D} {t : Tk} {a b : Int} (ht : tkOf h d = some t) : (cal (k + 2) 1 [d, .int a, .int b] h).W fun r h1 => h1 = h ∧ r = .bl (amB a b d) := by
  refine w_callK (fd := d4.fd) rfl rfl ?_
  show (evS gT (cal (k + 1)) b4 (start0 d4.fd [d, .int a, .int b]) h).W _
  unfold b4
  simp [w_cons, w_ret, start0, thenW, retW, d4]
  refine (r_whole ht).mono fun r h1 ⟨e1, e2⟩ => ?_
  subst e1 e2
  cases d with
  | int i => cases ht; by_cases q : a ≤ i <;> simp [whB, isiK, sCmp, bRes, leB, q, amB]
  | bl b => cases ht; simp [whB, isiK, amB]
  | non => cases ht; simp [whB, isiK, amB]
  | str b => cases ht; simp [whB, isiK, amB]
  | tup b => cases ht; simp [whB, isiK, amB]
  | scr b => cases ht; simp [whB, isiK, amB]
  | loc n =>
    have : t = .list ∨ t = .dict := by
      simp only [tkOf] at ht
      split at ht <;> cases ht <;> simp
    rcases this with rfl | rfl <;> simp [whB, isiK, amB]
def lett : Str := "abcdefghijklmnopqrstuvwxyz"
def letD : D → Bool
  | .str z => !(Builtin.Str.occurrences lett z 0 lett.length 1).isEmpty
  | _ => false
def nmB (s : Str) : Bool := (decide (1 ≤ s.length) && decide (s.length ≤ 8)) && (signs s).all letD
theorem mapO_bl (f : D → Bool) : ∀ xs : List D, mapO isBlD (xs.map fun d => .bl (f d)) = some (xs.map f)
  | [] => rfl
  | d :: r => by
    rw [List.map_cons, List.map_cons]
    unfold mapO
    rw [mapO_bl f r]
    rfl
theorem len_signs (s : Str) : (signs s).length = s.length := by unfold signs; rw [List.length_map]; rfl
theorem mem_signs {s : Str} {d : D} (hd : d ∈ signs s) : ∃ c, c ∈ s.cps.toList ∧ d = .str ⟨#[c]⟩ := by
  obtain ⟨c, hc, e⟩ := List.mem_map.mp hd
  exact ⟨c, hc, e.symm⟩
theorem chk_nil (h : Hh) : Chk [] h := fun q hq => nomatch hq
theorem r_name {s : Str} (hs : s.length ≤ sizeLine) : (cal (k + 1) 2 [.str s] h).W fun r h1 => r = .bl (nmB s) ∧ Gr h h1 := by
  refine w_callK (fd := d5.fd) rfl rfl ?_
  show (evS gT (cal k) b5 (start0 d5.fd [.str s]) h).W _
  unfold b5 b5t1
  simp [w_cons, w_ret, w_ife, w_nil, start0, thenW, retW, d5, sIsi, tkOf, isiK, sB, hs, sCmp, bRes, leB, gT]
  by_cases h1 : (s.length : Int) < 1
  · refine .inl ⟨h1, ?_, Gr.refl h⟩
    unfold nmB
    rw [decide_eq_false (by omega : ¬ 1 ≤ s.length)]
    rfl
  · refine .inr ⟨by omega, ?_⟩
    by_cases h2 : (8 : Int) < s.length
    · refine .inl ⟨h2, ?_, Gr.refl h⟩
      unfold nmB
      rw [decide_eq_false (by omega : ¬ s.length ≤ 8), Bool.and_false]
      rfl
    · refine .inr ⟨by omega, by rw [len_signs]; exact hs, ?_⟩
      refine w_compP (fun _ => true) (fun d => .bl (letD d)) (chk_nil h) (fun d hd => ?_) ?_
      · obtain ⟨c, hc, rfl⟩ := mem_signs hd
        refine ⟨_, rfl, by simp, fun _ => ?_⟩
        simp [wipeE, sCmp, bRes, inB, gT, letD, lett]
      · rw [List.filter_eq_self.mpr fun _ _ => rfl]
        simp only [itemsEnd, Option.bind_some, Function.comp]
        rw [mapO_bl]
        simp [nmB, decide_eq_true (by omega : 1 ≤ s.length), decide_eq_true (by omega : s.length ≤ 8)]
        exact Gr.app h _
theorem r_name0 {d : D} {t : Tk} (ht : tkOf h d = some t) (hn : t ≠ .str) : (cal (k + 1) 2 [d] h).W fun r h1 => r = .bl false ∧ h1 = h := by
  refine w_callK (fd := d5.fd) rfl rfl ?_
  show (evS gT (cal k) b5 (start0 d5.fd [d]) h).W _
  unfold b5 b5t1
  have : isiK t .str = false := by cases t <;> first | rfl | exact absurd rfl hn
  simp [w_cons, w_ret, w_ife, w_nil, start0, thenW, retW, d5, sIsi, ht, this]
def parts (s : Str) : List D := (Txt.split s " ").map .str
def gapB (s : Str) : Bool := (parts s).any fun y => eqF y (.str "")
theorem flat_parts (s : Str) : ((flatD (.str "")) && (parts s).all flatD) = true := by
  simp [flatD, parts]
theorem sM_split {s : Str} (hs : s.length + 2 ≤ sizeLine) (h : Hh) : sM .split .str (.str s) [.str (Str.ofString " ")] h = some (.loc h.length, h ++ [.lst (parts s)]) := by
  simp only [sM]
  rw [if_pos ⟨by decide +kernel, hs⟩]
  rfl
theorem inGap (s : Str) (h : Hh) : inB (.str (Str.ofString "")) (.loc h.length) (h ++ [.lst (parts s)]) = some (gapB s) := by
  simp only [inB, getEnd]
  unfold inD
  rw [if_pos (flat_parts s)]
  rfl
theorem r_words {s : Str} (hs : s.length + 2 ≤ sizeLine) : (cal (k + 1) 3 [.str s] h).W fun r h1 => Gr h h1 ∧ if gapB s = true then r = .non else ∃ n, r = .loc n ∧ h.length ≤ n ∧ h1[n]? = some (.lst (parts s)) := by
  refine w_callK (fd := d6.fd) rfl rfl ?_
  show (evS gT (cal k) b6 (start0 d6.fd [.str s]) h).W _
  unfold b6 b6t1
  simp [w_cons, w_ret, w_ife, w_nil, start0, thenW, retW, d6, sIsi, tkOf, isiK, mId, sM_split hs, sCmp, bRes, inGap]
  cases hg : gapB s with
  | true => simp [Gr.app]
  | false =>
    simp
    exact Gr.app h _
theorem r_words0 {d : D} {t : Tk} (ht : tkOf h d = some t) (hn : t ≠ .str) : (cal (k + 1) 3 [d] h).W fun r h1 => r = .non ∧ h1 = h := by
  refine w_callK (fd := d6.fd) rfl rfl ?_
  show (evS gT (cal k) b6 (start0 d6.fd [d]) h).W _
  unfold b6 b6t1
  have : isiK t .str = false := by cases t <;> first | rfl | exact absurd rfl hn
  simp [w_cons, w_ret, w_ife, w_nil, start0, thenW, retW, d6, sIsi, ht, this]
theorem r_mixed {a b : Int} (hb : 0 ≤ b ∧ b ≤ 2 ^ 40) : (cal (k + 1) 4 [.int a, .int b] h).W fun r h1 => (∃ x, r = .int x) ∧ h1 = h := by
  refine w_callK (fd := d8.fd) rfl rfl ?_
  show (evS gT (cal k) b8 (start0 d8.fd [.int a, .int b]) h).W _
  unfold b8 b8t1
  have m0 := Int.emod_nonneg a (by decide : (1000000007 : Int) ≠ 0)
  have m1 := Int.emod_lt_of_pos a (by decide : (0 : Int) < 1000000007)
  simp [w_cons, w_ret, w_ife, w_nil, w_set, start0, thenW, retW, d8, sBin]
  rw [if_pos (by omega)]
  simp
def dst (l s t : Int) : List (Key × D) := [(.inr "left", .int l), (.inr "seed", .int s), (.inr "turns", .int t)]
theorem nkLS : ((Sum.inr (Str.ofString "left") : Key) = Sum.inr (Str.ofString "seed")) ↔ False := by decide +kernel
theorem nkLT : ((Sum.inr (Str.ofString "left") : Key) = Sum.inr (Str.ofString "turns")) ↔ False := by decide +kernel
theorem nkSL : ((Sum.inr (Str.ofString "seed") : Key) = Sum.inr (Str.ofString "left")) ↔ False := by decide +kernel
theorem nkST : ((Sum.inr (Str.ofString "seed") : Key) = Sum.inr (Str.ofString "turns")) ↔ False := by decide +kernel
theorem nkTL : ((Sum.inr (Str.ofString "turns") : Key) = Sum.inr (Str.ofString "left")) ↔ False := by decide +kernel
theorem nkTS : ((Sum.inr (Str.ofString "turns") : Key) = Sum.inr (Str.ofString "seed")) ↔ False := by decide +kernel
theorem merge_st (l s t : Int) : mergeD [] [(Sum.inr (Str.ofString "left"), D.int l), (Sum.inr (Str.ofString "seed"), D.int s), (Sum.inr (Str.ofString "turns"), D.int t)] = dst l s t := by
  simp only [mergeD, List.foldl_cons, List.foldl_nil, putD, List.any_nil, List.nil_append, List.any_cons, List.cons_append, nkLS, nkLT, nkST, decide_false, Bool.or_false, Bool.false_eq_true, if_false]
  rfl
theorem val_left (l s t : Int) : valD (dst l s t) (Sum.inr (Str.ofString "left")) = some (.int l) := by simp [valD, dst]
theorem val_seed (l s t : Int) : valD (dst l s t) (Sum.inr (Str.ofString "seed")) = some (.int s) := by simp only [valD, dst, List.find?_cons, nkLS, decide_false, decide_true]; rfl
theorem val_turns (l s t : Int) : valD (dst l s t) (Sum.inr (Str.ofString "turns")) = some (.int t) := by simp only [valD, dst, List.find?_cons, nkLT, nkST, decide_false, decide_true]; rfl
theorem put_left (l s t l2 : Int) : putD (dst l s t) (Sum.inr (Str.ofString "left")) (.int l2) = dst l2 s t := by
  simp only [putD, dst, List.any_cons, List.any_nil, decide_true, Bool.true_or, if_true, List.map_cons, List.map_nil, nkSL, nkTL, if_false]
theorem put_turns (l s t t2 : Int) : putD (dst l s t) (Sum.inr (Str.ofString "turns")) (.int t2) = dst l s t2 := by
  simp only [putD, dst, List.any_cons, List.any_nil, nkLT, nkST, decide_false, Bool.false_or, decide_true, Bool.true_or, if_true, List.map_cons, List.map_nil, if_false]
theorem r_draw {a b : Int} (hb : 0 ≤ b ∧ b ≤ 2 ^ 40) : (cal (k + 2) 5 [.int a, .int b] h).W fun r h1 => ∃ l s, r = .loc h.length ∧ h1 = h ++ [.dct (dst l s b)] := by
  refine w_callK (fd := d9.fd) rfl rfl ?_
  show (evS gT (cal (k + 1)) b9 (start0 d9.fd [.int a, .int b]) h).W _
  unfold b9
  simp [w_cons, w_ret, w_ife, w_nil, w_set, start0, thenW, retW, d9, sBin, sCmp, bRes, leB]
  by_cases ha : a < 1000000000000000000
  · refine .inl ⟨ha, (r_mixed hb).mono fun r h1 ⟨⟨x, e⟩, eh⟩ => ?_⟩
    subst e eh
    exact ⟨rfl, rfl, 0, x, merge_st 0 x b⟩
  · refine .inr ⟨by omega, (r_mixed hb).mono fun r h1 ⟨⟨x, e⟩, eh⟩ => ?_⟩
    subst e eh
    exact ⟨rfl, rfl, a, x, merge_st a x b⟩
/-- the state of a draw lies there -/
def Sta (h : Hh) (p : Nat) (B : Int) : Prop := ∃ l s t, h[p]? = some (.dct (dst l s t)) ∧ 0 ≤ t ∧ t ≤ B
theorem Sta.gr {h h1 : Hh} {p : Nat} {B : Int} (x : Sta h p B) (g : Gr h h1) : Sta h1 p B := by
  obtain ⟨l, s, t, e, q⟩ := x
  exact ⟨l, s, t, g.get e, q⟩
theorem Sta.mono {h : Hh} {p : Nat} {B C : Int} (x : Sta h p B) (q : B ≤ C) : Sta h p C := by
  obtain ⟨l, s, t, e, q1, q2⟩ := x
  exact ⟨l, s, t, e, q1, by omega⟩
theorem dct_is {h : Hh} {p : Nat} {o : O} (e : h[p]? = some o) (n : O) : (h.set p n)[p]? = some n := by
  rw [List.getElem?_set_self (List.getElem?_eq_some_iff.mp e).1]
theorem set_same {h : Hh} {p : Nat} {o : O} (e : h[p]? = some o) : h.set p o = h := by
  obtain ⟨hl, e⟩ := List.getElem?_eq_some_iff.mp e
  rw [← e]
  exact List.set_getElem_self hl
theorem len_dst (l s t : Int) : (dst l s t).length < sizeLine := by
  show 3 < sizeLine
  decide
def digQ (h : Hh) (p : Nat) (m B : Int) (r : D) (h1 : Hh) : Prop := (∃ x, r = .int x ∧ 0 ≤ x ∧ x < m) ∧ ∃ kvs, h1 = h.set p (.dct kvs) ∧ Sta h1 p (B + 1)
theorem mem_rng {n j : Nat} {d : D} (e : (rngD 0 n)[j]? = some d) : j < n ∧ d = .int j := by
  unfold rngD at e
  rw [List.getElem?_map] at e
  by_cases hj : j < n
  · rw [List.getElem?_range hj] at e
    cases e
    exact ⟨hj, by simp⟩
  · rw [List.getElem?_eq_none (by simp; omega)] at e
    cases e
theorem r_digit {p : Nat} {m B : Int} (hB : B < 2 ^ 30) (hm : 0 < m ∧ m < 2 ^ 20) (hs : Sta h p B) : (cal (k + 2) 6 [.loc p, .int m] h).W (digQ h p m B) := by
  obtain ⟨l, s, t, e, t0, t1⟩ := hs
  refine w_callK (fd := d10.fd) rfl rfl ?_
  show (evS gT (cal (k + 1)) b10 (start0 d10.fd [.loc p, .int m]) h).W _
  have fin : ∀ (l t : Int) (h1 : Hh) (x : Option D), 0 ≤ t ∧ t ≤ B + 1 → h1 = h.set p (.dct (dst l s t)) → (evS gT (cal (k + 1)) b10t1 [some (.loc p), some (.int m), none, x] h1).W (retW (digQ h p m B)) := by
    intro l t h1 x ht eh
    have e1 : h1[p]? = some (.dct (dst l s t)) := by rw [eh]; exact dct_is e _
    have q1 := Int.emod_nonneg l (by omega : m ≠ 0)
    have q2 := Int.emod_lt_of_pos l hm.1
    have e2 := dct_is e1 (.dct (dst (l / m) s t))
    unfold b10t1 b10t2 b10t3
    simp [w_cons, w_ret, w_ife, w_nil, w_set, w_sub, thenW, retW, sIdx, e1, keyOf, val_left, sBin, hm.1, (by omega : m < 1073741824), sStore, put_left]
    refine ⟨_, ⟨by simp [dst, sizeLine], rfl⟩, ⟨_, rfl, q1, q2⟩, dst (l / m) s t, ?_, l / m, s, t, e2, ht.1, ht.2⟩
    rw [eh, List.set_set]
  unfold b10
  rw [w_cons, w_ife]
  simp [start0, d10, sIdx, e, keyOf, val_left, sCmp, eqD, scalD, eqF, bRes]
  by_cases hl : l = 0
  · refine .inr ⟨hl, ?_⟩
    have e1 := dct_is e (.dct (dst l s (t + 1)))
    simp [w_cons, w_sub, sIdx, e, keyOf, val_turns, sBin, sStore, put_turns, len_dst, thenW, w_for]
    refine w_forL (fun _ env h' => ∃ l x, env = [some (.loc p), some (.int m), none, x] ∧ h' = h.set p (.dct (dst l s (t + 1)))) _ 0 _ _ ⟨l, none, rfl, rfl⟩ (fun _ _ h' _ => chk_nil h') (fun j d e' h' hj hI => ?_) (fun e' h' hI => ?_)
    · obtain ⟨l, x, rfl, rfl⟩ := hI
      obtain ⟨hj4, rfl⟩ := mem_rng (n := 4) hj
      have e2 := dct_is e (.dct (dst l s (t + 1)))
      refine ⟨_, rfl, ?_⟩
      unfold b10l0
      simp [w_cons, w_sub, w_nil, sIdx, e2, keyOf, val_left, val_seed, val_turns, sBin, thenW, loopW]
      refine (r_mixed (by omega)).mono fun r h1 ⟨⟨y, er⟩, eh⟩ => ?_
      subst er eh
      simp [sStore, e2, keyOf, len_dst, put_left]
      exact ⟨_, rfl⟩
    · obtain ⟨l, x, rfl, rfl⟩ := hI
      simp only [thenW, w_nil]
      exact fin l (t + 1) _ _ (by omega) rfl
  · refine .inl ⟨hl, ?_⟩
    rw [w_nil]
    exact fin l t h none (by omega) (set_same e).symm
end Ev.Tx

namespace Ev
open PySem PySem.Spec PyProof.Rows L2
theorem toData_lst {h : Hh} {n m : Nat} {xs : List D} {qs : List PyData} (e : itemsOf h n = some xs) (q : mapO (toData m h) xs = some qs) : toData (m + 1) h (.loc n) = some (.list qs) := by
  simp only [toData, e, q]
  rfl
theorem mapO_strs {h : Hh} {m : Nat} : ∀ ss : List Str, mapO (toData (m + 1) h) (ss.map .str) = some (ss.map PyData.str)
  | [] => rfl
  | s :: r => by
    rw [List.map_cons, List.map_cons]
    unfold mapO
    rw [mapO_strs r]
    rfl
def cpOk (s : Str) : Prop := ∀ c ∈ s.cps.toList, c < 0x110000
theorem strOk_of {s : Str} (h : cpOk s) : PyData.strOk s = true := by
  unfold PyData.strOk
  rw [← Array.all_toList, List.all_eq_true]
  intro c hc
  exact decide_eq_true (h c hc)
theorem lay_strs : ∀ {ss : List Str}, (∀ s ∈ ss, cpOk s) → PyData.canLayAll0 (ss.map PyData.str) = true ∧ PyData.depthAll (ss.map PyData.str) = 0
  | [], _ => ⟨rfl, rfl⟩
  | s :: r, h => by
    obtain ⟨h1, h2⟩ := lay_strs (ss := r) fun s hs => h s (List.mem_cons_of_mem _ hs)
    refine ⟨?_, ?_⟩
    · show (PyData.strOk s && PyData.canLayAll0 (r.map PyData.str)) = true
      rw [strOk_of (h s (List.mem_cons_self ..)), h1]
      rfl
    · show max 0 (PyData.depthAll (r.map PyData.str)) = 0
      rw [h2]
      rfl
theorem shaped_strs {ss : List Str} (h : ∀ s ∈ ss, cpOk s) : SeqAt.shaped (.list (ss.map PyData.str)) = true := by
  obtain ⟨h1, h2⟩ := lay_strs h
  unfold SeqAt.shaped
  show (PyData.canLayAll0 (ss.map PyData.str) && decide (PyData.depthAll (ss.map PyData.str) + 1 ≤ 64)) = true
  rw [h1, h2]
  rfl
theorem eqv_strs : ∀ ss tt : List Str, PyData.eqvAll (ss.map PyData.str) (tt.map PyData.str) = decide (ss = tt)
  | [], [] => rfl
  | [], _ :: _ => rfl
  | _ :: _, [] => rfl
  | s :: r, t :: q => by
    show ((s == t) && PyData.eqvAll (r.map PyData.str) (q.map PyData.str)) = _
    rw [eqv_strs r q]
    by_cases h1 : s = t
    · subst h1
      by_cases h2 : r = q <;> simp [h2]
    · simp [h1]
/-- two lists of texts -/
theorem eqD_strs {h : Hh} {m n : Nat} {ss tt : List Str} (e1 : itemsOf h m = some (ss.map .str)) (e2 : itemsOf h n = some (tt.map .str)) (h1 : ∀ s ∈ ss, cpOk s) (h2 : ∀ s ∈ tt, cpOk s) : eqD (.loc m) (.loc n) h = some (decide (ss = tt)) := by
  unfold eqD
  rw [if_neg (by simp [scalD])]
  rw [toData_lst (m := 59) e1 (mapO_strs (m := 58) ss), toData_lst (m := 59) e2 (mapO_strs (m := 58) tt)]
  dsimp only
  rw [if_pos (by rw [shaped_strs h1, shaped_strs h2]; rfl)]
  show some (PyData.eqvAll _ _) = _
  rw [eqv_strs]
/-- a list of texts and None -/
theorem eqD_non {h : Hh} {m : Nat} {ss : List Str} (e1 : itemsOf h m = some (ss.map .str)) (h1 : ∀ s ∈ ss, cpOk s) : eqD (.loc m) .non h = some false := by
  unfold eqD
  rw [if_neg (by simp [scalD])]
  rw [toData_lst (m := 59) e1 (mapO_strs (m := 58) ss), show toData 60 h .non = some PyData.none from rfl]
  dsimp only
  rw [if_pos (by rw [shaped_strs h1]; rfl)]
  rfl
theorem sB_repr {h : Hh} {n : Nat} {xs : List D} {qs : List PyData} (e : itemsOf h n = some xs) (q : mapO (toData 59 h) xs = some qs) (hs : ((PyData.list qs).showable && decide ((PyData.list qs).shown.length ≤ sizeLine)) = true) :
    sB .repr [.loc n] h = some (.str (PyData.list qs).shown, h) := by
  simp only [sB]
  rw [toData_lst (m := 59) e q]
  simp only [hs, if_true]
theorem mem_joinL {S : List Nat} {c : Nat} : ∀ {ps : List (List Nat)} {p : List Nat}, p ∈ ps → c ∈ p → c ∈ TL.joinL S ps
  | [], p, hp, _ => absurd hp (by simp)
  | [q], p, hp, hc => by
    cases List.mem_singleton.mp hp
    exact hc
  | q :: r :: t, p, hp, hc => by
    show c ∈ q ++ (S ++ TL.joinL S (r :: t))
    rcases List.mem_cons.mp hp with rfl | hp
    · exact List.mem_append_left _ hc
    · exact List.mem_append_right _ (List.mem_append_right _ (mem_joinL hp hc))
theorem cp_split {s y : Str} (h : cpOk s) : ∀ p ∈ Txt.split s y, cpOk p := fun p hp c hc => by
  have e := StrLaws.join_split s y
  refine h c ?_
  rw [← e]
  show c ∈ TL.tl (Str.join y (Txt.split s y))
  rw [TL.tl_join]
  exact mem_joinL (List.mem_map_of_mem hp) hc
theorem cp_app {s t : Str} (h1 : cpOk s) (h2 : cpOk t) : cpOk (s ++ t) := fun c hc => by
  have hc : c ∈ TL.tl (s ++ t) := hc
  rw [TL.tl_append] at hc
  rcases List.mem_append.mp hc with q | q
  · exact h1 c q
  · exact h2 c q
theorem len_app (s t : Str) : (s ++ t).length = s.length + t.length := by rw [TL.len_tl, TL.tl_append, List.length_append, ← TL.len_tl, ← TL.len_tl]
end Ev

namespace Ev.Tx
open PySem PySem.Spec PyProof.Rows L2 Ev
variable {h : Hh} {k : Nat}
theorem len_split (s y : Str) : (Txt.split s y).length ≤ s.length + 2 := by
  unfold Txt.split
  split
  · simp
  · split
    · simp
    · rw [PyProof.Rows.len_partsBetween]
      exact Nat.succ_le_succ (StrLaws.occ_length_le ..)
theorem lenAll (h : Hh) : True := trivial
def oth (s : Str) : List Str := (s.cps.toList.map fun c => (⟨#[c]⟩ : Str)).filter fun z => !letD (.str z)
theorem oth_ok {s : Str} (hs : cpOk s) : ∀ z ∈ oth s, cpOk z := fun z hz c hc => by
  obtain ⟨h1, _⟩ := List.mem_filter.mp hz
  obtain ⟨d, hd, rfl⟩ := List.mem_map.mp h1
  have : c = d := by simpa using hc
  subst this
  exact hs c hd
theorem oth_eq (s : Str) : ((signs s).filter fun d => !letD d).map id = (oth s).map .str := by
  unfold signs oth
  rw [List.map_id]
  induction s.cps.toList with
  | nil => rfl
  | cons c r ih =>
    simp only [List.map_cons, List.filter_cons]
    by_cases q : (!letD (.str ⟨#[c]⟩)) = true
    · rw [if_pos q, if_pos q, List.map_cons, ih]
    · rw [if_neg q, if_neg q, ih]
theorem oth_nil (s : Str) : decide (oth s = []) = (signs s).all letD := by
  rw [Bool.eq_iff_iff, decide_eq_true_eq]
  have e := oth_eq s
  rw [List.map_id] at e
  constructor
  · intro q
    rw [q] at e
    have e := List.filter_eq_nil_iff.mp e
    rw [List.all_eq_true]
    intro d hd
    have := e d hd
    simpa using this
  · intro q
    have : (signs s).filter (fun d => !letD d) = [] := List.filter_eq_nil_iff.mpr fun d hd => by
      rw [List.all_eq_true] at q
      simp [q d hd]
    rw [this] at e
    exact List.map_eq_nil_iff.mp e.symm
theorem boolsR (b c d : Bool) : ((PyData.list [.bool b, .bool c, .bool d]).showable && decide ((PyData.list [.bool b, .bool c, .bool d]).shown.length ≤ sizeLine)) = true := by
  cases b <;> cases c <;> cases d <;> decide +kernel
theorem r_right {s : Str} (hs : s.length ≤ 1000) (hc : cpOk s) : (cal (k + 3) 7 [.str s] h).W fun r h1 => r = .bl true ∧ Gr h h1 := by
  have hs1 : s.length ≤ sizeLine := Nat.le_trans hs (by decide)
  have hs2 : s.length + 2 ≤ sizeLine := Nat.le_trans (Nat.add_le_add_right hs 2) (by decide)
  refine w_callK (fd := d11.fd) rfl rfl ?_
  show (evS gT (cal (k + 2)) b11 (start0 d11.fd [.str s]) h).W _
  unfold b11
  rw [w_cons, w_set]
  simp [start0, d11]
  refine ⟨by rw [len_signs]; exact hs1, ?_⟩
  refine w_compP (fun d => !letD d) id (chk_nil h) (fun d hd => ?_) ?_
  · obtain ⟨c, hc, rfl⟩ := mem_signs hd
    refine ⟨_, rfl, ?_, fun _ => ?_⟩
    · simp [wipeE, sCmp, bRes, inB, gT, letD, lett]
    · simp [wipeE]
  rw [oth_eq]
  simp only [thenW]
  have e1 : itemsOf (h ++ [.lst ((oth s).map .str)]) h.length = some ((oth s).map .str) := itemsEnd _ _
  have g1 : Gr h (h ++ [.lst ((oth s).map .str)]) := Gr.app _ _
  generalize h ++ [.lst ((oth s).map .str)] = h1 at e1 g1 ⊢
  generalize h.length = n1 at e1 ⊢
  unfold b11t1
  rw [w_cons, w_set]
  have key : ∀ (h2 : Hh) (n2 : Nat), Gr h h2 → itemsOf h2 n2 = some [.bl (nmB s), .bl false, .bl false] → (evS gT (cal (k + 2)) b11t2 [some (.str s), some (.loc n1), some (.loc n2), none, none, none, none] h2).W (retW fun r h1 => r = .bl true ∧ Gr h h1) := by
    intro h2 n2 g2 e2
    unfold b11t2
    rw [w_cons, w_ife]
    simp
    refine (r_name hs1).mono fun r h3 ⟨er, g3⟩ => (r_whole (t := .str) rfl).mono fun r' h4 ⟨er', eh4⟩ => (r_among (t := .str) rfl).mono fun r'' h5 ⟨eh5, er''⟩ => ?_
    subst er er' eh4 eh5 er''
    have ea : amB 0 9 (.str s) = false := rfl
    rw [ea]
    refine ⟨by decide, ?_⟩
    rw [sB_repr (itemsEnd _ _) (show mapO (toData 59 _) [.bl (nmB s), .bl (whB .str), .bl false] = some [.bool (nmB s), .bool false, .bool false] from rfl) (boolsR _ _ _)]
    simp
    rw [sB_repr ((Gr.app _ _).items (g3.items e2)) (show mapO (toData 59 _) [.bl (nmB s), .bl false, .bl false] = some [.bool (nmB s), .bool false, .bool false] from rfl) (boolsR _ _ _)]
    simp [sCmp, eqD, scalD, eqF, bRes, w_nil, thenW]
    have g6 : Gr h (h5 ++ [.lst [.bl (nmB s), .bl (whB .str), .bl false]]) := (g2.trans g3).push _
    generalize h5 ++ [.lst [.bl (nmB s), .bl (whB .str), .bl false]] = h6 at g6 ⊢
    unfold b11t3
    rw [w_cons, w_set]
    simp [tkOf, mId, sM_split hs2, thenW]
    have e7 : itemsOf (h6 ++ [.lst (parts s)]) h6.length = some (parts s) := itemsEnd _ _
    have g7 : Gr h (h6 ++ [.lst (parts s)]) := g6.push _
    generalize h6 ++ [.lst (parts s)] = h7 at e7 g7 ⊢
    generalize h6.length = n7 at e7 ⊢
    unfold b11t4
    rw [w_cons, w_for]
    simp
    refine w_forL (fun _ env h' => ∃ x y, env = [some (.str s), some (.loc n1), some (.loc n2), some (.loc n7), x, y, none] ∧ Gr h h' ∧ itemsOf h' n7 = some (parts s) ∧ h7.length ≤ h'.length) _ 0 _ _ ⟨none, none, rfl, g7, e7, Nat.le_refl _⟩ (fun _ _ h' _ => chk_nil h') (fun j d e' h' hj hI => ?_) (fun e' h' hI => ?_)
    · obtain ⟨x, y, rfl, g8, e8, l8⟩ := hI
      refine ⟨_, rfl, ?_⟩
      unfold b11l0
      rw [w_cons, w_set]
      simp
      refine (r_words hs2).mono fun r h9 ⟨g9, q⟩ => ?_
      simp only [thenW]
      have e9 := g9.items e8
      have inG : inB (.str (Str.ofString "")) (.loc n7) h9 = some (gapB s) := by
        unfold itemsOf at e9
        split at e9
        · rename_i q9
          cases e9
          simp only [inB, q9]
          unfold inD
          rw [if_pos (flat_parts s)]
          rfl
        · cases e9
      unfold b11l0t1
      rw [w_cons, w_ife]
      by_cases hg : gapB s = true
      · rw [if_pos hg] at q
        subst q
        rw [hg] at inG
        simp [sCmp, bRes, inG, eqD, scalD, eqF, isB, w_nil, thenW]
        unfold b11l0t2
        simp [w_cons, w_ife, sCmp, bRes, isB, w_nil, thenW, loopW]
        exact ⟨g8.trans g9, e9, Nat.le_trans l8 g9.1⟩
      · rw [if_neg hg] at q
        obtain ⟨n, rfl, hn, en⟩ := q
        have hg : gapB s = false := by simpa using hg
        rw [hg] at inG
        have tn : tkOf h9 (.loc n) = some .list := by simp [tkOf, en]
        have eN : itemsOf h9 n = some (parts s) := by unfold itemsOf; rw [en]
        have eq := eqD_strs (ss := Txt.split s " ") (tt := Txt.split s " ") eN e9 (cp_split hc) (cp_split hc)
        simp [sCmp, bRes, inG, eq, isB, w_nil, thenW, sIsi, tn, isiK]
        unfold b11l0t2
        have hl : (parts s).length < sizeLine := by
          unfold parts
          rw [List.length_map]
          exact Nat.lt_of_le_of_lt (len_split s " ") (Nat.lt_of_le_of_lt (Nat.add_le_add_right hs 2) (by decide))
        simp [w_cons, w_ife, w_expr, sCmp, bRes, isB, w_nil, thenW, loopW, tn, mId, sM, en, hl]
        have gg := g9.set (o := .lst (parts s ++ [D.str (Str.ofString "x")])) hn
        exact ⟨g8.trans gg, gg.items e8, Nat.le_trans l8 g9.1⟩
    · obtain ⟨x, y, rfl, g8, e8, l8⟩ := hI
      unfold b11t5
      simp [thenW, w_cons, w_ret, retW]
      exact g8
  have eN : ∀ h' : Hh, Gr h1 h' → eqD (.loc n1) (.loc h'.length) (h' ++ [.lst []]) = some ((signs s).all letD) := fun h' g' => by
    have := eqD_strs (tt := []) ((g'.push [.lst []]).items e1) (itemsEnd h' []) (oth_ok hc) (fun z hz => absurd hz (by simp))
    rw [this, oth_nil]
  simp [sB, hs1, sCmp, bRes, ltB]
  by_cases q0 : 0 < s.length
  · by_cases q9 : (s.length : Int) < 9
    · refine .inr ⟨q0, .inr ⟨q9, ?_⟩⟩
      simp [eN h1 (Gr.refl _), thenW]
      refine ⟨by decide, key _ _ (g1.push _) ?_⟩
      have : nmB s = (signs s).all letD := by
        unfold nmB
        rw [decide_eq_true (by omega : 1 ≤ s.length), decide_eq_true (by omega : s.length ≤ 8)]
        rfl
      rw [this]
      simp [itemsOf]
    · refine .inr ⟨q0, .inl ⟨by omega, ?_⟩⟩
      simp [thenW]
      refine ⟨by decide, key _ _ (g1.push _) ?_⟩
      have : nmB s = false := by
        unfold nmB
        rw [decide_eq_false (by omega : ¬ s.length ≤ 8), Bool.and_false]
        rfl
      rw [this]
      simp [itemsOf]
  · refine .inl ⟨by omega, ?_⟩
    simp [thenW]
    refine ⟨by decide, key _ _ (g1.push _) ?_⟩
    have : nmB s = false := by
      unfold nmB
      rw [decide_eq_false (by omega : ¬ 1 ≤ s.length)]
      rfl
    rw [this]
    simp [itemsOf]
end Ev.Tx

namespace Ev
open PySem PySem.Spec PyProof.Rows L2
theorem atI_in {A : Type} {xs : List A} {i : Int} (h0 : 0 ≤ i) (h1 : i < xs.length) : ∃ a, atI xs i = some a ∧ xs[i.toNat]? = some a := by
  have hl : i.toNat < xs.length := by omega
  refine ⟨xs[i.toNat], ?_, List.getElem?_eq_getElem hl⟩
  unfold atI ixN
  rw [if_pos h0, if_pos (by omega)]
  exact List.getElem?_eq_getElem hl
theorem upper_low : ∀ c < 128, ∀ x ∈ Unicode.upperOf c, x < 0x110000 := by decide +kernel
theorem cp_upper {s : Str} (h : ∀ c ∈ s.cps.toList, c < 128) : cpOk (Txt.upper s) := fun c hc => by
  unfold Txt.upper at hc
  have hc : c ∈ (placed s fun _ c => Unicode.upperOf c) := by simpa using hc
  unfold placed at hc
  obtain ⟨a, ha, hc⟩ := Array.mem_flatten.mp hc
  obtain ⟨i, hi, rfl⟩ := Array.mem_iff_getElem.mp ha
  simp at hc
  exact upper_low _ (h _ (by simp)) _ hc
theorem len_upper (s : Str) : (Txt.upper s).length ≤ 3 * s.length := StrLaws.placedRaw_le3 s.cps (fun _ c => Unicode.upperOf c) fun _ c => StrLaws.upperOf_le3 c
theorem joinL_mem {S : List Nat} {c : Nat} : ∀ {ps : List (List Nat)}, c ∈ TL.joinL S ps → c ∈ S ∨ ∃ p ∈ ps, c ∈ p
  | [], h => absurd h (by simp [TL.joinL])
  | [q], h => .inr ⟨q, by simp, h⟩
  | q :: r :: t, h => by
    have h : c ∈ q ++ (S ++ TL.joinL S (r :: t)) := h
    rcases List.mem_append.mp h with h | h
    · exact .inr ⟨q, by simp, h⟩
    · rcases List.mem_append.mp h with h | h
      · exact .inl h
      · rcases joinL_mem h with h | ⟨p, hp, hc⟩
        · exact .inl h
        · exact .inr ⟨p, List.mem_cons_of_mem _ hp, hc⟩
theorem mapO_str : ∀ (ss : List Str), mapO isStrD (ss.map .str) = some ss
  | [] => rfl
  | s :: r => by
    rw [List.map_cons]
    unfold mapO
    rw [mapO_str r]
    rfl
theorem cut_mem {s : Str} {lo hi : Option Int} {c : Nat} (h : c ∈ (cutS s lo hi).cps.toList) : c ∈ s.cps.toList := by
  unfold cutS at h
  exact List.mem_of_mem_drop (List.mem_of_mem_take h)
@[simp] theorem sz1 : 1 ≤ sizeLine := by decide
@[simp] theorem sz2 : 2 ≤ sizeLine := by decide
@[simp] theorem sz3 : 3 ≤ sizeLine := by decide
@[simp] theorem sz4 : 4 ≤ sizeLine := by decide
@[simp] theorem sz5 : 5 ≤ sizeLine := by decide
@[simp] theorem sz6 : 6 ≤ sizeLine := by decide
@[simp] theorem sz7 : 7 ≤ sizeLine := by decide
@[simp] theorem sz8 : 8 ≤ sizeLine := by decide
@[simp] theorem sz9 : 9 ≤ sizeLine := by decide
@[simp] theorem sz10 : 10 ≤ sizeLine := by decide
@[simp] theorem sz11 : 11 ≤ sizeLine := by decide
@[simp] theorem sz12 : 12 ≤ sizeLine := by decide
@[simp] theorem sz13 : 13 ≤ sizeLine := by decide
@[simp] theorem sz14 : 14 ≤ sizeLine := by decide
@[simp] theorem sz15 : 15 ≤ sizeLine := by decide
theorem getAt (h t : Hh) (i : Nat) : (h ++ t)[h.length + i]? = t[i]? := by
  rw [List.getElem?_append_right (Nat.le_add_right ..), Nat.add_sub_cancel_left]
theorem sadd {a b : Str} (q : a.length + b.length ≤ 10000) (h : Hh) : sBin .Add (.str a) (.str b) h = some (.str (a ++ b), h) := by
  simp only [sBin]
  rw [if_pos (Nat.le_trans q (by decide))]
theorem supper {a : Str} (q : a.length ≤ 10000) (h : Hh) : sM .upper .str (.str a) [] h = some (.str (Txt.upper a), h) := by
  simp only [sM]
  rw [if_pos (Nat.le_trans q (by decide))]
theorem scut {a : Str} {lo hi : Option Int} (q : a.length ≤ 10000) (h : Hh) : sSlc (.str a) lo hi h = some (.str (cutS a lo hi), h) := by
  simp only [sSlc]
  rw [if_pos (Nat.le_trans q (by decide))]
theorem len_ofString (s : String) : (Str.ofString s).length = s.length := by
  rw [TL.len_tl, TL.tl_ofString, List.length_map]
  exact String.length_toList
end Ev

namespace Ev.Tx
open PySem PySem.Spec PyProof.Rows L2 Ev
variable {h : Hh} {k : Nat}
structure Bd (h0 hh : Hh) (p : Nat) (B : Int) : Prop where
  gr : Gr h0 hh
  st : Sta hh p B
  le : h0.length ≤ p
theorem Bd.on {h0 hh h1 : Hh} {p : Nat} {B : Int} (b : Bd h0 hh p B) (g : Gr hh h1) : Bd h0 h1 p B := ⟨b.gr.trans g, b.st.gr g, b.le⟩
theorem dig {h0 hh : Hh} {p : Nat} {m B : Int} (b : Bd h0 hh p B) (hB : B < 2 ^ 30) (hm : 0 < m ∧ m < 2 ^ 20) :
    (cal (k + 2) 6 [.loc p, .int m] hh).W fun r h1 => (∃ x, r = .int x ∧ 0 ≤ x ∧ x < m) ∧ Bd h0 h1 p (B + 1) ∧ (∀ (n : Nat) (xs : List D), hh[n]? = some (.lst xs) → h1[n]? = some (.lst xs)) ∧ (∀ n, n ≠ p → h1[n]? = hh[n]?) ∧ h1.length = hh.length := by
  refine (r_digit hB hm b.st).mono fun r h1 ⟨hx, kvs, e, s1⟩ => ⟨hx, ⟨?_, s1, b.le⟩, fun n xs en => ?_, fun n hn => ?_, ?_⟩
  · rw [e]; exact b.gr.set b.le
  · have hn : n ≠ p := fun z => by
      subst z
      obtain ⟨l, s, t, q, _⟩ := b.st
      rw [q] at en
      cases en
    rw [e, List.getElem?_set_ne (fun z => hn z.symm)]
    exact en
  · rw [e, List.getElem?_set_ne (fun z => hn z.symm)]
  · rw [e, List.length_set]
/-- a text of plain signs -/
def Lo (n : Nat) (z : Str) : Prop := z.length ≤ n ∧ ∀ c ∈ z.cps.toList, c < 128
theorem Lo.cp {n : Nat} {z : Str} (x : Lo n z) : cpOk z := fun c hc => Nat.lt_trans (x.2 c hc) (by decide)
def lowB (z : Str) : Bool := decide (z.length ≤ 100) && z.cps.toList.all fun c => decide (c < 128)
theorem lo_of {z : Str} (q : lowB z = true) : Lo 100 z := by
  unfold lowB at q
  simp only [Bool.and_eq_true, decide_eq_true_eq, List.all_eq_true] at q
  exact ⟨q.1, fun c hc => by simpa using q.2 c hc⟩
def every : Str := "!\"#$&'()*+,-./0123456789:;<=>?@ABCDEFGHIJKLMNOPQRSTUVWXYZ[\\]^_`abcdefghijklmnopqrstuvwxyz{|}~ \n"
theorem lo_every : Lo 100 every ∧ 0 < every.length := ⟨lo_of (by decide +kernel), by decide +kernel⟩
theorem sign_at {z : Str} {x : Int} (hz : Lo 100 z) (h0 : 0 ≤ x) (h1 : x < z.length) (hh : Hh) : ∃ c, sIdx (.str z) (.int x) hh = some (.str ⟨#[c]⟩, hh) ∧ c < 128 := by
  obtain ⟨c, e, m⟩ := atI_in (xs := z.cps.toList) h0 (by simpa [Str.length] using h1)
  refine ⟨c, ?_, hz.2 c (List.mem_of_getElem? m)⟩
  simp only [sIdx]
  rw [if_pos (Nat.le_trans hz.1 (by decide)), e]
  rfl
abbrev envB (sc : D) (x3 : Option D) (a b : D) (x7 x8 x9 x10 x11 x12 x13 : Option D) : Nv := [some sc, some (.str every), none, x3, none, some a, some b, x7, x8, x9, x10, x11, x12, x13, none, none]
def EnvB (sc : D) (e : Nv) : Prop := ∃ x3 x5 x6 x7 x8 x9 x10 x11 x12 x13, e = [some sc, some (.str every), none, x3, none, x5, x6, x7, x8, x9, x10, x11, x12, x13, none, none]
/-- the body's end -/
def endB (sc : D) (h0 : Hh) (fl : Fl) (e : Nv) (h1 : Hh) : Prop := fl = .nx ∧ EnvB sc e ∧ Gr h0 h1
section
variable {sc a b : D} {x3 x7 x8 x9 x10 x11 x12 x13 : Option D} {h0 hh : Hh} {p : Nat}
theorem rr {qs : List PyData} (s : Str) (hq : ((PyData.list qs).showable && decide ((PyData.list qs).shown.length ≤ sizeLine) && decide ((PyData.list qs).shown = s)) = true) : ((PyData.list qs).showable && decide ((PyData.list qs).shown.length ≤ sizeLine)) = true ∧ (PyData.list qs).shown = s := by
  simp only [Bool.and_eq_true, decide_eq_true_eq] at hq ⊢
  exact hq
theorem bt10 {i : Int} {n : Nat} (g : Gr h0 hh) (e : hh[n]? = some (.lst [.bl true, .bl true, .bl false, .bl false])) : (evS gT (cal (k + 3)) b12l0t10 (envB sc (some (.loc n)) a b x7 x8 x9 x10 x11 x12 (some (.int i))) hh).W (endB sc h0) := by
  unfold b12l0t10
  rw [w_cons, w_ife]
  simp [sBin]
  refine (r_among (k := k + 1) (t := .int) rfl).mono fun r h1 ⟨e1, e2⟩ => ?_
  subst e1 e2
  refine (r_words0 (k := k + 2) (t := .int) rfl (by decide)).mono fun r h2 ⟨e1, e2⟩ => ?_
  subst e1 e2
  have en : n < h2.length := (List.getElem?_eq_some_iff.mp e).1
  have q1 : ∀ o, (h2 ++ [o])[n]? = some (.lst [.bl true, .bl true, .bl false, .bl false]) := fun o => by rw [List.getElem?_append_left en]; exact e
  have d1 : decide (i ≤ i - 1) = false := decide_eq_false (by omega)
  simp [q1, amB, d1]
  obtain ⟨s1, s2⟩ := rr (qs := [.bool true, .bool true, .bool false, .bool false, .bool false, .none]) "[True, True, False, False, False, None]" (by decide +kernel)
  rw [sB_repr (xs := [.bl true, .bl true, .bl false, .bl false, .bl false, .non]) (by simp [itemsOf]) rfl s1, s2]
  simp [sCmp, eqD, scalD, eqF, bRes, w_nil, thenW, endB]
  exact ⟨⟨_, _, _, _, _, _, _, _, _, _, rfl⟩, g.push _⟩
theorem bt9 {i : Int} (g : Gr h0 hh) : (evS gT (cal (k + 3)) b12l0t9 (envB sc x3 a b x7 x8 x9 x10 x11 x12 (some (.int i))) hh).W (endB sc h0) := by
  unfold b12l0t9
  rw [w_cons, w_set]
  simp [sBin]
  refine (r_whole (k := k + 2) (t := .int) rfl).mono fun r h1 ⟨e1, e2⟩ => ?_
  subst e1 e2
  refine (r_among (k := k + 1) (t := .int) rfl).mono fun r h1 ⟨e1, e2⟩ => ?_
  subst e1 e2
  refine (r_among (k := k + 1) (t := .int) rfl).mono fun r h1 ⟨e1, e2⟩ => ?_
  subst e1 e2
  refine (r_name0 (k := k + 2) (t := .int) rfl (by decide)).mono fun r h2 ⟨e1, e2⟩ => ?_
  subst e1 e2
  have d1 : decide (i + 1 ≤ i) = false := decide_eq_false (by omega)
  simp [thenW, amB, d1]
  refine bt10 (g.push _) ?_
  rw [getEnd]
  rfl
theorem bt8 {B : Int} (hB : B < 2 ^ 20) (bd : Bd h0 hh p B) : (evS gT (cal (k + 3)) b12l0t8 (envB sc x3 a b (some (.loc p)) x8 x9 x10 x11 x12 x13) hh).W (endB sc h0) := by
  unfold b12l0t8
  rw [w_cons, w_set]
  simp
  refine (dig (k := k + 1) bd (by omega) (by omega)).mono fun r h1 ⟨⟨x, e, x0, x1⟩, bd1, _⟩ => ?_
  subst e
  simp [sBin, thenW]
  exact bt9 bd1.gr
theorem bt7 {B : Int} {d : D} {t : Tk} (hB : B < 2 ^ 20) (bd : Bd h0 hh p B) (hd : tkOf hh d = some t) (ht : t ≠ .str) (hw : whB t = false) (hi : ∀ i, d ≠ .int i) : (evS gT (cal (k + 3)) b12l0t7 (envB sc x3 a b (some (.loc p)) x8 x9 x10 x11 (some d) x13) hh).W (endB sc h0) := by
  unfold b12l0t7
  rw [w_cons, w_ife]
  simp
  refine (r_name0 (k := k + 2) hd ht).mono fun r h2 ⟨e1, e2⟩ => ?_
  subst e1 e2
  refine (r_words0 (k := k + 2) hd ht).mono fun r h2 ⟨e1, e2⟩ => ?_
  subst e1 e2
  refine (r_whole (k := k + 2) hd).mono fun r h1 ⟨e1, e2⟩ => ?_
  subst e1 e2
  refine (r_among (k := k + 1) hd).mono fun r h1 ⟨e1, e2⟩ => ?_
  subst e1 e2
  have e3 : amB 0 1 d = false := by cases d <;> first | rfl | exact absurd rfl (hi _)
  rw [e3, hw]
  obtain ⟨s1, s2⟩ := rr (qs := [.bool false, .none, .bool false, .bool false]) "[False, None, False, False]" (by decide +kernel)
  rw [sB_repr (xs := [.bl false, .non, .bl false, .bl false]) (itemsEnd _ _) rfl s1, s2]
  simp [sCmp, eqD, scalD, eqF, bRes, w_nil, thenW]
  exact bt8 hB (bd.on (Gr.app _ _))
theorem odd_ok {hh : Hh} {n1 n2 n3 : Nat} {d : D} (e1 : hh[n1]? = some (.lst [])) (e2 : hh[n2]? = some (.lst [.str "a"])) (e3 : hh[n3]? = some (.dct [])) (hd : d ∈ [.non, .bl true, .loc n1, .loc n2, .loc n3, .tup [.str "a"], .bl false]) :
    ∃ t, tkOf hh d = some t ∧ t ≠ .str ∧ whB t = false ∧ ∀ i, d ≠ .int i := by
  simp only [List.mem_cons, List.not_mem_nil, or_false] at hd
  rcases hd with rfl | rfl | rfl | rfl | rfl | rfl | rfl
  · exact ⟨.none, rfl, by decide, rfl, fun i => by simp⟩
  · exact ⟨.bool, rfl, by decide, rfl, fun i => by simp⟩
  · exact ⟨.list, by simp [tkOf, e1], by decide, rfl, fun i => by simp⟩
  · exact ⟨.list, by simp [tkOf, e2], by decide, rfl, fun i => by simp⟩
  · exact ⟨.dict, by simp [tkOf, e3], by decide, rfl, fun i => by simp⟩
  · exact ⟨.tuple, rfl, by decide, rfl, fun i => by simp⟩
  · exact ⟨.bool, rfl, by decide, rfl, fun i => by simp⟩
theorem bt6 {B : Int} (hB : B < 2 ^ 19) (bd : Bd h0 hh p B) : (evS gT (cal (k + 3)) b12l0t6 (envB sc x3 a b (some (.loc p)) x8 x9 x10 x11 x12 x13) hh).W (endB sc h0) := by
  unfold b12l0t6
  rw [w_cons, w_set]
  simp
  generalize hL : [D.non, .bl true, .loc hh.length, .loc (hh.length + 1), .loc (hh.length + 1 + 1), .tup [.str (Str.ofString "a")], .bl false] = L
  generalize hH : hh ++ _ = h1
  have bd1 : Bd h0 h1 p B := by rw [← hH]; exact bd.on (Gr.app _ _)
  have hp : p < hh.length := by
    obtain ⟨l, s, t, e, _⟩ := bd.st
    exact (List.getElem?_eq_some_iff.mp e).1
  have e1 : h1[hh.length]? = some (.lst []) := by rw [← hH]; simp
  have e2 : h1[hh.length + 1]? = some (.lst [.str "a"]) := by rw [← hH]; simp
  have e3 : h1[hh.length + 1 + 1]? = some (.dct []) := by rw [← hH]; exact getAt hh _ 2
  have e4 : h1[hh.length + 1 + 1 + 1]? = some (.lst L) := by rw [← hH]; exact getAt hh _ 3
  refine (dig (k := k + 1) bd1 (by omega) (by omega)).mono fun r h2 ⟨⟨x, e, x0, x1⟩, bd2, kl, kp, _⟩ => ?_
  subst e
  have hlen : L.length = 7 := by rw [← hL]; rfl
  obtain ⟨d, ed, md⟩ := atI_in (xs := L) x0 (by rw [hlen]; exact x1)
  simp [sIdx, kl _ _ e4, ed, thenW]
  obtain ⟨t, t1, t2, t3, t4⟩ := odd_ok (kl _ _ e1) (kl _ _ e2) (n3 := hh.length + 1 + 1) (by rw [kp _ (by omega)]; exact e3) (by have := List.mem_of_getElem? md; rw [← hL] at this; exact this)
  exact bt7 (by omega) bd2 t1 t2 t3 t4
def Sh (z : Str) : Prop := z.length ≤ 400 ∧ cpOk z
theorem Lo.sh {n : Nat} {z : Str} (x : Lo n z) (hn : n ≤ 400) : Sh z := ⟨Nat.le_trans x.1 hn, x.cp⟩
theorem Sh.app {a b : Str} (x : Sh a) (y : Sh b) (q : a.length + b.length ≤ 400) : Sh (a ++ b) := ⟨by rw [len_app]; exact q, cp_app x.2 y.2⟩
theorem lo_one {c : Nat} (hc : c < 128) : Lo 1 ⟨#[c]⟩ := ⟨Nat.le_refl _, fun d hd => by
  have : d = c := by simpa using hd
  rw [this]; exact hc⟩
theorem shB {z : Str} (q : lowB z = true) : Sh z := (lo_of q).sh (by decide)
theorem bt5 {B : Int} {w : Str} {c n : Nat} {ss : List Str} (hB : B < 2 ^ 18) (bd : Bd h0 hh p B) (hw : Lo 10 w) (hc : c < 128) (e : hh[n]? = some (.lst (ss.map .str))) (hs : ∀ z ∈ ss, Sh z) (hl : ss.length ≤ 20) :
    (evS gT (cal (k + 3)) b12l0t5 (envB sc x3 a b (some (.loc p)) x8 (some (.str w)) (some (.str ⟨#[c]⟩)) (some (.loc n)) x12 x13) hh).W (endB sc h0) := by
  have l1 : (⟨#[c]⟩ : Str).length = 1 := rfl
  have lw := hw.1
  have l2 : (Str.ofString "ab").length = 2 := rfl
  have l3 : (Str.ofString " ").length = 1 := rfl
  have l4 : (Str.ofString "c").length = 1 := rfl
  have a1 := sadd (a := Str.ofString "ab") (b := ⟨#[c]⟩) (by omega)
  have a2 := sadd (a := Str.ofString "ab" ++ ⟨#[c]⟩) (b := Str.ofString "c") (by rw [len_app]; omega)
  have a3 := sadd (a := w) (b := Str.ofString " ") (by omega)
  have a4 := sadd (a := w ++ Str.ofString " ") (b := w) (by rw [len_app]; omega)
  have s1 : Sh (Str.ofString "ab" ++ ⟨#[c]⟩ ++ Str.ofString "c") := (Sh.app (shB (by decide +kernel)) ((lo_one hc).sh (by decide)) (by omega)).app (shB (by decide +kernel)) (by rw [len_app]; omega)
  have s2 : Sh (w ++ Str.ofString " " ++ w) := ((hw.sh (by decide)).app (shB (by decide +kernel)) (by omega)).app (hw.sh (by decide)) (by rw [len_app]; omega)
  generalize Str.ofString "ab" ++ ⟨#[c]⟩ ++ Str.ofString "c" = z1 at a2 s1
  generalize w ++ Str.ofString " " ++ w = z2 at a4 s2
  unfold b12l0t5
  rw [w_cons, w_ife]
  simp [a1, a2, a3, a4]
  have en : n < hh.length := (List.getElem?_eq_some_iff.mp e).1
  have e1 : ∀ o, (hh ++ [o])[n]? = some (.lst (ss.map .str)) := fun o => by rw [List.getElem?_append_left en]; exact e
  have hq : ss.length + 3 ≤ sizeLine := Nat.le_trans (by omega : ss.length + 3 ≤ 23) (by decide)
  simp [sBin, e1, hq]
  generalize hT : ss ++ [Str.ofString "", z1, z2] = tt
  have hT' : ss.map D.str ++ [.str (Str.ofString ""), .str z1, .str z2] = tt.map .str := by rw [← hT]; simp
  have ht : ∀ z ∈ tt, Sh z := by
    rw [← hT]
    intro z hz
    rcases List.mem_append.mp hz with q | q
    · exact hs z q
    · simp only [List.mem_cons, List.not_mem_nil, or_false] at q
      rcases q with rfl | rfl | rfl
      · exact shB (by decide +kernel)
      · exact s1
      · exact s2
  have lt : tt.length ≤ sizeLine := by rw [← hT]; simp; exact hq
  rw [hT']
  generalize hH : hh ++ _ = h1
  have bd1 : Bd h0 h1 p B := by rw [← hH]; exact bd.on (Gr.app _ _)
  have eI : itemsOf h1 (hh.length + 1) = some (tt.map .str) := by
    unfold itemsOf
    rw [← hH, getAt hh _ 1]
    rfl
  rw [eI]
  simp [lt]
  refine w_compL (fun acc _ h' => acc = [] ∧ Bd h0 h' p B ∧ itemsOf h' (hh.length + 1) = some (tt.map .str)) _ [] 0 h1 _ ⟨rfl, bd1, eI⟩ (fun acc i h' q => ?_) (fun j d acc h' hj ⟨ea, bd', eI'⟩ => ?_) fun ys h' ⟨ey, bd', eI'⟩ => ?_
  · intro y hy
    cases List.mem_singleton.mp hy
    exact q.2.2
  · obtain ⟨z, hz, rfl⟩ := List.mem_map.mp (List.mem_of_getElem? hj)
    refine ⟨_, rfl, ?_⟩
    simp [wipeE]
    refine (r_right (k := k) (Nat.le_trans (ht z hz).1 (by decide)) (ht z hz).2).mono fun r h2 ⟨er, g⟩ => ?_
    subst er
    exact ⟨rfl, ea, bd'.on g, g.items eI'⟩
  · have ey : ys = [] := ey
    subst ey
    have eq := eqD_strs (h := h' ++ [.lst []] ++ [.lst []]) (m := h'.length) (n := h'.length + 1) (ss := []) (tt := []) (by unfold itemsOf; simp) (by unfold itemsOf; simp) (fun z hz => absurd hz (by simp)) (fun z hz => absurd hz (by simp))
    simp at eq
    simp [sCmp, bRes, eq, w_nil, thenW]
    exact bt6 (by omega) (bd'.on (Gr.app _ _))
theorem bt4 {B : Int} {w : Str} {c : Nat} (hB : B < 2 ^ 18) (bd : Bd h0 hh p B) (hw : Lo 10 w) (hc : c < 128) :
    (evS gT (cal (k + 3)) b12l0t4 (envB sc x3 a b (some (.loc p)) x8 (some (.str w)) (some (.str ⟨#[c]⟩)) x11 x12 x13) hh).W (endB sc h0) := by
  have l1 : (⟨#[c]⟩ : Str).length = 1 := rfl
  have lw := hw.1
  have l2 : (Str.ofString "  ").length = 2 := rfl
  have l3 : (Str.ofString " ").length = 1 := rfl
  have lc := L2.cutS_length w none (some 3)
  have hW := hw.sh (by decide : 10 ≤ 400)
  have hC := (lo_one hc).sh (by decide)
  have hX : Sh (cutS w none (some 3)) := ⟨by omega, fun c hc => hw.cp c (cut_mem hc)⟩
  have a1 := sadd (a := w) (b := Str.ofString "  ") (by omega)
  have a2 := sadd (a := w ++ Str.ofString "  ") (b := w) (by rw [len_app]; omega)
  have a3 := sadd (a := Str.ofString " ") (b := w) (by omega)
  have a4 := sadd (a := w) (b := Str.ofString " ") (by omega)
  have a5 := supper (a := w) (by omega)
  have a6 := scut (a := w) (lo := none) (hi := some 3) (by omega)
  have a7 := sadd (a := ⟨#[c]⟩) (b := cutS w none (some 3)) (by omega)
  have a8 := sadd (a := cutS w none (some 3)) (b := ⟨#[c]⟩) (by omega)
  have s2 : Sh (w ++ Str.ofString "  " ++ w) := (hW.app (shB (by decide +kernel)) (by omega)).app hW (by rw [len_app]; omega)
  have s3 : Sh (Str.ofString " " ++ w) := Sh.app (shB (by decide +kernel)) hW (by omega)
  have s4 : Sh (w ++ Str.ofString " ") := hW.app (shB (by decide +kernel)) (by omega)
  have s5 : Sh (Txt.upper w) := ⟨Nat.le_trans (len_upper w) (by omega), cp_upper hw.2⟩
  have s7 : Sh (⟨#[c]⟩ ++ cutS w none (some 3)) := hC.app hX (by omega)
  have s8 : Sh (cutS w none (some 3) ++ ⟨#[c]⟩) := hX.app hC (by omega)
  unfold b12l0t4
  rw [w_cons, w_set]
  simp [a1, a2, a3, a4, a5, a6, a7, a8, tkOf, mId, thenW]
  refine bt5 (ss := [w, w ++ Str.ofString "  " ++ w, Str.ofString " " ++ w, w ++ Str.ofString " ", Txt.upper w, ⟨#[c]⟩, ⟨#[c]⟩ ++ cutS w none (some 3), cutS w none (some 3) ++ ⟨#[c]⟩]) hB (bd.on (Gr.app _ _)) hw hc (getEnd _ _) ?_ (by simp)
  intro z hz
  simp only [List.mem_cons, List.not_mem_nil, or_false] at hz
  rcases hz with rfl | rfl | rfl | rfl | rfl | rfl | rfl | rfl
  · exact hW
  · exact s2
  · exact s3
  · exact s4
  · exact s5
  · exact hC
  · exact s7
  · exact s8
theorem bt3 {B : Int} {w : Str} (hB : B < 2 ^ 17) (bd : Bd h0 hh p B) (hw : Lo 10 w) :
    (evS gT (cal (k + 3)) b12l0t3 (envB sc x3 a b (some (.loc p)) x8 (some (.str w)) x10 x11 x12 x13) hh).W (endB sc h0) := by
  have le := lo_every.1.1
  have l0 := lo_every.2
  have lz : every.length ≤ sizeLine := Nat.le_trans le (by decide)
  unfold b12l0t3
  rw [w_cons, w_set]
  simp [sB, lz]
  refine (dig (k := k + 1) bd (by omega) (by omega)).mono fun r h1 ⟨⟨x, e, x0, x1⟩, bd1, _⟩ => ?_
  subst e
  obtain ⟨c, ec, hc⟩ := sign_at lo_every.1 x0 x1 h1
  simp [ec, thenW]
  exact bt4 (by omega) bd1 hw hc
theorem bt2 {B : Int} {z : Str} (hB : B < 2 ^ 16) (bd : Bd h0 hh p B) (hz : Lo 100 z) (h0z : 0 < z.length) :
    (evS gT (cal (k + 3)) b12l0t2 (envB sc x3 a b (some (.loc p)) (some (.str z)) x9 x10 x11 x12 x13) hh).W (endB sc h0) := by
  have lz : z.length ≤ sizeLine := Nat.le_trans hz.1 (by decide)
  have hz1 := hz.1
  unfold b12l0t2
  rw [w_cons, w_set]
  simp [tkOf, mId]
  refine (dig (k := k + 1) bd (by omega) (by omega)).mono fun r h1 ⟨⟨x, e, x0, x1⟩, bd1, _⟩ => ?_
  subst e
  simp
  rw [if_pos (by omega)]
  simp
  have lr : (rngD 0 x.toNat).length = x.toNat := by unfold rngD; simp
  refine ⟨by rw [lr]; exact Nat.le_trans (by omega : x.toNat ≤ 11) (by decide), ?_⟩
  refine w_compL (fun acc i h' => Bd h0 h' p (B + 1 + i) ∧ ∃ ss : List Str, acc = ss.map .str ∧ ss.length = i ∧ ∀ s ∈ ss, Lo 1 s) _ [] 0 h1 _ ⟨by simpa using bd1, [], rfl, rfl, fun s hs => absurd hs (by simp)⟩ (fun _ _ h' _ => chk_nil h') (fun j d acc h' hj ⟨bd', ss, ea, el, hs⟩ => ?_) fun ys h' ⟨bd', ss, ea, el, hs⟩ => ?_
  · obtain ⟨hj1, rfl⟩ := mem_rng hj
    refine ⟨_, rfl, ?_⟩
    simp [wipeE, sB, lz]
    refine (dig (k := k + 1) bd' (by omega) (by omega)).mono fun r h2 ⟨⟨y, e, y0, y1⟩, bd2, _⟩ => ?_
    subst e
    obtain ⟨c, ec, hc⟩ := sign_at hz y0 y1 h2
    simp [ec]
    refine ⟨?_, ss ++ [⟨#[c]⟩], by rw [ea]; simp, by simp [el], fun s hs' => ?_⟩
    · have : B + 1 + (((0 + j : Nat) : Int)) + 1 = B + 1 + ((j : Int) + 1) := by omega
      rw [this] at bd2
      exact bd2
    · rcases List.mem_append.mp hs' with q | q
      · exact hs s q
      · rw [List.mem_singleton.mp q]
        exact lo_one hc
  · have ea : ys = ss.map .str := ea
    subst ea
    have l11 : ss.length ≤ 10 := by rw [el, lr]; omega
    have sl : ∀ tt : List Str, (∀ s ∈ tt, Lo 1 s) → (tt.map (·.length)).sum ≤ tt.length := by
      intro tt
      induction tt with
      | nil => intro _; simp
      | cons t r ih =>
        intro q
        have := ih fun s hs => q s (List.mem_cons_of_mem _ hs)
        have := (q t (List.mem_cons_self ..)).1
        simp
        omega
    have sum := sl ss hs
    have e0 : (Str.ofString "").length = 0 := rfl
    have hi : itemsOf (h' ++ [.lst (ss.map .str)]) h'.length = some (ss.map .str) := itemsEnd _ _
    have hj : sM .join .str (.str (Str.ofString "")) [.loc h'.length] (h' ++ [.lst (ss.map .str)]) = some (.str (Txt.join (Str.ofString "") ss), h' ++ [.lst (ss.map .str)]) := by
      simp only [sM, seqOf, hi, Option.bind_some, mapO_str]
      rw [if_pos (by rw [e0]; omega)]
    simp [hj, thenW]
    refine bt3 (B := B + 1 + ss.length) (by omega) ?_ ⟨?_, fun c hc => ?_⟩
    · rw [el]
      exact bd'.on (Gr.app _ _)
    · rw [TL.join_eq]
      exact Nat.le_trans (StrLaws.join_length_le _ ss) (by rw [e0]; omega)
    · have hc : c ∈ TL.tl (Txt.join (Str.ofString "") ss) := hc
      rw [TL.join_eq, TL.tl_join] at hc
      rcases joinL_mem hc with q | ⟨l, hl, q⟩
      · exact absurd q (by simp [TL.tl_ofString])
      · obtain ⟨s, hs', rfl⟩ := List.mem_map.mp hl
        exact (hs s hs').2 c q
theorem bt1 {B : Int} (hB : B < 2 ^ 15) (bd : Bd h0 hh p B) :
    (evS gT (cal (k + 3)) b12l0t1 (envB sc x3 a b (some (.loc p)) x8 x9 x10 x11 x12 x13) hh).W (endB sc h0) := by
  unfold b12l0t1
  rw [w_cons, w_set]
  simp
  generalize hL : [Str.ofString "abcdefghijklmnopqrstuvwxyz", Str.ofString "0123456789", Str.ofString "a1 -", every] = L
  have hL' : [D.str (Str.ofString "abcdefghijklmnopqrstuvwxyz"), .str (Str.ofString "0123456789"), .str (Str.ofString "a1 -"), .str every] = L.map .str := by rw [← hL]; rfl
  rw [hL']
  have e1 := getEnd hh (.lst (L.map .str))
  refine (dig (k := k + 1) (bd.on (Gr.app _ [.lst (L.map .str)])) (by omega) (by omega)).mono fun r h2 ⟨⟨x, e, x0, x1⟩, bd2, kl, kp, _⟩ => ?_
  subst e
  obtain ⟨d, ed, md⟩ := atI_in (xs := L.map D.str) x0 (by rw [← hL]; simpa using x1)
  obtain ⟨z, hz, rfl⟩ := List.mem_map.mp (List.mem_of_getElem? md)
  simp [sIdx, kl _ _ e1, ed, thenW]
  have : Lo 100 z ∧ 0 < z.length := by
    rw [← hL] at hz
    simp only [List.mem_cons, List.not_mem_nil, or_false] at hz
    rcases hz with rfl | rfl | rfl | rfl
    · exact ⟨lo_of (by decide +kernel), by decide +kernel⟩
    · exact ⟨lo_of (by decide +kernel), by decide +kernel⟩
    · exact ⟨lo_of (by decide +kernel), by decide +kernel⟩
    · exact lo_every
  exact bt2 (by omega) bd2 this.1 this.2
theorem bt0 {i c : Int} (hi : 0 ≤ i ∧ i ≤ 100) : (evS gT (cal (k + 3)) b12l0 (envB sc x3 (.int i) (.int c) x7 x8 x9 x10 x11 x12 x13) h0).W (endB sc h0) := by
  unfold b12l0
  rw [w_cons, w_set]
  simp
  refine (r_draw (k := k + 1) (by omega)).mono fun r h1 ⟨l, s, e1, e2⟩ => ?_
  subst e1 e2
  simp only [thenW]
  exact bt1 (B := i) (by omega) ⟨Gr.app _ _, ⟨l, s, i, getEnd _ _, hi.1, Int.le_refl _⟩, Nat.le_refl _⟩
end
end Ev.Tx

namespace Ev.Tx
open PySem PySem.Spec PyProof.Rows L2 Ev
variable {h : Hh} {k : Nat}
theorem enum_get : ∀ (xs : List D) (i j : Nat) (d : D), (enumD i xs)[j]? = some d → ∃ x, xs[j]? = some x ∧ d = .tup [.int ((i + j : Nat) : Int), x]
  | [], i, j, d, e => by simp [enumD] at e
  | x :: r, i, 0, d, e => by
    cases e
    exact ⟨x, rfl, rfl⟩
  | x :: r, i, j + 1, d, e => by
    obtain ⟨y, e1, e2⟩ := enum_get r (i + 1) j d (by simpa [enumD] using e)
    refine ⟨y, by simpa using e1, ?_⟩
    rw [e2, show i + 1 + j = i + (j + 1) by omega]
theorem len_cut (ns : List Int) : (cutD (ns.map .int) none (some 12)).length ≤ 12 := by
  unfold cutD
  rw [List.length_take]
  simp [HT.sIx]
  omega
theorem mem_cut {xs : List D} {lo hi : Option Int} {d : D} (q : d ∈ cutD xs lo hi) : d ∈ xs := by
  unfold cutD at q
  exact List.mem_of_mem_drop (List.mem_of_mem_take q)
structure RowF (row : Str) (ab : List Str) (m5 : Str) : Prop where
  g1 : gapB row = false
  g2 : gapB (row ++ Str.ofString " ") = true
  sp : Txt.split row (Str.ofString " ") = ab
  len : row.length ≤ 20000
  mul : ∀ h : Hh, sBin .Mult (.loc h.length) (.int 6000) (h ++ [.lst [.str (Str.ofString "ab")]]) = some (.loc (h.length + 1), h ++ [.lst [.str (Str.ofString "ab")], .lst (ab.map .str)])
  cp : ∀ z ∈ ab, cpOk z
  ma : ∀ h : Hh, sBin .Mult (.str (Str.ofString "a")) (.int 5000) h = some (.str m5, h)
  l5 : m5.length = 5000
  jo : ∀ h : Hh, sM .join .str (.str (Str.ofString " ")) [.loc (h.length + 1)] (h ++ [.lst [.str (Str.ofString "ab")], .lst (ab.map .str)]) = some (.str row, h ++ [.lst [.str (Str.ofString "ab")], .lst (ab.map .str)])
theorem fin6 {row m5 : Str} {ab : List Str} (F : RowF row ab m5) {sc great told : D} {es : Nv} (x1 : Option D) : (evS gT (cal (k + 3)) b12t6 ([some sc, x1, some great, some told, some (.str row)] ++ es) h).W (retW fun r _ => r = .bl true) := by
  unfold b12t6
  have lr := F.len
  have l1 : (Str.ofString " ").length = 1 := rfl
  have lm := F.l5
  have big : 30000 ≤ sizeLine := by decide
  have e4 : ([some sc, x1, some great, some told, some (.str row)] ++ es)[4]? = some (some (.str row)) := rfl
  refine w_cons.mpr (w_ret.mpr ?_)
  generalize [some sc, x1, some great, some told, some (.str row)] ++ es = env at e4 ⊢
  simp only [W_and, W_one, W_cmp, W_call, W_acons, W_anil, W_var, e4, Option.some.injEq, exists_eq_left']
  refine (r_words (k := k + 2) (by omega)).mono fun r h1 ⟨g1, q⟩ => ?_
  rw [F.g1, if_neg (by decide)] at q
  obtain ⟨n, rfl, _, en⟩ := q
  have en1 : ∀ t, itemsOf (h1 ++ t) n = some (ab.map .str) := fun t => by
    have z : (h1 ++ t)[n]? = some (.lst (parts row)) := (Gr.app h1 t).get en
    unfold itemsOf
    rw [z]
    show some (parts row) = _
    unfold parts
    rw [show (" " : Str) = Str.ofString " " from rfl, F.sp]
  have hm := F.mul h1
  simp only [W_bin, W_lst, W_acons, W_anil, W_int, W_str, hm, W_lift_some]
  refine ⟨by decide, ?_⟩
  have e2 : itemsOf (h1 ++ [.lst [.str (Str.ofString "ab")], .lst (ab.map .str)]) (h1.length + 1) = some (ab.map .str) := by unfold itemsOf; rw [getAt h1 _ 1]; rfl
  have eq := eqD_strs (m := n) (n := h1.length + 1) (en1 _) e2 F.cp F.cp
  rw [decide_eq_true rfl] at eq
  generalize h1 ++ [.lst [.str (Str.ofString "ab")], .lst (ab.map .str)] = h2 at eq
  simp only [sCmp, bRes, eq, Option.map_some, W_lift_some]
  refine ⟨true, rfl, ?_⟩
  rw [if_pos rfl]
  have hadd : sBin .Add (.str row) (.str (Str.ofString " ")) h2 = some (.str (row ++ Str.ofString " "), h2) := by
    simp only [sBin]
    rw [if_pos (by omega)]
  simp only [W_bin, W_acons, W_anil, W_var, e4, Option.some.injEq, exists_eq_left', W_str, hadd, W_lift_some]
  refine (r_words (k := k + 2) (s := row ++ Str.ofString " ") (by rw [len_app]; omega)).mono fun r h3 ⟨g3, q⟩ => ?_
  rw [F.g2, if_pos rfl] at q
  subst q
  simp only [W_non, isB, Option.map_some, W_lift_some]
  refine ⟨true, rfl, ?_⟩
  rw [if_pos rfl]
  have hx := F.ma h3
  simp only [W_bin, W_str, W_int, hx, W_lift_some, W_anil]
  have hn : nmB m5 = false := by
    unfold nmB
    rw [lm]
    rfl
  refine (r_name (k := k + 2) (by omega)).mono fun r h4 ⟨q, g4⟩ => ?_
  rw [hn] at q
  subst q
  simp only [W_bl, isB, Option.map_some, W_lift_some]
  rfl
theorem fin5 {row m5 : Str} {ab : List Str} (F : RowF row ab m5) {sc great told : D} {es : Nv} (x1 x4 : Option D) : (evS gT (cal (k + 3)) b12t5 ([some sc, x1, some great, some told, x4] ++ es) h).W (retW fun r _ => r = .bl true) := by
  unfold b12t5
  refine w_cons.mpr (w_set.mpr ?_)
  have hm := F.mul h
  simp only [W_mth, W_str, W_acons, W_anil, W_bin, W_lst, W_int, hm, tkOf, Option.some.injEq, exists_eq_left', mId, W_lift_some]
  refine ⟨rfl, by decide, ?_⟩
  rw [F.jo h]
  exact fin6 F x1
theorem fin2 {row m5 : Str} {ab : List Str} (F : RowF row ab m5) {ns : List Int} {e : Nv} (he : EnvB (.scr ns) e) : (evS gT (cal (k + 3)) b12t2 e h).W (retW fun r _ => r = .bl true) := by
  obtain ⟨x3, x5, x6, x7, x8, x9, x10, x11, x12, x13, rfl⟩ := he
  unfold b12t2 b12t3
  rw [w_cons, w_set]
  simp [sBin, sB]
  generalize hg : (10000000000000000000000000000000000000000 : Int) + (if ns.sum < 0 then -ns.sum else ns.sum) = g
  have g0 : 0 < g := by rw [← hg]; split <;> omega
  simp only [thenW]
  rw [w_cons, w_set]
  simp [sBin]
  refine (r_whole (k := k + 2) (t := .int) rfl).mono fun r h1 ⟨e1, e2⟩ => ?_
  subst e1 e2
  refine (r_whole (k := k + 2) (t := .int) rfl).mono fun r h1 ⟨e1, e2⟩ => ?_
  subst e1 e2
  refine (r_among (k := k + 1) (t := .int) rfl).mono fun r h1 ⟨e1, e2⟩ => ?_
  subst e1 e2
  refine (r_among (k := k + 1) (t := .int) rfl).mono fun r h1 ⟨e1, e2⟩ => ?_
  subst e1 e2
  have d1 : decide (g ≤ g - 1) = false := decide_eq_false (by omega)
  have d2 : decide (0 ≤ g) = true := decide_eq_true (by omega)
  simp [thenW, amB, d1, d2]
  unfold b12t4
  rw [w_cons, w_ife]
  obtain ⟨s1, s2⟩ := rr (qs := [.bool true, .bool true, .bool true, .bool false]) "[True, True, True, False]" (by decide +kernel)
  have er := sB_repr (h := h1 ++ [.lst [.bl (whB .int), .bl (whB .int), .bl true, .bl false]]) (n := h1.length) (xs := [.bl (whB .int), .bl (whB .int), .bl true, .bl false]) (itemsEnd _ _) rfl s1
  simp [er, s2, sCmp, eqD, scalD, eqF, bRes, w_nil, thenW]
  exact .inl ⟨s2, fin5 F (es := [x5, x6, x7, x8, x9, x10, x11, x12, x13, none, none]) _ none⟩
def n6 : Nat := 6000
def abs6 : List Str := List.replicate n6 (Str.ofString "ab")
theorem abs_len : abs6.length = n6 := List.length_replicate
theorem abs_ne : abs6 ≠ [] := fun q => by
  have := abs_len
  rw [q] at this
  exact absurd this (by decide)
theorem mul_ab (h : Hh) : sBin .Mult (.loc h.length) (.int 6000) (h ++ [.lst [.str (Str.ofString "ab")]]) = some (.loc (h.length + 1), h ++ [.lst [.str (Str.ofString "ab")], .lst (abs6.map .str)]) := by
  simp only [sBin, getEnd]
  rw [if_pos ⟨by decide, by decide, by decide⟩, List.flatten_replicate_singleton, abs6, List.map_replicate, List.append_assoc, List.length_append]
  rfl
def rowT : Str := Txt.join (Str.ofString " ") abs6
theorem abs_no {p : Str} (hp : p ∈ abs6) : 32 ∉ TL.tl p := by
  rw [List.eq_of_mem_replicate hp]
  decide +kernel
theorem split_row : Txt.split rowT (Str.ofString " ") = abs6 :=
  TL.split_join (s := 32) (S := []) (by decide +kernel) (by decide +kernel) abs_ne fun p hp => abs_no hp
theorem joinL_snoc (S : List Nat) : ∀ ps : List (List Nat), ps ≠ [] → TL.joinL S (ps ++ [[]]) = TL.joinL S ps ++ S
  | [], h => absurd rfl h
  | [p], _ => by
    show p ++ (S ++ []) = p ++ S
    rw [List.append_nil]
  | p :: q :: r, _ => by
    show p ++ (S ++ TL.joinL S (q :: r ++ [[]])) = (p ++ (S ++ TL.joinL S (q :: r))) ++ S
    rw [joinL_snoc S (q :: r) (by simp)]
    simp
theorem row_snoc : rowT ++ Str.ofString " " = Txt.join (Str.ofString " ") (abs6 ++ [Str.ofString ""]) := by
  refine TL.ext_tl ?_
  unfold rowT
  rw [TL.tl_append, TL.join_eq, TL.join_eq, TL.tl_join, TL.tl_join, List.map_append]
  exact (joinL_snoc _ _ (fun q => abs_ne (List.map_eq_nil_iff.mp q))).symm
theorem split_row2 : Txt.split (rowT ++ Str.ofString " ") (Str.ofString " ") = abs6 ++ [Str.ofString ""] := by
  rw [row_snoc]
  refine TL.split_join (s := 32) (S := []) (by decide +kernel) (by decide +kernel) (by simp) fun p hp => ?_
  rcases List.mem_append.mp hp with q | q
  · exact abs_no q
  · rw [List.mem_singleton.mp q]
    decide +kernel
theorem gap1 : gapB rowT = false := by
  unfold gapB parts
  rw [show (" " : Str) = Str.ofString " " from rfl, split_row]
  unfold abs6
  rw [List.map_replicate, List.any_replicate]
  decide +kernel
theorem gap2 : gapB (rowT ++ Str.ofString " ") = true := by
  unfold gapB parts
  rw [show (" " : Str) = Str.ofString " " from rfl, split_row2, List.map_append, List.any_append]
  simp [eqF]
theorem sum_rep (n m : Nat) : (List.replicate n m).sum = n * m := by
  induction n with
  | zero => simp
  | succ n ih => rw [List.replicate_succ, List.sum_cons, ih, Nat.succ_mul]; omega
theorem len_row : rowT.length ≤ 20000 := by
  unfold rowT
  rw [TL.join_eq]
  refine Nat.le_trans (StrLaws.join_length_le _ _) ?_
  unfold abs6
  rw [List.map_replicate, List.length_replicate, sum_rep]
  decide +kernel
theorem size_mul (a : Array Nat) : ∀ (n : Nat) (acc : Array Nat), ((List.replicate n a).foldl (· ++ ·) acc).size = acc.size + n * a.size
  | 0, acc => by simp
  | n + 1, acc => by
    rw [List.replicate_succ, List.foldl_cons, size_mul a n, Array.size_append, Nat.succ_mul]
    omega
theorem len_a5 : (Txt.mul (Str.ofString "a") 5000).length = 5000 := by
  unfold Txt.mul
  rw [if_neg (by decide), if_neg (by decide +kernel)]
  show (Array.size _) = _
  rw [size_mul]
  decide +kernel
theorem cp_abs : ∀ z ∈ abs6, cpOk z := fun z hz => by
  rw [List.eq_of_mem_replicate hz]
  exact (lo_of (by decide +kernel : lowB (Str.ofString "ab") = true)).cp
theorem rowF : RowF rowT abs6 (Txt.mul (Str.ofString "a") 5000) where
  g1 := gap1
  g2 := gap2
  sp := split_row
  len := len_row
  mul := mul_ab
  cp := cp_abs
  ma := fun h => by
    simp only [sBin]
    rw [if_pos ⟨by decide, by decide, by decide +kernel⟩]
  l5 := len_a5
  jo := fun h => by
    simp only [sM, seqOf]
    have : itemsOf (h ++ [.lst [.str (Str.ofString "ab")], .lst (abs6.map .str)]) (h.length + 1) = some (abs6.map .str) := by unfold itemsOf; rw [getAt h _ 1]; rfl
    simp only [this, Option.bind_some, mapO_str]
    rw [if_pos (by
      unfold abs6
      rw [List.map_replicate, List.length_replicate, sum_rep]
      decide +kernel)]
    rfl
theorem runs : ∀ ns : List Int, ns.length ≤ 63 → ∃ h, callK gT (fdOf ds) 20 8 [.scr ns] [] = .ok (.bl true) h := by
  intro ns hn
  have : (cal 20 8 [.scr ns] []).W fun r _ => r = .bl true := by
    refine w_callK (fd := d12.fd) rfl rfl ?_
    show (evS gT (cal 19) b12 (start0 d12.fd [.scr ns]) []).W _
    unfold b12 b12t1
    rw [w_cons, w_set]
    simp [start0, d12, thenW]
    rw [w_cons, w_for]
    simp [sSlc, sB, sBin]
    generalize hL : cutD (ns.map .int) none (some 12) = L
    have lL : L.length ≤ 12 := by rw [← hL]; exact len_cut ns
    have hq : L.length + 1 ≤ sizeLine := Nat.le_trans (by omega : L.length + 1 ≤ 13) (by decide)
    have iL : ∀ d ∈ L ++ [D.int ns.sum], ∃ c, d = .int c := by
      intro d hd
      rcases List.mem_append.mp hd with q | q
      · rw [← hL] at q
        obtain ⟨c, _, e⟩ := List.mem_map.mp (mem_cut q)
        exact ⟨c, e.symm⟩
      · exact ⟨_, List.mem_singleton.mp q⟩
    simp [hq]
    have eI : itemsOf [.lst L, .lst [.int ns.sum], .lst (L ++ [.int ns.sum])] 2 = some (L ++ [.int ns.sum]) := rfl
    rw [eI]
    simp
    refine w_forL (fun _ e h' => EnvB (.scr ns) e ∧ itemsOf h' 2 = some (L ++ [.int ns.sum])) _ 0 _ _ ⟨⟨_, _, _, _, _, _, _, _, _, _, rfl⟩, eI⟩ (fun j e h' q => ?_) (fun j d e h' hj hI => ?_) (fun e h' hI => ?_)
    · intro y hy
      cases List.mem_singleton.mp hy
      exact q.2
    · obtain ⟨⟨x3, x5, x6, x7, x8, x9, x10, x11, x12, x13, rfl⟩, ei⟩ := hI
      obtain ⟨x, ex, rfl⟩ := enum_get _ _ _ _ hj
      obtain ⟨c, rfl⟩ := iL x (List.mem_of_getElem? ex)
      have hj2 : j < (L ++ [D.int ns.sum]).length := (List.getElem?_eq_some_iff.mp ex).1
      refine ⟨_, rfl, ?_⟩
      refine (bt0 (k := 16) (sc := .scr ns) (x3 := x3) (i := ((0 + j : Nat) : Int)) (c := c) (by simp at hj2; omega)).mono fun fl e h2 ⟨q1, q2, q3⟩ => ?_
      subst q1
      exact ⟨q2, q3.items ei⟩
    · simp only [thenW]
      exact (fin2 (k := 16) rowF hI.1)
  obtain ⟨a, h, e, q⟩ := this.ex
  subst q
  exact ⟨h, e⟩
end Ev.Tx

namespace Ev.Tx
open PySem PySem.Spec PyProof.Rows L2 Ev
theorem all_ok : ∀ d ∈ ds, Dn.ok gn (ds.map (·.x)) d = true := by
  have e : ds.map (·.x) = fnn := rfl
  rw [e]
  intro d hd
  simp only [ds, List.mem_cons, List.not_mem_nil, or_false] at hd
  rcases hd with rfl | rfl | rfl | rfl | rfl | rfl | rfl | rfl | rfl
  · exact ok3
  · exact ok4
  · exact ok5
  · exact ok6
  · exact ok8
  · exact ok9
  · exact ok10
  · exact ok11
  · exact ok12
theorem mem_ds {P : Dn → Prop} (h3 : P d3) (h4 : P d4) (h5 : P d5) (h6 : P d6) (h8 : P d8) (h9 : P d9) (h10 : P d10) (h11 : P d11) (h12 : P d12) : ∀ d ∈ ds, P d := by
  intro d hd
  simp only [ds, List.mem_cons, List.not_mem_nil, or_false] at hd
  rcases hd with rfl | rfl | rfl | rfl | rfl | rfl | rfl | rfl | rfl
  · exact h3
  · exact h4
  · exact h5
  · exact h6
  · exact h8
  · exact h9
  · exact h10
  · exact h11
  · exact h12
end Ev.Tx
open PySem PySem.W PyProof.Rows
set_option maxHeartbeats 0 in
theorem PySem.Challenge.cw_steadyhall_k01_words_holds : PySem.Challenge.rw_steadyhall_k01_words.Holds := by
  w_on; o_law; k_head; (case hw => w_witness2)
  k_fill
  refine Ev.walk_E (l := PySem.Challenge.rw_steadyhall_k01_words) (n := 63) (k := 20) (j := 8) (T := Ev.Tx.gT) (gn := Ev.Tx.gn) (ds := Ev.Tx.ds) (dn := Ev.Tx.d12) (x := "_law_script") rfl (by decide) rfl ⟨rfl, by decide, by decide⟩ (fun w h Y => PySem.W.kIn_of Y) Ev.Tx.all_ok rfl rfl rfl Ev.Tx.runs ?F
  case F =>
    intro w
    refine ⟨?b, ?g, ?f⟩
    case b =>
      intro x hx
      simp only [Ev.bltNames, List.mem_cons, List.not_mem_nil, or_false] at hx
      rcases hx with rfl | rfl | rfl | rfl | rfl | rfl | rfl | rfl | rfl | rfl | rfl | rfl | rfl | rfl | rfl <;> k_is
    case g =>
      intro j x hx
      match j, hx with
      | 0, hx => cases hx; exact ⟨_, rfl, Ev.hasC_str (by k_is)⟩
      | 1, hx => cases hx; exact ⟨_, rfl, Ev.hasC_int (by k_is)⟩
      | n + 2, hx => simp [Ev.Tx.gn] at hx
    case f =>
      refine Ev.Tx.mem_ds ?f3 ?f4 ?f5 ?f6 ?f8 ?f9 ?f10 ?f11 ?f12
      case f3 => (refine' Ev.hasDef_mk (d := Ev.Tx.d3) ?a ?l ?c ?k fun _ _ _ _ _ _ us hl => match us, hl with | [_], _ => rfl); (case a => k_is); (case l => k_is); (case c => k_is); (case k => k_is)
      case f4 => (refine' Ev.hasDef_mk (d := Ev.Tx.d4) ?a ?l ?c ?k fun _ _ _ _ _ _ us hl => match us, hl with | [_, _, _], _ => rfl); (case a => k_is); (case l => k_is); (case c => k_is); (case k => k_is)
      case f5 => (refine' Ev.hasDef_mk (d := Ev.Tx.d5) ?a ?l ?c ?k fun _ _ _ _ _ _ us hl => match us, hl with | [_], _ => rfl); (case a => k_is); (case l => k_is); (case c => k_is); (case k => k_is)
      case f6 => (refine' Ev.hasDef_mk (d := Ev.Tx.d6) ?a ?l ?c ?k fun _ _ _ _ _ _ us hl => match us, hl with | [_], _ => rfl); (case a => k_is); (case l => k_is); (case c => k_is); (case k => k_is)
      case f8 => (refine' Ev.hasDef_mk (d := Ev.Tx.d8) ?a ?l ?c ?k fun _ _ _ _ _ _ us hl => match us, hl with | [_, _], _ => rfl); (case a => k_is); (case l => k_is); (case c => k_is); (case k => k_is)
      case f9 => (refine' Ev.hasDef_mk (d := Ev.Tx.d9) ?a ?l ?c ?k fun _ _ _ _ _ _ us hl => match us, hl with | [_, _], _ => rfl); (case a => k_is); (case l => k_is); (case c => k_is); (case k => k_is)
      case f10 => (refine' Ev.hasDef_mk (d := Ev.Tx.d10) ?a ?l ?c ?k fun _ _ _ _ _ _ us hl => match us, hl with | [_, _], _ => rfl); (case a => k_is); (case l => k_is); (case c => k_is); (case k => k_is)
      case f11 => (refine' Ev.hasDef_mk (d := Ev.Tx.d11) ?a ?l ?c ?k fun _ _ _ _ _ _ us hl => match us, hl with | [_], _ => rfl); (case a => k_is); (case l => k_is); (case c => k_is); (case k => k_is)
      case f12 => (refine' Ev.hasDef_mk (d := Ev.Tx.d12) ?a ?l ?c ?k fun _ _ _ _ _ _ us hl => match us, hl with | [_], _ => rfl); (case a => k_is); (case l => k_is); (case c => k_is); (case k => k_is)

