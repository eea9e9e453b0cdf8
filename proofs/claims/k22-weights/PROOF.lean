import PyProof.Rows.All
import PySem.Challenge.RW_digworks_k22_weights_and_units
import Wide.All
import OpenK.AllK
import Wide.FinOn
import HandS.ForMost
import HandS.Zip
import HandS.Conv
import HandS.Flow
import HandS.IsInst
import HandS.SortOrd
import KE.DataEq
import KE.DataCmp
import KE.DataMinMax
import KE.SortData
import KE.DatumOrd
import HandS.TupAny
import HandS.TupMul
import HandS.Deep
import HandS.Gcd
import HandS.TupLen
import HandS.Style
set_option Elab.async false
set_option linter.all false
set_option maxRecDepth 100000
set_option maxHeartbeats 4000000
namespace FL
open PySem PySem.Spec PyProof.Rows L2

abbrev St := L2.St
abbrev Rg := Addr → Prop
def FzL (H : Hp) (S : Rg) (a : Addr) (xs : List V) : Prop := S a ∧ H a = some (.lst xs)
theorem FzL.sq {K : PySem.W.Frag} {H : Hp} {S : Rg} {a : Addr} {xs : List V} (h : FzL H S a xs) : SqL K H a xs := .inl (.inl h.2)

def keyD : Key → PyData
  | .inl i => .int i
  | .inr x => .str x

mutual
/-- v stands for the datum d; what it is made of lies in S -/
inductive Rep (K : PySem.W.Frag) (H : Hp) (S : Rg) : V → PyData → Prop
  | non : Rep K H S .non .none
  | bl (b : Bool) : Rep K H S (.bl b) (.bool b)
  | int (i : Int) : Rep K H S (.int i) (.int i)
  | str (x : Str) : Rep K H S (.str x) (.str x)
  | lst {a : Addr} {xs : List V} {ds : List PyData} : FzL H S a xs → RepAll K H S xs ds → Rep K H S (.ref a) (.list ds)
  | tup {a : Addr} {xs : List V} {ds : List PyData} : H a = some (.tup xs) → RepAll K H S xs ds → Rep K H S (.ref a) (.tuple ds)
  | dK {a : Addr} {kk : List (Key × V)} {ds : List (PyData × PyData)} : S a → Rd H a (.dK kk) → RepKs K H S kk ds → Rep K H S (.ref a) (.dict ds)
  | dT {a : Addr} {kk : List (List Key × V)} {ds : List (PyData × PyData)} : S a → Rd H a (.dT kk) → RepTs K H S kk ds → Rep K H S (.ref a) (.dict ds)
inductive RepAll (K : PySem.W.Frag) (H : Hp) (S : Rg) : List V → List PyData → Prop
  | nil : RepAll K H S [] []
  | cons {v : V} {vs : List V} {d : PyData} {ds : List PyData} : Rep K H S v d → RepAll K H S vs ds → RepAll K H S (v :: vs) (d :: ds)
inductive RepKs (K : PySem.W.Frag) (H : Hp) (S : Rg) : List (Key × V) → List (PyData × PyData) → Prop
  | nil : RepKs K H S [] []
  | cons {k : Key} {v : V} {vs : List (Key × V)} {d : PyData} {ds : List (PyData × PyData)} : Rep K H S v d → RepKs K H S vs ds → RepKs K H S ((k, v) :: vs) ((keyD k, d) :: ds)
inductive RepTs (K : PySem.W.Frag) (H : Hp) (S : Rg) : List (List Key × V) → List (PyData × PyData) → Prop
  | nil : RepTs K H S [] []
  | cons {k : List Key} {v : V} {vs : List (List Key × V)} {d : PyData} {ds : List (PyData × PyData)} : Rep K H S v d → RepTs K H S vs ds → RepTs K H S ((k, v) :: vs) ((.tuple (k.map keyD), d) :: ds)
end

section
variable {K : PySem.W.Frag} {H H' : Hp} {S S' : Rg}
structure Up (H : Hp) (S : Rg) (H' : Hp) (S' : Rg) : Prop where
  sub : ∀ a, S a → S' a
  rd : ∀ a u, S a → Rd H a u → Rd H' a u
  tp : ∀ a xs, H a = some (.tup xs) → H' a = some (.tup xs)
  ls : ∀ a xs, S a → H a = some (.lst xs) → H' a = some (.lst xs)
theorem FzL.up {a : Addr} {xs : List V} (u : Up H S H' S') (h : FzL H S a xs) : FzL H' S' a xs := ⟨u.sub a h.1, u.ls a _ h.1 h.2⟩
mutual
theorem Rep.up (u : Up H S H' S') : ∀ {v : V} {d : PyData}, Rep K H S v d → Rep K H' S' v d
  | _, _, .non => .non
  | _, _, .bl b => .bl b
  | _, _, .int i => .int i
  | _, _, .str x => .str x
  | _, _, .lst h r => .lst (h.up u) (RepAll.up u r)
  | _, _, .tup h r => .tup (u.tp _ _ h) (RepAll.up u r)
  | _, _, .dK s h r => .dK (u.sub _ s) (u.rd _ _ s h) (RepKs.up u r)
  | _, _, .dT s h r => .dT (u.sub _ s) (u.rd _ _ s h) (RepTs.up u r)
theorem RepAll.up (u : Up H S H' S') : ∀ {v : List V} {d : List PyData}, RepAll K H S v d → RepAll K H' S' v d
  | _, _, .nil => .nil
  | _, _, .cons h r => .cons (Rep.up u h) (RepAll.up u r)
theorem RepKs.up (u : Up H S H' S') : ∀ {v : List (Key × V)} {d : List (PyData × PyData)}, RepKs K H S v d → RepKs K H' S' v d
  | _, _, .nil => .nil
  | _, _, .cons h r => .cons (Rep.up u h) (RepKs.up u r)
theorem RepTs.up (u : Up H S H' S') : ∀ {v : List (List Key × V)} {d : List (PyData × PyData)}, RepTs K H S v d → RepTs K H' S' v d
  | _, _, .nil => .nil
  | _, _, .cons h r => .cons (Rep.up u h) (RepTs.up u r)
end
theorem Up.refl : Up H S H S := ⟨fun _ h => h, fun _ _ _ h => h, fun _ _ h => h, fun _ _ _ h => h⟩
theorem Up.trans {H1 : Hp} {S1 : Rg} (a : Up H S H1 S1) (b : Up H1 S1 H' S') : Up H S H' S' := ⟨fun x h => b.sub x (a.sub x h), fun x u h r => b.rd x u (a.sub x h) (a.rd x u h r), fun x u r => b.tp x u (a.tp x u r), fun x u h r => b.ls x u (a.sub x h) (a.ls x u h r)⟩

theorem RepAll.length : ∀ {v : List V} {d : List PyData}, RepAll K H S v d → v.length = d.length
  | _, _, .nil => rfl
  | _, _, .cons _ r => congrArg (· + 1) (RepAll.length r)
theorem RepAll.get : ∀ {v : List V} {d : List PyData} {i : Nat} {x : PyData}, RepAll K H S v d → d[i]? = some x → ∃ y, v[i]? = some y ∧ Rep K H S y x
  | _, _, _, _, .nil, e => by simp at e
  | _, _, 0, _, .cons h _, e => by simp at e; subst e; exact ⟨_, rfl, h⟩
  | _, _, i + 1, _, .cons _ r, e => by
    obtain ⟨y, h1, h2⟩ := RepAll.get (i := i) r (by simpa using e)
    exact ⟨y, by simpa using h1, h2⟩
theorem RepAll.getV : ∀ {v : List V} {d : List PyData} {i : Nat} {y : V}, RepAll K H S v d → v[i]? = some y → ∃ x, d[i]? = some x ∧ Rep K H S y x
  | _, _, _, _, .nil, e => by simp at e
  | _, _, 0, _, .cons h _, e => by simp at e; subst e; exact ⟨_, rfl, h⟩
  | _, _, i + 1, _, .cons _ r, e => by
    obtain ⟨y, h1, h2⟩ := RepAll.getV (i := i) r (by simpa using e)
    exact ⟨y, by simpa using h1, h2⟩
theorem RepAll.append : ∀ {v v' : List V} {d d' : List PyData}, RepAll K H S v d → RepAll K H S v' d' → RepAll K H S (v ++ v') (d ++ d')
  | _, _, _, _, .nil, s => s
  | _, _, _, _, .cons h r, s => .cons h (RepAll.append r s)
theorem RepAll.take : ∀ {v : List V} {d : List PyData} (n : Nat), RepAll K H S v d → RepAll K H S (v.take n) (d.take n)
  | _, _, 0, _ => .nil
  | _, _, _ + 1, .nil => .nil
  | _, _, n + 1, .cons h r => .cons h (RepAll.take n r)
theorem RepAll.drop : ∀ {v : List V} {d : List PyData} (n : Nat), RepAll K H S v d → RepAll K H S (v.drop n) (d.drop n)
  | _, _, 0, r => r
  | _, _, _ + 1, .nil => .nil
  | _, _, n + 1, .cons _ r => RepAll.drop n r
theorem RepAll.set {y : V} {x : PyData} (q : Rep K H S y x) : ∀ {v : List V} {d : List PyData} (n : Nat), RepAll K H S v d → RepAll K H S (v.set n y) (d.set n x)
  | _, _, _, .nil => .nil
  | _, _, 0, .cons _ r => .cons q r
  | _, _, n + 1, .cons h r => .cons h (RepAll.set q n r)
theorem RepAll.ints : ∀ {v : List V} {ns : List Int}, RepAll K H S v (ns.map .int) → v = ns.map V.int
  | _, [], .nil => rfl
  | _, _ :: _, .cons h r => by cases h; rw [List.map_cons, RepAll.ints r]
theorem RepAll.bls : ∀ {v : List V} {ns : List Bool}, RepAll K H S v (ns.map .bool) → v = ns.map V.bl
  | _, [], .nil => rfl
  | _, _ :: _, .cons h r => by cases h; rw [List.map_cons, RepAll.bls r]
theorem RepAll.ofInts : ∀ (ns : List Int), RepAll K H S (ns.map V.int) (ns.map .int)
  | [] => .nil
  | i :: r => .cons (.int i) (RepAll.ofInts r)
end

/-! ### the local names -/
inductive Sl where
  | un
  | val (d : PyData)
  | own (d : PyData)
abbrev Ev := List Sl

/-- a container that one name alone holds -/
def Own (K : PySem.W.Frag) (H : Hp) (S : Rg) (a : Addr) : PyData → Prop
  | .list ds => ∃ xs, H a = some (.lst xs) ∧ RepAll K H S xs ds
  | .dict kvs => (∃ kk, H a = some (.dK kk) ∧ RepKs K H S kk kvs) ∨ ∃ kk, H a = some (.dT kk) ∧ RepTs K H S kk kvs
  | _ => False
def OwnAt (σ : St) (e : Ev) (a : Addr) : Prop := ∃ (i : Nat) (d : PyData), e[i]? = some (.own d) ∧ σ[i]? = some (some (.ref a))
structure Ok (K : PySem.W.Frag) (S : Rg) (σ : St) (H : Hp) (e : Ev) : Prop where
  len : e.length = σ.length
  all : ∀ a, S a → H a ≠ none
  val : ∀ (i : Nat) (d : PyData), e[i]? = some (.val d) → ∃ v, σ[i]? = some (some v) ∧ Rep K H S v d
  own : ∀ (i : Nat) (d : PyData), e[i]? = some (.own d) → ∃ a, σ[i]? = some (some (.ref a)) ∧ ¬ S a ∧ Own K H S a d
  inj : ∀ (i j : Nat) (d d' : PyData) (a : Addr), e[i]? = some (.own d) → e[j]? = some (.own d') → σ[i]? = some (some (.ref a)) → σ[j]? = some (some (.ref a)) → i = j

/-- what an expression may do -/
structure Step (σ : St) (S : Rg) (H : Hp) (e : Ev) (S' : Rg) (H' : Hp) (e' : Ev) : Prop where
  up : Up H S H' S'
  new : ∀ a, S' a → S a ∨ H a = none ∨ OwnAt σ e a
  keep : ∀ a o, H a = some o → ¬ S a → ¬ OwnAt σ e a → H' a = some o
  mono : ∀ a, H a ≠ none → H' a ≠ none
  own : ∀ a, OwnAt σ e' a → OwnAt σ e a
section
variable {K : PySem.W.Frag} {σ : St} {S S1 S' : Rg} {H H1 H' : Hp} {e e1 e' : Ev} {a : Addr}
theorem Own.there {d : PyData} (h : Own K H S a d) : H a ≠ none := by
  cases d with
  | list ds => obtain ⟨xs, q, _⟩ := h; rw [q]; exact fun z => nomatch z
  | dict kvs =>
    rcases h with ⟨kk, q, _⟩ | ⟨kk, q, _⟩ <;> (rw [q]; exact fun z => nomatch z)
  | _ => exact h.elim
theorem Own.up {d : PyData} (u : Up H S H' S') (k : H' a = H a) (h : Own K H S a d) : Own K H' S' a d := by
  cases d with
  | list ds => obtain ⟨xs, q, r⟩ := h; exact ⟨xs, k.trans q, r.up u⟩
  | dict kvs =>
    rcases h with ⟨kk, q, r⟩ | ⟨kk, q, r⟩
    · exact .inl ⟨kk, k.trans q, r.up u⟩
    · exact .inr ⟨kk, k.trans q, r.up u⟩
  | _ => exact h.elim
theorem Ok.notS (h : Ok K S σ H e) (o : OwnAt σ e a) : ¬ S a ∧ H a ≠ none := by
  obtain ⟨i, d, h1, h2⟩ := o
  obtain ⟨b, h3, h4, h5⟩ := h.own i d h1
  rw [h2] at h3; cases h3
  exact ⟨h4, h5.there⟩
theorem Step.refl : Step σ S H e S H e := ⟨.refl, fun _ h => .inl h, fun _ _ h _ _ => h, fun _ h => h, fun _ h => h⟩
theorem Step.trans (h0 : Ok K S σ H e) (x : Step σ S H e S1 H1 e1) (y : Step σ S1 H1 e1 S' H' e') : Step σ S H e S' H' e' := by
  refine ⟨x.up.trans y.up, fun a q => ?_, fun a o q n m => ?_, fun a q => y.mono a (x.mono a q), fun a q => x.own a (y.own a q)⟩
  · rcases y.new a q with q | q | q
    · exact x.new a q
    · refine .inr (.inl ?_)
      cases z : H a with
      | none => rfl
      | some o => exact absurd q (x.mono a (by rw [z]; exact fun w => nomatch w))
    · exact .inr (.inr (x.own a q))
  · have q1 := x.keep a o q n m
    refine y.keep a o q1 (fun z => ?_) (fun z => m (x.own a z))
    rcases x.new a z with z | z | z
    · exact n z
    · rw [q] at z; cases z
    · exact m z
/-- a new object -/
theorem Ok.alloc {p : Addr} {o : HO} (h : Ok K S σ H e) (hp : H p = none) : Ok K S σ (upd H p o) e ∧ Step σ S H e S (upd H p o) e := by
  have u : Up H S (upd H p o) S := ⟨fun _ h => h, fun a w _ r => by
    have np : a ≠ p := fun z => by subst z; rcases r with r | ⟨_, r⟩ <;> (rw [hp] at r; cases r)
    unfold Rd; rw [upd_ne np]; exact r, fun a xs r => by rw [upd_ne (ne_of_none r hp)]; exact r, fun a xs _ r => by rw [upd_ne (ne_of_none r hp)]; exact r⟩
  have ne : ∀ a, H a ≠ none → a ≠ p := fun a q z => q (by rw [z]; exact hp)
  refine ⟨⟨h.len, fun a s => ?_, fun i d q => ?_, fun i d q => ?_, h.inj⟩, ⟨u, fun _ q => .inl q, fun a w q _ _ => ?_, fun a q => ?_, fun _ q => q⟩⟩
  · rw [upd_ne (ne a (h.all a s))]; exact h.all a s
  · obtain ⟨v, q1, q2⟩ := h.val i d q
    exact ⟨v, q1, q2.up u⟩
  · obtain ⟨a, q1, q2, q3⟩ := h.own i d q
    exact ⟨a, q1, q2, q3.up u (upd_ne (ne a q3.there))⟩
  · rw [upd_ne (ne a (by rw [q]; exact fun z => nomatch z))]; exact q
  · rw [upd_ne (ne a q)]; exact q
/-- an object of nobody's is from now on in S -/
theorem Ok.freeze (h : Ok K S σ H e) (hp : H a ≠ none) (hn : ¬ OwnAt σ e a) : Ok K (fun b => S b ∨ b = a) σ H e := by
  have u : Up H S H (fun b => S b ∨ b = a) := ⟨fun _ q => .inl q, fun _ _ _ r => r, fun _ _ r => r, fun _ _ _ r => r⟩
  refine ⟨h.len, fun b s => ?_, fun i d q => ?_, fun i d q => ?_, h.inj⟩
  · rcases s with s | s
    · exact h.all b s
    · subst s; exact hp
  · obtain ⟨v, q1, q2⟩ := h.val i d q
    exact ⟨v, q1, q2.up u⟩
  · obtain ⟨b, q1, q2, q3⟩ := h.own i d q
    refine ⟨b, q1, fun z => ?_, q3.up u rfl⟩
    rcases z with z | z
    · exact q2 z
    · subst z; exact hn ⟨i, d, q, q1⟩
theorem Own.rep {d : PyData} (h : Own K H S a d) (u : Up H S H S') (s : S' a) : Rep K H S' (.ref a) d := by
  cases d with
  | list ds => obtain ⟨xs, q, r⟩ := h; exact .lst ⟨s, q⟩ (r.up u)
  | dict kvs =>
    rcases h with ⟨kk, q, r⟩ | ⟨kk, q, r⟩
    · exact .dK s (.inl q) (r.up u)
    · exact .dT s (.inl q) (r.up u)
  | _ => exact h.elim
theorem Up.more : Up H S H (fun b => S b ∨ b = a) := ⟨fun _ q => .inl q, fun _ _ _ r => r, fun _ _ r => r, fun _ _ _ r => r⟩
theorem setE {e : Ev} {i j : Nat} {x y : Sl} (h : (e.set i x)[j]? = some y) : (j = i ∧ x = y) ∨ (j ≠ i ∧ e[j]? = some y) := by
  by_cases q : j = i
  · subst q
    by_cases l : j < e.length
    · rw [List.getElem?_set_self l] at h; exact .inl ⟨rfl, Option.some.inj h⟩
    · rw [List.getElem?_eq_none (by simpa using l)] at h; cases h
  · rw [List.getElem?_set_ne (Ne.symm q)] at h; exact .inr ⟨q, h⟩
/-- an own name is from now on in S -/
theorem Ok.freezeAt {i : Nat} {d : PyData} (h : Ok K S σ H e) (he : e[i]? = some (.own d)) (hs : σ[i]? = some (some (.ref a))) :
    Ok K (fun b => S b ∨ b = a) σ H (e.set i (.val d)) ∧ Step σ S H e (fun b => S b ∨ b = a) H (e.set i (.val d)) ∧ Rep K H (fun b => S b ∨ b = a) (.ref a) d := by
  obtain ⟨b, q1, q2, q3⟩ := h.own i d he
  rw [hs] at q1; cases q1
  have rp : Rep K H (fun b => S b ∨ b = a) (.ref a) d := q3.rep Up.more (.inr rfl)
  refine ⟨⟨by rw [List.length_set]; exact h.len, fun b s => ?_, fun j x q => ?_, fun j x q => ?_, fun j k x y b p q r s => ?_⟩, ⟨Up.more, fun b s => ?_, fun _ _ q _ _ => q, fun _ q => q, fun b ⟨j, x, p, q⟩ => ?_⟩, rp⟩
  · rcases s with s | s
    · exact h.all b s
    · subst s; exact q3.there
  · rcases setE q with ⟨z, w⟩ | ⟨z, w⟩
    · cases w; subst z; exact ⟨_, hs, rp⟩
    · obtain ⟨v, p1, p2⟩ := h.val j x w
      exact ⟨v, p1, p2.up Up.more⟩
  · rcases setE q with ⟨z, w⟩ | ⟨z, w⟩
    · cases w
    · obtain ⟨b, p1, p2, p3⟩ := h.own j x w
      refine ⟨b, p1, fun y => ?_, p3.up Up.more rfl⟩
      rcases y with y | y
      · exact p2 y
      · subst y; exact z (h.inj j i x d _ w he p1 hs)
  · rcases setE p with ⟨_, w⟩ | ⟨_, w⟩
    · cases w
    · rcases setE q with ⟨_, w'⟩ | ⟨_, w'⟩
      · cases w'
      · exact h.inj j k x y b w w' r s
  · rcases s with s | s
    · exact .inl s
    · subst s; exact .inr (.inr ⟨i, d, he, hs⟩)
  · rcases setE p with ⟨_, w⟩ | ⟨_, w⟩
    · cases w
    · exact ⟨j, x, w, q⟩
end
end FL

set_option Elab.async false
set_option linter.all false
set_option maxRecDepth 100000
set_option maxHeartbeats 4000000
namespace FL
open PySem PySem.Spec PyProof.Rows L2

abbrev C := Ev → Option (Sl × Ev)
abbrev CV := Ev → Option (PyData × Ev)
abbrev CB := Ev → Option (Bool × Ev)

/-- the value v is the result r; new since H -/
def Res (K : PySem.W.Frag) (S' : Rg) (H' H : Hp) (v : V) : Sl → Prop
  | .val d => Rep K H' S' v d
  | .own d => ∃ a, v = .ref a ∧ H a = none ∧ ¬ S' a ∧ Own K H' S' a d
  | .un => False

def tF (K : PySem.W.Frag) (c : C) : TE := fun σ H Q => ∃ S e r e', Ok K S σ H e ∧ c e = some (r, e') ∧ ∀ v H' S', Ok K S' σ H' e' → Step σ S H e S' H' e' → Res K S' H' H v r → Q v H'
def tV (K : PySem.W.Frag) (c : CV) : TE := fun σ H Q => ∃ S e r e', Ok K S σ H e ∧ c e = some (r, e') ∧ ∀ v H' S', Ok K S' σ H' e' → Step σ S H e S' H' e' → Rep K H' S' v r → Q v H'
def tT (K : PySem.W.Frag) (c : CB) : TT := fun σ H Q => ∃ S e r e', Ok K S σ H e ∧ c e = some (r, e') ∧ ∀ H' S', Ok K S' σ H' e' → Step σ S H e S' H' e' → Q r H'

def frz (c : C) : CV := fun e => match c e with
  | some (.val d, e') => some (d, e')
  | some (.own d, e') => some (d, e')
  | _ => none

section
variable {X : Cx} {ex : Expr}
theorem peMono {t t' : TE} (h : PE X ex t) (k : ∀ σ H Q, t' σ H Q → t σ H Q) : PE X ex t' := ⟨fun pins s σ H Q I q => h.run pins s σ H Q I (k σ H Q q)⟩
theorem ptMono {t t' : TT} (h : PT X ex t) (k : ∀ σ H Q, t' σ H Q → t σ H Q) : PT X ex t' := ⟨fun pins s σ H Q I q => h.run pins s σ H Q I (k σ H Q q)⟩
theorem pwMono {t t' : TT} (h : PW X ex t) (k : ∀ σ H Q, t' σ H Q → t σ H Q) : PW X ex t' := ⟨fun wh pins s σ H Q I q => h.run wh pins s σ H Q I (k σ H Q q)⟩
theorem psMono {st : Stmt} {t t' : TS} (h : PS X st t) (k : ∀ D σ H, t' D σ H → t D σ H) : PS X st t' := ⟨fun pins s σ H D I q => h.run pins s σ H D I (k D σ H q)⟩
theorem pssMono {st : List Stmt} {t t' : TS} (h : PSs X st t) (k : ∀ D σ H, t' D σ H → t D σ H) : PSs X st t' := ⟨fun pins s σ H D I q => h.run pins s σ H D I (k D σ H q)⟩
end

section
variable {K : PySem.W.Frag} {σ : St} {S S1 S' : Rg} {H H1 H' : Hp} {e e1 e' : Ev} {a : Addr}
theorem Step.nown (s : Step σ S H e S' H' e') (h : Ok K S σ H e) (n : H a = none) : ¬ OwnAt σ e' a := fun z => (h.notS (s.own a z)).2 n
/-- what is new comes into S -/
theorem Step.fz (s : Step σ S H e S' H' e') (n : H a = none) : Step σ S H e (fun b => S' b ∨ b = a) H' e' :=
  ⟨⟨fun b q => .inl (s.up.sub b q), s.up.rd, s.up.tp, s.up.ls⟩, fun b q => q.elim (s.new b) fun z => .inr (.inl (by subst z; exact n)), s.keep, s.mono, s.own⟩
theorem Res.fz {v : V} {r : Sl} (h : Ok K S σ H e) (s : Step σ S H e S' H' e') (h' : Ok K S' σ H' e') (q : Res K S' H' H v r) :
    ∃ S2 d, (r = .val d ∨ r = .own d) ∧ Ok K S2 σ H' e' ∧ Step σ S H e S2 H' e' ∧ Rep K H' S2 v d := by
  cases r with
  | un => exact q.elim
  | val d => exact ⟨S', d, .inl rfl, h', s, q⟩
  | own d =>
    obtain ⟨a, rfl, n, nS, o⟩ := q
    exact ⟨_, d, .inr rfl, h'.freeze o.there (s.nown h n), s.fz n, o.rep Up.more (.inr rfl)⟩
end

theorem frz_val {c : C} {e e' : Ev} {d : PyData} (h : frz c e = some (d, e')) : ∃ r, c e = some (r, e') ∧ (r = .val d ∨ r = .own d) := by
  unfold frz at h
  cases q : c e with
  | none => rw [q] at h; cases h
  | some p =>
    obtain ⟨r, e2⟩ := p
    rw [q] at h
    cases r with
    | un => cases h
    | val x => cases h; exact ⟨_, rfl, .inl rfl⟩
    | own x => cases h; exact ⟨_, rfl, .inr rfl⟩
theorem tF.frz {K : PySem.W.Frag} {c : C} {σ : St} {H : Hp} {Q : VK} (h : tV K (frz c) σ H Q) : tF K c σ H Q := by
  obtain ⟨S, e, r, e', o, q, k⟩ := h
  obtain ⟨x, q1, q2⟩ := frz_val q
  refine ⟨S, e, x, e', o, q1, fun v H' S' o' s z => ?_⟩
  obtain ⟨S2, d, z1, z2, z3, z4⟩ := z.fz o s o'
  have : d = r := by
    rcases q2 with q2 | q2 <;> rcases z1 with z1 | z1 <;> (rw [q2] at z1; cases z1; try rfl)
  subst this
  exact k v H' S2 z2 z3 z4
theorem fe_frz {X : Cx} {ex : Expr} {c : C} (h : PE X ex (tF X.K c)) : PE X ex (tV X.K (frz c)) := peMono h fun _ _ _ q => tF.frz q

/-! ### operands: a name is looked at when the operation is done -/
inductive Opd where
  | nm (i : Nat)
  | ex (c : CV)
def peek (e : Ev) (i : Nat) : Option PyData := match e[i]? with
  | some (.val d) => some d
  | some (.own d) => some d
  | _ => none
def evs : List Opd → Ev → Option (List PyData × Ev)
  | [], e => some ([], e)
  | .nm i :: r, e => match peek e i with
    | none => none
    | some _ => match evs r e with
      | none => none
      | some (ds, e') => match peek e' i with
        | none => none
        | some d => some (d :: ds, e')
  | .ex c :: r, e => match c e with
    | none => none
    | some (d, e1) => match evs r e1 with
      | none => none
      | some (ds, e') => some (d :: ds, e')
def tO (K : PySem.W.Frag) : Opd → TE
  | .nm i => tVar i
  | .ex c => tV K c
def Rdb (K : PySem.W.Frag) (H : Hp) (S : Rg) (σ : St) (e : Ev) (v : V) (d : PyData) : Prop := Rep K H S v d ∨ ∃ (a : Addr) (i : Nat), v = .ref a ∧ e[i]? = some (Sl.own d) ∧ σ[i]? = some (some (V.ref a)) ∧ ¬ S a ∧ Own K H S a d
abbrev RdbAll (K : PySem.W.Frag) (H : Hp) (S : Rg) (σ : St) (e : Ev) : List V → List PyData → Prop := Paired (Rdb K H S σ e)
def tArgs (K : PySem.W.Frag) : List Opd → TA
  | [] => tNil
  | o :: r => tCons (tO K o) (tArgs K r)
theorem peek_ok {K : PySem.W.Frag} {σ : St} {S : Rg} {H : Hp} {e : Ev} {i : Nat} {d : PyData} (h : Ok K S σ H e) (p : peek e i = some d) : ∃ v, σ[i]? = some (some v) ∧ Rdb K H S σ e v d := by
  unfold peek at p
  split at p
  · rename_i x q
    cases p
    obtain ⟨v, h1, h2⟩ := h.val i d q
    exact ⟨v, h1, .inl h2⟩
  · rename_i x q
    cases p
    obtain ⟨a, h1, h2, h3⟩ := h.own i d q
    exact ⟨.ref a, h1, .inr ⟨a, i, rfl, q, h1, h2, h3⟩⟩
  · cases p
theorem runs {K : PySem.W.Frag} {σ : St} : ∀ (os : List Opd) {S : Rg} {H : Hp} {e e' : Ev} {ds : List PyData} {R : List V → Hp → Prop}, Ok K S σ H e → evs os e = some (ds, e') →
    (∀ vs H' S', Ok K S' σ H' e' → Step σ S H e S' H' e' → RdbAll K H' S' σ e' vs ds → R vs H') → tArgs K os σ H R
  | [], S, H, e, e', ds, R, h, q, k => by
    cases q
    exact k [] H S h .refl .nil
  | .nm i :: r, S, H, e, e', ds, R, h, q, k => by
    unfold evs at q
    cases p1 : peek e i with
    | none => rw [p1] at q; cases q
    | some d0 =>
      rw [p1] at q
      cases p2 : evs r e with
      | none => rw [p2] at q; cases q
      | some z =>
        obtain ⟨ds', e2⟩ := z
        rw [p2] at q
        cases p3 : peek e2 i with
        | none => simp only [p3] at q; cases q
        | some d =>
          simp only [p3] at q
          cases q
          obtain ⟨v, h1, _⟩ := peek_ok h p1
          refine ⟨v, h1, runs r h p2 fun vs H' S' h' s rs => k _ _ _ h' s (.cons ?_ rs)⟩
          obtain ⟨v', h2, h3⟩ := peek_ok h' p3
          rw [h1] at h2; cases h2
          exact h3
  | .ex c :: r, S, H, e, e', ds, R, h, q, k => by
    unfold evs at q
    cases p1 : c e with
    | none => rw [p1] at q; cases q
    | some z =>
      obtain ⟨d, e1⟩ := z
      rw [p1] at q
      cases p2 : evs r e1 with
      | none => simp only [p2] at q; cases q
      | some z =>
        obtain ⟨ds', e2⟩ := z
        simp only [p2] at q
        cases q
        refine ⟨S, e, d, e1, h, p1, fun v H1 S1 h1 s1 r1 => runs r h1 p2 fun vs H' S' h' s rs => k _ _ _ h' (s1.trans h s) (.cons (.inl (r1.up s.up)) rs)⟩

/-- what follows behind the result r of an operation on values -/
def Fin (K : PySem.W.Frag) (σ : St) (S : Rg) (H : Hp) (e : Ev) (Q : VK) (r : Sl) : Prop := ∀ v H' S', Ok K S' σ H' e → Step σ S H e S' H' e → Res K S' H' H v r → Q v H'
section
variable {K : PySem.W.Frag} {σ : St} {S S' : Rg} {H H' : Hp} {e e' : Ev} {Q : VK}
theorem Fin.here {v : V} {d : PyData} (k : Fin K σ S H e Q (.val d)) (h : Ok K S σ H e) (r : Rep K H S v d) : Q v H := k v H S h .refl r
theorem Fin.bl {b : Bool} (k : Fin K σ S H e Q (.val (.bool b))) (h : Ok K S σ H e) : Q (.bl b) H := k.here h (.bl b)
theorem Fin.int {i : Int} (k : Fin K σ S H e Q (.val (.int i))) (h : Ok K S σ H e) : Q (.int i) H := k.here h (.int i)
theorem Fin.str {x : Str} (k : Fin K σ S H e Q (.val (.str x))) (h : Ok K S σ H e) : Q (.str x) H := k.here h (.str x)
theorem Fin.non (k : Fin K σ S H e Q (.val .none)) (h : Ok K S σ H e) : Q .non H := k.here h .non
theorem Ok.up_alloc {p : Addr} {o : HO} (h : Ok K S σ H e) (hp : H p = none) : Up H S (upd H p o) S := (h.alloc hp).2.up
theorem Ok.pS {p : Addr} (h : Ok K S σ H e) (hp : H p = none) : ¬ S p := fun z => h.all p z hp
theorem Fin.lst {xs : List V} {ds : List PyData} (k : Fin K σ S H e Q (.own (.list ds))) (h : Ok K S σ H e) (r : RepAll K H S xs ds) (p : Addr) (hp : H p = none) : Q (.ref p) (upd H p (.lst xs)) := by
  obtain ⟨h1, s1⟩ := h.alloc (o := .lst xs) hp
  exact k _ _ S h1 s1 ⟨p, rfl, hp, h.pS hp, ⟨xs, upd_same, r.up s1.up⟩⟩
theorem Fin.tup {xs : List V} {ds : List PyData} (k : Fin K σ S H e Q (.val (.tuple ds))) (h : Ok K S σ H e) (r : RepAll K H S xs ds) (p : Addr) (hp : H p = none) : Q (.ref p) (upd H p (.tup xs)) := by
  obtain ⟨h1, s1⟩ := h.alloc (o := .tup xs) hp
  exact k _ _ S h1 s1 (.tup upd_same (r.up s1.up))
theorem Fin.dK {kk : List (Key × V)} {ds : List (PyData × PyData)} (k : Fin K σ S H e Q (.own (.dict ds))) (h : Ok K S σ H e) (r : RepKs K H S kk ds) (p : Addr) (hp : H p = none) : Q (.ref p) (upd H p (.dK kk)) := by
  obtain ⟨h1, s1⟩ := h.alloc (o := .dK kk) hp
  exact k _ _ S h1 s1 ⟨p, rfl, hp, h.pS hp, .inl ⟨kk, upd_same, r.up s1.up⟩⟩
theorem Fin.dT {kk : List (List Key × V)} {ds : List (PyData × PyData)} (k : Fin K σ S H e Q (.own (.dict ds))) (h : Ok K S σ H e) (r : RepTs K H S kk ds) (p : Addr) (hp : H p = none) : Q (.ref p) (upd H p (.dT kk)) := by
  obtain ⟨h1, s1⟩ := h.alloc (o := .dT kk) hp
  exact k _ _ S h1 s1 ⟨p, rfl, hp, h.pS hp, .inr ⟨kk, upd_same, r.up s1.up⟩⟩
theorem Rdb.tupRep {v : V} {ds : List PyData} (r : Rdb K H S σ e v (.tuple ds)) : Rep K H S v (.tuple ds) := r.elim id fun ⟨_, _, _, _, _, _, o⟩ => o.elim
/-- reading an operand -/
theorem Rdb.int {v : V} {i : Int} (r : Rdb K H S σ e v (.int i)) : v = .int i := by
  rcases r with r | ⟨a, i, _, _, _, _, o⟩
  · cases r; rfl
  · exact o.elim
theorem Rdb.bl {v : V} {i : Bool} (r : Rdb K H S σ e v (.bool i)) : v = .bl i := by
  rcases r with r | ⟨a, i, _, _, _, _, o⟩
  · cases r; rfl
  · exact o.elim
theorem Rdb.str {v : V} {i : Str} (r : Rdb K H S σ e v (.str i)) : v = .str i := by
  rcases r with r | ⟨a, i, _, _, _, _, o⟩
  · cases r; rfl
  · exact o.elim
theorem Rdb.non {v : V} (r : Rdb K H S σ e v .none) : v = .non := by
  rcases r with r | ⟨a, i, _, _, _, _, o⟩
  · cases r; rfl
  · exact o.elim
theorem Rdb.lst {v : V} {ds : List PyData} (r : Rdb K H S σ e v (.list ds)) : ∃ a xs, v = .ref a ∧ H a = some (.lst xs) ∧ RepAll K H S xs ds := by
  rcases r with r | ⟨a, i, rfl, _, _, _, xs, q, o⟩
  · cases r with
    | lst h r => exact ⟨_, _, rfl, h.2, r⟩
  · exact ⟨a, xs, rfl, q, o⟩
theorem Rdb.tup {v : V} {ds : List PyData} (r : Rdb K H S σ e v (.tuple ds)) : ∃ a xs, v = .ref a ∧ H a = some (.tup xs) ∧ RepAll K H S xs ds := by
  rcases r with r | ⟨a, i, _, _, _, _, o⟩
  · cases r with
    | tup h r => exact ⟨_, _, rfl, h, r⟩
  · exact o.elim
theorem Rdb.dict {v : V} {ds : List (PyData × PyData)} (r : Rdb K H S σ e v (.dict ds)) : ∃ a, v = .ref a ∧ ((∃ kk, Rd H a (.dK kk) ∧ RepKs K H S kk ds) ∨ ∃ kk, Rd H a (.dT kk) ∧ RepTs K H S kk ds) := by
  rcases r with r | ⟨a, i, rfl, _, _, _, o⟩
  · cases r with
    | dK h q r => exact ⟨_, rfl, .inl ⟨_, q, r⟩⟩
    | dT h q r => exact ⟨_, rfl, .inr ⟨_, q, r⟩⟩
  · rcases o with ⟨kk, q, r⟩ | ⟨kk, q, r⟩
    · exact ⟨a, rfl, .inl ⟨kk, .inl q, r⟩⟩
    · exact ⟨a, rfl, .inr ⟨kk, .inl q, r⟩⟩
end

/-! ### operations on one, two, several values -/
abbrev F1 := PyData → Option Sl
abbrev F2 := PyData → PyData → Option Sl
abbrev Fn := List PyData → Option Sl
def rD1 (K : PySem.W.Frag) (g : F1) : V → Hp → VK → Prop := fun x H Q => ∃ S σ e d r, Ok K S σ H e ∧ Rdb K H S σ e x d ∧ g d = some r ∧ Fin K σ S H e Q r
def rD2 (K : PySem.W.Frag) (g : F2) : R2 := fun x y H Q => ∃ S σ e d1 d2 r, Ok K S σ H e ∧ Rdb K H S σ e x d1 ∧ Rdb K H S σ e y d2 ∧ g d1 d2 = some r ∧ Fin K σ S H e Q r
def rDn (K : PySem.W.Frag) (g : Fn) : List V → Hp → VK → Prop := fun xs H Q => ∃ S σ e ds r, Ok K S σ H e ∧ RdbAll K H S σ e xs ds ∧ g ds = some r ∧ Fin K σ S H e Q r
def cOps (g : Fn) (os : List Opd) : C := fun e => match evs os e with
  | some (ds, e') => match g ds with
    | some r => some (r, e')
    | none => none
  | none => none
def l1 (g : F1) : Fn := fun ds => match ds with
  | [a] => g a
  | _ => none
def l2 (g : F2) : Fn := fun ds => match ds with
  | [a, b] => g a b
  | _ => none
theorem cOps_some {g : Fn} {os : List Opd} {e e' : Ev} {r : Sl} (h : cOps g os e = some (r, e')) : ∃ ds, evs os e = some (ds, e') ∧ g ds = some r := by
  unfold cOps at h
  cases q : evs os e with
  | none => rw [q] at h; cases h
  | some p =>
    obtain ⟨ds, e2⟩ := p
    simp only [q] at h
    cases z : g ds with
    | none => rw [z] at h; cases h
    | some r2 => rw [z] at h; cases h; exact ⟨ds, rfl, z⟩
theorem Fin.lift {K : PySem.W.Frag} {σ : St} {S S1 : Rg} {H H1 : Hp} {e e1 : Ev} {Q : VK} {r : Sl} (h : Ok K S σ H e) (s : Step σ S H e S1 H1 e1)
    (k : ∀ v H' S', Ok K S' σ H' e1 → Step σ S H e S' H' e1 → Res K S' H' H v r → Q v H') : Fin K σ S1 H1 e1 Q r := by
  intro v H' S' o t q
  refine k v H' S' o (s.trans h t) ?_
  cases r with
  | un => exact q
  | val d => exact q
  | own d =>
    obtain ⟨a, e1, n, z⟩ := q
    refine ⟨a, e1, ?_, z⟩
    cases w : H a with
    | none => rfl
    | some o => exact absurd n (s.mono a (by rw [w]; exact fun z => nomatch z))
theorem evs_len : ∀ (os : List Opd) {e e' : Ev} {ds : List PyData}, evs os e = some (ds, e') → ds.length = os.length
  | [], e, e', ds, q => by cases q; rfl
  | .nm i :: r, e, e', ds, q => by
    unfold evs at q
    split at q
    · cases q
    · split at q
      · cases q
      · rename_i p2
        split at q
        · cases q
        · cases q
          exact congrArg (· + 1) (evs_len r p2)
  | .ex c :: r, e, e', ds, q => by
    unfold evs at q
    split at q
    · cases q
    · split at q
      · cases q
      · rename_i p2
        cases q
        exact congrArg (· + 1) (evs_len r p2)
theorem evs2 {o1 o2 : Opd} {e e' : Ev} {ds : List PyData} (h : evs [o1, o2] e = some (ds, e')) : ∃ a b, ds = [a, b] := by
  have := evs_len _ h
  match ds, this with
  | [a, b], _ => exact ⟨a, b, rfl⟩
theorem evs1 {o1 : Opd} {e e' : Ev} {ds : List PyData} (h : evs [o1] e = some (ds, e')) : ∃ a, ds = [a] := by
  have := evs_len _ h
  match ds, this with
  | [a], _ => exact ⟨a, rfl⟩
theorem paired1 {α β : Type} {F : α → β → Prop} {xs : List α} {b : β} (h : Paired F xs [b]) : ∃ a, xs = [a] ∧ F a b := by
  cases h with
  | cons r t => cases t; exact ⟨_, rfl, r⟩
theorem paired2 {α β : Type} {F : α → β → Prop} {xs : List α} {b c : β} (h : Paired F xs [b, c]) : ∃ a d, xs = [a, d] ∧ F a b ∧ F d c := by
  cases h with
  | cons r t =>
    cases t with
    | cons r' t' => cases t'; exact ⟨_, _, rfl, r, r'⟩
section
variable {X : Cx} {a b : Expr} {es : List Expr} {pos : Pos} {o o1 o2 : Opd} {os : List Opd}
/-- the form all operations share -/
theorem tOps_run {K : PySem.W.Frag} {g : Fn} {σ : St} {H : Hp} {Q : VK} (q : tF K (cOps g os) σ H Q) : tArgs K os σ H fun vs H' => rDn K g vs H' Q := by
  obtain ⟨S, e, r, e', h, q, k⟩ := q
  obtain ⟨ds, q1, q2⟩ := cOps_some q
  exact runs os h q1 fun vs H' S' h' s rs => ⟨S', σ, e', ds, r, h', rs, q2, Fin.lift h s k⟩
theorem tOp2_run {K : PySem.W.Frag} {g : F2} {r : R2} (hr : ∀ x y H Q, rD2 K g x y H Q → r x y H Q) {σ : St} {H : Hp} {Q : VK} (q : tF K (cOps (l2 g) [o1, o2]) σ H Q) : tOp r (tO K o1) (tO K o2) σ H Q := by
  have z := tOps_run q
  show tO K o1 σ H fun x H1 => tO K o2 σ H1 fun y H2 => r x y H2 Q
  have w : tArgs K [o1, o2] σ H fun vs H' => ∃ x y, vs = [x, y] ∧ r x y H' Q := by
    obtain ⟨S, e, r0, e', h, q, k⟩ := q
    obtain ⟨ds, q1, q2⟩ := cOps_some q
    refine runs [o1, o2] h q1 fun vs H' S' h' s rs => ?_
    obtain ⟨d1, d2, rfl⟩ := evs2 q1
    obtain ⟨x, y, rfl, rx, ry⟩ := paired2 rs
    exact ⟨x, y, rfl, hr _ _ _ _ ⟨S', σ, e', d1, d2, r0, h', rx, ry, q2, Fin.lift h s k⟩⟩
  have tmono : ∀ (o : Opd) (σ : St) (H : Hp) (Q Q' : VK), (∀ v H', Q v H' → Q' v H') → tO K o σ H Q → tO K o σ H Q' := by
    intro o σ H Q Q' m t
    cases o with
    | nm i => obtain ⟨v, h1, h2⟩ := t; exact ⟨v, h1, m _ _ h2⟩
    | ex c => obtain ⟨S, e, r, e', h, q, k⟩ := t; exact ⟨S, e, r, e', h, q, fun v H' S' a b c => m _ _ (k v H' S' a b c)⟩
  refine tmono o1 _ _ _ _ (fun x H1 t => ?_) w
  refine tmono o2 _ _ _ _ (fun y H2 t => ?_) t
  obtain ⟨x', y', e, t⟩ := t
  cases e
  exact t
theorem tOp1_run {K : PySem.W.Frag} {g : F1} {r : V → Hp → VK → Prop} (hr : ∀ x H Q, rD1 K g x H Q → r x H Q) {σ : St} {H : Hp} {Q : VK} (q : tF K (cOps (l1 g) [o]) σ H Q) : tUn r (tO K o) σ H Q := by
  show tO K o σ H fun x H1 => r x H1 Q
  obtain ⟨S, e, r0, e', h, q, k⟩ := q
  obtain ⟨ds, q1, q2⟩ := cOps_some q
  have w : tArgs K [o] σ H fun vs H' => ∃ x, vs = [x] ∧ r x H' Q := by
    refine runs [o] h q1 fun vs H' S' h' s rs => ?_
    obtain ⟨d, rfl⟩ := evs1 q1
    obtain ⟨x, rfl, rx⟩ := paired1 rs
    exact ⟨x, rfl, hr _ _ _ ⟨S', σ, e', d, r0, h', rx, q2, Fin.lift h s k⟩⟩
  cases o with
  | nm i =>
    obtain ⟨v, h1, x, h2, h3⟩ := w
    cases h2
    exact ⟨v, h1, h3⟩
  | ex c =>
    obtain ⟨S, e, r, e', h, q, k⟩ := w
    refine ⟨S, e, r, e', h, q, fun v H' S' a b c => ?_⟩
    obtain ⟨x, h2, h3⟩ := k v H' S' a b c
    cases h2
    exact h3
abbrev D2 (X : Cx) (f : Value → Value → Sem Value) (g : F2) : Prop := OpR X f (rD2 X.K g)
abbrev D1 (X : Cx) (f : Value → Sem Value) (g : F1) : Prop := UnR X f (rD1 X.K g)
abbrev Dn (X : Cx) (f : Value) (g : Fn) : Prop := CallR X f (rDn X.K g)
abbrev PO (X : Cx) (ex : Expr) (o : Opd) : Prop := PE X ex (tO X.K o)
theorem po_nm {i : Nat} {x : Str} (h : PE X (.Name x pos) (tVar i)) : PO X (.Name x pos) (.nm i) := h
theorem po_ex {c : C} (h : PE X a (tF X.K c)) : PO X a (.ex (frz c)) := fe_frz h
theorem fe_bin {op : Operator} {g : F2} (h : D2 X (binaryOp op) g) (ha : PO X a o1) (hb : PO X b o2) : PE X (.BinOp a op b pos) (tF X.K (cOps (l2 g) [o1, o2])) :=
  peMono (pe_op h ha hb) fun _ _ _ q => tOp2_run (fun _ _ _ _ z => z) q
theorem fe_un {op : UnaryOp} {g : F1} (h : D1 X (unaryOp op) g) (ha : PO X a o) : PE X (.UnaryOp op a pos) (tF X.K (cOps (l1 g) [o])) :=
  peMono (pe_un h ha) fun _ _ _ q => tOp1_run (fun _ _ _ z => z) q
theorem fe_cmp {op : CmpOp} {g : F2} (h : D2 X (compareOp op) g) (ha : PO X a o1) (hb : PO X b o2) (hm : behindInMarks op b = false) : PE X (.Compare a [op] [b] pos) (tF X.K (cOps (l2 g) [o1, o2])) :=
  peMono (pe_cmpR h ha hb hm) fun _ _ _ q => tOp2_run (fun _ _ _ _ z => z) q
/-- arguments -/
inductive PAs (X : Cx) : List Expr → List Opd → Prop
  | nil : PAs X [] []
  | cons {e : Expr} {es : List Expr} {o : Opd} {os : List Opd} : PO X e o → PAs X es os → (starEach (e :: es) X.env = (false, eval e X.env) :: starEach es X.env) → PAs X (e :: es) (o :: os)
theorem PAs.pa : ∀ {es : List Expr} {os : List Opd}, PAs X es os → PA X es (tArgs X.K os)
  | _, _, .nil => pa_nil
  | _, _, .cons h r s => pa_cons h (PAs.pa r) s
theorem fa_nil : PAs X [] [] := .nil
theorem fa_cons {e : Expr} (h : PO X e o) (r : PAs X es os) (s : starEach (e :: es) X.env = (false, eval e X.env) :: starEach es X.env := by rfl) : PAs X (e :: es) (o :: os) := .cons h r s
end
end FL

set_option Elab.async false
set_option linter.all false
set_option maxRecDepth 100000
set_option maxHeartbeats 4000000
namespace FL
open PySem PySem.Spec PyProof.Rows L2

theorem lim_eq : sizeLine = 16777216 := sizeLine_eq
section
variable {K : PySem.W.Frag} {σ : St} {S : Rg} {H : Hp} {e : Ev}
theorem plain_list {ds : List PyData} : PyData.plain (.list ds) = PyData.plainAll ds := by rw [PyData.plain]
theorem plain_tuple {ds : List PyData} : PyData.plain (.tuple ds) = PyData.plainAll ds := by rw [PyData.plain]
theorem plainAll_cons {d : PyData} {ds : List PyData} : PyData.plainAll (d :: ds) = (d.plain && PyData.plainAll ds) := by rw [PyData.plainAll]
mutual
theorem Rep.dp : ∀ {v : V} {d : PyData}, Rep K H S v d → d.plain = true → Dp K H v d
  | _, _, .non, _ => .non
  | _, _, .bl b, _ => .bl b
  | _, _, .int i, _ => .int i
  | _, _, .str x, _ => .str x
  | _, _, .lst h r, p => .lst h.sq (RepAll.dp r (by rw [plain_list] at p; exact p))
  | _, _, .tup h r, p => .tup (.of h) (RepAll.dp r (by rw [plain_tuple] at p; exact p))
  | _, _, .dK _ _ _, p => by simp [PyData.plain] at p
  | _, _, .dT _ _ _, p => by simp [PyData.plain] at p
theorem RepAll.dp : ∀ {v : List V} {d : List PyData}, RepAll K H S v d → PyData.plainAll d = true → DpAll K H v d
  | _, _, .nil, _ => .nil
  | _, _, .cons h r, p => by
    rw [plainAll_cons, Bool.and_eq_true] at p
    exact .cons (Rep.dp h p.1) (RepAll.dp r p.2)
end
theorem Rdb.dp {v : V} {d : PyData} (r : Rdb K H S σ e v d) (p : d.plain = true) : Dp K H v d := by
  cases d with
  | none => rw [r.non]; exact .non
  | bool b => rw [r.bl]; exact .bl b
  | int i => rw [r.int]; exact .int i
  | str x => rw [r.str]; exact .str x
  | list ds => obtain ⟨a, xs, rfl, h, q⟩ := r.lst; exact .lst (.inl (.inl h)) (q.dp (by rw [plain_list] at p; exact p))
  | tuple ds => obtain ⟨a, xs, rfl, h, q⟩ := r.tup; exact .tup (.inl (.inl h)) (q.dp (by rw [plain_tuple] at p; exact p))
  | dict ds => simp [PyData.plain] at p
end

/-! ### arithmetic -/
def addD : F2
  | .int a, .int b => some (.val (.int (a + b)))
  | .str a, .str b => if a.length + b.length ≤ 16777216 then some (.val (.str (a ++ b))) else none
  | .list a, .list b => if a.length + b.length ≤ 16777216 then some (.own (.list (a ++ b))) else none
  | .tuple a, .tuple b => if a.length + b.length ≤ 16777216 then some (.val (.tuple (a ++ b))) else none
  | _, _ => none
def subD : F2
  | .int a, .int b => some (.val (.int (a - b)))
  | _, _ => none
def mulD : F2
  | .int a, .int b => if a.natAbs < 18446744073709551616 ∨ b.natAbs < 18446744073709551616 then some (.val (.int (a * b))) else none
  | .list a, .int k => if 0 ≤ k ∧ k ≤ 16777216 ∧ a.length * k.toNat ≤ 16777216 then some (.own (.list (List.replicate k.toNat a).flatten)) else none
  | .tuple [a], .int k => if 2 ≤ k ∧ k ≤ 1000 then some (.val (.tuple (List.replicate k.toNat a))) else none
  | _, _ => none
def fdivD : F2
  | .int a, .int b => if b ≠ 0 ∧ b.natAbs < 1073741824 then some (.val (.int (a.fdiv b))) else none
  | _, _ => none
def modD : F2
  | .int a, .int b => if b ≠ 0 then some (.val (.int (a.fmod b))) else none
  | _, _ => none
def powD : F2
  | .int a, .int b => if 0 ≤ b ∧ b ≤ 1000000 ∧ a.natAbs < 18446744073709551616 then some (.val (.int (a ^ b.toNat))) else none
  | _, _ => none
def negD : F1
  | .int a => some (.val (.int (-a)))
  | _ => none

section
variable {X : Cx}
theorem opOf {f : Value → Value → Sem Value} {g : F2} (h : ∀ (pins : List (Addr × Obj)) (s : Shared) (σ' : St) (S : Rg) (σ : St) (e : Ev) (H : Hp) (x y : V) (v u : Value) (d1 d2 : PyData) (r : Sl) (Q : VK), Inv X pins σ' H s → RelV x v → RelV y u → Ok X.K S σ H e →
    Rdb X.K H S σ e x d1 → Rdb X.K H S σ e y d2 → g d1 d2 = some r → Fin X.K σ S H e Q r → wpAny (model X.prog X.w) X.A (f v u) (EP X pins σ' Q) X.xe s) : D2 X f g := by
  intro pins s σ' H x y v u Q I rx ry ⟨S, σ, e, d1, d2, r, ok, r1, r2, q, k⟩
  exact h pins s σ' S σ e H x y v u d1 d2 r Q I rx ry ok r1 r2 q k
theorem callOf {f : Value} {g : Fn} (h : ∀ (pins : List (Addr × Obj)) (s : Shared) (σ' : St) (S : Rg) (σ : St) (e : Ev) (H : Hp) (xs : List V) (us : List Value) (ds : List PyData) (r : Sl) (Q : VK), Inv X pins σ' H s → Vals xs us → Ok X.K S σ H e →
    RdbAll X.K H S σ e xs ds → g ds = some r → Fin X.K σ S H e Q r → wpAny (model X.prog X.w) X.A (call f us) (EP X pins σ' Q) X.xe s) : Dn X f g := by
  intro pins s σ' H xs us Q I rx ⟨S, σ, e, ds, r, ok, r1, q, k⟩
  exact h pins s σ' S σ e H xs us ds r Q I rx ok r1 q k
theorem ite_some {α : Type} {c : Prop} [Decidable c] {x r : α} (h : (if c then some x else none) = some r) : c ∧ x = r := by
  split at h
  · rename_i q; exact ⟨q, Option.some.inj h⟩
  · cases h
theorem RepAll.nil_iff {K : PySem.W.Frag} {H : Hp} {S : Rg} {xs : List V} {ds : List PyData} (r : RepAll K H S xs ds) : xs = [] ↔ ds = [] := by
  cases r <;> simp
theorem d_add : D2 X (binaryOp .Add) addD := opOf fun pins s σ' S σ e H x y v u d1 d2 r Q I rx ry ok r1 r2 q k => by
  unfold addD at q
  split at q
  · cases q
    rw [r1.int] at rx; rw [r2.int] at ry
    exact op_add pins s σ' H _ _ v u Q I rx ry ⟨_, _, rfl, rfl, k.int ok⟩
  · obtain ⟨hz, rfl⟩ := ite_some q
    rw [r1.str] at rx; rw [r2.str] at ry
    exact op_add_str pins s σ' H _ _ v u Q I rx ry ⟨_, _, rfl, rfl, by rw [lim_eq]; exact hz, k.str ok⟩
  · obtain ⟨hz, rfl⟩ := ite_some q
    obtain ⟨a, xs, rfl, h1, q1⟩ := r1.lst
    obtain ⟨b, ys, rfl, h2, q2⟩ := r2.lst
    have l3 := q1.length
    have l4 := q2.length
    exact op_cat pins s σ' H _ _ v u Q I rx ry ⟨a, b, xs, ys, rfl, rfl, h1, h2, by rw [lim_eq]; omega, fun p hp => k.lst ok (q1.append q2) p hp⟩
  · obtain ⟨hz, rfl⟩ := ite_some q
    obtain ⟨a, xs, rfl, h1, q1⟩ := r1.tup
    obtain ⟨b, ys, rfl, h2, q2⟩ := r2.tup
    have l3 := q1.length
    have l4 := q2.length
    refine op_catA pins s σ' H _ _ v u Q I rx ry ⟨a, b, xs, ys, rfl, rfl, .of h1, .of h2, by rw [lim_eq]; omega, fun z => ?_, fun _ z => ?_, fun _ _ p hp => k.tup ok (q1.append q2) p hp⟩
    · have w := q1.nil_iff.mp z
      rw [w] at k
      exact k.here ok r2.tupRep
    · have w := q2.nil_iff.mp z
      rw [w, List.append_nil] at k
      exact k.here ok r1.tupRep
  · cases q
theorem d_sub : D2 X (binaryOp .Sub) subD := opOf fun pins s σ' S σ e H x y v u d1 d2 r Q I rx ry ok r1 r2 q k => by
  unfold subD at q
  split at q
  · cases q
    rw [r1.int] at rx; rw [r2.int] at ry
    exact op_sub pins s σ' H _ _ v u Q I rx ry ⟨_, _, rfl, rfl, k.int ok⟩
  · cases q
theorem d_fdiv : D2 X (binaryOp .FloorDiv) fdivD := opOf fun pins s σ' S σ e H x y v u d1 d2 r Q I rx ry ok r1 r2 q k => by
  unfold fdivD at q
  split at q
  · obtain ⟨hz, rfl⟩ := ite_some q
    rw [r1.int] at rx; rw [r2.int] at ry
    exact op_fdivN pins s σ' H _ _ v u Q I rx ry ⟨_, _, rfl, rfl, hz, k.int ok⟩
  · cases q
theorem d_mod : D2 X (binaryOp .Mod) modD := opOf fun pins s σ' S σ e H x y v u d1 d2 r Q I rx ry ok r1 r2 q k => by
  unfold modD at q
  split at q
  · obtain ⟨hz, rfl⟩ := ite_some q
    rw [r1.int] at rx; rw [r2.int] at ry
    exact op_modN pins s σ' H _ _ v u Q I rx ry ⟨_, _, rfl, rfl, hz, k.int ok⟩
  · cases q
theorem d_pow : D2 X (binaryOp .Pow) powD := opOf fun pins s σ' S σ e H x y v u d1 d2 r Q I rx ry ok r1 r2 q k => by
  unfold powD at q
  split at q
  · obtain ⟨hz, rfl⟩ := ite_some q
    rw [r1.int] at rx; rw [r2.int] at ry
    exact op_pow pins s σ' H _ _ v u Q I rx ry ⟨_, _, rfl, rfl, ⟨hz.1, hz.2.1, hz.2.2⟩, k.int ok⟩
  · cases q
theorem d_neg : D1 X (unaryOp .USub) negD := by
  intro pins s σ' H x v Q I rx ⟨S, σ, e, d, r, ok, r1, q, k⟩
  unfold negD at q
  split at q
  · cases q
    rw [r1.int] at rx
    exact un_neg pins s σ' H _ v Q I rx ⟨_, rfl, k.int ok⟩
  · cases q
theorem rep_flat {K : PySem.W.Frag} {H : Hp} {S : Rg} {xs : List V} {ds : List PyData} (r : RepAll K H S xs ds) : ∀ n : Nat, RepAll K H S (List.replicate n xs).flatten (List.replicate n ds).flatten
  | 0 => .nil
  | n + 1 => by rw [List.replicate_succ, List.replicate_succ, List.flatten_cons, List.flatten_cons]; exact r.append (rep_flat r n)
theorem natAbs64 {i : Int} (h : i.natAbs < 18446744073709551616) : -(2 ^ 64) < i ∧ i < 2 ^ 64 := by omega
theorem d_mul : D2 X (binaryOp .Mult) mulD := opOf fun pins s σ' S σ e H x y v u d1 d2 r Q I rx ry ok r1 r2 q k => by
  unfold mulD at q
  split at q
  · obtain ⟨hz, rfl⟩ := ite_some q
    rw [r1.int] at rx; rw [r2.int] at ry
    exact op_mul pins s σ' H _ _ v u Q I rx ry ⟨_, _, rfl, rfl, hz.imp natAbs64 natAbs64, k.int ok⟩
  · obtain ⟨hz, rfl⟩ := ite_some q
    rw [r2.int] at ry
    obtain ⟨a, xs, rfl, h1, q1⟩ := r1.lst
    have l3 := q1.length
    exact op_rep pins s σ' H _ _ v u Q I rx ry ⟨a, _, xs, rfl, rfl, h1, by omega, by omega, by rw [l3, lim_eq]; exact hz.2.2, fun p hp => k.lst ok (rep_flat q1 _) p hp⟩
  · obtain ⟨hz, rfl⟩ := ite_some q
    rw [r2.int] at ry
    obtain ⟨a, xs, rfl, h1, q1⟩ := r1.tup
    have l3 := q1.length
    refine op_repT pins s σ' H _ _ v u Q I rx ry ⟨a, _, xs, rfl, rfl, .of h1, fun z => ?_, hz.1, hz.2, by rw [l3]; exact (by decide : 1 ≤ 1000), fun p hp => ?_⟩
    · rw [z] at l3; cases l3
    · refine k.tup ok ?_ p hp
      have := rep_flat q1 (Int.toNat ‹Int›)
      simpa using this
  · cases q
end
end FL

set_option Elab.async false
set_option linter.all false
set_option maxRecDepth 100000
set_option maxHeartbeats 4000000
namespace FL
open PySem PySem.Spec PyProof.Rows L2

/-- data without dicts, of a depth that is told -/
def nice : Nat → PyData → Bool
  | _, .none => true
  | _, .bool _ => true
  | _, .int _ => true
  | _, .str _ => true
  | n + 1, .list ds => ds.all (nice n)
  | n + 1, .tuple ds => ds.all (nice n)
  | _, _ => false
theorem nice_all {n : Nat} (hn : ∀ d, nice n d = true → d.plain = true ∧ d.depth ≤ n) : ∀ ds : List PyData, ds.all (nice n) = true → PyData.plainAll ds = true ∧ PyData.depthAll ds ≤ n
  | [], _ => by simp [PyData.plainAll, PyData.depthAll]
  | d :: ds, h => by
    rw [List.all_cons, Bool.and_eq_true] at h
    obtain ⟨a, b⟩ := hn d h.1
    obtain ⟨c, e⟩ := nice_all hn ds h.2
    simp only [PyData.plainAll, PyData.depthAll, a, c, Bool.and_self, true_and]
    omega
theorem nice_ok : ∀ (n : Nat) (d : PyData), nice n d = true → d.plain = true ∧ d.depth ≤ n
  | n, .none, _ => by simp [PyData.plain, PyData.depth]
  | n, .bool _, _ => by simp [PyData.plain, PyData.depth]
  | n, .int _, _ => by simp [PyData.plain, PyData.depth]
  | n, .str _, _ => by simp [PyData.plain, PyData.depth]
  | n + 1, .list ds, h => by
    obtain ⟨a, b⟩ := nice_all (nice_ok n) ds (by simpa [nice] using h)
    simp only [PyData.plain, PyData.depth, a, true_and]
    omega
  | n + 1, .tuple ds, h => by
    obtain ⟨a, b⟩ := nice_all (nice_ok n) ds (by simpa [nice] using h)
    simp only [PyData.plain, PyData.depth, a, true_and]
    omega
  | 0, .list _, h => by simp [nice] at h
  | 0, .tuple _, h => by simp [nice] at h
  | _, .dict _, h => by simp [nice] at h

section
variable {K : PySem.W.Frag} {σ : St} {S : Rg} {H : Hp} {e : Ev}
theorem Rdb.reads {X : Cx} {pins : List (Addr × Obj)} {s : Shared} {σ' : St} {n : Nat} {v : V} {u : Value} {d : PyData} (I : Inv X pins σ' H s) (r : Rdb X.K H S σ e v d) (h : nice n d = true) (ru : RelV v u) : ∃ as, Reads s.heap u d as :=
  Dp.reads I d v u (r.dp (nice_ok n d h).1) ru
end

/-! ### comparisons -/
def eqD : F2 := fun a b => if (nice 12 a && nice 12 b) = true then some (.val (.bool (PyData.eqv a b))) else none
def neD : F2 := fun a b => if (nice 12 a && nice 12 b) = true then some (.val (.bool (!PyData.eqv a b))) else none
def isNo : PyData → Bool
  | .none => true
  | _ => false
def cmpOk (a b : PyData) : Bool := nice 12 a && nice 12 b && W.alike a b && !isNo a
def ltD : F2 := fun a b => if cmpOk a b = true then some (.val (.bool (W.dataLt a b))) else none
def gtD : F2 := fun a b => if cmpOk a b = true then some (.val (.bool (W.dataLt b a))) else none
def leD : F2 := fun a b => if cmpOk a b = true then some (.val (.bool (!W.dataLt b a))) else none
def geD : F2 := fun a b => if cmpOk a b = true then some (.val (.bool (!W.dataLt a b))) else none
def isND : F2
  | a, .none => some (.val (.bool (isNo a)))
  | _, _ => none
def notND : F2
  | a, .none => some (.val (.bool (!isNo a)))
  | _, _ => none

/-! ### dicts as data -/
def flatKey : PyData → Option Key
  | .int i => some (.inl i)
  | .str x => some (.inr x)
  | _ => none
def flatKeys : List PyData → Option (List Key)
  | [] => some []
  | d :: ds => match flatKey d, flatKeys ds with
    | some k, some ks => some (k :: ks)
    | _, _ => none
/-- 1: an int or a text, 2: a tuple of such, 0: no key -/
def keyKind : PyData → Nat
  | .int _ => 1
  | .str _ => 1
  | .tuple ds => if (flatKeys ds).isSome = true then 2 else 0
  | _ => 0
def okKey (kvs : List (PyData × PyData)) (k : PyData) : Bool := keyKind k != 0 && match kvs with
  | [] => true
  | p :: _ => keyKind p.1 == keyKind k
def dLook (kvs : List (PyData × PyData)) (k : PyData) : Option PyData := (kvs.find? fun p => PyData.eqv p.1 k).map (·.2)
def dPut (kvs : List (PyData × PyData)) (k v : PyData) : List (PyData × PyData) :=
  if (kvs.any fun p => PyData.eqv p.1 k) = true then kvs.map fun p => if PyData.eqv p.1 k = true then (p.1, v) else p else kvs ++ [(k, v)]
def dDrop (kvs : List (PyData × PyData)) (k : PyData) : List (PyData × PyData) := kvs.filter fun p => !PyData.eqv p.1 k
theorem flatKey_some {d : PyData} {k : Key} (h : flatKey d = some k) : d = keyD k := by
  unfold flatKey at h
  split at h
  · cases h; rfl
  · cases h; rfl
  · cases h
theorem flatKeys_some : ∀ {ds : List PyData} {ks : List Key}, flatKeys ds = some ks → ds = ks.map keyD
  | [], ks, h => by cases h; rfl
  | d :: ds, ks, h => by
    unfold flatKeys at h
    split at h
    · rename_i k ks' h1 h2
      cases h
      rw [List.map_cons, ← flatKey_some h1, ← flatKeys_some h2]
    · cases h
theorem flatKey_D (k : Key) : flatKey (keyD k) = some k := by cases k <;> rfl
theorem flatKeys_D : ∀ ks : List Key, flatKeys (ks.map keyD) = some ks
  | [] => rfl
  | k :: ks => by rw [List.map_cons]; unfold flatKeys; rw [flatKey_D, flatKeys_D ks]
theorem keyKind_D (k : Key) : keyKind (keyD k) = 1 := by cases k <;> rfl
theorem keyKind_T (ks : List Key) : keyKind (.tuple (ks.map keyD)) = 2 := by unfold keyKind; simp only [flatKeys_D, Option.isSome_some, if_true]
theorem keyKind_1 {d : PyData} (h : keyKind d = 1) : ∃ k, d = keyD k := by
  unfold keyKind at h
  split at h
  · exact ⟨.inl _, rfl⟩
  · exact ⟨.inr _, rfl⟩
  · split at h <;> cases h
  · cases h
theorem keyKind_2 {d : PyData} (h : keyKind d = 2) : ∃ ks : List Key, d = .tuple (ks.map keyD) := by
  unfold keyKind at h
  split at h
  · cases h
  · cases h
  · rename_i ds
    split at h
    · rename_i q
      obtain ⟨ks, z⟩ := Option.isSome_iff_exists.mp q
      exact ⟨ks, by rw [flatKeys_some z]⟩
    · cases h
  · cases h
theorem keyKind_cases {d : PyData} (h : keyKind d ≠ 0) : (∃ k, d = keyD k) ∨ ∃ ks : List Key, d = .tuple (ks.map keyD) := by
  have : keyKind d = 0 ∨ keyKind d = 1 ∨ keyKind d = 2 := by
    unfold keyKind
    split
    · exact .inr (.inl rfl)
    · exact .inr (.inl rfl)
    · split
      · exact .inr (.inr rfl)
      · exact .inl rfl
    · exact .inl rfl
  rcases this with q | q | q
  · exact absurd q h
  · exact .inl (keyKind_1 q)
  · exact .inr (keyKind_2 q)
theorem eqv_D (a b : Key) : PyData.eqv (keyD a) (keyD b) = decide (a = b) := by
  cases a with
  | inl i =>
    cases b with
    | inl j =>
      show PyData.eqv (.int i) (.int j) = _
      rw [key_ll, PyData.eqv]
    | inr y => show PyData.eqv (.int i) (.str y) = _; rw [key_lr, PyData.eqv]
  | inr x =>
    cases b with
    | inl j => show PyData.eqv (.str x) (.int j) = _; rw [key_rl, PyData.eqv]
    | inr y =>
      show PyData.eqv (.str x) (.str y) = _
      rw [key_rr, PyData.eqv]
      by_cases h : x = y
      · subst h; simp
      · simp [h]
theorem eqvAll_D : ∀ (a b : List Key), PyData.eqvAll (a.map keyD) (b.map keyD) = decide (a = b)
  | [], [] => by simp [PyData.eqvAll]
  | [], b :: bs => by simp [PyData.eqvAll]
  | a :: as, [] => by simp [PyData.eqvAll]
  | a :: as, b :: bs => by
    show PyData.eqvAll (keyD a :: as.map keyD) (keyD b :: bs.map keyD) = _
    rw [PyData.eqvAll, eqv_D, eqvAll_D as bs]
    simp
theorem eqv_T (a b : List Key) : PyData.eqv (.tuple (a.map keyD)) (.tuple (b.map keyD)) = decide (a = b) := by rw [PyData.eqv, eqvAll_D]

section
variable {K : PySem.W.Frag} {H : Hp} {S : Rg}
theorem repKs_kind : ∀ {kk : List (Key × V)} {kvs : List (PyData × PyData)}, RepKs K H S kk kvs → ∀ p ∈ kvs, keyKind p.1 = 1
  | _, _, .nil, p, h => by cases h
  | _, _, .cons (k := k) q r, p, h => by
    rcases List.mem_cons.mp h with e | h
    · subst e; exact keyKind_D k
    · exact repKs_kind r p h
theorem repTs_kind : ∀ {kk : List (List Key × V)} {kvs : List (PyData × PyData)}, RepTs K H S kk kvs → ∀ p ∈ kvs, keyKind p.1 = 2
  | _, _, .nil, p, h => by cases h
  | _, _, .cons (k := k) q r, p, h => by
    rcases List.mem_cons.mp h with e | h
    · subst e; exact keyKind_T k
    · exact repTs_kind r p h
theorem repKs_len : ∀ {kk : List (Key × V)} {kvs : List (PyData × PyData)}, RepKs K H S kk kvs → kk.length = kvs.length
  | _, _, .nil => rfl
  | _, _, .cons _ r => congrArg (· + 1) (repKs_len r)
theorem repTs_len : ∀ {kk : List (List Key × V)} {kvs : List (PyData × PyData)}, RepTs K H S kk kvs → kk.length = kvs.length
  | _, _, .nil => rfl
  | _, _, .cons _ r => congrArg (· + 1) (repTs_len r)
def RO (K : PySem.W.Frag) (H : Hp) (S : Rg) : Option V → Option PyData → Prop
  | some v, some d => Rep K H S v d
  | none, none => True
  | _, _ => False
theorem RO.isSome {o : Option V} {p : Option PyData} (h : RO K H S o p) : o.isSome = p.isSome := by
  cases o <;> cases p <;> first | rfl | exact h.elim
theorem RO.some' {o : Option V} {d : PyData} (h : RO K H S o (some d)) : ∃ v, o = some v ∧ Rep K H S v d := by
  cases o with
  | none => exact h.elim
  | some v => exact ⟨v, rfl, h⟩
theorem repKs_look (k : Key) : ∀ {kk : List (Key × V)} {kvs : List (PyData × PyData)}, RepKs K H S kk kvs → RO K H S (valV kk k) (dLook kvs (keyD k))
  | _, _, .nil => True.intro
  | _, _, .cons (k := j) q r => by
    unfold dLook
    rw [List.find?_cons, eqv_D]
    by_cases h : j = k
    · rw [valV_pos h, decide_eq_true h]; exact q
    · rw [valV_neg h, decide_eq_false h]; exact repKs_look k r
theorem repTs_look (k : List Key) : ∀ {kk : List (List Key × V)} {kvs : List (PyData × PyData)}, RepTs K H S kk kvs → RO K H S (valV kk k) (dLook kvs (.tuple (k.map keyD)))
  | _, _, .nil => True.intro
  | _, _, .cons (k := j) q r => by
    unfold dLook
    rw [List.find?_cons, eqv_T]
    by_cases h : j = k
    · rw [valV_pos h, decide_eq_true h]; exact q
    · rw [valV_neg h, decide_eq_false h]; exact repTs_look k r
theorem repKs_map (k : Key) {v : V} {d : PyData} (hv : Rep K H S v d) : ∀ {kk : List (Key × V)} {kvs : List (PyData × PyData)}, RepKs K H S kk kvs →
    RepKs K H S (kk.map fun kv => if kv.1 = k then (kv.1, v) else kv) (kvs.map fun p => if PyData.eqv p.1 (keyD k) = true then (p.1, d) else p)
  | _, _, .nil => .nil
  | _, _, .cons (k := j) q r => by
    rw [List.map_cons, List.map_cons]
    by_cases h : j = k
    · rw [if_pos h, if_pos (by rw [eqv_D, decide_eq_true h])]; exact .cons hv (repKs_map k hv r)
    · rw [if_neg h, if_neg (by rw [eqv_D, decide_eq_false h]; exact Bool.false_ne_true)]; exact .cons q (repKs_map k hv r)
theorem repTs_map (k : List Key) {v : V} {d : PyData} (hv : Rep K H S v d) : ∀ {kk : List (List Key × V)} {kvs : List (PyData × PyData)}, RepTs K H S kk kvs →
    RepTs K H S (kk.map fun kv => if kv.1 = k then (kv.1, v) else kv) (kvs.map fun p => if PyData.eqv p.1 (.tuple (k.map keyD)) = true then (p.1, d) else p)
  | _, _, .nil => .nil
  | _, _, .cons (k := j) q r => by
    rw [List.map_cons, List.map_cons]
    by_cases h : j = k
    · rw [if_pos h, if_pos (by rw [eqv_T, decide_eq_true h])]; exact .cons hv (repTs_map k hv r)
    · rw [if_neg h, if_neg (by rw [eqv_T, decide_eq_false h]; exact Bool.false_ne_true)]; exact .cons q (repTs_map k hv r)
theorem repKs_snoc (k : Key) {v : V} {d : PyData} (hv : Rep K H S v d) : ∀ {kk : List (Key × V)} {kvs : List (PyData × PyData)}, RepKs K H S kk kvs → RepKs K H S (kk ++ [(k, v)]) (kvs ++ [(keyD k, d)])
  | _, _, .nil => .cons hv .nil
  | _, _, .cons q r => .cons q (repKs_snoc k hv r)
theorem repTs_snoc (k : List Key) {v : V} {d : PyData} (hv : Rep K H S v d) : ∀ {kk : List (List Key × V)} {kvs : List (PyData × PyData)}, RepTs K H S kk kvs → RepTs K H S (kk ++ [(k, v)]) (kvs ++ [(.tuple (k.map keyD), d)])
  | _, _, .nil => .cons hv .nil
  | _, _, .cons q r => .cons q (repTs_snoc k hv r)
theorem repKs_any (k : Key) {kk : List (Key × V)} {kvs : List (PyData × PyData)} (r : RepKs K H S kk kvs) : (kk.any fun kv => decide (kv.1 = k)) = kvs.any fun p => PyData.eqv p.1 (keyD k) := by
  have h := (repKs_look k r).isSome
  rw [valV_any, h]
  unfold dLook
  rw [Option.isSome_map, Bool.eq_iff_iff, List.find?_isSome]
  simp
theorem repTs_any (k : List Key) {kk : List (List Key × V)} {kvs : List (PyData × PyData)} (r : RepTs K H S kk kvs) : (kk.any fun kv => decide (kv.1 = k)) = kvs.any fun p => PyData.eqv p.1 (.tuple (k.map keyD)) := by
  have h := (repTs_look k r).isSome
  rw [valV_any, h]
  unfold dLook
  rw [Option.isSome_map, Bool.eq_iff_iff, List.find?_isSome]
  simp
end
end FL

set_option Elab.async false
set_option linter.all false
set_option maxRecDepth 100000
set_option maxHeartbeats 4000000
namespace FL
open PySem PySem.Spec PyProof.Rows L2

section
variable {K : PySem.W.Frag} {H : Hp} {S : Rg}
theorem repKs_put (k : Key) {v : V} {d : PyData} (hv : Rep K H S v d) {kk : List (Key × V)} {kvs : List (PyData × PyData)} (r : RepKs K H S kk kvs) : RepKs K H S (putK kk k v) (dPut kvs (keyD k) d) := by
  unfold putK dPut
  rw [repKs_any k r]
  split
  · exact repKs_map k hv r
  · exact repKs_snoc k hv r
theorem repTs_put (k : List Key) {v : V} {d : PyData} (hv : Rep K H S v d) {kk : List (List Key × V)} {kvs : List (PyData × PyData)} (r : RepTs K H S kk kvs) : RepTs K H S (putK kk k v) (dPut kvs (.tuple (k.map keyD)) d) := by
  unfold putK dPut
  rw [repTs_any k r]
  split
  · exact repTs_map k hv r
  · exact repTs_snoc k hv r
theorem repKs_drop (k : Key) : ∀ {kk : List (Key × V)} {kvs : List (PyData × PyData)}, RepKs K H S kk kvs → RepKs K H S (dropK kk k) (dDrop kvs (keyD k))
  | _, _, .nil => .nil
  | _, _, .cons (k := j) q r => by
    unfold dropK dDrop
    rw [List.filter_cons, List.filter_cons]
    by_cases h : j = k
    · rw [if_neg (by simp [h]), if_neg (by rw [eqv_D, decide_eq_true h]; simp)]; exact repKs_drop k r
    · rw [if_pos (by simp [h]), if_pos (by rw [eqv_D, decide_eq_false h]; rfl)]; exact .cons q (repKs_drop k r)

/-- a dict's look-up, over the heap -/
inductive DL (X : Cx) (s : Shared) (H : Hp) (S : Rg) (a : Addr) (y : V) (kvs : List (PyData × PyData)) (kd : PyData) : Prop
  | k (key : Key) (vs : List (Key × Value)) (o : Option V) : y = kV key → s.heap.DictOf (mixKind X.prog X.w) a vs → RelO o (valueAt vs key) → RO X.K H S o (dLook kvs kd) → DL X s H S a y kvs kd
  | t (ks : List Key) (b : Addr) (xs : List (List Key × Addr × Value)) (o : Option V) : y = .ref b → (tupleKind (mixKind X.prog X.w)).is s.heap ks b → s.heap.DictOfH (tupleKind (mixKind X.prog X.w)) a xs → RelO o ((atKey xs ks).map (·.2)) → RO X.K H S o (dLook kvs kd) → DL X s H S a y kvs kd
theorem okKey_kind {kvs : List (PyData × PyData)} {kd : PyData} (h : okKey kvs kd = true) : keyKind kd ≠ 0 ∧ ∀ p r, kvs = p :: r → keyKind p.1 = keyKind kd := by
  unfold okKey at h
  rw [Bool.and_eq_true] at h
  refine ⟨by simpa using h.1, fun p r e => ?_⟩
  subst e
  simpa using h.2
end
section
variable {X : Cx} {pins : List (Addr × Obj)} {s : Shared} {σ σ' : St} {H : Hp} {S : Rg} {e : Ev} {a : Addr}
theorem empties (I : Inv X pins σ' H s) (h : Rd H a (.dK []) ∨ Rd H a (.dT [])) : (a == sysModules) = false ∧ s.heap.DictOf (mixKind X.prog X.w) a [] ∧ s.heap.DictOfH (tupleKind (mixKind X.prog X.w)) a [] := by
  rcases h with h | h
  · obtain ⟨_, hd, vs, rel, dd⟩ := dk_rd I.hok h
    cases rel
    refine ⟨hd, dd, ?_⟩
    obtain ⟨o, es, ep, h1, h2, h3, _, h4, _⟩ := dd
    have : es.toList = [] := by
      cases q : es.toList with
      | nil => rfl
      | cons x r => rw [q] at h4; cases h4
    exact ⟨o, es, ep, h1, h2, h3, this, fun _ z => (by cases z), List.Pairwise.nil⟩
  · obtain ⟨_, hd, xs, rel, dd⟩ := dt_rd I.hok h
    cases rel
    refine ⟨hd, ?_, dd⟩
    obtain ⟨o, es, ep, h1, h2, h3, h4, _, _⟩ := dd
    have : es = #[] := by
      have : es.toList = [] := h4
      exact Array.toList_eq_nil_iff.mp this
    subst this
    exact ⟨o, #[], ep, h1, h2, h3, fun x hx => (by simp at hx), .nil, List.Pairwise.nil⟩
theorem Rdb.look {v y : V} {kvs : List (PyData × PyData)} {kd : PyData} (I : Inv X pins σ' H s) (r : Rdb X.K H S σ e v (.dict kvs)) (ry : Rdb X.K H S σ e y kd) (h : okKey kvs kd = true) :
    ∃ a, v = .ref a ∧ (a == sysModules) = false ∧ s.TypeIs (.ref a) "dict" ∧ (∃ ob, s.heap.get? a = some ob ∧ ob.dict = none) ∧ DL X s H S a y kvs kd := by
  obtain ⟨hk, hf⟩ := okKey_kind h
  obtain ⟨a, rfl, hd⟩ := r.dict
  have keyF : ∀ k : Key, kd = keyD k → y = kV k := fun k ek => by
    subst ek
    cases k with
    | inl i => exact ry.int
    | inr x => exact ry.str
  have keyT : ∀ ks : List Key, kd = .tuple (ks.map keyD) → ∃ b, y = .ref b ∧ H b = some (.tup (ks.map kV)) := fun ks ek => by
    subst ek
    obtain ⟨b, xs, rfl, hb, hr⟩ := ry.tup
    refine ⟨b, rfl, ?_⟩
    have all : ∀ {xs : List V} {ks : List Key}, RepAll X.K H S xs (ks.map keyD) → xs = ks.map kV := by
      intro xs ks
      induction ks generalizing xs with
      | nil => intro q; cases q; rfl
      | cons k ks ih =>
        intro q
        cases q with
        | cons q1 q2 =>
          rw [List.map_cons, ← ih q2]
          cases k with
          | inl i => cases q1; rfl
          | inr x => cases q1; rfl
    rw [← all hr]; exact hb
  refine ⟨a, rfl, ?_⟩
  rcases hd with ⟨kk, q, rr⟩ | ⟨kk, q, rr⟩
  · obtain ⟨_, hs, vs, rel, dd⟩ := dk_rd I.hok q
    have ty : s.TypeIs (.ref a) "dict" := dd.typeIs
    have nd : ∃ ob, s.heap.get? a = some ob ∧ ob.dict = none := let ⟨ob, _, _, h1, h2, _⟩ := dd; ⟨ob, h1, h2.2.1⟩
    refine ⟨hs, ty, nd, ?_⟩
    rcases keyKind_cases hk with ⟨k, ek⟩ | ⟨ks, ek⟩
    · refine .k k vs (valV kk k) (keyF k ek) dd (rel.val k) ?_
      rw [ek]; exact repKs_look k rr
    · have : kvs = [] := by
        cases kvs with
        | nil => rfl
        | cons p r =>
          have h1 := hf p _ rfl
          have h2 := repKs_kind rr p List.mem_cons_self
          rw [ek, keyKind_T, h2] at h1
          cases h1
      subst this
      cases rr
      obtain ⟨b, eb, hb⟩ := keyT ks ek
      exact .t ks b [] none eb (key_of I.hok hb) (empties I (.inl q)).2.2 True.intro True.intro
  · obtain ⟨_, hs, xs, rel, dd⟩ := dt_rd I.hok q
    have ty : s.TypeIs (.ref a) "dict" := dd.typeIs
    have nd : ∃ ob, s.heap.get? a = some ob ∧ ob.dict = none := let ⟨ob, _, _, h1, h2, _⟩ := dd; ⟨ob, h1, h2.2.1⟩
    refine ⟨hs, ty, nd, ?_⟩
    rcases keyKind_cases hk with ⟨k, ek⟩ | ⟨ks, ek⟩
    · have : kvs = [] := by
        cases kvs with
        | nil => rfl
        | cons p r =>
          have h1 := hf p _ rfl
          have h2 := repTs_kind rr p List.mem_cons_self
          rw [ek, keyKind_D, h2] at h1
          cases h1
      subst this
      cases rr
      exact .k k [] none (keyF k ek) (empties I (.inr q)).2.1 True.intro True.intro
    · obtain ⟨b, eb, hb⟩ := keyT ks ek
      refine .t ks b xs (valV kk ks) eb (key_of I.hok hb) dd (rel.val ks) ?_
      rw [ek]; exact repTs_look ks rr
end

/-! ### in, not in -/
def inB (d : PyData) : PyData → Option Bool
  | .list xs => if nice 12 d = true ∧ xs.all (nice 12) = true then some (xs.any fun y => PyData.eqv y d) else none
  | .tuple xs => if nice 12 d = true ∧ xs.all (nice 12) = true then some (xs.any fun y => PyData.eqv y d) else none
  | .dict kvs => if okKey kvs d = true then some (dLook kvs d).isSome else none
  | .str y => match d with
    | .str x => some (!(Builtin.Str.occurrences y x 0 y.length 1).isEmpty)
    | _ => none
  | _ => none
def inD : F2 := fun a b => match inB a b with
  | some k => some (.val (.bool k))
  | none => none
def notInD : F2 := fun a b => match inB a b with
  | some k => some (.val (.bool (!k)))
  | none => none
theorem tupleKind_in1 {X : Cx} (hu : X.A.units + 70 < cLine) : (tupleKind (mixKind X.prog X.w)).room X.A.in1 := tupleKind_room_in1 (by omega)
section
variable {X : Cx}
theorem d_eq (hu : X.A.units + 70 < cLine) : D2 X (compareOp .Eq) eqD := opOf fun pins s σ' S σ e H x y v u d1 d2 r Q I rx ry ok r1 r2 q k => by
  obtain ⟨c, rfl⟩ := ite_some q
  rw [Bool.and_eq_true] at c
  obtain ⟨as, q1⟩ := r1.reads I c.1 rx
  obtain ⟨bs, q2⟩ := r2.reads I c.2 ry
  obtain ⟨p1, e1⟩ := nice_ok _ _ c.1
  obtain ⟨p2, e2⟩ := nice_ok _ _ c.2
  exact SeqAt.eq_plain q1 q2 p1 p2 (by omega) ⟨.bl _, H, I, rfl, k.bl ok⟩
theorem d_ne (hu : X.A.units + 70 < cLine) : D2 X (compareOp .NotEq) neD := opOf fun pins s σ' S σ e H x y v u d1 d2 r Q I rx ry ok r1 r2 q k => by
  obtain ⟨c, rfl⟩ := ite_some q
  rw [Bool.and_eq_true] at c
  obtain ⟨as, q1⟩ := r1.reads I c.1 rx
  obtain ⟨bs, q2⟩ := r2.reads I c.2 ry
  obtain ⟨p1, e1⟩ := nice_ok _ _ c.1
  obtain ⟨p2, e2⟩ := nice_ok _ _ c.2
  exact SeqAt.ne_plain q1 q2 p1 p2 (by omega) ⟨.bl _, H, I, rfl, k.bl ok⟩
theorem cmpOk_ok {a b : PyData} (h : cmpOk a b = true) : nice 12 a = true ∧ nice 12 b = true ∧ W.alike a b = true ∧ a ≠ .none := by
  unfold cmpOk at h
  simp only [Bool.and_eq_true] at h
  obtain ⟨⟨⟨h1, h2⟩, h3⟩, h4⟩ := h
  refine ⟨h1, h2, h3, fun z => ?_⟩
  subst z
  simp [isNo] at h4
theorem d_lt (hu : X.A.units + 70 < cLine) : D2 X (compareOp .Lt) ltD := opOf fun pins s σ' S σ e H x y v u d1 d2 r Q I rx ry ok r1 r2 q k => by
  obtain ⟨c, rfl⟩ := ite_some q
  obtain ⟨c1, c2, c3, c4⟩ := cmpOk_ok c
  obtain ⟨as, q1⟩ := r1.reads I c1 rx
  obtain ⟨bs, q2⟩ := r2.reads I c2 ry
  exact W.lt_data q1 q2 c3 c4 (by have := (nice_ok _ _ c1).2; omega) ⟨.bl _, H, I, rfl, k.bl ok⟩
theorem d_gt (hu : X.A.units + 70 < cLine) : D2 X (compareOp .Gt) gtD := opOf fun pins s σ' S σ e H x y v u d1 d2 r Q I rx ry ok r1 r2 q k => by
  obtain ⟨c, rfl⟩ := ite_some q
  obtain ⟨c1, c2, c3, c4⟩ := cmpOk_ok c
  obtain ⟨as, q1⟩ := r1.reads I c1 rx
  obtain ⟨bs, q2⟩ := r2.reads I c2 ry
  exact W.gt_data q1 q2 c3 c4 (by have := (nice_ok _ _ c1).2; omega) ⟨.bl _, H, I, rfl, k.bl ok⟩
theorem d_le (hu : X.A.units + 70 < cLine) : D2 X (compareOp .LtE) leD := opOf fun pins s σ' S σ e H x y v u d1 d2 r Q I rx ry ok r1 r2 q k => by
  obtain ⟨c, rfl⟩ := ite_some q
  obtain ⟨c1, c2, c3, c4⟩ := cmpOk_ok c
  obtain ⟨as, q1⟩ := r1.reads I c1 rx
  obtain ⟨bs, q2⟩ := r2.reads I c2 ry
  exact W.le_data q1 q2 c3 c4 (by have := (nice_ok _ _ c1).2; omega) ⟨.bl _, H, I, rfl, k.bl ok⟩
theorem d_ge (hu : X.A.units + 70 < cLine) : D2 X (compareOp .GtE) geD := opOf fun pins s σ' S σ e H x y v u d1 d2 r Q I rx ry ok r1 r2 q k => by
  obtain ⟨c, rfl⟩ := ite_some q
  obtain ⟨c1, c2, c3, c4⟩ := cmpOk_ok c
  obtain ⟨as, q1⟩ := r1.reads I c1 rx
  obtain ⟨bs, q2⟩ := r2.reads I c2 ry
  exact W.ge_data q1 q2 c3 c4 (by have := (nice_ok _ _ c1).2; omega) ⟨.bl _, H, I, rfl, k.bl ok⟩
theorem Rdb.isNon {K : PySem.W.Frag} {H : Hp} {S : Rg} {σ : St} {e : Ev} : ∀ {v : V} {d : PyData}, Rdb K H S σ e v d → decide (v = .non) = isNo d
  | v, .none, r => by have := r.non; subst this; rfl
  | v, .bool b, r => by have := r.bl; subst this; rfl
  | v, .int b, r => by have := r.int; subst this; rfl
  | v, .str b, r => by have := r.str; subst this; rfl
  | v, .list b, r => by obtain ⟨a, xs, q, _⟩ := r.lst; subst q; rfl
  | v, .tuple b, r => by obtain ⟨a, xs, q, _⟩ := r.tup; subst q; rfl
  | v, .dict b, r => by obtain ⟨a, q, _⟩ := r.dict; subst q; rfl
theorem d_isN : D2 X (compareOp .Is) isND := opOf fun pins s σ' S σ e H x y v u d1 d2 r Q I rx ry ok r1 r2 q k => by
  unfold isND at q
  split at q
  · cases q
    rw [r2.non] at ry
    exact op_isN pins s σ' H _ _ v u Q I rx ry ⟨rfl, by rw [r1.isNon]; exact k.bl ok⟩
  · cases q
theorem d_notN : D2 X (compareOp .IsNot) notND := opOf fun pins s σ' S σ e H x y v u d1 d2 r Q I rx ry ok r1 r2 q k => by
  unfold notND at q
  split at q
  · cases q
    rename_i d
    rw [r2.non] at ry
    refine op_notN pins s σ' H _ _ v u Q I rx ry ⟨rfl, ?_⟩
    rw [r1.isNon]
    exact k.bl ok
  · cases q
theorem d_in (hu : X.A.units + 70 < cLine) : D2 X (compareOp .In) inD := opOf fun pins s σ' S σ e H x y v u d1 d2 r Q I rx ry ok r1 r2 q k => by
  unfold inD at q
  split at q
  · rename_i b hb
    cases q
    unfold inB at hb
    split at hb
    · rename_i xs
      obtain ⟨⟨c1, c2⟩, rfl⟩ := ite_some hb
      obtain ⟨as, q1⟩ := r1.reads I c1 rx
      obtain ⟨bs, q2⟩ := r2.reads (n := 13) I (by simpa [nice] using c2) ry
      obtain ⟨p1, e1⟩ := nice_all (nice_ok 12) xs c2
      obtain ⟨p2, e2⟩ := nice_ok _ _ c1
      exact SeqAt.in_list_data q2 q1 p1 p2 (by omega) ⟨.bl _, H, I, rfl, k.bl ok⟩
    · rename_i xs
      obtain ⟨⟨c1, c2⟩, rfl⟩ := ite_some hb
      obtain ⟨as, q1⟩ := r1.reads I c1 rx
      obtain ⟨bs, q2⟩ := r2.reads (n := 13) I (by simpa [nice] using c2) ry
      obtain ⟨p1, e1⟩ := nice_all (nice_ok 12) xs c2
      obtain ⟨p2, e2⟩ := nice_ok _ _ c1
      exact SeqAt.in_tuple_data q2 q1 p1 p2 (by omega) ⟨.bl _, H, I, rfl, k.bl ok⟩
    · obtain ⟨c, rfl⟩ := ite_some hb
      obtain ⟨a, rfl, hs, ty, nd, dl⟩ := r2.look I r1 c
      cases ry
      cases dl with
      | k key vs o ey dd h1 h2 =>
        subst ey
        refine wpAny_in_of (kV_is rx) hs dd.mapOf ?_
        rw [← h1.isSome_eq, h2.isSome]
        exact ⟨.bl _, H, I.tok _, rfl, k.bl ok⟩
      | t ks b xs o ey hk dd h1 h2 =>
        subst ey
        cases rx
        refine wpAny_in_heap (tupleKind_in1 hu) hk hs dd ?_
        have z := h1.isSome_eq
        rw [Option.isSome_map, h2.isSome] at z
        rw [← z]
        exact ⟨.bl _, H, I.tok _, rfl, k.bl ok⟩
    · split at hb
      · cases hb
        rw [r1.str] at rx; rw [r2.str] at ry
        exact op_in_str pins s σ' H _ _ v u Q I rx ry ⟨_, _, rfl, rfl, k.bl ok⟩
      · cases hb
    · cases hb
  · cases q
theorem d_notIn (hu : X.A.units + 70 < cLine) : D2 X (compareOp .NotIn) notInD := opOf fun pins s σ' S σ e H x y v u d1 d2 r Q I rx ry ok r1 r2 q k => by
  unfold notInD at q
  split at q
  · rename_i b hb
    cases q
    unfold inB at hb
    split at hb
    · rename_i xs
      obtain ⟨⟨c1, c2⟩, rfl⟩ := ite_some hb
      obtain ⟨as, q1⟩ := r1.reads I c1 rx
      obtain ⟨bs, q2⟩ := r2.reads (n := 13) I (by simpa [nice] using c2) ry
      obtain ⟨p1, e1⟩ := nice_all (nice_ok 12) xs c2
      obtain ⟨p2, e2⟩ := nice_ok _ _ c1
      exact SeqAt.notIn_list_data q2 q1 p1 p2 (by omega) ⟨.bl _, H, I, rfl, k.bl ok⟩
    · rename_i xs
      obtain ⟨⟨c1, c2⟩, rfl⟩ := ite_some hb
      obtain ⟨as, q1⟩ := r1.reads I c1 rx
      obtain ⟨bs, q2⟩ := r2.reads (n := 13) I (by simpa [nice] using c2) ry
      obtain ⟨p1, e1⟩ := nice_all (nice_ok 12) xs c2
      obtain ⟨p2, e2⟩ := nice_ok _ _ c1
      exact SeqAt.notIn_tuple_data q2 q1 p1 p2 (by omega) ⟨.bl _, H, I, rfl, k.bl ok⟩
    · obtain ⟨c, rfl⟩ := ite_some hb
      obtain ⟨a, rfl, hs, ty, nd, dl⟩ := r2.look I r1 c
      cases ry
      cases dl with
      | k key vs o ey dd h1 h2 =>
        subst ey
        refine wpAny_notIn_of (kV_is rx) hs dd.mapOf ?_
        rw [← h1.isSome_eq, h2.isSome]
        exact ⟨.bl _, H, I.tok _, rfl, k.bl ok⟩
      | t ks b xs o ey hk dd h1 h2 =>
        subst ey
        cases rx
        refine wpAny_notIn_heap (tupleKind_in1 hu) hk hs dd ?_
        have z := h1.isSome_eq
        rw [Option.isSome_map, h2.isSome] at z
        rw [← z]
        exact ⟨.bl _, H, I.tok _, rfl, k.bl ok⟩
    · split at hb
      · cases hb
        rw [r1.str] at rx; rw [r2.str] at ry
        exact op_notin_str pins s σ' H _ _ v u Q I rx ry ⟨_, _, rfl, rfl, k.bl ok⟩
      · cases hb
    · cases hb
  · cases q
end
end FL

set_option Elab.async false
set_option linter.all false
set_option maxRecDepth 100000
set_option maxHeartbeats 4000000
namespace FL
open PySem PySem.Spec PyProof.Rows L2

def intsOf : List PyData → Option (List Int)
  | [] => some []
  | .int i :: r => match intsOf r with
    | some ns => some (i :: ns)
    | none => none
  | _ => none
def blsOf : List PyData → Option (List Bool)
  | [] => some []
  | .bool i :: r => match blsOf r with
    | some ns => some (i :: ns)
    | none => none
  | _ => none
theorem intsOf_some : ∀ {ds : List PyData} {ns : List Int}, intsOf ds = some ns → ds = ns.map .int
  | [], ns, h => by cases h; rfl
  | d :: r, ns, h => by
    cases d with
    | int i =>
      unfold intsOf at h
      split at h
      · rename_i ms q
        cases h
        rw [List.map_cons, ← intsOf_some q]
      · cases h
    | _ => cases h
theorem blsOf_some : ∀ {ds : List PyData} {ns : List Bool}, blsOf ds = some ns → ds = ns.map .bool
  | [], ns, h => by cases h; rfl
  | d :: r, ns, h => by
    cases d with
    | bool i =>
      unfold blsOf at h
      split at h
      · rename_i ms q
        cases h
        rw [List.map_cons, ← blsOf_some q]
      · cases h
    | _ => cases h
theorem intsOf_map {α : Type} (f : α → Int) : ∀ l : List α, intsOf (l.map fun x => PyData.int (f x)) = some (l.map f)
  | [] => rfl
  | x :: l => by rw [List.map_cons, intsOf, intsOf_map f l]; rfl
theorem blsOf_map {α : Type} (f : α → Bool) : ∀ l : List α, blsOf (l.map fun x => PyData.bool (f x)) = some (l.map f)
  | [] => rfl
  | x :: l => by rw [List.map_cons, blsOf, blsOf_map f l]; rfl

def lenD : F1
  | .list ds => some (.val (.int ds.length))
  | .tuple ds => some (.val (.int ds.length))
  | .str x => if x.length ≤ 16777216 then some (.val (.int x.length)) else none
  | .dict kvs => some (.val (.int kvs.length))
  | _ => none
def absD : F1
  | .int i => some (.val (.int (if i < 0 then -i else i)))
  | _ => none
def intD : F1
  | .int i => some (.val (.int i))
  | .bool b => some (.val (.int (if b then 1 else 0)))
  | _ => none
def max2D : F2
  | .int i, .int j => some (.val (.int (if j > i then j else i)))
  | _, _ => none
def min2D : F2
  | .int i, .int j => some (.val (.int (if j < i then j else i)))
  | _, _ => none
def sumD : F1
  | .list ds => match intsOf ds with
    | some ns => some (.val (.int ns.sum))
    | none => none
  | _ => none
def anyD : F1
  | .list ds => match blsOf ds with
    | some ns => some (.val (.bool (ns.any id)))
    | none => none
  | _ => none
def allD : F1
  | .list ds => match blsOf ds with
    | some ns => some (.val (.bool (ns.all id)))
    | none => none
  | _ => none
def tupD : F1
  | .list ds => some (.val (.tuple ds))
  | .tuple ds => some (.val (.tuple ds))
  | _ => none
/-- list(x); the keys of a dict are ints and texts, or tuples -/
def listD : F1
  | .list ds => some (.own (.list ds))
  | .tuple ds => some (.own (.list ds))
  | .dict kvs => some (.own (.list (kvs.map (·.1))))
  | _ => none
def gcdD : F2
  | .int a, .int b => some (.val (.int ((Nat.gcd a.natAbs b.natAbs : Nat) : Int)))
  | _, _ => none
def alikes (ds : List PyData) : Bool := ds.all fun x => !isNo x && nice 12 x && ds.all fun y => W.alike x y
def minD : F1
  | .list (x :: xs) => if alikes (x :: xs) = true then some (.val (W.minD x xs)) else none
  | .tuple (x :: xs) => if alikes (x :: xs) = true then some (.val (W.minD x xs)) else none
  | _ => none
def maxD : F1
  | .list (x :: xs) => if alikes (x :: xs) = true then some (.val (W.maxD x xs)) else none
  | .tuple (x :: xs) => if alikes (x :: xs) = true then some (.val (W.maxD x xs)) else none
  | _ => none
def isTup1 : PyData → Bool
  | .tuple (_ :: _) => true
  | _ => false
def isTupA : PyData → Bool
  | .tuple _ => true
  | _ => false
def sortOk (ds : List PyData) : Bool := alikes ds && (ds.all isTup1 || ds.all fun d => !isTupA d)
def sortD : List PyData → List PyData := fun ds => ds.mergeSort (W.dataLe false id)
def sortedD : F1
  | .list ds => if sortOk ds = true then some (.own (.list (sortD ds))) else none
  | _ => none

theorem alikes_ok {ds : List PyData} (h : alikes ds = true) : W.AlikeAll ds ∧ PyData.depthAll ds ≤ 12 ∧ PyData.plainAll ds = true ∧ ds.all (nice 12) = true := by
  unfold alikes at h
  rw [List.all_eq_true] at h
  have h1 : ∀ x ∈ ds, x ≠ .none ∧ nice 12 x = true ∧ ∀ y ∈ ds, W.alike x y = true := fun x hx => by
    have := h x hx
    rw [Bool.and_eq_true, Bool.and_eq_true, List.all_eq_true] at this
    refine ⟨fun z => ?_, this.1.2, this.2⟩
    subst z
    simp [isNo] at this
  have h2 : ds.all (nice 12) = true := List.all_eq_true.mpr fun x hx => (h1 x hx).2.1
  exact ⟨⟨fun x hx y hy => (h1 x hx).2.2 y hy, fun x hx => (h1 x hx).1⟩, (nice_all (nice_ok 12) ds h2).2, (nice_all (nice_ok 12) ds h2).1, h2⟩

section
variable {X : Cx}
theorem call1 {f : Value} {g : F1} (h : ∀ (pins : List (Addr × Obj)) (s : Shared) (σ' : St) (S : Rg) (σ : St) (e : Ev) (H : Hp) (x : V) (u : Value) (d : PyData) (r : Sl) (Q : VK), Inv X pins σ' H s → RelV x u → Ok X.K S σ H e →
    Rdb X.K H S σ e x d → g d = some r → Fin X.K σ S H e Q r → wpAny (model X.prog X.w) X.A (call f [u]) (EP X pins σ' Q) X.xe s) : Dn X f (l1 g) := callOf fun pins s σ' S σ e H xs us ds r Q I rv ok rd q k => by
  unfold l1 at q
  split at q
  · obtain ⟨x, rfl, r1⟩ := paired1 rd
    obtain ⟨u, rfl, ru⟩ := vals1 rv
    exact h pins s σ' S σ e H x u _ r Q I ru ok r1 q k
  · cases q
theorem call2 {f : Value} {g : F2} (h : ∀ (pins : List (Addr × Obj)) (s : Shared) (σ' : St) (S : Rg) (σ : St) (e : Ev) (H : Hp) (x y : V) (u v : Value) (d1 d2 : PyData) (r : Sl) (Q : VK), Inv X pins σ' H s → RelV x u → RelV y v → Ok X.K S σ H e →
    Rdb X.K H S σ e x d1 → Rdb X.K H S σ e y d2 → g d1 d2 = some r → Fin X.K σ S H e Q r → wpAny (model X.prog X.w) X.A (call f [u, v]) (EP X pins σ' Q) X.xe s) : Dn X f (l2 g) := callOf fun pins s σ' S σ e H xs us ds r Q I rv ok rd q k => by
  unfold l2 at q
  split at q
  · obtain ⟨x, y, rfl, r1, r2⟩ := paired2 rd
    obtain ⟨u, v, rfl, ru, rv'⟩ := vals2 rv
    exact h pins s σ' S σ e H x y u v _ _ r Q I ru rv' ok r1 r2 q k
  · cases q
theorem one {x : V} {u : Value} (r : RelV x u) : Vals [x] [u] := .cons r .nil
theorem two {x y : V} {u v : Value} (r : RelV x u) (q : RelV y v) : Vals [x, y] [u, v] := .cons r (.cons q .nil)
theorem b_len : Dn X (.builtin "len") (l1 lenD) := call1 fun pins s σ' S σ e H x u d r Q I rx ok r1 q k => by
  cases d with
  | list ds =>
    cases q
    obtain ⟨a, xs, rfl, h1, q1⟩ := r1.lst
    exact call_len_seq pins s σ' H _ _ Q I (one rx) ⟨a, xs, rfl, .inl (.of h1), by rw [q1.length]; exact k.int ok⟩
  | tuple ds =>
    cases q
    obtain ⟨a, xs, rfl, h1, q1⟩ := r1.tup
    exact call_len_seq pins s σ' H _ _ Q I (one rx) ⟨a, xs, rfl, .inr (.of h1), by rw [q1.length]; exact k.int ok⟩
  | str x =>
    obtain ⟨hz, rfl⟩ := ite_some q
    rw [r1.str] at rx
    exact call_len_str pins s σ' H _ _ Q I (one rx) ⟨x, rfl, by rw [lim_eq]; exact hz, k.int ok⟩
  | dict kvs =>
    cases q
    obtain ⟨a, rfl, hd⟩ := r1.dict
    cases rx
    rcases hd with ⟨kk, h1, q1⟩ | ⟨kk, h1, q1⟩
    · exact d_len I h1 fun t s' I' => ⟨.int kk.length, H, I', ⟨_, rfl⟩, by rw [repKs_len q1]; exact k.int ok⟩
    · obtain ⟨hz, hs, xs, rel, dd⟩ := dt_rd I.hok h1
      have hl : kk.length = xs.length := Paired.length rel
      have hfit : (xs.length : Int) < 2 ^ 63 := by rw [lim_eq] at hz; omega
      refine call_len_dictH hs dd hfit ?_
      exact ⟨.int xs.length, H, I.tok _, ⟨_, rfl⟩, by rw [← hl, repTs_len q1]; exact k.int ok⟩
  | _ => cases q
theorem b_abs : Dn X (.builtin "abs") (l1 absD) := call1 fun pins s σ' S σ e H x u d r Q I rx ok r1 q k => by
  cases d <;> cases q
  rw [r1.int] at rx
  exact call_abs pins s σ' H _ _ Q I (one rx) ⟨_, rfl, k.int ok⟩
theorem b_int : Dn X (.type "int") (l1 intD) := call1 fun pins s σ' S σ e H x u d r Q I rx ok r1 q k => by
  cases d <;> cases q
  · rw [r1.bl] at rx
    exact call_int1 pins s σ' H _ _ Q I (one rx) (.inr ⟨_, rfl, k.int ok⟩)
  · rw [r1.int] at rx
    exact call_int1 pins s σ' H _ _ Q I (one rx) (.inl ⟨_, rfl, k.int ok⟩)
theorem b_max2 (hc : X.calm = true) : Dn X (.builtin "max") (l2 max2D) := call2 fun pins s σ' S σ e H x y u v d1 d2 r Q I rx ry ok r1 r2 q k => by
  unfold max2D at q
  split at q <;> cases q
  rw [r1.int] at rx; rw [r2.int] at ry
  exact call_max2 hc pins s σ' H _ _ Q I (two rx ry) ⟨_, _, rfl, k.int ok⟩
theorem b_min2 (hc : X.calm = true) : Dn X (.builtin "min") (l2 min2D) := call2 fun pins s σ' S σ e H x y u v d1 d2 r Q I rx ry ok r1 r2 q k => by
  unfold min2D at q
  split at q <;> cases q
  rw [r1.int] at rx; rw [r2.int] at ry
  exact call_min2 hc pins s σ' H _ _ Q I (two rx ry) ⟨_, _, rfl, k.int ok⟩
theorem b_gcd : Dn X (.builtin "math.gcd") (l2 gcdD) := call2 fun pins s σ' S σ e H x y u v d1 d2 r Q I rx ry ok r1 r2 q k => by
  unfold gcdD at q
  split at q <;> cases q
  rw [r1.int] at rx; rw [r2.int] at ry
  exact cr_gcd pins s σ' H _ _ Q I (two rx ry) ⟨_, _, rfl, k.int ok⟩
theorem b_sum (hc : X.calm = true) : Dn X (.builtin "sum") (l1 sumD) := call1 fun pins s σ' S σ e H x u d r Q I rx ok r1 q k => by
  cases d <;> try cases q
  unfold sumD at q
  simp only at q
  split at q
  · rename_i ns hn
    cases q
    obtain ⟨a, xs, rfl, h1, q1⟩ := r1.lst
    rw [intsOf_some hn] at q1
    exact cr_sum hc pins s σ' H _ _ Q I (one rx) ⟨a, ns, rfl, .of (by rw [← q1.ints]; exact h1), k.int ok⟩
  · cases q
theorem b_any (hc : X.calm = true) : Dn X (.builtin "any") (l1 anyD) := call1 fun pins s σ' S σ e H x u d r Q I rx ok r1 q k => by
  cases d <;> try cases q
  unfold anyD at q
  simp only at q
  split at q
  · rename_i ns hn
    cases q
    obtain ⟨a, xs, rfl, h1, q1⟩ := r1.lst
    rw [blsOf_some hn] at q1
    exact cr_any hc pins s σ' H _ _ Q I (one rx) ⟨a, ns, rfl, .of (by rw [← q1.bls]; exact h1), k.bl ok⟩
  · cases q
theorem b_all (hc : X.calm = true) : Dn X (.builtin "all") (l1 allD) := call1 fun pins s σ' S σ e H x u d r Q I rx ok r1 q k => by
  cases d <;> try cases q
  unfold allD at q
  simp only at q
  split at q
  · rename_i ns hn
    cases q
    obtain ⟨a, xs, rfl, h1, q1⟩ := r1.lst
    rw [blsOf_some hn] at q1
    exact cr_all hc pins s σ' H _ _ Q I (one rx) ⟨a, ns, rfl, .of (by rw [← q1.bls]; exact h1), k.bl ok⟩
  · cases q
theorem b_tuple : Dn X (.type "tuple") (l1 tupD) := call1 fun pins s σ' S σ e H x u d r Q I rx ok r1 q k => by
  cases d <;> cases q
  · obtain ⟨a, xs, rfl, h1, q1⟩ := r1.lst
    exact call_tuple_of pins s σ' H _ _ Q I (one rx) ⟨a, xs, rfl, .inl ⟨.of h1, fun p hp => k.tup ok q1 p hp⟩⟩
  · have rt := r1.tupRep
    obtain ⟨a, xs, rfl, h1, q1⟩ := r1.tup
    exact call_tuple_of pins s σ' H _ _ Q I (one rx) ⟨a, xs, rfl, .inr ⟨.of h1, k.here ok rt⟩⟩
theorem list_keys (hc : X.calm = true) {pins : List (Addr × Obj)} {s : Shared} {σ : St} {H : Hp} {p : Addr} {kvs : List (Key × V)} {Q : VK} (I : Inv X pins σ H s) (hk : Rd H p (.dK kvs))
    (q : ∀ a, H a = none → Q (.ref a) (upd H a (.lst (kvs.map fun kv => kV kv.1)))) : wpAny (model X.prog X.w) X.A (call (.type "list") [.ref p]) (EP X pins σ Q) X.xe s := by
  obtain ⟨z, lo, vs, rk, hd⟩ := dk_rd I.hok hk
  obtain ⟨ep, hat⟩ := hd.dictAt
  have hl := rk.length
  refine PySem.W.kdl_call (PySem.W.kdl_dict (knd := mixKind X.prog X.w) (kvs := vs) (ep := ep) lo) (I.ok.hd hc) hat (by omega) fun h' tk acc' c' kp hS it => ?_
  have rv : Vals (kvs.map fun kv => kV kv.1) acc'.toList := by
    refine vals_of_at (by have e1 : acc'.toList.length = acc'.size := Array.length_toList; have e2 := it.1; rw [List.length_map]; omega) fun j x w h1 h2 => ?_
    obtain ⟨k, y, e1, e2⟩ := it.2 j w (by rw [← Array.getElem?_toList]; exact h2)
    rw [List.getElem?_map] at h1
    have e3 : (kvs[j]?).map (·.1) = some k := by rw [← List.getElem?_map, KV.keys rk, List.getElem?_map, e1]; rfl
    cases e4 : kvs[j]? with
    | none => rw [e4] at e3; cases e3
    | some p => rw [e4] at e3 h1; cases e3; cases h1; exact keyIs_rel e2
  exact ⟨.ref s.heap.objs.size, _, I.laid (t' := tk) (o := .lst (kvs.map fun kv => kV kv.1)) kp (Nat.le_refl _) ⟨by rw [List.length_map]; exact z, acc'.toList, c', rv, by rw [Array.toArray_toList]; exact hS⟩, rfl, q _ (I.hok.fresh (Nat.le_refl _))⟩
theorem rep_key {K : PySem.W.Frag} {H : Hp} {S : Rg} : ∀ k : Key, Rep K H S (kV k) (keyD k)
  | .inl i => .int i
  | .inr x => .str x
theorem rep_keys {K : PySem.W.Frag} {H : Hp} {S : Rg} : ∀ ks : List Key, RepAll K H S (ks.map kV) (ks.map keyD)
  | [] => .nil
  | k :: ks => .cons (rep_key k) (rep_keys ks)
theorem repKs_keys {K : PySem.W.Frag} {H : Hp} {S : Rg} : ∀ {kk : List (Key × V)} {kvs : List (PyData × PyData)}, RepKs K H S kk kvs → RepAll K H S (kk.map fun kv => kV kv.1) (kvs.map (·.1))
  | _, _, .nil => .nil
  | _, _, .cons (k := k) _ r => .cons (rep_key k) (repKs_keys r)
theorem repTs_keys {K : PySem.W.Frag} {H : Hp} {S : Rg} : ∀ {kk : List (List Key × V)} {kvs : List (PyData × PyData)} {bs : List Addr}, RepTs K H S kk kvs → IsKeys H kk bs → RepAll K H S (bs.map V.ref) (kvs.map (·.1))
  | _, _, _, .nil, .nil => .nil
  | _, _, _, .cons (k := k) _ r, .cons h t => .cons (.tup h (rep_keys k)) (repTs_keys r t)
theorem b_list (hc : X.calm = true) : Dn X (.type "list") (l1 listD) := call1 fun pins s σ' S σ e H x u d r Q I rx ok r1 q k => by
  cases d <;> cases q
  · obtain ⟨a, xs, rfl, h1, q1⟩ := r1.lst
    exact call_list_of pins s σ' H _ _ Q I (one rx) ⟨a, xs, rfl, .inl (.of h1), fun p hp => k.lst ok q1 p hp⟩
  · obtain ⟨a, xs, rfl, h1, q1⟩ := r1.tup
    exact call_list_of pins s σ' H _ _ Q I (one rx) ⟨a, xs, rfl, .inr (.of h1), fun p hp => k.lst ok q1 p hp⟩
  · obtain ⟨a, rfl, hd⟩ := r1.dict
    rcases hd with ⟨kk, h1, q1⟩ | ⟨kk, h1, q1⟩
    · cases rx
      exact list_keys hc I h1 fun p hp => k.lst ok (repKs_keys q1) p hp
    · exact call_list_dT hc pins s σ' H _ _ Q I (one rx) ⟨a, kk, rfl, h1, fun p bs hp hb => k.lst ok (repTs_keys q1 hb) p hp⟩
theorem RepAll.dpAll {K : PySem.W.Frag} {H : Hp} {S : Rg} {vs : List V} {ds : List PyData} (r : RepAll K H S vs ds) (h : PyData.plainAll ds = true) : DpAll K H vs ds := RepAll.dp r h
theorem minmax_end {pins : List (Addr × Obj)} {s : Shared} {σ' σ : St} {S : Rg} {H : Hp} {e : Ev} {Q : VK} {its : List Value} {xs : List V} {ds : List PyData} {m : PyData} {i : Nat} {v : Value} {h' : Heap} {tk : Nat} {bs : List Addr} (I : Inv X pins σ' H s) (ok : Ok X.K S σ H e)
    (rv : Vals xs its) (rr : RepAll X.K H S xs ds) (hp : PyData.plainAll ds = true) (hi : its[i]? = some v) (rd : Reads h' v m bs) (kp : ∀ b o, s.heap.get? b = some o → h'.get? b = some o) (k : Fin X.K σ S H e Q (.val m)) : EP X pins σ' Q v { s with heap := h', toks := tk } := by
  have I' : Inv X pins σ' H { s with heap := h', toks := tk } := I.kept kp
  have hx : ∃ x, xs[i]? = some x := by
    have : i < its.length := (List.getElem?_eq_some_iff.mp hi).1
    rw [← rv.length] at this
    exact ⟨xs[i], List.getElem?_eq_getElem this⟩
  obtain ⟨x, hx⟩ := hx
  obtain ⟨v', hv', rxv⟩ := rv.get hx
  rw [hi] at hv'; cases hv'
  obtain ⟨d, hd, rp⟩ := rr.getV hx
  have pd : ∀ {l : List PyData} {j : Nat} {d : PyData}, PyData.plainAll l = true → l[j]? = some d → d.plain = true := by
    intro l
    induction l with
    | nil => intro j d _ q; simp at q
    | cons a l ih =>
      intro j d h1 h2
      rw [plainAll_cons, Bool.and_eq_true] at h1
      cases j with
      | zero => simp at h2; subst h2; exact h1.1
      | succ j => exact ih (j := j) h1.2 (by simpa using h2)
  have pl := pd hp hd
  obtain ⟨as, r0⟩ := Dp.reads I' d x v (rp.dp pl) rxv
  have : d = m := SeqAt.plain_unique d m v as bs pl r0 rd
  subst this
  exact ⟨x, H, I', rxv, k.here ok rp⟩
theorem b_min (hc : X.calm = true) (hu : X.A.units + 70 < cLine) : Dn X (.builtin "min") (l1 minD) := call1 fun pins s σ' S σ e H x u d r Q I rx ok r1 q k => by
  unfold minD at q
  split at q
  · obtain ⟨c, rfl⟩ := ite_some q
    obtain ⟨al, dp, pl, nc⟩ := alikes_ok c
    obtain ⟨a, xs, rfl, h1, q1⟩ := r1.lst
    cases rx
    obtain ⟨its, rv, hl, _⟩ := I.list (.of h1)
    obtain ⟨as, rr⟩ := Dp.readsAll I _ xs its (q1.dp pl) rv
    exact W.min_list_data (I.ok.hd hc) hl.isList (by simpa using rr) al (by omega) fun i v h' tk bs hi rd kp => minmax_end I ok rv q1 pl (by simpa using hi) rd kp k
  · obtain ⟨c, rfl⟩ := ite_some q
    obtain ⟨al, dp, pl, nc⟩ := alikes_ok c
    obtain ⟨a, xs, rfl, h1, q1⟩ := r1.tup
    cases rx
    obtain ⟨its, rv, hl, _⟩ := I.tuple (.of h1)
    obtain ⟨as, rr⟩ := Dp.readsAll I _ xs its (q1.dp pl) rv
    exact W.min_tuple_data (I.ok.hd hc) (show s.heap.IsTuple a its.toArray from hl) (by simpa using rr) al (by omega) fun i v h' tk bs hi rd kp => minmax_end I ok rv q1 pl (by simpa using hi) rd kp k
  · cases q
theorem b_max (hc : X.calm = true) (hu : X.A.units + 70 < cLine) : Dn X (.builtin "max") (l1 maxD) := call1 fun pins s σ' S σ e H x u d r Q I rx ok r1 q k => by
  unfold maxD at q
  split at q
  · obtain ⟨c, rfl⟩ := ite_some q
    obtain ⟨al, dp, pl, nc⟩ := alikes_ok c
    obtain ⟨a, xs, rfl, h1, q1⟩ := r1.lst
    cases rx
    obtain ⟨its, rv, hl, _⟩ := I.list (.of h1)
    obtain ⟨as, rr⟩ := Dp.readsAll I _ xs its (q1.dp pl) rv
    exact W.max_list_data (I.ok.hd hc) hl.isList (by simpa using rr) al (by omega) fun i v h' tk bs hi rd kp => minmax_end I ok rv q1 pl (by simpa using hi) rd kp k
  · obtain ⟨c, rfl⟩ := ite_some q
    obtain ⟨al, dp, pl, nc⟩ := alikes_ok c
    obtain ⟨a, xs, rfl, h1, q1⟩ := r1.tup
    cases rx
    obtain ⟨its, rv, hl, _⟩ := I.tuple (.of h1)
    obtain ⟨as, rr⟩ := Dp.readsAll I _ xs its (q1.dp pl) rv
    exact W.max_tuple_data (I.ok.hd hc) (show s.heap.IsTuple a its.toArray from hl) (by simpa using rr) al (by omega) fun i v h' tk bs hi rd kp => minmax_end I ok rv q1 pl (by simpa using hi) rd kp k
  · cases q
/-! sorted -/
theorem each_zip {K : PySem.W.Frag} {H : Hp} {S : Rg} : ∀ {xs : List V} {us : List Value} {ds : List PyData}, Vals xs us → RepAll K H S xs ds → PySem.W.EachIs (fun u (b : PyData × V) => RelV b.2 u ∧ Rep K H S b.2 b.1) us (ds.zip xs)
  | _, _, _, .nil, .nil => .nil
  | _, _, _, .cons r t, .cons h q => .cons ⟨r, h⟩ (each_zip t q)
theorem each_unzip {K : PySem.W.Frag} {H : Hp} {S : Rg} : ∀ {us : List Value} {bs : List (PyData × V)}, PySem.W.EachIs (fun u (b : PyData × V) => RelV b.2 u ∧ Rep K H S b.2 b.1) us bs → Vals (bs.map (·.2)) us ∧ RepAll K H S (bs.map (·.2)) (bs.map (·.1))
  | _, _, .nil => ⟨.nil, .nil⟩
  | _, _, .cons h t => ⟨.cons h.1 (each_unzip t).1, .cons h.2 (each_unzip t).2⟩
theorem zip_fst : ∀ {α β : Type} {xs : List α} {ys : List β}, xs.length = ys.length → (xs.zip ys).map (·.1) = xs
  | _, _, [], [], _ => rfl
  | _, _, x :: xs, y :: ys, h => by rw [List.zip_cons_cons, List.map_cons, zip_fst (by simpa using h)]
theorem b_sorted (hu : X.A.units + 70 < cLine) : Dn X (.builtin "sorted") (l1 sortedD) := call1 fun pins s σ' S σ e H x u d r Q I rx ok r1 q k => by
  unfold sortedD at q
  split at q
  · rename_i ds
    obtain ⟨c, rfl⟩ := ite_some q
    unfold sortOk at c
    rw [Bool.and_eq_true] at c
    obtain ⟨al, dp, pl, nc⟩ := alikes_ok c.1
    obtain ⟨a, xs, rfl, h1, q1⟩ := r1.lst
    cases rx
    obtain ⟨its, rv, hl, hz⟩ := I.list (.of h1)
    have hlen : ds.length = xs.length := q1.length.symm
    have fst := zip_fst hlen
    have ez := each_zip rv q1
    have hal : W.AllAlike ((ds.zip xs).map (·.1)) := by rw [fst]; exact fun d hd d' hd' => al.1 d hd d' hd'
    have hk : W.Sortable ((ds.zip xs).map (·.1)) := by
      rw [fst]
      rcases Bool.or_eq_true _ _ ▸ c.2 with z | z
      · refine .inl fun d hd => ?_
        have := List.all_eq_true.mp z d hd
        cases d with
        | tuple l => cases l with
          | nil => cases this
          | cons x r => exact ⟨x, r, rfl⟩
        | _ => cases this
      · refine .inr fun d hd => ⟨al.2 d hd, fun l e => ?_⟩
        have := List.all_eq_true.mp z d hd
        subst e
        cases this
    have hn : ∀ b ∈ ds.zip xs, nice 12 b.1 = true := fun b hb => List.all_eq_true.mp nc _ (List.of_mem_zip (a := b.1) (b := b.2) hb).1
    refine W.sorted_data (bs := ds.zip xs) (enc := fun b => b.1) hl.isList ez ((W.each_mem ez).mono fun u b hb => ?_) hal hk ?_ (fun b hb => ?_) fun out ho eo => ?_
    · obtain ⟨⟨rv1, rp1⟩, hb⟩ := hb
      exact Dp.reads I b.1 b.2 u (rp1.dp (nice_ok _ _ (hn b hb)).1) rv1
    · rw [List.length_zip, hlen, Nat.min_self]; exact hz
    · have := (nice_ok _ _ (hn b hb)).2; omega
    · obtain ⟨v1, v2⟩ := each_unzip eo
      have em : ((ds.zip xs).mergeSort (W.dataLe false fun b => b.1)).map (·.1) = sortD ds := by
        unfold sortD
        have z := List.map_mergeSort (r := W.dataLe false fun (b : PyData × V) => b.1) (f := fun (b : PyData × V) => b.1) (s := W.dataLe false id) (l := ds.zip xs) (fun a _ b _ => rfl)
        rw [z, fst]
      rw [em] at v2
      obtain ⟨ep, he'⟩ := PyProof.Rows.sortedAll_at s.heap its out.toArray
      have hlen2 : (((ds.zip xs).mergeSort (W.dataLe false fun b => b.1)).map (·.2)).length ≤ sizeLine := by
        rw [List.length_map, List.length_mergeSort, List.length_zip, hlen, Nat.min_self]; exact hz
      refine ⟨.ref _, upd H (s.heap.objs.size + 1) (.lst _), I.laid (t' := s.toks) (fun _ _ => PyProof.Rows.sortedAll_old) (Nat.le_succ _) ⟨hlen2, out, ep, v1, he'⟩, rfl, k.lst ok v2 _ (I.hok.fresh (Nat.le_succ _))⟩
  · cases q
end
end FL

set_option Elab.async false
set_option linter.all false
set_option maxRecDepth 100000
set_option maxHeartbeats 4000000
namespace FL
open PySem PySem.Spec PyProof.Rows L2

section
variable {X : Cx} {x : Str} {p pos : Pos} {a b c ex : Expr} {es : List Expr} {id T : String} {g : Fn} {os : List Opd} {o o1 o2 o3 : Opd}

/-! ### constants, names as values -/
def cK (d : PyData) : C := fun e => some (.val d, e)
def cVar (i : Nat) : C := fun e => match e[i]? with
  | some (.val d) => some (.val d, e)
  | some (.own d) => some (.val d, e.set i (.val d))
  | _ => none
theorem fe_k {v : V} {d : PyData} (h : PE X ex (tC v)) (r : ∀ (K : PySem.W.Frag) (H : Hp) (S : Rg), Rep K H S v d) : PE X ex (tF X.K (cK d)) :=
  peMono h fun σ H Q ⟨S, e, r0, e', ok, q, k⟩ => by
    cases q
    exact k v H S ok .refl (r _ _ _)
theorem fe_int {i : Int} {j : Nat} : PE X (.Constant (.int i) j pos) (tF X.K (cK (.int i))) := fe_k pe_int fun _ _ _ => .int i
theorem fe_bl {i : Bool} {j : Nat} : PE X (.Constant (.bool i) j pos) (tF X.K (cK (.bool i))) := fe_k pe_bl fun _ _ _ => .bl i
theorem fe_non {j : Nat} : PE X (.Constant .none j pos) (tF X.K (cK .none)) := fe_k pe_non fun _ _ _ => .non
theorem fe_str {i : Str} {j : Nat} : PE X (.Constant (.str i) j pos) (tF X.K (cK (.str i))) := fe_k pe_str fun _ _ _ => .str i
theorem fe_globI {u : Value} {i : Int} (hg : Gl X x) (hm : X.mg x = some u) (r : ∃ t, u = .int i t) (hd : (x == ("__debug__" : Str)) = false := by decide) : PE X (.Name x pos) (tF X.K (cK (.int i))) := fe_k (pe_glob (v := .int i) hg hm r hd) fun _ _ _ => .int i
theorem fe_globS {u : Value} {i : Str} (hg : Gl X x) (hm : X.mg x = some u) (r : ∃ t, u = .str i t) (hd : (x == ("__debug__" : Str)) = false := by decide) : PE X (.Name x pos) (tF X.K (cK (.str i))) := fe_k (pe_glob (v := .str i) hg hm r hd) fun _ _ _ => .str i
theorem fe_var {i : Nat} (h : PE X ex (tVar i)) : PE X ex (tF X.K (cVar i)) := peMono h fun σ H Q ⟨S, e, r, e', ok, q, k⟩ => by
  unfold cVar at q
  split at q
  · rename_i d hd
    cases q
    obtain ⟨v, h1, h2⟩ := ok.val i d hd
    exact ⟨v, h1, k v H S ok .refl h2⟩
  · rename_i d hd
    cases q
    obtain ⟨a, h1, h2, h3⟩ := ok.own i d hd
    obtain ⟨k1, k2, k3⟩ := ok.freezeAt hd h1
    exact ⟨_, h1, k _ _ _ k1 k2 k3⟩
  · cases q

/-! ### calls of built-ins -/
theorem fe_callB (hc : Dn X (.builtin id) g) (hg : Gl X x) (hm : X.mg x = none) (hv : bootBuiltins x = some (.builtin id)) (ha : PAs X (a :: es) os) (hn : x ≠ "__name__" := by decide) (hdb : (x == ("__debug__" : Str)) = false := by decide)
    (he : starEach (a :: es) X.env = (false, eval a X.env) :: starEach es X.env := by rfl) (hpl : (backTo pos (starEach es X.env)).any (·.1) = false := by rfl) : PE X (.Call (.Name x p) (a :: es) [] pos) (tF X.K (cOps g os)) :=
  peMono (pe_callB hc hg hm hv ha.pa hn hdb he hpl) fun _ _ _ q => tOps_run q
theorem fe_callTy (hc : Dn X (.type T) g) (hg : Gl X x) (hm : X.mg x = none) (hv : bootBuiltins x = some (.type T)) (ha : PAs X (a :: es) os) (hn : x ≠ "__name__" := by decide) (hdb : (x == ("__debug__" : Str)) = false := by decide)
    (he : starEach (a :: es) X.env = (false, eval a X.env) :: starEach es X.env := by rfl) (hpl : (backTo pos (starEach es X.env)).any (·.1) = false := by rfl) : PE X (.Call (.Name x p) (a :: es) [] pos) (tF X.K (cOps g os)) :=
  peMono (pe_callTy hc hg hm hv ha.pa hn hdb he hpl) fun _ _ _ q => tOps_run q
theorem fe_callFun (hc : Dn X (.builtin id) g) (hg : Gl X x) (hm : X.mg x = some (.builtin id)) (ha : PAs X (a :: es) os) (hdb : (x == ("__debug__" : Str)) = false := by decide)
    (he : starEach (a :: es) X.env = (false, eval a X.env) :: starEach es X.env := by rfl) (hpl : (backTo pos (starEach es X.env)).any (·.1) = false := by rfl) : PE X (.Call (.Name x p) (a :: es) [] pos) (tF X.K (cOps g os)) :=
  peMono (pe_callBfun hc hg hm ha.pa hdb he hpl) fun _ _ _ q => tOps_run q

/-! ### displays -/
def allFz (os : List Opd) : Bool := os.all fun o => match o with
  | .ex _ => true
  | .nm _ => false
theorem rdb_fz {K : PySem.W.Frag} {σ : St} {S : Rg} {H : Hp} {e : Ev} {os : List Opd} : ∀ {vs : List V} {ds : List PyData}, (∀ v d, Rdb K H S σ e v d → Rep K H S v d) → RdbAll K H S σ e vs ds → RepAll K H S vs ds
  | _, _, _, .nil => .nil
  | _, _, f, .cons r t => .cons (f _ _ r) (rdb_fz (os := os) f t)
/-- the values of some expressions, each frozen -/
def cvs : List CV → Ev → Option (List PyData × Ev)
  | [], e => some ([], e)
  | c :: r, e => match c e with
    | none => none
    | some (d, e1) => match cvs r e1 with
      | none => none
      | some (ds, e') => some (d :: ds, e')
def tVs (K : PySem.W.Frag) : List CV → TA
  | [] => tNil
  | c :: r => tCons (tV K c) (tVs K r)
theorem runsV {K : PySem.W.Frag} {σ : St} : ∀ (os : List CV) {S : Rg} {H : Hp} {e e' : Ev} {ds : List PyData} {R : List V → Hp → Prop}, Ok K S σ H e → cvs os e = some (ds, e') →
    (∀ vs H' S', Ok K S' σ H' e' → Step σ S H e S' H' e' → RepAll K H' S' vs ds → R vs H') → tVs K os σ H R
  | [], S, H, e, e', ds, R, h, q, k => by
    cases q
    exact k [] H S h .refl .nil
  | c :: r, S, H, e, e', ds, R, h, q, k => by
    unfold cvs at q
    cases p1 : c e with
    | none => rw [p1] at q; cases q
    | some z =>
      obtain ⟨d, e1⟩ := z
      rw [p1] at q
      cases p2 : cvs r e1 with
      | none => simp only [p2] at q; cases q
      | some z =>
        obtain ⟨ds', e2⟩ := z
        simp only [p2] at q
        cases q
        refine ⟨S, e, d, e1, h, p1, fun v H1 S1 h1 s1 r1 => runsV r h1 p2 fun vs H' S' h' s rs => k _ _ _ h' (s1.trans h s) (.cons (r1.up s.up) rs)⟩
inductive PVs (X : Cx) : List Expr → List CV → Prop
  | nil : PVs X [] []
  | cons {e : Expr} {es : List Expr} {o : CV} {os : List CV} : PE X e (tV X.K o) → PVs X es os → (starEach (e :: es) X.env = (false, eval e X.env) :: starEach es X.env) → PVs X (e :: es) (o :: os)
theorem PVs.pa : ∀ {es : List Expr} {os : List CV}, PVs X es os → PA X es (tVs X.K os)
  | _, _, .nil => pa_nil
  | _, _, .cons h r s => pa_cons h (PVs.pa r) s
theorem fv_nil : PVs X [] [] := .nil
theorem fv_cons {e : Expr} {c : C} {os : List CV} (h : PE X e (tF X.K c)) (r : PVs X es os) (s : starEach (e :: es) X.env = (false, eval e X.env) :: starEach es X.env := by rfl) : PVs X (e :: es) (frz c :: os) := .cons (fe_frz h) r s
def cTup (os : List CV) : C := fun e => match cvs os e with
  | some (ds, e') => if ds.length ≤ 16777216 then some (.val (.tuple ds), e') else none
  | none => none
def cLst (os : List CV) : C := fun e => match cvs os e with
  | some (ds, e') => if ds.length ≤ 16777216 then some (.own (.list ds), e') else none
  | none => none
theorem fe_tup {k : Nat} {os : List CV} (h : PVs X es os) : PE X (.Tuple es k pos) (tF X.K (cTup os)) := peMono (pe_tup h.pa) fun σ H Q ⟨S, e, r, e', ok, q, k⟩ => by
  unfold cTup at q
  split at q
  · rename_i ds e2 hq
    split at q
    · rename_i hz
      cases q
      exact runsV os ok hq fun vs H' S' h' s rs => ⟨by rw [rs.length, lim_eq]; exact hz, fun p hp => Fin.tup (Fin.lift ok s k) h' rs p hp⟩
    · cases q
  · cases q
theorem fe_lst {os : List CV} (h : PVs X es os) : PE X (.List es pos) (tF X.K (cLst os)) := peMono (pe_lst h.pa) fun σ H Q ⟨S, e, r, e', ok, q, k⟩ => by
  unfold cLst at q
  split at q
  · rename_i ds e2 hq
    split at q
    · rename_i hz
      cases q
      exact runsV os ok hq fun vs H' S' h' s rs => ⟨by rw [rs.length, lim_eq]; exact hz, fun p hp => Fin.lst (Fin.lift ok s k) h' rs p hp⟩
    · cases q
  · cases q
theorem fe_dnew : PE X (.Dict [] [] pos) (tF X.K fun e => some (.own (.dict []), e)) := peMono pe_dnewK fun σ H Q ⟨S, e, r, e', ok, q, k⟩ => by
  cases q
  exact fun p hp => Fin.dK (Fin.lift ok .refl k) ok .nil p hp

/-! ### subscripts -/
def ixD : F2
  | .list xs, .int i => match atI xs i with
    | some d => some (.val d)
    | none => none
  | .tuple xs, .int i => match atI xs i with
    | some d => some (.val d)
    | none => none
  | .str z, .int i => if z.length ≤ 16777216 then match atI z.cps.toList i with
    | some c => some (.val (.str ⟨#[c]⟩))
    | none => none else none
  | .dict kvs, k => if okKey kvs k = true then match dLook kvs k with
    | some d => some (.val d)
    | none => none else none
  | _, _ => none
theorem atI_rep {K : PySem.W.Frag} {H : Hp} {S : Rg} {xs : List V} {ds : List PyData} {i : Int} {d : PyData} (r : RepAll K H S xs ds) (h : atI ds i = some d) : ∃ v, atI xs i = some v ∧ Rep K H S v d := by
  unfold atI at h ⊢
  rw [r.length]
  cases q : ixN ds.length i with
  | none => rw [q] at h; cases h
  | some j =>
    rw [q] at h
    exact r.get (show ds[j]? = some d from h)
theorem x_ix (hu : X.A.units + 70 < cLine) : IxR X (rD2 X.K ixD) := by
  intro value slice pins s σ' H x y v u Q I rx ry ⟨S, σ, e, d1, d2, r, ok, r1, r2, q, k⟩ hs
  unfold ixD at q
  split at q
  · split at q
    · rename_i d hd
      cases q
      rw [r2.int] at ry
      obtain ⟨a, xs, rfl, h1, q1⟩ := r1.lst
      obtain ⟨w, hw, rw'⟩ := atI_rep q1 hd
      exact ix_list value slice pins s σ' H _ _ v u Q I rx ry ⟨a, xs, _, w, rfl, rfl, .of h1, hw, k.here ok rw'⟩ hs
    · cases q
  · split at q
    · rename_i d hd
      cases q
      rw [r2.int] at ry
      obtain ⟨a, xs, rfl, h1, q1⟩ := r1.tup
      obtain ⟨w, hw, rw'⟩ := atI_rep q1 hd
      exact ix_tup value slice pins s σ' H _ _ v u Q I rx ry ⟨a, xs, _, w, rfl, rfl, .of h1, hw, k.here ok rw'⟩ hs
    · cases q
  · split at q
    · rename_i hz
      split at q
      · rename_i c hc
        cases q
        rw [r1.str] at rx
        rw [r2.int] at ry
        exact ix_str value slice pins s σ' H _ _ v u Q I rx ry ⟨_, _, c, rfl, rfl, by rw [lim_eq]; exact hz, hc, k.str ok⟩ hs
      · cases q
    · cases q
  · split at q
    · rename_i hk
      split at q
      · rename_i d hd
        cases q
        obtain ⟨a, rfl, hsm, ty, nd, dl⟩ := r1.look I r2 hk
        cases rx
        refine tail_any ty PySem.F.slot_dict_getitem.lookup ?_ hs
        cases dl with
        | k key vs o ey dd h1 h2 =>
          subst ey
          rw [hd] at h2
          obtain ⟨w, rfl, rw'⟩ := h2.some'
          obtain ⟨z, hz, rz⟩ := RelO.some_of h1
          exact wpAny_getItem_of (kV_is ry) dd.mapOf hz ⟨w, H, I.tok _, rz, k.here ok rw'⟩
        | t ks b xs o ey hkk dd h1 h2 =>
          subst ey
          cases ry
          rw [hd] at h2
          obtain ⟨w, rfl, rw'⟩ := h2.some'
          obtain ⟨z, hz, rz⟩ := RelO.some_of h1
          obtain ⟨pr, hp, hp2⟩ := Option.map_eq_some_iff.mp hz
          refine wpAny_getItem_heap (tupleKind_in1 hu) hkk dd hp ?_
          rw [hp2]
          exact ⟨w, H, I.tok _, rz, k.here ok rw'⟩
      · cases q
    · cases q
  · cases q
theorem fe_ix (hu : X.A.units + 70 < cLine) (ha : PO X a o1) (hb : PO X b o2) (hs : PlainIx b) : PE X (.Subscript a b pos) (tF X.K (cOps (l2 ixD) [o1, o2])) :=
  peMono (pe_ix (x_ix hu) ha hb hs) fun _ _ _ q => tOp2_run (fun _ _ _ _ z => z) q

/-! ### slices -/
abbrev CO := Ev → Option (Option Int × Ev)
def coN : CO := fun e => some (none, e)
def coS (c : C) : CO := fun e => match c e with
  | some (.val (.int i), e') => some (some i, e')
  | _ => none
def tP (K : PySem.W.Frag) (c : CO) : TO := fun σ H Q => ∃ S e i e', Ok K S σ H e ∧ c e = some (i, e') ∧ ∀ H' S', Ok K S' σ H' e' → Step σ S H e S' H' e' → Q i H'
theorem fp_none : L2.PO X none (tP X.K coN) := ⟨fun pins s σ H Q I ⟨S, e, i, e', ok, q, k⟩ => by
  cases q
  exact (po_none (X := X)).run pins s σ H Q I (k H S ok .refl)⟩
theorem fp_some {c : C} (h : PE X a (tF X.K c)) : L2.PO X (some a) (tP X.K (coS c)) := ⟨fun pins s σ H Q I ⟨S, e, i, e', ok, q, k⟩ => by
  unfold coS at q
  split at q
  · rename_i j e2 hq
    cases q
    refine (po_some h).run pins s σ H Q I ⟨S, e, _, _, ok, hq, fun v H' S' ok' st r => ?_⟩
    cases r
    exact ⟨j, rfl, k H' S' ok' st⟩
  · cases q⟩
def cut (xs : List PyData) (lo hi : Option Int) : List PyData := (xs.drop (HT.sIx xs.length 0 lo)).take (HT.sIx xs.length xs.length hi - HT.sIx xs.length 0 lo)
theorem rep_cut {K : PySem.W.Frag} {H : Hp} {S : Rg} {xs : List V} {ds : List PyData} (r : RepAll K H S xs ds) (lo hi : Option Int) : RepAll K H S (cutV xs lo hi) (cut ds lo hi) := by
  unfold cutV cut
  rw [r.length]
  exact (r.drop _).take _
def slD (lo hi : Option Int) : F1
  | .list xs => some (.own (.list (cut xs lo hi)))
  | .tuple xs => some (.val (.tuple (cut xs lo hi)))
  | .str z => if z.length ≤ 16777216 then some (.val (.str (cutS z lo hi))) else none
  | _ => none
def rSlD (K : PySem.W.Frag) : V → Option Int → Option Int → Hp → VK → Prop := fun x lo hi H Q => rD1 K (slD lo hi) x H Q
theorem cut_whole {xs : List PyData} {lo hi : Option Int} (h : HT.sIx xs.length 0 lo = 0 ∧ HT.sIx xs.length xs.length hi = xs.length) : cut xs lo hi = xs := by
  unfold cut
  rw [h.1, h.2]
  simp
theorem x_sl : SlR X (rSlD X.K) := by
  intro pins s σ' H x v vl vu lo hi sl Q I rx hs pl pu ⟨S, σ, e, d, r, ok, r1, q, k⟩
  unfold slD at q
  split at q
  · cases q
    obtain ⟨a, xs, rfl, h1, q1⟩ := r1.lst
    exact sl_list pins s σ' H _ v vl vu lo hi sl Q I rx hs pl pu ⟨a, xs, rfl, .of h1, fun p hp => k.lst ok (rep_cut q1 lo hi) p hp⟩
  · cases q
    have rt := r1.tupRep
    obtain ⟨a, xs, rfl, h1, q1⟩ := r1.tup
    refine sl_tupA pins s σ' H _ v vl vu lo hi sl Q I rx hs pl pu ⟨a, xs, rfl, .of h1, fun z => ?_, fun _ p hp => k.tup ok (rep_cut q1 lo hi) p hp⟩
    rw [q1.length] at z
    rw [cut_whole z] at k
    exact k.here ok rt
  · obtain ⟨hz, rfl⟩ := ite_some q
    rw [r1.str] at rx
    exact sl_str pins s σ' H _ v vl vu lo hi sl Q I rx hs pl pu ⟨_, rfl, by rw [lim_eq]; exact hz, k.str ok⟩
  · cases q
/-- o[lo:hi] -/
def cSl (o : Opd) (lo hi : CO) : C := fun e => match o with
  | .ex c => match c e with
    | none => none
    | some (d, e1) => match lo e1 with
      | none => none
      | some (i, e2) => match hi e2 with
        | none => none
        | some (j, e3) => match slD i j d with
          | some r => some (r, e3)
          | none => none
  | .nm n => match peek e n with
    | none => none
    | some _ => match lo e with
      | none => none
      | some (i, e2) => match hi e2 with
        | none => none
        | some (j, e3) => match peek e3 n with
          | none => none
          | some d => match slD i j d with
            | some r => some (r, e3)
            | none => none
theorem fe_sl {lo hi : Option Expr} {p2 : Pos} {cl ch : CO} (ha : PO X a o) (hl : L2.PO X lo (tP X.K cl)) (hh : L2.PO X hi (tP X.K ch)) : PE X (.Subscript a (.Slice lo hi none p2) pos) (tF X.K (cSl o cl ch)) :=
  peMono (pe_slice x_sl ha hl hh) fun σ H Q ⟨S, e, r, e', ok, q, k⟩ => by
    unfold cSl at q
    split at q
    · split at q
      · cases q
      · rename_i d e1 hc
        split at q
        · cases q
        · rename_i i e2 hl
          split at q
          · cases q
          · rename_i j e3 hh
            split at q
            · rename_i r0 hg
              cases q
              refine ⟨S, e, d, e1, ok, hc, fun v H1 S1 ok1 s1 r1 => ⟨S1, e1, i, e2, ok1, hl, fun H2 S2 ok2 s2 => ⟨S2, e2, j, _, ok2, hh, fun H3 S3 ok3 s3 => ?_⟩⟩⟩
              exact ⟨S3, σ, _, d, _, ok3, .inl ((r1.up s2.up).up s3.up), hg, Fin.lift ok ((s1.trans ok s2).trans ok s3) k⟩
            · cases q
    · split at q
      · cases q
      · rename_i d0 hp
        split at q
        · cases q
        · rename_i i e2 hl
          split at q
          · cases q
          · rename_i j e3 hh
            split at q
            · cases q
            · rename_i d hp2
              split at q
              · rename_i r0 hg
                cases q
                obtain ⟨v, h1, _⟩ := peek_ok ok hp
                refine ⟨v, h1, ⟨S, e, i, e2, ok, hl, fun H2 S2 ok2 s2 => ⟨S2, e2, j, _, ok2, hh, fun H3 S3 ok3 s3 => ?_⟩⟩⟩
                obtain ⟨v', h2, h3⟩ := peek_ok ok3 hp2
                rw [h1] at h2; cases h2
                exact ⟨S3, σ, _, d, _, ok3, h3, hg, Fin.lift ok (s2.trans ok s3) k⟩
              · cases q
end
end FL

set_option Elab.async false
set_option linter.all false
set_option maxRecDepth 100000
set_option maxHeartbeats 4000000
namespace FL
open PySem PySem.Spec PyProof.Rows L2

/-! ### tests -/
def cbT (c : C) : CB := fun e => match c e with
  | some (.val (.bool b), e') => some (b, e')
  | _ => none
theorem cbT_some {c : C} {e e' : Ev} {b : Bool} (h : cbT c e = some (b, e')) : c e = some (.val (.bool b), e') := by
  unfold cbT at h
  split at h
  · rename_i q
    cases h
    exact q
  · cases h
/-- the truth of a datum -/
def truthV : PyData → Option Bool
  | .none => some false
  | .bool b => some b
  | .int i => some (i != 0)
  | .str x => if x.length ≤ 16777216 then some ((x.length : Int) != 0) else none
  | .list ds => some (!ds.isEmpty)
  | .tuple ds => some (!ds.isEmpty)
  | .dict _ => none
def cbTru (c : CV) : CB := fun e => match c e with
  | some (d, e') => match truthV d with
    | some b => some (b, e')
    | none => none
  | none => none
def cbNm (i : Nat) : CB := fun e => match peek e i with
  | some d => match truthV d with
    | some b => some (b, e)
    | none => none
  | none => none
def cbAnd (a b : CB) : CB := fun e => match a e with
  | some (true, e1) => b e1
  | some (false, e1) => some (false, e1)
  | none => none
def cbOr (a b : CB) : CB := fun e => match a e with
  | some (true, e1) => some (true, e1)
  | some (false, e1) => b e1
  | none => none
def cbNot (a : CB) : CB := fun e => match a e with
  | some (b, e1) => some (!b, e1)
  | none => none
def cIf (t : CB) (a b : C) : C := fun e => match t e with
  | some (true, e1) => a e1
  | some (false, e1) => b e1
  | none => none
def cAndV (a : CV) (b : C) : C := fun e => match a e with
  | some (d, e1) => match truthV d with
    | some true => b e1
    | some false => some (.val d, e1)
    | none => none
  | none => none
def cOrV (a : CV) (b : C) : C := fun e => match a e with
  | some (d, e1) => match truthV d with
    | some true => some (.val d, e1)
    | some false => b e1
    | none => none
  | none => none
def cNotV (a : CV) : C := fun e => match a e with
  | some (d, e1) => match truthV d with
    | some b => some (.val (.bool (!b)), e1)
    | none => none
  | none => none
section
variable {K : PySem.W.Frag} {H : Hp} {S : Rg} {σ : St} {e : Ev}
theorem isEmpty_rep {xs : List V} {ds : List PyData} (r : RepAll K H S xs ds) : (!ds.isEmpty) = !xs.isEmpty := by cases r <;> rfl
theorem Rdb.tru : ∀ {v : V} {d : PyData} {b : Bool}, Rdb K H S σ e v d → truthV d = some b → TruV K v H b
  | v, .none, b, r, h => by cases h; rw [r.non]; rfl
  | v, .bool _, b, r, h => by cases h; rw [r.bl]; rfl
  | v, .int _, b, r, h => by cases h; rw [r.int]; rfl
  | v, .str _, b, r, h => by
    obtain ⟨hz, rfl⟩ := ite_some h
    rw [r.str]
    exact ⟨by rw [lim_eq]; exact hz, rfl⟩
  | v, .list ds, b, r, h => by
    cases h
    obtain ⟨a, xs, rfl, h1, q1⟩ := r.lst
    exact .inl ⟨xs, .of h1, isEmpty_rep q1⟩
  | v, .tuple ds, b, r, h => by
    cases h
    obtain ⟨a, xs, rfl, h1, q1⟩ := r.tup
    exact .inr (.inl ⟨xs, .of h1, isEmpty_rep q1⟩)
  | v, .dict _, b, r, h => by cases h
end
section
variable {X : Cx} {x : Str} {p pos : Pos} {a b c ex : Expr} {es rest : List Expr} {o o1 o2 o3 : Opd} {cc c1 c2 : C} {t1 t2 : CB}
theorem ft_of {t : TE} (h : PT X ex (tTest t)) (m : ∀ σ H Q, tF X.K cc σ H Q → t σ H Q) : PT X ex (tT X.K (cbT cc)) := ptMono h fun σ H Q ⟨S, e, k0, e', ok, q, k⟩ =>
  m σ H _ ⟨S, e, _, e', ok, cbT_some q, fun v H' S' ok' st r => by
    have r' : Rep X.K H' S' v (.bool k0) := r
    cases r'
    exact ⟨k0, rfl, k H' S' ok' st⟩⟩
theorem ft_cmp {op : CmpOp} {g : F2} (h : D2 X (compareOp op) g) (ha : PO X a o1) (hb : PO X b o2) (hm : behindInMarks op b = false) : PT X (.Compare a [op] [b] pos) (tT X.K (cbT (cOps (l2 g) [o1, o2]))) :=
  ft_of (pt_cmpR h ha hb hm) fun _ _ _ q => tOp2_run (fun _ _ _ _ z => z) q
theorem ft_val (h : PE X ex (tF X.K cc)) (he : ∀ whole, isTrue ex X.env whole = (do let v ← whole; standAt ex.pos; holding [v] (truthy v)) := by intro _; rfl) : PT X ex (tT X.K (cbT cc)) :=
  ft_of (t := tF X.K cc) (pt_val h he) fun _ _ _ q => q
theorem ft_tru (h : PE X ex (tF X.K cc)) (he : ∀ whole, isTrue ex X.env whole = (do let v ← whole; standAt ex.pos; holding [v] (truthy v)) := by intro _; rfl) : PT X ex (tT X.K (cbTru (frz cc))) :=
  ptMono (pt_truth (fe_frz h) he) fun σ H Q ⟨S, e, k0, e', ok, q, k⟩ => by
    unfold cbTru at q
    split at q
    · rename_i d e2 hd
      split at q
      · rename_i b hb
        cases q
        exact ⟨S, e, d, _, ok, hd, fun v H' S' ok' st r => ⟨_, Rdb.tru (σ := σ) (e := e') (.inl r) hb, k H' S' ok' st⟩⟩
      · cases q
    · cases q
theorem ft_nm {i : Nat} (h : PE X ex (tVar i)) (he : ∀ whole, isTrue ex X.env whole = (do let v ← whole; standAt ex.pos; holding [v] (truthy v)) := by intro _; rfl) : PT X ex (tT X.K (cbNm i)) :=
  ptMono (pt_truth h he) fun σ H Q ⟨S, e, k0, e', ok, q, k⟩ => by
    unfold cbNm at q
    split at q
    · rename_i d hd
      split at q
      · rename_i b hb
        cases q
        obtain ⟨v, h1, h2⟩ := peek_ok ok hd
        exact ⟨v, h1, _, h2.tru hb, k H S ok .refl⟩
      · cases q
    · cases q
theorem ft_not (h : PT X a (tT X.K t1)) : PT X (.UnaryOp .Not a pos) (tT X.K (cbNot t1)) := ptMono (pt_not h) fun σ H Q ⟨S, e, k0, e', ok, q, k⟩ => by
  unfold cbNot at q
  split at q
  · rename_i b e1 hb
    cases q
    exact ⟨S, e, b, _, ok, hb, k⟩
  · cases q
theorem fw_and1 (h : PT X a (tT X.K t1)) : PW X (.BoolOp .And [a] pos) (tT X.K t1) := pw_and1 h
theorem fw_or1 (h : PT X a (tT X.K t1)) : PW X (.BoolOp .Or [a] pos) (tT X.K t1) := pw_or1 h
theorem fw_and (h : PT X a (tT X.K t1)) (r : PW X (.BoolOp .And (b :: rest) pos) (tT X.K t2)) : PW X (.BoolOp .And (a :: b :: rest) pos) (tT X.K (cbAnd t1 t2)) := pwMono (pw_and h r) fun σ H Q ⟨S, e, k0, e', ok, q, k⟩ => by
  unfold cbAnd at q
  split at q
  · rename_i e1 h1
    exact ⟨S, e, true, e1, ok, h1, fun H1 S1 ok1 s1 => iteT ⟨S1, e1, k0, e', ok1, q, fun H' S' ok' st => k H' S' ok' (s1.trans ok st)⟩⟩
  · rename_i e1 h1
    cases q
    exact ⟨S, e, false, _, ok, h1, fun H1 S1 ok1 s1 => iteF (k H1 S1 ok1 s1)⟩
  · cases q
theorem fw_or (h : PT X a (tT X.K t1)) (r : PW X (.BoolOp .Or (b :: rest) pos) (tT X.K t2)) : PW X (.BoolOp .Or (a :: b :: rest) pos) (tT X.K (cbOr t1 t2)) := pwMono (pw_or h r) fun σ H Q ⟨S, e, k0, e', ok, q, k⟩ => by
  unfold cbOr at q
  split at q
  · rename_i e1 h1
    cases q
    exact ⟨S, e, true, _, ok, h1, fun H1 S1 ok1 s1 => iteT (k H1 S1 ok1 s1)⟩
  · rename_i e1 h1
    exact ⟨S, e, false, e1, ok, h1, fun H1 S1 ok1 s1 => iteF ⟨S1, e1, k0, e', ok1, q, fun H' S' ok' st => k H' S' ok' (s1.trans ok st)⟩⟩
  · cases q
theorem Res.lift {K : PySem.W.Frag} {σ : St} {S S1 S' : Rg} {H H1 H' : Hp} {e e1 : Ev} {v : V} {r : Sl} (s : Step σ S H e S1 H1 e1) (q : Res K S' H' H1 v r) : Res K S' H' H v r := by
  cases r with
  | un => exact q
  | val d => exact q
  | own d =>
    obtain ⟨a, e1, n, z⟩ := q
    refine ⟨a, e1, ?_, z⟩
    cases w : H a with
    | none => rfl
    | some o => exact absurd n (s.mono a (by rw [w]; exact fun z => nomatch z))
theorem fe_if (h : PT X c (tT X.K t1)) (ha : PE X a (tF X.K c1)) (hb : PE X b (tF X.K c2)) : PE X (.IfExp c a b pos) (tF X.K (cIf t1 c1 c2)) := peMono (pe_ifExp h ha hb) fun σ H Q ⟨S, e, r, e', ok, q, k⟩ => by
  unfold cIf at q
  split at q
  · rename_i e1 h1
    exact ⟨S, e, true, e1, ok, h1, fun H1 S1 ok1 s1 => iteT ⟨S1, e1, r, e', ok1, q, fun v H' S' ok' st z => k v H' S' ok' (s1.trans ok st) (z.lift s1)⟩⟩
  · rename_i e1 h1
    exact ⟨S, e, false, e1, ok, h1, fun H1 S1 ok1 s1 => iteF ⟨S1, e1, r, e', ok1, q, fun v H' S' ok' st z => k v H' S' ok' (s1.trans ok st) (z.lift s1)⟩⟩
  · cases q
theorem fe_and (ha : PE X a (tF X.K c1)) (hb : PE X (.BoolOp .And (b :: rest) pos) (tF X.K c2)) : PE X (.BoolOp .And (a :: b :: rest) pos) (tF X.K (cAndV (frz c1) c2)) := peMono (pe_andT (fe_frz ha) hb) fun σ H Q ⟨S, e, r, e', ok, q, k⟩ => by
  unfold cAndV at q
  split at q
  · rename_i d e1 h1
    split at q
    · rename_i ht
      exact ⟨S, e, d, e1, ok, h1, fun v H1 S1 ok1 s1 r1 => ⟨true, Rdb.tru (σ := σ) (e := e1) (.inl r1) ht, iteT ⟨S1, e1, r, e', ok1, q, fun v H' S' ok' st z => k v H' S' ok' (s1.trans ok st) (z.lift s1)⟩⟩⟩
    · rename_i ht
      cases q
      exact ⟨S, e, d, _, ok, h1, fun v H1 S1 ok1 s1 r1 => ⟨false, Rdb.tru (σ := σ) (e := e') (.inl r1) ht, iteF (k v H1 S1 ok1 s1 r1)⟩⟩
    · cases q
  · cases q
theorem fe_or (ha : PE X a (tF X.K c1)) (hb : PE X (.BoolOp .Or (b :: rest) pos) (tF X.K c2)) : PE X (.BoolOp .Or (a :: b :: rest) pos) (tF X.K (cOrV (frz c1) c2)) := peMono (pe_orT (fe_frz ha) hb) fun σ H Q ⟨S, e, r, e', ok, q, k⟩ => by
  unfold cOrV at q
  split at q
  · rename_i d e1 h1
    split at q
    · rename_i ht
      cases q
      exact ⟨S, e, d, _, ok, h1, fun v H1 S1 ok1 s1 r1 => ⟨true, Rdb.tru (σ := σ) (e := e') (.inl r1) ht, iteT (k v H1 S1 ok1 s1 r1)⟩⟩
    · rename_i ht
      exact ⟨S, e, d, e1, ok, h1, fun v H1 S1 ok1 s1 r1 => ⟨false, Rdb.tru (σ := σ) (e := e1) (.inl r1) ht, iteF ⟨S1, e1, r, e', ok1, q, fun v H' S' ok' st z => k v H' S' ok' (s1.trans ok st) (z.lift s1)⟩⟩⟩
    · cases q
  · cases q
theorem fe_one {op : BoolOp} (h : PE X a (tF X.K c1)) : PE X (.BoolOp op [a] pos) (tF X.K c1) := pe_one h
theorem fe_not (ha : PE X a (tF X.K c1)) : PE X (.UnaryOp .Not a pos) (tF X.K (cNotV (frz c1))) := peMono (pe_notT (fe_frz ha)) fun σ H Q ⟨S, e, r, e', ok, q, k⟩ => by
  unfold cNotV at q
  split at q
  · rename_i d e1 h1
    split at q
    · rename_i bb ht
      cases q
      exact ⟨S, e, d, _, ok, h1, fun v H1 S1 ok1 s1 r1 => ⟨bb, Rdb.tru (σ := σ) (e := e') (.inl r1) ht, k _ H1 S1 ok1 s1 (.bl _)⟩⟩
    · cases q
  · cases q

/-! ### a < b < c -/
def cChain (g g' : F2) (a b c : CV) : C := fun e => match a e with
  | none => none
  | some (x, e1) => match b e1 with
    | none => none
    | some (y, e2) => match g x y with
      | some (.val (.bool true)) => match c e2 with
        | none => none
        | some (z, e3) => match g' y z with
          | some r => some (r, e3)
          | none => none
      | some (.val (.bool false)) => some (.val (.bool false), e2)
      | _ => none
variable {cv1 cv2 cv3 : C}
theorem chain_run {op op' : CmpOp} {g g' : F2} {σ : St} {H : Hp} {Q : VK} (q : tF X.K (cChain g g' (frz cv1) (frz cv2) (frz cv3)) σ H Q) : tChain (rD2 X.K g) (rD2 X.K g') (tV X.K (frz cv1)) (tV X.K (frz cv2)) (tV X.K (frz cv3)) σ H Q := by
  obtain ⟨S, e, r, e', ok, q, k⟩ := q
  unfold cChain at q
  split at q
  · cases q
  · rename_i x e1 hx
    split at q
    · cases q
    · rename_i y e2 hy
      refine ⟨S, e, x, e1, ok, hx, fun vx H1 S1 ok1 s1 r1 => ⟨S1, e1, y, e2, ok1, hy, fun vy H2 S2 ok2 s2 r2 => ?_⟩⟩
      split at q
      · rename_i hg
        refine ⟨S2, σ, e2, x, y, _, ok2, .inl (r1.up s2.up), .inl r2, hg, fun vz H3 S3 ok3 s3 rz => ?_⟩
        have rz' : Rep X.K H3 S3 vz (.bool true) := rz
        cases rz'
        split at q
        · cases q
        · rename_i z e3 hz
          split at q
          · rename_i r0 hg'
            cases q
            exact ⟨true, rfl, iteT ⟨S3, e2, z, _, ok3, hz, fun vw H4 S4 ok4 s4 r4 => ⟨S4, σ, _, y, z, _, ok4, .inl ((r2.up s3.up).up s4.up), .inl r4, hg', Fin.lift ok (((s1.trans ok s2).trans ok s3).trans ok s4) k⟩⟩⟩
          · cases q
      · rename_i hg
        cases q
        refine ⟨S2, σ, _, x, y, _, ok2, .inl (r1.up s2.up), .inl r2, hg, fun vz H3 S3 ok3 s3 rz => ?_⟩
        have rz' : Rep X.K H3 S3 vz (.bool false) := rz
        cases rz'
        exact ⟨false, rfl, iteF (k _ H3 S3 ok3 ((s1.trans ok s2).trans ok s3) (.bl false))⟩
      · cases q
theorem fe_chain {op op' : CmpOp} {g g' : F2} (h : D2 X (compareOp op) g) (h' : D2 X (compareOp op') g') (ha : PE X a (tF X.K cv1)) (hb : PE X b (tF X.K cv2)) (hc : PE X c (tF X.K cv3)) (hm : lastMarks [op, op'] [b, c] = false := by with_unfolding_all rfl) :
    PE X (.Compare a [op, op'] [b, c] pos) (tF X.K (cChain g g' (frz cv1) (frz cv2) (frz cv3))) := peMono (pe_chain h h' (fe_frz ha) (fe_frz hb) (fe_frz hc) hm) fun _ _ _ q => chain_run (op := op) (op' := op') q
theorem ft_chain {op op' : CmpOp} {g g' : F2} (h : D2 X (compareOp op) g) (h' : D2 X (compareOp op') g') (ha : PE X a (tF X.K cv1)) (hb : PE X b (tF X.K cv2)) (hc : PE X c (tF X.K cv3)) (hm : lastMarks [op, op'] [b, c] = false := by with_unfolding_all rfl) :
    PT X (.Compare a [op, op'] [b, c] pos) (tT X.K (cbT (cChain g g' (frz cv1) (frz cv2) (frz cv3)))) := ft_of (pt_chain h h' (fe_frz ha) (fe_frz hb) (fe_frz hc) hm) fun _ _ _ q => chain_run (op := op) (op' := op') q

/-! ### isinstance -/
def tyN : PyData → Option String
  | .none => some "NoneType"
  | .bool _ => some "bool"
  | .int _ => some "int"
  | .str _ => some "str"
  | .list _ => some "list"
  | .tuple _ => some "tuple"
  | .dict _ => none
/-- for the classes bool, int, str, list, tuple, dict -/
def isTy (t c : String) : Bool := t == c || (t == "bool" && c == "int")
def okCls (c : String) : Bool := ["bool", "int", "str", "list", "tuple", "dict"].contains c
def isiD (cs : List String) : F1 := fun d => if cs.all okCls = true then match tyN d with
  | some t => some (.val (.bool (cs.any (isTy t))))
  | none => none else none
theorem kit_all : ∀ t ∈ ["NoneType", "bool", "int", "str", "list", "tuple"], ∀ c ∈ ["bool", "int", "str", "list", "tuple", "dict"], kitB t c = some (isTy t c) := by decide +kernel
theorem tyN_mem {d : PyData} {t : String} (h : tyN d = some t) : t ∈ ["NoneType", "bool", "int", "str", "list", "tuple"] := by
  cases d <;> cases h <;> decide
theorem kit_one {K : PySem.W.Frag} {d : PyData} {t c : String} (h : tyN d = some t) (hc : okCls c = true) : PySem.W.kitOne K (.type t) (.type c) = some (isTy t c) :=
  kit_ty (kit_all t (tyN_mem h) c (by simpa [okCls] using hc))
theorem Rdb.tyX {K : PySem.W.Frag} {H : Hp} {S : Rg} {σ : St} {e : Ev} : ∀ {v : V} {d : PyData} {t : String}, Rdb K H S σ e v d → tyN d = some t → TyX K H v (.type t)
  | v, .none, t, r, h => by cases h; rw [r.non]; exact .base .non
  | v, .bool _, t, r, h => by cases h; rw [r.bl]; exact .base (.bl _)
  | v, .int _, t, r, h => by cases h; rw [r.int]; exact .base (.int _)
  | v, .str _, t, r, h => by cases h; rw [r.str]; exact .base (.str _)
  | v, .list _, t, r, h => by cases h; obtain ⟨a, xs, rfl, h1, _⟩ := r.lst; exact .base (.lst h1)
  | v, .tuple _, t, r, h => by cases h; obtain ⟨a, xs, rfl, h1, _⟩ := r.tup; exact .base (.tup h1)
  | v, .dict _, t, r, h => by cases h
theorem isi_some {cs : List String} {d : PyData} {r : Sl} (h : isiD cs d = some r) : cs.all okCls = true ∧ ∃ t, tyN d = some t ∧ r = .val (.bool (cs.any (isTy t))) := by
  unfold isiD at h
  split at h
  · rename_i hc
    split at h
    · rename_i t ht
      cases h
      exact ⟨hc, t, ht, rfl⟩
    · cases h
  · cases h
theorem fe_isi {c : String} {nm : Expr} (ha : PO X a o) (hn : PE X nm (tC (.ty c))) (hg : Gl X x) (hm : X.mg x = none) (hv : bootBuiltins x = some (.builtin "isinstance")) (hnn : x ≠ "__name__" := by decide) (hdb : (x == ("__debug__" : Str)) = false := by decide)
    (h1 : starEach [a, nm] X.env = (false, eval a X.env) :: starEach [nm] X.env := by rfl) (h2 : starEach [nm] X.env = (false, eval nm X.env) :: starEach [] X.env := by rfl) (hpl : (backTo pos (starEach [nm] X.env)).any (·.1) = false := by rfl) :
    PE X (.Call (.Name x p) [a, nm] [] pos) (tF X.K (cOps (l1 (isiD [c])) [o])) :=
  peMono (pe_callB call_isi hg hm hv (pa_cons ha (pa_cons hn pa_nil h2) h1) hnn hdb h1 hpl) fun σ H Q q => tOp1_run (r := fun x H Q => rIsi X.K [x, .ty c] H Q) (fun v H Q ⟨S, σ, e, d, r, ok, r1, q, k⟩ => by
    obtain ⟨hc, t, ht, rfl⟩ := isi_some q
    refine ⟨v, .ty c, .type t, .type c, isTy t c, rfl, .ty c, r1.tyX ht, kit_one ht (by simpa using hc), ?_⟩
    have := k.bl ok
    simpa using this) q
theorem paired_ty : ∀ cs : List String, Paired ClsV (cs.map V.ty) (cs.map Value.type)
  | [] => .nil
  | c :: cs => .cons (.ty c) (paired_ty cs)
theorem kit_any {K : PySem.W.Frag} {d : PyData} {t : String} (h : tyN d = some t) : ∀ cs : List String, cs.all okCls = true → PySem.W.kitAny K (.type t) (cs.map Value.type) = some (cs.any (isTy t))
  | [], _ => kitAny_nil
  | c :: cs, hc => by
    rw [List.all_cons, Bool.and_eq_true] at hc
    refine kitAny_cons (kit_one h hc.1) (fun z => ?_) (fun z => ?_)
    · rw [List.any_cons, z, Bool.false_or]; exact kit_any h cs hc.2
    · rw [List.any_cons, z, Bool.true_or]
theorem fe_isi2 {c d : String} {n1 n2 : Expr} {kk : Nat} {pt : Pos} (ha : PO X a o) (hn1 : PE X n1 (tC (.ty c))) (hn2 : PE X n2 (tC (.ty d))) (hg : Gl X x) (hm : X.mg x = none) (hv : bootBuiltins x = some (.builtin "isinstance")) (hnn : x ≠ "__name__" := by decide) (hdb : (x == ("__debug__" : Str)) = false := by decide)
    (h1 : starEach [a, .Tuple [n1, n2] kk pt] X.env = (false, eval a X.env) :: starEach [.Tuple [n1, n2] kk pt] X.env := by rfl) (h2 : starEach [n1, n2] X.env = (false, eval n1 X.env) :: starEach [n2] X.env := by rfl) (h3 : starEach [n2] X.env = (false, eval n2 X.env) :: starEach [] X.env := by rfl) (hpl : (backTo pos (starEach [.Tuple [n1, n2] kk pt] X.env)).any (·.1) = false := by rfl) :
    PE X (.Call (.Name x p) [a, .Tuple [n1, n2] kk pt] [] pos) (tF X.K (cOps (l1 (isiD [c, d])) [o])) :=
  peMono (pe_callB call_isiT hg hm hv (pa_cons ha (pa_cons (pe_tup (pa_cons hn1 (pa_cons hn2 pa_nil h3) h2)) pa_nil) h1) hnn hdb h1 hpl) fun σ H Q q => tOp1_run (r := fun x H Q => 2 ≤ sizeLine ∧ ∀ p, H p = none → rIsiT X.K [x, .ref p] (upd H p (.tup [.ty c, .ty d])) Q) (fun v H Q ⟨S, σ, e, dd, r, ok, r1, q, k⟩ => by
    obtain ⟨hc, t, ht, rfl⟩ := isi_some q
    refine ⟨by rw [lim_eq]; omega, fun p hp => ?_⟩
    obtain ⟨ok1, s1⟩ := ok.alloc (o := .tup [.ty c, .ty d]) hp
    have r2 : Rdb X.K (upd H p (.tup [.ty c, .ty d])) S σ e v dd := by
      rcases r1 with r1 | ⟨b, i, e1, e2, e3, e4, e5⟩
      · exact .inl (r1.up s1.up)
      · exact .inr ⟨b, i, e1, e2, e3, e4, e5.up s1.up (upd_ne fun z => e5.there (by rw [z]; exact hp))⟩
    exact ⟨v, p, [.ty c, .ty d], .type t, [.type c, .type d], _, rfl, upd_same, paired_ty [c, d], r2.tyX ht, kit_any ht [c, d] hc, (Fin.lift ok s1 k).bl ok1⟩) q
end
end FL

set_option Elab.async false
set_option linter.all false
set_option maxRecDepth 100000
set_option maxHeartbeats 4000000
namespace FL
open PySem PySem.Spec PyProof.Rows L2

/-! ### what a def promises: its data -/
/-- a def over data: the arguments' data; its result, and what the changed arguments hold then -/
abbrev FnD := List PyData → Option (Sl × List PyData)
inductive Args (K : PySem.W.Frag) (H : Hp) (S : Rg) : List Bool → List V → List PyData → Prop
  | nil : Args K H S [] [] []
  | val {fl : List Bool} {v : V} {d : PyData} {vs : List V} {ds : List PyData} : Rep K H S v d → Args K H S fl vs ds → Args K H S (false :: fl) (v :: vs) (d :: ds)
  | own {fl : List Bool} {a : Addr} {d : PyData} {vs : List V} {ds : List PyData} : ¬ S a → Own K H S a d → Args K H S fl vs ds → Args K H S (true :: fl) (.ref a :: vs) (d :: ds)
def ioAddrs : List Bool → List V → List Addr
  | true :: fl, .ref a :: vs => a :: ioAddrs fl vs
  | _ :: fl, _ :: vs => ioAddrs fl vs
  | _, _ => []
structure CallStep (io : List Addr) (S : Rg) (H : Hp) (S' : Rg) (H' : Hp) : Prop where
  up : Up H S H' S'
  new : ∀ a, S' a → S a ∨ H a = none
  keep : ∀ a o, H a = some o → ¬ S a → a ∉ io → H' a = some o
  mono : ∀ a, H a ≠ none → H' a ≠ none
  all : ∀ a, S' a → H' a ≠ none
abbrev Outs (K : PySem.W.Frag) (H : Hp) (S : Rg) : List Addr → List PyData → Prop := Paired fun a d => ¬ S a ∧ Own K H S a d
def spF (K : PySem.W.Frag) (fl : List Bool) (F : FnD) : Sp := fun vs H Q _ => ∃ S ds r outs, (∀ a, S a → H a ≠ none) ∧ Args K H S fl vs ds ∧ (ioAddrs fl vs).Nodup ∧ F ds = some (r, outs) ∧
  ∀ v H' S', CallStep (ioAddrs fl vs) S H S' H' → Res K S' H' H v r → Outs K H' S' (ioAddrs fl vs) outs → Q v H'
theorem Args.len {K : PySem.W.Frag} {H : Hp} {S : Rg} : ∀ {fl : List Bool} {vs : List V} {ds : List PyData}, Args K H S fl vs ds → vs.length = fl.length ∧ ds.length = fl.length
  | _, _, _, .nil => ⟨rfl, rfl⟩
  | _, _, _, .val _ r => ⟨congrArg (· + 1) r.len.1, congrArg (· + 1) r.len.2⟩
  | _, _, _, .own _ _ r => ⟨congrArg (· + 1) r.len.1, congrArg (· + 1) r.len.2⟩

/-! ### arguments of a call -/
inductive AOp where
  | v (c : CV)
  | io (i : Nat)
def peekOwn (e : Ev) (i : Nat) : Option PyData := match e[i]? with
  | some (.own d) => some d
  | _ => none
def aevs : List AOp → Ev → Option (List PyData × Ev)
  | [], e => some ([], e)
  | .io i :: r, e => match peekOwn e i with
    | none => none
    | some _ => match aevs r e with
      | none => none
      | some (ds, e') => match peekOwn e' i with
        | none => none
        | some d => some (d :: ds, e')
  | .v c :: r, e => match c e with
    | none => none
    | some (d, e1) => match aevs r e1 with
      | none => none
      | some (ds, e') => some (d :: ds, e')
def aFl : List AOp → List Bool
  | [] => []
  | .v _ :: r => false :: aFl r
  | .io _ :: r => true :: aFl r
def aIx : List AOp → List Nat
  | [] => []
  | .v _ :: r => aIx r
  | .io i :: r => i :: aIx r
def tA1 (K : PySem.W.Frag) : AOp → TE
  | .v c => tV K c
  | .io i => tVar i
def tAs (K : PySem.W.Frag) : List AOp → TA
  | [] => tNil
  | o :: r => tCons (tA1 K o) (tAs K r)
theorem peekOwn_some {e : Ev} {i : Nat} {d : PyData} (h : peekOwn e i = some d) : e[i]? = some (.own d) := by
  unfold peekOwn at h
  split at h
  · rename_i x q
    cases h
    exact q
  · cases h
/-- the io arguments' places and addresses -/
abbrev IoAt (σ : St) (e : Ev) : List Nat → List Addr → Prop := Paired fun i a => σ[i]? = some (some (.ref a)) ∧ ∃ d, e[i]? = some (.own d)
theorem runsA {K : PySem.W.Frag} {σ : St} : ∀ (os : List AOp) {S : Rg} {H : Hp} {e e' : Ev} {ds : List PyData} {R : List V → Hp → Prop}, Ok K S σ H e → aevs os e = some (ds, e') →
    (∀ vs H' S', Ok K S' σ H' e' → Step σ S H e S' H' e' → Args K H' S' (aFl os) vs ds → IoAt σ e' (aIx os) (ioAddrs (aFl os) vs) → R vs H') → tAs K os σ H R
  | [], S, H, e, e', ds, R, h, q, k => by
    cases q
    exact k [] H S h .refl .nil .nil
  | .io i :: r, S, H, e, e', ds, R, h, q, k => by
    unfold aevs at q
    cases p1 : peekOwn e i with
    | none => rw [p1] at q; cases q
    | some d0 =>
      rw [p1] at q
      cases p2 : aevs r e with
      | none => rw [p2] at q; cases q
      | some z =>
        obtain ⟨ds', e2⟩ := z
        rw [p2] at q
        cases p3 : peekOwn e2 i with
        | none => simp only [p3] at q; cases q
        | some d =>
          simp only [p3] at q
          cases q
          obtain ⟨a, h1, _⟩ := h.own i d0 (peekOwn_some p1)
          refine ⟨_, h1, runsA r h p2 fun vs H' S' h' s rs ia => ?_⟩
          obtain ⟨a', h2, h3, h4⟩ := h'.own i d (peekOwn_some p3)
          rw [h1] at h2; cases h2
          exact k _ _ _ h' s (.own h3 h4 rs) (.cons ⟨h1, d, peekOwn_some p3⟩ ia)
  | .v c :: r, S, H, e, e', ds, R, h, q, k => by
    unfold aevs at q
    cases p1 : c e with
    | none => rw [p1] at q; cases q
    | some z =>
      obtain ⟨d, e1⟩ := z
      rw [p1] at q
      cases p2 : aevs r e1 with
      | none => simp only [p2] at q; cases q
      | some z =>
        obtain ⟨ds', e2⟩ := z
        simp only [p2] at q
        cases q
        refine ⟨S, e, d, e1, h, p1, fun v H1 S1 h1 s1 r1 => runsA r h1 p2 fun vs H' S' h' s rs ia => k _ _ _ h' (s1.trans h s) (.val (r1.up s.up) rs) ?_⟩
        have : ioAddrs (aFl (AOp.v c :: r)) (v :: vs) = ioAddrs (aFl r) vs := by
          show ioAddrs (false :: aFl r) (v :: vs) = _
          rw [ioAddrs.eq_2]
          intro a z
          cases z
        rw [this]
        exact ia

/-! ### behind a call -/
def drops : Ev → List Nat → Ev
  | e, [] => e
  | e, i :: r => drops (e.set i .un) r
def puts : Ev → List Nat → List PyData → Ev
  | e, i :: is, d :: ds => puts (e.set i (.own d)) is ds
  | e, _, _ => e
section
variable {K : PySem.W.Frag} {σ : St} {S S1 S' : Rg} {H H1 H' : Hp} {e e1 e' : Ev} {a : Addr}
theorem Ok.drop (h : Ok K S σ H e) (i : Nat) : Ok K S σ H (e.set i .un) := by
  refine ⟨by rw [List.length_set]; exact h.len, h.all, fun j x q => ?_, fun j x q => ?_, fun j k x y b p q r s => ?_⟩
  · rcases setE q with ⟨_, w⟩ | ⟨_, w⟩
    · cases w
    · exact h.val j x w
  · rcases setE q with ⟨_, w⟩ | ⟨_, w⟩
    · cases w
    · exact h.own j x w
  · rcases setE p with ⟨_, w⟩ | ⟨_, w⟩
    · cases w
    · rcases setE q with ⟨_, w'⟩ | ⟨_, w'⟩
      · cases w'
      · exact h.inj j k x y b w w' r s
theorem OwnAt.drop {i : Nat} (o : OwnAt σ (e.set i .un) a) : OwnAt σ e a := by
  obtain ⟨j, d, p, q⟩ := o
  rcases setE p with ⟨_, w⟩ | ⟨_, w⟩
  · cases w
  · exact ⟨j, d, w, q⟩
theorem Ok.drops : ∀ (is : List Nat) {e : Ev}, Ok K S σ H e → Ok K S σ H (drops e is)
  | [], _, h => h
  | i :: is, _, h => Ok.drops is (h.drop i)
theorem OwnAt.drops : ∀ (is : List Nat) {e : Ev}, OwnAt σ (drops e is) a → OwnAt σ e a
  | [], _, h => h
  | i :: is, _, h => (OwnAt.drops is h).drop
theorem drops_un : ∀ (is : List Nat) {e : Ev} {i : Nat} {d : PyData}, (drops e is)[i]? = some (.own d) → e[i]? = some (.own d) ∧ i ∉ is
  | [], _, _, _, h => ⟨h, by simp⟩
  | j :: is, e, i, d, h => by
    obtain ⟨h1, h2⟩ := drops_un is (e := e.set j .un) h
    rcases setE h1 with ⟨_, w⟩ | ⟨z, w⟩
    · cases w
    · exact ⟨w, by simp only [List.mem_cons, not_or]; exact ⟨z, h2⟩⟩
theorem Ok.call {io : List Addr} (h : Ok K S σ H e) (c : CallStep io S H S' H') (n : ∀ a ∈ io, ¬ OwnAt σ e a) : Ok K S' σ H' e := by
  refine ⟨h.len, c.all, fun i d q => ?_, fun i d q => ?_, h.inj⟩
  · obtain ⟨v, q1, q2⟩ := h.val i d q
    exact ⟨v, q1, q2.up c.up⟩
  · obtain ⟨a, q1, q2, q3⟩ := h.own i d q
    have hk : H' a = H a := by
      cases z : H a with
      | none => exact absurd z q3.there
      | some o => exact c.keep a o z q2 fun w => n a w ⟨i, d, q, q1⟩
    refine ⟨a, q1, fun z => ?_, q3.up c.up hk⟩
    rcases c.new a z with w | w
    · exact q2 w
    · exact q3.there w
theorem Ok.give {i : Nat} {d : PyData} (h : Ok K S σ H e) (hi : i < e.length) (hs : σ[i]? = some (some (.ref a))) (n : ¬ S a) (o : Own K H S a d) (na : ¬ OwnAt σ e a) : Ok K S σ H (e.set i (.own d)) := by
  refine ⟨by rw [List.length_set]; exact h.len, h.all, fun j x q => ?_, fun j x q => ?_, fun j k x y b p q r s => ?_⟩
  · rcases setE q with ⟨_, w⟩ | ⟨_, w⟩
    · cases w
    · exact h.val j x w
  · rcases setE q with ⟨z, w⟩ | ⟨z, w⟩
    · cases w; subst z; exact ⟨a, hs, n, o⟩
    · exact h.own j x w
  · rcases setE p with ⟨z, w⟩ | ⟨z, w⟩
    · rcases setE q with ⟨z', w'⟩ | ⟨z', w'⟩
      · rw [z, z']
      · subst z; rw [hs] at r; cases r; exact absurd ⟨k, y, w', s⟩ na
    · rcases setE q with ⟨z', w'⟩ | ⟨z', w'⟩
      · subst z'; rw [hs] at s; cases s; exact absurd ⟨j, x, w, r⟩ na
      · exact h.inj j k x y b w w' r s
theorem Ok.puts : ∀ {is : List Nat} {as : List Addr} {ds : List PyData} {e : Ev}, Ok K S σ H e → (∀ i ∈ is, i < e.length) → Paired (fun i a => σ[i]? = some (some (.ref a))) is as → Outs K H S as ds → as.Nodup → (∀ a ∈ as, ¬ OwnAt σ e a) → Ok K S σ H (puts e is ds)
  | [], _, _, e, h, _, .nil, .nil, _, _ => h
  | i :: is, _, _, e, h, hl, .cons hs r, .cons ho q, nd, na => by
    rename_i a as d ds
    have na' := (List.nodup_cons.mp nd)
    show Ok K S σ H (FL.puts (e.set i (.own d)) is ds)
    refine Ok.puts (h.give (hl i List.mem_cons_self) hs ho.1 ho.2 (na a List.mem_cons_self)) (fun j hj => ?_) r q na'.2 fun b hb => ?_
    · rw [List.length_set]; exact hl j (List.mem_cons_of_mem _ hj)
    · rintro ⟨j, x, p, w⟩
      rcases setE p with ⟨z, w'⟩ | ⟨z, w'⟩
      · subst z; rw [hs] at w; cases w; exact na'.1 hb
      · exact na b (List.mem_cons_of_mem _ hb) ⟨j, x, w', w⟩
theorem OwnAt.puts : ∀ {is : List Nat} {as : List Addr} {ds : List PyData} {e : Ev}, Paired (fun i a => σ[i]? = some (some (.ref a))) is as → OwnAt σ (puts e is ds) a → OwnAt σ e a ∨ a ∈ as
  | [], _, ds, e, .nil, h => by
    left
    cases ds <;> exact h
  | i :: is, _, [], e, .cons hs r, h => .inl h
  | i :: is, _, d :: ds, e, .cons hs r, h => by
    rcases OwnAt.puts r (e := e.set i (.own d)) h with z | z
    · obtain ⟨j, x, p, q⟩ := z
      rcases setE p with ⟨z', w'⟩ | ⟨z', w'⟩
      · subst z'; rw [hs] at q; cases q; exact .inr List.mem_cons_self
      · exact .inl ⟨j, x, w', q⟩
    · exact .inr (List.mem_cons_of_mem _ z)
theorem drops_len : ∀ (is : List Nat) {e : Ev}, (drops e is).length = e.length
  | [], _ => rfl
  | i :: is, e => by
    show (drops (e.set i .un) is).length = _
    rw [drops_len is, List.length_set]
end

/-- f(..) of a def whose data are F -/
def cCall (F : FnD) (os : List AOp) : C := fun e => match aevs os e with
  | none => none
  | some (ds, e1) => match F ds with
    | none => none
    | some (r, outs) => some (r, puts (drops e1 (aIx os)) (aIx os) outs)
section
variable {X : Cx} {x : Str} {p pos : Pos} {a : Expr} {es : List Expr} {os : List AOp} {F : FnD}
inductive PAo (X : Cx) : List Expr → List AOp → Prop
  | nil : PAo X [] []
  | cons {e : Expr} {es : List Expr} {o : AOp} {os : List AOp} : PE X e (tA1 X.K o) → PAo X es os → (starEach (e :: es) X.env = (false, eval e X.env) :: starEach es X.env) → PAo X (e :: es) (o :: os)
theorem PAo.pa : ∀ {es : List Expr} {os : List AOp}, PAo X es os → PA X es (tAs X.K os)
  | _, _, .nil => pa_nil
  | _, _, .cons h r s => pa_cons h (PAo.pa r) s
theorem ao_nil : PAo X [] [] := .nil
theorem ao_v {e : Expr} {es : List Expr} {c : C} {os : List AOp} (h : PE X e (tF X.K c)) (r : PAo X es os) (s : starEach (e :: es) X.env = (false, eval e X.env) :: starEach es X.env := by rfl) : PAo X (e :: es) (.v (frz c) :: os) := .cons (fe_frz h) r s
theorem ao_io {e : Expr} {es : List Expr} {i : Nat} {os : List AOp} (h : PE X e (tVar i)) (r : PAo X es os) (s : starEach (e :: es) X.env = (false, eval e X.env) :: starEach es X.env := by rfl) : PAo X (e :: es) (.io i :: os) := .cons h r s
theorem ioAt_addrs {σ : St} {e : Ev} : ∀ {is : List Nat} {as : List Addr}, IoAt σ e is as → Paired (fun i a => σ[i]? = some (some (.ref a))) is as ∧ (∀ i ∈ is, i < e.length) ∧ (∀ a ∈ as, OwnAt σ e a)
  | _, _, .nil => ⟨.nil, fun _ h => by simp at h, fun _ h => by simp at h⟩
  | _, _, .cons h r => by
    obtain ⟨r1, r2, r3⟩ := ioAt_addrs r
    obtain ⟨h1, d, h2⟩ := h
    refine ⟨.cons h1 r1, fun i hi => ?_, fun a ha => ?_⟩
    · rcases List.mem_cons.mp hi with z | z
      · subst z; exact (List.getElem?_eq_some_iff.mp h2).1
      · exact r2 i z
    · rcases List.mem_cons.mp ha with z | z
      · subst z; exact ⟨_, d, h2, h1⟩
      · exact r3 a z
theorem ioAt_nodup {K : PySem.W.Frag} {S : Rg} {H : Hp} {σ : St} {e : Ev} (ok : Ok K S σ H e) : ∀ {is : List Nat} {as : List Addr}, IoAt σ e is as → is.Nodup → as.Nodup
  | _, _, .nil, _ => .nil
  | _, _, .cons (a := i) (b := a) h r, nd => by
    obtain ⟨n1, n2⟩ := List.nodup_cons.mp nd
    refine List.nodup_cons.mpr ⟨fun ha => ?_, ioAt_nodup ok r n2⟩
    have find : ∀ {is : List Nat} {as : List Addr}, IoAt σ e is as → a ∈ as → ∃ j ∈ is, σ[j]? = some (some (.ref a)) ∧ ∃ d, e[j]? = some (.own d) := by
      intro is as q
      induction q with
      | nil => intro z; simp at z
      | cons h t ih =>
        intro z
        rcases List.mem_cons.mp z with z | z
        · subst z; exact ⟨_, List.mem_cons_self, h⟩
        · obtain ⟨j, h1, h2⟩ := ih z
          exact ⟨j, List.mem_cons_of_mem _ h1, h2⟩
    obtain ⟨j, hj, h1, d, h2⟩ := find r ha
    obtain ⟨g1, d', g2⟩ := h
    have := ok.inj i j d' d a g2 h2 g1 h1
    subst this
    exact n1 hj
theorem call_run (nd : (aIx os).Nodup) {σ : St} {H : Hp} {Q : VK} {E : XK} (q : tF X.K (cCall F os) σ H Q) : tCall (spF X.K (aFl os) F) [] E (tAs X.K os) σ H Q := by
  obtain ⟨S, e, r, e', ok, q, k⟩ := q
  unfold cCall at q
  split at q
  · cases q
  · rename_i ds e1 hq
    split at q
    · cases q
    · rename_i r0 outs hF
      cases q
      refine runsA os ok hq fun vs H1 S1 ok1 s1 ar ia => ?_
      rw [List.append_nil]
      have nda := ioAt_nodup ok1 ia nd
      obtain ⟨i1, i2, i3⟩ := ioAt_addrs ia
      refine ⟨S1, ds, r, outs, ok1.all, ar, nda, hF, fun v H' S' cs rs ou => ?_⟩
      have okd := Ok.drops (aIx os) ok1
      have nown : ∀ a ∈ ioAddrs (aFl os) vs, ¬ OwnAt σ (drops e1 (aIx os)) a := fun a ha z => by
        obtain ⟨j, d, p, w⟩ := z
        obtain ⟨p1, p2⟩ := drops_un _ p
        have find : ∀ {is : List Nat} {as : List Addr}, IoAt σ e1 is as → a ∈ as → ∃ j ∈ is, σ[j]? = some (some (.ref a)) ∧ ∃ d, e1[j]? = some (.own d) := by
          intro is as q
          induction q with
          | nil => intro z; simp at z
          | cons h t ih =>
            intro z
            rcases List.mem_cons.mp z with z | z
            · subst z; exact ⟨_, List.mem_cons_self, h⟩
            · obtain ⟨j, h1, h2⟩ := ih z
              exact ⟨j, List.mem_cons_of_mem _ h1, h2⟩
        obtain ⟨j', hj, h1, d', h2⟩ := find ia ha
        have := ok1.inj j j' d d' a p1 h2 w h1
        subst this
        exact p2 hj
      have okc := okd.call cs nown
      have okp := Ok.puts okc (fun i hi => by rw [drops_len]; exact i2 i hi) i1 ou nda nown
      refine k v H' S' okp (s1.trans ok ⟨cs.up, fun a z => (cs.new a z).elim .inl fun w => .inr (.inl w), fun a o h1 h2 h3 => cs.keep a o h1 h2 fun z => h3 (i3 a z), cs.mono, fun a z => ?_⟩) (rs.lift s1)
      rcases OwnAt.puts i1 z with w | w
      · exact OwnAt.drops _ w
      · exact i3 a w
theorem fe_call {kk : Nat} {f : Addr} {fd : FuncData} {ps : List Str} {fl : List Bool} (G : FnOk X.prog X.w X.K X.mg X.base CX0 kk f fd ps (spF X.K fl F)) (hr : Room kk X.A) (hg : Gl X x) (hm : X.mg x = some (.ref f)) (hk : PySem.W.keepIn X.K (.ref f) = true) (hb : Binds X.K fd ps [])
    (ha : PAo X (a :: es) os) (hfl : aFl os = fl := by rfl) (nd : (aIx os).Nodup := by decide) (hdb : (x == ("__debug__" : Str)) = false := by decide) (he : starEach (a :: es) X.env = (false, eval a X.env) :: starEach es X.env := by rfl) (hpl : (backTo pos (starEach es X.env)).any (·.1) = false := by rfl) :
    PE X (.Call (.Name x p) (a :: es) [] pos) (tF X.K (cCall F os)) := by
  subst hfl
  exact peMono (pe_call G hr hg hm hk hb .nil pass0 ha.pa hdb he hpl) fun _ _ _ q => call_run nd q
end
end FL

set_option Elab.async false
set_option linter.all false
set_option maxRecDepth 100000
set_option maxHeartbeats 4000000
namespace FL
open PySem PySem.Spec PyProof.Rows L2

/-! ### what is walked -/
/-- the walked thing yields the data ds -/
def IterAt (K : PySem.W.Frag) (J : It) (S : Rg) (H : Hp) (ds : List PyData) : Prop := ∀ S' H', Up H S H' S' → ∀ i,
  (∀ d, ds[i]? = some d → J.go i H' ∧ ∀ x H'', J.yld i H' x H'' → (∀ σ e, Ok K S' σ H' e → Ok K S' σ H'' e ∧ Step σ S' H' e S' H'' e) ∧ (∀ a, H' a ≠ none → H'' a = H' a) ∧ Rep K H'' S' x d) ∧ (ds.length ≤ i → J.stop i H')
theorem IterAt.up {K : PySem.W.Frag} {J : It} {S S1 : Rg} {H H1 : Hp} {ds : List PyData} (h : IterAt K J S H ds) (u : Up H S H1 S1) : IterAt K J S1 H1 ds := fun S' H' v => h S' H' (u.trans v)
abbrev CI := Ev → Option (List PyData × Ev)
def tI (K : PySem.W.Frag) (ci : CI) : TI := fun σ H R => ∃ S e ds e', Ok K S σ H e ∧ ci e = some (ds, e') ∧ ∀ J H' S', Ok K S' σ H' e' → Step σ S H e S' H' e' → IterAt K J S' H' ds → R J H'
section
variable {X : Cx} {tg ex a b c : Expr} {x : Str} {p pos : Pos} {cc : C}
theorem piMono {w w' : TI} (h : PI X tg ex w) (k : ∀ σ H R, w' σ H R → w σ H R) : PI X tg ex w' := ⟨fun pins s σ H R I q => h.run pins s σ H R I (k σ H R q)⟩
theorem piOr {w w' : TI} (h : PI X tg ex w) (h' : PI X tg ex w') : PI X tg ex fun σ H R => w σ H R ∨ w' σ H R := ⟨fun pins s σ H R I q => q.elim (h.run pins s σ H R I) (h'.run pins s σ H R I)⟩
theorem itl_at {K : PySem.W.Frag} {S : Rg} {H : Hp} {q : Addr} {xs : List V} {ds : List PyData} (hs : S q) (h : H q = some (.lst xs)) (r : RepAll K H S xs ds) : IterAt K (Itl K q) S H ds := fun S' H' u i => by
  have h' := u.ls _ _ hs h
  have r' := r.up u
  refine ⟨fun d hd => ?_, fun hl => ⟨xs, .of h', by rw [r.length]; exact hl⟩⟩
  obtain ⟨v, hv, rv⟩ := r'.get hd
  refine ⟨⟨xs, v, .of h', hv⟩, fun y H'' ⟨e, f⟩ => ?_⟩
  subst e
  have := f xs (.of h')
  rw [hv] at this
  cases this
  exact ⟨fun σ e o => ⟨o, .refl⟩, fun _ _ => rfl, rv⟩
theorem itt_at {K : PySem.W.Frag} {S : Rg} {H : Hp} {q : Addr} {xs : List V} {ds : List PyData} (h : H q = some (.tup xs)) (r : RepAll K H S xs ds) : IterAt K (Itt K q) S H ds := fun S' H' u i => by
  have h' := u.tp _ _ h
  have r' := r.up u
  refine ⟨fun d hd => ?_, fun hl => ⟨xs, .of h', by rw [r.length]; exact hl⟩⟩
  obtain ⟨v, hv, rv⟩ := r'.get hd
  refine ⟨⟨xs, v, .of h', hv⟩, fun y H'' ⟨e, f⟩ => ?_⟩
  subst e
  have := f xs (.of h')
  rw [hv] at this
  cases this
  exact ⟨fun σ e o => ⟨o, .refl⟩, fun _ _ => rfl, rv⟩
theorem repKs_at {K : PySem.W.Frag} {H : Hp} {S : Rg} : ∀ {kk : List (Key × V)} {kvs : List (PyData × PyData)} {i : Nat} {d : PyData}, RepKs K H S kk kvs → (kvs.map (·.1))[i]? = some d → i < kk.length ∧ ∀ k v, kk[i]? = some (k, v) → d = keyD k
  | _, _, i, d, .nil, h => by simp at h
  | _, _, 0, d, .cons q r, h => by
    simp at h
    subst h
    exact ⟨by simp, fun k v e => by simp at e; rw [e.1]⟩
  | _, _, i + 1, d, .cons q r, h => by
    obtain ⟨h1, h2⟩ := repKs_at (i := i) r (by simpa using h)
    exact ⟨by simpa using h1, fun k v e => h2 k v (by simpa using e)⟩
theorem repTs_at {K : PySem.W.Frag} {H : Hp} {S : Rg} : ∀ {kk : List (List Key × V)} {kvs : List (PyData × PyData)} {i : Nat} {d : PyData}, RepTs K H S kk kvs → (kvs.map (·.1))[i]? = some d → i < kk.length ∧ ∀ k v, kk[i]? = some (k, v) → d = .tuple (k.map keyD)
  | _, _, i, d, .nil, h => by simp at h
  | _, _, 0, d, .cons q r, h => by
    simp at h
    subst h
    exact ⟨by simp, fun k v e => by simp at e; rw [e.1]⟩
  | _, _, i + 1, d, .cons q r, h => by
    obtain ⟨h1, h2⟩ := repTs_at (i := i) r (by simpa using h)
    exact ⟨by simpa using h1, fun k v e => h2 k v (by simpa using e)⟩
theorem frz_up {H H' : Hp} {S S' : Rg} {d : Addr} {o : Obj} {u : HO} (hu : Mut (some u)) (v : Up H S H' S') (hs : S d) (h : H d = some (.frz o u)) (hf : ∀ a o u, H a = some (.frz o u) → H' a = some (.frz o u)) : H' d = some (.frz o u) := hf _ _ _ h
/-- the data that a datum yields when it is walked -/
def walkD : PyData → Option (List PyData)
  | .list ds => some ds
  | .tuple ds => some ds
  | _ => none
def ciE (c : CV) : CI := fun e => match c e with
  | some (d, e') => match walkD d with
    | some ds => some (ds, e')
    | none => none
  | none => none
theorem fi_seq (h : PE X ex (tF X.K cc)) : PI X tg ex (tI X.K (ciE (frz cc))) :=
  piMono (piOr (pi_list (fe_frz h)) (pi_tup (fe_frz h))) fun σ H R ⟨S, e, ds, e', ok, q, k⟩ => by
    unfold ciE at q
    split at q
    · rename_i d e1 hd
      cases d with
      | list l =>
        cases q
        refine .inl ⟨S, e, _, _, ok, hd, fun v H' S' ok' st r => ?_⟩
        cases r with
        | lst h1 r1 => exact ⟨_, rfl, ⟨_, .of h1.2⟩, k _ H' S' ok' st (itl_at h1.1 h1.2 r1)⟩
      | tuple l =>
        cases q
        refine .inr ⟨S, e, _, _, ok, hd, fun v H' S' ok' st r => ?_⟩
        cases r with
        | tup h1 r1 => exact ⟨_, rfl, ⟨_, .of h1⟩, k _ H' S' ok' st (itt_at h1 r1)⟩
      | _ => cases q
    · cases q
def rangeD (lo hi : Int) : List PyData := (List.range (hi - lo).toNat).map fun (i : Nat) => .int (lo + (i : Int))
theorem itr_at {K : PySem.W.Frag} {S : Rg} {H : Hp} (lo : Int) (n : Nat) : IterAt K (Itr lo n) S H ((List.range n).map fun (i : Nat) => .int (lo + (i : Int))) := fun S' H' u i => by
  refine ⟨fun d hd => ?_, fun hl => (by simpa using hl : n ≤ i)⟩
  rw [List.getElem?_map] at hd
  by_cases hi : i < n
  · rw [List.getElem?_range hi] at hd
    cases hd
    refine ⟨hi, fun y H'' ⟨e, f⟩ => ?_⟩
    subst e f
    exact ⟨fun σ e o => ⟨o, .refl⟩, fun _ _ => rfl, .int _⟩
  · rw [List.getElem?_eq_none (by simpa using hi)] at hd
    cases hd
def small (i : Int) : Bool := decide (-(4611686018427387904) ≤ i ∧ i < 4611686018427387904)
theorem small_ok {i : Int} (h : small i = true) : -(2 ^ 62) ≤ i ∧ i < 2 ^ 62 := by
  have := of_decide_eq_true h
  omega
def ciR1 (c : CV) : CI := fun e => match c e with
  | some (.int j, e') => if small j = true then some (rangeD 0 j, e') else none
  | _ => none
def ciR2 (c c2 : CV) : CI := fun e => match c e with
  | some (.int i, e1) => match c2 e1 with
    | some (.int j, e2) => if small i = true ∧ small j = true then some (rangeD i j, e2) else none
    | _ => none
  | _ => none
theorem fi_r1 (h : PE X a (tF X.K cc)) (hg : Gl X "range") (hm : X.mg "range" = none) (hs : starEach [a] X.env = [(false, eval a X.env)] := by rfl) : PI X tg (.Call (.Name "range" p) [a] [] pos) (tI X.K (ciR1 (frz cc))) :=
  piMono (pi_range1 hg hm (pa_cons (fe_frz h) pa_nil hs) hs) fun σ H R ⟨S, e, ds, e', ok, q, k⟩ => by
    unfold ciR1 at q
    split at q
    · rename_i j e1 hj
      split at q
      · rename_i hsm
        cases q
        refine ⟨S, e, _, _, ok, hj, fun v H' S' ok' st r => ?_⟩
        cases r
        obtain ⟨s1, s2⟩ := small_ok hsm
        refine ⟨j, rfl, s1, s2, k _ H' S' ok' st ?_⟩
        have : rangeD 0 j = (List.range j.toNat).map fun (i : Nat) => PyData.int (0 + (i : Int)) := by unfold rangeD; rw [Int.sub_zero]
        rw [this]
        exact itr_at 0 _
      · cases q
    · cases q
theorem fi_r2 {cd : C} (h : PE X a (tF X.K cc)) (h2 : PE X b (tF X.K cd)) (hg : Gl X "range") (hm : X.mg "range" = none) (hs : starEach [a, b] X.env = [(false, eval a X.env), (false, eval b X.env)] := by rfl) (hs2 : starEach [b] X.env = [(false, eval b X.env)] := by rfl) :
    PI X tg (.Call (.Name "range" p) [a, b] [] pos) (tI X.K (ciR2 (frz cc) (frz cd))) :=
  piMono (pi_range2 hg hm (pa_cons (fe_frz h) (pa_cons (fe_frz h2) pa_nil hs2) (by rw [hs, hs2])) hs hs2) fun σ H R ⟨S, e, ds, e', ok, q, k⟩ => by
    unfold ciR2 at q
    split at q
    · rename_i i e1 hi
      split at q
      · rename_i j e2 hj
        split at q
        · rename_i hsm
          cases q
          refine ⟨S, e, _, _, ok, hi, fun v H1 S1 ok1 s1 r => ⟨S1, e1, _, _, ok1, hj, fun v2 H2 S2 ok2 s2 r2 => ?_⟩⟩
          cases r
          cases r2
          obtain ⟨b1, b2⟩ := small_ok hsm.1
          obtain ⟨b3, b4⟩ := small_ok hsm.2
          exact ⟨i, j, rfl, ⟨b1, b2, b3, b4⟩, k _ H2 S2 ok2 (s1.trans ok s2) (itr_at i _)⟩
        · cases q
      · cases q
    · cases q
/-! enumerate, zip: the target a tuple -/
def numbered : Nat → List PyData → List PyData
  | _, [] => []
  | n, d :: ds => .tuple [.int n, d] :: numbered (n + 1) ds
theorem numbered_get : ∀ {ds : List PyData} {n i : Nat} {d : PyData}, (numbered n ds)[i]? = some d → ∃ x, ds[i]? = some x ∧ d = .tuple [.int ((n + i : Nat) : Int), x]
  | [], n, i, d, h => by simp [numbered] at h
  | y :: ds, n, 0, d, h => by simp [numbered] at h; subst h; exact ⟨y, rfl, rfl⟩
  | y :: ds, n, i + 1, d, h => by
    obtain ⟨x, h1, h2⟩ := numbered_get (ds := ds) (n := n + 1) (i := i) (d := d) (by simpa [numbered] using h)
    refine ⟨x, by simpa using h1, ?_⟩
    rw [h2]
    have : n + 1 + i = n + (i + 1) := by omega
    rw [this]
theorem numbered_len : ∀ (n : Nat) (ds : List PyData), (numbered n ds).length = ds.length
  | _, [] => rfl
  | n, d :: ds => by show (numbered (n + 1) ds).length + 1 = _; rw [numbered_len]; rfl
theorem alloc_same {H : Hp} {T : Addr} {o : HO} (hn : H T = none) : ∀ a, H a ≠ none → upd H T o a = H a := fun a h => upd_ne fun z => h (by rw [z]; exact hn)
theorem ite_at {K : PySem.W.Frag} {S : Rg} {H : Hp} {q : Addr} {xs : List V} {ds : List PyData} (hs : S q) (h : H q = some (.lst xs)) (r : RepAll K H S xs ds) : IterAt K (Ite K q) S H (numbered 0 ds) := fun S' H' u i => by
  have h' := u.ls _ _ hs h
  have r' := r.up u
  refine ⟨fun d hd => ?_, fun hl => ⟨xs, .of h', by rw [r.length]; rw [numbered_len] at hl; exact hl⟩⟩
  obtain ⟨y, hy, rfl⟩ := numbered_get hd
  obtain ⟨v, hv, rv⟩ := r'.get hy
  refine ⟨⟨xs, v, .of h', hv⟩, fun z H'' ⟨T, w, e1, hn, e2, f⟩ => ?_⟩
  subst e1 e2
  have := f xs (.of h')
  rw [hv] at this
  cases this
  refine ⟨fun σ e o => o.alloc hn, alloc_same hn, .tup upd_same ?_⟩
  have hu : Up H' S' (upd H' T (.tup [.int (i : Nat), v])) S' := ⟨fun _ q => q, fun a w hs r => by
      have np : a ≠ T := fun z => by subst z; rcases r with r | ⟨_, r⟩ <;> (rw [hn] at r; cases r)
      unfold Rd; rw [upd_ne np]; exact r, fun a xs r => by rw [upd_ne (ne_of_none r hn)]; exact r, fun a xs _ r => by rw [upd_ne (ne_of_none r hn)]; exact r⟩
  have e0 : ((0 + i : Nat) : Int) = (i : Nat) := by rw [Nat.zero_add]
  rw [e0]
  exact .cons (.int _) (.cons (rv.up hu) .nil)
theorem up_new {H : Hp} {S : Rg} {T : Addr} {o : HO} (hn : H T = none) : Up H S (upd H T o) S := ⟨fun _ q => q, fun a w hs r => by
      have np : a ≠ T := fun z => by subst z; rcases r with r | ⟨_, r⟩ <;> (rw [hn] at r; cases r)
      unfold Rd; rw [upd_ne np]; exact r, fun a xs r => by rw [upd_ne (ne_of_none r hn)]; exact r, fun a xs _ r => by rw [upd_ne (ne_of_none r hn)]; exact r⟩
def ciEn (c : CV) : CI := fun e => match c e with
  | some (.list ds, e') => some (numbered 0 ds, e')
  | _ => none
theorem fi_enum {elts : List Expr} {kk : Nat} {tpos : Pos} (h : PE X a (tF X.K cc)) (hg : Gl X "enumerate") (hm : X.mg "enumerate" = none) (hs : starEach [a] X.env = [(false, eval a X.env)] := by rfl) :
    PI X (.Tuple elts kk tpos) (.Call (.Name "enumerate" p) [a] [] pos) (tI X.K (ciEn (frz cc))) :=
  piMono (pi_enum hg hm (pa_cons (fe_frz h) pa_nil hs) hs) fun σ H R ⟨S, e, ds, e', ok, q, k⟩ => by
    unfold ciEn at q
    split at q
    · rename_i l e1 hl
      cases q
      refine ⟨S, e, _, _, ok, hl, fun v H' S' ok' st r => ?_⟩
      cases r with
      | lst h1 r1 => exact ⟨_, _, rfl, .of h1.2, k _ H' S' ok' st (ite_at h1.1 h1.2 r1)⟩
    · cases q
def zipped : List PyData → List PyData → List PyData
  | x :: xs, y :: ys => .tuple [x, y] :: zipped xs ys
  | _, _ => []
theorem zipped_get : ∀ {xs ys : List PyData} {i : Nat} {d : PyData}, (zipped xs ys)[i]? = some d → ∃ x y, xs[i]? = some x ∧ ys[i]? = some y ∧ d = .tuple [x, y]
  | [], ys, i, d, h => by cases ys <;> simp [zipped] at h
  | x :: xs, [], i, d, h => by simp [zipped] at h
  | x :: xs, y :: ys, 0, d, h => by simp [zipped] at h; subst h; exact ⟨x, y, rfl, rfl, rfl⟩
  | x :: xs, y :: ys, i + 1, d, h => by
    obtain ⟨a, b, h1, h2, h3⟩ := zipped_get (xs := xs) (ys := ys) (i := i) (d := d) (by simpa [zipped] using h)
    exact ⟨a, b, by simpa using h1, by simpa using h2, h3⟩
theorem zipped_len : ∀ (xs ys : List PyData), (zipped xs ys).length = min xs.length ys.length
  | [], ys => by cases ys <;> simp [zipped]
  | x :: xs, [] => by simp [zipped]
  | x :: xs, y :: ys => by simp only [zipped, List.length_cons, zipped_len]; omega
theorem itz_at {K : PySem.W.Frag} {S : Rg} {H : Hp} {q q2 : Addr} {xs ys : List V} {ds es : List PyData} (hs : S q) (h : H q = some (.lst xs)) (r : RepAll K H S xs ds) (hs2 : S q2) (h2 : H q2 = some (.lst ys)) (r2 : RepAll K H S ys es) : IterAt K (Itz K q q2) S H (zipped ds es) := fun S' H' u i => by
  have h' := u.ls _ _ hs h
  have h2' := u.ls _ _ hs2 h2
  have r' := r.up u
  have r2' := r2.up u
  refine ⟨fun d hd => ?_, fun hl => ⟨xs, ys, .of h', .of h2', by rw [r.length, r2.length]; rw [zipped_len] at hl; omega⟩⟩
  obtain ⟨y, z, hy, hz, rfl⟩ := zipped_get hd
  obtain ⟨v, hv, rv⟩ := r'.get hy
  obtain ⟨w, hw, rw'⟩ := r2'.get hz
  refine ⟨⟨xs, ys, v, w, .of h', .of h2', hv, hw⟩, fun z H'' ⟨T, v', w', e1, hn, e2, f, g⟩ => ?_⟩
  subst e1 e2
  have t1 := f xs (.of h')
  have t2 := g ys (.of h2')
  rw [hv] at t1
  rw [hw] at t2
  cases t1
  cases t2
  exact ⟨fun σ e o => o.alloc hn, alloc_same hn, .tup upd_same (.cons (rv.up (up_new hn)) (.cons (rw'.up (up_new hn)) .nil))⟩
theorem itzT_at {K : PySem.W.Frag} {S : Rg} {H : Hp} {q q2 : Addr} {xs ys : List V} {ds es : List PyData} (h : H q = some (.tup xs)) (r : RepAll K H S xs ds) (h2 : H q2 = some (.tup ys)) (r2 : RepAll K H S ys es) : IterAt K (RZ.ItzT K q q2) S H (zipped ds es) := fun S' H' u i => by
  have h' := u.tp _ _ h
  have h2' := u.tp _ _ h2
  have r' := r.up u
  have r2' := r2.up u
  refine ⟨fun d hd => ?_, fun hl => ⟨xs, ys, .of h', .of h2', by rw [r.length, r2.length]; rw [zipped_len] at hl; omega⟩⟩
  obtain ⟨y, z, hy, hz, rfl⟩ := zipped_get hd
  obtain ⟨v, hv, rv⟩ := r'.get hy
  obtain ⟨w, hw, rw'⟩ := r2'.get hz
  refine ⟨⟨xs, ys, v, w, .of h', .of h2', hv, hw⟩, fun z H'' ⟨T, v', w', e1, hn, e2, f, g⟩ => ?_⟩
  subst e1 e2
  have t1 := f xs (.of h')
  have t2 := g ys (.of h2')
  rw [hv] at t1
  rw [hw] at t2
  cases t1
  cases t2
  exact ⟨fun σ e o => o.alloc hn, alloc_same hn, .tup upd_same (.cons (rv.up (up_new hn)) (.cons (rw'.up (up_new hn)) .nil))⟩
def zipD : PyData → PyData → Option (List PyData)
  | .list xs, .list ys => some (zipped xs ys)
  | .tuple xs, .tuple ys => some (zipped xs ys)
  | _, _ => none
def ciZip (c c2 : CV) : CI := fun e => match c e with
  | some (x, e1) => match c2 e1 with
    | some (y, e2) => match zipD x y with
      | some ds => some (ds, e2)
      | none => none
    | none => none
  | none => none
theorem fi_zip {elts : List Expr} {kk : Nat} {tpos : Pos} {cd : C} (h : PE X a (tF X.K cc)) (h2 : PE X b (tF X.K cd)) (hg : Gl X "zip") (hm : X.mg "zip" = none) (hs : starEach [a, b] X.env = (false, eval a X.env) :: starEach [b] X.env := by rfl) (hs2 : starEach [b] X.env = (false, eval b X.env) :: starEach [] X.env := by rfl) (hpl : (backTo pos (starEach [b] X.env)).any (·.1) = false := by rfl) :
    PI X (.Tuple elts kk tpos) (.Call (.Name "zip" p) [a, b] [] pos) (tI X.K (ciZip (frz cc) (frz cd))) :=
  piMono (RZ.pi_zipA hg hm (pa_cons (fe_frz h) (pa_cons (fe_frz h2) pa_nil hs2) hs) hs hpl) fun σ H R ⟨S, e, ds, e', ok, q, k⟩ => by
    unfold ciZip at q
    split at q
    · rename_i l e1 hl
      split at q
      · rename_i m e2 hm
        split at q
        · rename_i zs hz
          cases q
          refine ⟨S, e, _, _, ok, hl, fun v H1 S1 ok1 s1 r => ⟨S1, e1, _, _, ok1, hm, fun v2 H2 S2 ok2 s2 r2 => ?_⟩⟩
          have rr := r.up s2.up
          unfold zipD at hz
          split at hz
          · cases hz
            cases rr with
            | lst h1 r1 =>
              cases r2 with
              | lst h2 r2 => exact ⟨_, _, _, _, rfl, .inl ⟨.of h1.2, .of h2.2, k _ H2 S2 ok2 (s1.trans ok s2) (itz_at h1.1 h1.2 r1 h2.1 h2.2 r2)⟩⟩
          · cases hz
            cases rr with
            | tup h1 r1 =>
              cases r2 with
              | tup h2 r2 => exact ⟨_, _, _, _, rfl, .inr ⟨.of h1, .of h2, k _ H2 S2 ok2 (s1.trans ok s2) (itzT_at h1 r1 h2 r2)⟩⟩
          · cases hz
        · cases q
      · cases q
    · cases q
end
end FL

set_option Elab.async false
set_option linter.all false
set_option maxRecDepth 100000
set_option maxHeartbeats 4000000
namespace FL
open PySem PySem.Spec PyProof.Rows L2

/-! ### targets that take a value -/
abbrev CT := PyData → Ev → Option Ev
structure Asg (sl : List Nat) (σ : St) (e : Ev) (σ' : St) (e' : Ev) : Prop where
  len : σ'.length = σ.length
  lenE : e'.length = e.length
  out : ∀ j, j ∉ sl → σ'[j]? = σ[j]? ∧ e'[j]? = e[j]?
  own : ∀ a, OwnAt σ' e' a → OwnAt σ e a
def tGv (K : PySem.W.Frag) (sl : List Nat) (ct : CT) : TG := fun v σ H Q => ∃ S e d e', Ok K S σ H e ∧ Rep K H S v d ∧ ct d e = some e' ∧ ∀ σ', Ok K S σ' H e' → Asg sl σ e σ' e' → Q σ' H
def tGvs (K : PySem.W.Frag) (sl : List Nat) (ct : List PyData → Ev → Option Ev) : TGs := fun vs σ H Q => ∃ S e ds e', Ok K S σ H e ∧ RepAll K H S vs ds ∧ ct ds e = some e' ∧ ∀ σ', Ok K S σ' H e' → Asg sl σ e σ' e' → Q σ' H
def ctName (i : Nat) : CT := fun d e => if i < e.length then some (e.set i (.val d)) else none
def ctNil : List PyData → Ev → Option Ev := fun ds e => match ds with
  | [] => some e
  | _ => none
def ctCons (c : CT) (r : List PyData → Ev → Option Ev) : List PyData → Ev → Option Ev := fun ds e => match ds with
  | d :: ds => match c d e with
    | some e1 => r ds e1
    | none => none
  | [] => none
def ctTup (n : Nat) (r : List PyData → Ev → Option Ev) : CT := fun d e => match d with
  | .tuple ds => if ds.length = n then r ds e else none
  | _ => none
section
variable {K : PySem.W.Frag} {S : Rg} {H : Hp} {σ σ' σ2 : St} {e e' e2 : Ev} {sl sl' : List Nat}
theorem Asg.trans (x : Asg sl σ e σ' e') (y : Asg sl' σ' e' σ2 e2) : Asg (sl ++ sl') σ e σ2 e2 :=
  ⟨y.len.trans x.len, y.lenE.trans x.lenE, fun j h => by
    rw [List.mem_append, not_or] at h
    exact ⟨(y.out j h.2).1.trans (x.out j h.1).1, (y.out j h.2).2.trans (x.out j h.1).2⟩, fun a h => x.own a (y.own a h)⟩
theorem Ok.setVal {i : Nat} {v : V} {d : PyData} (h : Ok K S σ H e) (hi : i < e.length) (r : Rep K H S v d) : Ok K S (σ.set i (some v)) H (e.set i (.val d)) ∧ Asg [i] σ e (σ.set i (some v)) (e.set i (.val d)) := by
  have hs : i < σ.length := by rw [← h.len]; exact hi
  have nv : ∀ {j : Nat}, j ≠ i → (σ.set i (some v))[j]? = σ[j]? := fun q => List.getElem?_set_ne (Ne.symm q)
  refine ⟨⟨by rw [List.length_set, List.length_set]; exact h.len, h.all, fun j x q => ?_, fun j x q => ?_, fun j k x y b p q r s => ?_⟩, ⟨List.length_set, List.length_set, fun j hj => ?_, fun a ⟨j, x, p, q⟩ => ?_⟩⟩
  · rcases setE q with ⟨z, w⟩ | ⟨z, w⟩
    · cases w; subst z; exact ⟨v, List.getElem?_set_self hs, r⟩
    · rw [nv z]; exact h.val j x w
  · rcases setE q with ⟨z, w⟩ | ⟨z, w⟩
    · cases w
    · rw [nv z]; exact h.own j x w
  · rcases setE p with ⟨z, w⟩ | ⟨z, w⟩
    · cases w
    · rcases setE q with ⟨z', w'⟩ | ⟨z', w'⟩
      · cases w'
      · rw [nv z] at r; rw [nv z'] at s; exact h.inj j k x y b w w' r s
  · have : j ≠ i := fun z => hj (by rw [z]; exact List.mem_cons_self)
    exact ⟨nv this, List.getElem?_set_ne (Ne.symm this)⟩
  · rcases setE p with ⟨z, w⟩ | ⟨z, w⟩
    · cases w
    · rw [nv z] at q; exact ⟨j, x, w, q⟩
end
section
variable {X : Cx} {tg ex : Expr} {es : List Expr} {ct : CT} {cr : List PyData → Ev → Option Ev} {sl sl' : List Nat} {pos : Pos}
theorem pgMono {t t' : TG} (h : PG X tg t) (k : ∀ v σ H Q, t' v σ H Q → t v σ H Q) : PG X tg t' := ⟨fun pins s σ H v u Q I r q => h.run pins s σ H v u Q I r (k v σ H Q q)⟩
theorem pgsMono {t t' : TGs} (h : PGs X es t) (k : ∀ v σ H Q, t' v σ H Q → t v σ H Q) : PGs X es t' := ⟨fun pins s σ H v u Q I r q => h.run pins s σ H v u Q I r (k v σ H Q q)⟩
theorem fg_name {i : Nat} (h : PG X tg (gName i)) : PG X tg (tGv X.K [i] (ctName i)) := pgMono h fun v σ H Q ⟨S, e, d, e', ok, r, q, k⟩ => by
  unfold ctName at q
  split at q
  · rename_i hi
    cases q
    obtain ⟨k1, k2⟩ := ok.setVal hi r
    exact k _ k1 k2
  · cases q
theorem fgs_nil : PGs X [] (tGvs X.K [] ctNil) := pgsMono pgs_nil fun v σ H Q ⟨S, e, d, e', ok, r, q, k⟩ => by
  unfold ctNil at q
  split at q
  · cases q
    cases r
    exact ⟨rfl, k σ ok ⟨rfl, rfl, fun _ _ => ⟨rfl, rfl⟩, fun _ h => h⟩⟩
  · cases q
theorem fgs_cons (h : PG X ex (tGv X.K sl ct)) (r : PGs X es (tGvs X.K sl' cr)) (hs : (assignEach (ex :: es) X.env).map (·.2) = assign ex X.env :: (assignEach es X.env).map (·.2) := by rfl) : PGs X (ex :: es) (tGvs X.K (sl ++ sl') (ctCons ct cr)) :=
  pgsMono (pgs_cons h r hs) fun v σ H Q ⟨S, e, d, e', ok, rr, q, k⟩ => by
    unfold ctCons at q
    split at q
    · rename_i d ds
      split at q
      · rename_i e1 h1
        cases rr with
        | cons rv rr => exact ⟨_, _, rfl, S, e, d, e1, ok, rv, h1, fun σ1 ok1 a1 => ⟨S, e1, ds, e', ok1, rr, q, fun σ2 ok2 a2 => k σ2 ok2 (a1.trans a2)⟩⟩
      · cases q
    · cases q
theorem fg_tup {k n : Nat} (hc : X.calm = true) (h : PGs X es (tGvs X.K sl cr)) (hn : (assignEach es X.env).length = n := by rfl) (hst : (assignEach es X.env).findIdx? (·.1) = none := by rfl) : PG X (.Tuple es k pos) (tGv X.K sl (ctTup n cr)) :=
  pgMono (pg_tup hc h hn hst) fun v σ H Q ⟨S, e, d, e', ok, r, q, k⟩ => by
    unfold ctTup at q
    split at q
    · split at q
      · rename_i hl
        cases r with
        | tup h1 r1 => exact ⟨_, _, rfl, .of h1, by rw [r1.length]; exact hl, S, e, _, e', ok, r1, q, k⟩
      · cases q
    · cases q
end

/-! ### the block of a comprehension -/
def wipeE (e : Ev) : List Nat → Ev
  | [] => e
  | v :: vs => (wipeE e vs).set v .un
def back (e2 e1 : Ev) : List Nat → Ev
  | [] => e2
  | v :: vs => (back e2 e1 vs).set v (e1.getD v .un)
theorem wipeE_len (e : Ev) : ∀ vs : List Nat, (wipeE e vs).length = e.length
  | [] => rfl
  | v :: vs => by unfold wipeE; rw [List.length_set, wipeE_len e vs]
theorem back_len (e2 e1 : Ev) : ∀ vs : List Nat, (back e2 e1 vs).length = e2.length
  | [] => rfl
  | v :: vs => by unfold back; rw [List.length_set, back_len e2 e1 vs]
theorem wipeE_get {e : Ev} {i : Nat} {x : Sl} : ∀ {vs : List Nat}, (wipeE e vs)[i]? = some x → (i ∈ vs ∧ x = .un) ∨ (i ∉ vs ∧ e[i]? = some x)
  | [], h => .inr ⟨by simp, h⟩
  | v :: vs, h => by
    rcases setE h with ⟨z, w⟩ | ⟨z, w⟩
    · exact .inl ⟨by rw [z]; exact List.mem_cons_self, w.symm⟩
    · rcases wipeE_get w with ⟨a, b⟩ | ⟨a, b⟩
      · exact .inl ⟨List.mem_cons_of_mem _ a, b⟩
      · exact .inr ⟨by simp only [List.mem_cons, not_or]; exact ⟨z, a⟩, b⟩
theorem back_get {e2 e1 : Ev} (hl : e1.length = e2.length) {i : Nat} {x : Sl} : ∀ {vs : List Nat}, (back e2 e1 vs)[i]? = some x → (i ∈ vs ∧ e1[i]? = some x) ∨ (i ∉ vs ∧ e2[i]? = some x)
  | [], h => .inr ⟨by simp, h⟩
  | v :: vs, h => by
    have hi : i < e1.length := by
      have := (List.getElem?_eq_some_iff.mp h).1
      rw [back_len] at this
      omega
    rcases setE h with ⟨z, w⟩ | ⟨z, w⟩
    · refine .inl ⟨by rw [z]; exact List.mem_cons_self, ?_⟩
      subst z
      rw [← w, List.getD_eq_getElem?_getD, List.getElem?_eq_getElem hi]
      rfl
    · rcases back_get hl w with ⟨a, b⟩ | ⟨a, b⟩
      · exact .inl ⟨List.mem_cons_of_mem _ a, b⟩
      · exact .inr ⟨by simp only [List.mem_cons, not_or]; exact ⟨z, a⟩, b⟩
theorem wipe_in {σ : St} {i : Nat} : ∀ {vs : List Nat}, i ∈ vs → (wipe σ vs)[i]? = if i < σ.length then some none else none
  | v :: vs, h => by
    unfold wipe
    by_cases q : i = v
    · subst q
      by_cases l : i < σ.length
      · rw [if_pos l, List.getElem?_set_self (by rw [wipe_length]; exact l)]
      · rw [if_neg l, List.getElem?_eq_none (by rw [List.length_set, wipe_length]; omega)]
    · rw [List.getElem?_set_ne (Ne.symm q)]
      exact wipe_in ((List.mem_cons.mp h).resolve_left q)
theorem wipe_eq {σ σ' : St} {vs : List Nat} (hl : σ'.length = σ.length) (h : ∀ j, j ∉ vs → σ'[j]? = σ[j]?) : wipe σ' vs = wipe σ vs := by
  apply List.ext_getElem?
  intro i
  by_cases q : i ∈ vs
  · rw [wipe_in q, wipe_in q, hl]
  · rw [wipe_out q, wipe_out q]; exact h i q
theorem wipe_wipe {σ : St} {vs : List Nat} : wipe (wipe σ vs) vs = wipe σ vs := wipe_eq (wipe_length _ _) fun j q => wipe_out q
section
variable {K : PySem.W.Frag} {S S' S1 : Rg} {H H' H1 : Hp} {σ : St} {e e' : Ev} {a D : Addr} {vs : List Nat}
theorem OwnAt.wipe (o : OwnAt (wipe σ vs) (wipeE e vs) a) : OwnAt σ e a := by
  obtain ⟨i, d, p, q⟩ := o
  rcases wipeE_get p with ⟨_, w⟩ | ⟨z, w⟩
  · cases w
  · rw [wipe_out z] at q; exact ⟨i, d, w, q⟩
theorem Ok.wipe (h : Ok K S σ H e) (vs : List Nat) : Ok K S (L2.wipe σ vs) H (wipeE e vs) := by
  refine ⟨by rw [wipeE_len, wipe_length]; exact h.len, h.all, fun i d q => ?_, fun i d q => ?_, fun i j d d' b p q r s => ?_⟩
  · rcases wipeE_get q with ⟨_, w⟩ | ⟨z, w⟩
    · cases w
    · rw [wipe_out z]; exact h.val i d w
  · rcases wipeE_get q with ⟨_, w⟩ | ⟨z, w⟩
    · cases w
    · rw [wipe_out z]; exact h.own i d w
  · rcases wipeE_get p with ⟨_, w⟩ | ⟨z, w⟩
    · cases w
    · rcases wipeE_get q with ⟨_, w'⟩ | ⟨z', w'⟩
      · cases w'
      · rw [wipe_out z] at r; rw [wipe_out z'] at s; exact h.inj i j d d' b w w' r s
theorem up_poke {l l' : List V} (n : ¬ S D) (h : H D = some (.lst l)) : Up H S (upd H D (.lst l')) S :=
  ⟨fun _ q => q, fun a u s r => by unfold Rd; rw [upd_ne fun z => n (by rw [← z]; exact s)]; exact r, fun a xs q => by rw [upd_ne (ne_of q h fun z => nomatch z)]; exact q, fun a xs s q => by rw [upd_ne fun z => n (by rw [← z]; exact s)]; exact q⟩
theorem Ok.poke {l l' : List V} (ok : Ok K S σ H e) (n : ¬ S D) (no : ¬ OwnAt σ e D) (h : H D = some (.lst l)) : Ok K S σ (upd H D (.lst l')) e := by
  have u := up_poke (l' := l') n h
  refine ⟨ok.len, fun a s => ?_, fun i d q => ?_, fun i d q => ?_, ok.inj⟩
  · rw [upd_ne fun z => n (by rw [← z]; exact s)]; exact ok.all a s
  · obtain ⟨v, q1, q2⟩ := ok.val i d q
    exact ⟨v, q1, q2.up u⟩
  · obtain ⟨b, q1, q2, q3⟩ := ok.own i d q
    exact ⟨b, q1, q2, q3.up u (upd_ne fun z => no (by rw [← z]; exact ⟨i, d, q, q1⟩))⟩
/-- what is new may change -/
theorem Step.poke {o : HO} (hn : H1 D = none) (ok : Ok K S1 σ H1 e) (s : Step σ S1 H1 e S H e') : Step σ S1 H1 e S (upd H D o) e' := by
  have ne : ∀ b, H1 b ≠ none → b ≠ D := fun b q z => q (by rw [z]; exact hn)
  refine ⟨⟨s.up.sub, fun b u q r => ?_, fun b xs q => ?_, fun b xs q r => ?_⟩, s.new, fun b u q n m => ?_, fun b q => ?_, s.own⟩
  · unfold Rd; rw [upd_ne (ne b (ok.all b q))]; exact s.up.rd b u q r
  · rw [upd_ne (ne b (by rw [q]; exact fun z => nomatch z))]; exact s.up.tp b xs q
  · rw [upd_ne (ne b (ok.all b q))]; exact s.up.ls b xs q r
  · rw [upd_ne (ne b (by rw [q]; exact fun z => nomatch z))]; exact s.keep b u q n m
  · rw [upd_ne (ne b q)]; exact s.mono b q
/-- out of the block -/
theorem Ok.back (h1 : Ok K S1 σ H1 e) (s : Step (L2.wipe σ vs) S1 H1 (wipeE e vs) S' H' e') (h : Ok K S' (L2.wipe σ vs) H' e') : Ok K S' σ H' (FL.back e' e vs) ∧ Step σ S1 H1 e S' H' (FL.back e' e vs) := by
  have hl : e.length = e'.length := by rw [h.len, wipe_length]; exact h1.len
  have kept : ∀ i d b, i ∈ vs → e[i]? = some (.own d) → σ[i]? = some (some (.ref b)) → ¬ S1 b → Own K H1 S1 b d → ¬ S' b ∧ H' b = H1 b ∧ ¬ OwnAt (L2.wipe σ vs) (wipeE e vs) b := fun i d b hi he hs n o => by
    have no : ¬ OwnAt (L2.wipe σ vs) (wipeE e vs) b := fun ⟨j, x, p, q⟩ => by
      rcases wipeE_get p with ⟨_, w⟩ | ⟨z, w⟩
      · cases w
      · rw [wipe_out z] at q
        have := h1.inj i j d x b he w hs q
        subst this
        exact z hi
    refine ⟨fun z => ?_, ?_, no⟩
    · rcases s.new b z with w | w | w
      · exact n w
      · exact o.there w
      · exact no w
    · cases z : H1 b with
      | none => exact absurd z o.there
      | some u => exact s.keep b u z n no
  refine ⟨⟨by rw [back_len, h.len, wipe_length], h.all, fun i d q => ?_, fun i d q => ?_, fun i j d d' b p q r t => ?_⟩, ⟨s.up, fun b z => (s.new b z).imp id fun w => w.imp id OwnAt.wipe, fun b o q n m => s.keep b o q n fun z => m z.wipe, s.mono, fun b ⟨i, d, p, q⟩ => ?_⟩⟩
  · rcases back_get hl q with ⟨z, w⟩ | ⟨z, w⟩
    · obtain ⟨v, q1, q2⟩ := h1.val i d w
      exact ⟨v, q1, q2.up s.up⟩
    · obtain ⟨v, q1, q2⟩ := h.val i d w
      rw [wipe_out z] at q1
      exact ⟨v, q1, q2⟩
  · rcases back_get hl q with ⟨z, w⟩ | ⟨z, w⟩
    · obtain ⟨b, q1, q2, q3⟩ := h1.own i d w
      obtain ⟨k1, k2, _⟩ := kept i d b z w q1 q2 q3
      exact ⟨b, q1, k1, q3.up s.up k2⟩
    · obtain ⟨b, q1, q2⟩ := h.own i d w
      rw [wipe_out z] at q1
      exact ⟨b, q1, q2⟩
  · rcases back_get hl p with ⟨z, w⟩ | ⟨z, w⟩
    · rcases back_get hl q with ⟨z', w'⟩ | ⟨z', w'⟩
      · exact h1.inj i j d d' b w w' r t
      · obtain ⟨b', q1, q2, q3⟩ := h1.own i d w
        rw [r] at q1; cases q1
        exact absurd (s.own b ⟨j, d', w', by rw [wipe_out z']; exact t⟩) (kept i d b z w r q2 q3).2.2
    · rcases back_get hl q with ⟨z', w'⟩ | ⟨z', w'⟩
      · obtain ⟨b', q1, q2, q3⟩ := h1.own j d' w'
        rw [t] at q1; cases q1
        exact absurd (s.own b ⟨i, d, w, by rw [wipe_out z]; exact r⟩) (kept j d' b z' w' t q2 q3).2.2
      · exact h.inj i j d d' b w w' (by rw [wipe_out z]; exact r) (by rw [wipe_out z']; exact t)
  · rcases back_get hl p with ⟨z, w⟩ | ⟨z, w⟩
    · exact ⟨i, d, w, q⟩
    · exact (s.own b ⟨i, d, w, by rw [wipe_out z]; exact q⟩).wipe
end
/-- the turns of a comprehension -/
def lcGo (ct : CT) (tt : CB) (el : CV) (vs : List Nat) : List PyData → Ev → Option (List PyData × Ev)
  | [], e => some ([], e)
  | d :: ds, e => match ct d e with
    | none => none
    | some e1 => match tt e1 with
      | none => none
      | some (false, e2) => lcGo ct tt el vs ds (wipeE e2 vs)
      | some (true, e2) => match el e2 with
        | none => none
        | some (x, e3) => match lcGo ct tt el vs ds (wipeE e3 vs) with
          | none => none
          | some (xs, e4) => some (x :: xs, e4)
def cLc (ci : CI) (ct : CT) (tt : CB) (el : CV) (vs : List Nat) : C := fun e => match ci e with
  | none => none
  | some (ds, e1) => if ds.length ≤ 16777216 then match lcGo ct tt el vs ds (wipeE e1 vs) with
    | none => none
    | some (xs, e2) => some (.own (.list xs), back e2 e1 vs)
    else none
def cbYes : CB := fun e => some (true, e)
section
variable {X : Cx} {elt tg iter : Expr} {ifs : List Expr} {scope : Scope} {own : List (Str × Nat)} {pos : Pos} {ci : CI} {ct : CT} {tt : CB} {cel : C} {sl : List Nat}
theorem fts_nil : PTs X [] (tT X.K cbYes) := ⟨fun pins s σ H Q I ⟨S, e, r, e', ok, q, k⟩ => by
  cases q
  exact (pts_nil (X := X)).run pins s σ H Q I (k H S ok .refl)⟩
theorem fts_one {c : Expr} (h : PT X c (tT X.K tt)) : PTs X [c] (tT X.K tt) := pts_one h
theorem lc_run {K : PySem.W.Frag} {vs : List Nat} (hsl : ∀ j ∈ sl, j ∈ vs) {σ : St} {H0 : Hp} {Q : VK} (q : tF K (cLc ci ct tt (frz cel) vs) σ H0 Q) : tLc (tI K ci) (tGv K sl ct) (tT K tt) (tF K cel) vs σ H0 Q := by
  obtain ⟨S, e, r, e', ok, q, k⟩ := q
  unfold cLc at q
  split at q
  · cases q
  · rename_i ds e1 hci
    split at q
    · rename_i hlim
      split at q
      · cases q
      · rename_i xs eF hgo
        cases q
        refine ⟨S, e, ds, e1, ok, hci, fun J H1 S1 ok1 s1 it => fun D hD => ?_⟩
        have okW := ok1.wipe vs
        obtain ⟨okA, sA⟩ := okW.alloc (o := .lst []) hD
        refine ⟨fun i m H => i ≤ ds.length ∧ m = ds.length - i ∧ ∃ S e acc accV rest, Ok K S (wipe σ vs) H e ∧ Step (wipe σ vs) S1 H1 (wipeE e1 vs) S H e ∧ H D = some (.lst accV) ∧ ¬ S D ∧ ¬ OwnAt (wipe σ vs) e D ∧ RepAll K H S accV acc ∧ acc.length ≤ i ∧
          lcGo ct tt (frz cel) vs (ds.drop i) e = some (rest, eF) ∧ acc ++ rest = xs, ⟨ds.length, Nat.zero_le _, rfl, S1, _, [], [], xs, okA, sA, upd_same, ok1.pS hD, fun z => (okW.notS z).2 hD, .nil, Nat.le_refl _, hgo, rfl⟩, ?_⟩
        rintro i m H ⟨hi, rfl, S2, e2, acc, accV, rest, ok2, s2, hD2, nS, nO, ra, hla, hgo2, hx⟩
        have it2 := (it.up s2.up) S2 H Up.refl i
        by_cases hlt : i < ds.length
        · right
          have hd : ds[i]? = some ds[i] := List.getElem?_eq_getElem hlt
          obtain ⟨hgoI, hy⟩ := it2.1 _ hd
          have edrop : ds.drop i = ds[i] :: ds.drop (i + 1) := List.drop_eq_getElem_cons hlt
          rw [edrop] at hgo2
          refine ⟨hgoI, fun H' => i + 1 ≤ ds.length ∧ ∃ S e acc accV rest, Ok K S (wipe σ vs) H' e ∧ Step (wipe σ vs) S1 H1 (wipeE e1 vs) S H' e ∧ H' D = some (.lst accV) ∧ ¬ S D ∧ ¬ OwnAt (wipe σ vs) e D ∧ RepAll K H' S accV acc ∧ acc.length ≤ i + 1 ∧
            lcGo ct tt (frz cel) vs (ds.drop (i + 1)) e = some (rest, eF) ∧ acc ++ rest = xs, fun H' ⟨h1, h2⟩ => ⟨ds.length - (i + 1), by omega, h1, rfl, h2⟩, fun x H3 yl => ?_⟩
          obtain ⟨y1, ys, y2⟩ := hy x H3 yl
          obtain ⟨ok3, s3⟩ := y1 _ _ ok2
          unfold lcGo at hgo2
          split at hgo2
          · cases hgo2
          · rename_i e4 hct
            refine ⟨S2, e2, _, e4, ok3, y2, hct, fun σ4 ok4 as4 => ⟨?_, ?_⟩⟩
            · rw [wipe_eq (σ := wipe σ vs) as4.len (fun j hj => (as4.out j fun z => hj (hsl j z)).1), wipe_wipe]
            have hw4 : wipe σ4 vs = wipe σ vs := by rw [wipe_eq (σ := wipe σ vs) as4.len (fun j hj => (as4.out j fun z => hj (hsl j z)).1), wipe_wipe]
            have hD3 : H3 D = some (.lst accV) := by rw [ys D (by rw [hD2]; exact fun z => nomatch z)]; exact hD2
            have nO4 : ¬ OwnAt σ4 e4 D := fun z => nO (as4.own D z)
            split at hgo2
            · cases hgo2
            · -- not taken
              rename_i e5 htt
              refine ⟨S2, e4, false, e5, ok4, htt, fun H5 S5 ok5 s5 => iteF ?_⟩
              have hD5 : H5 D = some (.lst accV) := s5.keep D _ hD3 nS nO4
              have nS5 : ¬ S5 D := fun z => by
                rcases s5.new D z with w | w | w
                · exact nS w
                · rw [hD3] at w; cases w
                · exact nO4 w
              have ok5' := ok5.wipe vs
              rw [hw4] at ok5'
              have sT : Step (wipe σ vs) S1 H1 (wipeE e1 vs) S5 H5 (wipeE e5 vs) := by
                have t1 := s2.trans okW s3
                refine ⟨t1.up.trans s5.up, fun b z => ?_, fun b o z n m => ?_, fun b z => s5.mono b (t1.mono b z), fun b z => ?_⟩
                · rcases s5.new b z with w | w | w
                  · exact t1.new b w
                  · refine .inr (.inl ?_)
                    cases u : H1 b with
                    | none => rfl
                    | some o => exact absurd w (t1.mono b (by rw [u]; exact fun v => nomatch v))
                  · exact .inr (.inr (t1.own b (as4.own b w)))
                · refine s5.keep b o (t1.keep b o z n m) (fun w => ?_) (fun w => m (t1.own b (as4.own b w)))
                  rcases t1.new b w with u | u | u
                  · exact n u
                  · rw [z] at u; cases u
                  · exact m u
                · rw [← hw4] at z
                  exact t1.own b (as4.own b (s5.own b z.wipe))
              exact ⟨hlt, S5, _, acc, accV, rest, ok5', sT, hD5, nS5, fun z => by rw [← hw4] at z; exact nO4 (s5.own D z.wipe), (ra.up s3.up).up s5.up, by omega, hgo2, hx⟩
            · -- taken
              rename_i e5 htt
              refine ⟨S2, e4, true, e5, ok4, htt, fun H5 S5 ok5 s5 => iteT ?_⟩
              split at hgo2
              · cases hgo2
              · rename_i xd e6 hel
                split at hgo2
                · cases hgo2
                · rename_i rest' e7 hgo3
                  cases hgo2
                  have hD5 : H5 D = some (.lst accV) := s5.keep D _ hD3 nS nO4
                  have nS5 : ¬ S5 D := fun z => by
                    rcases s5.new D z with w | w | w
                    · exact nS w
                    · rw [hD3] at w; cases w
                    · exact nO4 w
                  have nO5 : ¬ OwnAt σ4 e5 D := fun z => nO4 (s5.own D z)
                  refine tF.frz ⟨S5, e5, xd, e6, ok5, hel, fun y H6 S6 ok6 s6 ry => ?_⟩
                  have hD6 : H6 D = some (.lst accV) := s6.keep D _ hD5 nS5 nO5
                  have nS6 : ¬ S6 D := fun z => by
                    rcases s6.new D z with w | w | w
                    · exact nS5 w
                    · rw [hD5] at w; cases w
                    · exact nO5 w
                  have nO6 : ¬ OwnAt σ4 e6 D := fun z => nO5 (s6.own D z)
                  have up6 := up_poke (l' := accV ++ [y]) nS6 hD6
                  have ok6' := (ok6.poke (l' := accV ++ [y]) nS6 nO6 hD6).wipe vs
                  rw [hw4] at ok6'
                  have ra6 := ((ra.up s3.up).up s5.up).up s6.up
                  have hlen : accV.length ≤ i := by rw [ra.length]; exact hla
                  refine ⟨accV, hD6, by rw [lim_eq]; omega, hlt, S6, _, acc ++ [xd], _, rest', ok6', ?_, upd_same, nS6, fun z => by rw [← hw4] at z; exact nO6 z.wipe, (ra6.append (.cons ry .nil)).up up6, by rw [List.length_append]; exact Nat.add_le_add_right hla 1, hgo3, by rw [List.append_assoc]; exact hx⟩
                  have t1 := s2.trans okW s3
                  have sT : Step (wipe σ vs) S1 H1 (wipeE e1 vs) S6 H6 (wipeE e6 vs) := by
                    have s56 := s5.trans ok4 s6
                    refine ⟨t1.up.trans s56.up, fun b z => ?_, fun b o z n m => ?_, fun b z => s56.mono b (t1.mono b z), fun b z => ?_⟩
                    · rcases s56.new b z with w | w | w
                      · exact t1.new b w
                      · refine .inr (.inl ?_)
                        cases u : H1 b with
                        | none => rfl
                        | some o => exact absurd w (t1.mono b (by rw [u]; exact fun v => nomatch v))
                      · exact .inr (.inr (t1.own b (as4.own b w)))
                    · refine s56.keep b o (t1.keep b o z n m) (fun w => ?_) (fun w => m (t1.own b (as4.own b w)))
                      rcases t1.new b w with u | u | u
                      · exact n u
                      · rw [z] at u; cases u
                      · exact m u
                    · rw [← hw4] at z
                      exact t1.own b (as4.own b (s56.own b z.wipe))
                  exact sT.poke hD okW
        · left
          have hie : i = ds.length := by omega
          subst hie
          refine ⟨it2.2 (Nat.le_refl _), ?_⟩
          rw [List.drop_length] at hgo2
          cases hgo2
          rw [List.append_nil] at hx
          subst hx
          obtain ⟨okB, sB⟩ := ok1.back s2 ok2
          refine k _ _ S2 okB (s1.trans ok sB) ⟨D, rfl, ?_, nS, ⟨accV, hD2, ra⟩⟩
          cases u : H0 D with
          | none => rfl
          | some o => exact absurd hD (s1.mono D (by rw [u]; exact fun v => nomatch v))
    · cases q
end
end FL
namespace FL
open PySem PySem.Spec PyProof.Rows L2
section
variable {X : Cx} {elt tg iter : Expr} {ifs : List Expr} {scope : Scope} {own : List (Str × Nat)} {pos : Pos} {ci : CI} {ct : CT} {tt : CB} {cel : C} {sl : List Nat}
theorem fe_lc (hc : X.calm = true) (hN : X.N.Nodup) (hi : PI X tg iter (tI X.K ci)) (ok : BlkOk X.N X.env.scope scope own)
    (hg : ∀ (s : Shared) (H : Hp) (C : Addr) (cl : List (Str × Addr)) (fp : List Addr), PG (X.blk s H scope (compEnvC scope cl C X.env) fp) tg (tGv X.K sl ct)) (ht : ∀ (s : Shared) (H : Hp) (C : Addr) (cl : List (Str × Addr)) (fp : List Addr), PTs (X.blk s H scope (compEnvC scope cl C X.env) fp) ifs (tT X.K tt))
    (he : ∀ (s : Shared) (H : Hp) (C : Addr) (cl : List (Str × Addr)) (fp : List Addr), PE (X.blk s H scope (compEnvC scope cl C X.env) fp) elt (tF X.K cel)) (hsl : ∀ j ∈ sl, j ∈ own.map (·.2)) (hs : ∀ x, foldedSetIterable iter X.env x = pure x := by intro _; rfl) :
    PE X (.ListComp elt [⟨tg, iter, ifs, 0⟩] scope pos) (tF X.K (cLc ci ct tt (frz cel) (own.map (·.2)))) :=
  peMono (pe_lc hc hN hi ok hg ht he hs) fun _ _ _ q => lc_run hsl q
end
end FL

set_option Elab.async false
set_option linter.all false
set_option maxRecDepth 100000
set_option maxHeartbeats 4000000
namespace FL
open PySem PySem.Spec PyProof.Rows L2

inductive Out where
  | nx (e : Ev)
  | rt (r : Sl) (e : Ev)
  | bk (e : Ev)
  | ct (e : Ev)
abbrev CS := Ev → Option Out
/-- the entry of the def that runs -/
structure Gm where
  H0 : Hp
  S0 : Rg
  io : List (Nat × Addr)
structure OkS (K : PySem.W.Frag) (G : Gm) (S : Rg) (σ : St) (H : Hp) (e : Ev) : Prop where
  ok : Ok K S σ H e
  keep : ∀ a o, G.H0 a = some o → ¬ G.S0 a → (∀ p ∈ G.io, p.2 ≠ a) → H a = some o
  up : Up G.H0 G.S0 H S
  mono : ∀ a, G.H0 a ≠ none → H a ≠ none
  new : ∀ a, S a → G.S0 a ∨ G.H0 a = none ∨ ∃ p ∈ G.io, p.2 = a
  own : ∀ a, OwnAt σ e a → G.H0 a = none ∨ ∃ p ∈ G.io, p.2 = a
  io : ∀ p ∈ G.io, σ[p.1]? = some (some (.ref p.2))
def PostS (K : PySem.W.Frag) (G : Gm) (S : Rg) (H : Hp) (D : Ends) : Out → Prop
  | .nx e' => ∀ σ' H' S', OkS K G S' σ' H' e' → Up H S H' S' → D.nx σ' H'
  | .rt r e' => ∀ v σ' H' S', OkS K G S' σ' H' e' → Res K S' H' G.H0 v r → D.rt v H'
  | .bk e' => ∀ σ' H' S', OkS K G S' σ' H' e' → Up H S H' S' → D.bk σ' H'
  | .ct e' => ∀ σ' H' S', OkS K G S' σ' H' e' → Up H S H' S' → D.ct σ' H'
theorem PostS.up {K : PySem.W.Frag} {G : Gm} {S S1 : Rg} {H H1 : Hp} {D : Ends} (u : Up H S H1 S1) : ∀ {o : Out}, PostS K G S H D o → PostS K G S1 H1 D o
  | .nx _, k => fun σ' H' S' ok w => k σ' H' S' ok (u.trans w)
  | .rt _ _, k => k
  | .bk _, k => fun σ' H' S' ok w => k σ' H' S' ok (u.trans w)
  | .ct _, k => fun σ' H' S' ok w => k σ' H' S' ok (u.trans w)
def tS (K : PySem.W.Frag) (ios : List Nat) (s : CS) : TS := fun D σ H => ∃ G S e o, G.io.map (·.1) = ios ∧ OkS K G S σ H e ∧ s e = some o ∧ PostS K G S H D o

section
variable {K : PySem.W.Frag} {G : Gm} {S S' : Rg} {H H' : Hp} {σ σ' : St} {e e' : Ev} {a : Addr} {ios : List Nat}
theorem OkS.notIo (h : OkS K G S σ H e) {o : HO} (q : G.H0 a = some o) (n : ¬ G.S0 a) (m : ∀ p ∈ G.io, p.2 ≠ a) : ¬ S a ∧ ¬ OwnAt σ e a := by
  refine ⟨fun z => ?_, fun z => ?_⟩
  · rcases h.new a z with w | w | ⟨p, w, w'⟩
    · exact n w
    · rw [q] at w; cases w
    · exact m p w w'
  · rcases h.own a z with w | ⟨p, w, w'⟩
    · rw [q] at w; cases w
    · exact m p w w'
/-- behind an expression -/
theorem OkS.step (h : OkS K G S σ H e) (s : Step σ S H e S' H' e') (ok : Ok K S' σ H' e') : OkS K G S' σ H' e' := by
  refine ⟨ok, fun a o q n m => ?_, h.up.trans s.up, fun a q => s.mono a (h.mono a q), fun a z => ?_, fun a z => h.own a (s.own a z), h.io⟩
  · obtain ⟨k1, k2⟩ := h.notIo q n m
    exact s.keep a o (h.keep a o q n m) k1 k2
  · rcases s.new a z with w | w | w
    · exact h.new a w
    · refine .inr (.inl ?_)
      cases u : G.H0 a with
      | none => rfl
      | some o => exact absurd w (h.mono a (by rw [u]; exact fun z => nomatch z))
    · exact .inr (h.own a w)
theorem OkS.res {v : V} {r : Sl} (h : OkS K G S σ H e) (q : Res K S' H' H v r) : Res K S' H' G.H0 v r := by
  cases r with
  | un => exact q
  | val d => exact q
  | own d =>
    obtain ⟨a, e1, n, z⟩ := q
    refine ⟨a, e1, ?_, z⟩
    cases u : G.H0 a with
    | none => rfl
    | some o => exact absurd n (h.mono a (by rw [u]; exact fun z => nomatch z))
/-- behind an assignment of values -/
theorem OkS.asg {sl : List Nat} (h : OkS K G S σ H e) (x : Asg sl σ e σ' e') (ok : Ok K S σ' H e') (hn : ∀ j ∈ sl, j ∉ G.io.map (·.1)) : OkS K G S σ' H e' :=
  ⟨ok, h.keep, h.up, h.mono, h.new, fun a z => h.own a (x.own a z), fun p hp => by
    rw [(x.out p.1 fun z => hn p.1 z (List.mem_map.mpr ⟨p, hp, rfl⟩)).1]; exact h.io p hp⟩
/-- a result is given a name -/
theorem OkS.set {i : Nat} {v : V} {r : Sl} (h : OkS K G S σ H e) (hi : i < e.length) (hn : i ∉ G.io.map (·.1)) (q : Res K S H G.H0 v r) (na : ∀ a d, v = .ref a → r = .own d → ¬ OwnAt σ e a) : OkS K G S (σ.set i (some v)) H (e.set i r) := by
  have hs : i < σ.length := by rw [← h.ok.len]; exact hi
  have nv : ∀ {j : Nat}, j ≠ i → (σ.set i (some v))[j]? = σ[j]? := fun q => List.getElem?_set_ne (Ne.symm q)
  have io : ∀ p ∈ G.io, (σ.set i (some v))[p.1]? = some (some (.ref p.2)) := fun p hp => by
    rw [nv fun z => hn (by rw [← z]; exact List.mem_map.mpr ⟨p, hp, rfl⟩)]; exact h.io p hp
  cases r with
  | un => exact q.elim
  | val d =>
    obtain ⟨k1, k2⟩ := h.ok.setVal hi q
    exact ⟨k1, h.keep, h.up, h.mono, h.new, fun a z => h.own a (k2.own a z), io⟩
  | own d =>
    obtain ⟨a, rfl, n, nS, o⟩ := q
    have nOwn := na a d rfl rfl
    refine ⟨⟨by rw [List.length_set, List.length_set]; exact h.ok.len, h.ok.all, fun j x q => ?_, fun j x q => ?_, fun j k x y b p q r s => ?_⟩, h.keep, h.up, h.mono, h.new, fun b ⟨j, x, p, q⟩ => ?_, io⟩
    · rcases setE q with ⟨_, w⟩ | ⟨z, w⟩
      · cases w
      · rw [nv z]; exact h.ok.val j x w
    · rcases setE q with ⟨z, w⟩ | ⟨z, w⟩
      · cases w; subst z; exact ⟨a, List.getElem?_set_self hs, nS, o⟩
      · rw [nv z]; exact h.ok.own j x w
    · rcases setE p with ⟨z, w⟩ | ⟨z, w⟩
      · rcases setE q with ⟨z', w'⟩ | ⟨z', w'⟩
        · rw [z, z']
        · subst z
          rw [List.getElem?_set_self hs] at r
          cases r
          rw [nv z'] at s
          exact absurd ⟨k, y, w', s⟩ nOwn
      · rcases setE q with ⟨z', w'⟩ | ⟨z', w'⟩
        · subst z'
          rw [List.getElem?_set_self hs] at s
          cases s
          rw [nv z] at r
          exact absurd ⟨j, x, w, r⟩ nOwn
        · rw [nv z] at r; rw [nv z'] at s
          exact h.ok.inj j k x y b w w' r s
    · rcases setE p with ⟨z, w⟩ | ⟨z, w⟩
      · subst z
        rw [List.getElem?_set_self hs] at q
        cases q
        exact .inl n
      · rw [nv z] at q
        exact h.own b ⟨j, x, w, q⟩
end

/-! ### statements -/
def sExpr (c : C) : CS := fun e => match c e with
  | some (_, e') => some (.nx e')
  | none => none
def sRet (c : C) : CS := fun e => match c e with
  | some (r, e') => some (.rt r e')
  | none => none
/-- return x -/
def sRetV (i : Nat) : CS := fun e => match e[i]? with
  | some (.val d) => some (.rt (.val d) e)
  | some (.own d) => some (.rt (.own d) (e.set i .un))
  | _ => none
def sRetN : CS := fun e => some (.rt (.val .none) e)
def sSet (i : Nat) (c : C) : CS := fun e => match c e with
  | some (r, e') => if i < e'.length then some (.nx (e'.set i r)) else none
  | none => none
def sUnp (ct : CT) (c : CV) : CS := fun e => match c e with
  | some (d, e') => match ct d e' with
    | some e2 => some (.nx e2)
    | none => none
  | none => none
def sSeq (s t : CS) : CS := fun e => match s e with
  | some (.nx e') => t e'
  | o => o
def sNop : CS := fun e => some (.nx e)
def sBrk : CS := fun e => some (.bk e)
def sCnt : CS := fun e => some (.ct e)
def sIf (b : CB) (s t : CS) : CS := fun e => match b e with
  | some (true, e') => s e'
  | some (false, e') => t e'
  | none => none
def forGo (ct : CT) (s : CS) : List PyData → Ev → Option Out
  | [], e => some (.nx e)
  | d :: ds, e => match ct d e with
    | none => none
    | some e1 => match s e1 with
      | some (.nx e2) => forGo ct s ds e2
      | some (.ct e2) => forGo ct s ds e2
      | some (.bk e2) => some (.nx e2)
      | some (.rt r e2) => some (.rt r e2)
      | none => none
def sFor (ci : CI) (ct : CT) (s : CS) : CS := fun e => match ci e with
  | some (ds, e1) => forGo ct s ds e1
  | none => none
def whileGo (b : CB) (s : CS) : Nat → Ev → Option Out
  | 0, _ => none
  | n + 1, e => match b e with
    | none => none
    | some (false, e1) => some (.nx e1)
    | some (true, e1) => match s e1 with
      | some (.nx e2) => whileGo b s n e2
      | some (.ct e2) => whileGo b s n e2
      | some (.bk e2) => some (.nx e2)
      | some (.rt r e2) => some (.rt r e2)
      | none => none
def sWhile (fuel : Nat) (b : CB) (s : CS) : CS := fun e => whileGo b s fuel e
section
variable {X : Cx} {st : Stmt} {rest : List Stmt} {s t : CS} {ex tg : Expr} {c : C} {pos : Pos} {ios : List Nat} {i : Nat}
theorem fs_expr (h : PE X ex (tF X.K c)) (hs : swapsWith ex none pos.line X.env = pure false := by rfl) : PS X (.Expr ex pos) (tS X.K ios (sExpr c)) := psMono (ps_expr h hs) fun D σ H ⟨G, S, e, o, hi, ok, q, k⟩ => by
  unfold sExpr at q
  split at q
  · rename_i r e' hc
    cases q
    exact ⟨S, e, r, e', ok.ok, hc, fun v H' S' ok' st _ => k σ H' S' (ok.step st ok') st.up⟩
  · cases q
theorem fs_doc {x : Str} {j : Nat} {pos' : Pos} : PS X (.Expr (.Constant (.str x) j pos) pos') (tS X.K ios sNop) := psMono ps_doc fun D σ H ⟨G, S, e, o, hi, ok, q, k⟩ => by
  cases q
  exact k σ H S ok .refl
theorem fs_pass : PS X (.Pass pos) (tS X.K ios sNop) := psMono ps_pass fun D σ H ⟨G, S, e, o, hi, ok, q, k⟩ => by
  cases q
  exact k σ H S ok .refl
theorem fs_break : PS X (.Break pos) (tS X.K ios sBrk) := psMono ps_break fun D σ H ⟨G, S, e, o, hi, ok, q, k⟩ => by
  cases q
  exact k σ H S ok .refl
theorem fs_continue : PS X (.Continue pos) (tS X.K ios sCnt) := psMono ps_continue fun D σ H ⟨G, S, e, o, hi, ok, q, k⟩ => by
  cases q
  exact k σ H S ok .refl
theorem fs_ret (h : PE X ex (tF X.K c)) : PS X (.Return (some ex) pos) (tS X.K ios (sRet c)) := psMono (ps_ret h) fun D σ H ⟨G, S, e, o, hi, ok, q, k⟩ => by
  unfold sRet at q
  split at q
  · rename_i r e' hc
    cases q
    exact ⟨S, e, r, e', ok.ok, hc, fun v H' S' ok' st z => k v σ H' S' (ok.step st ok') (ok.res z)⟩
  · cases q
theorem fs_retV (h : PE X ex (tVar i)) : PS X (.Return (some ex) pos) (tS X.K [] (sRetV i)) := psMono (ps_ret h) fun D σ H ⟨G, S, e, o, hi, ok, q, k⟩ => by
  have hio : G.io = [] := List.map_eq_nil_iff.mp hi
  unfold sRetV at q
  split at q
  · rename_i d hd
    cases q
    obtain ⟨v, h1, h2⟩ := ok.ok.val i d hd
    exact ⟨v, h1, k v σ H S ok h2⟩
  · rename_i d hd
    cases q
    obtain ⟨a, h1, h2, h3⟩ := ok.ok.own i d hd
    refine ⟨_, h1, k _ σ H S ⟨ok.ok.drop i, ok.keep, ok.up, ok.mono, ok.new, fun b z => ok.own b z.drop, ok.io⟩ ⟨a, rfl, ?_, h2, h3⟩⟩
    rcases ok.own a ⟨i, d, hd, h1⟩ with w | ⟨p, w, _⟩
    · exact w
    · rw [hio] at w; cases w
  · cases q
theorem fs_retN : PS X (.Return none pos) (tS X.K ios sRetN) := psMono ps_retN fun D σ H ⟨G, S, e, o, hi, ok, q, k⟩ => by
  cases q
  exact k .non σ H S ok .non
/-- how a name takes an expression's result -/
theorem set_run {K : PySem.W.Frag} (hn : i ∉ ios) {D : Ends} {σ : St} {H : Hp} (q : tS K ios (sSet i c) D σ H) : tF K c σ H fun x H1 => gName i x σ H1 D.nx := by
  obtain ⟨G, S, e, o, hi, ok, q, k⟩ := q
  unfold sSet at q
  split at q
  · rename_i r e' hc
    split at q
    · rename_i hl
      cases q
      refine ⟨S, e, r, e', ok.ok, hc, fun v H' S' ok' st z => k _ H' S' ((ok.step st ok').set hl (by rw [hi]; exact hn) (ok.res z) fun a d ev er => ?_) st.up⟩
      subst ev er
      obtain ⟨a', e1, n, _⟩ := z
      cases e1
      exact st.nown ok.ok n
    · cases q
  · cases q
theorem fs_set {x : Str} {pos' : Pos} (hN : X.N.Nodup) (hi : X.N[i]? = some x) (hx : Loc X.env.scope x) (h : PE X ex (tF X.K c)) (hn : i ∉ ios := by decide) (hs : swapsWith ex (some (.Name x pos')) pos.line X.env = pure false := by rfl) (hf : X.fn x = true ∨ X.env.scope.names.lookup x = some .local := by first | exact .inl rfl | exact .inr rfl | assumption) :
    PS X (.Assign [.Name x pos'] ex pos) (tS X.K ios (sSet i c)) := psMono (ps_set hN hi hx h hs hf) fun D σ H q => set_run hn q
theorem fs_setLc {y : Str} {py : Pos} {elt iter : Expr} {ifs : List Expr} {scope : Scope} {own : List (Str × Nat)} {pos spos : Pos} {ci : CI} {ct : CT} {tt : CB} {cel : C} {sl : List Nat} (hc : X.calm = true) (hN : X.N.Nodup) (hy : X.N[i]? = some y) (hyl : X.env.scope.names.lookup y = some .local)
    (hsw : swapsWith (.ListComp elt [⟨tg, iter, ifs, 0⟩] scope pos) (some (.Name y py)) spos.line X.env = pure true) (hi : PI X tg iter (tI X.K ci)) (ok : BlkOk X.N X.env.scope scope own)
    (hg : ∀ (s : Shared) (H : Hp) (C : Addr) (cl : List (Str × Addr)) (fp : List Addr), PG (X.blk s H scope (compEnvC scope cl C X.env) fp) tg (tGv X.K sl ct)) (ht : ∀ (s : Shared) (H : Hp) (C : Addr) (cl : List (Str × Addr)) (fp : List Addr), PTs (X.blk s H scope (compEnvC scope cl C X.env) fp) ifs (tT X.K tt))
    (he : ∀ (s : Shared) (H : Hp) (C : Addr) (cl : List (Str × Addr)) (fp : List Addr), PE (X.blk s H scope (compEnvC scope cl C X.env) fp) elt (tF X.K cel)) (hsl : ∀ j ∈ sl, j ∈ own.map (·.2)) (hn : i ∉ ios := by decide) (hs : ∀ x, foldedSetIterable iter X.env x = pure x := by intro _; rfl) :
    PS X (.Assign [.Name y py] (.ListComp elt [⟨tg, iter, ifs, 0⟩] scope pos) spos) (tS X.K ios (sSet i (cLc ci ct tt (frz cel) (own.map (·.2))))) :=
  psMono (ps_setLc hc hN hy hyl hsw hi ok hg ht he hs) fun D σ H q => lc_run hsl (set_run hn q)
theorem fs_unp {ct : CT} {sl : List Nat} (h : PE X ex (tF X.K c)) (hg : PG X tg (tGv X.K sl ct)) (hn : ∀ j ∈ sl, j ∉ ios := by decide) (hs : swapsWithSole [tg] ex pos.line X.env = pure false := by rfl) (hw : swappedStores [tg] ex X.env = pure none := by rfl)
    (h1 : (assignEach [tg] X.env).map (·.2) = [assign tg X.env] := by rfl) : PS X (.Assign [tg] ex pos) (tS X.K ios (sUnp ct (frz c))) := psMono (ps_asg (fe_frz h) hg hs hw h1) fun D σ H ⟨G, S, e, o, hi, ok, q, k⟩ => by
  unfold sUnp at q
  split at q
  · rename_i d e' hc
    split at q
    · rename_i e2 hct
      cases q
      exact ⟨S, e, d, e', ok.ok, hc, fun v H' S' ok' st r => ⟨S', e', d, e2, ok', r, hct, fun σ2 ok2 as => k σ2 H' S' ((ok.step st ok').asg as ok2 (by rw [hi]; exact hn)) st.up⟩⟩
    · cases q
  · cases q
theorem fss_nil : PSs X [] (tS X.K ios sNop) := pssMono pss_nil fun D σ H ⟨G, S, e, o, hi, ok, q, k⟩ => by
  cases q
  exact k σ H S ok .refl
theorem fss_one (h : PS X st (tS X.K ios s)) : PSs X [st] (tS X.K ios s) := pss_one h
theorem fss_cons (h : PS X st (tS X.K ios s)) (r : PSs X rest (tS X.K ios t)) : PSs X (st :: rest) (tS X.K ios (sSeq s t)) := pssMono (pss_cons h r) fun D σ H ⟨G, S, e, o, hi, ok, q, k⟩ => by
  unfold sSeq at q
  split at q
  · rename_i e' hs
    exact ⟨G, S, e, .nx e', hi, ok, hs, fun σ' H' S' ok' u => ⟨G, S', e', o, hi, ok', q, k.up u⟩⟩
  · rename_i hno
    refine ⟨G, S, e, o, hi, ok, q, ?_⟩
    cases o with
    | nx e' => exact absurd q (hno e')
    | rt r e' => exact k
    | bk e' => exact k
    | ct e' => exact k
theorem fs_if {b : CB} {cnd : Expr} {p q : List Stmt} (hc : PT X cnd (tT X.K b)) (h1 : PSs X p (tS X.K ios s)) (h2 : PSs X q (tS X.K ios t)) : PS X (.If cnd p q pos) (tS X.K ios (sIf b s t)) := psMono (ps_if hc h1 h2) fun D σ H ⟨G, S, e, o, hi, ok, q, k⟩ => by
  unfold sIf at q
  split at q
  · rename_i e' hb
    exact ⟨S, e, true, e', ok.ok, hb, fun H' S' ok' st => iteT ⟨G, S', e', o, hi, ok.step st ok', q, k.up st.up⟩⟩
  · rename_i e' hb
    exact ⟨S, e, false, e', ok.ok, hb, fun H' S' ok' st => iteF ⟨G, S', e', o, hi, ok.step st ok', q, k.up st.up⟩⟩
  · cases q
theorem fs_while {b : CB} {cnd : Expr} {p : List Stmt} {fuel : Nat} (hp : PassesOwn (model X.prog X.w) X.A X.env X.xe) (hc : PT X cnd (tT X.K b)) (h1 : PSs X p (tS X.K ios s)) : PS X (.While cnd p [] pos) (tS X.K ios (sWhile fuel b s)) := psMono (ps_while hp hc h1) fun D σ H ⟨G, S, e, o, hi, ok, q, k⟩ => by
  refine ⟨fun m σ H1 => ∃ S1 e, OkS X.K G S1 σ H1 e ∧ Up H S H1 S1 ∧ whileGo b s m e = some o, ⟨fuel, S, e, ok, .refl, q⟩, ?_⟩
  rintro m σ H1 ⟨S1, e, ok, u1, q⟩
  cases m with
  | zero => cases q
  | succ m =>
    unfold whileGo at q
    split at q
    · cases q
    · rename_i e1 hb
      cases q
      exact ⟨S1, e, false, e1, ok.ok, hb, fun H' S' ok' st => iteF (k σ H' S' (ok.step st ok') (u1.trans st.up))⟩
    · rename_i e1 hb
      refine ⟨S1, e, true, e1, ok.ok, hb, fun H' S' ok' st => iteT ⟨fun σ H1 => ∃ S1 e, OkS X.K G S1 σ H1 e ∧ Up H S H1 S1 ∧ whileGo b s m e = some o, fun σ' H' z => ⟨m, Nat.lt_succ_self m, z⟩, ?_⟩⟩
      have ok1 := ok.step st ok'
      have u2 := u1.trans st.up
      split at q
      · rename_i e2 hs
        exact ⟨G, S', e1, _, hi, ok1, hs, fun σ2 H2 S2 ok2 u => ⟨S2, e2, ok2, u2.trans u, q⟩⟩
      · rename_i e2 hs
        exact ⟨G, S', e1, _, hi, ok1, hs, fun σ2 H2 S2 ok2 u => ⟨S2, e2, ok2, u2.trans u, q⟩⟩
      · rename_i e2 hs
        cases q
        exact ⟨G, S', e1, _, hi, ok1, hs, fun σ2 H2 S2 ok2 u => k σ2 H2 S2 ok2 (u2.trans u)⟩
      · rename_i r e2 hs
        cases q
        exact ⟨G, S', e1, _, hi, ok1, hs, k⟩
      · cases q
theorem fs_for {ci : CI} {ct : CT} {sl : List Nat} {iter : Expr} {p : List Stmt} (hp : PassesOwn (model X.prog X.w) X.A X.env X.xe) (hc : X.calm = true) (hi : PI X tg iter (tI X.K ci)) (hg : PG X tg (tGv X.K sl ct)) (h1 : PSs X p (tS X.K ios s)) (hn : ∀ j ∈ sl, j ∉ ios := by decide)
    (hs : ∀ x, foldedSetIterable iter X.env x = pure x := by intro _; rfl) : PS X (.For tg iter p [] pos) (tS X.K ios (sFor ci ct s)) := psMono (ps_for hp hc hi hg h1 hs) fun D σ H ⟨G, S, e, o, hio, ok, q, k⟩ => by
  unfold sFor at q
  split at q
  · rename_i ds e1 hci
    refine ⟨S, e, ds, e1, ok.ok, hci, fun J H1 S1 ok1 s1 it => ?_⟩
    refine ⟨fun i m σ H2 => m = ds.length - i ∧ i ≤ ds.length ∧ ∃ S2 e, OkS X.K G S2 σ H2 e ∧ Up H S H2 S2 ∧ IterAt X.K J S2 H2 ds ∧ forGo ct s (ds.drop i) e = some o, ⟨ds.length, by simp, Nat.zero_le _, S1, e1, ok.step s1 ok1, s1.up, it, q⟩, ?_⟩
    rintro i m σ H2 ⟨rfl, hle, S2, e2, ok2, u2, it2, q⟩
    have itn := it2 S2 H2 Up.refl i
    by_cases hlt : i < ds.length
    · right
      obtain ⟨hgo, hy⟩ := itn.1 _ (List.getElem?_eq_getElem hlt)
      rw [List.drop_eq_getElem_cons hlt] at q
      refine ⟨hgo, fun σ H2 => ∃ S2 e, OkS X.K G S2 σ H2 e ∧ Up H S H2 S2 ∧ IterAt X.K J S2 H2 ds ∧ forGo ct s (ds.drop (i + 1)) e = some o, fun σ' H' z => ⟨ds.length - (i + 1), by omega, rfl, hlt, z⟩, fun x H3 yl => ?_⟩
      obtain ⟨y1, ys, y2⟩ := hy x H3 yl
      obtain ⟨ok3, s3⟩ := y1 _ _ ok2.ok
      have okS3 := ok2.step s3 ok3
      unfold forGo at q
      split at q
      · cases q
      · rename_i e4 hct
        refine ⟨S2, e2, _, e4, ok3, y2, hct, fun σ4 ok4 as4 => ?_⟩
        have okS4 := okS3.asg as4 ok4 (by rw [hio]; exact hn)
        split at q
        · rename_i e5 hs
          exact ⟨G, S2, e4, _, hio, okS4, hs, fun σ' H' S' ok' u => ⟨S', e5, ok', (u2.trans s3.up).trans u, it2.up (s3.up.trans u), q⟩⟩
        · rename_i e5 hs
          exact ⟨G, S2, e4, _, hio, okS4, hs, fun σ' H' S' ok' u => ⟨S', e5, ok', (u2.trans s3.up).trans u, it2.up (s3.up.trans u), q⟩⟩
        · rename_i e5 hs
          cases q
          exact ⟨G, S2, e4, _, hio, okS4, hs, fun σ' H' S' ok' u => k σ' H' S' ok' ((u2.trans s3.up).trans u)⟩
        · rename_i r e5 hs
          cases q
          exact ⟨G, S2, e4, _, hio, okS4, hs, k⟩
        · cases q
    · left
      have : i = ds.length := by omega
      subst this
      rw [List.drop_length] at q
      cases q
      exact ⟨itn.2 (Nat.le_refl _), k σ H2 S2 ok2 u2⟩
  · cases q
end
end FL

set_option Elab.async false
set_option linter.all false
set_option maxRecDepth 100000
set_option maxHeartbeats 4000000
namespace FL
open PySem PySem.Spec PyProof.Rows L2

section
variable {K : PySem.W.Frag} {S S' S1 : Rg} {H H' H1 : Hp} {σ : St} {e e' : Ev} {a : Addr} {i : Nat} {d d' : PyData} {ob : HO}
theorem Own.notTup (o : Own K H S a d) (xs : List V) : H a ≠ some (.tup xs) := by
  cases d with
  | list ds => obtain ⟨ys, q, _⟩ := o; rw [q]; exact fun z => nomatch z
  | dict kvs => rcases o with ⟨kk, q, _⟩ | ⟨kk, q, _⟩ <;> (rw [q]; exact fun z => nomatch z)
  | _ => exact o.elim
theorem up_at (n : ¬ S a) (nt : ∀ xs, H a ≠ some (.tup xs)) : Up H S (upd H a ob) S :=
  ⟨fun _ q => q, fun b u s r => by unfold Rd; rw [upd_ne fun z => n (by rw [← z]; exact s)]; exact r,
   fun b xs q => by rw [upd_ne fun z => nt xs (by rw [← z]; exact q)]; exact q, fun b xs s q => by rw [upd_ne fun z => n (by rw [← z]; exact s)]; exact q⟩
/-- an own object is written -/
theorem Ok.write (h : Ok K S σ H e) (he : e[i]? = some (.own d)) (hs : σ[i]? = some (some (.ref a))) (o : Up H S (upd H a ob) S → Own K (upd H a ob) S a d') :
    Ok K S σ (upd H a ob) (e.set i (.own d')) ∧ Step σ S H e S (upd H a ob) (e.set i (.own d')) := by
  obtain ⟨b, q1, q2, q3⟩ := h.own i d he
  rw [hs] at q1; cases q1
  have u : Up H S (upd H a ob) S := up_at q2 q3.notTup
  refine ⟨⟨by rw [List.length_set]; exact h.len, fun b s => ?_, fun j x q => ?_, fun j x q => ?_, fun j k x y b p q r s => ?_⟩, ⟨u, fun b s => .inl s, fun b w q n m => ?_, fun b q => ?_, fun b ⟨j, x, p, q⟩ => ?_⟩⟩
  · rw [upd_ne fun z => q2 (by rw [← z]; exact s)]; exact h.all b s
  · rcases setE q with ⟨z, w⟩ | ⟨z, w⟩
    · cases w
    · obtain ⟨v, p1, p2⟩ := h.val j x w
      exact ⟨v, p1, p2.up u⟩
  · rcases setE q with ⟨z, w⟩ | ⟨z, w⟩
    · cases w; subst z; exact ⟨a, hs, q2, o u⟩
    · obtain ⟨b, p1, p2, p3⟩ := h.own j x w
      refine ⟨b, p1, p2, p3.up u (upd_ne fun y => z ?_)⟩
      subst y
      exact h.inj j i x d b w he p1 hs
  · rcases setE p with ⟨z, w⟩ | ⟨z, w⟩
    · rcases setE q with ⟨z', w'⟩ | ⟨z', w'⟩
      · rw [z, z']
      · subst z; exact h.inj j k d y b he w' r s
    · rcases setE q with ⟨z', w'⟩ | ⟨z', w'⟩
      · subst z'; exact h.inj j k x d b w he r s
      · exact h.inj j k x y b w w' r s
  · exact (upd_ne fun z => m (by rw [z]; exact ⟨i, d, he, hs⟩)).trans q
  · by_cases z : b = a
    · rw [z, upd_same]; exact fun w => nomatch w
    · rw [upd_ne z]; exact q
  · rcases setE p with ⟨z, w⟩ | ⟨z, w⟩
    · subst z; exact ⟨j, d, he, q⟩
    · exact ⟨j, x, w, q⟩
end

/-! ### x[k] = v -/
def setD (d k v : PyData) : Option PyData := match d with
  | .list ds => match k with
    | .int i => match ixN ds.length i with
      | some j => some (.list (ds.set j v))
      | none => none
    | _ => none
  | .dict kvs => if okKey kvs k = true ∧ kvs.length < 16777216 then some (.dict (dPut kvs k v)) else none
  | _ => none
def OwnX (σ : St) (e : Ev) (i : Nat) (x : V) (d : PyData) : Prop := ∃ a, x = .ref a ∧ e[i]? = some (.own d) ∧ σ[i]? = some (some (.ref a))
def rSetX (K : PySem.W.Frag) : TSet := fun o y v H Q => ∃ S σ e i d yd vd d', Ok K S σ H e ∧ OwnX σ e i o d ∧ Rdb K H S σ e y yd ∧ Rep K H S v vd ∧ setD d yd vd = some d' ∧
  ∀ H', Ok K S σ H' (e.set i (.own d')) → Step σ S H e S H' (e.set i (.own d')) → Q H'
section
variable {X : Cx}
theorem upd_upd {H : Hp} {a : Addr} {x y : HO} : upd (upd H a x) a y = upd H a y := by
  funext b
  by_cases h : b = a
  · subst h; rw [upd_same, upd_same]
  · rw [upd_ne h, upd_ne h, upd_ne h]
theorem retagT {pins : List (Addr × Obj)} {σ : St} {H : Hp} {s : Shared} {a : Addr} (I : Inv X pins σ H s) (h : H a = some (.dK [])) : Inv X pins σ (upd H a (.dT [])) s := by
  obtain ⟨h1, _, h3⟩ := empties I (.inl (.inl h))
  have w := h3
  obtain ⟨o, es, ep, g1, g2, g3, g4, _, g5⟩ := w
  have := d_write (t' := s.toks) (h' := s.heap) (ob := .dT []) I (by rw [h]; exact True.intro) (⟨rfl, fun _ _ => rfl⟩) ⟨o, g1⟩ ⟨Nat.zero_le _, h1, [], .nil, o, es, ep, g1, g2, g3, g4, g5⟩
  exact this
theorem retagK {pins : List (Addr × Obj)} {σ : St} {H : Hp} {s : Shared} {a : Addr} (I : Inv X pins σ H s) (h : H a = some (.dT [])) : Inv X pins σ (upd H a (.dK [])) s := by
  obtain ⟨h1, h2, _⟩ := empties I (.inr (.inl h))
  have w := h2
  obtain ⟨o, es, ep, g1, _⟩ := w
  have := d_write (t' := s.toks) (h' := s.heap) (ob := .dK []) I (by rw [h]; exact True.intro) (⟨rfl, fun _ _ => rfl⟩) ⟨o, g1⟩ ⟨Nat.zero_le _, h1, [], .nil, h2⟩
  exact this
theorem set_own (hu : X.A.units + 70 < cLine) : PSet X (rSetX X.K) := by
  intro pins s σ' H o y v ov iv u Q I ro ri rv ⟨S, σ, e, i, d, yd, vd, d', ok, ⟨a, eo, he, hs⟩, ry, rd, q, k⟩
  subst eo
  obtain ⟨b, q1, q2, q3⟩ := ok.own i d he
  rw [hs] at q1; cases q1
  have hu1 : X.A.units + 1 < cLine := by omega
  cases d with
  | list ds =>
    cases yd with
    | int n =>
      unfold setD at q
      simp only at q
      split at q
      · rename_i j hj
        cases q
        obtain ⟨xs, hH, r⟩ := q3
        have yy := ry.int
        subst yy
        have w := ok.write (ob := .lst (xs.set j v)) (d' := .list (ds.set j vd)) he hs fun up => ⟨_, upd_same, (r.up up).set (rd.up up) j⟩
        exact set_list pins s σ' H _ _ _ ov iv u Q I ro ri rv ⟨a, xs, n, j, rfl, rfl, hH, by rw [r.length]; exact hj, k _ w.1 w.2⟩
      · cases q
    | _ => cases q
  | dict kvs =>
    obtain ⟨⟨hk, hl⟩, rfl⟩ := ite_some q
    obtain ⟨kk0, kf⟩ := okKey_kind hk
    cases (show ov = Value.ref a from ro)
    rcases keyKind_cases kk0 with ⟨key, ek⟩ | ⟨ks, ek⟩
    · have ey : y = kV key := by
        subst ek
        cases key with
        | inl n => exact ry.int
        | inr n => exact ry.str
      have go : ∀ (H2 : Hp) (kk : List (Key × V)), upd H2 a (.dK (putK kk key v)) = upd H a (.dK (putK kk key v)) → H2 a = some (.dK kk) → RepKs X.K H S kk kvs → Inv X pins σ' H2 s → wpAny (model X.prog X.w) X.A (setItem (.ref a) iv u) (fun _ s' => ∃ H', Inv X pins σ' H' s' ∧ Q H') X.xe s := by
        intro H2 kk e2 h2 r I2
        have w := ok.write (ob := .dK (putK kk key v)) (d' := .dict (dPut kvs yd vd)) he hs fun up => .inl ⟨_, upd_same, by rw [ek]; exact repKs_put key (rd.up up) (r.up up)⟩
        refine d_setItem hu1 I2 (.inl ⟨kk, key, h2, ey, by rw [repKs_len r, lim_eq]; exact hl, e2.symm⟩) ri rv fun s' I' => ⟨_, I', k _ w.1 w.2⟩
      rcases q3 with ⟨kk, hH, r⟩ | ⟨kk, hH, r⟩
      · exact go H kk rfl hH r I
      · have : kvs = [] := by
          cases kvs with
          | nil => rfl
          | cons p t =>
            have h1 := kf p _ rfl
            have h2 := repTs_kind r p List.mem_cons_self
            rw [ek, keyKind_D, h2] at h1
            cases h1
        subst this
        cases r
        exact go (upd H a (.dK [])) [] upd_upd upd_same .nil (retagK I hH)
    · have ey : ∃ b, y = .ref b ∧ H b = some (.tup (ks.map kV)) := by
        subst ek
        obtain ⟨b, xs, rfl, hb, hr⟩ := ry.tup
        refine ⟨b, rfl, ?_⟩
        have all : ∀ {xs : List V} {ks : List Key}, RepAll X.K H S xs (ks.map keyD) → xs = ks.map kV := by
          intro xs ks
          induction ks generalizing xs with
          | nil => intro q; cases q; rfl
          | cons k ks ih =>
            intro q
            cases q with
            | cons q1 q2 =>
              rw [List.map_cons, ← ih q2]
              cases k with
              | inl i => cases q1; rfl
              | inr x => cases q1; rfl
        rw [← all hr]; exact hb
      obtain ⟨b, ey, hb⟩ := ey
      have nb : b ≠ a := fun z => by subst z; exact (Own.notTup q3 _ hb).elim
      have go : ∀ (H2 : Hp) (kk : List (List Key × V)), upd H2 a (.dT (putK kk ks v)) = upd H a (.dT (putK kk ks v)) → H2 a = some (.dT kk) → H2 b = some (.tup (ks.map kV)) → RepTs X.K H S kk kvs → Inv X pins σ' H2 s → wpAny (model X.prog X.w) X.A (setItem (.ref a) iv u) (fun _ s' => ∃ H', Inv X pins σ' H' s' ∧ Q H') X.xe s := by
        intro H2 kk e2 h2 hb2 r I2
        have w := ok.write (ob := .dT (putK kk ks v)) (d' := .dict (dPut kvs yd vd)) he hs fun up => .inr ⟨_, upd_same, by rw [ek]; exact repTs_put ks (rd.up up) (r.up up)⟩
        refine d_setItem hu1 I2 (.inr ⟨kk, ks, b, h2, ey, hb2, by rw [repTs_len r, lim_eq]; exact hl, e2.symm⟩) ri rv fun s' I' => ⟨_, I', k _ w.1 w.2⟩
      rcases q3 with ⟨kk, hH, r⟩ | ⟨kk, hH, r⟩
      · have : kvs = [] := by
          cases kvs with
          | nil => rfl
          | cons p t =>
            have h1 := kf p _ rfl
            have h2 := repKs_kind r p List.mem_cons_self
            rw [ek, keyKind_T, h2] at h1
            cases h1
        subst this
        cases r
        exact go (upd H a (.dT [])) [] upd_upd upd_same (by rw [upd_ne nb]; exact hb) .nil (retagT I hH)
      · exact go H kk rfl hH hb r I
  | _ => cases q
end
/-- x[k] = v -/
def sPut (n : Nat) (ck cx : CV) : CS := fun e => match cx e with
  | none => none
  | some (vd, e1) => match peekOwn e1 n with
    | none => none
    | some _ => match ck e1 with
      | none => none
      | some (kd, e2) => match peekOwn e2 n with
        | none => none
        | some d => match setD d kd vd with
          | some d' => some (.nx (e2.set n (.own d')))
          | none => none
section
variable {X : Cx} {o ix ex : Expr} {pos pos' : Pos} {ios : List Nat} {n : Nat} {ck cx : C}
theorem fs_put (hu : X.A.units + 70 < cLine) (ho : PE X o (tVar n)) (hi : PE X ix (tF X.K ck)) (hx : PE X ex (tF X.K cx))
    (ha : ∀ v, assign (.Subscript o ix pos') X.env v = (do
      let ov ← holding [v] (eval o X.env)
      let iv ← holding [v, ov] (eval ix X.env)
      standAt pos'
      holding [v, ov, iv] (setItem ov iv v)
      release [v, ov, iv] []) := by intro _; rfl)
    (hs : swapsWithSole [.Subscript o ix pos'] ex pos.line X.env = pure false := by rfl) (hw : swappedStores [.Subscript o ix pos'] ex X.env = pure none := by rfl)
    (h1 : (assignEach [.Subscript o ix pos'] X.env).map (·.2) = [assign (.Subscript o ix pos') X.env] := by rfl) :
    PS X (.Assign [.Subscript o ix pos'] ex pos) (tS X.K ios (sPut n (frz ck) (frz cx))) :=
  psMono (ps_asg (fe_frz hx) (pg_sub ho (fe_frz hi) (set_own hu) ha) hs hw h1) fun D σ H ⟨G, S, e, out, hio, ok, q, k⟩ => by
    unfold sPut at q
    split at q
    · cases q
    · rename_i vd e1 hq
      split at q
      · cases q
      · rename_i d0 hp
        split at q
        · cases q
        · rename_i kd e2 hk
          split at q
          · cases q
          · rename_i d hp2
            split at q
            · rename_i d' hd
              cases q
              refine ⟨S, e, vd, e1, ok.ok, hq, fun v H1 S1 ok1 s1 r1 => ?_⟩
              obtain ⟨a, h1, _, _⟩ := ok1.own n d0 (peekOwn_some hp)
              refine ⟨_, h1, S1, e1, kd, e2, ok1, hk, fun y H2 S2 ok2 s2 r2 => ?_⟩
              refine ⟨S2, σ, e2, n, d, kd, vd, d', ok2, ⟨a, rfl, peekOwn_some hp2, h1⟩, .inl r2, r1.up s2.up, hd, fun H3 ok3 s3 => ?_⟩
              have st := (s1.trans ok.ok s2).trans ok.ok s3
              exact k σ H3 S2 (ok.step st ok3) st.up
            · cases q
end

/-! ### methods of an own container -/
abbrev FM := PyData → List PyData → Option (Sl × PyData)
def rMt (K : PySem.W.Frag) (g : FM) : V → List V → Hp → VK → Prop := fun x xs H Q => ∃ S σ e i d ds r d', Ok K S σ H e ∧ OwnX σ e i x d ∧ RepAll K H S xs ds ∧ g d ds = some (r, d') ∧
  ∀ v H' S', Ok K S' σ H' (e.set i (.own d')) → Step σ S H e S' H' (e.set i (.own d')) → Res K S' H' H v r → Q v H'
def isLst : PyData → Bool
  | .list _ => true
  | _ => false
theorem OwnX.lst {K : PySem.W.Frag} {S : Rg} {H : Hp} {σ : St} {e : Ev} {i : Nat} {x : V} {ds : List PyData} (ok : Ok K S σ H e) (o : OwnX σ e i x (.list ds)) : ∃ a xs, x = .ref a ∧ σ[i]? = some (some (.ref a)) ∧ e[i]? = some (.own (.list ds)) ∧ H a = some (.lst xs) ∧ RepAll K H S xs ds := by
  obtain ⟨a, rfl, h1, h2⟩ := o
  obtain ⟨b, q1, q2, xs, q3, q4⟩ := ok.own i _ h1
  rw [h2] at q1; cases q1
  exact ⟨a, xs, rfl, h2, h1, q3, q4⟩
section
variable {X : Cx} {o ex : Expr} {es : List Expr} {apos cpos : Pos} {n : Nat} {cs : List CV} {name : Str} {id : String} {g : FM}
def tyNm (lst : Bool) : String := if lst then "list" else "dict"
theorem tyV_own {K : PySem.W.Frag} {H : Hp} {a : Addr} {S : Rg} {d : PyData} {lst : Bool} (o : Own K H S a d) (h : isLst d = lst) : tyV K (tyNm lst) (.ref a) H := by
  cases d with
  | list ds =>
    subst h
    obtain ⟨xs, q, _⟩ := o
    exact .inl ⟨rfl, xs, .of q⟩
  | dict kvs =>
    subst h
    exact .inr (.inr (.inl ⟨rfl, o.imp (fun ⟨k, q, _⟩ => ⟨k, q⟩) fun ⟨k, q, _⟩ => ⟨k, q⟩⟩))
  | _ => exact o.elim
def cMt (lst : Bool) (n : Nat) (g : FM) (cs : List CV) : C := fun e => match peekOwn e n with
  | none => none
  | some d0 => if isLst d0 = lst then match cvs cs e with
    | none => none
    | some (ds, e') => match peekOwn e' n with
      | none => none
      | some d => match g d ds with
        | some (r, d') => some (r, e'.set n (.own d'))
        | none => none
    else none
theorem mt_run {K : PySem.W.Frag} {lst : Bool} {σ : St} {H : Hp} {Q : VK} (q : tF K (cMt lst n g cs) σ H Q) : tBM K (tyNm lst) (rMt K g) (tVar n) (tVs K cs) σ H Q := by
  obtain ⟨S, e, r, e', ok, q, k⟩ := q
  unfold cMt at q
  split at q
  · cases q
  · rename_i d0 hp
    split at q
    · rename_i ht
      split at q
      · cases q
      · rename_i ds e1 hc
        split at q
        · cases q
        · rename_i d hp2
          split at q
          · rename_i r0 d' hg
            cases q
            obtain ⟨a, h1, h2, h3⟩ := ok.own n d0 (peekOwn_some hp)
            refine ⟨_, h1, tyV_own h3 ht, runsV cs ok hc fun vs H1 S1 ok1 s1 rs => ?_⟩
            refine ⟨S1, σ, e1, n, d, ds, _, d', ok1, ⟨a, rfl, peekOwn_some hp2, h1⟩, rs, hg, fun v H' S' ok' st z => k v H' S' ok' (s1.trans ok st) (z.lift s1)⟩
          · cases q
    · cases q
theorem mt_run0 {K : PySem.W.Frag} {lst : Bool} {σ : St} {H : Hp} {Q : VK} (q : tF K (cMt lst n g []) σ H Q) : tBM0 K (tyNm lst) (rMt K g) (tVar n) σ H Q := by
  have w := mt_run (cs := []) q
  obtain ⟨x, h1, h2, h3⟩ := w
  exact ⟨x, h1, h2, h3⟩
theorem fe_mt {lst : Bool} (pa : PlainAttrs (tyNm lst)) (slot : Slot (tyNm lst) name id) (hty : typeOf (.builtin id) = pure (.type "method_descriptor")) (hm : MtR X id (rMt X.K g)) (ho : PE X o (tVar n)) (ha : PVs X (ex :: es) cs)
    (hbase : attributeBase o name X.env (eval o X.env) = eval o X.env := by rfl)
    (hfew : ((backTo cpos (starEach (ex :: es) X.env)).all (fun x => !x.1) && (backToKw cpos (keywordEach [] X.env)).all (fun x => x.1.isSome)
      && decide ((ex :: es).length + ([] : List Keyword).length + (if ([] : List Keyword).isEmpty then 0 else 1) < 30)) = true := by rfl)
    (hline : (apos.endLine == cpos.line) = true := by rfl) (hs : starEach (ex :: es) X.env = (false, eval ex X.env) :: starEach es X.env := by rfl) (hplain : (backTo cpos (starEach es X.env)).any (·.1) = false := by rfl) :
    PE X (.Call (.Attribute o name apos) (ex :: es) [] cpos) (tF X.K (cMt lst n g cs)) :=
  peMono (pe_bm pa slot hty hm ho ha.pa hbase hfew hline hs hplain) fun _ _ _ q => mt_run q
theorem fe_mt0 {lst : Bool} (pa : PlainAttrs (tyNm lst)) (slot : Slot (tyNm lst) name id) (hty : typeOf (.builtin id) = pure (.type "method_descriptor")) (hm : MtR X id (rMt X.K g)) (ho : PE X o (tVar n))
    (hbase : attributeBase o name X.env (eval o X.env) = eval o X.env := by rfl) (hline : (apos.endLine == cpos.line) = true := by rfl) :
    PE X (.Call (.Attribute o name apos) [] [] cpos) (tF X.K (cMt lst n g [])) :=
  peMono (pe_bm0 pa slot hty hm ho hbase hline) fun _ _ _ q => mt_run0 q

def appD : FM
  | .list ds, [d] => if ds.length < 16777216 then some (.val .none, .list (ds ++ [d])) else none
  | _, _ => none
def popD : FM
  | .list ds, [] => match ds[ds.length - 1]? with
    | some d => some (.val d, .list ds.dropLast)
    | none => none
  | _, _ => none
def extD : FM
  | .list ds, [.list es] => if ds.length + es.length ≤ 16777216 then some (.val .none, .list (ds ++ es)) else none
  | _, _ => none
theorem RepAll.dropLast {K : PySem.W.Frag} {H : Hp} {S : Rg} {v : List V} {d : List PyData} (r : RepAll K H S v d) : RepAll K H S v.dropLast d.dropLast := by
  rw [List.dropLast_eq_take, List.dropLast_eq_take, r.length]; exact r.take _
theorem mtOf {X : Cx} {id : String} {g : FM} (h : ∀ (pins : List (Addr × Obj)) (s : Shared) (σ' : St) (S : Rg) (σ : St) (e : Ev) (i : Nat) (H : Hp) (x : V) (xs : List V) (v : Value) (us : List Value) (d : PyData) (ds : List PyData) (r : Sl) (d' : PyData) (Q : VK), Inv X pins σ' H s → RelV x v → Vals xs us → Ok X.K S σ H e →
    OwnX σ e i x d → RepAll X.K H S xs ds → g d ds = some (r, d') → (∀ v H' S', Ok X.K S' σ H' (e.set i (.own d')) → Step σ S H e S' H' (e.set i (.own d')) → Res X.K S' H' H v r → Q v H') →
    wpAny (model X.prog X.w) X.A (call (.builtin id) (v :: us)) (EP X pins σ' Q) X.xe s) : MtR X id (rMt X.K g) := by
  intro pins s σ' H x xs v us Q I rx rs ⟨S, σ, e, i, d, ds, r, d', ok, o, ra, q, k⟩
  exact h pins s σ' S σ e i H x xs v us d ds r d' Q I rx rs ok o ra q k
theorem m_append : MtR X "list.append" (rMt X.K appD) := mtOf fun pins s σ' S σ e i H x xs v us d ds r d' Q I rx rs ok o ra q k => by
  unfold appD at q
  split at q
  · obtain ⟨hz, eq⟩ := ite_some q
    cases eq
    obtain ⟨a, ys, rfl, h1, h2, h3, h4⟩ := o.lst ok
    cases ra with
    | cons rd t =>
      cases t
      rename_i ds d y
      have w := ok.write (ob := .lst (ys ++ [y])) (d' := .list (ds ++ [d])) h2 h1 fun up => ⟨_, upd_same, (h4.up up).append (.cons (rd.up up) .nil)⟩
      exact mt_append pins s σ' H _ _ v us Q I rx rs ⟨a, ys, y, rfl, rfl, h3, by rw [h4.length, lim_eq]; exact hz, k _ _ S w.1 w.2 .non⟩
  · cases q
theorem m_pop : MtR X "list.pop" (rMt X.K popD) := mtOf fun pins s σ' S σ e i H x xs v us d ds r d' Q I rx rs ok o ra q k => by
  unfold popD at q
  split at q
  · split at q
    · rename_i d hd
      cases q
      obtain ⟨a, ys, rfl, h1, h2, h3, h4⟩ := o.lst ok
      cases ra
      obtain ⟨y, hy, ry⟩ := h4.get hd
      have w := ok.write (ob := .lst ys.dropLast) (d' := .list (List.dropLast _)) h2 h1 fun up => ⟨_, upd_same, (h4.up up).dropLast⟩
      exact mt_pop pins s σ' H _ _ v us Q I rx rs ⟨a, ys, y, rfl, rfl, h3, by rw [h4.length]; exact hy, k _ _ S w.1 w.2 (ry.up w.2.up)⟩
    · cases q
  · cases q
theorem m_extend : MtR X "list.extend" (rMt X.K extD) := mtOf fun pins s σ' S σ e i H x xs v us d ds r d' Q I rx rs ok o ra q k => by
  unfold extD at q
  split at q
  · obtain ⟨hz, eq⟩ := ite_some q
    cases eq
    obtain ⟨a, ys, rfl, h1, h2, h3, h4⟩ := o.lst ok
    cases ra with
    | cons rd t =>
      cases t
      cases rd with
      | lst hb rb =>
        rename_i ds es b zs
        have w := ok.write (ob := .lst (ys ++ zs)) (d' := .list (ds ++ es)) h2 h1 fun up => ⟨_, upd_same, (h4.up up).append (rb.up up)⟩
        exact mt_extend pins s σ' H _ _ v us Q I rx rs ⟨a, b, ys, zs, rfl, rfl, h3, hb.2, by rw [h4.length, rb.length, lim_eq]; exact hz, k _ _ S w.1 w.2 .non⟩
  · cases q
end
end FL

set_option Elab.async false
set_option linter.all false
set_option maxRecDepth 100000
set_option maxHeartbeats 4000000
namespace FL
open PySem PySem.Spec PyProof.Rows L2

/-! ### results side by side -/
/-- values that are results, no two of them one own thing -/
inductive ResAll (K : PySem.W.Frag) (S' : Rg) (H' H : Hp) : List V → List Sl → Prop
  | nil : ResAll K S' H' H [] []
  | cons {v : V} {r : Sl} {vs : List V} {rs : List Sl} : Res K S' H' H v r → (∀ a d, v = .ref a → r = .own d → ∀ (j : Nat) (d' : PyData), rs[j]? = some (.own d') → vs[j]? ≠ some (.ref a)) → ResAll K S' H' H vs rs → ResAll K S' H' H (v :: vs) (r :: rs)
def crs : List C → Ev → Option (List Sl × Ev)
  | [], e => some ([], e)
  | c :: r, e => match c e with
    | none => none
    | some (d, e1) => match crs r e1 with
      | none => none
      | some (ds, e') => some (d :: ds, e')
def tRs (K : PySem.W.Frag) : List C → TA
  | [] => tNil
  | c :: r => tCons (tF K c) (tRs K r)
section
variable {K : PySem.W.Frag} {σ : St} {S S1 S' : Rg} {H H1 H' : Hp} {e e1 e' : Ev}
theorem Own.stay {a : Addr} {d : PyData} (ok : Ok K S1 σ H1 e1) (hn : H a = none) (nS : ¬ S1 a) (o : Own K H1 S1 a d) (st0 : Step σ S H e S1 H1 e1) (ok0 : Ok K S σ H e) (s : Step σ S1 H1 e1 S' H' e') : ¬ S' a ∧ Own K H' S' a d := by
  have no : ¬ OwnAt σ e1 a := fun z => (ok0.notS (st0.own a z)).2 hn
  have hk : H' a = H1 a := by
    cases z : H1 a with
    | none => exact absurd z o.there
    | some ob => exact s.keep a ob z nS no
  refine ⟨fun z => ?_, o.up s.up hk⟩
  rcases s.new a z with w | w | w
  · exact nS w
  · exact o.there w
  · exact no w
theorem runsR : ∀ (cs : List C) {S : Rg} {H : Hp} {e e' : Ev} {rs : List Sl} {R : List V → Hp → Prop}, Ok K S σ H e → crs cs e = some (rs, e') →
    (∀ vs H' S', Ok K S' σ H' e' → Step σ S H e S' H' e' → ResAll K S' H' H vs rs → R vs H') → tRs K cs σ H R
  | [], S, H, e, e', ds, R, h, q, k => by
    cases q
    exact k [] H S h .refl .nil
  | c :: r, S, H, e, e', ds, R, h, q, k => by
    unfold crs at q
    cases p1 : c e with
    | none => rw [p1] at q; cases q
    | some z =>
      obtain ⟨d, e1⟩ := z
      rw [p1] at q
      cases p2 : crs r e1 with
      | none => simp only [p2] at q; cases q
      | some z =>
        obtain ⟨ds', e2⟩ := z
        simp only [p2] at q
        cases q
        refine ⟨S, e, d, e1, h, p1, fun v H1 S1 h1 s1 r1 => runsR r h1 p2 fun vs H' S' h' s rs => k _ _ _ h' (s1.trans h s) ?_⟩
        have lift : ∀ {vs : List V} {ds : List Sl}, ResAll K S' H' H1 vs ds → ResAll K S' H' H vs ds ∧ (∀ a, H1 a ≠ none → ∀ (j : Nat) (d' : PyData), ds[j]? = some (.own d') → vs[j]? ≠ some (.ref a)) := by
          intro vs ds z
          induction z with
          | nil => exact ⟨.nil, fun a _ j d' q => by simp at q⟩
          | cons q f t ih =>
            refine ⟨.cons (q.lift s1) f ih.1, fun a ha j d' hj hv => ?_⟩
            cases j with
            | zero =>
              simp at hj hv
              subst hj hv
              obtain ⟨b, e3, n, _⟩ := q
              cases e3
              exact ha n
            | succ j => exact ih.2 a ha j d' (by simpa using hj) (by simpa using hv)
        obtain ⟨l1, l2⟩ := lift rs
        cases d with
        | un => exact r1.elim
        | val d => exact .cons (Rep.up s.up r1) (fun a d' _ w => nomatch w) l1
        | own d =>
          obtain ⟨a, rfl, n, nS, o⟩ := r1
          obtain ⟨w1, w2⟩ := o.stay h1 n nS s1 h s
          exact .cons ⟨a, rfl, n, w1, w2⟩ (fun b d' eb _ => by cases eb; exact l2 a o.there) l1
end
inductive PRs (X : Cx) : List Expr → List C → Prop
  | nil : PRs X [] []
  | cons {e : Expr} {es : List Expr} {o : C} {os : List C} : PE X e (tF X.K o) → PRs X es os → (starEach (e :: es) X.env = (false, eval e X.env) :: starEach es X.env) → PRs X (e :: es) (o :: os)
theorem PRs.pa {X : Cx} : ∀ {es : List Expr} {os : List C}, PRs X es os → PA X es (tRs X.K os)
  | _, _, .nil => pa_nil
  | _, _, .cons h r s => pa_cons h (PRs.pa r) s
theorem fr_nil {X : Cx} : PRs X [] [] := .nil
theorem fr_cons {X : Cx} {e : Expr} {es : List Expr} {c : C} {os : List C} (h : PE X e (tF X.K c)) (r : PRs X es os) (s : starEach (e :: es) X.env = (false, eval e X.env) :: starEach es X.env := by rfl) : PRs X (e :: es) (c :: os) := .cons h r s
def sets : Ev → List Nat → List Sl → Ev
  | e, i :: is, r :: rs => sets (e.set i r) is rs
  | e, _, _ => e
/-- i, j, .. = x, y, .. -/
def sPar (is : List Nat) (cs : List C) : CS := fun e => match crs cs e with
  | some (rs, e') => if (is.all fun i => decide (i < e'.length)) = true then some (.nx (sets e' is rs)) else none
  | none => none
def setsV : St → List Nat → List V → St
  | σ, i :: is, v :: vs => setsV (σ.set i (some v)) is vs
  | σ, _, _ => σ
theorem OwnAt.setV {σ : St} {e : Ev} {i : Nat} {v : V} {r : Sl} {b : Addr} (h : OwnAt (σ.set i (some v)) (e.set i r) b) : OwnAt σ e b ∨ ∃ d, v = .ref b ∧ r = .own d := by
  obtain ⟨j, x, p, q⟩ := h
  rcases setE p with ⟨z, w⟩ | ⟨z, w⟩
  · subst z
    by_cases hj : j < σ.length
    · rw [List.getElem?_set_self hj] at q
      cases q
      exact .inr ⟨x, rfl, w⟩
    · rw [List.getElem?_eq_none (by simpa using hj)] at q; cases q
  · rw [List.getElem?_set_ne (Ne.symm z)] at q
    exact .inl ⟨j, x, w, q⟩
theorem OkS.sets {K : PySem.W.Frag} {G : Gm} {S : Rg} {H : Hp} : ∀ {is : List Nat} {vs : List V} {rs : List Sl} {σ : St} {e : Ev}, OkS K G S σ H e → (∀ i ∈ is, i < e.length) → (∀ i ∈ is, i ∉ G.io.map (·.1)) → ResAll K S H G.H0 vs rs →
    (∀ (j : Nat) (d : PyData) (a : Addr), rs[j]? = some (.own d) → vs[j]? = some (.ref a) → ¬ OwnAt σ e a) → OkS K G S (setsV σ is vs) H (sets e is rs)
  | [], vs, rs, σ, e, h, _, _, _, _ => by
    cases vs <;> cases rs <;> exact h
  | i :: is, _, _, σ, e, h, _, _, .nil, _ => h
  | i :: is, _, _, σ, e, h, hl, hn, .cons (v := v) (r := r) (vs := vs) (rs := rs) q f t, na => by
    show OkS K G S (setsV (σ.set i (some v)) is vs) H (FL.sets (e.set i r) is rs)
    refine OkS.sets (h.set (hl i List.mem_cons_self) (hn i List.mem_cons_self) q fun a d ev er => na 0 d a (by simp [er]) (by simp [ev])) (fun j hj => ?_) (fun j hj => hn j (List.mem_cons_of_mem _ hj)) t fun j d a hj hv z => ?_
    · rw [List.length_set]; exact hl j (List.mem_cons_of_mem _ hj)
    · rcases z.setV with w | ⟨d', ev, er⟩
      · exact na (j + 1) d a (by simpa using hj) (by simpa using hv) w
      · exact f a d' ev er j d hj hv
theorem ResAll.len {K : PySem.W.Frag} {S : Rg} {H H0 : Hp} : ∀ {vs : List V} {rs : List Sl}, ResAll K S H H0 vs rs → vs.length = rs.length
  | _, _, .nil => rfl
  | _, _, .cons _ _ t => congrArg (· + 1) t.len
theorem ResAll.toG {K : PySem.W.Frag} {G : Gm} {S S' : Rg} {H H' : Hp} {σ : St} {e : Ev} (ok : OkS K G S σ H e) : ∀ {vs : List V} {rs : List Sl}, ResAll K S' H' H vs rs → ResAll K S' H' G.H0 vs rs
  | _, _, .nil => .nil
  | _, _, .cons q f t => .cons (ok.res q) f (t.toG ok)
theorem ResAll.own {K : PySem.W.Frag} {S : Rg} {H H0 : Hp} : ∀ {vs : List V} {rs : List Sl}, ResAll K S H H0 vs rs → ∀ (j : Nat) (d : PyData) (a : Addr), rs[j]? = some (.own d) → vs[j]? = some (.ref a) → H0 a = none
  | _, _, .nil, j, d, a, h, _ => by simp at h
  | _, _, .cons q f t, 0, d, a, h, h' => by
    simp at h h'
    subst h h'
    obtain ⟨b, e, n, _⟩ := q
    cases e
    exact n
  | _, _, .cons q f t, j + 1, d, a, h, h' => t.own j d a (by simpa using h) (by simpa using h')
theorem par_run {K : PySem.W.Frag} {is ios : List Nat} {cs : List C} (hn : ∀ i ∈ is, i ∉ ios) {D : Ends} {σ : St} {H : Hp} (q : tS K ios (sPar is cs) D σ H) : tRs K cs σ H fun vs H1 => vs.length = cs.length ∧ D.nx (setsV σ is vs) H1 := by
  obtain ⟨G, S, e, o, hi, ok, q, k⟩ := q
  unfold sPar at q
  split at q
  · rename_i rs e' hc
    split at q
    · rename_i hl
      cases q
      refine runsR cs ok.ok hc fun vs H1 S1 ok1 s1 ra => ?_
      have lens : ∀ (cs : List C) {e e' : Ev} {rs : List Sl}, crs cs e = some (rs, e') → rs.length = cs.length := by
        intro cs
        induction cs with
        | nil => intro e e' rs q; cases q; rfl
        | cons c cs ih =>
          intro e e' rs q
          unfold crs at q
          split at q
          · cases q
          · split at q
            · cases q
            · rename_i h
              cases q
              exact congrArg (· + 1) (ih h)
      refine ⟨by rw [ra.len, lens cs hc], k _ H1 S1 (OkS.sets (ok.step s1 ok1) (fun i hi => ?_) (fun i h => by rw [hi]; exact hn i h) (ra.toG ok) fun j d a hj hv z => ?_) s1.up⟩
      · exact of_decide_eq_true (List.all_eq_true.mp hl i hi)
      · exact (ok.ok.notS (s1.own a z)).2 (ra.own j d a hj hv)
    · cases q
  · cases q
section
variable {X : Cx} {a b c : Expr} {px py pz pt pos : Pos} {kt k2 : Nat} {pt2 : Pos} {i j l : Nat} {x y z : Str} {cs : List C} {ios : List Nat}
theorem fs_par2 {ca cb : C} (hc : X.calm = true) (hN : X.N.Nodup) (hi : X.N[i]? = some x) (hj : X.N[j]? = some y) (hx : X.env.scope.names.lookup x = some .local) (hy : X.env.scope.names.lookup y = some .local) (ha : PRs X [a, b] [ca, cb])
    (hw : swappedStores [.Tuple [.Name x px, .Name y py] kt pt] (.Tuple [a, b] k2 pt2) X.env = pure (some [x, y])) (hij : i ≠ j := by decide) (hn : ∀ n ∈ [i, j], n ∉ ios := by decide)
    (hs : swapsWithSole [.Tuple [.Name x px, .Name y py] kt pt] (.Tuple [a, b] k2 pt2) pos.line X.env = pure false := by rfl) :
    PS X (.Assign [.Tuple [.Name x px, .Name y py] kt pt] (.Tuple [a, b] k2 pt2) pos) (tS X.K ios (sPar [i, j] [ca, cb])) :=
  psMono (ps_par hc hN hi hj hij hx hy ha.pa hw hs) fun D σ H q => by
    obtain ⟨G, S, e, o, g, ok, q, k⟩ := q
    have w := par_run hn ⟨G, S, e, o, g, ok, q, k⟩
    have m : ∀ (cs : List C) (R R' : List V → Hp → Prop) (H : Hp), (∀ vs H, R vs H → R' vs H) → tRs X.K cs σ H R → tRs X.K cs σ H R' := by
      intro cs
      induction cs with
      | nil => intro R R' H f t; exact f _ _ t
      | cons c cs ih =>
        intro R R' H f ⟨S, e, r, e', ok, q, k⟩
        exact ⟨S, e, r, e', ok, q, fun v H' S' o st z => ih _ _ _ (fun vs H2 t => f _ _ t) (k v H' S' o st z)⟩
    refine m [ca, cb] _ _ H (fun vs H1 ⟨h1, h2⟩ => ?_) w
    match vs, h1 with
    | [v, w], _ => exact ⟨v, w, rfl, h2⟩
theorem fs_par3 {ca cb cd : C} (hc : X.calm = true) (hN : X.N.Nodup) (hi : X.N[i]? = some x) (hj : X.N[j]? = some y) (hl : X.N[l]? = some z) (hx : X.env.scope.names.lookup x = some .local) (hy : X.env.scope.names.lookup y = some .local) (hz : X.env.scope.names.lookup z = some .local) (ha : PRs X [a, b, c] [ca, cb, cd])
    (hw : swappedStores [.Tuple [.Name x px, .Name y py, .Name z pz] kt pt] (.Tuple [a, b, c] k2 pt2) X.env = pure (some [x, y, z])) (hij : i ≠ j := by decide) (hil : i ≠ l := by decide) (hjl : j ≠ l := by decide) (hn : ∀ n ∈ [i, j, l], n ∉ ios := by decide)
    (hs : swapsWithSole [.Tuple [.Name x px, .Name y py, .Name z pz] kt pt] (.Tuple [a, b, c] k2 pt2) pos.line X.env = pure false := by rfl) :
    PS X (.Assign [.Tuple [.Name x px, .Name y py, .Name z pz] kt pt] (.Tuple [a, b, c] k2 pt2) pos) (tS X.K ios (sPar [i, j, l] [ca, cb, cd])) :=
  psMono (ps_par3 hc hN hi hj hl hij hil hjl hx hy hz ha.pa hw hs) fun D σ H q => by
    obtain ⟨G, S, e, o, g, ok, q, k⟩ := q
    have w := par_run hn ⟨G, S, e, o, g, ok, q, k⟩
    have m : ∀ (cs : List C) (R R' : List V → Hp → Prop) (H : Hp), (∀ vs H, R vs H → R' vs H) → tRs X.K cs σ H R → tRs X.K cs σ H R' := by
      intro cs
      induction cs with
      | nil => intro R R' H f t; exact f _ _ t
      | cons c cs ih =>
        intro R R' H f ⟨S, e, r, e', ok, q, k⟩
        exact ⟨S, e, r, e', ok, q, fun v H' S' o st z => ih _ _ _ (fun vs H2 t => f _ _ t) (k v H' S' o st z)⟩
    refine m [ca, cb, cd] _ _ H (fun vs H1 ⟨h1, h2⟩ => ?_) w
    match vs, h1 with
    | [v, w, u], _ => exact ⟨v, w, u, rfl, h2⟩
end

/-! ### {k: v, ..} -/
def cprs : List (CV × CV) → Ev → Option (List (PyData × PyData) × Ev)
  | [], e => some ([], e)
  | (a, b) :: r, e => match a e with
    | none => none
    | some (x, e1) => match b e1 with
      | none => none
      | some (y, e2) => match cprs r e2 with
        | none => none
        | some (ps, e') => some ((x, y) :: ps, e')
def cDsp (cs : List (CV × CV)) : C := fun e => match cprs cs e with
  | some (ps, e') => if (ps.all fun p => keyKind p.1 == 1) = true then some (.own (.dict (ps.foldl (fun d p => dPut d p.1 p.2) [])), e') else none
  | none => none
abbrev RepPs (K : PySem.W.Frag) (H : Hp) (S : Rg) : List (V × V) → List (PyData × PyData) → Prop := Paired fun v d => Rep K H S v.1 d.1 ∧ Rep K H S v.2 d.2
theorem runsP {K : PySem.W.Frag} {σ : St} : ∀ (os : List (CV × CV)) {S : Rg} {H : Hp} {e e' : Ev} {ds : List (PyData × PyData)} {R : List (V × V) → Hp → Prop}, Ok K S σ H e → cprs os e = some (ds, e') →
    (∀ vs H' S', Ok K S' σ H' e' → Step σ S H e S' H' e' → RepPs K H' S' vs ds → R vs H') → tPairs (os.map fun p => (tV K p.1, tV K p.2)) σ H R
  | [], S, H, e, e', ds, R, h, q, k => by
    cases q
    exact k [] H S h .refl .nil
  | (a, b) :: r, S, H, e, e', ds, R, h, q, k => by
    unfold cprs at q
    split at q
    · cases q
    · rename_i x e1 p1
      split at q
      · cases q
      · rename_i y e2 p2
        split at q
        · cases q
        · rename_i ps e3 p3
          cases q
          refine ⟨S, e, x, e1, h, p1, fun v H1 S1 h1 s1 r1 => ⟨S1, e1, y, e2, h1, p2, fun w H2 S2 h2 s2 r2 => runsP r h2 p3 fun vs H' S' h' s rs => k _ _ _ h' ((s1.trans h s2).trans h s) (.cons ⟨(r1.up s2.up).up s.up, r2.up s.up⟩ rs)⟩⟩
theorem keysOf {K : PySem.W.Frag} {H : Hp} {S : Rg} : ∀ {vs : List (V × V)} {ds : List (PyData × PyData)}, RepPs K H S vs ds → (ds.all fun p => keyKind p.1 == 1) = true → ∃ kk : List (Key × V), vs = kk.map (fun kv => (kV kv.1, kv.2)) ∧ RepKs K H S kk ds
  | _, _, .nil, _ => ⟨[], rfl, .nil⟩
  | _, _, .cons (a := v) (b := d) r t, h => by
    rw [List.all_cons, Bool.and_eq_true] at h
    obtain ⟨kk, e, q⟩ := keysOf t h.2
    obtain ⟨k, ek⟩ := keyKind_1 (by simpa using h.1)
    obtain ⟨x, y⟩ := v
    obtain ⟨dx, dy⟩ := d
    obtain ⟨r1, r2⟩ := r
    simp only at ek r1 r2
    subst ek
    have ex : x = kV k := by
      cases k with
      | inl i => cases r1; rfl
      | inr z => cases r1; rfl
    exact ⟨(k, y) :: kk, by rw [List.map_cons, e, ex], .cons r2 q⟩
theorem repKs_merge {K : PySem.W.Frag} {H : Hp} {S : Rg} : ∀ {kk : List (Key × V)} {ds : List (PyData × PyData)} {k0 : List (Key × V)} {d0 : List (PyData × PyData)}, RepKs K H S kk ds → RepKs K H S k0 d0 → RepKs K H S (mergeK k0 kk) (ds.foldl (fun d p => dPut d p.1 p.2) d0)
  | _, _, _, _, .nil, h => h
  | _, _, _, _, .cons (k := k) r t, h => by
    have w := repKs_merge t (repKs_put k r h)
    exact w
inductive PDs (X : Cx) (pos : Pos) : List (Option Expr) → List Expr → List (CV × CV) → Prop
  | nil : PDs X pos [] [] []
  | cons {k v : Expr} {ks : List (Option Expr)} {vs : List Expr} {ck cv : CV} {cs : List (CV × CV)} : PE X k (tV X.K ck) → PE X v (tV X.K cv) → PDs X pos ks vs cs → PDs X pos (some k :: ks) (v :: vs) ((ck, cv) :: cs)
theorem PDs.pps {X : Cx} {pos : Pos} : ∀ {ks : List (Option Expr)} {vs : List Expr} {cs : List (CV × CV)}, PDs X pos ks vs cs → PPs X pos ks vs (cs.map fun p => (tV X.K p.1, tV X.K p.2))
  | _, _, _, .nil => pps_nil
  | _, _, _, .cons h h' t => pps_cons h h' t.pps
theorem fd_nil {X : Cx} {pos : Pos} : PDs X pos [] [] [] := .nil
theorem fd_cons {X : Cx} {pos : Pos} {k v : Expr} {ks : List (Option Expr)} {vs : List Expr} {ck cv : C} {cs : List (CV × CV)} (h : PE X k (tF X.K ck)) (h' : PE X v (tF X.K cv)) (t : PDs X pos ks vs cs) : PDs X pos (some k :: ks) (v :: vs) ((frz ck, frz cv) :: cs) := .cons (fe_frz h) (fe_frz h') t
theorem cprs_len : ∀ (os : List (CV × CV)) {e e' : Ev} {ds : List (PyData × PyData)}, cprs os e = some (ds, e') → ds.length = os.length
  | [], e, e', ds, q => by cases q; rfl
  | (a, b) :: r, e, e', ds, q => by
    unfold cprs at q
    split at q
    · cases q
    · split at q
      · cases q
      · split at q
        · cases q
        · rename_i p
          cases q
          exact congrArg (· + 1) (cprs_len r p)
theorem PDs.len {X : Cx} {pos : Pos} : ∀ {ks : List (Option Expr)} {vs : List Expr} {cs : List (CV × CV)}, PDs X pos ks vs cs → cs.length = ks.length
  | _, _, _, .nil => rfl
  | _, _, _, .cons _ _ t => congrArg (· + 1) t.len
theorem fe_dsp {X : Cx} {pos : Pos} {ks : List (Option Expr)} {vs : List Expr} {cs : List (CV × CV)} (h : PDs X pos ks vs cs) (hall : ks.all (·.isSome) = true := by rfl) (hl : ks.length = vs.length := by rfl) (h0 : ks ≠ [] := by exact fun z => nomatch z) (h15 : ks.length ≤ 15 := by decide) :
    PE X (.Dict ks vs pos) (tF X.K (cDsp cs)) := peMono (pe_disp h.pps hall hl h0 h15) fun σ H Q ⟨S, e, r, e', ok, q, k⟩ => by
  unfold cDsp at q
  split at q
  · rename_i ps e2 hq
    split at q
    · rename_i hk
      cases q
      intro p hp
      obtain ⟨ok1, s1⟩ := ok.alloc (o := .dK []) hp
      have np := ok.pS hp
      have no : ¬ OwnAt σ e p := fun z => (ok.notS z).2 hp
      refine runsP cs ok1 hq fun vs2 H2 S2 ok2 s2 rs => ?_
      have h2 : H2 p = some (.dK []) := s2.keep p _ upd_same np no
      have n2 : ¬ S2 p := fun z => by
        rcases s2.new p z with w | w | w
        · exact np w
        · rw [upd_same] at w; cases w
        · exact no w
      have no2 : ¬ OwnAt σ e' p := fun z => no (s2.own p z)
      obtain ⟨kk, ev, rk⟩ := keysOf rs hk
      have hkl : kk.length ≤ 15 := by
        have h3 := cprs_len cs hq
        have h4 := repKs_len rk
        have h5 := h.len
        omega
      refine ⟨h2, kk, ev, hkl, ?_⟩
      have up : Up H2 S2 (upd H2 p (.dK (mergeK [] kk))) S2 := up_at n2 fun xs z => by rw [h2] at z; cases z
      have st := s1.trans ok s2
      refine k _ _ S2 ?_ ?_ ⟨p, rfl, hp, n2, .inl ⟨_, upd_same, (repKs_merge rk .nil).up up⟩⟩
      · refine ⟨ok2.len, fun b sb => ?_, fun i d q => ?_, fun i d q => ?_, ok2.inj⟩
        · rw [upd_ne fun z => n2 (by rw [← z]; exact sb)]; exact ok2.all b sb
        · obtain ⟨v, q1, q2⟩ := ok2.val i d q
          exact ⟨v, q1, q2.up up⟩
        · obtain ⟨b, q1, q2, q3⟩ := ok2.own i d q
          exact ⟨b, q1, q2, q3.up up (upd_ne fun z => no2 (by rw [← z]; exact ⟨i, d, q, q1⟩))⟩
      · exact st.poke hp ok
    · cases q
  · cases q
end FL

set_option Elab.async false
set_option linter.all false
set_option maxRecDepth 100000
set_option maxHeartbeats 4000000
namespace FL
open PySem PySem.Spec PyProof.Rows L2

/-! ### a body becomes a def's data -/
def slotOf (b : Bool) (d : PyData) : Sl := if b then .own d else .val d
def initE : List Bool → List PyData → Ev
  | b :: fl, d :: ds => slotOf b d :: initE fl ds
  | _, _ => []
def initEv (fl : List Bool) (ds : List PyData) (n : Nat) : Ev := initE fl ds ++ List.replicate (n - ds.length) .un
def iosFrom : Nat → List Bool → List Nat
  | _, [] => []
  | n, true :: fl => n :: iosFrom (n + 1) fl
  | n, false :: fl => iosFrom (n + 1) fl
abbrev iosOf (fl : List Bool) : List Nat := iosFrom 0 fl
def outsOf (e : Ev) : List Nat → Option (List PyData)
  | [] => some []
  | i :: is => match peekOwn e i, outsOf e is with
    | some d, some ds => some (d :: ds)
    | _, _ => none
def runB (fl : List Bool) (n : Nat) (body : CS) : FnD := fun ds => if ds.length = fl.length then match body (initEv fl ds n) with
  | some (.rt r e') => match outsOf e' (iosOf fl) with
    | some outs => some (r, outs)
    | none => none
  | some (.nx e') => match outsOf e' (iosOf fl) with
    | some outs => some (.val .none, outs)
    | none => none
  | _ => none else none
def ioPairs : Nat → List Bool → List V → List (Nat × Addr)
  | n, true :: fl, .ref a :: vs => (n, a) :: ioPairs (n + 1) fl vs
  | n, _ :: fl, _ :: vs => ioPairs (n + 1) fl vs
  | _, _, _ => []
section
variable {K : PySem.W.Frag} {H : Hp} {S : Rg}
theorem Args.pairs : ∀ {fl : List Bool} {vs : List V} {ds : List PyData}, Args K H S fl vs ds → ∀ n, (ioPairs n fl vs).map (·.1) = iosFrom n fl ∧ (ioPairs n fl vs).map (·.2) = ioAddrs fl vs
  | _, _, _, .nil, n => ⟨rfl, rfl⟩
  | _, _, _, .val (fl := fl) (v := v) (vs := vs) _ r, n => by
    have h1 : ioPairs n (false :: fl) (v :: vs) = ioPairs (n + 1) fl vs := by rw [ioPairs.eq_2]; intro a z; cases z
    have h2 : ioAddrs (false :: fl) (v :: vs) = ioAddrs fl vs := by rw [ioAddrs.eq_2]; intro a z; cases z
    rw [h1, h2]
    exact r.pairs (n + 1)
  | _, _, _, .own _ _ r, n => ⟨congrArg (n :: ·) (r.pairs (n + 1)).1, congrArg (_ :: ·) (r.pairs (n + 1)).2⟩
theorem Args.val_at : ∀ {fl : List Bool} {vs : List V} {ds : List PyData}, Args K H S fl vs ds → ∀ (i : Nat) (d : PyData), (initE fl ds)[i]? = some (.val d) → ∃ v, vs[i]? = some v ∧ Rep K H S v d
  | _, _, _, .nil, i, d, h => by simp [initE] at h
  | _, _, _, .val q r, 0, d, h => by
    simp [initE, slotOf] at h
    subst h
    exact ⟨_, rfl, q⟩
  | _, _, _, .own _ _ r, 0, d, h => by simp [initE, slotOf] at h
  | _, _, _, .val q r, i + 1, d, h => r.val_at i d (by simpa [initE] using h)
  | _, _, _, .own _ _ r, i + 1, d, h => r.val_at i d (by simpa [initE] using h)
theorem Args.own_at : ∀ {fl : List Bool} {vs : List V} {ds : List PyData}, Args K H S fl vs ds → ∀ (n i : Nat) (d : PyData), (initE fl ds)[i]? = some (.own d) → ∃ a, vs[i]? = some (.ref a) ∧ ¬ S a ∧ Own K H S a d ∧ (n + i, a) ∈ ioPairs n fl vs
  | _, _, _, .nil, n, i, d, h => by simp [initE] at h
  | _, _, _, .val q r, n, 0, d, h => by simp [initE, slotOf] at h
  | _, _, _, .own q q2 r, n, 0, d, h => by
    simp [initE, slotOf] at h
    subst h
    exact ⟨_, rfl, q, q2, List.mem_cons_self⟩
  | _, _, _, .val (fl := fl) (v := v) (vs := vs) q r, n, i + 1, d, h => by
    obtain ⟨a, h1, h2, h3, h4⟩ := r.own_at (n + 1) i d (by simpa [initE] using h)
    have e1 : ioPairs n (false :: fl) (v :: vs) = ioPairs (n + 1) fl vs := by rw [ioPairs.eq_2]; intro a z; cases z
    refine ⟨a, h1, h2, h3, ?_⟩
    rw [e1, show n + (i + 1) = n + 1 + i by omega]
    exact h4
  | _, _, _, .own _ _ r, n, i + 1, d, h => by
    obtain ⟨a, h1, h2, h3, h4⟩ := r.own_at (n + 1) i d (by simpa [initE] using h)
    refine ⟨a, h1, h2, h3, List.mem_cons_of_mem _ ?_⟩
    rw [show n + (i + 1) = n + 1 + i by omega]
    exact h4
theorem Args.io_at : ∀ {fl : List Bool} {vs : List V} {ds : List PyData}, Args K H S fl vs ds → ∀ (n : Nat) (p : Nat × Addr), p ∈ ioPairs n fl vs → n ≤ p.1 ∧ vs[p.1 - n]? = some (.ref p.2) ∧ ¬ S p.2 ∧ H p.2 ≠ none
  | _, _, _, .nil, n, p, h => by simp [ioPairs] at h
  | _, _, _, .val (fl := fl) (v := v) (vs := vs) q r, n, p, h => by
    have e1 : ioPairs n (false :: fl) (v :: vs) = ioPairs (n + 1) fl vs := by rw [ioPairs.eq_2]; intro a z; cases z
    rw [e1] at h
    obtain ⟨h1, h2, h3⟩ := r.io_at (n + 1) p h
    refine ⟨by omega, ?_, h3⟩
    rw [show p.1 - n = p.1 - (n + 1) + 1 by omega]
    simpa using h2
  | _, _, _, .own (a := a) q q2 r, n, p, h => by
    rcases List.mem_cons.mp h with e | h
    · subst e
      exact ⟨Nat.le_refl _, by simp, q, q2.there⟩
    · obtain ⟨h1, h2, h3⟩ := r.io_at (n + 1) p h
      refine ⟨by omega, ?_, h3⟩
      rw [show p.1 - n = p.1 - (n + 1) + 1 by omega]
      simpa using h2
theorem initE_len : ∀ {fl : List Bool} {ds : List PyData}, ds.length = fl.length → (initE fl ds).length = ds.length
  | [], [], _ => rfl
  | [], _ :: _, h => by simp at h
  | _ :: _, [], h => by simp at h
  | b :: fl, d :: ds, h => by
    show (initE fl ds).length + 1 = ds.length + 1
    rw [initE_len (by simpa using h)]
theorem nodup_map {α β : Type} {f : α → β} : ∀ {l : List α}, (l.map f).Nodup → ∀ p ∈ l, ∀ q ∈ l, f p = f q → p = q
  | x :: l, h, p, hp, q, hq, e => by
    rw [List.map_cons, List.nodup_cons] at h
    rcases List.mem_cons.mp hp with z | z <;> rcases List.mem_cons.mp hq with w | w
    · rw [z, w]
    · subst z; exact absurd (List.mem_map.mpr ⟨q, w, e.symm⟩) h.1
    · subst w; exact absurd (List.mem_map.mpr ⟨p, z, e⟩) h.1
    · exact nodup_map h.2 p z q w e
theorem init_get {fl : List Bool} {ds : List PyData} {n i : Nat} {x : Sl} (hx : x ≠ .un) (h : (initEv fl ds n)[i]? = some x) : (initE fl ds)[i]? = some x := by
  unfold initEv at h
  by_cases hi : i < (initE fl ds).length
  · rw [List.getElem?_append_left hi] at h; exact h
  · rw [List.getElem?_append_right (by omega), List.getElem?_replicate] at h
    split at h
    · cases h; exact absurd rfl hx
    · cases h
theorem start_get {N : List Str} {vs : List V} {i : Nat} {v : V} (h : vs[i]? = some v) : (start N vs)[i]? = some (some v) := by
  have hi : i < vs.length := (List.getElem?_eq_some_iff.mp h).1
  unfold L2.start
  rw [List.getElem?_append_left (by simpa using hi), List.getElem?_map, h]
  rfl
theorem start_inv {N : List Str} {vs : List V} {i : Nat} {v : V} (h : (start N vs)[i]? = some (some v)) : vs[i]? = some v := by
  unfold L2.start at h
  by_cases hi : i < vs.length
  · rw [List.getElem?_append_left (by simpa using hi), List.getElem?_map] at h
    cases e : vs[i]? with
    | none => rw [e] at h; cases h
    | some a => rw [e] at h; cases h; rfl
  · rw [List.getElem?_append_right (by simpa using hi), List.getElem?_replicate] at h
    split at h <;> cases h
/-- at the entry -/
theorem okS_start {N : List Str} {fl : List Bool} {vs : List V} {ds : List PyData} (al : ∀ a, S a → H a ≠ none) (ar : Args K H S fl vs ds) (nd : (ioAddrs fl vs).Nodup) : OkS K ⟨H, S, ioPairs 0 fl vs⟩ S (start N vs) H (initEv fl ds N.length) := by
  obtain ⟨l1, l2⟩ := ar.len
  obtain ⟨p1, p2⟩ := ar.pairs 0
  have iop : ∀ (i : Nat) (d : PyData), (initEv fl ds N.length)[i]? = some (.own d) → ∃ a, vs[i]? = some (.ref a) ∧ ¬ S a ∧ Own K H S a d ∧ (i, a) ∈ ioPairs 0 fl vs := fun i d h => by
    obtain ⟨a, h1, h2, h3, h4⟩ := ar.own_at 0 i d (init_get (fun z => nomatch z) h)
    rw [Nat.zero_add] at h4
    exact ⟨a, h1, h2, h3, h4⟩
  refine ⟨⟨?_, al, fun i d q => ?_, fun i d q => ?_, fun i j d d' b p q r s => ?_⟩, fun a o q _ _ => q, .refl, fun a q => q, fun a q => .inl q, fun a ⟨i, d, p, q⟩ => ?_, fun p hp => ?_⟩
  · unfold initEv L2.start
    rw [List.length_append, List.length_append, initE_len l2, List.length_replicate, List.length_replicate, List.length_map, l1, l2]
  · obtain ⟨v, h1, h2⟩ := ar.val_at i d (init_get (fun z => nomatch z) q)
    exact ⟨v, start_get h1, h2⟩
  · obtain ⟨a, h1, h2, h3, _⟩ := iop i d q
    exact ⟨a, start_get h1, h2, h3⟩
  · obtain ⟨a, h1, _, _, h4⟩ := iop i d p
    obtain ⟨a', g1, _, _, g4⟩ := iop j d' q
    have e1 := start_inv r
    have e2 := start_inv s
    rw [h1] at e1; rw [g1] at e2
    cases e1; cases e2
    have := nodup_map (f := fun p : Nat × Addr => p.2) (by rw [p2]; exact nd) _ h4 _ g4 rfl
    exact (Prod.mk.inj this).1
  · obtain ⟨a', h1, _, _, h4⟩ := iop i d p
    have e1 := start_inv q
    rw [h1] at e1
    cases e1
    exact .inr ⟨_, h4, rfl⟩
  · obtain ⟨_, h2, _⟩ := ar.io_at 0 p hp
    exact start_get (by simpa using h2)
theorem outs_at {e : Ev} : ∀ {is : List Nat} {outs : List PyData}, outsOf e is = some outs → Paired (fun i d => e[i]? = some (.own d)) is outs
  | [], outs, h => by cases h; exact .nil
  | i :: is, outs, h => by
    unfold outsOf at h
    split at h
    · rename_i d ds h1 h2
      cases h
      exact .cons (peekOwn_some h1) (outs_at h2)
    · cases h
theorem okS_end {G : Gm} {S' : Rg} {H' : Hp} {σ : St} {e : Ev} {outs : List PyData} (ok : OkS K G S' σ H' e) (ho : outsOf e (G.io.map (·.1)) = some outs) : CallStep (G.io.map (·.2)) G.S0 G.H0 S' H' ∧ Outs K H' S' (G.io.map (·.2)) outs := by
  have each : ∀ {io : List (Nat × Addr)} {outs : List PyData}, (∀ p ∈ io, p ∈ G.io) → Paired (fun i d => e[i]? = some (.own d)) (io.map (·.1)) outs → Outs K H' S' (io.map (·.2)) outs := by
    intro io
    induction io with
    | nil => intro outs _ q; cases q; exact .nil
    | cons p io ih =>
      intro outs hm q
      cases q with
      | cons h t =>
        obtain ⟨a, h1, h2, h3⟩ := ok.ok.own _ _ h
        rw [ok.io p (hm p List.mem_cons_self)] at h1
        cases h1
        exact .cons ⟨h2, h3⟩ (ih (fun q hq => hm q (List.mem_cons_of_mem _ hq)) t)
  have ou := each (fun _ h => h) (outs_at ho)
  have no : ∀ a ∈ G.io.map (·.2), ¬ S' a := by
    have f : ∀ {as : List Addr} {outs : List PyData}, Outs K H' S' as outs → ∀ a ∈ as, ¬ S' a := by
      intro as outs q
      induction q with
      | nil => intro a h; simp at h
      | cons h t ih =>
        intro a hm
        rcases List.mem_cons.mp hm with z | z
        · subst z; exact h.1
        · exact ih a z
    exact f ou
  refine ⟨⟨ok.up, fun a h => ?_, fun a o h n m => ok.keep a o h n fun p hp z => m (by rw [← z]; exact List.mem_map.mpr ⟨p, hp, rfl⟩), ok.mono, ok.ok.all⟩, ou⟩
  rcases ok.new a h with z | z | ⟨p, hp, z⟩
  · exact .inl z
  · exact .inr z
  · exact absurd h (no a (by rw [← z]; exact List.mem_map.mpr ⟨p, hp, rfl⟩))
theorem runB_run {N : List Str} {fl : List Bool} {body : CS} {vs : List V} {Q : VK} {E : XK} (h : spF K fl (runB fl N.length body) vs H Q E) {bk ct : St → Hp → Prop} : tS K (iosOf fl) body ⟨fun _ H' => Q .non H', Q, bk, ct⟩ (start N vs) H := by
  obtain ⟨S, ds, r, outs, al, ar, nd, hF, k⟩ := h
  obtain ⟨p1, p2⟩ := ar.pairs 0
  have ok := okS_start (N := N) al ar nd
  unfold runB at hF
  split at hF
  · split at hF
    · rename_i r0 e' hb
      split at hF
      · rename_i outs0 ho
        cases hF
        refine ⟨_, S, _, _, p1, ok, hb, fun v σ' H' S' ok' q => ?_⟩
        have ho : outsOf e' ((ioPairs 0 fl vs).map (·.1)) = some outs := by rw [p1]; exact ho
        obtain ⟨c1, c2⟩ := okS_end ok' ho
        have c1 : CallStep ((ioPairs 0 fl vs).map (·.2)) S H S' H' := c1
        have c2 : Outs K H' S' ((ioPairs 0 fl vs).map (·.2)) outs := c2
        rw [p2] at c1 c2
        exact k v H' S' c1 q c2
      · cases hF
    · rename_i e' hb
      split at hF
      · rename_i outs0 ho
        cases hF
        refine ⟨_, S, _, _, p1, ok, hb, fun σ' H' S' ok' q => ?_⟩
        have ho : outsOf e' ((ioPairs 0 fl vs).map (·.1)) = some outs := by rw [p1]; exact ho
        obtain ⟨c1, c2⟩ := okS_end ok' ho
        have c1 : CallStep ((ioPairs 0 fl vs).map (·.2)) S H S' H' := c1
        have c2 : Outs K H' S' ((ioPairs 0 fl vs).map (·.2)) outs := c2
        rw [p2] at c1 c2
        exact k .non H' S' c1 .non c2
      · cases hF
    · cases hF
  · cases hF
end
section
variable {P : Program} {w : World} {K : PySem.W.Frag} {mg : Str → Option Value} {base : Heap}
/-- a def's promise from its body -/
theorem fl_ok {x qual : Str} {st : Stmt} {f : Addr} {fd : FuncData} {N ps : List Str} {k : Nat} (F : Fun K x qual st f fd) (sc : FnScope N ps (defScope st)) (fl : List Bool) {body : CS} (hl : fl.length = ps.length)
    (hb : ∀ (cdv : Value) (A : Around) (outer : List Env) (s : Shared) (H : Hp) (E : XK), Room k (A.deeper (envOfC qual (defScope st) s.heap.objs.size f cdv)) → PSs (cxOf CX0 P w K mg base N qual (defScope st) f cdv A outer s H E).nox (defBody st) (tS K (iosOf fl) body)) :
    FnOk P w K mg base CX0 (k + 1) f fd ps (spF K fl (runB fl N.length body)) := by
  refine F.ok sc (fun vs H Q E h => ?_) fun cdv A outer s H vs Q E hr h => ⟨_, hb cdv A outer s H E hr, runB_run h⟩
  obtain ⟨S, ds, r, outs, al, ar, _⟩ := h
  rw [ar.len.1, hl]
/-- a stronger def is one of a weaker promise -/
theorem spF_weak {fl : List Bool} {F F' : FnD} (h : ∀ ds r, F' ds = some r → F ds = some r) {vs : List V} {H : Hp} {Q : VK} {E : XK} (q : spF K fl F' vs H Q E) : spF K fl F vs H Q E := by
  obtain ⟨S, ds, r, outs, al, ar, nd, hF, k⟩ := q
  exact ⟨S, ds, r, outs, al, ar, nd, h _ _ hF, k⟩
theorem spF_none {k : Nat} {f : Addr} {fd : FuncData} {ps : List Str} {fl : List Bool} (hl : fl.length = ps.length) : FnOk P w K mg base CX0 k f fd ps (spF K fl fun _ => none) := ⟨fun vs H Q E ⟨S, ds, r, outs, al, ar, _⟩ => by rw [ar.len.1, hl], fun A outer s H args us vs Q E hr he hb hv ⟨S, ds, r, outs, al, ar, nd, hF, k⟩ => by cases hF⟩
end
theorem hu_r {A : Around} {k : Nat} (hr : Room k A) : A.units + 70 < cLine := by have := hr.un; omega
end FL

set_option Elab.async false
set_option linter.all false
set_option maxRecDepth 100000
set_option maxHeartbeats 4000000
namespace FL
open PySem PySem.Spec PyProof.Rows L2

def gNames : List Nat → TGs
  | [] => gNil
  | i :: is => gCons (gName i) (gNames is)
section
variable {X : Cx} {ex : Expr} {es ns : List Expr} {pos pt pt2 : Pos} {kt k2 : Nat} {is ios : List Nat} {cs : List C} {x : Str}
inductive PNs (X : Cx) : List Expr → List Nat → Prop
  | nil : PNs X [] []
  | cons {e : Expr} {es : List Expr} {i : Nat} {is : List Nat} : PG X e (gName i) → PNs X es is → ((assignEach (e :: es) X.env).map (·.2) = assign e X.env :: (assignEach es X.env).map (·.2)) → PNs X (e :: es) (i :: is)
theorem PNs.gs : ∀ {es : List Expr} {is : List Nat}, PNs X es is → PGs X es (gNames is)
  | _, _, .nil => pgs_nil
  | _, _, .cons h t s => pgs_cons h t.gs s
theorem fn_nil : PNs X [] [] := .nil
theorem fn_cons {e : Expr} {i : Nat} (h : PG X e (gName i)) (t : PNs X es is) (s : (assignEach (e :: es) X.env).map (·.2) = assign e X.env :: (assignEach es X.env).map (·.2) := by rfl) : PNs X (e :: es) (i :: is) := .cons h t s
theorem gNames_run : ∀ {is : List Nat} {vs : List V} {σ : St} {H : Hp} {Q : St → Hp → Prop}, vs.length = is.length → Q (setsV σ is vs) H → gNames is vs σ H Q
  | [], [], _, _, _, _, q => ⟨rfl, q⟩
  | [], _ :: _, _, _, _, h, _ => by simp at h
  | _ :: _, [], _, _, _, h, _ => by simp at h
  | i :: is, v :: vs, σ, H, Q, h, q => ⟨v, vs, rfl, gNames_run (is := is) (by simpa using h) q⟩
theorem ResAll.up {K : PySem.W.Frag} {S : Rg} {H H0 : Hp} {p : Addr} {o : HO} (hp : H p = none) (u : Up H S (upd H p o) S) : ∀ {vs : List V} {rs : List Sl}, ResAll K S H H0 vs rs → ResAll K S (upd H p o) H0 vs rs
  | _, _, .nil => .nil
  | _, _, .cons (r := r) q f t => by
    refine .cons ?_ f (t.up hp u)
    cases r with
    | un => exact q
    | val d => exact Rep.up u q
    | own d =>
      obtain ⟨a, e, n, nS, w⟩ := q
      exact ⟨a, e, n, nS, w.up u (upd_ne fun z => w.there (by rw [z]; exact hp))⟩
theorem fs_parC (hc : X.calm = true) (ha : PRs X es cs) (hg : PNs X ns is) (hl : cs.length = is.length := by rfl) (hz : cs.length ≤ 1000 := by decide) (hn : (assignEach ns X.env).length = is.length := by rfl) (hst : (assignEach ns X.env).findIdx? (·.1) = none := by rfl)
    (hio : ∀ i ∈ is, i ∉ ios := by decide)
    (hs : swapsWithSole [.Tuple ns kt pt] (.Tuple es k2 pt2) pos.line X.env = pure false := by rfl) (hw : swappedStores [.Tuple ns kt pt] (.Tuple es k2 pt2) X.env = pure none := by rfl)
    (h1 : (assignEach [.Tuple ns kt pt] X.env).map (·.2) = [assign (.Tuple ns kt pt) X.env] := by rfl) :
    PS X (.Assign [.Tuple ns kt pt] (.Tuple es k2 pt2) pos) (tS X.K ios (sPar is cs)) :=
  psMono (ps_asg (pe_tup ha.pa) (pg_tup hc hg.gs hn hst) hs hw h1) fun D σ H ⟨G, S, e, o, g, ok, q, k⟩ => by
    unfold sPar at q
    split at q
    · rename_i rs e' hcr
      split at q
      · rename_i hle
        cases q
        refine runsR cs ok.ok hcr fun vs H1 S1 ok1 s1 ra => ?_
        have lens : ∀ (cs : List C) {e e' : Ev} {rs : List Sl}, crs cs e = some (rs, e') → rs.length = cs.length := by
          intro cs
          induction cs with
          | nil => intro e e' rs q; cases q; rfl
          | cons c cs ih =>
            intro e e' rs q
            unfold crs at q
            split at q
            · cases q
            · split at q
              · cases q
              · rename_i h
                cases q
                exact congrArg (· + 1) (ih h)
        have hv : vs.length = cs.length := by rw [ra.len, lens cs hcr]
        refine ⟨by rw [lim_eq]; omega, fun p hp => ?_⟩
        obtain ⟨ok2, s2⟩ := ok1.alloc (o := .tup vs) hp
        have ra2 := ra.up hp s2.up
        refine ⟨p, vs, rfl, .of upd_same, by rw [hv, hl], gNames_run (by rw [hv, hl]) ?_⟩
        have st := s1.trans ok.ok s2
        refine k _ _ S1 (OkS.sets (ok.step st ok2) (fun i hi => of_decide_eq_true (List.all_eq_true.mp hle i hi)) (fun i h => by rw [g]; exact hio i h) (ra2.toG ok) fun j d a hj hv z => ?_) st.up
        exact (ok.ok.notS (s1.own a z)).2 (ra.own j d a hj hv)
      · cases q
    · cases q
end

/-! ### the drawn script -/
def drawD (ns : List Int) (i c s : Int) : PyData := .list [.list (ns.map .int), .int i, .int c, .int s]
def spDraw (K : PySem.W.Frag) : Sp := fun vs H Q _ => ∃ (a : Addr) (ns : List Int), vs = [.ref a] ∧ SqL K H a (ns.map V.int) ∧ ∀ p q, H q = none → H p = none → p ≠ q → Q (.ref p) (upd (upd H q (.lst (ns.map V.int))) p (.lst [.ref q, .int 0, .int 0, .int 17]))
def spLaw (K : PySem.W.Frag) : Sp := fun vs H Q _ => ∃ (a : Addr) (ns : List Int), vs = [.ref a] ∧ SqL K H a (ns.map V.int) ∧ ns.length ≤ 63 ∧ ∀ H', Q (.bl true) H'
section
variable {P : Program} {w : World} {K : PySem.W.Frag} {mg : Str → Option Value} {base : Heap}
theorem okS_draw {H : Hp} {ns : List Int} {a p q : Addr} {n : Nat} (hq : H q = none) (hp : H p = none) (hpq : p ≠ q) (h2 : 2 ≤ n) :
    OkS K ⟨H, fun _ => False, []⟩ (fun b => b = q) ((some (.ref a) :: some (.ref p) :: List.replicate (n - 2) none)) (upd (upd H q (.lst (ns.map V.int))) p (.lst [.ref q, .int 0, .int 0, .int 17])) (.un :: .own (drawD ns 0 0 17) :: List.replicate (n - 2) .un) := by
  have hqq : (upd (upd H q (.lst (ns.map V.int))) p (.lst [.ref q, .int 0, .int 0, .int 17])) q = some (.lst (ns.map V.int)) := by rw [upd_ne hpq.symm, upd_same]
  have ne : ∀ b, H b ≠ none → b ≠ p ∧ b ≠ q := fun b h => ⟨fun z => h (by rw [z]; exact hp), fun z => h (by rw [z]; exact hq)⟩
  have un1 : ∀ (i : Nat) (x : Sl), (Sl.un :: Sl.own (drawD ns 0 0 17) :: List.replicate (n - 2) Sl.un)[i]? = some x → x ≠ .un → i = 1 ∧ x = .own (drawD ns 0 0 17) := fun i x h hx => by
    match i with
    | 0 => simp at h; exact absurd h.symm hx
    | 1 => simp at h; exact ⟨rfl, h.symm⟩
    | i + 2 =>
      simp only [List.getElem?_cons_succ, List.getElem?_replicate] at h
      split at h
      · cases h; exact absurd rfl hx
      · cases h
  refine ⟨⟨by simp, fun b hb => (by subst hb; rw [hqq]; exact fun z => nomatch z), fun i d h => ?_, fun i d h => ?_, fun i j d d' b h1 h2 _ _ => ?_⟩, fun b o h _ _ => ?_, ⟨fun b h => h.elim, fun b u h => h.elim, fun b xs h => ?_, fun b xs h => h.elim⟩, fun b h => ?_, fun b h => ?_, fun b ⟨i, d, h, h'⟩ => ?_, fun p hp => by simp at hp⟩
  · obtain ⟨_, e⟩ := un1 i _ h (fun z => nomatch z); cases e
  · obtain ⟨e1, e⟩ := un1 i _ h (fun z => nomatch z)
    cases e
    subst e1
    exact ⟨p, rfl, hpq, _, upd_same, .cons (.lst ⟨rfl, hqq⟩ (RepAll.ofInts ns)) (.cons (.int 0) (.cons (.int 0) (.cons (.int 17) .nil)))⟩
  · rw [(un1 i _ h1 (fun z => nomatch z)).1, (un1 j _ h2 (fun z => nomatch z)).1]
  · have h : H b = _ := h
    obtain ⟨e1, e2⟩ := ne b (by rw [h]; exact fun z => nomatch z)
    rw [upd_ne e1, upd_ne e2]; exact h
  · have h : H b = _ := h
    obtain ⟨e1, e2⟩ := ne b (by rw [h]; exact fun z => nomatch z)
    rw [upd_ne e1, upd_ne e2]; exact h
  · obtain ⟨e1, e2⟩ := ne b h
    rw [upd_ne e1, upd_ne e2]; exact h
  · subst h; exact .inr (.inl hq)
  · obtain ⟨e1, e⟩ := un1 i _ h (fun z => nomatch z)
    subst e1
    cases h'
    exact .inl hp
/-- _law_draw -/
theorem draw_ok {x qual : Str} {st : Stmt} {f : Addr} {fd : FuncData} {k : Nat} (F : Fun K x qual st f fd) (sc : FnScope ["script"] ["script"] (defScope st)) (ml : mg "list" = none)
    (hb : ∀ (cdv : Value) (A : Around) (outer : List Env) (s : Shared) (H : Hp) (E : XK), PSs (cxOf CX0 P w K mg base ["script"] qual (defScope st) f cdv A outer s H E).nox (defBody st)
      (fun D σ H => tRet (tLst (tCons (tCB (fun xs H Q => ∃ p ys, xs = [.ref p] ∧ (SqL K H p ys ∨ SqT K H p ys) ∧ ∀ l, H l = none → Q (.ref l) (upd H l (.lst ys))) (tCons (tVar 0) tNil)) (tCons (tC (.int 0)) (tCons (tC (.int 0)) (tCons (tC (.int 17)) tNil))))) D σ H)) :
    FnOk P w K mg base CX0 (k + 1) f fd ["script"] (spDraw K) := by
  refine F.ok sc (fun vs H Q E h => ?_) fun cdv A outer s H vs Q E hr h => ⟨_, hb cdv A outer s H E, ?_⟩
  · obtain ⟨a, ns, rfl, _⟩ := h
    rfl
  · obtain ⟨a, ns, rfl, hS, q⟩ := h
    refine ⟨.ref a, rfl, a, _, rfl, .inl hS, fun l hl => ⟨by rw [lim_eq]; exact (by decide : 4 ≤ 16777216), fun p hp => ?_⟩⟩
    have hpl : p ≠ l := fun z => by rw [z, upd_same] at hp; cases hp
    rw [upd_ne hpl] at hp
    exact q p l hl hp hpl
/-- the law itself: its first row draws, the others are data -/
theorem law_ok {x qual : Str} {st : Stmt} {f : Addr} {fd : FuncData} {N : List Str} {k : Nat} (F : Fun K x qual st f fd) (sc : FnScope N ["script"] (defScope st)) (h2 : 2 ≤ N.length) {body : CS}
    (hb : ∀ (cdv : Value) (A : Around) (outer : List Env) (s : Shared) (H : Hp) (E : XK), Room k (A.deeper (envOfC qual (defScope st) s.heap.objs.size f cdv)) → ∃ s0 rest, defBody st = s0 :: rest ∧
      PS (cxOf CX0 P w K mg base N qual (defScope st) f cdv A outer s H E).nox s0 (tAsg (tCall (spDraw K) [] E0 (tCons (tVar 0) tNil)) (gName 1)) ∧ PSs (cxOf CX0 P w K mg base N qual (defScope st) f cdv A outer s H E).nox rest (tS K [] body))
    (hp : ∀ ns : List Int, ns.length ≤ 63 → ∃ e', body (.un :: .own (drawD ns 0 0 17) :: List.replicate (N.length - 2) .un) = some (.rt (.val (.bool true)) e')) :
    FnOk P w K mg base CX0 (k + 1) f fd ["script"] (spLaw K) := by
  refine F.ok sc (fun vs H Q E h => ?_) fun cdv A outer s H vs Q E hr h => ?_
  · obtain ⟨a, ns, rfl, _⟩ := h
    rfl
  · obtain ⟨a, ns, rfl, hS, hl, q⟩ := h
    obtain ⟨s0, rest, e, p1, p2⟩ := hb cdv A outer s H E hr
    rw [e]
    refine ⟨_, pss_cons p1 p2, ?_⟩
    refine ⟨.ref a, rfl, a, ns, rfl, hS, fun p l hl0 hp0 hpl => ?_⟩
    obtain ⟨e', he⟩ := hp ns hl
    have hst : (L2.start N [V.ref a]).set 1 (some (V.ref p)) = some (.ref a) :: some (.ref p) :: List.replicate (N.length - 2) none := by
      unfold L2.start
      obtain ⟨m, hm⟩ : ∃ m, N.length = m + 2 := ⟨N.length - 2, by omega⟩
      rw [hm]
      rfl
    show tS K [] body _ ((L2.start N [V.ref a]).set 1 (some (V.ref p))) _
    rw [hst]
    refine ⟨⟨H, fun _ => False, []⟩, _, _, _, rfl, okS_draw hl0 hp0 hpl h2, he, fun v σ' H' S' ok' rv => ?_⟩
    have rv : Rep K H' S' v (.bool true) := rv
    cases rv
    exact q H'
end
end FL

set_option Elab.async false
set_option linter.all false
set_option maxRecDepth 100000
set_option maxHeartbeats 4000000
namespace FL
open PySem PySem.Spec PyProof.Rows L2

section
variable {X : Cx} {x : Str} {pos : Pos} {c : String} {e : Expr} {t : CB}
theorem pe_ty (hg : Gl X x) (hm : X.mg x = none) (hv : bootBuiltins x = some (.type c)) (hn : x ≠ "__name__" := by decide) (hd : (x == ("__debug__" : Str)) = false := by decide) : PE X (.Name x pos) (tC (.ty c)) := pe_bltn hg hm hv rfl hn hd
theorem ft_bool (h : PW X e (tT X.K t)) : PT X e (tT X.K t) := h.pt
def cDnew : C := fun e => some (.own (.dict []), e)
theorem fe_dnew2 : PE X (.Dict [] [] pos) (tF X.K cDnew) := fe_dnew
def isBD : F2
  | .bool a, .bool b => some (.val (.bool (decide (a = b))))
  | _, _ => none
def notBD : F2
  | .bool a, .bool b => some (.val (.bool (!decide (a = b))))
  | _, _ => none
theorem d_isB : D2 X (compareOp .Is) isBD := opOf fun pins s σ' S σ e H x y v u d1 d2 r Q I rx ry ok r1 r2 q k => by
  unfold isBD at q
  split at q
  · cases q
    rw [r1.bl] at rx; rw [r2.bl] at ry
    exact op_isBl pins s σ' H _ _ v u Q I rx ry ⟨_, _, rfl, rfl, k.bl ok⟩
  · cases q
theorem d_notB : D2 X (compareOp .IsNot) notBD := opOf fun pins s σ' S σ e H x y v u d1 d2 r Q I rx ry ok r1 r2 q k => by
  unfold notBD at q
  split at q
  · cases q
    rw [r1.bl] at rx; rw [r2.bl] at ry
    exact op_notBl pins s σ' H _ _ v u Q I rx ry ⟨_, _, rfl, rfl, k.bl ok⟩
  · cases q
end
end FL
namespace FL
open PySem PySem.Spec PyProof.Rows L2
theorem bt_len : bootBuiltins "len" = some (.builtin "len") := by rfl
theorem bt_abs : bootBuiltins "abs" = some (.builtin "abs") := by rfl
theorem bt_sum : bootBuiltins "sum" = some (.builtin "sum") := by rfl
theorem bt_any : bootBuiltins "any" = some (.builtin "any") := by rfl
theorem bt_all : bootBuiltins "all" = some (.builtin "all") := by rfl
theorem bt_min : bootBuiltins "min" = some (.builtin "min") := by rfl
theorem bt_max : bootBuiltins "max" = some (.builtin "max") := by rfl
theorem bt_sorted : bootBuiltins "sorted" = some (.builtin "sorted") := by rfl
theorem bt_isinstance : bootBuiltins "isinstance" = some (.builtin "isinstance") := by rfl
theorem bt_int : bootBuiltins "int" = some (.type "int") := by rfl
theorem bt_bool : bootBuiltins "bool" = some (.type "bool") := by rfl
theorem bt_str : bootBuiltins "str" = some (.type "str") := by rfl
theorem bt_tuple : bootBuiltins "tuple" = some (.type "tuple") := by rfl
theorem bt_list : bootBuiltins "list" = some (.type "list") := by rfl
theorem bt_dict : bootBuiltins "dict" = some (.type "dict") := by rfl
theorem bt_set : bootBuiltins "set" = some (.type "set") := by rfl
end FL
namespace FL
open PySem PySem.Spec PyProof.Rows L2
section
variable {X0 : Cx} {s0 : Shared} {H0 : Hp} {scope0 : Scope} {cl0 : List (Str × Addr)} {C0 : Addr} {fp0 : List Addr} {elt tg iter : Expr} {ifs : List Expr} {scope : Scope} {own : List (Str × Nat)} {pos : Pos} {ci : CI} {ct : CT} {tt : CB} {cel : C} {sl : List Nat}
theorem relabel_look {env : Env} {x : Str} : ∀ {names : List (Str × NameKind)}, names.lookup x = some .cell ∨ names.lookup x = some .free →
    (names.map fun (n, k) => if (k == NameKind.free && env.scope.kind == .function && env.kindOf n == some .cell) then (n, NameKind.cell) else (n, k)).lookup x = some .cell ∨ (names.map fun (n, k) => if (k == NameKind.free && env.scope.kind == .function && env.kindOf n == some .cell) then (n, NameKind.cell) else (n, k)).lookup x = some .free
  | [], h => by simp at h
  | (n, k) :: r, h => by
    rw [List.map_cons]
    by_cases e : x = n
    · subst e
      simp only [List.lookup_cons_self] at h
      by_cases c : (k == NameKind.free && env.scope.kind == .function && env.kindOf x == some .cell) = true
      · simp only [c, if_true, List.lookup_cons_self]; exact .inl trivial
      · simp only [c, Bool.false_eq_true, if_false, List.lookup_cons_self]; exact h
    · have ne : (x == n) = false := by simpa using e
      rw [List.lookup_cons, ne] at h
      have ih := relabel_look (env := env) h
      by_cases c : (k == NameKind.free && env.scope.kind == .function && env.kindOf n == some .cell) = true
      · simp only [c, if_true, List.lookup_cons, ne]; exact ih
      · simp only [c, Bool.false_eq_true, if_false, List.lookup_cons, ne]; exact ih
theorem blk_re {N : List Str} {sc scope : Scope} {own : List (Str × Nat)} {env : Env} (h : BlkOk N sc scope own) : BlkOk N (relabel sc env) scope own :=
  ⟨h.kind, h.uniq, h.ix, fun y hy e => relabel_look (h.free y hy e), h.own⟩
/-- a comprehension inside another -/
theorem fe_lcN (hc : X0.calm = true) (hN : X0.N.Nodup) (hi : PI (X0.blk s0 H0 scope0 (compEnvC scope0 cl0 C0 X0.env) fp0) tg iter (tI X0.K ci)) (ok : BlkOk X0.N scope0 scope own)
    (hg : ∀ (s : Shared) (H : Hp) (C : Addr) (cl : List (Str × Addr)) (fp : List Addr), PG ((X0.blk s0 H0 scope0 (compEnvC scope0 cl0 C0 X0.env) fp0).blk s H scope (compEnvC scope cl C (X0.blk s0 H0 scope0 (compEnvC scope0 cl0 C0 X0.env) fp0).env) fp) tg (tGv X0.K sl ct)) (ht : ∀ (s : Shared) (H : Hp) (C : Addr) (cl : List (Str × Addr)) (fp : List Addr), PTs ((X0.blk s0 H0 scope0 (compEnvC scope0 cl0 C0 X0.env) fp0).blk s H scope (compEnvC scope cl C (X0.blk s0 H0 scope0 (compEnvC scope0 cl0 C0 X0.env) fp0).env) fp) ifs (tT X0.K tt))
    (he : ∀ (s : Shared) (H : Hp) (C : Addr) (cl : List (Str × Addr)) (fp : List Addr), PE ((X0.blk s0 H0 scope0 (compEnvC scope0 cl0 C0 X0.env) fp0).blk s H scope (compEnvC scope cl C (X0.blk s0 H0 scope0 (compEnvC scope0 cl0 C0 X0.env) fp0).env) fp) elt (tF X0.K cel)) (hsl : ∀ j ∈ sl, j ∈ own.map (·.2)) (hs : ∀ x, foldedSetIterable iter (X0.blk s0 H0 scope0 (compEnvC scope0 cl0 C0 X0.env) fp0).env x = pure x := by intro _; rfl) :
    PE (X0.blk s0 H0 scope0 (compEnvC scope0 cl0 C0 X0.env) fp0) (.ListComp elt [⟨tg, iter, ifs, 0⟩] scope pos) (tF X0.K (cLc ci ct tt (frz cel) (own.map (·.2)))) :=
  fe_lc (X := X0.blk s0 H0 scope0 (compEnvC scope0 cl0 C0 X0.env) fp0) hc hN hi (blk_re ok) hg ht he hsl hs
end
end FL

set_option Elab.async false
set_option linter.all false
set_option maxRecDepth 100000
set_option maxHeartbeats 4000000
namespace FL
open PySem PySem.Spec PyProof.Rows L2

/-! ### reading the combinators -/
def RunS (s : CS) (e : Ev) (Q : Out → Prop) : Prop := ∃ o, s e = some o ∧ Q o
abbrev then_ (t : CS) (Q : Out → Prop) : Out → Prop := fun o => match o with
  | .nx e' => RunS t e' Q
  | o => Q o
theorem RunS.mono {s : CS} {e : Ev} {Q Q' : Out → Prop} (h : RunS s e Q) (k : ∀ o, Q o → Q' o) : RunS s e Q' := let ⟨o, a, b⟩ := h; ⟨o, a, k o b⟩
theorem run_seq {s t : CS} {e : Ev} {Q : Out → Prop} : RunS (sSeq s t) e Q ↔ RunS s e (then_ t Q) := by
  unfold RunS sSeq
  constructor
  · rintro ⟨o, h, q⟩
    split at h
    · rename_i e' hs
      exact ⟨.nx e', hs, ⟨o, h, q⟩⟩
    · rename_i hno
      refine ⟨o, h, ?_⟩
      cases o with
      | nx e' => exact absurd h (hno e')
      | _ => exact q
  · rintro ⟨o, h, q⟩
    cases o with
    | nx e' => obtain ⟨o2, h2, q2⟩ := q; exact ⟨o2, by rw [h]; exact h2, q2⟩
    | rt r e' => exact ⟨_, by rw [h], q⟩
    | bk e' => exact ⟨_, by rw [h], q⟩
    | ct e' => exact ⟨_, by rw [h], q⟩
theorem run_set {i : Nat} {c : C} {e : Ev} {Q : Out → Prop} {r : Sl} {e' : Ev} (h : c e = some (r, e')) (hi : i < e'.length) (q : Q (.nx (e'.set i r))) : RunS (sSet i c) e Q := ⟨_, by unfold sSet; rw [h]; simp only [hi, if_true], q⟩
theorem run_expr {c : C} {e : Ev} {Q : Out → Prop} {r : Sl} {e' : Ev} (h : c e = some (r, e')) (q : Q (.nx e')) : RunS (sExpr c) e Q := ⟨_, by unfold sExpr; rw [h], q⟩
theorem run_ret {c : C} {e : Ev} {Q : Out → Prop} {r : Sl} {e' : Ev} (h : c e = some (r, e')) (q : Q (.rt r e')) : RunS (sRet c) e Q := ⟨_, by unfold sRet; rw [h], q⟩
theorem run_if {b : CB} {s t : CS} {e : Ev} {Q : Out → Prop} {k : Bool} {e' : Ev} (h : b e = some (k, e')) (h1 : k = true → RunS s e' Q) (h2 : k = false → RunS t e' Q) : RunS (sIf b s t) e Q := by
  cases k with
  | true => obtain ⟨o, a, q⟩ := h1 rfl; exact ⟨o, by unfold sIf; rw [h]; exact a, q⟩
  | false => obtain ⟨o, a, q⟩ := h2 rfl; exact ⟨o, by unfold sIf; rw [h]; exact a, q⟩
theorem run_nop {e : Ev} {Q : Out → Prop} : RunS sNop e Q ↔ Q (.nx e) := ⟨fun ⟨_, h, q⟩ => by cases h; exact q, fun q => ⟨_, rfl, q⟩⟩
theorem run_brk {e : Ev} {Q : Out → Prop} : RunS sBrk e Q ↔ Q (.bk e) := ⟨fun ⟨_, h, q⟩ => by cases h; exact q, fun q => ⟨_, rfl, q⟩⟩
theorem run_cnt {e : Ev} {Q : Out → Prop} : RunS sCnt e Q ↔ Q (.ct e) := ⟨fun ⟨_, h, q⟩ => by cases h; exact q, fun q => ⟨_, rfl, q⟩⟩
theorem run_eq {s : CS} {e : Ev} {Q : Out → Prop} {o : Out} (h : s e = some o) (q : Q o) : RunS s e Q := ⟨o, h, q⟩
/-- a loop over what is walked, by an invariant on what is left -/
theorem run_for {α : Type} {f : α → PyData} {ct : CT} {s : CS} {Q : Out → Prop} (P : List α → Ev → Prop) (hnil : ∀ e, P [] e → Q (.nx e))
    (hstep : ∀ x xs e, P (x :: xs) e → ∃ e1, ct (f x) e = some e1 ∧ RunS s e1 fun o => match o with
      | .nx e2 => P xs e2
      | .ct e2 => P xs e2
      | .bk e2 => Q (.nx e2)
      | .rt r e2 => Q (.rt r e2)) : ∀ (xs : List α) (e : Ev), P xs e → ∃ o, forGo ct s (xs.map f) e = some o ∧ Q o
  | [], e, h => ⟨_, rfl, hnil e h⟩
  | x :: xs, e, h => by
    obtain ⟨e1, h1, o, h2, q⟩ := hstep x xs e h
    rw [List.map_cons]
    unfold forGo
    rw [h1]
    simp only [h2]
    cases o with
    | nx e2 => exact run_for P hnil hstep xs e2 q
    | ct e2 => exact run_for P hnil hstep xs e2 q
    | bk e2 => exact ⟨_, rfl, q⟩
    | rt r e2 => exact ⟨_, rfl, q⟩
theorem run_sfor {α : Type} {f : α → PyData} {ci : CI} {ct : CT} {s : CS} {e e1 : Ev} {Q : Out → Prop} (xs : List α) (hi : ci e = some (xs.map f, e1)) (P : List α → Ev → Prop) (h0 : P xs e1) (hnil : ∀ e, P [] e → Q (.nx e))
    (hstep : ∀ x xs e, P (x :: xs) e → ∃ e1, ct (f x) e = some e1 ∧ RunS s e1 fun o => match o with
      | .nx e2 => P xs e2
      | .ct e2 => P xs e2
      | .bk e2 => Q (.nx e2)
      | .rt r e2 => Q (.rt r e2)) : RunS (sFor ci ct s) e Q := by
  obtain ⟨o, h, q⟩ := run_for P hnil hstep xs e1 h0
  exact ⟨o, by unfold sFor; rw [hi]; exact h, q⟩
/-- a while loop by an invariant with a measure -/
theorem run_while {b : CB} {s : CS} {Q : Out → Prop} (P : Nat → Ev → Prop)
    (hstep : ∀ n e, P n e → ∃ k e1, b e = some (k, e1) ∧ (k = false → Q (.nx e1)) ∧ (k = true → RunS s e1 fun o => match o with
      | .nx e2 => ∃ m, m < n ∧ P m e2
      | .ct e2 => ∃ m, m < n ∧ P m e2
      | .bk e2 => Q (.nx e2)
      | .rt r e2 => Q (.rt r e2))) : ∀ (fuel n : Nat) (e : Ev), n < fuel → P n e → ∃ o, whileGo b s fuel e = some o ∧ Q o
  | 0, n, e, hf, h => absurd hf (Nat.not_lt_zero _)
  | fuel + 1, n, e, hf, h => by
    obtain ⟨k, e1, h1, h2, h3⟩ := hstep n e h
    unfold whileGo
    rw [h1]
    cases k with
    | false => exact ⟨_, rfl, h2 rfl⟩
    | true =>
      obtain ⟨o, h4, q⟩ := h3 rfl
      simp only [h4]
      cases o with
      | nx e2 => obtain ⟨m, hm, p⟩ := q; exact run_while P hstep fuel m e2 (by omega) p
      | ct e2 => obtain ⟨m, hm, p⟩ := q; exact run_while P hstep fuel m e2 (by omega) p
      | bk e2 => exact ⟨_, rfl, q⟩
      | rt r e2 => exact ⟨_, rfl, q⟩
theorem run_swhile {b : CB} {s : CS} {Q : Out → Prop} {fuel : Nat} {e : Ev} (P : Nat → Ev → Prop) (n : Nat) (hf : n < fuel) (h0 : P n e)
    (hstep : ∀ n e, P n e → ∃ k e1, b e = some (k, e1) ∧ (k = false → Q (.nx e1)) ∧ (k = true → RunS s e1 fun o => match o with
      | .nx e2 => ∃ m, m < n ∧ P m e2
      | .ct e2 => ∃ m, m < n ∧ P m e2
      | .bk e2 => Q (.nx e2)
      | .rt r e2 => Q (.rt r e2))) : RunS (sWhile fuel b s) e Q := run_while P hstep fuel n e hf h0
/-- a comprehension without change -/
theorem lc_map {α : Type} {f : α → PyData} {g : α → PyData} {p : α → Bool} {ct : CT} {tt : CB} {el : CV} {vs : List Nat} {e : Ev} :
    ∀ (xs : List α), (∀ x ∈ xs, ∃ e1, ct (f x) e = some e1 ∧ ∃ e2, tt e1 = some (p x, e2) ∧ (p x = false → wipeE e2 vs = e) ∧ (p x = true → ∃ e3, el e2 = some (g x, e3) ∧ wipeE e3 vs = e)) →
      lcGo ct tt el vs (xs.map f) e = some ((xs.filter p).map g, e)
  | [], _ => rfl
  | x :: xs, h => by
    obtain ⟨e1, h1, e2, h2, h3, h4⟩ := h x List.mem_cons_self
    have ih := lc_map xs fun y hy => h y (List.mem_cons_of_mem _ hy)
    rw [List.map_cons]
    unfold lcGo
    rw [h1]
    simp only [h2]
    cases hp : p x with
    | false =>
      simp only [h3 hp, ih]
      rw [List.filter_cons_of_neg (by simp [hp])]
    | true =>
      obtain ⟨e3, h5, h6⟩ := h4 hp
      simp only [h5, h6, ih]
      rw [List.filter_cons_of_pos (by simp [hp])]
      rfl
theorem filter_yes {α : Type} : ∀ l : List α, l.filter (fun _ => true) = l
  | [] => rfl
  | x :: l => by rw [List.filter_cons_of_pos rfl, filter_yes l]
/-- .. a list comprehension without a test -/
theorem clc_map {α : Type} {f : α → PyData} (g : α → PyData) {ci : CI} {ct : CT} {el : CV} {vs : List Nat} {e e1 : Ev} (xs : List α) (hi : ci e = some (xs.map f, e1)) (hl : xs.length ≤ 16777216)
    (h : ∀ x ∈ xs, ∃ e2, ct (f x) (wipeE e1 vs) = some e2 ∧ ∃ e3, el e2 = some (g x, e3) ∧ wipeE e3 vs = wipeE e1 vs) : cLc ci ct cbYes el vs e = some (.own (.list (xs.map g)), back (wipeE e1 vs) e1 vs) := by
  have w := lc_map (p := fun _ => true) (tt := cbYes) (f := f) (g := g) (ct := ct) (el := el) (vs := vs) (e := wipeE e1 vs) xs fun x hx => by
    obtain ⟨e2, h1, e3, h2, h3⟩ := h x hx
    exact ⟨e2, h1, e2, rfl, fun z => (by cases z), fun _ => ⟨e3, h2, h3⟩⟩
  unfold cLc
  rw [hi]
  simp only [List.length_map, hl, if_true, w, filter_yes]
theorem clc_filter {α : Type} {f : α → PyData} (g : α → PyData) (p : α → Bool) {ci : CI} {ct : CT} {tt : CB} {el : CV} {vs : List Nat} {e e1 : Ev} (xs : List α) (hi : ci e = some (xs.map f, e1)) (hl : xs.length ≤ 16777216)
    (h : ∀ x ∈ xs, ∃ e2, ct (f x) (wipeE e1 vs) = some e2 ∧ ∃ e3, tt e2 = some (p x, e3) ∧ (p x = false → wipeE e3 vs = wipeE e1 vs) ∧ (p x = true → ∃ e4, el e3 = some (g x, e4) ∧ wipeE e4 vs = wipeE e1 vs)) :
    cLc ci ct tt el vs e = some (.own (.list ((xs.filter p).map g)), back (wipeE e1 vs) e1 vs) := by
  have w := lc_map (p := p) (tt := tt) (f := f) (g := g) (ct := ct) (el := el) (vs := vs) (e := wipeE e1 vs) xs h
  unfold cLc
  rw [hi]
  simp only [List.length_map, hl, if_true, w]

/-! ### typed rows -/
theorem nice_int (n : Nat) (a : Int) : nice n (.int a) = true := by cases n <;> rfl
theorem nice_bool (n : Nat) (a : Bool) : nice n (.bool a) = true := by cases n <;> rfl
theorem nice_str (n : Nat) (a : Str) : nice n (.str a) = true := by cases n <;> rfl
theorem nice_none (n : Nat) : nice n .none = true := by cases n <;> rfl
theorem eqD_int (a b : Int) : eqD (.int a) (.int b) = some (.val (.bool (decide (a = b)))) := by
  unfold eqD
  rw [nice_int, nice_int]
  show some (Sl.val (.bool (PyData.eqv (.int a) (.int b)))) = _
  rw [PyData.eqv]
  rfl
theorem neD_int (a b : Int) : neD (.int a) (.int b) = some (.val (.bool (!decide (a = b)))) := by
  unfold neD
  rw [nice_int, nice_int]
  show some (Sl.val (.bool (!PyData.eqv (.int a) (.int b)))) = _
  rw [PyData.eqv]
  rfl
theorem eqD_bool (a b : Bool) : eqD (.bool a) (.bool b) = some (.val (.bool (a == b))) := by
  unfold eqD
  rw [nice_bool, nice_bool]
  show some (Sl.val (.bool (PyData.eqv (.bool a) (.bool b)))) = _
  rw [PyData.eqv]
theorem neD_bool (a b : Bool) : neD (.bool a) (.bool b) = some (.val (.bool (!(a == b)))) := by
  unfold neD
  rw [nice_bool, nice_bool]
  show some (Sl.val (.bool (!PyData.eqv (.bool a) (.bool b)))) = _
  rw [PyData.eqv]
theorem eqD_str (a b : Str) : eqD (.str a) (.str b) = some (.val (.bool (a == b))) := by
  unfold eqD
  rw [nice_str, nice_str]
  show some (Sl.val (.bool (PyData.eqv (.str a) (.str b)))) = _
  rw [PyData.eqv]
theorem neD_str (a b : Str) : neD (.str a) (.str b) = some (.val (.bool (!(a == b)))) := by
  unfold neD
  rw [nice_str, nice_str]
  show some (Sl.val (.bool (!PyData.eqv (.str a) (.str b)))) = _
  rw [PyData.eqv]
theorem cmpOk_int (a b : Int) : cmpOk (.int a) (.int b) = true := by
  unfold cmpOk
  rw [nice_int, nice_int, W.alike]
  rfl
theorem ltD_int (a b : Int) : ltD (.int a) (.int b) = some (.val (.bool (decide (a < b)))) := by unfold ltD; rw [cmpOk_int, if_pos rfl, W.dataLt_int]
theorem gtD_int (a b : Int) : gtD (.int a) (.int b) = some (.val (.bool (decide (b < a)))) := by unfold gtD; rw [cmpOk_int, if_pos rfl, W.dataLt_int]
theorem not_lt_dec (a b : Int) : (!decide (a < b)) = decide (b ≤ a) := by
  by_cases h : a < b
  · have : ¬ b ≤ a := by omega
    simp [h, this]
  · have : b ≤ a := by omega
    simp [h, this]
theorem leD_int (a b : Int) : leD (.int a) (.int b) = some (.val (.bool (decide (a ≤ b)))) := by unfold leD; rw [cmpOk_int, if_pos rfl, W.dataLt_int, not_lt_dec]
theorem geD_int (a b : Int) : geD (.int a) (.int b) = some (.val (.bool (decide (b ≤ a)))) := by unfold geD; rw [cmpOk_int, if_pos rfl, W.dataLt_int, not_lt_dec]
theorem addD_int (a b : Int) : addD (.int a) (.int b) = some (.val (.int (a + b))) := rfl
theorem subD_int (a b : Int) : subD (.int a) (.int b) = some (.val (.int (a - b))) := rfl
theorem mulD_int {a b : Int} (h : a.natAbs < 18446744073709551616 ∨ b.natAbs < 18446744073709551616) : mulD (.int a) (.int b) = some (.val (.int (a * b))) := by
  show (if _ then _ else _) = _
  rw [if_pos h]
theorem fdivD_int {a b : Int} (h : b ≠ 0) (h2 : b.natAbs < 1073741824) : fdivD (.int a) (.int b) = some (.val (.int (a.fdiv b))) := by
  show (if _ then _ else _) = _
  rw [if_pos ⟨h, h2⟩]
theorem modD_int {a b : Int} (h : b ≠ 0) : modD (.int a) (.int b) = some (.val (.int (a.fmod b))) := by
  show (if _ then _ else _) = _
  rw [if_pos h]
theorem negD_int (a : Int) : negD (.int a) = some (.val (.int (-a))) := rfl
theorem absD_int (a : Int) : absD (.int a) = some (.val (.int (a.natAbs : Int))) := by
  show some (Sl.val (.int (if a < 0 then -a else a))) = _
  by_cases h : a < 0
  · rw [if_pos h]; have : -a = (a.natAbs : Int) := by omega
    rw [this]
  · rw [if_neg h]; have : a = (a.natAbs : Int) := by omega
    rw [← this]
theorem max2D_int (a b : Int) : max2D (.int a) (.int b) = some (.val (.int (max a b))) := by
  show some (Sl.val (.int (if b > a then b else a))) = _
  congr 3
  omega
theorem min2D_int (a b : Int) : min2D (.int a) (.int b) = some (.val (.int (min a b))) := by
  show some (Sl.val (.int (if b < a then b else a))) = _
  congr 3
  omega
theorem ixN_in {n : Nat} {i : Int} (h0 : 0 ≤ i) (h : i < n) : ixN n i = some i.toNat := by
  unfold ixN
  rw [if_pos h0, if_pos h]
theorem atI_pos {α : Type} {xs : List α} {i : Int} (h0 : 0 ≤ i) (h : i < xs.length) : atI xs i = xs[i.toNat]? := by
  unfold atI
  rw [ixN_in h0 h]
  rfl
end FL

set_option Elab.async false
set_option linter.all false
set_option maxRecDepth 100000
set_option maxHeartbeats 4000000
namespace FL
open PySem PySem.Spec PyProof.Rows L2

def nextB : CS :=
  (sSeq (sIf (cbT (cOps (l2 gtD) [.ex (frz (cOps (l2 ixD) [.nm 0, .ex (frz (cK (.int 2)))])), .ex (frz (cK (.int 0)))]))
  (sSeq (sSet 2 (cOps (l2 modD) [.ex (frz (cOps (l1 intD) [.ex (frz (cOps (l2 ixD) [.nm 0, .ex (frz (cK (.int 2)))]))])), .nm 1]))
  (sSeq (sPut 0 (frz (cK (.int 2))) (frz (cOps (l2 fdivD) [.ex (frz (cOps (l2 ixD) [.nm 0, .ex (frz (cK (.int 2)))])), .nm 1])))
  (sRet (cVar 2))))
  sNop)
  (sSeq (sIf (cbT (cOps (l2 ltD) [.ex (frz (cOps (l2 ixD) [.nm 0, .ex (frz (cK (.int 1)))])), .ex (frz (cOps (l1 lenD) [.ex (frz (cOps (l2 ixD) [.nm 0, .ex (frz (cK (.int 0)))]))]))]))
  (sSeq (sSet 3 (cOps (l1 absD) [.ex (frz (cOps (l2 ixD) [.ex (frz (cOps (l2 ixD) [.nm 0, .ex (frz (cK (.int 0)))])), .ex (frz (cOps (l2 ixD) [.nm 0, .ex (frz (cK (.int 1)))]))]))]))
  (sSeq (sPut 0 (frz (cK (.int 1))) (frz (cOps (l2 addD) [.ex (frz (cOps (l2 ixD) [.nm 0, .ex (frz (cK (.int 1)))])), .ex (frz (cK (.int 1)))])))
  (sSeq (sIf (cbT (cOps (l2 geD) [.nm 3, .ex (frz (cOps (l2 powD) [.ex (frz (cK (.int 10))), .ex (frz (cK (.int 18)))]))]))
  (sSeq (sPut 0 (frz (cK (.int 2))) (frz (cOps (l2 fdivD) [.nm 3, .nm 1])))
  (sRet (cOps (l2 modD) [.ex (frz (cOps (l1 intD) [.nm 3])), .nm 1])))
  sNop)
  (sPut 0 (frz (cK (.int 3))) (frz (cOps (l2 modD) [.ex (frz (cOps (l1 intD) [.ex (frz (cOps (l2 addD) [.ex (frz (cOps (l2 addD) [.ex (frz (cOps (l2 mulD) [.ex (frz (cOps (l2 ixD) [.nm 0, .ex (frz (cK (.int 3)))])), .ex (frz (cK (.int 48271)))])), .nm 3])), .ex (frz (cK (.int 11)))]))])), .ex (frz (cK (.int 2147483647)))]))))))
  (sPut 0 (frz (cK (.int 3))) (frz (cOps (l2 modD) [.ex (frz (cOps (l1 intD) [.ex (frz (cOps (l2 addD) [.ex (frz (cOps (l2 mulD) [.ex (frz (cOps (l2 ixD) [.nm 0, .ex (frz (cK (.int 3)))])), .ex (frz (cK (.int 48271)))])), .ex (frz (cK (.int 12345)))]))])), .ex (frz (cK (.int 2147483647)))]))))
  (sRet (cOps (l2 modD) [.ex (frz (cOps (l2 fdivD) [.ex (frz (cOps (l1 intD) [.ex (frz (cOps (l2 modD) [.ex (frz (cOps (l2 mulD) [.ex (frz (cOps (l2 ixD) [.nm 0, .ex (frz (cK (.int 3)))])), .ex (frz (cK (.int 69621)))])), .ex (frz (cK (.int 2147483629)))]))])), .ex (frz (cK (.int 7)))])), .nm 1]))))
def nextF : FnD := runB [true, false] 4 nextB
def sameB (Fr : FnD) : CS :=
  (sSeq (sIf (cbT (cOps (l1 (isiD ["list", "tuple"])) [.nm 1]))
  (sSeq (sIf (cbOr (cbT (cOps (l2 neD) [.ex (frz (cOps (l1 (isiD ["list"])) [.nm 1])), .ex (frz (cOps (l1 (isiD ["list"])) [.nm 0]))])) (cbT (cOps (l2 neD) [.ex (frz (cOps (l1 (isiD ["tuple"])) [.nm 1])), .ex (frz (cOps (l1 (isiD ["tuple"])) [.nm 0]))])))
  (sRet (cK (.bool false)))
  sNop)
  (sSeq (sIf (cbT (cOps (l2 neD) [.ex (frz (cOps (l1 lenD) [.nm 0])), .ex (frz (cOps (l1 lenD) [.nm 1]))]))
  (sRet (cK (.bool false)))
  sNop)
  (sRet (cOps (l1 allD) [.ex (frz (cLc (ciR1 (frz (cOps (l1 lenD) [.nm 1]))) (ctName 2) cbYes (frz (cCall Fr [.v (frz (cOps (l2 ixD) [.nm 0, .nm 2])), .v (frz (cOps (l2 ixD) [.nm 1, .nm 2]))])) [2]))]))))
  sNop)
  (sSeq (sIf (cbT (cOps (l2 isND) [.nm 1, .ex (frz (cK .none))]))
  (sRet (cOps (l2 isND) [.nm 0, .ex (frz (cK .none))]))
  sNop)
  (sSeq (sIf (cbT (cOps (l2 neD) [.ex (frz (cOps (l1 (isiD ["bool"])) [.nm 1])), .ex (frz (cOps (l1 (isiD ["bool"])) [.nm 0]))]))
  (sRet (cK (.bool false)))
  sNop)
  (sSeq (sIf (cbT (cOps (l1 (isiD ["str"])) [.nm 1]))
  (sRet (cAndV (frz (cOps (l1 (isiD ["str"])) [.nm 0])) (cOps (l2 eqD) [.nm 0, .nm 1])))
  sNop)
  (sRet (cAndV (frz (cOps (l1 (isiD ["int"])) [.nm 0])) (cOps (l2 eqD) [.nm 0, .nm 1])))))))
def sameF : Nat → FnD
  | 0 => fun _ => none
  | n + 1 => runB [false, false] 3 (sameB (sameF n))

/-! ### a def by its body -/
theorem runB_rt {fl : List Bool} {n : Nat} {body : CS} {ds : List PyData} {r : Sl} {e' : Ev} {outs : List PyData} (hl : ds.length = fl.length) (h : body (initEv fl ds n) = some (.rt r e')) (ho : outsOf e' (iosOf fl) = some outs) : runB fl n body ds = some (r, outs) := by
  unfold runB
  rw [if_pos hl, h]
  simp only [ho]
theorem runB_nx {fl : List Bool} {n : Nat} {body : CS} {ds : List PyData} {e' : Ev} {outs : List PyData} (hl : ds.length = fl.length) (h : body (initEv fl ds n) = some (.nx e')) (ho : outsOf e' (iosOf fl) = some outs) : runB fl n body ds = some (.val .none, outs) := by
  unfold runB
  rw [if_pos hl, h]
  simp only [ho]
/-! ### the draws -/
def DOk (d : PyData) : Prop := ∃ ns i c s, d = drawD ns i c s ∧ 0 ≤ i ∧ i ≤ ns.length ∧ 0 ≤ c ∧ 0 ≤ s
theorem DOk.zero (ns : List Int) : DOk (drawD ns 0 0 17) := ⟨ns, 0, 0, 17, rfl, by omega, by omega, by omega, by omega⟩
theorem ix4 (a b c d : PyData) : ixD (.list [a, b, c, d]) (.int 0) = some (.val a) ∧ ixD (.list [a, b, c, d]) (.int 1) = some (.val b) ∧ ixD (.list [a, b, c, d]) (.int 2) = some (.val c) ∧ ixD (.list [a, b, c, d]) (.int 3) = some (.val d) := ⟨rfl, rfl, rfl, rfl⟩
theorem set4 (a b c d x : PyData) : setD (.list [a, b, c, d]) (.int 1) x = some (.list [a, x, c, d]) ∧ setD (.list [a, b, c, d]) (.int 2) x = some (.list [a, b, x, d]) ∧ setD (.list [a, b, c, d]) (.int 3) x = some (.list [a, b, c, x]) := ⟨rfl, rfl, rfl⟩
theorem next_ok {d : PyData} (hd : DOk d) {m : Int} (h0 : 0 < m) (h1 : m < 1073741824) : ∃ v d', nextF [d, .int m] = some (.val (.int v), [d']) ∧ 0 ≤ v ∧ v < m ∧ DOk d' := by
  obtain ⟨ns, i, c, s, rfl, hi, hil, hc, hs⟩ := hd
  have hm : m ≠ 0 := by omega
  have hm2 : m.natAbs < 1073741824 := by omega
  suffices RunS nextB [.own (drawD ns i c s), .val (.int m), .un, .un] (fun o => ∃ v d' e', o = .rt (.val (.int v)) e' ∧ peekOwn e' 0 = some d' ∧ 0 ≤ v ∧ v < m ∧ DOk d') by
    obtain ⟨o, ho, v, d', e', rfl, hp, a, b, c⟩ := this
    exact ⟨v, d', runB_rt rfl ho (by simp only [iosOf, iosFrom, outsOf, hp]), a, b, c⟩
  have e1 := ix4 (.list (ns.map .int)) (.int i) (.int c) (.int s)
  have fin : ∀ (d : PyData) (s' : Int) (x : Sl), d = drawD ns i c s' ∨ d = drawD ns (i + 1) c s' → 0 ≤ s' → (d = drawD ns (i + 1) c s' → i < ns.length) → RunS (sRet (cOps (l2 modD) [.ex (frz (cOps (l2 fdivD) [.ex (frz (cOps (l1 intD) [.ex (frz (cOps (l2 modD) [.ex (frz (cOps (l2 mulD) [.ex (frz (cOps (l2 ixD) [.nm 0, .ex (frz (cK (.int 3)))])), .ex (frz (cK (.int 69621)))])), .ex (frz (cK (.int 2147483629)))]))])), .ex (frz (cK (.int 7)))])), .nm 1])) [.own d, .val (.int m), .un, x] (fun o => ∃ v d' e', o = .rt (.val (.int v)) e' ∧ peekOwn e' 0 = some d' ∧ 0 ≤ v ∧ v < m ∧ DOk d') := by
    intro d s' x hd hs' hlt
    have e4 : ixD d (.int 3) = some (.val (.int s')) := by rcases hd with h | h <;> (rw [h]; rfl)
    refine run_ret (r := .val (.int (Int.fmod (Int.fdiv (Int.fmod (s' * 69621) 2147483629) 7) m))) (e' := [.own d, .val (.int m), .un, x]) ?_ ?_
    · simp only [cOps, evs, peek, frz, cK, cVar, l1, l2, cbT, cbAnd, cbOr, cbNot, cbTru, cbNm, cIf, cAndV, cOrV, cNotV, cChain, truthV, cvs, cTup, cLst, cDnew, cCall, aevs, aIx, drops, puts, peekOwn, ctName, ctTup, ctCons, ctNil, cSl, coN, coS, cbYes, wipeE, back, ciE, ciR1, ciR2, walkD, isLst, cMt, sets, crs, List.getElem?_cons_zero, List.getElem?_cons_succ, List.set_cons_zero, List.set_cons_succ, List.getD_cons_zero, List.getD_cons_succ, List.length_cons, List.length_nil, Option.some.injEq, Prod.mk.injEq, reduceCtorEq, if_true, if_false, ite_true, ite_false, Bool.false_eq_true, Nat.reduceAdd, Nat.reduceLT, Nat.reduceLeDiff, reduceIte, e4, mulD_int (a := s') (b := 69621) (.inr (by omega)), modD_int (b := 2147483629) (by omega), fdivD_int (b := 7) (by omega) (by omega), intD, modD_int hm]
    · refine ⟨_, d, _, rfl, rfl, ?_, ?_, ?_⟩
      · exact Int.fmod_nonneg_of_pos _ h0
      · exact Int.fmod_lt_of_pos _ h0
      · rcases hd with h | h
        · exact ⟨ns, i, c, s', h, hi, hil, hc, hs'⟩
        · exact ⟨ns, i + 1, c, s', h, by omega, by have := hlt h; omega, hc, hs'⟩
  unfold nextB
  rw [run_seq]
  refine run_if (k := decide (0 < c)) (e' := [.own (drawD ns i c s), .val (.int m), .un, .un]) ?_ (fun hk => ?_) (fun hk => ?_)
  · simp only [cOps, evs, peek, frz, cK, cVar, l1, l2, cbT, cbAnd, cbOr, cbNot, cbTru, cbNm, cIf, cAndV, cOrV, cNotV, cChain, truthV, cvs, cTup, cLst, cDnew, cCall, aevs, aIx, drops, puts, peekOwn, ctName, ctTup, ctCons, ctNil, cSl, coN, coS, cbYes, wipeE, back, ciE, ciR1, ciR2, walkD, isLst, cMt, sets, crs, List.getElem?_cons_zero, List.getElem?_cons_succ, List.set_cons_zero, List.set_cons_succ, List.getD_cons_zero, List.getD_cons_succ, List.length_cons, List.length_nil, Option.some.injEq, Prod.mk.injEq, reduceCtorEq, if_true, if_false, ite_true, ite_false, Bool.false_eq_true, Nat.reduceAdd, Nat.reduceLT, Nat.reduceLeDiff, reduceIte, drawD, e1.2.2.1, gtD_int]
  · have hk : 0 < c := of_decide_eq_true hk
    rw [run_seq]
    refine run_set (r := .val (.int (c.fmod m))) (e' := [.own (drawD ns i c s), .val (.int m), .un, .un]) ?_ (by simp) ?_
    · simp only [cOps, evs, peek, frz, cK, cVar, l1, l2, cbT, cbAnd, cbOr, cbNot, cbTru, cbNm, cIf, cAndV, cOrV, cNotV, cChain, truthV, cvs, cTup, cLst, cDnew, cCall, aevs, aIx, drops, puts, peekOwn, ctName, ctTup, ctCons, ctNil, cSl, coN, coS, cbYes, wipeE, back, ciE, ciR1, ciR2, walkD, isLst, cMt, sets, crs, List.getElem?_cons_zero, List.getElem?_cons_succ, List.set_cons_zero, List.set_cons_succ, List.getD_cons_zero, List.getD_cons_succ, List.length_cons, List.length_nil, Option.some.injEq, Prod.mk.injEq, reduceCtorEq, if_true, if_false, ite_true, ite_false, Bool.false_eq_true, Nat.reduceAdd, Nat.reduceLT, Nat.reduceLeDiff, reduceIte, drawD, e1.2.2.1, intD, modD_int hm]
    · show RunS _ [.own (drawD ns i c s), .val (.int m), .val (.int (c.fmod m)), .un] _
      rw [run_seq]
      refine run_eq (o := .nx [.own (drawD ns i (c.fdiv m) s), .val (.int m), .val (.int (c.fmod m)), .un]) ?_ ?_
      · simp only [sPut, cOps, evs, peek, frz, cK, cVar, l1, l2, cbT, cbAnd, cbOr, cbNot, cbTru, cbNm, cIf, cAndV, cOrV, cNotV, cChain, truthV, cvs, cTup, cLst, cDnew, cCall, aevs, aIx, drops, puts, peekOwn, ctName, ctTup, ctCons, ctNil, cSl, coN, coS, cbYes, wipeE, back, ciE, ciR1, ciR2, walkD, isLst, cMt, sets, crs, List.getElem?_cons_zero, List.getElem?_cons_succ, List.set_cons_zero, List.set_cons_succ, List.getD_cons_zero, List.getD_cons_succ, List.length_cons, List.length_nil, Option.some.injEq, Prod.mk.injEq, reduceCtorEq, if_true, if_false, ite_true, ite_false, Bool.false_eq_true, Nat.reduceAdd, Nat.reduceLT, Nat.reduceLeDiff, reduceIte, drawD, e1.2.2.1, fdivD_int hm hm2, (set4 _ _ _ _ _).2.1]
      · refine run_ret (r := .val (.int (c.fmod m))) (e' := [.own (drawD ns i (c.fdiv m) s), .val (.int m), .val (.int (c.fmod m)), .un]) rfl ?_
        refine ⟨_, _, _, rfl, rfl, Int.fmod_nonneg_of_pos _ h0, Int.fmod_lt_of_pos _ h0, ⟨ns, i, _, s, rfl, hi, hil, ?_, hs⟩⟩
        rw [Int.fdiv_eq_ediv_of_nonneg _ (by omega)]
        exact Int.ediv_nonneg (by omega) (by omega)
  · rw [run_nop]
    show RunS _ _ _
    rw [run_seq]
    have el : lenD (.list (ns.map .int)) = some (.val (.int ns.length)) := by show some (Sl.val (.int ((ns.map PyData.int).length : Nat))) = _; rw [List.length_map]
    refine run_if (k := decide (i < ns.length)) (e' := [.own (drawD ns i c s), .val (.int m), .un, .un]) ?_ (fun hk2 => ?_) (fun hk2 => ?_)
    · simp only [cOps, evs, peek, frz, cK, cVar, l1, l2, cbT, cbAnd, cbOr, cbNot, cbTru, cbNm, cIf, cAndV, cOrV, cNotV, cChain, truthV, cvs, cTup, cLst, cDnew, cCall, aevs, aIx, drops, puts, peekOwn, ctName, ctTup, ctCons, ctNil, cSl, coN, coS, cbYes, wipeE, back, ciE, ciR1, ciR2, walkD, isLst, cMt, sets, crs, List.getElem?_cons_zero, List.getElem?_cons_succ, List.set_cons_zero, List.set_cons_succ, List.getD_cons_zero, List.getD_cons_succ, List.length_cons, List.length_nil, Option.some.injEq, Prod.mk.injEq, reduceCtorEq, if_true, if_false, ite_true, ite_false, Bool.false_eq_true, Nat.reduceAdd, Nat.reduceLT, Nat.reduceLeDiff, reduceIte, drawD, e1.1, e1.2.1, el, ltD_int]
    · have hk2 : i < ns.length := of_decide_eq_true hk2
      have hj : i.toNat < ns.length := by omega
      have ei : ixD (.list (ns.map .int)) (.int i) = some (.val (.int ns[i.toNat])) := by
        show (match atI (ns.map PyData.int) i with | some d => some (Sl.val d) | none => none) = _
        rw [atI_pos hi (by rw [List.length_map]; exact hk2), List.getElem?_map, List.getElem?_eq_getElem hj]
        rfl
      rw [run_seq]
      refine run_set (r := .val (.int (ns[i.toNat].natAbs : Int))) (e' := [.own (drawD ns i c s), .val (.int m), .un, .un]) ?_ (by simp) ?_
      · simp only [cOps, evs, peek, frz, cK, cVar, l1, l2, cbT, cbAnd, cbOr, cbNot, cbTru, cbNm, cIf, cAndV, cOrV, cNotV, cChain, truthV, cvs, cTup, cLst, cDnew, cCall, aevs, aIx, drops, puts, peekOwn, ctName, ctTup, ctCons, ctNil, cSl, coN, coS, cbYes, wipeE, back, ciE, ciR1, ciR2, walkD, isLst, cMt, sets, crs, List.getElem?_cons_zero, List.getElem?_cons_succ, List.set_cons_zero, List.set_cons_succ, List.getD_cons_zero, List.getD_cons_succ, List.length_cons, List.length_nil, Option.some.injEq, Prod.mk.injEq, reduceCtorEq, if_true, if_false, ite_true, ite_false, Bool.false_eq_true, Nat.reduceAdd, Nat.reduceLT, Nat.reduceLeDiff, reduceIte, drawD, e1.1, e1.2.1, ei, absD_int]
      show RunS _ [.own (drawD ns i c s), .val (.int m), .un, .val (.int (ns[i.toNat].natAbs : Int))] _
      generalize hcell : ((ns[i.toNat].natAbs : Nat) : Int) = cell
      have hcell0 : 0 ≤ cell := by omega
      rw [run_seq]
      refine run_eq (o := .nx [.own (drawD ns (i + 1) c s), .val (.int m), .un, .val (.int cell)]) ?_ ?_
      · simp only [sPut, cOps, evs, peek, frz, cK, cVar, l1, l2, cbT, cbAnd, cbOr, cbNot, cbTru, cbNm, cIf, cAndV, cOrV, cNotV, cChain, truthV, cvs, cTup, cLst, cDnew, cCall, aevs, aIx, drops, puts, peekOwn, ctName, ctTup, ctCons, ctNil, cSl, coN, coS, cbYes, wipeE, back, ciE, ciR1, ciR2, walkD, isLst, cMt, sets, crs, List.getElem?_cons_zero, List.getElem?_cons_succ, List.set_cons_zero, List.set_cons_succ, List.getD_cons_zero, List.getD_cons_succ, List.length_cons, List.length_nil, Option.some.injEq, Prod.mk.injEq, reduceCtorEq, if_true, if_false, ite_true, ite_false, Bool.false_eq_true, Nat.reduceAdd, Nat.reduceLT, Nat.reduceLeDiff, reduceIte, drawD, e1.2.1, addD_int, (set4 _ _ _ _ _).1]
      have e2 := ix4 (.list (ns.map .int)) (.int (i + 1)) (.int c) (.int s)
      have hp : powD (.int 10) (.int 18) = some (.val (.int 1000000000000000000)) := by
        unfold powD
        simp only [show (0 : Int) ≤ 18 ∧ (18 : Int) ≤ 1000000 ∧ (10 : Int).natAbs < 18446744073709551616 from by decide, and_self, if_true]
        rfl
      show RunS _ _ _
      rw [run_seq]
      refine run_if (k := decide (1000000000000000000 ≤ cell)) (e' := [.own (drawD ns (i + 1) c s), .val (.int m), .un, .val (.int cell)]) ?_ (fun hk3 => ?_) (fun hk3 => ?_)
      · simp only [cOps, evs, peek, frz, cK, cVar, l1, l2, cbT, cbAnd, cbOr, cbNot, cbTru, cbNm, cIf, cAndV, cOrV, cNotV, cChain, truthV, cvs, cTup, cLst, cDnew, cCall, aevs, aIx, drops, puts, peekOwn, ctName, ctTup, ctCons, ctNil, cSl, coN, coS, cbYes, wipeE, back, ciE, ciR1, ciR2, walkD, isLst, cMt, sets, crs, List.getElem?_cons_zero, List.getElem?_cons_succ, List.set_cons_zero, List.set_cons_succ, List.getD_cons_zero, List.getD_cons_succ, List.length_cons, List.length_nil, Option.some.injEq, Prod.mk.injEq, reduceCtorEq, if_true, if_false, ite_true, ite_false, Bool.false_eq_true, Nat.reduceAdd, Nat.reduceLT, Nat.reduceLeDiff, reduceIte, drawD, hp, geD_int]
      · rw [run_seq]
        refine run_eq (o := .nx [.own (drawD ns (i + 1) (cell.fdiv m) s), .val (.int m), .un, .val (.int cell)]) ?_ ?_
        · simp only [sPut, cOps, evs, peek, frz, cK, cVar, l1, l2, cbT, cbAnd, cbOr, cbNot, cbTru, cbNm, cIf, cAndV, cOrV, cNotV, cChain, truthV, cvs, cTup, cLst, cDnew, cCall, aevs, aIx, drops, puts, peekOwn, ctName, ctTup, ctCons, ctNil, cSl, coN, coS, cbYes, wipeE, back, ciE, ciR1, ciR2, walkD, isLst, cMt, sets, crs, List.getElem?_cons_zero, List.getElem?_cons_succ, List.set_cons_zero, List.set_cons_succ, List.getD_cons_zero, List.getD_cons_succ, List.length_cons, List.length_nil, Option.some.injEq, Prod.mk.injEq, reduceCtorEq, if_true, if_false, ite_true, ite_false, Bool.false_eq_true, Nat.reduceAdd, Nat.reduceLT, Nat.reduceLeDiff, reduceIte, drawD, fdivD_int hm hm2, (set4 _ _ _ _ _).2.1]
        · refine run_ret (r := .val (.int (cell.fmod m))) (e' := [.own (drawD ns (i + 1) (cell.fdiv m) s), .val (.int m), .un, .val (.int cell)]) ?_ ?_
          · simp only [cOps, evs, peek, frz, cK, cVar, l1, l2, cbT, cbAnd, cbOr, cbNot, cbTru, cbNm, cIf, cAndV, cOrV, cNotV, cChain, truthV, cvs, cTup, cLst, cDnew, cCall, aevs, aIx, drops, puts, peekOwn, ctName, ctTup, ctCons, ctNil, cSl, coN, coS, cbYes, wipeE, back, ciE, ciR1, ciR2, walkD, isLst, cMt, sets, crs, List.getElem?_cons_zero, List.getElem?_cons_succ, List.set_cons_zero, List.set_cons_succ, List.getD_cons_zero, List.getD_cons_succ, List.length_cons, List.length_nil, Option.some.injEq, Prod.mk.injEq, reduceCtorEq, if_true, if_false, ite_true, ite_false, Bool.false_eq_true, Nat.reduceAdd, Nat.reduceLT, Nat.reduceLeDiff, reduceIte, intD, modD_int hm]
          refine ⟨_, _, _, rfl, rfl, Int.fmod_nonneg_of_pos _ h0, Int.fmod_lt_of_pos _ h0, ⟨ns, i + 1, _, s, rfl, by omega, by omega, ?_, hs⟩⟩
          rw [Int.fdiv_eq_ediv_of_nonneg _ (by omega)]
          exact Int.ediv_nonneg (by omega) (by omega)
      · rw [run_nop]
        refine run_eq (o := .nx [.own (drawD ns (i + 1) c (Int.fmod (s * 48271 + cell + 11) 2147483647)), .val (.int m), .un, .val (.int cell)]) ?_ ?_
        · simp only [sPut, cOps, evs, peek, frz, cK, cVar, l1, l2, cbT, cbAnd, cbOr, cbNot, cbTru, cbNm, cIf, cAndV, cOrV, cNotV, cChain, truthV, cvs, cTup, cLst, cDnew, cCall, aevs, aIx, drops, puts, peekOwn, ctName, ctTup, ctCons, ctNil, cSl, coN, coS, cbYes, wipeE, back, ciE, ciR1, ciR2, walkD, isLst, cMt, sets, crs, List.getElem?_cons_zero, List.getElem?_cons_succ, List.set_cons_zero, List.set_cons_succ, List.getD_cons_zero, List.getD_cons_succ, List.length_cons, List.length_nil, Option.some.injEq, Prod.mk.injEq, reduceCtorEq, if_true, if_false, ite_true, ite_false, Bool.false_eq_true, Nat.reduceAdd, Nat.reduceLT, Nat.reduceLeDiff, reduceIte, drawD, e2.2.2.2, mulD_int (a := s) (b := 48271) (.inr (by omega)), addD_int, intD, modD_int (b := 2147483647) (by omega), (set4 _ _ _ _ _).2.2]
        · exact fin _ _ _ (.inr rfl) (Int.fmod_nonneg_of_pos _ (by omega)) fun _ => hk2
    · refine run_eq (o := .nx [.own (drawD ns i c (Int.fmod (s * 48271 + 12345) 2147483647)), .val (.int m), .un, .un]) ?_ ?_
      · simp only [sPut, cOps, evs, peek, frz, cK, cVar, l1, l2, cbT, cbAnd, cbOr, cbNot, cbTru, cbNm, cIf, cAndV, cOrV, cNotV, cChain, truthV, cvs, cTup, cLst, cDnew, cCall, aevs, aIx, drops, puts, peekOwn, ctName, ctTup, ctCons, ctNil, cSl, coN, coS, cbYes, wipeE, back, ciE, ciR1, ciR2, walkD, isLst, cMt, sets, crs, List.getElem?_cons_zero, List.getElem?_cons_succ, List.set_cons_zero, List.set_cons_succ, List.getD_cons_zero, List.getD_cons_succ, List.length_cons, List.length_nil, Option.some.injEq, Prod.mk.injEq, reduceCtorEq, if_true, if_false, ite_true, ite_false, Bool.false_eq_true, Nat.reduceAdd, Nat.reduceLT, Nat.reduceLeDiff, reduceIte, drawD, e1.2.2.2, mulD_int (a := s) (b := 48271) (.inr (by omega)), addD_int, intD, modD_int (b := 2147483647) (by omega), (set4 _ _ _ _ _).2.2]
      · refine fin _ _ _ (.inl rfl) (Int.fmod_nonneg_of_pos _ (by omega)) fun h => ?_
        exfalso
        have := congrArg (fun d => ixD d (.int 1)) h
        simp only [drawD, (ix4 _ _ _ _).2.1, Option.some.injEq, Sl.val.injEq, PyData.int.injEq] at this
        omega
end FL

set_option Elab.async false
set_option linter.all false
set_option maxRecDepth 100000
set_option maxHeartbeats 4000000
namespace FL
open PySem PySem.Spec PyProof.Rows L2

/-- data without dicts, of a depth that is told, with no long lists -/
def tame : Nat → PyData → Prop
  | _, .none => True
  | _, .bool _ => True
  | _, .int _ => True
  | _, .str _ => True
  | n + 1, .list ds => ds.length ≤ 1000000 ∧ ∀ d ∈ ds, tame n d
  | n + 1, .tuple ds => ds.length ≤ 1000000 ∧ ∀ d ∈ ds, tame n d
  | _, _ => False
theorem tame_int (n : Nat) (i : Int) : tame n (.int i) := by cases n <;> trivial
theorem tame_bool (n : Nat) (i : Bool) : tame n (.bool i) := by cases n <;> trivial
theorem tame_str (n : Nat) (i : Str) : tame n (.str i) := by cases n <;> trivial
theorem tame_none (n : Nat) : tame n .none := by cases n <;> trivial
theorem ix_nat {ds : List PyData} {i : Nat} (h : i < ds.length) (l : Bool) : ixD (if l then .list ds else .tuple ds) (.int (i : Int)) = some (.val ds[i]) := by
  have e : atI ds (i : Int) = some ds[i] := by
    rw [atI_pos (by omega) (by omega)]
    simp [h]
  cases l
  · show (match atI ds (i : Int) with | some d => some (Sl.val d) | none => none) = _
    rw [e]
  · show (match atI ds (i : Int) with | some d => some (Sl.val d) | none => none) = _
    rw [e]
theorem ix_list {ds : List PyData} {i : Nat} (h : i < ds.length) : ixD (.list ds) (.int (i : Int)) = some (.val ds[i]) := ix_nat h true
theorem ix_tuple {ds : List PyData} {i : Nat} (h : i < ds.length) : ixD (.tuple ds) (.int (i : Int)) = some (.val ds[i]) := ix_nat h false
theorem all_true {α : Type} (l : List α) : allD (.list (l.map fun _ => PyData.bool true)) = some (.val (.bool true)) := by
  show (match blsOf (l.map fun _ => PyData.bool true) with | some ns => some (Sl.val (.bool (ns.all id))) | none => none) = _
  rw [blsOf_map (fun _ => true)]
  simp
theorem small_nat {n : Nat} (h : n ≤ 1000000) : small (n : Int) = true := by
  unfold small
  exact decide_eq_true (by omega)
theorem range_nat (n : Nat) : rangeD 0 (n : Int) = (List.range n).map fun (i : Nat) => PyData.int (i : Int) := by
  unfold rangeD
  have : ((n : Int) - 0).toNat = n := by omega
  rw [this]
  apply List.map_congr_left
  intro i _
  rw [Int.zero_add]
theorem same_seq {Fr : FnD} {l : Bool} {ds : List PyData} (hl : ds.length ≤ 1000000) (ih : ∀ d ∈ ds, Fr [d, d] = some (.val (.bool true), [])) :
    sameB Fr [.val (if l then .list ds else .tuple ds), .val (if l then .list ds else .tuple ds), .un] = some (.rt (.val (.bool true)) [.val (if l then .list ds else .tuple ds), .val (if l then .list ds else .tuple ds), .un]) := by
  have key : ∀ (D : PyData), isiD ["list", "tuple"] D = some (.val (.bool true)) → (∃ b, isiD ["list"] D = some (.val (.bool b))) → (∃ b, isiD ["tuple"] D = some (.val (.bool b))) → lenD D = some (.val (.int ds.length)) → (∀ (i : Nat) (h : i < ds.length), ixD D (.int (i : Int)) = some (.val ds[i])) →
      sameB Fr [.val D, .val D, .un] = some (.rt (.val (.bool true)) [.val D, .val D, .un]) := by
    intro D h1 h2 h3 h4 h5
    obtain ⟨b2, h2⟩ := h2
    obtain ⟨b3, h3⟩ := h3
    have hc : cLc (ciR1 (frz (cOps (l1 lenD) [.nm 1]))) (ctName 2) cbYes (frz (cCall Fr [.v (frz (cOps (l2 ixD) [.nm 0, .nm 2])), .v (frz (cOps (l2 ixD) [.nm 1, .nm 2]))])) [2] [.val D, .val D, .un] = some (.own (.list ((List.range ds.length).map fun _ => PyData.bool true)), [.val D, .val D, .un]) := by
      refine clc_map (f := fun (i : Nat) => PyData.int (i : Int)) (g := fun _ => PyData.bool true) (e1 := [.val D, .val D, .un]) (List.range ds.length) ?_ (by rw [List.length_range]; omega) ?_
      · simp only [cOps, evs, peek, frz, cK, cVar, l1, l2, cbT, cbAnd, cbOr, cbNot, cbTru, cbNm, cIf, cAndV, cOrV, cNotV, cChain, truthV, cvs, cTup, cLst, cDnew, cCall, aevs, aIx, drops, puts, peekOwn, ctName, ctTup, ctCons, ctNil, cSl, coN, coS, cbYes, wipeE, back, ciE, ciR1, ciR2, walkD, isLst, cMt, sets, crs, List.getElem?_cons_zero, List.getElem?_cons_succ, List.set_cons_zero, List.set_cons_succ, List.getD_cons_zero, List.getD_cons_succ, List.length_cons, List.length_nil, Option.some.injEq, Prod.mk.injEq, reduceCtorEq, if_true, if_false, ite_true, ite_false, Bool.false_eq_true, Nat.reduceAdd, Nat.reduceLT, Nat.reduceLeDiff, reduceIte, h4, small_nat hl, range_nat]
      · intro i hi
        have hi : i < ds.length := List.mem_range.mp hi
        refine ⟨[.val D, .val D, .val (.int i)], by simp only [cOps, evs, peek, frz, cK, cVar, l1, l2, cbT, cbAnd, cbOr, cbNot, cbTru, cbNm, cIf, cAndV, cOrV, cNotV, cChain, truthV, cvs, cTup, cLst, cDnew, cCall, aevs, aIx, drops, puts, peekOwn, ctName, ctTup, ctCons, ctNil, cSl, coN, coS, cbYes, wipeE, back, ciE, ciR1, ciR2, walkD, isLst, cMt, sets, crs, List.getElem?_cons_zero, List.getElem?_cons_succ, List.set_cons_zero, List.set_cons_succ, List.getD_cons_zero, List.getD_cons_succ, List.length_cons, List.length_nil, Option.some.injEq, Prod.mk.injEq, reduceCtorEq, if_true, if_false, ite_true, ite_false, Bool.false_eq_true, Nat.reduceAdd, Nat.reduceLT, Nat.reduceLeDiff, reduceIte], [.val D, .val D, .val (.int i)], ?_, rfl⟩
        simp only [cOps, evs, peek, frz, cK, cVar, l1, l2, cbT, cbAnd, cbOr, cbNot, cbTru, cbNm, cIf, cAndV, cOrV, cNotV, cChain, truthV, cvs, cTup, cLst, cDnew, cCall, aevs, aIx, drops, puts, peekOwn, ctName, ctTup, ctCons, ctNil, cSl, coN, coS, cbYes, wipeE, back, ciE, ciR1, ciR2, walkD, isLst, cMt, sets, crs, List.getElem?_cons_zero, List.getElem?_cons_succ, List.set_cons_zero, List.set_cons_succ, List.getD_cons_zero, List.getD_cons_succ, List.length_cons, List.length_nil, Option.some.injEq, Prod.mk.injEq, reduceCtorEq, if_true, if_false, ite_true, ite_false, Bool.false_eq_true, Nat.reduceAdd, Nat.reduceLT, Nat.reduceLeDiff, reduceIte, h5 i hi, ih _ (List.getElem_mem hi)]
    simp only [sameB, sSeq, sIf, sRet, sNop, cOps, evs, peek, frz, cK, cVar, l1, l2, cbT, cbAnd, cbOr, cbNot, cbTru, cbNm, cIf, cAndV, cOrV, cNotV, cChain, truthV, cvs, cTup, cLst, cDnew, cCall, aevs, aIx, drops, puts, peekOwn, ctName, ctTup, ctCons, ctNil, cSl, coN, coS, cbYes, wipeE, back, ciE, ciR1, ciR2, walkD, isLst, cMt, sets, crs, List.getElem?_cons_zero, List.getElem?_cons_succ, List.set_cons_zero, List.set_cons_succ, List.getD_cons_zero, List.getD_cons_succ, List.length_cons, List.length_nil, Option.some.injEq, Prod.mk.injEq, reduceCtorEq, if_true, if_false, ite_true, ite_false, Bool.false_eq_true, Nat.reduceAdd, Nat.reduceLT, Nat.reduceLeDiff, reduceIte, h1, h2, h3, h4, neD_bool, neD_int, beq_self_eq_true, Bool.not_true, decide_true, hc, all_true]
  cases l
  · exact key (.tuple ds) rfl ⟨_, rfl⟩ ⟨_, rfl⟩ rfl fun i h => ix_tuple h
  · exact key (.list ds) rfl ⟨_, rfl⟩ ⟨_, rfl⟩ rfl fun i h => ix_list h
theorem same_refl : ∀ (n : Nat) (d : PyData), tame n d → sameF (n + 1) [d, d] = some (.val (.bool true), []) := by
  intro n
  induction n with
  | zero =>
    intro d h
    refine runB_rt (r := .val (.bool true)) (e' := [.val d, .val d, .un]) rfl ?_ rfl
    show sameB _ [.val d, .val d, .un] = _
    cases d with
    | none => rfl
    | bool b =>
      simp only [sameB, sSeq, sIf, sRet, sNop, cOps, evs, peek, frz, cK, cVar, l1, l2, cbT, cbAnd, cbOr, cbNot, cbTru, cbNm, cIf, cAndV, cOrV, cNotV, cChain, truthV, cvs, cTup, cLst, cDnew, cCall, aevs, aIx, drops, puts, peekOwn, ctName, ctTup, ctCons, ctNil, cSl, coN, coS, cbYes, wipeE, back, ciE, ciR1, ciR2, walkD, isLst, cMt, sets, crs, List.getElem?_cons_zero, List.getElem?_cons_succ, List.set_cons_zero, List.set_cons_succ, List.getD_cons_zero, List.getD_cons_succ, List.length_cons, List.length_nil, Option.some.injEq, Prod.mk.injEq, reduceCtorEq, if_true, if_false, ite_true, ite_false, Bool.false_eq_true, Nat.reduceAdd, Nat.reduceLT, Nat.reduceLeDiff, reduceIte, show isiD ["list", "tuple"] (.bool b) = some (.val (.bool false)) from rfl, show isiD ["bool"] (.bool b) = some (.val (.bool true)) from rfl, show isiD ["str"] (.bool b) = some (.val (.bool false)) from rfl, show isiD ["int"] (.bool b) = some (.val (.bool true)) from rfl,
        show isND (.bool b) .none = some (.val (.bool false)) from rfl, neD_bool, eqD_bool, beq_self_eq_true, Bool.not_true]
    | int b =>
      simp only [sameB, sSeq, sIf, sRet, sNop, cOps, evs, peek, frz, cK, cVar, l1, l2, cbT, cbAnd, cbOr, cbNot, cbTru, cbNm, cIf, cAndV, cOrV, cNotV, cChain, truthV, cvs, cTup, cLst, cDnew, cCall, aevs, aIx, drops, puts, peekOwn, ctName, ctTup, ctCons, ctNil, cSl, coN, coS, cbYes, wipeE, back, ciE, ciR1, ciR2, walkD, isLst, cMt, sets, crs, List.getElem?_cons_zero, List.getElem?_cons_succ, List.set_cons_zero, List.set_cons_succ, List.getD_cons_zero, List.getD_cons_succ, List.length_cons, List.length_nil, Option.some.injEq, Prod.mk.injEq, reduceCtorEq, if_true, if_false, ite_true, ite_false, Bool.false_eq_true, Nat.reduceAdd, Nat.reduceLT, Nat.reduceLeDiff, reduceIte, show isiD ["list", "tuple"] (.int b) = some (.val (.bool false)) from rfl, show isiD ["bool"] (.int b) = some (.val (.bool false)) from rfl, show isiD ["str"] (.int b) = some (.val (.bool false)) from rfl, show isiD ["int"] (.int b) = some (.val (.bool true)) from rfl,
        show isND (.int b) .none = some (.val (.bool false)) from rfl, neD_bool, eqD_int, beq_self_eq_true, Bool.not_true, decide_true]
    | str b =>
      simp only [sameB, sSeq, sIf, sRet, sNop, cOps, evs, peek, frz, cK, cVar, l1, l2, cbT, cbAnd, cbOr, cbNot, cbTru, cbNm, cIf, cAndV, cOrV, cNotV, cChain, truthV, cvs, cTup, cLst, cDnew, cCall, aevs, aIx, drops, puts, peekOwn, ctName, ctTup, ctCons, ctNil, cSl, coN, coS, cbYes, wipeE, back, ciE, ciR1, ciR2, walkD, isLst, cMt, sets, crs, List.getElem?_cons_zero, List.getElem?_cons_succ, List.set_cons_zero, List.set_cons_succ, List.getD_cons_zero, List.getD_cons_succ, List.length_cons, List.length_nil, Option.some.injEq, Prod.mk.injEq, reduceCtorEq, if_true, if_false, ite_true, ite_false, Bool.false_eq_true, Nat.reduceAdd, Nat.reduceLT, Nat.reduceLeDiff, reduceIte, show isiD ["list", "tuple"] (.str b) = some (.val (.bool false)) from rfl, show isiD ["bool"] (.str b) = some (.val (.bool false)) from rfl, show isiD ["str"] (.str b) = some (.val (.bool true)) from rfl,
        show isND (.str b) .none = some (.val (.bool false)) from rfl, neD_bool, eqD_str, beq_self_eq_true, Bool.not_true]
    | list ds => exact h.elim
    | tuple ds => exact h.elim
    | dict ds => exact h.elim
  | succ n ih =>
    intro d h
    refine runB_rt (r := .val (.bool true)) (e' := [.val d, .val d, .un]) rfl ?_ rfl
    show sameB _ [.val d, .val d, .un] = _
    cases d with
    | none => rfl
    | bool b =>
      simp only [sameB, sSeq, sIf, sRet, sNop, cOps, evs, peek, frz, cK, cVar, l1, l2, cbT, cbAnd, cbOr, cbNot, cbTru, cbNm, cIf, cAndV, cOrV, cNotV, cChain, truthV, cvs, cTup, cLst, cDnew, cCall, aevs, aIx, drops, puts, peekOwn, ctName, ctTup, ctCons, ctNil, cSl, coN, coS, cbYes, wipeE, back, ciE, ciR1, ciR2, walkD, isLst, cMt, sets, crs, List.getElem?_cons_zero, List.getElem?_cons_succ, List.set_cons_zero, List.set_cons_succ, List.getD_cons_zero, List.getD_cons_succ, List.length_cons, List.length_nil, Option.some.injEq, Prod.mk.injEq, reduceCtorEq, if_true, if_false, ite_true, ite_false, Bool.false_eq_true, Nat.reduceAdd, Nat.reduceLT, Nat.reduceLeDiff, reduceIte, show isiD ["list", "tuple"] (.bool b) = some (.val (.bool false)) from rfl, show isiD ["bool"] (.bool b) = some (.val (.bool true)) from rfl, show isiD ["str"] (.bool b) = some (.val (.bool false)) from rfl, show isiD ["int"] (.bool b) = some (.val (.bool true)) from rfl,
        show isND (.bool b) .none = some (.val (.bool false)) from rfl, neD_bool, eqD_bool, beq_self_eq_true, Bool.not_true]
    | int b =>
      simp only [sameB, sSeq, sIf, sRet, sNop, cOps, evs, peek, frz, cK, cVar, l1, l2, cbT, cbAnd, cbOr, cbNot, cbTru, cbNm, cIf, cAndV, cOrV, cNotV, cChain, truthV, cvs, cTup, cLst, cDnew, cCall, aevs, aIx, drops, puts, peekOwn, ctName, ctTup, ctCons, ctNil, cSl, coN, coS, cbYes, wipeE, back, ciE, ciR1, ciR2, walkD, isLst, cMt, sets, crs, List.getElem?_cons_zero, List.getElem?_cons_succ, List.set_cons_zero, List.set_cons_succ, List.getD_cons_zero, List.getD_cons_succ, List.length_cons, List.length_nil, Option.some.injEq, Prod.mk.injEq, reduceCtorEq, if_true, if_false, ite_true, ite_false, Bool.false_eq_true, Nat.reduceAdd, Nat.reduceLT, Nat.reduceLeDiff, reduceIte, show isiD ["list", "tuple"] (.int b) = some (.val (.bool false)) from rfl, show isiD ["bool"] (.int b) = some (.val (.bool false)) from rfl, show isiD ["str"] (.int b) = some (.val (.bool false)) from rfl, show isiD ["int"] (.int b) = some (.val (.bool true)) from rfl,
        show isND (.int b) .none = some (.val (.bool false)) from rfl, neD_bool, eqD_int, beq_self_eq_true, Bool.not_true, decide_true]
    | str b =>
      simp only [sameB, sSeq, sIf, sRet, sNop, cOps, evs, peek, frz, cK, cVar, l1, l2, cbT, cbAnd, cbOr, cbNot, cbTru, cbNm, cIf, cAndV, cOrV, cNotV, cChain, truthV, cvs, cTup, cLst, cDnew, cCall, aevs, aIx, drops, puts, peekOwn, ctName, ctTup, ctCons, ctNil, cSl, coN, coS, cbYes, wipeE, back, ciE, ciR1, ciR2, walkD, isLst, cMt, sets, crs, List.getElem?_cons_zero, List.getElem?_cons_succ, List.set_cons_zero, List.set_cons_succ, List.getD_cons_zero, List.getD_cons_succ, List.length_cons, List.length_nil, Option.some.injEq, Prod.mk.injEq, reduceCtorEq, if_true, if_false, ite_true, ite_false, Bool.false_eq_true, Nat.reduceAdd, Nat.reduceLT, Nat.reduceLeDiff, reduceIte, show isiD ["list", "tuple"] (.str b) = some (.val (.bool false)) from rfl, show isiD ["bool"] (.str b) = some (.val (.bool false)) from rfl, show isiD ["str"] (.str b) = some (.val (.bool true)) from rfl,
        show isND (.str b) .none = some (.val (.bool false)) from rfl, neD_bool, eqD_str, beq_self_eq_true, Bool.not_true]
    | list ds => exact same_seq (l := true) h.1 fun d hd => ih d (h.2 d hd)
    | tuple ds => exact same_seq (l := false) h.1 fun d hd => ih d (h.2 d hd)
    | dict ds => exact h.elim
/-- the fuel that the laws take -/
theorem same_ok {d d' : PyData} (h : tame 7 d) (e : d = d') : sameF 8 [d, d'] = some (.val (.bool true), []) := by
  subst e
  exact same_refl 7 d h
end FL

set_option Elab.async false
set_option linter.all false
set_option maxRecDepth 100000
set_option maxHeartbeats 4000000
namespace FL
open PySem PySem.Spec PyProof.Rows L2

/-! ### a comprehension that changes names -/
theorem lcGo_wp {α : Type} {f : α → PyData} {ct : CT} {tt : CB} {el : CV} {vs : List Nat} (P : List α → List PyData → Ev → Prop)
    (hstep : ∀ x xs acc e, P (x :: xs) acc e → ∃ e1, ct (f x) e = some e1 ∧ ∃ k e2, tt e1 = some (k, e2) ∧ (k = false → P xs acc (wipeE e2 vs)) ∧ (k = true → ∃ r e3, el e2 = some (r, e3) ∧ P xs (acc ++ [r]) (wipeE e3 vs))) :
    ∀ (xs : List α) (acc : List PyData) (e : Ev), P xs acc e → ∃ ys e', lcGo ct tt el vs (xs.map f) e = some (ys, e') ∧ P [] (acc ++ ys) e'
  | [], acc, e, h => ⟨[], e, rfl, by rw [List.append_nil]; exact h⟩
  | x :: xs, acc, e, h => by
    obtain ⟨e1, h1, k, e2, h2, h3, h4⟩ := hstep x xs acc e h
    rw [List.map_cons]
    cases k with
    | false =>
      obtain ⟨ys, e', q1, q2⟩ := lcGo_wp P hstep xs acc _ (h3 rfl)
      refine ⟨ys, e', ?_, q2⟩
      rw [lcGo]
      simp only [h1, h2, q1]
    | true =>
      obtain ⟨r, e3, h5, h6⟩ := h4 rfl
      obtain ⟨ys, e', q1, q2⟩ := lcGo_wp P hstep xs (acc ++ [r]) _ h6
      refine ⟨r :: ys, e', ?_, by rw [List.append_assoc] at q2; exact q2⟩
      rw [lcGo]
      simp only [h1, h2, h5, q1]
theorem clc_wp {α : Type} {f : α → PyData} {ci : CI} {ct : CT} {tt : CB} {el : CV} {vs : List Nat} {e e1 : Ev} (xs : List α) (hi : ci e = some (xs.map f, e1)) (hl : xs.length ≤ 16777216) (P : List α → List PyData → Ev → Prop) (h0 : P xs [] (wipeE e1 vs))
    (hstep : ∀ x xs acc e, P (x :: xs) acc e → ∃ e1, ct (f x) e = some e1 ∧ ∃ k e2, tt e1 = some (k, e2) ∧ (k = false → P xs acc (wipeE e2 vs)) ∧ (k = true → ∃ r e3, el e2 = some (r, e3) ∧ P xs (acc ++ [r]) (wipeE e3 vs))) :
    ∃ ys e', cLc ci ct tt el vs e = some (.own (.list ys), back e' e1 vs) ∧ P [] ys e' := by
  obtain ⟨ys, e', h, q⟩ := lcGo_wp P hstep xs [] _ h0
  refine ⟨ys, e', ?_, by simpa using q⟩
  unfold cLc
  rw [hi]
  simp only [List.length_map, hl, if_true, h]
/-! ### ranges of integers -/
def rng (a b : Int) : List Int := (List.range (b - a).toNat).map fun (i : Nat) => a + (i : Int)
theorem rangeD_rng (a b : Int) : rangeD a b = (rng a b).map .int := by
  unfold rangeD rng
  rw [List.map_map]
  rfl
theorem mem_rng {a b x : Int} : x ∈ rng a b ↔ a ≤ x ∧ x < b := by
  unfold rng
  rw [List.mem_map]
  constructor
  · rintro ⟨i, hi, rfl⟩
    rw [List.mem_range] at hi
    omega
  · rintro ⟨h1, h2⟩
    exact ⟨(x - a).toNat, List.mem_range.mpr (by omega), by omega⟩
theorem rng_len (a b : Int) : (rng a b).length = (b - a).toNat := by unfold rng; rw [List.length_map, List.length_range]
theorem rng_nil {a b : Int} (h : b ≤ a) : rng a b = [] := by
  unfold rng
  have : (b - a).toNat = 0 := by omega
  rw [this]
  rfl
theorem rng_cons {a b : Int} (h : a < b) : rng a b = a :: rng (a + 1) b := by
  unfold rng
  have : (b - a).toNat = (b - (a + 1)).toNat + 1 := by omega
  rw [this, List.range_succ_eq_map, List.map_cons, List.map_map]
  congr 1
  · omega
  · apply List.map_congr_left
    intro i _
    show a + ((i + 1 : Nat) : Int) = a + 1 + (i : Int)
    omega
theorem small_in {i : Int} (h1 : -1000000000 ≤ i) (h2 : i ≤ 1000000000) : small i = true := by
  unfold small
  exact decide_eq_true (by omega)
theorem rngI (f : Int → Int) (a b : Int) : (rng a b).map (fun x => PyData.int (f x)) = ((rng a b).map f).map .int := by rw [List.map_map]; rfl
/-! ### rows of integers -/
theorem sumD_ints (ns : List Int) : sumD (.list (ns.map .int)) = some (.val (.int ns.sum)) := by
  have e : intsOf (ns.map .int) = some ns := by
    have := intsOf_map (fun x : Int => x) ns
    simpa using this
  show (match intsOf (ns.map PyData.int) with | some ns => some (Sl.val (.int ns.sum)) | none => none) = _
  rw [e]
theorem allD_bools (ns : List Bool) : allD (.list (ns.map .bool)) = some (.val (.bool (ns.all id))) := by
  have e : blsOf (ns.map .bool) = some ns := by
    have := blsOf_map (fun x : Bool => x) ns
    simpa using this
  show (match blsOf (ns.map PyData.bool) with | some ns => some (Sl.val (.bool (ns.all id))) | none => none) = _
  rw [e]
theorem anyD_bools (ns : List Bool) : anyD (.list (ns.map .bool)) = some (.val (.bool (ns.any id))) := by
  have e : blsOf (ns.map .bool) = some ns := by
    have := blsOf_map (fun x : Bool => x) ns
    simpa using this
  show (match blsOf (ns.map PyData.bool) with | some ns => some (Sl.val (.bool (ns.any id))) | none => none) = _
  rw [e]
theorem allD_map {α : Type} (p : α → Bool) (l : List α) : allD (.list (l.map fun x => PyData.bool (p x))) = some (.val (.bool (l.all p))) := by
  have := allD_bools (l.map p)
  rw [List.map_map] at this
  rw [show (fun x => PyData.bool (p x)) = PyData.bool ∘ p from rfl, this, List.all_map]
  rfl
theorem anyD_map {α : Type} (p : α → Bool) (l : List α) : anyD (.list (l.map fun x => PyData.bool (p x))) = some (.val (.bool (l.any p))) := by
  have := anyD_bools (l.map p)
  rw [List.map_map] at this
  rw [show (fun x => PyData.bool (p x)) = PyData.bool ∘ p from rfl, this, List.any_map]
  rfl
theorem sumD_map {α : Type} (p : α → Int) (l : List α) : sumD (.list (l.map fun x => PyData.int (p x))) = some (.val (.int (l.map p).sum)) := by
  have := sumD_ints (l.map p)
  rw [List.map_map] at this
  exact this
theorem alikes_ints (ns : List Int) : alikes (ns.map .int) = true := by
  unfold alikes
  rw [List.all_eq_true]
  intro x hx
  obtain ⟨i, _, rfl⟩ := List.mem_map.mp hx
  rw [Bool.and_eq_true, Bool.and_eq_true, List.all_eq_true]
  refine ⟨⟨rfl, nice_int _ _⟩, fun y hy => ?_⟩
  obtain ⟨j, _, rfl⟩ := List.mem_map.mp hy
  rw [W.alike]
theorem foldl_min : ∀ (ns : List Int) (a : Int), (ns.foldl min a = a ∨ ns.foldl min a ∈ ns) ∧ ns.foldl min a ≤ a ∧ ∀ x ∈ ns, ns.foldl min a ≤ x
  | [], a => ⟨.inl rfl, Int.le_refl _, fun _ h => by simp at h⟩
  | b :: ns, a => by
    obtain ⟨h1, h2, h3⟩ := foldl_min ns (min a b)
    rw [List.foldl_cons]
    refine ⟨?_, by omega, fun x hx => ?_⟩
    · rcases h1 with h | h
      · rw [h]
        by_cases c : a ≤ b
        · left; omega
        · right
          have : min a b = b := by omega
          rw [this]; exact List.mem_cons_self
      · exact .inr (List.mem_cons_of_mem _ h)
    · rcases List.mem_cons.mp hx with z | z
      · subst z; omega
      · exact h3 x z
theorem minD_of {ns : List Int} {m : Int} (hm : m ∈ ns) (hle : ∀ x ∈ ns, m ≤ x) : minD (.list (ns.map .int)) = some (.val (.int m)) := by
  cases ns with
  | nil => simp at hm
  | cons a ns =>
    show (if alikes ((a :: ns).map PyData.int) = true then some (Sl.val (W.minD (.int a) (ns.map .int))) else none) = _
    rw [alikes_ints, if_pos rfl, W.minD_ints]
    obtain ⟨h1, h2, h3⟩ := foldl_min ns a
    have e : ns.foldl min a = m := by
      have g1 : m ≤ ns.foldl min a := by
        rcases h1 with h | h
        · rw [h]; exact hle a List.mem_cons_self
        · exact hle _ (List.mem_cons_of_mem _ h)
      have g2 : ns.foldl min a ≤ m := by
        rcases List.mem_cons.mp hm with z | z
        · subst z; exact h2
        · exact h3 m z
      omega
    rw [e]
theorem eqv_int (a b : Int) : PyData.eqv (.int a) (.int b) = decide (a = b) := by rw [PyData.eqv]; rfl
theorem any_eqv (a : Int) (ns : List Int) : ((ns.map PyData.int).any fun y => PyData.eqv y (.int a)) = decide (a ∈ ns) := by
  rw [List.any_map]
  induction ns with
  | nil => rfl
  | cons b ns ih =>
    rw [List.any_cons, ih]
    show (PyData.eqv (.int b) (.int a) || _) = _
    rw [eqv_int]
    by_cases h : b = a
    · subst h; simp
    · have h' : ¬ a = b := fun z => h z.symm
      by_cases g : a ∈ ns
      · simp [g]
      · simp [h, h', g]
theorem nice_ints (n : Nat) (ns : List Int) : (ns.map PyData.int).all (nice n) = true := by
  rw [List.all_eq_true]
  intro x hx
  obtain ⟨i, _, rfl⟩ := List.mem_map.mp hx
  exact nice_int _ _
theorem inB_ints (a : Int) (ns : List Int) : inB (.int a) (.list (ns.map .int)) = some (decide (a ∈ ns)) := by
  show (if nice 12 (.int a) = true ∧ (ns.map PyData.int).all (nice 12) = true then some ((ns.map PyData.int).any fun y => PyData.eqv y (.int a)) else none) = _
  rw [if_pos ⟨nice_int _ _, nice_ints _ _⟩, any_eqv]
theorem inB_intsT (a : Int) (ns : List Int) : inB (.int a) (.tuple (ns.map .int)) = some (decide (a ∈ ns)) := by
  show (if nice 12 (.int a) = true ∧ (ns.map PyData.int).all (nice 12) = true then some ((ns.map PyData.int).any fun y => PyData.eqv y (.int a)) else none) = _
  rw [if_pos ⟨nice_int _ _, nice_ints _ _⟩, any_eqv]
/-! ### a dict of integers as keys -/
def keysI (ks : List Int) (v : Int → PyData) : List (PyData × PyData) := ks.map fun k => (.int k, v k)
theorem okKey_I (ks : List Int) (v : Int → PyData) (a : Int) : okKey (keysI ks v) (.int a) = true := by
  unfold okKey keysI
  cases ks <;> rfl
theorem look_I (ks : List Int) (v : Int → PyData) (a : Int) : dLook (keysI ks v) (.int a) = if a ∈ ks then some (v a) else none := by
  unfold dLook keysI
  induction ks with
  | nil => rfl
  | cons k ks ih =>
    rw [List.map_cons, List.find?_cons, eqv_int]
    by_cases h : k = a
    · subst h; simp
    · have h' : ¬ a = k := fun z => h z.symm
      simp only [h, decide_false, List.mem_cons, h', false_or]
      exact ih
theorem inB_dict (ks : List Int) (v : Int → PyData) (a : Int) : inB (.int a) (.dict (keysI ks v)) = some (decide (a ∈ ks)) := by
  show (if okKey (keysI ks v) (.int a) = true then some (dLook (keysI ks v) (.int a)).isSome else none) = _
  rw [okKey_I, if_pos rfl, look_I]
  by_cases h : a ∈ ks <;> simp [h]
theorem keys_I (ks : List Int) (v : Int → PyData) : listD (.dict (keysI ks v)) = some (.own (.list (ks.map .int))) := by
  show some (Sl.own (.list ((keysI ks v).map (·.1)))) = _
  unfold keysI
  rw [List.map_map]
  rfl
end FL

set_option Elab.async false
set_option linter.all false
set_option maxRecDepth 100000
set_option maxHeartbeats 4000000
namespace Law
open PySem PySem.Spec PyProof.Rows L2 FL
def body_times_near : CS :=
  (sRet (cOps (l2 max2D) [.ex (frz (cK (.int 1))), .ex (frz (cOps (l1 negD) [.ex (frz (cOps (l2 fdivD) [.ex (frz (cOps (l2 subD) [.nm 1, .ex (frz (cOps (l2 mulD) [.ex (frz (cK (.int 2))), .nm 0]))])), .ex (frz (cOps (l2 mulD) [.ex (frz (cK (.int 2))), .nm 1]))]))]))]))
def F_times_near : FnD := runB [false, false] 2 body_times_near
def body_miss_of : CS :=
  (sRet (cOps (l1 absD) [.ex (frz (cOps (l2 subD) [.nm 0, .ex (frz (cOps (l2 mulD) [.nm 1, .ex (frz (cCall F_times_near [.v (frz (cVar 0)), .v (frz (cVar 1))]))]))]))]))
def F_miss_of : FnD := runB [false, false] 2 body_miss_of
def E_fitting_units_1 : C :=
  (cOps (l2 leD) [.ex (frz (cCall F_miss_of [.v (frz (cVar 6)), .v (frz (cVar 5))])), .nm 1])
def C_fitting_units_1 : C :=
  (cLc (ciE (frz (cVar 0))) (ctName 6) cbYes (frz E_fitting_units_1) [6])
def B_fitting_units_1 : CS :=
  (sIf (cbT (cOps (l1 allD) [.ex (frz C_fitting_units_1)]))
  (sExpr (cMt true 4 appD [(frz (cVar 5))]))
  sNop)
def W_fitting_units_1 : CS :=
  (sFor (ciR2 (frz (cOps (l2 max2D) [.ex (frz (cK (.int 1))), .nm 2])) (frz (cOps (l2 addD) [.nm 3, .ex (frz (cK (.int 1)))]))) (ctName 5) B_fitting_units_1)
def body_fitting_units : CS :=
  (sSeq (sSet 4 (cLst []))
  (sSeq W_fitting_units_1
  (sRet (cOps (l1 tupD) [.nm 4]))))
def F_fitting_units : FnD := runB [false, false, false, false] 7 body_fitting_units
def body_ratio : CS :=
  (sSeq (sIf (cbT (cOps (l2 ltD) [.nm 1, .ex (frz (cK (.int 0)))]))
  (sPar [0, 1] [(cOps (l1 negD) [.nm 0]), (cOps (l1 negD) [.nm 1])])
  sNop)
  (sSeq (sSet 2 (cOps (l2 gcdD) [.nm 0, .nm 1]))
  (sRet (cTup [(frz (cOps (l2 fdivD) [.nm 0, .nm 2])), (frz (cOps (l2 fdivD) [.nm 1, .nm 2]))]))))
def F_ratio : FnD := runB [false, false] 3 body_ratio
def E_miss_1 : C :=
  (cCall F_miss_of [.v (frz (cVar 2)), .v (frz (cVar 1))])
def C_miss_1 : C :=
  (cLc (ciE (frz (cVar 0))) (ctName 2) cbYes (frz E_miss_1) [2])
def body_miss : CS :=
  (sRet (cOps (l1 sumD) [.ex (frz C_miss_1)]))
def F_miss : FnD := runB [false, false] 3 body_miss
def body_less : CS :=
  (sRet (cOps (l2 ltD) [.ex (frz (cOps (l2 mulD) [.ex (frz (cOps (l2 ixD) [.nm 0, .ex (frz (cK (.int 0)))])), .ex (frz (cOps (l2 ixD) [.nm 1, .ex (frz (cK (.int 1)))]))])), .ex (frz (cOps (l2 mulD) [.ex (frz (cOps (l2 ixD) [.nm 1, .ex (frz (cK (.int 0)))])), .ex (frz (cOps (l2 ixD) [.nm 0, .ex (frz (cK (.int 1)))]))]))]))
def F_less : FnD := runB [false, false] 2 body_less
def B_best_unit_1 : CS :=
  (sSeq (sSet 5 (cCall F_ratio [.v (frz (cCall F_miss [.v (frz (cVar 0)), .v (frz (cVar 4))])), .v (frz (cVar 4))]))
  (sIf (cbOr (cbT (cOps (l2 isND) [.nm 3, .ex (frz (cK .none))])) (cbNot (cbTru (frz (cCall F_less [.v (frz (cOps (l2 ixD) [.nm 3, .ex (frz (cK (.int 0)))])), .v (frz (cVar 5))])))))
  (sSet 3 (cTup [(frz (cVar 5)), (frz (cVar 4))]))
  sNop))
def W_best_unit_1 : CS :=
  (sFor (ciR2 (frz (cVar 1)) (frz (cOps (l2 addD) [.nm 2, .ex (frz (cK (.int 1)))]))) (ctName 4) B_best_unit_1)
def body_best_unit : CS :=
  (sSeq (sSet 3 (cK .none))
  (sSeq W_best_unit_1
  (sRet (cOps (l2 ixD) [.nm 3, .ex (frz (cK (.int 1)))]))))
def F_best_unit : FnD := runB [false, false, false] 6 body_best_unit
def E_law_miss_1 : C :=
  (cOps (l1 absD) [.ex (frz (cOps (l2 subD) [.nm 0, .ex (frz (cOps (l2 mulD) [.nm 1, .nm 2]))]))])
def C_law_miss_1 : C :=
  (cLc (ciR2 (frz (cK (.int 1))) (frz (cOps (l2 addD) [.ex (frz (cOps (l2 fdivD) [.nm 0, .nm 1])), .ex (frz (cK (.int 3)))]))) (ctName 2) cbYes (frz E_law_miss_1) [2])
def body_law_miss : CS :=
  (sRet (cOps (l1 minD) [.ex (frz C_law_miss_1)]))
def F_law_miss : FnD := runB [false, false] 3 body_law_miss
def B_gaps_2 : CS :=
  (sSeq (sPut 3 (frz (cOps (l2 addD) [.nm 5, .nm 4])) (frz (cK (.bool true))))
  (sIf (cbNm 2)
  (sPut 3 (frz (cOps (l2 subD) [.nm 5, .nm 4])) (frz (cK (.bool true))))
  sNop))
def W_gaps_2 : CS :=
  (sFor (ciE (frz (cOps (l1 listD) [.nm 3]))) (ctName 5) B_gaps_2)
def B_gaps_1 : CS :=
  W_gaps_2
def W_gaps_1 : CS :=
  (sFor (ciE (frz (cVar 0))) (ctName 4) B_gaps_1)
def E_gaps_1 : C :=
  (cVar 5)
def T_gaps_1 : CB :=
  (cbT (cOps (l2 notInD) [.nm 5, .nm 3]))
def C_gaps_1 : C :=
  (cLc (ciR2 (frz (cK (.int 1))) (frz (cOps (l2 addD) [.nm 1, .ex (frz (cK (.int 1)))]))) (ctName 5) T_gaps_1 (frz E_gaps_1) [5])
def body_gaps : CS :=
  (sSeq (sSet 3 (cDsp [(frz (cK (.int 0)), frz (cK (.bool true)))]))
  (sSeq W_gaps_1
  (sRet (cOps (l1 tupD) [.ex (frz C_gaps_1)]))))
def F_gaps : FnD := runB [false, false, false] 6 body_gaps
def B_law_1 : CS :=
  (sExpr (cMt true 3 appD [(frz (cOps (l2 max2D) [.ex (frz (cK (.int 1))), .ex (frz (cOps (l2 subD) [.ex (frz (cOps (l2 addD) [.ex (frz (cOps (l2 mulD) [.nm 2, .ex (frz (cOps (l2 addD) [.ex (frz (cK (.int 1))), .ex (frz (cCall nextF [.io 1, .v (frz (cK (.int 6)))]))]))])), .ex (frz (cCall nextF [.io 1, .v (frz (cK (.int 3)))]))])), .ex (frz (cK (.int 1)))]))]))]))
def W_law_1 : CS :=
  (sFor (ciR1 (frz (cOps (l2 addD) [.ex (frz (cK (.int 1))), .ex (frz (cCall nextF [.io 1, .v (frz (cK (.int 6)))]))]))) (ctName 4) B_law_1)
def E_law_2 : C :=
  (cOps (l2 leD) [.ex (frz (cCall F_law_miss [.v (frz (cVar 16)), .v (frz (cVar 10))])), .nm 5])
def C_law_2 : C :=
  (cLc (ciE (frz (cVar 3))) (ctName 16) cbYes (frz E_law_2) [16])
def E_law_1 : C :=
  (cVar 10)
def T_law_1 : CB :=
  (cbT (cOps (l1 allD) [.ex (frz C_law_2)]))
def C_law_1 : C :=
  (cLc (ciR2 (frz (cVar 6)) (frz (cOps (l2 addD) [.nm 7, .ex (frz (cK (.int 1)))]))) (ctName 10) T_law_1 (frz E_law_1) [10])
def E_law_3 : C :=
  (cCall F_law_miss [.v (frz (cVar 16)), .v (frz (cVar 10))])
def C_law_3 : C :=
  (cLc (ciE (frz (cVar 3))) (ctName 16) cbYes (frz E_law_3) [16])
def B_law_2 : CS :=
  (sSeq (sSet 11 (cOps (l1 sumD) [.ex (frz C_law_3)]))
  (sSeq (sIf (cbNot (cbT (cCall (sameF 8) [.v (frz (cCall F_miss [.v (frz (cVar 3)), .v (frz (cVar 10))])), .v (frz (cVar 11))])))
  (sRet (cK (.bool false)))
  sNop)
  (sIf (cbOr (cbT (cOps (l2 isND) [.nm 9, .ex (frz (cK .none))])) (cbT (cOps (l2 leD) [.ex (frz (cOps (l2 mulD) [.nm 11, .ex (frz (cOps (l2 ixD) [.nm 9, .ex (frz (cK (.int 1)))]))])), .ex (frz (cOps (l2 mulD) [.ex (frz (cOps (l2 ixD) [.nm 9, .ex (frz (cK (.int 0)))])), .nm 10]))])))
  (sSet 9 (cTup [(frz (cVar 11)), (frz (cVar 10))]))
  sNop)))
def W_law_2 : CS :=
  (sFor (ciR2 (frz (cVar 6)) (frz (cOps (l2 addD) [.nm 7, .ex (frz (cK (.int 1)))]))) (ctName 10) B_law_2)
def E_law_4 : C :=
  (cOps (l2 addD) [.ex (frz (cK (.int 1))), .ex (frz (cCall nextF [.io 1, .v (frz (cK (.int 14)))]))])
def C_law_4 : C :=
  (cLc (ciR1 (frz (cCall nextF [.io 1, .v (frz (cK (.int 5)))]))) (ctName 4) cbYes (frz E_law_4) [4])
def E_law_5 : C :=
  (cOps (l2 addD) [.nm 17, .nm 16])
def C_law_5 : C :=
  (cLc (ciE (frz (cVar 15))) (ctName 17) cbYes (frz E_law_5) [17])
def E_law_6 : C :=
  (cOps (l2 subD) [.nm 17, .nm 16])
def C_law_6 : C :=
  (cLc (ciE (frz (cVar 15))) (ctName 17) cbYes (frz E_law_6) [17])
def B_law_4 : CS :=
  (sSet 15 (cOps (l2 addD) [.ex (frz (cOps (l2 addD) [.nm 15, .ex (frz C_law_5)])), .ex (frz (cIf (cbNm 14) C_law_6 (cLst [])))]))
def W_law_4 : CS :=
  (sFor (ciE (frz (cVar 12))) (ctName 16) B_law_4)
def E_law_7 : C :=
  (cVar 17)
def T_law_7 : CB :=
  (cbT (cOps (l2 notInD) [.nm 17, .nm 15]))
def C_law_7 : C :=
  (cLc (ciR2 (frz (cK (.int 1))) (frz (cOps (l2 addD) [.nm 13, .ex (frz (cK (.int 1)))]))) (ctName 17) T_law_7 (frz E_law_7) [17])
def B_law_3 : CS :=
  (sSeq (sSet 15 (cLst [(frz (cK (.int 0)))]))
  (sSeq W_law_4
  (sIf (cbNot (cbT (cCall (sameF 8) [.v (frz (cCall F_gaps [.v (frz (cVar 12)), .v (frz (cVar 13)), .v (frz (cVar 14))])), .v (frz (cOps (l1 tupD) [.ex (frz C_law_7)]))])))
  (sRet (cK (.bool false)))
  sNop)))
def W_law_3 : CS :=
  (sFor (ciE (frz (cTup [(frz (cK (.bool false))), (frz (cK (.bool true)))]))) (ctName 14) B_law_3)
def body_law : CS :=
  (sSeq (sSet 2 (cOps (l2 addD) [.ex (frz (cK (.int 2))), .ex (frz (cCall nextF [.io 1, .v (frz (cK (.int 9)))]))]))
  (sSeq (sSet 3 (cLst []))
  (sSeq W_law_1
  (sSeq (sPar [3, 5, 6] [(cOps (l1 tupD) [.nm 3]), (cCall nextF [.io 1, .v (frz (cK (.int 3)))]), (cOps (l2 addD) [.ex (frz (cK (.int 1))), .ex (frz (cCall nextF [.io 1, .v (frz (cK (.int 4)))]))])])
  (sSeq (sSet 7 (cOps (l2 addD) [.nm 6, .ex (frz (cCall nextF [.io 1, .v (frz (cK (.int 12)))]))]))
  (sSeq (sSet 8 C_law_1)
  (sSeq (sIf (cbNot (cbT (cCall (sameF 8) [.v (frz (cCall F_fitting_units [.v (frz (cVar 3)), .v (frz (cVar 5)), .v (frz (cVar 6)), .v (frz (cVar 7))])), .v (frz (cOps (l1 tupD) [.nm 8]))])))
  (sRet (cK (.bool false)))
  sNop)
  (sSeq (sSet 9 (cK .none))
  (sSeq W_law_2
  (sSeq (sIf (cbNot (cbT (cCall (sameF 8) [.v (frz (cCall F_best_unit [.v (frz (cVar 3)), .v (frz (cVar 6)), .v (frz (cVar 7))])), .v (frz (cOps (l2 ixD) [.nm 9, .ex (frz (cK (.int 1)))]))])))
  (sRet (cK (.bool false)))
  sNop)
  (sSeq (sPar [12, 13] [(cOps (l1 tupD) [.ex (frz C_law_4)]), (cCall nextF [.io 1, .v (frz (cK (.int 40)))])])
  (sSeq W_law_3
  (sRet (cK (.bool true)))))))))))))))
end Law

set_option Elab.async false
set_option linter.all false
set_option maxRecDepth 100000
set_option maxHeartbeats 4000000
namespace Law
open PySem PySem.Spec PyProof.Rows L2 FL
abbrev topS (i : Nat) : Stmt := PySem.Challenge.pw_digworks_k22_weights_and_units.main.body.getD i (.Pass ⟨0, 0, 0, 0⟩)
abbrev s_law_draw : Stmt := topS 12
abbrev s_law_next : Stmt := topS 13
abbrev s_law_same : Stmt := topS 14
abbrev s_times_near : Stmt := topS 5
abbrev s_miss_of : Stmt := topS 6
abbrev s_fitting_units : Stmt := topS 7
abbrev s_ratio : Stmt := topS 2
abbrev s_miss : Stmt := topS 8
abbrev s_less : Stmt := topS 3
abbrev s_best_unit : Stmt := topS 9
abbrev s_law_miss : Stmt := topS 15
abbrev s_gaps : Stmt := topS 10
abbrev s_law : Stmt := topS 16
structure Ad where
  f_law_draw : Addr
  d_law_draw : FuncData
  f_law_next : Addr
  d_law_next : FuncData
  f_law_same : Addr
  d_law_same : FuncData
  f_times_near : Addr
  d_times_near : FuncData
  f_miss_of : Addr
  d_miss_of : FuncData
  f_fitting_units : Addr
  d_fitting_units : FuncData
  f_ratio : Addr
  d_ratio : FuncData
  f_miss : Addr
  d_miss : FuncData
  f_less : Addr
  d_less : FuncData
  f_best_unit : Addr
  d_best_unit : FuncData
  f_law_miss : Addr
  d_law_miss : FuncData
  f_gaps : Addr
  d_gaps : FuncData
  f_law : Addr
  d_law : FuncData
structure Z (K : PySem.W.Frag) (mg : Str → Option Value) (A : Ad) : Prop where
  k_law_draw : Fun K "_law_draw" "_law_draw" s_law_draw A.f_law_draw A.d_law_draw
  g_law_draw : mg "_law_draw" = some (.ref A.f_law_draw)
  k_law_next : Fun K "_law_next" "_law_next" s_law_next A.f_law_next A.d_law_next
  g_law_next : mg "_law_next" = some (.ref A.f_law_next)
  k_law_same : Fun K "_law_same" "_law_same" s_law_same A.f_law_same A.d_law_same
  g_law_same : mg "_law_same" = some (.ref A.f_law_same)
  k_times_near : Fun K "times_near" "times_near" s_times_near A.f_times_near A.d_times_near
  g_times_near : mg "times_near" = some (.ref A.f_times_near)
  k_miss_of : Fun K "miss_of" "miss_of" s_miss_of A.f_miss_of A.d_miss_of
  g_miss_of : mg "miss_of" = some (.ref A.f_miss_of)
  k_fitting_units : Fun K "fitting_units" "fitting_units" s_fitting_units A.f_fitting_units A.d_fitting_units
  g_fitting_units : mg "fitting_units" = some (.ref A.f_fitting_units)
  k_ratio : Fun K "ratio" "ratio" s_ratio A.f_ratio A.d_ratio
  g_ratio : mg "ratio" = some (.ref A.f_ratio)
  k_miss : Fun K "miss" "miss" s_miss A.f_miss A.d_miss
  g_miss : mg "miss" = some (.ref A.f_miss)
  k_less : Fun K "less" "less" s_less A.f_less A.d_less
  g_less : mg "less" = some (.ref A.f_less)
  k_best_unit : Fun K "best_unit" "best_unit" s_best_unit A.f_best_unit A.d_best_unit
  g_best_unit : mg "best_unit" = some (.ref A.f_best_unit)
  k_law_miss : Fun K "_law_miss" "_law_miss" s_law_miss A.f_law_miss A.d_law_miss
  g_law_miss : mg "_law_miss" = some (.ref A.f_law_miss)
  k_gaps : Fun K "gaps" "gaps" s_gaps A.f_gaps A.d_gaps
  g_gaps : mg "gaps" = some (.ref A.f_gaps)
  k_law : Fun K "law" "law" s_law A.f_law A.d_law
  g_law : mg "law" = some (.ref A.f_law)
  n_abs : mg "abs" = none
  n_all : mg "all" = none
  n_bool : mg "bool" = none
  n_int : mg "int" = none
  n_isinstance : mg "isinstance" = none
  n_len : mg "len" = none
  n_list : mg "list" = none
  n_max : mg "max" = none
  n_min : mg "min" = none
  n_range : mg "range" = none
  n_str : mg "str" = none
  n_sum : mg "sum" = none
  n_tuple : mg "tuple" = none
  u_gcd : mg "gcd" = some (.builtin "math.gcd")
section
variable {P : Program} {w : World} {K : PySem.W.Frag} {mg : Str → Option Value} {base : Heap} {A : Ad}
theorem b_law_draw (z : Z K mg A) : Binds K A.d_law_draw ["script"] [] := z.k_law_draw.binds fun _ _ _ _ _ _ us hl => match us, hl with | [_], _ => rfl
theorem b_law_next (z : Z K mg A) : Binds K A.d_law_next ["draw", "many"] [] := z.k_law_next.binds fun _ _ _ _ _ _ us hl => match us, hl with | [_, _], _ => rfl
theorem b_law_same (z : Z K mg A) : Binds K A.d_law_same ["actual", "due"] [] := z.k_law_same.binds fun _ _ _ _ _ _ us hl => match us, hl with | [_, _], _ => rfl
theorem b_times_near (z : Z K mg A) : Binds K A.d_times_near ["weight", "unit"] [] := z.k_times_near.binds fun _ _ _ _ _ _ us hl => match us, hl with | [_, _], _ => rfl
theorem b_miss_of (z : Z K mg A) : Binds K A.d_miss_of ["weight", "unit"] [] := z.k_miss_of.binds fun _ _ _ _ _ _ us hl => match us, hl with | [_, _], _ => rfl
theorem b_fitting_units (z : Z K mg A) : Binds K A.d_fitting_units ["weights", "slip", "low", "high"] [] := z.k_fitting_units.binds fun _ _ _ _ _ _ us hl => match us, hl with | [_, _, _, _], _ => rfl
theorem b_ratio (z : Z K mg A) : Binds K A.d_ratio ["number", "by"] [] := z.k_ratio.binds fun _ _ _ _ _ _ us hl => match us, hl with | [_, _], _ => rfl
theorem b_miss (z : Z K mg A) : Binds K A.d_miss ["weights", "unit"] [] := z.k_miss.binds fun _ _ _ _ _ _ us hl => match us, hl with | [_, _], _ => rfl
theorem b_less (z : Z K mg A) : Binds K A.d_less ["one", "other"] [] := z.k_less.binds fun _ _ _ _ _ _ us hl => match us, hl with | [_, _], _ => rfl
theorem b_best_unit (z : Z K mg A) : Binds K A.d_best_unit ["weights", "low", "high"] [] := z.k_best_unit.binds fun _ _ _ _ _ _ us hl => match us, hl with | [_, _, _], _ => rfl
theorem b_law_miss (z : Z K mg A) : Binds K A.d_law_miss ["weight", "unit"] [] := z.k_law_miss.binds fun _ _ _ _ _ _ us hl => match us, hl with | [_, _], _ => rfl
theorem b_gaps (z : Z K mg A) : Binds K A.d_gaps ["weights", "bound", "both"] [] := z.k_gaps.binds fun _ _ _ _ _ _ us hl => match us, hl with | [_, _, _], _ => rfl
theorem b_law (z : Z K mg A) : Binds K A.d_law ["script"] [] := z.k_law.binds fun _ _ _ _ _ _ us hl => match us, hl with | [_], _ => rfl
theorem sc_law_draw : FnScope ["script"] ["script"] (defScope s_law_draw) := ⟨rfl, rfl, rfl, by decide +kernel, rfl, by decide +kernel, by decide +kernel⟩
theorem ok_law_draw (z : Z K mg A) : FnOk P w K mg base CX0 1 A.f_law_draw A.d_law_draw ["script"] (spDraw K) :=
  draw_ok z.k_law_draw sc_law_draw z.n_list fun cdv A' outer s H E => pss_one (ps_ret (pe_lst (pa_cons (pe_callTy call_list_of (by rfl) z.n_list bt_list (pa_cons (pv 0) pa_nil)) (pa_cons pe_int (pa_cons pe_int (pa_cons pe_int pa_nil))))))
theorem sc_law_next : FnScope ["draw", "many", "found", "cell"] ["draw", "many"] (defScope s_law_next) := ⟨rfl, rfl, rfl, by decide +kernel, rfl, by decide +kernel, by decide +kernel⟩
theorem ok_law_next (z : Z K mg A) : FnOk P w K mg base CX0 1 A.f_law_next A.d_law_next ["draw", "many"] (spF K [true, false] nextF) :=
  have sc := sc_law_next
  fl_ok z.k_law_next sc [true, false] (body := nextB) rfl fun cdv A' outer s H E hr =>
      (fss_cons (fs_if (ft_cmp (d_gt (hu_r hr)) (po_ex (fe_ix (hu_r hr) (po_nm (pv 0)) (po_ex fe_int) (fun _ _ => rfl))) (po_ex fe_int) (nomark _))
      (fss_cons (fs_set (i := 2) sc.nd rfl (by first | exact .inl rfl | exact .inr rfl) (fe_bin d_mod (po_ex (fe_callTy b_int (by rfl) z.n_int bt_int (fa_cons (po_ex (fe_ix (hu_r hr) (po_nm (pv 0)) (po_ex fe_int) (fun _ _ => rfl))) fa_nil))) (po_nm (pv 1))))
      (fss_cons (fs_put (hu_r hr) (pv 0) fe_int (fe_bin d_fdiv (po_ex (fe_ix (hu_r hr) (po_nm (pv 0)) (po_ex fe_int) (fun _ _ => rfl))) (po_nm (pv 1))))
      (fss_one (fs_ret (fe_var (pv 2))))))
      fss_nil)
      (fss_cons (fs_if (ft_cmp (d_lt (hu_r hr)) (po_ex (fe_ix (hu_r hr) (po_nm (pv 0)) (po_ex fe_int) (fun _ _ => rfl))) (po_ex (fe_callB b_len (by rfl) z.n_len bt_len (fa_cons (po_ex (fe_ix (hu_r hr) (po_nm (pv 0)) (po_ex fe_int) (fun _ _ => rfl))) fa_nil))) (nomark _))
      (fss_cons (fs_set (i := 3) sc.nd rfl (by first | exact .inl rfl | exact .inr rfl) (fe_callB b_abs (by rfl) z.n_abs bt_abs (fa_cons (po_ex (fe_ix (hu_r hr) (po_ex (fe_ix (hu_r hr) (po_nm (pv 0)) (po_ex fe_int) (fun _ _ => rfl))) (po_ex (fe_ix (hu_r hr) (po_nm (pv 0)) (po_ex fe_int) (fun _ _ => rfl))) (fun _ _ => rfl))) fa_nil)))
      (fss_cons (fs_put (hu_r hr) (pv 0) fe_int (fe_bin d_add (po_ex (fe_ix (hu_r hr) (po_nm (pv 0)) (po_ex fe_int) (fun _ _ => rfl))) (po_ex fe_int)))
      (fss_cons (fs_if (ft_cmp (d_ge (hu_r hr)) (po_nm (pv 3)) (po_ex (fe_bin d_pow (po_ex fe_int) (po_ex fe_int))) (nomark _))
      (fss_cons (fs_put (hu_r hr) (pv 0) fe_int (fe_bin d_fdiv (po_nm (pv 3)) (po_nm (pv 1))))
      (fss_one (fs_ret (fe_bin d_mod (po_ex (fe_callTy b_int (by rfl) z.n_int bt_int (fa_cons (po_nm (pv 3)) fa_nil))) (po_nm (pv 1))))))
      fss_nil)
      (fss_one (fs_put (hu_r hr) (pv 0) fe_int (fe_bin d_mod (po_ex (fe_callTy b_int (by rfl) z.n_int bt_int (fa_cons (po_ex (fe_bin d_add (po_ex (fe_bin d_add (po_ex (fe_bin d_mul (po_ex (fe_ix (hu_r hr) (po_nm (pv 0)) (po_ex fe_int) (fun _ _ => rfl))) (po_ex fe_int))) (po_nm (pv 3)))) (po_ex fe_int))) fa_nil))) (po_ex fe_int)))))))
      (fss_one (fs_put (hu_r hr) (pv 0) fe_int (fe_bin d_mod (po_ex (fe_callTy b_int (by rfl) z.n_int bt_int (fa_cons (po_ex (fe_bin d_add (po_ex (fe_bin d_mul (po_ex (fe_ix (hu_r hr) (po_nm (pv 0)) (po_ex fe_int) (fun _ _ => rfl))) (po_ex fe_int))) (po_ex fe_int))) fa_nil))) (po_ex fe_int)))))
      (fss_one (fs_ret (fe_bin d_mod (po_ex (fe_bin d_fdiv (po_ex (fe_callTy b_int (by rfl) z.n_int bt_int (fa_cons (po_ex (fe_bin d_mod (po_ex (fe_bin d_mul (po_ex (fe_ix (hu_r hr) (po_nm (pv 0)) (po_ex fe_int) (fun _ _ => rfl))) (po_ex fe_int))) (po_ex fe_int))) fa_nil))) (po_ex fe_int))) (po_nm (pv 1)))))))
theorem sc_law_same : FnScope ["actual", "due", "k"] ["actual", "due"] (defScope s_law_same) := ⟨rfl, rfl, rfl, by decide +kernel, rfl, by decide +kernel, by decide +kernel⟩
theorem ok_law_same (z : Z K mg A) : ∀ n, FnOk P w K mg base CX0 (0 + n) A.f_law_same A.d_law_same ["actual", "due"] (spF K [false, false] (sameF n))
  | 0 => spF_none rfl
  | n + 1 => by
    have G := ok_law_same z n
    have sc := sc_law_same
    exact fl_ok z.k_law_same sc [false, false] (body := sameB (sameF n)) rfl fun cdv A' outer s H E hr =>
      (fss_cons (fs_if (ft_val (fe_isi2 (c := "list") (d := "tuple") (po_nm (pv 1)) (pe_ty (by rfl) z.n_list bt_list) (pe_ty (by rfl) z.n_tuple bt_tuple) (by rfl) z.n_isinstance bt_isinstance))
      (fss_cons (fs_if (ft_bool (fw_or (ft_cmp (d_ne (hu_r hr)) (po_ex (fe_isi (c := "list") (po_nm (pv 1)) (pe_ty (by rfl) z.n_list bt_list) (by rfl) z.n_isinstance bt_isinstance)) (po_ex (fe_isi (c := "list") (po_nm (pv 0)) (pe_ty (by rfl) z.n_list bt_list) (by rfl) z.n_isinstance bt_isinstance)) (nomark _)) (fw_or1 (ft_cmp (d_ne (hu_r hr)) (po_ex (fe_isi (c := "tuple") (po_nm (pv 1)) (pe_ty (by rfl) z.n_tuple bt_tuple) (by rfl) z.n_isinstance bt_isinstance)) (po_ex (fe_isi (c := "tuple") (po_nm (pv 0)) (pe_ty (by rfl) z.n_tuple bt_tuple) (by rfl) z.n_isinstance bt_isinstance)) (nomark _)))))
      (fss_one (fs_ret fe_bl))
      fss_nil)
      (fss_cons (fs_if (ft_cmp (d_ne (hu_r hr)) (po_ex (fe_callB b_len (by rfl) z.n_len bt_len (fa_cons (po_nm (pv 0)) fa_nil))) (po_ex (fe_callB b_len (by rfl) z.n_len bt_len (fa_cons (po_nm (pv 1)) fa_nil))) (nomark _))
      (fss_one (fs_ret fe_bl))
      fss_nil)
      (fss_one (fs_ret (fe_callB (b_all rfl) (by rfl) z.n_all bt_all (fa_cons (po_ex (fe_lc (own := [("k", 2)]) rfl sc.nd (fi_r1 (fe_callB b_len (by rfl) z.n_len bt_len (fa_cons (po_nm (pv 1)) fa_nil)) (by rfl) z.n_range) (blkOk_by (N := ["actual", "due", "k"]) (sc := defScope s_law_same) (by decide +kernel)) (fun _ _ _ _ _ => (fg_name (pg_name (i := 2) sc.nd rfl (by first | exact .inl rfl | exact .inr rfl)))) (fun _ _ _ _ _ => fts_nil) (fun _ _ _ _ _ => (fe_call G (hr.mono (Nat.le_refl _)) (by rfl) z.g_law_same z.k_law_same.kp (b_law_same z) (ao_v (fe_ix (hu_r hr) (po_nm (pv 0)) (po_nm (pv 2)) (fun _ _ => rfl)) (ao_v (fe_ix (hu_r hr) (po_nm (pv 1)) (po_nm (pv 2)) (fun _ _ => rfl)) ao_nil)))) (by decide))) fa_nil))))))
      fss_nil)
      (fss_cons (fs_if (ft_cmp d_isN (po_nm (pv 1)) (po_ex fe_non) (nomark _))
      (fss_one (fs_ret (fe_cmp d_isN (po_nm (pv 0)) (po_ex fe_non) (nomark _))))
      fss_nil)
      (fss_cons (fs_if (ft_cmp (d_ne (hu_r hr)) (po_ex (fe_isi (c := "bool") (po_nm (pv 1)) (pe_ty (by rfl) z.n_bool bt_bool) (by rfl) z.n_isinstance bt_isinstance)) (po_ex (fe_isi (c := "bool") (po_nm (pv 0)) (pe_ty (by rfl) z.n_bool bt_bool) (by rfl) z.n_isinstance bt_isinstance)) (nomark _))
      (fss_one (fs_ret fe_bl))
      fss_nil)
      (fss_cons (fs_if (ft_val (fe_isi (c := "str") (po_nm (pv 1)) (pe_ty (by rfl) z.n_str bt_str) (by rfl) z.n_isinstance bt_isinstance))
      (fss_one (fs_ret (fe_and (fe_isi (c := "str") (po_nm (pv 0)) (pe_ty (by rfl) z.n_str bt_str) (by rfl) z.n_isinstance bt_isinstance) (fe_one (fe_cmp (d_eq (hu_r hr)) (po_nm (pv 0)) (po_nm (pv 1)) (nomark _))))))
      fss_nil)
      (fss_one (fs_ret (fe_and (fe_isi (c := "int") (po_nm (pv 0)) (pe_ty (by rfl) z.n_int bt_int) (by rfl) z.n_isinstance bt_isinstance) (fe_one (fe_cmp (d_eq (hu_r hr)) (po_nm (pv 0)) (po_nm (pv 1)) (nomark _))))))))))
theorem sc_times_near : FnScope ["weight", "unit"] ["weight", "unit"] (defScope s_times_near) := ⟨rfl, rfl, rfl, by decide +kernel, rfl, by decide +kernel, by decide +kernel⟩
theorem ok_times_near (z : Z K mg A) : FnOk P w K mg base CX0 1 A.f_times_near A.d_times_near ["weight", "unit"] (spF K [false, false] F_times_near) :=
  have sc := sc_times_near
  fl_ok z.k_times_near sc [false, false] (body := body_times_near) rfl fun cdv A' outer s H E hr =>
      (fss_one (fs_ret (fe_callB (b_max2 rfl) (by rfl) z.n_max bt_max (fa_cons (po_ex fe_int) (fa_cons (po_ex (fe_un d_neg (po_ex (fe_bin d_fdiv (po_ex (fe_bin d_sub (po_nm (pv 1)) (po_ex (fe_bin d_mul (po_ex fe_int) (po_nm (pv 0)))))) (po_ex (fe_bin d_mul (po_ex fe_int) (po_nm (pv 1)))))))) fa_nil)))))
theorem sc_miss_of : FnScope ["weight", "unit"] ["weight", "unit"] (defScope s_miss_of) := ⟨rfl, rfl, rfl, by decide +kernel, rfl, by decide +kernel, by decide +kernel⟩
theorem ok_miss_of (z : Z K mg A) : FnOk P w K mg base CX0 2 A.f_miss_of A.d_miss_of ["weight", "unit"] (spF K [false, false] F_miss_of) :=
  have sc := sc_miss_of
  fl_ok z.k_miss_of sc [false, false] (body := body_miss_of) rfl fun cdv A' outer s H E hr =>
      (fss_one (fs_ret (fe_callB b_abs (by rfl) z.n_abs bt_abs (fa_cons (po_ex (fe_bin d_sub (po_nm (pv 0)) (po_ex (fe_bin d_mul (po_nm (pv 1)) (po_ex (fe_call (ok_times_near z) (hr.mono (by decide)) (by rfl) z.g_times_near z.k_times_near.kp (b_times_near z) (ao_v (fe_var (pv 0)) (ao_v (fe_var (pv 1)) ao_nil)))))))) fa_nil))))
theorem sc_fitting_units : FnScope ["weights", "slip", "low", "high", "found", "unit", "weight"] ["weights", "slip", "low", "high"] (defScope s_fitting_units) := ⟨rfl, rfl, rfl, by decide +kernel, rfl, by decide +kernel, by decide +kernel⟩
theorem ok_fitting_units (z : Z K mg A) : FnOk P w K mg base CX0 3 A.f_fitting_units A.d_fitting_units ["weights", "slip", "low", "high"] (spF K [false, false, false, false] F_fitting_units) :=
  have sc := sc_fitting_units
  fl_ok z.k_fitting_units sc [false, false, false, false] (body := body_fitting_units) rfl fun cdv A' outer s H E hr =>
      (fss_cons (fs_set (i := 4) sc.nd rfl (by first | exact .inl rfl | exact .inr rfl) (fe_lst fv_nil))
      (fss_cons (fs_for PassesOwn.never rfl (fi_r2 (fe_callB (b_max2 rfl) (by rfl) z.n_max bt_max (fa_cons (po_ex fe_int) (fa_cons (po_nm (pv 2)) fa_nil))) (fe_bin d_add (po_nm (pv 3)) (po_ex fe_int)) (by rfl) z.n_range) (fg_name (pg_name (i := 5) sc.nd rfl (by first | exact .inl rfl | exact .inr rfl)))
      (fss_one (fs_if (ft_val (fe_callB (b_all rfl) (by rfl) z.n_all bt_all (fa_cons (po_ex (fe_lc (own := [("weight", 6)]) rfl sc.nd (fi_seq (fe_var (pv 0))) (blkOk_by (N := ["weights", "slip", "low", "high", "found", "unit", "weight"]) (sc := defScope s_fitting_units) (by decide +kernel)) (fun _ _ _ _ _ => (fg_name (pg_name (i := 6) sc.nd rfl (by first | exact .inl rfl | exact .inr rfl)))) (fun _ _ _ _ _ => fts_nil) (fun _ _ _ _ _ => (fe_cmp (d_le (hu_r hr)) (po_ex (fe_call (ok_miss_of z) (hr.mono (by decide)) (by rfl) z.g_miss_of z.k_miss_of.kp (b_miss_of z) (ao_v (fe_var (pv 6)) (ao_v (fe_var (pv 5)) ao_nil)))) (po_nm (pv 1)) (nomark _))) (by decide))) fa_nil)))
      (fss_one (fs_expr (fe_mt (lst := true) PySem.F.plainAttrs_list PySem.F.slot_list_append PySem.F.type_list_append m_append (pv 4) (fv_cons (fe_var (pv 5)) fv_nil))))
      fss_nil)))
      (fss_one (fs_ret (fe_callTy b_tuple (by rfl) z.n_tuple bt_tuple (fa_cons (po_nm (pv 4)) fa_nil))))))
theorem sc_ratio : FnScope ["number", "by", "common"] ["number", "by"] (defScope s_ratio) := ⟨rfl, rfl, rfl, by decide +kernel, rfl, by decide +kernel, by decide +kernel⟩
theorem ok_ratio (z : Z K mg A) : FnOk P w K mg base CX0 1 A.f_ratio A.d_ratio ["number", "by"] (spF K [false, false] F_ratio) :=
  have sc := sc_ratio
  fl_ok z.k_ratio sc [false, false] (body := body_ratio) rfl fun cdv A' outer s H E hr =>
      (fss_cons (fs_if (ft_cmp (d_lt (hu_r hr)) (po_nm (pv 1)) (po_ex fe_int) (nomark _))
      (fss_one (by first | exact (fs_par2 (i := 0) (j := 1) rfl sc.nd rfl rfl rfl rfl (fr_cons (fe_un d_neg (po_nm (pv 0))) (fr_cons (fe_un d_neg (po_nm (pv 1))) fr_nil)) rfl) | exact (fs_parC rfl (fr_cons (fe_un d_neg (po_nm (pv 0))) (fr_cons (fe_un d_neg (po_nm (pv 1))) fr_nil)) (fn_cons (pg_name (i := 0) sc.nd rfl (by first | exact .inl rfl | exact .inr rfl)) (fn_cons (pg_name (i := 1) sc.nd rfl (by first | exact .inl rfl | exact .inr rfl)) fn_nil)))))
      fss_nil)
      (fss_cons (fs_set (i := 2) sc.nd rfl (by first | exact .inl rfl | exact .inr rfl) (fe_callFun b_gcd (by rfl) z.u_gcd (fa_cons (po_nm (pv 0)) (fa_cons (po_nm (pv 1)) fa_nil))))
      (fss_one (fs_ret (fe_tup (fv_cons (fe_bin d_fdiv (po_nm (pv 0)) (po_nm (pv 2))) (fv_cons (fe_bin d_fdiv (po_nm (pv 1)) (po_nm (pv 2))) fv_nil)))))))
theorem sc_miss : FnScope ["weights", "unit", "weight"] ["weights", "unit"] (defScope s_miss) := ⟨rfl, rfl, rfl, by decide +kernel, rfl, by decide +kernel, by decide +kernel⟩
theorem ok_miss (z : Z K mg A) : FnOk P w K mg base CX0 3 A.f_miss A.d_miss ["weights", "unit"] (spF K [false, false] F_miss) :=
  have sc := sc_miss
  fl_ok z.k_miss sc [false, false] (body := body_miss) rfl fun cdv A' outer s H E hr =>
      (fss_one (fs_ret (fe_callB (b_sum rfl) (by rfl) z.n_sum bt_sum (fa_cons (po_ex (fe_lc (own := [("weight", 2)]) rfl sc.nd (fi_seq (fe_var (pv 0))) (blkOk_by (N := ["weights", "unit", "weight"]) (sc := defScope s_miss) (by decide +kernel)) (fun _ _ _ _ _ => (fg_name (pg_name (i := 2) sc.nd rfl (by first | exact .inl rfl | exact .inr rfl)))) (fun _ _ _ _ _ => fts_nil) (fun _ _ _ _ _ => (fe_call (ok_miss_of z) (hr.mono (by decide)) (by rfl) z.g_miss_of z.k_miss_of.kp (b_miss_of z) (ao_v (fe_var (pv 2)) (ao_v (fe_var (pv 1)) ao_nil)))) (by decide))) fa_nil))))
theorem sc_less : FnScope ["one", "other"] ["one", "other"] (defScope s_less) := ⟨rfl, rfl, rfl, by decide +kernel, rfl, by decide +kernel, by decide +kernel⟩
theorem ok_less (z : Z K mg A) : FnOk P w K mg base CX0 1 A.f_less A.d_less ["one", "other"] (spF K [false, false] F_less) :=
  have sc := sc_less
  fl_ok z.k_less sc [false, false] (body := body_less) rfl fun cdv A' outer s H E hr =>
      (fss_one (fs_ret (fe_cmp (d_lt (hu_r hr)) (po_ex (fe_bin d_mul (po_ex (fe_ix (hu_r hr) (po_nm (pv 0)) (po_ex fe_int) (fun _ _ => rfl))) (po_ex (fe_ix (hu_r hr) (po_nm (pv 1)) (po_ex fe_int) (fun _ _ => rfl))))) (po_ex (fe_bin d_mul (po_ex (fe_ix (hu_r hr) (po_nm (pv 1)) (po_ex fe_int) (fun _ _ => rfl))) (po_ex (fe_ix (hu_r hr) (po_nm (pv 0)) (po_ex fe_int) (fun _ _ => rfl))))) (nomark _))))
theorem sc_best_unit : FnScope ["weights", "low", "high", "best", "unit", "told"] ["weights", "low", "high"] (defScope s_best_unit) := ⟨rfl, rfl, rfl, by decide +kernel, rfl, by decide +kernel, by decide +kernel⟩
theorem ok_best_unit (z : Z K mg A) : FnOk P w K mg base CX0 4 A.f_best_unit A.d_best_unit ["weights", "low", "high"] (spF K [false, false, false] F_best_unit) :=
  have sc := sc_best_unit
  fl_ok z.k_best_unit sc [false, false, false] (body := body_best_unit) rfl fun cdv A' outer s H E hr =>
      (fss_cons (fs_set (i := 3) sc.nd rfl (by first | exact .inl rfl | exact .inr rfl) fe_non)
      (fss_cons (fs_for PassesOwn.never rfl (fi_r2 (fe_var (pv 1)) (fe_bin d_add (po_nm (pv 2)) (po_ex fe_int)) (by rfl) z.n_range) (fg_name (pg_name (i := 4) sc.nd rfl (by first | exact .inl rfl | exact .inr rfl)))
      (fss_cons (fs_set (i := 5) sc.nd rfl (by first | exact .inl rfl | exact .inr rfl) (fe_call (ok_ratio z) (hr.mono (by decide)) (by rfl) z.g_ratio z.k_ratio.kp (b_ratio z) (ao_v (fe_call (ok_miss z) (hr.mono (by decide)) (by rfl) z.g_miss z.k_miss.kp (b_miss z) (ao_v (fe_var (pv 0)) (ao_v (fe_var (pv 4)) ao_nil))) (ao_v (fe_var (pv 4)) ao_nil))))
      (fss_one (fs_if (ft_bool (fw_or (ft_cmp d_isN (po_nm (pv 3)) (po_ex fe_non) (nomark _)) (fw_or1 (ft_not (ft_tru (fe_call (ok_less z) (hr.mono (by decide)) (by rfl) z.g_less z.k_less.kp (b_less z) (ao_v (fe_ix (hu_r hr) (po_nm (pv 3)) (po_ex fe_int) (fun _ _ => rfl)) (ao_v (fe_var (pv 5)) ao_nil))))))))
      (fss_one (fs_set (i := 3) sc.nd rfl (by first | exact .inl rfl | exact .inr rfl) (fe_tup (fv_cons (fe_var (pv 5)) (fv_cons (fe_var (pv 4)) fv_nil)))))
      fss_nil))))
      (fss_one (fs_ret (fe_ix (hu_r hr) (po_nm (pv 3)) (po_ex fe_int) (fun _ _ => rfl))))))
theorem sc_law_miss : FnScope ["weight", "unit", "times"] ["weight", "unit"] (defScope s_law_miss) := ⟨rfl, rfl, rfl, by decide +kernel, rfl, by decide +kernel, by decide +kernel⟩
theorem ok_law_miss (z : Z K mg A) : FnOk P w K mg base CX0 1 A.f_law_miss A.d_law_miss ["weight", "unit"] (spF K [false, false] F_law_miss) :=
  have sc := sc_law_miss
  fl_ok z.k_law_miss sc [false, false] (body := body_law_miss) rfl fun cdv A' outer s H E hr =>
      (fss_one (fs_ret (fe_callB (b_min rfl (hu_r hr)) (by rfl) z.n_min bt_min (fa_cons (po_ex (fe_lc (own := [("times", 2)]) rfl sc.nd (fi_r2 fe_int (fe_bin d_add (po_ex (fe_bin d_fdiv (po_nm (pv 0)) (po_nm (pv 1)))) (po_ex fe_int)) (by rfl) z.n_range) (blkOk_by (N := ["weight", "unit", "times"]) (sc := defScope s_law_miss) (by decide +kernel)) (fun _ _ _ _ _ => (fg_name (pg_name (i := 2) sc.nd rfl (by first | exact .inl rfl | exact .inr rfl)))) (fun _ _ _ _ _ => fts_nil) (fun _ _ _ _ _ => (fe_callB b_abs (by rfl) z.n_abs bt_abs (fa_cons (po_ex (fe_bin d_sub (po_nm (pv 0)) (po_ex (fe_bin d_mul (po_nm (pv 1)) (po_nm (pv 2)))))) fa_nil))) (by decide))) fa_nil))))
theorem sc_gaps : FnScope ["weights", "bound", "both", "reached", "weight", "number"] ["weights", "bound", "both"] (defScope s_gaps) := ⟨rfl, rfl, rfl, by decide +kernel, rfl, by decide +kernel, by decide +kernel⟩
theorem ok_gaps (z : Z K mg A) : FnOk P w K mg base CX0 1 A.f_gaps A.d_gaps ["weights", "bound", "both"] (spF K [false, false, false] F_gaps) :=
  have sc := sc_gaps
  fl_ok z.k_gaps sc [false, false, false] (body := body_gaps) rfl fun cdv A' outer s H E hr =>
      (fss_cons (fs_set (i := 3) sc.nd rfl (by first | exact .inl rfl | exact .inr rfl) (fe_dsp (fd_cons fe_int fe_bl fd_nil)))
      (fss_cons (fs_for PassesOwn.never rfl (fi_seq (fe_var (pv 0))) (fg_name (pg_name (i := 4) sc.nd rfl (by first | exact .inl rfl | exact .inr rfl)))
      (fss_one (fs_for PassesOwn.never rfl (fi_seq (fe_callTy (b_list rfl) (by rfl) z.n_list bt_list (fa_cons (po_nm (pv 3)) fa_nil))) (fg_name (pg_name (i := 5) sc.nd rfl (by first | exact .inl rfl | exact .inr rfl)))
      (fss_cons (fs_put (hu_r hr) (pv 3) (fe_bin d_add (po_nm (pv 5)) (po_nm (pv 4))) fe_bl)
      (fss_one (fs_if (ft_nm (pv 2))
      (fss_one (fs_put (hu_r hr) (pv 3) (fe_bin d_sub (po_nm (pv 5)) (po_nm (pv 4))) fe_bl))
      fss_nil))))))
      (fss_one (fs_ret (fe_callTy b_tuple (by rfl) z.n_tuple bt_tuple (fa_cons (po_ex (fe_lc (own := [("number", 5)]) rfl sc.nd (fi_r2 fe_int (fe_bin d_add (po_nm (pv 1)) (po_ex fe_int)) (by rfl) z.n_range) (blkOk_by (N := ["weights", "bound", "both", "reached", "weight", "number"]) (sc := defScope s_gaps) (by decide +kernel)) (fun _ _ _ _ _ => (fg_name (pg_name (i := 5) sc.nd rfl (by first | exact .inl rfl | exact .inr rfl)))) (fun _ _ _ _ _ => (fts_one (ft_cmp (d_notIn (hu_r hr)) (po_nm (pv 5)) (po_nm (pv 3)) (by with_unfolding_all rfl)))) (fun _ _ _ _ _ => (fe_var (pv 5))) (by decide))) fa_nil))))))
theorem sc_law : FnScope ["script", "draw", "secret", "weights", "k", "slip", "low", "high", "due", "best", "unit", "whole", "some", "bound", "both", "sums", "weight", "number"] ["script"] (defScope s_law) := ⟨rfl, rfl, rfl, by decide +kernel, rfl, by decide +kernel, by decide +kernel⟩
theorem ok_law (z : Z K mg A) (hp : ∀ ns : List Int, ns.length ≤ 63 → ∃ e', body_law (.un :: .own (drawD ns 0 0 17) :: List.replicate 16 .un) = some (.rt (.val (.bool true)) e')) : FnOk P w K mg base CX0 9 A.f_law A.d_law ["script"] (spLaw K) :=
  have sc := sc_law
  law_ok (body := body_law) z.k_law sc (by decide) (fun cdv A' outer s H E hr => ⟨_, _, rfl, ps_set (i := 1) sc.nd rfl (by first | exact .inl rfl | exact .inr rfl) (pe_call (ok_law_draw z) (hr.mono (by decide)) (by rfl) z.g_law_draw z.k_law_draw.kp (b_law_draw z) .nil pass0 (pa_cons (pv 0) pa_nil)),
      (fss_cons (fs_set (i := 2) sc.nd rfl (by first | exact .inl rfl | exact .inr rfl) (fe_bin d_add (po_ex fe_int) (po_ex (fe_call (ok_law_next z) (hr.mono (by decide)) (by rfl) z.g_law_next z.k_law_next.kp (b_law_next z) (ao_io (pv 1) (ao_v fe_int ao_nil))))))
      (fss_cons (fs_set (i := 3) sc.nd rfl (by first | exact .inl rfl | exact .inr rfl) (fe_lst fv_nil))
      (fss_cons (fs_for PassesOwn.never rfl (fi_r1 (fe_bin d_add (po_ex fe_int) (po_ex (fe_call (ok_law_next z) (hr.mono (by decide)) (by rfl) z.g_law_next z.k_law_next.kp (b_law_next z) (ao_io (pv 1) (ao_v fe_int ao_nil))))) (by rfl) z.n_range) (fg_name (pg_name (i := 4) sc.nd rfl (by first | exact .inl rfl | exact .inr rfl)))
      (fss_one (fs_expr (fe_mt (lst := true) PySem.F.plainAttrs_list PySem.F.slot_list_append PySem.F.type_list_append m_append (pv 3) (fv_cons (fe_callB (b_max2 rfl) (by rfl) z.n_max bt_max (fa_cons (po_ex fe_int) (fa_cons (po_ex (fe_bin d_sub (po_ex (fe_bin d_add (po_ex (fe_bin d_mul (po_nm (pv 2)) (po_ex (fe_bin d_add (po_ex fe_int) (po_ex (fe_call (ok_law_next z) (hr.mono (by decide)) (by rfl) z.g_law_next z.k_law_next.kp (b_law_next z) (ao_io (pv 1) (ao_v fe_int ao_nil)))))))) (po_ex (fe_call (ok_law_next z) (hr.mono (by decide)) (by rfl) z.g_law_next z.k_law_next.kp (b_law_next z) (ao_io (pv 1) (ao_v fe_int ao_nil)))))) (po_ex fe_int))) fa_nil))) fv_nil)))))
      (fss_cons (by first | exact (fs_par3 (i := 3) (j := 5) (l := 6) rfl sc.nd rfl rfl rfl rfl rfl rfl (fr_cons (fe_callTy b_tuple (by rfl) z.n_tuple bt_tuple (fa_cons (po_nm (pv 3)) fa_nil)) (fr_cons (fe_call (ok_law_next z) (hr.mono (by decide)) (by rfl) z.g_law_next z.k_law_next.kp (b_law_next z) (ao_io (pv 1) (ao_v fe_int ao_nil))) (fr_cons (fe_bin d_add (po_ex fe_int) (po_ex (fe_call (ok_law_next z) (hr.mono (by decide)) (by rfl) z.g_law_next z.k_law_next.kp (b_law_next z) (ao_io (pv 1) (ao_v fe_int ao_nil))))) fr_nil))) rfl) | exact (fs_parC rfl (fr_cons (fe_callTy b_tuple (by rfl) z.n_tuple bt_tuple (fa_cons (po_nm (pv 3)) fa_nil)) (fr_cons (fe_call (ok_law_next z) (hr.mono (by decide)) (by rfl) z.g_law_next z.k_law_next.kp (b_law_next z) (ao_io (pv 1) (ao_v fe_int ao_nil))) (fr_cons (fe_bin d_add (po_ex fe_int) (po_ex (fe_call (ok_law_next z) (hr.mono (by decide)) (by rfl) z.g_law_next z.k_law_next.kp (b_law_next z) (ao_io (pv 1) (ao_v fe_int ao_nil))))) fr_nil))) (fn_cons (pg_name (i := 3) sc.nd rfl (by first | exact .inl rfl | exact .inr rfl)) (fn_cons (pg_name (i := 5) sc.nd rfl (by first | exact .inl rfl | exact .inr rfl)) (fn_cons (pg_name (i := 6) sc.nd rfl (by first | exact .inl rfl | exact .inr rfl)) fn_nil)))))
      (fss_cons (fs_set (i := 7) sc.nd rfl (by first | exact .inl rfl | exact .inr rfl) (fe_bin d_add (po_nm (pv 6)) (po_ex (fe_call (ok_law_next z) (hr.mono (by decide)) (by rfl) z.g_law_next z.k_law_next.kp (b_law_next z) (ao_io (pv 1) (ao_v fe_int ao_nil))))))
      (fss_cons (by first | exact (fs_set (i := 8) sc.nd rfl (by first | exact .inl rfl | exact .inr rfl) (fe_lc (own := [("unit", 10)]) rfl sc.nd (fi_r2 (fe_var (pv 6)) (fe_bin d_add (po_nm (pv 7)) (po_ex fe_int)) (by rfl) z.n_range) (blkOk_by (N := ["script", "draw", "secret", "weights", "k", "slip", "low", "high", "due", "best", "unit", "whole", "some", "bound", "both", "sums", "weight", "number"]) (sc := defScope s_law) (by decide +kernel)) (fun _ _ _ _ _ => (fg_name (pg_name (i := 10) sc.nd rfl (by first | exact .inl rfl | exact .inr rfl)))) (fun _ _ _ _ _ => (fts_one (ft_val (fe_callB (b_all rfl) (by rfl) z.n_all bt_all (fa_cons (po_ex (fe_lcN (own := [("weight", 16)]) rfl sc.nd (fi_seq (fe_var (pv 3))) (blkOk_by (N := ["script", "draw", "secret", "weights", "k", "slip", "low", "high", "due", "best", "unit", "whole", "some", "bound", "both", "sums", "weight", "number"]) (by decide +kernel)) (fun _ _ _ _ _ => (fg_name (pg_name (i := 16) sc.nd rfl (by first | exact .inl rfl | exact .inr rfl)))) (fun _ _ _ _ _ => fts_nil) (fun _ _ _ _ _ => (fe_cmp (d_le (hu_r hr)) (po_ex (fe_call (ok_law_miss z) (hr.mono (by decide)) (by rfl) z.g_law_miss z.k_law_miss.kp (b_law_miss z) (ao_v (fe_var (pv 16)) (ao_v (fe_var (pv 10)) ao_nil)))) (po_nm (pv 5)) (nomark _))) (by decide))) fa_nil))))) (fun _ _ _ _ _ => (fe_var (pv 10))) (by decide))) | exact (fs_setLc (i := 8) (own := [("unit", 10)]) rfl sc.nd rfl rfl rfl (fi_r2 (fe_var (pv 6)) (fe_bin d_add (po_nm (pv 7)) (po_ex fe_int)) (by rfl) z.n_range) (blkOk_by (N := ["script", "draw", "secret", "weights", "k", "slip", "low", "high", "due", "best", "unit", "whole", "some", "bound", "both", "sums", "weight", "number"]) (sc := defScope s_law) (by decide +kernel)) (fun _ _ _ _ _ => (fg_name (pg_name (i := 10) sc.nd rfl (by first | exact .inl rfl | exact .inr rfl)))) (fun _ _ _ _ _ => (fts_one (ft_val (fe_callB (b_all rfl) (by rfl) z.n_all bt_all (fa_cons (po_ex (fe_lcN (own := [("weight", 16)]) rfl sc.nd (fi_seq (fe_var (pv 3))) (blkOk_by (N := ["script", "draw", "secret", "weights", "k", "slip", "low", "high", "due", "best", "unit", "whole", "some", "bound", "both", "sums", "weight", "number"]) (by decide +kernel)) (fun _ _ _ _ _ => (fg_name (pg_name (i := 16) sc.nd rfl (by first | exact .inl rfl | exact .inr rfl)))) (fun _ _ _ _ _ => fts_nil) (fun _ _ _ _ _ => (fe_cmp (d_le (hu_r hr)) (po_ex (fe_call (ok_law_miss z) (hr.mono (by decide)) (by rfl) z.g_law_miss z.k_law_miss.kp (b_law_miss z) (ao_v (fe_var (pv 16)) (ao_v (fe_var (pv 10)) ao_nil)))) (po_nm (pv 5)) (nomark _))) (by decide))) fa_nil))))) (fun _ _ _ _ _ => (fe_var (pv 10))) (by decide)))
      (fss_cons (fs_if (ft_not (ft_val (fe_call (ok_law_same z 8) (hr.mono (by decide)) (by rfl) z.g_law_same z.k_law_same.kp (b_law_same z) (ao_v (fe_call (ok_fitting_units z) (hr.mono (by decide)) (by rfl) z.g_fitting_units z.k_fitting_units.kp (b_fitting_units z) (ao_v (fe_var (pv 3)) (ao_v (fe_var (pv 5)) (ao_v (fe_var (pv 6)) (ao_v (fe_var (pv 7)) ao_nil))))) (ao_v (fe_callTy b_tuple (by rfl) z.n_tuple bt_tuple (fa_cons (po_nm (pv 8)) fa_nil)) ao_nil)))))
      (fss_one (fs_ret fe_bl))
      fss_nil)
      (fss_cons (fs_set (i := 9) sc.nd rfl (by first | exact .inl rfl | exact .inr rfl) fe_non)
      (fss_cons (fs_for PassesOwn.never rfl (fi_r2 (fe_var (pv 6)) (fe_bin d_add (po_nm (pv 7)) (po_ex fe_int)) (by rfl) z.n_range) (fg_name (pg_name (i := 10) sc.nd rfl (by first | exact .inl rfl | exact .inr rfl)))
      (fss_cons (fs_set (i := 11) sc.nd rfl (by first | exact .inl rfl | exact .inr rfl) (fe_callB (b_sum rfl) (by rfl) z.n_sum bt_sum (fa_cons (po_ex (fe_lc (own := [("weight", 16)]) rfl sc.nd (fi_seq (fe_var (pv 3))) (blkOk_by (N := ["script", "draw", "secret", "weights", "k", "slip", "low", "high", "due", "best", "unit", "whole", "some", "bound", "both", "sums", "weight", "number"]) (sc := defScope s_law) (by decide +kernel)) (fun _ _ _ _ _ => (fg_name (pg_name (i := 16) sc.nd rfl (by first | exact .inl rfl | exact .inr rfl)))) (fun _ _ _ _ _ => fts_nil) (fun _ _ _ _ _ => (fe_call (ok_law_miss z) (hr.mono (by decide)) (by rfl) z.g_law_miss z.k_law_miss.kp (b_law_miss z) (ao_v (fe_var (pv 16)) (ao_v (fe_var (pv 10)) ao_nil)))) (by decide))) fa_nil)))
      (fss_cons (fs_if (ft_not (ft_val (fe_call (ok_law_same z 8) (hr.mono (by decide)) (by rfl) z.g_law_same z.k_law_same.kp (b_law_same z) (ao_v (fe_call (ok_miss z) (hr.mono (by decide)) (by rfl) z.g_miss z.k_miss.kp (b_miss z) (ao_v (fe_var (pv 3)) (ao_v (fe_var (pv 10)) ao_nil))) (ao_v (fe_var (pv 11)) ao_nil)))))
      (fss_one (fs_ret fe_bl))
      fss_nil)
      (fss_one (fs_if (ft_bool (fw_or (ft_cmp d_isN (po_nm (pv 9)) (po_ex fe_non) (nomark _)) (fw_or1 (ft_cmp (d_le (hu_r hr)) (po_ex (fe_bin d_mul (po_nm (pv 11)) (po_ex (fe_ix (hu_r hr) (po_nm (pv 9)) (po_ex fe_int) (fun _ _ => rfl))))) (po_ex (fe_bin d_mul (po_ex (fe_ix (hu_r hr) (po_nm (pv 9)) (po_ex fe_int) (fun _ _ => rfl))) (po_nm (pv 10)))) (nomark _)))))
      (fss_one (fs_set (i := 9) sc.nd rfl (by first | exact .inl rfl | exact .inr rfl) (fe_tup (fv_cons (fe_var (pv 11)) (fv_cons (fe_var (pv 10)) fv_nil)))))
      fss_nil)))))
      (fss_cons (fs_if (ft_not (ft_val (fe_call (ok_law_same z 8) (hr.mono (by decide)) (by rfl) z.g_law_same z.k_law_same.kp (b_law_same z) (ao_v (fe_call (ok_best_unit z) (hr.mono (by decide)) (by rfl) z.g_best_unit z.k_best_unit.kp (b_best_unit z) (ao_v (fe_var (pv 3)) (ao_v (fe_var (pv 6)) (ao_v (fe_var (pv 7)) ao_nil)))) (ao_v (fe_ix (hu_r hr) (po_nm (pv 9)) (po_ex fe_int) (fun _ _ => rfl)) ao_nil)))))
      (fss_one (fs_ret fe_bl))
      fss_nil)
      (fss_cons (by first | exact (fs_par2 (i := 12) (j := 13) rfl sc.nd rfl rfl rfl rfl (fr_cons (fe_callTy b_tuple (by rfl) z.n_tuple bt_tuple (fa_cons (po_ex (fe_lc (own := [("k", 4)]) rfl sc.nd (fi_r1 (fe_call (ok_law_next z) (hr.mono (by decide)) (by rfl) z.g_law_next z.k_law_next.kp (b_law_next z) (ao_io (pv 1) (ao_v fe_int ao_nil))) (by rfl) z.n_range) (blkOk_by (N := ["script", "draw", "secret", "weights", "k", "slip", "low", "high", "due", "best", "unit", "whole", "some", "bound", "both", "sums", "weight", "number"]) (sc := defScope s_law) (by decide +kernel)) (fun _ _ _ _ _ => (fg_name (pg_name (i := 4) sc.nd rfl (by first | exact .inl rfl | exact .inr rfl)))) (fun _ _ _ _ _ => fts_nil) (fun _ _ _ _ _ => (fe_bin d_add (po_ex fe_int) (po_ex (fe_call (ok_law_next z) (hr.mono (by decide)) (by rfl) z.g_law_next z.k_law_next.kp (b_law_next z) (ao_io (pv 1) (ao_v fe_int ao_nil)))))) (by decide))) fa_nil)) (fr_cons (fe_call (ok_law_next z) (hr.mono (by decide)) (by rfl) z.g_law_next z.k_law_next.kp (b_law_next z) (ao_io (pv 1) (ao_v fe_int ao_nil))) fr_nil)) rfl) | exact (fs_parC rfl (fr_cons (fe_callTy b_tuple (by rfl) z.n_tuple bt_tuple (fa_cons (po_ex (fe_lc (own := [("k", 4)]) rfl sc.nd (fi_r1 (fe_call (ok_law_next z) (hr.mono (by decide)) (by rfl) z.g_law_next z.k_law_next.kp (b_law_next z) (ao_io (pv 1) (ao_v fe_int ao_nil))) (by rfl) z.n_range) (blkOk_by (N := ["script", "draw", "secret", "weights", "k", "slip", "low", "high", "due", "best", "unit", "whole", "some", "bound", "both", "sums", "weight", "number"]) (sc := defScope s_law) (by decide +kernel)) (fun _ _ _ _ _ => (fg_name (pg_name (i := 4) sc.nd rfl (by first | exact .inl rfl | exact .inr rfl)))) (fun _ _ _ _ _ => fts_nil) (fun _ _ _ _ _ => (fe_bin d_add (po_ex fe_int) (po_ex (fe_call (ok_law_next z) (hr.mono (by decide)) (by rfl) z.g_law_next z.k_law_next.kp (b_law_next z) (ao_io (pv 1) (ao_v fe_int ao_nil)))))) (by decide))) fa_nil)) (fr_cons (fe_call (ok_law_next z) (hr.mono (by decide)) (by rfl) z.g_law_next z.k_law_next.kp (b_law_next z) (ao_io (pv 1) (ao_v fe_int ao_nil))) fr_nil)) (fn_cons (pg_name (i := 12) sc.nd rfl (by first | exact .inl rfl | exact .inr rfl)) (fn_cons (pg_name (i := 13) sc.nd rfl (by first | exact .inl rfl | exact .inr rfl)) fn_nil))))
      (fss_cons (fs_for PassesOwn.never rfl (fi_seq (fe_tup (fv_cons fe_bl (fv_cons fe_bl fv_nil)))) (fg_name (pg_name (i := 14) sc.nd rfl (by first | exact .inl rfl | exact .inr rfl)))
      (fss_cons (fs_set (i := 15) sc.nd rfl (by first | exact .inl rfl | exact .inr rfl) (fe_lst (fv_cons fe_int fv_nil)))
      (fss_cons (fs_for PassesOwn.never rfl (fi_seq (fe_var (pv 12))) (fg_name (pg_name (i := 16) sc.nd rfl (by first | exact .inl rfl | exact .inr rfl)))
      (fss_one (fs_set (i := 15) sc.nd rfl (by first | exact .inl rfl | exact .inr rfl) (fe_bin d_add (po_ex (fe_bin d_add (po_nm (pv 15)) (po_ex (fe_lc (own := [("number", 17)]) rfl sc.nd (fi_seq (fe_var (pv 15))) (blkOk_by (N := ["script", "draw", "secret", "weights", "k", "slip", "low", "high", "due", "best", "unit", "whole", "some", "bound", "both", "sums", "weight", "number"]) (sc := defScope s_law) (by decide +kernel)) (fun _ _ _ _ _ => (fg_name (pg_name (i := 17) sc.nd rfl (by first | exact .inl rfl | exact .inr rfl)))) (fun _ _ _ _ _ => fts_nil) (fun _ _ _ _ _ => (fe_bin d_add (po_nm (pv 17)) (po_nm (pv 16)))) (by decide))))) (po_ex (fe_if (ft_nm (pv 14)) (fe_lc (own := [("number", 17)]) rfl sc.nd (fi_seq (fe_var (pv 15))) (blkOk_by (N := ["script", "draw", "secret", "weights", "k", "slip", "low", "high", "due", "best", "unit", "whole", "some", "bound", "both", "sums", "weight", "number"]) (sc := defScope s_law) (by decide +kernel)) (fun _ _ _ _ _ => (fg_name (pg_name (i := 17) sc.nd rfl (by first | exact .inl rfl | exact .inr rfl)))) (fun _ _ _ _ _ => fts_nil) (fun _ _ _ _ _ => (fe_bin d_sub (po_nm (pv 17)) (po_nm (pv 16)))) (by decide)) (fe_lst fv_nil)))))))
      (fss_one (fs_if (ft_not (ft_val (fe_call (ok_law_same z 8) (hr.mono (by decide)) (by rfl) z.g_law_same z.k_law_same.kp (b_law_same z) (ao_v (fe_call (ok_gaps z) (hr.mono (by decide)) (by rfl) z.g_gaps z.k_gaps.kp (b_gaps z) (ao_v (fe_var (pv 12)) (ao_v (fe_var (pv 13)) (ao_v (fe_var (pv 14)) ao_nil)))) (ao_v (fe_callTy b_tuple (by rfl) z.n_tuple bt_tuple (fa_cons (po_ex (fe_lc (own := [("number", 17)]) rfl sc.nd (fi_r2 fe_int (fe_bin d_add (po_nm (pv 13)) (po_ex fe_int)) (by rfl) z.n_range) (blkOk_by (N := ["script", "draw", "secret", "weights", "k", "slip", "low", "high", "due", "best", "unit", "whole", "some", "bound", "both", "sums", "weight", "number"]) (sc := defScope s_law) (by decide +kernel)) (fun _ _ _ _ _ => (fg_name (pg_name (i := 17) sc.nd rfl (by first | exact .inl rfl | exact .inr rfl)))) (fun _ _ _ _ _ => (fts_one (ft_cmp (d_notIn (hu_r hr)) (po_nm (pv 17)) (po_nm (pv 15)) (by with_unfolding_all rfl)))) (fun _ _ _ _ _ => (fe_var (pv 17))) (by decide))) fa_nil)) ao_nil)))))
      (fss_one (fs_ret fe_bl))
      fss_nil)))))
      (fss_one (fs_ret fe_bl))))))))))))))⟩) hp
end
theorem all_mk {l : PySem.W.OpenLaw} {w : World} {K : PySem.W.Frag} {h : Heap} {mg : Str → Option Value} {fa : Addr} (hp : ∀ ns : List Int, ns.length ≤ 63 → ∃ e', body_law (.un :: .own (drawD ns 0 0 17) :: List.replicate 16 .un) = some (.rt (.val (.bool true)) e')) (X : K.In h) (G : h.Ns mainGlobals mg) (hfa : mg "law" = some (.ref fa))
    {f0 : Addr} {od0 an0 : Option Addr} {sl0 : Array (Option Value)} {oc0 kV0 dc0 pm0 cd0 ct0 : Value}
    (a0 : PySem.W.nsIn K mainGlobals "_law_draw" = some (some (.ref f0))) (l0 : K.lookup f0 = some ⟨oc0, od0, .func (PySem.W.fnOf "_law_draw" "_law_draw" (defArgs s_law_draw) (defBody s_law_draw) (defScope s_law_draw) .none kV0 dc0 pm0 an0 cd0 ct0), sl0⟩) (c0 : PySem.W.codeIn K cd0 "_law_draw" = true) (k0 : PySem.W.keepIn K (.ref f0) = true)
    {f1 : Addr} {od1 an1 : Option Addr} {sl1 : Array (Option Value)} {oc1 kV1 dc1 pm1 cd1 ct1 : Value}
    (a1 : PySem.W.nsIn K mainGlobals "_law_next" = some (some (.ref f1))) (l1 : K.lookup f1 = some ⟨oc1, od1, .func (PySem.W.fnOf "_law_next" "_law_next" (defArgs s_law_next) (defBody s_law_next) (defScope s_law_next) .none kV1 dc1 pm1 an1 cd1 ct1), sl1⟩) (c1 : PySem.W.codeIn K cd1 "_law_next" = true) (k1 : PySem.W.keepIn K (.ref f1) = true)
    {f2 : Addr} {od2 an2 : Option Addr} {sl2 : Array (Option Value)} {oc2 kV2 dc2 pm2 cd2 ct2 : Value}
    (a2 : PySem.W.nsIn K mainGlobals "_law_same" = some (some (.ref f2))) (l2 : K.lookup f2 = some ⟨oc2, od2, .func (PySem.W.fnOf "_law_same" "_law_same" (defArgs s_law_same) (defBody s_law_same) (defScope s_law_same) .none kV2 dc2 pm2 an2 cd2 ct2), sl2⟩) (c2 : PySem.W.codeIn K cd2 "_law_same" = true) (k2 : PySem.W.keepIn K (.ref f2) = true)
    {f3 : Addr} {od3 an3 : Option Addr} {sl3 : Array (Option Value)} {oc3 kV3 dc3 pm3 cd3 ct3 : Value}
    (a3 : PySem.W.nsIn K mainGlobals "times_near" = some (some (.ref f3))) (l3 : K.lookup f3 = some ⟨oc3, od3, .func (PySem.W.fnOf "times_near" "times_near" (defArgs s_times_near) (defBody s_times_near) (defScope s_times_near) .none kV3 dc3 pm3 an3 cd3 ct3), sl3⟩) (c3 : PySem.W.codeIn K cd3 "times_near" = true) (k3 : PySem.W.keepIn K (.ref f3) = true)
    {f4 : Addr} {od4 an4 : Option Addr} {sl4 : Array (Option Value)} {oc4 kV4 dc4 pm4 cd4 ct4 : Value}
    (a4 : PySem.W.nsIn K mainGlobals "miss_of" = some (some (.ref f4))) (l4 : K.lookup f4 = some ⟨oc4, od4, .func (PySem.W.fnOf "miss_of" "miss_of" (defArgs s_miss_of) (defBody s_miss_of) (defScope s_miss_of) .none kV4 dc4 pm4 an4 cd4 ct4), sl4⟩) (c4 : PySem.W.codeIn K cd4 "miss_of" = true) (k4 : PySem.W.keepIn K (.ref f4) = true)
    {f5 : Addr} {od5 an5 : Option Addr} {sl5 : Array (Option Value)} {oc5 kV5 dc5 pm5 cd5 ct5 : Value}
    (a5 : PySem.W.nsIn K mainGlobals "fitting_units" = some (some (.ref f5))) (l5 : K.lookup f5 = some ⟨oc5, od5, .func (PySem.W.fnOf "fitting_units" "fitting_units" (defArgs s_fitting_units) (defBody s_fitting_units) (defScope s_fitting_units) .none kV5 dc5 pm5 an5 cd5 ct5), sl5⟩) (c5 : PySem.W.codeIn K cd5 "fitting_units" = true) (k5 : PySem.W.keepIn K (.ref f5) = true)
    {f6 : Addr} {od6 an6 : Option Addr} {sl6 : Array (Option Value)} {oc6 kV6 dc6 pm6 cd6 ct6 : Value}
    (a6 : PySem.W.nsIn K mainGlobals "ratio" = some (some (.ref f6))) (l6 : K.lookup f6 = some ⟨oc6, od6, .func (PySem.W.fnOf "ratio" "ratio" (defArgs s_ratio) (defBody s_ratio) (defScope s_ratio) .none kV6 dc6 pm6 an6 cd6 ct6), sl6⟩) (c6 : PySem.W.codeIn K cd6 "ratio" = true) (k6 : PySem.W.keepIn K (.ref f6) = true)
    {f7 : Addr} {od7 an7 : Option Addr} {sl7 : Array (Option Value)} {oc7 kV7 dc7 pm7 cd7 ct7 : Value}
    (a7 : PySem.W.nsIn K mainGlobals "miss" = some (some (.ref f7))) (l7 : K.lookup f7 = some ⟨oc7, od7, .func (PySem.W.fnOf "miss" "miss" (defArgs s_miss) (defBody s_miss) (defScope s_miss) .none kV7 dc7 pm7 an7 cd7 ct7), sl7⟩) (c7 : PySem.W.codeIn K cd7 "miss" = true) (k7 : PySem.W.keepIn K (.ref f7) = true)
    {f8 : Addr} {od8 an8 : Option Addr} {sl8 : Array (Option Value)} {oc8 kV8 dc8 pm8 cd8 ct8 : Value}
    (a8 : PySem.W.nsIn K mainGlobals "less" = some (some (.ref f8))) (l8 : K.lookup f8 = some ⟨oc8, od8, .func (PySem.W.fnOf "less" "less" (defArgs s_less) (defBody s_less) (defScope s_less) .none kV8 dc8 pm8 an8 cd8 ct8), sl8⟩) (c8 : PySem.W.codeIn K cd8 "less" = true) (k8 : PySem.W.keepIn K (.ref f8) = true)
    {f9 : Addr} {od9 an9 : Option Addr} {sl9 : Array (Option Value)} {oc9 kV9 dc9 pm9 cd9 ct9 : Value}
    (a9 : PySem.W.nsIn K mainGlobals "best_unit" = some (some (.ref f9))) (l9 : K.lookup f9 = some ⟨oc9, od9, .func (PySem.W.fnOf "best_unit" "best_unit" (defArgs s_best_unit) (defBody s_best_unit) (defScope s_best_unit) .none kV9 dc9 pm9 an9 cd9 ct9), sl9⟩) (c9 : PySem.W.codeIn K cd9 "best_unit" = true) (k9 : PySem.W.keepIn K (.ref f9) = true)
    {f10 : Addr} {od10 an10 : Option Addr} {sl10 : Array (Option Value)} {oc10 kV10 dc10 pm10 cd10 ct10 : Value}
    (a10 : PySem.W.nsIn K mainGlobals "_law_miss" = some (some (.ref f10))) (l10 : K.lookup f10 = some ⟨oc10, od10, .func (PySem.W.fnOf "_law_miss" "_law_miss" (defArgs s_law_miss) (defBody s_law_miss) (defScope s_law_miss) .none kV10 dc10 pm10 an10 cd10 ct10), sl10⟩) (c10 : PySem.W.codeIn K cd10 "_law_miss" = true) (k10 : PySem.W.keepIn K (.ref f10) = true)
    {f11 : Addr} {od11 an11 : Option Addr} {sl11 : Array (Option Value)} {oc11 kV11 dc11 pm11 cd11 ct11 : Value}
    (a11 : PySem.W.nsIn K mainGlobals "gaps" = some (some (.ref f11))) (l11 : K.lookup f11 = some ⟨oc11, od11, .func (PySem.W.fnOf "gaps" "gaps" (defArgs s_gaps) (defBody s_gaps) (defScope s_gaps) .none kV11 dc11 pm11 an11 cd11 ct11), sl11⟩) (c11 : PySem.W.codeIn K cd11 "gaps" = true) (k11 : PySem.W.keepIn K (.ref f11) = true)
    {f12 : Addr} {od12 an12 : Option Addr} {sl12 : Array (Option Value)} {oc12 kV12 dc12 pm12 cd12 ct12 : Value}
    (a12 : PySem.W.nsIn K mainGlobals "law" = some (some (.ref f12))) (l12 : K.lookup f12 = some ⟨oc12, od12, .func (PySem.W.fnOf "law" "law" (defArgs s_law) (defBody s_law) (defScope s_law) .none kV12 dc12 pm12 an12 cd12 ct12), sl12⟩) (c12 : PySem.W.codeIn K cd12 "law" = true) (k12 : PySem.W.keepIn K (.ref f12) = true)
    (n_abs : PySem.W.nsIn K mainGlobals "abs" = some none)
    (n_all : PySem.W.nsIn K mainGlobals "all" = some none)
    (n_bool : PySem.W.nsIn K mainGlobals "bool" = some none)
    (n_int : PySem.W.nsIn K mainGlobals "int" = some none)
    (n_isinstance : PySem.W.nsIn K mainGlobals "isinstance" = some none)
    (n_len : PySem.W.nsIn K mainGlobals "len" = some none)
    (n_list : PySem.W.nsIn K mainGlobals "list" = some none)
    (n_max : PySem.W.nsIn K mainGlobals "max" = some none)
    (n_min : PySem.W.nsIn K mainGlobals "min" = some none)
    (n_range : PySem.W.nsIn K mainGlobals "range" = some none)
    (n_str : PySem.W.nsIn K mainGlobals "str" = some none)
    (n_sum : PySem.W.nsIn K mainGlobals "sum" = some none)
    (n_tuple : PySem.W.nsIn K mainGlobals "tuple" = some none)
    (u_gcd : PySem.W.nsIn K mainGlobals "gcd" = some (some (.builtin "math.gcd")))
    : ∃ fd : FuncData, (∀ (s : Shared) (v : Value), BindsTo s fd ⟨[v], []⟩ [("script", v)]) ∧ ∀ base : Heap, K.In base → base.Ns mainGlobals mg → FnOk l.prog w K mg base CX0 9 fa fd ["script"] (spLaw K) := by
  have e := hfa.symm.trans (PySem.W.mg_of X G a12)
  cases e
  refine ⟨PySem.W.fnOf "law" "law" (defArgs s_law) (defBody s_law) (defScope s_law) .none kV12 dc12 pm12 an12 cd12 ct12, fun s v => .of_eq rfl, fun base _ _ => ok_law (A := ⟨f0, PySem.W.fnOf "_law_draw" "_law_draw" (defArgs s_law_draw) (defBody s_law_draw) (defScope s_law_draw) .none kV0 dc0 pm0 an0 cd0 ct0, f1, PySem.W.fnOf "_law_next" "_law_next" (defArgs s_law_next) (defBody s_law_next) (defScope s_law_next) .none kV1 dc1 pm1 an1 cd1 ct1, f2, PySem.W.fnOf "_law_same" "_law_same" (defArgs s_law_same) (defBody s_law_same) (defScope s_law_same) .none kV2 dc2 pm2 an2 cd2 ct2, f3, PySem.W.fnOf "times_near" "times_near" (defArgs s_times_near) (defBody s_times_near) (defScope s_times_near) .none kV3 dc3 pm3 an3 cd3 ct3, f4, PySem.W.fnOf "miss_of" "miss_of" (defArgs s_miss_of) (defBody s_miss_of) (defScope s_miss_of) .none kV4 dc4 pm4 an4 cd4 ct4, f5, PySem.W.fnOf "fitting_units" "fitting_units" (defArgs s_fitting_units) (defBody s_fitting_units) (defScope s_fitting_units) .none kV5 dc5 pm5 an5 cd5 ct5, f6, PySem.W.fnOf "ratio" "ratio" (defArgs s_ratio) (defBody s_ratio) (defScope s_ratio) .none kV6 dc6 pm6 an6 cd6 ct6, f7, PySem.W.fnOf "miss" "miss" (defArgs s_miss) (defBody s_miss) (defScope s_miss) .none kV7 dc7 pm7 an7 cd7 ct7, f8, PySem.W.fnOf "less" "less" (defArgs s_less) (defBody s_less) (defScope s_less) .none kV8 dc8 pm8 an8 cd8 ct8, f9, PySem.W.fnOf "best_unit" "best_unit" (defArgs s_best_unit) (defBody s_best_unit) (defScope s_best_unit) .none kV9 dc9 pm9 an9 cd9 ct9, f10, PySem.W.fnOf "_law_miss" "_law_miss" (defArgs s_law_miss) (defBody s_law_miss) (defScope s_law_miss) .none kV10 dc10 pm10 an10 cd10 ct10, f11, PySem.W.fnOf "gaps" "gaps" (defArgs s_gaps) (defBody s_gaps) (defScope s_gaps) .none kV11 dc11 pm11 an11 cd11 ct11, fa, PySem.W.fnOf "law" "law" (defArgs s_law) (defBody s_law) (defScope s_law) .none kV12 dc12 pm12 an12 cd12 ct12⟩) ⟨fun_mk (st := s_law_draw) l0 c0 k0, PySem.W.mg_of X G a0, fun_mk (st := s_law_next) l1 c1 k1, PySem.W.mg_of X G a1, fun_mk (st := s_law_same) l2 c2 k2, PySem.W.mg_of X G a2, fun_mk (st := s_times_near) l3 c3 k3, PySem.W.mg_of X G a3, fun_mk (st := s_miss_of) l4 c4 k4, PySem.W.mg_of X G a4, fun_mk (st := s_fitting_units) l5 c5 k5, PySem.W.mg_of X G a5, fun_mk (st := s_ratio) l6 c6 k6, PySem.W.mg_of X G a6, fun_mk (st := s_miss) l7 c7 k7, PySem.W.mg_of X G a7, fun_mk (st := s_less) l8 c8 k8, PySem.W.mg_of X G a8, fun_mk (st := s_best_unit) l9 c9 k9, PySem.W.mg_of X G a9, fun_mk (st := s_law_miss) l10 c10 k10, PySem.W.mg_of X G a10, fun_mk (st := s_gaps) l11 c11 k11, PySem.W.mg_of X G a11, fun_mk (st := s_law) l12 c12 k12, PySem.W.mg_of X G a12, PySem.W.mg_none_of X G n_abs, PySem.W.mg_none_of X G n_all, PySem.W.mg_none_of X G n_bool, PySem.W.mg_none_of X G n_int, PySem.W.mg_none_of X G n_isinstance, PySem.W.mg_none_of X G n_len, PySem.W.mg_none_of X G n_list, PySem.W.mg_none_of X G n_max, PySem.W.mg_none_of X G n_min, PySem.W.mg_none_of X G n_range, PySem.W.mg_none_of X G n_str, PySem.W.mg_none_of X G n_sum, PySem.W.mg_none_of X G n_tuple, PySem.W.mg_of X G u_gcd⟩ hp⟩
end Law

set_option Elab.async false
set_option linter.all false
set_option maxRecDepth 100000
set_option maxHeartbeats 4000000
namespace Law
open PySem PySem.Spec PyProof.Rows L2 FL

/-! ### the arithmetic -/
def tn (w u : Int) : Int := max 1 (-((u - 2 * w).fdiv (2 * u)))
def ms (w u : Int) : Int := ((w - u * tn w u).natAbs : Nat)
theorem F_times_near_eq {w u : Int} (h0 : 0 < u) (h1 : u < 1000) : F_times_near [.int w, .int u] = some (.val (.int (tn w u)), []) := by
  refine runB_rt (r := .val (.int (tn w u))) (e' := [.val (.int w), .val (.int u)]) rfl ?_ rfl
  show body_times_near [.val (.int w), .val (.int u)] = _
  simp only [body_times_near, sRet, cOps, evs, peek, frz, cK, cVar, FL.l1, FL.l2, cbT, cbAnd, cbOr, cbNot, cbTru, cbNm, cIf, cAndV, cOrV, cNotV, cChain, truthV, cvs, cTup, cLst, cDnew, cCall, aevs, aIx, drops, puts, peekOwn, ctName, ctTup, ctCons, ctNil, cSl, coN, coS, cbYes, wipeE, back, ciE, ciR1, ciR2, walkD, isLst, cMt, sets, crs, List.getElem?_cons_zero, List.getElem?_cons_succ, List.set_cons_zero, List.set_cons_succ, List.getD_cons_zero, List.getD_cons_succ, List.length_cons, List.length_nil, Option.some.injEq, Prod.mk.injEq, reduceCtorEq, if_true, if_false, ite_true, ite_false, Bool.false_eq_true, Nat.reduceAdd, Nat.reduceLT, Nat.reduceLeDiff, reduceIte, addD_int, subD_int, negD_int, absD_int, eqD_int, neD_int, ltD_int, leD_int, gtD_int, geD_int, max2D_int, min2D_int, eqD_bool, neD_bool, FL.intD, FL.tupD, FL.lenD, mulD_int (a := 2) (b := w) (.inl (by omega)), mulD_int (a := 2) (b := u) (.inl (by omega)), fdivD_int (a := u - 2 * w) (b := 2 * u) (by omega) (by omega), tn]
theorem F_miss_of_eq {w u : Int} (h0 : 0 < u) (h1 : u < 1000) : F_miss_of [.int w, .int u] = some (.val (.int (ms w u)), []) := by
  refine runB_rt (r := .val (.int (ms w u))) (e' := [.val (.int w), .val (.int u)]) rfl ?_ rfl
  show body_miss_of [.val (.int w), .val (.int u)] = _
  simp only [body_miss_of, sRet, cOps, evs, peek, frz, cK, cVar, FL.l1, FL.l2, cbT, cbAnd, cbOr, cbNot, cbTru, cbNm, cIf, cAndV, cOrV, cNotV, cChain, truthV, cvs, cTup, cLst, cDnew, cCall, aevs, aIx, drops, puts, peekOwn, ctName, ctTup, ctCons, ctNil, cSl, coN, coS, cbYes, wipeE, back, ciE, ciR1, ciR2, walkD, isLst, cMt, sets, crs, List.getElem?_cons_zero, List.getElem?_cons_succ, List.set_cons_zero, List.set_cons_succ, List.getD_cons_zero, List.getD_cons_succ, List.length_cons, List.length_nil, Option.some.injEq, Prod.mk.injEq, reduceCtorEq, if_true, if_false, ite_true, ite_false, Bool.false_eq_true, Nat.reduceAdd, Nat.reduceLT, Nat.reduceLeDiff, reduceIte, addD_int, subD_int, negD_int, absD_int, eqD_int, neD_int, ltD_int, leD_int, gtD_int, geD_int, max2D_int, min2D_int, eqD_bool, neD_bool, FL.intD, FL.tupD, FL.lenD, F_times_near_eq h0 h1, mulD_int (a := u) (b := tn w u) (.inl (by omega)), ms]
/-- times_near is the nearest whole number above 0 -/
theorem tn_spec {w u : Int} (hw : 1 ≤ w) (hu : 0 < u) : 1 ≤ tn w u ∧ tn w u ≤ w.fdiv u + 2 ∧ ∀ t : Int, 1 ≤ t → ms w u ≤ ((w - u * t).natAbs : Nat) := by
  have d1 : (u - 2 * w).fdiv (2 * u) = (u - 2 * w) / (2 * u) := Int.fdiv_eq_ediv_of_nonneg _ (by omega)
  have d2 : w.fdiv u = w / u := Int.fdiv_eq_ediv_of_nonneg _ (by omega)
  have a1 := Int.mul_ediv_add_emod (u - 2 * w) (2 * u)
  have a2 := Int.emod_nonneg (u - 2 * w) (b := 2 * u) (by omega)
  have a3 := Int.emod_lt_of_pos (u - 2 * w) (b := 2 * u) (by omega)
  have b1 := Int.mul_ediv_add_emod w u
  have b2 := Int.emod_nonneg w (b := u) (by omega)
  have b3 := Int.emod_lt_of_pos w hu
  unfold ms tn
  rw [d1, d2]
  generalize (u - 2 * w) / (2 * u) = q at *
  generalize (u - 2 * w) % (2 * u) = r at *
  generalize w / u = p at *
  generalize w % u = r2 at *
  have e1 : 2 * u * q = 2 * (u * q) := by rw [Int.mul_assoc]
  rw [e1] at a1
  -- 2 u q + r = u - 2 w
  have hm : u * (-q) = -(u * q) := by rw [Int.mul_neg]
  have far : ∀ t k : Int, t + 1 ≤ k → u * t + u ≤ u * k := fun t k h => by
    have := Int.mul_le_mul_of_nonneg_left h (Int.le_of_lt hu)
    rw [Int.mul_add, Int.mul_one] at this
    exact this
  refine ⟨by omega, ?_, fun t ht => ?_⟩
  · have p0 : 0 ≤ p := by
      by_cases h : 0 ≤ p
      · exact h
      · exfalso
        have := far p 0 (by omega)
        rw [Int.mul_zero] at this
        omega
    by_cases h : -q ≤ p + 2
    · omega
    · exfalso
      have := far (p + 2) (-q) (by omega)
      rw [Int.mul_add, hm] at this
      omega
  · by_cases h1 : 1 ≤ -q
    · have : max 1 (-q) = -q := by omega
      rw [this, hm]
      by_cases c : t = -q
      · subst c; rw [hm]; omega
      · by_cases c2 : t + 1 ≤ -q
        · have := far t (-q) c2
          rw [hm] at this
          omega
        · have := far (-q) t (by omega)
          rw [hm] at this
          omega
    · have : max 1 (-q) = 1 := by omega
      rw [this, Int.mul_one]
      have h2 : u * (-q) ≤ 0 := by
        by_cases c : -q = 0
        · rw [c, Int.mul_zero]; omega
        · have := far (-q) 0 (by omega)
          rw [Int.mul_zero] at this
          omega
      rw [hm] at h2
      by_cases c : t = 1
      · subst c; rw [Int.mul_one]; omega
      · have := far 1 t (by omega)
        rw [Int.mul_one] at this
        omega
theorem F_law_miss_eq {w u : Int} (hw : 1 ≤ w) (hw2 : w < 1000000) (h0 : 0 < u) (h1 : u < 1000) : F_law_miss [.int w, .int u] = some (.val (.int (ms w u)), []) := by
  refine runB_rt (r := .val (.int (ms w u))) (e' := [.val (.int w), .val (.int u), .un]) rfl ?_ rfl
  show body_law_miss [.val (.int w), .val (.int u), .un] = _
  have b0 : 0 ≤ w.fdiv u := by rw [Int.fdiv_eq_ediv_of_nonneg _ (by omega)]; exact Int.ediv_nonneg (by omega) (by omega)
  have b1 : w.fdiv u ≤ w := by rw [Int.fdiv_eq_ediv_of_nonneg _ (by omega)]; exact Int.ediv_le_self _ (by omega)
  have hc : C_law_miss_1 [.val (.int w), .val (.int u), .un] = some (.own (.list (((rng 1 (w.fdiv u + 3)).map fun t => ((w - u * t).natAbs : Int)).map .int)), [.val (.int w), .val (.int u), .un]) := by
    have := clc_map (f := PyData.int) (g := fun t => PyData.int ((w - u * t).natAbs : Int)) (ci := ciR2 (frz (cK (.int 1))) (frz (cOps (l2 addD) [.ex (frz (cOps (l2 fdivD) [.nm 0, .nm 1])), .ex (frz (cK (.int 3)))]))) (ct := ctName 2) (el := frz E_law_miss_1) (vs := [2]) (e := [.val (.int w), .val (.int u), .un]) (e1 := [.val (.int w), .val (.int u), .un]) (rng 1 (w.fdiv u + 3)) ?_ ?_ ?_
    · rw [List.map_map]; exact this
    · simp only [cOps, evs, peek, frz, cK, cVar, FL.l1, FL.l2, cbT, cbAnd, cbOr, cbNot, cbTru, cbNm, cIf, cAndV, cOrV, cNotV, cChain, truthV, cvs, cTup, cLst, cDnew, cCall, aevs, aIx, drops, puts, peekOwn, ctName, ctTup, ctCons, ctNil, cSl, coN, coS, cbYes, wipeE, back, ciE, ciR1, ciR2, walkD, isLst, cMt, sets, crs, List.getElem?_cons_zero, List.getElem?_cons_succ, List.set_cons_zero, List.set_cons_succ, List.getD_cons_zero, List.getD_cons_succ, List.length_cons, List.length_nil, Option.some.injEq, Prod.mk.injEq, reduceCtorEq, if_true, if_false, ite_true, ite_false, Bool.false_eq_true, Nat.reduceAdd, Nat.reduceLT, Nat.reduceLeDiff, reduceIte, addD_int, subD_int, negD_int, absD_int, eqD_int, neD_int, ltD_int, leD_int, gtD_int, geD_int, max2D_int, min2D_int, eqD_bool, neD_bool, FL.intD, FL.tupD, FL.lenD, fdivD_int (a := w) (b := u) (by omega) (by omega), small_in (i := 1) (by omega) (by omega), small_in (i := w.fdiv u + 3) (by omega) (by omega), rangeD_rng, and_self]
    · rw [rng_len]; omega
    · intro t ht
      refine ⟨[.val (.int w), .val (.int u), .val (.int t)], by simp only [cOps, evs, peek, frz, cK, cVar, FL.l1, FL.l2, cbT, cbAnd, cbOr, cbNot, cbTru, cbNm, cIf, cAndV, cOrV, cNotV, cChain, truthV, cvs, cTup, cLst, cDnew, cCall, aevs, aIx, drops, puts, peekOwn, ctName, ctTup, ctCons, ctNil, cSl, coN, coS, cbYes, wipeE, back, ciE, ciR1, ciR2, walkD, isLst, cMt, sets, crs, List.getElem?_cons_zero, List.getElem?_cons_succ, List.set_cons_zero, List.set_cons_succ, List.getD_cons_zero, List.getD_cons_succ, List.length_cons, List.length_nil, Option.some.injEq, Prod.mk.injEq, reduceCtorEq, if_true, if_false, ite_true, ite_false, Bool.false_eq_true, Nat.reduceAdd, Nat.reduceLT, Nat.reduceLeDiff, reduceIte], [.val (.int w), .val (.int u), .val (.int t)], ?_, rfl⟩
      simp only [E_law_miss_1, cOps, evs, peek, frz, cK, cVar, FL.l1, FL.l2, cbT, cbAnd, cbOr, cbNot, cbTru, cbNm, cIf, cAndV, cOrV, cNotV, cChain, truthV, cvs, cTup, cLst, cDnew, cCall, aevs, aIx, drops, puts, peekOwn, ctName, ctTup, ctCons, ctNil, cSl, coN, coS, cbYes, wipeE, back, ciE, ciR1, ciR2, walkD, isLst, cMt, sets, crs, List.getElem?_cons_zero, List.getElem?_cons_succ, List.set_cons_zero, List.set_cons_succ, List.getD_cons_zero, List.getD_cons_succ, List.length_cons, List.length_nil, Option.some.injEq, Prod.mk.injEq, reduceCtorEq, if_true, if_false, ite_true, ite_false, Bool.false_eq_true, Nat.reduceAdd, Nat.reduceLT, Nat.reduceLeDiff, reduceIte, addD_int, subD_int, negD_int, absD_int, eqD_int, neD_int, ltD_int, leD_int, gtD_int, geD_int, max2D_int, min2D_int, eqD_bool, neD_bool, FL.intD, FL.tupD, FL.lenD, mulD_int (a := u) (b := t) (.inl (by omega))]
  obtain ⟨s1, s2, s3⟩ := tn_spec hw h0
  have hmin : minD (.list (((rng 1 (w.fdiv u + 3)).map fun t => ((w - u * t).natAbs : Int)).map .int)) = some (.val (.int (ms w u))) := by
    refine minD_of (List.mem_map.mpr ⟨tn w u, mem_rng.mpr ⟨s1, by omega⟩, rfl⟩) fun x hx => ?_
    obtain ⟨t, ht, rfl⟩ := List.mem_map.mp hx
    exact s3 t (mem_rng.mp ht).1
  simp only [body_law_miss, sRet, cOps, evs, peek, frz, cK, cVar, FL.l1, FL.l2, cbT, cbAnd, cbOr, cbNot, cbTru, cbNm, cIf, cAndV, cOrV, cNotV, cChain, truthV, cvs, cTup, cLst, cDnew, cCall, aevs, aIx, drops, puts, peekOwn, ctName, ctTup, ctCons, ctNil, cSl, coN, coS, cbYes, wipeE, back, ciE, ciR1, ciR2, walkD, isLst, cMt, sets, crs, List.getElem?_cons_zero, List.getElem?_cons_succ, List.set_cons_zero, List.set_cons_succ, List.getD_cons_zero, List.getD_cons_succ, List.length_cons, List.length_nil, Option.some.injEq, Prod.mk.injEq, reduceCtorEq, if_true, if_false, ite_true, ite_false, Bool.false_eq_true, Nat.reduceAdd, Nat.reduceLT, Nat.reduceLeDiff, reduceIte, hc, hmin]

/-! ### sets of weights -/
def Wok (ws : List Int) : Prop := (∀ w ∈ ws, 1 ≤ w ∧ w < 1000000) ∧ ws.length ≤ 1000
abbrev TI (ws : List Int) : PyData := .tuple (ws.map .int)
theorem walk_T (ws : List Int) (e : Ev) (i : Nat) (h : e[i]? = some (.val (TI ws))) : ciE (frz (cVar i)) e = some (ws.map .int, e) := by
  simp only [ciE, frz, cVar, h, walkD]
def fits (ws : List Int) (slip u : Int) : Bool := ws.all fun w => decide (ms w u ≤ slip)
theorem F_fitting_units_eq {ws : List Int} (hw : Wok ws) {slip low high : Int} (hl : 1 ≤ low) (hh : high < 900) (hh0 : 0 ≤ high) (hl2 : low < 900) :
    F_fitting_units [TI ws, .int slip, .int low, .int high] = some (.val (TI ((rng low (high + 1)).filter (fits ws slip))), []) := by
  suffices RunS body_fitting_units [.val (TI ws), .val (.int slip), .val (.int low), .val (.int high), .un, .un, .un] (fun o => ∃ e', o = .rt (.val (TI ((rng low (high + 1)).filter (fits ws slip)))) e') by
    obtain ⟨o, ho, e', rfl⟩ := this
    exact runB_rt rfl ho rfl
  have hm : max 1 low = low := by omega
  unfold body_fitting_units
  rw [run_seq]
  refine run_set (r := .own (.list [])) (e' := [.val (TI ws), .val (.int slip), .val (.int low), .val (.int high), .un, .un, .un]) (by simp only [cOps, evs, peek, frz, cK, cVar, FL.l1, FL.l2, cbT, cbAnd, cbOr, cbNot, cbTru, cbNm, cIf, cAndV, cOrV, cNotV, cChain, truthV, cvs, cTup, cLst, cDnew, cCall, aevs, aIx, drops, puts, peekOwn, ctName, ctTup, ctCons, ctNil, cSl, coN, coS, cbYes, wipeE, back, ciE, ciR1, ciR2, walkD, isLst, cMt, sets, crs, List.getElem?_cons_zero, List.getElem?_cons_succ, List.set_cons_zero, List.set_cons_succ, List.getD_cons_zero, List.getD_cons_succ, List.length_cons, List.length_nil, Option.some.injEq, Prod.mk.injEq, reduceCtorEq, if_true, if_false, ite_true, ite_false, Bool.false_eq_true, Nat.reduceAdd, Nat.reduceLT, Nat.reduceLeDiff, reduceIte]) (by simp) ?_
  show RunS _ [.val (TI ws), .val (.int slip), .val (.int low), .val (.int high), .own (.list []), .un, .un] _
  rw [run_seq]
  refine run_sfor (f := PyData.int) (e1 := [.val (TI ws), .val (.int slip), .val (.int low), .val (.int high), .own (.list []), .un, .un]) (rng low (high + 1)) ?_
    (fun us e => ∃ fs x, e = [.val (TI ws), .val (.int slip), .val (.int low), .val (.int high), .own (.list (fs.map .int)), x, .un] ∧ fs ++ us.filter (fits ws slip) = (rng low (high + 1)).filter (fits ws slip) ∧ (∀ u ∈ us, 0 < u ∧ u < 1000) ∧ fs.length + us.length ≤ 1000) ?_ ?_ ?_
  · simp only [cOps, evs, peek, frz, cK, cVar, FL.l1, FL.l2, cbT, cbAnd, cbOr, cbNot, cbTru, cbNm, cIf, cAndV, cOrV, cNotV, cChain, truthV, cvs, cTup, cLst, cDnew, cCall, aevs, aIx, drops, puts, peekOwn, ctName, ctTup, ctCons, ctNil, cSl, coN, coS, cbYes, wipeE, back, ciE, ciR1, ciR2, walkD, isLst, cMt, sets, crs, List.getElem?_cons_zero, List.getElem?_cons_succ, List.set_cons_zero, List.set_cons_succ, List.getD_cons_zero, List.getD_cons_succ, List.length_cons, List.length_nil, Option.some.injEq, Prod.mk.injEq, reduceCtorEq, if_true, if_false, ite_true, ite_false, Bool.false_eq_true, Nat.reduceAdd, Nat.reduceLT, Nat.reduceLeDiff, reduceIte, addD_int, subD_int, negD_int, absD_int, eqD_int, neD_int, ltD_int, leD_int, gtD_int, geD_int, max2D_int, min2D_int, eqD_bool, neD_bool, FL.intD, FL.tupD, FL.lenD, hm, small_in (i := low) (by omega) (by omega), small_in (i := high + 1) (by omega) (by omega), and_self, rangeD_rng]
  · refine ⟨[], .un, rfl, rfl, fun u hu => ?_, ?_⟩
    · have := mem_rng.mp hu; omega
    · rw [rng_len]; show 0 + _ ≤ 1000; omega
  · rintro e ⟨fs, x, rfl, h, -, -⟩
    rw [List.filter_nil, List.append_nil] at h
    refine run_ret (r := .val (TI ((rng low (high + 1)).filter (fits ws slip)))) (e' := [.val (TI ws), .val (.int slip), .val (.int low), .val (.int high), .own (.list (fs.map .int)), x, .un]) ?_ ⟨_, rfl⟩
    simp only [cOps, evs, peek, frz, cK, cVar, FL.l1, FL.l2, cbT, cbAnd, cbOr, cbNot, cbTru, cbNm, cIf, cAndV, cOrV, cNotV, cChain, truthV, cvs, cTup, cLst, cDnew, cCall, aevs, aIx, drops, puts, peekOwn, ctName, ctTup, ctCons, ctNil, cSl, coN, coS, cbYes, wipeE, back, ciE, ciR1, ciR2, walkD, isLst, cMt, sets, crs, List.getElem?_cons_zero, List.getElem?_cons_succ, List.set_cons_zero, List.set_cons_succ, List.getD_cons_zero, List.getD_cons_succ, List.length_cons, List.length_nil, Option.some.injEq, Prod.mk.injEq, reduceCtorEq, if_true, if_false, ite_true, ite_false, Bool.false_eq_true, Nat.reduceAdd, Nat.reduceLT, Nat.reduceLeDiff, reduceIte, addD_int, subD_int, negD_int, absD_int, eqD_int, neD_int, ltD_int, leD_int, gtD_int, geD_int, max2D_int, min2D_int, eqD_bool, neD_bool, FL.intD, FL.tupD, FL.lenD, h]
  · rintro u us e ⟨fs, x, rfl, h, hu, hn⟩
    obtain ⟨hu1, hu2⟩ := hu u List.mem_cons_self
    refine ⟨[.val (TI ws), .val (.int slip), .val (.int low), .val (.int high), .own (.list (fs.map .int)), .val (.int u), .un], by simp only [cOps, evs, peek, frz, cK, cVar, FL.l1, FL.l2, cbT, cbAnd, cbOr, cbNot, cbTru, cbNm, cIf, cAndV, cOrV, cNotV, cChain, truthV, cvs, cTup, cLst, cDnew, cCall, aevs, aIx, drops, puts, peekOwn, ctName, ctTup, ctCons, ctNil, cSl, coN, coS, cbYes, wipeE, back, ciE, ciR1, ciR2, walkD, isLst, cMt, sets, crs, List.getElem?_cons_zero, List.getElem?_cons_succ, List.set_cons_zero, List.set_cons_succ, List.getD_cons_zero, List.getD_cons_succ, List.length_cons, List.length_nil, Option.some.injEq, Prod.mk.injEq, reduceCtorEq, if_true, if_false, ite_true, ite_false, Bool.false_eq_true, Nat.reduceAdd, Nat.reduceLT, Nat.reduceLeDiff, reduceIte], ?_⟩
    have hc : C_fitting_units_1 [.val (TI ws), .val (.int slip), .val (.int low), .val (.int high), .own (.list (fs.map .int)), .val (.int u), .un] = some (.own (.list (ws.map fun w => PyData.bool (decide (ms w u ≤ slip)))), [.val (TI ws), .val (.int slip), .val (.int low), .val (.int high), .own (.list (fs.map .int)), .val (.int u), .un]) := by
      refine clc_map (f := PyData.int) (e1 := [.val (TI ws), .val (.int slip), .val (.int low), .val (.int high), .own (.list (fs.map .int)), .val (.int u), .un]) (fun w => PyData.bool (decide (ms w u ≤ slip))) ws (walk_T ws _ 0 rfl) (by have := hw.2; omega) fun w hw' => ?_
      refine ⟨[.val (TI ws), .val (.int slip), .val (.int low), .val (.int high), .own (.list (fs.map .int)), .val (.int u), .val (.int w)], by simp only [cOps, evs, peek, frz, cK, cVar, FL.l1, FL.l2, cbT, cbAnd, cbOr, cbNot, cbTru, cbNm, cIf, cAndV, cOrV, cNotV, cChain, truthV, cvs, cTup, cLst, cDnew, cCall, aevs, aIx, drops, puts, peekOwn, ctName, ctTup, ctCons, ctNil, cSl, coN, coS, cbYes, wipeE, back, ciE, ciR1, ciR2, walkD, isLst, cMt, sets, crs, List.getElem?_cons_zero, List.getElem?_cons_succ, List.set_cons_zero, List.set_cons_succ, List.getD_cons_zero, List.getD_cons_succ, List.length_cons, List.length_nil, Option.some.injEq, Prod.mk.injEq, reduceCtorEq, if_true, if_false, ite_true, ite_false, Bool.false_eq_true, Nat.reduceAdd, Nat.reduceLT, Nat.reduceLeDiff, reduceIte], [.val (TI ws), .val (.int slip), .val (.int low), .val (.int high), .own (.list (fs.map .int)), .val (.int u), .val (.int w)], ?_, rfl⟩
      simp only [E_fitting_units_1, cOps, evs, peek, frz, cK, cVar, FL.l1, FL.l2, cbT, cbAnd, cbOr, cbNot, cbTru, cbNm, cIf, cAndV, cOrV, cNotV, cChain, truthV, cvs, cTup, cLst, cDnew, cCall, aevs, aIx, drops, puts, peekOwn, ctName, ctTup, ctCons, ctNil, cSl, coN, coS, cbYes, wipeE, back, ciE, ciR1, ciR2, walkD, isLst, cMt, sets, crs, List.getElem?_cons_zero, List.getElem?_cons_succ, List.set_cons_zero, List.set_cons_succ, List.getD_cons_zero, List.getD_cons_succ, List.length_cons, List.length_nil, Option.some.injEq, Prod.mk.injEq, reduceCtorEq, if_true, if_false, ite_true, ite_false, Bool.false_eq_true, Nat.reduceAdd, Nat.reduceLT, Nat.reduceLeDiff, reduceIte, addD_int, subD_int, negD_int, absD_int, eqD_int, neD_int, ltD_int, leD_int, gtD_int, geD_int, max2D_int, min2D_int, eqD_bool, neD_bool, FL.intD, FL.tupD, FL.lenD, F_miss_of_eq hu1 hu2]
    refine run_if (k := fits ws slip u) (e' := [.val (TI ws), .val (.int slip), .val (.int low), .val (.int high), .own (.list (fs.map .int)), .val (.int u), .un]) ?_ (fun hk => ?_) (fun hk => ?_)
    · simp only [cOps, evs, peek, frz, cK, cVar, FL.l1, FL.l2, cbT, cbAnd, cbOr, cbNot, cbTru, cbNm, cIf, cAndV, cOrV, cNotV, cChain, truthV, cvs, cTup, cLst, cDnew, cCall, aevs, aIx, drops, puts, peekOwn, ctName, ctTup, ctCons, ctNil, cSl, coN, coS, cbYes, wipeE, back, ciE, ciR1, ciR2, walkD, isLst, cMt, sets, crs, List.getElem?_cons_zero, List.getElem?_cons_succ, List.set_cons_zero, List.set_cons_succ, List.getD_cons_zero, List.getD_cons_succ, List.length_cons, List.length_nil, Option.some.injEq, Prod.mk.injEq, reduceCtorEq, if_true, if_false, ite_true, ite_false, Bool.false_eq_true, Nat.reduceAdd, Nat.reduceLT, Nat.reduceLeDiff, reduceIte, hc, allD_map, fits]
    · refine run_expr (r := .val .none) (e' := [.val (TI ws), .val (.int slip), .val (.int low), .val (.int high), .own (.list ((fs ++ [u]).map .int)), .val (.int u), .un]) ?_ ?_
      · have hlen : (fs.map PyData.int).length < 16777216 := by rw [List.length_map]; omega
        simp only [cOps, evs, peek, frz, cK, cVar, FL.l1, FL.l2, cbT, cbAnd, cbOr, cbNot, cbTru, cbNm, cIf, cAndV, cOrV, cNotV, cChain, truthV, cvs, cTup, cLst, cDnew, cCall, aevs, aIx, drops, puts, peekOwn, ctName, ctTup, ctCons, ctNil, cSl, coN, coS, cbYes, wipeE, back, ciE, ciR1, ciR2, walkD, isLst, cMt, sets, crs, List.getElem?_cons_zero, List.getElem?_cons_succ, List.set_cons_zero, List.set_cons_succ, List.getD_cons_zero, List.getD_cons_succ, List.length_cons, List.length_nil, Option.some.injEq, Prod.mk.injEq, reduceCtorEq, if_true, if_false, ite_true, ite_false, Bool.false_eq_true, Nat.reduceAdd, Nat.reduceLT, Nat.reduceLeDiff, reduceIte, appD, hlen, List.map_append, List.map_cons, List.map_nil]
      · refine ⟨fs ++ [u], _, rfl, ?_, fun v hv => hu v (List.mem_cons_of_mem _ hv), ?_⟩
        · rw [List.filter_cons_of_pos hk] at h
          rw [List.append_assoc]; exact h
        · rw [List.length_append, List.length_singleton]; rw [List.length_cons] at hn; omega
    · rw [run_nop]
      refine ⟨fs, _, rfl, ?_, fun v hv => hu v (List.mem_cons_of_mem _ hv), by rw [List.length_cons] at hn; omega⟩
      rw [List.filter_cons_of_neg (by simp [hk])] at h
      exact h
def whole (ws : List Int) (u : Int) : Int := (ws.map fun w => ms w u).sum
theorem F_miss_eq {ws : List Int} (hw : Wok ws) {u : Int} (h0 : 0 < u) (h1 : u < 1000) : F_miss [TI ws, .int u] = some (.val (.int (whole ws u)), []) := by
  refine runB_rt (r := .val (.int (whole ws u))) (e' := [.val (TI ws), .val (.int u), .un]) rfl ?_ rfl
  show body_miss [.val (TI ws), .val (.int u), .un] = _
  have hc : C_miss_1 [.val (TI ws), .val (.int u), .un] = some (.own (.list (ws.map fun w => PyData.int (ms w u))), [.val (TI ws), .val (.int u), .un]) := by
    refine clc_map (f := PyData.int) (e1 := [.val (TI ws), .val (.int u), .un]) (fun w => PyData.int (ms w u)) ws (walk_T ws _ 0 rfl) (by have := hw.2; omega) fun w hw' => ?_
    refine ⟨[.val (TI ws), .val (.int u), .val (.int w)], by simp only [cOps, evs, peek, frz, cK, cVar, FL.l1, FL.l2, cbT, cbAnd, cbOr, cbNot, cbTru, cbNm, cIf, cAndV, cOrV, cNotV, cChain, truthV, cvs, cTup, cLst, cDnew, cCall, aevs, aIx, drops, puts, peekOwn, ctName, ctTup, ctCons, ctNil, cSl, coN, coS, cbYes, wipeE, back, ciE, ciR1, ciR2, walkD, isLst, cMt, sets, crs, List.getElem?_cons_zero, List.getElem?_cons_succ, List.set_cons_zero, List.set_cons_succ, List.getD_cons_zero, List.getD_cons_succ, List.length_cons, List.length_nil, Option.some.injEq, Prod.mk.injEq, reduceCtorEq, if_true, if_false, ite_true, ite_false, Bool.false_eq_true, Nat.reduceAdd, Nat.reduceLT, Nat.reduceLeDiff, reduceIte], [.val (TI ws), .val (.int u), .val (.int w)], ?_, rfl⟩
    simp only [E_miss_1, cOps, evs, peek, frz, cK, cVar, FL.l1, FL.l2, cbT, cbAnd, cbOr, cbNot, cbTru, cbNm, cIf, cAndV, cOrV, cNotV, cChain, truthV, cvs, cTup, cLst, cDnew, cCall, aevs, aIx, drops, puts, peekOwn, ctName, ctTup, ctCons, ctNil, cSl, coN, coS, cbYes, wipeE, back, ciE, ciR1, ciR2, walkD, isLst, cMt, sets, crs, List.getElem?_cons_zero, List.getElem?_cons_succ, List.set_cons_zero, List.set_cons_succ, List.getD_cons_zero, List.getD_cons_succ, List.length_cons, List.length_nil, Option.some.injEq, Prod.mk.injEq, reduceCtorEq, if_true, if_false, ite_true, ite_false, Bool.false_eq_true, Nat.reduceAdd, Nat.reduceLT, Nat.reduceLeDiff, reduceIte, F_miss_of_eq h0 h1]
  simp only [body_miss, sRet, cOps, evs, peek, frz, cK, cVar, FL.l1, FL.l2, cbT, cbAnd, cbOr, cbNot, cbTru, cbNm, cIf, cAndV, cOrV, cNotV, cChain, truthV, cvs, cTup, cLst, cDnew, cCall, aevs, aIx, drops, puts, peekOwn, ctName, ctTup, ctCons, ctNil, cSl, coN, coS, cbYes, wipeE, back, ciE, ciR1, ciR2, walkD, isLst, cMt, sets, crs, List.getElem?_cons_zero, List.getElem?_cons_succ, List.set_cons_zero, List.set_cons_succ, List.getD_cons_zero, List.getD_cons_succ, List.length_cons, List.length_nil, Option.some.injEq, Prod.mk.injEq, reduceCtorEq, if_true, if_false, ite_true, ite_false, Bool.false_eq_true, Nat.reduceAdd, Nat.reduceLT, Nat.reduceLeDiff, reduceIte, hc, sumD_map, whole]

/-! ### ratios -/
def rt (m u : Int) : PyData := .tuple [.int (m.fdiv (Nat.gcd m.natAbs u.natAbs : Nat)), .int (u.fdiv (Nat.gcd m.natAbs u.natAbs : Nat))]
theorem gcd_pos {m u : Int} (h : 0 < u) : 0 < (Nat.gcd m.natAbs u.natAbs : Nat) := Nat.gcd_pos_of_pos_right _ (by omega)
theorem gcd_le {m u : Int} (h : 0 < u) : ((Nat.gcd m.natAbs u.natAbs : Nat) : Int) ≤ u := by
  have := Nat.le_of_dvd (by omega) (Nat.gcd_dvd_right m.natAbs u.natAbs)
  omega
theorem F_ratio_eq {m u : Int} (h0 : 0 < u) (h1 : u < 1000) : F_ratio [.int m, .int u] = some (.val (rt m u), []) := by
  have hg := gcd_pos (m := m) h0
  have hg2 := gcd_le (m := m) h0
  generalize hgg : Nat.gcd m.natAbs u.natAbs = g at *
  have hr : rt m u = .tuple [.int (m.fdiv g), .int (u.fdiv g)] := by unfold rt; rw [hgg]
  refine runB_rt (r := .val (rt m u)) (e' := [.val (.int m), .val (.int u), .val (.int g)]) rfl ?_ rfl
  show body_ratio [.val (.int m), .val (.int u), .un] = _
  have hlt : decide (u < 0) = false := decide_eq_false (by omega)
  simp only [body_ratio, sSeq, sIf, sSet, sNop, sRet, cOps, evs, peek, frz, cK, cVar, FL.l1, FL.l2, cbT, cbAnd, cbOr, cbNot, cbTru, cbNm, cIf, cAndV, cOrV, cNotV, cChain, truthV, cvs, cTup, cLst, cDnew, cCall, aevs, aIx, drops, puts, peekOwn, ctName, ctTup, ctCons, ctNil, cSl, coN, coS, cbYes, wipeE, back, ciE, ciR1, ciR2, walkD, isLst, cMt, sets, crs, List.getElem?_cons_zero, List.getElem?_cons_succ, List.set_cons_zero, List.set_cons_succ, List.getD_cons_zero, List.getD_cons_succ, List.length_cons, List.length_nil, Option.some.injEq, Prod.mk.injEq, reduceCtorEq, if_true, if_false, ite_true, ite_false, Bool.false_eq_true, Nat.reduceAdd, Nat.reduceLT, Nat.reduceLeDiff, reduceIte, addD_int, subD_int, negD_int, absD_int, eqD_int, neD_int, ltD_int, leD_int, gtD_int, geD_int, max2D_int, min2D_int, eqD_bool, neD_bool, FL.intD, FL.tupD, FL.lenD, hlt, gcdD, hgg, fdivD_int (a := m) (b := (g : Int)) (by omega) (by omega), fdivD_int (a := u) (b := (g : Int)) (by omega) (by omega), hr]
theorem F_less_eq {a b c d : Int} (ha : d.natAbs < 18446744073709551616) (hb : b.natAbs < 18446744073709551616) : F_less [.tuple [.int a, .int b], .tuple [.int c, .int d]] = some (.val (.bool (decide (a * d < c * b))), []) := by
  refine runB_rt (r := .val (.bool (decide (a * d < c * b)))) (e' := [.val (.tuple [.int a, .int b]), .val (.tuple [.int c, .int d])]) rfl ?_ rfl
  show body_less [.val (.tuple [.int a, .int b]), .val (.tuple [.int c, .int d])] = _
  have i0 : ∀ x y : PyData, ixD (.tuple [x, y]) (.int 0) = some (.val x) := fun _ _ => rfl
  have i1 : ∀ x y : PyData, ixD (.tuple [x, y]) (.int 1) = some (.val y) := fun _ _ => rfl
  simp only [body_less, sRet, cOps, evs, peek, frz, cK, cVar, FL.l1, FL.l2, cbT, cbAnd, cbOr, cbNot, cbTru, cbNm, cIf, cAndV, cOrV, cNotV, cChain, truthV, cvs, cTup, cLst, cDnew, cCall, aevs, aIx, drops, puts, peekOwn, ctName, ctTup, ctCons, ctNil, cSl, coN, coS, cbYes, wipeE, back, ciE, ciR1, ciR2, walkD, isLst, cMt, sets, crs, List.getElem?_cons_zero, List.getElem?_cons_succ, List.set_cons_zero, List.set_cons_succ, List.getD_cons_zero, List.getD_cons_succ, List.length_cons, List.length_nil, Option.some.injEq, Prod.mk.injEq, reduceCtorEq, if_true, if_false, ite_true, ite_false, Bool.false_eq_true, Nat.reduceAdd, Nat.reduceLT, Nat.reduceLeDiff, reduceIte, addD_int, subD_int, negD_int, absD_int, eqD_int, neD_int, ltD_int, leD_int, gtD_int, geD_int, max2D_int, min2D_int, eqD_bool, neD_bool, FL.intD, FL.tupD, FL.lenD, i0, i1, mulD_int (a := a) (b := d) (.inr ha), mulD_int (a := c) (b := b) (.inr hb)]
theorem div_mul {m : Int} {g : Nat} (hd : g ∣ m.natAbs) : m.fdiv g * g = m := by
  rw [Int.fdiv_eq_ediv_of_nonneg _ (by omega)]
  exact Int.ediv_mul_cancel (Int.ofNat_dvd_left.mpr hd)
theorem less_iff {m u m2 u2 : Int} (h : 0 < u) (h2 : 0 < u2) : (m.fdiv (Nat.gcd m.natAbs u.natAbs : Nat) * u2.fdiv (Nat.gcd m2.natAbs u2.natAbs : Nat) < m2.fdiv (Nat.gcd m2.natAbs u2.natAbs : Nat) * u.fdiv (Nat.gcd m.natAbs u.natAbs : Nat)) ↔ m * u2 < m2 * u := by
  have g1 := gcd_pos (m := m) h
  have g2 := gcd_pos (m := m2) h2
  have e1 := div_mul (m := m) (Nat.gcd_dvd_left m.natAbs u.natAbs)
  have e2 := div_mul (m := u) (Nat.gcd_dvd_right m.natAbs u.natAbs)
  have e3 := div_mul (m := m2) (Nat.gcd_dvd_left m2.natAbs u2.natAbs)
  have e4 := div_mul (m := u2) (Nat.gcd_dvd_right m2.natAbs u2.natAbs)
  generalize Nat.gcd m.natAbs u.natAbs = g at *
  generalize Nat.gcd m2.natAbs u2.natAbs = k at *
  generalize m.fdiv g = a at *
  generalize u.fdiv g = b at *
  generalize m2.fdiv k = c at *
  generalize u2.fdiv k = d at *
  subst e1 e2 e3 e4
  have p1 : a * g * (d * k) = (a * d) * (g * k : Int) := by
    rw [Int.mul_assoc, Int.mul_assoc, ← Int.mul_assoc (g : Int) d k, Int.mul_comm (g : Int) d, Int.mul_assoc d g k]
  have p2 : c * k * (b * g) = (c * b) * (g * k : Int) := by
    rw [Int.mul_assoc, Int.mul_assoc, ← Int.mul_assoc (k : Int) b g, Int.mul_comm (k : Int) b, Int.mul_assoc b k g, Int.mul_comm (k : Int) (g : Int)]
  rw [p1, p2]
  have pos : (0 : Int) < g * k := Int.mul_pos (by omega) (by omega)
  exact ⟨fun h => Int.mul_lt_mul_of_pos_right h pos, fun h => Int.lt_of_mul_lt_mul_right h (Int.le_of_lt pos)⟩
/-- the best unit so far: its miss, itself -/
def better (ws : List Int) (b : Option (Int × Int)) (u : Int) : Option (Int × Int) := match b with
  | none => some (whole ws u, u)
  | some (m, v) => if whole ws u * v ≤ m * u then some (whole ws u, u) else some (m, v)
def enB : Option (Int × Int) → PyData
  | none => .none
  | some (m, u) => .tuple [rt m u, .int u]
def enL : Option (Int × Int) → PyData
  | none => .none
  | some (m, u) => .tuple [.int m, .int u]
def Bok (b : Option (Int × Int)) : Prop := ∀ m u, b = some (m, u) → 0 < u ∧ u < 1000
theorem better_ok {ws : List Int} {b : Option (Int × Int)} (h : Bok b) {u : Int} (h0 : 0 < u) (h1 : u < 1000) : Bok (better ws b u) := by
  intro m v e
  unfold better at e
  split at e
  · cases e; exact ⟨h0, h1⟩
  · split at e
    · cases e; exact ⟨h0, h1⟩
    · cases e; exact h _ _ rfl

theorem div_small {u : Int} {m : Int} (h0 : 0 < u) (h1 : u < 1000) : (u.fdiv (Nat.gcd m.natAbs u.natAbs : Nat)).natAbs < 18446744073709551616 := by
  have g1 := gcd_pos (m := m) h0
  generalize Nat.gcd m.natAbs u.natAbs = g at *
  rw [Int.fdiv_eq_ediv_of_nonneg _ (by omega)]
  have a := Int.ediv_le_self (a := u) (g : Int) (by omega)
  have b := Int.ediv_nonneg (a := u) (b := (g : Int)) (by omega) (by omega)
  omega
theorem B_best {ws : List Int} (hw : Wok ws) {low high u : Int} (h0 : 0 < u) (h1 : u < 1000) {b : Option (Int × Int)} (hb : Bok b) (x : Sl) :
    B_best_unit_1 [.val (TI ws), .val low', .val high', .val (enB b), .val (.int u), x] = some (.nx [.val (TI ws), .val low', .val high', .val (enB (better ws b u)), .val (.int u), .val (rt (whole ws u) u)]) := by
  cases b with
  | none =>
    have i0 : isND .none .none = some (.val (.bool true)) := rfl
    simp only [B_best_unit_1, sSeq, sSet, sIf, sNop, enB, better, cOps, evs, peek, frz, cK, cVar, FL.l1, FL.l2, cbT, cbAnd, cbOr, cbNot, cbTru, cbNm, cIf, cAndV, cOrV, cNotV, cChain, truthV, cvs, cTup, cLst, cDnew, cCall, aevs, aIx, drops, puts, peekOwn, ctName, ctTup, ctCons, ctNil, cSl, coN, coS, cbYes, wipeE, back, ciE, ciR1, ciR2, walkD, isLst, cMt, sets, crs, List.getElem?_cons_zero, List.getElem?_cons_succ, List.set_cons_zero, List.set_cons_succ, List.getD_cons_zero, List.getD_cons_succ, List.length_cons, List.length_nil, Option.some.injEq, Prod.mk.injEq, reduceCtorEq, if_true, if_false, ite_true, ite_false, Bool.false_eq_true, Nat.reduceAdd, Nat.reduceLT, Nat.reduceLeDiff, reduceIte, F_miss_eq hw h0 h1, F_ratio_eq h0 h1, i0]
  | some p =>
    obtain ⟨m, v⟩ := p
    obtain ⟨hv0, hv1⟩ := hb m v rfl
    have i0 : ∀ d : List PyData, isND (.tuple d) .none = some (.val (.bool false)) := fun _ => rfl
    have i1 : ∀ x y : PyData, ixD (.tuple [x, y]) (.int 0) = some (.val x) := fun _ _ => rfl
    have hl : F_less [rt m v, rt (whole ws u) u] = some (.val (.bool (decide (m * u < whole ws u * v))), []) := by
      unfold rt
      rw [F_less_eq (div_small h0 h1) (div_small hv0 hv1)]
      simp only [less_iff hv0 h0]
    by_cases c : whole ws u * v ≤ m * u
    · have c1 : decide (m * u < whole ws u * v) = false := decide_eq_false (by omega)
      have c2 : better ws (some (m, v)) u = some (whole ws u, u) := if_pos c
      simp only [B_best_unit_1, sSeq, sSet, sIf, sNop, c2, enB, cOps, evs, peek, frz, cK, cVar, FL.l1, FL.l2, cbT, cbAnd, cbOr, cbNot, cbTru, cbNm, cIf, cAndV, cOrV, cNotV, cChain, truthV, cvs, cTup, cLst, cDnew, cCall, aevs, aIx, drops, puts, peekOwn, ctName, ctTup, ctCons, ctNil, cSl, coN, coS, cbYes, wipeE, back, ciE, ciR1, ciR2, walkD, isLst, cMt, sets, crs, List.getElem?_cons_zero, List.getElem?_cons_succ, List.set_cons_zero, List.set_cons_succ, List.getD_cons_zero, List.getD_cons_succ, List.length_cons, List.length_nil, Option.some.injEq, Prod.mk.injEq, reduceCtorEq, if_true, if_false, ite_true, ite_false, Bool.false_eq_true, Nat.reduceAdd, Nat.reduceLT, Nat.reduceLeDiff, reduceIte, F_miss_eq hw h0 h1, F_ratio_eq h0 h1, i0, i1, hl, c1, Bool.not_false]
    · have c1 : decide (m * u < whole ws u * v) = true := decide_eq_true (by omega)
      have c2 : better ws (some (m, v)) u = some (m, v) := if_neg c
      simp only [B_best_unit_1, sSeq, sSet, sIf, sNop, c2, enB, cOps, evs, peek, frz, cK, cVar, FL.l1, FL.l2, cbT, cbAnd, cbOr, cbNot, cbTru, cbNm, cIf, cAndV, cOrV, cNotV, cChain, truthV, cvs, cTup, cLst, cDnew, cCall, aevs, aIx, drops, puts, peekOwn, ctName, ctTup, ctCons, ctNil, cSl, coN, coS, cbYes, wipeE, back, ciE, ciR1, ciR2, walkD, isLst, cMt, sets, crs, List.getElem?_cons_zero, List.getElem?_cons_succ, List.set_cons_zero, List.set_cons_succ, List.getD_cons_zero, List.getD_cons_succ, List.length_cons, List.length_nil, Option.some.injEq, Prod.mk.injEq, reduceCtorEq, if_true, if_false, ite_true, ite_false, Bool.false_eq_true, Nat.reduceAdd, Nat.reduceLT, Nat.reduceLeDiff, reduceIte, F_miss_eq hw h0 h1, F_ratio_eq h0 h1, i0, i1, hl, c1, Bool.not_true]
theorem F_best_unit_eq {ws : List Int} (hw : Wok ws) {low high m v : Int} (hl : 1 ≤ low) (hl2 : low < 900) (hh0 : 0 ≤ high) (hh : high < 900) (he : (rng low (high + 1)).foldl (better ws) none = some (m, v)) : F_best_unit [TI ws, .int low, .int high] = some (.val (.int v), []) := by
  suffices RunS body_best_unit [.val (TI ws), .val (.int low), .val (.int high), .un, .un, .un] (fun o => ∃ e', o = .rt (.val (.int v)) e') by
    obtain ⟨o, ho, e', rfl⟩ := this
    exact runB_rt rfl ho rfl
  unfold body_best_unit
  rw [run_seq]
  refine run_set (r := .val .none) (e' := [.val (TI ws), .val (.int low), .val (.int high), .un, .un, .un]) (by simp only [cOps, evs, peek, frz, cK, cVar, FL.l1, FL.l2, cbT, cbAnd, cbOr, cbNot, cbTru, cbNm, cIf, cAndV, cOrV, cNotV, cChain, truthV, cvs, cTup, cLst, cDnew, cCall, aevs, aIx, drops, puts, peekOwn, ctName, ctTup, ctCons, ctNil, cSl, coN, coS, cbYes, wipeE, back, ciE, ciR1, ciR2, walkD, isLst, cMt, sets, crs, List.getElem?_cons_zero, List.getElem?_cons_succ, List.set_cons_zero, List.set_cons_succ, List.getD_cons_zero, List.getD_cons_succ, List.length_cons, List.length_nil, Option.some.injEq, Prod.mk.injEq, reduceCtorEq, if_true, if_false, ite_true, ite_false, Bool.false_eq_true, Nat.reduceAdd, Nat.reduceLT, Nat.reduceLeDiff, reduceIte]) (by simp) ?_
  show RunS _ [.val (TI ws), .val (.int low), .val (.int high), .val .none, .un, .un] _
  rw [run_seq]
  refine run_sfor (f := PyData.int) (e1 := [.val (TI ws), .val (.int low), .val (.int high), .val .none, .un, .un]) (rng low (high + 1)) ?_
    (fun us e => ∃ b x y, e = [.val (TI ws), .val (.int low), .val (.int high), .val (enB b), x, y] ∧ Bok b ∧ us.foldl (better ws) b = some (m, v) ∧ (∀ u ∈ us, 0 < u ∧ u < 1000)) ?_ ?_ ?_
  · simp only [cOps, evs, peek, frz, cK, cVar, FL.l1, FL.l2, cbT, cbAnd, cbOr, cbNot, cbTru, cbNm, cIf, cAndV, cOrV, cNotV, cChain, truthV, cvs, cTup, cLst, cDnew, cCall, aevs, aIx, drops, puts, peekOwn, ctName, ctTup, ctCons, ctNil, cSl, coN, coS, cbYes, wipeE, back, ciE, ciR1, ciR2, walkD, isLst, cMt, sets, crs, List.getElem?_cons_zero, List.getElem?_cons_succ, List.set_cons_zero, List.set_cons_succ, List.getD_cons_zero, List.getD_cons_succ, List.length_cons, List.length_nil, Option.some.injEq, Prod.mk.injEq, reduceCtorEq, if_true, if_false, ite_true, ite_false, Bool.false_eq_true, Nat.reduceAdd, Nat.reduceLT, Nat.reduceLeDiff, reduceIte, addD_int, subD_int, negD_int, absD_int, eqD_int, neD_int, ltD_int, leD_int, gtD_int, geD_int, max2D_int, min2D_int, eqD_bool, neD_bool, FL.intD, FL.tupD, FL.lenD, small_in (i := low) (by omega) (by omega), small_in (i := high + 1) (by omega) (by omega), and_self, rangeD_rng]
  · refine ⟨none, .un, .un, rfl, fun _ _ h => (by cases h), he, fun u hu => ?_⟩
    have := mem_rng.mp hu; omega
  · rintro e ⟨b, x, y, rfl, -, h, -⟩
    cases h
    refine run_ret (r := .val (.int v)) (e' := [.val (TI ws), .val (.int low), .val (.int high), .val (enB (some (m, v))), x, y]) ?_ ⟨_, rfl⟩
    have i1 : ∀ x y : PyData, ixD (.tuple [x, y]) (.int 1) = some (.val y) := fun _ _ => rfl
    simp only [enB, cOps, evs, peek, frz, cK, cVar, FL.l1, FL.l2, cbT, cbAnd, cbOr, cbNot, cbTru, cbNm, cIf, cAndV, cOrV, cNotV, cChain, truthV, cvs, cTup, cLst, cDnew, cCall, aevs, aIx, drops, puts, peekOwn, ctName, ctTup, ctCons, ctNil, cSl, coN, coS, cbYes, wipeE, back, ciE, ciR1, ciR2, walkD, isLst, cMt, sets, crs, List.getElem?_cons_zero, List.getElem?_cons_succ, List.set_cons_zero, List.set_cons_succ, List.getD_cons_zero, List.getD_cons_succ, List.length_cons, List.length_nil, Option.some.injEq, Prod.mk.injEq, reduceCtorEq, if_true, if_false, ite_true, ite_false, Bool.false_eq_true, Nat.reduceAdd, Nat.reduceLT, Nat.reduceLeDiff, reduceIte, i1]
  · rintro u us e ⟨b, x, y, rfl, hb, h, hu⟩
    obtain ⟨hu1, hu2⟩ := hu u List.mem_cons_self
    refine ⟨[.val (TI ws), .val (.int low), .val (.int high), .val (enB b), .val (.int u), y], by simp only [cOps, evs, peek, frz, cK, cVar, FL.l1, FL.l2, cbT, cbAnd, cbOr, cbNot, cbTru, cbNm, cIf, cAndV, cOrV, cNotV, cChain, truthV, cvs, cTup, cLst, cDnew, cCall, aevs, aIx, drops, puts, peekOwn, ctName, ctTup, ctCons, ctNil, cSl, coN, coS, cbYes, wipeE, back, ciE, ciR1, ciR2, walkD, isLst, cMt, sets, crs, List.getElem?_cons_zero, List.getElem?_cons_succ, List.set_cons_zero, List.set_cons_succ, List.getD_cons_zero, List.getD_cons_succ, List.length_cons, List.length_nil, Option.some.injEq, Prod.mk.injEq, reduceCtorEq, if_true, if_false, ite_true, ite_false, Bool.false_eq_true, Nat.reduceAdd, Nat.reduceLT, Nat.reduceLeDiff, reduceIte], run_eq (B_best hw (low := low) (high := high) hu1 hu2 hb y) ?_⟩
    exact ⟨better ws b u, _, _, rfl, better_ok hb hu1 hu2, h, fun v hv => hu v (List.mem_cons_of_mem _ hv)⟩

/-! ### sums -/
def T1 : Int → PyData := fun _ => .bool true
def add1 (ks : List Int) (a : Int) : List Int := if a ∈ ks then ks else ks ++ [a]
theorem mem_add1 {ks : List Int} {a x : Int} : x ∈ add1 ks a ↔ x ∈ ks ∨ x = a := by
  unfold add1
  split
  · rename_i h
    exact ⟨.inl, fun q => q.elim id fun z => z ▸ h⟩
  · rw [List.mem_append, List.mem_singleton]
theorem put_T1 (ks : List Int) (a : Int) : dPut (keysI ks T1) (.int a) (.bool true) = keysI (add1 ks a) T1 := by
  have hany : ((keysI ks T1).any fun p => PyData.eqv p.1 (.int a)) = decide (a ∈ ks) := by
    have := any_eqv a ks
    unfold keysI
    rw [List.any_map] at this ⊢
    exact this
  unfold dPut add1
  rw [hany]
  by_cases h : a ∈ ks
  · rw [if_pos (by simp [h]), if_pos h]
    unfold keysI
    rw [List.map_map]
    apply List.map_congr_left
    intro k _
    show (if PyData.eqv (.int k) (.int a) = true then ((PyData.int k, PyData.bool true) : PyData × PyData) else (.int k, T1 k)) = (.int k, T1 k)
    split <;> rfl
  · rw [if_neg (by simp [h]), if_neg h]
    unfold keysI
    rw [List.map_append]
    rfl
theorem set_T1 (ks : List Int) (a : Int) (h : ks.length < 1000000) : setD (.dict (keysI ks T1)) (.int a) (.bool true) = some (.dict (keysI (add1 ks a) T1)) := by
  show (if okKey (keysI ks T1) (.int a) = true ∧ (keysI ks T1).length < 16777216 then some (PyData.dict (dPut (keysI ks T1) (.int a) (.bool true))) else none) = _
  rw [okKey_I, if_pos ⟨rfl, by unfold keysI; rw [List.length_map]; omega⟩, put_T1]
theorem add1_len (ks : List Int) (a : Int) : (add1 ks a).length ≤ ks.length + 1 := by
  unfold add1
  split
  · omega
  · rw [List.length_append, List.length_singleton]; omega
/-- what one weight adds -/
def reach (w : Int) (both : Bool) (ks : List Int) : Int → Prop := fun x => x ∈ ks ∨ (∃ k ∈ ks, x = k + w) ∨ both = true ∧ ∃ k ∈ ks, x = k - w
/-- the sums that the law makes -/
def nextSums (w : Int) (both : Bool) (ks : List Int) : List Int := ks ++ ks.map (fun k => k + w) ++ (if both = true then ks.map (fun k => k - w) else [])
theorem mem_nextSums {w : Int} {both : Bool} {ks : List Int} {x : Int} : x ∈ nextSums w both ks ↔ reach w both ks x := by
  unfold nextSums reach
  rw [List.mem_append, List.mem_append, or_assoc]
  have e1 : x ∈ ks.map (fun k => k + w) ↔ ∃ k ∈ ks, x = k + w := by
    rw [List.mem_map]; exact ⟨fun ⟨k, a, b⟩ => ⟨k, a, b.symm⟩, fun ⟨k, a, b⟩ => ⟨k, a, b.symm⟩⟩
  have e2 : x ∈ (if both = true then ks.map (fun k => k - w) else []) ↔ both = true ∧ ∃ k ∈ ks, x = k - w := by
    cases both
    · simp
    · simp only [if_true, true_and]
      rw [List.mem_map]; exact ⟨fun ⟨k, a, b⟩ => ⟨k, a, b.symm⟩, fun ⟨k, a, b⟩ => ⟨k, a, b.symm⟩⟩
  rw [e1, e2]
theorem nextSums_len (w : Int) (both : Bool) (ks : List Int) : (nextSums w both ks).length ≤ 3 * ks.length := by
  unfold nextSums
  cases both <;> simp <;> omega
theorem loop_gaps {W B : PyData} {w : Int} {both : Bool} {ks : List Int} (x : Sl) (hl : ks.length ≤ 1000) :
    RunS W_gaps_2 [.val W, .val B, .val (.bool both), .own (.dict (keysI ks T1)), .val (.int w), x] (fun o => ∃ ks' y, o = .nx [.val W, .val B, .val (.bool both), .own (.dict (keysI ks' T1)), .val (.int w), y] ∧ (∀ z, z ∈ ks' ↔ reach w both ks z) ∧ ks'.length ≤ 3 * ks.length) := by
  refine run_sfor (f := PyData.int) (e1 := [.val W, .val B, .val (.bool both), .own (.dict (keysI ks T1)), .val (.int w), x]) ks ?_
    (fun us e => ∃ done ks' y, e = [.val W, .val B, .val (.bool both), .own (.dict (keysI ks' T1)), .val (.int w), y] ∧ done ++ us = ks ∧ (∀ z, z ∈ ks' ↔ z ∈ ks ∨ (∃ k ∈ done, z = k + w) ∨ both = true ∧ ∃ k ∈ done, z = k - w) ∧ ks'.length ≤ ks.length + 2 * done.length) ?_ ?_ ?_
  · simp only [cOps, evs, peek, frz, cK, cVar, FL.l1, FL.l2, cbT, cbAnd, cbOr, cbNot, cbTru, cbNm, cIf, cAndV, cOrV, cNotV, cChain, truthV, cvs, cTup, cLst, cDnew, cCall, aevs, aIx, drops, puts, peekOwn, ctName, ctTup, ctCons, ctNil, cSl, coN, coS, cbYes, wipeE, back, ciE, ciR1, ciR2, walkD, isLst, cMt, sets, crs, List.getElem?_cons_zero, List.getElem?_cons_succ, List.set_cons_zero, List.set_cons_succ, List.getD_cons_zero, List.getD_cons_succ, List.length_cons, List.length_nil, Option.some.injEq, Prod.mk.injEq, reduceCtorEq, if_true, if_false, ite_true, ite_false, Bool.false_eq_true, Nat.reduceAdd, Nat.reduceLT, Nat.reduceLeDiff, reduceIte, keys_I]
  · exact ⟨[], ks, x, rfl, rfl, fun z => by simp, by simp⟩
  · rintro e ⟨done, ks', y, rfl, hd, hm, hn⟩
    rw [List.append_nil] at hd
    subst hd
    exact ⟨ks', y, rfl, hm, by omega⟩
  · rintro k us e ⟨done, ks', y, rfl, hd, hm, hn⟩
    have hdl : done.length + (us.length + 1) = ks.length := by rw [← hd, List.length_append, List.length_cons]
    have len1 := add1_len ks' (k + w)
    have len2 := add1_len (add1 ks' (k + w)) (k - w)
    refine ⟨[.val W, .val B, .val (.bool both), .own (.dict (keysI ks' T1)), .val (.int w), .val (.int k)], by simp only [cOps, evs, peek, frz, cK, cVar, FL.l1, FL.l2, cbT, cbAnd, cbOr, cbNot, cbTru, cbNm, cIf, cAndV, cOrV, cNotV, cChain, truthV, cvs, cTup, cLst, cDnew, cCall, aevs, aIx, drops, puts, peekOwn, ctName, ctTup, ctCons, ctNil, cSl, coN, coS, cbYes, wipeE, back, ciE, ciR1, ciR2, walkD, isLst, cMt, sets, crs, List.getElem?_cons_zero, List.getElem?_cons_succ, List.set_cons_zero, List.set_cons_succ, List.getD_cons_zero, List.getD_cons_succ, List.length_cons, List.length_nil, Option.some.injEq, Prod.mk.injEq, reduceCtorEq, if_true, if_false, ite_true, ite_false, Bool.false_eq_true, Nat.reduceAdd, Nat.reduceLT, Nat.reduceLeDiff, reduceIte], ?_⟩
    unfold B_gaps_2
    rw [run_seq]
    refine run_eq (o := .nx [.val W, .val B, .val (.bool both), .own (.dict (keysI (add1 ks' (k + w)) T1)), .val (.int w), .val (.int k)]) ?_ ?_
    · simp only [sPut, cOps, evs, peek, frz, cK, cVar, FL.l1, FL.l2, cbT, cbAnd, cbOr, cbNot, cbTru, cbNm, cIf, cAndV, cOrV, cNotV, cChain, truthV, cvs, cTup, cLst, cDnew, cCall, aevs, aIx, drops, puts, peekOwn, ctName, ctTup, ctCons, ctNil, cSl, coN, coS, cbYes, wipeE, back, ciE, ciR1, ciR2, walkD, isLst, cMt, sets, crs, List.getElem?_cons_zero, List.getElem?_cons_succ, List.set_cons_zero, List.set_cons_succ, List.getD_cons_zero, List.getD_cons_succ, List.length_cons, List.length_nil, Option.some.injEq, Prod.mk.injEq, reduceCtorEq, if_true, if_false, ite_true, ite_false, Bool.false_eq_true, Nat.reduceAdd, Nat.reduceLT, Nat.reduceLeDiff, reduceIte, addD_int, subD_int, negD_int, absD_int, eqD_int, neD_int, ltD_int, leD_int, gtD_int, geD_int, max2D_int, min2D_int, eqD_bool, neD_bool, FL.intD, FL.tupD, FL.lenD, set_T1 ks' (k + w) (by omega)]
    · refine run_if (k := both) (e' := [.val W, .val B, .val (.bool both), .own (.dict (keysI (add1 ks' (k + w)) T1)), .val (.int w), .val (.int k)]) (by simp only [cOps, evs, peek, frz, cK, cVar, FL.l1, FL.l2, cbT, cbAnd, cbOr, cbNot, cbTru, cbNm, cIf, cAndV, cOrV, cNotV, cChain, truthV, cvs, cTup, cLst, cDnew, cCall, aevs, aIx, drops, puts, peekOwn, ctName, ctTup, ctCons, ctNil, cSl, coN, coS, cbYes, wipeE, back, ciE, ciR1, ciR2, walkD, isLst, cMt, sets, crs, List.getElem?_cons_zero, List.getElem?_cons_succ, List.set_cons_zero, List.set_cons_succ, List.getD_cons_zero, List.getD_cons_succ, List.length_cons, List.length_nil, Option.some.injEq, Prod.mk.injEq, reduceCtorEq, if_true, if_false, ite_true, ite_false, Bool.false_eq_true, Nat.reduceAdd, Nat.reduceLT, Nat.reduceLeDiff, reduceIte]) (fun hb => ?_) (fun hb => ?_)
      · refine run_eq (o := .nx [.val W, .val B, .val (.bool both), .own (.dict (keysI (add1 (add1 ks' (k + w)) (k - w)) T1)), .val (.int w), .val (.int k)]) ?_ ?_
        · simp only [sPut, cOps, evs, peek, frz, cK, cVar, FL.l1, FL.l2, cbT, cbAnd, cbOr, cbNot, cbTru, cbNm, cIf, cAndV, cOrV, cNotV, cChain, truthV, cvs, cTup, cLst, cDnew, cCall, aevs, aIx, drops, puts, peekOwn, ctName, ctTup, ctCons, ctNil, cSl, coN, coS, cbYes, wipeE, back, ciE, ciR1, ciR2, walkD, isLst, cMt, sets, crs, List.getElem?_cons_zero, List.getElem?_cons_succ, List.set_cons_zero, List.set_cons_succ, List.getD_cons_zero, List.getD_cons_succ, List.length_cons, List.length_nil, Option.some.injEq, Prod.mk.injEq, reduceCtorEq, if_true, if_false, ite_true, ite_false, Bool.false_eq_true, Nat.reduceAdd, Nat.reduceLT, Nat.reduceLeDiff, reduceIte, addD_int, subD_int, negD_int, absD_int, eqD_int, neD_int, ltD_int, leD_int, gtD_int, geD_int, max2D_int, min2D_int, eqD_bool, neD_bool, FL.intD, FL.tupD, FL.lenD, set_T1 (add1 ks' (k + w)) (k - w) (by omega)]
        · refine ⟨done ++ [k], _, _, rfl, by rw [List.append_assoc]; exact hd, fun z => ?_, by rw [List.length_append, List.length_singleton]; omega⟩
          rw [mem_add1, mem_add1, hm z]
          simp only [List.mem_append, List.mem_singleton, hb, true_and]
          constructor
          · rintro (((h | ⟨a, h1, h2⟩ | ⟨a, h1, h2⟩) | h) | h)
            · exact .inl h
            · exact .inr (.inl ⟨a, .inl h1, h2⟩)
            · exact .inr (.inr ⟨a, .inl h1, h2⟩)
            · exact .inr (.inl ⟨k, .inr rfl, h⟩)
            · exact .inr (.inr ⟨k, .inr rfl, h⟩)
          · rintro (h | ⟨a, h1 | h1, h2⟩ | ⟨a, h1 | h1, h2⟩)
            · exact .inl (.inl (.inl h))
            · exact .inl (.inl (.inr (.inl ⟨a, h1, h2⟩)))
            · subst h1; exact .inl (.inr h2)
            · exact .inl (.inl (.inr (.inr ⟨a, h1, h2⟩)))
            · subst h1; exact .inr h2
      · rw [run_nop]
        refine ⟨done ++ [k], _, _, rfl, by rw [List.append_assoc]; exact hd, fun z => ?_, by rw [List.length_append, List.length_singleton]; omega⟩
        rw [mem_add1, hm z]
        simp only [List.mem_append, List.mem_singleton, hb, Bool.false_eq_true, false_and, or_false]
        constructor
        · rintro ((h | ⟨a, h1, h2⟩) | h)
          · exact .inl h
          · exact .inr ⟨a, .inl h1, h2⟩
          · exact .inr ⟨k, .inr rfl, h⟩
        · rintro (h | ⟨a, h1 | h1, h2⟩)
          · exact .inl (.inl h)
          · exact .inl (.inr ⟨a, h1, h2⟩)
          · subst h1; exact .inr h2
/-- all sums of signed sets -/
def allSums (both : Bool) (ws : List Int) : List Int := ws.foldl (fun ks w => nextSums w both ks) [0]
theorem allSums_len (both : Bool) : ∀ (ws : List Int) (ks : List Int), (ws.foldl (fun ks w => nextSums w both ks) ks).length ≤ 3 ^ ws.length * ks.length
  | [], ks => by simp
  | w :: ws, ks => by
    have h1 := allSums_len both ws (nextSums w both ks)
    have h2 := nextSums_len w both ks
    rw [List.foldl_cons, List.length_cons, Nat.pow_succ]
    refine Nat.le_trans h1 ?_
    rw [Nat.mul_assoc]
    exact Nat.mul_le_mul_left _ h2
theorem reach_congr {w : Int} {both : Bool} {a b : List Int} (h : ∀ z, z ∈ a ↔ z ∈ b) (z : Int) : reach w both a z ↔ reach w both b z := by
  unfold reach
  simp only [h]
def missing (ks : List Int) (bound : Int) : List Int := (rng 1 (bound + 1)).filter fun n => decide (n ∉ ks)
theorem F_gaps_eq {ws : List Int} (hw : ws.length ≤ 5) {bound : Int} (h0 : 0 ≤ bound) (h1 : bound < 1000) (both : Bool) : F_gaps [TI ws, .int bound, .bool both] = some (.val (TI (missing (allSums both ws) bound)), []) := by
  suffices RunS body_gaps [.val (TI ws), .val (.int bound), .val (.bool both), .un, .un, .un] (fun o => ∃ e', o = .rt (.val (TI (missing (allSums both ws) bound))) e') by
    obtain ⟨o, ho, e', rfl⟩ := this
    exact runB_rt rfl ho rfl
  unfold body_gaps
  rw [run_seq]
  have hd : cDsp [(frz (cK (.int 0)), frz (cK (.bool true)))] [.val (TI ws), .val (.int bound), .val (.bool both), .un, .un, .un] = some (.own (.dict (keysI [0] T1)), [.val (TI ws), .val (.int bound), .val (.bool both), .un, .un, .un]) := rfl
  refine run_set hd (by simp) ?_
  show RunS _ [.val (TI ws), .val (.int bound), .val (.bool both), .own (.dict (keysI [0] T1)), .un, .un] _
  rw [run_seq]
  refine run_sfor (f := PyData.int) (e1 := [.val (TI ws), .val (.int bound), .val (.bool both), .own (.dict (keysI [0] T1)), .un, .un]) ws (walk_T ws _ 0 rfl)
    (fun us e => ∃ ks x y, e = [.val (TI ws), .val (.int bound), .val (.bool both), .own (.dict (keysI ks T1)), x, y] ∧ (∃ js : List Int, (∀ z, z ∈ ks ↔ z ∈ js) ∧ us.foldl (fun ks w => nextSums w both ks) js = allSums both ws) ∧ ks.length * 3 ^ us.length ≤ 243 ∧ us.length ≤ 5) ?_ ?_ ?_
  · refine ⟨[0], .un, .un, rfl, ⟨[0], fun _ => Iff.rfl, rfl⟩, ?_, hw⟩
    have : 3 ^ ws.length ≤ 3 ^ 5 := Nat.pow_le_pow_right (by omega) hw
    simpa using this
  · rintro e ⟨ks, x, y, rfl, ⟨js, hj, hf⟩, hn, -⟩
    have hf : js = allSums both ws := hf
    subst hf
    have hc : C_gaps_1 [.val (TI ws), .val (.int bound), .val (.bool both), .own (.dict (keysI ks T1)), x, y] = some (.own (.list (((rng 1 (bound + 1)).filter fun n => decide (n ∉ ks)).map .int)), [.val (TI ws), .val (.int bound), .val (.bool both), .own (.dict (keysI ks T1)), x, y]) := by
      refine clc_filter (f := PyData.int) (e1 := [.val (TI ws), .val (.int bound), .val (.bool both), .own (.dict (keysI ks T1)), x, y]) PyData.int (fun n => decide (n ∉ ks)) (rng 1 (bound + 1)) ?_ (by rw [rng_len]; omega) fun n hn => ?_
      · simp only [cOps, evs, peek, frz, cK, cVar, FL.l1, FL.l2, cbT, cbAnd, cbOr, cbNot, cbTru, cbNm, cIf, cAndV, cOrV, cNotV, cChain, truthV, cvs, cTup, cLst, cDnew, cCall, aevs, aIx, drops, puts, peekOwn, ctName, ctTup, ctCons, ctNil, cSl, coN, coS, cbYes, wipeE, back, ciE, ciR1, ciR2, walkD, isLst, cMt, sets, crs, List.getElem?_cons_zero, List.getElem?_cons_succ, List.set_cons_zero, List.set_cons_succ, List.getD_cons_zero, List.getD_cons_succ, List.length_cons, List.length_nil, Option.some.injEq, Prod.mk.injEq, reduceCtorEq, if_true, if_false, ite_true, ite_false, Bool.false_eq_true, Nat.reduceAdd, Nat.reduceLT, Nat.reduceLeDiff, reduceIte, addD_int, subD_int, negD_int, absD_int, eqD_int, neD_int, ltD_int, leD_int, gtD_int, geD_int, max2D_int, min2D_int, eqD_bool, neD_bool, FL.intD, FL.tupD, FL.lenD, small_in (i := 1) (by omega) (by omega), small_in (i := bound + 1) (by omega) (by omega), and_self, rangeD_rng]
      · refine ⟨[.val (TI ws), .val (.int bound), .val (.bool both), .own (.dict (keysI ks T1)), x, .val (.int n)], by simp only [cOps, evs, peek, frz, cK, cVar, FL.l1, FL.l2, cbT, cbAnd, cbOr, cbNot, cbTru, cbNm, cIf, cAndV, cOrV, cNotV, cChain, truthV, cvs, cTup, cLst, cDnew, cCall, aevs, aIx, drops, puts, peekOwn, ctName, ctTup, ctCons, ctNil, cSl, coN, coS, cbYes, wipeE, back, ciE, ciR1, ciR2, walkD, isLst, cMt, sets, crs, List.getElem?_cons_zero, List.getElem?_cons_succ, List.set_cons_zero, List.set_cons_succ, List.getD_cons_zero, List.getD_cons_succ, List.length_cons, List.length_nil, Option.some.injEq, Prod.mk.injEq, reduceCtorEq, if_true, if_false, ite_true, ite_false, Bool.false_eq_true, Nat.reduceAdd, Nat.reduceLT, Nat.reduceLeDiff, reduceIte], [.val (TI ws), .val (.int bound), .val (.bool both), .own (.dict (keysI ks T1)), x, .val (.int n)], ?_, fun _ => rfl, fun _ => ⟨[.val (TI ws), .val (.int bound), .val (.bool both), .own (.dict (keysI ks T1)), x, .val (.int n)], rfl, rfl⟩⟩
        simp only [T_gaps_1, cOps, evs, peek, frz, cK, cVar, FL.l1, FL.l2, cbT, cbAnd, cbOr, cbNot, cbTru, cbNm, cIf, cAndV, cOrV, cNotV, cChain, truthV, cvs, cTup, cLst, cDnew, cCall, aevs, aIx, drops, puts, peekOwn, ctName, ctTup, ctCons, ctNil, cSl, coN, coS, cbYes, wipeE, back, ciE, ciR1, ciR2, walkD, isLst, cMt, sets, crs, List.getElem?_cons_zero, List.getElem?_cons_succ, List.set_cons_zero, List.set_cons_succ, List.getD_cons_zero, List.getD_cons_succ, List.length_cons, List.length_nil, Option.some.injEq, Prod.mk.injEq, reduceCtorEq, if_true, if_false, ite_true, ite_false, Bool.false_eq_true, Nat.reduceAdd, Nat.reduceLT, Nat.reduceLeDiff, reduceIte, notInD, inB_dict, decide_not]
    have he : (rng 1 (bound + 1)).filter (fun n => decide (n ∉ ks)) = missing (allSums both ws) bound := by
      unfold missing
      apply List.filter_congr
      intro n _
      simp only [hj]
    rw [he] at hc
    refine run_ret (r := .val (TI (missing (allSums both ws) bound))) (e' := [.val (TI ws), .val (.int bound), .val (.bool both), .own (.dict (keysI ks T1)), x, y]) ?_ ⟨_, rfl⟩
    simp only [cOps, evs, peek, frz, cK, cVar, FL.l1, FL.l2, cbT, cbAnd, cbOr, cbNot, cbTru, cbNm, cIf, cAndV, cOrV, cNotV, cChain, truthV, cvs, cTup, cLst, cDnew, cCall, aevs, aIx, drops, puts, peekOwn, ctName, ctTup, ctCons, ctNil, cSl, coN, coS, cbYes, wipeE, back, ciE, ciR1, ciR2, walkD, isLst, cMt, sets, crs, List.getElem?_cons_zero, List.getElem?_cons_succ, List.set_cons_zero, List.set_cons_succ, List.getD_cons_zero, List.getD_cons_succ, List.length_cons, List.length_nil, Option.some.injEq, Prod.mk.injEq, reduceCtorEq, if_true, if_false, ite_true, ite_false, Bool.false_eq_true, Nat.reduceAdd, Nat.reduceLT, Nat.reduceLeDiff, reduceIte, addD_int, subD_int, negD_int, absD_int, eqD_int, neD_int, ltD_int, leD_int, gtD_int, geD_int, max2D_int, min2D_int, eqD_bool, neD_bool, FL.intD, FL.tupD, FL.lenD, hc]
  · rintro w us e ⟨ks, x, y, rfl, ⟨js, hj, hf⟩, hn, hu⟩
    rw [List.length_cons, Nat.pow_succ] at hn
    rw [List.length_cons] at hu
    have hp : 1 ≤ 3 ^ us.length := Nat.one_le_pow _ _ (by omega)
    have hkl : ks.length ≤ 243 := by
      refine Nat.le_trans ?_ hn
      refine Nat.le_trans ?_ (Nat.mul_le_mul_left ks.length (show 1 ≤ 3 ^ us.length * 3 by omega))
      omega
    refine ⟨[.val (TI ws), .val (.int bound), .val (.bool both), .own (.dict (keysI ks T1)), .val (.int w), y], by simp only [cOps, evs, peek, frz, cK, cVar, FL.l1, FL.l2, cbT, cbAnd, cbOr, cbNot, cbTru, cbNm, cIf, cAndV, cOrV, cNotV, cChain, truthV, cvs, cTup, cLst, cDnew, cCall, aevs, aIx, drops, puts, peekOwn, ctName, ctTup, ctCons, ctNil, cSl, coN, coS, cbYes, wipeE, back, ciE, ciR1, ciR2, walkD, isLst, cMt, sets, crs, List.getElem?_cons_zero, List.getElem?_cons_succ, List.set_cons_zero, List.set_cons_succ, List.getD_cons_zero, List.getD_cons_succ, List.length_cons, List.length_nil, Option.some.injEq, Prod.mk.injEq, reduceCtorEq, if_true, if_false, ite_true, ite_false, Bool.false_eq_true, Nat.reduceAdd, Nat.reduceLT, Nat.reduceLeDiff, reduceIte], ?_⟩
    refine (loop_gaps (W := TI ws) (B := .int bound) (w := w) (both := both) (ks := ks) y (by omega)).mono ?_
    rintro o ⟨ks', y', rfl, hm, hl⟩
    refine ⟨ks', _, _, rfl, ⟨nextSums w both js, fun z => ?_, hf⟩, ?_, by omega⟩
    · rw [hm z, mem_nextSums, reach_congr hj]
    · have : ks'.length * 3 ^ us.length ≤ 3 * ks.length * 3 ^ us.length := Nat.mul_le_mul_right _ hl
      have e2 : 3 * ks.length * 3 ^ us.length = ks.length * (3 ^ us.length * 3) := by
        rw [Nat.mul_comm 3 ks.length, Nat.mul_assoc, Nat.mul_comm 3]
      omega

/-! ### the law -/
def lenv (x_dr x_se x_we x_k x_sl x_lo x_hi x_du x_be x_un x_wh x_so x_bo x_bt x_su x_wt x_nu : Sl) : Ev := [.un, x_dr, x_se, x_we, x_k, x_sl, x_lo, x_hi, x_du, x_be, x_un, x_wh, x_so, x_bo, x_bt, x_su, x_wt, x_nu]
theorem tame_TI {l : List Int} (h : l.length ≤ 1000000) : tame 7 (TI l) := ⟨by rw [List.length_map]; exact h, fun d hd => by
  obtain ⟨i, _, rfl⟩ := List.mem_map.mp hd
  exact tame_int _ _⟩
abbrev LI (ws : List Int) : PyData := .list (ws.map .int)
/-- the weights are drawn -/
theorem loop1 {d : PyData} (hd : DOk d) {s : Int} (hs : 2 ≤ s) (hs2 : s ≤ 10) {Q : Out → Prop}
    (q : ∀ d ws x, DOk d → Wok ws → Q (.nx (lenv (.own d) (.val (.int s)) (.own (LI ws)) x .un .un .un .un .un .un .un .un .un .un .un .un .un))) :
    RunS W_law_1 (lenv (.own d) (.val (.int s)) (.own (.list [])) .un .un .un .un .un .un .un .un .un .un .un .un .un .un) Q := by
  obtain ⟨v, d1, hn, hv, hv2, hd1⟩ := next_ok hd (m := 6) (by omega) (by omega)
  refine run_sfor (f := PyData.int) (e1 := lenv (.own d1) (.val (.int s)) (.own (.list [])) .un .un .un .un .un .un .un .un .un .un .un .un .un .un) (rng 0 (1 + v)) ?_
    (fun us e => ∃ d ws x, e = lenv (.own d) (.val (.int s)) (.own (LI ws)) x .un .un .un .un .un .un .un .un .un .un .un .un .un ∧ DOk d ∧ (∀ w ∈ ws, 1 ≤ w ∧ w < 1000000) ∧ ws.length + us.length ≤ 6) ?_ ?_ ?_
  · simp only [lenv, cOps, evs, peek, frz, cK, cVar, FL.l1, FL.l2, cbT, cbAnd, cbOr, cbNot, cbTru, cbNm, cIf, cAndV, cOrV, cNotV, cChain, truthV, cvs, cTup, cLst, cDnew, cCall, aevs, aIx, drops, puts, peekOwn, ctName, ctTup, ctCons, ctNil, cSl, coN, coS, cbYes, wipeE, back, ciE, ciR1, ciR2, walkD, isLst, cMt, sets, crs, List.getElem?_cons_zero, List.getElem?_cons_succ, List.set_cons_zero, List.set_cons_succ, List.getD_cons_zero, List.getD_cons_succ, List.length_cons, List.length_nil, Option.some.injEq, Prod.mk.injEq, reduceCtorEq, if_true, if_false, ite_true, ite_false, Bool.false_eq_true, Nat.reduceAdd, Nat.reduceLT, Nat.reduceLeDiff, reduceIte, hn, addD_int, subD_int, negD_int, absD_int, eqD_int, neD_int, ltD_int, leD_int, gtD_int, geD_int, max2D_int, min2D_int, eqD_bool, neD_bool, FL.intD, FL.tupD, FL.lenD, small_in (i := 1 + v) (by omega) (by omega), rangeD_rng]
  · exact ⟨d1, [], .un, rfl, hd1, fun _ h => (by simp at h), by rw [rng_len]; show 0 + _ ≤ 6; omega⟩
  · rintro e ⟨d, ws, x, rfl, h1, h2, h3⟩
    exact q d ws x h1 ⟨h2, by omega⟩
  · rintro u us e ⟨d, ws, x, rfl, h1, h2, h3⟩
    obtain ⟨v1, d2, g1, gv, gv2, h4⟩ := next_ok h1 (m := 6) (by omega) (by omega)
    obtain ⟨v2, d3, g2, gw, gw2, h5⟩ := next_ok h4 (m := 3) (by omega) (by omega)
    have hlen : (ws.map PyData.int).length < 16777216 := by rw [List.length_map]; omega
    have hp : 0 ≤ s * (1 + v1) := Int.mul_nonneg (by omega) (by omega)
    have hp2 : s * (1 + v1) ≤ 10 * 6 := Int.mul_le_mul hs2 (by omega) (by omega) (by omega)
    refine ⟨lenv (.own d) (.val (.int s)) (.own (LI ws)) (.val (.int u)) .un .un .un .un .un .un .un .un .un .un .un .un .un, by simp only [lenv, cOps, evs, peek, frz, cK, cVar, FL.l1, FL.l2, cbT, cbAnd, cbOr, cbNot, cbTru, cbNm, cIf, cAndV, cOrV, cNotV, cChain, truthV, cvs, cTup, cLst, cDnew, cCall, aevs, aIx, drops, puts, peekOwn, ctName, ctTup, ctCons, ctNil, cSl, coN, coS, cbYes, wipeE, back, ciE, ciR1, ciR2, walkD, isLst, cMt, sets, crs, List.getElem?_cons_zero, List.getElem?_cons_succ, List.set_cons_zero, List.set_cons_succ, List.getD_cons_zero, List.getD_cons_succ, List.length_cons, List.length_nil, Option.some.injEq, Prod.mk.injEq, reduceCtorEq, if_true, if_false, ite_true, ite_false, Bool.false_eq_true, Nat.reduceAdd, Nat.reduceLT, Nat.reduceLeDiff, reduceIte], run_eq (o := .nx (lenv (.own d3) (.val (.int s)) (.own (LI (ws ++ [max 1 (s * (1 + v1) + v2 - 1)]))) (.val (.int u)) .un .un .un .un .un .un .un .un .un .un .un .un .un)) ?_ ?_⟩
    · simp only [B_law_1, sExpr, lenv, cOps, evs, peek, frz, cK, cVar, FL.l1, FL.l2, cbT, cbAnd, cbOr, cbNot, cbTru, cbNm, cIf, cAndV, cOrV, cNotV, cChain, truthV, cvs, cTup, cLst, cDnew, cCall, aevs, aIx, drops, puts, peekOwn, ctName, ctTup, ctCons, ctNil, cSl, coN, coS, cbYes, wipeE, back, ciE, ciR1, ciR2, walkD, isLst, cMt, sets, crs, List.getElem?_cons_zero, List.getElem?_cons_succ, List.set_cons_zero, List.set_cons_succ, List.getD_cons_zero, List.getD_cons_succ, List.length_cons, List.length_nil, Option.some.injEq, Prod.mk.injEq, reduceCtorEq, if_true, if_false, ite_true, ite_false, Bool.false_eq_true, Nat.reduceAdd, Nat.reduceLT, Nat.reduceLeDiff, reduceIte, g1, g2, addD_int, subD_int, negD_int, absD_int, eqD_int, neD_int, ltD_int, leD_int, gtD_int, geD_int, max2D_int, min2D_int, eqD_bool, neD_bool, FL.intD, FL.tupD, FL.lenD, mulD_int (a := s) (b := 1 + v1) (.inl (by omega)), appD, hlen, LI, List.map_append, List.map_cons, List.map_nil]
    · refine ⟨d3, ws ++ [max 1 (s * (1 + v1) + v2 - 1)], _, rfl, h5, fun w hw => ?_, ?_⟩
      · rcases List.mem_append.mp hw with h | h
        · exact h2 w h
        · rw [List.mem_singleton] at h; subst h; omega
      · rw [List.length_append, List.length_singleton]; rw [List.length_cons] at h3; omega
section
variable {ws : List Int} {slip low high : Int}
/-- the law's own list of units -/
theorem due_eq (hw : Wok ws) (hl : 1 ≤ low) (hl2 : low < 900) (hh0 : 0 ≤ high) (hh : high < 900) (xd xs xk : Sl) :
    C_law_1 (lenv xd xs (.val (TI ws)) xk (.val (.int slip)) (.val (.int low)) (.val (.int high)) .un .un .un .un .un .un .un .un .un .un) = some (.own (LI ((rng low (high + 1)).filter (fits ws slip))), lenv xd xs (.val (TI ws)) xk (.val (.int slip)) (.val (.int low)) (.val (.int high)) .un .un .un .un .un .un .un .un .un .un) := by
  refine clc_filter (f := PyData.int) (e1 := lenv xd xs (.val (TI ws)) xk (.val (.int slip)) (.val (.int low)) (.val (.int high)) .un .un .un .un .un .un .un .un .un .un) PyData.int (fits ws slip) (rng low (high + 1)) ?_ (by rw [rng_len]; omega) fun u hu => ?_
  · simp only [lenv, cOps, evs, peek, frz, cK, cVar, FL.l1, FL.l2, cbT, cbAnd, cbOr, cbNot, cbTru, cbNm, cIf, cAndV, cOrV, cNotV, cChain, truthV, cvs, cTup, cLst, cDnew, cCall, aevs, aIx, drops, puts, peekOwn, ctName, ctTup, ctCons, ctNil, cSl, coN, coS, cbYes, wipeE, back, ciE, ciR1, ciR2, walkD, isLst, cMt, sets, crs, List.getElem?_cons_zero, List.getElem?_cons_succ, List.set_cons_zero, List.set_cons_succ, List.getD_cons_zero, List.getD_cons_succ, List.length_cons, List.length_nil, Option.some.injEq, Prod.mk.injEq, reduceCtorEq, if_true, if_false, ite_true, ite_false, Bool.false_eq_true, Nat.reduceAdd, Nat.reduceLT, Nat.reduceLeDiff, reduceIte, addD_int, subD_int, negD_int, absD_int, eqD_int, neD_int, ltD_int, leD_int, gtD_int, geD_int, max2D_int, min2D_int, eqD_bool, neD_bool, FL.intD, FL.tupD, FL.lenD, small_in (i := low) (by omega) (by omega), small_in (i := high + 1) (by omega) (by omega), and_self, rangeD_rng]
  · have hu' := mem_rng.mp hu
    have hc : C_law_2 (lenv xd xs (.val (TI ws)) xk (.val (.int slip)) (.val (.int low)) (.val (.int high)) .un .un (.val (.int u)) .un .un .un .un .un .un .un) = some (.own (.list (ws.map fun w => PyData.bool (decide (ms w u ≤ slip)))), lenv xd xs (.val (TI ws)) xk (.val (.int slip)) (.val (.int low)) (.val (.int high)) .un .un (.val (.int u)) .un .un .un .un .un .un .un) := by
      refine clc_map (f := PyData.int) (e1 := lenv xd xs (.val (TI ws)) xk (.val (.int slip)) (.val (.int low)) (.val (.int high)) .un .un (.val (.int u)) .un .un .un .un .un .un .un) (fun w => PyData.bool (decide (ms w u ≤ slip))) ws (by simp only [lenv, cOps, evs, peek, frz, cK, cVar, FL.l1, FL.l2, cbT, cbAnd, cbOr, cbNot, cbTru, cbNm, cIf, cAndV, cOrV, cNotV, cChain, truthV, cvs, cTup, cLst, cDnew, cCall, aevs, aIx, drops, puts, peekOwn, ctName, ctTup, ctCons, ctNil, cSl, coN, coS, cbYes, wipeE, back, ciE, ciR1, ciR2, walkD, isLst, cMt, sets, crs, List.getElem?_cons_zero, List.getElem?_cons_succ, List.set_cons_zero, List.set_cons_succ, List.getD_cons_zero, List.getD_cons_succ, List.length_cons, List.length_nil, Option.some.injEq, Prod.mk.injEq, reduceCtorEq, if_true, if_false, ite_true, ite_false, Bool.false_eq_true, Nat.reduceAdd, Nat.reduceLT, Nat.reduceLeDiff, reduceIte]) (by have := hw.2; omega) fun w hw' => ?_
      have hw1 := hw.1 w hw'
      refine ⟨lenv xd xs (.val (TI ws)) xk (.val (.int slip)) (.val (.int low)) (.val (.int high)) .un .un (.val (.int u)) .un .un .un .un .un (.val (.int w)) .un, by simp only [lenv, cOps, evs, peek, frz, cK, cVar, FL.l1, FL.l2, cbT, cbAnd, cbOr, cbNot, cbTru, cbNm, cIf, cAndV, cOrV, cNotV, cChain, truthV, cvs, cTup, cLst, cDnew, cCall, aevs, aIx, drops, puts, peekOwn, ctName, ctTup, ctCons, ctNil, cSl, coN, coS, cbYes, wipeE, back, ciE, ciR1, ciR2, walkD, isLst, cMt, sets, crs, List.getElem?_cons_zero, List.getElem?_cons_succ, List.set_cons_zero, List.set_cons_succ, List.getD_cons_zero, List.getD_cons_succ, List.length_cons, List.length_nil, Option.some.injEq, Prod.mk.injEq, reduceCtorEq, if_true, if_false, ite_true, ite_false, Bool.false_eq_true, Nat.reduceAdd, Nat.reduceLT, Nat.reduceLeDiff, reduceIte], lenv xd xs (.val (TI ws)) xk (.val (.int slip)) (.val (.int low)) (.val (.int high)) .un .un (.val (.int u)) .un .un .un .un .un (.val (.int w)) .un, ?_, rfl⟩
      simp only [E_law_2, lenv, cOps, evs, peek, frz, cK, cVar, FL.l1, FL.l2, cbT, cbAnd, cbOr, cbNot, cbTru, cbNm, cIf, cAndV, cOrV, cNotV, cChain, truthV, cvs, cTup, cLst, cDnew, cCall, aevs, aIx, drops, puts, peekOwn, ctName, ctTup, ctCons, ctNil, cSl, coN, coS, cbYes, wipeE, back, ciE, ciR1, ciR2, walkD, isLst, cMt, sets, crs, List.getElem?_cons_zero, List.getElem?_cons_succ, List.set_cons_zero, List.set_cons_succ, List.getD_cons_zero, List.getD_cons_succ, List.length_cons, List.length_nil, Option.some.injEq, Prod.mk.injEq, reduceCtorEq, if_true, if_false, ite_true, ite_false, Bool.false_eq_true, Nat.reduceAdd, Nat.reduceLT, Nat.reduceLeDiff, reduceIte, F_law_miss_eq hw1.1 hw1.2 (u := u) (by omega) (by omega), addD_int, subD_int, negD_int, absD_int, eqD_int, neD_int, ltD_int, leD_int, gtD_int, geD_int, max2D_int, min2D_int, eqD_bool, neD_bool, FL.intD, FL.tupD, FL.lenD]
    refine ⟨lenv xd xs (.val (TI ws)) xk (.val (.int slip)) (.val (.int low)) (.val (.int high)) .un .un (.val (.int u)) .un .un .un .un .un .un .un, by simp only [lenv, cOps, evs, peek, frz, cK, cVar, FL.l1, FL.l2, cbT, cbAnd, cbOr, cbNot, cbTru, cbNm, cIf, cAndV, cOrV, cNotV, cChain, truthV, cvs, cTup, cLst, cDnew, cCall, aevs, aIx, drops, puts, peekOwn, ctName, ctTup, ctCons, ctNil, cSl, coN, coS, cbYes, wipeE, back, ciE, ciR1, ciR2, walkD, isLst, cMt, sets, crs, List.getElem?_cons_zero, List.getElem?_cons_succ, List.set_cons_zero, List.set_cons_succ, List.getD_cons_zero, List.getD_cons_succ, List.length_cons, List.length_nil, Option.some.injEq, Prod.mk.injEq, reduceCtorEq, if_true, if_false, ite_true, ite_false, Bool.false_eq_true, Nat.reduceAdd, Nat.reduceLT, Nat.reduceLeDiff, reduceIte], lenv xd xs (.val (TI ws)) xk (.val (.int slip)) (.val (.int low)) (.val (.int high)) .un .un (.val (.int u)) .un .un .un .un .un .un .un, ?_, fun _ => rfl, fun _ => ⟨lenv xd xs (.val (TI ws)) xk (.val (.int slip)) (.val (.int low)) (.val (.int high)) .un .un (.val (.int u)) .un .un .un .un .un .un .un, ?_, rfl⟩⟩
    · simp only [T_law_1, cbT, cOps, evs, frz, FL.l1, hc, allD_map, fits]
    · simp only [E_law_1, lenv, cOps, evs, peek, frz, cK, cVar, FL.l1, FL.l2, cbT, cbAnd, cbOr, cbNot, cbTru, cbNm, cIf, cAndV, cOrV, cNotV, cChain, truthV, cvs, cTup, cLst, cDnew, cCall, aevs, aIx, drops, puts, peekOwn, ctName, ctTup, ctCons, ctNil, cSl, coN, coS, cbYes, wipeE, back, ciE, ciR1, ciR2, walkD, isLst, cMt, sets, crs, List.getElem?_cons_zero, List.getElem?_cons_succ, List.set_cons_zero, List.set_cons_succ, List.getD_cons_zero, List.getD_cons_succ, List.length_cons, List.length_nil, Option.some.injEq, Prod.mk.injEq, reduceCtorEq, if_true, if_false, ite_true, ite_false, Bool.false_eq_true, Nat.reduceAdd, Nat.reduceLT, Nat.reduceLeDiff, reduceIte]
theorem miss_row (hw : Wok ws) {u : Int} (h0 : 0 < u) (h1 : u < 1000) (xd xs xk x5 x6 x7 x8 x9 x11 x12 x13 x14 x15 : Sl) :
    C_law_3 (lenv xd xs (.val (TI ws)) xk x5 x6 x7 x8 x9 (.val (.int u)) x11 x12 x13 x14 x15 .un .un) = some (.own (.list (ws.map fun w => PyData.int (ms w u))), lenv xd xs (.val (TI ws)) xk x5 x6 x7 x8 x9 (.val (.int u)) x11 x12 x13 x14 x15 .un .un) := by
  refine clc_map (f := PyData.int) (e1 := lenv xd xs (.val (TI ws)) xk x5 x6 x7 x8 x9 (.val (.int u)) x11 x12 x13 x14 x15 .un .un) (fun w => PyData.int (ms w u)) ws (by simp only [lenv, cOps, evs, peek, frz, cK, cVar, FL.l1, FL.l2, cbT, cbAnd, cbOr, cbNot, cbTru, cbNm, cIf, cAndV, cOrV, cNotV, cChain, truthV, cvs, cTup, cLst, cDnew, cCall, aevs, aIx, drops, puts, peekOwn, ctName, ctTup, ctCons, ctNil, cSl, coN, coS, cbYes, wipeE, back, ciE, ciR1, ciR2, walkD, isLst, cMt, sets, crs, List.getElem?_cons_zero, List.getElem?_cons_succ, List.set_cons_zero, List.set_cons_succ, List.getD_cons_zero, List.getD_cons_succ, List.length_cons, List.length_nil, Option.some.injEq, Prod.mk.injEq, reduceCtorEq, if_true, if_false, ite_true, ite_false, Bool.false_eq_true, Nat.reduceAdd, Nat.reduceLT, Nat.reduceLeDiff, reduceIte]) (by have := hw.2; omega) fun w hw' => ?_
  have hw1 := hw.1 w hw'
  refine ⟨lenv xd xs (.val (TI ws)) xk x5 x6 x7 x8 x9 (.val (.int u)) x11 x12 x13 x14 x15 (.val (.int w)) .un, by simp only [lenv, cOps, evs, peek, frz, cK, cVar, FL.l1, FL.l2, cbT, cbAnd, cbOr, cbNot, cbTru, cbNm, cIf, cAndV, cOrV, cNotV, cChain, truthV, cvs, cTup, cLst, cDnew, cCall, aevs, aIx, drops, puts, peekOwn, ctName, ctTup, ctCons, ctNil, cSl, coN, coS, cbYes, wipeE, back, ciE, ciR1, ciR2, walkD, isLst, cMt, sets, crs, List.getElem?_cons_zero, List.getElem?_cons_succ, List.set_cons_zero, List.set_cons_succ, List.getD_cons_zero, List.getD_cons_succ, List.length_cons, List.length_nil, Option.some.injEq, Prod.mk.injEq, reduceCtorEq, if_true, if_false, ite_true, ite_false, Bool.false_eq_true, Nat.reduceAdd, Nat.reduceLT, Nat.reduceLeDiff, reduceIte], lenv xd xs (.val (TI ws)) xk x5 x6 x7 x8 x9 (.val (.int u)) x11 x12 x13 x14 x15 (.val (.int w)) .un, ?_, rfl⟩
  simp only [E_law_3, lenv, cOps, evs, peek, frz, cK, cVar, FL.l1, FL.l2, cbT, cbAnd, cbOr, cbNot, cbTru, cbNm, cIf, cAndV, cOrV, cNotV, cChain, truthV, cvs, cTup, cLst, cDnew, cCall, aevs, aIx, drops, puts, peekOwn, ctName, ctTup, ctCons, ctNil, cSl, coN, coS, cbYes, wipeE, back, ciE, ciR1, ciR2, walkD, isLst, cMt, sets, crs, List.getElem?_cons_zero, List.getElem?_cons_succ, List.set_cons_zero, List.set_cons_succ, List.getD_cons_zero, List.getD_cons_succ, List.length_cons, List.length_nil, Option.some.injEq, Prod.mk.injEq, reduceCtorEq, if_true, if_false, ite_true, ite_false, Bool.false_eq_true, Nat.reduceAdd, Nat.reduceLT, Nat.reduceLeDiff, reduceIte, F_law_miss_eq hw1.1 hw1.2 (u := u) h0 h1]
theorem loop2 (hw : Wok ws) (hl : 1 ≤ low) (hl2 : low < 900) (hh0 : 0 ≤ high) (hh : high < 900) (xd xs xk x8 : Sl) {Q : Out → Prop}
    (q : ∀ b x y, (rng low (high + 1)).foldl (better ws) none = b → Bok b → Q (.nx (lenv xd xs (.val (TI ws)) xk (.val (.int slip)) (.val (.int low)) (.val (.int high)) x8 (.val (enL b)) x y .un .un .un .un .un .un))) :
    RunS W_law_2 (lenv xd xs (.val (TI ws)) xk (.val (.int slip)) (.val (.int low)) (.val (.int high)) x8 (.val .none) .un .un .un .un .un .un .un .un) Q := by
  refine run_sfor (f := PyData.int) (e1 := lenv xd xs (.val (TI ws)) xk (.val (.int slip)) (.val (.int low)) (.val (.int high)) x8 (.val .none) .un .un .un .un .un .un .un .un) (rng low (high + 1)) ?_
    (fun us e => ∃ b x y, e = lenv xd xs (.val (TI ws)) xk (.val (.int slip)) (.val (.int low)) (.val (.int high)) x8 (.val (enL b)) x y .un .un .un .un .un .un ∧ Bok b ∧ us.foldl (better ws) b = (rng low (high + 1)).foldl (better ws) none ∧ (∀ u ∈ us, 0 < u ∧ u < 1000)) ?_ ?_ ?_
  · simp only [lenv, cOps, evs, peek, frz, cK, cVar, FL.l1, FL.l2, cbT, cbAnd, cbOr, cbNot, cbTru, cbNm, cIf, cAndV, cOrV, cNotV, cChain, truthV, cvs, cTup, cLst, cDnew, cCall, aevs, aIx, drops, puts, peekOwn, ctName, ctTup, ctCons, ctNil, cSl, coN, coS, cbYes, wipeE, back, ciE, ciR1, ciR2, walkD, isLst, cMt, sets, crs, List.getElem?_cons_zero, List.getElem?_cons_succ, List.set_cons_zero, List.set_cons_succ, List.getD_cons_zero, List.getD_cons_succ, List.length_cons, List.length_nil, Option.some.injEq, Prod.mk.injEq, reduceCtorEq, if_true, if_false, ite_true, ite_false, Bool.false_eq_true, Nat.reduceAdd, Nat.reduceLT, Nat.reduceLeDiff, reduceIte, addD_int, subD_int, negD_int, absD_int, eqD_int, neD_int, ltD_int, leD_int, gtD_int, geD_int, max2D_int, min2D_int, eqD_bool, neD_bool, FL.intD, FL.tupD, FL.lenD, small_in (i := low) (by omega) (by omega), small_in (i := high + 1) (by omega) (by omega), and_self, rangeD_rng]
  · exact ⟨none, .un, .un, rfl, fun _ _ h => (by cases h), rfl, fun u hu => by have := mem_rng.mp hu; omega⟩
  · rintro e ⟨b, x, y, rfl, hb, h, -⟩
    exact q b x y h.symm hb
  · rintro u us e ⟨b, x, y, rfl, hb, h, hu⟩
    obtain ⟨hu1, hu2⟩ := hu u List.mem_cons_self
    have hsame : sameF 8 [.int (whole ws u), .int (whole ws u)] = some (.val (.bool true), []) := same_ok (tame_int _ _) rfl
    have hwh : sumD (.list (ws.map fun w => PyData.int (ms w u))) = some (.val (.int (whole ws u))) := sumD_map _ _
    refine ⟨lenv xd xs (.val (TI ws)) xk (.val (.int slip)) (.val (.int low)) (.val (.int high)) x8 (.val (enL b)) (.val (.int u)) y .un .un .un .un .un .un, by simp only [lenv, cOps, evs, peek, frz, cK, cVar, FL.l1, FL.l2, cbT, cbAnd, cbOr, cbNot, cbTru, cbNm, cIf, cAndV, cOrV, cNotV, cChain, truthV, cvs, cTup, cLst, cDnew, cCall, aevs, aIx, drops, puts, peekOwn, ctName, ctTup, ctCons, ctNil, cSl, coN, coS, cbYes, wipeE, back, ciE, ciR1, ciR2, walkD, isLst, cMt, sets, crs, List.getElem?_cons_zero, List.getElem?_cons_succ, List.set_cons_zero, List.set_cons_succ, List.getD_cons_zero, List.getD_cons_succ, List.length_cons, List.length_nil, Option.some.injEq, Prod.mk.injEq, reduceCtorEq, if_true, if_false, ite_true, ite_false, Bool.false_eq_true, Nat.reduceAdd, Nat.reduceLT, Nat.reduceLeDiff, reduceIte], run_eq (o := .nx (lenv xd xs (.val (TI ws)) xk (.val (.int slip)) (.val (.int low)) (.val (.int high)) x8 (.val (enL (better ws b u))) (.val (.int u)) (.val (.int (whole ws u))) .un .un .un .un .un .un)) ?_ ?_⟩
    · have hrow := miss_row hw hu1 hu2 xd xs xk (.val (.int slip)) (.val (.int low)) (.val (.int high)) x8 (.val (enL b)) y .un .un .un .un
      have hF := F_miss_eq hw hu1 hu2
      cases b with
      | none =>
        have i0 : isND .none .none = some (.val (.bool true)) := rfl
        simp only [B_law_2, sSeq, sSet, sIf, sRet, sNop, cOps, evs, frz, FL.l1, hrow, hwh]
        simp only [lenv, enL, better, cOps, evs, peek, frz, cK, cVar, FL.l1, FL.l2, cbT, cbAnd, cbOr, cbNot, cbTru, cbNm, cIf, cAndV, cOrV, cNotV, cChain, truthV, cvs, cTup, cLst, cDnew, cCall, aevs, aIx, drops, puts, peekOwn, ctName, ctTup, ctCons, ctNil, cSl, coN, coS, cbYes, wipeE, back, ciE, ciR1, ciR2, walkD, isLst, cMt, sets, crs, List.getElem?_cons_zero, List.getElem?_cons_succ, List.set_cons_zero, List.set_cons_succ, List.getD_cons_zero, List.getD_cons_succ, List.length_cons, List.length_nil, Option.some.injEq, Prod.mk.injEq, reduceCtorEq, if_true, if_false, ite_true, ite_false, Bool.false_eq_true, Nat.reduceAdd, Nat.reduceLT, Nat.reduceLeDiff, reduceIte, hF, hsame, i0, Bool.not_true]
      | some p =>
        obtain ⟨m, v⟩ := p
        obtain ⟨hv0, hv1⟩ := hb m v rfl
        have i0 : ∀ d : List PyData, isND (.tuple d) .none = some (.val (.bool false)) := fun _ => rfl
        have i1 : ∀ x y : PyData, ixD (.tuple [x, y]) (.int 1) = some (.val y) := fun _ _ => rfl
        have i2 : ∀ x y : PyData, ixD (.tuple [x, y]) (.int 0) = some (.val x) := fun _ _ => rfl
        by_cases c : whole ws u * v ≤ m * u
        · have c1 : decide (whole ws u * v ≤ m * u) = true := decide_eq_true c
          have c2 : better ws (some (m, v)) u = some (whole ws u, u) := if_pos c
          simp only [B_law_2, sSeq, sSet, sIf, sRet, sNop, cOps, evs, frz, FL.l1, hrow, hwh]
          simp only [lenv, c2, enL, cOps, evs, peek, frz, cK, cVar, FL.l1, FL.l2, cbT, cbAnd, cbOr, cbNot, cbTru, cbNm, cIf, cAndV, cOrV, cNotV, cChain, truthV, cvs, cTup, cLst, cDnew, cCall, aevs, aIx, drops, puts, peekOwn, ctName, ctTup, ctCons, ctNil, cSl, coN, coS, cbYes, wipeE, back, ciE, ciR1, ciR2, walkD, isLst, cMt, sets, crs, List.getElem?_cons_zero, List.getElem?_cons_succ, List.set_cons_zero, List.set_cons_succ, List.getD_cons_zero, List.getD_cons_succ, List.length_cons, List.length_nil, Option.some.injEq, Prod.mk.injEq, reduceCtorEq, if_true, if_false, ite_true, ite_false, Bool.false_eq_true, Nat.reduceAdd, Nat.reduceLT, Nat.reduceLeDiff, reduceIte, addD_int, subD_int, negD_int, absD_int, eqD_int, neD_int, ltD_int, leD_int, gtD_int, geD_int, max2D_int, min2D_int, eqD_bool, neD_bool, FL.intD, FL.tupD, FL.lenD, hF, hsame, i0, i1, i2, Bool.not_true, mulD_int (a := whole ws u) (b := v) (.inr (by omega)), mulD_int (a := m) (b := u) (.inr (by omega)), c1]
        · have c1 : decide (whole ws u * v ≤ m * u) = false := decide_eq_false c
          have c2 : better ws (some (m, v)) u = some (m, v) := if_neg c
          simp only [B_law_2, sSeq, sSet, sIf, sRet, sNop, cOps, evs, frz, FL.l1, hrow, hwh]
          simp only [lenv, c2, enL, cOps, evs, peek, frz, cK, cVar, FL.l1, FL.l2, cbT, cbAnd, cbOr, cbNot, cbTru, cbNm, cIf, cAndV, cOrV, cNotV, cChain, truthV, cvs, cTup, cLst, cDnew, cCall, aevs, aIx, drops, puts, peekOwn, ctName, ctTup, ctCons, ctNil, cSl, coN, coS, cbYes, wipeE, back, ciE, ciR1, ciR2, walkD, isLst, cMt, sets, crs, List.getElem?_cons_zero, List.getElem?_cons_succ, List.set_cons_zero, List.set_cons_succ, List.getD_cons_zero, List.getD_cons_succ, List.length_cons, List.length_nil, Option.some.injEq, Prod.mk.injEq, reduceCtorEq, if_true, if_false, ite_true, ite_false, Bool.false_eq_true, Nat.reduceAdd, Nat.reduceLT, Nat.reduceLeDiff, reduceIte, addD_int, subD_int, negD_int, absD_int, eqD_int, neD_int, ltD_int, leD_int, gtD_int, geD_int, max2D_int, min2D_int, eqD_bool, neD_bool, FL.intD, FL.tupD, FL.lenD, hF, hsame, i0, i1, i2, Bool.not_true, mulD_int (a := whole ws u) (b := v) (.inr (by omega)), mulD_int (a := m) (b := u) (.inr (by omega)), c1]
    · exact ⟨better ws b u, _, _, rfl, better_ok hb hu1 hu2, h, fun v hv => hu v (List.mem_cons_of_mem _ hv)⟩
end

/-- the last weights are drawn -/
theorem some_eq {d : PyData} (hd : DOk d) (x2 x3 x4 x5 x6 x7 x8 x9 x10 x11 : Sl) : ∃ d' ss, DOk d' ∧ ss.length ≤ 4 ∧
    C_law_4 (lenv (.own d) x2 x3 x4 x5 x6 x7 x8 x9 x10 x11 .un .un .un .un .un .un) = some (.own (LI ss), lenv (.own d') x2 x3 x4 x5 x6 x7 x8 x9 x10 x11 .un .un .un .un .un .un) := by
  obtain ⟨v, d1, hn, hv, hv2, hd1⟩ := next_ok hd (m := 5) (by omega) (by omega)
  obtain ⟨ys, e', h, d', ss, rfl, rfl, hd', hl⟩ := clc_wp (f := PyData.int) (ci := ciR1 (frz (cCall nextF [.io 1, .v (frz (cK (.int 5)))]))) (ct := ctName 4) (tt := cbYes) (el := frz E_law_4) (vs := [4]) (e := lenv (.own d) x2 x3 x4 x5 x6 x7 x8 x9 x10 x11 .un .un .un .un .un .un) (e1 := lenv (.own d1) x2 x3 x4 x5 x6 x7 x8 x9 x10 x11 .un .un .un .un .un .un) (rng 0 v)
    (by simp only [lenv, cOps, evs, peek, frz, cK, cVar, FL.l1, FL.l2, cbT, cbAnd, cbOr, cbNot, cbTru, cbNm, cIf, cAndV, cOrV, cNotV, cChain, truthV, cvs, cTup, cLst, cDnew, cCall, aevs, aIx, drops, puts, peekOwn, ctName, ctTup, ctCons, ctNil, cSl, coN, coS, cbYes, wipeE, back, ciE, ciR1, ciR2, walkD, isLst, cMt, sets, crs, List.getElem?_cons_zero, List.getElem?_cons_succ, List.set_cons_zero, List.set_cons_succ, List.getD_cons_zero, List.getD_cons_succ, List.length_cons, List.length_nil, Option.some.injEq, Prod.mk.injEq, reduceCtorEq, if_true, if_false, ite_true, ite_false, Bool.false_eq_true, Nat.reduceAdd, Nat.reduceLT, Nat.reduceLeDiff, reduceIte, hn, small_in (i := v) (by omega) (by omega), rangeD_rng]) (by rw [rng_len]; omega)
    (fun us acc e => ∃ d ss, acc = List.map PyData.int ss ∧ e = lenv (.own d) x2 x3 .un x5 x6 x7 x8 x9 x10 x11 .un .un .un .un .un .un ∧ DOk d ∧ ss.length + us.length ≤ 4) ⟨d1, [], rfl, rfl, hd1, by rw [rng_len]; show 0 + _ ≤ 4; omega⟩ (by
      rintro u us acc e ⟨d, ss, rfl, rfl, h1, h2⟩
      obtain ⟨v1, d2, g1, gv, gv2, h4⟩ := next_ok h1 (m := 14) (by omega) (by omega)
      refine ⟨lenv (.own d) x2 x3 (.val (.int u)) x5 x6 x7 x8 x9 x10 x11 .un .un .un .un .un .un, by simp only [lenv, cOps, evs, peek, frz, cK, cVar, FL.l1, FL.l2, cbT, cbAnd, cbOr, cbNot, cbTru, cbNm, cIf, cAndV, cOrV, cNotV, cChain, truthV, cvs, cTup, cLst, cDnew, cCall, aevs, aIx, drops, puts, peekOwn, ctName, ctTup, ctCons, ctNil, cSl, coN, coS, cbYes, wipeE, back, ciE, ciR1, ciR2, walkD, isLst, cMt, sets, crs, List.getElem?_cons_zero, List.getElem?_cons_succ, List.set_cons_zero, List.set_cons_succ, List.getD_cons_zero, List.getD_cons_succ, List.length_cons, List.length_nil, Option.some.injEq, Prod.mk.injEq, reduceCtorEq, if_true, if_false, ite_true, ite_false, Bool.false_eq_true, Nat.reduceAdd, Nat.reduceLT, Nat.reduceLeDiff, reduceIte], true, _, rfl, fun h => (by cases h), fun _ => ⟨.int (1 + v1), lenv (.own d2) x2 x3 (.val (.int u)) x5 x6 x7 x8 x9 x10 x11 .un .un .un .un .un .un, ?_, d2, ss ++ [1 + v1], by rw [List.map_append]; rfl, rfl, h4, ?_⟩⟩
      · simp only [E_law_4, lenv, cOps, evs, peek, frz, cK, cVar, FL.l1, FL.l2, cbT, cbAnd, cbOr, cbNot, cbTru, cbNm, cIf, cAndV, cOrV, cNotV, cChain, truthV, cvs, cTup, cLst, cDnew, cCall, aevs, aIx, drops, puts, peekOwn, ctName, ctTup, ctCons, ctNil, cSl, coN, coS, cbYes, wipeE, back, ciE, ciR1, ciR2, walkD, isLst, cMt, sets, crs, List.getElem?_cons_zero, List.getElem?_cons_succ, List.set_cons_zero, List.set_cons_succ, List.getD_cons_zero, List.getD_cons_succ, List.length_cons, List.length_nil, Option.some.injEq, Prod.mk.injEq, reduceCtorEq, if_true, if_false, ite_true, ite_false, Bool.false_eq_true, Nat.reduceAdd, Nat.reduceLT, Nat.reduceLeDiff, reduceIte, g1, addD_int, subD_int, negD_int, absD_int, eqD_int, neD_int, ltD_int, leD_int, gtD_int, geD_int, max2D_int, min2D_int, eqD_bool, neD_bool, FL.intD, FL.tupD, FL.lenD]
      · rw [List.length_append, List.length_singleton]; rw [List.length_cons] at h2; omega)
  exact ⟨d', ss, hd', by simpa using hl, h⟩
theorem loop4 {ss : List Int} (hs : ss.length ≤ 4) {both : Bool} {bound : Int} (xd x2 x3 x4 x5 x6 x7 x8 x9 x10 x11 x16 : Sl) {Q : Out → Prop}
    (q : ∀ y, Q (.nx (lenv xd x2 x3 x4 x5 x6 x7 x8 x9 x10 x11 (.val (TI ss)) (.val (.int bound)) (.val (.bool both)) (.own (LI (allSums both ss))) y .un))) :
    RunS W_law_4 (lenv xd x2 x3 x4 x5 x6 x7 x8 x9 x10 x11 (.val (TI ss)) (.val (.int bound)) (.val (.bool both)) (.own (LI [0])) x16 .un) Q := by
  refine run_sfor (f := PyData.int) (e1 := lenv xd x2 x3 x4 x5 x6 x7 x8 x9 x10 x11 (.val (TI ss)) (.val (.int bound)) (.val (.bool both)) (.own (LI [0])) x16 .un) ss ?_
    (fun us e => ∃ ks y, e = lenv xd x2 x3 x4 x5 x6 x7 x8 x9 x10 x11 (.val (TI ss)) (.val (.int bound)) (.val (.bool both)) (.own (LI ks)) y .un ∧ us.foldl (fun ks w => nextSums w both ks) ks = allSums both ss ∧ ks.length * 3 ^ us.length ≤ 81) ?_ ?_ ?_
  · simp only [lenv, cOps, evs, peek, frz, cK, cVar, FL.l1, FL.l2, cbT, cbAnd, cbOr, cbNot, cbTru, cbNm, cIf, cAndV, cOrV, cNotV, cChain, truthV, cvs, cTup, cLst, cDnew, cCall, aevs, aIx, drops, puts, peekOwn, ctName, ctTup, ctCons, ctNil, cSl, coN, coS, cbYes, wipeE, back, ciE, ciR1, ciR2, walkD, isLst, cMt, sets, crs, List.getElem?_cons_zero, List.getElem?_cons_succ, List.set_cons_zero, List.set_cons_succ, List.getD_cons_zero, List.getD_cons_succ, List.length_cons, List.length_nil, Option.some.injEq, Prod.mk.injEq, reduceCtorEq, if_true, if_false, ite_true, ite_false, Bool.false_eq_true, Nat.reduceAdd, Nat.reduceLT, Nat.reduceLeDiff, reduceIte]
  · refine ⟨[0], x16, rfl, rfl, ?_⟩
    have : 3 ^ ss.length ≤ 3 ^ 4 := Nat.pow_le_pow_right (by omega) hs
    simpa using this
  · rintro e ⟨ks, y, rfl, h, -⟩
    have h : ks = allSums both ss := h
    subst h
    exact q y
  · rintro w us e ⟨ks, y, rfl, h, hn⟩
    rw [List.length_cons, Nat.pow_succ] at hn
    have hp : 1 ≤ 3 ^ us.length := Nat.one_le_pow _ _ (by omega)
    have hkl : ks.length * 3 ≤ 81 := by
      refine Nat.le_trans ?_ hn
      exact Nat.mul_le_mul_left ks.length (by omega)
    have c5 : ∀ z, C_law_5 (lenv xd x2 x3 x4 x5 x6 x7 x8 x9 x10 x11 (.val (TI ss)) (.val (.int bound)) (.val (.bool both)) z (.val (.int w)) .un) = match z with
        | .own (.list ds) => C_law_5 (lenv xd x2 x3 x4 x5 x6 x7 x8 x9 x10 x11 (.val (TI ss)) (.val (.int bound)) (.val (.bool both)) (.own (.list ds)) (.val (.int w)) .un)
        | z => C_law_5 (lenv xd x2 x3 x4 x5 x6 x7 x8 x9 x10 x11 (.val (TI ss)) (.val (.int bound)) (.val (.bool both)) z (.val (.int w)) .un) := by
      intro z
      split <;> rfl
    have h5 : ∀ z, z = Sl.own (LI ks) ∨ z = Sl.val (LI ks) → C_law_5 (lenv xd x2 x3 x4 x5 x6 x7 x8 x9 x10 x11 (.val (TI ss)) (.val (.int bound)) (.val (.bool both)) z (.val (.int w)) .un) = some (.own (LI (ks.map fun k => k + w)), lenv xd x2 x3 x4 x5 x6 x7 x8 x9 x10 x11 (.val (TI ss)) (.val (.int bound)) (.val (.bool both)) (.val (LI ks)) (.val (.int w)) .un) := by
      intro z hz
      have := clc_map (f := PyData.int) (ci := ciE (frz (cVar 15))) (ct := ctName 17) (el := frz E_law_5) (vs := [17]) (e := lenv xd x2 x3 x4 x5 x6 x7 x8 x9 x10 x11 (.val (TI ss)) (.val (.int bound)) (.val (.bool both)) z (.val (.int w)) .un) (e1 := lenv xd x2 x3 x4 x5 x6 x7 x8 x9 x10 x11 (.val (TI ss)) (.val (.int bound)) (.val (.bool both)) (.val (LI ks)) (.val (.int w)) .un) (fun k => PyData.int (k + w)) ks ?_ (by omega) fun k hk => ?_
      · unfold LI; rw [List.map_map]; exact this
      · rcases hz with z | z <;> (subst z; simp only [lenv, cOps, evs, peek, frz, cK, cVar, FL.l1, FL.l2, cbT, cbAnd, cbOr, cbNot, cbTru, cbNm, cIf, cAndV, cOrV, cNotV, cChain, truthV, cvs, cTup, cLst, cDnew, cCall, aevs, aIx, drops, puts, peekOwn, ctName, ctTup, ctCons, ctNil, cSl, coN, coS, cbYes, wipeE, back, ciE, ciR1, ciR2, walkD, isLst, cMt, sets, crs, List.getElem?_cons_zero, List.getElem?_cons_succ, List.set_cons_zero, List.set_cons_succ, List.getD_cons_zero, List.getD_cons_succ, List.length_cons, List.length_nil, Option.some.injEq, Prod.mk.injEq, reduceCtorEq, if_true, if_false, ite_true, ite_false, Bool.false_eq_true, Nat.reduceAdd, Nat.reduceLT, Nat.reduceLeDiff, reduceIte])
      · refine ⟨lenv xd x2 x3 x4 x5 x6 x7 x8 x9 x10 x11 (.val (TI ss)) (.val (.int bound)) (.val (.bool both)) (.val (LI ks)) (.val (.int w)) (.val (.int k)), by simp only [lenv, cOps, evs, peek, frz, cK, cVar, FL.l1, FL.l2, cbT, cbAnd, cbOr, cbNot, cbTru, cbNm, cIf, cAndV, cOrV, cNotV, cChain, truthV, cvs, cTup, cLst, cDnew, cCall, aevs, aIx, drops, puts, peekOwn, ctName, ctTup, ctCons, ctNil, cSl, coN, coS, cbYes, wipeE, back, ciE, ciR1, ciR2, walkD, isLst, cMt, sets, crs, List.getElem?_cons_zero, List.getElem?_cons_succ, List.set_cons_zero, List.set_cons_succ, List.getD_cons_zero, List.getD_cons_succ, List.length_cons, List.length_nil, Option.some.injEq, Prod.mk.injEq, reduceCtorEq, if_true, if_false, ite_true, ite_false, Bool.false_eq_true, Nat.reduceAdd, Nat.reduceLT, Nat.reduceLeDiff, reduceIte], lenv xd x2 x3 x4 x5 x6 x7 x8 x9 x10 x11 (.val (TI ss)) (.val (.int bound)) (.val (.bool both)) (.val (LI ks)) (.val (.int w)) (.val (.int k)), ?_, rfl⟩
        simp only [E_law_5, lenv, cOps, evs, peek, frz, cK, cVar, FL.l1, FL.l2, cbT, cbAnd, cbOr, cbNot, cbTru, cbNm, cIf, cAndV, cOrV, cNotV, cChain, truthV, cvs, cTup, cLst, cDnew, cCall, aevs, aIx, drops, puts, peekOwn, ctName, ctTup, ctCons, ctNil, cSl, coN, coS, cbYes, wipeE, back, ciE, ciR1, ciR2, walkD, isLst, cMt, sets, crs, List.getElem?_cons_zero, List.getElem?_cons_succ, List.set_cons_zero, List.set_cons_succ, List.getD_cons_zero, List.getD_cons_succ, List.length_cons, List.length_nil, Option.some.injEq, Prod.mk.injEq, reduceCtorEq, if_true, if_false, ite_true, ite_false, Bool.false_eq_true, Nat.reduceAdd, Nat.reduceLT, Nat.reduceLeDiff, reduceIte, addD_int, subD_int, negD_int, absD_int, eqD_int, neD_int, ltD_int, leD_int, gtD_int, geD_int, max2D_int, min2D_int, eqD_bool, neD_bool, FL.intD, FL.tupD, FL.lenD]
    have h6 : C_law_6 (lenv xd x2 x3 x4 x5 x6 x7 x8 x9 x10 x11 (.val (TI ss)) (.val (.int bound)) (.val (.bool both)) (.val (LI ks)) (.val (.int w)) .un) = some (.own (LI (ks.map fun k => k - w)), lenv xd x2 x3 x4 x5 x6 x7 x8 x9 x10 x11 (.val (TI ss)) (.val (.int bound)) (.val (.bool both)) (.val (LI ks)) (.val (.int w)) .un) := by
      have := clc_map (f := PyData.int) (ci := ciE (frz (cVar 15))) (ct := ctName 17) (el := frz E_law_6) (vs := [17]) (e := lenv xd x2 x3 x4 x5 x6 x7 x8 x9 x10 x11 (.val (TI ss)) (.val (.int bound)) (.val (.bool both)) (.val (LI ks)) (.val (.int w)) .un) (e1 := lenv xd x2 x3 x4 x5 x6 x7 x8 x9 x10 x11 (.val (TI ss)) (.val (.int bound)) (.val (.bool both)) (.val (LI ks)) (.val (.int w)) .un) (fun k => PyData.int (k - w)) ks ?_ (by omega) fun k hk => ?_
      · unfold LI; rw [List.map_map]; exact this
      · simp only [lenv, cOps, evs, peek, frz, cK, cVar, FL.l1, FL.l2, cbT, cbAnd, cbOr, cbNot, cbTru, cbNm, cIf, cAndV, cOrV, cNotV, cChain, truthV, cvs, cTup, cLst, cDnew, cCall, aevs, aIx, drops, puts, peekOwn, ctName, ctTup, ctCons, ctNil, cSl, coN, coS, cbYes, wipeE, back, ciE, ciR1, ciR2, walkD, isLst, cMt, sets, crs, List.getElem?_cons_zero, List.getElem?_cons_succ, List.set_cons_zero, List.set_cons_succ, List.getD_cons_zero, List.getD_cons_succ, List.length_cons, List.length_nil, Option.some.injEq, Prod.mk.injEq, reduceCtorEq, if_true, if_false, ite_true, ite_false, Bool.false_eq_true, Nat.reduceAdd, Nat.reduceLT, Nat.reduceLeDiff, reduceIte]
      · refine ⟨lenv xd x2 x3 x4 x5 x6 x7 x8 x9 x10 x11 (.val (TI ss)) (.val (.int bound)) (.val (.bool both)) (.val (LI ks)) (.val (.int w)) (.val (.int k)), by simp only [lenv, cOps, evs, peek, frz, cK, cVar, FL.l1, FL.l2, cbT, cbAnd, cbOr, cbNot, cbTru, cbNm, cIf, cAndV, cOrV, cNotV, cChain, truthV, cvs, cTup, cLst, cDnew, cCall, aevs, aIx, drops, puts, peekOwn, ctName, ctTup, ctCons, ctNil, cSl, coN, coS, cbYes, wipeE, back, ciE, ciR1, ciR2, walkD, isLst, cMt, sets, crs, List.getElem?_cons_zero, List.getElem?_cons_succ, List.set_cons_zero, List.set_cons_succ, List.getD_cons_zero, List.getD_cons_succ, List.length_cons, List.length_nil, Option.some.injEq, Prod.mk.injEq, reduceCtorEq, if_true, if_false, ite_true, ite_false, Bool.false_eq_true, Nat.reduceAdd, Nat.reduceLT, Nat.reduceLeDiff, reduceIte], lenv xd x2 x3 x4 x5 x6 x7 x8 x9 x10 x11 (.val (TI ss)) (.val (.int bound)) (.val (.bool both)) (.val (LI ks)) (.val (.int w)) (.val (.int k)), ?_, rfl⟩
        simp only [E_law_6, lenv, cOps, evs, peek, frz, cK, cVar, FL.l1, FL.l2, cbT, cbAnd, cbOr, cbNot, cbTru, cbNm, cIf, cAndV, cOrV, cNotV, cChain, truthV, cvs, cTup, cLst, cDnew, cCall, aevs, aIx, drops, puts, peekOwn, ctName, ctTup, ctCons, ctNil, cSl, coN, coS, cbYes, wipeE, back, ciE, ciR1, ciR2, walkD, isLst, cMt, sets, crs, List.getElem?_cons_zero, List.getElem?_cons_succ, List.set_cons_zero, List.set_cons_succ, List.getD_cons_zero, List.getD_cons_succ, List.length_cons, List.length_nil, Option.some.injEq, Prod.mk.injEq, reduceCtorEq, if_true, if_false, ite_true, ite_false, Bool.false_eq_true, Nat.reduceAdd, Nat.reduceLT, Nat.reduceLeDiff, reduceIte, addD_int, subD_int, negD_int, absD_int, eqD_int, neD_int, ltD_int, leD_int, gtD_int, geD_int, max2D_int, min2D_int, eqD_bool, neD_bool, FL.intD, FL.tupD, FL.lenD]
    refine ⟨lenv xd x2 x3 x4 x5 x6 x7 x8 x9 x10 x11 (.val (TI ss)) (.val (.int bound)) (.val (.bool both)) (.own (LI ks)) (.val (.int w)) .un, by simp only [lenv, cOps, evs, peek, frz, cK, cVar, FL.l1, FL.l2, cbT, cbAnd, cbOr, cbNot, cbTru, cbNm, cIf, cAndV, cOrV, cNotV, cChain, truthV, cvs, cTup, cLst, cDnew, cCall, aevs, aIx, drops, puts, peekOwn, ctName, ctTup, ctCons, ctNil, cSl, coN, coS, cbYes, wipeE, back, ciE, ciR1, ciR2, walkD, isLst, cMt, sets, crs, List.getElem?_cons_zero, List.getElem?_cons_succ, List.set_cons_zero, List.set_cons_succ, List.getD_cons_zero, List.getD_cons_succ, List.length_cons, List.length_nil, Option.some.injEq, Prod.mk.injEq, reduceCtorEq, if_true, if_false, ite_true, ite_false, Bool.false_eq_true, Nat.reduceAdd, Nat.reduceLT, Nat.reduceLeDiff, reduceIte], run_eq (o := .nx (lenv xd x2 x3 x4 x5 x6 x7 x8 x9 x10 x11 (.val (TI ss)) (.val (.int bound)) (.val (.bool both)) (.own (LI (nextSums w both ks))) (.val (.int w)) .un)) ?_ ?_⟩
    · have a1 : addD (LI ks) (LI (ks.map fun k => k + w)) = some (.own (LI (ks ++ ks.map fun k => k + w))) := by
        unfold LI
        show (if _ then _ else _) = _
        rw [if_pos (by simp; omega), List.map_append]
      have a2 : ∀ xs : List Int, xs.length ≤ 81 → addD (LI (ks ++ ks.map fun k => k + w)) (LI xs) = some (.own (LI (ks ++ (ks.map fun k => k + w) ++ xs))) := by
        intro xs hx
        unfold LI
        show (if _ then _ else _) = _
        rw [if_pos (by simp; omega), ← List.map_append]
      have p15 : ∀ z, peek (lenv xd x2 x3 x4 x5 x6 x7 x8 x9 x10 x11 (.val (TI ss)) (.val (.int bound)) (.val (.bool both)) (.own (LI ks)) (.val (.int w)) z) 15 = some (LI ks) := fun _ => rfl
      have p15b : ∀ z, peek (lenv xd x2 x3 x4 x5 x6 x7 x8 x9 x10 x11 (.val (TI ss)) (.val (.int bound)) (.val (.bool both)) (.val (LI ks)) (.val (.int w)) z) 15 = some (LI ks) := fun _ => rfl
      have tb : ∀ z, cbNm 14 (lenv xd x2 x3 x4 x5 x6 x7 x8 x9 x10 x11 (.val (TI ss)) (.val (.int bound)) (.val (.bool both)) (.val (LI ks)) (.val (.int w)) z) = some (both, lenv xd x2 x3 x4 x5 x6 x7 x8 x9 x10 x11 (.val (TI ss)) (.val (.int bound)) (.val (.bool both)) (.val (LI ks)) (.val (.int w)) z) := fun _ => rfl
      have e0 : cLst [] (lenv xd x2 x3 x4 x5 x6 x7 x8 x9 x10 x11 (.val (TI ss)) (.val (.int bound)) (.val (.bool both)) (.val (LI ks)) (.val (.int w)) .un) = some (.own (LI []), lenv xd x2 x3 x4 x5 x6 x7 x8 x9 x10 x11 (.val (TI ss)) (.val (.int bound)) (.val (.bool both)) (.val (LI ks)) (.val (.int w)) .un) := rfl
      cases both with
      | true =>
        have en : nextSums w true ks = ks ++ (ks.map fun k => k + w) ++ (ks.map fun k => k - w) := rfl
        simp only [B_law_4, sSet, cOps, evs, frz, FL.l2, p15, p15b, h5 _ (.inl rfl), a1, cIf, tb, h6, a2 (ks.map fun k => k - w) (by rw [List.length_map]; omega), ← en]
        simp only [lenv, cOps, evs, peek, frz, cK, cVar, FL.l1, FL.l2, cbT, cbAnd, cbOr, cbNot, cbTru, cbNm, cIf, cAndV, cOrV, cNotV, cChain, truthV, cvs, cTup, cLst, cDnew, cCall, aevs, aIx, drops, puts, peekOwn, ctName, ctTup, ctCons, ctNil, cSl, coN, coS, cbYes, wipeE, back, ciE, ciR1, ciR2, walkD, isLst, cMt, sets, crs, List.getElem?_cons_zero, List.getElem?_cons_succ, List.set_cons_zero, List.set_cons_succ, List.getD_cons_zero, List.getD_cons_succ, List.length_cons, List.length_nil, Option.some.injEq, Prod.mk.injEq, reduceCtorEq, if_true, if_false, ite_true, ite_false, Bool.false_eq_true, Nat.reduceAdd, Nat.reduceLT, Nat.reduceLeDiff, reduceIte]
      | false =>
        have en : nextSums w false ks = ks ++ (ks.map fun k => k + w) ++ [] := rfl
        simp only [B_law_4, sSet, cOps, evs, frz, FL.l2, p15, p15b, h5 _ (.inl rfl), a1, cIf, tb, e0, a2 [] (by simp), ← en]
        simp only [lenv, cOps, evs, peek, frz, cK, cVar, FL.l1, FL.l2, cbT, cbAnd, cbOr, cbNot, cbTru, cbNm, cIf, cAndV, cOrV, cNotV, cChain, truthV, cvs, cTup, cLst, cDnew, cCall, aevs, aIx, drops, puts, peekOwn, ctName, ctTup, ctCons, ctNil, cSl, coN, coS, cbYes, wipeE, back, ciE, ciR1, ciR2, walkD, isLst, cMt, sets, crs, List.getElem?_cons_zero, List.getElem?_cons_succ, List.set_cons_zero, List.set_cons_succ, List.getD_cons_zero, List.getD_cons_succ, List.length_cons, List.length_nil, Option.some.injEq, Prod.mk.injEq, reduceCtorEq, if_true, if_false, ite_true, ite_false, Bool.false_eq_true, Nat.reduceAdd, Nat.reduceLT, Nat.reduceLeDiff, reduceIte]
    · refine ⟨nextSums w both ks, _, rfl, h, ?_⟩
      have hl := nextSums_len w both ks
      have : (nextSums w both ks).length * 3 ^ us.length ≤ 3 * ks.length * 3 ^ us.length := Nat.mul_le_mul_right _ hl
      have e2 : 3 * ks.length * 3 ^ us.length = ks.length * (3 ^ us.length * 3) := by
        rw [Nat.mul_comm 3 ks.length, Nat.mul_assoc, Nat.mul_comm 3]
      omega
theorem loop3 {ss : List Int} (hs : ss.length ≤ 4) {bound : Int} (h0 : 0 ≤ bound) (h1 : bound < 1000) (xd x2 x3 x4 x5 x6 x7 x8 x9 x10 x11 : Sl) {Q : Out → Prop}
    (q : ∀ e, Q (.nx e)) : RunS W_law_3 (lenv xd x2 x3 x4 x5 x6 x7 x8 x9 x10 x11 (.val (TI ss)) (.val (.int bound)) .un .un .un .un) Q := by
  refine run_sfor (f := PyData.bool) (e1 := lenv xd x2 x3 x4 x5 x6 x7 x8 x9 x10 x11 (.val (TI ss)) (.val (.int bound)) .un .un .un .un) [false, true] rfl
    (fun us e => ∃ y z w, e = lenv xd x2 x3 x4 x5 x6 x7 x8 x9 x10 x11 (.val (TI ss)) (.val (.int bound)) y z w .un) ⟨_, _, _, rfl⟩ (fun e _ => q e) ?_
  rintro both us e ⟨y, z, w, rfl⟩
  refine ⟨lenv xd x2 x3 x4 x5 x6 x7 x8 x9 x10 x11 (.val (TI ss)) (.val (.int bound)) (.val (.bool both)) z w .un, by simp only [lenv, cOps, evs, peek, frz, cK, cVar, FL.l1, FL.l2, cbT, cbAnd, cbOr, cbNot, cbTru, cbNm, cIf, cAndV, cOrV, cNotV, cChain, truthV, cvs, cTup, cLst, cDnew, cCall, aevs, aIx, drops, puts, peekOwn, ctName, ctTup, ctCons, ctNil, cSl, coN, coS, cbYes, wipeE, back, ciE, ciR1, ciR2, walkD, isLst, cMt, sets, crs, List.getElem?_cons_zero, List.getElem?_cons_succ, List.set_cons_zero, List.set_cons_succ, List.getD_cons_zero, List.getD_cons_succ, List.length_cons, List.length_nil, Option.some.injEq, Prod.mk.injEq, reduceCtorEq, if_true, if_false, ite_true, ite_false, Bool.false_eq_true, Nat.reduceAdd, Nat.reduceLT, Nat.reduceLeDiff, reduceIte], ?_⟩
  unfold B_law_3
  rw [run_seq]
  refine run_set (r := .own (LI [0])) (e' := lenv xd x2 x3 x4 x5 x6 x7 x8 x9 x10 x11 (.val (TI ss)) (.val (.int bound)) (.val (.bool both)) z w .un) (by rfl) (by simp [lenv]) ?_
  show RunS _ (lenv xd x2 x3 x4 x5 x6 x7 x8 x9 x10 x11 (.val (TI ss)) (.val (.int bound)) (.val (.bool both)) (.own (LI [0])) w .un) _
  rw [run_seq]
  refine loop4 hs xd x2 x3 x4 x5 x6 x7 x8 x9 x10 x11 w fun y => ?_
  have hc : C_law_7 (lenv xd x2 x3 x4 x5 x6 x7 x8 x9 x10 x11 (.val (TI ss)) (.val (.int bound)) (.val (.bool both)) (.own (LI (allSums both ss))) y .un) = some (.own (LI (missing (allSums both ss) bound)), lenv xd x2 x3 x4 x5 x6 x7 x8 x9 x10 x11 (.val (TI ss)) (.val (.int bound)) (.val (.bool both)) (.own (LI (allSums both ss))) y .un) := by
    refine clc_filter (f := PyData.int) (e1 := lenv xd x2 x3 x4 x5 x6 x7 x8 x9 x10 x11 (.val (TI ss)) (.val (.int bound)) (.val (.bool both)) (.own (LI (allSums both ss))) y .un) PyData.int (fun n => decide (n ∉ allSums both ss)) (rng 1 (bound + 1)) ?_ (by rw [rng_len]; omega) fun n hn => ?_
    · simp only [lenv, cOps, evs, peek, frz, cK, cVar, FL.l1, FL.l2, cbT, cbAnd, cbOr, cbNot, cbTru, cbNm, cIf, cAndV, cOrV, cNotV, cChain, truthV, cvs, cTup, cLst, cDnew, cCall, aevs, aIx, drops, puts, peekOwn, ctName, ctTup, ctCons, ctNil, cSl, coN, coS, cbYes, wipeE, back, ciE, ciR1, ciR2, walkD, isLst, cMt, sets, crs, List.getElem?_cons_zero, List.getElem?_cons_succ, List.set_cons_zero, List.set_cons_succ, List.getD_cons_zero, List.getD_cons_succ, List.length_cons, List.length_nil, Option.some.injEq, Prod.mk.injEq, reduceCtorEq, if_true, if_false, ite_true, ite_false, Bool.false_eq_true, Nat.reduceAdd, Nat.reduceLT, Nat.reduceLeDiff, reduceIte, addD_int, subD_int, negD_int, absD_int, eqD_int, neD_int, ltD_int, leD_int, gtD_int, geD_int, max2D_int, min2D_int, eqD_bool, neD_bool, FL.intD, FL.tupD, FL.lenD, small_in (i := 1) (by omega) (by omega), small_in (i := bound + 1) (by omega) (by omega), and_self, rangeD_rng]
    · refine ⟨lenv xd x2 x3 x4 x5 x6 x7 x8 x9 x10 x11 (.val (TI ss)) (.val (.int bound)) (.val (.bool both)) (.own (LI (allSums both ss))) y (.val (.int n)), by simp only [lenv, cOps, evs, peek, frz, cK, cVar, FL.l1, FL.l2, cbT, cbAnd, cbOr, cbNot, cbTru, cbNm, cIf, cAndV, cOrV, cNotV, cChain, truthV, cvs, cTup, cLst, cDnew, cCall, aevs, aIx, drops, puts, peekOwn, ctName, ctTup, ctCons, ctNil, cSl, coN, coS, cbYes, wipeE, back, ciE, ciR1, ciR2, walkD, isLst, cMt, sets, crs, List.getElem?_cons_zero, List.getElem?_cons_succ, List.set_cons_zero, List.set_cons_succ, List.getD_cons_zero, List.getD_cons_succ, List.length_cons, List.length_nil, Option.some.injEq, Prod.mk.injEq, reduceCtorEq, if_true, if_false, ite_true, ite_false, Bool.false_eq_true, Nat.reduceAdd, Nat.reduceLT, Nat.reduceLeDiff, reduceIte], lenv xd x2 x3 x4 x5 x6 x7 x8 x9 x10 x11 (.val (TI ss)) (.val (.int bound)) (.val (.bool both)) (.own (LI (allSums both ss))) y (.val (.int n)), ?_, fun _ => rfl, fun _ => ⟨lenv xd x2 x3 x4 x5 x6 x7 x8 x9 x10 x11 (.val (TI ss)) (.val (.int bound)) (.val (.bool both)) (.own (LI (allSums both ss))) y (.val (.int n)), rfl, rfl⟩⟩
      simp only [T_law_7, lenv, cOps, evs, peek, frz, cK, cVar, FL.l1, FL.l2, cbT, cbAnd, cbOr, cbNot, cbTru, cbNm, cIf, cAndV, cOrV, cNotV, cChain, truthV, cvs, cTup, cLst, cDnew, cCall, aevs, aIx, drops, puts, peekOwn, ctName, ctTup, ctCons, ctNil, cSl, coN, coS, cbYes, wipeE, back, ciE, ciR1, ciR2, walkD, isLst, cMt, sets, crs, List.getElem?_cons_zero, List.getElem?_cons_succ, List.set_cons_zero, List.set_cons_succ, List.getD_cons_zero, List.getD_cons_succ, List.length_cons, List.length_nil, Option.some.injEq, Prod.mk.injEq, reduceCtorEq, if_true, if_false, ite_true, ite_false, Bool.false_eq_true, Nat.reduceAdd, Nat.reduceLT, Nat.reduceLeDiff, reduceIte, notInD, inB_ints, decide_not]
  have hm : (missing (allSums both ss) bound).length ≤ 1000000 := by
    unfold missing
    refine Nat.le_trans (List.length_filter_le _ _) ?_
    rw [rng_len]; omega
  have hsame : sameF 8 [TI (missing (allSums both ss) bound), TI (missing (allSums both ss) bound)] = some (.val (.bool true), []) := same_ok (tame_TI hm) rfl
  have hg := F_gaps_eq (ws := ss) (by omega) h0 h1 both
  have hargs : aevs [.v (frz (cCall F_gaps [.v (frz (cVar 12)), .v (frz (cVar 13)), .v (frz (cVar 14))])), .v (frz (cOps (l1 tupD) [.ex (frz C_law_7)]))] (lenv xd x2 x3 x4 x5 x6 x7 x8 x9 x10 x11 (.val (TI ss)) (.val (.int bound)) (.val (.bool both)) (.own (LI (allSums both ss))) y .un) = some ([TI (missing (allSums both ss) bound), TI (missing (allSums both ss) bound)], lenv xd x2 x3 x4 x5 x6 x7 x8 x9 x10 x11 (.val (TI ss)) (.val (.int bound)) (.val (.bool both)) (.own (LI (allSums both ss))) y .un) := by
    have a1 : cCall F_gaps [.v (frz (cVar 12)), .v (frz (cVar 13)), .v (frz (cVar 14))] (lenv xd x2 x3 x4 x5 x6 x7 x8 x9 x10 x11 (.val (TI ss)) (.val (.int bound)) (.val (.bool both)) (.own (LI (allSums both ss))) y .un) = some (.val (TI (missing (allSums both ss) bound)), lenv xd x2 x3 x4 x5 x6 x7 x8 x9 x10 x11 (.val (TI ss)) (.val (.int bound)) (.val (.bool both)) (.own (LI (allSums both ss))) y .un) := by
      simp only [lenv, cOps, evs, peek, frz, cK, cVar, FL.l1, FL.l2, cbT, cbAnd, cbOr, cbNot, cbTru, cbNm, cIf, cAndV, cOrV, cNotV, cChain, truthV, cvs, cTup, cLst, cDnew, cCall, aevs, aIx, drops, puts, peekOwn, ctName, ctTup, ctCons, ctNil, cSl, coN, coS, cbYes, wipeE, back, ciE, ciR1, ciR2, walkD, isLst, cMt, sets, crs, List.getElem?_cons_zero, List.getElem?_cons_succ, List.set_cons_zero, List.set_cons_succ, List.getD_cons_zero, List.getD_cons_succ, List.length_cons, List.length_nil, Option.some.injEq, Prod.mk.injEq, reduceCtorEq, if_true, if_false, ite_true, ite_false, Bool.false_eq_true, Nat.reduceAdd, Nat.reduceLT, Nat.reduceLeDiff, reduceIte, hg]
    simp only [aevs, a1, cOps, evs, frz, FL.l1, hc, FL.tupD]
  refine run_if (k := false) (e' := lenv xd x2 x3 x4 x5 x6 x7 x8 x9 x10 x11 (.val (TI ss)) (.val (.int bound)) (.val (.bool both)) (.own (LI (allSums both ss))) y .un) ?_ (fun h => (by cases h)) fun _ => ?_
  · simp only [cbNot, cbT, cCall, hargs, hsame, aIx, drops, puts, Bool.not_true]
  · rw [run_nop]
    exact ⟨_, _, _, rfl⟩
theorem foldl_some (ws : List Int) : ∀ (us : List Int) (b : Option (Int × Int)), (b ≠ none ∨ us ≠ []) → us.foldl (better ws) b ≠ none
  | [], b, h => by rcases h with h | h; exact h; exact absurd rfl h
  | u :: us, b, _ => by
    rw [List.foldl_cons]
    refine foldl_some ws us _ (.inl ?_)
    unfold better
    split
    · exact fun z => nomatch z
    · split <;> exact fun z => nomatch z
theorem pure_law : ∀ ns : List Int, ns.length ≤ 63 → ∃ e', body_law (.un :: .own (drawD ns 0 0 17) :: List.replicate 16 .un) = some (.rt (.val (.bool true)) e') := by
  intro ns _
  suffices RunS body_law (lenv (.own (drawD ns 0 0 17)) .un .un .un .un .un .un .un .un .un .un .un .un .un .un .un .un) (fun o => ∃ e', o = .rt (.val (.bool true)) e') by
    obtain ⟨o, ho, e', rfl⟩ := this
    exact ⟨e', ho⟩
  obtain ⟨v1, d1, h1, hv1, hv1', ok1⟩ := next_ok (DOk.zero ns) (m := 9) (by omega) (by omega)
  unfold body_law
  rw [run_seq]
  refine run_set (r := .val (.int (2 + v1))) (e' := lenv (.own d1) .un .un .un .un .un .un .un .un .un .un .un .un .un .un .un .un) (by simp only [lenv, cOps, evs, peek, frz, cK, cVar, FL.l1, FL.l2, cbT, cbAnd, cbOr, cbNot, cbTru, cbNm, cIf, cAndV, cOrV, cNotV, cChain, truthV, cvs, cTup, cLst, cDnew, cCall, aevs, aIx, drops, puts, peekOwn, ctName, ctTup, ctCons, ctNil, cSl, coN, coS, cbYes, wipeE, back, ciE, ciR1, ciR2, walkD, isLst, cMt, sets, crs, List.getElem?_cons_zero, List.getElem?_cons_succ, List.set_cons_zero, List.set_cons_succ, List.getD_cons_zero, List.getD_cons_succ, List.length_cons, List.length_nil, Option.some.injEq, Prod.mk.injEq, reduceCtorEq, if_true, if_false, ite_true, ite_false, Bool.false_eq_true, Nat.reduceAdd, Nat.reduceLT, Nat.reduceLeDiff, reduceIte, h1, addD_int, subD_int, negD_int, absD_int, eqD_int, neD_int, ltD_int, leD_int, gtD_int, geD_int, max2D_int, min2D_int, eqD_bool, neD_bool, FL.intD, FL.tupD, FL.lenD]) (by simp [lenv]) ?_
  show RunS _ (lenv (.own d1) (.val (.int (2 + v1))) .un .un .un .un .un .un .un .un .un .un .un .un .un .un .un) _
  rw [run_seq]
  refine run_set (r := .own (.list [])) (e' := lenv (.own d1) (.val (.int (2 + v1))) .un .un .un .un .un .un .un .un .un .un .un .un .un .un .un) (by rfl) (by simp [lenv]) ?_
  show RunS _ (lenv (.own d1) (.val (.int (2 + v1))) (.own (.list [])) .un .un .un .un .un .un .un .un .un .un .un .un .un .un) _
  rw [run_seq]
  refine loop1 ok1 (by omega) (by omega) fun d2 ws x ok2 hw => ?_
  obtain ⟨v3, d3, h3, hv3, hv3', ok3⟩ := next_ok ok2 (m := 3) (by omega) (by omega)
  obtain ⟨v4, d4, h4, hv4, hv4', ok4⟩ := next_ok ok3 (m := 4) (by omega) (by omega)
  show RunS _ _ _
  rw [run_seq]
  refine run_eq (o := .nx (lenv (.own d4) (.val (.int (2 + v1))) (.val (TI ws)) x (.val (.int v3)) (.val (.int (1 + v4))) .un .un .un .un .un .un .un .un .un .un .un)) ?_ ?_
  · simp only [sPar, lenv, cOps, evs, peek, frz, cK, cVar, FL.l1, FL.l2, cbT, cbAnd, cbOr, cbNot, cbTru, cbNm, cIf, cAndV, cOrV, cNotV, cChain, truthV, cvs, cTup, cLst, cDnew, cCall, aevs, aIx, drops, puts, peekOwn, ctName, ctTup, ctCons, ctNil, cSl, coN, coS, cbYes, wipeE, back, ciE, ciR1, ciR2, walkD, isLst, cMt, sets, crs, List.getElem?_cons_zero, List.getElem?_cons_succ, List.set_cons_zero, List.set_cons_succ, List.getD_cons_zero, List.getD_cons_succ, List.length_cons, List.length_nil, Option.some.injEq, Prod.mk.injEq, reduceCtorEq, if_true, if_false, ite_true, ite_false, Bool.false_eq_true, Nat.reduceAdd, Nat.reduceLT, Nat.reduceLeDiff, reduceIte, addD_int, subD_int, negD_int, absD_int, eqD_int, neD_int, ltD_int, leD_int, gtD_int, geD_int, max2D_int, min2D_int, eqD_bool, neD_bool, FL.intD, FL.tupD, FL.lenD, h3, h4]
    rfl
  obtain ⟨v5, d5, h5, hv5, hv5', ok5⟩ := next_ok ok4 (m := 12) (by omega) (by omega)
  show RunS _ _ _
  rw [run_seq]
  refine run_set (r := .val (.int (1 + v4 + v5))) (e' := lenv (.own d5) (.val (.int (2 + v1))) (.val (TI ws)) x (.val (.int v3)) (.val (.int (1 + v4))) .un .un .un .un .un .un .un .un .un .un .un) (by simp only [lenv, cOps, evs, peek, frz, cK, cVar, FL.l1, FL.l2, cbT, cbAnd, cbOr, cbNot, cbTru, cbNm, cIf, cAndV, cOrV, cNotV, cChain, truthV, cvs, cTup, cLst, cDnew, cCall, aevs, aIx, drops, puts, peekOwn, ctName, ctTup, ctCons, ctNil, cSl, coN, coS, cbYes, wipeE, back, ciE, ciR1, ciR2, walkD, isLst, cMt, sets, crs, List.getElem?_cons_zero, List.getElem?_cons_succ, List.set_cons_zero, List.set_cons_succ, List.getD_cons_zero, List.getD_cons_succ, List.length_cons, List.length_nil, Option.some.injEq, Prod.mk.injEq, reduceCtorEq, if_true, if_false, ite_true, ite_false, Bool.false_eq_true, Nat.reduceAdd, Nat.reduceLT, Nat.reduceLeDiff, reduceIte, h5, addD_int, subD_int, negD_int, absD_int, eqD_int, neD_int, ltD_int, leD_int, gtD_int, geD_int, max2D_int, min2D_int, eqD_bool, neD_bool, FL.intD, FL.tupD, FL.lenD]) (by simp [lenv]) ?_
  show RunS _ (lenv (.own d5) (.val (.int (2 + v1))) (.val (TI ws)) x (.val (.int v3)) (.val (.int (1 + v4))) (.val (.int (1 + v4 + v5))) .un .un .un .un .un .un .un .un .un .un) _
  have hl : 1 ≤ 1 + v4 := by omega
  generalize elow : 1 + v4 = low at *
  have hh : low ≤ low + v5 := by omega
  generalize ehigh : low + v5 = high at *
  rw [run_seq]
  have hdue := due_eq (slip := v3) (low := low) (high := high) hw hl (by omega) (by omega) (by omega) (.own d5) (.val (.int (2 + v1))) x
  refine run_set hdue (by simp [lenv]) ?_
  show RunS _ (lenv (.own d5) (.val (.int (2 + v1))) (.val (TI ws)) x (.val (.int v3)) (.val (.int low)) (.val (.int high)) (.own (LI ((rng low (high + 1)).filter (fits ws v3)))) .un .un .un .un .un .un .un .un .un) _
  rw [run_seq]
  have hfl : ((rng low (high + 1)).filter (fits ws v3)).length ≤ 1000000 := by
    refine Nat.le_trans (List.length_filter_le _ _) ?_
    rw [rng_len]; omega
  have hsame1 : sameF 8 [TI ((rng low (high + 1)).filter (fits ws v3)), TI ((rng low (high + 1)).filter (fits ws v3))] = some (.val (.bool true), []) := same_ok (tame_TI hfl) rfl
  have hfu := F_fitting_units_eq (slip := v3) (low := low) (high := high) hw hl (by omega) (by omega) (by omega)
  refine run_if (k := false) (e' := lenv (.own d5) (.val (.int (2 + v1))) (.val (TI ws)) x (.val (.int v3)) (.val (.int low)) (.val (.int high)) (.own (LI ((rng low (high + 1)).filter (fits ws v3)))) .un .un .un .un .un .un .un .un .un) ?_ (fun h => (by cases h)) fun _ => ?_
  · simp only [lenv, cOps, evs, peek, frz, cK, cVar, FL.l1, FL.l2, cbT, cbAnd, cbOr, cbNot, cbTru, cbNm, cIf, cAndV, cOrV, cNotV, cChain, truthV, cvs, cTup, cLst, cDnew, cCall, aevs, aIx, drops, puts, peekOwn, ctName, ctTup, ctCons, ctNil, cSl, coN, coS, cbYes, wipeE, back, ciE, ciR1, ciR2, walkD, isLst, cMt, sets, crs, List.getElem?_cons_zero, List.getElem?_cons_succ, List.set_cons_zero, List.set_cons_succ, List.getD_cons_zero, List.getD_cons_succ, List.length_cons, List.length_nil, Option.some.injEq, Prod.mk.injEq, reduceCtorEq, if_true, if_false, ite_true, ite_false, Bool.false_eq_true, Nat.reduceAdd, Nat.reduceLT, Nat.reduceLeDiff, reduceIte, addD_int, subD_int, negD_int, absD_int, eqD_int, neD_int, ltD_int, leD_int, gtD_int, geD_int, max2D_int, min2D_int, eqD_bool, neD_bool, FL.intD, FL.tupD, FL.lenD, hfu, hsame1, Bool.not_true]
  rw [run_nop]
  show RunS _ _ _
  rw [run_seq]
  refine run_set (r := .val .none) (e' := lenv (.own d5) (.val (.int (2 + v1))) (.val (TI ws)) x (.val (.int v3)) (.val (.int low)) (.val (.int high)) (.own (LI ((rng low (high + 1)).filter (fits ws v3)))) .un .un .un .un .un .un .un .un .un) (by rfl) (by simp [lenv]) ?_
  show RunS _ (lenv (.own d5) (.val (.int (2 + v1))) (.val (TI ws)) x (.val (.int v3)) (.val (.int low)) (.val (.int high)) (.own (LI ((rng low (high + 1)).filter (fits ws v3)))) (.val .none) .un .un .un .un .un .un .un .un) _
  rw [run_seq]
  refine loop2 (slip := v3) (low := low) (high := high) hw hl (by omega) (by omega) (by omega) (.own d5) (.val (.int (2 + v1))) x (.own (LI ((rng low (high + 1)).filter (fits ws v3)))) fun b y z hb okb => ?_
  show RunS _ _ _
  have hne : b ≠ none := by
    rw [← hb]
    refine foldl_some ws _ _ (.inr ?_)
    rw [rng_cons (by omega)]
    exact fun z => nomatch z
  obtain ⟨⟨m, u⟩, rfl⟩ : ∃ p, b = some p := by
    cases b with
    | none => exact absurd rfl hne
    | some p => exact ⟨p, rfl⟩
  rw [run_seq]
  have hbu := F_best_unit_eq (low := low) (high := high) hw hl (by omega) (by omega) (by omega) hb
  have hsame2 : sameF 8 [.int u, .int u] = some (.val (.bool true), []) := same_ok (tame_int _ _) rfl
  have i1 : ∀ x y : PyData, ixD (.tuple [x, y]) (.int 1) = some (.val y) := fun _ _ => rfl
  refine run_if (k := false) (e' := lenv (.own d5) (.val (.int (2 + v1))) (.val (TI ws)) x (.val (.int v3)) (.val (.int low)) (.val (.int high)) (.own (LI ((rng low (high + 1)).filter (fits ws v3)))) (.val (enL (some (m, u)))) y z .un .un .un .un .un .un) ?_ (fun h => (by cases h)) fun _ => ?_
  · simp only [lenv, enL, cOps, evs, peek, frz, cK, cVar, FL.l1, FL.l2, cbT, cbAnd, cbOr, cbNot, cbTru, cbNm, cIf, cAndV, cOrV, cNotV, cChain, truthV, cvs, cTup, cLst, cDnew, cCall, aevs, aIx, drops, puts, peekOwn, ctName, ctTup, ctCons, ctNil, cSl, coN, coS, cbYes, wipeE, back, ciE, ciR1, ciR2, walkD, isLst, cMt, sets, crs, List.getElem?_cons_zero, List.getElem?_cons_succ, List.set_cons_zero, List.set_cons_succ, List.getD_cons_zero, List.getD_cons_succ, List.length_cons, List.length_nil, Option.some.injEq, Prod.mk.injEq, reduceCtorEq, if_true, if_false, ite_true, ite_false, Bool.false_eq_true, Nat.reduceAdd, Nat.reduceLT, Nat.reduceLeDiff, reduceIte, addD_int, subD_int, negD_int, absD_int, eqD_int, neD_int, ltD_int, leD_int, gtD_int, geD_int, max2D_int, min2D_int, eqD_bool, neD_bool, FL.intD, FL.tupD, FL.lenD, hbu, i1, hsame2, Bool.not_true]
  rw [run_nop]
  show RunS _ _ _
  rw [run_seq]
  obtain ⟨d6, ss, ok6, hss, hc4⟩ := some_eq ok5 (.val (.int (2 + v1))) (.val (TI ws)) x (.val (.int v3)) (.val (.int low)) (.val (.int high)) (.own (LI ((rng low (high + 1)).filter (fits ws v3)))) (.val (enL (some (m, u)))) y z
  obtain ⟨v7, d7, h7, hv7, hv7', ok7⟩ := next_ok ok6 (m := 40) (by omega) (by omega)
  refine run_eq (o := .nx (lenv (.own d7) (.val (.int (2 + v1))) (.val (TI ws)) x (.val (.int v3)) (.val (.int low)) (.val (.int high)) (.own (LI ((rng low (high + 1)).filter (fits ws v3)))) (.val (enL (some (m, u)))) y z (.val (TI ss)) (.val (.int v7)) .un .un .un .un)) ?_ ?_
  · simp only [sPar, crs, cOps, evs, frz, FL.l1, hc4, FL.tupD]
    simp only [lenv, cOps, evs, peek, frz, cK, cVar, FL.l1, FL.l2, cbT, cbAnd, cbOr, cbNot, cbTru, cbNm, cIf, cAndV, cOrV, cNotV, cChain, truthV, cvs, cTup, cLst, cDnew, cCall, aevs, aIx, drops, puts, peekOwn, ctName, ctTup, ctCons, ctNil, cSl, coN, coS, cbYes, wipeE, back, ciE, ciR1, ciR2, walkD, isLst, cMt, sets, crs, List.getElem?_cons_zero, List.getElem?_cons_succ, List.set_cons_zero, List.set_cons_succ, List.getD_cons_zero, List.getD_cons_succ, List.length_cons, List.length_nil, Option.some.injEq, Prod.mk.injEq, reduceCtorEq, if_true, if_false, ite_true, ite_false, Bool.false_eq_true, Nat.reduceAdd, Nat.reduceLT, Nat.reduceLeDiff, reduceIte, h7]
    rfl
  show RunS _ _ _
  rw [run_seq]
  refine loop3 hss hv7 (by omega) (.own d7) (.val (.int (2 + v1))) (.val (TI ws)) x (.val (.int v3)) (.val (.int low)) (.val (.int high)) (.own (LI ((rng low (high + 1)).filter (fits ws v3)))) (.val (enL (some (m, u)))) y z fun e => ?_
  exact run_ret rfl ⟨_, rfl⟩
end Law

set_option Elab.async false
set_option linter.all false
set_option maxRecDepth 100000
open PySem PySem.W PyProof.Rows
set_option maxHeartbeats 0 in
theorem PySem.Challenge.cw_digworks_k22_weights_and_units_holds : PySem.Challenge.rw_digworks_k22_weights_and_units.Holds := by
  w_on; o_law; k_head; (case hw => w_witness2)
  k_fill
  refine L2.walk_of (l := PySem.Challenge.rw_digworks_k22_weights_and_units) (n := 63) (k := 9) (x := "script") (CX := fun _ => L2.CX0) (sp := fun w => FL.spLaw _) rfl (by decide) rfl ⟨rfl, by decide, by decide⟩ (fun w h Y => PySem.W.kIn_of Y) ?F (fun _ _ a ns hl _ hS => ⟨a, ns, rfl, hS, hl, fun _ => rfl⟩) (fun _ _ _ _ _ h => h)
  case F =>
    intro w mg fa h KX G hmg
    refine' Law.all_mk Law.pure_law KX G hmg ?a0 ?l0 ?c0 ?k0 ?a1 ?l1 ?c1 ?k1 ?a2 ?l2 ?c2 ?k2 ?a3 ?l3 ?c3 ?k3 ?a4 ?l4 ?c4 ?k4 ?a5 ?l5 ?c5 ?k5 ?a6 ?l6 ?c6 ?k6 ?a7 ?l7 ?c7 ?k7 ?a8 ?l8 ?c8 ?k8 ?a9 ?l9 ?c9 ?k9 ?a10 ?l10 ?c10 ?k10 ?a11 ?l11 ?c11 ?k11 ?a12 ?l12 ?c12 ?k12 ?n_abs ?n_all ?n_bool ?n_int ?n_isinstance ?n_len ?n_list ?n_max ?n_min ?n_range ?n_str ?n_sum ?n_tuple ?u_gcd
    (case a0 => k_is); (case l0 => k_is); (case c0 => k_is); (case k0 => k_is); (case a1 => k_is); (case l1 => k_is); (case c1 => k_is); (case k1 => k_is); (case a2 => k_is); (case l2 => k_is); (case c2 => k_is); (case k2 => k_is); (case a3 => k_is); (case l3 => k_is); (case c3 => k_is); (case k3 => k_is); (case a4 => k_is); (case l4 => k_is); (case c4 => k_is); (case k4 => k_is); (case a5 => k_is); (case l5 => k_is); (case c5 => k_is); (case k5 => k_is); (case a6 => k_is); (case l6 => k_is); (case c6 => k_is); (case k6 => k_is); (case a7 => k_is); (case l7 => k_is); (case c7 => k_is); (case k7 => k_is); (case a8 => k_is); (case l8 => k_is); (case c8 => k_is); (case k8 => k_is); (case a9 => k_is); (case l9 => k_is); (case c9 => k_is); (case k9 => k_is); (case a10 => k_is); (case l10 => k_is); (case c10 => k_is); (case k10 => k_is); (case a11 => k_is); (case l11 => k_is); (case c11 => k_is); (case k11 => k_is); (case a12 => k_is); (case l12 => k_is); (case c12 => k_is); (case k12 => k_is); (case n_abs => k_is); (case n_all => k_is); (case n_bool => k_is); (case n_int => k_is); (case n_isinstance => k_is); (case n_len => k_is); (case n_list => k_is); (case n_max => k_is); (case n_min => k_is); (case n_range => k_is); (case n_str => k_is); (case n_sum => k_is); (case n_tuple => k_is); (case u_gcd => k_is)

