import PyProof.Rows.All
import Wide.All
import OpenK.AllK
import Wide.FinOn
import KE.KStateDown
import HandS.ForMost
import HandS.TupAny
import HandS.TupMul
import HandS.TupLe
import HandS.Deep
import HandS.Conv
import HandS.Zip
import KE.GoesMore
import KE.GoesEnum
import KE.GoesZip
import HandS.SortInts
import HandS.Defaults
import KE.KDictDisplayH
import HandS.HeadEnd
import HandS.HeadHook1
import HandS.HeadHook2
import HandS.Words
import HandS.Ends
import HandS.EndBits
import HandS.Style
import HandS.Head0
import HandS.Head1
import HandS.Head2
import PyProof.WalksMore
import PyProof.TupleIter
import HandS.SortRule
import HandS.TupSets
import HandS.More
import HandS.TupLen
import HandS.SetFor
import HandS.Strs
import HandS.TryOnly
import KE.KTupSum
import KE.KDictLaws
import HandS.DictComp
import KE.KDictZip
import KE.KDictPairs
import HandS.IsInst
import HandS.Remove
import Lean
import PySem.Challenge.RW_patchrooms_k09_whole_loose_spots
set_option Elab.async false
set_option linter.all false
set_option maxRecDepth 100000
set_option maxHeartbeats 4000000
namespace Pd
open PySem PySem.Spec PyProof.Rows L2
/-- a datum: tuples by value, lists and dicts by their place in the store, fz: a list that is only read (the script), xt: a tuple known to have no dict of its own -/
inductive D where
  | non | bl (b : Bool) | int (i : Int) | str (x : Str) | tup (l : List D) | fz (l : List D) | xt (l : List D) | ref (n : Nat)
structure XD where
  cls : Str
  fs : List (Str × D)
inductive SO where
  | lst (l : List D) | dK (kvs : List (Key × D)) | dT (kvs : List (List Key × D))
abbrev Store := List SO
inductive Res (A : Type) where
  | ok (a : A) (st : Store) | exc (e : XD) (st : Store) | err
@[inline] def Res.bind {A B : Type} (r : Res A) (k : A → Store → Res B) : Res B := match r with
  | .ok a st => k a st
  | .exc e st => .exc e st
  | .err => .err
abbrev Env' := List (Option D)
abbrev DE := Env' → Store → Res D
abbrev DT := Env' → Store → Res Bool
abbrev DA := Env' → Store → Res (List D)
inductive Out where
  | nx (r : Env') (st : Store) | bk (r : Env') (st : Store) | ct (r : Env') (st : Store) | rt (d : D) (st : Store) | exc (e : XD) (st : Store) | err
abbrev DS := Env' → Store → Out
section
variable {A B C : Type} {F : A → B → Prop}
theorem Paired.get' {xs : List A} {ys : List B} (p : Paired F xs ys) : ∀ {i : Nat} {x : A}, xs[i]? = some x → ∃ y, ys[i]? = some y ∧ F x y := by
  induction p with
  | nil => intro i x h; simp at h
  | cons f t ih =>
    intro i x h
    cases i with
    | zero => simp at h; subst h; exact ⟨_, rfl, f⟩
    | succ i => simpa using ih (by simpa using h)
theorem Paired.getR {xs : List A} {ys : List B} (p : Paired F xs ys) : ∀ {i : Nat} {y : B}, ys[i]? = some y → ∃ x, xs[i]? = some x ∧ F x y := by
  induction p with
  | nil => intro i x h; simp at h
  | cons f t ih =>
    intro i x h
    cases i with
    | zero => simp at h; subst h; exact ⟨_, rfl, f⟩
    | succ i => simpa using ih (by simpa using h)
theorem Paired.app {xs xs' : List A} {ys ys' : List B} (p : Paired F xs ys) (q : Paired F xs' ys') : Paired F (xs ++ xs') (ys ++ ys') := by
  induction p with
  | nil => exact q
  | cons f t ih => exact .cons f ih
theorem Paired.tk {xs : List A} {ys : List B} (p : Paired F xs ys) : ∀ n, Paired F (xs.take n) (ys.take n) := by
  induction p with
  | nil => intro n; simp; exact .nil
  | cons f t ih =>
    intro n
    cases n with
    | zero => exact .nil
    | succ n => exact .cons f (ih n)
theorem Paired.dr {xs : List A} {ys : List B} (p : Paired F xs ys) : ∀ n, Paired F (xs.drop n) (ys.drop n) := by
  induction p with
  | nil => intro n; simp; exact .nil
  | cons f t ih =>
    intro n
    cases n with
    | zero => exact .cons f t
    | succ n => exact ih n
theorem Paired.st {x : A} {y : B} (f : F x y) {xs : List A} {ys : List B} (p : Paired F xs ys) : ∀ i, Paired F (xs.set i x) (ys.set i y) := by
  induction p with
  | nil => intro i; exact .nil
  | cons g t ih =>
    intro i
    cases i with
    | zero => exact .cons f t
    | succ i => exact .cons g (ih i)
theorem Paired.rep {x : A} {y : B} (f : F x y) : ∀ n, Paired F (List.replicate n x) (List.replicate n y)
  | 0 => .nil
  | n + 1 => .cons f (Paired.rep f n)
theorem Paired.mp {G : C → B → Prop} {g : A → C} {xs : List A} {ys : List B} (p : Paired F xs ys) (h : ∀ a b, F a b → G (g a) b) : Paired G (xs.map g) ys := by
  induction p with
  | nil => exact .nil
  | cons f t ih => exact .cons (h _ _ f) ih
theorem Paired.of_eq {xs : List A} {ys : List B} (hl : xs.length = ys.length) (h : ∀ (i : Nat) (x : A) (y : B), xs[i]? = some x → ys[i]? = some y → F x y) : Paired F xs ys := by
  induction xs generalizing ys with
  | nil => cases ys with
    | nil => exact .nil
    | cons y ys => cases hl
  | cons x xs ih => cases ys with
    | nil => cases hl
    | cons y ys => exact .cons (h 0 x y rfl rfl) (ih (by simpa using hl) fun i a b p q => h (i + 1) a b (by simpa using p) (by simpa using q))
end
/-- a list that is not written: locked, or of the written part -/
def SqF (K : PySem.W.Frag) (H : Hp) (a : Addr) (xs : List V) : Prop := (∃ o, H a = some (.frz o (.lst xs))) ∨
  ∃ (o : Obj) (its : Array Value) (n : Nat), K.lookup a = some o ∧ o.cls = .type "list" ∧ o.dict = none ∧ o.data = .seq its n ∧ its.size ≤ sizeLine ∧ Vals xs its.toList
/-- a tuple whose object is known to have no dict -/
def SqX (H : Hp) (a : Addr) (xs : List V) : Prop := ∃ o : Obj, H a = some (.frz o (.tup xs)) ∧ o.dict = none
theorem SqX.sq {K : PySem.W.Frag} {H : Hp} {a : Addr} {xs : List V} (h : SqX H a xs) : SqT K H a xs := by
  obtain ⟨o, h, _⟩ := h
  exact .inl (.inr ⟨o, h⟩)
theorem SqF.sq {K : PySem.W.Frag} {H : Hp} {a : Addr} {xs : List V} (h : SqF K H a xs) : SqL K H a xs := by
  rcases h with ⟨o, h⟩ | h
  · exact .inl (.inr ⟨o, h⟩)
  · exact .inr h
section
variable (K : PySem.W.Frag) (f : List Addr) (H : Hp)
mutual
inductive RD : D → V → Prop
  | non : RD .non .non
  | bl (b : Bool) : RD (.bl b) (.bl b)
  | int (i : Int) : RD (.int i) (.int i)
  | str (x : Str) : RD (.str x) (.str x)
  | tup {a : Addr} {vs : List V} {l : List D} : H a = some (.tup vs) → l.length ≤ sizeLine → RDs l vs → RD (.tup l) (.ref a)
  | fz {a : Addr} {vs : List V} {l : List D} : SqF K H a vs → l.length ≤ sizeLine → RDs l vs → RD (.fz l) (.ref a)
  | xt {a : Addr} {vs : List V} {l : List D} : SqX H a vs → l.length ≤ sizeLine → RDs l vs → RD (.xt l) (.ref a)
  | ref {n : Nat} {a : Addr} : f[n]? = some a → RD (.ref n) (.ref a)
inductive RDs : List D → List V → Prop
  | nil : RDs [] []
  | cons {d : D} {v : V} {l : List D} {vs : List V} : RD d v → RDs l vs → RDs (d :: l) (v :: vs)
end
theorem RDs.pr {l : List D} {vs : List V} (h : RDs K f H l vs) : Paired (RD K f H) l vs := by
  induction l generalizing vs with
  | nil => cases h; exact .nil
  | cons d l ih => cases h with
    | cons a b => exact .cons a (ih b)
theorem RDs.of {l : List D} {vs : List V} (h : Paired (RD K f H) l vs) : RDs K f H l vs := by
  induction h with
  | nil => exact .nil
  | cons a b ih => exact .cons a ih
/-- a dict's entries -/
abbrev RKs : List (Key × D) → List (Key × V) → Prop := Paired fun p q => p.1 = q.1 ∧ RD K f H p.2 q.2
abbrev RTs : List (List Key × D) → List (List Key × V) → Prop := Paired fun p q => p.1 = q.1 ∧ RD K f H p.2 q.2
/-- what stands at a place of the store -/
def RO (a : Addr) : SO → Prop
  | .lst l => ∃ vs, H a = some (.lst vs) ∧ RDs K f H l vs ∧ l.length ≤ sizeLine
  | .dK kvs => ∃ vs, H a = some (.dK vs) ∧ RKs K f H kvs vs ∧ kvs.length ≤ sizeLine
  | .dT kvs => ∃ vs, H a = some (.dT vs) ∧ RTs K f H kvs vs ∧ kvs.length ≤ sizeLine
structure RSt (st : Store) : Prop where
  len : f.length = st.length
  nd : f.Nodup
  at_ : ∀ (n : Nat) (o : SO) (a : Addr), st[n]? = some o → f[n]? = some a → RO K f H a o
/-- the slots -/
structure RS (r : Env') (s : L2.St) : Prop where
  len : r.length = s.length
  at_ : ∀ (i : Nat) (d : D), r[i]? = some (some d) → ∃ v, s[i]? = some (some v) ∧ RD K f H d v
end
theorem RO.mut {K : PySem.W.Frag} {f : List Addr} {H : Hp} {a : Addr} {o : SO} (h : RO K f H a o) : ∃ u, H a = some u ∧ Mut (some u) := by
  cases o with
  | lst l => obtain ⟨vs, e, _⟩ := h; exact ⟨_, e, trivial⟩
  | dK l => obtain ⟨vs, e, _⟩ := h; exact ⟨_, e, trivial⟩
  | dT l => obtain ⟨vs, e, _⟩ := h; exact ⟨_, e, trivial⟩
/-- how places and heap may go on -/
structure Ex0 (f : List Addr) (H : Hp) (f' : List Addr) (H' : Hp) : Prop where
  pre : f <+: f'
  im : ∀ b o, H b = some o → ¬ Mut (some o) → H' b = some o
structure Ext (f : List Addr) (H : Hp) (f' : List Addr) (H' : Hp) : Prop extends Ex0 f H f' H' where
  nw : ∀ a, a ∈ f' → a ∉ f → H a = none
  fr : ∀ b o, H b = some o → b ∉ f → H' b = some o
theorem Ext.refl {f : List Addr} {H : Hp} : Ext f H f H := ⟨⟨List.prefix_refl f, fun _ _ h _ => h⟩, fun _ h n => absurd h n, fun _ _ h _ => h⟩
theorem Ext.trans {f f1 f2 : List Addr} {H H1 H2 : Hp} (a : Ext f H f1 H1) (b : Ext f1 H1 f2 H2) : Ext f H f2 H2 := by
  have out : ∀ c o, H c = some o → c ∉ f → c ∉ f1 := fun c o h n m => by
    rw [a.nw c m n] at h
    cases h
  refine ⟨⟨a.pre.trans b.pre, fun c o h n => b.im c o (a.im c o h n) n⟩, fun c m n => ?_, fun c o h n => b.fr c o (a.fr c o h n) (out c o h n)⟩
  cases q : H c with
  | none => rfl
  | some o =>
    have z := b.nw c m (out c o q n)
    rw [a.fr c o q n] at z
    cases z
section
variable {K : PySem.W.Frag} {f f' : List Addr} {H H' : Hp}
theorem Ex0.tup (x : Ex0 f H f' H') {a : Addr} {xs : List V} (h : SqT K H a xs) : SqT K H' a xs := by
  rcases h with (h | ⟨o, h⟩) | h
  · exact .inl (.inl (x.im _ _ h fun z => z))
  · exact .inl (.inr ⟨o, x.im _ _ h fun z => z⟩)
  · exact .inr h
theorem Ex0.fzl (x : Ex0 f H f' H') {a : Addr} {xs : List V} (h : SqF K H a xs) : SqF K H' a xs := by
  rcases h with ⟨o, h⟩ | h
  · exact .inl ⟨o, x.im _ _ h fun z => z⟩
  · exact .inr h
theorem Ex0.xtl (x : Ex0 f H f' H') {a : Addr} {xs : List V} (h : SqX H a xs) : SqX H' a xs := by
  obtain ⟨o, h, d⟩ := h
  exact ⟨o, x.im _ _ h fun z => z, d⟩
theorem Ex0.get (x : Ex0 f H f' H') {n : Nat} {a : Addr} (h : f[n]? = some a) : f'[n]? = some a := by
  obtain ⟨t, rfl⟩ := x.pre
  rw [List.getElem?_append_left (List.getElem?_eq_some_iff.mp h).1]
  exact h
mutual
theorem RD.ext (x : Ex0 f H f' H') : ∀ (d : D) (v : V), RD K f H d v → RD K f' H' d v
  | .non, _, h => by cases h; exact .non
  | .bl b, _, h => by cases h; exact .bl b
  | .int i, _, h => by cases h; exact .int i
  | .str s, _, h => by cases h; exact .str s
  | .tup l, _, h => by
    cases h with
    | tup a b c => exact .tup (x.im _ _ a fun z => z) b (RDs.ext x l _ c)
  | .fz l, _, h => by
    cases h with
    | fz a b c => exact .fz (x.fzl a) b (RDs.ext x l _ c)
  | .xt l, _, h => by
    cases h with
    | xt a b c => exact .xt (x.xtl a) b (RDs.ext x l _ c)
  | .ref n, _, h => by
    cases h with
    | ref a => exact .ref (x.get a)
theorem RDs.ext (x : Ex0 f H f' H') : ∀ (l : List D) (vs : List V), RDs K f H l vs → RDs K f' H' l vs
  | [], _, h => by cases h; exact .nil
  | d :: l, _, h => by
    cases h with
    | cons a b => exact .cons (RD.ext x d _ a) (RDs.ext x l _ b)
end
theorem RD.up (x : Ex0 f H f' H') {d : D} {v : V} (h : RD K f H d v) : RD K f' H' d v := RD.ext x d v h
theorem RDs.up (x : Ex0 f H f' H') {l : List D} {vs : List V} (h : RDs K f H l vs) : RDs K f' H' l vs := RDs.ext x l vs h
theorem RKs.up (x : Ex0 f H f' H') {l : List (Key × D)} {vs : List (Key × V)} (h : RKs K f H l vs) : RKs K f' H' l vs := Paired.mono (fun _ _ z => ⟨z.1, z.2.up x⟩) h
theorem RTs.up (x : Ex0 f H f' H') {l : List (List Key × D)} {vs : List (List Key × V)} (h : RTs K f H l vs) : RTs K f' H' l vs := Paired.mono (fun _ _ z => ⟨z.1, z.2.up x⟩) h
theorem RS.up (x : Ex0 f H f' H') {r : Env'} {s : L2.St} (h : RS K f H r s) : RS K f' H' r s := ⟨h.len, fun i d e => let ⟨v, a, b⟩ := h.at_ i d e; ⟨v, a, b.up x⟩⟩
theorem RDs.length {l : List D} {vs : List V} (h : RDs K f H l vs) : l.length = vs.length := Paired.length h.pr
theorem RO.up {a : Addr} {o : SO} (x : Ex0 f H f' H') (e : H' a = H a) (h : RO K f H a o) : RO K f' H' a o := by
  cases o with
  | lst l => obtain ⟨vs, p, q, z⟩ := h; exact ⟨vs, e.trans p, q.up x, z⟩
  | dK l => obtain ⟨vs, p, q, z⟩ := h; exact ⟨vs, e.trans p, RKs.up x q, z⟩
  | dT l => obtain ⟨vs, p, q, z⟩ := h; exact ⟨vs, e.trans p, RTs.up x q, z⟩
/-- an object that is in no place of the store is laid: a tuple, a new list on the way -/
theorem ext_new {p : Addr} {o : HO} (hp : H p = none) : Ext f H f (upd H p o) :=
  ⟨⟨List.prefix_refl f, fun b u h _ => by rw [upd_ne (ne_of_none h hp)]; exact h⟩, fun _ h n => absurd h n, fun b u h _ => by rw [upd_ne (ne_of_none h hp)]; exact h⟩
theorem RSt.mem {st : Store} (R : RSt K f H st) {a : Addr} (h : a ∈ f) : ∃ u, H a = some u ∧ Mut (some u) := by
  obtain ⟨n, e⟩ := List.getElem?_of_mem h
  have hn : n < st.length := by rw [← R.len]; exact (List.getElem?_eq_some_iff.mp e).1
  exact (R.at_ n _ a (List.getElem?_eq_getElem hn) e).mut
theorem RSt.new {st : Store} (R : RSt K f H st) {p : Addr} {o : HO} (hp : H p = none) : RSt K f (upd H p o) st :=
  ⟨R.len, R.nd, fun n u a e1 e2 => (R.at_ n u a e1 e2).up (ext_new hp).toEx0 (by
    obtain ⟨w, hw, _⟩ := R.mem (List.mem_of_getElem? e2)
    rw [upd_ne (ne_of_none hw hp)])⟩
/-- an object (in no place) takes a place -/
theorem RSt.put {st : Store} (R : RSt K f H st) {p : Addr} {o : SO} (hn : p ∉ f) (x : Ex0 f H (f ++ [p]) H') (he : ∀ a ∈ f, H' a = H a) (h : RO K (f ++ [p]) H' p o) : RSt K (f ++ [p]) H' (st ++ [o]) := by
  refine ⟨by rw [List.length_append, List.length_append, R.len]; rfl, ?_, fun n u a e1 e2 => ?_⟩
  · rw [List.nodup_append]
    exact ⟨R.nd, by simp, fun a ha b hb e => hn (by rw [List.mem_singleton] at hb; rw [← hb, ← e]; exact ha)⟩
  · by_cases hlt : n < st.length
    · rw [List.getElem?_append_left hlt] at e1
      rw [List.getElem?_append_left (by rw [R.len]; exact hlt)] at e2
      exact (R.at_ n u a e1 e2).up x (he a (List.mem_of_getElem? e2))
    · have hn2 : n = st.length := by
        have := (List.getElem?_eq_some_iff.mp e1).1
        rw [List.length_append] at this
        simp at this
        omega
      subst hn2
      rw [List.getElem?_append_right (Nat.le_refl _)] at e1
      rw [List.getElem?_append_right (by rw [R.len]; exact Nat.le_refl _)] at e2
      rw [R.len] at e2
      simp at e1 e2
      subst e1
      subst e2
      exact h
theorem ext_put {p : Addr} {o : HO} (hp : H p = none) : Ext f H (f ++ [p]) (upd H p o) :=
  ⟨⟨List.prefix_append f [p], fun b u h _ => by rw [upd_ne (ne_of_none h hp)]; exact h⟩, fun a h n => by
    rcases List.mem_append.mp h with h | h
    · exact absurd h n
    · rw [List.mem_singleton] at h; rw [h]; exact hp, fun b u h _ => by rw [upd_ne (ne_of_none h hp)]; exact h⟩
/-- a new object at a new place -/
theorem RSt.lay {st : Store} (R : RSt K f H st) {p : Addr} {o : HO} {u : SO} (hp : H p = none) (h : RO K (f ++ [p]) (upd H p o) p u) : RSt K (f ++ [p]) (upd H p o) (st ++ [u]) := by
  have hn : p ∉ f := fun m => by
    obtain ⟨w, hw, _⟩ := R.mem m
    rw [hp] at hw
    cases hw
  refine R.put hn (ext_put hp).toEx0 (fun a ha => ?_) h
  exact upd_ne fun e => hn (e ▸ ha)
/-- an object at its place is written -/
theorem ext_set {st : Store} (R : RSt K f H st) {n : Nat} {a : Addr} {o : HO} (h : f[n]? = some a) : Ext f H f (upd H a o) := by
  have hm := List.mem_of_getElem? h
  obtain ⟨w, hw, mw⟩ := R.mem hm
  refine ⟨⟨List.prefix_refl f, fun b u hb nm => ?_⟩, fun _ h n => absurd h n, fun b u hb n => ?_⟩
  · rw [upd_ne fun e => by
      rw [e, hw] at hb
      cases hb
      exact nm mw]
    exact hb
  · rw [upd_ne fun e => n (by rw [e]; exact hm)]
    exact hb
theorem RSt.set {st : Store} (R : RSt K f H st) {n : Nat} {a : Addr} {o : HO} {u : SO} (h : f[n]? = some a) (hu : RO K f (upd H a o) a u) : RSt K f (upd H a o) (st.set n u) := by
  refine ⟨by rw [List.length_set]; exact R.len, R.nd, fun m w b e1 e2 => ?_⟩
  by_cases hm : m = n
  · subst hm
    rw [h] at e2
    cases e2
    have hlt : m < st.length := by
      have := (List.getElem?_eq_some_iff.mp e1).1
      rw [List.length_set] at this
      exact this
    rw [List.getElem?_set_self hlt] at e1
    cases e1
    exact hu
  · rw [List.getElem?_set_ne (Ne.symm hm)] at e1
    refine (R.at_ m w b e1 e2).up (ext_set R h).toEx0 (upd_ne fun e => hm ?_)
    subst e
    obtain ⟨h1, g1⟩ := List.getElem?_eq_some_iff.mp e2
    obtain ⟨h2, g2⟩ := List.getElem?_eq_some_iff.mp h
    exact (List.getElem_inj R.nd).mp (g1.trans g2.symm)
end
end Pd
set_option maxRecDepth 100000
set_option maxHeartbeats 4000000
namespace Pd
open PySem PySem.Spec PyProof.Rows L2
abbrev XE := XD → List Addr → Hp → Prop
section
variable {A B C A' B' : Type}
def post (K : PySem.W.Frag) (E : XE) (R : List Addr → Hp → A → B → Prop) (f : List Addr) (H : Hp) (r : Res A) (Q : B → Hp → Prop) : Prop := match r with
  | .ok a st => ∀ f' H' b, Ext f H f' H' → RSt K f' H' st → R f' H' a b → Q b H'
  | .exc e st => ∀ f' H', Ext f H f' H' → RSt K f' H' st → E e f' H'
  | .err => False
variable {K : PySem.W.Frag} {E : XE} {R : List Addr → Hp → A → B → Prop} {R' : List Addr → Hp → A' → B' → Prop} {f : List Addr} {H : Hp} {Q : B → Hp → Prop}
theorem post.mono {r : Res A} {Q' : B → Hp → Prop} (h : post K E R f H r Q) (i : ∀ b H', Q b H' → Q' b H') : post K E R f H r Q' := by
  cases r with
  | ok a st => exact fun f' H' b x y z => i _ _ (h f' H' b x y z)
  | exc e st => exact h
  | err => exact h
theorem post.up {r : Res A} {f1 : List Addr} {H1 : Hp} (h : post K E R f H r Q) (x : Ext f H f1 H1) : post K E R f1 H1 r Q := by
  cases r with
  | ok a st => exact fun f' H' b y z w => h f' H' b (x.trans y) z w
  | exc e st => exact fun f' H' y z => h f' H' (x.trans y) z
  | err => exact h
theorem post.bind {r : Res A'} {k : A' → Store → Res A} (h : post K E R f H (r.bind k) Q) :
    post K E R' f H r fun b H1 => ∃ f1 a st1, Ext f H f1 H1 ∧ RSt K f1 H1 st1 ∧ R' f1 H1 a b ∧ post K E R f1 H1 (k a st1) Q := by
  cases r with
  | ok a st => exact fun f' H' b x y z => ⟨f', a, st, x, y, z, post.up (show post K E R f H (k a st) Q from h) x⟩
  | exc e st => exact h
  | err => exact h
theorem post.now {a : A} {b : B} {st : Store} (h : post K E R f H (.ok a st) Q) (y : RSt K f H st) (z : R f H a b) : Q b H := h f H b .refl y z
end
abbrev RB : List Addr → Hp → Bool → Bool → Prop := fun _ _ a b => a = b
abbrev ROI : List Addr → Hp → Option Int → Option Int → Prop := fun _ _ a b => a = b
section
variable (K : PySem.W.Frag) (E : XE)
def rd (e : DE) : TE := fun s H Q => ∃ f r st, RS K f H r s ∧ RSt K f H st ∧ post K E (RD K) f H (e r st) Q
def rdT (e : DT) : TT := fun s H Q => ∃ f r st, RS K f H r s ∧ RSt K f H st ∧ post K E RB f H (e r st) Q
def rdA (e : DA) : TA := fun s H Q => ∃ f r st, RS K f H r s ∧ RSt K f H st ∧ post K E (RDs K) f H (e r st) Q
/-- two data to one -/
def rO (g : D → D → Store → Res D) : R2 := fun x y H Q => ∃ f st d e, RSt K f H st ∧ RD K f H d x ∧ RD K f H e y ∧ post K E (RD K) f H (g d e st) Q
def rL (g : List D → Store → Res D) : List V → Hp → VK → Prop := fun x H Q => ∃ f st d, RSt K f H st ∧ RDs K f H d x ∧ post K E (RD K) f H (g d st) Q
end
section
variable {X : Cx}
theorem _root_.L2.PE.mn {e : Expr} {t t' : TE} (h : PE X e t) (i : ∀ s H Q, t' s H Q → t s H Q) : PE X e t' := ⟨fun pins s sg H Q I q => h.run pins s sg H Q I (i _ _ _ q)⟩
theorem _root_.L2.PT.mn {e : Expr} {t t' : TT} (h : PT X e t) (i : ∀ s H Q, t' s H Q → t s H Q) : PT X e t' := ⟨fun pins s sg H Q I q => h.run pins s sg H Q I (i _ _ _ q)⟩
theorem _root_.L2.PW.mn {e : Expr} {t t' : TT} (h : PW X e t) (i : ∀ s H Q, t' s H Q → t s H Q) : PW X e t' := ⟨fun w pins s sg H Q I q => h.run w pins s sg H Q I (i _ _ _ q)⟩
theorem _root_.L2.PA.mn {e : List Expr} {t t' : TA} (h : PA X e t) (i : ∀ s H Q, t' s H Q → t s H Q) : PA X e t' := ⟨fun p pins s sg H Q I q => h.run p pins s sg H Q I (i _ _ _ q)⟩
theorem _root_.L2.PK.mn {e : List Keyword} {t t' : TA} (h : PK X e t) (i : ∀ s H Q, t' s H Q → t s H Q) : PK X e t' := ⟨fun p pins s sg H Q I q => h.run p pins s sg H Q I (i _ _ _ q)⟩
theorem _root_.L2.PS.mn {e : Stmt} {t t' : TS} (h : PS X e t) (i : ∀ D s H, t' D s H → t D s H) : PS X e t' := ⟨fun pins s sg H D I q => h.run pins s sg H D I (i _ _ _ q)⟩
theorem _root_.L2.PSs.mn {e : List Stmt} {t t' : TS} (h : PSs X e t) (i : ∀ D s H, t' D s H → t D s H) : PSs X e t' := ⟨fun pins s sg H D I q => h.run pins s sg H D I (i _ _ _ q)⟩
theorem _root_.L2.PI.mn {tg e : Expr} {t t' : TI} (h : PI X tg e t) (i : ∀ s H Q, t' s H Q → t s H Q) : PI X tg e t' := ⟨fun pins s sg H Q I q => h.run pins s sg H Q I (i _ _ _ q)⟩
theorem OpR.mn {f : Value → Value → Sem Value} {r r' : R2} (h : OpR X f r) (i : ∀ x y H Q, r' x y H Q → r x y H Q) : OpR X f r' := fun pins s sg H x y v u Q I a b q => h pins s sg H x y v u Q I a b (i _ _ _ _ q)
theorem UnR.mn {f : Value → Sem Value} {r r' : V → Hp → VK → Prop} (h : UnR X f r) (i : ∀ x H Q, r' x H Q → r x H Q) : UnR X f r' := fun pins s sg H x v Q I a q => h pins s sg H x v Q I a (i _ _ _ q)
theorem CallR.mn {f : Value} {r r' : List V → Hp → VK → Prop} (h : CallR X f r) (i : ∀ x H Q, r' x H Q → r x H Q) : CallR X f r' := fun pins s sg H x v Q I a q => h pins s sg H x v Q I a (i _ _ _ q)
theorem IxR.mn {r r' : R2} (h : IxR X r) (i : ∀ x y H Q, r' x y H Q → r x y H Q) : IxR X r' := fun e1 e2 pins s sg H x y v u Q I a b q z => h e1 e2 pins s sg H x y v u Q I a b (i _ _ _ _ q) z
theorem SlR.mn {r r' : V → Option Int → Option Int → Hp → VK → Prop} (h : SlR X r) (i : ∀ x l u H Q, r' x l u H Q → r x l u H Q) : SlR X r' := fun pins s sg H x v vl vu lo hi sl Q I a b c d q => h pins s sg H x v vl vu lo hi sl Q I a b c d (i _ _ _ _ _ q)
theorem MtR.mn {id : String} {r r' : V → List V → Hp → VK → Prop} (h : MtR X id r) (i : ∀ x xs H Q, r' x xs H Q → r x xs H Q) : MtR X id r' := fun pins s sg H x xs v us Q I a b q => h pins s sg H x xs v us Q I a b (i _ _ _ _ q)
end
def dVar (i : Nat) : DE := fun r st => match r[i]? with
  | some (some d) => .ok d st
  | _ => .err
def dC (d : D) : DE := fun _ st => .ok d st
section
variable {X : Cx} {E : XE} {pos : Pos}
theorem pd_var (i : Nat) {x : Str} (hN : X.N[i]? = some x := by rfl) (hv : Vis X.env.scope x := by first | exact Or.inl rfl | exact Or.inr (Or.inl rfl) | exact Or.inr (Or.inr rfl)) (hd : (x == ("__debug__" : Str)) = false := by decide)
    (hcd : (x == ("__classdict__" : Str)) = false := by decide) : PE X (.Name x pos) (rd X.K E (dVar i)) := by
  refine (pe_var hN hv hd hcd).mn fun s H Q h => ?_
  obtain ⟨f, r, st, hs, ht, h⟩ := h
  unfold dVar at h
  cases e : r[i]? with
  | none => rw [e] at h; exact h.elim
  | some o =>
    rw [e] at h
    cases o with
    | none => exact h.elim
    | some d =>
      obtain ⟨v, e1, e2⟩ := hs.at_ i d e
      exact ⟨v, e1, h.now ht e2⟩
theorem rd_c {K : PySem.W.Frag} {d : D} {v : V} {s : L2.St} {H : Hp} {Q : VK} (hr : ∀ f H, RD K f H d v) (h : rd K E (dC d) s H Q) : tC v s H Q := by
  obtain ⟨f, r, st, hs, ht, h⟩ := h
  exact post.now (show post K E (RD K) f H (.ok d st) Q from h) ht (hr f H)
theorem pd_int {i : Int} {j : Nat} : PE X (.Constant (.int i) j pos) (rd X.K E (dC (.int i))) := pe_int.mn fun s H Q h => rd_c (fun _ _ => .int i) h
theorem pd_bl {i : Bool} {j : Nat} : PE X (.Constant (.bool i) j pos) (rd X.K E (dC (.bl i))) := pe_bl.mn fun s H Q h => rd_c (fun _ _ => .bl i) h
theorem pd_non {j : Nat} : PE X (.Constant .none j pos) (rd X.K E (dC .non)) := pe_non.mn fun s H Q h => rd_c (fun _ _ => .non) h
theorem pd_str {x : Str} {j : Nat} : PE X (.Constant (.str x) j pos) (rd X.K E (dC (.str x))) := pe_str.mn fun s H Q h => rd_c (fun _ _ => .str x) h
end
def dBin (g : D → D → Store → Res D) (a b : DE) : DE := fun r st => (a r st).bind fun x st1 => (b r st1).bind fun y st2 => g x y st2
def dUn (g : D → Store → Res D) (a : DE) : DE := fun r st => (a r st).bind fun x st1 => g x st1
theorem rd_bin {K : PySem.W.Frag} {E : XE} {g : D → D → Store → Res D} {a b : DE} {s : L2.St} {H : Hp} {Q : VK} (h : rd K E (dBin g a b) s H Q) : tOp (rO K E g) (rd K E a) (rd K E b) s H Q := by
  obtain ⟨f, r, st, hs, ht, h⟩ := h
  refine ⟨f, r, st, hs, ht, (post.bind (R' := RD K) h).mono fun x H1 ⟨f1, d, st1, x1, t1, d1, h1⟩ => ?_⟩
  refine ⟨f1, r, st1, hs.up x1.toEx0, t1, (post.bind (R' := RD K) h1).mono fun y H2 ⟨f2, e, st2, x2, t2, d2, h2⟩ => ?_⟩
  exact ⟨f2, st2, d, e, t2, d1.up x2.toEx0, d2, h2⟩
section
variable {X : Cx} {E : XE} {pos : Pos} {a b c : Expr} {da db dc : DE} {g g' : D → D → Store → Res D}
theorem pd_bin {op : Operator} (ho : OpR X (binaryOp op) (rO X.K E g)) (ha : PE X a (rd X.K E da)) (hb : PE X b (rd X.K E db)) : PE X (.BinOp a op b pos) (rd X.K E (dBin g da db)) := (pe_op ho ha hb).mn fun _ _ _ h => rd_bin h
theorem pd_cmp {op : CmpOp} (ho : OpR X (compareOp op) (rO X.K E g)) (ha : PE X a (rd X.K E da)) (hb : PE X b (rd X.K E db)) (hm : behindInMarks op b = false := by first | exact nobehind _ (by decide) (by decide) | rfl) : PE X (.Compare a [op] [b] pos) (rd X.K E (dBin g da db)) := (pe_cmpR ho ha hb hm).mn fun _ _ _ h => rd_bin h
/-- a value that is a truth, as a test -/
def asB : D → Store → Res Bool
  | .bl b, st => .ok b st
  | _, _ => .err
def dB (e : DE) : DT := fun r st => (e r st).bind asB
theorem post_asB {K : PySem.W.Frag} {E : XE} {f : List Addr} {H : Hp} {d : D} {x : V} {st : Store} {Q : Bool → Hp → Prop} (t : RSt K f H st) (z : RD K f H d x) (h : post K E RB f H (asB d st) Q) : ∃ k, x = .bl k ∧ Q k H := by
  cases z with
  | bl b => exact ⟨b, rfl, post.now (show post K E RB f H (.ok b st) Q from h) t rfl⟩
  | _ => exact h.elim
theorem rdT_B {K : PySem.W.Frag} {e : DE} {s : L2.St} {H : Hp} {Q : Bool → Hp → Prop} (h : rdT K E (dB e) s H Q) : rd K E e s H fun x H1 => ∃ k, x = .bl k ∧ Q k H1 := by
  obtain ⟨f, r, st, hs, ht, h⟩ := h
  exact ⟨f, r, st, hs, ht, (post.bind (R' := RD K) h).mono fun x H1 ⟨f1, d, st1, x1, t1, d1, h1⟩ => post_asB t1 d1 h1⟩
theorem pdt_cmp {op : CmpOp} (ho : OpR X (compareOp op) (rO X.K E g)) (ha : PE X a (rd X.K E da)) (hb : PE X b (rd X.K E db)) (hm : behindInMarks op b = false := by first | exact nobehind _ (by decide) (by decide) | rfl) : PT X (.Compare a [op] [b] pos) (rdT X.K E (dB (dBin g da db))) :=
  (pt_cmpR ho ha hb hm).mn fun s H Q h => rd_bin (rdT_B h)
/-- a < b < c -/
def dChain (g g' : D → D → Store → Res D) (a b c : DE) : DE := fun r st => (a r st).bind fun x st1 => (b r st1).bind fun y st2 => (g x y st2).bind fun z st3 => (asB z st3).bind fun k st4 =>
  if k = true then (c r st4).bind fun w st5 => g' y w st5 else .ok (.bl false) st4
theorem rd_chain {K : PySem.W.Frag} {s : L2.St} {H : Hp} {Q : VK} (h : rd K E (dChain g g' da db dc) s H Q) : tChain (rO K E g) (rO K E g') (rd K E da) (rd K E db) (rd K E dc) s H Q := by
  obtain ⟨f, r, st, hs, ht, h⟩ := h
  refine ⟨f, r, st, hs, ht, (post.bind (R' := RD K) h).mono fun x H1 ⟨f1, d, st1, x1, t1, d1, h1⟩ => ?_⟩
  have hs1 := hs.up x1.toEx0
  refine ⟨f1, r, st1, hs1, t1, (post.bind (R' := RD K) h1).mono fun y H2 ⟨f2, e, st2, x2, t2, d2, h2⟩ => ?_⟩
  have hs2 := hs1.up x2.toEx0
  refine ⟨f2, st2, d, e, t2, d1.up x2.toEx0, d2, (post.bind (R' := RD K) h2).mono fun z H3 ⟨f3, u, st3, x3, t3, d3, h3⟩ => ?_⟩
  have hs3 := hs2.up x3.toEx0
  cases d3 with
  | bl k =>
    refine ⟨k, rfl, ?_⟩
    have h3 : post K E (RD K) f3 H3 (if k = true then (dc r st3).bind fun w st5 => g' e w st5 else .ok (.bl false) st3) Q := h3
    cases k with
    | true =>
      refine iteT ?_
      exact ⟨f3, r, st3, hs3, t3, (post.bind (R' := RD K) h3).mono fun w H4 ⟨f4, v, st4, x4, t4, d4, h4⟩ => ⟨f4, st4, e, v, t4, (d2.up x3.toEx0).up x4.toEx0, d4, h4⟩⟩
    | false => exact iteF (post.now (show post K E (RD K) f3 H3 (.ok (.bl false) st3) Q from h3) t3 (.bl false))
  | _ => exact h3.elim
theorem pd_chain {op op' : CmpOp} (ho : OpR X (compareOp op) (rO X.K E g)) (ho' : OpR X (compareOp op') (rO X.K E g')) (ha : PE X a (rd X.K E da)) (hb : PE X b (rd X.K E db)) (hc : PE X c (rd X.K E dc))
    (hm : lastMarks [op, op'] [b, c] = false := by with_unfolding_all rfl) : PE X (.Compare a [op, op'] [b, c] pos) (rd X.K E (dChain g g' da db dc)) := (pe_chain ho ho' ha hb hc hm).mn fun _ _ _ h => rd_chain h
end
def dAnd (t u : DT) : DT := fun r st => (t r st).bind fun c st1 => if c = true then u r st1 else .ok false st1
def dOr (t u : DT) : DT := fun r st => (t r st).bind fun c st1 => if c = true then .ok true st1 else u r st1
def dNot (t : DT) : DT := fun r st => (t r st).bind fun c st1 => .ok (!c) st1
def dAndV (a b : DE) : DE := fun r st => (a r st).bind fun x st1 => (asB x st1).bind fun c st2 => if c = true then b r st2 else .ok (.bl false) st2
def dOrV (a b : DE) : DE := fun r st => (a r st).bind fun x st1 => (asB x st1).bind fun c st2 => if c = true then .ok (.bl true) st2 else b r st2
def dNotV (a : DE) : DE := fun r st => (a r st).bind fun x st1 => (asB x st1).bind fun c st2 => .ok (.bl (!c)) st2
def dIf (t : DT) (a b : DE) : DE := fun r st => (t r st).bind fun c st1 => if c = true then a r st1 else b r st1
section
variable {X : Cx} {E : XE} {pos : Pos} {a b c : Expr} {rest : List Expr} {da db : DE} {t u : DT}
theorem rdT_and {K : PySem.W.Frag} {s : L2.St} {H : Hp} {Q : Bool → Hp → Prop} (h : rdT K E (dAnd t u) s H Q) : tAnd (rdT K E t) (rdT K E u) s H Q := by
  obtain ⟨f, r, st, hs, ht, h⟩ := h
  refine ⟨f, r, st, hs, ht, (post.bind (R' := RB) h).mono fun k H1 ⟨f1, d, st1, x1, t1, d1, h1⟩ => ?_⟩
  cases d1
  cases k with
  | true => exact iteT ⟨f1, r, st1, hs.up x1.toEx0, t1, h1⟩
  | false => exact iteF (post.now (show post K E RB f1 H1 (.ok false st1) Q from h1) t1 rfl)
theorem rdT_or {K : PySem.W.Frag} {s : L2.St} {H : Hp} {Q : Bool → Hp → Prop} (h : rdT K E (dOr t u) s H Q) : tOr (rdT K E t) (rdT K E u) s H Q := by
  obtain ⟨f, r, st, hs, ht, h⟩ := h
  refine ⟨f, r, st, hs, ht, (post.bind (R' := RB) h).mono fun k H1 ⟨f1, d, st1, x1, t1, d1, h1⟩ => ?_⟩
  cases d1
  cases k with
  | true => exact iteT (post.now (show post K E RB f1 H1 (.ok true st1) Q from h1) t1 rfl)
  | false => exact iteF ⟨f1, r, st1, hs.up x1.toEx0, t1, h1⟩
theorem rdT_not {K : PySem.W.Frag} {s : L2.St} {H : Hp} {Q : Bool → Hp → Prop} (h : rdT K E (dNot t) s H Q) : tNot (rdT K E t) s H Q := by
  obtain ⟨f, r, st, hs, ht, h⟩ := h
  refine ⟨f, r, st, hs, ht, (post.bind (R' := RB) h).mono fun k H1 ⟨f1, d, st1, x1, t1, d1, h1⟩ => ?_⟩
  cases d1
  exact post.now (show post K E RB f1 H1 (.ok (!k) st1) Q from h1) t1 rfl
theorem pdw_and1 (ha : PT X a (rdT X.K E t)) : PW X (.BoolOp .And [a] pos) (rdT X.K E t) := pw_and1 ha
theorem pdw_or1 (ha : PT X a (rdT X.K E t)) : PW X (.BoolOp .Or [a] pos) (rdT X.K E t) := pw_or1 ha
theorem pdw_and (ha : PT X a (rdT X.K E t)) (hb : PW X (.BoolOp .And (b :: rest) pos) (rdT X.K E u)) : PW X (.BoolOp .And (a :: b :: rest) pos) (rdT X.K E (dAnd t u)) := (pw_and ha hb).mn fun _ _ _ h => rdT_and h
theorem pdw_or (ha : PT X a (rdT X.K E t)) (hb : PW X (.BoolOp .Or (b :: rest) pos) (rdT X.K E u)) : PW X (.BoolOp .Or (a :: b :: rest) pos) (rdT X.K E (dOr t u)) := (pw_or ha hb).mn fun _ _ _ h => rdT_or h
theorem pdt_not (ha : PT X a (rdT X.K E t)) : PT X (.UnaryOp .Not a pos) (rdT X.K E (dNot t)) := (pt_not ha).mn fun _ _ _ h => rdT_not h
theorem pdt_w {e : Expr} (h : PW X e (rdT X.K E t)) : PT X e (rdT X.K E t) := h.pt
theorem pd_and1 {op : PySem.BoolOp} (ha : PE X a (rd X.K E da)) : PE X (.BoolOp op [a] pos) (rd X.K E da) := pe_one ha
theorem rd_andV {K : PySem.W.Frag} {s : L2.St} {H : Hp} {Q : VK} (h : rd K E (dAndV da db) s H Q) : tAndV (rd K E da) (rd K E db) s H Q := by
  obtain ⟨f, r, st, hs, ht, h⟩ := h
  refine ⟨f, r, st, hs, ht, (post.bind (R' := RD K) h).mono fun x H1 ⟨f1, d, st1, x1, t1, d1, h1⟩ => ?_⟩
  cases d1 with
  | bl k =>
    refine ⟨k, rfl, ?_⟩
    cases k with
    | true => exact iteT ⟨f1, r, st1, hs.up x1.toEx0, t1, h1⟩
    | false => exact iteF (post.now (show post K E (RD K) f1 H1 (.ok (.bl false) st1) Q from h1) t1 (.bl false))
  | _ => exact h1.elim
theorem rd_orV {K : PySem.W.Frag} {s : L2.St} {H : Hp} {Q : VK} (h : rd K E (dOrV da db) s H Q) : tOrV (rd K E da) (rd K E db) s H Q := by
  obtain ⟨f, r, st, hs, ht, h⟩ := h
  refine ⟨f, r, st, hs, ht, (post.bind (R' := RD K) h).mono fun x H1 ⟨f1, d, st1, x1, t1, d1, h1⟩ => ?_⟩
  cases d1 with
  | bl k =>
    refine ⟨k, rfl, ?_⟩
    cases k with
    | true => exact iteT (post.now (show post K E (RD K) f1 H1 (.ok (.bl true) st1) Q from h1) t1 (.bl true))
    | false => exact iteF ⟨f1, r, st1, hs.up x1.toEx0, t1, h1⟩
  | _ => exact h1.elim
theorem pd_and (ha : PE X a (rd X.K E da)) (hb : PE X (.BoolOp .And (b :: rest) pos) (rd X.K E db)) : PE X (.BoolOp .And (a :: b :: rest) pos) (rd X.K E (dAndV da db)) := (pe_and ha hb).mn fun _ _ _ h => rd_andV h
theorem pd_or (ha : PE X a (rd X.K E da)) (hb : PE X (.BoolOp .Or (b :: rest) pos) (rd X.K E db)) : PE X (.BoolOp .Or (a :: b :: rest) pos) (rd X.K E (dOrV da db)) := (pe_or ha hb).mn fun _ _ _ h => rd_orV h
theorem pd_not (ha : PE X a (rd X.K E da)) : PE X (.UnaryOp .Not a pos) (rd X.K E (dNotV da)) := (pe_not ha).mn fun s H Q h => by
  obtain ⟨f, r, st, hs, ht, h⟩ := h
  refine ⟨f, r, st, hs, ht, (post.bind (R' := RD X.K) h).mono fun x H1 ⟨f1, d, st1, x1, t1, d1, h1⟩ => ?_⟩
  cases d1 with
  | bl k => exact ⟨k, rfl, post.now (show post X.K E (RD X.K) f1 H1 (.ok (.bl (!k)) st1) Q from h1) t1 (.bl _)⟩
  | _ => exact h1.elim
theorem pd_if {c : Expr} (hc : PT X c (rdT X.K E t)) (ha : PE X a (rd X.K E da)) (hb : PE X b (rd X.K E db)) : PE X (.IfExp c a b pos) (rd X.K E (dIf t da db)) := (pe_ifExp hc ha hb).mn fun s H Q h => by
  obtain ⟨f, r, st, hs, ht, h⟩ := h
  refine ⟨f, r, st, hs, ht, (post.bind (R' := RB) h).mono fun k H1 ⟨f1, d, st1, x1, t1, d1, h1⟩ => ?_⟩
  cases d1
  cases k with
  | true => exact iteT ⟨f1, r, st1, hs.up x1.toEx0, t1, h1⟩
  | false => exact iteF ⟨f1, r, st1, hs.up x1.toEx0, t1, h1⟩
end
def dNil : DA := fun _ st => .ok [] st
def dCons (a : DE) (b : DA) : DA := fun r st => (a r st).bind fun x st1 => (b r st1).bind fun l st2 => .ok (x :: l) st2
def oTup (l : List D) (st : Store) : Res D := if l.length ≤ sizeLine then .ok (.tup l) st else .err
def oLst (l : List D) (st : Store) : Res D := if l.length ≤ sizeLine then .ok (.ref st.length) (st ++ [.lst l]) else .err
def dL (g : List D → Store → Res D) (a : DA) : DE := fun r st => (a r st).bind g
section
variable {X : Cx} {E : XE} {pos : Pos} {e : Expr} {es : List Expr} {da : DE} {dl : DA}
theorem pda_nil : PA X [] (rdA X.K E dNil) := pa_nil.mn fun s H Q h => by
  obtain ⟨f, r, st, hs, ht, h⟩ := h
  exact post.now (show post X.K E (RDs X.K) f H (.ok [] st) Q from h) ht .nil
theorem rdA_cons {K : PySem.W.Frag} {s : L2.St} {H : Hp} {Q : List V → Hp → Prop} (h : rdA K E (dCons da dl) s H Q) : tCons (rd K E da) (rdA K E dl) s H Q := by
  obtain ⟨f, r, st, hs, ht, h⟩ := h
  refine ⟨f, r, st, hs, ht, (post.bind (R' := RD K) h).mono fun x H1 ⟨f1, d, st1, x1, t1, d1, h1⟩ => ?_⟩
  refine ⟨f1, r, st1, hs.up x1.toEx0, t1, (post.bind (R' := RDs K) h1).mono fun y H2 ⟨f2, l, st2, x2, t2, d2, h2⟩ => ?_⟩
  exact post.now (show post K E (RDs K) f2 H2 (.ok (d :: l) st2) Q from h2) t2 (.cons (d1.up x2.toEx0) d2)
theorem pda_cons (ha : PE X e (rd X.K E da)) (hr : PA X es (rdA X.K E dl)) (hs : starEach (e :: es) X.env = (false, eval e X.env) :: starEach es X.env := by rfl) : PA X (e :: es) (rdA X.K E (dCons da dl)) := (pa_cons ha hr hs).mn fun _ _ _ h => rdA_cons h
theorem pdk_nil : PK X [] (rdA X.K E dNil) := pk_nil.mn fun s H Q h => by
  obtain ⟨f, r, st, hs, ht, h⟩ := h
  exact post.now (show post X.K E (RDs X.K) f H (.ok [] st) Q from h) ht .nil
theorem pdk_cons {nm : Option Str} {kpos : Pos} {kws : List Keyword} (ha : PE X e (rd X.K E da)) (hr : PK X kws (rdA X.K E dl)) : PK X (⟨nm, e, kpos⟩ :: kws) (rdA X.K E (dCons da dl)) := (pk_cons ha hr).mn fun _ _ _ h => rdA_cons h
/-- a new tuple -/
theorem post_tup {K : PySem.W.Frag} {f : List Addr} {H : Hp} {st : Store} {l : List D} {vs : List V} {Q : VK} (t : RSt K f H st) (z : RDs K f H l vs) (h : post K E (RD K) f H (oTup l st) Q) : vs.length ≤ sizeLine ∧ ∀ p, H p = none → Q (.ref p) (upd H p (.tup vs)) := by
  unfold oTup at h
  by_cases hl : l.length ≤ sizeLine
  · rw [if_pos hl] at h
    refine ⟨z.length ▸ hl, fun p hp => ?_⟩
    have x : Ext f H f (upd H p (.tup vs)) := ext_new hp
    exact h f _ (.ref p) x (t.new hp) (.tup upd_same hl (z.up x.toEx0))
  · rw [if_neg hl] at h
    exact h.elim
theorem post_lst {K : PySem.W.Frag} {f : List Addr} {H : Hp} {st : Store} {l : List D} {vs : List V} {Q : VK} (t : RSt K f H st) (z : RDs K f H l vs) (h : post K E (RD K) f H (oLst l st) Q) : vs.length ≤ sizeLine ∧ ∀ p, H p = none → Q (.ref p) (upd H p (.lst vs)) := by
  unfold oLst at h
  by_cases hl : l.length ≤ sizeLine
  · rw [if_pos hl] at h
    refine ⟨z.length ▸ hl, fun p hp => ?_⟩
    have x : Ext f H (f ++ [p]) (upd H p (.lst vs)) := ext_put hp
    refine h (f ++ [p]) _ (.ref p) x (t.lay hp ⟨vs, upd_same, z.up x.toEx0, hl⟩) (.ref ?_)
    rw [← t.len]
    simp
  · rw [if_neg hl] at h
    exact h.elim
theorem pd_tup {k : Nat} (h : PA X es (rdA X.K E dl)) : PE X (.Tuple es k pos) (rd X.K E (dL oTup dl)) := (pe_tup h).mn fun s H Q h => by
  obtain ⟨f, r, st, hs, ht, h⟩ := h
  exact ⟨f, r, st, hs, ht, (post.bind (R' := RDs X.K) h).mono fun x H1 ⟨f1, d, st1, x1, t1, d1, h1⟩ => post_tup t1 d1 h1⟩
theorem pd_lst (h : PA X es (rdA X.K E dl)) : PE X (.List es pos) (rd X.K E (dL oLst dl)) := (pe_lst h).mn fun s H Q h => by
  obtain ⟨f, r, st, hs, ht, h⟩ := h
  exact ⟨f, r, st, hs, ht, (post.bind (R' := RDs X.K) h).mono fun x H1 ⟨f1, d, st1, x1, t1, d1, h1⟩ => post_lst t1 d1 h1⟩
end
end Pd
set_option maxRecDepth 100000
set_option maxHeartbeats 4000000
namespace Pd
open PySem PySem.Spec PyProof.Rows L2
def getL (st : Store) (n : Nat) : Option (List D) := match st[n]? with
  | some (.lst l) => some l
  | _ => none
theorem getL_some {st : Store} {n : Nat} {l : List D} (h : getL st n = some l) : st[n]? = some (.lst l) := by
  unfold getL at h
  split at h
  · rename_i e
    rw [e, Option.some.inj h]
  · cases h
def newL (l : List D) (st : Store) : Res D := .ok (.ref st.length) (st ++ [.lst l])
def oAdd : D → D → Store → Res D
  | .int i, .int j, st => .ok (.int (i + j)) st
  | .tup a, .tup b, st => if a.length + b.length ≤ sizeLine then .ok (.tup (a ++ b)) st else .err
  | .ref m, .ref n, st => match getL st m, getL st n with
    | some a, some b => if a.length + b.length ≤ sizeLine then newL (a ++ b) st else .err
    | _, _ => .err
  | .str a, .str b, st => if a.length + b.length ≤ sizeLine then .ok (.str (a ++ b)) st else .err
  | _, _, _ => .err
/-- a factor is below 2 ^ 64, or both together have less than 10 ^ 8 bits -/
def mulOk (i j : Int) : Bool := decide (i.natAbs.log2 + j.natAbs.log2 < 100000000) || (decide (-(2 ^ 64) < i) && decide (i < 2 ^ 64)) || (decide (-(2 ^ 64) < j) && decide (j < 2 ^ 64))
def repOk (n : Nat) (k : Int) : Bool := decide (-(2 ^ 63) ≤ k) && decide (k < 2 ^ 63) && decide (n * k.toNat ≤ sizeLine)
def oMul : D → D → Store → Res D
  | .int i, .int j, st => if mulOk i j = true then .ok (.int (i * j)) st else .err
  | .ref m, .int k, st => match getL st m with
    | some a => if repOk a.length k = true then newL (List.replicate k.toNat a).flatten st else .err
    | _ => .err
  | .tup a, .int k, st => if repOk a.length k = true then .ok (.tup (List.replicate k.toNat a).flatten) st else .err
  | _, _, _ => .err
def oFdiv : D → D → Store → Res D
  | .int i, .int j, st => if 0 < j ∧ j < 1073741824 then .ok (.int (i / j)) st else .err
  | _, _, _ => .err
def oMod : D → D → Store → Res D
  | .int i, .int j, st => if 0 < j then .ok (.int (i % j)) st else .err
  | _, _, _ => .err
def oPow : D → D → Store → Res D
  | .int i, .int j, st => if 0 ≤ j ∧ j ≤ 1000000 ∧ i.natAbs < 2 ^ 64 then .ok (.int (i ^ j.toNat)) st else .err
  | _, _, _ => .err
section
variable {K : PySem.W.Frag} {E : XE} {f : List Addr} {H : Hp} {st : Store} {Q : VK}
theorem RD.intv {i : Int} {v : V} (h : RD K f H (.int i) v) : v = .int i := by cases h; rfl
theorem RD.strv {i : Str} {v : V} (h : RD K f H (.str i) v) : v = .str i := by cases h; rfl
theorem RD.tupv {l : List D} {v : V} (h : RD K f H (.tup l) v) : ∃ a vs, v = .ref a ∧ H a = some (.tup vs) ∧ l.length ≤ sizeLine ∧ RDs K f H l vs := by cases h with | tup a b c => exact ⟨_, _, rfl, a, b, c⟩
theorem RD.xtv {l : List D} {v : V} (h : RD K f H (.xt l) v) : ∃ a vs, v = .ref a ∧ SqX H a vs ∧ l.length ≤ sizeLine ∧ RDs K f H l vs := by cases h with | xt a b c => exact ⟨_, _, rfl, a, b, c⟩
theorem RD.fzv {l : List D} {v : V} (h : RD K f H (.fz l) v) : ∃ a vs, v = .ref a ∧ SqF K H a vs ∧ l.length ≤ sizeLine ∧ RDs K f H l vs := by cases h with | fz a b c => exact ⟨_, _, rfl, a, b, c⟩
theorem RD.refv {n : Nat} {v : V} (h : RD K f H (.ref n) v) : ∃ a, v = .ref a ∧ f[n]? = some a := by cases h with | ref a => exact ⟨_, rfl, a⟩
/-- a list of the store at a value -/
theorem RD.lstv {n : Nat} {v : V} {l : List D} (t : RSt K f H st) (h : RD K f H (.ref n) v) (e : st[n]? = some (.lst l)) : ∃ a vs, v = .ref a ∧ f[n]? = some a ∧ H a = some (.lst vs) ∧ RDs K f H l vs ∧ l.length ≤ sizeLine := by
  obtain ⟨a, rfl, e2⟩ := h.refv
  obtain ⟨vs, x, y, z⟩ := t.at_ n _ a e e2
  exact ⟨a, vs, rfl, e2, x, y, z⟩
theorem RD.tup_new {l : List D} {vs : List V} {p : Addr} (t : RSt K f H st) (hp : H p = none) (z : RDs K f H l vs) (hl : l.length ≤ sizeLine) (h : post K E (RD K) f H (.ok (.tup l) st) Q) : Q (.ref p) (upd H p (.tup vs)) := by
  have x : Ext f H f (upd H p (.tup vs)) := ext_new hp
  exact h f _ (.ref p) x (t.new hp) (.tup upd_same hl (z.up x.toEx0))
theorem RD.lst_new {l : List D} {vs : List V} {p : Addr} (t : RSt K f H st) (hp : H p = none) (z : RDs K f H l vs) (hl : l.length ≤ sizeLine) (h : post K E (RD K) f H (newL l st) Q) : Q (.ref p) (upd H p (.lst vs)) := by
  have x : Ext f H (f ++ [p]) (upd H p (.lst vs)) := ext_put hp
  refine h (f ++ [p]) _ (.ref p) x (t.lay hp ⟨vs, upd_same, z.up x.toEx0, hl⟩) (.ref ?_)
  rw [← t.len]
  simp
theorem RDs.app {l l' : List D} {vs vs' : List V} (a : RDs K f H l vs) (b : RDs K f H l' vs') : RDs K f H (l ++ l') (vs ++ vs') := .of _ _ _ (Paired.app a.pr b.pr)
theorem RDs.rep {l : List D} {vs : List V} (a : RDs K f H l vs) : ∀ n, RDs K f H (List.replicate n l).flatten (List.replicate n vs).flatten
  | 0 => .nil
  | n + 1 => by
    rw [List.replicate_succ, List.replicate_succ, List.flatten_cons, List.flatten_cons]
    exact a.app (RDs.rep a n)
theorem RDs.nil_iff {l : List D} {vs : List V} (a : RDs K f H l vs) : l = [] ↔ vs = [] := by cases a <;> simp
end
section
variable {X : Cx} {E : XE}
/-- a rule for an operation of two data, by what the data are -/
theorem OpR.of {fn : Value → Value → Sem Value} {g : D → D → Store → Res D}
    (h : ∀ (pins : List (Addr × Obj)) (s : Shared) (sg : L2.St) (H : Hp) (f : List Addr) (st : Store) (d e : D) (x y : V) (v u : Value) (Q : VK), Inv X pins sg H s → RelV x v → RelV y u → RSt X.K f H st → RD X.K f H d x → RD X.K f H e y →
      post X.K E (RD X.K) f H (g d e st) Q → wpAny (model X.prog X.w) X.A (fn v u) (EP X pins sg Q) X.xe s) : OpR X fn (rO X.K E g) := fun pins s sg H x y v u Q I rx ry ⟨f, st, d, e, t, d1, d2, q⟩ => h pins s sg H f st d e x y v u Q I rx ry t d1 d2 q
theorem od_add : OpR X (binaryOp .Add) (rO X.K E oAdd) := OpR.of fun pins s sg H f st d e x y v u Q I rx ry t d1 d2 q => by
  cases d <;> cases e <;> first | exact q.elim | skip
  · rename_i i j
    exact op_add pins s sg H x y v u Q I rx ry ⟨i, j, d1.intv, d2.intv, q.now t (.int _)⟩
  · rename_i i j
    have q : post X.K E (RD X.K) f H (if i.length + j.length ≤ sizeLine then .ok (.str (i ++ j)) st else .err) Q := q
    by_cases hl : i.length + j.length ≤ sizeLine
    · rw [if_pos hl] at q
      exact op_add_str pins s sg H x y v u Q I rx ry ⟨i, j, d1.strv, d2.strv, hl, q.now t (.str _)⟩
    · rw [if_neg hl] at q
      exact q.elim
  · rename_i l m
    have q : post X.K E (RD X.K) f H (if l.length + m.length ≤ sizeLine then .ok (.tup (l ++ m)) st else .err) Q := q
    by_cases hl : l.length + m.length ≤ sizeLine
    · rw [if_pos hl] at q
      obtain ⟨a, vs, ex, ha, la, ra⟩ := d1.tupv
      obtain ⟨b, ws, ey, hb, lb, rb⟩ := d2.tupv
      refine op_catA pins s sg H x y v u Q I rx ry ⟨a, b, vs, ws, ex, ey, .of ha, .of hb, by rw [← ra.length, ← rb.length]; exact hl, fun e0 => ?_, fun _ e0 => ?_, fun _ _ p hp => ?_⟩
      · rw [ra.nil_iff.mpr e0] at q
        exact post.now q t (ey ▸ d2)
      · rw [rb.nil_iff.mpr e0, List.append_nil] at q
        exact post.now q t (ex ▸ d1)
      · exact RD.tup_new t hp (ra.app rb) (by rw [List.length_append]; exact hl) q
    · rw [if_neg hl] at q
      exact q.elim
  · rename_i m n
    unfold oAdd at q
    dsimp only at q
    split at q
    · rename_i l l' e1 e2
      by_cases hl : l.length + l'.length ≤ sizeLine
      · rw [if_pos hl] at q
        obtain ⟨a, vs, ex, fa, ha, ra, la⟩ := d1.lstv t (getL_some e1)
        obtain ⟨b, ws, ey, fb, hb, rb, lb⟩ := d2.lstv t (getL_some e2)
        exact op_cat pins s sg H x y v u Q I rx ry ⟨a, b, vs, ws, ex, ey, ha, hb, by rw [← ra.length, ← rb.length]; exact hl, fun p hp => RD.lst_new t hp (ra.app rb) (by rw [List.length_append]; exact hl) q⟩
      · rw [if_neg hl] at q
        exact q.elim
    · exact q.elim
theorem od_int {op : Operator} {g : Int → Int → Int} {C : Int → Int → Prop} {o : D → D → Store → Res D} (h : OpR X (binaryOp op) (rI C fun i j => .int (g i j)))
    (hb : ∀ d e st, (∃ i j, d = .int i ∧ e = .int j ∧ C i j ∧ o d e st = .ok (.int (g i j)) st) ∨ o d e st = .err) : OpR X (binaryOp op) (rO X.K E o) := OpR.of fun pins s sg H f st d e x y v u Q I rx ry t d1 d2 q => by
  rcases hb d e st with ⟨i, j, rfl, rfl, c, e1⟩ | e1
  · rw [e1] at q
    exact h pins s sg H x y v u Q I rx ry ⟨i, j, d1.intv, d2.intv, c, q.now t (.int _)⟩
  · rw [e1] at q
    exact q.elim
theorem od_fdiv : OpR X (binaryOp .FloorDiv) (rO X.K E oFdiv) := od_int op_fdiv fun d e st => by
  cases d <;> cases e <;> first | exact .inr rfl | skip
  rename_i i j
  by_cases h : 0 < j ∧ j < 1073741824
  · exact .inl ⟨i, j, rfl, rfl, h, if_pos h⟩
  · exact .inr (if_neg h)
theorem od_mod : OpR X (binaryOp .Mod) (rO X.K E oMod) := od_int op_mod fun d e st => by
  cases d <;> cases e <;> first | exact .inr rfl | skip
  rename_i i j
  by_cases h : 0 < j
  · exact .inl ⟨i, j, rfl, rfl, h, if_pos h⟩
  · exact .inr (if_neg h)
theorem od_pow : OpR X (binaryOp .Pow) (rO X.K E oPow) := od_int op_pow fun d e st => by
  cases d <;> cases e <;> first | exact .inr rfl | skip
  rename_i i j
  by_cases h : 0 ≤ j ∧ j ≤ 1000000 ∧ i.natAbs < 2 ^ 64
  · exact .inl ⟨i, j, rfl, rfl, h, if_pos h⟩
  · exact .inr (if_neg h)
theorem bits_log (x : Int) : Builtin.Int.intBits x ≤ x.natAbs.log2 + 1 := by
  simp only [Builtin.Int.intBits]
  split <;> omega
theorem mulOk_ok {i j : Int} (h : mulOk i j = true) : IntMulOk i j := by
  simp only [mulOk, Bool.or_eq_true, Bool.and_eq_true, decide_eq_true_eq] at h
  obtain ⟨h | h⟩ | h := h
  · have line : bitsLine = 134217728 := by decide
    have l := bits_log i
    have r := bits_log j
    simp only [IntMulOk, Builtin.Int.intTooBig, Bool.and_eq_true, decide_eq_true_eq, line, not_and, gt_iff_lt, Nat.not_lt]
    intros
    omega
  · exact CMul.ok (.inl h)
  · exact CMul.ok (.inr h)
theorem op_mulA : OpR X (binaryOp .Mult) (rI (fun i j => IntMulOk i j) fun i j => .int (i * j)) := opI fun _ _ _ _ _ _ _ hc q => mul_int q hc
end
end Pd
set_option maxRecDepth 100000
set_option maxHeartbeats 4000000
namespace Pd
open PySem PySem.Spec PyProof.Rows L2
/-- tuple * int where nothing is repeated: the tuple itself, or a new one without items -/
theorem tmul_low {l : Addr} {its : Array Value} {n : Nat} {dd : Option Addr} {sl : Array (Option Value)} {x : Int} {u : Tok} (fits : (decide (x < -(2 ^ 63)) || decide (x ≥ 2 ^ 63)) = false)
    (low : (its.isEmpty || x == 1) = false → (decide (x ≤ 0) || its.isEmpty) = true) :
    Meets (Builtin.«tuple.__mul__» ⟨[.ref l, .int x u], []⟩) (fun _ R s => s.heap.get? l = some { cls := .type "tuple", dict := dd, data := .seq its n, slots := sl } ∧
      if (its.isEmpty || x == 1) = true then R (.ok (.ret (.ref l))) s
      else R (.ok (.ret (.ref s.heap.objs.size))) { s with heap := s.heap.push { cls := .type "tuple", data := .seq #[] } }) := by
  refine .of_wp fun prog w A R ⟨hp, g, d, tk, os⟩ ⟨at_, post⟩ => ?_
  have ix := AutoSeq1.idx_int
  cases same : its.isEmpty || x == 1 with
  | true =>
    rw [if_pos same] at post
    wp_walk using wpAny_loadPart' at_
    simp only [fits, same, Bool.false_eq_true, if_true, if_false]
    wp_walk using wpAny_loadPart' at_
    exact ⟨_, rfl, post⟩
  | false =>
    rw [if_neg (by rw [same]; decide)] at post
    have none_ := low same
    wp_walk using wpAny_loadPart' at_
    simp only [fits, same, none_, Bool.false_eq_true, if_true, if_false]
    wp_walk using wpAny_loadPart' at_
    exact ⟨_, rfl, post⟩
section
variable {X : Cx}
/-- t * k for any k that fits -/
def rRepA (K : PySem.W.Frag) : R2 := fun x y H Q => ∃ l k xs, x = .ref l ∧ y = .int k ∧ H l = some (.tup xs) ∧ -(2 ^ 63) ≤ k ∧ k < 2 ^ 63 ∧ xs.length * k.toNat ≤ sizeLine ∧
  (((xs = [] ∨ k = 1) ∧ Q (.ref l) H) ∨ (¬ (xs = [] ∨ k = 1) ∧ ∀ p, H p = none → Q (.ref p) (upd H p (.tup (List.replicate k.toNat xs).flatten))))
theorem op_repA : OpR X (binaryOp .Mult) (rRepA X.K) := by
  intro pins s sg H x y v u Q I rx ry h
  obtain ⟨l, k, xs, rfl, rfl, hT, h1, h2, hz, q⟩ := h
  cases rx
  obtain ⟨t, rfl⟩ := ry
  obtain ⟨its, r, ⟨⟨cls, dd, data, sl⟩, ho, hc, n, hd⟩, hs⟩ := I.tuple (SqT.of hT)
  simp only at hc hd
  subst hc hd
  have hle : its.length = xs.length := r.length.symm
  have hi : its.toArray.isEmpty = decide (xs = []) := by
    cases its with
    | nil => cases xs with
      | nil => rfl
      | cons a b => cases hle
    | cons a b => cases xs with
      | nil => cases hle
      | cons a b => rfl
  have c0 : (decide (k < -(2 ^ 63)) || decide (k ≥ 2 ^ 63)) = false := by
    rw [decide_eq_false (by omega), decide_eq_false (by omega)] <;> rfl
  have go : ∀ {Q' : Value → Shared → Prop}, wpAny (model X.prog X.w) X.A (call (.builtin "tuple.__mul__") [.ref l, .int k t]) Q' X.xe s → wpAny (model X.prog X.w) X.A (binaryOp .Mult (.ref l) (.int k t)) Q' X.xe s := fun {Q'} hq =>
    wpAny_binaryOp_repeat_ref (T := "tuple") (U := "int") (by decide) ⟨_, ho, rfl⟩ (fun s' => typeIs_int s' k t) noFill_tuple_mul F.fills_int_mul F.slot_int_rmul repeat_tuple F.slot_int_index.lookup
      (call_meets F.slot_int_rmul (typeIs_int s k t) F.entry_int_rmul (F.args_int_rmul_2 _ _) (int_rmul_tuple k t l its.toArray n dd sl) ⟨ho, rfl, ⟨_, ho, rfl⟩, hq⟩)
  rcases q with ⟨c, q⟩ | ⟨c, q⟩
  · have one : (its.toArray.isEmpty || k == 1) = true := by
      rw [hi]
      rcases c with c | c
      · rw [decide_eq_true c]; rfl
      · rw [c]; simp
    exact go (call_meets F.slot_tuple_mul ⟨_, ho, rfl⟩ F.entry_tuple_mul (F.args_tuple_mul_2 _ _) (tmul_low c0 fun z => absurd (one.symm.trans z) (by decide)) ⟨ho, by rw [if_pos one]; exact ⟨.ref l, H, I, rfl, q⟩⟩)
  · have hx : xs ≠ [] := fun e => c (.inl e)
    have hk : k ≠ 1 := fun e => c (.inr e)
    have c1 : (its.toArray.isEmpty || k == 1) = false := by
      rw [hi, decide_eq_false hx, Bool.false_or]
      exact beq_eq_false_iff_ne.mpr hk
    have q0 := q s.heap.objs.size (I.hok.fresh (Nat.le_refl _))
    by_cases hk0 : k ≤ 0
    · refine go (call_meets F.slot_tuple_mul ⟨_, ho, rfl⟩ F.entry_tuple_mul (F.args_tuple_mul_2 _ _) (tmul_low c0 fun _ => by rw [decide_eq_true hk0]; rfl) ⟨ho, ?_⟩)
      rw [if_neg (by rw [c1]; decide)]
      have e0 : (List.replicate k.toNat xs).flatten = [] := by
        rw [show k.toNat = 0 by omega]
        rfl
      rw [e0] at q0
      exact ⟨.ref s.heap.objs.size, _, I.laid (t' := s.toks) (o := .tup []) (fun b ob q => Heap.get?_push_of_some _ q) (Nat.le_refl _) ⟨Nat.zero_le _, [], .nil, IsTup.new _ _⟩, rfl, q0⟩
    · have flen : (List.replicate k.toNat its).flatten.length = xs.length * k.toNat := by
        rw [PyProof.Rows.lm_len_rep_flat, hle, Nat.mul_comm]
      have hik : ((its.toArray.size : Nat) : Int) * k = ((xs.length * k.toNat : Nat) : Int) := by
        rw [List.size_toArray, hle, Int.natCast_mul, Int.toNat_of_nonneg (by omega)]
      have hz' : ((xs.length * k.toNat : Nat) : Int) ≤ 16777216 := by
        have := hz
        rw [sizeLine_eq] at this
        omega
      have c2 : (decide (k ≤ 0) || its.toArray.isEmpty) = false := by
        rw [hi, decide_eq_false hx, Bool.or_false]
        exact decide_eq_false hk0
      have c4 : Builtin.Tuple.tupleTooMany (((its.toArray.size : Nat) : Int) * k) = false := by
        unfold Builtin.Tuple.tupleTooMany
        rw [sizeLine_eq, hik]
        exact decide_eq_false (by omega)
      refine go (call_meets F.slot_tuple_mul ⟨_, ho, rfl⟩ F.entry_tuple_mul (F.args_tuple_mul_2 _ _) (tuple_mulW l its.toArray n dd sl k t c0 c1 c2 (by rw [hik]; omega) c4 (by rw [size_rep, List.size_toArray, flen]; exact hz)) ⟨ho, ?_⟩)
      rw [size_rep]
      refine ⟨.ref s.heap.objs.size, _, I.laid (t' := s.toks) (o := .tup (List.replicate k.toNat xs).flatten) (fun b ob q => Heap.get?_push_of_some _ q) (Nat.le_refl _) ?_, rfl, q0⟩
      exact ⟨by rw [PyProof.Rows.lm_len_rep_flat, Nat.mul_comm]; exact hz, _, r.rep k.toNat, IsTup.new _ _⟩
variable {E : XE}
theorem repOk_ok {n : Nat} {k : Int} (h : repOk n k = true) : -(2 ^ 63) ≤ k ∧ k < 2 ^ 63 ∧ n * k.toNat ≤ sizeLine := by
  unfold repOk at h
  simp only [Bool.and_eq_true, decide_eq_true_eq] at h
  exact ⟨h.1.1, h.1.2, h.2⟩
theorem flat_len {A : Type} (l : List A) : ∀ n, (List.replicate n l).flatten.length = l.length * n
  | 0 => rfl
  | n + 1 => by rw [List.replicate_succ, List.flatten_cons, List.length_append, flat_len l n, Nat.mul_succ, Nat.add_comm]
theorem od_mul : OpR X (binaryOp .Mult) (rO X.K E oMul) := OpR.of fun pins s sg H f st d e x y v u Q I rx ry t d1 d2 q => by
  cases d <;> cases e <;> first | exact q.elim | skip
  · rename_i i j
    unfold oMul at q
    dsimp only at q
    split at q
    · rename_i hm
      exact op_mulA pins s sg H x y v u Q I rx ry ⟨i, j, d1.intv, d2.intv, mulOk_ok hm, q.now t (.int _)⟩
    · exact q.elim
  · rename_i l k
    unfold oMul at q
    dsimp only at q
    split at q
    · rename_i hm
      obtain ⟨h1, h2, h3⟩ := repOk_ok hm
      obtain ⟨a, vs, ex, ha, la, ra⟩ := d1.tupv
      refine op_repA pins s sg H x y v u Q I rx ry ⟨a, k, vs, ex, d2.intv, ha, h1, h2, by rw [← ra.length]; exact h3, ?_⟩
      by_cases hc : vs = [] ∨ k = 1
      · refine .inl ⟨hc, ?_⟩
        have e1 : (List.replicate k.toNat l).flatten = l := by
          rcases hc with e0 | e0
          · rw [ra.nil_iff.mpr e0]
            simp
          · rw [e0]
            simp
        rw [e1] at q
        exact post.now q t (ex ▸ d1)
      · exact .inr ⟨hc, fun p hp => RD.tup_new t hp (ra.rep _) (by rw [flat_len]; exact h3) q⟩
    · exact q.elim
  · rename_i m k
    unfold oMul at q
    dsimp only at q
    split at q
    · rename_i l e1
      split at q
      · rename_i hm
        obtain ⟨h1, h2, h3⟩ := repOk_ok hm
        obtain ⟨a, vs, ex, fa, ha, ra, la⟩ := d1.lstv t (getL_some e1)
        exact op_rep pins s sg H x y v u Q I rx ry ⟨a, k, vs, ex, d2.intv, ha, h1, h2, by rw [← ra.length]; exact h3, fun p hp => RD.lst_new t hp (ra.rep _) (by rw [flat_len]; exact h3) q⟩
      · exact q.elim
    · exact q.elim
end
end Pd
set_option maxRecDepth 100000
set_option maxHeartbeats 4000000
namespace Pd
open PySem PySem.Spec PyProof.Rows L2
/-- a datum as plain data (lists of the store read out), to a depth -/
def toP (st : Store) : Nat → D → Option PyData
  | 0, _ => none
  | n + 1, d => match d with
    | .non => some .none
    | .bl b => some (.bool b)
    | .int i => some (.int i)
    | .str x => if (PyData.str x).canLay0 = true then some (.str x) else none
    | .tup l => (l.mapM (toP st n)).map .tuple
    | .fz l => (l.mapM (toP st n)).map .list
    | .xt l => (l.mapM (toP st n)).map .tuple
    | .ref k => match getL st k with
      | some l => (l.mapM (toP st n)).map .list
      | none => none
theorem mapM_cons {A B : Type} {g : A → Option B} {a : A} {l : List A} {r : List B} (h : (a :: l).mapM g = some r) : ∃ b r', g a = some b ∧ l.mapM g = some r' ∧ r = b :: r' := by
  rw [List.mapM_cons] at h
  cases e : g a with
  | none => rw [e] at h; cases h
  | some b =>
    cases e2 : l.mapM g with
    | none => rw [e, e2] at h; cases h
    | some r' =>
      rw [e, e2] at h
      exact ⟨b, r', rfl, rfl, (Option.some.inj h).symm⟩
section
variable {K : PySem.W.Frag} {f : List Addr} {H : Hp} {st : Store}
theorem toPs_dp {n : Nat} (ih : ∀ d v p, RD K f H d v → toP st n d = some p → Dp K H v p ∧ p.canLay0 = true ∧ p.depth ≤ n) : ∀ (l : List D) (vs : List V) (ps : List PyData), RDs K f H l vs → l.mapM (toP st n) = some ps → DpAll K H vs ps ∧ PyData.canLayAll0 ps = true ∧ PyData.depthAll ps ≤ n
  | [], _, ps, h, e => by
    cases h
    have e : ps = [] := (Option.some.inj (show some [] = some ps from e)).symm
    subst e
    exact ⟨.nil, rfl, Nat.zero_le _⟩
  | d :: l, _, ps, h, e => by
    cases h with
    | cons a b =>
      obtain ⟨p, r, e1, e2, rfl⟩ := mapM_cons e
      obtain ⟨x1, x2, x3⟩ := ih d _ p a e1
      obtain ⟨y1, y2, y3⟩ := toPs_dp ih l _ r b e2
      refine ⟨.cons x1 y1, by unfold PyData.canLayAll0; rw [x2, y2]; rfl, ?_⟩
      unfold PyData.depthAll
      exact Nat.max_le.mpr ⟨x3, y3⟩
theorem toP_dp (t : RSt K f H st) : ∀ (n : Nat) (d : D) (v : V) (p : PyData), RD K f H d v → toP st n d = some p → Dp K H v p ∧ p.canLay0 = true ∧ p.depth ≤ n
  | 0, d, v, p, _, e => by cases e
  | n + 1, d, v, p, h, e => by
    have ih := toP_dp t n
    have lists : ∀ {l : List D} {a : Addr} {vs : List V}, (l.mapM (toP st n)).map PyData.list = some p → SqL K H a vs → RDs K f H l vs → Dp K H (.ref a) p ∧ p.canLay0 = true ∧ p.depth ≤ n + 1 := fun {l a vs} e hs hr => by
      cases em : l.mapM (toP st n) with
      | none => rw [em] at e; cases e
      | some ps =>
        rw [em] at e
        have e := Option.some.inj e
        subst e
        obtain ⟨y1, y2, y3⟩ := toPs_dp ih l vs ps hr em
        exact ⟨.lst hs y1, y2, by unfold PyData.depth; omega⟩
    cases h with
    | non => have e := Option.some.inj (show some PyData.none = some p from e); subst e; exact ⟨.non, rfl, by unfold PyData.depth; omega⟩
    | bl b => have e := Option.some.inj (show some (PyData.bool b) = some p from e); subst e; exact ⟨.bl b, rfl, by unfold PyData.depth; omega⟩
    | int b => have e := Option.some.inj (show some (PyData.int b) = some p from e); subst e; exact ⟨.int b, rfl, by unfold PyData.depth; omega⟩
    | str x =>
      have e : (if (PyData.str x).canLay0 = true then some (PyData.str x) else none) = some p := e
      split at e
      · rename_i hc
        have e := Option.some.inj e
        subst e
        exact ⟨.str x, hc, by unfold PyData.depth; omega⟩
      · cases e
    | tup a b c =>
      rename_i ad vs l
      have e : (l.mapM (toP st n)).map PyData.tuple = some p := e
      cases em : l.mapM (toP st n) with
      | none => rw [em] at e; cases e
      | some ps =>
        rw [em] at e
        have e := Option.some.inj e
        subst e
        obtain ⟨y1, y2, y3⟩ := toPs_dp ih l vs ps c em
        exact ⟨.tup (.of a) y1, y2, by unfold PyData.depth; omega⟩
    | fz a b c => exact lists e a.sq c
    | xt a b c =>
      rename_i ad vs l
      have e : (l.mapM (toP st n)).map PyData.tuple = some p := e
      cases em : l.mapM (toP st n) with
      | none => rw [em] at e; cases e
      | some ps =>
        rw [em] at e
        have e := Option.some.inj e
        subst e
        obtain ⟨y1, y2, y3⟩ := toPs_dp ih l vs ps c em
        exact ⟨.tup a.sq y1, y2, by unfold PyData.depth; omega⟩
    | ref a =>
      rename_i k ad
      have e : (match getL st k with
        | some l => (l.mapM (toP st n)).map PyData.list
        | none => none) = some p := e
      split at e
      · rename_i l hl
        obtain ⟨ad', vs, ex, _, ha, hr, _⟩ := RD.lstv t (RD.ref a) (getL_some hl)
        cases ex
        exact lists e (.of ha) hr
      · cases e
end
def toP64 (st : Store) (d : D) : Option PyData := toP st 64 d
theorem shaped_of {p : PyData} (h : p.canLay0 = true) (d : p.depth ≤ 64) : SeqAt.shaped p = true := by
  unfold SeqAt.shaped
  rw [h, decide_eq_true d]
  rfl
def oEq (x y : D) (st : Store) : Res D := match toP64 st x, toP64 st y with
  | some p, some q => .ok (.bl (PyData.eqv p q)) st
  | _, _ => .err
def oNe (x y : D) (st : Store) : Res D := match toP64 st x, toP64 st y with
  | some p, some q => .ok (.bl (!PyData.eqv p q)) st
  | _, _ => .err
/-- is a dict's key -/
def keyOf : D → Option Key
  | .int i => some (.inl i)
  | .str x => some (.inr x)
  | _ => none
def keysOf : D → Option (List Key)
  | .tup l => l.mapM keyOf
  | _ => none
/-- what a dict holds at a key; a dict with a key put in -/
def valD {A : Type} [DecidableEq A] (kvs : List (A × D)) (k : A) : Option D := (kvs.find? fun kv => decide (kv.1 = k)).map (·.2)
def putD {A : Type} [DecidableEq A] (kvs : List (A × D)) (k : A) (v : D) : List (A × D) :=
  if (kvs.any fun kv => decide (kv.1 = k)) = true then kvs.map fun kv => if kv.1 = k then (kv.1, v) else kv else kvs ++ [(k, v)]
/-- what a dict of the store holds at a datum: none: no dict, or no key of its kind -/
def dGet (st : Store) (n : Nat) (x : D) : Option (Option D) := match st[n]? with
  | some (.dK kvs) => match keyOf x with
    | some k => some (valD kvs k)
    | none => none
  | some (.dT kvs) => match keysOf x with
    | some k => some (valD kvs k)
    | none => none
  | _ => none
def isIn (x y : D) (st : Store) : Option Bool := match y with
  | .ref n => match getL st n with
    | some _ => match toP64 st x, toP64 st y with
      | some p, some (.list ds) => some (ds.any fun z => PyData.eqv z p)
      | _, _ => none
    | none => match dGet st n x with
      | some o => some o.isSome
      | none => none
  | .fz _ => match toP64 st x, toP64 st y with
      | some p, some (.list ds) => some (ds.any fun z => PyData.eqv z p)
      | _, _ => none
  | .tup _ => match toP64 st x, toP64 st y with
      | some p, some (.tuple ds) => some (ds.any fun z => PyData.eqv z p)
      | _, _ => none
  | .xt _ => match toP64 st x, toP64 st y with
      | some p, some (.tuple ds) => some (ds.any fun z => PyData.eqv z p)
      | _, _ => none
  | _ => none
def oIn (x y : D) (st : Store) : Res D := match isIn x y st with
  | some b => .ok (.bl b) st
  | none => .err
def oNotIn (x y : D) (st : Store) : Res D := match isIn x y st with
  | some b => .ok (.bl (!b)) st
  | none => .err
def isNon : D → Bool
  | .non => true
  | _ => false
def oIsNot (x y : D) (st : Store) : Res D := if isNon y = true then .ok (.bl (!isNon x)) st else .err
section
variable {K : PySem.W.Frag} {f : List Addr} {H : Hp} {st : Store}
theorem RD.keyv {x : D} {v : V} {k : Key} (h : RD K f H x v) (e : keyOf x = some k) : v = kV k := by
  cases x <;> first | cases e | skip
  · rw [h.intv]; rfl
  · rw [h.strv]; rfl
theorem RD.keys_all : ∀ {l : List D} {vs : List V} {ks : List Key}, RDs K f H l vs → l.mapM keyOf = some ks → vs = ks.map kV
  | [], _, ks, h, e => by
    cases h
    have e : ks = [] := (Option.some.inj (show some [] = some ks from e)).symm
    subst e
    rfl
  | d :: l, _, ks, h, e => by
    cases h with
    | cons a b =>
      obtain ⟨k, r, e1, e2, rfl⟩ := mapM_cons e
      rw [a.keyv e1, RD.keys_all b e2]
      rfl
theorem RD.keysv {x : D} {v : V} {ks : List Key} (h : RD K f H x v) (e : keysOf x = some ks) : ∃ b, v = .ref b ∧ H b = some (.tup (ks.map kV)) := by
  cases x <;> first | cases e | skip
  obtain ⟨a, vs, rfl, ha, _, r⟩ := h.tupv
  exact ⟨a, rfl, by rw [← RD.keys_all r e]; exact ha⟩
theorem find_rel {A : Type} [DecidableEq A] {F : D → V → Prop} : ∀ {kvs : List (A × D)} {vs : List (A × V)}, Paired (fun p q => p.1 = q.1 ∧ F p.2 q.2) kvs vs → ∀ k, (valD kvs k = none ∧ valV vs k = none) ∨ ∃ d v, valD kvs k = some d ∧ valV vs k = some v ∧ F d v := by
  intro kvs vs h
  induction h with
  | nil => intro k; exact .inl ⟨rfl, rfl⟩
  | @cons a b l m hab t ih =>
    intro k
    by_cases e : a.1 = k
    · refine .inr ⟨a.2, b.2, ?_, valV_pos (hab.1 ▸ e), hab.2⟩
      simp [valD, List.find?_cons, e]
    · rw [valV_neg (hab.1 ▸ e), show valD (a :: l) k = valD l k by simp [valD, List.find?_cons, e]]
      exact ih k
theorem put_rel {A : Type} [DecidableEq A] {F : D → V → Prop} {kvs : List (A × D)} {vs : List (A × V)} (h : Paired (fun p q => p.1 = q.1 ∧ F p.2 q.2) kvs vs) {d : D} {v : V} (r : F d v) (k : A) : Paired (fun p q => p.1 = q.1 ∧ F p.2 q.2) (putD kvs k d) (putK vs k v) := by
  have ea : (kvs.any fun kv => decide (kv.1 = k)) = (vs.any fun kv => decide (kv.1 = k)) := by
    induction h with
    | nil => rfl
    | cons hab t ih => rw [List.any_cons, List.any_cons, ih, hab.1]
  unfold putD putK
  rw [ea]
  by_cases hc : (vs.any fun kv => decide (kv.1 = k)) = true
  · rw [if_pos hc, if_pos hc]
    clear ea hc
    induction h with
    | nil => exact .nil
    | @cons a b l m hab t ih =>
      refine .cons ?_ ih
      dsimp only
      by_cases e : a.1 = k
      · rw [if_pos e, if_pos (hab.1 ▸ e)]
        exact ⟨hab.1, r⟩
      · rw [if_neg e, if_neg (hab.1 ▸ e)]
        exact hab
  · rw [if_neg hc, if_neg hc]
    exact Paired.app h (.cons ⟨rfl, r⟩ .nil)
/-- a dict of the store asked -/
theorem dGet_ok (t : RSt K f H st) {n : Nat} {x : D} {o : Option D} {a : Addr} {y : V} (e : dGet st n x = some o) (fa : f[n]? = some a) (hy : RD K f H x y) : ∃ r, DGet H a y r ∧ ((o = none ∧ r = none) ∨ ∃ d v, o = some d ∧ r = some v ∧ RD K f H d v) := by
  unfold dGet at e
  split at e
  · rename_i kvs es
    split at e
    · rename_i k ek
      have e := Option.some.inj e
      obtain ⟨vs, hd, hr, _⟩ := t.at_ n _ a es fa
      rw [hy.keyv ek]
      refine ⟨valV vs k, .k hd, ?_⟩
      rcases find_rel hr k with ⟨z1, z2⟩ | ⟨d, v, z1, z2, z3⟩
      · exact .inl ⟨by rw [← e, z1], z2⟩
      · exact .inr ⟨d, v, by rw [← e, z1], z2, z3⟩
    · cases e
  · rename_i kvs es
    split at e
    · rename_i k ek
      have e := Option.some.inj e
      obtain ⟨vs, hd, hr, _⟩ := t.at_ n _ a es fa
      obtain ⟨b, rfl, hb⟩ := hy.keysv ek
      refine ⟨valV vs k, .t hd hb, ?_⟩
      rcases find_rel hr k with ⟨z1, z2⟩ | ⟨d, v, z1, z2, z3⟩
      · exact .inl ⟨by rw [← e, z1], z2⟩
      · exact .inr ⟨d, v, by rw [← e, z1], z2, z3⟩
    · cases e
  · cases e
theorem RD.non_iff {x : D} {v : V} (h : RD K f H x v) : decide (v = .non) = isNon x := by
  cases h <;> rfl
end
section
variable {X : Cx} {E : XE}
theorem od_eq (hu : X.A.units + 64 < cLine) : OpR X (compareOp .Eq) (rO X.K E oEq) := OpR.of fun pins s sg H f st d e x y v u Q I rx ry t d1 d2 q => by
  unfold oEq at q
  split at q
  · rename_i p p' e1 e2
    obtain ⟨a1, b1, c1⟩ := toP_dp t 64 d x p d1 e1
    obtain ⟨a2, b2, c2⟩ := toP_dp t 64 e y p' d2 e2
    exact op_eqD hu pins s sg H x y v u Q I rx ry ⟨p, p', a1, a2, shaped_of b1 c1, shaped_of b2 c2, q.now t (.bl _)⟩
  · exact q.elim
theorem od_ne (hu : X.A.units + 64 < cLine) : OpR X (compareOp .NotEq) (rO X.K E oNe) := OpR.of fun pins s sg H f st d e x y v u Q I rx ry t d1 d2 q => by
  unfold oNe at q
  split at q
  · rename_i p p' e1 e2
    obtain ⟨a1, b1, c1⟩ := toP_dp t 64 d x p d1 e1
    obtain ⟨a2, b2, c2⟩ := toP_dp t 64 e y p' d2 e2
    exact op_neD hu pins s sg H x y v u Q I rx ry ⟨p, p', a1, a2, shaped_of b1 c1, shaped_of b2 c2, q.now t (.bl _)⟩
  · exact q.elim
theorem od_isnot : OpR X (compareOp .IsNot) (rO X.K E oIsNot) := OpR.of fun pins s sg H f st d e x y v u Q I rx ry t d1 d2 q => by
  unfold oIsNot at q
  split at q
  · rename_i hn
    refine op_notN pins s sg H x y v u Q I rx ry ⟨?_, ?_⟩
    · cases e <;> first | cases hn | skip
      cases d2
      rfl
    · rw [d1.non_iff]
      exact q.now t (.bl _)
  · exact q.elim
/-- x in y, by a rule for each kind -/
theorem in_any {op : CmpOp} {g : Bool → Bool} (hu : X.A.units + 65 < cLine)
    (hL : OpR X (compareOp op) (fun x y H Q => ∃ d ds, Dp X.K H x d ∧ Dp X.K H y (.list ds) ∧ SeqAt.shaped d = true ∧ SeqAt.shaped (.list ds) = true ∧ Q (.bl (g (ds.any fun z => PyData.eqv z d))) H))
    (hT : OpR X (compareOp op) (fun x y H Q => ∃ d ds, Dp X.K H x d ∧ Dp X.K H y (.tuple ds) ∧ SeqAt.shaped d = true ∧ SeqAt.shaped (.tuple ds) = true ∧ Q (.bl (g (ds.any fun z => PyData.eqv z d))) H))
    (hD : OpR X (compareOp op) (fun x y H Q => ∃ a o, y = .ref a ∧ DGet H a x o ∧ Q (.bl (g o.isSome)) H)) : OpR X (compareOp op) (rO X.K E fun x y st => match isIn x y st with
      | some b => .ok (.bl (g b)) st
      | none => .err) := OpR.of fun pins s sg H f st d e x y v u Q I rx ry t d1 d2 q => by
  split at q
  · rename_i b eb
    have q := q.now t (.bl _)
    have lists : ∀ {p : PyData} {ds : List PyData}, toP64 st d = some p → toP64 st e = some (.list ds) → b = (ds.any fun z => PyData.eqv z p) → wpAny (model X.prog X.w) X.A (compareOp op v u) (EP X pins sg Q) X.xe s := fun {p ds} e1 e2 e3 => by
      obtain ⟨a1, b1, c1⟩ := toP_dp t 64 d x p d1 e1
      obtain ⟨a2, b2, c2⟩ := toP_dp t 64 e y _ d2 e2
      exact hL pins s sg H x y v u Q I rx ry ⟨p, ds, a1, a2, shaped_of b1 c1, shaped_of b2 c2, e3 ▸ q⟩
    unfold isIn at eb
    cases e with
    | ref n =>
      dsimp only at eb
      split at eb
      · split at eb
        · rename_i e1 e2
          exact lists e1 e2 (Option.some.inj eb).symm
        · cases eb
      · split at eb
        · rename_i o eo
          obtain ⟨a, rfl, fa⟩ := d2.refv
          obtain ⟨r, hr, hc⟩ := dGet_ok t eo fa d1
          refine hD pins s sg H x _ v u Q I rx ry ⟨a, r, rfl, hr, ?_⟩
          have er : r.isSome = b := by
            rw [← Option.some.inj eb]
            rcases hc with ⟨h1, h2⟩ | ⟨_, _, h1, h2, _⟩ <;> rw [h1, h2] <;> rfl
          rw [er]
          exact q
        · cases eb
    | fz l =>
      dsimp only at eb
      split at eb
      · rename_i e1 e2
        exact lists e1 e2 (Option.some.inj eb).symm
      · cases eb
    | tup l =>
      dsimp only at eb
      split at eb
      · rename_i p ds e1 e2
        obtain ⟨a1, b1, c1⟩ := toP_dp t 64 d x p d1 e1
        obtain ⟨a2, b2, c2⟩ := toP_dp t 64 _ y _ d2 e2
        exact hT pins s sg H x y v u Q I rx ry ⟨p, ds, a1, a2, shaped_of b1 c1, shaped_of b2 c2, Option.some.inj eb ▸ q⟩
      · cases eb
    | xt l =>
      dsimp only at eb
      split at eb
      · rename_i p ds e1 e2
        obtain ⟨a1, b1, c1⟩ := toP_dp t 64 d x p d1 e1
        obtain ⟨a2, b2, c2⟩ := toP_dp t 64 _ y _ d2 e2
        exact hT pins s sg H x y v u Q I rx ry ⟨p, ds, a1, a2, shaped_of b1 c1, shaped_of b2 c2, Option.some.inj eb ▸ q⟩
      · cases eb
    | _ => cases eb
  · exact q.elim
theorem od_in (hu : X.A.units + 65 < cLine) : OpR X (compareOp .In) (rO X.K E oIn) := by
  have h := in_any (E := E) (g := fun b => b) (X := X) (op := .In) hu (op_inD hu) ?_ ?_
  · exact h
  · intro pins s sg H x y v u Q I rx ry h
    obtain ⟨d, ds, hd, he, sd, se, q⟩ := h
    obtain ⟨as, r1⟩ := Dp.reads I d x v hd rx
    obtain ⟨bs, r2⟩ := Dp.reads I (.tuple ds) y u he ry
    exact SeqAt.in_tuple_reads r2 r1 (SeqAt.canLay_of_shaped se) (SeqAt.canLay_of_shaped sd) (room_in_shaped sd hu) ⟨.bl _, H, I, rfl, q⟩
  · intro pins s sg H x y v u Q I rx ry h
    obtain ⟨a, o, rfl, g, q⟩ := h
    cases ry
    exact d_in (by omega) I g rx fun s' I' => ⟨.bl _, H, I', rfl, q⟩
theorem od_notin (hu : X.A.units + 65 < cLine) : OpR X (compareOp .NotIn) (rO X.K E oNotIn) := by
  have h := in_any (E := E) (g := fun b => !b) (X := X) (op := .NotIn) hu (op_notInD hu) ?_ ?_
  · exact h
  · intro pins s sg H x y v u Q I rx ry h
    obtain ⟨d, ds, hd, he, sd, se, q⟩ := h
    obtain ⟨as, r1⟩ := Dp.reads I d x v hd rx
    obtain ⟨bs, r2⟩ := Dp.reads I (.tuple ds) y u he ry
    exact SeqAt.notIn_tuple_reads r2 r1 (SeqAt.canLay_of_shaped se) (SeqAt.canLay_of_shaped sd) (room_in_shaped sd hu) ⟨.bl _, H, I, rfl, q⟩
  · intro pins s sg H x y v u Q I rx ry h
    obtain ⟨a, o, rfl, g, q⟩ := h
    cases ry
    exact d_notIn (by omega) I g rx fun s' I' => ⟨.bl _, H, I', rfl, q⟩
end
def oCmp (g : Int → Int → Bool) : D → D → Store → Res D
  | .int i, .int j, st => .ok (.bl (g i j)) st
  | _, _, _ => .err
section
variable {X : Cx} {E : XE}
theorem od_cmpI {op : CmpOp} {g : Int → Int → Bool} (h : OpR X (compareOp op) (rI0 fun i j => .bl (g i j))) : OpR X (compareOp op) (rO X.K E (oCmp g)) := OpR.of fun pins s sg H f st d e x y v u Q I rx ry t d1 d2 q => by
  cases d <;> cases e <;> first | exact q.elim | skip
  rename_i i j
  exact h pins s sg H x y v u Q I rx ry ⟨i, j, d1.intv, d2.intv, q.now t (.bl _)⟩
abbrev gLt : Int → Int → Bool := fun i j => decide (i < j)
abbrev gLe : Int → Int → Bool := fun i j => decide (i ≤ j)
abbrev gGt : Int → Int → Bool := fun i j => decide (j < i)
abbrev gGe : Int → Int → Bool := fun i j => decide (j ≤ i)
theorem od_lt : OpR X (compareOp .Lt) (rO X.K E (oCmp gLt)) := od_cmpI op_lt
theorem od_le : OpR X (compareOp .LtE) (rO X.K E (oCmp gLe)) := od_cmpI op_le
theorem od_gt : OpR X (compareOp .Gt) (rO X.K E (oCmp gGt)) := od_cmpI op_gt
theorem od_ge : OpR X (compareOp .GtE) (rO X.K E (oCmp gGe)) := od_cmpI op_ge
end
/-- the items of a list or tuple -/
def seqOf (st : Store) : D → Option (List D)
  | .tup l => some l
  | .fz l => some l
  | .xt l => some l
  | .ref n => getL st n
  | _ => none
def isTup : D → Bool
  | .tup _ => true
  | .xt _ => true
  | _ => false
def isXt : D → Bool
  | .xt _ => true
  | _ => false
def ixSeq (x y : D) (st : Store) : Option D := match seqOf st x with
  | some l => match y with
    | .int i => atI l i
    | _ => none
  | none => none
def ixDic (x y : D) (st : Store) : Option D := match x with
  | .ref n => match dGet st n y with
    | some o => o
    | none => none
  | _ => none
def oIx (x y : D) (st : Store) : Res D := match ixSeq x y st with
  | some d => .ok d st
  | none => match ixDic x y st with
    | some d => .ok d st
    | none => .err
theorem seqOf_ok {K : PySem.W.Frag} {f : List Addr} {H : Hp} {st : Store} (t : RSt K f H st) {x : D} {l : List D} {v : V} (e : seqOf st x = some l) (h : RD K f H x v) : ∃ a vs, v = .ref a ∧ ((isTup x = false ∧ SqL K H a vs) ∨ (isTup x = true ∧ SqT K H a vs ∧ (isXt x = false → H a = some (.tup vs)))) ∧ RDs K f H l vs ∧ l.length ≤ sizeLine := by
  cases x <;> first | cases e | skip
  · obtain ⟨a, vs, rfl, ha, hl, r⟩ := h.tupv
    exact ⟨a, vs, rfl, .inr ⟨rfl, .of ha, fun _ => ha⟩, r, hl⟩
  · obtain ⟨a, vs, rfl, ha, hl, r⟩ := h.fzv
    exact ⟨a, vs, rfl, .inl ⟨rfl, ha.sq⟩, r, hl⟩
  · obtain ⟨a, vs, rfl, ha, hl, r⟩ := h.xtv
    exact ⟨a, vs, rfl, .inr ⟨rfl, ha.sq, fun z => by cases z⟩, r, hl⟩
  · obtain ⟨a, vs, rfl, _, ha, r, hl⟩ := RD.lstv t h (getL_some e)
    exact ⟨a, vs, rfl, .inl ⟨rfl, .of ha⟩, r, hl⟩
theorem atI_rel {K : PySem.W.Frag} {f : List Addr} {H : Hp} {l : List D} {vs : List V} {i : Int} {d : D} (r : RDs K f H l vs) (e : atI l i = some d) : ∃ v, atI vs i = some v ∧ RD K f H d v := by
  unfold atI at e ⊢
  rw [← r.length]
  cases q : ixN l.length i with
  | none => rw [q] at e; cases e
  | some j =>
    rw [q] at e
    obtain ⟨v, e1, e2⟩ := Paired.get' r.pr (show l[j]? = some d from e)
    exact ⟨v, e1, e2⟩
theorem PE.or' {X : Cx} {e : Expr} {t t' : TE} (h : PE X e t) (h' : PE X e t') : PE X e (fun s H Q => t s H Q ∨ t' s H Q) := ⟨fun pins s sg H Q I q => q.elim (h.run pins s sg H Q I) (h'.run pins s sg H Q I)⟩
section
variable {X : Cx} {E : XE} {pos : Pos} {a b : Expr} {da db : DE}
theorem pd_ix (hu : X.A.units + 1 < cLine) (ha : PE X a (rd X.K E da)) (hb : PE X b (rd X.K E db)) (hs : PlainIx b := by exact fun _ _ => rfl) (hs2 : NoSl b := by exact fun _ _ => rfl) : PE X (.Subscript a b pos) (rd X.K E (dBin oIx da db)) := by
  refine (PE.or' (pe_ix ix_seq ha hb hs) (pe_dget hu ha hb hs2)).mn fun s H Q h => ?_
  obtain ⟨f, r, st, hs, ht, h⟩ := h
  have h0 := h
  unfold dBin at h
  cases e1 : da r st with
  | err => rw [e1] at h; exact h.elim
  | exc e st1 => exact .inl ⟨f, r, st, hs, ht, by rw [e1] at h ⊢; exact h⟩
  | ok x st1 =>
    rw [e1] at h
    have h : post X.K E (RD X.K) f H ((db r st1).bind fun y st2 => oIx x y st2) Q := h
    cases e2 : db r st1 with
    | err => rw [e2] at h; exact h.elim
    | exc e st2 =>
      rw [e2] at h
      refine .inl ⟨f, r, st, hs, ht, ?_⟩
      rw [e1]
      exact fun f1 H1 vx x1 t1 d1 => ⟨f1, r, st1, hs.up x1.toEx0, t1, by rw [e2]; exact fun f2 H2 x2 t2 => h f2 H2 (x1.trans x2) t2⟩
    | ok y st2 =>
      rw [e2] at h
      have h : post X.K E (RD X.K) f H (oIx x y st2) Q := h
      unfold oIx at h
      cases q1 : ixSeq x y st2 with
      | some d =>
        rw [q1] at h
        have h5 : post X.K E (RD X.K) f H (.ok d st2) Q := h
        unfold ixSeq at q1
        cases es : seqOf st2 x with
        | none => rw [es] at q1; cases q1
        | some l =>
          rw [es] at q1
          obtain ⟨i, rfl⟩ : ∃ i, y = .int i := by
            cases y <;> first | cases q1 | exact ⟨_, rfl⟩
          have ed : atI l i = some d := q1
          refine .inl ⟨f, r, st, hs, ht, ?_⟩
          rw [e1]
          refine fun f1 H1 vx x1 t1 d1 => ⟨f1, r, st1, hs.up x1.toEx0, t1, ?_⟩
          rw [e2]
          refine fun f2 H2 vy x2 t2 d2 => ?_
          have d1 := d1.up x2.toEx0
          obtain ⟨p, vs, rfl, hk, hr, _⟩ := seqOf_ok t2 es d1
          obtain ⟨v, ev, dv⟩ := atI_rel hr ed
          have q := post.now (post.up h5 (x1.trans x2)) t2 dv
          rcases hk with ⟨_, hk⟩ | ⟨_, hk, _⟩
          · exact .inl ⟨p, vs, i, v, rfl, d2.intv, hk, ev, q⟩
          · exact .inr (.inl ⟨p, vs, i, v, rfl, d2.intv, hk, ev, q⟩)
      | none =>
        rw [q1] at h
        cases q2 : ixDic x y st2 with
        | none => simp only [q2] at h; exact h.elim
        | some d =>
          simp only [q2] at h
          have h5 : post X.K E (RD X.K) f H (.ok d st2) Q := h
          unfold ixDic at q2
          obtain ⟨n, rfl⟩ : ∃ n, x = .ref n := by
            cases x <;> first | cases q2 | exact ⟨_, rfl⟩
          dsimp only at q2
          cases ed : dGet st2 n y with
          | none => rw [ed] at q2; cases q2
          | some o =>
            rw [ed] at q2
            have q2 : o = some d := q2
            subst q2
            refine .inr ⟨f, r, st, hs, ht, ?_⟩
            rw [e1]
            refine fun f1 H1 vx x1 t1 d1 => ⟨f1, r, st1, hs.up x1.toEx0, t1, ?_⟩
            rw [e2]
            refine fun f2 H2 vy x2 t2 d2 => ?_
            have d1 := d1.up x2.toEx0
            obtain ⟨p, rfl, fa⟩ := d1.refv
            obtain ⟨o, hg, hc⟩ := dGet_ok t2 ed fa d2
            rcases hc with ⟨z, _⟩ | ⟨d', v, z1, z2, z3⟩
            · cases z
            · cases z1
              rw [z2] at hg
              exact ⟨p, v, rfl, hg, post.now (post.up h5 (x1.trans x2)) t2 z3⟩
end
end Pd
set_option maxRecDepth 100000
set_option maxHeartbeats 4000000
namespace Pd
open PySem PySem.Spec PyProof.Rows L2
def cutD (l : List D) (lo hi : Option Int) : List D := (l.drop (HT.sIx l.length 0 lo)).take (HT.sIx l.length l.length hi - HT.sIx l.length 0 lo)
def oSl (x : D) (lo hi : Option Int) (st : Store) : Res D := match seqOf st x with
  | some l => if isXt x = true then .err else if isTup x = true then .ok (.tup (cutD l lo hi)) st else newL (cutD l lo hi) st
  | none => .err
abbrev DP := Env' → Store → Res (Option Int)
def dNoP : DP := fun _ st => .ok none st
def asI : D → Store → Res (Option Int)
  | .int i, st => .ok (some i) st
  | _, _ => .err
def dP (e : DE) : DP := fun r st => (e r st).bind asI
def dSl (a : DE) (lo hi : DP) : DE := fun r st => (a r st).bind fun x st1 => (lo r st1).bind fun l st2 => (hi r st2).bind fun h st3 => oSl x l h st3
def rdP (K : PySem.W.Frag) (E : XE) (e : DP) : L2.St → Hp → (Option Int → Hp → Prop) → Prop := fun s H Q => ∃ f r st, RS K f H r s ∧ RSt K f H st ∧ post K E ROI f H (e r st) Q
section
variable {X : Cx} {E : XE} {pos p2 : Pos} {a : Expr} {lo hi : Option Expr} {e : Expr} {da de : DE} {dl dh : DP}
theorem _root_.L2.PO.mn {X : Cx} {e : Option Expr} {t t' : L2.St → Hp → (Option Int → Hp → Prop) → Prop} (h : PO X e t) (i : ∀ s H Q, t' s H Q → t s H Q) : PO X e t' := ⟨fun pins s sg H Q I q => h.run pins s sg H Q I (i _ _ _ q)⟩
theorem pdp_none : PO X none (rdP X.K E dNoP) := po_none.mn fun s H Q h => by
  obtain ⟨f, r, st, hs, ht, h⟩ := h
  exact post.now (show post X.K E ROI f H (.ok none st) Q from h) ht rfl
theorem pdp_some (h : PE X e (rd X.K E de)) : PO X (some e) (rdP X.K E (dP de)) := (po_some h).mn fun s H Q h => by
  obtain ⟨f, r, st, hs, ht, h⟩ := h
  refine ⟨f, r, st, hs, ht, (post.bind (R' := RD X.K) h).mono fun x H1 ⟨f1, d, st1, x1, t1, d1, h1⟩ => ?_⟩
  obtain ⟨i, rfl⟩ : ∃ i, d = .int i := by
    cases d <;> first | exact h1.elim | exact ⟨_, rfl⟩
  exact ⟨i, d1.intv, post.now (show post X.K E ROI f1 H1 (.ok (some i) st1) Q from h1) t1 rfl⟩
theorem cut_rel {K : PySem.W.Frag} {f : List Addr} {H : Hp} {l : List D} {vs : List V} (r : RDs K f H l vs) (lo hi : Option Int) : RDs K f H (cutD l lo hi) (cutV vs lo hi) := by
  unfold cutD cutV
  rw [← r.length]
  exact .of _ _ _ (Paired.tk (Paired.dr r.pr _) _)
theorem cutD_length (l : List D) (lo hi : Option Int) : (cutD l lo hi).length ≤ l.length := by
  unfold cutD
  rw [List.length_take, List.length_drop]
  omega
theorem sld_any : SlR X (fun x lo hi H Q => ∃ f st d, RSt X.K f H st ∧ RD X.K f H d x ∧ post X.K E (RD X.K) f H (oSl d lo hi st) Q) := by
  refine SlR.mn (sl_list.or sl_tupA) fun x lo hi H Q ⟨f, st, d, t, d1, q⟩ => ?_
  unfold oSl at q
  split at q
  · rename_i l es
    obtain ⟨p, vs, rfl, hk, hr, hl⟩ := seqOf_ok t es d1
    split at q
    · exact q.elim
    rename_i nx
    have hz : (cutD l lo hi).length ≤ sizeLine := Nat.le_trans (cutD_length l lo hi) hl
    rcases hk with ⟨e1, hk⟩ | ⟨e1, _, hk⟩
    · rw [e1, if_neg (by decide)] at q
      exact .inl ⟨p, vs, rfl, hk, fun n hn => RD.lst_new t hn (cut_rel hr lo hi) hz q⟩
    · have hk := hk (by simpa using nx)
      rw [e1, if_pos rfl] at q
      refine .inr ⟨p, vs, rfl, .of hk, fun hw => ?_, fun _ n hn => RD.tup_new t hn (cut_rel hr lo hi) hz q⟩
      have e2 : cutD l lo hi = l := by
        unfold cutD
        rw [hr.length, hw.1, hw.2, List.drop_zero, Nat.sub_zero, ← hr.length, List.take_length]
      rw [e2] at q
      exact post.now q t (.tup hk hl hr)
  · exact q.elim
theorem pd_slice (ha : PE X a (rd X.K E da)) (hl : PO X lo (rdP X.K E dl)) (hh : PO X hi (rdP X.K E dh)) : PE X (.Subscript a (.Slice lo hi none p2) pos) (rd X.K E (dSl da dl dh)) := (pe_slice sld_any ha hl hh).mn fun s H Q h => by
  obtain ⟨f, r, st, hs, ht, h⟩ := h
  refine ⟨f, r, st, hs, ht, (post.bind (R' := RD X.K) h).mono fun x H1 ⟨f1, d, st1, x1, t1, d1, h1⟩ => ?_⟩
  have hs1 := hs.up x1.toEx0
  refine ⟨f1, r, st1, hs1, t1, (post.bind (R' := ROI) h1).mono fun l H2 ⟨f2, l', st2, x2, t2, d2, h2⟩ => ?_⟩
  cases d2
  refine ⟨f2, r, st2, hs1.up x2.toEx0, t2, (post.bind (R' := ROI) h2).mono fun u H3 ⟨f3, u', st3, x3, t3, d3, h3⟩ => ?_⟩
  cases d3
  exact ⟨f3, st3, d, t3, (d1.up x2.toEx0).up x3.toEx0, h3⟩
end
def postS (K : PySem.W.Frag) (E : XE) (f : List Addr) (H : Hp) (o : Out) (D : Ends) : Prop := match o with
  | .nx r st => ∀ f' H' s', Ext f H f' H' → RSt K f' H' st → RS K f' H' r s' → D.nx s' H'
  | .bk r st => ∀ f' H' s', Ext f H f' H' → RSt K f' H' st → RS K f' H' r s' → D.bk s' H'
  | .ct r st => ∀ f' H' s', Ext f H f' H' → RSt K f' H' st → RS K f' H' r s' → D.ct s' H'
  | .rt d st => ∀ f' H' v, Ext f H f' H' → RSt K f' H' st → RD K f' H' d v → D.rt v H'
  | .exc e st => ∀ f' H', Ext f H f' H' → RSt K f' H' st → E e f' H'
  | .err => False
def rdS (K : PySem.W.Frag) (E : XE) (c : DS) : TS := fun D s H => ∃ f r st, RS K f H r s ∧ RSt K f H st ∧ postS K E f H (c r st) D
@[inline] def Res.out {A : Type} (r : Res A) (k : A → Store → Out) : Out := match r with
  | .ok a st => k a st
  | .exc e st => .exc e st
  | .err => .err
section
variable {K : PySem.W.Frag} {E : XE} {A B : Type} {R : List Addr → Hp → A → B → Prop} {f f1 : List Addr} {H H1 : Hp} {D D' : Ends} {o : Out}
theorem postS.up (h : postS K E f H o D) (x : Ext f H f1 H1) : postS K E f1 H1 o D := by
  cases o with
  | nx r st => exact fun f' H' s' y => h f' H' s' (x.trans y)
  | bk r st => exact fun f' H' s' y => h f' H' s' (x.trans y)
  | ct r st => exact fun f' H' s' y => h f' H' s' (x.trans y)
  | rt r st => exact fun f' H' s' y => h f' H' s' (x.trans y)
  | exc e st => exact fun f' H' y => h f' H' (x.trans y)
  | err => exact h
theorem postS.bind {r : Res A} {k : A → Store → Out} (h : postS K E f H (r.out k) D) : post K E R f H r fun b H1 => ∃ f1 a st1, Ext f H f1 H1 ∧ RSt K f1 H1 st1 ∧ R f1 H1 a b ∧ postS K E f1 H1 (k a st1) D := by
  cases r with
  | ok a st => exact fun f' H' b x y z => ⟨f', a, st, x, y, z, postS.up (show postS K E f H (k a st) D from h) x⟩
  | exc e st => exact h
  | err => exact h
theorem postS.nx {r : Env'} {st : Store} {s : L2.St} (h : postS K E f H (.nx r st) D) (t : RSt K f H st) (z : RS K f H r s) : D.nx s H := h f H s .refl t z
end
def dNext : DS := fun r st => .nx r st
def dSeq (a b : DS) : DS := fun r st => match a r st with
  | .nx r1 st1 => b r1 st1
  | o => o
def dExpr (e : DE) : DS := fun r st => (e r st).out fun _ st1 => .nx r st1
def dRet (e : DE) : DS := fun r st => (e r st).out fun d st1 => .rt d st1
def dIfS (t : DT) (a b : DS) : DS := fun r st => (t r st).out fun c st1 => if c = true then a r st1 else b r st1
def dSet (i : Nat) (e : DE) : DS := fun r st => (e r st).out fun d st1 => .nx (r.set i (some d)) st1
section
variable {X : Cx} {E : XE} {pos : Pos} {e : Expr} {de : DE} {st : Stmt} {rest : List Stmt} {c c' : DS} {t : DT}
theorem RS.set {K : PySem.W.Frag} {f : List Addr} {H : Hp} {r : Env'} {s : L2.St} {d : D} {v : V} (h : RS K f H r s) (i : Nat) (z : RD K f H d v) : RS K f H (r.set i (some d)) (s.set i (some v)) := by
  refine ⟨by rw [List.length_set, List.length_set]; exact h.len, fun j d' e => ?_⟩
  by_cases hj : i = j
  · subst hj
    by_cases hi : i < r.length
    · rw [List.getElem?_set_self hi] at e
      cases e
      rw [h.len] at hi
      exact ⟨v, List.getElem?_set_self hi, z⟩
    · rw [List.getElem?_eq_none (by rw [List.length_set]; omega)] at e
      cases e
  · rw [List.getElem?_set_ne hj] at e ⊢
    exact h.at_ j d' e
theorem RS.unset {K : PySem.W.Frag} {f : List Addr} {H : Hp} {r : Env'} {s : L2.St} (h : RS K f H r s) (i : Nat) : RS K f H (r.set i none) (s.set i none) := by
  refine ⟨by rw [List.length_set, List.length_set]; exact h.len, fun j d' e => ?_⟩
  by_cases hj : i = j
  · subst hj
    by_cases hi : i < r.length
    · rw [List.getElem?_set_self hi] at e
      cases e
    · rw [List.getElem?_eq_none (by rw [List.length_set]; omega)] at e
      cases e
  · rw [List.getElem?_set_ne hj] at e ⊢
    exact h.at_ j d' e
theorem pdss_nil : PSs X [] (rdS X.K E dNext) := pss_nil.mn fun D s H h => by
  obtain ⟨f, r, st, hs, ht, h⟩ := h
  exact postS.nx h ht hs
theorem pdss_one (h : PS X st (rdS X.K E c)) : PSs X [st] (rdS X.K E c) := pss_one h
theorem pdss_cons (h1 : PS X st (rdS X.K E c)) (h2 : PSs X rest (rdS X.K E c')) : PSs X (st :: rest) (rdS X.K E (dSeq c c')) := (pss_cons h1 h2).mn fun D s H h => by
  obtain ⟨f, r, st, hs, ht, h⟩ := h
  refine ⟨f, r, st, hs, ht, ?_⟩
  unfold dSeq at h
  cases e : c r st with
  | nx r1 st1 =>
    rw [e] at h
    exact fun f' H' s' x t1 hs1 => ⟨f', r1, st1, hs1, t1, postS.up h x⟩
  | bk r1 st1 => rw [e] at h; exact h
  | ct r1 st1 => rw [e] at h; exact h
  | rt r1 st1 => rw [e] at h; exact h
  | exc r1 st1 => rw [e] at h; exact h
  | err => rw [e] at h; exact h
theorem pds_expr (he : PE X e (rd X.K E de)) (hs : swapsWith e none pos.line X.env = pure false := by rfl) : PS X (.Expr e pos) (rdS X.K E (dExpr de)) := (ps_expr he hs).mn fun D s H h => by
  obtain ⟨f, r, st, hs, ht, h⟩ := h
  refine ⟨f, r, st, hs, ht, (postS.bind (R := RD X.K) h).mono fun x H1 ⟨f1, d, st1, x1, t1, d1, h1⟩ => postS.nx h1 t1 (hs.up x1.toEx0)⟩
theorem pds_ret (he : PE X e (rd X.K E de)) : PS X (.Return (some e) pos) (rdS X.K E (dRet de)) := (ps_ret he).mn fun D s H h => by
  obtain ⟨f, r, st, hs, ht, h⟩ := h
  refine ⟨f, r, st, hs, ht, (postS.bind (R := RD X.K) h).mono fun x H1 ⟨f1, d, st1, x1, t1, d1, h1⟩ => h1 f1 H1 x .refl t1 d1⟩
theorem pds_if {ce : Expr} {a b : List Stmt} (hc : PT X ce (rdT X.K E t)) (ha : PSs X a (rdS X.K E c)) (hb : PSs X b (rdS X.K E c')) : PS X (.If ce a b pos) (rdS X.K E (dIfS t c c')) := (ps_if hc ha hb).mn fun D s H h => by
  obtain ⟨f, r, st, hs, ht, h⟩ := h
  refine ⟨f, r, st, hs, ht, (postS.bind (R := RB) h).mono fun k H1 ⟨f1, d, st1, x1, t1, d1, h1⟩ => ?_⟩
  cases d1
  cases k with
  | true => exact iteT ⟨f1, r, st1, hs.up x1.toEx0, t1, h1⟩
  | false => exact iteF ⟨f1, r, st1, hs.up x1.toEx0, t1, h1⟩
theorem rdS_set {K : PySem.W.Frag} {i : Nat} {D : Ends} {s : L2.St} {H : Hp} (h : rdS K E (dSet i de) D s H) : tAsg (rd K E de) (gName i) D s H := by
  obtain ⟨f, r, st, hs, ht, h⟩ := h
  exact ⟨f, r, st, hs, ht, (postS.bind (R := RD K) h).mono fun x H1 ⟨f1, d, st1, x1, t1, d1, h1⟩ => postS.nx h1 t1 ((hs.up x1.toEx0).set i d1)⟩
theorem pds_set (i : Nat) {x : Str} {pos' : Pos} (hN : X.N.Nodup) (he : PE X e (rd X.K E de)) (hi : X.N[i]? = some x := by rfl) (hx : Loc X.env.scope x := by first | exact Or.inl rfl | exact Or.inr rfl) (hs : swapsWith e (some (.Name x pos')) pos.line X.env = pure false := by rfl)
    (hf : X.fn x = true ∨ X.env.scope.names.lookup x = some .local := by first | exact .inl rfl | exact .inr rfl) : PS X (.Assign [.Name x pos'] e pos) (rdS X.K E (dSet i de)) := (ps_set hN hi hx he hs hf).mn fun _ _ _ h => rdS_set h
end
abbrev DG := D → Env' → Option Env'
/-- a target's reading does what g does to the slots, at the places sl alone -/
def GOk (K : PySem.W.Frag) (t : TG) (g : DG) (sl : List Nat) : Prop := ∀ (f : List Addr) (H : Hp) (r r' : Env') (s : L2.St) (d : D) (v : V) (Q : L2.St → Hp → Prop), RS K f H r s → RD K f H d v → g d r = some r' →
  (∀ s', RS K f H r' s' → (∀ vs : List Nat, (∀ i ∈ sl, i ∈ vs) → wipe s' vs = wipe s vs) → Q s' H) → t v s H Q
def GsOk (K : PySem.W.Frag) (t : TGs) (g : List D → Env' → Option Env') (sl : List Nat) : Prop := ∀ (f : List Addr) (H : Hp) (r r' : Env') (s : L2.St) (d : List D) (v : List V) (Q : L2.St → Hp → Prop), RS K f H r s → RDs K f H d v → g d r = some r' →
  (∀ s', RS K f H r' s' → (∀ vs : List Nat, (∀ i ∈ sl, i ∈ vs) → wipe s' vs = wipe s vs) → Q s' H) → t v s H Q
def nNm (i : Nat) : DG := fun d r => some (r.set i (some d))
def nsNil : List D → Env' → Option Env' := fun l r => match l with
  | [] => some r
  | _ => none
def nsCons (g : DG) (gs : List D → Env' → Option Env') : List D → Env' → Option Env' := fun l r => match l with
  | d :: l => match g d r with
    | some r1 => gs l r1
    | none => none
  | [] => none
def nTp (gs : List D → Env' → Option Env') : DG := fun d r => match d with
  | .tup l => gs l r
  | _ => none
theorem wipe_set {s : L2.St} {i : Nat} {x : Option V} : ∀ {vs : List Nat}, i ∈ vs → wipe (s.set i x) vs = wipe s vs
  | v :: vs, h => by
    show (wipe (s.set i x) vs).set v none = (wipe s vs).set v none
    by_cases hm : i ∈ vs
    · rw [wipe_set hm]
    · rcases List.mem_cons.mp h with rfl | h
      · have go : ∀ {ws : List Nat}, i ∉ ws → wipe (s.set i x) ws = (wipe s ws).set i x := by
          intro ws
          induction ws with
          | nil => intro _; rfl
          | cons w ws ih =>
            intro hn
            show (wipe (s.set i x) ws).set w none = ((wipe s ws).set w none).set i x
            rw [ih fun z => hn (List.mem_cons_of_mem _ z), List.set_comm _ _ (fun e => hn (by rw [e]; exact List.mem_cons_self))]
        rw [go hm, List.set_set]
      · exact absurd h hm
section
variable {K : PySem.W.Frag}
theorem gok_nm (i : Nat) : GOk K (gName i) (nNm i) [i] := fun f H r r' s d v Q hs hd e h => by
  have e := Option.some.inj e
  subst e
  exact h _ (hs.set i hd) fun vs hv => wipe_set (hv i (List.mem_singleton.mpr rfl))
theorem gsok_nil : GsOk K gNil nsNil [] := fun f H r r' s d v Q hs hd e h => by
  cases hd with
  | nil =>
    have e := Option.some.inj (show some r = some r' from e)
    subst e
    exact ⟨rfl, h s hs fun _ _ => rfl⟩
  | cons a b => cases e
theorem gsok_cons {t : TG} {g : DG} {sl sl' : List Nat} {ts : TGs} {gs : List D → Env' → Option Env'} (h1 : GOk K t g sl) (h2 : GsOk K ts gs sl') : GsOk K (gCons t ts) (nsCons g gs) (sl ++ sl') := fun f H r r' s d v Q hs hd e h => by
  cases hd with
  | nil => cases e
  | cons a b =>
    rename_i d v l vs
    have e : (match g d r with
      | some r1 => gs l r1
      | none => none) = some r' := e
    cases e1 : g d r with
    | none => rw [e1] at e; cases e
    | some r1 =>
      rw [e1] at e
      refine ⟨v, vs, rfl, h1 f H r r1 s d v _ hs a e1 fun s1 hs1 w1 => h2 f H r1 r' s1 l vs Q hs1 b e fun s2 hs2 w2 => h s2 hs2 fun ws hw => ?_⟩
      rw [w2 ws fun i hi => hw i (List.mem_append_right _ hi), w1 ws fun i hi => hw i (List.mem_append_left _ hi)]
theorem gsok_len {ts : TGs} {gs : List D → Env' → Option Env'} {n : Nat} (hn : ∀ l r r', gs l r = some r' → l.length = n) {sl : List Nat} (h : GsOk K ts gs sl) : GOk K (gTup K n ts) (nTp gs) sl := fun f H r r' s d v Q hs hd e h' => by
  cases d <;> first | cases e | skip
  rename_i l
  obtain ⟨a, vs, rfl, ha, _, hr⟩ := hd.tupv
  exact ⟨a, vs, rfl, .of ha, by rw [← hr.length]; exact hn l r r' e, h f H r r' s l vs Q hs hr e h'⟩
theorem nsNil_len (l : List D) (r r' : Env') (h : nsNil l r = some r') : l.length = 0 := by
  cases l with
  | nil => rfl
  | cons a b => cases h
theorem nsCons_len {g : DG} {gs : List D → Env' → Option Env'} {n : Nat} (hn : ∀ l r r', gs l r = some r' → l.length = n) (l : List D) (r r' : Env') (h : nsCons g gs l r = some r') : l.length = n + 1 := by
  cases l with
  | nil => cases h
  | cons a b =>
    unfold nsCons at h
    dsimp only at h
    split at h
    · rw [List.length_cons, hn _ _ _ h]
    · cases h
/-- a, b and a, b, c -/
theorem gok_t2 {t1 t2 : TG} {g1 g2 : DG} {l1 l2 : List Nat} (h1 : GOk K t1 g1 l1) (h2 : GOk K t2 g2 l2) : GOk K (gTup K 2 (gCons t1 (gCons t2 gNil))) (nTp (nsCons g1 (nsCons g2 nsNil))) (l1 ++ (l2 ++ [])) :=
  gsok_len (nsCons_len (nsCons_len nsNil_len)) (gsok_cons h1 (gsok_cons h2 gsok_nil))
theorem gok_t3 {t1 t2 t3 : TG} {g1 g2 g3 : DG} {l1 l2 l3 : List Nat} (h1 : GOk K t1 g1 l1) (h2 : GOk K t2 g2 l2) (h3 : GOk K t3 g3 l3) : GOk K (gTup K 3 (gCons t1 (gCons t2 (gCons t3 gNil)))) (nTp (nsCons g1 (nsCons g2 (nsCons g3 nsNil)))) (l1 ++ (l2 ++ (l3 ++ []))) :=
  gsok_len (nsCons_len (nsCons_len (nsCons_len nsNil_len))) (gsok_cons h1 (gsok_cons h2 (gsok_cons h3 gsok_nil)))
end
/-- target = e, the target of slots alone -/
def dAsg (g : DG) (e : DE) : DS := fun r st => (e r st).out fun d st1 => match g d r with
  | some r1 => .nx r1 st1
  | none => .err
section
variable {X : Cx} {E : XE} {pos : Pos} {e tg : Expr} {de : DE}
theorem pds_asg {t : TG} {g : DG} {sl : List Nat} (ok : GOk X.K t g sl) (hg : PG X tg t) (he : PE X e (rd X.K E de)) (hs : swapsWithSole [tg] e pos.line X.env = pure false := by rfl) (hw : swappedStores [tg] e X.env = pure none := by rfl)
    (h1 : (assignEach [tg] X.env).map (·.2) = [assign tg X.env] := by rfl) : PS X (.Assign [tg] e pos) (rdS X.K E (dAsg g de)) := (ps_asg he hg hs hw h1).mn fun D s H h => by
  obtain ⟨f, r, st, hs, ht, h⟩ := h
  refine ⟨f, r, st, hs, ht, (postS.bind (R := RD X.K) h).mono fun x H1 ⟨f1, d, st1, x1, t1, d1, h1⟩ => ?_⟩
  split at h1
  · rename_i r1 e1
    exact ok f1 H1 r r1 s d x D.nx (hs.up x1.toEx0) d1 e1 fun s' hs' _ => postS.nx h1 t1 hs'
  · exact h1.elim
/-- a, b = x, y: two local names -/
def dPar (i j : Nat) (a b : DE) : DS := fun r st => (a r st).out fun x st1 => (b r st1).out fun y st2 => .nx ((r.set i (some x)).set j (some y)) st2
theorem pds_par (i j : Nat) {x y : Str} {a b : Expr} {da db : DE} {px py pt : Pos} {kt k2 : Nat} {pt2 : Pos} (hc : X.calm = true) (hN : X.N.Nodup) (ha : PE X a (rd X.K E da)) (hb : PE X b (rd X.K E db)) (hi : X.N[i]? = some x := by rfl) (hj : X.N[j]? = some y := by rfl) (hij : i ≠ j := by decide)
    (hx : X.env.scope.names.lookup x = some .local := by rfl) (hy : X.env.scope.names.lookup y = some .local := by rfl) (na : starEach [a, b] X.env = (false, eval a X.env) :: starEach [b] X.env := by rfl) (nb : starEach [b] X.env = (false, eval b X.env) :: starEach [] X.env := by rfl)
    (hw : swappedStores [.Tuple [.Name x px, .Name y py] kt pt] (.Tuple [a, b] k2 pt2) X.env = pure (some [x, y]) := by rfl)
    (hs : swapsWithSole [.Tuple [.Name x px, .Name y py] kt pt] (.Tuple [a, b] k2 pt2) pos.line X.env = pure false := by rfl) :
    PS X (.Assign [.Tuple [.Name x px, .Name y py] kt pt] (.Tuple [a, b] k2 pt2) pos) (rdS X.K E (dPar i j da db)) := (ps_par hc hN hi hj hij hx hy (pa_cons ha (pa_cons hb pa_nil nb) na) hw hs).mn fun D s H h => by
  obtain ⟨f, r, st, hs, ht, h⟩ := h
  refine ⟨f, r, st, hs, ht, (postS.bind (R := RD X.K) h).mono fun u H1 ⟨f1, d, st1, x1, t1, d1, h1⟩ => ?_⟩
  refine ⟨f1, r, st1, hs.up x1.toEx0, t1, (postS.bind (R := RD X.K) h1).mono fun w H2 ⟨f2, d', st2, x2, t2, d2, h2⟩ => ?_⟩
  exact ⟨u, w, rfl, postS.nx h2 t2 ((((hs.up x1.toEx0).up x2.toEx0).set i (d1.up x2.toEx0)).set j d2)⟩
end
/-- item i, by the store as it is: none: no list there; some none: the end -/
abbrev AI := Nat → Store → Option (Option D)
abbrev DIt := Env' → Store → Res (AI × Nat)
def RI (K : PySem.W.Frag) : List Addr → Hp → AI × Nat → It → Prop := fun f H a J => a.2 ≤ sizeLine ∧ ∀ f' H' st', Ext f H f' H' → RSt K f' H' st' → ∀ i, (a.1 i st' = some none → J.stop i H') ∧
  ∀ d, a.1 i st' = some (some d) → J.go i H' ∧ ∀ x H'', J.yld i H' x H'' → Ext f' H' f' H'' ∧ RSt K f' H'' st' ∧ RD K f' H'' d x
def rdI (K : PySem.W.Frag) (E : XE) (e : DIt) : TI := fun s H R => ∃ f r st, RS K f H r s ∧ RSt K f H st ∧ post K E (RI K) f H (e r st) R
def forLoop (nx : AI) (g : DG) (body : DS) : Nat → Nat → DS
  | 0, i, r, st => match nx i st with
    | some none => .nx r st
    | _ => .err
  | k + 1, i, r, st => match nx i st with
    | some none => .nx r st
    | some (some d) => match g d r with
      | some r1 => match body r1 st with
        | .nx r2 st2 => forLoop nx g body k (i + 1) r2 st2
        | .ct r2 st2 => forLoop nx g body k (i + 1) r2 st2
        | .bk r2 st2 => .nx r2 st2
        | o => o
      | none => .err
    | none => .err
def dFor (it : DIt) (g : DG) (body : DS) : DS := fun r st => (it r st).out fun a st1 => forLoop a.1 g body a.2 0 r st1
section
variable {X : Cx} {E : XE} {pos : Pos} {tg iter : Expr} {body : List Stmt} {it : DIt} {g : DG} {sl : List Nat} {t : TG} {c : DS}
theorem rdS_for {K : PySem.W.Frag} (ok : GOk K t g sl) {D : Ends} {s : L2.St} {H : Hp} (h : rdS K E (dFor it g c) D s H) : tFor (rdI K E it) t (rdS K E c) D s H := by
  obtain ⟨f, r, st, hs, ht, h⟩ := h
  refine ⟨f, r, st, hs, ht, (postS.bind (R := RI K) h).mono fun J H1 ⟨f1, a, st1, x1, t1, ⟨_, ri⟩, h1⟩ => ?_⟩
  refine ⟨fun i m s H => ∃ f r st, Ext f1 H1 f H ∧ RS K f H r s ∧ RSt K f H st ∧ postS K E f H (forLoop a.1 g c m i r st) D, ⟨a.2, f1, r, st1, .refl, hs.up x1.toEx0, t1, h1⟩, fun i m s H ⟨f, r, st, x, hs, ht, h⟩ => ?_⟩
  obtain ⟨ristop, rigo⟩ := ri f H st x ht i
  cases m with
  | zero =>
    unfold forLoop at h
    split at h
    · rename_i e
      exact .inl ⟨ristop e, postS.nx h ht hs⟩
    · exact h.elim
  | succ m =>
    unfold forLoop at h
    split at h
    · rename_i e
      exact .inl ⟨ristop e, postS.nx h ht hs⟩
    · rename_i d e
      obtain ⟨go, yld⟩ := rigo d e
      refine .inr ⟨go, fun s H => ∃ f r st, Ext f1 H1 f H ∧ RS K f H r s ∧ RSt K f H st ∧ postS K E f H (forLoop a.1 g c m (i + 1) r st) D, fun s' H' q => ⟨m, Nat.lt_succ_self m, q⟩, fun v H' y => ?_⟩
      obtain ⟨x2, t2, d2⟩ := yld v H' y
      split at h
      · rename_i r1 e1
        refine ok f H' r r1 s d v _ (hs.up x2.toEx0) d2 e1 fun s' hs' _ => ⟨f, r1, st, hs', t2, ?_⟩
        have h := postS.up h x2
        cases e3 : c r1 st with
        | nx r2 st2 =>
          rw [e3] at h
          exact fun f' H'' s'' x3 t3 hs3 => ⟨f', r2, st2, (x.trans x2).trans x3, hs3, t3, postS.up h x3⟩
        | ct r2 st2 =>
          rw [e3] at h
          exact fun f' H'' s'' x3 t3 hs3 => ⟨f', r2, st2, (x.trans x2).trans x3, hs3, t3, postS.up h x3⟩
        | bk r2 st2 => rw [e3] at h; exact h
        | rt r2 st2 => rw [e3] at h; exact h
        | exc r2 st2 => rw [e3] at h; exact h
        | err => rw [e3] at h; exact h.elim
      · exact h.elim
    · exact h.elim
theorem pds_for (ok : GOk X.K t g sl) (hp : PassesOwn (model X.prog X.w) X.A X.env X.xe) (hc : X.calm = true) (hi : PI X tg iter (rdI X.K E it)) (hg : PG X tg t) (hb : PSs X body (rdS X.K E c)) (hs : ∀ x, foldedSetIterable iter X.env x = pure x := by intro _; rfl) :
    PS X (.For tg iter body [] pos) (rdS X.K E (dFor it g c)) := (ps_for hp hc hi hg hb hs).mn fun D s H h => rdS_for ok h
end
/-- while, with so many turns at most -/
def whileLoop (t : DT) (body : DS) : Nat → DS
  | 0, _, _ => .err
  | k + 1, r, st => (t r st).out fun b st1 => if b = true then (match body r st1 with
      | .nx r2 st2 => whileLoop t body k r2 st2
      | .ct r2 st2 => whileLoop t body k r2 st2
      | .bk r2 st2 => .nx r2 st2
      | o => o) else .nx r st1
section
variable {X : Cx} {E : XE} {pos : Pos} {ce : Expr} {body : List Stmt} {t : DT} {c : DS}
theorem pds_while (n : Nat) (hp : PassesOwn (model X.prog X.w) X.A X.env X.xe) (hc : PT X ce (rdT X.K E t)) (hb : PSs X body (rdS X.K E c)) : PS X (.While ce body [] pos) (rdS X.K E (whileLoop t c n)) := (ps_while hp hc hb).mn fun D s H h => by
  refine ⟨fun m s H => rdS X.K E (whileLoop t c m) D s H, ⟨n, h⟩, fun m s H h => ?_⟩
  obtain ⟨f, r, st, hs, ht, h⟩ := h
  cases m with
  | zero => exact h.elim
  | succ m =>
    refine ⟨f, r, st, hs, ht, (postS.bind (R := RB) h).mono fun k H1 ⟨f1, d, st1, x1, t1, d1, h1⟩ => ?_⟩
    cases d1
    cases k with
    | true =>
      refine iteT ⟨fun s H => rdS X.K E (whileLoop t c m) D s H, fun s' H' q => ⟨m, Nat.lt_succ_self m, q⟩, f1, r, st1, hs.up x1.toEx0, t1, ?_⟩
      rw [if_pos rfl] at h1
      cases e3 : c r st1 with
      | nx r2 st2 =>
        rw [e3] at h1
        exact fun f' H'' s'' x3 t3 hs3 => ⟨f', r2, st2, hs3, t3, postS.up h1 x3⟩
      | ct r2 st2 =>
        rw [e3] at h1
        exact fun f' H'' s'' x3 t3 hs3 => ⟨f', r2, st2, hs3, t3, postS.up h1 x3⟩
      | bk r2 st2 => rw [e3] at h1; exact h1
      | rt r2 st2 => rw [e3] at h1; exact h1
      | exc r2 st2 => rw [e3] at h1; exact h1
      | err => rw [e3] at h1; exact h1.elim
    | false =>
      rw [if_neg (by decide)] at h1
      exact iteF (postS.nx h1 t1 (hs.up x1.toEx0))
end
end Pd
set_option maxRecDepth 100000
set_option maxHeartbeats 4000000
namespace Pd
open PySem PySem.Spec PyProof.Rows L2
/-- no exception may leave -/
abbrev E00 : XE := fun _ _ _ => False
def wipeD (r : Env') : List Nat → Env'
  | [] => r
  | v :: vs => (wipeD r vs).set v none
def lcLoop (nx : AI) (g : DG) (tt : DT) (te : DE) (r0 : Env') : Nat → Nat → List D → Store → Res D
  | 0, i, acc, st => match nx i st with
    | some none => newL acc st
    | _ => .err
  | k + 1, i, acc, st => match nx i st with
    | some none => newL acc st
    | some (some d) => match g d r0 with
      | some r1 => match tt r1 st with
        | .ok b st1 => if b = true then (match te r1 st1 with
          | .ok y st2 => lcLoop nx g tt te r0 k (i + 1) (acc ++ [y]) st2
          | _ => .err) else lcLoop nx g tt te r0 k (i + 1) acc st1
        | _ => .err
      | none => .err
    | none => .err
def dLc (it : DIt) (own : List Nat) (g : DG) (tt : DT) (te : DE) : DE := fun r st => (it r st).bind fun a st1 => lcLoop a.1 g tt te (wipeD r own) a.2 0 [] st1
def dYes : DT := fun _ st => .ok true st
theorem RS.wipe {K : PySem.W.Frag} {f : List Addr} {H : Hp} {r : Env'} {s : L2.St} (h : RS K f H r s) : ∀ vs, RS K f H (wipeD r vs) (L2.wipe s vs)
  | [] => h
  | v :: vs => (RS.wipe h vs).unset v
theorem wipe_wipe (s : L2.St) (vs : List Nat) : L2.wipe (L2.wipe s vs) vs = L2.wipe s vs := by
  have go : ∀ (ws : List Nat) (z : L2.St), (∀ i ∈ ws, ∀ x, z[i]? = some x → x = none) → L2.wipe z ws = z := by
    intro ws
    induction ws with
    | nil => intro z _; rfl
    | cons w ws ih =>
      intro z h
      show (L2.wipe z ws).set w none = z
      rw [ih z fun i hi => h i (List.mem_cons_of_mem _ hi)]
      refine List.ext_getElem? fun j => ?_
      by_cases hj : w = j
      · subst hj
        cases q : z[w]? with
        | none => rw [List.getElem?_eq_none (by rw [List.length_set]; exact List.getElem?_eq_none_iff.mp q)]
        | some x =>
          have := h w List.mem_cons_self x q
          subst this
          rw [List.getElem?_set_self (List.getElem?_eq_some_iff.mp q).1]
      · rw [List.getElem?_set_ne hj]
  refine go vs _ fun i hi x hx => ?_
  cases x with
  | none => rfl
  | some v => exact absurd hi (wipe_some hx).2
section
variable {K : PySem.W.Frag} {E : XE} {it : DIt} {g : DG} {sl : List Nat} {t : TG} {tt : DT} {te : DE}
theorem post.ok {A B : Type} {R : List Addr → Hp → A → B → Prop} {f : List Addr} {H : Hp} {r : Res A} {Q : B → Hp → Prop} {a : A} {st : Store} (e : r = .ok a st) (h : ∀ f' H' b, Ext f H f' H' → RSt K f' H' st → R f' H' a b → Q b H') : post K E R f H r Q := by
  rw [e]
  exact h
theorem rd_lc (ok : GOk K t g sl) {own : List Nat} (hv : ∀ i ∈ sl, i ∈ own) {s : L2.St} {H : Hp} {Q : VK} (h : rd K E (dLc it own g tt te) s H Q) : tLc (rdI K E it) t (rdT K E00 tt) (rd K E00 te) own s H Q := by
  obtain ⟨f, r, st, hs, ht, h⟩ := h
  refine ⟨f, r, st, hs, ht, (post.bind (R' := RI K) h).mono fun J H1 ⟨f1, a, st1, x1, t1, ⟨hz, ri⟩, h1⟩ D hD => ?_⟩
  have hs1 := hs.up x1.toEx0
  have dn : D ∉ f1 := fun m => by
    obtain ⟨w, hw, _⟩ := t1.mem m
    rw [hD] at hw
    cases hw
  -- at turn i, with m turns left: the list so far
  refine ⟨fun i m H => ∃ f st acc vs, Ext f1 H1 f H ∧ RSt K f H st ∧ H D = some (.lst vs) ∧ D ∉ f ∧ RDs K f H acc vs ∧ acc.length ≤ i ∧ i + m = a.2 ∧ post K E (RD K) f1 H1 (lcLoop a.1 g tt te (wipeD r own) m i acc st) Q,
    ⟨a.2, f1, st1, [], [], ext_new hD, t1.new hD, upd_same, dn, .nil, Nat.le_refl _, Nat.zero_add _, h1⟩, fun i m H ⟨f, st, acc, vs, x, ht, hd, hn, hr, hl, hm, h⟩ => ?_⟩
  obtain ⟨ristop, rigo⟩ := ri f H st x ht i
  have fin : post K E (RD K) f1 H1 (newL acc st) Q → Q (.ref D) H := fun h => by
    have x2 : Ext f1 H1 (f ++ [D]) H := ⟨⟨x.pre.trans (List.prefix_append f [D]), x.im⟩, fun c hc hn1 => by
      rcases List.mem_append.mp hc with hc | hc
      · exact x.nw c hc hn1
      · rw [List.mem_singleton] at hc; rw [hc]; exact hD, x.fr⟩
    have x0 : Ex0 f H (f ++ [D]) H := ⟨List.prefix_append f [D], fun _ _ h _ => h⟩
    have t2 : RSt K (f ++ [D]) H (st ++ [.lst acc]) := ht.put hn x0 (fun _ _ => rfl) ⟨vs, hd, hr.up x0, by omega⟩
    refine h (f ++ [D]) H (.ref D) x2 t2 (.ref ?_)
    rw [← ht.len]
    simp
  have dstay : ∀ {f' : List Addr} {H' : Hp}, Ext f H f' H' → H' D = some (.lst vs) ∧ D ∉ f' := fun {f' H'} y => ⟨y.fr _ _ hd hn, fun m => by
    have z := y.nw D m hn
    rw [hd] at z
    cases z⟩
  cases m with
  | zero =>
    unfold lcLoop at h
    split at h
    · rename_i e
      exact .inl ⟨ristop e, fin h⟩
    · exact h.elim
  | succ m =>
    unfold lcLoop at h
    split at h
    · rename_i e
      exact .inl ⟨ristop e, fin h⟩
    · rename_i d e
      obtain ⟨go, yld⟩ := rigo d e
      refine .inr ⟨go, fun H => ∃ f st acc vs, Ext f1 H1 f H ∧ RSt K f H st ∧ H D = some (.lst vs) ∧ D ∉ f ∧ RDs K f H acc vs ∧ acc.length ≤ i + 1 ∧ i + 1 + m = a.2 ∧ post K E (RD K) f1 H1 (lcLoop a.1 g tt te (wipeD r own) m (i + 1) acc st) Q, fun H' q => ⟨m, Nat.lt_succ_self m, q⟩, fun v H' y => ?_⟩
      obtain ⟨x2, t2, d2⟩ := yld v H' y
      obtain ⟨hd2, hn2⟩ := dstay x2
      have hw : RS K f H' (wipeD r own) (L2.wipe s own) := ((hs1.up x.toEx0).up x2.toEx0).wipe own
      split at h
      · rename_i r1 e1
        refine ok f H' _ r1 _ d v _ hw d2 e1 fun s' hs' w' => ⟨?_, f, r1, st, hs', t2, ?_⟩
        · rw [w' own hv]
          exact wipe_wipe s own
        · split at h
          · rename_i b st2 e2
            refine post.ok e2 fun f3 H3 b' x3 t3 eb => ?_
            cases eb
            have hd3 := (dstay (x2.trans x3)).1
            have hn3 := (dstay (x2.trans x3)).2
            have xx := (x.trans x2).trans x3
            have hr3 := hr.up (x2.trans x3).toEx0
            cases b with
            | true =>
              rw [if_pos rfl] at h
              refine iteT ⟨f3, r1, st2, hs'.up x3.toEx0, t3, ?_⟩
              split at h
              · rename_i z st3 e3
                refine post.ok e3 fun f4 H4 w x4 t4 d4 => ?_
                obtain ⟨hd4, hn4⟩ := dstay ((x2.trans x3).trans x4)
                have hr4 := hr3.up x4.toEx0
                refine ⟨vs, hd4, by rw [← hr.length]; omega, ?_⟩
                have hne : ∀ c ∈ f4, c ≠ D := fun c hc e => hn4 (e ▸ hc)
                have x5 : Ex0 f4 H4 f4 (upd H4 D (.lst (vs ++ [w]))) := ⟨List.prefix_refl f4, fun b o hb nm => by
                  rw [upd_ne fun e => by
                    rw [e, hd4] at hb
                    cases hb
                    exact nm trivial]
                  exact hb⟩
                refine ⟨f4, st3, acc ++ [z], vs ++ [w], ⟨⟨(xx.trans x4).pre, fun b o hb nm => ?_⟩, (xx.trans x4).nw, fun b o hb hn => ?_⟩, ⟨t4.len, t4.nd, fun n o c q1 q2 => (t4.at_ n o c q1 q2).up x5 (upd_ne (hne c (List.mem_of_getElem? q2)))⟩, upd_same, hn4, (hr4.app (.cons d4 .nil)).up x5, by rw [List.length_append]; exact Nat.succ_le_succ hl, by omega, h⟩
                · exact x5.im _ _ ((xx.trans x4).im _ _ hb nm) nm
                · rw [upd_ne fun e => by
                    rw [e, hD] at hb
                    cases hb]
                  exact (xx.trans x4).fr _ _ hb hn
              · exact h.elim
            | false =>
              rw [if_neg (by decide)] at h
              exact iteF ⟨f3, st2, acc, vs, xx, t3, hd3, hn3, hr3, by omega, by omega, h⟩
          · exact h.elim
      · exact h.elim
    · exact h.elim
end
section
variable {X : Cx} {E : XE} {pos : Pos} {elt tg iter : Expr} {ifs : List Expr} {scope : Scope} {own : List (Str × Nat)} {it : DIt} {g : DG} {sl : List Nat} {t : TG} {tt : DT} {te : DE}
theorem pds_tests0 : PTs X [] (rdT X.K E dYes) := ⟨fun pins s sg H Q I h => pts_nil.run pins s sg H Q I (by
  obtain ⟨f, r, st, hs, ht, h⟩ := h
  exact post.now (show post X.K E RB f H (.ok true st) Q from h) ht rfl)⟩
/-- a list comprehension's parts -/
theorem pd_lc (ok : GOk X.K t g sl) (hc : X.calm = true) (hN : X.N.Nodup) (bo : BlkOk X.N X.env.scope scope own) (hi : PI X tg iter (rdI X.K E it))
    (hg : ∀ (s : Shared) (H : Hp) (C : Addr) (cl : List (Str × Addr)) (fp : List Addr), PG (X.blk s H scope (compEnvC scope cl C X.env) fp) tg t) (ht : ∀ (s : Shared) (H : Hp) (C : Addr) (cl : List (Str × Addr)) (fp : List Addr), PTs (X.blk s H scope (compEnvC scope cl C X.env) fp) ifs (rdT X.K E00 tt))
    (he : ∀ (s : Shared) (H : Hp) (C : Addr) (cl : List (Str × Addr)) (fp : List Addr), PE (X.blk s H scope (compEnvC scope cl C X.env) fp) elt (rd X.K E00 te)) (hv : ∀ i ∈ sl, i ∈ own.map (·.2) := by decide) (hs : ∀ x, foldedSetIterable iter X.env x = pure x := by intro _; rfl) :
    PE X (.ListComp elt [⟨tg, iter, ifs, 0⟩] scope pos) (rd X.K E (dLc it (own.map (·.2)) g tt te)) := (pe_lc hc hN hi bo hg ht he hs).mn fun s H Q h => rd_lc ok hv h
theorem pds_setLc (i : Nat) {y : Str} {py spos : Pos} (ok : GOk X.K t g sl) (hc : X.calm = true) (hN : X.N.Nodup) (bo : BlkOk X.N X.env.scope scope own) (hi : PI X tg iter (rdI X.K E it))
    (hg : ∀ (s : Shared) (H : Hp) (C : Addr) (cl : List (Str × Addr)) (fp : List Addr), PG (X.blk s H scope (compEnvC scope cl C X.env) fp) tg t) (ht : ∀ (s : Shared) (H : Hp) (C : Addr) (cl : List (Str × Addr)) (fp : List Addr), PTs (X.blk s H scope (compEnvC scope cl C X.env) fp) ifs (rdT X.K E00 tt))
    (he : ∀ (s : Shared) (H : Hp) (C : Addr) (cl : List (Str × Addr)) (fp : List Addr), PE (X.blk s H scope (compEnvC scope cl C X.env) fp) elt (rd X.K E00 te)) (hy : X.N[i]? = some y := by rfl) (hyl : X.env.scope.names.lookup y = some .local := by rfl)
    (hsw : swapsWith (.ListComp elt [⟨tg, iter, ifs, 0⟩] scope pos) (some (.Name y py)) spos.line X.env = pure true := by exact sw_true rfl rfl rfl (by decide +kernel)) (hv : ∀ i ∈ sl, i ∈ own.map (·.2) := by decide) (hs : ∀ x, foldedSetIterable iter X.env x = pure x := by intro _; rfl) :
    PS X (.Assign [.Name y py] (.ListComp elt [⟨tg, iter, ifs, 0⟩] scope pos) spos) (rdS X.K E (dSet i (dLc it (own.map (·.2)) g tt te))) := (ps_setLc hc hN hy hyl hsw hi bo hg ht he hs).mn fun D s H h => by
  obtain ⟨f, r, st, hs, ht, h⟩ := rdS_set h
  exact rd_lc ok hv ⟨f, r, st, hs, ht, h⟩
end
end Pd
set_option maxRecDepth 100000
set_option maxHeartbeats 4000000
namespace Pd
open PySem PySem.Spec PyProof.Rows L2
/-- an iterator of new tuples, from a walk known at each turn -/
def ItT (go : Nat → Hp → Prop) (y : Nat → Hp → List V → Prop) (stop : Nat → Hp → Prop) : It :=
  ⟨go, fun i H v H' => ∃ T xs, v = .ref T ∧ H T = none ∧ H' = upd H T (.tup xs) ∧ y i H xs, stop⟩
theorem turn_T {P : Program} {w : World} {K : PySem.W.Frag} {elts : List Expr} {kk : Nat} {tpos : Pos} {it : Addr} {fp wr : List Addr} {tn : Nat → Heap → Prop} {go : Nat → Hp → Prop} {y : Nat → Hp → List V → Prop} {stop : Nat → Hp → Prop}
    (mem : it ∈ fp) (hwr : ∀ b ∈ wr, b ∈ fp) (obj : ∀ i h, tn i h → ∀ b ∈ fp, ∃ o, h.get? b = some o ∧ ∀ v, o.data ≠ .cell v)
    (keep : ∀ i h h', tn i h → (∀ b ∈ fp, ∀ o, h.get? b = some o → h'.get? b = some o) → tn i h')
    (walk : ∀ (X : Cx), X.prog = P → X.w = w → X.K = K → X.A.handled = none → ∀ (i : Nat) (pins : List (Addr × Obj)) (s : Shared) (sg : L2.St) (H : Hp), Inv X pins sg H s → tn i s.heap → (go i H ∨ stop i H) →
      ∃ n Pt St Mid fpW, WalksT P w X.A it fpW wr n Pt St Mid ∧ St i s.heap ∧ (go i H → i < n) ∧ (stop i H → i = n) ∧ (∀ vals, i < n → Pt i vals → ∃ xs, Vals xs vals.toList ∧ xs.length ≤ sizeLine ∧ y i H xs) ∧ ∀ h', St (i + 1) h' → tn (i + 1) h')
    (self : ∀ (A : Around) (i : Nat) (s : Shared) (Q : Value → Shared → Prop) (E : Value → Shared → Prop), tn i s.heap → Q (.ref it) s → wpAny (model P w) A (pyIter (.ref it)) Q E s) :
    Turn P w K (.Tuple elts kk tpos) (ItT go y stop) fp it tn where
  mem := mem
  obj := obj
  keep := keep
  self := self
  item := by
    intro X hP hw hK hc i pins s sg H E I hf st hg
    subst hP hw hK
    obtain ⟨n, Pt, St, Mid, fpW, W, st0, hn, _, hv, hnext⟩ := walk X rfl rfl rfl (I.ok.hd hc) i pins s sg H I st (.inl hg)
    refine W.item i s _ _ (hn hg) st0 fun T vals h' tk hP hT hIsT hMid hk => ⟨.ref T, rfl, ?_⟩
    refine W.go elts kk tpos i T { s with heap := h', toks := tk } _ _ hMid fun h2 st2 hk2 => ?_
    obtain ⟨xs, rx, hz, hy⟩ := hv vals (hn hg) hP
    obtain ⟨o, ho, hcl, m, hd⟩ := hIsT
    have hap := W.apart i T h' hMid
    have hT2 : h2.get? T = some o := hk2 T o hap ho
    have new : ObjOk X.prog X.w (upd H T (.tup xs)) h2 T (.tup xs) := ⟨hz, vals.toList, rx, ⟨o, hT2, hcl, m, by simpa using hd⟩⟩
    have I1 : Inv X pins sg (upd H T (.tup xs)) { s with heap := h2, toks := tk } :=
      I.turnedNew (ch := wr) (fun b ob hb q => hk2 b ob hb (hk b ob hb q)) (fun b hb => hf b (hwr b hb)) hT new
    refine ⟨.ref T, _, I1, rfl, ⟨T, xs, rfl, I.hok.fresh hT, rfl, hy⟩, hnext h2 st2, fun b hb => ?_⟩
    obtain ⟨ob, hob, _⟩ := obj i s.heap st b hb
    rw [upd_ne (Nat.ne_of_lt (Nat.lt_of_lt_of_le (Heap.lt_size hob) hT))]
    exact (hf b hb).1
  done := by
    intro X hP hw hK hc i pins s sg H E I hf st hg
    subst hP hw hK
    obtain ⟨n, Pt, St, Mid, fpW, W, st0, _, hn, _⟩ := walk X rfl rfl rfl (I.ok.hd hc) i pins s sg H I st (.inr hg)
    have e := hn hg
    subst e
    refine W.done s _ _ st0 fun h' tk hk => ⟨rfl, ?_⟩
    refine I.step (g' := s.gens) (d' := s.drawn) (ch := wr) (fun b hb => ⟨(hf b (hwr b hb)).2.2.2.1, (hf b (hwr b hb)).2.1, (hf b (hwr b hb)).2.2.2.2.1, (hf b (hwr b hb)).2.2.2.2.2⟩) (fun b o _ _ hc e _ => hk b o hc e) (fun b o _ _ hc e _ => ⟨o.slots, hk b o hc e⟩) (fun _ _ _ _ n => n)
      (fun b o hc e => ⟨o, hk b o hc e⟩) (fun _ _ e => e) (fun _ _ _ e => e) (fun b ps e => ⟨#[], by rw [e]; simp⟩) (fun m hm => ?_) (fun b u e => ?_) I.bare
    · obtain ⟨o, es, ep, ho, r⟩ := hm
      exact ⟨o, es, ep, hk _ o (fun z => (hf _ (hwr _ z)).2.1 rfl) ho, r⟩
    · have nw : ∀ c u, H c = some u → c ∉ wr := fun c u q z => by
        rw [(hf c (hwr c z)).1] at q
        cases q
      refine (I.hok b u e).stay (fun c v hc q => hk c v ?_ q) (fun _ q => q) fun _ _ q => q
      rcases hc with z | z
      · rw [z]; exact nw b u e
      · exact nw c _ z
def SqK (K : PySem.W.Frag) (H : Hp) (k : Bool) (a : Addr) (xs : List V) : Prop := if k = true then SqT K H a xs else SqL K H a xs
def itSt (k : Bool) (h : Heap) (it a : Addr) (i : Nat) : Prop := if k = true then h.IsTupleIter it a i else h.IsListIter it a i
def isSq (k : Bool) (h : Heap) (a : Addr) (items : Array Value) : Prop := if k = true then h.IsTuple a items else h.IsList a items
section
variable {X : Cx} {pins : List (Addr × Obj)} {sg : L2.St} {H : Hp} {s : Shared} {k : Bool} {a : Addr} {xs ys : List V}
theorem SqK.items (I : Inv X pins sg H s) (h : SqK X.K H k a xs) : ∃ its : List Value, Vals xs its ∧ isSq k s.heap a its.toArray ∧ xs.length ≤ sizeLine := by
  unfold SqK at h
  unfold isSq
  cases k with
  | true =>
    rw [if_pos rfl] at h
    obtain ⟨its, r, p, z⟩ := I.tuple h
    exact ⟨its, r, by rw [if_pos rfl]; exact p, z⟩
  | false =>
    rw [if_neg (by decide)] at h
    obtain ⟨its, r, p, z⟩ := I.list h
    exact ⟨its, r, by rw [if_neg (by decide)]; exact p.isList, z⟩
theorem drawsK {prog : Program} {w : World} {A : Around} (hh : A.handled = none) (k : Bool) (it l : Addr) (hne : l ≠ it) (items : Array Value) :
    Draws prog w A it [it, l] items.size (fun i v => items[i]? = some v) (fun i h => itSt k h it l i ∧ isSq k h l items) := by
  cases k with
  | true => exact Draws.tuple hh it l hne items
  | false => exact Draws.list hh it l hne items
theorem itSt.at_ {h h' : Heap} {it a : Addr} {i : Nat} (x : itSt k h it a i) (e : ∀ o, h.get? it = some o → h'.get? it = some o) : itSt k h' it a i := by
  cases k with
  | true => exact Heap.IsTupleIter.at x e
  | false => exact Heap.IsListIter.at x e
theorem itSt.ob {h : Heap} {it a : Addr} {i : Nat} (x : itSt k h it a i) : ∃ o, h.get? it = some o ∧ ∀ v, o.data ≠ .cell v := by
  cases k with
  | true =>
    obtain ⟨o, ho, hc, hd⟩ := (show h.IsTupleIter it a i from x)
    exact ⟨o, ho, fun v q => by rw [hd] at q; cases q⟩
  | false =>
    obtain ⟨o, ho, hc, hd⟩ := (show h.IsListIter it a i from x)
    exact ⟨o, ho, fun v q => by rw [hd] at q; cases q⟩
theorem beginsK (k : Bool) (l : Addr) (items : Array Value) : ∃ o, Begins (.ref l) o (fun h => isSq k h l items) ∧ ∀ h it, h.get? it = some o → itSt k h it l 0 := by
  cases k with
  | true => exact ⟨_, begins_tuple l items, fun h it e => ⟨_, e, rfl, rfl⟩⟩
  | false => exact ⟨_, begins_list l items, fun h it e => ⟨_, e, rfl, rfl⟩⟩
/-- the one list or tuple at an address -/
theorem SqK.inj (I : Inv X pins sg H s) (h : SqK X.K H k a xs) (h' : SqK X.K H k a ys) : xs = ys := by
  cases k with
  | true => exact I.tuple_inj h h'
  | false => exact I.list_inj h h'
end
def ItZ (K : PySem.W.Frag) (k1 k2 : Bool) (a b : Addr) : It := ItT
  (fun i H => ∃ xs ys, SqK K H k1 a xs ∧ SqK K H k2 b ys ∧ i < xs.length ∧ i < ys.length)
  (fun i H l => ∀ xs ys, SqK K H k1 a xs → SqK K H k2 b ys → ∃ x y, l = [x, y] ∧ xs[i]? = some x ∧ ys[i]? = some y)
  (fun i H => ∃ xs ys, SqK K H k1 a xs ∧ SqK K H k2 b ys ∧ min xs.length ys.length = i)
theorem turn_Z {P : Program} {w : World} {K : PySem.W.Frag} {elts : List Expr} {kk : Nat} {tpos : Pos} {k1 k2 : Bool} {a b z TI TO i1 i2 : Addr} (S : ZipSep2 z TI TO i1 i2 [i1, a] [i2, b]) (ha : a ≠ i1) (hb : b ≠ i2) :
    Turn P w K (.Tuple elts kk tpos) (ItZ K k1 k2 a b) [z, TI, TO, i1, i2] z (fun i h => IsZip h z TI TO .none ∧ IsTupOf2 h TI (.ref i1) (.ref i2) ∧ (∃ a1 a2, IsTupOf2 h TO a1 a2) ∧ itSt k1 h i1 a i ∧ itSt k2 h i2 b i) := by
  refine turn_T (wr := [z, TO, i1, i2]) (by simp) (fun b hb => by
    simp only [List.mem_cons, List.not_mem_nil, or_false] at hb ⊢
    rcases hb with e | e | e | e
    · exact .inl e
    · exact .inr (.inr (.inl e))
    · exact .inr (.inr (.inr (.inl e)))
    · exact .inr (.inr (.inr (.inr e)))) (fun i h ⟨h1, h2, ⟨a1, a2, h3⟩, h4, h5⟩ c hc => ?_) (fun i h h' ⟨h1, h2, ⟨a1, a2, h3⟩, h4, h5⟩ hk => ?_) (fun X hP hw hK hh i pins s sg H I st hgs => ?_) (fun A i s Q E st h => wpAny_pyIter_zip st.1 h)
  · simp only [List.mem_cons, List.not_mem_nil, or_false] at hc
    rcases hc with e | e | e | e | e
    · rw [e]; exact ⟨_, h1, fun v q => by cases q⟩
    · rw [e]; exact ⟨_, h2, fun v q => by cases q⟩
    · rw [e]; exact ⟨_, h3, fun v q => by cases q⟩
    · rw [e]; exact h4.ob
    · rw [e]; exact h5.ob
  · exact ⟨hk z (by simp) _ h1, hk TI (by simp) _ h2, ⟨a1, a2, hk TO (by simp) _ h3⟩, h4.at_ fun o e => hk i1 (by simp) o e, h5.at_ fun o e => hk i2 (by simp) o e⟩
  · subst hP hw hK
    obtain ⟨h1, h2, h3, h4, h5⟩ := st
    obtain ⟨xs, ys, qx, qy⟩ : ∃ xs ys, SqK X.K H k1 a xs ∧ SqK X.K H k2 b ys := by
      rcases hgs with ⟨xs, ys, qx, qy, _⟩ | ⟨xs, ys, qx, qy, _⟩ <;> exact ⟨xs, ys, qx, qy⟩
    obtain ⟨its1, r1, p1, z1⟩ := SqK.items I qx
    obtain ⟨its2, r2, p2, z2⟩ := SqK.items I qy
    have e1 : its1.toArray.size = xs.length := by rw [List.size_toArray]; exact r1.length.symm
    have e2 : its2.toArray.size = ys.length := by rw [List.size_toArray]; exact r2.length.symm
    refine ⟨_, _, _, _, _, WalksT.zipD2 S (drawsK (A := X.A.in1) hh k1 i1 a ha its1.toArray) (drawsK (A := X.A.in1) hh k2 i2 b hb its2.toArray), ⟨h1, h2, h3, ⟨h4, p1⟩, ⟨h5, p2⟩⟩, fun hg => ?_, fun hg => ?_, fun vals hi hp => ?_, fun h' st' => ⟨st'.1, st'.2.1, st'.2.2.1, st'.2.2.2.1.1, st'.2.2.2.2.1⟩⟩
    · obtain ⟨xs', ys', q1, q2, l1, l2⟩ := hg
      rw [SqK.inj I q1 qx] at l1
      rw [SqK.inj I q2 qy] at l2
      rw [e1, e2]
      exact Nat.lt_min.mpr ⟨l1, l2⟩
    · obtain ⟨xs', ys', q1, q2, l1⟩ := hg
      rw [SqK.inj I q1 qx, SqK.inj I q2 qy] at l1
      rw [e1, e2]
      exact l1.symm
    · obtain ⟨x1, x2, hx1, hx2, rfl⟩ := hp
      obtain ⟨v1, g1, d1⟩ := Paired.getR r1 (i := i) (y := x1) (by simpa using hx1)
      obtain ⟨v2, g2, d2⟩ := Paired.getR r2 (i := i) (y := x2) (by simpa using hx2)
      refine ⟨[v1, v2], .cons d1 (.cons d2 .nil), by show 2 ≤ sizeLine; decide, fun xs' ys' q1 q2 => ⟨v1, v2, rfl, ?_, ?_⟩⟩
      · rw [SqK.inj I q1 qx]; exact g1
      · rw [SqK.inj I q2 qy]; exact g2
def iZK (K : PySem.W.Frag) (ta : TA) : TI := fun s H R => ta s H fun vs H1 => ∃ a b k1 k2 xs ys, vs = [.ref a, .ref b] ∧ SqK K H1 k1 a xs ∧ SqK K H1 k2 b ys ∧ R (ItZ K k1 k2 a b) H1
theorem isSq.lt {h : Heap} {k : Bool} {a : Addr} {its : Array Value} (x : isSq k h a its) : a < h.objs.size := by
  cases k with
  | true => obtain ⟨o, ho, _⟩ := (show h.IsTuple a its from x); exact Heap.lt_size ho
  | false => obtain ⟨o, ho, _⟩ := (show h.IsList a its from x); exact Heap.lt_size ho
theorem vals_refs2 {a b : Addr} {us : List Value} (r : Vals [V.ref a, V.ref b] us) : us = [Value.ref a, Value.ref b] := by
  match us, r with
  | _, .cons x (.cons y .nil) =>
    cases x
    cases y
    rfl
theorem pi_zipK {X : Cx} {e e2 : Expr} {ta : TA} {p pos tpos : Pos} {elts : List Expr} {kk : Nat} (hg : Gl X "zip") (hm : X.mg "zip" = none) (ha : PA X [e, e2] ta)
    (hs : starEach [e, e2] X.env = (false, eval e X.env) :: starEach [e2] X.env := by rfl) (hpl : (backTo pos (starEach [e2] X.env)).any (·.1) = false := by rfl) : PI X (.Tuple elts kk tpos) (.Call (.Name "zip" p) [e, e2] [] pos) (iZK X.K ta) := by
  refine ⟨fun pins s sg H R I h => ?_⟩
  refine Call_ (ld_blt I hg hm PyProof.Rows.boot_zip (PyProof.Rows.callWith_type1 (thn (ha.run pos pins s sg H _ I h) fun us s1 ⟨vs, H1, I1, r1, q1⟩ => ?_) hs hpl))
  obtain ⟨a, b, k1, k2, xs, ys, ex, qx, qy, q⟩ := q1
  subst ex
  obtain rfl := vals_refs2 r1
  obtain ⟨its1, rv1, p1, z1⟩ := SqK.items I1 qx
  obtain ⟨its2, rv2, p2, z2⟩ := SqK.items I1 qy
  obtain ⟨o1, B1, b1⟩ := beginsK k1 a its1.toArray
  obtain ⟨o2, B2, b2⟩ := beginsK k2 b its2.toArray
  have la := p1.lt
  have lb := p2.lt
  refine zip_begins2 B1 B2 p1 p2 fun h' hz hT hO g1 g2 hsz hk => wpAny_pyIter_zip hz ?_
  have I2 : Inv X pins sg H1 { s1 with heap := h' } := I1.kept (t' := s1.toks) hk
  have sep : ZipSep2 (s1.heap.objs.size + 4) (s1.heap.objs.size + 2) (s1.heap.objs.size + 3) s1.heap.objs.size (s1.heap.objs.size + 1) [s1.heap.objs.size, a] [s1.heap.objs.size + 1, b] :=
    zip_sep2 (fun c hc => by rw [List.mem_singleton] at hc; rw [hc]; exact la) (fun c hc => by rw [List.mem_singleton] at hc; rw [hc]; exact lb)
  have nb : b ≠ s1.heap.objs.size + 1 := Nat.ne_of_lt (Nat.lt_succ_of_lt lb)
  refine ⟨s1.heap.objs.size + 4, _, _, _, H1, rfl, I2, turn_Z (k1 := k1) (k2 := k2) sep (Nat.ne_of_lt la) nb, ⟨hz, hT, ⟨_, _, hO⟩, b1 _ _ g1, b2 _ _ g2⟩, fun c hc => ?_, q⟩
  have hle : s1.heap.objs.size ≤ c := by
    simp only [List.mem_cons, List.not_mem_nil, or_false] at hc
    rcases hc with e | e | e | e | e <;> rw [e] <;> first | exact Nat.le_add_right _ _ | exact Nat.le_refl _
  exact I1.fpOk hle (I1.hok.fresh hle)
theorem enum_new1 {v : Value} {o : Obj} {Hh : Heap → Prop} (B : Begins v o Hh) :
    Meets (Builtin.«enumerate.__new__» ⟨[.type "enumerate", v], []⟩) (fun _ R s => Hh s.heap ∧ R (.ok (.ret (.ref (s.heap.push o).objs.size)))
        { s with heap := (s.heap.push o).push { cls := .type "enumerate", data := .fields #[.none, .bool false, .ref s.heap.objs.size, rawInt 0, .none, .none] } }) := by
  refine .of_wp fun prog w A R ⟨hp, g, d, tk, os⟩ ⟨begun, post⟩ => ?_
  have below := sub_enumerate
  have made := fun (p : Program) (w : World) (A' : Around) (E Q : Value → Shared → Prop) => B.iter p w A' E ⟨hp, g, d, tk, os⟩ Q begun
  wp_walk
  refine wpAny_stack_any fun frames => wpAny_pure ?_
  split
  case h_1 =>
    rename_i top _ _ _ _ _
    rcases Bool.eq_false_or_eq_true (top == Value.type "enumerate") with e | e <;> (rw [e]; wp_walk using made; exact ⟨_, rfl, post⟩)
  all_goals (wp_walk using made; exact ⟨_, rfl, post⟩)
def ItE (K : PySem.W.Frag) (k : Bool) (a : Addr) : It := ItT
  (fun i H => ∃ xs, SqK K H k a xs ∧ i < xs.length)
  (fun i H l => ∀ xs, SqK K H k a xs → ∃ x, l = [.int (i : Nat), x] ∧ xs[i]? = some x)
  (fun i H => ∃ xs, SqK K H k a xs ∧ xs.length = i)
theorem turn_E {P : Program} {w : World} {K : PySem.W.Frag} {elts : List Expr} {kk : Nat} {tpos : Pos} {k : Bool} {a e it : Addr} (hei : e ≠ it) (hea : e ≠ a) (hai : a ≠ it) :
    Turn P w K (.Tuple elts kk tpos) (ItE K k a) [e, it] e (fun i h => (∃ old, IsEnum h e it ((i : Nat) : Int) old) ∧ itSt k h it a i) := by
  refine turn_T (wr := [e, it]) (by simp) (fun b hb => hb) (fun i h ⟨⟨old, h1⟩, h2⟩ c hc => ?_) (fun i h h' ⟨⟨old, h1⟩, h2⟩ hk => ?_) (fun X hP hw hK hh i pins s sg H I st hgs => ?_) (fun A i s Q E st h => let ⟨⟨_, he⟩, _⟩ := st; wpAny_pyIter_enum he h)
  · simp only [List.mem_cons, List.not_mem_nil, or_false] at hc
    rcases hc with q | q
    · rw [q]; exact ⟨_, h1, fun v q => by cases q⟩
    · rw [q]; exact h2.ob
  · exact ⟨⟨old, hk e (by simp) _ h1⟩, h2.at_ fun o q => hk it (by simp) o q⟩
  · subst hP hw hK
    obtain ⟨h1, h2⟩ := st
    obtain ⟨xs, qx⟩ : ∃ xs, SqK X.K H k a xs := by
      rcases hgs with ⟨xs, qx, _⟩ | ⟨xs, qx, _⟩ <;> exact ⟨xs, qx⟩
    obtain ⟨its1, r1, p1, z1⟩ := SqK.items I qx
    have e1 : its1.toArray.size = xs.length := by rw [List.size_toArray]; exact r1.length.symm
    refine ⟨_, _, _, _, _, WalksT.enumerateD (drawsK (A := X.A.in1) hh k it a hai its1.toArray) e hei (by simp; exact ⟨hei, hea⟩) (by simp), ⟨h1, ⟨h2, p1⟩⟩, fun hg => ?_, fun hg => ?_, fun vals hi hp => ?_, fun h' st' => ⟨st'.1, st'.2.1⟩⟩
    · obtain ⟨xs', q1, l1⟩ := hg
      rw [SqK.inj I q1 qx] at l1
      rw [e1]
      exact l1
    · obtain ⟨xs', q1, l1⟩ := hg
      rw [SqK.inj I q1 qx] at l1
      rw [e1]
      exact l1.symm
    · obtain ⟨t, x1, hx1, rfl⟩ := hp
      obtain ⟨v1, g1, d1⟩ := Paired.getR r1 (i := i) (y := x1) (by simpa using hx1)
      refine ⟨[.int (i : Nat), v1], .cons ⟨_, rfl⟩ (.cons d1 .nil), by show 2 ≤ sizeLine; decide, fun xs' q1 => ⟨v1, rfl, ?_⟩⟩
      rw [SqK.inj I q1 qx]; exact g1
def iEK (K : PySem.W.Frag) (ta : TA) : TI := fun s H R => ta s H fun vs H1 => ∃ a k xs, vs = [.ref a] ∧ SqK K H1 k a xs ∧ R (ItE K k a) H1
theorem pi_enumK {X : Cx} {e : Expr} {ta : TA} {p pos tpos : Pos} {elts : List Expr} {kk : Nat} (hg : Gl X "enumerate") (hm : X.mg "enumerate" = none) (ha : PA X [e] ta) (hs : starEach [e] X.env = [(false, eval e X.env)] := by rfl) :
    PI X (.Tuple elts kk tpos) (.Call (.Name "enumerate" p) [e] [] pos) (iEK X.K ta) := by
  refine ⟨fun pins s sg H R I h => ?_⟩
  refine Call_ (ld_blt I hg hm boot_enumerate (PyProof.Rows.callWith_type1 (thn (ha.run pos pins s sg H _ I h) fun us s1 ⟨vs, H1, I1, r1, q1⟩ => ?_) hs rfl))
  obtain ⟨a, k, xs, ex, qx, q⟩ := q1
  subst ex
  cases r1 with
  | cons r rr =>
    cases rr
    cases r
    obtain ⟨its1, rv1, p1, z1⟩ := SqK.items I1 qx
    obtain ⟨o1, B1, b1⟩ := beginsK k a its1.toArray
    have la := p1.lt
    refine callType_new F.called_enumerate (by decide) (F.typeCall_enumerate_1 _) (F.newCall_enumerate_1 _) (fun obj => F.args_object_init_2 obj _) F.entry_enumerate_new (enum_new1 B1) ⟨p1, ?_⟩
    have hz : (s1.heap.push o1).objs.size = s1.heap.objs.size + 1 := Heap.size_push ..
    show _ ∧ _
    rw [hz]
    have he : IsEnum ((s1.heap.push o1).push { cls := .type "enumerate", data := .fields #[.none, .bool false, .ref s1.heap.objs.size, rawInt 0, .none, .none] }) (s1.heap.objs.size + 1) s1.heap.objs.size 0 .none := by
      have q := Heap.get?_push_size (s1.heap.push o1) (o := { cls := .type "enumerate", data := .fields #[.none, .bool false, .ref s1.heap.objs.size, rawInt 0, .none, .none] }) rfl
      rw [hz] at q
      exact q
    have hi : ((s1.heap.push o1).push { cls := .type "enumerate", data := .fields #[.none, .bool false, .ref s1.heap.objs.size, rawInt 0, .none, .none] }).get? s1.heap.objs.size = some o1 := Heap.get?_push_of_some _ (Heap.get?_push_size _ B1.free)
    refine ⟨⟨_, he, rfl⟩, wpAny_pyIter_enum he ?_⟩
    have I2 : Inv X pins sg H1 { s1 with heap := (s1.heap.push o1).push { cls := .type "enumerate", data := .fields #[.none, .bool false, .ref s1.heap.objs.size, rawInt 0, .none, .none] } } := I1.kept (t' := s1.toks) fun b o x => Heap.get?_push_of_some _ (Heap.get?_push_of_some _ x)
    have ne : a ≠ s1.heap.objs.size + 1 := Nat.ne_of_lt (Nat.lt_succ_of_lt la)
    refine ⟨s1.heap.objs.size + 1, _, _, _, H1, rfl, I2, turn_E (k := k) (Nat.succ_ne_self _) ne.symm (Nat.ne_of_lt la), ⟨⟨.none, he⟩, b1 _ _ hi⟩, fun c hc => ?_, q⟩
    have hle : s1.heap.objs.size ≤ c := by
      simp only [List.mem_cons, List.not_mem_nil, or_false] at hc
      rcases hc with e | e <;> rw [e] <;> first | exact Nat.le_add_right _ _ | exact Nat.le_refl _
    exact I1.fpOk hle (I1.hok.fresh hle)
/-- item i of a source as it is now -/
def srcAt (x : D) : Nat → Store → Option (Option D) := match x with
  | .ref n => fun i st => (getL st n).map fun l => l[i]?
  | .tup l => fun i _ => some l[i]?
  | .fz l => fun i _ => some l[i]?
  | .xt l => fun i _ => some l[i]?
  | _ => fun _ _ => none
def itSeq (e : DE) : DIt := fun r st => (e r st).bind fun x st1 => match seqOf st1 x with
  | some l => .ok (srcAt x, l.length) st1
  | none => .err
def rgOk (a b : Int) : Bool := decide (-(2 ^ 62) ≤ a) && decide (a < 2 ^ 62) && decide (-(2 ^ 62) ≤ b) && decide (b < 2 ^ 62) && decide ((b - a).toNat ≤ sizeLine)
def rgAI (a : Int) (n : Nat) : AI := fun i _ => if i < n then some (some (.int (a + (i : Nat)))) else some none
def itRg1 (e : DE) : DIt := fun r st => (e r st).bind fun x st1 => match x with
  | .int b => if rgOk 0 b = true then .ok (rgAI 0 b.toNat, b.toNat) st1 else .err
  | _ => .err
def itRg2 (e e2 : DE) : DIt := fun r st => (e r st).bind fun x st1 => (e2 r st1).bind fun y st2 => match x, y with
  | .int a, .int b => if rgOk a b = true then .ok (rgAI a (b - a).toNat, (b - a).toNat) st2 else .err
  | _, _ => .err
/-- the i-th of the items now standing there, with i -/
def enAI (x : D) : AI := fun i st => match seqOf st x with
  | some l => if i ≤ l.length then some (l[i]?.map fun d => .tup [.int (i : Nat), d]) else none
  | none => none
def itEnum (e : DE) : DIt := fun r st => (e r st).bind fun x st1 => match seqOf st1 x with
  | some l => .ok (enAI x, l.length) st1
  | none => .err
def zipAI (x y : D) : AI := fun i st => match seqOf st x, seqOf st y with
  | some l, some m => if i ≤ l.length ∧ i ≤ m.length then (match l[i]?, m[i]? with
    | some d, some e => some (some (.tup [d, e]))
    | _, _ => some none) else none
  | _, _ => none
def itZip (a b : DE) : DIt := fun r st => (a r st).bind fun x st1 => (b r st1).bind fun y st2 => match seqOf st2 x, seqOf st2 y with
  | some l, some m => .ok (zipAI x y, min l.length m.length) st2
  | _, _ => .err
end Pd
set_option maxRecDepth 100000
set_option maxHeartbeats 4000000
namespace Pd
open PySem PySem.Spec PyProof.Rows L2
theorem PI.or' {X : Cx} {tg e : Expr} {t t' : TI} (h : PI X tg e t) (h' : PI X tg e t') : PI X tg e (fun s H Q => t s H Q ∨ t' s H Q) := ⟨fun pins s sg H Q I q => q.elim (h.run pins s sg H Q I) (h'.run pins s sg H Q I)⟩
section
variable {K : PySem.W.Frag} {f f' : List Addr} {H H' : Hp} {st st' : Store} {x : D} {v : V}
/-- a source that stands: at any later heap too -/
theorem src_later {l : List D} (t : RSt K f H st) (d : RD K f H x v) (e : seqOf st x = some l) : ∃ a, v = .ref a ∧ ∀ f' H' st', Ext f H f' H' → RSt K f' H' st' → ∀ l', seqOf st' x = some l' → ∃ vs, SqK K H' (isTup x) a vs ∧ RDs K f' H' l' vs := by
  obtain ⟨a, vs0, rfl, _, _, _⟩ := seqOf_ok t e d
  refine ⟨a, rfl, fun f' H' st' y t' l' e' => ?_⟩
  obtain ⟨b, vs, eb, hk, hr, _⟩ := seqOf_ok t' e' (d.up y.toEx0)
  cases eb
  refine ⟨vs, ?_, hr⟩
  rcases hk with ⟨z, hk⟩ | ⟨z, hk, _⟩
  · rw [z]; exact hk
  · rw [z]; exact hk
theorem srcAt_eq (x : D) (i : Nat) (st : Store) : srcAt x i st = (seqOf st x).map fun l => l[i]? := by
  cases x <;> rfl
theorem ri_src {l : List D} {a : Addr} (hl : l.length ≤ sizeLine) (hk : ∀ f' H' st', Ext f H f' H' → RSt K f' H' st' → ∀ l', seqOf st' x = some l' → ∃ vs, SqK K H' (isTup x) a vs ∧ RDs K f' H' l' vs) :
    RI K f H (srcAt x, l.length) (if isTup x = true then Itt K a else Itl K a) := by
  refine ⟨hl, fun f' H' st' y t' i => ?_⟩
  show (srcAt x i st' = some none → _) ∧ ∀ d, srcAt x i st' = some (some d) → _
  rw [srcAt_eq]
  cases e : seqOf st' x with
  | none => exact ⟨fun z => (by cases z), fun d z => (by cases z)⟩
  | some l' =>
    obtain ⟨vs, hs, hr⟩ := hk f' H' st' y t' l' e
    refine ⟨fun z => ?_, fun d z => ?_⟩
    · have z : l'[i]? = none := Option.some.inj z
      have hle : vs.length ≤ i := by rw [← hr.length]; exact List.getElem?_eq_none_iff.mp z
      cases q : isTup x with
      | true => rw [q] at hs; exact ⟨vs, hs, hle⟩
      | false => rw [q] at hs; exact ⟨vs, hs, hle⟩
    · have z : l'[i]? = some d := Option.some.inj z
      obtain ⟨u, e1, e2⟩ := Paired.get' hr.pr z
      cases q : isTup x with
      | true =>
        rw [q] at hs
        refine ⟨⟨vs, u, hs, e1⟩, fun w H'' ⟨eH, hw⟩ => ?_⟩
        rw [eH]
        have e3 : some w = some u := (hw vs hs).symm.trans e1
        cases e3
        exact ⟨.refl, t', e2⟩
      | false =>
        rw [q] at hs
        refine ⟨⟨vs, u, hs, e1⟩, fun w H'' ⟨eH, hw⟩ => ?_⟩
        rw [eH]
        have e3 : some w = some u := (hw vs hs).symm.trans e1
        cases e3
        exact ⟨.refl, t', e2⟩
end
section
variable {X : Cx} {E : XE} {tg e e2 : Expr} {de de2 : DE} {dl : DA} {p pos tpos : Pos} {elts : List Expr} {kk : Nat}
theorem pdi_seq (he : PE X e (rd X.K E de)) : PI X tg e (rdI X.K E (itSeq de)) := (PI.or' (pi_list he) (pi_tup he)).mn fun s H Q h => by
  obtain ⟨f, r, st, hs, ht, h⟩ := h
  unfold itSeq at h
  -- which kind it is, by the value that comes out
  cases e1 : de r st with
  | err => rw [e1] at h; exact h.elim
  | exc z st1 => exact .inl ⟨f, r, st, hs, ht, by rw [e1] at h ⊢; exact h⟩
  | ok x st1 =>
    rw [e1] at h
    have h : post X.K E (RI X.K) f H (match seqOf st1 x with
      | some l => .ok (srcAt x, l.length) st1
      | none => .err) Q := h
    cases e3 : seqOf st1 x with
    | none => rw [e3] at h; exact h.elim
    | some l =>
      rw [e3] at h
      have h : post X.K E (RI X.K) f H (.ok (srcAt x, l.length) st1) Q := h
      cases q : isTup x with
      | true =>
        refine .inr ⟨f, r, st, hs, ht, ?_⟩
        rw [e1]
        refine fun f1 H1 v x1 t1 d1 => ?_
        obtain ⟨a, rfl, hk⟩ := src_later t1 d1 e3
        obtain ⟨b, vs, eb, hc, _, hl⟩ := seqOf_ok t1 e3 d1
        cases eb
        have ri := ri_src hl hk
        rw [if_pos q] at ri
        rcases hc with ⟨z, _⟩ | ⟨_, hc, _⟩
        · rw [q] at z; cases z
        · exact ⟨a, rfl, ⟨vs, hc⟩, h f1 H1 _ x1 t1 ri⟩
      | false =>
        refine .inl ⟨f, r, st, hs, ht, ?_⟩
        rw [e1]
        refine fun f1 H1 v x1 t1 d1 => ?_
        obtain ⟨a, rfl, hk⟩ := src_later t1 d1 e3
        obtain ⟨b, vs, eb, hc, _, hl⟩ := seqOf_ok t1 e3 d1
        cases eb
        have ri := ri_src hl hk
        rw [if_neg (by rw [q]; decide)] at ri
        rcases hc with ⟨_, hc⟩ | ⟨z, _⟩
        · exact ⟨a, rfl, ⟨vs, hc⟩, h f1 H1 _ x1 t1 ri⟩
        · rw [q] at z; cases z
theorem ri_rg {K : PySem.W.Frag} {f : List Addr} {H : Hp} {a : Int} {n : Nat} (hn : n ≤ sizeLine) : RI K f H (rgAI a n, n) (Itr a n) := by
  refine ⟨hn, fun f' H' st' y t' i => ?_⟩
  show (rgAI a n i st' = some none → _) ∧ ∀ d, rgAI a n i st' = some (some d) → _
  unfold rgAI
  by_cases hi : i < n
  · rw [if_pos hi]
    refine ⟨fun z => (by cases z), fun d z => ?_⟩
    have z := Option.some.inj (Option.some.inj z)
    subst z
    refine ⟨hi, fun w H'' ⟨eH, hw⟩ => ?_⟩
    rw [eH, hw]
    exact ⟨.refl, t', .int _⟩
  · rw [if_neg hi]
    exact ⟨fun _ => Nat.le_of_not_lt hi, fun d z => (by cases z)⟩
theorem rgOk_ok {a b : Int} (h : rgOk a b = true) : (-(2 ^ 62) ≤ a ∧ a < 2 ^ 62 ∧ -(2 ^ 62) ≤ b ∧ b < 2 ^ 62) ∧ (b - a).toNat ≤ sizeLine := by
  unfold rgOk at h
  simp only [Bool.and_eq_true, decide_eq_true_eq] at h
  exact ⟨⟨h.1.1.1.1, h.1.1.1.2, h.1.1.2, h.1.2⟩, h.2⟩
theorem pdi_range1 (hg : Gl X "range") (hm : X.mg "range" = none) (he : PE X e (rd X.K E de)) (hs : starEach [e] X.env = [(false, eval e X.env)] := by rfl) (hs1 : starEach [e] X.env = (false, eval e X.env) :: starEach [] X.env := by rfl) : PI X tg (.Call (.Name "range" p) [e] [] pos) (rdI X.K E (itRg1 de)) := (pi_range1 hg hm (pa_cons he pa_nil hs1) hs).mn fun s H Q h => by
  obtain ⟨f, r, st, hs, ht, h⟩ := h
  refine ⟨f, r, st, hs, ht, (post.bind (R' := RD X.K) h).mono fun v H1 ⟨f1, d, st1, x1, t1, d1, h1⟩ => ?_⟩
  obtain ⟨b, rfl⟩ : ∃ b, d = .int b := by
    cases d <;> first | exact h1.elim | exact ⟨_, rfl⟩
  dsimp only at h1
  split at h1
  · rename_i hk
    obtain ⟨hb, hz⟩ := rgOk_ok hk
    refine ⟨b, by rw [d1.intv], hb.2.2.1, hb.2.2.2, h1 f1 H1 _ .refl t1 (ri_rg ?_)⟩
    rw [Int.sub_zero] at hz
    exact hz
  · exact h1.elim
theorem pdi_range2 (hg : Gl X "range") (hm : X.mg "range" = none) (he : PE X e (rd X.K E de)) (he2 : PE X e2 (rd X.K E de2)) (hs : starEach [e, e2] X.env = [(false, eval e X.env), (false, eval e2 X.env)] := by rfl) (hs2 : starEach [e2] X.env = [(false, eval e2 X.env)] := by rfl)
    (hs3 : starEach [e, e2] X.env = (false, eval e X.env) :: starEach [e2] X.env := by rfl) (hs4 : starEach [e2] X.env = (false, eval e2 X.env) :: starEach [] X.env := by rfl) : PI X tg (.Call (.Name "range" p) [e, e2] [] pos) (rdI X.K E (itRg2 de de2)) := (pi_range2 hg hm (pa_cons he (pa_cons he2 pa_nil hs4) hs3) hs hs2).mn fun s H Q h => by
  obtain ⟨f, r, st, hs, ht, h⟩ := h
  refine ⟨f, r, st, hs, ht, (post.bind (R' := RD X.K) h).mono fun v H1 ⟨f1, d, st1, x1, t1, d1, h1⟩ => ?_⟩
  refine ⟨f1, r, st1, hs.up x1.toEx0, t1, (post.bind (R' := RD X.K) h1).mono fun w H2 ⟨f2, d', st2, x2, t2, d2, h2⟩ => ?_⟩
  obtain ⟨a, b, rfl, rfl⟩ : ∃ a b, d = .int a ∧ d' = .int b := by
    cases d <;> cases d' <;> first | exact h2.elim | exact ⟨_, _, rfl, rfl⟩
  dsimp only at h2
  split at h2
  · rename_i hk
    obtain ⟨hb, hz⟩ := rgOk_ok hk
    exact ⟨a, b, by rw [d1.intv, d2.intv], hb, h2 f2 H2 _ .refl t2 (ri_rg hz)⟩
  · exact h2.elim
theorem ri_en {K : PySem.W.Frag} {f : List Addr} {H : Hp} {x : D} {l : List D} {a : Addr} (hl : l.length ≤ sizeLine) (hk : ∀ f' H' st', Ext f H f' H' → RSt K f' H' st' → ∀ l', seqOf st' x = some l' → ∃ vs, SqK K H' (isTup x) a vs ∧ RDs K f' H' l' vs) :
    RI K f H (enAI x, l.length) (ItE K (isTup x) a) := by
  refine ⟨hl, fun f' H' st' y t' i => ?_⟩
  show (enAI x i st' = some none → _) ∧ ∀ d, enAI x i st' = some (some d) → _
  unfold enAI
  cases e : seqOf st' x with
  | none => exact ⟨fun z => (by cases z), fun d z => (by cases z)⟩
  | some l' =>
    obtain ⟨vs, hs, hr⟩ := hk f' H' st' y t' l' e
    dsimp only
    by_cases hi : i ≤ l'.length
    · rw [if_pos hi]
      cases q : l'[i]? with
      | none =>
        refine ⟨fun _ => ⟨vs, hs, ?_⟩, fun d z => (by cases z)⟩
        have := List.getElem?_eq_none_iff.mp q
        rw [← hr.length]
        omega
      | some d0 =>
        refine ⟨fun z => (by cases z), fun d z => ?_⟩
        have z : D.tup [.int (i : Nat), d0] = d := Option.some.inj (Option.some.inj z)
        subst z
        obtain ⟨u, e1, e2⟩ := Paired.get' hr.pr q
        refine ⟨⟨vs, hs, (List.getElem?_eq_some_iff.mp e1).1⟩, fun w H'' ⟨T, xs, ew, hT, eH, hxs⟩ => ?_⟩
        obtain ⟨x', ex, e3⟩ := hxs vs hs
        have e4 : x' = u := Option.some.inj (e3.symm.trans e1)
        subst ex e4 eH ew
        have x2 : Ext f' H' f' (upd H' T (.tup [.int (i : Nat), x'])) := ext_new hT
        exact ⟨x2, t'.new hT, .tup upd_same (by show 2 ≤ sizeLine; decide) (.cons (.int _) (.cons (e2.up x2.toEx0) .nil))⟩
    · rw [if_neg hi]
      exact ⟨fun z => (by cases z), fun d z => (by cases z)⟩
theorem pdi_enum (hg : Gl X "enumerate") (hm : X.mg "enumerate" = none) (he : PE X e (rd X.K E de)) (hs : starEach [e] X.env = [(false, eval e X.env)] := by rfl) (hs1 : starEach [e] X.env = (false, eval e X.env) :: starEach [] X.env := by rfl) : PI X (.Tuple elts kk tpos) (.Call (.Name "enumerate" p) [e] [] pos) (rdI X.K E (itEnum de)) := (pi_enumK hg hm (pa_cons he pa_nil hs1) hs).mn fun s H Q h => by
  obtain ⟨f, r, st, hs, ht, h⟩ := h
  refine ⟨f, r, st, hs, ht, (post.bind (R' := RD X.K) h).mono fun v H1 ⟨f1, d, st1, x1, t1, d1, h1⟩ => ?_⟩
  cases e3 : seqOf st1 d with
  | none => rw [e3] at h1; exact h1.elim
  | some l =>
    rw [e3] at h1
    obtain ⟨a, rfl, hk⟩ := src_later t1 d1 e3
    obtain ⟨vs, hs', hr⟩ := hk f1 H1 st1 .refl t1 l e3
    obtain ⟨_, _, _, _, _, hl⟩ := seqOf_ok t1 e3 d1
    exact ⟨a, isTup d, vs, rfl, hs', h1 f1 H1 _ .refl t1 (ri_en hl hk)⟩
theorem ri_zip {K : PySem.W.Frag} {f : List Addr} {H : Hp} {x z : D} {l m : List D} {a b : Addr} (hl : l.length ≤ sizeLine) (hk : ∀ f' H' st', Ext f H f' H' → RSt K f' H' st' → ∀ l', seqOf st' x = some l' → ∃ vs, SqK K H' (isTup x) a vs ∧ RDs K f' H' l' vs)
    (hk2 : ∀ f' H' st', Ext f H f' H' → RSt K f' H' st' → ∀ l', seqOf st' z = some l' → ∃ vs, SqK K H' (isTup z) b vs ∧ RDs K f' H' l' vs) : RI K f H (zipAI x z, min l.length m.length) (ItZ K (isTup x) (isTup z) a b) := by
  refine ⟨Nat.le_trans (Nat.min_le_left _ _) hl, fun f' H' st' y t' i => ?_⟩
  show (zipAI x z i st' = some none → _) ∧ ∀ d, zipAI x z i st' = some (some d) → _
  unfold zipAI
  cases e : seqOf st' x with
  | none => exact ⟨fun z => (by cases z), fun d z => (by cases z)⟩
  | some l' =>
    cases e' : seqOf st' z with
    | none => exact ⟨fun z => (by cases z), fun d z => (by cases z)⟩
    | some m' =>
      obtain ⟨vs, hs, hr⟩ := hk f' H' st' y t' l' e
      obtain ⟨ws, hs2, hr2⟩ := hk2 f' H' st' y t' m' e'
      dsimp only
      by_cases hi : i ≤ l'.length ∧ i ≤ m'.length
      · rw [if_pos hi]
        cases q : l'[i]? with
        | none =>
          refine ⟨fun _ => ⟨vs, ws, hs, hs2, ?_⟩, fun d z => (by cases z)⟩
          have := List.getElem?_eq_none_iff.mp q
          rw [← hr.length, ← hr2.length]
          omega
        | some d0 =>
          cases q2 : m'[i]? with
          | none =>
            refine ⟨fun _ => ⟨vs, ws, hs, hs2, ?_⟩, fun d z => (by cases z)⟩
            have := List.getElem?_eq_none_iff.mp q2
            rw [← hr.length, ← hr2.length]
            omega
          | some d1 =>
            refine ⟨fun z => (by cases z), fun d z => ?_⟩
            have z : D.tup [d0, d1] = d := Option.some.inj (Option.some.inj z)
            subst z
            obtain ⟨u, e1, e2⟩ := Paired.get' hr.pr q
            obtain ⟨u', e1', e2'⟩ := Paired.get' hr2.pr q2
            refine ⟨⟨vs, ws, hs, hs2, (List.getElem?_eq_some_iff.mp e1).1, (List.getElem?_eq_some_iff.mp e1').1⟩, fun w H'' ⟨T, xs, ew, hT, eH, hxs⟩ => ?_⟩
            obtain ⟨x', y', ex, e3, e3'⟩ := hxs vs ws hs hs2
            have e4 : x' = u := Option.some.inj (e3.symm.trans e1)
            have e4' : y' = u' := Option.some.inj (e3'.symm.trans e1')
            subst ex e4 e4' eH ew
            have x2 : Ext f' H' f' (upd H' T (.tup [x', y'])) := ext_new hT
            exact ⟨x2, t'.new hT, .tup upd_same (by show 2 ≤ sizeLine; decide) (.cons (e2.up x2.toEx0) (.cons (e2'.up x2.toEx0) .nil))⟩
      · rw [if_neg hi]
        exact ⟨fun z => (by cases z), fun d z => (by cases z)⟩
theorem pdi_zip (hg : Gl X "zip") (hm : X.mg "zip" = none) (he : PE X e (rd X.K E de)) (he2 : PE X e2 (rd X.K E de2)) (hs3 : starEach [e, e2] X.env = (false, eval e X.env) :: starEach [e2] X.env := by rfl) (hs4 : starEach [e2] X.env = (false, eval e2 X.env) :: starEach [] X.env := by rfl)
    (hpl : (backTo pos (starEach [e2] X.env)).any (·.1) = false := by rfl) : PI X (.Tuple elts kk tpos) (.Call (.Name "zip" p) [e, e2] [] pos) (rdI X.K E (itZip de de2)) := (pi_zipK hg hm (pa_cons he (pa_cons he2 pa_nil hs4) hs3) hs3 hpl).mn fun s H Q h => by
  obtain ⟨f, r, st, hs, ht, h⟩ := h
  refine ⟨f, r, st, hs, ht, (post.bind (R' := RD X.K) h).mono fun v H1 ⟨f1, d, st1, x1, t1, d1, h1⟩ => ?_⟩
  refine ⟨f1, r, st1, hs.up x1.toEx0, t1, (post.bind (R' := RD X.K) h1).mono fun w H2 ⟨f2, d', st2, x2, t2, d2, h2⟩ => ?_⟩
  cases e3 : seqOf st2 d with
  | none => rw [e3] at h2; exact h2.elim
  | some l =>
    cases e4 : seqOf st2 d' with
    | none => rw [e3, e4] at h2; exact h2.elim
    | some m =>
      rw [e3, e4] at h2
      have d1 := d1.up x2.toEx0
      obtain ⟨a, rfl, hk⟩ := src_later t2 d1 e3
      obtain ⟨vs, hs', hr⟩ := hk f2 H2 st2 .refl t2 l e3
      obtain ⟨_, _, _, _, _, hl⟩ := seqOf_ok t2 e3 d1
      obtain ⟨b, rfl, hk2⟩ := src_later t2 d2 e4
      obtain ⟨ws, hs2, hr2⟩ := hk2 f2 H2 st2 .refl t2 m e4
      exact ⟨a, b, isTup d, isTup d', vs, ws, rfl, hs', hs2, h2 f2 H2 _ .refl t2 (ri_zip hl hk hk2)⟩
end
end Pd
set_option maxRecDepth 100000
set_option maxHeartbeats 4000000
namespace Pd
open PySem PySem.Spec PyProof.Rows L2
section
variable {X : Cx} {E : XE}
theorem CallR.of {fn : Value} {g : List D → Store → Res D}
    (h : ∀ (pins : List (Addr × Obj)) (s : Shared) (sg : L2.St) (H : Hp) (f : List Addr) (st : Store) (l : List D) (xs : List V) (us : List Value) (Q : VK), Inv X pins sg H s → Vals xs us → RSt X.K f H st → RDs X.K f H l xs →
      post X.K E (RD X.K) f H (g l st) Q → wpAny (model X.prog X.w) X.A (call fn us) (EP X pins sg Q) X.xe s) : CallR X fn (rL X.K E g) := fun pins s sg H xs us Q I r ⟨f, st, l, t, d, q⟩ => h pins s sg H f st l xs us Q I r t d q
variable {x : Str} {p pos : Pos} {e : Expr} {es : List Expr} {dl : DA} {id T : String} {g : List D → Store → Res D}
theorem rd_L {K : PySem.W.Frag} {s : L2.St} {H : Hp} {Q : VK} (h : rd K E (dL g dl) s H Q) : tCB (rL K E g) (rdA K E dl) s H Q := by
  obtain ⟨f, r, st, hs, ht, h⟩ := h
  exact ⟨f, r, st, hs, ht, (post.bind (R' := RDs K) h).mono fun vs H1 ⟨f1, l, st1, x1, t1, d1, h1⟩ => ⟨f1, st1, l, t1, d1, h1⟩⟩
theorem pd_callB (hc : CallR X (.builtin id) (rL X.K E g)) (hm : X.mg x = none) (hv : bootBuiltins x = some (.builtin id)) (ha : PA X (e :: es) (rdA X.K E dl)) (hg : Gl X x := by rfl) (hn : x ≠ "__name__" := by decide) (hdb : (x == ("__debug__" : Str)) = false := by decide)
    (he : starEach (e :: es) X.env = (false, eval e X.env) :: starEach es X.env := by rfl) (hpl : (backTo pos (starEach es X.env)).any (·.1) = false := by rfl) : PE X (.Call (.Name x p) (e :: es) [] pos) (rd X.K E (dL g dl)) := (pe_callB hc hg hm hv ha hn hdb he hpl).mn fun _ _ _ h => rd_L h
theorem pd_callTy (hc : CallR X (.type T) (rL X.K E g)) (hm : X.mg x = none) (hv : bootBuiltins x = some (.type T)) (ha : PA X (e :: es) (rdA X.K E dl)) (hg : Gl X x := by rfl) (hn : x ≠ "__name__" := by decide) (hdb : (x == ("__debug__" : Str)) = false := by decide)
    (he : starEach (e :: es) X.env = (false, eval e X.env) :: starEach es X.env := by rfl) (hpl : (backTo pos (starEach es X.env)).any (·.1) = false := by rfl) : PE X (.Call (.Name x p) (e :: es) [] pos) (rd X.K E (dL g dl)) := (pe_callTy hc hg hm hv ha hn hdb he hpl).mn fun _ _ _ h => rd_L h
end
def oLen : List D → Store → Res D
  | [x], st => match seqOf st x with
    | some l => .ok (.int l.length) st
    | none => .err
  | _, _ => .err
def oInt : List D → Store → Res D
  | [.int i], st => .ok (.int i) st
  | [.bl b], st => .ok (.int (if b = true then 1 else 0)) st
  | _, _ => .err
def oList : List D → Store → Res D
  | [x], st => match seqOf st x with
    | some l => newL l st
    | none => .err
  | _, _ => .err
def oTuple : List D → Store → Res D
  | [x], st => match seqOf st x with
    | some l => if isXt x = true then .err else .ok (.tup l) st
    | none => .err
  | _, _ => .err
def asInt : D → Option Int
  | .int i => some i
  | _ => none
def asBool : D → Option Bool
  | .bl b => some b
  | _ => none
def maxI : List Int → Option Int
  | [] => none
  | i :: l => some (l.foldl max i)
def minI : List Int → Option Int
  | [] => none
  | i :: l => some (l.foldl min i)
/-- the ints of a list (no tuple) -/
def intsOf (st : Store) (x : D) : Option (List Int) := if isTup x = true then none else (seqOf st x).bind fun l => l.mapM asInt
def boolsOf (st : Store) (x : D) : Option (List Bool) := if isTup x = true then none else (seqOf st x).bind fun l => l.mapM asBool
def oMax : List D → Store → Res D
  | [.int i, .int j], st => .ok (.int (if j > i then j else i)) st
  | [x], st => match (intsOf st x).bind maxI with
    | some m => .ok (.int m) st
    | none => .err
  | _, _ => .err
def oMin : List D → Store → Res D
  | [.int i, .int j], st => .ok (.int (if j < i then j else i)) st
  | [x], st => match (intsOf st x).bind minI with
    | some m => .ok (.int m) st
    | none => .err
  | _, _ => .err
def oAny : List D → Store → Res D
  | [x], st => match boolsOf st x with
    | some l => .ok (.bl (l.any id)) st
    | none => .err
  | _, _ => .err
def oAll : List D → Store → Res D
  | [x], st => match boolsOf st x with
    | some l => .ok (.bl (l.all id)) st
    | none => .err
  | _, _ => .err
section
variable {K : PySem.W.Frag} {f : List Addr} {H : Hp} {st : Store} {E : XE}
theorem RDs.one {d : D} {vs : List V} (h : RDs K f H [d] vs) : ∃ v, vs = [v] ∧ RD K f H d v := by
  cases h with
  | cons a b => cases b; exact ⟨_, rfl, a⟩
theorem RDs.two {d e : D} {vs : List V} (h : RDs K f H [d, e] vs) : ∃ v w, vs = [v, w] ∧ RD K f H d v ∧ RD K f H e w := by
  cases h with
  | cons a b => cases b with
    | cons c d => cases d; exact ⟨_, _, rfl, a, c⟩
theorem RDs.ints : ∀ {l : List D} {vs : List V} {ns : List Int}, RDs K f H l vs → l.mapM asInt = some ns → vs = ns.map V.int
  | [], _, ks, h, e => by
    cases h
    have e : ks = [] := (Option.some.inj (show some [] = some ks from e)).symm
    subst e
    rfl
  | d :: l, _, ks, h, e => by
    cases h with
    | cons a b =>
      obtain ⟨k, r, e1, e2, rfl⟩ := mapM_cons e
      obtain rfl : d = .int k := by
        cases d <;> first | cases e1 | skip
        rfl
      rw [a.intv, RDs.ints b e2]
      rfl
theorem RDs.bools : ∀ {l : List D} {vs : List V} {ns : List Bool}, RDs K f H l vs → l.mapM asBool = some ns → vs = ns.map V.bl
  | [], _, ks, h, e => by
    cases h
    have e : ks = [] := (Option.some.inj (show some [] = some ks from e)).symm
    subst e
    rfl
  | d :: l, _, ks, h, e => by
    cases h with
    | cons a b =>
      obtain ⟨k, r, e1, e2, rfl⟩ := mapM_cons e
      obtain rfl : d = .bl k := by
        cases d <;> first | cases e1 | skip
        rfl
      cases a
      rw [RDs.bools b e2]
      rfl
theorem intsOf_ok (t : RSt K f H st) {x : D} {v : V} {ns : List Int} (e : intsOf st x = some ns) (h : RD K f H x v) : ∃ a, v = .ref a ∧ SqL K H a (ns.map V.int) := by
  unfold intsOf at e
  split at e
  · cases e
  · rename_i q
    cases e2 : seqOf st x with
    | none => rw [e2] at e; cases e
    | some l =>
      rw [e2] at e
      obtain ⟨a, vs, rfl, hk, hr, _⟩ := seqOf_ok t e2 h
      rw [RDs.ints hr e] at hk
      rcases hk with ⟨_, hk⟩ | ⟨z, _⟩
      · exact ⟨a, rfl, hk⟩
      · exact absurd z q
theorem boolsOf_ok (t : RSt K f H st) {x : D} {v : V} {ns : List Bool} (e : boolsOf st x = some ns) (h : RD K f H x v) : ∃ a, v = .ref a ∧ SqL K H a (ns.map V.bl) := by
  unfold boolsOf at e
  split at e
  · cases e
  · rename_i q
    cases e2 : seqOf st x with
    | none => rw [e2] at e; cases e
    | some l =>
      rw [e2] at e
      obtain ⟨a, vs, rfl, hk, hr, _⟩ := seqOf_ok t e2 h
      rw [RDs.bools hr e] at hk
      rcases hk with ⟨_, hk⟩ | ⟨z, _⟩
      · exact ⟨a, rfl, hk⟩
      · exact absurd z q
end
theorem foldl_max (l : List Int) : ∀ i, l.foldl max i ∈ i :: l ∧ ∀ y ∈ i :: l, y ≤ l.foldl max i := by
  induction l with
  | nil => intro i; exact ⟨List.mem_cons_self, fun y hy => by rw [List.mem_singleton] at hy; rw [hy]; exact Int.le_refl _⟩
  | cons j l ih =>
    intro i
    obtain ⟨h1, h2⟩ := ih (max i j)
    refine ⟨?_, fun y hy => ?_⟩
    · show l.foldl max (max i j) ∈ _
      rcases List.mem_cons.mp h1 with e | h
      · rw [e]
        by_cases h : i ≤ j
        · rw [Int.max_eq_right h]; simp
        · rw [Int.max_eq_left (by omega)]; simp
      · exact List.mem_cons_of_mem _ (List.mem_cons_of_mem _ h)
    · have h0 := h2 (max i j) List.mem_cons_self
      show y ≤ l.foldl max (max i j)
      rcases List.mem_cons.mp hy with e | hy
      · rw [e]; omega
      · rcases List.mem_cons.mp hy with e | hy
        · rw [e]; omega
        · exact h2 y (List.mem_cons_of_mem _ hy)
theorem foldl_min (l : List Int) : ∀ i, l.foldl min i ∈ i :: l ∧ ∀ y ∈ i :: l, l.foldl min i ≤ y := by
  induction l with
  | nil => intro i; exact ⟨List.mem_cons_self, fun y hy => by rw [List.mem_singleton] at hy; rw [hy]; exact Int.le_refl _⟩
  | cons j l ih =>
    intro i
    obtain ⟨h1, h2⟩ := ih (min i j)
    refine ⟨?_, fun y hy => ?_⟩
    · show l.foldl min (min i j) ∈ _
      rcases List.mem_cons.mp h1 with e | h
      · rw [e]
        by_cases h : i ≤ j
        · rw [Int.min_eq_left h]; simp
        · rw [Int.min_eq_right (by omega)]; simp
      · exact List.mem_cons_of_mem _ (List.mem_cons_of_mem _ h)
    · have h0 := h2 (min i j) List.mem_cons_self
      show l.foldl min (min i j) ≤ y
      rcases List.mem_cons.mp hy with e | hy
      · rw [e]; omega
      · rcases List.mem_cons.mp hy with e | hy
        · rw [e]; omega
        · exact h2 y (List.mem_cons_of_mem _ hy)
section
variable {X : Cx} {E : XE}
theorem cd_len : CallR X (.builtin "len") (rL X.K E oLen) := CallR.of fun pins s sg H f st l xs us Q I r t d q => by
  match l, d, q with
  | [x], d, q =>
    unfold oLen at q
    dsimp only at q
    split at q
    · rename_i l e
      obtain ⟨v, rfl, dv⟩ := d.one
      obtain ⟨a, vs, rfl, hk, hr, _⟩ := seqOf_ok t e dv
      refine call_len_seq pins s sg H _ us Q I r ⟨a, vs, rfl, ?_, ?_⟩
      · rcases hk with ⟨_, hk⟩ | ⟨_, hk, _⟩
        · exact .inl hk
        · exact .inr hk
      · rw [← hr.length]
        exact q.now t (.int _)
    · exact q.elim
  | [], d, q => exact q.elim
  | _ :: _ :: _, d, q => exact q.elim
theorem cd_int : CallR X (.type "int") (rL X.K E oInt) := CallR.of fun pins s sg H f st l xs us Q I r t d q => by
  match l, d, q with
  | [.int i], d, q =>
    obtain ⟨v, rfl, dv⟩ := d.one
    exact call_int1 pins s sg H _ us Q I r (.inl ⟨i, by rw [dv.intv], q.now t (.int _)⟩)
  | [.bl b], d, q =>
    obtain ⟨v, rfl, dv⟩ := d.one
    cases dv
    exact call_int1 pins s sg H _ us Q I r (.inr ⟨b, rfl, q.now t (.int _)⟩)
  | [], d, q => exact q.elim
  | _ :: _ :: _, d, q => unfold oInt at q; split at q <;> first | exact q.elim | simp_all
  | [.non], d, q => exact q.elim
  | [.str _], d, q => exact q.elim
  | [.tup _], d, q => exact q.elim
  | [.fz _], d, q => exact q.elim
  | [.xt _], d, q => exact q.elim
  | [.ref _], d, q => exact q.elim
theorem cd_list : CallR X (.type "list") (rL X.K E oList) := CallR.of fun pins s sg H f st l xs us Q I r t d q => by
  match l, d, q with
  | [x], d, q =>
    unfold oList at q
    dsimp only at q
    split at q
    · rename_i l e
      obtain ⟨v, rfl, dv⟩ := d.one
      obtain ⟨a, vs, rfl, hk, hr, hl⟩ := seqOf_ok t e dv
      refine call_list_of pins s sg H _ us Q I r ⟨a, vs, rfl, ?_, fun n hn => RD.lst_new t hn hr hl q⟩
      rcases hk with ⟨_, hk⟩ | ⟨_, hk, _⟩
      · exact .inl hk
      · exact .inr hk
    · exact q.elim
  | [], d, q => exact q.elim
  | _ :: _ :: _, d, q => exact q.elim
theorem cd_tuple : CallR X (.type "tuple") (rL X.K E oTuple) := CallR.of fun pins s sg H f st l xs us Q I r t d q => by
  match l, d, q with
  | [x], d, q =>
    unfold oTuple at q
    dsimp only at q
    split at q
    · rename_i l e
      obtain ⟨v, rfl, dv⟩ := d.one
      obtain ⟨a, vs, rfl, hk, hr, hl⟩ := seqOf_ok t e dv
      split at q
      · exact q.elim
      rename_i nx
      refine call_tuple_of pins s sg H _ us Q I r ⟨a, vs, rfl, ?_⟩
      rcases hk with ⟨_, hk⟩ | ⟨_, _, hk⟩
      · exact .inl ⟨hk, fun n hn => RD.tup_new t hn hr hl q⟩
      · have hk := hk (by simpa using nx)
        exact .inr ⟨.of hk, q.now t (.tup hk hl hr)⟩
    · exact q.elim
  | [], d, q => exact q.elim
  | _ :: _ :: _, d, q => exact q.elim
theorem cd_any (hc : X.calm = true) : CallR X (.builtin "any") (rL X.K E oAny) := CallR.of fun pins s sg H f st l xs us Q I r t d q => by
  match l, d, q with
  | [x], d, q =>
    unfold oAny at q
    dsimp only at q
    split at q
    · rename_i ns e
      obtain ⟨v, rfl, dv⟩ := d.one
      obtain ⟨a, rfl, hk⟩ := boolsOf_ok t e dv
      exact cr_any hc pins s sg H _ us Q I r ⟨a, ns, rfl, hk, q.now t (.bl _)⟩
    · exact q.elim
  | [], d, q => exact q.elim
  | _ :: _ :: _, d, q => exact q.elim
theorem cd_all (hc : X.calm = true) : CallR X (.builtin "all") (rL X.K E oAll) := CallR.of fun pins s sg H f st l xs us Q I r t d q => by
  match l, d, q with
  | [x], d, q =>
    unfold oAll at q
    dsimp only at q
    split at q
    · rename_i ns e
      obtain ⟨v, rfl, dv⟩ := d.one
      obtain ⟨a, rfl, hk⟩ := boolsOf_ok t e dv
      exact cr_all hc pins s sg H _ us Q I r ⟨a, ns, rfl, hk, q.now t (.bl _)⟩
    · exact q.elim
  | [], d, q => exact q.elim
  | _ :: _ :: _, d, q => exact q.elim
end
end Pd
set_option maxRecDepth 100000
set_option maxHeartbeats 4000000
namespace Pd
open PySem PySem.Spec PyProof.Rows L2
section
variable {X : Cx} {E : XE}
theorem cd_max (hc : X.calm = true) : CallR X (.builtin "max") (rL X.K E oMax) := CallR.of fun pins s sg H f st l xs us Q I r t d q => by
  have one : ∀ x, l = [x] → (match (intsOf st x).bind maxI with
    | some m => post X.K E (RD X.K) f H (.ok (.int m) st) Q
    | none => False) → wpAny (model X.prog X.w) X.A (call (.builtin "max") us) (EP X pins sg Q) X.xe s := fun x el q' => by
    subst el
    cases e : intsOf st x with
    | none => rw [e] at q'; exact q'.elim
    | some ns =>
      rw [e] at q'
      cases ns with
      | nil => exact q'.elim
      | cons i ns =>
        have q2 : post X.K E (RD X.K) f H (.ok (.int (ns.foldl max i)) st) Q := q'
        obtain ⟨v, rfl, dv⟩ := d.one
        obtain ⟨a, rfl, hk⟩ := intsOf_ok t e dv
        refine cr_max hc pins s sg H _ us Q I r ⟨a, i :: ns, rfl, hk, Nat.succ_pos _, fun m hm hle => ?_⟩
        obtain ⟨h1, h2⟩ := foldl_max ns i
        have em : m = ns.foldl max i := Int.le_antisymm (h2 m hm) (hle _ h1)
        rw [em]
        exact q2.now t (.int _)
  unfold oMax at q
  split at q
  · obtain ⟨v, w, rfl, d1, d2⟩ := d.two
    exact call_max2 hc pins s sg H _ us Q I r ⟨_, _, by rw [d1.intv, d2.intv], q.now t (.int _)⟩
  · rename_i x
    refine one x rfl ?_
    split at q
    · rename_i m e
      first
        | (rw [e]; exact q)
        | exact q
    · exact q.elim
  · exact q.elim
theorem cd_min (hc : X.calm = true) : CallR X (.builtin "min") (rL X.K E oMin) := CallR.of fun pins s sg H f st l xs us Q I r t d q => by
  have one : ∀ x, l = [x] → (match (intsOf st x).bind minI with
    | some m => post X.K E (RD X.K) f H (.ok (.int m) st) Q
    | none => False) → wpAny (model X.prog X.w) X.A (call (.builtin "min") us) (EP X pins sg Q) X.xe s := fun x el q' => by
    subst el
    cases e : intsOf st x with
    | none => rw [e] at q'; exact q'.elim
    | some ns =>
      rw [e] at q'
      cases ns with
      | nil => exact q'.elim
      | cons i ns =>
        have q2 : post X.K E (RD X.K) f H (.ok (.int (ns.foldl min i)) st) Q := q'
        obtain ⟨v, rfl, dv⟩ := d.one
        obtain ⟨a, rfl, hk⟩ := intsOf_ok t e dv
        refine cr_min hc pins s sg H _ us Q I r ⟨a, i :: ns, rfl, hk, Nat.succ_pos _, fun m hm hle => ?_⟩
        obtain ⟨h1, h2⟩ := foldl_min ns i
        have em : m = ns.foldl min i := Int.le_antisymm (hle _ h1) (h2 m hm)
        rw [em]
        exact q2.now t (.int _)
  unfold oMin at q
  split at q
  · obtain ⟨v, w, rfl, d1, d2⟩ := d.two
    exact call_min2 hc pins s sg H _ us Q I r ⟨_, _, by rw [d1.intv, d2.intv], q.now t (.int _)⟩
  · rename_i x
    refine one x rfl ?_
    split at q
    · rename_i m e
      first
        | (rw [e]; exact q)
        | exact q
    · exact q.elim
  · exact q.elim
end
def rgL (a b : Int) : List D := (List.range (b - a).toNat).map fun i => .int (a + (i : Nat))
abbrev DR := Env' → Store → Res (Int × Int)
def dRg1 (e : DE) : DR := fun r st => (e r st).bind fun x st1 => match x with
  | .int b => if rgOk 0 b = true then .ok (0, b) st1 else .err
  | _ => .err
def dLstRg (t : DR) : DE := fun r st => (t r st).bind fun ab st1 => newL (rgL ab.1 ab.2) st1
section
variable {K : PySem.W.Frag} {f : List Addr} {H : Hp}
theorem rgL_rel (a b : Int) : RDs K f H (rgL a b) (rgV a b) := by
  unfold rgL rgV
  refine .of _ _ _ ?_
  induction List.range (b - a).toNat with
  | nil => exact .nil
  | cons i l ih => exact .cons (.int _) ih
end
section
variable {X : Cx} {E : XE} {e e2 : Expr} {de de2 : DE} {p p' pos pos' : Pos}
theorem rgOk_R {a b : Int} (h : rgOk a b = true) : RgOk a b ∧ (b - a).toNat ≤ sizeLine := by
  obtain ⟨h1, h2⟩ := rgOk_ok h
  exact ⟨⟨h1.1, h1.2.1, h1.2.2.1, h1.2.2.2, by rw [sizeLine_eq] at h2; exact h2⟩, h2⟩
theorem pd_listRg1 (hc : X.calm = true) (hm : X.mg "range" = none) (hml : X.mg "list" = none) (he : PE X e (rd X.K E de)) (hg : Gl X "range" := by rfl) (hgl : Gl X "list" := by rfl) (na : starEach [e] X.env = (false, eval e X.env) :: starEach [] X.env := by rfl)
    (nr : starEach [.Call (.Name "range" p) [e] [] pos] X.env = (false, eval (.Call (.Name "range" p) [e] [] pos) X.env) :: starEach [] X.env := by rfl) : PE X (.Call (.Name "list" p') [.Call (.Name "range" p) [e] [] pos] [] pos') (rd X.K E (dLstRg (dRg1 de))) :=
  (pe_listRg hc hgl hml (prg_1 hg hm he na) nr).mn fun s H Q h => by
    obtain ⟨f, r, st, hs, ht, h⟩ := h
    unfold dLstRg dRg1 at h
    have h : post X.K E (RD X.K) f H ((de r st).bind fun x st1 => (match x with
      | .int b => if rgOk 0 b = true then Res.ok ((0 : Int), b) st1 else .err
      | _ => .err).bind fun ab st1 => newL (rgL ab.1 ab.2) st1) Q := by
      cases q : de r st with
      | ok x st1 => rw [q] at h; exact h
      | exc x st1 => rw [q] at h; exact h
      | err => rw [q] at h; exact h
    refine ⟨f, r, st, hs, ht, (post.bind (R' := RD X.K) h).mono fun v H1 ⟨f1, d, st1, x1, t1, d1, h1⟩ => ?_⟩
    obtain ⟨b, rfl⟩ : ∃ b, d = .int b := by
      cases d <;> first | exact h1.elim | exact ⟨_, rfl⟩
    refine ⟨b, d1.intv, ?_⟩
    dsimp only at h1
    split at h1
    · rename_i hk
      obtain ⟨k1, k2⟩ := rgOk_R hk
      exact ⟨k1, fun n hn => RD.lst_new t1 hn (rgL_rel 0 b) (by unfold rgL; rw [List.length_map, List.length_range]; exact k2) h1⟩
    · exact h1.elim
end
def isL (x : D) (st : Store) : Bool := match x with
  | .ref n => (getL st n).isSome
  | _ => false
def dMt (g : D → List D → Store → Res D) (a : DE) (l : DA) : DE := fun r st => (a r st).bind fun x st1 => if isL x st1 = true then (l r st1).bind fun ys st2 => g x ys st2 else .err
def oAppend (x : D) (l : List D) (st : Store) : Res D := match x, l with
  | .ref n, [y] => match getL st n with
    | some l => if l.length < sizeLine then .ok .non (st.set n (.lst (l ++ [y]))) else .err
    | none => .err
  | _, _ => .err
def oExtend (x : D) (l : List D) (st : Store) : Res D := match x, l with
  | .ref n, [.ref m] => match getL st n, getL st m with
    | some l, some k => if l.length + k.length ≤ sizeLine then .ok .non (st.set n (.lst (l ++ k))) else .err
    | _, _ => .err
  | _, _ => .err
def rM (K : PySem.W.Frag) (E : XE) (g : D → List D → Store → Res D) : V → List V → Hp → VK → Prop := fun x xs H Q => ∃ f st d l, RSt K f H st ∧ RD K f H d x ∧ RDs K f H l xs ∧ post K E (RD K) f H (g d l st) Q
section
variable {X : Cx} {E : XE} {o e : Expr} {es : List Expr} {name : Str} {apos cpos : Pos} {id : String} {g : D → List D → Store → Res D} {da : DE} {dl : DA}
theorem rd_Mt {K : PySem.W.Frag} {s : L2.St} {H : Hp} {Q : VK} (h : rd K E (dMt g da dl) s H Q) : tBM K "list" (rM K E g) (rd K E da) (rdA K E dl) s H Q := by
  obtain ⟨f, r, st, hs, ht, h⟩ := h
  refine ⟨f, r, st, hs, ht, (post.bind (R' := RD K) h).mono fun x H1 ⟨f1, d, st1, x1, t1, d1, h1⟩ => ?_⟩
  split at h1
  · rename_i hl
    unfold isL at hl
    split at hl
    · rename_i n
      cases e1 : getL st1 n with
      | none => rw [e1] at hl; cases hl
      | some l =>
        obtain ⟨a, vs, rfl, fa, ha, _, _⟩ := RD.lstv t1 d1 (getL_some e1)
        refine ⟨.inl ⟨rfl, vs, .of ha⟩, f1, r, st1, hs.up x1.toEx0, t1, (post.bind (R' := RDs K) h1).mono fun ys H2 ⟨f2, ly, st2, x2, t2, d2, h2⟩ => ?_⟩
        exact ⟨f2, st2, .ref n, ly, t2, d1.up x2.toEx0, d2, h2⟩
    · cases hl
  · exact h1.elim
theorem pd_mt (slot : Slot "list" name id) (hty : typeOf (.builtin id) = pure (.type "method_descriptor")) (hm : MtR X id (rM X.K E g)) (ho : PE X o (rd X.K E da)) (ha : PA X (e :: es) (rdA X.K E dl))
    (hbase : attributeBase o name X.env (eval o X.env) = eval o X.env := by rfl)
    (hfew : ((backTo cpos (starEach (e :: es) X.env)).all (fun x => !x.1) && (backToKw cpos (keywordEach [] X.env)).all (fun x => x.1.isSome)
      && decide ((e :: es).length + ([] : List Keyword).length + (if ([] : List Keyword).isEmpty then 0 else 1) < 30)) = true := by rfl)
    (hline : (apos.endLine == cpos.line) = true := by rfl) (hs : starEach (e :: es) X.env = (false, eval e X.env) :: starEach es X.env := by rfl) (hplain : (backTo cpos (starEach es X.env)).any (·.1) = false := by rfl) :
    PE X (.Call (.Attribute o name apos) (e :: es) [] cpos) (rd X.K E (dMt g da dl)) := (pe_bm PySem.F.plainAttrs_list slot hty hm ho ha hbase hfew hline hs hplain).mn fun _ _ _ h => rd_Mt h
theorem md_append : MtR X "list.append" (rM X.K E oAppend) := MtR.mn mt_append fun x xs H Q ⟨f, st, d, l, t, d1, d2, q⟩ => by
  unfold oAppend at q
  split at q
  · rename_i n y
    split at q
    · rename_i l e
      split at q
      · rename_i hz
        obtain ⟨a, vs, rfl, fa, ha, hr, _⟩ := RD.lstv t d1 (getL_some e)
        obtain ⟨v, rfl, dv⟩ := d2.one
        refine ⟨a, vs, v, rfl, rfl, ha, by rw [← hr.length]; exact hz, ?_⟩
        have x : Ext f H f (upd H a (.lst (vs ++ [v]))) := ext_set t fa
        exact q f _ .non x (t.set fa ⟨_, upd_same, (hr.app (.cons dv .nil)).up x.toEx0, by rw [List.length_append]; exact hz⟩) .non
      · exact q.elim
    · exact q.elim
  · exact q.elim
theorem md_extend : MtR X "list.extend" (rM X.K E oExtend) := MtR.mn mt_extend fun x xs H Q ⟨f, st, d, l, t, d1, d2, q⟩ => by
  unfold oExtend at q
  split at q
  · rename_i n m
    split at q
    · rename_i l k e e'
      split at q
      · rename_i hz
        obtain ⟨a, vs, rfl, fa, ha, hr, _⟩ := RD.lstv t d1 (getL_some e)
        obtain ⟨v, rfl, dv⟩ := d2.one
        obtain ⟨b, ws, rfl, fb, hb, hr2, _⟩ := RD.lstv t dv (getL_some e')
        refine ⟨a, b, vs, ws, rfl, rfl, ha, hb, by rw [← hr.length, ← hr2.length]; exact hz, ?_⟩
        have x : Ext f H f (upd H a (.lst (vs ++ ws))) := ext_set t fa
        exact q f _ .non x (t.set fa ⟨_, upd_same, (hr.app hr2).up x.toEx0, by rw [List.length_append]; exact hz⟩) .non
      · exact q.elim
    · exact q.elim
  · exact q.elim
end
end Pd
set_option maxRecDepth 100000
set_option maxHeartbeats 4000000
namespace Pd
open PySem PySem.Spec PyProof.Rows L2
def setIx (x y v : D) (st : Store) : Option Store := match x with
  | .ref n => match st[n]? with
    | some (.lst l) => match y with
      | .int i => match ixN l.length i with
        | some j => some (st.set n (.lst (l.set j v)))
        | none => none
      | _ => none
    | some (.dK kvs) => match keyOf y with
      | some k => if kvs.length < sizeLine then some (st.set n (.dK (putD kvs k v))) else none
      | none => none
    | some (.dT kvs) => match keysOf y with
      | some k => if kvs.length < sizeLine then some (st.set n (.dT (putD kvs k v))) else none
      | none => none
    | none => none
  | _ => none
theorem putD_length {A : Type} [DecidableEq A] (kvs : List (A × D)) (k : A) (v : D) : (putD kvs k v).length ≤ kvs.length + 1 := by
  unfold putD
  split
  · rw [List.length_map]; omega
  · rw [List.length_append]; exact Nat.le_refl _
def rSet (K : PySem.W.Frag) : V → V → V → Hp → (Hp → Prop) → Prop := fun o i v H Q => ∃ f st d e w st', RSt K f H st ∧ RD K f H d o ∧ RD K f H e i ∧ RD K f H w v ∧ setIx d e w st = some st' ∧ ∀ f' H', Ext f H f' H' → RSt K f' H' st' → Q H'
section
variable {X : Cx} {E : XE}
theorem set_any (hu : X.A.units + 1 < cLine) : PSet X (rSet X.K) := fun pins s sg H o i v ov iv u Q I ro ri rv ⟨f, st, d, e, w, st', t, d1, d2, d3, hs, q⟩ => by
  unfold setIx at hs
  split at hs
  · rename_i n
    obtain ⟨a, rfl, fa⟩ := d1.refv
    split at hs
    · rename_i l es
      split at hs
      · rename_i k
        split at hs
        · rename_i j ej
          have hs := Option.some.inj hs
          subst hs
          obtain ⟨vs, ha, hr, hz⟩ := t.at_ n _ a es fa
          refine set_list pins s sg H _ _ v ov iv u Q I ro ri rv ⟨a, vs, k, j, rfl, d2.intv, ha, by rw [← hr.length]; exact ej, ?_⟩
          have x : Ext f H f (upd H a (.lst (vs.set j v))) := ext_set t fa
          exact q f _ x (t.set fa ⟨_, upd_same, .of _ _ _ (Paired.st (d3.up x.toEx0) (hr.up x.toEx0).pr j), by rw [List.length_set]; exact hz⟩)
        · cases hs
      · cases hs
    · rename_i kvs es
      split at hs
      · rename_i k ek
        split at hs
        · rename_i hz
          have hs := Option.some.inj hs
          subst hs
          obtain ⟨vs, ha, hr, _⟩ := t.at_ n _ a es fa
          cases ro
          have ei := d2.keyv ek
          rw [ei] at ri
          have x : Ext f H f (upd H a (.dK (putK vs k v))) := ext_set t fa
          refine d_setItem hu I (DPut.k ha (by rw [← Paired.length hr]; exact hz)) ri rv fun s' I' => ⟨_, I', q f _ x (t.set fa ⟨_, upd_same, put_rel (RKs.up x.toEx0 hr) (d3.up x.toEx0) k, ?_⟩)⟩
          have := putD_length kvs k w
          omega
        · cases hs
      · cases hs
    · rename_i kvs es
      split at hs
      · rename_i k ek
        split at hs
        · rename_i hz
          have hs := Option.some.inj hs
          subst hs
          obtain ⟨vs, ha, hr, _⟩ := t.at_ n _ a es fa
          cases ro
          obtain ⟨b, rfl, hb⟩ := d2.keysv ek
          have x : Ext f H f (upd H a (.dT (putK vs k v))) := ext_set t fa
          refine d_setItem hu I (DPut.t ha hb (by rw [← Paired.length hr]; exact hz)) ri rv fun s' I' => ⟨_, I', q f _ x (t.set fa ⟨_, upd_same, put_rel (RTs.up x.toEx0 hr) (d3.up x.toEx0) k, ?_⟩)⟩
          have := putD_length kvs k w
          omega
        · cases hs
      · cases hs
    · cases hs
  · cases hs
def dSetIx (e o i : DE) : DS := fun r st => (e r st).out fun v st1 => (o r st1).out fun x st2 => (i r st2).out fun y st3 => match setIx x y v st3 with
  | some st4 => .nx r st4
  | none => .err
theorem pds_setIx {pos pos' : Pos} {e o i : Expr} {de dO di : DE} (hu : X.A.units + 1 < cLine) (he : PE X e (rd X.K E de)) (ho : PE X o (rd X.K E dO)) (hi : PE X i (rd X.K E di)) (hs : swapsWithSole [.Subscript o i pos'] e pos.line X.env = pure false := by rfl) (hw : swappedStores [.Subscript o i pos'] e X.env = pure none := by rfl)
    (h1 : (assignEach [.Subscript o i pos'] X.env).map (·.2) = [assign (.Subscript o i pos') X.env] := by rfl)
    (ha : ∀ v, assign (.Subscript o i pos') X.env v = (do
      let ov ← holding [v] (eval o X.env)
      let iv ← holding [v, ov] (eval i X.env)
      standAt pos'
      holding [v, ov, iv] (setItem ov iv v)
      release [v, ov, iv] []) := by intro _; rfl) : PS X (.Assign [.Subscript o i pos'] e pos) (rdS X.K E (dSetIx de dO di)) := (ps_asg he (pg_sub ho hi (set_any hu) ha) hs hw h1).mn fun D s H h => by
  obtain ⟨f, r, st, hs, ht, h⟩ := h
  refine ⟨f, r, st, hs, ht, (postS.bind (R := RD X.K) h).mono fun v H1 ⟨f1, w, st1, x1, t1, d1, h1⟩ => ?_⟩
  have hs1 := hs.up x1.toEx0
  refine ⟨f1, r, st1, hs1, t1, (postS.bind (R := RD X.K) h1).mono fun o' H2 ⟨f2, x, st2, x2, t2, d2, h2⟩ => ?_⟩
  have hs2 := hs1.up x2.toEx0
  refine ⟨f2, r, st2, hs2, t2, (postS.bind (R := RD X.K) h2).mono fun i' H3 ⟨f3, y, st3, x3, t3, d3, h3⟩ => ?_⟩
  split at h3
  · rename_i st4 e4
    exact ⟨f3, st3, x, y, w, st4, t3, d2.up x3.toEx0, d3, (d1.up x2.toEx0).up x3.toEx0, e4, fun f' H' x4 t4 => h3 f' H' s x4 t4 ((hs2.up x3.toEx0).up x4.toEx0)⟩
  · exact h3.elim
/-- the pairs of a display, from the left -/
abbrev DPs := Env' → Store → Res (List (D × D))
def dpNil : DPs := fun _ st => .ok [] st
def dpCons (k v : DE) (ps : DPs) : DPs := fun r st => (k r st).bind fun x st1 => (v r st1).bind fun y st2 => (ps r st2).bind fun l st3 => .ok ((x, y) :: l) st3
def mergeD {A : Type} [DecidableEq A] (kvs more : List (A × D)) : List (A × D) := more.foldl (fun acc kv => putD acc kv.1 kv.2) kvs
def keyP (p : D × D) : Option (Key × D) := (keyOf p.1).map fun k => (k, p.2)
def dDisp (ps : DPs) : DE := fun r st => (ps r st).bind fun l st1 => match l.mapM keyP with
  | some kvs => if kvs.length ≤ 15 then .ok (.ref st1.length) (st1 ++ [.dK (mergeD [] kvs)]) else .err
  | none => .err
def RPs (K : PySem.W.Frag) : List Addr → Hp → List (D × D) → List (V × V) → Prop := fun f H l m => Paired (fun p q => RD K f H p.1 q.1 ∧ RD K f H p.2 q.2) l m
end
/-- what the readings of a display's pairs do -/
def PsOk (K : PySem.W.Frag) (E : XE) (trs : List (TE × TE)) (ps : DPs) : Prop := ∀ (f : List Addr) (H : Hp) (r : Env') (st : Store) (s : L2.St) (Q : List (V × V) → Hp → Prop), RS K f H r s → RSt K f H st → post K E (RPs K) f H (ps r st) Q → tPairs trs s H Q
theorem psok_nil {K : PySem.W.Frag} {E : XE} : PsOk K E [] dpNil := fun f H r st s Q hs ht h => post.now (show post K E (RPs K) f H (.ok [] st) Q from h) ht .nil
theorem psok_cons {K : PySem.W.Frag} {E : XE} {k v : DE} {ps : DPs} {trs : List (TE × TE)} (h : PsOk K E trs ps) : PsOk K E ((rd K E k, rd K E v) :: trs) (dpCons k v ps) := fun f H r st s Q hs ht q => by
  refine ⟨f, r, st, hs, ht, (post.bind (R' := RD K) q).mono fun x H1 ⟨f1, d, st1, x1, t1, d1, h1⟩ => ?_⟩
  have hs1 := hs.up x1.toEx0
  refine ⟨f1, r, st1, hs1, t1, (post.bind (R' := RD K) h1).mono fun y H2 ⟨f2, e, st2, x2, t2, d2, h2⟩ => ?_⟩
  refine h f2 H2 r st2 s _ (hs1.up x2.toEx0) t2 ((post.bind (R' := RPs K) h2).mono fun l H3 ⟨f3, m, st3, x3, t3, d3, h3⟩ => ?_)
  exact post.now (show post K E (RPs K) f3 H3 (.ok ((d, e) :: m) st3) Q from h3) t3 (.cons ⟨(d1.up x2.toEx0).up x3.toEx0, d2.up x3.toEx0⟩ d3)
theorem merge_rel {A : Type} [DecidableEq A] {F : D → V → Prop} {more : List (A × D)} {ms : List (A × V)} (h : Paired (fun p q => p.1 = q.1 ∧ F p.2 q.2) more ms) : ∀ {kvs : List (A × D)} {vs : List (A × V)}, Paired (fun p q => p.1 = q.1 ∧ F p.2 q.2) kvs vs →
    Paired (fun p q => p.1 = q.1 ∧ F p.2 q.2) (mergeD kvs more) (ms.foldl (fun acc kv => putK acc kv.1 kv.2) vs) := by
  induction h with
  | nil => intro kvs vs h; exact h
  | @cons a b l m hab t ih =>
    intro kvs vs h
    have e := put_rel h hab.2 a.1
    rw [hab.1] at e
    have := ih e
    rw [← hab.1] at this
    show Paired _ (mergeD (putD kvs a.1 a.2) l) _
    rw [hab.1] at this ⊢
    exact this
theorem mergeD_length {A : Type} [DecidableEq A] : ∀ (more kvs : List (A × D)), (mergeD kvs more).length ≤ kvs.length + more.length
  | [], kvs => Nat.le_refl _
  | p :: r, kvs => by
    have h1 := mergeD_length r (putD kvs p.1 p.2)
    have h2 := putD_length kvs p.1 p.2
    show (mergeD (putD kvs p.1 p.2) r).length ≤ _
    rw [List.length_cons]
    omega
section
variable {X : Cx} {E : XE} {pos : Pos} {keys : List (Option Expr)} {values : List Expr} {trs : List (TE × TE)} {ps : DPs}
theorem keyP_rel {K : PySem.W.Frag} {f : List Addr} {H : Hp} : ∀ {l : List (D × D)} {m : List (V × V)} {kvs : List (Key × D)}, RPs K f H l m → l.mapM keyP = some kvs → ∃ vs : List (Key × V), m = vs.map (fun kv => (kV kv.1, kv.2)) ∧ RKs K f H kvs vs
  | [], _, kvs, h, e => by
    cases h
    have e : kvs = [] := (Option.some.inj (show some [] = some kvs from e)).symm
    subst e
    exact ⟨[], rfl, .nil⟩
  | p :: l, _, kvs, h, e => by
    cases h with
    | @cons a b _ m hab t =>
      obtain ⟨q, r, e1, e2, rfl⟩ := mapM_cons e
      obtain ⟨vs, rfl, hr⟩ := keyP_rel t e2
      obtain ⟨k, ek, eq⟩ := Option.map_eq_some_iff.mp e1
      subst eq
      exact ⟨(k, b.2) :: vs, by rw [List.map_cons, ← hab.1.keyv ek], .cons ⟨rfl, hab.2⟩ hr⟩
theorem pd_disp (ok : PsOk X.K E trs ps) (h : PPs X pos keys values trs) (hall : keys.all (·.isSome) = true := by rfl) (hl : keys.length = values.length := by rfl) (h0 : keys ≠ [] := by exact fun z => by cases z) (h15 : keys.length ≤ 15 := by decide) : PE X (.Dict keys values pos) (rd X.K E (dDisp ps)) := (pe_disp h hall hl h0 h15).mn fun s H Q h p hp => by
  obtain ⟨f, r, st, hs, ht, h⟩ := h
  have x0 : Ext f H f (upd H p (.dK [])) := ext_new hp
  have pn : p ∉ f := fun m => by
    obtain ⟨w, hw, _⟩ := ht.mem m
    rw [hp] at hw
    cases hw
  refine ok f _ r st s _ (hs.up x0.toEx0) (ht.new hp) ?_
  unfold dDisp at h
  cases e1 : ps r st with
  | err => rw [e1] at h; exact h.elim
  | exc z st1 => rw [e1] at h; exact fun f' H' x1 => h f' H' (x0.trans x1)
  | ok l st1 =>
    rw [e1] at h
    intro f1 H1 m x1 t1 d1
    have h : post X.K E (RD X.K) f H (match l.mapM keyP with
      | some kvs => if kvs.length ≤ 15 then .ok (.ref st1.length) (st1 ++ [.dK (mergeD [] kvs)]) else .err
      | none => .err) Q := h
    cases e2 : l.mapM keyP with
    | none => rw [e2] at h; exact h.elim
    | some kvs =>
      rw [e2] at h
      have h : post X.K E (RD X.K) f H (if kvs.length ≤ 15 then .ok (.ref st1.length) (st1 ++ [.dK (mergeD [] kvs)]) else .err) Q := h
      obtain ⟨vs, rfl, hr⟩ := keyP_rel d1 e2
      by_cases hz : kvs.length ≤ 15
      · rw [if_pos hz] at h
        have hp1 : H1 p = some (.dK []) := x1.fr _ _ upd_same pn
        have pn1 : p ∉ f1 := fun m => by
          have z := x1.nw p m pn
          rw [upd_same] at z
          cases z
        refine ⟨hp1, vs, rfl, by rw [← Paired.length hr]; exact hz, ?_⟩
        have x2 : Ex0 f1 H1 (f1 ++ [p]) (upd H1 p (.dK (mergeK [] vs))) := ⟨List.prefix_append f1 [p], fun b o hb nm => by
          rw [upd_ne fun e => by
            rw [e, hp1] at hb
            cases hb
            exact nm trivial]
          exact hb⟩
        have x3 : Ext f H (f1 ++ [p]) (upd H1 p (.dK (mergeK [] vs))) := ⟨⟨x1.pre.trans (List.prefix_append f1 [p]), fun b o hb nm => x2.im _ _ (x1.im _ _ (x0.im _ _ hb nm) nm) nm⟩, fun c hc hn => ?_, fun b o hb hn => ?_⟩
        · refine h (f1 ++ [p]) _ (.ref p) x3 (t1.put pn1 x2 (fun c hc => upd_ne fun e => pn1 (e ▸ hc)) ⟨_, upd_same, merge_rel (RKs.up x2 hr) .nil, ?_⟩) (.ref ?_)
          · have := mergeD_length kvs []
            rw [sizeLine_eq]
            rw [List.length_nil] at this
            omega
          · rw [← t1.len]
            simp
        · rcases List.mem_append.mp hc with hc | hc
          · have z := x1.nw c hc hn
            rw [upd_ne fun e => pn1 (by rw [← e]; exact hc)] at z
            exact z
          · rw [List.mem_singleton] at hc
            rw [hc]
            exact hp
        · have hne : b ≠ p := fun e => by
            rw [e, hp] at hb
            cases hb
          rw [upd_ne hne]
          exact x1.fr _ _ (by rw [upd_ne hne]; exact hb) hn
      · rw [if_neg hz] at h
        exact h.elim
end
end Pd
set_option maxRecDepth 100000
set_option maxHeartbeats 4000000
namespace Pd
open PySem PySem.Spec PyProof.Rows L2
end Pd
set_option maxRecDepth 100000
set_option maxHeartbeats 4000000
namespace Pd
open PySem PySem.Spec PyProof.Rows L2
structure FnG (P : Program) (w : World) (K : PySem.W.Frag) (mg : Str → Option Value) (base : Heap) (CX : CXT) (k : Nat) (f : Addr) (fd : FuncData) (ps : List Str) (sp : Sp) : Prop where
  len : ∀ vs H Q E, sp vs H Q E → vs.length = ps.length
  go : ∀ {A : Around} {outer : List Env} {s : Shared} {H : Hp} {args : Args} {us : List Value} {vs : List V} {Q : VK} {E : XK},
    Room k A → A.guards = some [] → Env0 P w K mg base A outer s H → BindsTo s fd args (ps.zip us) → Vals vs us → sp vs H Q E → codeAny (model P w) A (.call (.ref f) args) (CR CX outer P w H s Q E) s
section
variable {P : Program} {w : World} {K : PySem.W.Frag} {mg : Str → Option Value} {base : Heap} {CX : CXT} {k : Nat} {f : Addr} {fd : FuncData} {ps : List Str} {sp sp' : Sp}
theorem FnG.imp (F : FnG P w K mg base CX k f fd ps sp) (i : ∀ vs H Q E, sp' vs H Q E → sp vs H Q E) : FnG P w K mg base CX k f fd ps sp' :=
  ⟨fun vs H Q E h => F.len vs H Q E (i _ _ _ _ h), fun hr hg e0 hb hv h => F.go hr hg e0 hb hv (i _ _ _ _ h)⟩
end
/-- a def of the text, its body walked -/
theorem FnG.of {P : Program} {w : World} {K : PySem.W.Frag} {mg : Str → Option Value} {base : Heap} {x qual : Str} {params : Arguments} {body : List Stmt} {scope : Scope} {dvs : List V} {kws : List (Str × V)} {f : Addr} {fd : FuncData} {CX : CXT} {N ps : List Str} {k : Nat} {sp : Sp}
    (F : FunD K x qual params body scope dvs kws f fd) (S : FnScope N ps scope) (len : ∀ vs H Q E, sp vs H Q E → vs.length = ps.length)
    (walk : ∀ (cdv : Value) (A : Around) (outer : List Env) (s : Shared) (H : Hp) (vs : List V) (Q : VK) (E : XK), Room k (A.deeper (envOfC qual scope s.heap.objs.size f cdv)) → A.guards = some [] → sp vs H Q E →
      ∃ t, PSs (cxOf CX P w K mg base N qual scope f cdv A outer s H E) body t ∧ t { nx := fun _ H' => Q .non H', rt := Q } (start N vs) H) : FnG P w K mg base CX (k + 1) f fd ps sp := by
  obtain ⟨oc, od, dV, kV, doc, pm, an, cdv, ct, osl, rfl, lk, hcd, _, _⟩ := F.ex
  refine ⟨len, ?_⟩
  intro A outer s H args us vs Q E hr hg e0 hb hv h
  have base_in : ∀ b o, base.get? b = some o → s.heap.get? b = some o := fun b o e => (e0.bs b o e).1
  have kin := e0.mod.kin.keeps base_in
  obtain ⟨t, ht, hq⟩ := walk cdv A outer s H vs Q E (hr.deeper _) hg h
  refine codeAny_call_function hr.depth (kin _ _ lk) rfl S.co S.gen rfl (PySem.W.codeRec_of kin hcd) (hb _ _ _ _ (wpAny_newFunctionEnv_cells S.kind ?par ?body))
  case par =>
    rintro ⟨n, u⟩ hy
    have hn := S.par n (List.of_mem_zip hy).1
    exact hn.imp id fun q => ⟨q, PySem.W.cellsFrom_some _ _ _ (.inl q)⟩
  case body =>
    rintro env rfl s1 x1
    have I := inv_start (CX := CX) (E := E) S hr.hd e0 (len _ _ _ _ h) hv x1
    refine ⟨(e0.mod.nolimit.keeps base_in).keeps x1.toInCall.keep, codeAny_func (wpAny_mono (ht.run [] s1 (start N vs) H _ I hq) (fun fl s' z => ?_) fun _ _ z => z)⟩
    cases fl with
    | next =>
      obtain ⟨σ', H', J, q⟩ := z
      exact ⟨.non, H', J.os, J.bare, J.base, J.hok, rfl, q⟩
    | ret u =>
      obtain ⟨v, σ', H', J, rv, q⟩ := z
      exact ⟨v, H', J.os, J.bare, J.base, J.hok, rv, q⟩
    | brk => exact False.elim z.choose_spec.choose_spec.2
    | cont => exact False.elim z.choose_spec.choose_spec.2
section
variable {X : Cx} {CX : CXT} {k : Nat} {f : Addr} {fd : FuncData} {ps ks : List Str} {sp : Sp} {dvs : List V} {ds : List Value} {E : XK} {x : Str} {p pos : Pos} {e : Expr} {es : List Expr} {t tk : TA} {kws : List Keyword} {g : List Value → List Value → List Value} {gV : List V → List V → List V}
/-- the callee's end is a value's end here -/
theorem cr_end {pins : List (Addr × Obj)} {σ : L2.St} {H : Hp} {s s' : Shared} {Q : VK} {r : Result} (hx : Passes CX X E) (I : Inv X pins σ H s) (h : CR CX X.stack X.prog X.w H s Q E r s') :
    match r with
    | .ok (.ret u) => EP X pins σ Q u s'
    | .ok _ => False
    | .error e => X.xe e s' := by
  cases r with
  | error e => exact hx pins σ H s e s' I h
  | ok fl => cases fl with
    | ret u => exact I.after h
    | _ => exact h
theorem FnG.runs {pins : List (Addr × Obj)} {σ : L2.St} {H : Hp} {s : Shared} {Q : VK} {us ws : List Value} {vs zs : List V} (F : FnG X.prog X.w X.K X.mg X.base CX k f fd ps sp) (hr : Room k X.A) (hg : X.A.guards = some []) (hb : KBinds X.K fd ps ks g gV) (hx : Passes CX X E)
    (I : Inv X pins σ H s) (r : Vals vs us) (rz : Vals zs ws) (h : sp (gV vs zs) H Q E) : wpAny (model X.prog X.w) X.A (call (.ref f) us (ks.zip ws)) (EP X pins σ Q) X.xe s := by
  have rr := hb.rel r rz
  have hl : (g us ws).length = ps.length := rr.length ▸ F.len _ _ _ _ h
  refine wpAny_call (codeAny_mono (F.go hr hg I.env0 (hb.to s us ws I.kIn hl) rr h) fun r s' z => ?_)
  have z := cr_end hx I z
  cases r with
  | error e => exact z
  | ok fl => cases fl <;> exact z
/-- a call by place alone, seen as one with no keywords -/
theorem kb_none {K : PySem.W.Frag} (hb : Binds K fd ps []) : KBinds K fd ps [] (fun us _ => us) (fun vs _ => vs) :=
  ⟨fun s us ws KX hl => by
    have h := hb s us KX (by rw [List.append_nil]; exact hl)
    rw [List.append_nil] at h
    exact h, fun r _ => r⟩
end
/-- the heap behind the top, the script hidden in it or of the written part -/
theorem law_end {P : Program} {w : World} {K : PySem.W.Frag} {mg mb : Str → Option Value} {k : Nat} {fa a : Addr} {fd : FuncData} {x : Str} {sp : Sp} {s₁ : Shared} {vs : List Value} {ns : List Int} {CX : CXT}
    (KX : K.In s₁.heap) (nsG : s₁.heap.Ns mainGlobals mg) (nsB : s₁.heap.Ns builtinsNs mb) (hbb : ∀ x : Str, x ≠ "__name__" → mb x = bootBuiltins x) (hlim : s₁.heap.NoLimit) (hgen : s₁.gens = #[])
    (ha : s₁.heap.get? a = some { cls := .type "list", data := .seq vs.toArray }) (hi : IntsAre vs ns) (hl : ns.length ≤ sizeLine) (hr : Room k callerA)
    (F : ∀ base : Heap, K.In base → base.Ns mainGlobals mg → FnG P w K mg base CX k fa fd [x] sp) (hbind : ∀ (s : Shared) (u : Value), BindsTo s fd ⟨[u], []⟩ [(x, u)])
    (hsp : ∀ H : Hp, (∀ b, H b = none ∨ ∃ o xs, H b = some (.frz o (.lst xs))) → SqF K H a (ns.map V.int) → sp [.ref a] H (fun v _ => v = .bl true) fun _ _ _ => False)
    (hCX : ∀ H e s', CX [] H s₁ (fun _ _ _ => False) e s' → False) :
    codeAny (model P w) callerA (.call (.ref fa) ⟨[.ref a], []⟩) (fun r s' => r = .ok (.ret (.bool true)) ∧ OldK s₁.heap s'.heap ∧ s'.os = s₁.os ∧ AllBare s'.gens) s₁ := by
  -- H: nothing, or the script alone, locked
  have main : ∀ H : Hp, (∀ b, H b = none ∨ (b = a ∧ K.lookup a = none ∧ H b = some (.frz { cls := .type "list", data := .seq vs.toArray } (.lst (ns.map V.int))))) → SqF K H a (ns.map V.int) →
      codeAny (model P w) callerA (.call (.ref fa) ⟨[.ref a], []⟩) (fun r s' => r = .ok (.ret (.bool true)) ∧ OldK s₁.heap s'.heap ∧ s'.os = s₁.os ∧ AllBare s'.gens) s₁ := by
    intro H hH hS
    have see : ∀ {b : Addr} {o : Obj}, s₁.heap.get? b = some o → H b = none → (hidT s₁.heap H).get? b = some o := fun h n => hidT_get h n
    have free : ∀ {b : Addr} {o : Obj}, s₁.heap.get? b = some o → (b = a → K.lookup a = none → False) → H b = none := fun {b o} _ h => (hH b).resolve_right fun ⟨e, z, _⟩ => h e z
    have dct : ∀ {b : Addr} {m : Str → Option Value}, s₁.heap.Ns b m → (hidT s₁.heap H).Ns b m := by
      rintro b m ⟨o, es, ep, e, d, r⟩
      refine ⟨o, es, ep, see e (free e fun z _ => ?_), d, r⟩
      rw [z, ha] at e
      cases e
      cases d
    have kin : K.In (hidT s₁.heap H) := fun b o e => see (KX b o e) (free (KX b o e) fun z n => by
      rw [z, n] at e
      cases e)
    have hok : HOk P w H s₁.heap := by
      intro b u z
      rcases hH b with n | ⟨rfl, _, n⟩
      · rw [n] at z
        cases z
      · rw [n] at z
        cases z
        exact ⟨ha, by rw [List.length_map]; exact hl, vs, _, vals_ints hi, ha⟩
    obtain ⟨mc, c1, c2⟩ := hlim
    have e0 : Env0 P w K mg (hidT s₁.heap H) callerA [] s₁ H :=
      ⟨rfl, ⟨kin, dct nsG, ⟨mb, dct nsB, hbb⟩, ⟨mc, dct c1, c2⟩⟩, fun b o e => of_hidT e, Nat.le_of_eq (hidT_size _ _), trivial, fun b hb => (List.not_mem_nil hb).elim, hok, .of_eq hgen⟩
    refine codeAny_mono ((F _ kin (dct nsG)).go (us := [.ref a]) (vs := [.ref a]) hr rfl e0 (hbind s₁ (.ref a)) (.cons rfl .nil) (hsp H (fun b => (hH b).imp id fun z => ⟨_, _, z.2.2⟩) hS)) fun r s' h => ?_
    match r, h with
    | .error e, h => exact (hCX H e s' h).elim
    | .ok (.ret u), ⟨v, H', os, bare, un, hok', rv, hv⟩ =>
      have hv : v = .bl true := hv
      rw [hv] at rv
      have eu : u = Value.bool true := rv
      rw [eu]
      refine ⟨rfl, OldK.of_keep fun b o e => ?_, os, bare⟩
      rcases hH b with n | ⟨rfl, _, n⟩
      · exact un.keep b o e n (fun z => (List.not_mem_nil z).elim) (fun z => (List.not_mem_nil z).elim)
      · have n' := un.frzs b _ _ n
        rw [ha] at e
        cases e
        exact (hok' b _ n').1
    | .ok .next, h => exact False.elim h
    | .ok .brk, h => exact False.elim h
    | .ok .cont, h => exact False.elim h
  cases hk : K.lookup a with
  | some o =>
    have e := KX a o hk
    rw [ha] at e
    cases e
    exact main (fun _ => none) (fun _ => .inl rfl) (.inr ⟨_, vs.toArray, _, hk, rfl, rfl, rfl, by rw [List.size_toArray, hi.length]; exact hl, by simpa using vals_ints hi⟩)
  | none =>
    refine main (fun b => if b = a then some (.frz { cls := .type "list", data := .seq vs.toArray } (.lst (ns.map V.int))) else none) (fun b => ?_) (.inl ⟨_, if_pos rfl⟩)
    by_cases e : b = a
    · exact .inr ⟨e, hk, if_pos e⟩
    · exact .inl (if_neg e)
end Pd
set_option maxRecDepth 100000
set_option maxHeartbeats 4000000
namespace Pd
open PySem PySem.Spec PyProof.Rows L2
abbrev XX0 : XK → XE := fun _ => E00
abbrev DFn := List D → Store → Res D
/-- the promise of a def that computes F -/
def spD (K : PySem.W.Frag) (XX : XK → XE) (F : DFn) (n : Nat) : Sp := fun vs H Q E => ∃ f st ds, RSt K f H st ∧ RDs K f H ds vs ∧ vs.length = n ∧ post K (XX E) (RD K) f H (F ds st) Q
/-- a body as a function: N slots -/
def runD (N : Nat) (c : DS) : DFn := fun ds st => match c (ds.map some ++ List.replicate (N - ds.length) none) st with
  | .nx _ st1 => .ok .non st1
  | .rt d st1 => .ok d st1
  | .exc e st1 => .exc e st1
  | _ => .err
theorem RS.start {K : PySem.W.Frag} {f : List Addr} {H : Hp} {ds : List D} {vs : List V} (N : List Str) (h : RDs K f H ds vs) : RS K f H (ds.map some ++ List.replicate (N.length - ds.length) none) (L2.start N vs) := by
  unfold L2.start
  rw [← h.length]
  have hl := h.length
  refine ⟨by simp [hl], fun i d e => ?_⟩
  by_cases hi : i < ds.length
  · rw [List.getElem?_append_left (by simpa using hi), List.getElem?_map] at e
    rw [List.getElem?_append_left (by simpa [← h.length] using hi), List.getElem?_map]
    cases q : ds[i]? with
    | none => rw [q] at e; cases e
    | some d' =>
      rw [q] at e
      cases e
      obtain ⟨v, hv, r⟩ := Paired.get' (RDs.pr K f H h) q
      exact ⟨v, by rw [hv]; rfl, r⟩
  · rw [List.getElem?_append_right (by simpa using hi), List.getElem?_replicate] at e
    split at e <;> cases e
theorem rdS_run {K : PySem.W.Frag} {E : XE} {N : List Str} {c : DS} {f : List Addr} {H : Hp} {st : Store} {ds : List D} {vs : List V} {Q : VK} (ht : RSt K f H st) (hd : RDs K f H ds vs) (h : post K E (RD K) f H (runD N.length c ds st) Q) :
    rdS K E c { nx := fun _ H' => Q .non H', rt := Q } (L2.start N vs) H := by
  refine ⟨f, _, st, RS.start N hd, ht, ?_⟩
  unfold runD at h
  split at h
  · rename_i e
    rw [e]
    exact fun f' H' s' x t _ => h f' H' .non x t .non
  · rename_i e
    rw [e]
    exact h
  · rename_i e
    rw [e]
    exact h
  · exact h.elim
/-- a def of the text that computes F (CX: how exceptions leave; XX: the wish about them) -/
structure DOk (P : Program) (w : World) (K : PySem.W.Frag) (mg : Str → Option Value) (CX : CXT) (XX : XK → XE) (k : Nat) (x : Str) (st : Stmt) (ps : List Str) (F : DFn) : Prop where
  ex : ∃ (f : Addr) (fd : FuncData), FunD K x x (defArgs st) (defBody st) (defScope st) [] [] f fd ∧ mg x = some (.ref f) ∧ Binds K fd ps [] ∧ ∀ base : Heap, K.In base → base.Ns mainGlobals mg → FnG P w K mg base CX k f fd ps (spD K XX F ps.length)
theorem _root_.L2.Room.u1 {k : Nat} {A : Around} (r : Room k A) : A.units + 1 < cLine := by have := r.un; omega
theorem _root_.L2.Room.u64 {k : Nat} {A : Around} (r : Room k A) : A.units + 64 < cLine := by have := r.un; omega
theorem _root_.L2.Room.u65 {k : Nat} {A : Around} (r : Room k A) : A.units + 65 < cLine := by have := r.un; omega
section
variable {P : Program} {w : World} {K : PySem.W.Frag} {mg : Str → Option Value} {x : Str} {st : Stmt} {ps N : List Str} {k : Nat} {c : DS} {f : Addr} {fd : FuncData}
/-- no exception leaves -/
theorem DOk.of0 (F : FunD K x x (defArgs st) (defBody st) (defScope st) [] [] f fd) (hm : mg x = some (.ref f)) (S : FnScope N ps (defScope st))
    (hb : ∀ (kV doc pm : Value) (an : Option Addr) (cdv ct : Value) (us : List Value), us.length = ps.length → bindArgs (PySem.W.fnOf x x (defArgs st) (defBody st) (defScope st) .none kV doc pm an cdv ct) ⟨us, []⟩ = pure (ps.zip us))
    (h : ∀ (base : Heap) (cdv : Value) (A : Around) (outer : List Env) (s : Shared) (H : Hp) (E : XK), K.In base → base.Ns mainGlobals mg → Room k (A.deeper (envOfC x (defScope st) s.heap.objs.size f cdv)) → A.guards = some [] →
      PSs (cxOf CX0 P w K mg base N x (defScope st) f cdv A outer s H E).nox (defBody st) (rdS K E00 c)) : DOk P w K mg CX0 XX0 (k + 1) x st ps (runD N.length c) :=
  ⟨f, fd, F, hm, F.bindsN hb, fun base KX G => FnG.of F S (fun vs H Q E ⟨_, _, _, _, _, hl, _⟩ => hl) fun cdv A outer s H vs Q E hr hg hsp => ⟨_, (h base cdv A outer s H E KX G hr hg).nox, by
    obtain ⟨f, st, ds, ht, hd, _, hp⟩ := hsp
    exact rdS_run ht hd hp⟩⟩
/-- a weaker promise -/
theorem DOk.imp {CX : CXT} {XX : XK → XE} {F F' : DFn} (h : DOk P w K mg CX XX k x st ps F) (i : ∀ ds s, F' ds s = .err ∨ F' ds s = F ds s) : DOk P w K mg CX XX k x st ps F' := by
  obtain ⟨f, fd, a, b, c, d⟩ := h
  refine ⟨f, fd, a, b, c, fun base KX G => FnG.imp (d base KX G) fun vs H Q E ⟨f, st, ds, h1, h2, h3, h4⟩ => ⟨f, st, ds, h1, h2, h3, ?_⟩⟩
  rcases i ds st with e | e
  · rw [e] at h4; exact h4.elim
  · rw [← e]; exact h4
end
section
variable {X : Cx} {CX : CXT} {XX : XK → XE} {E : XK} {k : Nat} {x : Str} {st : Stmt} {ps : List Str} {F : DFn} {p pos : Pos} {e : Expr} {es : List Expr} {dl : DA}
theorem rd_call {K : PySem.W.Frag} {n : Nat} {s : L2.St} {H : Hp} {Q : VK} (hn : ∀ ds st, ds.length ≠ n → F ds st = .err) (h : rd K (XX E) (dL F dl) s H Q) : tCall (spD K XX F n) [] E (rdA K (XX E) dl) s H Q := by
  obtain ⟨f, r, st, hs, ht, h⟩ := h
  refine ⟨f, r, st, hs, ht, (post.bind (R' := RDs K) h).mono fun vs H1 ⟨f1, l, st1, x1, t1, d1, h1⟩ => ?_⟩
  rw [List.append_nil]
  refine ⟨f1, st1, l, t1, d1, ?_, h1⟩
  by_cases hl : l.length = n
  · rw [← d1.length]; exact hl
  · rw [hn l st1 hl] at h1
    exact h1.elim
end
/-- F with its arguments counted -/
def ofN (n : Nat) (F : DFn) : DFn := fun ds st => if ds.length = n then F ds st else .err
theorem ofN_ne {n : Nat} {F : DFn} (ds : List D) (st : Store) (h : ds.length ≠ n) : ofN n F ds st = .err := if_neg h
theorem DOk.ofN {P : Program} {w : World} {K : PySem.W.Frag} {mg : Str → Option Value} {CX : CXT} {XX : XK → XE} {k : Nat} {x : Str} {st : Stmt} {ps : List Str} {F : DFn} (h : DOk P w K mg CX XX k x st ps F) (n : Nat) : DOk P w K mg CX XX k x st ps (ofN n F) := h.imp fun ds s => by
  unfold Pd.ofN
  by_cases e : ds.length = n
  · exact .inr (if_pos e)
  · exact .inl (if_neg e)
section
variable {X : Cx} {CX : CXT} {XX : XK → XE} {E : XK} {k : Nat} {x : Str} {st : Stmt} {ps : List Str} {F : DFn} {p pos : Pos} {e : Expr} {es : List Expr} {dl dk : DA} {kws : List Keyword}
/-- what a call needs of where it stands -/
structure At (X : Cx) (CX : CXT) (E : XK) : Prop where
  kin : X.K.In X.base
  ns : X.base.Ns mainGlobals X.mg
  ps : Passes CX X E
  gd : X.A.guards = some []
theorem pd_call (d : DOk X.prog X.w X.K X.mg CX XX k x st ps F) (hr : Room k X.A) (at_ : At X CX E) (ha : PA X (e :: es) (rdA X.K (XX E) dl)) (hg : Gl X x := by rfl)
    (hdb : (x == ("__debug__" : Str)) = false := by decide) (he : starEach (e :: es) X.env = (false, eval e X.env) :: starEach es X.env := by rfl) (hpl : (backTo pos (starEach es X.env)).any (·.1) = false := by rfl) :
    PE X (.Call (.Name x p) (e :: es) [] pos) (rd X.K (XX E) (dL (ofN ps.length F) dl)) := by
  obtain ⟨f, fd, a, b, c, d⟩ := d.ofN ps.length
  refine ⟨fun pins s σ H Q I h => ?_⟩
  have h := rd_call (F := ofN ps.length F) (dl := dl) ofN_ne h
  refine wpAny_Call_Name_kw (ld_glob I hg b ?_ hdb)
  refine PySem.W.callWith_K (h₀ := X.base) I.ok.mod.kin a.kp (thn (ha.run pos pins s σ H _ I h) fun us s1 ⟨vs, H1, I1, r, q⟩ => ⟨I1.kIn, ?_⟩) he hpl
  have q : spD X.K XX (ofN ps.length F) ps.length (vs ++ []) H1 Q E := q
  rw [List.append_nil] at q
  exact FnG.runs (ks := []) (ws := []) (zs := []) (d X.base at_.kin at_.ns) hr at_.gd (kb_none c) at_.ps I1 r .nil q
/-- the written values, then the keywords' values, put in the parameters' order: n values are written, m by keywords, the i-th of is tells where the i-th parameter's value stands -/
def gP (n m : Nat) (is : List Nat) {A : Type} (us ws : List A) : List A := if us.length = n ∧ ws.length = m then is.filterMap fun i => (us ++ ws)[i]? else []
theorem gP_rel {A B : Type} {R : A → B → Prop} {n m : Nat} {us ws : List A} {us' ws' : List B} (h : Paired R us us') (h' : Paired R ws ws') (is : List Nat) : Paired R (gP n m is us ws) (gP n m is us' ws') := by
  unfold gP
  rw [← Paired.length h, ← Paired.length h']
  split
  · have hh := Paired.app h h'
    induction is with
    | nil => exact .nil
    | cons i is ih =>
      rw [List.filterMap_cons, List.filterMap_cons]
      cases q : (us ++ ws)[i]? with
      | none =>
        have : (us' ++ ws')[i]? = none := by
          rw [List.getElem?_eq_none_iff] at q ⊢
          rw [← Paired.length hh]
          exact q
        rw [this]
        exact ih
      | some a =>
        obtain ⟨b, e, r⟩ := Paired.get' hh q
        rw [e]
        exact .cons r ih
  · exact .nil
theorem gP_kb {K : PySem.W.Frag} {x : Str} {st : Stmt} {f : Addr} {fd : FuncData} {ps ks : List Str} (F : FunD K x x (defArgs st) (defBody st) (defScope st) [] [] f fd) (n m : Nat) (is : List Nat) (h0 : ps ≠ [])
    (hb : ∀ (kV doc pm : Value) (an : Option Addr) (cdv ct : Value) (us ws : List Value), us.length = n → ws.length = m → bindArgs (PySem.W.fnOf x x (defArgs st) (defBody st) (defScope st) .none kV doc pm an cdv ct) ⟨us, ks.zip ws⟩ = pure (ps.zip (gP n m is us ws))) :
    KBinds K fd ps ks (gP n m is) (gP n m is) := by
  obtain ⟨oc, od, dV, kV, doc, pm, an, cdv, ct, osl, rfl, lk, hcd, hD, hK⟩ := F.ex
  refine ⟨fun s us ws KX hl => ?_, fun h h' => gP_rel h h' is⟩
  rcases hD with ⟨_, rfl⟩ | ⟨e, _⟩
  · by_cases c : us.length = n ∧ ws.length = m
    · exact .of_eq (hb kV doc pm an cdv ct us ws c.1 c.2)
    · exfalso
      unfold gP at hl
      rw [if_neg c] at hl
      exact h0 (List.length_eq_zero_iff.mp hl.symm)
  · exact absurd rfl e
/-- f(e, .., k = v, ..) -/
def dLK (n m : Nat) (is : List Nat) (F : DFn) (a b : DA) : DE := fun r st => (a r st).bind fun l st1 => (b r st1).bind fun z st2 => F (gP n m is l z) st2
theorem rd_callK {K : PySem.W.Frag} {np n m : Nat} {is : List Nat} {s : L2.St} {H : Hp} {Q : VK} (hn : ∀ ds st, ds.length ≠ np → F ds st = .err) (h : rd K (XX E) (dLK n m is F dl dk) s H Q) : tCallK (spD K XX F np) (gP n m is) E (rdA K (XX E) dl) (rdA K (XX E) dk) s H Q := by
  obtain ⟨f, r, st, hs, ht, h⟩ := h
  refine ⟨f, r, st, hs, ht, (post.bind (R' := RDs K) h).mono fun vs H1 ⟨f1, l, st1, x1, t1, d1, h1⟩ => ?_⟩
  refine ⟨f1, r, st1, hs.up x1.toEx0, t1, (post.bind (R' := RDs K) h1).mono fun zs H2 ⟨f2, z, st2, x2, t2, d2, h2⟩ => ?_⟩
  have dd : RDs K f2 H2 (gP n m is l z) (gP n m is vs zs) := .of _ _ _ (gP_rel (d1.up x2.toEx0).pr d2.pr is)
  refine ⟨f2, st2, _, t2, dd, ?_, h2⟩
  by_cases hl : (gP n m is l z).length = np
  · rw [← dd.length]; exact hl
  · rw [hn _ st2 hl] at h2
    exact h2.elim
/-- f(k = v, ..) -/
theorem pd_callK0 (m : Nat) (is : List Nat) (ks : List Str) (d : DOk X.prog X.w X.K X.mg CX XX k x st ps F) (hr : Room k X.A) (at_ : At X CX E) (hk : PK X kws (rdA X.K (XX E) dk))
    (hb : ∀ (kV doc pm : Value) (an : Option Addr) (cdv ct : Value) (us ws : List Value), us.length = 0 → ws.length = m → bindArgs (PySem.W.fnOf x x (defArgs st) (defBody st) (defScope st) .none kV doc pm an cdv ct) ⟨us, ks.zip ws⟩ = pure (ps.zip (gP 0 m is us ws)))
    (h0 : ps ≠ [] := by decide) (hg : Gl X x := by rfl) (hall : (backToKw pos (keywordEach kws X.env)).all (·.1.isSome) = true := by rfl) (hks : (backToKw pos (keywordEach kws X.env)).filterMap (·.1) = ks := by rfl)
    (hdb : (x == ("__debug__" : Str)) = false := by decide)
    (hpl : ((backTo pos (starEach [] X.env)).any (·.1) || (backToKw pos (keywordEach kws X.env)).any (·.1.isNone)) = false := by rfl) :
    PE X (.Call (.Name x p) [] kws pos) (rd X.K (XX E) (dLK 0 m is (ofN ps.length F) dNil dk)) := by
  obtain ⟨f, fd, a, b, c, d⟩ := d.ofN ps.length
  refine ⟨fun pins s σ H Q I h => ?_⟩
  have h := rd_callK (np := ps.length) ofN_ne h
  refine wpAny_Call_Name_kw (ld_glob I hg b ?_ hdb)
  refine PySem.W.callWith_KW0 (h₀ := X.base) I.ok.mod.kin a.kp hall ?_ hpl
  obtain ⟨f, r, st, hs, ht, h⟩ := h
  have h := post.now (show post X.K (XX E) (RDs X.K) f H (.ok [] st) _ from h) ht .nil
  refine thn (hk.run pos pins s σ H _ I h) fun ws s2 ⟨zs, H2, I2, rz, q2⟩ => ⟨I2.kIn, ?_⟩
  rw [hks]
  exact FnG.runs (us := []) (d X.base at_.kin at_.ns) hr at_.gd (gP_kb a 0 m is h0 hb) at_.ps I2 .nil rz q2
end
end Pd
set_option maxRecDepth 100000
set_option maxHeartbeats 4000000
namespace Pd
open PySem PySem.Spec PyProof.Rows L2
def dErrS : DS := fun _ _ => .err
section
variable {X : Cx} {E : XE}
theorem pds_err {e : Stmt} : PS X e (rdS X.K E dErrS) := ⟨fun _ _ _ _ _ _ ⟨_, _, _, _, _, h⟩ => h.elim⟩
def truD : D → Store → Res Bool
  | .non, st => .ok false st
  | .bl b, st => .ok b st
  | .int i, st => .ok (i != 0) st
  | .tup l, st => .ok (!l.isEmpty) st
  | .fz l, st => .ok (!l.isEmpty) st
  | .xt l, st => .ok (!l.isEmpty) st
  | .ref n, st => match getL st n with
    | some l => .ok (!l.isEmpty) st
    | none => .err
  | _, _ => .err
def dTru (e : DE) : DT := fun r st => (e r st).bind truD
theorem RDs.emp {K : PySem.W.Frag} {f : List Addr} {H : Hp} {l : List D} {vs : List V} (h : RDs K f H l vs) : l.isEmpty = vs.isEmpty := by cases h <;> rfl
theorem pdt_tru {a : Expr} {da : DE} (ha : PE X a (rd X.K E da)) (he : ∀ whole, isTrue a X.env whole = (do let v ← whole; standAt a.pos; holding [v] (truthy v)) := by intro _; rfl) : PT X a (rdT X.K E (dTru da)) := (pt_truth ha he).mn fun s H Q h => by
  obtain ⟨f, r, st, hs, ht, h⟩ := h
  refine ⟨f, r, st, hs, ht, (post.bind (R' := RD X.K) h).mono fun x H1 ⟨f1, d, st1, x1, t1, d1, h1⟩ => ?_⟩
  cases d with
  | non => cases d1; exact ⟨false, rfl, h1.now t1 rfl⟩
  | bl b => cases d1; exact ⟨b, rfl, h1.now t1 rfl⟩
  | int i => cases d1; exact ⟨_, rfl, h1.now t1 rfl⟩
  | str x => exact h1.elim
  | tup l =>
    obtain ⟨a, vs, rfl, ha, _, hr⟩ := d1.tupv
    exact ⟨_, .inr (.inl ⟨vs, .of ha, rfl⟩), h1.now t1 (congrArg (!·) hr.emp)⟩
  | fz l =>
    obtain ⟨a, vs, rfl, ha, _, hr⟩ := d1.fzv
    exact ⟨_, .inl ⟨vs, ha.sq, rfl⟩, h1.now t1 (congrArg (!·) hr.emp)⟩
  | xt l =>
    obtain ⟨a, vs, rfl, ha, _, hr⟩ := d1.xtv
    exact ⟨_, .inr (.inl ⟨vs, ha.sq, rfl⟩), h1.now t1 (congrArg (!·) hr.emp)⟩
  | ref n =>
    have h1 : post X.K E RB f1 H1 (match getL st1 n with
      | some l => .ok (!l.isEmpty) st1
      | none => .err) Q := h1
    cases e : getL st1 n with
    | none => rw [e] at h1; exact h1.elim
    | some l =>
      rw [e] at h1
      obtain ⟨a, vs, rfl, _, ha, hr, _⟩ := RD.lstv t1 d1 (getL_some e)
      exact ⟨_, .inl ⟨vs, .of ha, rfl⟩, h1.now t1 (congrArg (!·) hr.emp)⟩
theorem pds_tests1 {c : Expr} {t : DT} {E : XE} (h : PT X c (rdT X.K E t)) : PTs X [c] (rdT X.K E t) := pts_one h
def oRepr : List D → Store → Res D
  | [x], st => match toP64 st x with
    | some p => if p.showable = true ∧ p.shown.length ≤ sizeLine then .ok (.str p.shown) st else .err
    | none => .err
  | _, _ => .err
theorem cd_repr (hg : X.A.guards = some []) (hu : X.A.units + 65 < cLine) : CallR X (.builtin "repr") (rL X.K E oRepr) := CallR.of fun pins s sg H f st l xs us Q I r t d q => by
  match l, d, q with
  | [x], d, q =>
    unfold oRepr at q
    dsimp only at q
    split at q
    · rename_i p e
      split at q
      · rename_i hc
        obtain ⟨v, rfl, dv⟩ := d.one
        obtain ⟨u, rfl, ru⟩ := vals1 r
        obtain ⟨a1, b1, c1⟩ := toP_dp t 64 x v p dv e
        obtain ⟨as, rr⟩ := Dp.reads I p v u a1 ru
        have q := q.now t (.str _)
        have fin : ∀ (h' : Heap) (tk tk' : Tok), (∀ b o, s.heap.get? b = some o → h'.get? b = some o) → EP X pins sg Q (.str p.shown tk) { s with heap := h', toks := tk' } := fun h' tk tk' hk => ⟨.str p.shown, H, I.kept (t' := tk') hk, ⟨_, rfl⟩, q⟩
        cases x with
        | non => cases dv; cases ru; cases e; exact PySem.P.repr_of_none (fin _ _ _ fun _ _ h => h)
        | bl b => cases dv; cases ru; cases e; exact PySem.P.repr_of_bool (fin _ _ _ fun _ _ h => h)
        | int i => cases dv; obtain ⟨tk, rfl⟩ := ru; cases e; exact PySem.P.repr_of_int (by have := hc.1; unfold PyData.showable at this; exact of_decide_eq_true this) (fin _ _ _ fun _ _ h => h)
        | str y =>
          cases dv
          obtain ⟨tk, rfl⟩ := ru
          have e : (if (PyData.str y).canLay0 = true then some (PyData.str y) else none) = some p := e
          split at e
          · cases e; exact PySem.P.repr_of_str (fin _ _ _ fun _ _ h => h) hc.2
          · cases e
        | tup l =>
          obtain ⟨a, vs, rfl, _⟩ := dv.tupv
          cases ru
          exact PySem.repr_of_reads' rr hc.1 (PyData.noDict_hsm (PyData.hasDict_of_canLay p b1)) hg (by omega) (fun _ _ h => h) (fun h' u tk hk => fin h' u tk hk) hc.2
        | xt l =>
          obtain ⟨a, vs, rfl, _⟩ := dv.xtv
          cases ru
          exact PySem.repr_of_reads' rr hc.1 (PyData.noDict_hsm (PyData.hasDict_of_canLay p b1)) hg (by omega) (fun _ _ h => h) (fun h' u tk hk => fin h' u tk hk) hc.2
        | fz l =>
          obtain ⟨a, vs, rfl, _⟩ := dv.fzv
          cases ru
          exact PySem.repr_of_reads' rr hc.1 (PyData.noDict_hsm (PyData.hasDict_of_canLay p b1)) hg (by omega) (fun _ _ h => h) (fun h' u tk hk => fin h' u tk hk) hc.2
        | ref n =>
          obtain ⟨a, rfl, _⟩ := dv.refv
          cases ru
          exact PySem.repr_of_reads' rr hc.1 (PyData.noDict_hsm (PyData.hasDict_of_canLay p b1)) hg (by omega) (fun _ _ h => h) (fun h' u tk hk => fin h' u tk hk) hc.2
      · exact q.elim
    · exact q.elim
  | [], d, q => exact q.elim
  | _ :: _ :: _, d, q => exact q.elim
def oEqS : D → D → Store → Res D
  | .str a, .str b, st => .ok (.bl (a == b)) st
  | _, _, _ => .err
theorem od_eqS : OpR X (compareOp .Eq) (rO X.K E oEqS) := OpR.of fun pins s sg H f st d e x y v u Q I rx ry t d1 d2 q => by
  cases d <;> cases e <;> first | exact q.elim | skip
  rename_i a b
  have q : post X.K E (RD X.K) f H (.ok (.bl (a == b)) st) Q := q
  rw [d1.strv] at rx
  rw [d2.strv] at ry
  obtain ⟨tk, rfl⟩ := rx
  obtain ⟨tk', rfl⟩ := ry
  exact PyProof.Rows.eq_str ⟨.bl _, H, I, rfl, q.now t (.bl _)⟩
end
end Pd
set_option maxRecDepth 100000
set_option maxHeartbeats 4000000
namespace Pd
open PySem PySem.Spec PyProof.Rows L2
theorem bt_len : bootBuiltins "len" = some (.builtin "len") := by decide +kernel
theorem bt_int : bootBuiltins "int" = some (.type "int") := by decide +kernel
theorem bt_list : bootBuiltins "list" = some (.type "list") := by decide +kernel
theorem bt_tuple : bootBuiltins "tuple" = some (.type "tuple") := by decide +kernel
theorem bt_any : bootBuiltins "any" = some (.builtin "any") := by decide +kernel
theorem bt_all : bootBuiltins "all" = some (.builtin "all") := by decide +kernel
theorem bt_max : bootBuiltins "max" = some (.builtin "max") := by decide +kernel
theorem bt_min : bootBuiltins "min" = some (.builtin "min") := by decide +kernel
theorem bt_repr : bootBuiltins "repr" = some (.builtin "repr") := by decide +kernel
theorem bt_sorted : bootBuiltins "sorted" = some (.builtin "sorted") := by decide +kernel
section
variable {X : Cx} {E : XK} {k n : Nat} {x : Str} {st : Stmt} {ps : List Str} {F : DFn} {p pos : Pos} {e : Expr} {es : List Expr} {dl dk : DA} {kws : List Keyword}
theorem pc_call (d : DOk X.prog X.w X.K X.mg CX0 XX0 k x st ps F) (hr : Room k X.A) (at_ : At X CX0 E) (ha : PA X (e :: es) (rdA X.K E00 dl)) (hn : ps.length = n := by rfl) (hg : Gl X x := by rfl)
    (hdb : (x == ("__debug__" : Str)) = false := by decide) (he : starEach (e :: es) X.env = (false, eval e X.env) :: starEach es X.env := by rfl) (hpl : (backTo pos (starEach es X.env)).any (·.1) = false := by rfl) :
    PE X (.Call (.Name x p) (e :: es) [] pos) (rd X.K E00 (dL (ofN n F) dl)) := by
  subst hn
  exact pd_call d hr at_ ha hg hdb he hpl
theorem pc_callK0 (np m : Nat) (is : List Nat) (ks : List Str) (d : DOk X.prog X.w X.K X.mg CX0 XX0 k x st ps F) (hr : Room k X.A) (at_ : At X CX0 E) (hk : PK X kws (rdA X.K E00 dk))
    (hb : ∀ (kV doc pm : Value) (an : Option Addr) (cdv ct : Value) (us ws : List Value), us.length = 0 → ws.length = m → bindArgs (PySem.W.fnOf x x (defArgs st) (defBody st) (defScope st) .none kV doc pm an cdv ct) ⟨us, ks.zip ws⟩ = pure (ps.zip (gP 0 m is us ws)))
    (hn : ps.length = np := by rfl) (h0 : ps ≠ [] := by decide) (hg : Gl X x := by rfl) (hall : (backToKw pos (keywordEach kws X.env)).all (·.1.isSome) = true := by rfl) (hks : (backToKw pos (keywordEach kws X.env)).filterMap (·.1) = ks := by rfl)
    (hdb : (x == ("__debug__" : Str)) = false := by decide)
    (hpl : ((backTo pos (starEach [] X.env)).any (·.1) || (backToKw pos (keywordEach kws X.env)).any (·.1.isNone)) = false := by rfl) :
    PE X (.Call (.Name x p) [] kws pos) (rd X.K E00 (dLK 0 m is (ofN np F) dNil dk)) := by
  subst hn
  exact pd_callK0 m is ks d hr at_ hk hb h0 hg hall hks hdb hpl
end
end Pd
set_option maxRecDepth 100000
set_option maxHeartbeats 4000000
namespace Pd
open PySem PySem.Spec PyProof.Rows L2
inductive U where
  | non | bl (b : Bool) | int (i : Int) | str (x : Str) | tup (l : List U) | lst (l : List U) | fz (l : List U) | xt (l : List U)
  | dK (ks : List Key) (vs : List U) | dT (ks : List (List Key)) (vs : List U) | gen
structure UX where
  cls : Str
  fs : List (Str × U)
def drawKeys : List Key := [.inr "left", .inr "seed", .inr "cells", .inr "spot"]
def drawO (L S : Int) (c : Nat) (p : Int) : SO := .dK [(.inr "left", .int L), (.inr "seed", .int S), (.inr "cells", .ref c), (.inr "spot", .int p)]
def isDraw : SO → Bool
  | .dK kvs => decide (kvs.map (·.1) = drawKeys)
  | _ => false
theorem isDraw_drawO (L S : Int) (c : Nat) (p : Int) : isDraw (drawO L S c p) = true := by
  unfold isDraw drawO
  exact decide_eq_true rfl
def capN : Nat := 2 ^ 4000
structure DB (b : Nat) (S p : Int) : Prop where
  p0 : 0 ≤ p
  pb : p ≤ b
  s0 : 0 ≤ S
  s1 : S < 2147483647
abbrev Av := Nat → Prop
abbrev Ow := Nat → Option Nat
def avo (Z : Av) (A : Ow) : Av := fun n => Z n ∨ ∃ i, A i = some n
section
variable (Z : Av) (b : Nat) (st : Store)
mutual
inductive Rep : D → U → Prop
  | non : Rep .non .non
  | bl (k : Bool) : Rep (.bl k) (.bl k)
  | int (i : Int) : Rep (.int i) (.int i)
  | str (x : Str) : Rep (.str x) (.str x)
  | tup {ds : List D} {us : List U} : us.length ≤ sizeLine → Reps ds us → Rep (.tup ds) (.tup us)
  | fz {ds : List D} {us : List U} : us.length ≤ sizeLine → Reps ds us → Rep (.fz ds) (.fz us)
  | xt {ds : List D} {us : List U} : us.length ≤ sizeLine → Reps ds us → Rep (.xt ds) (.xt us)
  | lst {n : Nat} {ds : List D} {us : List U} : ¬ Z n → st[n]? = some (.lst ds) → us.length ≤ sizeLine → Reps ds us → Rep (.ref n) (.lst us)
  | dK {n : Nat} {ks : List Key} {kvs : List (Key × D)} {us : List U} : ¬ Z n → st[n]? = some (.dK kvs) → isDraw (.dK kvs) = false → kvs.map (·.1) = ks → us.length ≤ sizeLine → Reps (kvs.map (·.2)) us → Rep (.ref n) (.dK ks us)
  | dT {n : Nat} {ks : List (List Key)} {kvs : List (List Key × D)} {us : List U} : ¬ Z n → st[n]? = some (.dT kvs) → kvs.map (·.1) = ks → us.length ≤ sizeLine → Reps (kvs.map (·.2)) us → Rep (.ref n) (.dT ks us)
  | gen {n c : Nat} {L S p : Int} {cs : List Int} : ¬ Z n → ¬ Z c → st[n]? = some (drawO L S c p) → DB b S p → st[c]? = some (.lst (cs.map .int)) → cs ≠ [] → (∀ x ∈ cs, x.natAbs.log2 < 2000000) → Rep (.ref n) .gen
inductive Reps : List D → List U → Prop
  | nil : Reps [] []
  | cons {d : D} {u : U} {ds : List D} {us : List U} : Rep d u → Reps ds us → Reps (d :: ds) (u :: us)
end
/-- what stands at a place, by value -/
def Cont (n : Nat) : U → Prop
  | .lst us => ∃ ds, st[n]? = some (.lst ds) ∧ us.length ≤ sizeLine ∧ Reps Z b st ds us
  | .dK ks us => ∃ kvs, st[n]? = some (.dK kvs) ∧ isDraw (.dK kvs) = false ∧ kvs.map (·.1) = ks ∧ us.length ≤ sizeLine ∧ Reps Z b st (kvs.map (·.2)) us
  | .dT ks us => ∃ kvs, st[n]? = some (.dT kvs) ∧ kvs.map (·.1) = ks ∧ us.length ≤ sizeLine ∧ Reps Z b st (kvs.map (·.2)) us
  | _ => False
end
/-- the store grows, what is in W may be written -/
structure Gr (W : Av) (b b' : Nat) (st st' : Store) : Prop where
  bb : b ≤ b'
  len : st.length ≤ st'.length
  same : ∀ n o, ¬ W n → st[n]? = some o → isDraw o = false → st'[n]? = some o
  draw : ∀ n L S c p, ¬ W n → st[n]? = some (drawO L S c p) → DB b S p → ∃ L' p', st'[n]? = some (drawO L' S c p') ∧ DB b' S p'
abbrev noW : Av := fun _ => False
abbrev Gx (b b' : Nat) (st st' : Store) : Prop := Gr noW b b' st st'
theorem DB.up {b b' : Nat} {S p : Int} (h : DB b S p) (hb : b ≤ b') : DB b' S p := ⟨h.p0, by have := h.pb; omega, h.s0, h.s1⟩
theorem getSome_lt {A : Type} {l : List A} {n : Nat} {a : A} (h : l[n]? = some a) : n < l.length := (List.getElem?_eq_some_iff.mp h).1
theorem Gr.refl {W : Av} {b : Nat} {st : Store} : Gr W b b st st := ⟨Nat.le_refl _, Nat.le_refl _, fun _ _ _ h _ => h, fun _ L S c p _ h d => ⟨L, p, h, d⟩⟩
theorem Gr.le {W : Av} {b b1 : Nat} {st : Store} (h : b ≤ b1) : Gr W b b1 st st := ⟨h, Nat.le_refl _, fun _ _ _ h _ => h, fun _ L S c p _ h' d => ⟨L, p, h', d.up h⟩⟩
theorem Gr.trans {W W' : Av} {b b1 b2 : Nat} {st st1 st2 : Store} (g : Gr W b b1 st st1) (h : Gr W' b1 b2 st1 st2) (hw : ∀ n, n < st.length → W' n → W n) : Gr W b b2 st st2 :=
  ⟨Nat.le_trans g.bb h.bb, Nat.le_trans g.len h.len, fun n o nw e d => h.same n o (fun z => nw (hw n (getSome_lt e) z)) (g.same n o nw e d) d, fun n L S c p nw e d => by
    obtain ⟨L', p', e', d'⟩ := g.draw n L S c p nw e d
    exact h.draw n L' S c p' (fun z => nw (hw n (getSome_lt e) z)) e' d'⟩
theorem Gx.trans {b b1 b2 : Nat} {st st1 st2 : Store} (g : Gx b b1 st st1) (h : Gx b1 b2 st1 st2) : Gx b b2 st st2 := Gr.trans g h fun _ _ z => z
theorem Gr.wk {W W' : Av} {b b1 : Nat} {st st1 : Store} (g : Gr W b b1 st st1) (h : ∀ n, n < st.length → W n → W' n) : Gr W' b b1 st st1 :=
  ⟨g.bb, g.len, fun n o nw e d => g.same n o (fun z => nw (h n (getSome_lt e) z)) e d, fun n L S c p nw e d => g.draw n L S c p (fun z => nw (h n (getSome_lt e) z)) e d⟩
theorem Gr.push {W : Av} {b : Nat} {st : Store} (o : SO) : Gr W b b st (st ++ [o]) :=
  ⟨Nat.le_refl _, by simp, fun n o' _ e _ => by rw [List.getElem?_append_left (getSome_lt e)]; exact e, fun n L S c p _ e d => ⟨L, p, by rw [List.getElem?_append_left (getSome_lt e)]; exact e, d⟩⟩
/-- the growth of an expression's end to a greater bound -/
theorem Gr.b_le {W : Av} {b b1 b2 : Nat} {st st1 : Store} (g : Gr W b b1 st st1) (h : b1 ≤ b2) : Gr W b b2 st st1 := ⟨Nat.le_trans g.bb h, g.len, g.same, fun n L S c p nw e d => by
  obtain ⟨L', p', e', d'⟩ := g.draw n L S c p nw e d
  exact ⟨L', p', e', d'.up h⟩⟩
section
variable {Z Z' W : Av} {b b' : Nat} {st st' : Store}
mutual
theorem Rep.upx (g : Gr W b b' st st') (hw : ∀ n, n < st.length → W n → Z n) (hz : ∀ n, n < st.length → Z' n → Z n) : ∀ (u : U) (d : D), Rep Z b st d u → Rep Z' b' st' d u
  | .non, _, h => by cases h; exact .non
  | .bl k, _, h => by cases h; exact .bl k
  | .int i, _, h => by cases h; exact .int i
  | .str s, _, h => by cases h; exact .str s
  | .tup us, _, h => by
    cases h with
    | tup l a => exact .tup l (Reps.upx g hw hz us _ a)
  | .fz us, _, h => by
    cases h with
    | fz l a => exact .fz l (Reps.upx g hw hz us _ a)
  | .xt us, _, h => by
    cases h with
    | xt l a => exact .xt l (Reps.upx g hw hz us _ a)
  | .lst us, _, h => by
    cases h with
    | lst a e l r => exact .lst (fun z => a (hz _ (getSome_lt e) z)) (g.same _ _ (fun z => a (hw _ (getSome_lt e) z)) e rfl) l (Reps.upx g hw hz us _ r)
  | .dK ks us, _, h => by
    cases h with
    | dK a e i k l r => exact .dK (fun z => a (hz _ (getSome_lt e) z)) (g.same _ _ (fun z => a (hw _ (getSome_lt e) z)) e i) i k l (Reps.upx g hw hz us _ r)
  | .dT ks us, _, h => by
    cases h with
    | dT a e k l r => exact .dT (fun z => a (hz _ (getSome_lt e) z)) (g.same _ _ (fun z => a (hw _ (getSome_lt e) z)) e rfl) k l (Reps.upx g hw hz us _ r)
  | .gen, _, h => by
    cases h with
    | gen a c e d f q w =>
      obtain ⟨L', p', e', d'⟩ := g.draw _ _ _ _ _ (fun z => a (hw _ (getSome_lt e) z)) e d
      exact .gen (fun z => a (hz _ (getSome_lt e) z)) (fun z => c (hz _ (getSome_lt f) z)) e' d' (g.same _ _ (fun z => c (hw _ (getSome_lt f) z)) f rfl) q w
theorem Reps.upx (g : Gr W b b' st st') (hw : ∀ n, n < st.length → W n → Z n) (hz : ∀ n, n < st.length → Z' n → Z n) : ∀ (us : List U) (ds : List D), Reps Z b st ds us → Reps Z' b' st' ds us
  | [], _, h => by cases h; exact .nil
  | u :: us, _, h => by
    cases h with
    | cons a r => exact .cons (Rep.upx g hw hz u _ a) (Reps.upx g hw hz us _ r)
end
theorem Rep.up {u : U} {d : D} (g : Gr W b b' st st') (hw : ∀ n, n < st.length → W n → Z n) (hz : ∀ n, n < st.length → Z' n → Z n) (h : Rep Z b st d u) : Rep Z' b' st' d u := Rep.upx g hw hz u d h
theorem Reps.up {us : List U} {ds : List D} (g : Gr W b b' st st') (hw : ∀ n, n < st.length → W n → Z n) (hz : ∀ n, n < st.length → Z' n → Z n) (h : Reps Z b st ds us) : Reps Z' b' st' ds us := Reps.upx g hw hz us ds h
theorem Rep.gx {u : U} {d : D} (h : Rep Z b st d u) (g : Gx b b' st st') : Rep Z b' st' d u := h.up g (fun _ _ z => z.elim) fun _ _ z => z
theorem Reps.gx {u : List U} {d : List D} (h : Reps Z b st d u) (g : Gx b b' st st') : Reps Z b' st' d u := h.up g (fun _ _ z => z.elim) fun _ _ z => z
theorem Rep.av {u : U} {d : D} (h : Rep Z b st d u) (hz : ∀ n, n < st.length → Z' n → Z n) : Rep Z' b st d u := h.up (W := noW) .refl (fun _ _ z => z.elim) hz
theorem Reps.av {u : List U} {d : List D} (h : Reps Z b st d u) (hz : ∀ n, n < st.length → Z' n → Z n) : Reps Z' b st d u := h.up (W := noW) .refl (fun _ _ z => z.elim) hz
theorem Reps.pr {ds : List D} {us : List U} (h : Reps Z b st ds us) : Paired (Rep Z b st) ds us := by
  induction us generalizing ds with
  | nil => cases h; exact .nil
  | cons u us ih => cases h with
    | cons a r => exact .cons a (ih r)
theorem Reps.of {ds : List D} {us : List U} (h : Paired (Rep Z b st) ds us) : Reps Z b st ds us := by
  induction h with
  | nil => exact .nil
  | cons a _ ih => exact .cons a ih
theorem Reps.length {ds : List D} {us : List U} (h : Reps Z b st ds us) : ds.length = us.length := Paired.length h.pr
theorem Cont.upx {n : Nat} {v : U} (g : Gr W b b' st st') (hw : ∀ n, n < st.length → W n → Z n) (hz : ∀ n, n < st.length → Z' n → Z n) (hn : st'[n]? = st[n]?) (h : Cont Z b st n v) : Cont Z' b' st' n v := by
  cases v <;> first | exact h.elim | skip
  · obtain ⟨ds, e, l, r⟩ := h; exact ⟨ds, hn.trans e, l, r.up g hw hz⟩
  · obtain ⟨ds, e, i, k, l, r⟩ := h; exact ⟨ds, hn.trans e, i, k, l, r.up g hw hz⟩
  · obtain ⟨ds, e, k, l, r⟩ := h; exact ⟨ds, hn.trans e, k, l, r.up g hw hz⟩
theorem Cont.lt {n : Nat} {v : U} (h : Cont Z b st n v) : n < st.length := by
  cases v <;> first | exact h.elim | skip
  · obtain ⟨ds, e, r⟩ := h; exact getSome_lt e
  · obtain ⟨ds, e, i, k, r⟩ := h; exact getSome_lt e
  · obtain ⟨ds, e, k, r⟩ := h; exact getSome_lt e
theorem Cont.nd {n : Nat} {v : U} (h : Cont Z b st n v) : ∃ o, st[n]? = some o ∧ isDraw o = false := by
  cases v <;> first | exact h.elim | skip
  · obtain ⟨ds, e, r⟩ := h; exact ⟨_, e, rfl⟩
  · obtain ⟨ds, e, i, k, r⟩ := h; exact ⟨_, e, i⟩
  · obtain ⟨ds, e, k, r⟩ := h; exact ⟨_, e, rfl⟩
theorem Cont.gx {n : Nat} {v : U} (h : Cont Z b st n v) (g : Gx b b' st st') : Cont Z b' st' n v := by
  obtain ⟨o, e, i⟩ := h.nd
  exact h.upx g (fun _ _ z => z.elim) (fun _ _ z => z) ((g.same n o (fun z => z) e i).trans e.symm)
theorem Cont.av {n : Nat} {v : U} (h : Cont Z b st n v) (hz : ∀ n, n < st.length → Z' n → Z n) : Cont Z' b st n v := h.upx (W := noW) .refl (fun _ _ z => z.elim) hz rfl
theorem Cont.rep {n : Nat} {v : U} (h : Cont Z b st n v) (hn : ¬ Z n) : Rep Z b st (.ref n) v := by
  cases v <;> first | exact h.elim | skip
  · obtain ⟨ds, e, l, r⟩ := h; exact .lst hn e l r
  · obtain ⟨ds, e, i, k, l, r⟩ := h; exact .dK hn e i k l r
  · obtain ⟨ds, e, k, l, r⟩ := h; exact .dT hn e k l r
/-- what is held lies in the store -/
theorem Rep.lt {u : U} {d : D} (h : Rep Z b st d u) : Rep (fun n => Z n ∨ st.length ≤ n) b st d u := h.av fun n hn z => z.elim id fun q => absurd hn (Nat.not_lt.mpr q)
theorem Reps.lt {u : List U} {d : List D} (h : Reps Z b st d u) : Reps (fun n => Z n ∨ st.length ≤ n) b st d u := h.av fun n hn z => z.elim id fun q => absurd hn (Nat.not_lt.mpr q)
end
mutual
def U.plain : U → Bool
  | .tup l => U.plains l
  | .lst _ => false
  | .fz _ => false
  | .xt l => U.plains l
  | .dK _ _ => false
  | .dT _ _ => false
  | .gen => false
  | _ => true
def U.plains : List U → Bool
  | [] => true
  | u :: us => u.plain && U.plains us
end
mutual
theorem Rep.pl {Z Z' : Av} {b b' : Nat} {st st' : Store} : ∀ (u : U) (d : D), u.plain = true → Rep Z b st d u → Rep Z' b' st' d u
  | .non, _, _, h => by cases h; exact .non
  | .bl k, _, _, h => by cases h; exact .bl k
  | .int i, _, _, h => by cases h; exact .int i
  | .str s, _, _, h => by cases h; exact .str s
  | .tup us, _, e, h => by
    cases h with
    | tup l a => exact .tup l (Reps.pl us _ (by unfold U.plain at e; exact e) a)
  | .lst _, _, e, _ => by cases e
  | .fz _, _, e, _ => by cases e
  | .xt us, _, e, h => by
    cases h with
    | xt l a => exact .xt l (Reps.pl us _ (by unfold U.plain at e; exact e) a)
  | .dK _ _, _, e, _ => by cases e
  | .dT _ _, _, e, _ => by cases e
  | .gen, _, e, _ => by cases e
theorem Reps.pl {Z Z' : Av} {b b' : Nat} {st st' : Store} : ∀ (u : List U) (d : List D), U.plains u = true → Reps Z b st d u → Reps Z' b' st' d u
  | [], _, _, h => by cases h; exact .nil
  | u :: us, _, e, h => by
    unfold U.plains at e
    rw [Bool.and_eq_true] at e
    cases h with
    | cons a r => exact .cons (Rep.pl u _ e.1 a) (Reps.pl us _ e.2 r)
end
/-- a slot: a value, and whether its list or dict is the slot's own -/
abbrev UEnv := List (Option (U × Bool))
structure RV (Z : Av) (A : Ow) (b : Nat) (u : UEnv) (r : Env') (st : Store) : Prop where
  len : u.length = r.length
  inj : ∀ (i j n : Nat), A i = some n → A j = some n → i = j
  nz : ∀ (i n : Nat), A i = some n → ¬ Z n ∧ n < st.length
  zlt : ∀ n, Z n → n < st.length
  val : ∀ (i : Nat) (v : U), u[i]? = some (some (v, false)) → ∃ d, r[i]? = some (some d) ∧ Rep (avo Z A) b st d v
  own : ∀ (i : Nat) (v : U), u[i]? = some (some (v, true)) → ∃ n, A i = some n ∧ r[i]? = some (some (.ref n)) ∧ Cont (avo Z A) b st n v
theorem RV.gx {Z : Av} {A : Ow} {b b' : Nat} {u : UEnv} {r : Env'} {st st' : Store} (h : RV Z A b u r st) (g : Gx b b' st st') : RV Z A b' u r st' :=
  ⟨h.len, h.inj, fun i n e => ⟨(h.nz i n e).1, Nat.lt_of_lt_of_le (h.nz i n e).2 g.len⟩, fun n z => Nat.lt_of_lt_of_le (h.zlt n z) g.len,
    fun i v e => let ⟨d, a, c⟩ := h.val i v e; ⟨d, a, c.gx g⟩, fun i v e => let ⟨n, a, c, q⟩ := h.own i v e; ⟨n, a, c, q.gx g⟩⟩
theorem RV.avlt {Z : Av} {A : Ow} {b : Nat} {u : UEnv} {r : Env'} {st : Store} (h : RV Z A b u r st) {n : Nat} (z : avo Z A n) : n < st.length := z.elim (h.zlt n) fun ⟨i, e⟩ => (h.nz i n e).2
inductive Kd where
  | weak | strong | fresh
deriving DecidableEq
abbrev Rl (α β : Type) := Av → Ow → Nat → Store → Store → α → β → Prop
def RelK (k : Kd) : Rl D U := fun Z A b st0 st d v => match k with
  | .weak => Rep (avo Z A) b st d v ∨ ∃ i n, A i = some n ∧ d = .ref n ∧ Cont (avo Z A) b st n v
  | .strong => Rep (avo Z A) b st d v
  | .fresh => ∃ n, d = .ref n ∧ st0.length ≤ n ∧ Cont (fun m => avo Z A m ∨ m = n) b st n v
def RelB : Rl Bool Bool := fun _ _ _ _ _ a v => a = v
def RelO : Rl (Option Int) (Option Int) := fun _ _ _ _ _ a v => a = v
def RelL (k : Kd) : Rl (List D) (List U) := fun Z A b st0 st ds vs => Paired (RelK k Z A b st0 st) ds vs
def RelX (Z : Av) (b : Nat) (st : Store) (e : XD) (x : UX) : Prop := e.cls = x.cls ∧ Paired (fun p q => p.1 = q.1 ∧ Rep Z b st p.2 q.2) e.fs x.fs
abbrev VX := UX → Prop
abbrev VG (β : Type) := UEnv → (β → Prop) → VX → Prop
abbrev VE := VG U
abbrev VT := VG Bool
abbrev VA := VG (List U)
def Post {α β : Type} (R : Rl α β) (Z : Av) (A : Ow) (b b' : Nat) (st : Store) (res : Res α) (Q : β → Prop) (X : VX) : Prop := match res with
  | .ok d st' => ∃ v, Q v ∧ Gx b b' st st' ∧ R Z A b' st st' d v
  | .exc e st' => ∃ x, X x ∧ Gx b b' st st' ∧ RelX Z b' st' e x
  | .err => False
/-- e does what w says, with c draws at most -/
def JOk {α β : Type} (R : Rl α β) (c : Nat) (e : Env' → Store → Res α) (w : VG β) : Prop := ∀ (Z : Av) (A : Ow) (b : Nat) (u : UEnv) (r : Env') (st : Store) (Q : β → Prop) (X : VX), b + c ≤ capN → RV Z A b u r st → w u Q X → Post R Z A b (b + c) st (e r st) Q X
structure RUp {α β : Type} (R : Rl α β) : Prop where
  up : ∀ {Z A b b' st0 st st' d v}, R Z A b st0 st d v → Gx b b' st st' → R Z A b' st0 st' d v
  base : ∀ {Z A b st0 st1 st d v}, st0.length ≤ st1.length → R Z A b st1 st d v → R Z A b st0 st d v
theorem RelK.up {k : Kd} : RUp (RelK k) := ⟨fun {Z A b b' st0 st st' d v} h g => by
  cases k with
  | weak => exact h.imp (fun h => h.gx g) fun ⟨i, n, a, e, c⟩ => ⟨i, n, a, e, c.gx g⟩
  | strong => exact Rep.gx h g
  | fresh => obtain ⟨n, e, l, c⟩ := h; exact ⟨n, e, l, c.gx g⟩, fun {Z A b st0 st1 st d v} hl h => by
  cases k with
  | weak => exact h
  | strong => exact h
  | fresh => obtain ⟨n, e, l, c⟩ := h; exact ⟨n, e, Nat.le_trans hl l, c⟩⟩
theorem RelB.up : RUp RelB := ⟨fun h _ => h, fun _ h => h⟩
theorem RelO.up : RUp RelO := ⟨fun h _ => h, fun _ h => h⟩
theorem RelL.up {k : Kd} : RUp (RelL k) := ⟨fun h g => Paired.mono (fun _ _ z => RelK.up.up z g) h, fun hl h => Paired.mono (fun _ _ z => RelK.up.base hl z) h⟩
theorem RelX.gx {Z Z' : Av} {b b' : Nat} {st st' : Store} {e : XD} {x : UX} (h : RelX Z b st e x) (g : Gx b b' st st') : RelX Z b' st' e x := ⟨h.1, Paired.mono (fun _ _ z => ⟨z.1, z.2.gx g⟩) h.2⟩
section
variable {α β α' β' : Type} {R : Rl α β} {R' : Rl α' β'} {Z : Av} {A : Ow} {b b1 b2 c c1 c2 : Nat} {st st1 : Store} {Q : β → Prop} {X : VX} {u : UEnv} {r : Env'}
theorem Post.from {res : Res α} (hR : RUp R) (g : Gx b b1 st st1) (h : Post R Z A b1 b2 st1 res Q X) : Post R Z A b b2 st res Q X := by
  cases res with
  | ok d st' => obtain ⟨v, q, g', h⟩ := h; exact ⟨v, q, g.trans g', hR.base g.len h⟩
  | exc e st' => obtain ⟨x, q, g', h⟩ := h; exact ⟨x, q, g.trans g', h⟩
  | err => exact h
theorem Post.le {res : Res α} (hR : RUp R) (hb : b1 ≤ b2) (h : Post R Z A b b1 st res Q X) : Post R Z A b b2 st res Q X := by
  cases res with
  | ok d st' => obtain ⟨v, q, g', h⟩ := h; exact ⟨v, q, g'.b_le hb, hR.up h (Gr.le hb)⟩
  | exc e st' => obtain ⟨x, q, g', h⟩ := h; exact ⟨x, q, g'.b_le hb, RelX.gx (Z' := Z) h (Gr.le hb)⟩
  | err => exact h
theorem Post.bind {res : Res α'} {k : α' → Store → Res α} {Q' : β' → Prop} (hR : RUp R) (h : Post R' Z A b b1 st res Q' X) (hb : b1 ≤ b2) (hv : RV Z A b u r st)
    (h2 : ∀ d st1 v, RV Z A b1 u r st1 → Gx b b1 st st1 → R' Z A b1 st st1 d v → Q' v → Post R Z A b1 b2 st1 (k d st1) Q X) : Post R Z A b b2 st (res.bind k) Q X := by
  cases res with
  | ok d st' =>
    obtain ⟨v, q, g, h⟩ := h
    exact Post.from hR g (h2 d st' v (hv.gx g) g h q)
  | exc e st' =>
    obtain ⟨x, q, g, h⟩ := h
    exact ⟨x, q, g.b_le hb, RelX.gx (Z' := Z) h (Gr.le hb)⟩
  | err => exact h
/-- one behind the other -/
theorem JOk.bind {e : Env' → Store → Res α'} {w : VG β'} {k : α' → Env' → Store → Res α} {kw : β' → VG β} (hR : RUp R) (h : JOk R' c1 e w)
    (h2 : ∀ Z A b u r st0 st d v Q X, b + c2 ≤ capN → RV Z A b u r st → R' Z A b st0 st d v → kw v u Q X → Post R Z A b (b + c2) st (k d r st) Q X) : JOk R (c1 + c2) (fun r st => (e r st).bind fun d st1 => k d r st1) (fun u Q X => w u (fun v => kw v u Q X) X) := fun Z A b u r st Q X hcap hv q => by
  refine Post.bind hR (h Z A b u r st _ X (by omega) hv q) (by omega) hv fun d st1 v hv1 g hr q1 => ?_
  rw [← Nat.add_assoc]
  exact h2 Z A (b + c1) u r st st1 d v Q X (by omega) hv1 hr q1
theorem JOk.le {e : Env' → Store → Res α} {w : VG β} (hR : RUp R) (h : JOk R c1 e w) (hc : c1 ≤ c2) : JOk R c2 e w := fun Z A b u r st Q X hcap hv q => Post.le hR (by omega) (h Z A b u r st Q X (by omega) hv q)
theorem JOk.mn {e : Env' → Store → Res α} {w w' : VG β} (h : JOk R c e w) (i : ∀ u Q X, w' u Q X → w u Q X) : JOk R c e w' := fun Z A b u r st Q X hcap hv q => h Z A b u r st Q X (by omega) hv (i u Q X q)
end
abbrev EOk (k : Kd) (c : Nat) (e : DE) (w : VE) : Prop := JOk (RelK k) c e w
abbrev TOk (c : Nat) (e : DT) (w : VT) : Prop := JOk RelB c e w
abbrev AOk (k : Kd) (c : Nat) (e : DA) (w : VA) : Prop := JOk (RelL k) c e w
section
variable {Z : Av} {A : Ow} {b c : Nat} {st st0 : Store} {d : D} {v : U} {u : UEnv} {r : Env'}
/-- fresh to strong to weak -/
theorem RelK.fs (hv : RV Z A b u r st0) (h : RelK .fresh Z A b st0 st d v) : RelK .strong Z A b st0 st d v := by
  obtain ⟨n, rfl, hl, h⟩ := h
  refine (h.av fun m _ z => .inl z).rep fun z => ?_
  have := hv.avlt z
  omega
theorem EOk.fs {e : DE} {w : VE} (h : EOk .fresh c e w) : EOk .strong c e w := fun Z A b u r st Q X hcap hv q => by
  have h := h Z A b u r st Q X (by omega) hv q
  cases hr : e r st with
  | ok d st' =>
    rw [hr] at h
    obtain ⟨v, q, g, h⟩ := h
    refine ⟨v, q, g, ?_⟩
    obtain ⟨n, rfl, hl, h⟩ := h
    refine (h.av fun m _ z => .inl z).rep fun z => ?_
    have := hv.avlt z
    omega
  | exc x st' => rw [hr] at h; exact h
  | err => rw [hr] at h; exact h
theorem EOk.sw {e : DE} {w : VE} (h : EOk .strong c e w) : EOk .weak c e w := fun Z A b u r st Q X hcap hv q => by
  have h := h Z A b u r st Q X (by omega) hv q
  cases hr : e r st with
  | ok d st' =>
    rw [hr] at h
    obtain ⟨v, q, g, h⟩ := h
    exact ⟨v, q, g, .inl h⟩
  | exc x st' => rw [hr] at h; exact h
  | err => rw [hr] at h; exact h
/-- a value seen without what it must avoid -/
theorem RelK.any {k : Kd} (h : RelK k Z A b st0 st d v) : Rep noW b st d v := by
  cases k with
  | weak =>
    rcases h with h | ⟨i, n, _, rfl, h⟩
    · exact h.av fun _ _ z => z.elim
    · exact (h.av fun _ _ z => z.elim).rep fun z => z
  | strong => exact Rep.av h fun _ _ z => z.elim
  | fresh => obtain ⟨n, rfl, _, h⟩ := h; exact (h.av fun _ _ z => z.elim).rep fun z => z
/-- the items of a list or tuple, by value -/
def U.items : U → Option (List U)
  | .tup l => some l
  | .lst l => some l
  | .fz l => some l
  | .xt l => some l
  | _ => none
def U.isTup : U → Bool
  | .tup _ => true
  | .xt _ => true
  | _ => false
def U.isXt : U → Bool
  | .xt _ => true
  | _ => false
theorem getL_of {n : Nat} {ds : List D} (e : st[n]? = some (.lst ds)) : getL st n = some ds := by
  unfold getL
  rw [e]
theorem Rep.seq {Y : Av} {us : List U} (h : Rep Y b st d v) (e : v.items = some us) : ∃ ds, seqOf st d = some ds ∧ Pd.isTup d = v.isTup ∧ us.length ≤ sizeLine ∧ Reps Y b st ds us := by
  cases v with
  | tup l => cases e; cases h with
    | tup l a => exact ⟨_, rfl, rfl, l, a⟩
  | fz l => cases e; cases h with
    | fz l a => exact ⟨_, rfl, rfl, l, a⟩
  | xt l => cases e; cases h with
    | xt l a => exact ⟨_, rfl, rfl, l, a⟩
  | lst l => cases e; cases h with
    | lst a e l r => exact ⟨_, getL_of e, rfl, l, r⟩
  | _ => cases e
theorem RelK.seq {us : List U} (h : RelK .weak Z A b st0 st d v) (e : v.items = some us) : ∃ ds, seqOf st d = some ds ∧ Pd.isTup d = v.isTup ∧ us.length ≤ sizeLine ∧ Reps (avo Z A) b st ds us := by
  rcases h with h | ⟨i, n, _, rfl, h⟩
  · exact h.seq e
  · cases v with
    | lst l => cases e; obtain ⟨ds, e, l, r⟩ := h; exact ⟨ds, getL_of e, rfl, l, r⟩
    | tup l => exact h.elim
    | fz l => exact h.elim
    | xt l => exact h.elim
    | _ => cases e
end
end Pd
set_option maxRecDepth 100000
set_option maxHeartbeats 4000000
namespace Pd
open PySem PySem.Spec PyProof.Rows L2
def vVar (i : Nat) : VE := fun u Q _ => match u[i]? with
  | some (some (v, false)) => Q v
  | _ => False
/-- a slot's value, only looked at -/
def vVarW (i : Nat) : VE := fun u Q _ => match u[i]? with
  | some (some (v, _)) => Q v
  | _ => False
def vC (v : U) : VE := fun _ Q _ => Q v
theorem ev_var (i : Nat) : EOk .strong 0 (dVar i) (vVar i) := fun Z A b u r st Q X hcap hv q => by
  unfold vVar at q
  split at q
  · rename_i v e
    obtain ⟨d, e2, h⟩ := hv.val i v e
    unfold dVar
    rw [e2]
    exact ⟨v, q, .refl, h⟩
  · exact q.elim
theorem ev_varW (i : Nat) : EOk .weak 0 (dVar i) (vVarW i) := fun Z A b u r st Q X hcap hv q => by
  unfold vVarW at q
  split at q
  · rename_i v k e
    cases k with
    | false =>
      obtain ⟨d, e2, h⟩ := hv.val i v e
      unfold dVar
      rw [e2]
      exact ⟨v, q, .refl, .inl h⟩
    | true =>
      obtain ⟨n, e1, e2, h⟩ := hv.own i v e
      unfold dVar
      rw [e2]
      exact ⟨v, q, .refl, .inr ⟨i, n, e1, rfl, h⟩⟩
  · exact q.elim
theorem ev_c {d : D} {v : U} (h : ∀ Y b st, Rep Y b st d v) : EOk .strong 0 (dC d) (vC v) := fun Z A b u r st Q X hcap hv q => ⟨v, q, .refl, h _ _ _⟩
theorem ev_int {i : Int} : EOk .strong 0 (dC (.int i)) (vC (.int i)) := ev_c fun _ _ _ => .int i
theorem ev_bl {i : Bool} : EOk .strong 0 (dC (.bl i)) (vC (.bl i)) := ev_c fun _ _ _ => .bl i
theorem ev_non : EOk .strong 0 (dC .non) (vC .non) := ev_c fun _ _ _ => .non
abbrev VO2 := U → U → (U → Prop) → Prop
abbrev VO1 := U → (U → Prop) → Prop
def OpOk (k : Kd) (g : D → D → Store → Res D) (gv : VO2) : Prop := ∀ (Z : Av) (A : Ow) (b : Nat) (u : UEnv) (r : Env') (st st1 st2 : Store) (d e : D) (v w : U) (Q : U → Prop) (X : VX), RV Z A b u r st → RelK .weak Z A b st1 st d v → RelK .weak Z A b st2 st e w → gv v w Q → Post (RelK k) Z A b b st (g d e st) Q X
def Op1Ok (k : Kd) (g : D → Store → Res D) (gv : VO1) : Prop := ∀ (Z : Av) (A : Ow) (b : Nat) (u : UEnv) (r : Env') (st st1 : Store) (d : D) (v : U) (Q : U → Prop) (X : VX), RV Z A b u r st → RelK .weak Z A b st1 st d v → gv v Q → Post (RelK k) Z A b b st (g d st) Q X
def vBin (gv : VO2) (a b : VE) : VE := fun u Q X => a u (fun x => b u (fun y => gv x y Q) X) X
def vUn (gv : VO1) (a : VE) : VE := fun u Q X => a u (fun x => gv x Q) X
section
variable {k : Kd} {c c1 c2 c3 : Nat} {a b e : DE} {wa wb we : VE} {g g' : D → D → Store → Res D} {gv gv' : VO2}
theorem ev_bin (ho : OpOk k g gv) (ha : EOk .weak c1 a wa) (hb : EOk .weak c2 b wb) : EOk k (c1 + c2) (dBin g a b) (vBin gv wa wb) := by
  refine JOk.bind (kw := fun x u Q X => wb u (fun y => gv x y Q) X) RelK.up ha fun Z A n u r st0 st d v Q X hcap hv hr q => ?_
  refine Post.bind RelK.up (hb Z A n u r st _ X (by omega) hv q) (Nat.le_refl _) hv fun d2 st1 v2 hv1 g1 hr2 q2 => ?_
  exact ho Z A _ u r st1 _ _ d d2 v v2 Q X hv1 (RelK.up.up hr g1) hr2 q2
theorem ev_un {g : D → Store → Res D} {gv : VO1} (ho : Op1Ok k g gv) (ha : EOk .weak c1 a wa) : EOk k c1 (dUn g a) (vUn gv wa) := by
  refine JOk.bind (c2 := 0) (kw := fun x u Q X => gv x Q) RelK.up ha fun Z A n u r st0 st d v Q X hcap hv hr q => ?_
  exact ho Z A _ u r st _ d v Q X hv hr q
end
theorem Rep.intd {Y : Av} {b : Nat} {st : Store} {d : D} {i : Int} (h : Rep Y b st d (.int i)) : d = .int i := by cases h; rfl
theorem Rep.bld {Y : Av} {b : Nat} {st : Store} {d : D} {i : Bool} (h : Rep Y b st d (.bl i)) : d = .bl i := by cases h; rfl
theorem Rep.strd {Y : Av} {b : Nat} {st : Store} {d : D} {i : Str} (h : Rep Y b st d (.str i)) : d = .str i := by cases h; rfl
theorem Rep.nond {Y : Av} {b : Nat} {st : Store} {d : D} (h : Rep Y b st d .non) : d = .non := by cases h; rfl
theorem Rep.tupd {Y : Av} {b : Nat} {st : Store} {d : D} {us : List U} (h : Rep Y b st d (.tup us)) : ∃ ds, d = .tup ds ∧ us.length ≤ sizeLine ∧ Reps Y b st ds us := by cases h with | tup l a => exact ⟨_, rfl, l, a⟩
theorem Rep.lstd {Y : Av} {b : Nat} {st : Store} {d : D} {us : List U} (h : Rep Y b st d (.lst us)) : ∃ n ds, d = .ref n ∧ st[n]? = some (.lst ds) ∧ us.length ≤ sizeLine ∧ Reps Y b st ds us := by cases h with | lst a e l r => exact ⟨_, _, rfl, e, l, r⟩
section
variable {Z : Av} {A : Ow} {b : Nat} {st st0 : Store} {d : D}
theorem RelK.tupw {k : Kd} {us : List U} (h : RelK k Z A b st0 st d (.tup us)) : ∃ ds, d = .tup ds ∧ us.length ≤ sizeLine ∧ Reps (avo Z A) b st ds us := by
  cases k with
  | weak =>
    rcases h with h | ⟨i, n, _, rfl, h⟩
    · exact h.tupd
    · exact h.elim
  | strong => exact Rep.tupd h
  | fresh => obtain ⟨n, rfl, _, h⟩ := h; exact h.elim
theorem RelK.lstw {us : List U} (h : RelK .weak Z A b st0 st d (.lst us)) : ∃ n ds, d = .ref n ∧ st[n]? = some (.lst ds) ∧ us.length ≤ sizeLine ∧ Reps (avo Z A) b st ds us := by
  rcases h with h | ⟨i, n, _, rfl, h⟩
  · exact h.lstd
  · obtain ⟨ds, e, l, r⟩ := h
    exact ⟨n, ds, rfl, e, l, r⟩
theorem RelK.intw {k : Kd} {i : Int} (h : RelK k Z A b st0 st d (.int i)) : d = .int i := h.any.intd
theorem RelK.blw {k : Kd} {i : Bool} (h : RelK k Z A b st0 st d (.bl i)) : d = .bl i := h.any.bld
theorem RelK.strw {k : Kd} {i : Str} (h : RelK k Z A b st0 st d (.str i)) : d = .str i := h.any.strd
/-- a new list -/
theorem newL_post {u : UEnv} {r : Env'} {ds : List D} {us : List U} {Q : U → Prop} {X : VX} (hv : RV Z A b u r st) (h : Reps (avo Z A) b st ds us) (hl : us.length ≤ sizeLine) (q : Q (.lst us)) : Post (RelK .fresh) Z A b b st (newL ds st) Q X := by
  refine ⟨.lst us, q, .push _, st.length, rfl, Nat.le_refl _, ds, by simp, hl, ?_⟩
  refine (h.lt.up (W := noW) (b' := b) (.push (.lst ds)) (fun _ _ z => z.elim) fun n hn z => ?_)
  rcases z with z | z
  · exact .inl z
  · exact absurd hn (by omega)
theorem Post.fs {u : UEnv} {r : Env'} {res : Res D} {Q : U → Prop} {X : VX} {b' : Nat} (hv : RV Z A b u r st) (h : Post (RelK .fresh) Z A b b' st res Q X) : Post (RelK .strong) Z A b b' st res Q X := by
  cases res with
  | ok d st' =>
    obtain ⟨v, q, g, n, rfl, hl, h⟩ := h
    refine ⟨v, q, g, (h.av fun m _ z => .inl z).rep fun z => ?_⟩
    have := hv.avlt z
    omega
  | exc x st' => exact h
  | err => exact h
theorem Reps.app {Y : Av} {ds es : List D} {us vs : List U} (h : Reps Y b st ds us) (h' : Reps Y b st es vs) : Reps Y b st (ds ++ es) (us ++ vs) := .of (Paired.app h.pr h'.pr)
end
def vAdd : VO2 := fun v w Q => match v, w with
  | .int i, .int j => Q (.int (i + j))
  | .tup x, .tup y => x.length + y.length ≤ sizeLine ∧ Q (.tup (x ++ y))
  | .str x, .str y => x.length + y.length ≤ sizeLine ∧ Q (.str (x ++ y))
  | .lst x, .lst y => x.length + y.length ≤ sizeLine ∧ Q (.lst (x ++ y))
  | _, _ => False
/-- of lists alone: a new one -/
def vAddL : VO2 := fun v w Q => match v, w with
  | .lst x, .lst y => x.length + y.length ≤ sizeLine ∧ Q (.lst (x ++ y))
  | _, _ => False
theorem opv_addL : OpOk .fresh oAdd vAddL := fun Z A b u r st st1 st2 d e v w Q X hv h1 h2 q => by
  unfold vAddL at q
  split at q
  · obtain ⟨hl, q⟩ := q
    obtain ⟨n, ds, rfl, e1, l1, r1⟩ := h1.lstw
    obtain ⟨m, es, rfl, e2, l2, r2⟩ := h2.lstw
    unfold oAdd
    dsimp only
    rw [getL_of e1, getL_of e2]
    dsimp only
    rw [r1.length, r2.length, if_pos hl]
    exact newL_post hv (r1.app r2) (by rw [List.length_append]; exact hl) q
  · exact q.elim
theorem opv_add : OpOk .strong oAdd vAdd := fun Z A b u r st st1 st2 d e v w Q X hv h1 h2 q => by
  unfold vAdd at q
  split at q
  · rw [h1.intw, h2.intw]
    exact ⟨_, q, .refl, .int _⟩
  · obtain ⟨hl, q⟩ := q
    obtain ⟨ds, rfl, l1, r1⟩ := h1.tupw
    obtain ⟨es, rfl, l2, r2⟩ := h2.tupw
    unfold oAdd
    dsimp only
    rw [r1.length, r2.length, if_pos hl]
    exact ⟨_, q, .refl, .tup (by rw [List.length_append]; exact hl) (r1.app r2)⟩
  · obtain ⟨hl, q⟩ := q
    rw [h1.strw, h2.strw]
    unfold oAdd
    dsimp only
    rw [if_pos hl]
    exact ⟨_, q, .refl, .str _⟩
  · exact Post.fs hv (opv_addL Z A b u r st st1 st2 d e _ _ Q X hv h1 h2 q)
  · exact q.elim
theorem Reps.rep {Y : Av} {b : Nat} {st : Store} {ds : List D} {us : List U} (h : Reps Y b st ds us) : ∀ n, Reps Y b st (List.replicate n ds).flatten (List.replicate n us).flatten
  | 0 => .nil
  | n + 1 => by
    rw [List.replicate_succ, List.replicate_succ, List.flatten_cons, List.flatten_cons]
    exact h.app (Reps.rep h n)
def vMul : VO2 := fun v w Q => match v, w with
  | .int i, .int j => mulOk i j = true ∧ Q (.int (i * j))
  | .lst x, .int k => repOk x.length k = true ∧ Q (.lst (List.replicate k.toNat x).flatten)
  | .tup x, .int k => repOk x.length k = true ∧ Q (.tup (List.replicate k.toNat x).flatten)
  | _, _ => False
def vMulL : VO2 := fun v w Q => match v, w with
  | .lst x, .int k => repOk x.length k = true ∧ Q (.lst (List.replicate k.toNat x).flatten)
  | _, _ => False
theorem opv_mulL : OpOk .fresh oMul vMulL := fun Z A b u r st st1 st2 d e v w Q X hv h1 h2 q => by
  unfold vMulL at q
  split at q
  · obtain ⟨hl, q⟩ := q
    obtain ⟨n, ds, rfl, e1, l1, r1⟩ := h1.lstw
    rw [h2.intw]
    unfold oMul
    dsimp only
    rw [getL_of e1]
    dsimp only
    rw [r1.length, if_pos hl]
    exact newL_post hv (r1.rep _) (by rw [flat_len]; exact (repOk_ok hl).2.2) q
  · exact q.elim
theorem opv_mul : OpOk .strong oMul vMul := fun Z A b u r st st1 st2 d e v w Q X hv h1 h2 q => by
  unfold vMul at q
  split at q
  · obtain ⟨hl, q⟩ := q
    rw [h1.intw, h2.intw]
    unfold oMul
    dsimp only
    rw [if_pos hl]
    exact ⟨_, q, .refl, .int _⟩
  · exact Post.fs hv (opv_mulL Z A b u r st st1 st2 d e _ _ Q X hv h1 h2 q)
  · obtain ⟨hl, q⟩ := q
    obtain ⟨ds, rfl, l1, r1⟩ := h1.tupw
    rw [h2.intw]
    unfold oMul
    dsimp only
    rw [r1.length, if_pos hl]
    exact ⟨_, q, .refl, .tup (by rw [flat_len]; exact (repOk_ok hl).2.2) (r1.rep _)⟩
  · exact q.elim
def vMod : VO2 := fun v w Q => match v, w with
  | .int i, .int j => 0 < j ∧ Q (.int (i % j))
  | _, _ => False
theorem opv_mod : OpOk .strong oMod vMod := fun Z A b u r st st1 st2 d e v w Q X hv h1 h2 q => by
  unfold vMod at q
  split at q
  · rw [h1.intw, h2.intw]
    unfold oMod
    dsimp only
    rw [if_pos q.1]
    exact ⟨_, q.2, .refl, .int _⟩
  · exact q.elim
def vPow : VO2 := fun v w Q => match v, w with
  | .int i, .int j => (0 ≤ j ∧ j ≤ 1000000 ∧ i.natAbs < 2 ^ 64) ∧ Q (.int (i ^ j.toNat))
  | _, _ => False
theorem opv_pow : OpOk .strong oPow vPow := fun Z A b u r st st1 st2 d e v w Q X hv h1 h2 q => by
  unfold vPow at q
  split at q
  · rw [h1.intw, h2.intw]
    unfold oPow
    dsimp only
    rw [if_pos q.1]
    exact ⟨_, q.2, .refl, .int _⟩
  · exact q.elim
def vCmp (g : Int → Int → Bool) : VO2 := fun v w Q => match v, w with
  | .int i, .int j => Q (.bl (g i j))
  | _, _ => False
theorem opv_cmp (g : Int → Int → Bool) : OpOk .strong (oCmp g) (vCmp g) := fun Z A b u r st st1 st2 d e v w Q X hv h1 h2 q => by
  unfold vCmp at q
  split at q
  · rw [h1.intw, h2.intw]
    exact ⟨_, q, .refl, .bl _⟩
  · exact q.elim
/-- a value as plain data, to a depth -/
def U.toP : Nat → U → Option PyData
  | 0, _ => none
  | n + 1, d => match d with
    | .non => some .none
    | .bl b => some (.bool b)
    | .int i => some (.int i)
    | .str x => if (PyData.str x).canLay0 = true then some (.str x) else none
    | .tup l => (l.mapM (U.toP n)).map .tuple
    | .fz l => (l.mapM (U.toP n)).map .list
    | .xt l => (l.mapM (U.toP n)).map .tuple
    | .lst l => (l.mapM (U.toP n)).map .list
    | _ => none
theorem reps_toP {Y : Av} {b : Nat} {st : Store} {n : Nat} (ih : ∀ d v, Rep Y b st d v → toP st n d = v.toP n) : ∀ (ds : List D) (us : List U), Reps Y b st ds us → ds.mapM (toP st n) = us.mapM (U.toP n)
  | [], _, h => by cases h; rfl
  | d :: ds, _, h => by
    cases h with
    | cons a r => rw [List.mapM_cons, List.mapM_cons, ih d _ a, reps_toP ih ds _ r]
theorem rep_toP {Y : Av} {b : Nat} {st : Store} : ∀ (n : Nat) (d : D) (v : U), Rep Y b st d v → toP st n d = v.toP n
  | 0, _, _, _ => rfl
  | n + 1, d, v, h => by
    have ih := rep_toP n (Y := Y) (b := b) (st := st)
    cases h with
    | non => rfl
    | bl k => rfl
    | int i => rfl
    | str x => rfl
    | tup l a => unfold toP U.toP; dsimp only; rw [reps_toP ih _ _ a]
    | fz l a => unfold toP U.toP; dsimp only; rw [reps_toP ih _ _ a]
    | xt l a => unfold toP U.toP; dsimp only; rw [reps_toP ih _ _ a]
    | lst a e l r => unfold toP U.toP; dsimp only; rw [getL_of e]; dsimp only; rw [reps_toP ih _ _ r]
    | dK a e i k l r =>
      unfold toP U.toP getL
      dsimp only
      rw [e]
    | dT a e k l r =>
      unfold toP U.toP getL
      dsimp only
      rw [e]
    | gen a c e d f q w =>
      unfold toP U.toP getL
      dsimp only
      rw [e]
      rfl
theorem RelK.toP {k : Kd} {Z : Av} {A : Ow} {b : Nat} {st st0 : Store} {d : D} {v : U} (h : RelK k Z A b st0 st d v) : toP64 st d = v.toP 64 := rep_toP 64 d v h.any
def vEqG (g : PyData → PyData → Bool) : VO2 := fun v w Q => match v.toP 64, w.toP 64 with
  | some p, some q => Q (.bl (g p q))
  | _, _ => False
def vEq : VO2 := vEqG PyData.eqv
def vNe : VO2 := vEqG fun p q => !PyData.eqv p q
theorem opv_eq : OpOk .strong oEq vEq := fun Z A b u r st st1 st2 d e v w Q X hv h1 h2 q => by
  unfold vEq vEqG at q
  split at q
  · rename_i p p' e1 e2
    unfold oEq
    rw [h1.toP, h2.toP, e1, e2]
    exact ⟨_, q, .refl, .bl _⟩
  · exact q.elim
theorem opv_ne : OpOk .strong oNe vNe := fun Z A b u r st st1 st2 d e v w Q X hv h1 h2 q => by
  unfold vNe vEqG at q
  split at q
  · rename_i p p' e1 e2
    unfold oNe
    rw [h1.toP, h2.toP, e1, e2]
    exact ⟨_, q, .refl, .bl _⟩
  · exact q.elim
def U.keyOf : U → Option Key
  | .int i => some (.inl i)
  | .str x => some (.inr x)
  | _ => none
def U.keysOf : U → Option (List Key)
  | .tup l => l.mapM U.keyOf
  | _ => none
section
variable {Y : Av} {b : Nat} {st : Store}
theorem Rep.key {d : D} {v : U} (h : Rep Y b st d v) : keyOf d = v.keyOf := by cases h <;> rfl
theorem Reps.keys : ∀ {ds : List D} {us : List U}, Reps Y b st ds us → ds.mapM keyOf = us.mapM U.keyOf
  | [], _, h => by cases h; rfl
  | d :: ds, _, h => by
    cases h with
    | cons a r => rw [List.mapM_cons, List.mapM_cons, a.key, Reps.keys r]
theorem Rep.keys {d : D} {v : U} (h : Rep Y b st d v) : keysOf d = v.keysOf := by
  cases h <;> first | rfl | skip
  rename_i a
  exact Reps.keys a
end
/-- what a dict holds at a key, by value -/
def lookU {A : Type} [DecidableEq A] : List A → List U → A → Option U
  | k :: ks, u :: us, x => if k = x then some u else lookU ks us x
  | _, _, _ => none
theorem look_rel {A : Type} [DecidableEq A] {Y : Av} {b : Nat} {st : Store} : ∀ {kvs : List (A × D)} {us : List U} {k : A}, Reps Y b st (kvs.map (·.2)) us → (valD kvs k = none ∧ lookU (kvs.map (·.1)) us k = none) ∨ ∃ d u, valD kvs k = some d ∧ lookU (kvs.map (·.1)) us k = some u ∧ Rep Y b st d u
  | [], _, k, h => by cases h; exact .inl ⟨rfl, rfl⟩
  | (a, x) :: kvs, us, k, h => by
    rw [List.map_cons] at h
    cases h with
    | cons p r =>
      by_cases e : a = k
      · refine .inr ⟨x, _, ?_, ?_, p⟩
        · simp [valD, List.find?_cons, e]
        · simp [lookU, e]
      · have h1 : valD ((a, x) :: kvs) k = valD kvs k := by simp [valD, List.find?_cons, e]
        rw [h1]
        have h2 := look_rel (k := k) r
        simp only [List.map_cons, lookU, if_neg e]
        exact h2
/-- what a dict holds: none: no dict, or no key of its kind -/
def dGetU (v x : U) : Option (Option U) := match v with
  | .dK ks us => match x.keyOf with
    | some k => some (lookU ks us k)
    | none => none
  | .dT ks us => match x.keysOf with
    | some k => some (lookU ks us k)
    | none => none
  | _ => none
theorem dGet_rel {Z : Av} {A : Ow} {b : Nat} {st st1 st2 : Store} {d e : D} {v x : U} {o : Option U} (h1 : RelK .weak Z A b st1 st d v) (h2 : RelK .weak Z A b st2 st e x) (ho : dGetU v x = some o) :
    ∃ n o', d = .ref n ∧ dGet st n e = some o' ∧ getL st n = none ∧ ((o = none ∧ o' = none) ∨ ∃ y z, o = some z ∧ o' = some y ∧ Rep (avo Z A) b st y z) := by
  have hc : ∃ n, d = .ref n ∧ Cont (avo Z A) b st n v := by
    rcases h1 with h | ⟨i, n, _, rfl, h⟩
    · cases h <;> first | cases ho | skip
      · exact ⟨_, rfl, _, by assumption, by assumption, by assumption, by assumption, by assumption⟩
      · exact ⟨_, rfl, _, by assumption, by assumption, by assumption, by assumption⟩
    · exact ⟨n, rfl, h⟩
  obtain ⟨n, rfl, hc⟩ := hc
  cases v with
  | dK ks us =>
    obtain ⟨kvs, e1, _, rfl, _, r⟩ := hc
    unfold dGetU at ho
    dsimp only at ho
    split at ho
    · rename_i k ek
      have ho := Option.some.inj ho
      refine ⟨n, valD kvs k, rfl, ?_, by unfold getL; rw [e1], ?_⟩
      · unfold dGet
        rw [e1]
        dsimp only
        rw [h2.any.key, ek]
      · rcases look_rel (k := k) r with ⟨z1, z2⟩ | ⟨y, z, z1, z2, z3⟩
        · exact .inl ⟨by rw [← ho, z2], z1⟩
        · exact .inr ⟨y, z, by rw [← ho, z2], z1, z3⟩
    · cases ho
  | dT ks us =>
    obtain ⟨kvs, e1, rfl, _, r⟩ := hc
    unfold dGetU at ho
    dsimp only at ho
    split at ho
    · rename_i k ek
      have ho := Option.some.inj ho
      refine ⟨n, valD kvs k, rfl, ?_, by unfold getL; rw [e1], ?_⟩
      · unfold dGet
        rw [e1]
        dsimp only
        rw [h2.any.keys, ek]
      · rcases look_rel (k := k) r with ⟨z1, z2⟩ | ⟨y, z, z1, z2, z3⟩
        · exact .inl ⟨by rw [← ho, z2], z1⟩
        · exact .inr ⟨y, z, by rw [← ho, z2], z1, z3⟩
    · cases ho
  | _ => cases ho
/-- x in y -/
def isInU (x y : U) : Option Bool := match y with
  | .dK _ _ => (dGetU y x).map Option.isSome
  | .dT _ _ => (dGetU y x).map Option.isSome
  | _ => match x.toP 64, y.toP 64 with
    | some p, some (.list ds) => some (ds.any fun z => PyData.eqv z p)
    | some p, some (.tuple ds) => some (ds.any fun z => PyData.eqv z p)
    | _, _ => none
theorem toP_tup_ne {n : Nat} {l : List U} {ds : List PyData} : (U.tup l).toP n ≠ some (.list ds) := by
  cases n with
  | zero => intro h; cases h
  | succ n =>
    intro h
    have h : (l.mapM (U.toP n)).map PyData.tuple = some (.list ds) := h
    cases e : l.mapM (U.toP n) <;> rw [e] at h <;> cases h
theorem toP_lst_ne {n : Nat} {l : List U} {ds : List PyData} : (U.lst l).toP n ≠ some (.tuple ds) := by
  cases n with
  | zero => intro h; cases h
  | succ n =>
    intro h
    have h : (l.mapM (U.toP n)).map PyData.list = some (.tuple ds) := h
    cases e : l.mapM (U.toP n) <;> rw [e] at h <;> cases h
theorem toP_fz_ne {n : Nat} {l : List U} {ds : List PyData} : (U.fz l).toP n ≠ some (.tuple ds) := by
  cases n with
  | zero => intro h; cases h
  | succ n =>
    intro h
    have h : (l.mapM (U.toP n)).map PyData.list = some (.tuple ds) := h
    cases e : l.mapM (U.toP n) <;> rw [e] at h <;> cases h
theorem toP_xt_ne {n : Nat} {l : List U} {ds : List PyData} : (U.xt l).toP n ≠ some (.list ds) := by
  cases n with
  | zero => intro h; cases h
  | succ n =>
    intro h
    have h : (l.mapM (U.toP n)).map PyData.tuple = some (.list ds) := h
    cases e : l.mapM (U.toP n) <;> rw [e] at h <;> cases h
theorem isIn_rel {Z : Av} {A : Ow} {b : Nat} {st st1 st2 : Store} {d e : D} {v w : U} {k : Bool} (h1 : RelK .weak Z A b st1 st d v) (h2 : RelK .weak Z A b st2 st e w) (ho : isInU v w = some k) : isIn d e st = some k := by
  have p1 := h1.toP
  have p2 := h2.toP
  unfold isInU at ho
  split at ho
  · rename_i ks us
    cases eg : dGetU (.dK ks us) v with
    | none => rw [eg] at ho; cases ho
    | some o =>
      rw [eg] at ho
      obtain ⟨n, o', rfl, g1, g2, g3⟩ := dGet_rel h2 h1 eg
      unfold isIn
      dsimp only
      rw [g2]
      dsimp only
      rw [g1]
      have ho := Option.some.inj ho
      dsimp only
      rcases g3 with ⟨a, c⟩ | ⟨y, z, a, c, _⟩ <;> rw [c] <;> rw [a] at ho <;> rw [← ho] <;> rfl
  · rename_i ks us
    cases eg : dGetU (.dT ks us) v with
    | none => rw [eg] at ho; cases ho
    | some o =>
      rw [eg] at ho
      obtain ⟨n, o', rfl, g1, g2, g3⟩ := dGet_rel h2 h1 eg
      unfold isIn
      dsimp only
      rw [g2]
      dsimp only
      rw [g1]
      have ho := Option.some.inj ho
      dsimp only
      rcases g3 with ⟨a, c⟩ | ⟨y, z, a, c, _⟩ <;> rw [c] <;> rw [a] at ho <;> rw [← ho] <;> rfl
  · split at ho
    · rename_i p ds e1 e2
      have ho := Option.some.inj ho
      cases w with
      | tup l => exact absurd e2 toP_tup_ne
      | xt l => exact absurd e2 toP_xt_ne
      | fz l =>
        obtain ⟨ds', q1, q2⟩ : ∃ ds', e = .fz ds' ∧ True := by
          have := h2.any
          cases this
          exact ⟨_, rfl, trivial⟩
        subst q1
        unfold isIn
        dsimp only
        rw [p1, p2, e1, e2]
        dsimp only
        rw [ho]
      | lst l =>
        obtain ⟨n, ds', rfl, q1, _, q2⟩ := h2.lstw
        unfold isIn
        dsimp only
        rw [getL_of q1]
        dsimp only
        rw [p1, p2, e1, e2]
        dsimp only
        rw [ho]
      | str x =>
        have z : (if (PyData.str x).canLay0 = true then some (PyData.str x) else none) = some (.list ds) := e2
        split at z <;> cases z
      | _ => cases e2
    · rename_i p ds e1 e2
      have ho := Option.some.inj ho
      cases w with
      | lst l => exact absurd e2 toP_lst_ne
      | fz l => exact absurd e2 toP_fz_ne
      | xt l =>
        obtain ⟨ds', rfl⟩ : ∃ ds', e = .xt ds' := by
          have := h2.any
          cases this
          exact ⟨_, rfl⟩
        unfold isIn
        dsimp only
        rw [p1, p2, e1, e2]
        dsimp only
        rw [ho]
      | tup l =>
        obtain ⟨ds', rfl, _, q2⟩ := h2.tupw
        unfold isIn
        dsimp only
        rw [p1, p2, e1, e2]
        dsimp only
        rw [ho]
      | str x =>
        have z : (if (PyData.str x).canLay0 = true then some (PyData.str x) else none) = some (.tuple ds) := e2
        split at z <;> cases z
      | _ => cases e2
    · cases ho
def vIn : VO2 := fun v w Q => match isInU v w with
  | some k => Q (.bl k)
  | none => False
def vNotIn : VO2 := fun v w Q => match isInU v w with
  | some k => Q (.bl (!k))
  | none => False
theorem opv_in : OpOk .strong oIn vIn := fun Z A b u r st st1 st2 d e v w Q X hv h1 h2 q => by
  unfold vIn at q
  split at q
  · rename_i k ek
    unfold oIn
    rw [isIn_rel h1 h2 ek]
    exact ⟨_, q, .refl, .bl _⟩
  · exact q.elim
theorem opv_notin : OpOk .strong oNotIn vNotIn := fun Z A b u r st st1 st2 d e v w Q X hv h1 h2 q => by
  unfold vNotIn at q
  split at q
  · rename_i k ek
    unfold oNotIn
    rw [isIn_rel h1 h2 ek]
    exact ⟨_, q, .refl, .bl _⟩
  · exact q.elim
def U.isNon : U → Bool
  | .non => true
  | _ => false
theorem RelK.non_eq {k : Kd} {Z : Av} {A : Ow} {b : Nat} {st st0 : Store} {d : D} {v : U} (h : RelK k Z A b st0 st d v) : Pd.isNon d = v.isNon := by
  have := h.any
  cases this <;> rfl
def vIsNot : VO2 := fun v w Q => w.isNon = true ∧ Q (.bl (!v.isNon))
theorem opv_isnot : OpOk .strong oIsNot vIsNot := fun Z A b u r st st1 st2 d e v w Q X hv h1 h2 q => by
  unfold oIsNot
  rw [h1.non_eq, h2.non_eq, if_pos q.1]
  exact ⟨_, q.2, .refl, .bl _⟩
def vIx : VO2 := fun v w Q => match v.items with
  | some us => match w with
    | .int i => match atI us i with
      | some x => Q x
      | none => False
    | _ => False
  | none => match dGetU v w with
    | some (some x) => Q x
    | _ => False
theorem atI_relU {Y : Av} {b : Nat} {st : Store} {ds : List D} {us : List U} {i : Int} {x : U} (r : Reps Y b st ds us) (e : atI us i = some x) : ∃ d, atI ds i = some d ∧ Rep Y b st d x := by
  unfold atI at e ⊢
  rw [r.length]
  cases q : ixN us.length i with
  | none => rw [q] at e; cases e
  | some j =>
    rw [q] at e
    obtain ⟨v, e1, e2⟩ := Paired.getR r.pr (show us[j]? = some x from e)
    exact ⟨v, e1, e2⟩
theorem opv_ix : OpOk .strong oIx vIx := fun Z A b u r st st1 st2 d e v w Q X hv h1 h2 q => by
  unfold vIx at q
  split at q
  · rename_i us eu
    split at q
    · rename_i i
      split at q
      · rename_i x ex
        obtain ⟨ds, e1, _, _, r1⟩ := h1.seq eu
        obtain ⟨y, e2, r2⟩ := atI_relU r1 ex
        rw [h2.intw]
        unfold oIx ixSeq
        rw [e1]
        dsimp only
        rw [e2]
        exact ⟨x, q, .refl, r2⟩
      · exact q.elim
    · exact q.elim
  · split at q
    · rename_i x ex
      obtain ⟨n, o', rfl, g1, g2, g3⟩ := dGet_rel h1 h2 ex
      rcases g3 with ⟨a, _⟩ | ⟨y, z, a, c, r1⟩
      · cases a
      · cases a
        subst c
        have e0 : ixSeq (.ref n) e st = none := by
          unfold ixSeq
          rw [show seqOf st (.ref n) = none from g2]
        unfold oIx
        rw [e0]
        dsimp only
        unfold ixDic
        dsimp only
        rw [g1]
        exact ⟨x, q, .refl, r1⟩
    · exact q.elim
end Pd
set_option maxRecDepth 100000
set_option maxHeartbeats 4000000
namespace Pd
open PySem PySem.Spec PyProof.Rows L2
def truU : U → (Bool → Prop) → Prop
  | .non, Q => Q false
  | .bl b, Q => Q b
  | .int i, Q => Q (i != 0)
  | .tup l, Q => Q (!l.isEmpty)
  | .fz l, Q => Q (!l.isEmpty)
  | .xt l, Q => Q (!l.isEmpty)
  | .lst l, Q => Q (!l.isEmpty)
  | _, _ => False
def vTru (w : VE) : VT := fun u Q X => w u (fun v => truU v Q) X
def vB (w : VE) : VT := fun u Q X => w u (fun v => match v with
  | .bl k => Q k
  | _ => False) X
def vAnd (t s : VT) : VT := fun u Q X => t u (fun c => if c = true then s u Q X else Q false) X
def vOr (t s : VT) : VT := fun u Q X => t u (fun c => if c = true then Q true else s u Q X) X
def vNot (t : VT) : VT := fun u Q X => t u (fun c => Q (!c)) X
def vAndV (a b : VE) : VE := fun u Q X => a u (fun v => match v with
  | .bl c => if c = true then b u Q X else Q (.bl false)
  | _ => False) X
def vOrV (a b : VE) : VE := fun u Q X => a u (fun v => match v with
  | .bl c => if c = true then Q (.bl true) else b u Q X
  | _ => False) X
def vNotV (a : VE) : VE := fun u Q X => a u (fun v => match v with
  | .bl c => Q (.bl (!c))
  | _ => False) X
def vIf (t : VT) (a b : VE) : VE := fun u Q X => t u (fun c => if c = true then a u Q X else b u Q X) X
def vChain (g g' : VO2) (a b c : VE) : VE := fun u Q X => a u (fun x => b u (fun y => g x y fun z => match z with
  | .bl k => if k = true then c u (fun w => g' y w Q) X else Q (.bl false)
  | _ => False) X) X
theorem Reps.emp {Y : Av} {b : Nat} {st : Store} {ds : List D} {us : List U} (h : Reps Y b st ds us) : ds.isEmpty = us.isEmpty := by cases h <;> rfl
section
variable {k : Kd} {c c1 c2 c3 : Nat} {a b e : DE} {wa wb we : VE} {t s : DT} {wt ws : VT} {g g' : D → D → Store → Res D} {gv gv' : VO2}
theorem tv_tru (ha : EOk .weak c a wa) : TOk c (dTru a) (vTru wa) := by
  refine JOk.bind (c2 := 0) (kw := fun v u Q X => truU v Q) RelB.up ha fun Z A n u r st0 st d v Q X hcap hv hr q => ?_
  unfold truU at q
  split at q
  · rw [hr.any.nond]; exact ⟨_, q, .refl, rfl⟩
  · rw [hr.blw]; exact ⟨_, q, .refl, rfl⟩
  · rw [hr.intw]; exact ⟨_, q, .refl, rfl⟩
  · obtain ⟨ds, rfl, _, r1⟩ := hr.tupw
    exact ⟨_, q, .refl, congrArg (!·) r1.emp⟩
  · rename_i l
    have h := hr.any
    cases h with
    | fz _ r1 => exact ⟨_, q, .refl, congrArg (!·) r1.emp⟩
  · rename_i l
    have h := hr.any
    cases h with
    | xt _ r1 => exact ⟨_, q, .refl, congrArg (!·) r1.emp⟩
  · obtain ⟨n, ds, rfl, e, _, r1⟩ := hr.lstw
    unfold truD
    dsimp only
    rw [getL_of e]
    exact ⟨_, q, .refl, congrArg (!·) r1.emp⟩
  · exact q.elim
theorem tv_B (ha : EOk .weak c a wa) : TOk c (dB a) (vB wa) := by
  refine JOk.bind (c2 := 0) (kw := fun v u Q X => match v with
    | .bl k => Q k
    | _ => False) RelB.up ha fun Z A n u r st0 st d v Q X hcap hv hr q => ?_
  cases v <;> first | exact q.elim | skip
  rw [hr.blw]
  exact ⟨_, q, .refl, rfl⟩
theorem tv_and (ht : TOk c1 t wt) (hs : TOk c2 s ws) : TOk (c1 + c2) (dAnd t s) (vAnd wt ws) := by
  refine JOk.bind (kw := fun v u Q X => if v = true then ws u Q X else Q false) RelB.up ht fun Z A n u r st0 st d v Q X hcap hv hr q => ?_
  cases hr
  cases d with
  | true => exact hs Z A n u r st Q X (by omega) hv q
  | false => exact ⟨_, q, .le (by omega), rfl⟩
theorem tv_or (ht : TOk c1 t wt) (hs : TOk c2 s ws) : TOk (c1 + c2) (dOr t s) (vOr wt ws) := by
  refine JOk.bind (kw := fun v u Q X => if v = true then Q true else ws u Q X) RelB.up ht fun Z A n u r st0 st d v Q X hcap hv hr q => ?_
  cases hr
  cases d with
  | true => exact ⟨_, q, .le (by omega), rfl⟩
  | false => exact hs Z A n u r st Q X (by omega) hv q
theorem tv_not (ht : TOk c t wt) : TOk c (dNot t) (vNot wt) := by
  refine JOk.bind (c2 := 0) (kw := fun v u Q X => Q (!v)) RelB.up ht fun Z A n u r st0 st d v Q X hcap hv hr q => ?_
  cases hr
  exact ⟨_, q, .refl, rfl⟩
theorem ev_and (ha : EOk .weak c1 a wa) (hb : EOk .strong c2 b wb) : EOk .strong (c1 + c2) (dAndV a b) (vAndV wa wb) := by
  refine JOk.bind (kw := fun v u Q X => match v with
    | .bl c => if c = true then wb u Q X else Q (.bl false)
    | _ => False) RelK.up ha fun Z A n u r st0 st d v Q X hcap hv hr q => ?_
  cases v <;> first | exact q.elim | skip
  rename_i k
  rw [hr.blw]
  cases k with
  | true => exact hb Z A n u r st Q X (by omega) hv q
  | false => exact ⟨_, q, .le (by omega), .bl _⟩
theorem ev_or (ha : EOk .weak c1 a wa) (hb : EOk .strong c2 b wb) : EOk .strong (c1 + c2) (dOrV a b) (vOrV wa wb) := by
  refine JOk.bind (kw := fun v u Q X => match v with
    | .bl c => if c = true then Q (.bl true) else wb u Q X
    | _ => False) RelK.up ha fun Z A n u r st0 st d v Q X hcap hv hr q => ?_
  cases v <;> first | exact q.elim | skip
  rename_i k
  rw [hr.blw]
  cases k with
  | true => exact ⟨_, q, .le (by omega), .bl _⟩
  | false => exact hb Z A n u r st Q X (by omega) hv q
theorem ev_not (ha : EOk .weak c a wa) : EOk .strong c (dNotV a) (vNotV wa) := by
  refine JOk.bind (c2 := 0) (kw := fun v u Q X => match v with
    | .bl c => Q (.bl (!c))
    | _ => False) RelK.up ha fun Z A n u r st0 st d v Q X hcap hv hr q => ?_
  cases v <;> first | exact q.elim | skip
  rw [hr.blw]
  exact ⟨_, q, .refl, .bl _⟩
theorem ev_if (ht : TOk c1 t wt) (ha : EOk k c2 a wa) (hb : EOk k c3 b wb) : EOk k (c1 + (c2 + c3)) (dIf t a b) (vIf wt wa wb) := by
  refine JOk.bind (kw := fun v u Q X => if v = true then wa u Q X else wb u Q X) RelK.up ht fun Z A n u r st0 st d v Q X hcap hv hr q => ?_
  cases hr
  cases d with
  | true => exact Post.le RelK.up (by omega) (ha Z A n u r st Q X (by omega) hv q)
  | false => exact Post.le RelK.up (by omega) (hb Z A n u r st Q X (by omega) hv q)
theorem ev_chain {d : DE} {wd : VE} (ho : OpOk .strong g gv) (ho' : OpOk .strong g' gv') (ha : EOk .weak c1 a wa) (hb : EOk .weak c2 b wb) (hd : EOk .weak c3 d wd) : EOk .strong (c1 + (c2 + c3)) (dChain g g' a b d) (vChain gv gv' wa wb wd) := by
  refine JOk.bind (kw := fun x u Q X => wb u (fun y => gv x y fun z => match z with
    | .bl k => if k = true then wd u (fun w => gv' y w Q) X else Q (.bl false)
    | _ => False) X) RelK.up ha fun Z A n u r st0 st x v Q X hcap hv hr q => ?_
  refine Post.bind RelK.up (hb Z A n u r st _ X (by omega) hv q) (by omega) hv fun y st1 v2 hv1 g1 hr2 q2 => ?_
  refine Post.bind RelK.up (ho Z A _ u r st1 _ _ x y v v2 _ X hv1 (RelK.up.up hr g1) hr2 q2) (by omega) hv1 fun z st2 v3 hv2 g2 hr3 q3 => ?_
  cases v3 <;> first | exact q3.elim | skip
  rename_i k
  rw [hr3.blw]
  show Post _ _ _ _ _ _ (if k = true then _ else _) _ _
  cases k with
  | true =>
    refine Post.bind RelK.up (hd Z A _ u r st2 _ X (by omega) hv2 q3) (by omega) hv2 fun w st3 v4 hv3 g3 hr4 q4 => ?_
    refine Post.le RelK.up (by omega) (ho' Z A _ u r st3 _ _ y w v2 v4 Q X hv3 (RelK.up.up (RelK.up.up hr2 g2) g3) hr4 q4)
  | false => exact ⟨_, q3, .le (by omega), .bl _⟩
end
def vNil : VA := fun _ Q _ => Q []
def vCons (a : VE) (b : VA) : VA := fun u Q X => a u (fun x => b u (fun l => Q (x :: l)) X) X
section
variable {k : Kd} {c c1 c2 : Nat} {a : DE} {l : DA} {wa : VE} {wl : VA}
theorem av_nil : AOk k 0 dNil vNil := fun Z A b u r st Q X hcap hv q => ⟨[], q, .refl, .nil⟩
theorem RelK.rebase {Z : Av} {A : Ow} {b : Nat} {st st0 st1 : Store} {d : D} {v : U} (hk : k ≠ .fresh) (h : RelK k Z A b st0 st d v) : RelK k Z A b st1 st d v := by
  cases k with
  | weak => exact h
  | strong => exact h
  | fresh => exact absurd rfl hk
theorem av_cons (ha : EOk k c1 a wa) (hl : AOk k c2 l wl) (hk : k ≠ .fresh := by decide) : AOk k (c1 + c2) (dCons a l) (vCons wa wl) := by
  refine JOk.bind (kw := fun x u Q X => wl u (fun l => Q (x :: l)) X) RelL.up ha fun Z A n u r st0 st d v Q X hcap hv hr q => ?_
  refine Post.bind RelL.up (hl Z A n u r st _ X (by omega) hv q) (Nat.le_refl _) hv fun y st1 v2 hv1 g1 hr2 q2 => ?_
  exact ⟨_, q2, .refl, .cons ((RelK.up.up hr g1).rebase hk) (Paired.mono (fun _ _ z => z.rebase hk) hr2)⟩
/-- strong arguments as data -/
theorem RelL.reps {Z : Av} {A : Ow} {b : Nat} {st st0 : Store} {ds : List D} {us : List U} (h : RelL .strong Z A b st0 st ds us) : Reps (avo Z A) b st ds us := .of h
theorem RelL.any {k : Kd} {Z : Av} {A : Ow} {b : Nat} {st st0 : Store} {ds : List D} {us : List U} (h : RelL k Z A b st0 st ds us) : Reps noW b st ds us := .of (Paired.mono (fun _ _ z => RelK.any z) h)
def vTup (l : VA) : VE := fun u Q X => l u (fun us => us.length ≤ sizeLine ∧ Q (.tup us)) X
def vLst (l : VA) : VE := fun u Q X => l u (fun us => us.length ≤ sizeLine ∧ Q (.lst us)) X
theorem ev_tup (hl : AOk .strong c l wl) : EOk .strong c (dL oTup l) (vTup wl) := by
  refine JOk.bind (c2 := 0) (kw := fun us u Q X => us.length ≤ sizeLine ∧ Q (.tup us)) RelK.up hl fun Z A n u r st0 st d v Q X hcap hv hr q => ?_
  have hr := hr.reps
  unfold oTup
  rw [hr.length, if_pos q.1]
  exact ⟨_, q.2, .refl, .tup q.1 hr⟩
theorem ev_lst (hl : AOk .strong c l wl) : EOk .fresh c (dL oLst l) (vLst wl) := by
  refine JOk.bind (c2 := 0) (kw := fun us u Q X => us.length ≤ sizeLine ∧ Q (.lst us)) RelK.up hl fun Z A n u r st0 st d v Q X hcap hv hr q => ?_
  have hr := hr.reps
  unfold oLst
  rw [hr.length, if_pos q.1]
  exact newL_post hv hr q.1 q.2
def vNoP : VG (Option Int) := fun _ Q _ => Q none
def vP (w : VE) : VG (Option Int) := fun u Q X => w u (fun v => match v with
  | .int i => Q (some i)
  | _ => False) X
def cutU (l : List U) (lo hi : Option Int) : List U := (l.drop (HT.sIx l.length 0 lo)).take (HT.sIx l.length l.length hi - HT.sIx l.length 0 lo)
def vSlG (t : Bool) (wa : VE) (wl wh : VG (Option Int)) : VE := fun u Q X => wa u (fun x => wl u (fun l => wh u (fun h => match x with
  | .tup us => t = true ∧ Q (.tup (cutU us l h))
  | .lst us => Q (.lst (cutU us l h))
  | .fz us => Q (.lst (cutU us l h))
  | _ => False) X) X) X
def vSl : VE → VG (Option Int) → VG (Option Int) → VE := vSlG true
theorem cutU_length (l : List U) (lo hi : Option Int) : (cutU l lo hi).length ≤ l.length := by
  unfold cutU
  rw [List.length_take, List.length_drop]
  omega
theorem cut_relU {Y : Av} {b : Nat} {st : Store} {ds : List D} {us : List U} (r : Reps Y b st ds us) (lo hi : Option Int) : Reps Y b st (cutD ds lo hi) (cutU us lo hi) := by
  unfold cutD cutU
  rw [← r.length]
  exact .of (Paired.tk (Paired.dr r.pr _) _)
theorem pv_noP : JOk RelO 0 dNoP vNoP := fun Z A b u r st Q X hcap hv q => ⟨none, q, .refl, rfl⟩
theorem pv_P (ha : EOk .weak c a wa) : JOk RelO c (dP a) (vP wa) := by
  refine JOk.bind (c2 := 0) (kw := fun v u Q X => match v with
    | .int i => Q (some i)
    | _ => False) RelO.up ha fun Z A n u r st0 st d v Q X hcap hv hr q => ?_
  cases v <;> first | exact q.elim | skip
  rw [hr.intw]
  exact ⟨_, q, .refl, rfl⟩
theorem ev_slG {t : Bool} {dl dh : DP} {wl wh : VG (Option Int)} (ha : EOk .weak c a wa) (hl : JOk RelO c1 dl wl) (hh : JOk RelO c2 dh wh) : EOk (if t = true then .strong else .fresh) (c + (c1 + c2)) (dSl a dl dh) (vSlG t wa wl wh) := by
  refine JOk.bind (kw := fun x u Q X => wl u (fun l => wh u (fun h => match x with
    | .tup us => t = true ∧ Q (.tup (cutU us l h))
    | .lst us => Q (.lst (cutU us l h))
    | .fz us => Q (.lst (cutU us l h))
    | _ => False) X) X) RelK.up ha fun Z A n u r st0 st x v Q X hcap hv hr q => ?_
  refine Post.bind RelK.up (hl Z A n u r st _ X (by omega) hv q) (by omega) hv fun l st1 v2 hv1 g1 hr2 q2 => ?_
  refine Post.bind RelK.up (hh Z A _ u r st1 _ X (by omega) hv1 q2) (by omega) hv1 fun h st2 v3 hv2 g2 hr3 q3 => ?_
  cases hr2
  cases hr3
  have hr := RelK.up.up (RelK.up.up hr g1) g2
  have lists : ∀ us, v.items = some us → v.isTup = false → Q (.lst (cutU us l h)) → Post (RelK .fresh) Z A (n + c1 + c2) (n + (c1 + c2)) st2 (oSl x l h st2) Q X := fun us e1 e2 q => by
    obtain ⟨ds, es, et, hl, r1⟩ := hr.seq e1
    unfold oSl
    rw [es]
    dsimp only
    have nx : isXt x = false := by
      cases x <;> first | rfl | (rw [e2] at et; cases et)
    rw [nx, et, e2, if_neg (by decide), if_neg (by decide)]
    exact Post.le RelK.up (by omega) (newL_post hv2 (cut_relU r1 l h) (Nat.le_trans (cutU_length us l h) hl) q)
  cases v with
  | tup us =>
    obtain ⟨rfl, q3⟩ := q3
    obtain ⟨ds, rfl, hl, r1⟩ := hr.tupw
    show Post (RelK .strong) _ _ _ _ _ _ _ _
    exact ⟨_, q3, .le (by omega), .tup (Nat.le_trans (cutU_length us l h) hl) ((cut_relU r1 l h).gx (.le (by omega)))⟩
  | lst us =>
    have := lists us rfl rfl q3
    cases t with
    | true => exact Post.fs hv2 this
    | false => exact this
  | fz us =>
    have := lists us rfl rfl q3
    cases t with
    | true => exact Post.fs hv2 this
    | false => exact this
  | _ => exact q3.elim
theorem ev_sl {dl dh : DP} {wl wh : VG (Option Int)} (ha : EOk .weak c a wa) (hl : JOk RelO c1 dl wl) (hh : JOk RelO c2 dh wh) : EOk .strong (c + (c1 + c2)) (dSl a dl dh) (vSl wa wl wh) := ev_slG (t := true) ha hl hh
end
abbrev VOL := List U → (U → Prop) → Prop
def OpLOk (k : Kd) (g : List D → Store → Res D) (gv : VOL) : Prop := ∀ (Z : Av) (A : Ow) (b : Nat) (u : UEnv) (r : Env') (st st1 : Store) (ds : List D) (us : List U) (Q : U → Prop) (X : VX), RV Z A b u r st → RelL .weak Z A b st1 st ds us → gv us Q → Post (RelK k) Z A b b st (g ds st) Q X
def vL (gv : VOL) (l : VA) : VE := fun u Q X => l u (fun us => gv us Q) X
theorem ev_L {k : Kd} {c : Nat} {g : List D → Store → Res D} {gv : VOL} {l : DA} {wl : VA} (ho : OpLOk k g gv) (hl : AOk .weak c l wl) : EOk k c (dL g l) (vL gv wl) := by
  refine JOk.bind (c2 := 0) (kw := fun us u Q X => gv us Q) RelK.up hl fun Z A n u r st0 st d v Q X hcap hv hr q => ?_
  exact ho Z A n u r st _ d v Q X hv hr q
/-- one argument -/
theorem RelL.one {Z : Av} {A : Ow} {b : Nat} {st st0 : Store} {ds : List D} {v : U} (h : RelL .weak Z A b st0 st ds [v]) : ∃ d, ds = [d] ∧ RelK .weak Z A b st0 st d v := by
  cases h with
  | cons a b => cases b; exact ⟨_, rfl, a⟩
theorem RelL.two {Z : Av} {A : Ow} {b : Nat} {st st0 : Store} {ds : List D} {v w : U} (h : RelL .weak Z A b st0 st ds [v, w]) : ∃ d e, ds = [d, e] ∧ RelK .weak Z A b st0 st d v ∧ RelK .weak Z A b st0 st e w := by
  cases h with
  | cons a b => cases b with
    | cons c d => cases d; exact ⟨_, _, rfl, a, c⟩
def vLen : VOL := fun l Q => match l with
  | [v] => match v.items with
    | some us => Q (.int us.length)
    | none => False
  | _ => False
theorem olv_len : OpLOk .strong oLen vLen := fun Z A b u r st st1 ds us Q X hv h q => by
  unfold vLen at q
  split at q
  · rename_i v
    split at q
    · rename_i us e
      obtain ⟨d, rfl, h1⟩ := h.one
      obtain ⟨ds, e1, _, _, r1⟩ := h1.seq e
      unfold oLen
      dsimp only
      rw [e1]
      dsimp only
      rw [r1.length]
      exact ⟨_, q, .refl, .int _⟩
    · exact q.elim
  · exact q.elim
def vInt : VOL := fun l Q => match l with
  | [.int i] => Q (.int i)
  | [.bl b] => Q (.int (if b = true then 1 else 0))
  | _ => False
theorem olv_int : OpLOk .strong oInt vInt := fun Z A b u r st st1 ds us Q X hv h q => by
  unfold vInt at q
  split at q
  · obtain ⟨d, rfl, h1⟩ := h.one
    rw [h1.intw]
    exact ⟨_, q, .refl, .int _⟩
  · obtain ⟨d, rfl, h1⟩ := h.one
    rw [h1.blw]
    exact ⟨_, q, .refl, .int _⟩
  · exact q.elim
def vListO : VOL := fun l Q => match l with
  | [v] => match v.items with
    | some us => Q (.lst us)
    | none => False
  | _ => False
theorem olv_list : OpLOk .fresh oList vListO := fun Z A b u r st st1 ds us Q X hv h q => by
  unfold vListO at q
  split at q
  · rename_i v
    split at q
    · rename_i us e
      obtain ⟨d, rfl, h1⟩ := h.one
      obtain ⟨ds, e1, _, hl, r1⟩ := h1.seq e
      unfold oList
      dsimp only
      rw [e1]
      exact newL_post hv r1 hl q
    · exact q.elim
  · exact q.elim
def vTupleO : VOL := fun l Q => match l with
  | [v] => match v.items with
    | some us => v.isXt = false ∧ Q (.tup us)
    | none => False
  | _ => False
theorem olv_tuple : OpLOk .strong oTuple vTupleO := fun Z A b u r st st1 ds us Q X hv h q => by
  unfold vTupleO at q
  split at q
  · rename_i v
    split at q
    · rename_i us e
      obtain ⟨d, rfl, h1⟩ := h.one
      obtain ⟨ds, e1, _, hl, r1⟩ := h1.seq e
      unfold oTuple
      dsimp only
      rw [e1]
      dsimp only
      have nx : isXt d = false := by
        have h2 := h1.any
        cases h2 <;> first | rfl | exact absurd q.1 (by intro z; cases z)
      rw [nx, if_neg (by decide)]
      exact ⟨_, q.2, .refl, .tup hl r1⟩
    · exact q.elim
  · exact q.elim
def U.asInt : U → Option Int
  | .int i => some i
  | _ => none
def U.asBool : U → Option Bool
  | .bl i => some i
  | _ => none
theorem Reps.ints {Y : Av} {b : Nat} {st : Store} : ∀ {ds : List D} {us : List U} {ns : List Int}, Reps Y b st ds us → us.mapM U.asInt = some ns → ds.mapM asInt = some ns
  | [], _, ns, h, e => by cases h; exact e
  | d :: ds, _, ns, h, e => by
    cases h with
    | cons a r =>
      obtain ⟨k, r', e1, e2, rfl⟩ := mapM_cons e
      rename_i u us
      obtain rfl : u = .int k := by
        cases u <;> first | cases e1 | skip
        rfl
      rw [a.intd, List.mapM_cons, Reps.ints r e2]
      rfl
theorem Reps.bools {Y : Av} {b : Nat} {st : Store} : ∀ {ds : List D} {us : List U} {ns : List Bool}, Reps Y b st ds us → us.mapM U.asBool = some ns → ds.mapM asBool = some ns
  | [], _, ns, h, e => by cases h; exact e
  | d :: ds, _, ns, h, e => by
    cases h with
    | cons a r =>
      obtain ⟨k, r', e1, e2, rfl⟩ := mapM_cons e
      rename_i u us
      obtain rfl : u = .bl k := by
        cases u <;> first | cases e1 | skip
        rfl
      rw [a.bld, List.mapM_cons, Reps.bools r e2]
      rfl
/-- the ints of a list -/
def U.ints : U → Option (List Int)
  | .lst l => l.mapM U.asInt
  | .fz l => l.mapM U.asInt
  | _ => none
def U.bools : U → Option (List Bool)
  | .lst l => l.mapM U.asBool
  | .fz l => l.mapM U.asBool
  | _ => none
section
variable {Z : Av} {A : Ow} {b : Nat} {st st0 : Store} {d : D} {v : U}
theorem RelK.ints {ns : List Int} (h : RelK .weak Z A b st0 st d v) (e : v.ints = some ns) : intsOf st d = some ns := by
  have go : ∀ us, v.items = some us → v.isTup = false → us.mapM U.asInt = some ns → intsOf st d = some ns := fun us e1 e2 e3 => by
    obtain ⟨ds, e4, e5, _, r1⟩ := h.seq e1
    unfold intsOf
    rw [e5, e2, if_neg (by decide), e4]
    exact r1.ints e3
  cases v with
  | lst l => exact go l rfl rfl e
  | fz l => exact go l rfl rfl e
  | _ => cases e
theorem RelK.bools {ns : List Bool} (h : RelK .weak Z A b st0 st d v) (e : v.bools = some ns) : boolsOf st d = some ns := by
  have go : ∀ us, v.items = some us → v.isTup = false → us.mapM U.asBool = some ns → boolsOf st d = some ns := fun us e1 e2 e3 => by
    obtain ⟨ds, e4, e5, _, r1⟩ := h.seq e1
    unfold boolsOf
    rw [e5, e2, if_neg (by decide), e4]
    exact r1.bools e3
  cases v with
  | lst l => exact go l rfl rfl e
  | fz l => exact go l rfl rfl e
  | _ => cases e
end
def vAny : VOL := fun l Q => match l with
  | [v] => match v.bools with
    | some ns => Q (.bl (ns.any id))
    | none => False
  | _ => False
theorem olv_any : OpLOk .strong oAny vAny := fun Z A b u r st st1 ds us Q X hv h q => by
  unfold vAny at q
  split at q
  · split at q
    · rename_i ns e
      obtain ⟨d, rfl, h1⟩ := h.one
      unfold oAny
      dsimp only
      rw [h1.bools e]
      exact ⟨_, q, .refl, .bl _⟩
    · exact q.elim
  · exact q.elim
def vAll : VOL := fun l Q => match l with
  | [v] => match v.bools with
    | some ns => Q (.bl (ns.all id))
    | none => False
  | _ => False
theorem olv_all : OpLOk .strong oAll vAll := fun Z A b u r st st1 ds us Q X hv h q => by
  unfold vAll at q
  split at q
  · split at q
    · rename_i ns e
      obtain ⟨d, rfl, h1⟩ := h.one
      unfold oAll
      dsimp only
      rw [h1.bools e]
      exact ⟨_, q, .refl, .bl _⟩
    · exact q.elim
  · exact q.elim
def vMM (f : List Int → Option Int) (g : Int → Int → Int) : VOL := fun l Q => match l with
  | [v] => match v.ints.bind f with
    | some m => Q (.int m)
    | none => False
  | [v, w] => match v, w with
    | .int i, .int j => Q (.int (g i j))
    | _, _ => False
  | _ => False
def vMax : VOL := vMM maxI fun i j => if j > i then j else i
def vMin : VOL := vMM minI fun i j => if j < i then j else i
theorem olv_max : OpLOk .strong oMax vMax := fun Z A b u r st st1 ds us Q X hv h q => by
  unfold vMax vMM at q
  split at q
  · rename_i v
    split at q
    · rename_i m e
      obtain ⟨d, rfl, h1⟩ := h.one
      cases ev : v.ints with
      | none => rw [ev] at e; cases e
      | some ns =>
        rw [ev] at e
        unfold oMax
        split
        · rename_i i j heq; cases heq
        · rename_i x heq
          cases heq
          rw [h1.ints ev, e]
          exact ⟨_, q, .refl, .int _⟩
        · rename_i k1 k2
          exact absurd rfl (k2 _)
    · exact q.elim
  · split at q
    · obtain ⟨d, e, rfl, h1, h2⟩ := h.two
      rw [h1.intw, h2.intw]
      exact ⟨_, q, .refl, .int _⟩
    · exact q.elim
  · exact q.elim
theorem olv_min : OpLOk .strong oMin vMin := fun Z A b u r st st1 ds us Q X hv h q => by
  unfold vMin vMM at q
  split at q
  · rename_i v
    split at q
    · rename_i m e
      obtain ⟨d, rfl, h1⟩ := h.one
      cases ev : v.ints with
      | none => rw [ev] at e; cases e
      | some ns =>
        rw [ev] at e
        unfold oMin
        split
        · rename_i i j heq; cases heq
        · rename_i x heq
          cases heq
          rw [h1.ints ev, e]
          exact ⟨_, q, .refl, .int _⟩
        · rename_i k1 k2
          exact absurd rfl (k2 _)
    · exact q.elim
  · split at q
    · obtain ⟨d, e, rfl, h1, h2⟩ := h.two
      rw [h1.intw, h2.intw]
      exact ⟨_, q, .refl, .int _⟩
    · exact q.elim
  · exact q.elim
def vRepr : VOL := fun l Q => match l with
  | [v] => match v.toP 64 with
    | some p => (p.showable = true ∧ p.shown.length ≤ sizeLine) ∧ Q (.str p.shown)
    | none => False
  | _ => False
theorem olv_repr : OpLOk .strong oRepr vRepr := fun Z A b u r st st1 ds us Q X hv h q => by
  unfold vRepr at q
  split at q
  · split at q
    · rename_i p e
      obtain ⟨d, rfl, h1⟩ := h.one
      unfold oRepr
      dsimp only
      rw [h1.toP, e]
      dsimp only
      rw [if_pos q.1]
      exact ⟨_, q.2, .refl, .str _⟩
    · exact q.elim
  · exact q.elim
def vEqS : VO2 := fun v w Q => match v, w with
  | .str a, .str b => Q (.bl (a == b))
  | _, _ => False
theorem opv_eqS : OpOk .strong oEqS vEqS := fun Z A b u r st st1 st2 d e v w Q X hv h1 h2 q => by
  unfold vEqS at q
  split at q
  · rw [h1.strw, h2.strw]
    exact ⟨_, q, .refl, .bl _⟩
  · exact q.elim
end Pd
set_option maxRecDepth 100000
set_option maxHeartbeats 4000000
namespace Pd
open PySem PySem.Spec PyProof.Rows L2
abbrev VI := VG (List U)
def wOf (s : Bool) (Z : Av) (A : Ow) : Av := fun n => s = true ∧ avo Z A n
def RelI (s : Bool) : Rl (AI × Nat) (List U) := fun Z A b _ st a us => a.2 = us.length ∧ us.length ≤ sizeLine ∧ ∀ b'' st'', Gr (wOf s Z A) b b'' st st'' →
  ∃ ds, Reps (fun n => avo Z A n ∨ st.length ≤ n) b'' st'' ds us ∧ ∀ i, i ≤ us.length → a.1 i st'' = some ds[i]?
theorem RelI.up {s : Bool} : RUp (RelI s) := ⟨fun {Z A b b' st0 st st' a us} h g => ⟨h.1, h.2.1, fun b'' st'' g2 => by
  obtain ⟨ds, r, n⟩ := h.2.2 b'' st'' (Gr.trans (g.wk fun _ _ z => z.elim) g2 fun _ _ z => z)
  exact ⟨ds, r.av fun m _ z => z.imp id fun z => Nat.le_trans g.len z, n⟩⟩, fun _ h => h⟩
abbrev IOk (s : Bool) (c : Nat) (e : DIt) (w : VI) : Prop := JOk (RelI s) c e w
abbrev sk (s : Bool) : Kd := if s = true then .strong else .weak
section
variable {Z : Av} {A : Ow} {b b'' : Nat} {st st0 st'' : Store} {d e : D} {v w : U} {s : Bool} {us vs : List U}
theorem seqOf_gr {W : Av} {Y : Av} {st st'' : Store} {b b'' : Nat} {n : Nat} {l : List D} (g : Gr W b b'' st st'') (h : getL st n = some l) (hw : ¬ W n) : getL st'' n = some l := getL_of (g.same _ _ hw (getL_some h) rfl)
theorem later_seq (h : RelK (sk s) Z A b st0 st d v) (e : v.items = some us) : ∃ ds, us.length ≤ sizeLine ∧ Reps (avo Z A) b st ds us ∧ ∀ b'' st'', Gr (wOf s Z A) b b'' st st'' → seqOf st'' d = some ds := by
  have hw : RelK .weak Z A b st0 st d v := by
    cases s with
    | true => exact .inl h
    | false => exact h
  obtain ⟨ds, e1, _, l, r⟩ := hw.seq e
  refine ⟨ds, l, r, fun b'' st'' g => ?_⟩
  cases d with
  | tup x => exact e1
  | fz x => exact e1
  | xt x => exact e1
  | ref n =>
    refine seqOf_gr (Y := noW) g e1 fun z => ?_
    cases s with
    | true =>
      have h : Rep (avo Z A) b st (.ref n) v := h
      cases v with
      | lst x => cases h with | lst a _ _ _ => exact a z.2
      | tup x => cases h
      | fz x => cases h
      | xt x => cases h
      | _ => cases e
    | false => exact absurd z.1 (by decide)
  | _ => cases e1
theorem later_reps {ds : List D} (r : Reps (avo Z A) b st ds us) (g : Gr (wOf s Z A) b b'' st st'') : Reps (fun n => avo Z A n ∨ st.length ≤ n) b'' st'' ds us := r.lt.up g (fun _ _ z => .inl z.2) fun _ _ z => z
end
def iSeq (w : VE) : VI := fun u Q X => w u (fun v => match v.items with
  | some us => Q us
  | none => False) X
section
variable {s : Bool} {c c1 c2 : Nat} {e e2 : DE} {we we2 : VE}
theorem iv_seq (h : EOk (sk s) c e we) : IOk s c (itSeq e) (iSeq we) := by
  refine JOk.bind (c2 := 0) (kw := fun v u Q X => match v.items with
    | some us => Q us
    | none => False) RelI.up h fun Z A n u r st0 st d v Q X hcap hv hr q => ?_
  split at q
  · rename_i us eu
    obtain ⟨ds, l, r1, lt⟩ := later_seq hr eu
    rw [lt _ _ .refl]
    refine ⟨us, q, .refl, r1.length, l, fun b'' st'' g => ⟨ds, later_reps r1 g, fun i _ => ?_⟩⟩
    show srcAt d i st'' = _
    rw [srcAt_eq, lt _ _ g]
    rfl
  · exact q.elim
def rgU (a : Int) (n : Nat) : List U := (List.range n).map fun i => .int (a + (i : Nat))
def iRg1 (w : VE) : VI := fun u Q X => w u (fun v => match v with
  | .int b => rgOk 0 b = true ∧ Q (rgU 0 b.toNat)
  | _ => False) X
def iRg2 (w w2 : VE) : VI := fun u Q X => w u (fun v => w2 u (fun v2 => match v, v2 with
  | .int a, .int b => rgOk a b = true ∧ Q (rgU a (b - a).toNat)
  | _, _ => False) X) X
theorem rgU_length (a : Int) (n : Nat) : (rgU a n).length = n := by unfold rgU; simp
theorem rg_rel {Y : Av} {b : Nat} {st : Store} (a : Int) (n : Nat) : Reps Y b st ((List.range n).map fun i => .int (a + (i : Nat))) (rgU a n) := by
  unfold rgU
  induction List.range n with
  | nil => exact .nil
  | cons i l ih => exact .cons (.int _) ih
theorem rg_relI {Z : Av} {A : Ow} {b : Nat} {st0 st : Store} (a : Int) (n : Nat) (hn : n ≤ sizeLine) : RelI s Z A b st0 st (rgAI a n, n) (rgU a n) := by
  refine ⟨(rgU_length a n).symm, by rw [rgU_length]; exact hn, fun b'' st'' g => ⟨_, rg_rel a n, fun i hi => ?_⟩⟩
  show rgAI a n i st'' = _
  unfold rgAI
  by_cases h : i < n
  · rw [if_pos h]
    simp [h]
  · rw [if_neg h]
    simp [h]
theorem iv_rg1 (h : EOk .weak c e we) : IOk s c (itRg1 e) (iRg1 we) := by
  refine JOk.bind (c2 := 0) (kw := fun v u Q X => match v with
    | .int b => rgOk 0 b = true ∧ Q (rgU 0 b.toNat)
    | _ => False) RelI.up h fun Z A n u r st0 st d v Q X hcap hv hr q => ?_
  cases v <;> first | exact q.elim | skip
  rename_i b
  rw [hr.intw]
  show Post _ _ _ _ _ _ (if rgOk 0 b = true then _ else _) _ _
  rw [if_pos q.1]
  have := (rgOk_ok q.1).2
  exact ⟨_, q.2, .refl, rg_relI 0 b.toNat (by rw [Int.sub_zero] at this; exact this)⟩
theorem iv_rg2 (h : EOk .weak c1 e we) (h2 : EOk .weak c2 e2 we2) : IOk s (c1 + c2) (itRg2 e e2) (iRg2 we we2) := by
  refine JOk.bind (kw := fun v u Q X => we2 u (fun v2 => match v, v2 with
    | .int a, .int b => rgOk a b = true ∧ Q (rgU a (b - a).toNat)
    | _, _ => False) X) RelI.up h fun Z A n u r st0 st d v Q X hcap hv hr q => ?_
  refine Post.bind RelI.up (h2 Z A n u r st _ X (by omega) hv q) (Nat.le_refl _) hv fun y st1 v2 hv1 g1 hr2 q2 => ?_
  cases v <;> cases v2 <;> first | exact q2.elim | skip
  rename_i a b
  rw [hr.intw, hr2.intw]
  show Post _ _ _ _ _ _ (if rgOk a b = true then _ else _) _ _
  rw [if_pos q2.1]
  exact ⟨_, q2.2, .refl, rg_relI a _ (rgOk_ok q2.1).2⟩
def enU : Nat → List U → List U
  | _, [] => []
  | i, x :: xs => .tup [.int (i : Nat), x] :: enU (i + 1) xs
theorem enU_length : ∀ (i : Nat) (l : List U), (enU i l).length = l.length
  | _, [] => rfl
  | i, x :: xs => by unfold enU; rw [List.length_cons, List.length_cons, enU_length]
def enD : Nat → List D → List D
  | _, [] => []
  | i, x :: xs => .tup [.int (i : Nat), x] :: enD (i + 1) xs
theorem enD_get : ∀ (i k : Nat) (l : List D), (enD i l)[k]? = l[k]?.map fun d => .tup [.int ((i + k : Nat) : Int), d]
  | _, _, [] => by simp [enD]
  | i, 0, x :: xs => by simp [enD]
  | i, k + 1, x :: xs => by
    unfold enD
    rw [List.getElem?_cons_succ, List.getElem?_cons_succ, enD_get (i + 1) k xs]
    rw [show i + 1 + k = i + (k + 1) by omega]
theorem en_rel {Y : Av} {b : Nat} {st : Store} : ∀ (i : Nat) {ds : List D} {us : List U}, Reps Y b st ds us → Reps Y b st (enD i ds) (enU i us)
  | _, [], _, h => by cases h; exact .nil
  | i, d :: ds, _, h => by
    cases h with
    | cons a r => exact .cons (.tup (by show 2 ≤ sizeLine; decide) (.cons (.int _) (.cons a .nil))) (en_rel (i + 1) r)
def iEnum (w : VE) : VI := fun u Q X => w u (fun v => match v.items with
  | some us => Q (enU 0 us)
  | none => False) X
theorem iv_enum (h : EOk (sk s) c e we) : IOk s c (itEnum e) (iEnum we) := by
  refine JOk.bind (c2 := 0) (kw := fun v u Q X => match v.items with
    | some us => Q (enU 0 us)
    | none => False) RelI.up h fun Z A n u r st0 st d v Q X hcap hv hr q => ?_
  split at q
  · rename_i us eu
    obtain ⟨ds, l, r1, lt⟩ := later_seq hr eu
    rw [lt _ _ .refl]
    refine ⟨_, q, .refl, by rw [enU_length]; exact r1.length, by rw [enU_length]; exact l, fun b'' st'' g => ⟨enD 0 ds, en_rel 0 (later_reps r1 g), fun i hi => ?_⟩⟩
    rw [enU_length, ← r1.length] at hi
    show enAI d i st'' = _
    unfold enAI
    rw [lt _ _ g]
    dsimp only
    rw [if_pos hi, enD_get, Nat.zero_add]
  · exact q.elim
def zipU : List U → List U → List U
  | x :: xs, y :: ys => .tup [x, y] :: zipU xs ys
  | _, _ => []
def zipD : List D → List D → List D
  | x :: xs, y :: ys => .tup [x, y] :: zipD xs ys
  | _, _ => []
theorem zipU_length : ∀ (l m : List U), (zipU l m).length = min l.length m.length
  | [], _ => by simp [zipU]
  | _ :: _, [] => by simp [zipU]
  | x :: xs, y :: ys => by unfold zipU; rw [List.length_cons, List.length_cons, List.length_cons, zipU_length]; omega
theorem zip_rel {Y : Av} {b : Nat} {st : Store} : ∀ {ds es : List D} {us vs : List U}, Reps Y b st ds us → Reps Y b st es vs → Reps Y b st (zipD ds es) (zipU us vs)
  | [], _, _, _, h, _ => by cases h; exact .nil
  | _ :: _, [], _, _, h, h' => by cases h; cases h'; exact .nil
  | d :: ds, e :: es, _, _, h, h' => by
    cases h with
    | cons a r => cases h' with
      | cons a' r' => exact .cons (.tup (by show 2 ≤ sizeLine; decide) (.cons a (.cons a' .nil))) (zip_rel r r')
theorem zipD_get : ∀ (i : Nat) (l m : List D), (match l[i]?, m[i]? with
    | some d, some e => some (some (D.tup [d, e]))
    | _, _ => some none) = some (zipD l m)[i]?
  | i, [], m => by simp [zipD]
  | i, x :: xs, [] => by
    simp only [zipD, List.getElem?_nil]
    cases (x :: xs)[i]? <;> rfl
  | 0, x :: xs, y :: ys => by simp [zipD]
  | i + 1, x :: xs, y :: ys => by
    unfold zipD
    simp only [List.getElem?_cons_succ]
    exact zipD_get i xs ys
def iZip (w w2 : VE) : VI := fun u Q X => w u (fun v => w2 u (fun v2 => match v.items, v2.items with
  | some us, some vs => Q (zipU us vs)
  | _, _ => False) X) X
theorem iv_zip (h : EOk (sk s) c1 e we) (h2 : EOk (sk s) c2 e2 we2) : IOk s (c1 + c2) (itZip e e2) (iZip we we2) := by
  refine JOk.bind (kw := fun v u Q X => we2 u (fun v2 => match v.items, v2.items with
    | some us, some vs => Q (zipU us vs)
    | _, _ => False) X) RelI.up h fun Z A n u r st0 st d v Q X hcap hv hr q => ?_
  refine Post.bind RelI.up (h2 Z A n u r st _ X (by omega) hv q) (Nat.le_refl _) hv fun y st1 v2 hv1 g1 hr2 q2 => ?_
  have hr := RelK.up.up hr g1
  split at q2
  · rename_i us vs eu ev
    obtain ⟨ds, l, r1, lt⟩ := later_seq hr eu
    obtain ⟨es, l2, r2, lt2⟩ := later_seq hr2 ev
    rw [lt _ _ .refl, lt2 _ _ .refl]
    refine ⟨_, q2, .refl, by rw [zipU_length]; show min _ _ = _; rw [r1.length, r2.length], by rw [zipU_length]; omega, fun b'' st'' g => ⟨zipD ds es, zip_rel (later_reps r1 g) (later_reps r2 g), fun i hi => ?_⟩⟩
    rw [zipU_length, ← r1.length, ← r2.length] at hi
    show zipAI d y i st'' = _
    unfold zipAI
    rw [lt _ _ g, lt2 _ _ g]
    dsimp only
    rw [if_pos ⟨by omega, by omega⟩]
    exact zipD_get i ds es
  · exact q2.elim
end
abbrev UG := U → UEnv → Option UEnv
def uNm (i : Nat) : UG := fun v u => some (u.set i (some (v, false)))
def usNil : List U → UEnv → Option UEnv := fun l u => match l with
  | [] => some u
  | _ => none
def usCons (g : UG) (gs : List U → UEnv → Option UEnv) : List U → UEnv → Option UEnv := fun l u => match l with
  | v :: l => match g v u with
    | some u1 => gs l u1
    | none => none
  | [] => none
def uTp (gs : List U → UEnv → Option UEnv) : UG := fun v u => match v with
  | .tup l => gs l u
  | _ => none
/-- slots not in M stay -/
structure Kp (M : List Nat) (u u' : UEnv) (r r' : Env') : Prop where
  u : ∀ j, j ∉ M → u'[j]? = u[j]?
  r : ∀ j, j ∉ M → r'[j]? = r[j]?
theorem Kp.refl {M : List Nat} {u : UEnv} {r : Env'} : Kp M u u r r := ⟨fun _ _ => rfl, fun _ _ => rfl⟩
theorem Kp.trans {M M' : List Nat} {u u1 u2 : UEnv} {r r1 r2 : Env'} (a : Kp M u u1 r r1) (b : Kp M' u1 u2 r1 r2) : Kp (M ++ M') u u2 r r2 :=
  ⟨fun j h => (b.u j fun z => h (List.mem_append_right _ z)).trans (a.u j fun z => h (List.mem_append_left _ z)), fun j h => (b.r j fun z => h (List.mem_append_right _ z)).trans (a.r j fun z => h (List.mem_append_left _ z))⟩
def GvOk (M : List Nat) (g : DG) (gu : UG) : Prop := ∀ (Z : Av) (A : Ow) (b : Nat) (u u1 : UEnv) (r : Env') (st : Store) (d : D) (v : U), RV Z A b u r st → Rep (avo Z A) b st d v → gu v u = some u1 → ∃ r1, g d r = some r1 ∧ RV Z A b u1 r1 st ∧ Kp M u u1 r r1
def GsvOk (M : List Nat) (g : List D → Env' → Option Env') (gu : List U → UEnv → Option UEnv) : Prop := ∀ (Z : Av) (A : Ow) (b : Nat) (u u1 : UEnv) (r : Env') (st : Store) (d : List D) (v : List U), RV Z A b u r st → Reps (avo Z A) b st d v → gu v u = some u1 → ∃ r1, g d r = some r1 ∧ RV Z A b u1 r1 st ∧ Kp M u u1 r r1
theorem RV.set {Z : Av} {A : Ow} {b : Nat} {u : UEnv} {r : Env'} {st : Store} {d : D} {v : U} (h : RV Z A b u r st) (i : Nat) (hd : Rep (avo Z A) b st d v) : RV Z A b (u.set i (some (v, false))) (r.set i (some d)) st := by
  have hl := h.len
  refine ⟨by rw [List.length_set, List.length_set]; exact hl, h.inj, h.nz, h.zlt, fun j w e => ?_, fun j w e => ?_⟩
  · by_cases hj : i = j
    · subst hj
      by_cases hi : i < u.length
      · rw [List.getElem?_set_self hi] at e
        cases e
        exact ⟨d, List.getElem?_set_self (hl ▸ hi), hd⟩
      · rw [List.getElem?_eq_none (by rw [List.length_set]; omega)] at e
        cases e
    · rw [List.getElem?_set_ne hj] at e ⊢
      exact h.val j w e
  · by_cases hj : i = j
    · subst hj
      by_cases hi : i < u.length
      · rw [List.getElem?_set_self hi] at e
        cases e
      · rw [List.getElem?_eq_none (by rw [List.length_set]; omega)] at e
        cases e
    · rw [List.getElem?_set_ne hj] at e
      obtain ⟨n, a, c, q⟩ := h.own j w e
      exact ⟨n, a, by rw [List.getElem?_set_ne hj]; exact c, q⟩
theorem kp_set {i : Nat} {u : UEnv} {r : Env'} {x : Option (U × Bool)} {y : Option D} : Kp [i] u (u.set i x) r (r.set i y) :=
  ⟨fun j h => List.getElem?_set_ne fun e => h (by rw [e]; exact List.mem_singleton.mpr rfl), fun j h => List.getElem?_set_ne fun e => h (by rw [e]; exact List.mem_singleton.mpr rfl)⟩
theorem gv_nm (i : Nat) : GvOk [i] (nNm i) (uNm i) := fun Z A b u u1 r st d v hv hd e => by
  have e := Option.some.inj e
  subst e
  exact ⟨_, rfl, hv.set i hd, kp_set⟩
theorem gsv_nil : GsvOk [] nsNil usNil := fun Z A b u u1 r st d v hv hd e => by
  cases hd with
  | nil => cases e; exact ⟨r, rfl, hv, .refl⟩
  | cons a c => cases e
theorem gsv_cons {M M' : List Nat} {g : DG} {gu : UG} {gs : List D → Env' → Option Env'} {gsu : List U → UEnv → Option UEnv} (h1 : GvOk M g gu) (h2 : GsvOk M' gs gsu) : GsvOk (M ++ M') (nsCons g gs) (usCons gu gsu) := fun Z A b u u1 r st d v hv hd e => by
  cases hd with
  | nil => cases e
  | cons a c =>
    rename_i d v ds us
    have e : (match gu v u with
      | some u1 => gsu us u1
      | none => none) = some u1 := e
    cases e1 : gu v u with
    | none => rw [e1] at e; cases e
    | some u2 =>
      rw [e1] at e
      obtain ⟨r2, e2, hv2, k2⟩ := h1 Z A b u u2 r st d v hv a e1
      obtain ⟨r3, e3, hv3, k3⟩ := h2 Z A b u2 u1 r2 st ds us hv2 c e
      refine ⟨r3, ?_, hv3, k2.trans k3⟩
      show (match g d r with
        | some r1 => gs ds r1
        | none => none) = some r3
      rw [e2]
      exact e3
theorem gv_tp {M : List Nat} {gs : List D → Env' → Option Env'} {gsu : List U → UEnv → Option UEnv} (h : GsvOk M gs gsu) : GvOk M (nTp gs) (uTp gsu) := fun Z A b u u1 r st d v hv hd e => by
  cases v <;> first | cases e | skip
  obtain ⟨ds, rfl, _, r1⟩ := hd.tupd
  exact h Z A b u u1 r st ds _ hv r1 e
def wipeU (u : UEnv) : List Nat → UEnv
  | [] => u
  | v :: vs => (wipeU u vs).set v none
theorem RV.unset {Z : Av} {A : Ow} {b : Nat} {u : UEnv} {r : Env'} {st : Store} (h : RV Z A b u r st) (i : Nat) : RV Z A b (u.set i none) (r.set i none) st := by
  have hl := h.len
  refine ⟨by rw [List.length_set, List.length_set]; exact hl, h.inj, h.nz, h.zlt, fun j w e => ?_, fun j w e => ?_⟩
  · by_cases hj : i = j
    · subst hj
      by_cases hi : i < u.length
      · rw [List.getElem?_set_self hi] at e
        cases e
      · rw [List.getElem?_eq_none (by rw [List.length_set]; omega)] at e
        cases e
    · rw [List.getElem?_set_ne hj] at e ⊢
      exact h.val j w e
  · by_cases hj : i = j
    · subst hj
      by_cases hi : i < u.length
      · rw [List.getElem?_set_self hi] at e
        cases e
      · rw [List.getElem?_eq_none (by rw [List.length_set]; omega)] at e
        cases e
    · rw [List.getElem?_set_ne hj] at e ⊢
      exact h.own j w e
theorem RV.wipe {Z : Av} {A : Ow} {b : Nat} {u : UEnv} {r : Env'} {st : Store} (h : RV Z A b u r st) : ∀ vs, RV Z A b (wipeU u vs) (wipeD r vs) st
  | [] => h
  | v :: vs => (RV.wipe h vs).unset v
def lcW (g : UG) (tt : VT) (te : VE) (u0 : UEnv) : List U → List U → (U → Prop) → Prop
  | [], acc, Q => Q (.lst acc)
  | x :: xs, acc, Q => match g x u0 with
    | some u1 => tt u1 (fun b => if b = true then te u1 (fun y => lcW g tt te u0 xs (acc ++ [y]) Q) (fun _ => False) else lcW g tt te u0 xs acc Q) (fun _ => False)
    | none => False
def vLc (it : VI) (own : List Nat) (g : UG) (tt : VT) (te : VE) : VE := fun u Q X => it u (fun l => lcW g tt te (wipeU u own) l [] Q) X
def vYes : VT := fun _ Q _ => Q true
theorem tv_yes : TOk 0 dYes vYes := fun Z A b u r st Q X hcap hv q => ⟨true, q, .refl, rfl⟩
section
variable {ci ct ce : Nat} {it : DIt} {wi : VI} {own M : List Nat} {g : DG} {gu : UG} {tt : DT} {wt : VT} {te : DE} {we : VE}
theorem lc_run {Z : Av} {A : Ow} {u0 : UEnv} {r0 : Env'} {a : AI × Nat} {us : List U} {b0 : Nat} {st0 : Store} {X : VX} (hg : GvOk M g gu) (ht : TOk ct tt wt) (he : EOk .strong ce te we) (hI : RelI false Z A b0 st0 st0 a us) (c : Nat) (hc : c = ct + ce) : ∀ (m i : Nat) (b : Nat) (st : Store) (acc : List D) (accU : List U) (Q : U → Prop), b + m * c ≤ capN → i + m = us.length → RV Z A b u0 r0 st → Gx b0 b st0 st → Reps (avo Z A) b st acc accU → accU.length ≤ i → lcW gu wt we u0 (us.drop i) accU Q →
    Post (RelK .fresh) Z A b (b + m * c) st (lcLoop a.1 g tt te r0 m i acc st) Q X := by
  intro m
  induction m with
  | zero =>
    intro i b st acc accU Q hcap hi hv g0 ha hl q
    obtain ⟨ds, r1, hn⟩ := hI.2.2 b st (g0.wk fun _ _ z => z.elim)
    have e1 := hn i (by omega)
    rw [List.getElem?_eq_none (by rw [r1.length]; omega)] at e1
    rw [List.drop_eq_nil_of_le (by omega)] at q
    unfold lcLoop
    rw [e1]
    have hz := hI.2.1
    rw [Nat.zero_mul]
    exact newL_post hv ha (by omega) q
  | succ m ih =>
    intro i b st acc accU Q hcap hi hv g0 ha hl q
    have hz := hI.2.1
    obtain ⟨ds, r1, hn⟩ := hI.2.2 b st (g0.wk fun _ _ z => z.elim)
    have e1 := hn i (by omega)
    obtain ⟨x, ex⟩ : ∃ x, us[i]? = some x := ⟨us[i]'(by omega), List.getElem?_eq_getElem (by omega)⟩
    obtain ⟨d, ed, hd⟩ := Paired.getR r1.pr ex
    rw [ed] at e1
    have hdr : us.drop i = x :: us.drop (i + 1) := by
      rw [List.drop_eq_getElem_cons (show i < us.length by omega)]
      rw [List.getElem?_eq_getElem (show i < us.length by omega)] at ex
      rw [Option.some.inj ex]
    rw [hdr] at q
    unfold lcLoop
    rw [e1]
    dsimp only
    unfold lcW at q
    split at q
    · rename_i u1 e2
      obtain ⟨r2, e3, hv2, _⟩ := hg Z A b u0 u1 r0 st d x hv (hd.av fun _ _ z => .inl z) e2
      rw [e3]
      dsimp only
      have hmc : (m + 1) * c = m * c + c := Nat.succ_mul m c
      have h1 := ht Z A b u1 r2 st _ (fun _ => False) (by omega) hv2 q
      cases e4 : tt r2 st with
      | err => rw [e4] at h1; exact h1.elim
      | exc z st1 => rw [e4] at h1; obtain ⟨_, h, _⟩ := h1; exact h.elim
      | ok k st1 =>
        rw [e4] at h1
        obtain ⟨k', q2, g1, hk⟩ := h1
        cases hk
        dsimp only
        cases k with
        | false =>
          rw [if_neg (by decide)] at q2 ⊢
          have h5 := ih (i + 1) (b + ct) st1 acc accU Q (by omega) (by omega) (hv.gx g1) (g0.trans g1) (ha.gx g1) (by omega) q2
          exact Post.le RelK.up (by omega) (Post.from RelK.up g1 h5)
        | true =>
          rw [if_pos rfl] at q2 ⊢
          have h2 := he Z A (b + ct) u1 r2 st1 _ (fun _ => False) (by omega) (hv2.gx g1) q2
          cases e5 : te r2 st1 with
          | err => rw [e5] at h2; exact h2.elim
          | exc z st2 => rw [e5] at h2; obtain ⟨_, h, _⟩ := h2; exact h.elim
          | ok y st2 =>
            rw [e5] at h2
            obtain ⟨y', q3, g2, hy⟩ := h2
            dsimp only
            have h5 := ih (i + 1) (b + ct + ce) st2 (acc ++ [y]) (accU ++ [y']) Q (by omega) (by omega) ((hv.gx g1).gx g2) ((g0.trans g1).trans g2) (((ha.gx g1).gx g2).app (.cons hy .nil)) (by rw [List.length_append, List.length_singleton]; omega) q3
            exact Post.le RelK.up (by omega) (Post.from RelK.up (g1.trans g2) h5)
    · exact q.elim
theorem ev_lc (hi : IOk false ci it wi) (hg : GvOk M g gu) (ht : TOk ct tt wt) (he : EOk .strong ce te we) : EOk .fresh (ci + sizeLine * (ct + ce)) (dLc it own g tt te) (vLc wi own gu wt we) := by
  refine JOk.bind (kw := fun l u Q X => lcW gu wt we (wipeU u own) l [] Q) RelK.up hi fun Z A n u r st0 st a us Q X hcap hv hr q => ?_
  have h := lc_run (r0 := wipeD r own) (X := X) hg ht he ⟨hr.1, hr.2.1, hr.2.2⟩ (ct + ce) rfl us.length 0 n st [] [] Q (by have := Nat.mul_le_mul_right (ct + ce) hr.2.1; omega) (by omega) (hv.wipe own) .refl .nil (Nat.le_refl _) (by rw [List.drop_zero]; exact q)
  rw [← hr.1] at h
  refine Post.le RelK.up ?_ h
  have := Nat.mul_le_mul_right (ct + ce) (show a.2 ≤ sizeLine by rw [hr.1]; exact hr.2.1)
  omega
end
end Pd
set_option maxRecDepth 100000
set_option maxHeartbeats 4000000
namespace Pd
open PySem PySem.Spec PyProof.Rows L2
inductive UOut where
  | nx (u : UEnv) | bk (u : UEnv) | ct (u : UEnv) | rt (v : U) | exc (x : UX)
abbrev VS := UEnv → (UOut → Prop) → Prop
def ownP (A : Ow) : Av := fun n => ∃ i, A i = some n
structure Stp (M : List Nat) (Z : Av) (A : Ow) (b b' : Nat) (u : UEnv) (r : Env') (st : Store) (A' : Ow) (u' : UEnv) (r' : Env') (st' : Store) : Prop where
  rv : RV Z A' b' u' r' st'
  gr : Gr (ownP A) b b' st st'
  sub : ∀ i n, A' i = some n → ownP A n ∨ st.length ≤ n
  kp : Kp M u u' r r'
  ka : ∀ j, j ∉ M → A' j = A j ∧ ∀ n o, A j = some n → st[n]? = some o → isDraw o = false → st'[n]? = some o
def SPost (M : List Nat) (Z : Av) (A : Ow) (b b' : Nat) (u : UEnv) (r : Env') (st : Store) (o : Out) (P : UOut → Prop) : Prop := match o with
  | .nx r' st' => ∃ A' u', P (.nx u') ∧ Stp M Z A b b' u r st A' u' r' st'
  | .bk r' st' => ∃ A' u', P (.bk u') ∧ Stp M Z A b b' u r st A' u' r' st'
  | .ct r' st' => ∃ A' u', P (.ct u') ∧ Stp M Z A b b' u r st A' u' r' st'
  | .rt d st' => ∃ v, P (.rt v) ∧ Gr (ownP A) b b' st st' ∧ Rep Z b' st' d v
  | .exc e st' => ∃ x, P (.exc x) ∧ Gr (ownP A) b b' st st' ∧ RelX Z b' st' e x
  | .err => False
def SOk (M : List Nat) (c : Nat) (s : DS) (w : VS) : Prop := ∀ (Z : Av) (A : Ow) (b : Nat) (u : UEnv) (r : Env') (st : Store) (P : UOut → Prop), b + c ≤ capN → RV Z A b u r st → w u P → SPost M Z A b (b + c) u r st (s r st) P
section
variable {M M' : List Nat} {Z : Av} {A A1 A2 : Ow} {b b1 b2 : Nat} {u u1 u2 : UEnv} {r r1 r2 : Env'} {st st1 st2 : Store} {o : Out} {P : UOut → Prop}
theorem Stp.refl (h : RV Z A b u r st) : Stp M Z A b b u r st A u r st := ⟨h, .refl, fun i n e => .inl ⟨i, e⟩, .refl, fun _ _ => ⟨rfl, fun _ _ _ e _ => e⟩⟩
theorem RV.le {b' : Nat} (h : RV Z A b u r st) (hb : b ≤ b') : RV Z A b' u r st := h.gx (.le hb)
theorem Stp.le {b' : Nat} (h : Stp M Z A b b1 u r st A1 u1 r1 st1) (hb : b1 ≤ b') : Stp M Z A b b' u r st A1 u1 r1 st1 := ⟨h.rv.le hb, h.gr.b_le hb, h.sub, h.kp, h.ka⟩
theorem own_sub (h : ∀ i n, A1 i = some n → ownP A n ∨ st.length ≤ n) : ∀ n, n < st.length → ownP A1 n → ownP A n := fun n hn ⟨i, e⟩ => (h i n e).elim id fun z => absurd hn (by omega)
theorem Stp.trans (h : Stp M Z A b b1 u r st A1 u1 r1 st1) (h' : Stp M' Z A1 b1 b2 u1 r1 st1 A2 u2 r2 st2) : Stp (M ++ M') Z A b b2 u r st A2 u2 r2 st2 :=
  ⟨h'.rv, h.gr.trans h'.gr (own_sub h.sub), fun i n e => by
    rcases h'.sub i n e with ⟨j, e1⟩ | z
    · exact h.sub j n e1
    · exact .inr (Nat.le_trans h.gr.len z), h.kp.trans h'.kp, fun j hj => by
    obtain ⟨a1, c1⟩ := h.ka j fun z => hj (List.mem_append_left _ z)
    obtain ⟨a2, c2⟩ := h'.ka j fun z => hj (List.mem_append_right _ z)
    exact ⟨a2.trans a1, fun n o e eo ed => c2 n o (a1.trans e) (c1 n o e eo ed) ed⟩⟩
theorem Kp.mono (h : Kp M u u1 r r1) (i : ∀ j, j ∈ M → j ∈ M') : Kp M' u u1 r r1 := ⟨fun j hj => h.u j fun z => hj (i j z), fun j hj => h.r j fun z => hj (i j z)⟩
theorem Stp.mono (h : Stp M Z A b b1 u r st A1 u1 r1 st1) (i : ∀ j, j ∈ M → j ∈ M') : Stp M' Z A b b1 u r st A1 u1 r1 st1 := ⟨h.rv, h.gr, h.sub, h.kp.mono i, fun j hj => h.ka j fun z => hj (i j z)⟩
theorem SPost.mono (h : SPost M Z A b b1 u r st o P) (i : ∀ j, j ∈ M → j ∈ M') : SPost M' Z A b b1 u r st o P := by
  cases o with
  | nx r' st' => obtain ⟨A', u', q, h⟩ := h; exact ⟨A', u', q, h.mono i⟩
  | bk r' st' => obtain ⟨A', u', q, h⟩ := h; exact ⟨A', u', q, h.mono i⟩
  | ct r' st' => obtain ⟨A', u', q, h⟩ := h; exact ⟨A', u', q, h.mono i⟩
  | rt d st' => exact h
  | exc e st' => exact h
  | err => exact h
theorem SPost.le {b' : Nat} (h : SPost M Z A b b1 u r st o P) (hb : b1 ≤ b') : SPost M Z A b b' u r st o P := by
  cases o with
  | nx r' st' => obtain ⟨A', u', q, h⟩ := h; exact ⟨A', u', q, h.le hb⟩
  | bk r' st' => obtain ⟨A', u', q, h⟩ := h; exact ⟨A', u', q, h.le hb⟩
  | ct r' st' => obtain ⟨A', u', q, h⟩ := h; exact ⟨A', u', q, h.le hb⟩
  | rt d st' => obtain ⟨v, q, g, h⟩ := h; exact ⟨v, q, g.b_le hb, h.gx (.le hb)⟩
  | exc e st' => obtain ⟨v, q, g, h⟩ := h; exact ⟨v, q, g.b_le hb, h.gx (Z' := Z) (.le hb)⟩
  | err => exact h
/-- from a later place on -/
theorem SPost.from (h0 : Stp M Z A b b1 u r st A1 u1 r1 st1) (h : SPost M' Z A1 b1 b2 u1 r1 st1 o P) : SPost (M ++ M') Z A b b2 u r st o P := by
  cases o with
  | nx r' st' => obtain ⟨A', u', q, h⟩ := h; exact ⟨A', u', q, h0.trans h⟩
  | bk r' st' => obtain ⟨A', u', q, h⟩ := h; exact ⟨A', u', q, h0.trans h⟩
  | ct r' st' => obtain ⟨A', u', q, h⟩ := h; exact ⟨A', u', q, h0.trans h⟩
  | rt d st' => obtain ⟨v, q, g, h⟩ := h; exact ⟨v, q, h0.gr.trans g (own_sub h0.sub), h⟩
  | exc e st' => obtain ⟨v, q, g, h⟩ := h; exact ⟨v, q, h0.gr.trans g (own_sub h0.sub), h⟩
  | err => exact h
theorem Stp.gx (h : RV Z A b u r st) (g : Gx b b1 st st1) : Stp [] Z A b b1 u r st A u r st1 := ⟨h.gx g, g.wk fun _ _ z => z.elim, fun i n e => .inl ⟨i, e⟩, .refl, fun j _ => ⟨rfl, fun n o e eo ed => g.same n o (fun z => z) eo ed⟩⟩
/-- an expression, then what is done with its value -/
theorem SPost.bind {α β : Type} {R : Rl α β} {res : Res α} {k : α → Store → Out} {Q : β → Prop} (h : Post R Z A b b1 st res Q (fun x => P (.exc x))) (hb : b1 ≤ b2) (hv : RV Z A b u r st)
    (h2 : ∀ d st1 v, RV Z A b1 u r st1 → Gx b b1 st st1 → R Z A b1 st st1 d v → Q v → SPost M Z A b1 b2 u r st1 (k d st1) P) : SPost M Z A b b2 u r st (res.out k) P := by
  cases res with
  | ok d st' =>
    obtain ⟨v, q, g, h⟩ := h
    exact SPost.from (Stp.gx hv g) (h2 d st' v (hv.gx g) g h q)
  | exc e st' =>
    obtain ⟨x, q, g, h⟩ := h
    exact ⟨x, q, (g.wk fun _ _ z => z.elim).b_le hb, RelX.gx (Z' := Z) h (.le hb)⟩
  | err => exact h
end
theorem SOk.le {M : List Nat} {c c' : Nat} {s : DS} {w : VS} (h : SOk M c s w) (hc : c ≤ c') : SOk M c' s w := fun Z A b u r st P hcap hv q => (h Z A b u r st P (by omega) hv q).le (by omega)
theorem SOk.mono {M M' : List Nat} {c : Nat} {s : DS} {w : VS} (h : SOk M c s w) (i : ∀ j, j ∈ M → j ∈ M') : SOk M' c s w := fun Z A b u r st P hcap hv q => (h Z A b u r st P (by omega) hv q).mono i
def vNext : VS := fun u P => P (.nx u)
def vSeq (a b : VS) : VS := fun u P => a u (fun o => match o with
  | .nx u1 => b u1 P
  | o => P o)
def vRet (e : VE) : VS := fun u P => e u (fun v => P (.rt v)) (fun x => P (.exc x))
def vIfS (t : VT) (a b : VS) : VS := fun u P => t u (fun c => if c = true then a u P else b u P) (fun x => P (.exc x))
def vSet (i : Nat) (e : VE) : VS := fun u P => e u (fun v => P (.nx (u.set i (some (v, false))))) (fun x => P (.exc x))
def vSetO (i : Nat) (e : VE) : VS := fun u P => e u (fun v => P (.nx (u.set i (some (v, true))))) (fun x => P (.exc x))
def vAsg (g : UG) (e : VE) : VS := fun u P => e u (fun v => match g v u with
  | some u1 => P (.nx u1)
  | none => False) (fun x => P (.exc x))
def vPar (i j : Nat) (a b : VE) : VS := fun u P => a u (fun x => b u (fun y => P (.nx ((u.set i (some (x, false))).set j (some (y, false))))) (fun x => P (.exc x))) (fun x => P (.exc x))
def vErrS : VS := fun _ _ => False
/-- slot i gets a fresh list or dict, its own -/
theorem RV.setO {Z : Av} {A : Ow} {b : Nat} {u : UEnv} {r : Env'} {st st1 : Store} {n : Nat} {v : U} (hv : RV Z A b u r st1) (i : Nat) (hn : st.length ≤ n) (hs : RV Z A b u r st ∨ st.length = st1.length) (ho : ∀ m, avo Z A m → m < n) (hc : Cont (fun m => avo Z A m ∨ m = n) b st1 n v)
    (hR : ∀ (d : D) (w : U), Rep (avo Z A) b st1 d w → True) (hlt : ∀ (i' : Nat) (v' : U), u[i']? = some (some (v', false)) → ∀ d : D, r[i']? = some (some d) → Rep (avo Z A) b st1 d v' → Rep (fun m => avo Z A m ∨ m = n) b st1 d v')
    (hlo : ∀ (i' : Nat) (v' : U), u[i']? = some (some (v', true)) → ∀ m, A i' = some m → Cont (avo Z A) b st1 m v' → Cont (fun m => avo Z A m ∨ m = n) b st1 m v') : RV Z (fun j => if j = i then some n else A j) b (u.set i (some (v, true))) (r.set i (some (.ref n))) st1 := by
  have hl := hv.len
  have hav : ∀ m, avo Z (fun j => if j = i then some n else A j) m → avo Z A m ∨ m = n := fun m z => by
    rcases z with z | ⟨j, e⟩
    · exact .inl (.inl z)
    · by_cases hj : j = i
      · simp only [if_pos hj] at e
        exact .inr (Option.some.inj e).symm
      · simp only [if_neg hj] at e
        exact .inl (.inr ⟨j, e⟩)
  have hnA : ∀ j m, A j = some m → m ≠ n := fun j m e z => by
    have := ho m (.inr ⟨j, e⟩)
    omega
  refine ⟨by rw [List.length_set, List.length_set]; exact hl, fun j k m e1 e2 => ?_, fun j m e => ?_, hv.zlt, fun j w e => ?_, fun j w e => ?_⟩
  · by_cases hj : j = i
    · by_cases hk : k = i
      · rw [hj, hk]
      · simp only [if_pos hj] at e1
        simp only [if_neg hk] at e2
        cases e1
        exact absurd rfl (hnA k _ e2)
    · by_cases hk : k = i
      · simp only [if_neg hj] at e1
        simp only [if_pos hk] at e2
        cases e2
        exact absurd rfl (hnA j _ e1)
      · simp only [if_neg hj] at e1
        simp only [if_neg hk] at e2
        exact hv.inj j k m e1 e2
  · by_cases hj : j = i
    · simp only [if_pos hj] at e
      cases e
      exact ⟨fun z => by have := ho n (.inl z); omega, hc.lt⟩
    · simp only [if_neg hj] at e
      exact hv.nz j m e
  · by_cases hj : i = j
    · subst hj
      by_cases hi : i < u.length
      · rw [List.getElem?_set_self hi] at e
        cases e
      · rw [List.getElem?_eq_none (by rw [List.length_set]; omega)] at e
        cases e
    · rw [List.getElem?_set_ne hj] at e ⊢
      obtain ⟨d, e1, h⟩ := hv.val j w e
      exact ⟨d, e1, (hlt j w e d e1 h).av fun m _ z => hav m z⟩
  · by_cases hj : i = j
    · subst hj
      by_cases hi : i < u.length
      · rw [List.getElem?_set_self hi] at e
        cases e
        exact ⟨n, if_pos rfl, List.getElem?_set_self (hl ▸ hi), hc.av fun m _ z => hav m z⟩
      · rw [List.getElem?_eq_none (by rw [List.length_set]; omega)] at e
        cases e
    · rw [List.getElem?_set_ne hj] at e
      obtain ⟨m, a, c, q⟩ := hv.own j w e
      exact ⟨m, (if_neg (Ne.symm hj)).trans a, by rw [List.getElem?_set_ne hj]; exact c, (hlo j w e m a q).av fun m _ z => hav m z⟩
section
variable {M M1 M2 : List Nat} {c c1 c2 c3 : Nat} {e e2 : DE} {we we2 : VE} {s s1 s2 : DS} {w w1 w2 : VS} {t : DT} {wt : VT}
theorem sv_next : SOk [] 0 dNext vNext := fun Z A b u r st P hcap hv q => ⟨A, u, q, .refl hv⟩
theorem sv_err : SOk [] 0 s vErrS := fun Z A b u r st P hcap hv q => q.elim
theorem sv_seq (h1 : SOk M1 c1 s1 w1) (h2 : SOk M2 c2 s2 w2) : SOk (M1 ++ M2) (c1 + c2) (dSeq s1 s2) (vSeq w1 w2) := fun Z A b u r st P hcap hv q => by
  have h := h1 Z A b u r st _ (by omega) hv q
  unfold dSeq
  cases e : s1 r st with
  | nx r1 st1 =>
    rw [e] at h
    obtain ⟨A1, u1, q1, g⟩ := h
    rw [← Nat.add_assoc]
    exact SPost.from g (h2 Z A1 _ u1 r1 st1 P (by omega) g.rv q1)
  | bk r1 st1 => rw [e] at h; exact (SPost.mono (o := .bk r1 st1) (show SPost M1 Z A b (b + c1) u r st (.bk r1 st1) P from h) fun j z => List.mem_append_left _ z).le (by omega)
  | ct r1 st1 => rw [e] at h; exact (SPost.mono (o := .ct r1 st1) (show SPost M1 Z A b (b + c1) u r st (.ct r1 st1) P from h) fun j z => List.mem_append_left _ z).le (by omega)
  | rt r1 st1 => rw [e] at h; exact SPost.le (o := .rt r1 st1) (M := M1 ++ M2) (show SPost (M1 ++ M2) Z A b (b + c1) u r st (.rt r1 st1) P from h) (by omega)
  | exc r1 st1 => rw [e] at h; exact SPost.le (o := .exc r1 st1) (M := M1 ++ M2) (show SPost (M1 ++ M2) Z A b (b + c1) u r st (.exc r1 st1) P from h) (by omega)
  | err => rw [e] at h; exact h
theorem sv_ret (he : EOk .weak c e we) : SOk [] c (dRet e) (vRet we) := fun Z A b u r st P hcap hv q => SPost.bind (he Z A b u r st _ _ (by omega) hv q) (Nat.le_refl _) hv fun d st1 v hv1 g hr q1 => by
  refine ⟨v, q1, .refl, ?_⟩
  rcases hr with h | ⟨i, n, e1, rfl, h⟩
  · exact h.av fun _ _ z => .inl z
  · exact (h.av fun _ _ z => .inl z).rep (hv1.nz i n e1).1
theorem sv_if (ht : TOk c t wt) (h1 : SOk M1 c1 s1 w1) (h2 : SOk M2 c2 s2 w2) : SOk (M1 ++ M2) (c + (c1 + c2)) (dIfS t s1 s2) (vIfS wt w1 w2) := fun Z A b u r st P hcap hv q => SPost.bind (ht Z A b u r st _ _ (by omega) hv q) (by omega) hv fun d st1 v hv1 g hr q1 => by
  cases hr
  cases d with
  | true => exact ((h1 Z A _ u r st1 P (by omega) hv1 q1).mono fun j z => List.mem_append_left _ z).le (by omega)
  | false => exact ((h2 Z A _ u r st1 P (by omega) hv1 q1).mono fun j z => List.mem_append_right _ z).le (by omega)
theorem Stp.kpv {M : List Nat} {Z : Av} {A : Ow} {b : Nat} {u u' : UEnv} {r r' : Env'} {st : Store} (hv : RV Z A b u' r' st) (k : Kp M u u' r r') : Stp M Z A b b u r st A u' r' st := ⟨hv, .refl, fun i n e => .inl ⟨i, e⟩, k, fun _ _ => ⟨rfl, fun _ _ _ e _ => e⟩⟩
theorem sv_set (i : Nat) (he : EOk .strong c e we) : SOk [i] c (dSet i e) (vSet i we) := fun Z A b u r st P hcap hv q => SPost.bind (he Z A b u r st _ _ (by omega) hv q) (Nat.le_refl _) hv fun d st1 v hv1 g hr q1 => ⟨A, _, q1, .kpv (hv1.set i hr) kp_set⟩
theorem sv_asg {g : DG} {gu : UG} (hg : GvOk M g gu) (he : EOk .strong c e we) : SOk M c (dAsg g e) (vAsg gu we) := fun Z A b u r st P hcap hv q => SPost.bind (he Z A b u r st _ _ (by omega) hv q) (Nat.le_refl _) hv fun d st1 v hv1 g1 hr q1 => by
  split at q1
  · rename_i u1 e1
    obtain ⟨r1, e2, hv2, k⟩ := hg Z A _ u u1 r st1 d v hv1 hr e1
    rw [e2]
    exact ⟨A, u1, q1, .kpv hv2 k⟩
  · exact q1.elim
theorem sv_par (i j : Nat) (he : EOk .strong c1 e we) (he2 : EOk .strong c2 e2 we2) : SOk [i, j] (c1 + c2) (dPar i j e e2) (vPar i j we we2) := fun Z A b u r st P hcap hv q => SPost.bind (he Z A b u r st _ _ (by omega) hv q) (by omega) hv fun d st1 v hv1 g1 hr q1 => by
  refine SPost.bind (he2 Z A _ u r st1 _ _ (by omega) hv1 q1) (by omega) hv1 fun d2 st2 v2 hv2 g2 hr2 q2 => ?_
  have hr : Rep (avo Z A) _ st2 d v := Rep.gx hr g2
  exact ⟨A, _, q2, (Stp.kpv ((hv2.set i hr).set j hr2) (Kp.trans kp_set kp_set)).le (by omega)⟩
theorem sv_setO (i : Nat) (he : EOk .fresh c e we) : SOk [i] c (dSet i e) (vSetO i we) := fun Z A b u r st P hcap hv q => by
  have h := he Z A b u r st _ _ (by omega) hv q
  unfold dSet
  cases eq : e r st with
  | err => rw [eq] at h; exact h.elim
  | exc x st1 =>
    rw [eq] at h
    obtain ⟨x', q, g, h⟩ := h
    exact ⟨x', q, g.wk fun _ _ z => z.elim, h⟩
  | ok d st1 =>
    rw [eq] at h
    obtain ⟨v, q, g, n, rfl, hn, hc⟩ := h
    have hv1 := hv.gx g
    have new : ∀ m, m < st.length → m ≠ n := fun m hm z => by omega
    refine ⟨fun j => if j = i then some n else A j, _, q, ⟨?_, g.wk fun _ _ z => z.elim, fun j m e => ?_, kp_set, fun j hj => ⟨if_neg fun z => hj (List.mem_singleton.mpr z), fun m o e1 e2 e3 => g.same m o (fun z => z) e2 e3⟩⟩⟩
    · refine hv1.setO (st := st) i hn (.inl (hv.le (Nat.le_add_right _ _))) (fun m z => Nat.lt_of_lt_of_le (hv.avlt z) hn) hc (fun _ _ _ => trivial) (fun j w e1 d e2 _ => ?_) (fun j w e1 m e2 _ => ?_)
      · obtain ⟨d', e3, h⟩ := hv.val j w e1
        rw [e2] at e3
        cases e3
        exact (h.av (Z' := fun m => avo Z A m ∨ m = n) fun m hm z => z.elim id fun z => absurd z (new m hm)).gx g
      · obtain ⟨m', e3, _, h⟩ := hv.own j w e1
        rw [e2] at e3
        cases e3
        exact (h.av (Z' := fun m => avo Z A m ∨ m = n) fun m hm z => z.elim id fun z => absurd z (new m hm)).gx g
    · by_cases hj : j = i
      · simp only [if_pos hj] at e
        cases e
        exact .inr hn
      · simp only [if_neg hj] at e
        exact .inl ⟨j, e⟩
def forW (g : UG) (body : VS) : List U → UEnv → (UOut → Prop) → Prop
  | [], u, P => P (.nx u)
  | x :: xs, u, P => match g x u with
    | some u1 => body u1 (fun o => match o with
      | .nx u2 => forW g body xs u2 P
      | .ct u2 => forW g body xs u2 P
      | .bk u2 => P (.nx u2)
      | o => P o)
    | none => False
def vFor (it : VI) (g : UG) (body : VS) : VS := fun u P => it u (fun l => forW g body l u P) (fun x => P (.exc x))
theorem for_run {Z : Av} {a : AI × Nat} {us : List U} {g : DG} {gu : UG} {P : UOut → Prop} (I : Ow → Nat → UEnv → Store → Prop) (hg : GvOk M1 g gu) (hs : SOk M2 c s w)
    (hItem : ∀ A b u r st, RV Z A b u r st → I A b u st → ∃ ds, Reps (avo Z A) b st ds us ∧ ∀ i, i ≤ us.length → a.1 i st = some ds[i]?)
    (hStep : ∀ A b b' u r st A' u' r' st', I A b u st → Stp (M1 ++ M2) Z A b b' u r st A' u' r' st' → I A' b' u' st') : ∀ (m i : Nat) (A : Ow) (b : Nat) (u : UEnv) (r : Env') (st : Store), b + m * c ≤ capN → i + m = us.length → RV Z A b u r st → I A b u st → forW gu w (us.drop i) u P →
    SPost (M1 ++ M2) Z A b (b + m * c) u r st (forLoop a.1 g s m i r st) P := by
  intro m
  induction m with
  | zero =>
    intro i A b u r st hcap hi hv hI q
    obtain ⟨ds, r1, hn⟩ := hItem A b u r st hv hI
    have e1 := hn i (by omega)
    rw [List.getElem?_eq_none (by rw [r1.length]; omega)] at e1
    rw [List.drop_eq_nil_of_le (by omega)] at q
    unfold forLoop
    rw [e1]
    rw [Nat.zero_mul]
    exact ⟨A, u, q, .refl hv⟩
  | succ m ih =>
    intro i A b u r st hcap hi hv hI q
    obtain ⟨ds, r1, hn⟩ := hItem A b u r st hv hI
    have e1 := hn i (by omega)
    obtain ⟨x, ex⟩ : ∃ x, us[i]? = some x := ⟨us[i]'(by omega), List.getElem?_eq_getElem (by omega)⟩
    obtain ⟨d, ed, hd⟩ := Paired.getR r1.pr ex
    rw [ed] at e1
    have hdr : us.drop i = x :: us.drop (i + 1) := by
      rw [List.drop_eq_getElem_cons (show i < us.length by omega)]
      rw [List.getElem?_eq_getElem (show i < us.length by omega)] at ex
      rw [Option.some.inj ex]
    rw [hdr] at q
    unfold forLoop
    rw [e1]
    dsimp only
    unfold forW at q
    split at q
    · rename_i u1 e2
      obtain ⟨r2, e3, hv2, k2⟩ := hg Z A b u u1 r st d x hv hd e2
      rw [e3]
      dsimp only
      have hmc : (m + 1) * c = m * c + c := Nat.succ_mul m c
      have h := hs Z A b u1 r2 st _ (by omega) hv2 q
      have st0' : Stp M1 Z A b b u r st A u1 r2 st := .kpv hv2 k2
      have go : ∀ {r3 : Env'} {st3 : Store}, (∃ A3 u3, forW gu w (us.drop (i + 1)) u3 P ∧ Stp M2 Z A b (b + c) u1 r2 st A3 u3 r3 st3) → SPost (M1 ++ M2) Z A b (b + (m + 1) * c) u r st (forLoop a.1 g s m (i + 1) r3 st3) P := fun {r3 st3} h => by
        obtain ⟨A3, u3, q3, g3⟩ := h
        have h5 := ih (i + 1) A3 (b + c) u3 r3 st3 (by omega) (by omega) g3.rv (hStep _ _ _ _ _ _ _ _ _ _ hI (st0'.trans g3)) q3
        refine ((SPost.from (st0'.trans g3) h5).mono fun j hj => ?_).le (by omega)
        rcases List.mem_append.mp hj with z | z
        · exact z
        · exact z
      cases e4 : s r2 st with
      | nx r3 st3 => rw [e4] at h; exact go h
      | ct r3 st3 => rw [e4] at h; exact go h
      | bk r3 st3 =>
        rw [e4] at h
        obtain ⟨A3, u3, q3, g3⟩ := h
        exact ⟨A3, u3, q3, (st0'.trans g3).le (by omega)⟩
      | rt d3 st3 =>
        rw [e4] at h
        exact SPost.le (o := .rt d3 st3) (M := M1 ++ M2) (show SPost (M1 ++ M2) Z A b (b + c) u r st (.rt d3 st3) P from h) (by omega)
      | exc d3 st3 =>
        rw [e4] at h
        exact SPost.le (o := .exc d3 st3) (M := M1 ++ M2) (show SPost (M1 ++ M2) Z A b (b + c) u r st (.exc d3 st3) P from h) (by omega)
      | err => rw [e4] at h; exact h
    · exact q.elim
theorem sv_for {it : DIt} {wi : VI} {g : DG} {gu : UG} {ci : Nat} (hi : IOk true ci it wi) (hg : GvOk M1 g gu) (hs : SOk M2 c s w) : SOk (M1 ++ M2) (ci + sizeLine * c) (dFor it g s) (vFor wi gu w) := fun Z A b u r st P hcap hv q => SPost.bind (hi Z A b u r st _ _ (by omega) hv q) (Nat.add_le_add_left (Nat.le_add_right _ _) _) hv fun a st1 us hv1 g1 hr q1 => by
  have h := for_run (us := us) (a := a) (P := P) (fun A' b' _ st' => Gr (ownP A) (b + ci) b' st1 st' ∧ ∀ i n, A' i = some n → ownP A n ∨ st1.length ≤ n) hg hs (fun A' b' u' r' st' hv' hI => ?_) (fun A' b' b2 u' r' st' A2 u2 r2 st2 hI h => ?_) us.length 0 A (b + ci) u r st1 (by have := Nat.mul_le_mul_right c hr.2.1; omega) (by omega) hv1 ⟨.refl, fun i n e => .inl ⟨i, e⟩⟩ (by rw [List.drop_zero]; exact q1)
  · rw [← hr.1] at h
    refine SPost.le h ?_
    have := Nat.mul_le_mul_right c (show a.2 ≤ sizeLine by rw [hr.1]; exact hr.2.1)
    omega
  · obtain ⟨ds, r1, hn⟩ := hr.2.2 b' st' (hI.1.wk fun _ _ z => ⟨rfl, .inr z⟩)
    refine ⟨ds, r1.av fun n _ z => ?_, hn⟩
    rcases z with z | ⟨j, e⟩
    · exact .inl (.inl z)
    · exact (hI.2 j n e).imp (fun z => .inr z) id
  · refine ⟨hI.1.trans h.gr (fun n hn ⟨j, e⟩ => (hI.2 j n e).elim id fun z => absurd hn (by omega)), fun j n e => ?_⟩
    rcases h.sub j n e with ⟨k, e⟩ | z
    · exact hI.2 k n e
    · exact .inr (Nat.le_trans hI.1.len z)
/-- while, at most n turns -/
def whileW (t : VT) (body : VS) : Nat → VS
  | 0, _, _ => False
  | n + 1, u, P => t u (fun b => if b = true then body u (fun o => match o with
      | .nx u2 => whileW t body n u2 P
      | .ct u2 => whileW t body n u2 P
      | .bk u2 => P (.nx u2)
      | o => P o) else P (.nx u)) (fun x => P (.exc x))
theorem sv_while {ct : Nat} (ht : TOk ct t wt) (hs : SOk M c s w) : ∀ (n : Nat), SOk M (n * (ct + c)) (whileLoop t s n) (whileW wt w n)
  | 0 => fun Z A b u r st P hcap hv q => q.elim
  | n + 1 => fun Z A b u r st P hcap hv q => by
    have hmc : (n + 1) * (ct + c) = n * (ct + c) + (ct + c) := Nat.succ_mul n _
    refine SPost.bind (ht Z A b u r st _ _ (by omega) hv q) (by omega) hv fun d st1 v hv1 g hr q1 => ?_
    cases hr
    cases d with
    | false => exact ⟨A, u, q1, (Stp.refl hv1).le (by omega)⟩
    | true =>
      rw [if_pos rfl] at q1 ⊢
      have h := hs Z A _ u r st1 _ (by omega) hv1 q1
      have go : ∀ {r3 : Env'} {st3 : Store}, (∃ A3 u3, whileW wt w n u3 P ∧ Stp M Z A (b + ct) (b + ct + c) u r st1 A3 u3 r3 st3) → SPost M Z A (b + ct) (b + (n + 1) * (ct + c)) u r st1 (whileLoop t s n r3 st3) P := fun {r3 st3} h => by
        obtain ⟨A3, u3, q3, g3⟩ := h
        have h5 := sv_while ht hs n Z A3 _ u3 r3 st3 P (by omega) g3.rv q3
        refine ((SPost.from g3 h5).mono fun j hj => ?_).le (by omega)
        rcases List.mem_append.mp hj with z | z <;> exact z
      cases e4 : s r st1 with
      | nx r3 st3 => rw [e4] at h; exact go h
      | ct r3 st3 => rw [e4] at h; exact go h
      | bk r3 st3 =>
        rw [e4] at h
        obtain ⟨A3, u3, q3, g3⟩ := h
        exact ⟨A3, u3, q3, g3.le (by omega)⟩
      | rt d3 st3 => rw [e4] at h; exact SPost.le (o := .rt d3 st3) (M := M) (show SPost M Z A (b + ct) (b + ct + c) u r st1 (.rt d3 st3) P from h) (by omega)
      | exc d3 st3 => rw [e4] at h; exact SPost.le (o := .exc d3 st3) (M := M) (show SPost M Z A (b + ct) (b + ct + c) u r st1 (.exc d3 st3) P from h) (by omega)
      | err => rw [e4] at h; exact h
end
end Pd
set_option maxRecDepth 100000
set_option maxHeartbeats 4000000
namespace Pd
open PySem PySem.Spec PyProof.Rows L2
theorem Gr.set {b : Nat} {st : Store} (n : Nat) (o : SO) : Gr (fun m => m = n) b b st (st.set n o) :=
  ⟨Nat.le_refl _, by simp, fun m o' h e _ => by rw [List.getElem?_set_ne (Ne.symm h)]; exact e, fun m L S c p h e d => ⟨L, p, by rw [List.getElem?_set_ne (Ne.symm h)]; exact e, d⟩⟩
section
variable {Z : Av} {A : Ow} {b : Nat} {u : UEnv} {r : Env'} {st : Store} {i n : Nat} {o : SO} {v' : U}
theorem RV.mut (hv : RV Z A b u r st) (ha : A i = some n) (hr : r[i]? = some (some (.ref n))) (hc : Cont (avo Z A) b (st.set n o) n v') : RV Z A b (u.set i (some (v', true))) r (st.set n o) := by
  have hl := hv.len
  refine ⟨by rw [List.length_set]; exact hl, hv.inj, fun j m e => ⟨(hv.nz j m e).1, by rw [List.length_set]; exact (hv.nz j m e).2⟩, fun m z => by rw [List.length_set]; exact hv.zlt m z, fun j w e => ?_, fun j w e => ?_⟩
  · by_cases hj : i = j
    · subst hj
      by_cases hi : i < u.length
      · rw [List.getElem?_set_self hi] at e
        cases e
      · rw [List.getElem?_eq_none (by rw [List.length_set]; omega)] at e
        cases e
    · rw [List.getElem?_set_ne hj] at e
      obtain ⟨d, e1, h⟩ := hv.val j w e
      exact ⟨d, e1, h.up (Gr.set n o) (fun m _ z => by subst z; exact .inr ⟨i, ha⟩) fun _ _ z => z⟩
  · by_cases hj : i = j
    · subst hj
      by_cases hi : i < u.length
      · rw [List.getElem?_set_self hi] at e
        cases e
        exact ⟨n, ha, hr, hc⟩
      · rw [List.getElem?_eq_none (by rw [List.length_set]; omega)] at e
        cases e
    · rw [List.getElem?_set_ne hj] at e
      obtain ⟨m, a, c, q⟩ := hv.own j w e
      have hmn : n ≠ m := fun z => hj (hv.inj i j m (z ▸ ha) a)
      exact ⟨m, a, c, q.upx (Gr.set n o) (fun m' _ z => by subst z; exact .inr ⟨i, ha⟩) (fun _ _ z => z) (List.getElem?_set_ne hmn)⟩
theorem Stp.mut (hv : RV Z A b u r st) (ha : A i = some n) (hr : r[i]? = some (some (.ref n))) (hc : Cont (avo Z A) b (st.set n o) n v') : Stp [i] Z A b b u r st A (u.set i (some (v', true))) r (st.set n o) :=
  ⟨hv.mut ha hr hc, (Gr.set n o).wk fun m _ z => ⟨i, by rw [z]; exact ha⟩, fun j m e => .inl ⟨j, e⟩, ⟨fun j h => List.getElem?_set_ne fun e => h (by rw [e]; exact List.mem_singleton.mpr rfl), fun _ _ => rfl⟩, fun j hj => ⟨rfl, fun m o' e e2 _ => by
    have hji : i ≠ j := fun z => hj (by rw [z]; exact List.mem_singleton.mpr rfl)
    have hmn : n ≠ m := fun z => hji (hv.inj i j m (z ▸ ha) e)
    rw [List.getElem?_set_ne hmn]
    exact e2⟩⟩
theorem Reps.setn {ds : List D} {us : List U} (h : Reps (avo Z A) b st ds us) (ha : A i = some n) : Reps (avo Z A) b (st.set n o) ds us := h.up (Gr.set n o) (fun m _ z => by subst z; exact .inr ⟨i, ha⟩) fun _ _ z => z
theorem Rep.setn {d : D} {w : U} (h : Rep (avo Z A) b st d w) (ha : A i = some n) : Rep (avo Z A) b (st.set n o) d w := h.up (Gr.set n o) (fun m _ z => by subst z; exact .inr ⟨i, ha⟩) fun _ _ z => z
end
def vAppend (i : Nat) (e : VE) : VS := fun u P => match u[i]? with
  | some (some (.lst l, true)) => e u (fun v => l.length < sizeLine ∧ P (.nx (u.set i (some (.lst (l ++ [v]), true))))) (fun x => P (.exc x))
  | _ => False
def vExtend (i : Nat) (e : VE) : VS := fun u P => match u[i]? with
  | some (some (.lst l, true)) => e u (fun v => match v with
    | .lst k => l.length + k.length ≤ sizeLine ∧ P (.nx (u.set i (some (.lst (l ++ k), true))))
    | _ => False) (fun x => P (.exc x))
  | _ => False
section
variable {c c1 c2 : Nat} {e e2 : DE} {we we2 : VE}
theorem sv_append (i : Nat) (he : EOk .strong c e we) : SOk [i] c (dExpr (dMt oAppend (dVar i) (dCons e dNil))) (vAppend i we) := fun Z A b u r st P hcap hv q => by
  unfold vAppend at q
  split at q
  · rename_i l eu
    obtain ⟨n, e1, e2, ds, e3, hl, r1⟩ := hv.own i _ eu
    have e0 : dExpr (dMt oAppend (dVar i) (dCons e dNil)) r st = (e r st).out fun d st1 => (oAppend (.ref n) [d] st1).out fun _ st2 => .nx r st2 := by
      unfold dExpr dMt dVar
      rw [e2]
      show Res.out (if isL (.ref n) st = true then _ else _) _ = _
      rw [show isL (.ref n) st = true by unfold isL; dsimp only; rw [getL_of e3]; rfl, if_pos rfl]
      unfold dCons dNil
      cases e r st <;> rfl
    rw [e0]
    refine SPost.bind (he Z A b u r st _ _ (by omega) hv q) (Nat.le_refl _) hv fun d st1 v hv1 g hr q1 => ?_
    obtain ⟨n', a1, b1, ds1, c1, hl1, r1⟩ := hv1.own i _ eu
    rw [e1] at a1
    cases a1
    unfold oAppend
    dsimp only
    rw [getL_of c1]
    dsimp only
    rw [r1.length, if_pos q1.1]
    show SPost _ _ _ _ _ _ _ _ (.nx r (st1.set n (.lst (ds1 ++ [d])))) _
    have hn : n < st1.length := getSome_lt c1
    refine ⟨A, _, q1.2, Stp.mut hv1 e1 b1 ⟨ds1 ++ [d], List.getElem?_set_self hn, by rw [List.length_append]; exact q1.1, ?_⟩⟩
    exact (r1.setn e1).app (.cons (Rep.setn hr e1) .nil)
  · exact q.elim
theorem sv_extend (i : Nat) (he : EOk .weak c e we) : SOk [i] c (dExpr (dMt oExtend (dVar i) (dCons e dNil))) (vExtend i we) := fun Z A b u r st P hcap hv q => by
  unfold vExtend at q
  split at q
  · rename_i l eu
    obtain ⟨n, e1, e2, ds, e3, hl, r1⟩ := hv.own i _ eu
    have e0 : dExpr (dMt oExtend (dVar i) (dCons e dNil)) r st = (e r st).out fun d st1 => (oExtend (.ref n) [d] st1).out fun _ st2 => .nx r st2 := by
      unfold dExpr dMt dVar
      rw [e2]
      show Res.out (if isL (.ref n) st = true then _ else _) _ = _
      rw [show isL (.ref n) st = true by unfold isL; dsimp only; rw [getL_of e3]; rfl, if_pos rfl]
      unfold dCons dNil
      cases e r st <;> rfl
    rw [e0]
    refine SPost.bind (he Z A b u r st _ _ (by omega) hv q) (Nat.le_refl _) hv fun d st1 v hv1 g hr q1 => ?_
    obtain ⟨n', a1, b1, ds1, c1, hl1, r1⟩ := hv1.own i _ eu
    rw [e1] at a1
    cases a1
    cases v <;> first | exact q1.elim | skip
    rename_i k
    obtain ⟨m, es, rfl, c2, hl2, r2⟩ := hr.lstw
    unfold oExtend
    dsimp only
    rw [getL_of c1, getL_of c2]
    dsimp only
    rw [r1.length, r2.length, if_pos q1.1]
    show SPost _ _ _ _ _ _ _ _ (.nx r (st1.set n (.lst (ds1 ++ es)))) _
    have hn : n < st1.length := getSome_lt c1
    refine ⟨A, _, q1.2, Stp.mut hv1 e1 b1 ⟨ds1 ++ es, List.getElem?_set_self hn, by rw [List.length_append]; exact q1.1, ?_⟩⟩
    exact (r1.setn e1).app (r2.setn e1)
  · exact q.elim
end
def putKs {A : Type} [DecidableEq A] (ks : List A) (k : A) : List A := if (ks.any fun x => decide (x = k)) = true then ks else ks ++ [k]
def putUs {A : Type} [DecidableEq A] (ks : List A) (us : List U) (k : A) (v : U) : List U := if (ks.any fun x => decide (x = k)) = true then List.zipWith (fun x u => if x = k then v else u) ks us else us ++ [v]
theorem put_keys {A : Type} [DecidableEq A] (kvs : List (A × D)) (k : A) (d : D) : (putD kvs k d).map (·.1) = putKs (kvs.map (·.1)) k := by
  unfold putD putKs
  rw [List.any_map]
  show List.map _ (if (kvs.any fun kv => decide (kv.1 = k)) = true then _ else _) = if (kvs.any fun kv => decide (kv.1 = k)) = true then _ else _
  split
  · rw [List.map_map]
    refine List.map_congr_left fun p _ => ?_
    show (if p.1 = k then (p.1, d) else p).1 = p.1
    split <;> rfl
  · rw [List.map_append]; rfl
theorem put_vals {A : Type} [DecidableEq A] {Y : Av} {b : Nat} {st : Store} {kvs : List (A × D)} {us : List U} (h : Reps Y b st (kvs.map (·.2)) us) (k : A) {d : D} {v : U} (hd : Rep Y b st d v) : Reps Y b st ((putD kvs k d).map (·.2)) (putUs (kvs.map (·.1)) us k v) := by
  unfold putD putUs
  rw [List.any_map]
  show Reps Y b st (List.map _ (if (kvs.any fun kv => decide (kv.1 = k)) = true then _ else _)) (if (kvs.any fun kv => decide (kv.1 = k)) = true then _ else _)
  split
  · rename_i hc
    clear hc
    induction kvs generalizing us with
    | nil => cases h; exact .nil
    | cons p kvs ih =>
      rw [List.map_cons] at h
      cases h with
      | cons a r =>
        rw [List.map_cons, List.map_cons, List.map_cons, List.zipWith_cons_cons]
        refine .cons ?_ (ih r)
        by_cases e : p.1 = k
        · rw [if_pos e, if_pos e]; exact hd
        · rw [if_neg e, if_neg e]; exact a
  · rw [List.map_append]
    exact h.app (.cons hd .nil)
section
variable {c c1 c2 c3 : Nat} {e e2 e3 : DE} {we we2 we3 : VE}
/-- the state of the draws, made -/
def vDraw (e e2 e3 : VE) : VE := fun u Q X => e u (fun v1 => e2 u (fun v2 => e3 u (fun v3 => match v1, v2, v3 with
  | .int _, .int S, .lst cs => (0 ≤ S ∧ S < 2147483647 ∧ ∃ ns : List Int, cs = ns.map .int ∧ ns ≠ [] ∧ ∀ x ∈ ns, x.natAbs.log2 < 2000000) ∧ Q .gen
  | _, _, _ => False) X) X) X
theorem Reps.intsd {Y : Av} {b : Nat} {st : Store} : ∀ {ds : List D} {ns : List Int}, Reps Y b st ds (ns.map .int) → ds = ns.map .int
  | [], ns, h => by
    cases ns with
    | nil => rfl
    | cons n ns => cases h
  | d :: ds, ns, h => by
    cases ns with
    | nil => cases h
    | cons n ns =>
      cases h with
      | cons a r => rw [a.intd, Reps.intsd r]; rfl
theorem ev_draw (h1 : EOk .weak c1 e we) (h2 : EOk .weak c2 e2 we2) (h3 : EOk .strong c3 e3 we3) : EOk .strong (c1 + (c2 + c3)) (dDisp (dpCons (dC (.str "left")) e (dpCons (dC (.str "seed")) e2 (dpCons (dC (.str "cells")) e3 (dpCons (dC (.str "spot")) (dC (.int 0)) dpNil))))) (vDraw we we2 we3) := fun Z A b u r st Q X hcap hv q => by
  have e0 : dDisp (dpCons (dC (.str "left")) e (dpCons (dC (.str "seed")) e2 (dpCons (dC (.str "cells")) e3 (dpCons (dC (.str "spot")) (dC (.int 0)) dpNil)))) r st = (e r st).bind fun d1 st1 => (e2 r st1).bind fun d2 st2 => (e3 r st2).bind fun d3 st3 => .ok (.ref st3.length) (st3 ++ [.dK (mergeD [] [(.inr "left", d1), (.inr "seed", d2), (.inr "cells", d3), (.inr "spot", .int 0)])]) := by
    unfold dDisp dpCons dpNil dC
    dsimp only [Res.bind]
    cases e r st with
    | ok d1 st1 =>
      dsimp only [Res.bind]
      cases e2 r st1 with
      | ok d2 st2 =>
        dsimp only [Res.bind]
        cases e3 r st2 with
        | ok d3 st3 => rfl
        | exc x st3 => rfl
        | err => rfl
      | exc x st2 => rfl
      | err => rfl
    | exc x st1 => rfl
    | err => rfl
  rw [e0]
  refine Post.bind RelK.up (h1 Z A b u r st _ X (by omega) hv q) (by omega) hv fun d1 st1 v1 hv1 g1 hr1 q1 => ?_
  refine Post.bind RelK.up (h2 Z A _ u r st1 _ X (by omega) hv1 q1) (by omega) hv1 fun d2 st2 v2 hv2 g2 hr2 q2 => ?_
  refine Post.bind RelK.up (h3 Z A _ u r st2 _ X (by omega) hv2 q2) (by omega) hv2 fun d3 st3 v3 hv3 g3 hr3 q3 => ?_
  split at q3
  · rename_i L S cs
    obtain ⟨⟨s0, s1, ns, rfl, hne, hlog⟩, q3⟩ := q3
    obtain ⟨c, ds, rfl, ec, _, rc⟩ := Rep.lstd hr3
    rw [hr1.intw, hr2.intw]
    have hcl : c < st3.length := getSome_lt ec
    have hcz : ¬ avo Z A c := by
      have h : Rep (avo Z A) _ st3 (.ref c) (.lst (ns.map .int)) := hr3
      cases h with | lst a _ _ _ => exact a
    refine ⟨.gen, q3, (Gr.push _).b_le (by omega), ?_⟩
    refine Rep.gen (n := st3.length) (c := c) (L := L) (S := S) (p := 0) (cs := ns) (fun z => ?_) hcz ?_ ⟨Int.le_refl _, by omega, s0, s1⟩ ?_ hne hlog
    · have := hv3.avlt z
      omega
    · show (st3 ++ [_])[st3.length]? = some (drawO L S c 0)
      rw [List.getElem?_append_right (Nat.le_refl _), Nat.sub_self]
      rfl
    · rw [List.getElem?_append_left hcl, ec, rc.intsd]
  · exact q3.elim
end
abbrev VFn := List U → (U → Prop) → VX → Prop
def FPost (Z : Av) (b b' : Nat) (st : Store) (res : Res D) (Q : U → Prop) (X : VX) : Prop := match res with
  | .ok d st' => ∃ v, Q v ∧ Gx b b' st st' ∧ Rep Z b' st' d v
  | .exc e st' => ∃ x, X x ∧ Gx b b' st st' ∧ RelX Z b' st' e x
  | .err => False
def FOk (n c : Nat) (F : DFn) (W : VFn) : Prop := ∀ (Z : Av) (b : Nat) (st : Store) (ds : List D) (us : List U) (Q : U → Prop) (X : VX), b + c ≤ capN → (∀ m, Z m → m < st.length) → us.length = n → Reps Z b st ds us → W us Q X → FPost Z b (b + c) st (F ds st) Q X
def vRun (N : Nat) (w : VS) : VFn := fun us Q X => w (us.map (fun v => some (v, false)) ++ List.replicate (N - us.length) none) (fun o => match o with
  | .nx _ => Q .non
  | .rt v => Q v
  | .exc x => X x
  | _ => False)
theorem fok_run {M : List Nat} {N n c : Nat} {s : DS} {w : VS} (hs : SOk M c s w) : FOk n c (runD N s) (vRun N w) := fun Z b st ds us Q X hcap hz hn hr q => by
  have hl := hr.length
  have hav : ∀ m, avo Z (fun _ => none) m → Z m := fun m z => z.elim id fun ⟨_, e⟩ => by cases e
  have hv : RV Z (fun _ => none) b (us.map (fun v => some (v, false)) ++ List.replicate (N - us.length) none) (ds.map some ++ List.replicate (N - ds.length) none) st := by
    refine ⟨by simp [hl], (fun i j m e _ => by cases e), (fun i m e => by cases e), hz, fun i v e => ?_, fun i v e => ?_⟩
    · by_cases hi : i < us.length
      · rw [List.getElem?_append_left (by simpa using hi), List.getElem?_map] at e
        rw [List.getElem?_append_left (by simpa [hl] using hi), List.getElem?_map]
        cases eq : us[i]? with
        | none => rw [eq] at e; cases e
        | some x =>
          rw [eq] at e
          cases e
          obtain ⟨d, e2, h⟩ := Paired.getR hr.pr eq
          exact ⟨d, by rw [e2]; rfl, h.av fun m _ z => hav m z⟩
      · rw [List.getElem?_append_right (by simpa using hi), List.getElem?_replicate] at e
        split at e <;> cases e
    · by_cases hi : i < us.length
      · rw [List.getElem?_append_left (by simpa using hi), List.getElem?_map] at e
        cases eq : us[i]? with
        | none => rw [eq] at e; cases e
        | some x => rw [eq] at e; cases e
      · rw [List.getElem?_append_right (by simpa using hi), List.getElem?_replicate] at e
        split at e <;> cases e
  have h := hs Z _ b _ _ st _ hcap hv q
  have gx : ∀ {b' : Nat} {st' : Store}, Gr (ownP fun _ => none) b b' st st' → Gx b b' st st' := fun g => g.wk fun m _ z => z.elim fun _ e => by cases e
  unfold runD
  cases e : s (ds.map some ++ List.replicate (N - ds.length) none) st with
  | nx r' st' =>
    rw [e] at h
    obtain ⟨A', u', q1, g⟩ := h
    exact ⟨.non, q1, gx g.gr, .non⟩
  | bk r' st' =>
    rw [e] at h
    obtain ⟨A', u', q1, g⟩ := h
    exact q1.elim
  | ct r' st' =>
    rw [e] at h
    obtain ⟨A', u', q1, g⟩ := h
    exact q1.elim
  | rt d st' =>
    rw [e] at h
    obtain ⟨v, q1, g, hr⟩ := h
    exact ⟨v, q1, gx g, hr⟩
  | exc x st' =>
    rw [e] at h
    obtain ⟨v, q1, g, hr⟩ := h
    exact ⟨v, q1, gx g, hr⟩
  | err => rw [e] at h; exact h
theorem FOk.le {n c c' : Nat} {F : DFn} {W : VFn} (h : FOk n c F W) (hc : c ≤ c') : FOk n c' F W := fun Z b st ds us Q X hcap hz hn hr q => by
  have h := h Z b st ds us Q X (by omega) hz hn hr q
  have hb : b + c ≤ b + c' := by omega
  cases e : F ds st with
  | ok d st' => rw [e] at h; obtain ⟨v, q, g, r⟩ := h; exact ⟨v, q, g.b_le hb, r.gx (.le hb)⟩
  | exc d st' => rw [e] at h; obtain ⟨v, q, g, r⟩ := h; exact ⟨v, q, g.b_le hb, r.gx (Z' := Z) (.le hb)⟩
  | err => rw [e] at h; exact h
def vCall (n : Nat) (W : VFn) (l : VA) : VE := fun u Q X => l u (fun us => us.length = n ∧ W us Q X) X
/-- some argument may be a list of one's own: what comes back holds no list -/
def vCallW (n : Nat) (W : VFn) (l : VA) : VE := fun u Q X => l u (fun us => us.length = n ∧ W us (fun v => v.plain = true ∧ Q v) (fun x => (x.fs.all fun p => p.2.plain) = true ∧ X x)) X
theorem RelX.av {Z Z' : Av} {b : Nat} {st : Store} {e : XD} {x : UX} (h : RelX Z b st e x) (hz : ∀ n, n < st.length → Z' n → Z n) : RelX Z' b st e x := ⟨h.1, Paired.mono (fun _ _ z => ⟨z.1, z.2.av hz⟩) h.2⟩
section
variable {n c c1 c2 : Nat} {F : DFn} {W : VFn} {l lk : DA} {wl wk : VA}
theorem call_post {Z : Av} {A : Ow} {b : Nat} {u : UEnv} {r : Env'} {st : Store} {ds : List D} {us : List U} {Q : U → Prop} {X : VX} (hf : FOk n c F W) (hcap : b + c ≤ capN) (hv : RV Z A b u r st) (hr : Reps (avo Z A) b st ds us) (hn : us.length = n) (q : W us Q X) : Post (RelK .strong) Z A b (b + c) st (ofN n F ds st) Q X := by
  unfold ofN
  rw [hr.length, if_pos hn]
  have h := hf (avo Z A) b st ds us Q X hcap (fun m z => hv.avlt z) hn hr q
  cases e : F ds st with
  | ok d st' => rw [e] at h; obtain ⟨v, q, g, r⟩ := h; exact ⟨v, q, g, r⟩
  | exc d st' => rw [e] at h; obtain ⟨v, q, g, r⟩ := h; exact ⟨v, q, g, r.av fun m _ z => .inl z⟩
  | err => rw [e] at h; exact h
theorem ev_call (hf : FOk n c F W) (hl : AOk .strong c1 l wl) : EOk .strong (c1 + c) (dL (ofN n F) l) (vCall n W wl) := by
  refine JOk.bind (kw := fun us u Q X => us.length = n ∧ W us Q X) RelK.up hl fun Z A b u r st0 st ds us Q X hcap hv hr q => ?_
  exact call_post hf hcap hv hr.reps q.1 q.2
theorem Reps.xpl {Z Z' : Av} {b b' : Nat} {st st' : Store} : ∀ {l : List (Str × D)} {m : List (Str × U)}, (m.all fun p => p.2.plain) = true → Paired (fun p q => p.1 = q.1 ∧ Rep Z b st p.2 q.2) l m → Paired (fun p q => p.1 = q.1 ∧ Rep Z' b' st' p.2 q.2) l m := by
  intro l m h p
  induction p with
  | nil => exact .nil
  | cons a t ih =>
    rw [List.all_cons, Bool.and_eq_true] at h
    exact .cons ⟨a.1, Rep.pl _ _ h.1 a.2⟩ (ih h.2)
theorem ev_callW (hf : FOk n c F W) (hl : AOk .weak c1 l wl) : EOk .strong (c1 + c) (dL (ofN n F) l) (vCallW n W wl) := by
  refine JOk.bind (kw := fun us u Q X => us.length = n ∧ W us (fun v => v.plain = true ∧ Q v) (fun x => (x.fs.all fun p => p.2.plain) = true ∧ X x)) RelK.up hl fun Z A b u r st0 st ds us Q X hcap hv hr q => ?_
  have hr' := hr.any
  unfold ofN
  rw [hr'.length, if_pos q.1]
  have h := hf noW b st ds us _ _ hcap (fun m z => z.elim) q.1 hr' q.2
  cases e : F ds st with
  | ok d st' => rw [e] at h; obtain ⟨v, q, g, r⟩ := h; exact ⟨v, q.2, g, Rep.pl v d q.1 r⟩
  | exc d st' => rw [e] at h; obtain ⟨v, q, g, r⟩ := h; exact ⟨v, q.2, g, r.1, Reps.xpl q.1 r.2⟩
  | err => rw [e] at h; exact h
def vCallK (n m : Nat) (is : List Nat) (np : Nat) (W : VFn) (l k : VA) : VE := fun u Q X => l u (fun us => k u (fun zs => (gP n m is us zs).length = np ∧ W (gP n m is us zs) Q X) X) X
theorem ev_callK {np m k : Nat} {is : List Nat} (hf : FOk np c F W) (hl : AOk .strong c1 l wl) (hk : AOk .strong c2 lk wk) : EOk .strong (c1 + (c2 + c)) (dLK k m is (ofN np F) l lk) (vCallK k m is np W wl wk) := by
  refine JOk.bind (kw := fun us u Q X => wk u (fun zs => (gP k m is us zs).length = np ∧ W (gP k m is us zs) Q X) X) RelK.up hl fun Z A b u r st0 st ds us Q X hcap hv hr q => ?_
  refine Post.bind RelK.up (hk Z A b u r st _ X (by omega) hv q) (by omega) hv fun es st1 zs hv1 g1 hr2 q2 => ?_
  have hr : Reps (avo Z A) _ st1 ds us := Reps.gx hr.reps g1
  have hh : Reps (avo Z A) _ st1 (gP k m is ds es) (gP k m is us zs) := .of (gP_rel hr.pr (RelL.reps hr2).pr is)
  rw [← Nat.add_assoc]
  exact call_post hf (by omega) hv1 hh q2.1 q2.2
end
end Pd
set_option maxRecDepth 100000
set_option maxHeartbeats 4000000
namespace Pd
open PySem PySem.Spec PyProof.Rows L2
theorem sv_eq {M : List Nat} {c : Nat} {s s' : DS} {w : VS} (e : s' = s) (h : SOk M c s w) : SOk M c s' w := e ▸ h
theorem dAsg_par (i j : Nat) (a b : DE) : dAsg (nTp (nsCons (nNm i) (nsCons (nNm j) nsNil))) (dL oTup (dCons a (dCons b dNil))) = dPar i j a b := by
  funext r st
  unfold dAsg dL dCons dNil dPar
  cases a r st with
  | ok x st1 =>
    dsimp only [Res.bind, Res.out]
    cases b r st1 with
    | ok y st2 => rfl
    | exc e st2 => rfl
    | err => rfl
  | exc e st1 => rfl
  | err => rfl
def vParG (o1 o2 : Bool) (i j : Nat) (a b : VE) : VS := fun u P => a u (fun x => b u (fun y => P (.nx ((u.set i (some (x, o1))).set j (some (y, o2))))) (fun x => P (.exc x))) (fun x => P (.exc x))
section
variable {Z : Av} {A : Ow} {b : Nat} {u : UEnv} {r : Env'} {st st0 : Store} {d : D} {v : U}
/-- an environment seen with one more place to avoid, a new one -/
theorem RV.more {b' : Nat} {n : Nat} (hv : RV Z A b u r st0) (g : Gx b b' st0 st) (hn : st0.length ≤ n) (hn2 : n < st.length) : RV (fun m => Z m ∨ m = n) A b' u r st := by
  have hav : ∀ m, avo (fun m => Z m ∨ m = n) A m → avo Z A m ∨ m = n := fun m z => by
    rcases z with (z | z) | z
    · exact .inl (.inl z)
    · exact .inr z
    · exact .inl (.inr z)
  refine ⟨hv.len, hv.inj, fun i m e => ⟨fun z => ?_, Nat.lt_of_lt_of_le (hv.nz i m e).2 g.len⟩, fun m z => ?_, fun i w e => ?_, fun i w e => ?_⟩
  · rcases z with z | z
    · exact (hv.nz i m e).1 z
    · have := (hv.nz i m e).2
      omega
  · rcases z with z | z
    · exact Nat.lt_of_lt_of_le (hv.zlt m z) g.len
    · omega
  · obtain ⟨d, e1, h⟩ := hv.val i w e
    exact ⟨d, e1, (h.av (Z' := avo (fun m => Z m ∨ m = n) A) fun m hm z => (hav m z).elim id fun z => absurd z (by omega)).gx g⟩
  · obtain ⟨m, e1, e2, h⟩ := hv.own i w e
    exact ⟨m, e1, e2, (h.av (Z' := avo (fun m => Z m ∨ m = n) A) fun m' hm z => (hav m' z).elim id fun z => absurd z (by omega)).gx g⟩
/-- slot i takes the new list or dict at n -/
theorem RV.take {n : Nat} (hv : RV (fun m => Z m ∨ m = n) A b u r st) (hz : ¬ Z n) (i : Nat) (hc : Cont (fun m => avo Z A m ∨ m = n) b st n v) : RV Z (fun j => if j = i then some n else A j) b (u.set i (some (v, true))) (r.set i (some (.ref n))) st := by
  have hl := hv.len
  have hA : ∀ j m, A j = some m → m ≠ n := fun j m e z => (hv.nz j m e).1 (.inr z)
  have hav : ∀ m, avo Z (fun j => if j = i then some n else A j) m → avo (fun m => Z m ∨ m = n) A m := fun m z => by
    rcases z with z | ⟨j, e⟩
    · exact .inl (.inl z)
    · by_cases hj : j = i
      · simp only [if_pos hj] at e
        exact .inl (.inr (Option.some.inj e).symm)
      · simp only [if_neg hj] at e
        exact .inr ⟨j, e⟩
  refine ⟨by rw [List.length_set, List.length_set]; exact hl, fun j k m e1 e2 => ?_, fun j m e => ?_, fun m z => hv.zlt m (.inl z), fun j w e => ?_, fun j w e => ?_⟩
  · by_cases hj : j = i
    · by_cases hk : k = i
      · rw [hj, hk]
      · simp only [if_pos hj] at e1
        simp only [if_neg hk] at e2
        cases e1
        exact absurd rfl (hA k _ e2)
    · by_cases hk : k = i
      · simp only [if_neg hj] at e1
        simp only [if_pos hk] at e2
        cases e2
        exact absurd rfl (hA j _ e1)
      · simp only [if_neg hj] at e1
        simp only [if_neg hk] at e2
        exact hv.inj j k m e1 e2
  · by_cases hj : j = i
    · simp only [if_pos hj] at e
      cases e
      exact ⟨hz, hc.lt⟩
    · simp only [if_neg hj] at e
      exact ⟨fun z => (hv.nz j m e).1 (.inl z), (hv.nz j m e).2⟩
  · by_cases hj : i = j
    · subst hj
      by_cases hi : i < u.length
      · rw [List.getElem?_set_self hi] at e
        cases e
      · rw [List.getElem?_eq_none (by rw [List.length_set]; omega)] at e
        cases e
    · rw [List.getElem?_set_ne hj] at e ⊢
      obtain ⟨d, e1, h⟩ := hv.val j w e
      exact ⟨d, e1, h.av fun m _ z => hav m z⟩
  · by_cases hj : i = j
    · subst hj
      by_cases hi : i < u.length
      · rw [List.getElem?_set_self hi] at e
        cases e
        refine ⟨n, if_pos rfl, List.getElem?_set_self (hl ▸ hi), hc.av fun m _ z => ?_⟩
        rcases z with z | ⟨j, e⟩
        · exact .inl (.inl z)
        · by_cases hj : j = i
          · simp only [if_pos hj] at e
            exact .inr (Option.some.inj e).symm
          · simp only [if_neg hj] at e
            exact .inl (.inr ⟨j, e⟩)
      · rw [List.getElem?_eq_none (by rw [List.length_set]; omega)] at e
        cases e
    · rw [List.getElem?_set_ne hj] at e
      obtain ⟨m, a, c, q⟩ := hv.own j w e
      exact ⟨m, (if_neg (Ne.symm hj)).trans a, by rw [List.getElem?_set_ne hj]; exact c, q.av fun m _ z => hav m z⟩
end
section
variable {M : List Nat} {c1 c2 c3 : Nat} {e e2 e3 : DE} {we we2 we3 : VE}
/-- x, y = a value, a new list -/
theorem sv_parSO (i j : Nat) (hij : i ≠ j) (he : EOk .strong c1 e we) (he2 : EOk .fresh c2 e2 we2) : SOk [i, j] (c1 + c2) (dPar i j e e2) (vParG false true i j we we2) := fun Z A b u r st P hcap hv q => SPost.bind (he Z A b u r st _ _ (by omega) hv q) (by omega) hv fun d st1 v hv1 g1 hr q1 => by
  have h2 := he2 Z A _ u r st1 _ _ (by omega) hv1 q1
  cases eq2 : e2 r st1 with
  | err => rw [eq2] at h2; exact h2.elim
  | exc x st2 =>
    rw [eq2] at h2
    obtain ⟨x', q, g2, h⟩ := h2
    exact ⟨x', q, (g2.wk fun _ _ z => z.elim).b_le (by omega), RelX.gx (Z' := Z) h (.le (by omega))⟩
  | ok d2 st2 =>
    rw [eq2] at h2
    obtain ⟨v2, q2, g2, n, rfl, hn, hc⟩ := h2
    have hz : ¬ Z n := fun z => by have := hv1.zlt n z; omega
    have hv2 := hv1.more g2 hn hc.lt
    have hr' : Rep (avo (fun m => Z m ∨ m = n) A) _ st2 d v := (Rep.av (Z' := avo (fun m => Z m ∨ m = n) A) hr fun m hm z => by
      rcases z with (z | z) | z
      · exact .inl z
      · omega
      · exact .inr z).gx g2
    have hv3 := (hv2.set i hr').take hz j hc
    rw [← Nat.add_assoc]
    show SPost _ _ _ _ _ _ _ _ (.nx ((r.set i (some d)).set j (some (.ref n))) st2) _
    refine ⟨_, _, q2, ⟨hv3, g2.wk fun _ _ z => z.elim, fun k m e => ?_, (Kp.trans kp_set kp_set : Kp ([i] ++ [j]) _ _ _ _), fun k hk => ⟨if_neg fun z => hk (by rw [z]; exact List.mem_cons_of_mem _ List.mem_cons_self), fun m o e1 e3 e4 => g2.same m o (fun z => z) e3 e4⟩⟩⟩
    by_cases hk : k = j
    · simp only [if_pos hk] at e
      cases e
      exact .inr hn
    · simp only [if_neg hk] at e
      exact .inl ⟨k, e⟩
def vRg1 (w : VE) : VG (Int × Int) := fun u Q X => w u (fun v => match v with
  | .int b => rgOk 0 b = true ∧ Q (0, b)
  | _ => False) X
def RelR : Rl (Int × Int) (Int × Int) := fun _ _ _ _ _ a v => a = v ∧ (a.2 - a.1).toNat ≤ sizeLine
theorem RelR.up : RUp RelR := ⟨fun h _ => h, fun _ h => h⟩
theorem rv_1 (h : EOk .weak c1 e we) : JOk RelR c1 (dRg1 e) (vRg1 we) := by
  refine JOk.bind (c2 := 0) (kw := fun v u Q X => match v with
    | .int b => rgOk 0 b = true ∧ Q (0, b)
    | _ => False) RelR.up h fun Z A n u r st0 st d v Q X hcap hv hr q => ?_
  cases v <;> first | exact q.elim | skip
  rename_i b
  rw [hr.intw]
  show Post _ _ _ _ _ _ (if rgOk 0 b = true then _ else _) _ _
  rw [if_pos q.1]
  exact ⟨_, q.2, .refl, rfl, (rgOk_ok q.1).2⟩
def rgLU (a b : Int) : List U := rgU a (b - a).toNat
theorem rgL_relU {Y : Av} {b : Nat} {st : Store} (a c : Int) : Reps Y b st (rgL a c) (rgLU a c) := rg_rel a (c - a).toNat
def vLstRg (w : VG (Int × Int)) : VE := fun u Q X => w u (fun p => Q (.lst (rgLU p.1 p.2))) X
theorem ev_lstRg {t : DR} {w : VG (Int × Int)} (h : JOk RelR c1 t w) : EOk .fresh c1 (dLstRg t) (vLstRg w) := by
  refine JOk.bind (c2 := 0) (kw := fun p u Q X => Q (.lst (rgLU p.1 p.2))) RelK.up h fun Z A n u r st0 st d v Q X hcap hv hr q => ?_
  obtain ⟨rfl, hz⟩ := hr
  exact newL_post hv (rgL_relU _ _) (by unfold rgLU; rw [rgU_length]; exact hz) q
end
end Pd
set_option maxRecDepth 100000
set_option maxHeartbeats 4000000
namespace Pd
open PySem PySem.Spec PyProof.Rows L2
def denDraw : DS := (dSeq (dIfS (dB (dBin (oCmp gGt) (dBin oIx (dVar 0) (dC (.str "left"))) (dC (.int 0))))
    (dSeq (dSet 2 (dBin oMod (dL oInt (dCons (dBin oIx (dVar 0) (dC (.str "left"))) dNil)) (dVar 1)))
    (dSeq (dSetIx (dBin oFdiv (dBin oIx (dVar 0) (dC (.str "left"))) (dVar 1)) (dVar 0) (dC (.str "left")))
    (dRet (dVar 2))))
    dNext)
    (dSeq (dSet 3 (dBin oIx (dVar 0) (dC (.str "spot"))))
    (dSeq (dSetIx (dBin oAdd (dVar 3) (dC (.int 1))) (dVar 0) (dC (.str "spot")))
    (dSeq (dPar 4 5 (dBin oIx (dVar 0) (dC (.str "cells"))) (dBin oAdd (dBin oIx (dVar 0) (dC (.str "seed"))) (dBin oMul (dBin oMul (dC (.int 40503)) (dVar 3)) (dVar 3))))
    (dSeq (dSet 6 (dBin oIx (dVar 4) (dBin oMod (dL oInt (dCons (dVar 3) dNil)) (dL oLen (dCons (dVar 4) dNil)))))
    (dSeq (dSet 7 (dBin oMod (dL oInt (dCons (dBin oAdd (dBin oMul (dVar 6) (dBin oAdd (dBin oMul (dC (.int 2)) (dVar 3)) (dC (.int 3)))) (dVar 5)) dNil)) (dC (.int 2147483647))))
    (dSeq (dSet 7 (dBin oMod (dL oInt (dCons (dBin oAdd (dBin oAdd (dBin oMul (dVar 7) (dVar 7)) (dBin oMul (dC (.int 69621)) (dVar 3))) (dBin oIx (dVar 0) (dC (.str "seed")))) dNil)) (dC (.int 2147483629))))
    (dRet (dBin oMod (dBin oFdiv (dBin oMod (dL oInt (dCons (dBin oAdd (dBin oMul (dVar 7) (dC (.int 48271))) (dVar 3)) dNil)) (dC (.int 2147483647))) (dC (.int 11))) (dVar 1))))))))))
section
variable {st : Store} {n c : Nat} {L S p : Int}
theorem getL_draw (h : st[n]? = some (drawO L S c p)) : getL st n = none := by
  unfold getL
  rw [h]
  rfl
theorem ixD {x : Str} {d : D} (h : st[n]? = some (drawO L S c p)) (e : valD [((.inr "left" : Key), D.int L), (.inr "seed", .int S), (.inr "cells", .ref c), (.inr "spot", .int p)] (.inr x) = some d) : oIx (.ref n) (.str x) st = .ok d st := by
  unfold oIx
  have e0 : ixSeq (.ref n) (.str x) st = none := by
    unfold ixSeq
    rw [show seqOf st (.ref n) = none from getL_draw h]
  rw [e0]
  dsimp only
  unfold ixDic dGet
  dsimp only
  rw [h]
  unfold drawO keyOf
  dsimp only
  rw [e]
theorem ix_left (h : st[n]? = some (drawO L S c p)) : oIx (.ref n) (.str "left") st = .ok (.int L) st := ixD h rfl
theorem ix_seed (h : st[n]? = some (drawO L S c p)) : oIx (.ref n) (.str "seed") st = .ok (.int S) st := ixD h rfl
theorem ix_cells (h : st[n]? = some (drawO L S c p)) : oIx (.ref n) (.str "cells") st = .ok (.ref c) st := ixD h rfl
theorem ix_spot (h : st[n]? = some (drawO L S c p)) : oIx (.ref n) (.str "spot") st = .ok (.int p) st := ixD h rfl
theorem set_left (h : st[n]? = some (drawO L S c p)) (v : Int) : setIx (.ref n) (.str "left") (.int v) st = some (st.set n (drawO v S c p)) := by
  unfold setIx
  dsimp only
  rw [h]
  rfl
theorem set_spot (h : st[n]? = some (drawO L S c p)) (v : Int) : setIx (.ref n) (.str "spot") (.int v) st = some (st.set n (drawO L S c v)) := by
  unfold setIx
  dsimp only
  rw [h]
  rfl
theorem mulOk_bits {i j : Int} {a b : Nat} (hi : i.natAbs < 2 ^ a) (hj : j.natAbs < 2 ^ b) (h0 : 0 < a) (h1 : 0 < b) (h : a + b ≤ 99999999) : mulOk i j = true := by
  have x := PySem.Flt.log2_lt_of h0 hi
  have y := PySem.Flt.log2_lt_of h1 hj
  unfold mulOk
  simp only [Bool.or_eq_true, Bool.and_eq_true, decide_eq_true_eq]
  left; left
  omega
theorem oMod_pos {i j : Int} {st : Store} (h : 0 < j) : oMod (.int i) (.int j) st = .ok (.int (i % j)) st := if_pos h
theorem oFdiv_pos {i j : Int} {st : Store} (h : 0 < j ∧ j < 1073741824) : oFdiv (.int i) (.int j) st = .ok (.int (i / j)) st := if_pos h
theorem natAbs_mul_lt {i j : Int} {a b : Nat} (ha : i.natAbs < 2 ^ a) (hb : j.natAbs < 2 ^ b) : (i * j).natAbs < 2 ^ (a + b) := by
  rw [Int.natAbs_mul, Nat.pow_add]
  exact Nat.mul_lt_mul'' ha hb
theorem draw_left {B : Int} (h : st[n]? = some (drawO L S c p)) (hL : 0 < L) (hB : 0 < B ∧ B < 1073741824) : runD 8 denDraw [.ref n, .int B] st = .ok (.int (L % B)) (st.set n (drawO (L / B) S c p)) := by
  have e1 := ix_left h
  have e2 := set_left h (L / B)
  have e3 : oCmp gGt (.int L) (.int 0) st = .ok (.bl true) st := by
    unfold oCmp gGt
    dsimp only
    rw [decide_eq_true hL]
  have e4 : oMod (.int L) (.int B) st = .ok (.int (L % B)) st := if_pos hB.1
  have e5 : oFdiv (.int L) (.int B) st = .ok (.int (L / B)) st := if_pos hB
  unfold runD denDraw
  simp only [dSeq, dIfS, dB, dBin, dVar, dC, dSet, dSetIx, dRet, Res.bind, Res.out, dL, dCons, dNil, List.map, List.length, List.replicate, List.append, List.cons_append, List.nil_append, List.getElem?_cons_zero, List.getElem?_cons_succ, e1, e3, asB, if_true, oInt, e4, e5, e2, List.set]
theorem draw_right {B : Int} {cs : List Int} (h : st[n]? = some (drawO L S c p)) (hL : ¬ 0 < L) (hB : 0 < B ∧ B < 1073741824) (hp : 0 ≤ p) (hp2 : p.natAbs < 2 ^ 4001) (hS : 0 ≤ S ∧ S < 2147483647) (hc : st[c]? = some (.lst (cs.map .int))) (hne : cs ≠ []) (hcs : ∀ x ∈ cs, x.natAbs.log2 < 2000000) :
    ∃ x, 0 ≤ x ∧ x < B ∧ runD 8 denDraw [.ref n, .int B] st = .ok (.int x) (st.set n (drawO L S c (p + 1))) := by
  have e1 := ix_left h
  have e2 := ix_spot h
  have e3 : oCmp gGt (.int L) (.int 0) st = .ok (.bl false) st := by
    unfold oCmp gGt
    dsimp only
    rw [decide_eq_false hL]
  have e4 : oAdd (.int p) (.int 1) st = .ok (.int (p + 1)) st := rfl
  have e5 := set_spot h (p + 1)
  have hn : n < st.length := getSome_lt h
  obtain ⟨st2, hst2⟩ : ∃ st2, st2 = st.set n (drawO L S c (p + 1)) := ⟨_, rfl⟩
  have h2 : st2[n]? = some (drawO L S c (p + 1)) := by rw [hst2]; exact List.getElem?_set_self hn
  have hcn : n ≠ c := fun e => by
    subst e
    rw [h] at hc
    cases hc
  have hc2 : st2[c]? = some (.lst (cs.map .int)) := by rw [hst2, List.getElem?_set_ne hcn]; exact hc
  have hlen : 0 < (cs.length : Int) := by
    cases cs with
    | nil => exact absurd rfl hne
    | cons a l => rw [List.length_cons]; omega
  have b1 : ((40503 : Int) * p).natAbs < 2 ^ 4017 := by
    have := natAbs_mul_lt (a := 16) (b := 4001) (show (40503 : Int).natAbs < 2 ^ 16 by decide) hp2
    exact this
  have m1 : mulOk 40503 p = true := mulOk_bits (a := 16) (b := 4001) (by decide) hp2 (by decide) (by decide) (by decide)
  have m2 : mulOk (40503 * p) p = true := mulOk_bits (a := 4017) (b := 4001) b1 hp2 (by decide) (by decide) (by decide)
  have m3 : mulOk 2 p = true := mulOk_bits (a := 2) (b := 4001) (by decide) hp2 (by decide) (by decide) (by decide)
  have m4 : mulOk 69621 p = true := mulOk_bits (a := 17) (b := 4001) (by decide) hp2 (by decide) (by decide) (by decide)
  obtain ⟨k, hk⟩ : ∃ k : Nat, k = (p % (cs.length : Int)).toNat := ⟨_, rfl⟩
  have hk1 : 0 ≤ p % (cs.length : Int) := Int.emod_nonneg _ (by omega)
  have hk2 : p % (cs.length : Int) < cs.length := Int.emod_lt_of_pos _ hlen
  have hkl : k < cs.length := by omega
  obtain ⟨x, hx⟩ : ∃ x, x = cs[k]'hkl := ⟨_, rfl⟩
  have hxm : x ∈ cs := by rw [hx]; exact List.getElem_mem hkl
  have e6 : oMod (.int p) (.int (cs.length : Nat)) st2 = .ok (.int (p % (cs.length : Int))) st2 := if_pos hlen
  have e7 : oIx (.ref c) (.int (p % (cs.length : Int))) st2 = .ok (.int x) st2 := by
    unfold oIx ixSeq
    rw [show seqOf st2 (.ref c) = some (cs.map .int) from getL_of hc2]
    dsimp only
    have : atI (cs.map D.int) (p % (cs.length : Int)) = some (.int x) := by
      unfold atI ixN
      rw [List.length_map, if_pos hk1, if_pos hk2]
      show (cs.map D.int)[(p % (cs.length : Int)).toNat]? = _
      rw [← hk, List.getElem?_map, List.getElem?_eq_getElem hkl, hx]
      rfl
    rw [this]
  have e8 := ix_cells h2
  have e9 := ix_seed h2
  have b2 : ((2 : Int) * p + 3).natAbs < 2 ^ 4004 := by
    have h3 := natAbs_mul_lt (a := 2) (b := 4001) (show (2 : Int).natAbs < 2 ^ 2 by decide) hp2
    have h4 : (2 : Nat) ^ 4004 = 2 * 2 ^ 4003 := by rw [← Nat.pow_succ']
    have h5 : 3 ≤ 2 ^ 4003 := Nat.le_trans (by decide) (Nat.pow_le_pow_right (by decide) (show 2 ≤ 4003 by decide))
    have h6 : ((2 : Int) * p).natAbs < 2 ^ 4003 := h3
    omega
  have bx : x.natAbs < 2 ^ 2000001 := by
    by_cases h0 : x.natAbs = 0
    · rw [h0]; exact Nat.pow_pos (by decide)
    · exact Nat.lt_of_lt_of_le (Nat.lt_log2_self) (Nat.pow_le_pow_right (by decide) (by have := hcs x hxm; omega))
  have m5 : mulOk x (2 * p + 3) = true := mulOk_bits (a := 2000001) (b := 4004) bx b2 (by decide) (by decide) (by decide)
  obtain ⟨y1, hy1⟩ : ∃ y, y = (x * (2 * p + 3) + (S + 40503 * p * p)) % 2147483647 := ⟨_, rfl⟩
  have r1 : 0 ≤ y1 ∧ y1 < 2147483647 := by rw [hy1]; exact ⟨Int.emod_nonneg _ (by decide), Int.emod_lt_of_pos _ (by decide)⟩
  have m6 : mulOk y1 y1 = true := mulOk_bits (a := 31) (b := 31) (by omega) (by omega) (by decide) (by decide) (by decide)
  obtain ⟨y2, hy2⟩ : ∃ y, y = (y1 * y1 + 69621 * p + S) % 2147483629 := ⟨_, rfl⟩
  have r2 : 0 ≤ y2 ∧ y2 < 2147483629 := by rw [hy2]; exact ⟨Int.emod_nonneg _ (by decide), Int.emod_lt_of_pos _ (by decide)⟩
  have m7 : mulOk y2 48271 = true := mulOk_bits (a := 31) (b := 16) (by omega) (by decide) (by decide) (by decide) (by decide)
  refine ⟨(y2 * 48271 + p) % 2147483647 / 11 % B, Int.emod_nonneg _ (by omega), Int.emod_lt_of_pos _ hB.1, ?_⟩
  have t0 : ∀ i : Int, oMod (.int i) (.int 2147483647) st2 = .ok (.int (i % 2147483647)) st2 := fun i => oMod_pos (by decide)
  have t1 : ∀ i : Int, oMod (.int i) (.int 2147483629) st2 = .ok (.int (i % 2147483629)) st2 := fun i => oMod_pos (by decide)
  have t2 : ∀ i : Int, oFdiv (.int i) (.int 11) st2 = .ok (.int (i / 11)) st2 := fun i => oFdiv_pos (by decide)
  have t3 : ∀ i : Int, oMod (.int i) (.int B) st2 = .ok (.int (i % B)) st2 := fun i => if_pos hB.1
  have tA : ∀ (i j : Int) (s : Store), oAdd (.int i) (.int j) s = .ok (.int (i + j)) s := fun _ _ _ => rfl
  have tM : ∀ (i j : Int) (s : Store), mulOk i j = true → oMul (.int i) (.int j) s = .ok (.int (i * j)) s := fun i j s h => if_pos h
  have tL : oLen [.ref c] st2 = .ok (.int (cs.length : Nat)) st2 := by
    unfold oLen
    dsimp only
    rw [show seqOf st2 (.ref c) = some (cs.map .int) from getL_of hc2]
    dsimp only
    rw [List.length_map]
  unfold runD denDraw
  simp only [dSeq, dIfS, dB, dBin, dVar, dC, dSet, dSetIx, dRet, dNext, dPar, Res.bind, Res.out, dL, dCons, dNil, List.map, List.length, List.replicate, List.append, List.cons_append, List.nil_append, List.getElem?_cons_zero, List.getElem?_cons_succ, e1, e3, asB, oInt, e2, tA, e5, List.set, if_false, Bool.false_eq_true, ← hst2, e8, e9, tM _ _ _ m1, tM _ _ _ m2, tM _ _ _ m3, tL, e6, e7, tM _ _ _ m5, t0, ← hy1, tM _ _ _ m6, tM _ _ _ m4, t1, ← hy2, tM _ _ _ m7, t2, t3]
end
/-- a drawn number -/
def W_draw : VFn := fun us Q _ => match us with
  | [.gen, .int b] => (0 < b ∧ b < 1073741824) ∧ ∀ x : Int, 0 ≤ x → x < b → Q (.int x)
  | _ => False
theorem fok_draw : FOk 2 1 (runD 8 denDraw) W_draw := fun Z b st ds us Q X hcap hz hn hr q => by
  unfold W_draw at q
  split at q
  case h_2 => exact q.elim
  rename_i B
  obtain ⟨hB, q⟩ := q
  cases hr with
  | cons a r =>
    cases r with
    | cons a2 r =>
      cases r
      rw [a2.intd]
      cases a with
      | gen n1 n2 e d f g w =>
        rename_i n c L S p cs
        have gr : ∀ (L' p' : Int), DB (b + 1) S p' → Gx b (b + 1) st (st.set n (drawO L' S c p')) := fun L' p' hd => by
          refine ⟨Nat.le_succ _, by simp, fun m o _ e1 e2 => ?_, fun m L1 S1 c1 p1 _ e1 d1 => ?_⟩
          · have hm : n ≠ m := fun z => by
              subst z
              rw [e] at e1
              cases e1
              rw [isDraw_drawO] at e2
              cases e2
            rw [List.getElem?_set_ne hm]
            exact e1
          · by_cases hm : n = m
            · subst hm
              rw [e] at e1
              have e3 : drawO L S c p = drawO L1 S1 c1 p1 := Option.some.inj e1
              unfold drawO at e3
              injection e3 with e3
              injection e3 with e4 e5
              injection e5 with e6 e7
              injection e7 with e8 e9
              injection e6 with _ e6
              injection e6 with e6
              injection e8 with _ e8
              injection e8 with e8
              subst e6 e8
              exact ⟨L', p', List.getElem?_set_self (getSome_lt e), hd⟩
            · rw [List.getElem?_set_ne hm]
              exact ⟨L1, p1, e1, d1.up (Nat.le_succ _)⟩
        by_cases hL : 0 < L
        · rw [draw_left e hL hB]
          exact ⟨_, q _ (Int.emod_nonneg _ (by omega)) (Int.emod_lt_of_pos _ hB.1), gr _ _ (d.up (Nat.le_succ _)), .int _⟩
        · have hp2 : p.natAbs < 2 ^ 4001 := by
            have h1 := d.pb
            have h2 := d.p0
            have h3 : capN < 2 ^ 4001 := by unfold capN; exact Nat.pow_lt_pow_right (by decide) (by decide)
            omega
          obtain ⟨x, x0, x1, ex⟩ := draw_right e hL hB d.p0 hp2 ⟨d.s0, d.s1⟩ f g w
          rw [ex]
          exact ⟨_, q x x0 x1, gr _ _ ⟨by have := d.p0; omega, by have := d.pb; omega, d.s0, d.s1⟩, .int _⟩
end Pd
set_option maxRecDepth 100000
set_option maxHeartbeats 4000000
namespace Pd
open PySem PySem.Spec PyProof.Rows L2
theorem Reps.erase {Y : Av} {b : Nat} {st : Store} : ∀ {ds : List D} {us : List U} (m : Nat), Reps Y b st ds us → Reps Y b st (ds.eraseIdx m) (us.eraseIdx m)
  | [], _, m, h => by cases h; exact .nil
  | d :: ds, _, 0, h => by cases h with | cons a r => exact r
  | d :: ds, _, m + 1, h => by cases h with | cons a r => exact .cons a (Reps.erase m r)
end Pd
set_option maxRecDepth 100000
set_option maxHeartbeats 4000000
namespace Pd
open PySem PySem.Spec PyProof.Rows L2
theorem log2_of_bits {n : Int} {k : Nat} (h : Builtin.Int.intBits n ≤ k) : n.natAbs.log2 ≤ k := by
  unfold Builtin.Int.intBits at h
  split at h
  · rename_i e
    have : n.natAbs = 0 := by
      first
        | (have := eq_of_beq e; omega)
        | omega
        | simp_all
    rw [this]
    exact Nat.zero_le _
  · omega
theorem fz_rds {K : PySem.W.Frag} {f : List Addr} {H : Hp} : ∀ ns : List Int, RDs K f H (ns.map .int) (ns.map V.int)
  | [] => .nil
  | n :: ns => .cons (.int n) (fz_rds ns)
theorem fz_reps {Z : Av} {b : Nat} {st : Store} : ∀ ns : List Int, Reps Z b st (ns.map .int) (ns.map .int)
  | [] => .nil
  | n :: ns => .cons (.int n) (fz_reps ns)
/-- a law over a head by facts, read by value -/
theorem walk_ofV {l : PySem.W.OpenLaw} {n k c : Nat} {q : Program} {loose : List Str} {XP : (Str → Option Value) → Heap → Prop} {YP : World → Heap → Prop} {d : DefRec} {x fx : Str} {st : Stmt} {F : DFn} {W : VFn}
    (hn : l.most = some n) (hn2 : n ≤ sizeLine) (hdf : d.params.defaults = []) (hr : Room k callerA) (hx : d.name = fx)
    (hb : ∀ (kV doc pm : Value) (an : Option Addr) (cdv ct : Value) (us : List Value), us.length = 1 → bindArgs (PySem.W.fnOf fx fx (defArgs st) (defBody st) (defScope st) .none kV doc pm an cdv ct) ⟨us, []⟩ = pure (([x] : List Str).zip us))
    (ok : ∀ (w : World) (mg : Str → Option Value) (h : Heap), YP w h → h.Ns mainGlobals mg → ∃ K : PySem.W.Frag, K.In h ∧ DOk l.prog w K mg CX0 XX0 k fx st [x] F)
    (fok : FOk 1 c F W) (hc : c ≤ capN)
    (hW : ∀ ns : List Int, ns.length ≤ n → (∀ z ∈ ns, z.natAbs.log2 ≤ 1048576) → W [.fz (ns.map .int)] (fun v => v = .bl true) (fun _ => False)) :
    PySem.W.WalkO q loose XP YP l.row.toRowW d [] (fun f vs => PySem.call f vs) := by
  refine Att.attach_callB hn hdf fun w s₀ s₁ mg mb fa o pm cd doc a vs ns G Y _ _ _ gm hobj hints hlen hbits hg => ?_
  obtain ⟨K, KX, f, fd, FD, hm, bi, ex⟩ := ok w mg _ Y G.T.g
  rw [hx] at gm
  have e : fa = f := by
    rw [gm] at hm
    have := Option.some.inj hm
    injection this
  subst e
  refine law_end KX G.T.g G.T.b G.T.builtins G.T.nolimit hg hobj hints (Nat.le_trans hlen hn2) hr ex (fun s u => FunD.bindsA (ps := [x]) FD hb s [u] rfl) (fun H hO hS => ?_) fun H e s' h => h
  have hz : ns.length ≤ sizeLine := Nat.le_trans hlen hn2
  refine ⟨[], [], [.fz (ns.map .int)], ⟨rfl, List.nodup_nil, fun m o b e => by cases e⟩, .cons (.fz hS (by rw [List.length_map]; exact hz) (fz_rds ns)) .nil, rfl, ?_⟩
  have h := fok noW 0 [] [.fz (ns.map .int)] [.fz (ns.map .int)] _ _ (by omega) (fun m z => z.elim) rfl (.cons (.fz (by rw [List.length_map]; exact hz) (fz_reps ns)) .nil) (hW ns hlen fun z hz => log2_of_bits (hbits z hz))
  cases ef : F [.fz (ns.map .int)] [] with
  | ok d st' =>
    rw [ef] at h
    obtain ⟨v, rfl, _, hr⟩ := h
    rw [hr.bld]
    intro f' H' b hx ht hd
    cases hd
    rfl
  | exc e st' =>
    rw [ef] at h
    obtain ⟨_, h, _⟩ := h
    exact h.elim
  | err => rw [ef] at h; exact h.elim
end Pd
set_option maxRecDepth 100000
set_option maxHeartbeats 400000
namespace Pd
open PySem PySem.Spec PyProof.Rows L2
end Pd
set_option maxRecDepth 100000
set_option maxHeartbeats 400000
namespace SrtT
open PySem PySem.Spec PyProof.Rows L2 SrtO
/-- tuples of ints, by the first unlike entries -/
def lexI : List Int → List Int → Bool
  | [], [] => false
  | [], _ :: _ => true
  | _ :: _, [] => false
  | a :: l, b :: m => if a = b then lexI l m else decide (a < b)
theorem lexI_asym : ∀ x y, lexI x y = true → lexI y x = false
  | [], [], h => by cases h
  | [], _ :: _, _ => rfl
  | _ :: _, [], h => by cases h
  | a :: l, b :: m, h => by
    unfold lexI at h ⊢
    by_cases e : a = b
    · subst e
      rw [if_pos rfl] at h ⊢
      exact lexI_asym l m h
    · rw [if_neg e, decide_eq_true_eq] at h
      rw [if_neg (Ne.symm e)]
      exact decide_eq_false (by omega)
theorem lexI_tr : ∀ x y z, lexI y x = false → lexI z y = false → lexI z x = false
  | [], [], z, _, h => h
  | [], _ :: _, [], _, h => by cases h
  | [], _ :: _, _ :: _, _, _ => rfl
  | _ :: _, [], _, h, _ => by cases h
  | _ :: _, _ :: _, [], _, h => by cases h
  | a :: x, b :: y, c :: z, h1, h2 => by
    unfold lexI at h1 h2 ⊢
    by_cases e : b = a
    · subst e
      rw [if_pos rfl] at h1
      by_cases e2 : c = b
      · subst e2
        rw [if_pos rfl] at h2 ⊢
        exact lexI_tr x y z h1 h2
      · rw [if_neg e2] at h2 ⊢
        exact h2
    · rw [if_neg e, decide_eq_false_iff_not] at h1
      by_cases e2 : c = b
      · subst e2
        rw [if_neg e]
        exact decide_eq_false h1
      · rw [if_neg e2, decide_eq_false_iff_not] at h2
        rw [if_neg (by omega)]
        exact decide_eq_false (by omega)
theorem lexI_eq : ∀ x y, lexI x y = false → lexI y x = false → x = y
  | [], [], _, _ => rfl
  | [], _ :: _, h, _ => by cases h
  | _ :: _, [], _, h => by cases h
  | a :: l, b :: m, h1, h2 => by
    unfold lexI at h1 h2
    by_cases e : a = b
    · subst e
      rw [if_pos rfl] at h1 h2
      rw [lexI_eq l m h1 h2]
    · rw [if_neg e, decide_eq_false_iff_not] at h1
      rw [if_neg (Ne.symm e), decide_eq_false_iff_not] at h2
      omega
theorem swoI {α : Type} (k : α → List Int) : Swo fun v u => lexI (k v) (k u) := ⟨fun x y h => lexI_asym _ _ h, fun x y z h1 h2 => lexI_tr _ _ _ h1 h2⟩
def IsTI (h : Heap) (v : Value) (ns : List Int) : Prop := ∃ a o its n, v = .ref a ∧ h.get? a = some o ∧ o.cls = .type "tuple" ∧ o.data = .seq its n ∧ IntsAre its.toList ns
theorem IsTI.keeps {h h' : Heap} {v : Value} {ns : List Int} (p : IsTI h v ns) (k : ∀ b o, h.get? b = some o → o.cls = .type "tuple" → h'.get? b = some o) : IsTI h' v ns := by
  obtain ⟨a, o, its, n, e, ho, hc, r⟩ := p
  exact ⟨a, o, its, n, e, k _ _ ho hc, hc, r⟩
section
variable {prog : Program} {w : World} {A : Around} {E : Value → Shared → Prop} {s : Shared}
theorem kat_ints {R : Bool} : ∀ {its jts : List Value} {ns ms : List Int} (i : Nat) (fin : Bool), IntsAre its ns → IntsAre jts ms → fin = decide (ns.length < ms.length) → lexI ns ms = R →
    PySem.W.KatLex prog w A true fin (fun r s' => s' = s ∧ r = R) (its.zip jts) i s := by
  intro its jts ns ms i fin h1
  induction h1 generalizing jts ms i fin with
  | nil =>
    intro h2 hf hR
    rw [List.zip_nil_left]
    refine PySem.W.kat_nil ⟨rfl, ?_⟩
    rw [hf, ← hR]
    cases ms <;> rfl
  | cons a t h1 ih =>
    intro h2 hf hR
    cases h2 with
    | nil =>
      rw [List.zip_nil_right]
      refine PySem.W.kat_nil ⟨rfl, ?_⟩
      rw [hf, ← hR]
      exact decide_eq_false (by simp)
    | cons b u h2 =>
      rw [List.zip_cons_cons]
      refine PySem.W.kat_cons (SeqAt.EqAt.int_int a t b u prog w _ _ ?_)
      refine PySem.W.kat_go (fun e1 => ?_) (fun e1 => ?_)
      · have ex : a = b := by simpa using e1
        subst ex
        refine PySem.W.kat_yes (ih (i + 1) fin h2 ?_ ?_)
        · rw [hf, List.length_cons, List.length_cons, decide_eq_decide]
          omega
        · unfold lexI at hR
          rwa [if_pos rfl] at hR
      · have ex : ¬ a = b := by simpa using e1
        unfold lexI at hR
        rw [if_neg ex] at hR
        cases i with
        | zero => exact PySem.W.kat_no (oneLt_int ⟨rfl, hR⟩)
        | succ i => exact PySem.W.kat_no (PySem.W.kat_one _ _ (PyProof.Rows.lt_int (show s = s ∧ decide (a < b) = R from ⟨rfl, hR⟩)))
theorem len_ints' : ∀ {its : List Value} {ns : List Int}, IntsAre its ns → its.length = ns.length := fun e => by
  induction e with
  | nil => rfl
  | cons n t _ ih => rw [List.length_cons, List.length_cons, ih]
theorem tups_cmp {vs : List Value} {k : Value → List Int} (hp : ∀ v ∈ vs, IsTI s.heap v (k v)) : Cmp prog w A s (tuples' true) (fun p => p.1 ∈ vs) (lt2 fun v u => lexI (k v) (k u)) := by
  intro p q hm hm'
  have h1 := hp _ hm
  have h2 := hp _ hm'
  show wpAny (model prog w) A (keyLt' (tuples' true) p.1 q.1) (fun r s' => s' = s ∧ r = lexI (k p.1) (k q.1)) (fun _ _ => False) s
  generalize k p.1 = ns at h1 ⊢
  generalize k q.1 = ms at h2 ⊢
  obtain ⟨a, o, its, n, e, ho, hc, hd, hi⟩ := h1
  obtain ⟨a', o', jts, n', e', ho', hc', hd', hi'⟩ := h2
  rw [e, e']
  refine PySem.W.kat_lt ho hd ho' hd' (kat_ints 0 _ hi hi' ?_ rfl)
  rw [decide_eq_decide, ← len_ints' hi, ← len_ints' hi', Array.length_toList, Array.length_toList]
theorem firstsI {h : Heap} {k : Value → List Int} : ∀ {vs : List Value}, (∀ v ∈ vs, IsTI h v (k v) ∧ k v ≠ []) → ∃ fs : List Value, PySem.W.KatTups h vs fs ∧ fs.length = vs.length ∧ ∀ f ∈ fs, ∃ x t, f = Value.int x t
  | [], _ => ⟨[], PySem.W.KatTups.nil, rfl, fun _ hm => by simp at hm⟩
  | v :: vs, hp => by
    obtain ⟨fs, h1, h2, h3⟩ := firstsI (vs := vs) fun v' hm => hp v' (List.mem_cons_of_mem _ hm)
    obtain ⟨⟨a, o, its, n, e, ho, hc, hd, hi⟩, hne⟩ := hp v List.mem_cons_self
    subst e
    generalize k (.ref a) = ns at hi hne
    obtain ⟨x, t, r, e1⟩ : ∃ x t r, its.toList = Value.int x t :: r := by
      generalize its.toList = l at hi
      cases hi with
      | nil => exact absurd rfl hne
      | cons x t r => exact ⟨x, t, _, rfl⟩
    refine ⟨.int x t :: fs, PySem.W.KatTups.cons ho hc hd ?_ h1, by rw [List.length_cons, List.length_cons, h2], fun f hm => ?_⟩
    · have z := congrArg (fun l : List Value => l[0]?) e1
      simpa using z
    · rcases List.mem_cons.mp hm with rfl | hm
      · exact ⟨x, t, rfl⟩
      · exact h3 f hm
theorem tups_sortable {a : Addr} {vs : List Value} {k : Value → List Int} (h0 : 0 < vs.length) (hp : ∀ v ∈ vs, IsTI s.heap v (k v) ∧ k v ≠ []) (ha : ∀ o, s.heap.get? a = some o → o.cls ≠ .type "tuple") : SortableO prog w A s a vs fun v u => lexI (k v) (k u) := by
  intro h' keep
  have hp' : ∀ v ∈ vs, IsTI h' v (k v) ∧ k v ≠ [] := fun v hm => ⟨(hp v hm).1.keeps fun b o e c => keep b o (fun z => by subst z; exact ha o e c) e, (hp v hm).2⟩
  obtain ⟨fs, h1, h2, h3⟩ := firstsI hp'
  refine ⟨tuples' true, fun Q E hq => ?_, tups_cmp fun v hv => (hp' v hv).1⟩
  refine PySem.W.kat_kind (T := .type "int") h1 (by omega) (fun f hm => ?_) rfl (by rw [show (Value.type "int" != Value.type "tuple") = true by decide +kernel]; exact hq)
  have ⟨x, t, made⟩ := h3 f hm
  exact made ▸ PySem.W.Looks.now
end
def leI (x y : List Int) : Bool := !lexI y x
def sortT (l : List (List Int)) : List (List Int) := l.mergeSort leI
theorem leI_trans (a b c : List Int) (h1 : leI a b = true) (h2 : leI b c = true) : leI a c = true := by
  unfold leI at *
  rw [Bool.not_eq_true'] at *
  exact lexI_tr _ _ _ h1 h2
theorem leI_total (a b : List Int) : (leI a b || leI b a) = true := by
  unfold leI
  cases h : lexI b a with
  | false => rfl
  | true => rw [lexI_asym _ _ h]; rfl
theorem uniqI : ∀ {l m : List (List Int)}, l.Perm m → l.Pairwise (fun x y => lexI y x = false) → m.Pairwise (fun x y => lexI y x = false) → l = m := fun {l m} h hl hm => by
  refine stb_uniq (swoI id) hl hm ⟨h, fun x => ?_⟩
  have e : ∀ l : List (List Int), l.filter (eqv (fun v u => lexI (id v) (id u)) x) = List.replicate (l.count x) x := by
    intro l
    have : (eqv (fun v u => lexI (id v) (id u)) x) = fun y => y == x := by
      funext y
      rw [Bool.eq_iff_iff, eqv_iff, beq_iff_eq]
      exact ⟨fun ⟨h1, h2⟩ => (lexI_eq _ _ h1 h2).symm, fun e => by rw [e]; exact ⟨(swoI id).refl x, (swoI id).refl x⟩⟩
    rw [this]
    induction l with
    | nil => rfl
    | cons a l ih =>
      rw [List.filter_cons, List.count_cons]
      by_cases hax : a = x
      · subst hax
        rw [if_pos (by simp), ih, if_pos (by simp), List.replicate_succ]
      · rw [if_neg (by simpa using hax), ih, if_neg (by simpa using hax), Nat.add_zero]
  rw [e, e, h.count_eq]
theorem sortT_perm (l : List (List Int)) : (sortT l).Perm l := List.mergeSort_perm l leI
theorem sortT_srt (l : List (List Int)) : (sortT l).Pairwise fun x y => lexI y x = false := by
  have := List.pairwise_mergeSort (le := leI) leI_trans leI_total l
  refine this.imp fun {x y} h => ?_
  unfold leI at h
  rwa [Bool.not_eq_true'] at h
theorem sortT_of {l m : List (List Int)} (h : m.Perm l) (hm : m.Pairwise fun x y => lexI y x = false) : m = sortT l := uniqI (h.trans (sortT_perm l).symm) hm (sortT_srt l)
def sortI (l : List Int) : List Int := l.mergeSort fun a b => decide (a ≤ b)
theorem sortI_perm (l : List Int) : (sortI l).Perm l := List.mergeSort_perm l _
theorem sortI_srt (l : List Int) : (sortI l).Pairwise (· ≤ ·) := by
  have := List.pairwise_mergeSort (le := fun (a b : Int) => decide (a ≤ b)) (fun a b c h1 h2 => by
    rw [decide_eq_true_eq] at *
    omega) (fun a b => by
    rw [Bool.or_eq_true, decide_eq_true_eq, decide_eq_true_eq]
    omega) l
  exact this.imp fun {x y} h => of_decide_eq_true h
theorem sortI_of {l m : List Int} (h : m.Perm l) (hm : m.Pairwise (· ≤ ·)) : m = sortI l := by
  have h2 := h.trans (sortI_perm l).symm
  have hs := sortI_srt l
  generalize sortI l = k at h2 hs
  clear h
  induction m generalizing k with
  | nil => rw [List.Perm.eq_nil h2.symm]
  | cons a m ih =>
    cases k with
    | nil => exact absurd h2.length_eq (by simp)
    | cons b k =>
      rw [List.pairwise_cons] at hm hs
      have e : a = b := by
        have h3 := h2.mem_iff.mp List.mem_cons_self
        have h4 := h2.mem_iff.mpr List.mem_cons_self
        rcases List.mem_cons.mp h3 with e | e
        · exact e
        · rcases List.mem_cons.mp h4 with e2 | e2
          · exact e2.symm
          · have := hm.1 b e2
            have := hs.1 a e
            omega
      subst e
      rw [ih hm.2 k h2.cons_inv hs.2]
end SrtT
set_option maxRecDepth 100000
set_option maxHeartbeats 400000
namespace L2
open PySem PySem.Spec PyProof.Rows SrtT
/-- the ints of a tuple -/
def tupV (H : Hp) : V → List Int
  | .ref t => match H t with
    | some (.tup vs) => vs.map fun v => match v with
      | .int i => i
      | _ => 0
    | _ => []
  | _ => []
theorem tupV_of {H : Hp} {t : Addr} {ns : List Int} (h : H t = some (.tup (ns.map V.int))) : tupV H (.ref t) = ns := by
  show (match H t with
    | some (.tup vs) => vs.map fun v => match v with
      | .int i => i
      | _ => 0
    | _ => []) = ns
  rw [h]
  show (ns.map V.int).map _ = ns
  rw [List.map_map]
  exact List.map_id' ns
def TupsIn (H : Hp) (xs : List V) : Prop := ∀ x ∈ xs, ∃ t, x = V.ref t ∧ H t = some (.tup ((tupV H x).map V.int))
/-- sorted(xs), xs a list of tuples of ints -/
def rSortedTL (K : PySem.W.Frag) : List V → Hp → VK → Prop := fun vs H Q => ∃ (a : Addr) (xs : List V), vs = [V.ref a] ∧ SqL K H a xs ∧ TupsIn H xs ∧ ((∀ x ∈ xs, tupV H x ≠ []) ∨ xs.length ≤ 1) ∧
  ∀ ys p, ys.Perm xs → ys.Pairwise (fun x y => lexI (tupV H y) (tupV H x) = false) → H p = none → Q (.ref p) (upd H p (.lst ys))
/-- sorted(d), d a dict whose keys are tuples of ints -/
def rSortedDT : List V → Hp → VK → Prop := fun vs H Q => ∃ (a : Addr) (kvs : List (List Key × V)) (ks : List (List Int)), vs = [V.ref a] ∧ Rd H a (.dT kvs) ∧ kvs.map (·.1) = ks.map (fun k => k.map Sum.inl) ∧ ((∀ k ∈ ks, k ≠ []) ∨ ks.length ≤ 1) ∧
  ∀ bs ys p, IsKeys H kvs bs → ys.Perm (bs.map V.ref) → ys.Pairwise (fun x y => lexI (tupV H y) (tupV H x) = false) → H p = none → Q (.ref p) (upd H p (.lst ys))
section
variable {X : Cx}
theorem isTI_of {pins : List (Addr × Obj)} {σ : St} {H : Hp} {s : Shared} (I : Inv X pins σ H s) {t : Addr} {ns : List Int} (h : H t = some (.tup (ns.map V.int))) : IsTI s.heap (.ref t) ns := by
  obtain ⟨_, its2, r2, o, ho, hc, n, hd⟩ := I.hok _ _ h
  exact ⟨t, o, its2.toArray, n, rfl, ho, hc, hd, by simpa using r2.ints⟩
theorem cr_sortedTL : CallR X (.builtin "sorted") (rSortedTL X.K) := by
  rintro pins s σ H vs us Q I r ⟨a, xs, rfl, hs, hx, hne, q⟩
  rw [Vals.ref1 r]
  obtain ⟨its, rv, hl, hz⟩ := I.list hs
  obtain ⟨e1, e2⟩ := refs_back rv fun x m => (hx x m).imp fun _ z => z.1
  have hlen := rv.length
  have tk : ∀ v ∈ its, IsTI s.heap v (tupV H (backV v)) := fun v hv => by
    obtain ⟨t, rfl⟩ := e2 v hv
    have hm : V.ref t ∈ xs := by rw [e1]; exact List.mem_map.mpr ⟨_, hv, rfl⟩
    obtain ⟨t', e, ht⟩ := hx _ hm
    cases e
    exact isTI_of I ht
  refine SrtO.sorted_ord (swoI fun u => tupV H (backV u)) hl.isList (by rw [← rv.length]; exact hz) (fun h2 h₁ a' ha kk => ?_) fun out h1 h2 => ?_
  · have hne2 : ∀ x ∈ xs, tupV H x ≠ [] := by
      rcases hne with h | h
      · exact h
      · omega
    refine tups_sortable (s := { s with heap := h₁ }) (by omega) (fun v hm => ⟨(tk v hm).keeps fun b o e _ => (kk b o e).2, ?_⟩) fun o e => ?_
    · exact hne2 _ (by rw [e1]; exact List.mem_map.mpr ⟨_, hm, rfl⟩)
    · have e' : some o = some (seqObj "list" its.toArray 0) := e.symm.trans ha
      cases e'
      intro c
      exact absurd (Value.type.inj c) (by decide)
  · have h3 : ∀ u ∈ out, ∃ a, u = Value.ref a := fun u hu => e2 u (h2.perm.mem_iff.mp hu)
    have hp : (out.map backV).Perm xs := by rw [e1]; exact h2.perm.map backV
    obtain ⟨ep, he'⟩ := PyProof.Rows.sortedAll_at s.heap its out.toArray
    refine ⟨.ref _, upd H (s.heap.objs.size + 1) (.lst (out.map backV)), I.laid (t' := s.toks) (fun _ _ => PyProof.Rows.sortedAll_old) (Nat.le_succ _) ⟨by rw [hp.length_eq]; exact hz, out, ep, vals_back h3, he'⟩, rfl, q _ _ hp ?_ (I.hok.fresh (Nat.le_succ _))⟩
    exact List.pairwise_map.mpr h1
theorem cr_sortedDT (hcalm : X.calm = true) : CallR X (.builtin "sorted") rSortedDT := by
  intro pins s σ H xs us Q I r q
  obtain ⟨a, kvs, ks0, ex, hd, hks, hne, q⟩ := q
  subst ex
  obtain ⟨u, eu, rx⟩ := vals1 r
  subst eu
  cases rx
  obtain ⟨z, hs, ks, pr, o, es, ep, ho, hx, hdt, he, hn⟩ := (show ObjOk X.prog X.w H s.heap a (.dT kvs) from hd.ok I.hok)
  have l1 : es.size = ks.length := size_of_entries he
  have l2 : kvs.length = ks.length := Paired.length pr
  have l3 : kvs.length = ks0.length := by
    have e := congrArg List.length hks
    rwa [List.length_map, List.length_map] at e
  have ik : IsKeys H kvs (ks.map fun x => x.2.1) := isKeys_of pr
  -- the key tuples
  have kt : ∀ (j : Nat) (b : Addr), (ks.map fun x => x.2.1)[j]? = some b → ∃ k, ks0[j]? = some k ∧ H b = some (.tup (k.map V.int)) := fun j b hb => by
    obtain ⟨p, e1, e2⟩ := Pd.Paired.getR ik hb
    have e3 : (kvs.map (·.1))[j]? = some p.1 := by rw [List.getElem?_map, e1]; rfl
    rw [hks, List.getElem?_map] at e3
    obtain ⟨k, e4, e5⟩ := Option.map_eq_some_iff.mp e3
    refine ⟨k, e4, ?_⟩
    rw [e2, ← e5, List.map_map]
    rfl
  refine Calls.call_function_entry PyProof.Rows.kind_sorted PyProof.Rows.plain_sorted PyProof.Rows.entry_sorted (PyProof.Rows.args_sorted1 _) ?_
  unfold Builtin.«sorted»
  refine wpAny_bind (m := checkCount "sorted" 1 1 _) (wpAny_pure ?_)
  refine wpAny_bind (PySem.W.kdu_collect (A := X.A.in1) (kdl_raw hs hx hdt) (I.ok.hd hcalm) ho (by omega) fun h' tk acc hk hacc => ?_)
  have hal : acc.toList.length = ks.length := by rw [Array.length_toList, hacc.1, l1]
  have ea : acc.toList = ks.map fun x => Value.ref x.2.1 := by
    refine List.ext_getElem (by rw [hal, List.length_map]) fun j lt lt' => ?_
    rw [List.length_map] at lt'
    obtain ⟨en, at_, told⟩ := hacc.2 j _ (by rw [← Array.getElem?_toList, List.getElem?_eq_getElem lt])
    have same := entry_at he j
    rw [at_, List.getElem?_eq_getElem lt'] at same
    have same : en = entryOfKey (tupleKind (mixKind X.prog X.w)) ks[j] := Option.some.inj same
    rw [told, List.getElem_map, same]
    rfl
  have eb : acc.toList = (ks.map fun x => x.2.1).map Value.ref := by rw [ea, List.map_map]; rfl
  have I1 : Inv X pins σ H { s with heap := h', toks := tk } := I.kept hk
  refine wpAny_bind (wpAny_newList ?_ (by rw [hal]; omega))
  have hoL : (h'.push (seqObj "list" acc.toList.toArray 0)).get? h'.objs.size = some (seqObj "list" acc.toList.toArray 0) := Heap.get?_push_size _ rfl
  show wpAny _ _ _ _ _ { s with heap := h'.push (seqObj "list" acc.toList.toArray 0), toks := tk }
  have tkk : ∀ v ∈ acc.toList, ∃ b k, v = Value.ref b ∧ k ∈ ks0 ∧ H b = some (.tup (k.map V.int)) := fun v hv => by
    rw [eb] at hv
    obtain ⟨b, hb, rfl⟩ := List.mem_map.mp hv
    obtain ⟨j, hj⟩ := List.getElem?_of_mem hb
    obtain ⟨k, e1, e2⟩ := kt j b hj
    exact ⟨b, k, rfl, List.mem_of_getElem? e1, e2⟩
  refine wpAny_bind (wpAny_holding (wpAny_call_entry PyProof.Rows.slot_list_sort ⟨_, hoL, rfl⟩ PyProof.Rows.entry_list_sort
    (SrtO.list_sort_ord (s := { s with heap := h'.push (seqObj "list" acc.toList.toArray 0), toks := tk }) (swoI fun u => tupV H (backV u)) hoL (by rw [hal]; omega) (fun h2 => ?_) fun out g1 g2 => ⟨_, rfl, ?_⟩) (PyProof.Rows.args_list_sort _)))
  · have hne2 : ∀ k ∈ ks0, k ≠ [] := by
      rcases hne with h | h
      · exact h
      · omega
    refine tups_sortable (s := { s with heap := h'.push (seqObj "list" acc.toList.toArray 0), toks := tk }) (by omega) (fun v hm => ?_) fun o e => ?_
    · obtain ⟨b, k, rfl, hk0, hb⟩ := tkk v hm
      have e3 : tupV H (backV (.ref b)) = k := tupV_of hb
      rw [e3]
      exact ⟨(isTI_of I1 hb).keeps fun c o e _ => Heap.get?_push_of_some _ e, hne2 k hk0⟩
    · have e' : some o = some (seqObj "list" acc.toList.toArray 0) := e.symm.trans hoL
      cases e'
      intro c
      exact absurd (Value.type.inj c) (by decide)
  · obtain ⟨e', he'⟩ := PyProof.Rows.sortedHeap_at (vs := acc.toList) (out := out.toArray) hoL
    have h3 : ∀ u ∈ out, ∃ a, u = Value.ref a := fun u hu => by
      obtain ⟨b, _, e, _⟩ := tkk u (g2.perm.mem_iff.mp hu)
      exact ⟨b, e⟩
    have hp : (out.map backV).Perm ((ks.map fun x => x.2.1).map V.ref) := by
      have := g2.perm.map backV
      rw [eb, List.map_map] at this
      exact this
    have hlen : (out.map backV).length ≤ sizeLine := by
      rw [hp.length_eq, List.length_map, List.length_map]
      omega
    refine wpAny_pure ⟨_, rfl, .ref h'.objs.size, upd H h'.objs.size (.lst (out.map backV)), I1.laid (t' := tk) (fun b u e => ?_) (Nat.le_refl _)
      (show ObjOk X.prog X.w _ _ _ (.lst (out.map backV)) from ⟨hlen, out, e', vals_back h3, he'⟩), rfl, q _ _ _ ik hp (List.pairwise_map.mpr g1) (I1.hok.fresh (Nat.le_refl _))⟩
    have hb : b < h'.objs.size := Heap.lt_size e
    rw [PyProof.Rows.sortedHeap_old (Nat.ne_of_lt hb) (by rw [size_push']; exact Nat.lt_succ_of_lt hb)]
    exact Heap.get?_push_of_some _ e
end
end L2
set_option maxRecDepth 100000
set_option maxHeartbeats 400000
namespace Pd
open PySem PySem.Spec PyProof.Rows L2 SrtT
def tupI : D → Option (List Int)
  | .tup l => l.mapM asInt
  | _ => none
def keyI (k : List Key) : Option (List Int) := k.mapM fun x => match x with
  | .inl i => some i
  | .inr _ => none
def okT (ts : List (List Int)) : Bool := (ts.all fun t => !t.isEmpty) || decide (ts.length ≤ 1)
theorem okT_iff {ts : List (List Int)} (h : okT ts = true) : (∀ t ∈ ts, t ≠ []) ∨ ts.length ≤ 1 := by
  unfold okT at h
  rw [Bool.or_eq_true, List.all_eq_true, decide_eq_true_eq] at h
  refine h.imp (fun h t ht e => ?_) id
  have := h t ht
  rw [e] at this
  cases this
def tupD (t : List Int) : D := .tup (t.map .int)
def tupsOf (st : Store) : D → Option (List (List Int))
  | .ref n => match st[n]? with
    | some (.lst l) => l.mapM tupI
    | some (.dT kvs) => kvs.mapM fun p => keyI p.1
    | _ => none
  | _ => none
def oSorted : List D → Store → Res D
  | [x], st => match tupsOf st x with
    | some ts => if okT ts = true then newL ((sortT ts).map tupD) st else .err
    | none => match intsOf st x with
      | some ns => newL ((sortI ns).map .int) st
      | none => .err
  | _, _ => .err
section
variable {K : PySem.W.Frag} {f : List Addr} {H : Hp} {st : Store} {E : XE}
theorem rds_ints : ∀ ns : List Int, RDs K f H (ns.map .int) (ns.map V.int)
  | [] => .nil
  | n :: ns => .cons (.int n) (rds_ints ns)
theorem rds_tups : ∀ (ys : List V), (∀ y ∈ ys, ∃ t, y = V.ref t ∧ H t = some (.tup ((tupV H y).map V.int)) ∧ (tupV H y).length ≤ sizeLine) → RDs K f H (ys.map fun y => tupD (tupV H y)) ys
  | [], _ => .nil
  | y :: ys, h => by
    refine .cons ?_ (rds_tups ys fun z hz => h z (List.mem_cons_of_mem _ hz))
    obtain ⟨t, e, ht, hl⟩ := h y List.mem_cons_self
    show RD K f H (tupD (tupV H y)) y
    generalize tupV H y = ns at ht hl ⊢
    rw [e]
    exact .tup ht (by rw [List.length_map]; exact hl) (rds_ints ns)
/-- the tuples of a list -/
theorem tups_in : ∀ {l : List D} {vs : List V} {ts : List (List Int)}, RDs K f H l vs → l.mapM tupI = some ts → (∀ x ∈ vs, ∃ t, x = V.ref t ∧ H t = some (.tup ((tupV H x).map V.int)) ∧ (tupV H x).length ≤ sizeLine) ∧ vs.map (tupV H) = ts
  | [], _, ts, h, e => by
    cases h
    have e : ts = [] := (Option.some.inj (show some [] = some ts from e)).symm
    subst e
    exact ⟨fun x hx => (by cases hx), rfl⟩
  | d :: l, _, ts, h, e => by
    cases h with
    | cons a b =>
      rename_i v vs
      obtain ⟨k, r, e1, e2, rfl⟩ := mapM_cons e
      obtain ⟨i1, i2⟩ := tups_in b e2
      cases d <;> first | cases e1 | skip
      rename_i l0
      obtain ⟨t, ws, rfl, ht, hl, hr⟩ := a.tupv
      have e3 : l0.mapM asInt = some k := e1
      have ew := RDs.ints hr e3
      subst ew
      have et : tupV H (V.ref t) = k := tupV_of ht
      have ek : k.length ≤ sizeLine := by
        have := hr.length
        rw [List.length_map] at this
        omega
      refine ⟨fun x hx => ?_, by rw [List.map_cons, et, i2]⟩
      rcases List.mem_cons.mp hx with rfl | hx
      · exact ⟨t, rfl, by rw [et]; exact ht, by rw [et]; exact ek⟩
      · exact i1 x hx
theorem sorted_end {ys : List V} {ts : List (List Int)} {xs : List V} (hp : ys.Perm xs) (hs : ys.Pairwise fun x y => lexI (tupV H y) (tupV H x) = false) (he : xs.map (tupV H) = ts) (hx : ∀ x ∈ xs, ∃ t, x = V.ref t ∧ H t = some (.tup ((tupV H x).map V.int)) ∧ (tupV H x).length ≤ sizeLine) :
    RDs K f H ((sortT ts).map tupD) ys := by
  have e : ys.map (tupV H) = sortT ts := sortT_of (by rw [← he]; exact hp.map _) (List.pairwise_map.mpr hs)
  rw [← e, List.map_map]
  exact rds_tups ys fun y hy => hx y (hp.mem_iff.mp hy)
variable {X : Cx}
theorem keys_in {f : List Addr} {pins : List (Addr × Obj)} {sg : L2.St} {H : Hp} {s : Shared} (I : Inv X pins sg H s) {kvs : List (List Key × V)} {ts : List (List Int)} {bs : List Addr} (hk : kvs.map (·.1) = ts.map fun k => k.map Sum.inl) (ik : IsKeys H kvs bs) : (∀ x ∈ bs.map V.ref, ∃ t, x = V.ref t ∧ H t = some (.tup ((tupV H x).map V.int)) ∧ (tupV H x).length ≤ sizeLine) ∧ (bs.map V.ref).map (tupV H) = ts := by
  induction bs generalizing kvs ts with
  | nil =>
    cases ik
    have : ts = [] := by
      cases ts with
      | nil => rfl
      | cons a b => cases hk
    subst this
    exact ⟨fun x hx => (by cases hx), rfl⟩
  | cons b bs ih =>
    cases ik with
    | cons h1 h2 =>
      cases ts with
      | nil => cases hk
      | cons k ts =>
        rename_i p kvs
        rw [List.map_cons, List.map_cons, List.cons.injEq] at hk
        obtain ⟨i1, i2⟩ := ih hk.2 h2
        have hb : H b = some (.tup (k.map V.int)) := by
          rw [h1, hk.1, List.map_map]
          rfl
        have et : tupV H (V.ref b) = k := tupV_of hb
        obtain ⟨z, _⟩ := I.hok b _ hb
        rw [List.length_map] at z
        refine ⟨fun x hx => ?_, by rw [List.map_cons, List.map_cons, et, i2]⟩
        rw [List.map_cons] at hx
        rcases List.mem_cons.mp hx with rfl | hx
        · exact ⟨b, rfl, by rw [et]; exact hb, by rw [et]; exact z⟩
        · exact i1 x hx
theorem keyI_map : ∀ {k : List Key} {t : List Int}, keyI k = some t → k = t.map Sum.inl
  | [], t, e => by
    have e : t = [] := (Option.some.inj (show some [] = some t from e)).symm
    subst e
    rfl
  | x :: k, t, e => by
    obtain ⟨i, r, e1, e2, rfl⟩ := mapM_cons e
    cases x with
    | inl j =>
      have := Option.some.inj e1
      subst this
      rw [List.map_cons, ← keyI_map (k := k) (t := r) e2]
    | inr _ => cases e1
theorem dkeys_map {β : Type} : ∀ {kvs : List (List Key × β)} {ts : List (List Int)}, kvs.mapM (fun p => keyI p.1) = some ts → kvs.map (·.1) = ts.map fun k => k.map Sum.inl
  | [], ts, e => by
    have e : ts = [] := (Option.some.inj (show some [] = some ts from e)).symm
    subst e
    rfl
  | p :: kvs, ts, e => by
    obtain ⟨k, r, e1, e2, rfl⟩ := mapM_cons e
    rw [List.map_cons, List.map_cons, keyI_map e1, dkeys_map e2]
theorem rts_keys {kvs : List (List Key × D)} {vs : List (List Key × V)} (h : RTs K f H kvs vs) : vs.map (·.1) = kvs.map (·.1) := by
  induction h with
  | nil => rfl
  | cons a b ih => rw [List.map_cons, List.map_cons, ih, a.1]
theorem cd_sorted (hc : X.calm = true) : CallR X (.builtin "sorted") (rL X.K E oSorted) := CallR.of fun pins s sg H f st l xs us Q I r t d q => by
  match l, d, q with
  | [x], d, q =>
    unfold oSorted at q
    dsimp only at q
    obtain ⟨v, rfl, dv⟩ := d.one
    cases e : tupsOf st x with
    | some ts =>
      rw [e] at q
      dsimp only at q
      by_cases ho : okT ts = true
      · rw [if_pos ho] at q
        have ho2 := okT_iff ho
        cases x <;> first | cases e | skip
        rename_i n
        unfold tupsOf at e
        dsimp only at e
        obtain ⟨a, rfl, ea⟩ := dv.refv
        cases es : st[n]? with
        | none => rw [es] at e; cases e
        | some o =>
          rw [es] at e
          have R := t.at_ n o a es ea
          cases o with
          | lst l0 =>
            obtain ⟨vs, h1, h2, h3⟩ := R
            obtain ⟨i1, i2⟩ := tups_in h2 e
            refine cr_sortedTL pins s sg H _ us Q I r ⟨a, vs, rfl, .inl (.inl h1), fun x hx => ?_, ?_, fun ys p hp hs hn => RD.lst_new t hn (sorted_end hp hs i2 i1) ?_ q⟩
            · obtain ⟨t, e1, e2, _⟩ := i1 x hx
              exact ⟨t, e1, e2⟩
            · refine ho2.imp (fun h x hx => h _ (by rw [← i2]; exact List.mem_map.mpr ⟨x, hx, rfl⟩)) fun h => by rw [← i2, List.length_map] at h; exact h
            · rw [List.length_map, (sortT_perm ts).length_eq, ← i2, List.length_map, ← h2.length]
              exact h3
          | dT kvs =>
            obtain ⟨vs, h1, h2, h3⟩ := R
            have ek : vs.map (·.1) = ts.map fun k => k.map Sum.inl := (rts_keys h2).trans (dkeys_map e)
            refine cr_sortedDT hc pins s sg H _ us Q I r ⟨a, vs, ts, rfl, .inl h1, ek, ho2, fun bs ys p ik hp hs hn => ?_⟩
            obtain ⟨i1, i2⟩ := keys_in (f := f) I ek ik
            refine RD.lst_new t hn (sorted_end hp hs i2 i1) ?_ q
            have := congrArg List.length (dkeys_map e)
            rw [List.length_map, List.length_map] at this
            rw [List.length_map, (sortT_perm ts).length_eq, ← this]
            exact h3
          | dK kvs => cases e
      · rw [if_neg ho] at q
        exact q.elim
    | none =>
      rw [e] at q
      dsimp only at q
      split at q
      · rename_i ns e2
        obtain ⟨a, rfl, hk⟩ := intsOf_ok t e2 dv
        refine cr_sortedI pins s sg H _ us Q I r ⟨a, ns, rfl, hk, fun ms p hp hs hn => ?_⟩
        have em := sortI_of hp hs
        subst em
        refine RD.lst_new t hn (rds_ints _) ?_ q
        obtain ⟨_, _, _, z⟩ := I.list hk
        rw [List.length_map] at z ⊢
        rw [(sortI_perm ns).length_eq]
        exact z
      · exact q.elim
  | [], d, q => exact q.elim
  | _ :: _ :: _, d, q => exact q.elim
end
def U.tupI : U → Option (List Int)
  | .tup l => l.mapM U.asInt
  | _ => none
def U.tupsOf : U → Option (List (List Int))
  | .lst l => l.mapM U.tupI
  | .dT ks _ => ks.mapM keyI
  | _ => none
def tupU (t : List Int) : U := .tup (t.map .int)
section
variable {Z Y : Av} {A : Ow} {b : Nat} {st st0 : Store} {d : D} {v : U}
theorem Rep.asInt_eq (h : Rep Y b st d v) : asInt d = v.asInt := by cases h <;> rfl
theorem reps_mapM {β : Type} {g : D → Option β} {k : U → Option β} (hg : ∀ d v, Rep Y b st d v → g d = k v) : ∀ {ds : List D} {us : List U}, Reps Y b st ds us → ds.mapM g = us.mapM k
  | [], _, h => by cases h; rfl
  | d :: ds, _, h => by
    cases h with
    | cons a r => rw [List.mapM_cons, List.mapM_cons, hg _ _ a, reps_mapM hg r]
theorem Rep.tupI_eq (h : Rep Y b st d v) : tupI d = v.tupI := by
  cases h with
  | tup l a => exact reps_mapM (fun _ _ h => h.asInt_eq) a
  | _ => rfl
theorem Rep.tupsOf_eq (h : Rep Y b st d v) : tupsOf st d = v.tupsOf := by
  cases h with
  | lst a e l r =>
    unfold tupsOf
    dsimp only
    rw [e]
    exact reps_mapM (fun _ _ h => h.tupI_eq) r
  | dT a e k l r =>
    rename_i n ks kvs us
    unfold tupsOf
    dsimp only
    rw [e, ← k]
    show kvs.mapM (fun p => keyI p.1) = (kvs.map (·.1)).mapM keyI
    clear e k r l
    induction kvs with
    | nil => rfl
    | cons p kvs ih => rw [List.map_cons, List.mapM_cons, List.mapM_cons, ih]
  | dK a e i k l r =>
    unfold tupsOf
    dsimp only
    rw [e]
    rfl
  | gen a c e _ _ _ _ =>
    unfold tupsOf
    dsimp only
    rw [e]
    rfl
  | _ => rfl
theorem RelK.tupsOf_eq (h : RelK .weak Z A b st0 st d v) : tupsOf st d = v.tupsOf := by
  rcases h with h | ⟨i, n, _, rfl, h⟩
  · exact h.tupsOf_eq
  · exact Rep.tupsOf_eq ((h.av fun _ _ z => z.elim).rep (Z := noW) fun z => z)
theorem reps_ints : ∀ ns : List Int, Reps Y b st (ns.map .int) (ns.map .int)
  | [] => .nil
  | n :: ns => .cons (.int n) (reps_ints ns)
theorem reps_tups : ∀ ts : List (List Int), (∀ t ∈ ts, t.length ≤ sizeLine) → Reps Y b st (ts.map tupD) (ts.map tupU)
  | [], _ => .nil
  | t :: ts, h => .cons (.tup (by rw [List.length_map]; exact h t List.mem_cons_self) (reps_ints t)) (reps_tups ts fun s hs => h s (List.mem_cons_of_mem _ hs))
end
def shT (ts : List (List Int)) : Prop := ts.length ≤ sizeLine ∧ ∀ t ∈ ts, t.length ≤ sizeLine
def vSorted : VOL := fun l Q => match l with
  | [v] => match v.tupsOf with
    | some ts => okT ts = true ∧ shT ts ∧ Q (.lst ((sortT ts).map tupU))
    | none => match v.ints with
      | some ns => ns.length ≤ sizeLine ∧ Q (.lst ((sortI ns).map .int))
      | none => False
  | _ => False
theorem olv_sorted : OpLOk .fresh oSorted vSorted := fun Z A b u r st st1 ds us Q X hv h q => by
  unfold vSorted at q
  match us, h, q with
  | [v], h, q =>
    dsimp only at q
    obtain ⟨d, rfl, h1⟩ := h.one
    unfold oSorted
    dsimp only
    rw [h1.tupsOf_eq]
    cases e : v.tupsOf with
    | some ts =>
      rw [e] at q
      dsimp only at q ⊢
      rw [if_pos q.1]
      refine newL_post hv (reps_tups _ fun t ht => q.2.1.2 t ((sortT_perm ts).mem_iff.mp ht)) ?_ q.2.2
      rw [List.length_map, (sortT_perm ts).length_eq]
      exact q.2.1.1
    | none =>
      rw [e] at q
      dsimp only at q ⊢
      cases e2 : v.ints with
      | some ns =>
        rw [e2] at q
        rw [h1.ints e2]
        dsimp only at q ⊢
        refine newL_post hv (reps_ints _) ?_ q.2
        rw [List.length_map, (sortI_perm ns).length_eq]
        exact q.1
      | none => rw [e2] at q; exact q.elim
  | [], _, q => exact q.elim
  | _ :: _ :: _, _, q => exact q.elim
end Pd
set_option maxRecDepth 100000
set_option maxHeartbeats 400000
namespace Pd
open PySem PySem.Spec PyProof.Rows L2
end Pd
set_option maxRecDepth 100000
set_option maxHeartbeats 400000
namespace Pd
open PySem PySem.Spec PyProof.Rows L2
end Pd
set_option maxRecDepth 100000
set_option maxHeartbeats 4000000
namespace Pd
open PySem PySem.Spec PyProof.Rows L2
section
variable {P : Program} {w : World} {A : Around} {E : Value → Shared → Prop} {st : Shared}
abbrev bareSet (w : World) : Obj := { cls := .type "set", dict := none, data := .set #[] 0 (.fresh 0 0 (!w.params.followText "set-order")) }
/-- what is asked of the end: a set of the ints at the old heap's end -/
abbrev SetEnd (w : World) (st : Shared) (ns : List Int) (Q : Value → Shared → Prop) : Prop := ∀ (H1 : Heap) (tk c : Nat), SetR w H1 st.heap.objs.size (fun j => decide (j ∈ ns)) c → c ≤ ns.length → (∀ b o, st.heap.get? b = some o → H1.get? b = some o) → Q (.ref st.heap.objs.size) { st with heap := H1, toks := tk }
/-- a bare set is filled from a walk over ints; the end is told by heap and tokens -/
theorem ints_filled {S I n : Nat} {fp : List Addr} {Pv : Nat → Value → Prop} {St : Nat → Shared → Prop} {g : Heap} {R : Result → Shared → Prop} (W : WalksS P w A.in1 I fp [I] (fun a b => b = a) n Pv St) (away : S ∉ fp) (ns : List Int) (many : n = ns.length) (few : ns.length + 1 < scanBound)
    (each : ∀ i v, Pv i v → ∃ z t, ns[i]? = some z ∧ v = .int z t) (start : St 0 { st with heap := g }) (bare : g.get? S = some (bareSet w)) (grown : ∀ b o, st.heap.get? b = some o → g.get? b = some o ∧ b ≠ S ∧ b ≠ I)
    (h : ∀ (H1 : Heap) (tk c : Nat), SetR w H1 S (fun j => decide (j ∈ ns)) c → c ≤ ns.length → (∀ b o, st.heap.get? b = some o → H1.get? b = some o) → R (.ok (.ret .none)) { st with heap := H1, toks := tk }) :
    codeAny (model P w) A (.builtin "set.update.loop" ⟨[.ref S, .ref I], []⟩) R { st with heap := g } :=
  set_update_ints W S away ns many few each n 0 _ (Nat.sub_zero n) (Nat.zero_le n) start ⟨0, Nat.le_refl 0, setR_new_at bare⟩ fun t c m size told => by
    obtain ⟨kept, same, drawn, os, _⟩ := m
    have q := h t.heap t.toks c told (many ▸ size) fun b o e => let ⟨e1, e2, e3⟩ := grown b o e; kept b o (by simp [e2, e3]) e1
    cases t
    cases same
    cases drawn
    cases os
    exact q
theorem init_ints {l : Addr} {vs : Array Value} {ns : List Int} {R : Result → Shared → Prop} (hh : A.handled = none) (hl : st.heap.IsList l vs) (hi : IntsAre vs.toList ns) (few : ns.length + 1 < scanBound)
    (h : ∀ (H1 : Heap) (tk c : Nat), SetR w H1 st.heap.objs.size (fun j => decide (j ∈ ns)) c → c ≤ ns.length → (∀ b o, st.heap.get? b = some o → H1.get? b = some o) → R (.ok (.ret .none)) { st with heap := H1, toks := tk }) :
    codeAny (model P w) A (.call (.builtin "set.__init__") ⟨[.ref st.heap.objs.size, .ref l], []⟩) R { st with heap := st.heap.push (bareSet w) } := by
  have many : vs.size = ns.length := by rw [← IntsAre.length hi, Array.length_toList]
  obtain ⟨S, hSz⟩ : ∃ S, S = st.heap.objs.size := ⟨_, rfl⟩
  have atS : (st.heap.push (bareSet w)).get? S = some (bareSet w) := by rw [hSz]; exact Heap.get?_push_size _ rfl
  have sz1 : (st.heap.push (bareSet w)).objs.size = S + 1 := by rw [hSz]; exact Heap.size_push ..
  obtain ⟨ob, oe, oc, k, od⟩ := id hl
  have below : l < S := by rw [hSz]; exact Heap.lt_size oe
  rw [← hSz] at h ⊢
  refine codeAny_call_builtin F.called_set.init.plain F.entry_set_init (check_set_init_1 ⟨_, atS, rfl⟩ ?_)
  have hl1 : (st.heap.push (bareSet w)).IsList l vs := ⟨ob, Heap.get?_push_of_some _ oe, oc, k, od⟩
  have inS : S ∉ [(st.heap.push (bareSet w)).objs.size, l] := by
    rw [sz1]
    intro hm
    rcases List.mem_cons.mp hm with z | z
    · exact Nat.ne_of_lt (Nat.lt_succ_self S) z
    · rw [List.mem_singleton] at z; exact Nat.ne_of_gt below z
  have apart : l ≠ (st.heap.push (bareSet w)).objs.size := by rw [sz1]; exact Nat.ne_of_lt (Nat.lt_succ_of_lt below)
  have hold : A.in1.in1.handled = none := by simpa using hh
  have each : ∀ (i : Nat) (v : Value), vs[i]? = some v → ∃ z t, ns[i]? = some z ∧ v = .int z t := fun i v hv => by
    have lt : i < ns.length := by rw [← many]; exact (Array.getElem?_eq_some_iff.mp hv).1
    obtain ⟨t, rfl⟩ := PyProof.Rows.IntsAre.int_at hi i v (by rw [Array.getElem?_toList]; exact hv)
    exact ⟨_, t, List.getElem?_eq_getElem lt, by rw [List.getD_eq_getElem?_getD, List.getElem?_eq_getElem lt] <;> rfl⟩
  have n1 := F.sub_list_set
  have n2 := F.sub_list_frozenset
  have n3 : (Value.type "list" == Value.type "dict") = false := by decide
  obtain ⟨c0, d0, x0, sl0⟩ := ob
  simp only at oc od
  subst oc od
  have at1 : (st.heap.push (bareSet w)).get? l = some { cls := .type "list", dict := d0, data := .seq vs k, slots := sl0 } := Heap.get?_push_of_some _ oe
  unfold Builtin.«set.__init__» noKeywords Builtin.Frozenset.updateFrom
  generalize hit : pyIter = it
  wp_walk
  subst hit
  refine wpAny_pyIter_list hl1 (wpAny_bind (wpAny_runValue ?_))
  have walk := (Walks.list (prog := P) (w := w) hold (st.heap.push (bareSet w)).objs.size l apart vs).toS
  have begun : ((st.heap.push (bareSet w)).push { cls := .type "list_iterator", data := .fields #[.ref l, .int 0 0] }).get? S = some (bareSet w) := Heap.get?_push_of_some _ atS
  have here : ∀ b o, st.heap.get? b = some o → ((st.heap.push (bareSet w)).push { cls := .type "list_iterator", data := .fields #[.ref l, .int 0 0] }).get? b = some o := fun b o e => Heap.get?_push_of_some _ (Heap.get?_push_of_some _ e)
  have young : ∀ b o, st.heap.get? b = some o → b < S := fun b o e => hSz ▸ Heap.lt_size e
  refine ints_filled (st := st) walk inS ns many few each ⟨⟨_, Heap.get?_push_size _ rfl, rfl, rfl⟩, hl1.push _⟩ begun (fun b o e => ⟨here b o e, Nat.ne_of_lt (young b o e), by rw [sz1]; exact Nat.ne_of_lt (Nat.lt_succ_of_lt (young b o e))⟩) fun H1 tk c told size kept => ?_
  exact wpAny_pure (wpAny_pure (h H1 tk c told size kept))
/-- set(v): a bare set at the heap's end, which __init__ then fills -/
theorem set_by_init {v : Value} {Q : Value → Shared → Prop} (fill : codeAny (model P w) A.in1 (.call (.builtin "set.__init__") ⟨[.ref st.heap.objs.size, v], []⟩) (wants (fun r u => r = .none ∧ Q (.ref st.heap.objs.size) u) E) { st with heap := st.heap.push (bareSet w) }) :
    wpAny (model P w) A (call (.type "set") [v]) Q E st := by
  have ⟨mc, mt, mro⟩ := F.called_set.mro
  have ⟨a1, a2, a3, a4, a5⟩ := And.intro F.called_set.notType (And.intro F.called_set.canCreate (And.intro F.called_set.made (And.intro F.called_set.sub (F.typeCall_set_1 v))))
  have ⟨b3, b4⟩ := And.intro F.called_set.init.lookup (F.called_set.init.bind (.ref st.heap.objs.size))
  have b1 : (st.heap.push (bareSet w)).get? st.heap.objs.size = some (bareSet w) := Heap.get?_push_size _ rfl
  have b2 : Shared.TypeIs { st with heap := st.heap.push (bareSet w) } (.ref st.heap.objs.size) "set" := ⟨_, b1, rfl⟩
  have laid {A0 : Around} {E0 : Value → Shared → Prop} := code_set_led1 (P := P) (w := w) (A := A0) (s := st) v (E := E0) (Q₁ := fun o t => o = .ref st.heap.objs.size ∧ t = { st with heap := st.heap.push (bareSet w) }) ⟨rfl, rfl⟩
  refine wpAny_call (codeAny_of_tree (show wpAny _ _ (callAny (.type "set") ⟨[v], []⟩) _ _ _ from wpAny_pure ⟨Code.quiet_builtin _ (by decide +kernel), codeAny_builtin F.entry_type_call ?_⟩))
  rw [Around.under_plain (weight_type_call_type "set" [v] []) rfl]
  repeat (any_goals (first | assumption | wp_step))
  refine codeAny_mono (laid (E0 := E)) fun r t hr => ?_
  obtain err | fl := r
  · exact hr
  · cases fl <;> first | exact hr.elim | skip
    obtain ⟨rfl, rfl⟩ := hr
    repeat (any_goals (first | assumption | wp_step))
    refine codeAny_mono fill fun r u hr => ?_
    obtain err | fl := r
    · exact hr
    · cases fl <;> first | exact hr.elim | skip
      obtain ⟨rfl, hq⟩ := hr
      repeat (any_goals (first | assumption | wp_step))
theorem call_set_ints {l : Addr} {vs : Array Value} {ns : List Int} {Q : Value → Shared → Prop} (hh : A.handled = none) (hl : st.heap.IsList l vs) (hi : IntsAre vs.toList ns) (few : ns.length + 1 < scanBound) (h : SetEnd w st ns Q) :
    wpAny (model P w) A (call (.type "set") [.ref l]) Q E st :=
  set_by_init (init_ints (by simpa using hh) hl hi few fun H1 tk c x1 x2 x3 => ⟨rfl, h H1 tk c x1 x2 x3⟩)
end
section
variable {X : Cx} {E : XE}
/-- set(xs), xs a list of ints -/
def rSetL (K : PySem.W.Frag) (w : World) : List V → Hp → VK → Prop := fun xs H Q => ∃ (l : Addr) (ns : List Int), xs = [V.ref l] ∧ SqL K H l (ns.map V.int) ∧ ns.length + 1 < scanBound ∧ ∀ a c, H a = none → c ≤ ns.length → Q (.ref a) (upd H a (SetO w a (fun j => decide (j ∈ ns)) c))
theorem cr_setL (hc : X.calm = true) : CallR X (.type "set") (rSetL X.K X.w) := by
  intro pins s σ H xs us Q I r h
  obtain ⟨l, ns, rfl, hl, few, q⟩ := h
  rw [Vals.ref1 r]
  obtain ⟨its, rv, pl, hz⟩ := I.list hl
  refine call_set_ints (I.ok.hd hc) pl.isList (by simpa using ints_of_vals rv) few fun H1 tk c R hcn keep => ?_
  exact ⟨.ref s.heap.objs.size, upd H s.heap.objs.size (SetO X.w s.heap.objs.size (fun j => decide (j ∈ ns)) c), I.laid (t' := tk) keep (Nat.le_refl _) (setO_new R), rfl, q _ c (I.hok.fresh (Nat.le_refl _)) hcn⟩
/-- the ints, once each -/
def dedI : List Int → List Int
  | [] => []
  | n :: l => if n ∈ dedI l then dedI l else n :: dedI l
theorem mem_dedI {x : Int} : ∀ {l : List Int}, x ∈ dedI l ↔ x ∈ l
  | [] => Iff.rfl
  | n :: l => by
    unfold dedI
    split
    · rename_i h
      rw [mem_dedI, List.mem_cons]
      exact ⟨Or.inr, fun z => z.elim (fun e => e ▸ mem_dedI.mp h) id⟩
    · rw [List.mem_cons, List.mem_cons, mem_dedI]
theorem nodup_dedI : ∀ l : List Int, (dedI l).Nodup
  | [] => List.nodup_nil
  | n :: l => by
    unfold dedI
    split
    · exact nodup_dedI l
    · rename_i h
      exact List.nodup_cons.mpr ⟨h, nodup_dedI l⟩
def setI (l : List Int) : List Int := SrtT.sortI (dedI l)
theorem setI_of {l m : List Int} (hs : m.Pairwise (· < ·)) (hm : ∀ k : Int, k ∈ m ↔ k ∈ l) : m = setI l := by
  refine SrtT.sortI_of ((List.perm_ext_iff_of_nodup (hs.imp fun h => Int.ne_of_lt h) (nodup_dedI l)).mpr fun k => ?_) (hs.imp fun h => Int.le_of_lt h)
  rw [hm, mem_dedI]
theorem len_setI (l : List Int) : (setI l).length ≤ l.length := by
  unfold setI
  rw [(SrtT.sortI_perm _).length_eq]
  induction l with
  | nil => exact Nat.le_refl _
  | cons n l ih =>
    unfold dedI
    split
    · exact Nat.le_succ_of_le ih
    · exact Nat.succ_le_succ ih
/-- sorted(set(x)), fewer than 64 ints -/
def oSortSet : List D → Store → Res D
  | [x], st => match intsOf st x with
    | some ns => if ns.length < 64 then newL ((setI ns).map .int) st else .err
    | none => .err
  | _, _ => .err
variable {e : Expr} {de : DE} {p1 p2 p3 p4 : Pos}
theorem pd_sortset (hcalm : X.calm = true) (ha : PE X e (rd X.K E de)) (hm : X.mg ("sorted" : Str) = none) (hg : Gl X ("sorted" : Str) := by rfl) (hm2 : X.mg ("set" : Str) = none) (hg2 : Gl X ("set" : Str) := by rfl)
    (hs1 : starEach [e] X.env = (false, eval e X.env) :: starEach [] X.env := by rfl)
    (hs2 : starEach [Expr.Call (.Name ("set" : Str) p2) [e] [] p3] X.env = (false, eval (Expr.Call (.Name ("set" : Str) p2) [e] [] p3) X.env) :: starEach [] X.env := by rfl) :
    PE X (.Call (.Name ("sorted" : Str) p1) [.Call (.Name ("set" : Str) p2) [e] [] p3] [] p4) (rd X.K E (dL oSortSet (dCons de dNil))) := by
  have h1 := pe_callTy (T := "set") (p := p2) (pos := p3) (cr_setL hcalm) hg2 hm2 (by rfl) (pa_cons ha pa_nil hs1) (by decide) (by decide) hs1 (by rfl)
  have h2 := pe_callB (id := "sorted") (p := p1) (pos := p4) (cr_sortedSet hcalm) hg hm (by rfl) (pa_cons h1 pa_nil hs2) (by decide) (by decide) hs2 (by rfl)
  refine h2.mn fun s H Q h => ?_
  obtain ⟨f, r, st, hs, ht, h⟩ := h
  have ee : dL oSortSet (dCons de dNil) r st = (de r st).bind fun x st1 => oSortSet [x] st1 := by
    unfold dL dCons dNil
    cases de r st <;> rfl
  rw [ee] at h
  refine ⟨f, r, st, hs, ht, (post.bind (R' := RD X.K) h).mono fun x H1 ⟨f1, d, st1, x1, t1, d1, h1⟩ => ?_⟩
  unfold oSortSet at h1
  dsimp only at h1
  cases e : intsOf st1 d with
  | none => rw [e] at h1; exact h1.elim
  | some ns =>
    rw [e] at h1
    dsimp only at h1
    by_cases few : ns.length < 64
    · rw [if_pos few] at h1
      obtain ⟨a, rfl, hk⟩ := intsOf_ok t1 e d1
      refine ⟨a, ns, rfl, hk, by unfold scanBound; omega, fun b c hb hcn => ⟨b, _, c, rfl, upd_same, by omega, fun ms p hs hm hl hp => ?_⟩⟩
      have em := setI_of hs fun k => (hm k).trans decide_eq_true_iff
      subst em
      refine RD.lst_new (t1.new hb) hp (rds_ints _) ?_ (h1.up (ext_new hb))
      have := len_setI ns
      rw [List.length_map, sizeLine_eq]
      omega
    · rw [if_neg few] at h1
      exact h1.elim
end
end Pd
set_option maxRecDepth 100000
set_option maxHeartbeats 4000000
namespace Pd
open PySem PySem.Spec PyProof.Rows L2
end Pd
set_option maxRecDepth 100000
set_option maxHeartbeats 4000000
namespace Pd
open PySem PySem.Spec PyProof.Rows L2
theorem RD.xt_new {K : PySem.W.Frag} {E : XE} {f : List Addr} {H : Hp} {st : Store} {Q : VK} {l : List D} {vs : List V} {p : Addr} {o : Obj} (t : RSt K f H st) (hp : H p = none) (hd : o.dict = none) (z : RDs K f H l vs) (hl : l.length ≤ sizeLine) (h : post K E (RD K) f H (.ok (.xt l) st) Q) : Q (.ref p) (upd H p (.frz o (.tup vs))) := by
  have x : Ext f H f (upd H p (.frz o (.tup vs))) := ext_new hp
  exact h f _ (.ref p) x (t.new hp) (.xt ⟨o, upd_same, hd⟩ hl (z.up x.toEx0))
def oTupleX : List D → Store → Res D
  | [x], st => match seqOf st x with
    | some l => if isTup x = true then .err else .ok (.xt l) st
    | none => .err
  | _, _ => .err
section
variable {X : Cx} {E : XE}
theorem call_tuple_x : CallR X (.type "tuple") (fun xs H Q => ∃ p ys, xs = [.ref p] ∧ SqL X.K H p ys ∧ ∀ l o, H l = none → o.dict = none → Q (.ref l) (upd H l (.frz o (.tup ys)))) := by
  intro pins s sg H xs us Q I r h
  obtain ⟨p, ys, rfl, hq, q⟩ := h
  obtain ⟨u, rfl, rx⟩ := vals1 r
  cases rx
  obtain ⟨its, ra, pl, hz⟩ := I.list hq
  have hlen := ra.length
  refine call_tuple_list pl.isList (fun H1 keep => ?_) (by simp only [List.size_toArray] <;> omega)
  have I1 : Inv X pins sg H { s with heap := H1 } := I.kept (t' := s.toks) keep
  obtain ⟨ob, hob⟩ : ∃ ob : Obj, ob = { cls := .type "tuple", data := .seq its.toArray } := ⟨_, rfl⟩
  have I2 : Inv X pins sg (upd H H1.objs.size (.frz ob (.tup ys))) { s with heap := H1.push { cls := .type "tuple", data := .seq its.toArray } } :=
    I1.laid (t' := s.toks) (fun b o e => Heap.get?_push_of_some _ e) (Nat.le_refl _) (show ObjOk X.prog X.w _ _ _ (.frz ob (.tup ys)) from ⟨by rw [hob]; exact Heap.get?_push_size _ rfl, hz, its, ra, IsTup.new _ _⟩)
  exact ⟨.ref H1.objs.size, _, I2, rfl, q _ ob (I1.hok.fresh (Nat.le_refl _)) (by rw [hob])⟩
theorem cd_tupleX : CallR X (.type "tuple") (rL X.K E oTupleX) := CallR.of fun pins s sg H f st l xs us Q I r t d q => by
  match l, d, q with
  | [x], d, q =>
    unfold oTupleX at q
    dsimp only at q
    split at q
    · rename_i l e
      obtain ⟨v, rfl, dv⟩ := d.one
      obtain ⟨a, vs, rfl, hk, hr, hl⟩ := seqOf_ok t e dv
      split at q
      · exact q.elim
      rename_i nt
      rcases hk with ⟨_, hk⟩ | ⟨z, _⟩
      · exact call_tuple_x pins s sg H _ us Q I r ⟨a, vs, rfl, hk, fun n o hn hd => RD.xt_new t hn hd hr hl q⟩
      · exact absurd z nt
    · exact q.elim
  | [], d, q => exact q.elim
  | _ :: _ :: _, d, q => exact q.elim
end
def vTupleX : VOL := fun l Q => match l with
  | [v] => match v.items with
    | some us => v.isTup = false ∧ Q (.xt us)
    | none => False
  | _ => False
theorem olv_tupleX : OpLOk .strong oTupleX vTupleX := fun Z A b u r st st1 ds us Q X hv h q => by
  unfold vTupleX at q
  split at q
  · rename_i v
    split at q
    · rename_i us e
      obtain ⟨d, rfl, h1⟩ := h.one
      obtain ⟨ds, e1, e2, hl, r1⟩ := h1.seq e
      unfold oTupleX
      dsimp only
      rw [e1]
      dsimp only
      rw [e2, q.1, if_neg (by decide)]
      exact ⟨_, q.2, .refl, .xt hl r1⟩
    · exact q.elim
  · exact q.elim
end Pd
set_option maxRecDepth 100000
set_option maxHeartbeats 400000
namespace Pd
open PySem PySem.Spec PyProof.Rows L2 SrtT
theorem code_in {B : Int} : ∀ {x : List Int}, TS.Bd B x → 0 ≤ TS.code B x ∧ TS.code B x < B ^ x.length
  | [], _ => ⟨Int.le_refl _, by show (0 : Int) < B ^ 0; rw [Int.pow_zero]; decide⟩
  | a :: l, h => by
    obtain ⟨i1, i2⟩ := code_in h.tail
    obtain ⟨h1, h2⟩ := h.head
    show 0 ≤ a * B ^ l.length + TS.code B l ∧ a * B ^ l.length + TS.code B l < B ^ (l.length + 1)
    have p0 : 0 ≤ a * B ^ l.length := Int.mul_nonneg h1 (by omega)
    have p1 : (a + 1) * B ^ l.length ≤ B * B ^ l.length := Int.mul_le_mul_of_nonneg_right (by omega) (by omega)
    rw [Int.add_mul, Int.one_mul] at p1
    rw [Int.pow_succ, Int.mul_comm (B ^ l.length) B]
    omega
theorem code_lex {B : Int} : ∀ {x y : List Int}, x.length = y.length → TS.Bd B x → TS.Bd B y → lexI x y = true → TS.code B x < TS.code B y
  | [], [], _, _, _, h => by cases h
  | [], _ :: _, e, _, _, _ => by cases e
  | _ :: _, [], e, _, _, _ => by cases e
  | a :: l, b :: m, e, hx, hy, h => by
    have el : l.length = m.length := by simpa using e
    show a * B ^ l.length + TS.code B l < b * B ^ m.length + TS.code B m
    unfold lexI at h
    by_cases c : a = b
    · rw [if_pos c] at h
      have := code_lex el hx.tail hy.tail h
      rw [c, el]
      omega
    · rw [if_neg c, decide_eq_true_eq] at h
      obtain ⟨i1, i2⟩ := code_in hx.tail
      obtain ⟨j1, j2⟩ := code_in hy.tail
      have p1 : (a + 1) * B ^ l.length ≤ b * B ^ l.length := Int.mul_le_mul_of_nonneg_right (by omega) (by omega)
      rw [Int.add_mul, Int.one_mul] at p1
      rw [← el]
      omega
theorem some_bd : ∀ l : List Int, ∃ B : Int, ∀ m ∈ l, m < B
  | [] => ⟨0, fun m h => by cases h⟩
  | a :: l => by
    obtain ⟨B, h⟩ := some_bd l
    refine ⟨max B (a + 1), fun m hm => ?_⟩
    rcases List.mem_cons.mp hm with rfl | hm
    · omega
    · have := h m hm
      omega
def dedT : List (List Int) → List (List Int)
  | [] => []
  | n :: l => if n ∈ dedT l then dedT l else n :: dedT l
theorem mem_dedT {x : List Int} : ∀ {l : List (List Int)}, x ∈ dedT l ↔ x ∈ l
  | [] => Iff.rfl
  | n :: l => by
    unfold dedT
    split
    · rename_i h
      rw [mem_dedT, List.mem_cons]
      exact ⟨Or.inr, fun z => z.elim (fun e => e ▸ mem_dedT.mp h) id⟩
    · rw [List.mem_cons, List.mem_cons, mem_dedT]
theorem nodup_dedT : ∀ l : List (List Int), (dedT l).Nodup
  | [] => List.nodup_nil
  | n :: l => by
    unfold dedT
    split
    · exact nodup_dedT l
    · rename_i h
      exact List.nodup_cons.mpr ⟨h, nodup_dedT l⟩
def setT (l : List (List Int)) : List (List Int) := sortT (dedT l)
theorem len_setT (l : List (List Int)) : (setT l).length ≤ l.length := by
  unfold setT
  rw [(sortT_perm _).length_eq]
  induction l with
  | nil => exact Nat.le_refl _
  | cons n l ih =>
    unfold dedT
    split
    · exact Nat.le_succ_of_le ih
    · exact Nat.succ_le_succ ih
theorem mem_setT {x : List Int} {l : List (List Int)} : x ∈ setT l ↔ x ∈ l := by
  unfold setT
  rw [(sortT_perm _).mem_iff, mem_dedT]
theorem setT_of {l m : List (List Int)} (hn : m.Nodup) (hs : m.Pairwise fun x y => lexI y x = false) (hm : ∀ k, k ∈ m ↔ k ∈ l) : m = setT l :=
  sortT_of ((List.perm_ext_iff_of_nodup hn (nodup_dedT l)).mpr fun k => by rw [hm, mem_dedT]) hs
/-- what the kit's set of tuples takes -/
def setOk (ts : List (List Int)) : Bool := decide (ts.length < 64) && ts.all fun t => decide (t.length = (ts.headD []).length) && (!t.isEmpty && t.all fun i => decide (0 ≤ i))
theorem setOk_iff {ts : List (List Int)} (h : setOk ts = true) : ts.length < 64 ∧ ∃ d : Nat, 1 ≤ d ∧ ∀ t ∈ ts, t.length = d ∧ ∀ i ∈ t, 0 ≤ i := by
  unfold setOk at h
  rw [Bool.and_eq_true, decide_eq_true_eq, List.all_eq_true] at h
  refine ⟨h.1, ?_⟩
  cases ts with
  | nil => exact ⟨1, Nat.le_refl _, fun t ht => by cases ht⟩
  | cons a l =>
    have key : ∀ t ∈ a :: l, t.length = a.length ∧ t ≠ [] ∧ ∀ i ∈ t, 0 ≤ i := fun t ht => by
      have := h.2 t ht
      rw [Bool.and_eq_true, Bool.and_eq_true, decide_eq_true_eq, List.all_eq_true] at this
      refine ⟨this.1, fun e => ?_, fun i hi => of_decide_eq_true (this.2.2 i hi)⟩
      rw [e] at this
      exact absurd this.2.1 (by decide)
    refine ⟨a.length, ?_, fun t ht => ⟨(key t ht).1, (key t ht).2.2⟩⟩
    have := (key a List.mem_cons_self).2.1
    cases a with
    | nil => exact absurd rfl this
    | cons _ _ => simp
def tupsL (st : Store) (x : D) : Option (List (List Int)) := match x with
  | .ref n => match st[n]? with
    | some (.lst l) => l.mapM tupI
    | _ => none
  | _ => none
def oSortSet2 : List D → Store → Res D
  | [x], st => match tupsL st x with
    | some ts => if setOk ts = true then newL ((setT ts).map tupD) st else .err
    | none => match intsOf st x with
      | some ns => if ns.length < 64 then newL ((setI ns).map .int) st else .err
      | none => .err
  | _, _ => .err
section
variable {X : Cx} {E : XE}
variable {e : Expr} {de : DE} {p1 p2 p3 p4 : Pos}
theorem setT_end {H : Hp} {K : PySem.W.Frag} {f : List Addr} {vs : List V} {ts : List (List Int)} {L : List (Addr × List Int)} (i1 : ∀ x ∈ vs, ∃ t, x = V.ref t ∧ H t = some (.tup ((tupV H x).map V.int)) ∧ (tupV H x).length ≤ sizeLine) (i2 : vs.map (tupV H) = ts)
    (hin : ∀ p ∈ L, V.ref p.1 ∈ vs ∧ tupV H (V.ref p.1) = p.2) (hall : ∀ t ∈ ts, t ∈ L.map (·.2)) (hn : (L.map (·.2)).Nodup) (hs : (L.map (·.2)).Pairwise fun x y => lexI y x = false) : RDs K f H ((setT ts).map tupD) (L.map fun p => V.ref p.1) := by
  have e : L.map (·.2) = setT ts := setT_of hn hs fun k => ⟨fun hk => ?_, hall k⟩
  · rw [← e, List.map_map]
    have : (L.map fun p => V.ref p.1).map (fun y => tupD (tupV H y)) = L.map (tupD ∘ fun p => p.2) := by
      rw [List.map_map]
      exact List.map_congr_left fun p hp => congrArg tupD (hin p hp).2
    rw [← this]
    exact rds_tups _ fun y hy => by
      obtain ⟨p, hp, rfl⟩ := List.mem_map.mp hy
      exact i1 _ (hin p hp).1
  · obtain ⟨p, hp, rfl⟩ := List.mem_map.mp hk
    rw [← i2]
    exact List.mem_map.mpr ⟨_, (hin p hp).1, (hin p hp).2⟩
def adr : V → Addr
  | .ref a => a
  | _ => 0
theorem pd_sortset2 (hcalm : X.calm = true) (hu : X.A.units + 64 < cLine) (ha : PE X e (rd X.K E de)) (hm : X.mg ("sorted" : Str) = none) (hg : Gl X ("sorted" : Str) := by rfl) (hm2 : X.mg ("set" : Str) = none) (hg2 : Gl X ("set" : Str) := by rfl)
    (hs1 : starEach [e] X.env = (false, eval e X.env) :: starEach [] X.env := by rfl)
    (hs2 : starEach [Expr.Call (.Name ("set" : Str) p2) [e] [] p3] X.env = (false, eval (Expr.Call (.Name ("set" : Str) p2) [e] [] p3) X.env) :: starEach [] X.env := by rfl) :
    PE X (.Call (.Name ("sorted" : Str) p1) [.Call (.Name ("set" : Str) p2) [e] [] p3] [] p4) (rd X.K E (dL oSortSet2 (dCons de dNil))) := by
  have h1 := pd_sortset (p1 := p1) (p2 := p2) (p3 := p3) (p4 := p4) hcalm ha hm hg hm2 hg2 hs1 hs2
  have t1 := pe_callTy (T := "set") (p := p2) (pos := p3) (cr_setOfT hcalm hu) hg2 hm2 (by rfl) (pa_cons ha pa_nil hs1) (by decide) (by decide) hs1 (by rfl)
  have t2 := pe_callB (id := "sorted") (p := p1) (pos := p4) (cr_sortedT hcalm) hg hm (by rfl) (pa_cons t1 pa_nil hs2) (by decide) (by decide) hs2 (by rfl)
  refine (PE.or' h1 t2).mn fun s H Q h => ?_
  obtain ⟨f, r, st, hs, ht, h⟩ := h
  have ee : ∀ g, dL g (dCons de dNil) r st = (de r st).bind fun x st1 => g [x] st1 := fun g => by
    unfold dL dCons dNil
    cases de r st <;> rfl
  have h0 := h
  rw [ee] at h
  cases e1 : de r st with
  | err => rw [e1] at h; exact h.elim
  | exc x st1 =>
    refine .inl ⟨f, r, st, hs, ht, ?_⟩
    rw [ee, e1]
    rw [e1] at h
    exact h
  | ok d st1 =>
    cases e2 : tupsL st1 d with
    | none =>
      refine .inl ⟨f, r, st, hs, ht, ?_⟩
      rw [ee, e1]
      rw [e1] at h
      have h : post X.K E (RD X.K) f H (oSortSet2 [d] st1) Q := h
      show post X.K E (RD X.K) f H (oSortSet [d] st1) Q
      unfold oSortSet2 at h
      dsimp only at h
      rw [e2] at h
      exact h
    | some ts =>
      refine .inr ⟨f, r, st, hs, ht, ?_⟩
      rw [e1] at h
      rw [e1]
      have hk : post X.K E (RD X.K) f H (oSortSet2 [d] st1) Q := h
      unfold oSortSet2 at hk
      dsimp only at hk
      rw [e2] at hk
      dsimp only at hk
      refine fun f1 H1 v x1 t1 d1 => ?_
      split at hk
      · rename_i ok
        obtain ⟨few, dd, hd, hall⟩ := setOk_iff ok
        cases d <;> first | cases e2 | skip
        rename_i n
        unfold tupsL at e2
        dsimp only at e2
        obtain ⟨a, rfl, ea⟩ := d1.refv
        cases es : st1[n]? with
        | none => rw [es] at e2; cases e2
        | some o =>
          rw [es] at e2
          have R := t1.at_ n o a es ea
          cases o with
          | dK l0 => cases e2
          | dT l0 => cases e2
          | lst l0 =>
            obtain ⟨vs, g1, g2, g3⟩ := R
            obtain ⟨i1, i2⟩ := tups_in g2 e2
            obtain ⟨ks, hks⟩ : ∃ ks, ks = vs.map fun x => (adr x, tupV H1 x) := ⟨_, rfl⟩
            have kv : (ks.map fun p => V.ref p.1) = vs := by
              rw [hks, List.map_map]
              refine (List.map_congr_left fun x hx => ?_).trans (List.map_id vs)
              obtain ⟨t, e, _⟩ := i1 x hx
              show V.ref (adr x) = x
              rw [e]
              rfl
            have kin : ∀ p ∈ ks, V.ref p.1 ∈ vs ∧ H1 p.1 = some (.tup (p.2.map V.int)) ∧ p.2 ∈ ts := fun p hp => by
              rw [hks] at hp
              obtain ⟨x, hx, rfl⟩ := List.mem_map.mp hp
              obtain ⟨t, e, ht, _⟩ := i1 x hx
              subst e
              exact ⟨hx, ht, by rw [← i2]; exact List.mem_map.mpr ⟨_, hx, rfl⟩⟩
            have klen : ks.length = ts.length := by rw [hks, ← i2, List.length_map, List.length_map]
            obtain ⟨B, hB⟩ := some_bd ts.flatten
            refine ⟨a, ks, rfl, by rw [kv]; exact .of g1, fun p hp => .of (kin p hp).2.1, by omega, fun b L hb hsub hcov => ?_⟩
            have ne : ∀ p ∈ ks, upd H1 b (SetTO X.prog X.w b L) p.1 = H1 p.1 := fun p hp => upd_ne (ne_of_none (kin p hp).2.1 hb)
            refine ⟨b, L, dd, B, rfl, upd_same, fun p hp => .of (by rw [ne p (hsub p hp)]; exact (kin p (hsub p hp)).2.1), hd, fun p hp => ⟨(hall _ (kin p (hsub p hp)).2.2).1, fun m hm => ⟨(hall _ (kin p (hsub p hp)).2.2).2 m hm, hB m (List.mem_flatten.mpr ⟨_, (kin p (hsub p hp)).2.2, hm⟩)⟩⟩, fun L' p pm nd few' srt hp => ?_⟩
            have tv : ∀ x ∈ vs, ∃ t, x = V.ref t ∧ upd H1 b (SetTO X.prog X.w b L) t = some (.tup ((tupV H1 x).map V.int)) := fun x hx => by
              obtain ⟨t, e, ht, _⟩ := i1 x hx
              exact ⟨t, e, by rw [upd_ne (ne_of_none ht hb)]; exact ht⟩
            have te : ∀ x ∈ vs, tupV (upd H1 b (SetTO X.prog X.w b L)) x = tupV H1 x := fun x hx => by
              obtain ⟨t, e, ht⟩ := tv x hx
              rw [e] at ht ⊢
              exact tupV_of ht
            have pL : ∀ q ∈ L', q ∈ ks := fun q hq => hsub q (pm.mem_iff.mp hq)
            refine RD.lst_new (t1.new hb) hp (setT_end (vs := vs) (ts := ts) (fun x hx => ?_) ?_ (fun q hq => ⟨(kin q (pL q hq)).1, ?_⟩) (fun t ht => ?_) nd ?_) ?_ ((hk.up x1).up (ext_new hb))
            · obtain ⟨t, e, ht⟩ := tv x hx
              obtain ⟨_, _, _, hl⟩ := i1 x hx
              exact ⟨t, e, by rw [te x hx]; exact ht, by rw [te x hx]; exact hl⟩
            · rw [← i2]
              exact List.map_congr_left te
            · rw [te _ (kin q (pL q hq)).1]
              exact tupV_of (kin q (pL q hq)).2.1
            · rw [(pm.map (·.2)).mem_iff]
              rw [← i2] at ht
              obtain ⟨x, hx, rfl⟩ := List.mem_map.mp ht
              exact hcov (adr x, tupV H1 x) (by rw [hks]; exact List.mem_map.mpr ⟨x, hx, rfl⟩)
            · refine List.pairwise_map.mpr (srt.imp_of_mem fun {q r} hq hr hle => ?_)
              cases hl : lexI r.2 q.2 with
              | false => rfl
              | true =>
                have bd : ∀ q ∈ L', q.2.length = dd ∧ TS.Bd B q.2 := fun q hq => ⟨(hall _ (kin q (pL q hq)).2.2).1, fun m hm => ⟨(hall _ (kin q (pL q hq)).2.2).2 m hm, hB m (List.mem_flatten.mpr ⟨_, (kin q (pL q hq)).2.2, hm⟩)⟩⟩
                have := code_lex ((bd r hr).1.trans (bd q hq).1.symm) (bd r hr).2 (bd q hq).2 hl
                omega
            · have := len_setT ts
              rw [List.length_map, sizeLine_eq]
              omega
      · exact hk.elim
end
def U.tupsL : U → Option (List (List Int))
  | .lst l => l.mapM U.tupI
  | _ => none
def vSortSet2 : VOL := fun l Q => match l with
  | [v] => match v.tupsL with
    | some ts => setOk ts = true ∧ (∀ t ∈ ts, t.length ≤ sizeLine) ∧ Q (.lst ((setT ts).map tupU))
    | none => match v.ints with
      | some ns => ns.length < 64 ∧ Q (.lst ((setI ns).map .int))
      | none => False
  | _ => False
theorem RelK.tupsL_eq {Z : Av} {A : Ow} {b : Nat} {st st0 : Store} {d : D} {v : U} (h : RelK .weak Z A b st0 st d v) : Pd.tupsL st d = v.tupsL := by
  have h := h.any
  cases h with
  | lst a e l r =>
    unfold Pd.tupsL
    dsimp only
    rw [e]
    exact reps_mapM (fun _ _ h => h.tupI_eq) r
  | dT a e k l r =>
    unfold Pd.tupsL
    dsimp only
    rw [e]
    rfl
  | dK a e i k l r =>
    unfold Pd.tupsL
    dsimp only
    rw [e]
    rfl
  | gen a c e _ _ _ _ =>
    unfold Pd.tupsL
    dsimp only
    rw [e]
    rfl
  | _ => rfl
theorem olv_sortset2 : OpLOk .fresh oSortSet2 vSortSet2 := fun Z A b u r st st1 ds us Q X hv h q => by
  unfold vSortSet2 at q
  match us, h, q with
  | [v], h, q =>
    dsimp only at q
    obtain ⟨d, rfl, h1⟩ := h.one
    unfold oSortSet2
    dsimp only
    rw [h1.tupsL_eq]
    cases e : v.tupsL with
    | some ts =>
      rw [e] at q
      dsimp only at q ⊢
      rw [if_pos q.1]
      refine newL_post hv (reps_tups _ fun t ht => q.2.1 t (mem_setT.mp ht)) ?_ q.2.2
      have := len_setT ts
      have := (setOk_iff q.1).1
      rw [List.length_map, sizeLine_eq]
      omega
    | none =>
      rw [e] at q
      dsimp only at q ⊢
      cases e2 : v.ints with
      | some ns =>
        rw [e2] at q
        rw [h1.ints e2]
        dsimp only at q ⊢
        rw [if_pos q.1]
        refine newL_post hv (reps_ints _) ?_ q.2
        have := len_setI ns
        rw [List.length_map, sizeLine_eq]
        omega
      | none => rw [e2] at q; exact q.elim
  | [], _, q => exact q.elim
  | _ :: _ :: _, _, q => exact q.elim
end Pd
set_option maxRecDepth 100000
set_option maxHeartbeats 400000
namespace Pd
open PySem PySem.Spec PyProof.Rows L2
end Pd
set_option maxRecDepth 100000
set_option maxHeartbeats 400000
namespace Pd
open PySem PySem.Spec PyProof.Rows L2
end Pd
set_option maxRecDepth 100000
set_option maxHeartbeats 400000
namespace Pd
open PySem PySem.Spec PyProof.Rows L2
end Pd
set_option maxRecDepth 100000
set_option maxHeartbeats 400000
namespace Pd
open PySem PySem.Spec PyProof.Rows L2
def oAddN : D → D → Store → Res D
  | .int i, .int j, st => .ok (.int (i + j)) st
  | _, _, _ => .err
section
variable {X : Cx} {E : XE} {pos : Pos} {e : Expr} {de : DE}
theorem pds_aug (i : Nat) {x : Str} {pos' : Pos} (hN : X.N.Nodup) (he : PE X e (rd X.K E de)) (hi : X.N[i]? = some x := by rfl) (hx : Loc X.env.scope x := by first | exact Or.inl rfl | exact Or.inr rfl)
    (hf : X.fn x = true ∨ X.env.scope.names.lookup x = some .local := by first | exact .inl rfl | exact .inr rfl) : PS X (.AugAssign (.Name x pos') .Add e pos) (rdS X.K E (dSet i (dBin oAddN (dVar i) de))) := (ps_aug hN hi hx he ip_add hf).mn fun D s H h => by
  obtain ⟨f, r, st, hs, ht, h⟩ := h
  unfold dSet dBin dVar at h
  cases e1 : r[i]? with
  | none => rw [e1] at h; exact h.elim
  | some o =>
    cases o with
    | none => rw [e1] at h; exact h.elim
    | some d =>
      obtain ⟨v, ev, dv⟩ := hs.at_ i d e1
      rw [e1] at h
      refine ⟨v, ev, f, r, st, hs, ht, ?_⟩
      have h : postS X.K E f H (((de r st).bind fun y st2 => oAddN d y st2).out fun d st1 => .nx (r.set i (some d)) st1) D := h
      cases e2 : de r st with
      | err => rw [e2] at h; exact h.elim
      | exc x st1 => rw [e2] at h; exact h
      | ok y st1 =>
        rw [e2] at h
        intro f1 H1 w x1 t1 d1
        cases d <;> cases y <;> first | exact h.elim | skip
        have hs1 := hs.up x1.toEx0
        cases dv
        cases d1
        refine ⟨_, _, rfl, rfl, ?_⟩
        exact postS.nx (postS.up h x1) t1 (hs1.set i (.int _))
end
end Pd
set_option maxRecDepth 100000
set_option maxHeartbeats 400000
namespace Pd
open PySem PySem.Spec PyProof.Rows L2
def newK (kvs : List (Key × D)) (st : Store) : Res D := .ok (.ref st.length) (st ++ [.dK kvs])
def dcLoop (nx : AI) (g : DG) (tt : DT) (tk te : DE) (r0 : Env') : Nat → Nat → List (Key × D) → Store → Res D
  | 0, i, acc, st => match nx i st with
    | some none => newK acc st
    | _ => .err
  | k + 1, i, acc, st => match nx i st with
    | some none => newK acc st
    | some (some d) => match g d r0 with
      | some r1 => match tt r1 st with
        | .ok b st1 => if b = true then (match tk r1 st1 with
          | .ok y st2 => match te r1 st2 with
            | .ok z st3 => match keyOf y with
              | some q => dcLoop nx g tt tk te r0 k (i + 1) (putD acc q z) st3
              | none => .err
            | _ => .err
          | _ => .err) else dcLoop nx g tt tk te r0 k (i + 1) acc st1
        | _ => .err
      | none => .err
    | none => .err
def dDc (it : DIt) (own : List Nat) (g : DG) (tt : DT) (tk te : DE) : DE := fun r st => (it r st).bind fun a st1 => dcLoop a.1 g tt tk te (wipeD r own) a.2 0 [] st1
section
variable {K : PySem.W.Frag} {E : XE} {it : DIt} {g : DG} {sl : List Nat} {t : TG} {tt : DT} {tk te : DE}
theorem rd_dc (ok : GOk K t g sl) {own : List Nat} (hv : ∀ i ∈ sl, i ∈ own) {s : L2.St} {H : Hp} {Q : VK} (h : rd K E (dDc it own g tt tk te) s H Q) : tDc (rdI K E it) t (rdT K E00 tt) (rd K E00 tk) (rd K E00 te) own s H Q := by
  obtain ⟨f, r, st, hs, ht, h⟩ := h
  refine ⟨f, r, st, hs, ht, (post.bind (R' := RI K) h).mono fun J H1 ⟨f1, a, st1, x1, t1, ⟨hz, ri⟩, h1⟩ D hD => ?_⟩
  have hs1 := hs.up x1.toEx0
  have dn : D ∉ f1 := fun m => by
    obtain ⟨w, hw, _⟩ := t1.mem m
    rw [hD] at hw
    cases hw
  refine ⟨fun i m H => ∃ f st acc vs, Ext f1 H1 f H ∧ RSt K f H st ∧ H D = some (.dK vs) ∧ D ∉ f ∧ RKs K f H acc vs ∧ acc.length ≤ i ∧ i + m = a.2 ∧ post K E (RD K) f1 H1 (dcLoop a.1 g tt tk te (wipeD r own) m i acc st) Q,
    ⟨a.2, f1, st1, [], [], ext_new hD, t1.new hD, upd_same, dn, .nil, Nat.le_refl _, Nat.zero_add _, h1⟩, fun i m H ⟨f, st, acc, vs, x, ht, hd, hn, hr, hl, hm, h⟩ => ?_⟩
  obtain ⟨ristop, rigo⟩ := ri f H st x ht i
  have fin : post K E (RD K) f1 H1 (newK acc st) Q → Q (.ref D) H := fun h => by
    have x2 : Ext f1 H1 (f ++ [D]) H := ⟨⟨x.pre.trans (List.prefix_append f [D]), x.im⟩, fun c hc hn1 => by
      rcases List.mem_append.mp hc with hc | hc
      · exact x.nw c hc hn1
      · rw [List.mem_singleton] at hc; rw [hc]; exact hD, x.fr⟩
    have x0 : Ex0 f H (f ++ [D]) H := ⟨List.prefix_append f [D], fun _ _ h _ => h⟩
    have t2 : RSt K (f ++ [D]) H (st ++ [.dK acc]) := ht.put hn x0 (fun _ _ => rfl) ⟨vs, hd, RKs.up x0 hr, by omega⟩
    refine h (f ++ [D]) H (.ref D) x2 t2 (.ref ?_)
    rw [← ht.len]
    simp
  have dstay : ∀ {f' : List Addr} {H' : Hp}, Ext f H f' H' → H' D = some (.dK vs) ∧ D ∉ f' := fun {f' H'} y => ⟨y.fr _ _ hd hn, fun m => by
    have z := y.nw D m hn
    rw [hd] at z
    cases z⟩
  cases m with
  | zero =>
    unfold dcLoop at h
    split at h
    · rename_i e
      exact .inl ⟨ristop e, fin h⟩
    · exact h.elim
  | succ m =>
    unfold dcLoop at h
    split at h
    · rename_i e
      exact .inl ⟨ristop e, fin h⟩
    · rename_i d e
      obtain ⟨go, yld⟩ := rigo d e
      refine .inr ⟨go, fun H => ∃ f st acc vs, Ext f1 H1 f H ∧ RSt K f H st ∧ H D = some (.dK vs) ∧ D ∉ f ∧ RKs K f H acc vs ∧ acc.length ≤ i + 1 ∧ i + 1 + m = a.2 ∧ post K E (RD K) f1 H1 (dcLoop a.1 g tt tk te (wipeD r own) m (i + 1) acc st) Q, fun H' q => ⟨m, Nat.lt_succ_self m, q⟩, fun v H' y => ?_⟩
      obtain ⟨x2, t2, d2⟩ := yld v H' y
      obtain ⟨hd2, hn2⟩ := dstay x2
      have hw : RS K f H' (wipeD r own) (L2.wipe s own) := ((hs1.up x.toEx0).up x2.toEx0).wipe own
      split at h
      · rename_i r1 e1
        refine ok f H' _ r1 _ d v _ hw d2 e1 fun s' hs' w' => ⟨?_, f, r1, st, hs', t2, ?_⟩
        · rw [w' own hv]
          exact wipe_wipe s own
        · split at h
          · rename_i b st2 e2
            refine post.ok e2 fun f3 H3 b' x3 t3 eb => ?_
            cases eb
            have hd3 := (dstay (x2.trans x3)).1
            have hn3 := (dstay (x2.trans x3)).2
            have xx := (x.trans x2).trans x3
            have hr3 := RKs.up (x2.trans x3).toEx0 hr
            cases b with
            | true =>
              rw [if_pos rfl] at h
              refine iteT ⟨f3, r1, st2, hs'.up x3.toEx0, t3, ?_⟩
              split at h
              · rename_i z st3 e3
                refine post.ok e3 fun f4 H4 w x4 t4 d4 => ?_
                refine ⟨f4, r1, st3, (hs'.up x3.toEx0).up x4.toEx0, t4, ?_⟩
                split at h
                · rename_i z2 st4 e4
                  refine post.ok e4 fun f5 H5 w2 x5 t5 d5 => ?_
                  split at h
                  · rename_i q eq
                    obtain ⟨hd5, hn5⟩ := dstay (((x2.trans x3).trans x4).trans x5)
                    have hr5 := RKs.up x5.toEx0 (RKs.up x4.toEx0 hr3)
                    refine ⟨vs, q, (d4.up x5.toEx0).keyv eq, hd5, by rw [← Paired.length hr]; omega, ?_⟩
                    have hne : ∀ c ∈ f5, c ≠ D := fun c hc e => hn5 (e ▸ hc)
                    have x6 : Ex0 f5 H5 f5 (upd H5 D (.dK (putK vs q w2))) := ⟨List.prefix_refl f5, fun b o hb nm => by
                      rw [upd_ne fun e => by
                        rw [e, hd5] at hb
                        cases hb
                        exact nm trivial]
                      exact hb⟩
                    have xz := (xx.trans x4).trans x5
                    have hlen := putD_length acc q z2
                    refine ⟨f5, st4, putD acc q z2, putK vs q w2, ⟨⟨xz.pre, fun b o hb nm => ?_⟩, xz.nw, fun b o hb hn => ?_⟩, ⟨t5.len, t5.nd, fun n o c q1 q2 => (t5.at_ n o c q1 q2).up x6 (upd_ne (hne c (List.mem_of_getElem? q2)))⟩, upd_same, hn5, put_rel (RKs.up x6 hr5) (d5.up x6) q, by omega, by omega, h⟩
                    · exact x6.im _ _ (xz.im _ _ hb nm) nm
                    · rw [upd_ne fun e => by
                        rw [e, hD] at hb
                        cases hb]
                      exact xz.fr _ _ hb hn
                  · exact h.elim
                · exact h.elim
              · exact h.elim
            | false =>
              rw [if_neg (by decide)] at h
              exact iteF ⟨f3, st2, acc, vs, xx, t3, hd3, hn3, hr3, by omega, by omega, h⟩
          · exact h.elim
      · exact h.elim
    · exact h.elim
end
section
variable {X : Cx} {E : XE} {pos : Pos} {kx vx tg iter : Expr} {ifs : List Expr} {scope : Scope} {own : List (Str × Nat)} {it : DIt} {g : DG} {sl : List Nat} {t : TG} {tt : DT} {tk te : DE}
theorem pd_dc (ok : GOk X.K t g sl) (hc : X.calm = true) (hN : X.N.Nodup) (bo : BlkOk X.N X.env.scope scope own) (hi : PI X tg iter (rdI X.K E it))
    (hg : ∀ (s : Shared) (H : Hp) (C : Addr) (cl : List (Str × Addr)) (fp : List Addr), PG (X.blk s H scope (compEnvC scope cl C X.env) fp) tg t) (ht : ∀ (s : Shared) (H : Hp) (C : Addr) (cl : List (Str × Addr)) (fp : List Addr), PTs (X.blk s H scope (compEnvC scope cl C X.env) fp) ifs (rdT X.K E00 tt))
    (hk : ∀ (s : Shared) (H : Hp) (C : Addr) (cl : List (Str × Addr)) (fp : List Addr), PE (X.blk s H scope (compEnvC scope cl C X.env) fp) kx (rd X.K E00 tk)) (he : ∀ (s : Shared) (H : Hp) (C : Addr) (cl : List (Str × Addr)) (fp : List Addr), PE (X.blk s H scope (compEnvC scope cl C X.env) fp) vx (rd X.K E00 te))
    (hv : ∀ i ∈ sl, i ∈ own.map (·.2) := by decide) (hs : ∀ x, foldedSetIterable iter X.env x = pure x := by intro _; rfl) :
    PE X (.DictComp kx vx [⟨tg, iter, ifs, 0⟩] scope pos) (rd X.K E (dDc it (own.map (·.2)) g tt tk te)) := (pe_dc hc hN hi bo hg ht hk he hs).mn fun s H Q h => rd_dc ok hv h
end
end Pd
set_option maxRecDepth 100000
set_option maxHeartbeats 400000
namespace Pd
open PySem PySem.Spec PyProof.Rows L2
end Pd
set_option maxRecDepth 100000
set_option maxHeartbeats 400000
namespace Pd
open PySem PySem.Spec PyProof.Rows L2
def vAddN : VO2 := fun x y Q => match x, y with
  | .int i, .int j => Q (.int (i + j))
  | _, _ => False
theorem opv_addN : OpOk .strong oAddN vAddN := fun Z A b u r st st1 st2 d e v w Q X hv h1 h2 q => by
  unfold vAddN at q
  split at q
  · rw [h1.intw, h2.intw]
    exact ⟨_, q, .refl, .int _⟩
  · exact q.elim
section
variable {Z : Av} {A : Ow} {b : Nat} {st st0 : Store} {u : UEnv} {r : Env'} {d : D} {v : U}
theorem RelK.out (hv : RV Z A b u r st) (h : RelK .weak Z A b st0 st d v) : Rep Z b st d v := by
  rcases h with h | ⟨i, n, e1, rfl, h⟩
  · exact h.av fun _ _ z => .inl z
  · exact (h.av fun _ _ z => .inl z).rep (hv.nz i n e1).1
end
def dcW (g : UG) (tt : VT) (tk te : VE) (u0 : UEnv) : List U → List Key → List U → (U → Prop) → Prop
  | [], ks, acc, Q => ks ≠ drawKeys ∧ Q (.dK ks acc)
  | x :: xs, ks, acc, Q => match g x u0 with
    | some u1 => tt u1 (fun b => if b = true then tk u1 (fun y => te u1 (fun z => match y.keyOf with
      | some k => dcW g tt tk te u0 xs (putKs ks k) (putUs ks acc k z) Q
      | none => False) (fun _ => False)) (fun _ => False) else dcW g tt tk te u0 xs ks acc Q) (fun _ => False)
    | none => False
def vDc (it : VI) (own : List Nat) (g : UG) (tt : VT) (tk te : VE) : VE := fun u Q X => it u (fun l => dcW g tt tk te (wipeU u own) l [] [] Q) X
section
variable {ci ct ck ce : Nat} {it : DIt} {wi : VI} {own M : List Nat} {g : DG} {gu : UG} {tt : DT} {wt : VT} {tk te : DE} {wk we : VE}
theorem dc_run {Z : Av} {A : Ow} {u0 : UEnv} {r0 : Env'} {a : AI × Nat} {us : List U} {b0 : Nat} {st0 : Store} {X : VX} (hg : GvOk M g gu) (ht : TOk ct tt wt) (hk : EOk .weak ck tk wk) (he : EOk .strong ce te we) (hI : RelI false Z A b0 st0 st0 a us) (c : Nat) (hc : c = ct + (ck + ce)) : ∀ (m i : Nat) (b : Nat) (st : Store) (acc : List (Key × D)) (accU : List U) (Q : U → Prop), b + m * c ≤ capN → i + m = us.length → RV Z A b u0 r0 st → Gx b0 b st0 st → Reps (avo Z A) b st (acc.map (·.2)) accU → acc.length ≤ i → dcW gu wt wk we u0 (us.drop i) (acc.map (·.1)) accU Q →
    Post (RelK .fresh) Z A b (b + m * c) st (dcLoop a.1 g tt tk te r0 m i acc st) Q X := by
  intro m
  induction m with
  | zero =>
    intro i b st acc accU Q hcap hi hv g0 ha hl q
    obtain ⟨ds, r1, hn⟩ := hI.2.2 b st (g0.wk fun _ _ z => z.elim)
    have e1 := hn i (by omega)
    rw [List.getElem?_eq_none (by rw [r1.length]; omega)] at e1
    rw [List.drop_eq_nil_of_le (by omega)] at q
    unfold dcLoop
    rw [e1]
    have hz := hI.2.1
    rw [Nat.zero_mul]
    have hla := ha.length
    rw [List.length_map] at hla
    refine ⟨_, q.2, .push _, st.length, rfl, Nat.le_refl _, acc, by simp, decide_eq_false q.1, rfl, by omega, ?_⟩
    refine Reps.up (W := noW) (Gr.push _) (fun _ _ z => z.elim) (fun m hm z => ?_) (Reps.lt ha)
    rcases z with z | z
    · exact .inl z
    · exact absurd hm (by omega)
  | succ m ih =>
    intro i b st acc accU Q hcap hi hv g0 ha hl q
    have hz := hI.2.1
    obtain ⟨ds, r1, hn⟩ := hI.2.2 b st (g0.wk fun _ _ z => z.elim)
    have e1 := hn i (by omega)
    obtain ⟨x, ex⟩ : ∃ x, us[i]? = some x := ⟨us[i]'(by omega), List.getElem?_eq_getElem (by omega)⟩
    obtain ⟨d, ed, hd⟩ := Paired.getR r1.pr ex
    rw [ed] at e1
    have hdr : us.drop i = x :: us.drop (i + 1) := by
      rw [List.drop_eq_getElem_cons (show i < us.length by omega)]
      rw [List.getElem?_eq_getElem (show i < us.length by omega)] at ex
      rw [Option.some.inj ex]
    rw [hdr] at q
    unfold dcLoop
    rw [e1]
    dsimp only
    unfold dcW at q
    split at q
    · rename_i u1 e2
      obtain ⟨r2, e3, hv2, _⟩ := hg Z A b u0 u1 r0 st d x hv (hd.av fun _ _ z => .inl z) e2
      rw [e3]
      dsimp only
      have hmc : (m + 1) * c = m * c + c := Nat.succ_mul m c
      have h1 := ht Z A b u1 r2 st _ (fun _ => False) (by omega) hv2 q
      cases e4 : tt r2 st with
      | err => rw [e4] at h1; exact h1.elim
      | exc z st1 => rw [e4] at h1; obtain ⟨_, h, _⟩ := h1; exact h.elim
      | ok k st1 =>
        rw [e4] at h1
        obtain ⟨k', q2, g1, hk'⟩ := h1
        cases hk'
        dsimp only
        cases k with
        | false =>
          rw [if_neg (by decide)] at q2 ⊢
          have h5 := ih (i + 1) (b + ct) st1 acc accU Q (by omega) (by omega) (hv.gx g1) (g0.trans g1) (ha.gx g1) (by omega) q2
          exact Post.le RelK.up (by omega) (Post.from RelK.up g1 h5)
        | true =>
          rw [if_pos rfl] at q2 ⊢
          have h2 := hk Z A (b + ct) u1 r2 st1 _ (fun _ => False) (by omega) (hv2.gx g1) q2
          cases e5 : tk r2 st1 with
          | err => rw [e5] at h2; exact h2.elim
          | exc z st2 => rw [e5] at h2; obtain ⟨_, h, _⟩ := h2; exact h.elim
          | ok y st2 =>
            rw [e5] at h2
            obtain ⟨y', q3, g2, hy⟩ := h2
            dsimp only
            have h3 := he Z A (b + ct + ck) u1 r2 st2 _ (fun _ => False) (by omega) ((hv2.gx g1).gx g2) q3
            cases e6 : te r2 st2 with
            | err => rw [e6] at h3; exact h3.elim
            | exc z st3 => rw [e6] at h3; obtain ⟨_, h, _⟩ := h3; exact h.elim
            | ok z st3 =>
              rw [e6] at h3
              obtain ⟨z', q4, g3, hz'⟩ := h3
              dsimp only
              split at q4
              · rename_i kk ek
                rw [show keyOf y = some kk by rw [(RelK.up.up hy g3).any.key]; exact ek]
                dsimp only
                have hr := ((ha.gx g1).gx g2).gx g3
                have hlen := putD_length acc kk z
                rw [← put_keys acc kk z] at q4
                have h5 := ih (i + 1) (b + ct + ck + ce) st3 (putD acc kk z) (putUs (acc.map (·.1)) accU kk z') Q (by omega) (by omega) (((hv.gx g1).gx g2).gx g3) (((g0.trans g1).trans g2).trans g3) (put_vals hr kk hz') (by omega) q4
                exact Post.le RelK.up (by omega) (Post.from RelK.up ((g1.trans g2).trans g3) h5)
              · exact q4.elim
    · exact q.elim
theorem ev_dc (hi : IOk false ci it wi) (hg : GvOk M g gu) (ht : TOk ct tt wt) (hk : EOk .weak ck tk wk) (he : EOk .strong ce te we) : EOk .fresh (ci + sizeLine * (ct + (ck + ce))) (dDc it own g tt tk te) (vDc wi own gu wt wk we) := by
  refine JOk.bind (kw := fun l u Q X => dcW gu wt wk we (wipeU u own) l [] [] Q) RelK.up hi fun Z A n u r st0 st a us Q X hcap hv hr q => ?_
  have h := dc_run (r0 := wipeD r own) (X := X) hg ht hk he ⟨hr.1, hr.2.1, hr.2.2⟩ (ct + (ck + ce)) rfl us.length 0 n st [] [] Q (by have := Nat.mul_le_mul_right (ct + (ck + ce)) hr.2.1; omega) (by omega) (hv.wipe own) .refl .nil (Nat.le_refl _) (by rw [List.drop_zero]; exact q)
  rw [← hr.1] at h
  refine Post.le RelK.up ?_ h
  have := Nat.mul_le_mul_right (ct + (ck + ce)) (show a.2 ≤ sizeLine by rw [hr.1]; exact hr.2.1)
  omega
end
end Pd
set_option maxRecDepth 100000
set_option maxHeartbeats 400000
namespace Pd
open PySem PySem.Spec PyProof.Rows L2
def FPostF (Z : Av) (b b' : Nat) (st : Store) (res : Res D) (Q : U → Prop) (X : VX) : Prop := match res with
  | .ok d st' => ∃ v, Q v ∧ Gx b b' st st' ∧ ∃ n, d = .ref n ∧ st.length ≤ n ∧ Cont (fun m => Z m ∨ m = n) b' st' n v
  | .exc e st' => ∃ x, X x ∧ Gx b b' st st' ∧ RelX Z b' st' e x
  | .err => False
def FOkF (n c : Nat) (F : DFn) (W : VFn) : Prop := ∀ (Z : Av) (b : Nat) (st : Store) (ds : List D) (us : List U) (Q : U → Prop) (X : VX), b + c ≤ capN → (∀ m, Z m → m < st.length) → us.length = n → Reps Z b st ds us → W us Q X → FPostF Z b (b + c) st (F ds st) Q X
theorem ev_callF {n c c1 : Nat} {F : DFn} {W : VFn} {l : DA} {wl : VA} (hf : FOkF n c F W) (hl : AOk .strong c1 l wl) : EOk .fresh (c1 + c) (dL (ofN n F) l) (vCall n W wl) := by
  refine JOk.bind (kw := fun us u Q X => us.length = n ∧ W us Q X) RelK.up hl fun Z A b u r st0 st ds us Q X hcap hv hr q => ?_
  have hr := hr.reps
  unfold ofN
  rw [hr.length, if_pos q.1]
  have h := hf (avo Z A) b st ds us Q X hcap (fun m z => hv.avlt z) q.1 hr q.2
  cases e : F ds st with
  | ok d st' => rw [e] at h; obtain ⟨v, q, g, n, rfl, hn, r⟩ := h; exact ⟨v, q, g, n, rfl, hn, r⟩
  | exc d st' => rw [e] at h; obtain ⟨v, q, g, r⟩ := h; exact ⟨v, q, g, r.av fun m _ z => .inl z⟩
  | err => rw [e] at h; exact h
theorem FOkF.le {n c c' : Nat} {F : DFn} {W : VFn} (h : FOkF n c F W) (hc : c ≤ c') : FOkF n c' F W := fun Z b st ds us Q X hcap hz hn hr q => by
  have h := h Z b st ds us Q X (by omega) hz hn hr q
  have hb : b + c ≤ b + c' := by omega
  cases e : F ds st with
  | ok d st' => rw [e] at h; obtain ⟨v, q, g, n, rfl, hn, r⟩ := h; exact ⟨v, q, g.b_le hb, n, rfl, hn, r.gx (.le hb)⟩
  | exc d st' => rw [e] at h; obtain ⟨v, q, g, r⟩ := h; exact ⟨v, q, g.b_le hb, r.gx (Z' := Z) (.le hb)⟩
  | err => rw [e] at h; exact h
theorem FOkF.ok {n c : Nat} {F : DFn} {W : VFn} (h : FOkF n c F W) : FOk n c F W := fun Z b st ds us Q X hcap hz hn hr q => by
  have h := h Z b st ds us Q X hcap hz hn hr q
  cases e : F ds st with
  | ok d st' =>
    rw [e] at h
    obtain ⟨v, q, g, n, rfl, hn, r⟩ := h
    refine ⟨v, q, g, (r.av fun m _ z => .inl z).rep fun z => ?_⟩
    have := hz n z
    omega
  | exc d st' => rw [e] at h; exact h
  | err => rw [e] at h; exact h
end Pd
set_option maxRecDepth 100000
set_option maxHeartbeats 400000
namespace Pd
open PySem PySem.Spec PyProof.Rows L2 SrtT
end Pd
set_option maxRecDepth 100000
set_option maxHeartbeats 4000000
namespace Pd
open PySem PySem.Spec PyProof.Rows L2
end Pd
set_option maxRecDepth 100000
set_option maxHeartbeats 400000
namespace Pd
open PySem PySem.Spec PyProof.Rows L2
end Pd
set_option maxRecDepth 100000
set_option maxHeartbeats 400000
namespace Pd
open PySem PySem.Spec PyProof.Rows L2
theorem isSq.at_ {h h' : Heap} {k : Bool} {a : Addr} {its : Array Value} (x : isSq k h a its) (e : ∀ o, h.get? a = some o → h'.get? a = some o) : isSq k h' a its := by
  cases k with
  | true => obtain ⟨o, ho, r⟩ := (show h.IsTuple a its from x); exact show h'.IsTuple a its from ⟨o, e o ho, r⟩
  | false => obtain ⟨o, ho, r⟩ := (show h.IsList a its from x); exact show h'.IsList a its from ⟨o, e o ho, r⟩
/-- two lists or tuples under a zip -/
structure ZC where
  (z TI TO i1 i2 l1 l2 : Addr)
  (k1 k2 : Bool)
  (xs ys : Array Value)
namespace ZC
variable (c : ZC)
/-- behind i turns: the zip's own parts -/
structure At (i : Nat) (h : Heap) : Prop where
  ins : IsTupOf2 h c.TI (.ref c.i1) (.ref c.i2)
  it1 : itSt c.k1 h c.i1 c.l1 i
  sq1 : isSq c.k1 h c.l1 c.xs
  it2 : itSt c.k2 h c.i2 c.l2 i
  sq2 : isSq c.k2 h c.l2 c.ys
/-- the pair it laid last: none so far, or one that is still held -/
inductive Last (h : Heap) : Option Addr → Prop where
  | new (a b : Value) : IsZip h c.z c.TI c.TO .none → IsTupOf2 h c.TO a b → Last h none
  | held (T : Addr) (f : Bool) (o : Obj) : IsZipHeld h c.z c.TI c.TO T f → h.get? T = some o → T ≠ c.z → T ≠ c.i1 → T ≠ c.i2 → Last h (some T)
def reads : List Addr := [c.z, c.TI, c.TO, c.i1, c.i2, c.l1, c.l2]
variable {c} {h h' : Heap} {i : Nat} {T : Option Addr}
theorem At.keep (x : c.At i h) (e : ∀ b ∈ c.reads, ∀ o, h.get? b = some o → h'.get? b = some o) : c.At i h' :=
  ⟨e _ (by simp [reads]) _ x.ins, x.it1.at_ (e _ (by simp [reads])), x.sq1.at_ (e _ (by simp [reads])), x.it2.at_ (e _ (by simp [reads])), x.sq2.at_ (e _ (by simp [reads]))⟩
theorem Last.keep (x : c.Last h T) (e : ∀ b, b ∈ c.reads ∨ T = some b → ∀ o, h.get? b = some o → h'.get? b = some o) : c.Last h' T := by
  cases x with
  | new a b hz ho => exact .new a b (e _ (.inl (by simp [reads])) _ hz) (e _ (.inl (by simp [reads])) _ ho)
  | held T f o hz ho r1 r2 r3 => exact .held T f o (e _ (.inl (by simp [reads])) _ hz) (e _ (.inr rfl) _ ho) r1 r2 r3
theorem Last.type {s : Shared} (x : c.Last s.heap T) : s.TypeIs (.ref c.z) "zip" := by
  cases x with
  | new _ _ hz _ => exact ⟨_, hz, rfl⟩
  | held _ _ _ hz _ _ _ _ => exact ⟨_, hz, rfl⟩
end ZC
end Pd
set_option maxRecDepth 100000
set_option maxHeartbeats 400000
namespace Pd
open PySem PySem.Spec PyProof.Rows L2
end Pd
set_option maxRecDepth 100000
set_option maxHeartbeats 4000000
namespace Pd
open PySem PySem.Spec PyProof.Rows L2
end Pd
set_option maxRecDepth 100000
set_option maxHeartbeats 400000
namespace Pd
open PySem PySem.Spec PyProof.Rows L2
inductive IsT where
  | int | bool | tuple
def IsT.nm : IsT → String
  | .int => "int" | .bool => "bool" | .tuple => "tuple"
def isK : IsT → D → Option Bool
  | .int, .int _ => some true
  | .int, .bl _ => some true
  | .int, .tup _ => some false
  | .int, .xt _ => some false
  | .bool, .int _ => some false
  | .bool, .bl _ => some true
  | .bool, .tup _ => some false
  | .bool, .xt _ => some false
  | .tuple, .int _ => some false
  | .tuple, .bl _ => some false
  | .tuple, .tup _ => some true
  | .tuple, .xt _ => some true
  | _, _ => none
def oIsK (k : IsT) (x : D) (st : Store) : Res D := match isK k x with
  | some b => .ok (.bl b) st
  | none => .err
section
variable {X : Cx} {E : XE} {e : Expr} {de : DE} {p1 p2 pos : Pos}
theorem isK_ok {K : PySem.W.Frag} {f : List Addr} {H : Hp} {k : IsT} {d : D} {x : V} {b : Bool} (h : isK k d = some b) (r : RD K f H d x) : ∃ t : String, TyX K H x (.type t) ∧ kitB t k.nm = some b := by
  cases d with
  | int i => rw [r.intv]; cases k <;> cases h <;> exact ⟨"int", .base (.int i), by decide +kernel⟩
  | bl i => cases r; cases k <;> cases h <;> exact ⟨"bool", .base (.bl i), by decide +kernel⟩
  | tup l =>
    obtain ⟨a, vs, rfl, ha, _, _⟩ := r.tupv
    cases k <;> cases h <;> exact ⟨"tuple", .base (.tup ha), by decide +kernel⟩
  | xt l =>
    obtain ⟨a, vs, rfl, ⟨o, ha, _⟩, _, _⟩ := r.xtv
    cases k <;> cases h <;> exact ⟨"tuple", .fTuple ha, by decide +kernel⟩
  | _ => cases k <;> cases h
theorem pd_isK (k : IsT) (n : Str) (hbt : PE X (.Name n p2) (tC (.ty k.nm))) (he : PE X e (rd X.K E de)) (hm : X.mg "isinstance" = none) (hg : Gl X "isinstance" := by rfl)
    (hs : starEach [e, .Name n p2] X.env = (false, eval e X.env) :: starEach [.Name n p2] X.env := by rfl) (hs2 : starEach [.Name n p2] X.env = (false, eval (.Name n p2) X.env) :: starEach [] X.env := by rfl)
    (hpl : (backTo pos (starEach [.Name n p2] X.env)).any (·.1) = false := by rfl) :
    PE X (.Call (.Name "isinstance" p1) [e, .Name n p2] [] pos) (rd X.K E (dUn (oIsK k) de)) := by
  refine (pe_callB (id := "isinstance") (p := p1) (pos := pos) call_isi hg hm PyProof.Rows.boot_isinstance (pa_cons he (pa_cons hbt pa_nil hs2) hs) (by decide) (by decide) hs hpl).mn fun s H Q h => ?_
  obtain ⟨f, r, st, hs, ht, h⟩ := h
  refine ⟨f, r, st, hs, ht, (post.bind (R' := RD X.K) h).mono fun x H1 ⟨f1, d, st1, x1, t1, d1, h1⟩ => ?_⟩
  unfold oIsK at h1
  split at h1
  · rename_i b eb
    obtain ⟨t, ty, ek⟩ := isK_ok eb d1
    exact ⟨x, .ty k.nm, .type t, .type k.nm, b, rfl, .ty _, ty, kit_ty ek, post.now h1 t1 (.bl b)⟩
  · exact h1.elim
theorem bt_i (hm : X.mg "int" = none) (hg : Gl X "int" := by rfl) : PE X (.Name "int" p2) (tC (.ty IsT.int.nm)) := pe_bltn hg hm bt_int rfl
theorem bt_b (hm : X.mg "bool" = none) (hg : Gl X "bool" := by rfl) : PE X (.Name "bool" p2) (tC (.ty IsT.bool.nm)) := pe_bltn hg hm PyProof.Rows.boot_bool rfl
theorem bt_t (hm : X.mg "tuple" = none) (hg : Gl X "tuple" := by rfl) : PE X (.Name "tuple" p2) (tC (.ty IsT.tuple.nm)) := pe_bltn hg hm bt_tuple rfl
end
abbrev Tp : Type := Str × List Int
def tpB (K : PySem.W.Frag) (t : Tp) : Bool := He.tupB K t.1 (t.2.map He.Dv.int)
structure SaysX (fa : List He.Fa) (fn : List He.DefD) (ts : List Tp) (K : PySem.W.Frag) : Prop where
  d : He.SaysD fa fn K
  t : (ts.all fun t => tpB K t) = true
section
variable {fa : List He.Fa} {fn : List He.DefD} {ts : List Tp} {K : PySem.W.Frag}
theorem SaysX.fact (c : SaysX fa fn ts K) (i : Nat) {f : He.Fa} (h : fa[i]? = some f := by rfl) : f.ok K = true := c.d.fact i h
theorem SaysX.def_ (c : SaysX fa fn ts K) (i : Nat) {d : He.DefD} (h : fn[i]? = some d := by rfl) : ∃ fd, FunD K d.name d.qual d.params d.body d.scope (d.dvs K) (d.kws K) (He.fAd K d.at_) fd := c.d.def_ i h
theorem SaysX.tup (c : SaysX fa fn ts K) (i : Nat) {t : Tp} (h : ts[i]? = some t := by rfl) (H : Hp) : SqT K H (He.ga K t.1) (t.2.map V.int) := by
  have h1 := List.all_eq_true.mp c.t t (List.mem_of_getElem? h)
  have h2 := He.tupB_ok (K := K) (x := t.1) (vs := t.2.map He.Dv.int) h1 H
  rw [List.map_map] at h2
  exact h2
end
end Pd
set_option maxRecDepth 100000
set_option maxHeartbeats 4000000
namespace Pd
open PySem PySem.Spec PyProof.Rows L2
end Pd
set_option maxRecDepth 100000
set_option maxHeartbeats 4000000
namespace Pd
open PySem PySem.Spec PyProof.Rows L2
section
variable {K : PySem.W.Frag} {E : XE} {it it1 : DIt} {g g1 : DG} {sl sl1 : List Nat} {t t1 : TG} {tt : DT} {te : DE}
/-- what holds of the new list along the way -/
structure Half (K : PySem.W.Frag) (D : Addr) (f1 : List Addr) (H1 : Hp) (f : List Addr) (H : Hp) (st : Store) (acc : List Pd.D) (vs : List V) : Prop where
  x : Ext f1 H1 f H
  t : RSt K f H st
  d : H D = some (.lst vs)
  n : D ∉ f
  r : RDs K f H acc vs
  l : acc.length ≤ sizeLine
theorem Half.go {D : Addr} {f1 f f' : List Addr} {H1 H H' : Hp} {st st' : Store} {acc : List Pd.D} {vs : List V} (h : Half K D f1 H1 f H st acc vs) (y : Ext f H f' H') (t' : RSt K f' H' st') : Half K D f1 H1 f' H' st' acc vs := ⟨h.x.trans y, t', y.fr _ _ h.d h.n, (fun m => by
  have z := y.nw D m h.n
  rw [h.d] at z
  cases z), h.r.up y.toEx0, h.l⟩
theorem Half.app {D : Addr} {f1 f : List Addr} {H1 H : Hp} {st : Store} {acc : List Pd.D} {vs : List V} {d : Pd.D} {w : V} (h : Half K D f1 H1 f H st acc vs) (hD : H1 D = none) (hd : RD K f H d w) (hl : acc.length < sizeLine) : Half K D f1 H1 f (upd H D (.lst (vs ++ [w]))) st (acc ++ [d]) (vs ++ [w]) ∧ Ex0 f H f (upd H D (.lst (vs ++ [w]))) := by
  have hne : ∀ c ∈ f, c ≠ D := fun c hc e => h.n (e ▸ hc)
  have x5 : Ex0 f H f (upd H D (.lst (vs ++ [w]))) := ⟨List.prefix_refl f, fun b o hb nm => by
    rw [upd_ne fun e => by
      rw [e, h.d] at hb
      cases hb
      exact nm trivial]
    exact hb⟩
  have fr : ∀ b o, H1 b = some o → b ∉ f1 → upd H D (.lst (vs ++ [w])) b = some o := fun b o hb hn => by
    rw [upd_ne fun e => by
      rw [e, hD] at hb
      cases hb]
    exact h.x.fr _ _ hb hn
  exact ⟨⟨⟨⟨h.x.pre, fun b o hb nm => x5.im _ _ (h.x.im _ _ hb nm) nm⟩, h.x.nw, fr⟩, ⟨h.t.len, h.t.nd, fun n o c q1 q2 => (h.t.at_ n o c q1 q2).up x5 (upd_ne (hne c (List.mem_of_getElem? q2)))⟩, upd_same, h.n, (h.r.app (.cons hd .nil)).up x5, by rw [List.length_append]; exact hl⟩, x5⟩
theorem Ex0.tr {f f1 f2 : List Addr} {H H1 H2 : Hp} (a : Ex0 f H f1 H1) (b : Ex0 f1 H1 f2 H2) : Ex0 f H f2 H2 := ⟨a.pre.trans b.pre, fun c o h n => b.im c o (a.im c o h n) n⟩
end
end Pd
set_option maxRecDepth 100000
set_option maxHeartbeats 400000
namespace Pd
open PySem PySem.Spec PyProof.Rows L2
end Pd
set_option maxRecDepth 100000
set_option maxHeartbeats 4000000
namespace Pd
open PySem PySem.Spec PyProof.Rows L2
theorem zipU_map {α β : Type} (f : α → U) (g : β → U) : ∀ (a : List α) (b : List β), zipU (a.map f) (b.map g) = (a.zip b).map fun p => .tup [f p.1, g p.2]
  | [], _ => rfl
  | _ :: _, [] => rfl
  | x :: a, y :: b => by
    show U.tup [f x, g y] :: zipU (a.map f) (b.map g) = _
    rw [zipU_map f g a b]
    rfl
theorem enU_map {α : Type} (f : α → U) : ∀ (i : Nat) (a : List α), enU i (a.map f) = (a.zipIdx i).map fun p => .tup [.int (p.2 : Nat), f p.1]
  | _, [] => rfl
  | i, x :: a => by
    show U.tup [.int (i : Nat), f x] :: enU (i + 1) (a.map f) = _
    rw [enU_map f (i + 1) a]
    rfl
theorem rgOk_of {a b : Int} (h1 : -(2 ^ 60) ≤ a) (h2 : a < 2 ^ 60) (h3 : -(2 ^ 60) ≤ b) (h4 : b < 2 ^ 60) (h5 : (b - a).toNat ≤ sizeLine) : rgOk a b = true := by
  unfold rgOk
  simp only [Bool.and_eq_true, decide_eq_true_eq]
  omega
theorem atI_nat {α : Type} {l : List α} {i : Nat} {x : α} (h : l[i]? = some x) : atI l ((i : Nat) : Int) = some x := by
  unfold atI ixN
  have hl := (List.getElem?_eq_some_iff.mp h).1
  rw [if_pos (by omega), if_pos (by omega)]
  show l[((i : Nat) : Int).toNat]? = _
  rw [Int.toNat_natCast]
  exact h
structure Dat (n k : Nat) (v : U) (p : PyData) : Prop where
  to : ∀ m, n ≤ m → v.toP m = some p
  sh : p.showable = true
  le : p.leavesShort 13 = true
  bk : p.bulk ≤ k
theorem Dat.mono {n k n' k' : Nat} {v : U} {p : PyData} (h : Dat n k v p) (hn : n ≤ n') (hk : k ≤ k') : Dat n' k' v p := ⟨fun m hm => h.to m (by omega), h.sh, h.le, Nat.le_trans h.bk hk⟩
theorem dat_int {i : Int} (h : i.natAbs < 10 ^ 12) : Dat 1 0 (.int i) (.int i) := by
  refine ⟨fun m hm => ?_, ?_, ?_, Nat.le_refl _⟩
  · cases m with
    | zero => omega
    | succ m => rfl
  · unfold PyData.showable
    refine decide_eq_true ?_
    by_cases h0 : i.natAbs = 0
    · rw [h0]; decide
    · have h1 : i.natAbs < 2 ^ 1920 := Nat.lt_trans h (by decide)
      exact (Nat.log2_lt h0).mpr h1
  · unfold PyData.leavesShort
    exact decide_eq_true (PyData.shown_int_le h)
structure Dats (n k : Nat) (vs : List U) (ps : List PyData) : Prop where
  to : ∀ m, n ≤ m → vs.mapM (U.toP m) = some ps
  sh : PyData.showableAll ps = true
  le : PyData.leavesShortAll 13 ps = true
  bk : PyData.bulkAll ps ≤ k
theorem dats_nil : Dats 0 0 [] [] := ⟨fun m _ => rfl, rfl, rfl, Nat.le_refl _⟩
theorem dats_cons {n k n' k' : Nat} {v : U} {p : PyData} {vs : List U} {ps : List PyData} (h : Dat n k v p) (hs : Dats n' k' vs ps) : Dats (max n n') (k + 1 + k') (v :: vs) (p :: ps) := by
  refine ⟨fun m hm => ?_, ?_, ?_, ?_⟩
  · rw [List.mapM_cons, h.to m (by omega), hs.to m (by omega)]
    rfl
  · unfold PyData.showableAll
    rw [h.sh, hs.sh]
    rfl
  · unfold PyData.leavesShortAll
    rw [h.le, hs.le]
    rfl
  · unfold PyData.bulkAll
    have := h.bk
    have := hs.bk
    omega
theorem Dats.mono {n k n' k' : Nat} {v : List U} {p : List PyData} (h : Dats n k v p) (hn : n ≤ n') (hk : k ≤ k') : Dats n' k' v p := ⟨fun m hm => h.to m (by omega), h.sh, h.le, Nat.le_trans h.bk hk⟩
theorem dat_tup {n k : Nat} {vs : List U} {ps : List PyData} (h : Dats n k vs ps) : Dat (n + 1) k (.tup vs) (.tuple ps) := by
  refine ⟨fun m hm => ?_, by unfold PyData.showable; exact h.sh, by unfold PyData.leavesShort; exact h.le, by unfold PyData.bulk; exact h.bk⟩
  cases m with
  | zero => omega
  | succ m =>
    show (vs.mapM (U.toP m)).map PyData.tuple = _
    rw [h.to m (by omega)]
    rfl
theorem dat_lst {n k : Nat} {vs : List U} {ps : List PyData} (h : Dats n k vs ps) : Dat (n + 1) k (.lst vs) (.list ps) := by
  refine ⟨fun m hm => ?_, by unfold PyData.showable; exact h.sh, by unfold PyData.leavesShort; exact h.le, by unfold PyData.bulk; exact h.bk⟩
  cases m with
  | zero => omega
  | succ m =>
    show (vs.mapM (U.toP m)).map PyData.list = _
    rw [h.to m (by omega)]
    rfl
theorem ints_mapM (l : List Int) : (l.map U.int).mapM U.asInt = some l := by
  induction l with
  | nil => rfl
  | cons a l ih => rw [List.map_cons, List.mapM_cons, ih]; rfl
end Pd
set_option maxRecDepth 100000
set_option maxHeartbeats 400000
namespace Pd
open PySem PySem.Spec PyProof.Rows L2
def denNest (i j : Nat) : DS := (dSeq (dSet 1 (dLc (itRg1 (dBin oIx (dVar 0) (dC (.int 0)))) [2] (nNm 2) dYes (dL oLst dNil)))
    (dSeq (dFor (itSeq (dBin oIx (dVar 0) (dC (.int 1)))) (nTp (nsCons (nNm 2) (nsCons (nNm 3) nsNil)))
    (dExpr (dMt oAppend (dBin oIx (dVar 1) (dVar i)) (dCons (dVar j) dNil))))
    (dRet (dVar 1))))
/-- what is told at a spot -/
def colL (ps : List (Nat × Nat)) (a : Nat) : List Nat := (ps.filter fun q => decide (q.1 = a)).map (·.2)
def pairU (s : Bool) (q : Nat × Nat) : U := if s = true then .tup [.int (q.2 : Nat), .int (q.1 : Nat)] else .tup [.int (q.1 : Nat), .int (q.2 : Nat)]
def pairD (s : Bool) (q : Nat × Nat) : D := if s = true then .tup [.int (q.2 : Nat), .int (q.1 : Nat)] else .tup [.int (q.1 : Nat), .int (q.2 : Nat)]
/-- above_lists (s = false), below_lists (s = true); ps: where, what -/
def WNest (s : Bool) : VFn := fun us Q _ => ∃ (n : Nat) (v : U) (ps : List (Nat × Nat)), us = [.tup [.int (n : Nat), v]] ∧ (v = .tup (ps.map (pairU s)) ∨ v = .xt (ps.map (pairU s))) ∧ (∀ q ∈ ps, q.1 < n) ∧ n ≤ 1000 ∧ ps.length ≤ 1000 ∧ Q (.lst ((List.range n).map fun a => .lst ((colL ps a).map fun (k : Nat) => .int (k : Nat))))
section
variable {Z : Av} {b : Nat} {st : Store}
theorem rep_pair {s : Bool} {q : Nat × Nat} {d : D} (h : Rep Z b st d (pairU s q)) : d = pairD s q := by
  have go : ∀ x y : Int, ∀ d, Rep Z b st d (.tup [.int x, .int y]) → d = .tup [.int x, .int y] := fun x y d h => by
    cases h with
    | tup _ r =>
      cases r with
      | cons a r =>
        cases r with
        | cons c r =>
          cases r
          cases a
          cases c
          rfl
  unfold pairU at h
  unfold pairD
  cases s
  · exact go _ _ _ h
  · exact go _ _ _ h
theorem reps_pairs {s : Bool} : ∀ {ps : List (Nat × Nat)} {ds : List D}, Reps Z b st ds (ps.map (pairU s)) → ds = ps.map (pairD s)
  | [], _, h => by cases h; rfl
  | p :: ps, _, h => by
    rw [List.map_cons] at h
    cases h with
    | cons a r => rw [rep_pair a, reps_pairs r]; rfl
end
def refsD (m : Nat) (n : Nat) : List D := (List.range n).map fun a => .ref (m + a)
theorem lc_nest (r0 : Env') (st : Store) (n : Nat) : ∀ (k i : Nat), i + k = n → lcLoop (rgAI 0 n) (nNm 2) dYes (dL oLst dNil) r0 k i (refsD st.length i) (st ++ List.replicate i (.lst [])) = .ok (.ref (st.length + n)) (st ++ List.replicate n (.lst []) ++ [.lst (refsD st.length n)])
  | 0, i, e => by
    have e : i = n := by omega
    subst e
    unfold lcLoop rgAI
    rw [if_neg (Nat.lt_irrefl i)]
    dsimp only
    unfold newL
    rw [List.length_append, List.length_replicate]
  | k + 1, i, e => by
    unfold lcLoop rgAI
    rw [if_pos (by omega)]
    show (match dL oLst dNil (r0.set 2 (some (.int (0 + (i : Nat))))) (st ++ List.replicate i (.lst [])) with
      | .ok y st2 => lcLoop (rgAI 0 n) (nNm 2) dYes (dL oLst dNil) r0 k (i + 1) (refsD st.length i ++ [y]) st2
      | _ => .err) = _
    have e1 : dL oLst dNil (r0.set 2 (some (.int (0 + (i : Nat))))) (st ++ List.replicate i (.lst [])) = .ok (.ref (st.length + i)) (st ++ List.replicate (i + 1) (.lst [])) := by
      show oLst [] (st ++ List.replicate i (.lst [])) = _
      unfold oLst
      rw [if_pos (show ([] : List D).length ≤ sizeLine from Nat.zero_le _), List.length_append, List.length_replicate, List.append_assoc, ← List.replicate_succ']
    rw [e1]
    dsimp only
    have e2 : refsD st.length i ++ [D.ref (st.length + i)] = refsD st.length (i + 1) := by
      unfold refsD
      rw [List.range_succ, List.map_append]
      rfl
    rw [e2]
    exact lc_nest r0 st n k (i + 1) (by omega)
/-- the store as the pairs are gone through -/
def stN (st : Store) (n : Nat) (ps : List (Nat × Nat)) : Store := st ++ ((List.range n).map fun a => SO.lst ((colL ps a).map fun (k : Nat) => D.int (k : Nat))) ++ [.lst (refsD st.length n)]
theorem stN_nil (st : Store) (n : Nat) : stN st n [] = st ++ List.replicate n (.lst []) ++ [.lst (refsD st.length n)] := by
  unfold stN
  congr 2
  refine List.ext_getElem (by simp) fun i h1 h2 => ?_
  rw [List.getElem_map, List.getElem_replicate]
  rfl
theorem stN_get {st : Store} {n : Nat} {ps : List (Nat × Nat)} {a : Nat} (h : a < n) : (stN st n ps)[st.length + a]? = some (.lst ((colL ps a).map fun (k : Nat) => D.int (k : Nat))) := by
  unfold stN
  rw [List.append_assoc, List.getElem?_append_right (by omega), Nat.add_sub_cancel_left, List.getElem?_append_left (by simpa using h), List.getElem?_map, List.getElem?_range h]
  rfl
theorem stN_out {st : Store} {n : Nat} {ps : List (Nat × Nat)} : (stN st n ps)[st.length + n]? = some (.lst (refsD st.length n)) := by
  unfold stN
  rw [List.getElem?_append_right (by simp)]
  simp
theorem stN_set {st : Store} {n : Nat} {ps : List (Nat × Nat)} {q : Nat × Nat} (h : q.1 < n) : (stN st n ps).set (st.length + q.1) (.lst (((colL ps q.1).map fun (k : Nat) => D.int (k : Nat)) ++ [.int (q.2 : Nat)])) = stN st n (ps ++ [q]) := by
  unfold stN
  rw [List.append_assoc, List.append_assoc, List.set_append_right _ _ (by omega), Nat.add_sub_cancel_left, List.set_append_left _ _ (by simpa using h)]
  congr 2
  refine List.ext_getElem (by simp) fun i h1 h2 => ?_
  have hi : i < n := by simpa using h2
  rw [List.getElem_set, List.getElem_map, List.getElem_range, List.getElem_map, List.getElem_range]
  unfold colL
  rw [List.filter_append, List.map_append, List.map_append]
  by_cases e : q.1 = i
  · subst e
    rw [if_pos rfl, List.filter_cons, if_pos (decide_eq_true rfl)]
    rfl
  · rw [if_neg e, List.filter_cons, if_neg (by rw [decide_eq_true_eq]; exact e)]
    simp
theorem colL_len (ps : List (Nat × Nat)) (a : Nat) : (colL ps a).length ≤ ps.length := by
  unfold colL
  rw [List.length_map]
  exact List.length_filter_le _ _
theorem for_nest {s : Bool} {x : D} {i j : Nat} (hij : (i = 2 ∧ j = 3 ∧ s = false) ∨ (i = 3 ∧ j = 2 ∧ s = true)) {st : Store} {n : Nat} {ps : List (Nat × Nat)} (hn : ∀ q ∈ ps, q.1 < n) (hl : ps.length ≤ 1000) (hx : ∀ (k : Nat) (st' : Store), srcAt x k st' = some (ps[k]?.map (pairD s))) : ∀ (k m : Nat) (r : Env'), m + k = ps.length → r.length = 4 → r[1]? = some (some (.ref (st.length + n))) →
    ∃ r', forLoop (srcAt x) (nTp (nsCons (nNm 2) (nsCons (nNm 3) nsNil))) (dExpr (dMt oAppend (dBin oIx (dVar 1) (dVar i)) (dCons (dVar j) dNil))) k m r (stN st n (ps.take m)) = .nx r' (stN st n ps) ∧ r'[1]? = some (some (.ref (st.length + n)))
  | 0, m, r, e, hr, h1 => by
    refine ⟨r, ?_, h1⟩
    unfold forLoop
    rw [hx, List.getElem?_eq_none (by omega)]
    dsimp only [Option.map_none]
    rw [List.take_of_length_le (by omega)]
  | k + 1, m, r, e, hr, h1 => by
    have hm : m < ps.length := by omega
    obtain ⟨q, hq⟩ : ∃ q, q = ps[m] := ⟨_, rfl⟩
    have hg : ps[m]? = some q := by rw [List.getElem?_eq_getElem hm, hq]
    have hqn := hn q (List.mem_of_getElem? hg)
    obtain ⟨c, d, hcd⟩ : ∃ c d : Nat, pairD s q = .tup [.int (c : Nat), .int (d : Nat)] ∧ ((i = 2 ∧ q.1 = c ∧ q.2 = d ∧ j = 3) ∨ (i = 3 ∧ q.1 = d ∧ q.2 = c ∧ j = 2)) := by
      unfold pairD
      rcases hij with ⟨h1, h2, h3⟩ | ⟨h1, h2, h3⟩
      · rw [h3]; exact ⟨q.1, q.2, rfl, .inl ⟨h1, rfl, rfl, h2⟩⟩
      · rw [h3]; exact ⟨q.2, q.1, rfl, .inr ⟨h1, rfl, rfl, h2⟩⟩
    obtain ⟨hcd, hw⟩ := hcd
    obtain ⟨r1, hr1⟩ : ∃ r1, r1 = (r.set 2 (some (D.int (c : Nat)))).set 3 (some (.int (d : Nat))) := ⟨_, rfl⟩
    have l1 : r1.length = 4 := by rw [hr1]; simp [hr]
    have g1 : r1[1]? = some (some (.ref (st.length + n))) := by
      rw [hr1, List.getElem?_set_ne (by decide), List.getElem?_set_ne (by decide)]
      exact h1
    have g2 : r1[2]? = some (some (D.int (c : Nat))) := by
      rw [hr1, List.getElem?_set_ne (by decide), List.getElem?_set_self (by omega)]
    have g3 : r1[3]? = some (some (D.int (d : Nat))) := by
      rw [hr1, List.getElem?_set_self (by simp [hr])]
    have gi : r1[i]? = some (some (D.int (q.1 : Nat))) := by
      rcases hw with ⟨a, b, _, _⟩ | ⟨a, b, _, _⟩
      · rw [a, b]; exact g2
      · rw [a, b]; exact g3
    have gj : r1[j]? = some (some (D.int (q.2 : Nat))) := by
      rcases hw with ⟨_, _, b, a⟩ | ⟨_, _, b, a⟩
      · rw [a, b]; exact g3
      · rw [a, b]; exact g2
    have et : (ps.take (m + 1)) = ps.take m ++ [q] := by rw [List.take_add_one, hg]; rfl
    have body : dExpr (dMt oAppend (dBin oIx (dVar 1) (dVar i)) (dCons (dVar j) dNil)) r1 (stN st n (ps.take m)) = .nx r1 (stN st n (ps.take (m + 1))) := by
      have v1 : dVar 1 r1 (stN st n (ps.take m)) = .ok (.ref (st.length + n)) (stN st n (ps.take m)) := by unfold dVar; rw [g1]
      have vi : dVar i r1 (stN st n (ps.take m)) = .ok (.int (q.1 : Nat)) (stN st n (ps.take m)) := by unfold dVar; rw [gi]
      have vj : dVar j r1 (stN st n (ps.take m)) = .ok (.int (q.2 : Nat)) (stN st n (ps.take m)) := by unfold dVar; rw [gj]
      have vx : dBin oIx (dVar 1) (dVar i) r1 (stN st n (ps.take m)) = .ok (.ref (st.length + q.1)) (stN st n (ps.take m)) := by
        unfold dBin
        rw [v1]
        show (dVar i r1 (stN st n (ps.take m))).bind _ = _
        rw [vi]
        show oIx (.ref (st.length + n)) (.int (q.1 : Nat)) (stN st n (ps.take m)) = _
        have : ixSeq (.ref (st.length + n)) (.int (q.1 : Nat)) (stN st n (ps.take m)) = some (.ref (st.length + q.1)) := by
          unfold ixSeq seqOf getL
          dsimp only
          rw [stN_out]
          show atI (refsD st.length n) ((q.1 : Nat) : Int) = _
          exact Pd.atI_nat (l := refsD st.length n) (x := .ref (st.length + q.1)) (by unfold refsD; rw [List.getElem?_map, List.getElem?_range hqn]; rfl)
        unfold oIx
        rw [this]
      have vl : dCons (dVar j) dNil r1 (stN st n (ps.take m)) = .ok [.int (q.2 : Nat)] (stN st n (ps.take m)) := by
        unfold dCons
        rw [vj]
        rfl
      unfold dExpr dMt
      rw [vx]
      show ((if isL (.ref (st.length + q.1)) (stN st n (ps.take m)) = true then (dCons (dVar j) dNil r1 (stN st n (ps.take m))).bind fun ys st2 => oAppend (.ref (st.length + q.1)) ys st2 else .err).out _) = _
      have il : isL (.ref (st.length + q.1)) (stN st n (ps.take m)) = true := by
        unfold isL getL
        dsimp only
        rw [stN_get hqn]
        rfl
      rw [if_pos il, vl]
      show (oAppend (.ref (st.length + q.1)) [.int (q.2 : Nat)] (stN st n (ps.take m))).out _ = _
      have ea : oAppend (.ref (st.length + q.1)) [.int (q.2 : Nat)] (stN st n (ps.take m)) = .ok .non (stN st n (ps.take (m + 1))) := by
        have hc := colL_len (ps.take m) q.1
        rw [List.length_take] at hc
        unfold oAppend getL
        dsimp only
        rw [stN_get hqn]
        dsimp only
        rw [if_pos (by rw [List.length_map, sizeLine_eq]; omega), stN_set hqn, et]
      rw [ea]
      rfl
    obtain ⟨r', f1, f2⟩ := for_nest hij hn hl hx k (m + 1) r1 (by omega) l1 g1
    refine ⟨r', ?_, f2⟩
    unfold forLoop
    rw [hx, hg]
    show (match nTp (nsCons (nNm 2) (nsCons (nNm 3) nsNil)) (pairD s q) r with
      | some r1 => match dExpr (dMt oAppend (dBin oIx (dVar 1) (dVar i)) (dCons (dVar j) dNil)) r1 (stN st n (ps.take m)) with
        | .nx r2 st2 => forLoop (srcAt x) (nTp (nsCons (nNm 2) (nsCons (nNm 3) nsNil))) (dExpr (dMt oAppend (dBin oIx (dVar 1) (dVar i)) (dCons (dVar j) dNil))) k (m + 1) r2 st2
        | .ct r2 st2 => forLoop (srcAt x) (nTp (nsCons (nNm 2) (nsCons (nNm 3) nsNil))) (dExpr (dMt oAppend (dBin oIx (dVar 1) (dVar i)) (dCons (dVar j) dNil))) k (m + 1) r2 st2
        | .bk r2 st2 => .nx r2 st2
        | o => o
      | none => .err) = _
    rw [hcd, show nTp (nsCons (nNm 2) (nsCons (nNm 3) nsNil)) (.tup [.int (c : Nat), .int (d : Nat)]) r = some r1 from by rw [hr1]; rfl]
    dsimp only
    rw [body]
    exact f1
theorem rep_arg {Z : Av} {b : Nat} {st : Store} {n : Nat} {v : U} {ds : List D} (h : Reps Z b st ds [.tup [.int (n : Nat), v]]) : ∃ d1, ds = [.tup [.int (n : Nat), d1]] ∧ Rep Z b st d1 v := by
  cases h with
  | cons hd hnil =>
    cases hnil
    cases hd with
    | tup _ hd =>
      cases hd with
      | cons h0 hd =>
        cases h0
        cases hd with
        | cons h1 hd =>
          cases hd
          exact ⟨_, rfl, h1⟩
theorem seq_pairs {Z : Av} {b : Nat} {st : Store} {s : Bool} {ps : List (Nat × Nat)} {v : U} {d : D} (h : Rep Z b st d v) (hv : v = .tup (ps.map (pairU s)) ∨ v = .xt (ps.map (pairU s))) : ∃ l : List D, l.length = ps.length ∧ (∀ st' : Store, seqOf st' d = some l) ∧ ∀ (k : Nat) (st' : Store), srcAt d k st' = some (ps[k]?.map (pairD s)) := by
  have gen : ∀ k, (ps.map (pairD s))[k]? = ps[k]?.map (pairD s) := fun k => List.getElem?_map
  rcases hv with e | e
  · rw [e] at h
    cases h with
    | tup _ hd =>
      rw [reps_pairs hd]
      exact ⟨ps.map (pairD s), by simp, fun _ => rfl, fun k st' => congrArg some (gen k)⟩
  · rw [e] at h
    cases h with
    | xt _ hd =>
      rw [reps_pairs hd]
      exact ⟨ps.map (pairD s), by simp, fun _ => rfl, fun k st' => congrArg some (gen k)⟩
theorem it_rg1 {e : DE} {r : Env'} {st : Store} {b : Int} (hrg : rgOk 0 b = true) (h : e r st = .ok (.int b) st) : itRg1 e r st = .ok (rgAI 0 b.toNat, b.toNat) st := by
  have e1 : itRg1 e r st = (e r st).bind fun x st1 => match x with
    | .int b => if rgOk 0 b = true then .ok (rgAI 0 b.toNat, b.toNat) st1 else .err
    | _ => .err := rfl
  rw [e1, h]
  exact if_pos hrg
theorem it_nest {e : DE} {r : Env'} {st : Store} {n : Nat} (hn : n ≤ 1000) (h : e r st = .ok (.int (n : Nat)) st) : itRg1 e r st = .ok (rgAI 0 n, n) st := it_rg1 (rgOk_of (by omega) (by omega) (by omega) (by omega) (by rw [sizeLine_eq]; omega)) h
theorem lc_nest0 {e : DE} {r : Env'} {st : Store} {n : Nat} (hn : n ≤ 1000) (h : e r st = .ok (.int (n : Nat)) st) : dLc (itRg1 e) [2] (nNm 2) dYes (dL oLst dNil) r st = .ok (.ref (st.length + n)) (stN st n []) := by
  have lc := lc_nest (wipeD r [2]) st n n 0 (Nat.zero_add n)
  rw [show refsD st.length 0 = [] from rfl, List.replicate_zero, List.append_nil] at lc
  unfold dLc
  rw [it_nest hn h, stN_nil]
  exact lc
theorem run_nest (s : Bool) (i j : Nat) (hij : (i = 2 ∧ j = 3 ∧ s = false) ∨ (i = 3 ∧ j = 2 ∧ s = true)) {st : Store} {n : Nat} {ps : List (Nat × Nat)} {d1 : D} {l : List D} (hps : ∀ q ∈ ps, q.1 < n) (hn1 : n ≤ 1000) (hpl : ps.length ≤ 1000) (hll : l.length = ps.length) (hseq : ∀ st' : Store, seqOf st' d1 = some l) (hsrc : ∀ (k : Nat) (st' : Store), srcAt d1 k st' = some (ps[k]?.map (pairD s))) : runD 4 (denNest i j) [D.tup [.int (n : Nat), d1]] st = .ok (.ref (st.length + n)) (stN st n ps) := by
  obtain ⟨dd, hdd⟩ : ∃ dd, dd = D.tup [.int (n : Nat), d1] := ⟨_, rfl⟩
  rw [← hdd]
  have e0 : ∀ (r : Env') (st' : Store), r[0]? = some (some dd) → dBin oIx (dVar 0) (dC (.int 0)) r st' = .ok (.int (n : Nat)) st' := fun r st' h => by
    unfold dBin dVar dC
    rw [h, hdd]
    rfl
  have e1 : ∀ (r : Env') (st' : Store), r[0]? = some (some dd) → dBin oIx (dVar 0) (dC (.int 1)) r st' = .ok d1 st' := fun r st' h => by
    unfold dBin dVar dC
    rw [h, hdd]
    rfl
  have s1 : dSet 1 (dLc (itRg1 (dBin oIx (dVar 0) (dC (.int 0)))) [2] (nNm 2) dYes (dL oLst dNil)) [some dd, none, none, none] st = .nx [some dd, some (.ref (st.length + n)), none, none] (stN st n []) := by
    unfold dSet
    rw [lc_nest0 hn1 (e0 _ _ rfl)]
    rfl
  obtain ⟨r', f1, f2⟩ := for_nest (x := d1) hij (st := st) hps hpl hsrc ps.length 0 [some dd, some (.ref (st.length + n)), none, none] (Nat.zero_add _) rfl rfl
  rw [List.take_zero] at f1
  have s2 : dFor (itSeq (dBin oIx (dVar 0) (dC (.int 1)))) (nTp (nsCons (nNm 2) (nsCons (nNm 3) nsNil))) (dExpr (dMt oAppend (dBin oIx (dVar 1) (dVar i)) (dCons (dVar j) dNil))) [some dd, some (.ref (st.length + n)), none, none] (stN st n []) = .nx r' (stN st n ps) := by
    unfold dFor itSeq
    rw [e1 _ _ rfl]
    dsimp only [Res.bind]
    rw [hseq]
    dsimp only [Res.out]
    rw [hll]
    exact f1
  have : denNest i j [some dd, none, none, none] st = .rt (.ref (st.length + n)) (stN st n ps) := by
    unfold denNest dSeq
    rw [s1]
    dsimp only
    rw [s2]
    dsimp only
    unfold dRet dVar
    rw [f2]
    rfl
  unfold runD
  rw [show (List.map some [dd] ++ List.replicate (4 - [dd].length) none) = [some dd, none, none, none] from rfl, this]
theorem fin_nest {Z : Av} {b : Nat} {st : Store} {n : Nat} {ps : List (Nat × Nat)} (hz : ∀ m, Z m → m < st.length) (hn1 : n ≤ 1000) (hpl : ps.length ≤ 1000) : Gx b (b + 1) st (stN st n ps) ∧ Rep Z (b + 1) (stN st n ps) (.ref (st.length + n)) (.lst ((List.range n).map fun a => .lst ((colL ps a).map fun (k : Nat) => .int (k : Nat)))) := by
  have same : ∀ (m : Nat) (o : SO), st[m]? = some o → (stN st n ps)[m]? = some o := fun m o e => by
    unfold stN
    rw [List.append_assoc, List.getElem?_append_left (getSome_lt e)]
    exact e
  refine ⟨⟨Nat.le_add_right _ _, by unfold stN; simp, fun m o _ e _ => same m o e, fun m L S c p _ e d => ⟨L, p, same m _ e, d.up (Nat.le_add_right _ _)⟩⟩, .lst (fun z => ?_) stN_out (by rw [List.length_map, List.length_range, sizeLine_eq]; omega) ?_⟩
  · have := hz _ z
    omega
  · unfold refsD
    have go : ∀ l : List Nat, (∀ a ∈ l, a < n) → Reps Z (b + 1) (stN st n ps) (l.map fun a => D.ref (st.length + a)) (l.map fun a => U.lst ((colL ps a).map fun (k : Nat) => U.int (k : Nat))) := by
      intro l
      induction l with
      | nil => intro _; exact .nil
      | cons a l ih =>
        intro hl
        refine .cons (.lst (fun z => ?_) (stN_get (hl a List.mem_cons_self)) (by have := colL_len ps a; rw [List.length_map, sizeLine_eq]; omega) ?_) (ih fun b hb => hl b (List.mem_cons_of_mem _ hb))
        · have := hz _ z
          omega
        · have intR : ∀ m : List Nat, Reps Z (b + 1) (stN st n ps) (m.map fun (k : Nat) => D.int (k : Nat)) (m.map fun (k : Nat) => U.int (k : Nat)) := by
            intro m
            induction m with
            | nil => exact .nil
            | cons x m ih => exact .cons (.int _) ih
          exact intR _
    exact go _ fun a ha => List.mem_range.mp ha
theorem fok_nest (s : Bool) (i j : Nat) (hij : (i = 2 ∧ j = 3 ∧ s = false) ∨ (i = 3 ∧ j = 2 ∧ s = true)) : FOk 1 1 (runD 4 (denNest i j)) (WNest s) := fun Z b st ds us Q X hcap hz hn hr q => by
  have go : ∀ (n : Nat) (v : U) (ps : List (Nat × Nat)), us = [.tup [.int (n : Nat), v]] → (v = .tup (ps.map (pairU s)) ∨ v = .xt (ps.map (pairU s))) → (∀ q ∈ ps, q.1 < n) → n ≤ 1000 → ps.length ≤ 1000 → ∃ d1 l, ds = [D.tup [.int (n : Nat), d1]] ∧ l.length = ps.length ∧ (∀ st' : Store, seqOf st' d1 = some l) ∧ ∀ (k : Nat) (st' : Store), srcAt d1 k st' = some (ps[k]?.map (pairD s)) := by
    clear hcap q
    intro n v ps hu hv _ _ _
    rw [hu] at hr
    obtain ⟨d1, e, h1⟩ := rep_arg hr
    obtain ⟨l, hll, hseq, hsrc⟩ := seq_pairs h1 hv
    exact ⟨d1, l, e, hll, hseq, hsrc⟩
  exact q.elim fun n q => q.elim fun v q => q.elim fun ps q => (go n v ps q.1 q.2.1 q.2.2.1 q.2.2.2.1 q.2.2.2.2.1).elim fun d1 h => h.elim fun l h => by
    rw [h.1, run_nest s i j hij q.2.2.1 q.2.2.2.1 q.2.2.2.2.1 h.2.1 h.2.2.1 h.2.2.2]
    exact ⟨_, q.2.2.2.2.2, fin_nest hz q.2.2.2.1 q.2.2.2.2.1⟩
end Pd
set_option maxRecDepth 100000
set_option maxHeartbeats 400000
namespace Pd
open PySem PySem.Spec PyProof.Rows L2
def isKU : IsT → U → Option Bool
  | .int, .int _ => some true
  | .int, .bl _ => some true
  | .int, .tup _ => some false
  | .int, .xt _ => some false
  | .bool, .int _ => some false
  | .bool, .bl _ => some true
  | .bool, .tup _ => some false
  | .bool, .xt _ => some false
  | .tuple, .int _ => some false
  | .tuple, .bl _ => some false
  | .tuple, .tup _ => some true
  | .tuple, .xt _ => some true
  | _, _ => none
def vIsK (k : IsT) : VO1 := fun x Q => match isKU k x with
  | some b => Q (.bl b)
  | none => False
theorem RelK.xtw {k : Kd} {Z : Av} {A : Ow} {b : Nat} {st st0 : Store} {d : D} {us : List U} (h : RelK k Z A b st0 st d (.xt us)) : ∃ ds, d = .xt ds ∧ us.length ≤ sizeLine ∧ Reps (avo Z A) b st ds us := by
  cases k with
  | weak =>
    rcases h with h | ⟨i, n, _, rfl, h⟩
    · cases h with | xt l a => exact ⟨_, rfl, l, a⟩
    · exact h.elim
  | strong => cases h with | xt l a => exact ⟨_, rfl, l, a⟩
  | fresh => obtain ⟨n, rfl, _, h⟩ := h; exact h.elim
theorem isK_eq {Z : Av} {A : Ow} {b : Nat} {st st0 : Store} {k : IsT} {d : D} {v : U} {c : Bool} (h : RelK .weak Z A b st0 st d v) (e : isKU k v = some c) : isK k d = some c := by
  cases v with
  | int i => rw [h.intw]; cases k <;> exact e
  | bl i => rw [h.blw]; cases k <;> exact e
  | tup l => obtain ⟨ds, rfl, _⟩ := h.tupw; cases k <;> exact e
  | xt l => obtain ⟨ds, rfl, _⟩ := h.xtw; cases k <;> exact e
  | _ => cases k <;> cases e
theorem opv_isK (k : IsT) : Op1Ok .strong (oIsK k) (vIsK k) := fun Z A b u r st st1 d v Q X hv h1 q => by
  unfold vIsK at q
  split at q
  · rename_i c ec
    unfold oIsK
    rw [isK_eq h1 ec]
    exact ⟨_, q, .refl, .bl _⟩
  · exact q.elim
end Pd
set_option maxRecDepth 100000
set_option maxHeartbeats 400000
namespace Pd
open PySem PySem.Spec PyProof.Rows L2
end Pd
set_option maxRecDepth 100000
set_option maxHeartbeats 400000
namespace Pd
open PySem PySem.Spec PyProof.Rows L2
end Pd
set_option maxRecDepth 100000
set_option maxHeartbeats 400000
namespace Pd
open PySem PySem.Spec PyProof.Rows L2
def RelS : Rl (List D) (List U) := fun Z A b _ st ds us => Reps (avo Z A) b st ds us ∧ us.length ≤ sizeLine
section
variable {ci cj ct ce : Nat} {it it1 : DIt} {wi wi1 : VI} {own own1 M M1 : List Nat} {g g1 : DG} {gu gu1 : UG} {tt : DT} {wt : VT} {te : DE} {we : VE}
theorem RelS.up : RUp RelS := ⟨fun {Z A b b' st0 st st' d v} h g => ⟨h.1.gx g, h.2⟩, fun _ h => h⟩
end
end Pd
set_option maxRecDepth 100000
set_option maxHeartbeats 4000000
namespace Ty
open PySem PySem.Spec PyProof.Rows L2 Pd
/-- an exception -/
structure TX where
  cls : Str
  fs : List (Str × (Int ⊕ Str))
def fU : Int ⊕ Str → U
  | .inl i => .int i
  | .inr s => .str s
def TX.u (x : TX) : UX := ⟨x.cls, x.fs.map fun p => (p.1, fU p.2)⟩
abbrev M (α : Type) := (α → Prop) → (TX → Prop) → Prop
section
variable {α β γ δ : Type}
def pu (a : α) : M α := fun Q _ => Q a
def bi (m : M α) (k : α → M β) : M β := fun Q X => m (fun a => k a Q X) X
def rq (c : Prop) (a : α) : M α := fun Q _ => c ∧ Q a
def no : M α := fun _ _ => False
def op? : Option α → M α
  | some a => pu a
  | none => no
theorem pu_bi (a : α) (k : α → M β) : bi (pu a) k = k a := rfl
theorem rq_true {c : Prop} (h : c) (a : α) : rq c a = pu a := by
  funext Q X
  exact propext ⟨fun z => z.2, fun z => ⟨h, z⟩⟩
theorem op?_some {o : Option α} {a : α} (h : o = some a) : op? o = pu a := by rw [h]; rfl
end
section
variable {α β γ δ : Type}
def tI : Int → U := U.int
def tB : Bool → U := U.bl
def tN : Unit → U := fun _ => .non
def tG : Unit → U := fun _ => .gen
def tT (e : α → U) : List α → U := fun l => .tup (l.map e)
def tL (e : α → U) : List α → U := fun l => .lst (l.map e)
def tZ (e : α → U) : List α → U := fun l => .fz (l.map e)
def tP (e : α → U) (f : β → U) : α × β → U := fun p => .tup [e p.1, f p.2]
def tP3 (e : α → U) (f : β → U) (g : γ → U) : α × β × γ → U := fun p => .tup [e p.1, f p.2.1, g p.2.2]
def tO (e : α → U) : Option α → U
  | none => .non
  | some a => e a
def tMap (e : α → U) : List α → List U := List.map e
end
/-- what w reads is what m says -/
def TG {α β : Type} (u : UEnv) (w : VG β) (m : M α) (enc : α → β) : Prop := ∀ (Q : β → Prop) (X : VX) (C : α → Prop) (E : TX → Prop), (∀ a, C a → Q (enc a)) → (∀ x, E x → X x.u) → m C E → w u Q X
/-- .. and it is there -/
def TP {β : Type} (u : UEnv) (w : VG β) (b : β) : Prop := ∀ (Q : β → Prop) (X : VX), Q b → w u Q X
section
variable {α β γ δ ε : Type} {u : UEnv}
theorem TG.pu {w : VG β} {enc : α → β} {a : α} (h : TP u w (enc a)) : TG u w (pu a) enc := fun Q X C E hC hE m => h Q X (hC a m)
theorem TG.mono {w : VG β} {enc : α → β} {m : M α} (h : TG u w m enc) {enc' : α → β} (e : ∀ a, enc a = enc' a) : TG u w m enc' := fun Q X C E hC hE hm => h Q X C E (fun a c => by rw [e]; exact hC a c) hE hm
theorem tp_var (i : Nat) {v : U} (h : u[i]? = some (some (v, false))) : TP u (vVar i) v := fun Q X q => by
  unfold vVar
  rw [h]
  exact q
theorem tp_varW (i : Nat) {v : U} {b : Bool} (h : u[i]? = some (some (v, b))) : TP u (vVarW i) v := fun Q X q => by
  unfold vVarW
  rw [h]
  cases b <;> exact q
theorem tp_c {v : U} : TP u (vC v) v := fun Q X q => q
def O2 (gv : VO2) (ea : α → U) (eb : β → U) (mo : α → β → M γ) (ec : γ → U) : Prop := ∀ a b Q (C : γ → Prop) (E : TX → Prop), (∀ c, C c → Q (ec c)) → mo a b C E → gv (ea a) (eb b) Q
def O2P (gv : VO2) (ea : α → U) (eb : β → U) (f : α → β → γ) (ec : γ → U) : Prop := ∀ a b Q, Q (ec (f a b)) → gv (ea a) (eb b) Q
def O1P (gv : VO1) (ea : α → U) (f : α → γ) (ec : γ → U) : Prop := ∀ a Q, Q (ec (f a)) → gv (ea a) Q
variable {gv gv' : VO2} {ea : α → U} {eb : β → U} {ec : γ → U} {mo : α → β → M γ} {f : α → β → γ} {wa wb wc : VE} {a : α} {b : β} {ma : M α} {mb : M β}
theorem O2P.m (h : O2P gv ea eb f ec) : O2 gv ea eb (fun a b => pu (f a b)) ec := fun a b Q C E hC m => h a b Q (hC _ m)
theorem tp_bin (h : O2P gv ea eb f ec) (ha : TP u wa (ea a)) (hb : TP u wb (eb b)) : TP u (vBin gv wa wb) (ec (f a b)) := fun Q X q => ha _ X (hb _ X (h a b Q q))
theorem tg_binPP (h : O2 gv ea eb mo ec) (ha : TP u wa (ea a)) (hb : TP u wb (eb b)) : TG u (vBin gv wa wb) (mo a b) ec := fun Q X C E hC hE m => ha _ X (hb _ X (h a b Q C E hC m))
theorem tg_binMP (h : O2 gv ea eb mo ec) (ha : TG u wa ma ea) (hb : TP u wb (eb b)) : TG u (vBin gv wa wb) (bi ma fun a => mo a b) ec := fun Q X C E hC hE m => ha _ X _ E (fun a m => hb _ X (h a b Q C E hC m)) hE m
theorem tg_binPM (h : O2 gv ea eb mo ec) (ha : TP u wa (ea a)) (hb : TG u wb mb eb) : TG u (vBin gv wa wb) (bi mb fun b => mo a b) ec := fun Q X C E hC hE m => ha _ X (hb _ X _ E (fun b m => h a b Q C E hC m) hE m)
theorem tg_binMM (h : O2 gv ea eb mo ec) (ha : TG u wa ma ea) (hb : TG u wb mb eb) : TG u (vBin gv wa wb) (bi ma fun a => bi mb fun b => mo a b) ec := fun Q X C E hC hE m => ha _ X _ E (fun a m => hb _ X _ E (fun b m => h a b Q C E hC m) hE m) hE m
theorem tp_un {gv : VO1} {f : α → γ} (h : O1P gv ea f ec) (ha : TP u wa (ea a)) : TP u (vUn gv wa) (ec (f a)) := fun Q X q => ha _ X (h a Q q)
theorem o_add : O2P vAdd tI tI (fun a b => a + b) tI := fun a b Q q => q
theorem o_cmp (g : Int → Int → Bool) : O2P (vCmp g) tI tI (fun a b => g a b) tB := fun a b Q q => q
def mulM (a b : Int) : M Int := rq (mulOk a b = true) (a * b)
def modM (a b : Int) : M Int := rq (0 < b) (a % b)
def powM (a b : Int) : M Int := rq (0 ≤ b ∧ b ≤ 1000000 ∧ a.natAbs < 2 ^ 64) (a ^ b.toNat)
theorem o_mul : O2 vMul tI tI mulM tI := fun a b Q C E hC m => ⟨m.1, hC _ m.2⟩
theorem o_mod : O2 vMod tI tI modM tI := fun a b Q C E hC m => ⟨m.1, hC _ m.2⟩
theorem o_pow : O2 vPow tI tI powM tI := fun a b Q C E hC m => ⟨m.1, hC _ m.2⟩
variable {e : α → U}
def catM (a b : List α) : M (List α) := rq (a.length + b.length ≤ sizeLine) (a ++ b)
theorem o_catL : O2 vAdd (tL e) (tL e) catM (tL e) := fun a b Q C E hC m => by
  have := hC _ m.2
  unfold tL at this ⊢
  rw [List.map_append] at this
  exact ⟨by rw [List.length_map, List.length_map]; exact m.1, this⟩
/-- an encoder whose values are walked -/
def Seq (s : List α → U) (e : α → U) : Prop := ∀ l, (s l).items = some (l.map e)
theorem seqT : Seq (tT e) e := fun _ => rfl
theorem seqL : Seq (tL e) e := fun _ => rfl
theorem seqZ : Seq (tZ e) e := fun _ => rfl
def ixM (l : List α) (i : Int) : M α := op? (atI l i)
theorem atI_map (e : α → U) (l : List α) (i : Int) : atI (l.map e) i = (atI l i).map e := by
  unfold atI
  rw [List.length_map]
  cases ixN l.length i with
  | none => rfl
  | some j => exact List.getElem?_map
theorem o_ix {s : List α → U} (hs : Seq s e) : O2 vIx s tI ixM e := fun l i Q C E hC m => by
  unfold vIx
  rw [hs l]
  show match atI (l.map e) i with
    | some x => Q x
    | none => False
  rw [atI_map]
  unfold ixM at m
  cases h : atI l i with
  | none => rw [h] at m; exact m.elim
  | some x => rw [h] at m; exact hC x m
theorem tp_fst {e : α → U} {f : β → U} {p : α × β} {w : VE} (h : TP u w (tP e f p)) : TP u (vBin vIx w (vC (.int 0))) (e p.1) := fun Q X q => h _ X q
theorem tp_snd {e : α → U} {f : β → U} {p : α × β} {w : VE} (h : TP u w (tP e f p)) : TP u (vBin vIx w (vC (.int 1))) (f p.2) := fun Q X q => h _ X q
def CmpN (n : Nat) (e : α → U) : Prop := ∃ tp : α → PyData, (∀ m, n ≤ m → ∀ a, (e a).toP m = some (tp a)) ∧ (∀ a b, PyData.eqv (tp a) (tp b) = true ↔ a = b)
theorem cmp_I : CmpN 1 tI := ⟨PyData.int, fun m hm a => by cases m with
  | zero => omega
  | succ m => rfl, fun a b => by show (a == b) = true ↔ _; simp⟩
theorem mapM_tp {e : α → U} {tp : α → PyData} {m : Nat} (h : ∀ a, (e a).toP m = some (tp a)) : ∀ l : List α, (l.map e).mapM (U.toP m) = some (l.map tp)
  | [] => rfl
  | a :: l => by rw [List.map_cons, List.mapM_cons, h, mapM_tp h l]; rfl
theorem eqvAll_iff {tp : α → PyData} (h : ∀ a b, PyData.eqv (tp a) (tp b) = true ↔ a = b) : ∀ l m : List α, PyData.eqvAll (l.map tp) (m.map tp) = true ↔ l = m
  | [], [] => by simp [PyData.eqvAll]
  | [], _ :: _ => by simp [PyData.eqvAll]
  | _ :: _, [] => by simp [PyData.eqvAll]
  | a :: l, b :: m => by
    show (PyData.eqv (tp a) (tp b) && PyData.eqvAll (l.map tp) (m.map tp)) = true ↔ _
    rw [Bool.and_eq_true, h, eqvAll_iff h l m, List.cons.injEq]
theorem cmp_T {n : Nat} (h : CmpN n e) : CmpN (n + 1) (tT e) := by
  obtain ⟨tp, h1, h2⟩ := h
  refine ⟨fun l => .tuple (l.map tp), fun m hm l => ?_, fun l k => eqvAll_iff h2 l k⟩
  cases m with
  | zero => omega
  | succ m =>
    show ((l.map e).mapM (U.toP m)).map PyData.tuple = _
    rw [mapM_tp (h1 m (by omega))]
    rfl
theorem cmp_L {n : Nat} (h : CmpN n e) : CmpN (n + 1) (tL e) := by
  obtain ⟨tp, h1, h2⟩ := h
  refine ⟨fun l => .list (l.map tp), fun m hm l => ?_, fun l k => eqvAll_iff h2 l k⟩
  cases m with
  | zero => omega
  | succ m =>
    show ((l.map e).mapM (U.toP m)).map PyData.list = _
    rw [mapM_tp (h1 m (by omega))]
    rfl
theorem cmp_P {n k : Nat} {e' : β → U} (h : CmpN n e) (h' : CmpN k e') : CmpN (max n k + 1) (tP e e') := by
  obtain ⟨tp, h1, h2⟩ := h
  obtain ⟨tq, h3, h4⟩ := h'
  refine ⟨fun p => .tuple [tp p.1, tq p.2], fun m hm l => ?_, fun l k => ?_⟩
  · cases m with
    | zero => omega
    | succ m =>
      show (([e l.1, e' l.2]).mapM (U.toP m)).map PyData.tuple = _
      rw [List.mapM_cons, List.mapM_cons, h1 m (by omega), h3 m (by omega)]
      rfl
  · show (PyData.eqv (tp l.1) (tp k.1) && (PyData.eqv (tq l.2) (tq k.2) && true)) = true ↔ _
    rw [Bool.and_true, Bool.and_eq_true, h2, h4, Prod.ext_iff]
section
variable [DecidableEq α] {n : Nat}
theorem o_eq (h : CmpN n e) (hn : n ≤ 64) : O2P vEq e e (fun a b => decide (a = b)) tB := fun a b Q q => by
  obtain ⟨tp, h1, h2⟩ := h
  unfold vEq vEqG
  rw [h1 64 hn, h1 64 hn]
  show Q (.bl (PyData.eqv (tp a) (tp b)))
  have : PyData.eqv (tp a) (tp b) = decide (a = b) := by rw [Bool.eq_iff_iff, h2, decide_eq_true_eq]
  rw [this]
  exact q
theorem o_ne (h : CmpN n e) (hn : n ≤ 64) : O2P vNe e e (fun a b => decide (a ≠ b)) tB := fun a b Q q => by
  obtain ⟨tp, h1, h2⟩ := h
  unfold vNe vEqG
  rw [h1 64 hn, h1 64 hn]
  show Q (.bl (!PyData.eqv (tp a) (tp b)))
  have : (!PyData.eqv (tp a) (tp b)) = decide (a ≠ b) := by rw [Bool.eq_iff_iff, Bool.not_eq_true', ← Bool.not_eq_true, h2, decide_eq_true_eq]
  rw [this]
  exact q
theorem any_eqv {tp : α → PyData} (h : ∀ a b, PyData.eqv (tp a) (tp b) = true ↔ a = b) (x : α) (l : List α) : ((l.map tp).any fun z => PyData.eqv z (tp x)) = decide (x ∈ l) := by
  rw [Bool.eq_iff_iff, List.any_eq_true, decide_eq_true_eq]
  constructor
  · rintro ⟨p, hp, e⟩
    obtain ⟨y, hy, rfl⟩ := List.mem_map.mp hp
    rw [h] at e
    exact e ▸ hy
  · exact fun hx => ⟨_, List.mem_map.mpr ⟨x, hx, rfl⟩, (h x x).mpr rfl⟩
theorem isIn_T (h : CmpN n e) (hn : n ≤ 63) (a : α) (l : List α) : isInU (e a) (tT e l) = some (decide (a ∈ l)) := by
  obtain ⟨tp, h1, h2⟩ := h
  show (match (e a).toP 64, (tT e l).toP 64 with
    | some p, some (.list ds) => some (ds.any fun z => PyData.eqv z p)
    | some p, some (.tuple ds) => some (ds.any fun z => PyData.eqv z p)
    | _, _ => none) = _
  rw [h1 64 (by omega), show (tT e l).toP 64 = some (.tuple (l.map tp)) by
    show ((l.map e).mapM (U.toP 63)).map PyData.tuple = _
    rw [mapM_tp (h1 63 hn)]
    rfl]
  try dsimp only
  rw [any_eqv h2]
theorem isIn_L (h : CmpN n e) (hn : n ≤ 63) (a : α) (l : List α) : isInU (e a) (tL e l) = some (decide (a ∈ l)) := by
  obtain ⟨tp, h1, h2⟩ := h
  show (match (e a).toP 64, (tL e l).toP 64 with
    | some p, some (.list ds) => some (ds.any fun z => PyData.eqv z p)
    | some p, some (.tuple ds) => some (ds.any fun z => PyData.eqv z p)
    | _, _ => none) = _
  rw [h1 64 (by omega), show (tL e l).toP 64 = some (.list (l.map tp)) by
    show ((l.map e).mapM (U.toP 63)).map PyData.list = _
    rw [mapM_tp (h1 63 hn)]
    rfl]
  try dsimp only
  rw [any_eqv h2]
theorem o_inT (h : CmpN n e) (hn : n ≤ 63) : O2P vIn e (tT e) (fun a l => decide (a ∈ l)) tB := fun a l Q q => by
  unfold vIn
  rw [isIn_T h hn]
  exact q
theorem o_inL (h : CmpN n e) (hn : n ≤ 63) : O2P vIn e (tL e) (fun a l => decide (a ∈ l)) tB := fun a l Q q => by
  unfold vIn
  rw [isIn_L h hn]
  exact q
theorem o_notinL (h : CmpN n e) (hn : n ≤ 63) : O2P vNotIn e (tL e) (fun a l => !decide (a ∈ l)) tB := fun a l Q q => by
  unfold vNotIn
  rw [isIn_L h hn]
  exact q
end
/-- never None -/
def Nn (e : α → U) : Prop := ∀ a, (e a).isNon = false
theorem nn_I : Nn tI := fun _ => rfl
theorem isNon_O (h : Nn e) (o : Option α) : (tO e o).isNon = o.isNone := by
  cases o with
  | none => rfl
  | some a => exact h a
theorem o_isnot (h : Nn e) : O2P vIsNot (tO e) tN (fun o _ => !o.isNone) tB := fun o b Q q => ⟨rfl, by rw [isNon_O h]; exact q⟩
end
def likeM (x y : U) : M Bool := fun Q _ => match x.toP 64, y.toP 64 with
  | some p, some q => (p.showable = true ∧ p.shown.length ≤ sizeLine) ∧ (q.showable = true ∧ q.shown.length ≤ sizeLine) ∧ Q (p.shown == q.shown)
  | _, _ => False
theorem tg_like {u : UEnv} {x y : U} {wa wb : VE} (ha : TP u wa x) (hb : TP u wb y) : TG u (vBin vEqS (vL vRepr (vCons wa vNil)) (vL vRepr (vCons wb vNil))) (likeM x y) tB := fun Q X C E hC hE m => by
  refine ha _ X ?_
  show vRepr [x] (fun x => vL vRepr (vCons wb vNil) _ (fun y => vEqS x y Q) X)
  unfold likeM at m
  unfold vRepr
  try dsimp only
  cases h1 : x.toP 64 with
  | none => rw [h1] at m; exact m.elim
  | some p =>
    rw [h1] at m
    cases h2 : y.toP 64 with
    | none => rw [h2] at m; exact m.elim
    | some q =>
      rw [h2] at m
      refine ⟨m.1, hb _ X ?_⟩
      show vRepr [y] (fun y => vEqS _ y Q)
      unfold vRepr
      try dsimp only
      rw [h2]
      exact ⟨m.2.1, hC _ m.2.2⟩
theorem likeM_refl {n k : Nat} {x : U} {p : PyData} (h : Dat n k x p) (hn : n ≤ 64) (hk : k ≤ 2 ^ 20) : likeM x x = pu true := by
  have e := h.to 64 hn
  have hs : p.showable = true ∧ p.shown.length ≤ sizeLine := ⟨h.sh, PyData.shown_fits_bulk (B := 13) (by decide) (by decide) h.le (Nat.le_trans h.bk hk)⟩
  funext Q X
  unfold likeM pu
  rw [e]
  try dsimp only
  rw [beq_self_eq_true]
  exact propext ⟨fun z => z.2.2, fun z => ⟨hs, hs, z⟩⟩
section
variable {α β γ δ : Type} {u : UEnv} {w wa wb wc : VE} {t s : VT} {b c : Bool} {m ma mb : M Bool}
theorem tp_B (h : TP u w (tB b)) : TP u (vB w) b := fun Q X q => h _ X q
theorem tg_B (h : TG u w m tB) : TG u (vB w) m id := fun Q X C E hC hE m => h _ X C E (fun a c => hC a c) hE m
theorem tp_truB (h : TP u w (tB b)) : TP u (vTru w) b := fun Q X q => h _ X q
theorem tg_truB (h : TG u w m tB) : TG u (vTru w) m id := fun Q X C E hC hE m => h _ X C E (fun a c => hC a c) hE m
theorem tru_map (e : α → U) (l : List α) : (!(l.map e).isEmpty) = !l.isEmpty := by cases l <;> rfl
theorem tp_truL {e : α → U} {l : List α} (h : TP u w (tL e l)) : TP u (vTru w) (!l.isEmpty) := fun Q X q => h _ X (by
  show Q (!(l.map e).isEmpty)
  rw [tru_map]; exact q)
theorem tp_and (ha : TP u t b) (hb : TP u s c) : TP u (vAnd t s) (b && c) := fun Q X q => ha _ X (by cases b with
  | true => rw [if_pos rfl]; exact hb _ X q
  | false => rw [if_neg (by decide)]; exact q)
theorem tp_or (ha : TP u t b) (hb : TP u s c) : TP u (vOr t s) (b || c) := fun Q X q => ha _ X (by cases b with
  | true => rw [if_pos rfl]; exact q
  | false => rw [if_neg (by decide)]; exact hb _ X q)
theorem tp_nott (ha : TP u t b) : TP u (vNot t) (!b) := fun Q X q => ha _ X q
theorem tg_or (ha : TG u t ma id) (hb : TG u s mb id) : TG u (vOr t s) (bi ma fun c => if c = true then pu true else mb) id := fun Q X C E hC hE m => ha _ X _ E (fun c m => by
  try dsimp only
  cases c with
  | true => rw [if_pos rfl] at m; exact hC _ m
  | false => rw [if_neg (by decide)] at m; exact hb _ X C E hC hE m) hE m
theorem tg_nott (ha : TG u t ma id) : TG u (vNot t) (bi ma fun c => pu (!c)) id := fun Q X C E hC hE m => ha _ X _ E (fun c m => hC _ m) hE m
theorem tp_andV (ha : TP u wa (tB b)) (hb : TP u wb (tB c)) : TP u (vAndV wa wb) (tB (b && c)) := fun Q X q => ha _ X (by
  show if b = true then wb u Q X else Q (.bl false)
  cases b with
  | true => rw [if_pos rfl]; exact hb _ X q
  | false => rw [if_neg (by decide)]; exact q)
theorem tp_orV (ha : TP u wa (tB b)) (hb : TP u wb (tB c)) : TP u (vOrV wa wb) (tB (b || c)) := fun Q X q => ha _ X (by
  show if b = true then Q (.bl true) else wb u Q X
  cases b with
  | true => rw [if_pos rfl]; exact q
  | false => rw [if_neg (by decide)]; exact hb _ X q)
theorem tp_notV (ha : TP u wa (tB b)) : TP u (vNotV wa) (tB (!b)) := fun Q X q => ha _ X q
theorem tg_andV (ha : TG u wa ma tB) (hb : TG u wb mb tB) : TG u (vAndV wa wb) (bi ma fun c => if c = true then mb else pu false) tB := fun Q X C E hC hE m => ha _ X _ E (fun c m => by
  show if c = true then wb u Q X else Q (.bl false)
  cases c with
  | true => rw [if_pos rfl] at m ⊢; exact hb _ X C E hC hE m
  | false => rw [if_neg (by decide)] at m ⊢; exact hC _ m) hE m
theorem tp_chain {e : α → U} {f : β → U} {g : γ → U} {gv gv' : VO2} {op : α → β → Bool} {op' : β → γ → Bool} {x : α} {y : β} {z : γ} (h : O2P gv e f op tB) (h' : O2P gv' f g op' tB) (ha : TP u wa (e x)) (hb : TP u wb (f y)) (hc : TP u wc (g z)) : TP u (vChain gv gv' wa wb wc) (tB (op x y && op' y z)) := fun Q X q => ha _ X (hb _ X (h x y _ (by
  show if op x y = true then wc u (fun w => gv' (f y) w Q) X else Q (.bl false)
  cases he : op x y with
  | true => rw [if_pos rfl]; refine hc _ X (h' y z Q ?_); rw [he] at q; exact q
  | false => rw [if_neg (by decide)]; rw [he] at q; exact q)))
theorem tg_ifP {e : α → U} {mx my : M α} (ht : TP u t b) (ha : TG u wa mx e) (hb : TG u wb my e) : TG u (vIf t wa wb) (if b = true then mx else my) e := fun Q X C E hC hE m => ht _ X (by
  cases b with
  | true => rw [if_pos rfl] at m ⊢; exact ha _ X C E hC hE m
  | false => rw [if_neg (by decide)] at m ⊢; exact hb _ X C E hC hE m)
end
section
variable {α β γ δ : Type} {u : UEnv} {w wa wb : VE} {l : VA}
theorem tpa_nil : TP u vNil ([] : List U) := fun Q X q => q
theorem tpa_cons {v : U} {us : List U} (h : TP u w v) (hl : TP u l us) : TP u (vCons w l) (v :: us) := fun Q X q => h _ X (hl _ X q)
theorem tga_consM {e : α → U} {f : β → List U} {m : M α} {ml : M β} (h : TG u w m e) (hl : TG u l ml f) : TG u (vCons w l) (bi m fun x => bi ml fun y => pu (x, y)) (fun p => e p.1 :: f p.2) := fun Q X C E hC hE m => h _ X _ E (fun x m => hl _ X _ E (fun y m => hC _ m) hE m) hE m
theorem tga_consP {v : U} {f : β → List U} {ml : M β} (h : TP u w v) (hl : TG u l ml f) : TG u (vCons w l) ml (fun y => v :: f y) := fun Q X C E hC hE m => h _ X (hl _ X C E (fun y m => hC _ m) hE m)
theorem tga_last {e : α → U} {m : M α} {us : List U} (h : TG u w m e) (hl : TP u l us) : TG u (vCons w l) m (fun x => e x :: us) := fun Q X C E hC hE m => h _ X C E (fun x m => hl _ X (hC _ m)) hE m
def OL (gv : VOL) (us : List U) (v : U) : Prop := ∀ Q : U → Prop, Q v → gv us Q
theorem tp_L {gv : VOL} {us : List U} {v : U} (h : OL gv us v) (hl : TP u l us) : TP u (vL gv l) v := fun Q X q => hl _ X (h Q q)
theorem tg_L {gv : VOL} {ea : α → List U} {f : α → β} {eb : β → U} {m : M α} (h : ∀ a, OL gv (ea a) (eb (f a))) (hl : TG u l m ea) : TG u (vL gv l) (bi m fun a => pu (f a)) eb := fun Q X C E hC hE m => hl _ X _ E (fun a m => h a Q (hC _ m)) hE m
theorem tg_LP {gv : VOL} {us : List U} {m : M β} {eb : β → U} (h : ∀ Q (C : β → Prop) (E : TX → Prop), (∀ b, C b → Q (eb b)) → m C E → gv us Q) (hl : TP u l us) : TG u (vL gv l) m eb := fun Q X C E hC hE m => hl _ X (h Q C E hC m)
variable {e : α → U} {s : List α → U} {a : List α}
theorem l_len (hs : Seq s e) (a : List α) : OL vLen [s a] (tI (a.length : Nat)) := fun Q q => by
  unfold vLen
  try dsimp only
  rw [hs a]
  try dsimp only
  rw [List.length_map]
  exact q
theorem l_intI (i : Int) : OL vInt [tI i] (tI i) := fun Q q => q
theorem l_list (hs : Seq s e) (a : List α) : OL vListO [s a] (tL e a) := fun Q q => by
  unfold vListO
  try dsimp only
  rw [hs a]
  exact q
theorem l_tuple (hs : Seq s e) (a : List α) (hx : (s a).isXt = false := by rfl) : OL vTupleO [s a] (tT e a) := fun Q q => by
  unfold vTupleO
  try dsimp only
  rw [hs a]
  exact ⟨hx, q⟩
theorem bools_mapM : ∀ l : List Bool, (l.map U.bl).mapM U.asBool = some l
  | [] => rfl
  | a :: l => by rw [List.map_cons, List.mapM_cons, bools_mapM l]; rfl
theorem l_any (a : List Bool) : OL vAny [tL tB a] (tB (a.any id)) := fun Q q => by
  unfold vAny
  try dsimp only
  rw [show (tL tB a).bools = some a from bools_mapM a]
  exact q
theorem l_all (a : List Bool) : OL vAll [tL tB a] (tB (a.all id)) := fun Q q => by
  unfold vAll
  try dsimp only
  rw [show (tL tB a).bools = some a from bools_mapM a]
  exact q
theorem l_max2 (i j : Int) : OL vMax [tI i, tI j] (tI (if j > i then j else i)) := fun Q q => q
theorem l_min2 (i j : Int) : OL vMin [tI i, tI j] (tI (if j < i then j else i)) := fun Q q => q
theorem tp_tup {us : List U} (hl : TP u l us) (h : us.length ≤ sizeLine) : TP u (vTup l) (.tup us) := fun Q X q => hl _ X ⟨h, q⟩
theorem tp_lst {us : List U} (hl : TP u l us) (h : us.length ≤ sizeLine) : TP u (vLst l) (.lst us) := fun Q X q => hl _ X ⟨h, q⟩
theorem tg_tup {ea : α → List U} {m : M α} {eb : β → U} {f : α → β} (hl : TG u l m ea) (h : ∀ a, (ea a).length ≤ sizeLine) (he : ∀ a, U.tup (ea a) = eb (f a)) : TG u (vTup l) (bi m fun a => pu (f a)) eb := fun Q X C E hC hE m => hl _ X _ E (fun a m => ⟨h a, by rw [he]; exact hC _ m⟩) hE m
theorem tg_lst {ea : α → List U} {m : M α} {eb : β → U} {f : α → β} (hl : TG u l m ea) (h : ∀ a, (ea a).length ≤ sizeLine) (he : ∀ a, U.lst (ea a) = eb (f a)) : TG u (vLst l) (bi m fun a => pu (f a)) eb := fun Q X C E hC hE m => hl _ X _ E (fun a m => ⟨h a, by rw [he]; exact hC _ m⟩) hE m
def cut (l : List α) (lo hi : Option Int) : List α := (l.drop (HT.sIx l.length 0 lo)).take (HT.sIx l.length l.length hi - HT.sIx l.length 0 lo)
theorem cut_map (e : α → U) (l : List α) (lo hi : Option Int) : cutU (l.map e) lo hi = (cut l lo hi).map e := by
  unfold cutU cut
  rw [List.length_map, List.map_take, List.map_drop]
theorem tp_noP : TP u vNoP (none : Option Int) := fun Q X q => q
theorem tp_P {w : VE} {i : Int} (h : TP u w (tI i)) : TP u (vP w) (some i) := fun Q X q => h _ X q
variable {wl wh : VG (Option Int)} {lo hi : Option Int}
theorem tp_slZ (h : TP u w (tZ e a)) (h1 : TP u wl lo) (h2 : TP u wh hi) : TP u (vSl w wl wh) (tL e (cut a lo hi)) := fun Q X q => h _ X (h1 _ X (h2 _ X (by
  show Q (.lst (cutU (a.map e) lo hi))
  rw [cut_map]; exact q)))
def rg (a b : Int) : List Int := (List.range (b - a).toNat).map fun (i : Nat) => a + (i : Int)
def rgM (a b : Int) : M (List Int) := rq (rgOk a b = true) (rg a b)
theorem rg_u (a b : Int) : rgU a (b - a).toNat = (rg a b).map tI := by
  unfold rgU rg
  rw [List.map_map]
  rfl
theorem ti_rg1 {i : Int} (h : TP u w (tI i)) : TG u (iRg1 w) (rgM 0 i) (tMap tI) := fun Q X C E hC hE m => h _ X (by
  show rgOk 0 i = true ∧ Q (rgU 0 i.toNat)
  refine ⟨m.1, ?_⟩
  have := rg_u 0 i
  rw [Int.sub_zero] at this
  rw [this]
  exact hC _ m.2)
theorem ti_rg2 {w' : VE} {i j : Int} (h : TP u w (tI i)) (h' : TP u w' (tI j)) : TG u (iRg2 w w') (rgM i j) (tMap tI) := fun Q X C E hC hE m => h _ X (h' _ X ⟨m.1, by rw [rg_u]; exact hC _ m.2⟩)
theorem ti_seq (hs : Seq s e) (h : TP u w (s a)) : TP u (iSeq w) (tMap e a) := fun Q X q => h _ X (by
  try dsimp only
  rw [hs a]
  exact q)
theorem ti_seqM {ma : M (List α)} (hs : Seq s e) (h : TG u w ma s) : TG u (iSeq w) ma (tMap e) := fun Q X C E hC hE m => h _ X C E (fun l m => by
  try dsimp only
  rw [hs l]
  exact hC _ m) hE m
def en (l : List α) : List (Int × α) := (l.zipIdx 0).map fun p => (((p.2 : Nat) : Int), p.1)
theorem en_u (e : α → U) (l : List α) : enU 0 (l.map e) = (en l).map (tP tI e) := by
  rw [enU_map, en, List.map_map]
  rfl
theorem ti_en (hs : Seq s e) (h : TP u w (s a)) : TP u (iEnum w) (tMap (tP tI e) (en a)) := fun Q X q => h _ X (by
  try dsimp only
  rw [hs a]
  try dsimp only
  rw [en_u]
  exact q)
theorem zip_u {e : α → U} {f : β → U} (a : List α) (b : List β) : zipU (a.map e) (b.map f) = (a.zip b).map (tP e f) := zipU_map e f a b
theorem ti_zipMM {w' : VE} {e : α → U} {f : β → U} {s : List α → U} {s' : List β → U} {ma : M (List α)} {mb : M (List β)} (hs : Seq s e) (hs' : Seq s' f) (h : TG u w ma s) (h' : TG u w' mb s') : TG u (iZip w w') (bi ma fun a => bi mb fun b => pu (a.zip b)) (tMap (tP e f)) := fun Q X C E hC hE m => h _ X _ E (fun a m => h' _ X _ E (fun b m => by
  try dsimp only
  rw [hs a, hs' b]
  try dsimp only
  rw [zip_u]
  exact hC _ m) hE m) hE m
theorem tg_lstRg {i : Int} (h : TP u w (tI i)) : TG u (vLstRg (vRg1 w)) (rgM 0 i) (tL tI) := fun Q X C E hC hE m => h _ X (by
  show rgOk 0 i = true ∧ Q (.lst (rgLU 0 i))
  refine ⟨m.1, ?_⟩
  have := hC _ m.2
  unfold tL at this
  rw [← rg_u] at this
  exact this)
end
section
variable {α β γ : Type} {u : UEnv} {it : VI} {own : List Nat} {g : UG} {tt : VT} {te : VE} {e : α → U} {eb : β → U} {ue : α → UEnv}
def lcM (mt : α → M Bool) (me : α → M β) : List α → List β → M (List β)
  | [], acc => pu acc
  | x :: xs, acc => bi (mt x) fun c => if c = true then bi (me x) fun y => lcM mt me xs (acc ++ [y]) else lcM mt me xs acc
theorem lc_ok {u0 : UEnv} {mt : α → M Bool} {me : α → M β} (hg : ∀ x, g (e x) u0 = some (ue x)) (ht : ∀ x, TG (ue x) tt (mt x) id) (he : ∀ x, TG (ue x) te (me x) eb) : ∀ (xs : List α) (acc : List β) (Q : U → Prop) (C : List β → Prop),
    (∀ l, C l → Q (tL eb l)) → lcM mt me xs acc C (fun _ => False) → lcW g tt te u0 (xs.map e) (acc.map eb) Q
  | [], acc, Q, C, hC, m => hC acc m
  | x :: xs, acc, Q, C, hC, m => by
    show (match g (e x) u0 with
      | some u1 => tt u1 (fun b => if b = true then te u1 (fun y => lcW g tt te u0 (xs.map e) (acc.map eb ++ [y]) Q) (fun _ => False) else lcW g tt te u0 (xs.map e) (acc.map eb) Q) (fun _ => False)
      | none => False)
    rw [hg]
    refine ht x _ _ _ _ (fun c m => ?_) (fun _ z => z) m
    dsimp only [id]
    cases c with
    | true =>
      rw [if_pos rfl] at m ⊢
      refine he x _ _ _ _ (fun y m => ?_) (fun _ z => z) m
      have := lc_ok hg ht he xs (acc ++ [y]) Q C hC m
      rw [List.map_append] at this
      exact this
    | false =>
      rw [if_neg (by decide)] at m ⊢
      exact lc_ok hg ht he xs acc Q C hC m
/-- a comprehension raises nothing -/
def nx (m : M α) : M α := fun Q _ => m Q (fun _ => False)
theorem tg_lcP {mt : α → M Bool} {me : α → M β} {xs : List α} (hi : TP u it (tMap e xs)) (hg : ∀ x, g (e x) (wipeU u own) = some (ue x)) (ht : ∀ x, TG (ue x) tt (mt x) id) (he : ∀ x, TG (ue x) te (me x) eb) : TG u (vLc it own g tt te) (nx (lcM mt me xs [])) (tL eb) := fun Q X C E hC hE m => hi _ X (lc_ok hg ht he xs [] Q C hC m)
theorem tg_lcM {mt : α → M Bool} {me : α → M β} {mi : M (List α)} (hi : TG u it mi (tMap e)) (hg : ∀ x, g (e x) (wipeU u own) = some (ue x)) (ht : ∀ x, TG (ue x) tt (mt x) id) (he : ∀ x, TG (ue x) te (me x) eb) : TG u (vLc it own g tt te) (bi mi fun xs => nx (lcM mt me xs [])) (tL eb) := fun Q X C E hC hE m => hi _ X _ E (fun xs m => lc_ok hg ht he xs [] Q C hC m) hE m
theorem lcM_pure {mt : α → M Bool} {me : α → M β} {k : α → Bool} {f : α → β} : ∀ (xs : List α) (acc : List β), (∀ x ∈ xs, mt x = pu (k x)) → (∀ x ∈ xs, k x = true → me x = pu (f x)) → lcM mt me xs acc = pu (acc ++ (xs.filter k).map f)
  | [], acc, _, _ => by rw [List.filter_nil, List.map_nil, List.append_nil]; rfl
  | x :: xs, acc, ht, he => by
    unfold lcM
    rw [ht x List.mem_cons_self, pu_bi]
    cases hk : k x with
    | true =>
      rw [if_pos rfl, he x List.mem_cons_self hk, pu_bi, lcM_pure xs _ (fun y hy => ht y (List.mem_cons_of_mem _ hy)) (fun y hy => he y (List.mem_cons_of_mem _ hy)), List.filter_cons, if_pos hk, List.map_cons, List.append_assoc]
      rfl
    | false =>
      rw [if_neg (by decide), lcM_pure xs _ (fun y hy => ht y (List.mem_cons_of_mem _ hy)) (fun y hy => he y (List.mem_cons_of_mem _ hy)), List.filter_cons, if_neg (by rw [hk]; decide)]
theorem nx_lc {mt : α → M Bool} {me : α → M β} (k : α → Bool) (f : α → β) (xs : List α) (ht : ∀ x ∈ xs, mt x = pu (k x)) (he : ∀ x ∈ xs, k x = true → me x = pu (f x)) : nx (lcM mt me xs []) = pu ((xs.filter k).map f) := by
  rw [lcM_pure xs [] ht he]
  rfl
theorem nx_lc1 {me : α → M β} (f : α → β) (xs : List α) (he : ∀ x ∈ xs, me x = pu (f x)) : nx (lcM (fun _ => pu true) me xs []) = pu (xs.map f) := by
  rw [nx_lc (fun _ => true) f xs (fun _ _ => rfl) (fun x hx _ => he x hx), List.filter_eq_self.mpr fun _ _ => rfl]
theorem tp_lc {k : α → Bool} {f : α → β} {xs : List α} (hi : TP u it (tMap e xs)) (hg : ∀ x, g (e x) (wipeU u own) = some (ue x)) (ht : ∀ x, TP (ue x) tt (k x)) (he : ∀ x, TP (ue x) te (eb (f x))) : TP u (vLc it own g tt te) (tL eb ((xs.filter k).map f)) := fun Q X q => by
  refine tg_lcP hi hg (mt := fun x => pu (k x)) (me := fun x => pu (f x)) (fun x => TG.pu (enc := id) (ht x)) (fun x => TG.pu (he x)) Q X (fun l => Q (tL eb l)) (fun _ => False) (fun _ z => z) (fun _ z => z.elim) ?_
  rw [nx_lc k f xs (fun _ _ => rfl) (fun _ _ _ => rfl)]
  exact q
theorem tp_lc1 {f : α → β} {xs : List α} (hi : TP u it (tMap e xs)) (hg : ∀ x, g (e x) (wipeU u own) = some (ue x)) (he : ∀ x, TP (ue x) te (eb (f x))) : TP u (vLc it own g vYes te) (tL eb (xs.map f)) := fun Q X q => by
  refine tg_lcP hi hg (mt := fun x => pu true) (me := fun x => pu (f x)) (fun x => TG.pu (enc := id) fun Q X q => q) (fun x => TG.pu (he x)) Q X (fun l => Q (tL eb l)) (fun _ => False) (fun _ z => z) (fun _ z => z.elim) ?_
  rw [nx_lc1 f xs (fun _ _ => rfl)]
  exact q
theorem tp_yes : TP u vYes true := fun Q X q => q
end
end Ty
set_option maxRecDepth 100000
set_option maxHeartbeats 4000000
namespace Ty
open PySem PySem.Spec PyProof.Rows L2 Pd
def TFn {ρ : Type} (W : VFn) (us : List U) (m : M ρ) (enc : ρ → U) : Prop := ∀ (Q : U → Prop) (X : VX) (C : ρ → Prop) (E : TX → Prop), (∀ a, C a → Q (enc a)) → (∀ x, E x → X x.u) → m C E → W us Q X
section
variable {α β ρ : Type} {u : UEnv} {W : VFn} {us : List U} {n : Nat} {m : M ρ} {er : ρ → U} {l : VA}
theorem tg_call (hf : TFn W us m er) (hl : TP u l us) (hn : us.length = n) : TG u (vCall n W l) m er := fun Q X C E hC hE z => hl _ X ⟨hn, hf Q X C E hC hE z⟩
theorem tg_callM {ma : M α} {ea : α → List U} {f : α → M ρ} (hf : ∀ a, TFn W (ea a) (f a) er) (hl : TG u l ma ea) (hn : ∀ a, (ea a).length = n) : TG u (vCall n W l) (bi ma f) er := fun Q X C E hC hE z => hl _ X _ E (fun a z => ⟨hn a, hf a Q X C E hC hE z⟩) hE z
/-- what holds no list -/
def Pl (e : α → U) : Prop := ∀ a, (e a).plain = true
theorem pl_I : Pl tI := fun _ => rfl
theorem plains_map {e : α → U} (h : Pl e) : ∀ l : List α, U.plains (l.map e) = true
  | [] => by simp [U.plains]
  | a :: l => by
    rw [List.map_cons]
    unfold U.plains
    rw [h a, plains_map h l]
    rfl
theorem pl_P {e : α → U} {f : β → U} (h : Pl e) (h' : Pl f) : Pl (tP e f) := fun a => by
  unfold tP U.plain U.plains U.plains U.plains
  rw [h, h']
  rfl
theorem TX.plain (x : TX) : (x.u.fs.all fun p => p.2.plain) = true := by
  show ((x.fs.map fun p => (p.1, fU p.2)).all fun p => p.2.plain) = true
  rw [List.all_map, List.all_eq_true]
  intro p _
  show (fU p.2).plain = true
  cases p.2 <;> rfl
theorem tg_callW (hp : Pl er) (hf : TFn W us m er) (hl : TP u l us) (hn : us.length = n) : TG u (vCallW n W l) m er := fun Q X C E hC hE z => hl _ X ⟨hn, hf _ _ C E (fun a c => ⟨hp a, hC a c⟩) (fun x e => ⟨x.plain, hE x e⟩) z⟩
theorem tg_callK {k j : Nat} {is : List Nat} {zs vs : List U} {lk : VA} (hf : TFn W vs m er) (hl : TP u l us) (hk : TP u lk zs) (hg : gP k j is us zs = vs) (hn : vs.length = n) : TG u (vCallK k j is n W l lk) m er := fun Q X C E hC hE z => hl _ X (hk _ X (by
  try dsimp only
  rw [hg]
  exact ⟨hn, hf Q X C E hC hE z⟩))
/-- a drawn number -/
def dr (b : Int) : M Int := fun Q _ => (0 < b ∧ b < 1073741824) ∧ ∀ x : Int, 0 ≤ x → x < b → Q x
theorem tf_draw (g : Unit) (b : Int) : TFn W_draw [tG g, tI b] (dr b) tI := fun Q X C E hC hE m => ⟨m.1, fun x h0 h1 => hC x (m.2 x h0 h1)⟩
def begM (left seed : Int) (cells : List Int) : M Unit := rq (0 ≤ seed ∧ seed < 2147483647 ∧ cells ≠ [] ∧ ∀ x ∈ cells, x.natAbs.log2 < 2000000) ()
theorem tg_beg {w1 w2 w3 : VE} {mi mj : M Int} {mc : M (List Int)} (h1 : TG u w1 mi tI) (h2 : TG u w2 mj tI) (h3 : TG u w3 mc (tL tI)) : TG u (vDraw w1 w2 w3) (bi mi fun i => bi mj fun j => bi mc fun cs => begM i j cs) tG := fun Q X C E hC hE m => h1 _ X _ E (fun i m => h2 _ X _ E (fun j m => h3 _ X _ E (fun cs m => ⟨⟨m.1.1, m.1.2.1, cs, rfl, m.1.2.2.1, m.1.2.2.2⟩, hC () m.2⟩) hE m) hE m) hE m
end
abbrev KK (τ : Type) := τ → (UOut → Prop) → Prop
def TS {τ : Type} (u : UEnv) (w : VS) (m : M τ) (K : KK τ) : Prop := ∀ (P : UOut → Prop) (C : τ → Prop) (E : TX → Prop), (∀ t, C t → K t P) → (∀ x, E x → P (.exc x.u)) → m C E → w u P
abbrev Jk := Nat → Option (U × Bool)
/-- what stands in an environment -/
def jk (u : UEnv) : Jk := fun i => u.getD i none
inductive Ctl (σ ρ : Type) where
  | nx (s : σ) | bk (s : σ) | rt (r : ρ)
def isNx : UOut → Bool
  | .nx _ => true
  | _ => false
section
variable {α β σ ρ τ τ' : Type} {u : UEnv}
def kD (enc : ρ → U) : KK ρ := fun r P => P (.rt (enc r))
def kJ (mk : σ → Jk → UEnv) : KK σ := fun s P => ∀ j, P (.nx (mk s j))
def kL (mk : σ → Jk → UEnv) : KK σ := fun s P => ∀ j, P (.nx (mk s j)) ∧ P (.ct (mk s j))
def kX (mk : σ → Jk → UEnv) (enc : ρ → U) : KK (Ctl σ ρ) := fun c P => match c with
  | .nx s => ∀ j, P (.nx (mk s j)) ∧ P (.ct (mk s j))
  | .bk s => ∀ j, P (.bk (mk s j))
  | .rt r => P (.rt (enc r))
def kXx (mk : σ → Jk → UEnv) (enc : ρ → U) : KK (Ctl σ ρ) := fun c P => match c with
  | .nx s => ∀ j, P (.ct (mk s j))
  | .bk s => ∀ j, P (.bk (mk s j))
  | .rt r => P (.rt (enc r))
/-- the outer end seen from within, where nothing goes on -/
def Ex (K K' : KK τ) : Prop := ∀ t (P P' : UOut → Prop), (∀ o, isNx o = false → P o → P' o) → K t P → K' t P'
theorem ex_D {enc : ρ → U} : Ex (kD enc) (kD enc) := fun t P P' h k => h _ rfl k
theorem ex_X {mk : σ → Jk → UEnv} {enc : ρ → U} : Ex (kX mk enc) (kXx mk enc) := fun t P P' h k => by
  cases t with
  | nx s => exact fun j => h _ rfl (k j).2
  | bk s => exact fun j => h _ rfl (k j)
  | rt r => exact h _ rfl k
def Nx (K : KK τ) (t : τ) (u : UEnv) : Prop := ∀ P, K t P → P (.nx u)
def Rt (K : KK τ) (f : ρ → τ) (enc : ρ → U) : Prop := ∀ a P, K (f a) P → P (.rt (enc a))
theorem nx_J {mk : σ → Jk → UEnv} {s : σ} (h : mk s (jk u) = u) : Nx (kJ mk) s u := fun P k => by have := k (jk u); rwa [h] at this
theorem nx_L {mk : σ → Jk → UEnv} {s : σ} (h : mk s (jk u) = u) : Nx (kL mk) s u := fun P k => by have := (k (jk u)).1; rwa [h] at this
theorem nx_X {mk : σ → Jk → UEnv} {enc : ρ → U} {s : σ} (h : mk s (jk u) = u) : Nx (kX mk enc) (.nx s) u := fun P k => by have := (k (jk u)).1; rwa [h] at this
theorem rt_D {enc : ρ → U} : Rt (kD enc) id enc := fun a P k => k
theorem rt_X {mk : σ → Jk → UEnv} {enc : ρ → U} : Rt (kX mk enc) Ctl.rt enc := fun a P k => k
theorem rt_Xx {mk : σ → Jk → UEnv} {enc : ρ → U} : Rt (kXx mk enc) Ctl.rt enc := fun a P k => k
variable {K : KK τ} {b s : VS} {e : VE} {ma : M α} {mb : M β} {k : α → M τ} {m : M τ} {enc : α → U} {encb : β → U} {v w : U}
theorem ts_next {t : τ} (h : Nx K t u) : TS u vNext (pu t) K := fun P C E hC hE z => h P (hC t z)
/-- the end of the list behind it -/
theorem ts_nx (h : TS u (vSeq s vNext) m K) : TS u s m K := fun P C E hC hE z => by
  have := h P C E hC hE z
  unfold vSeq vNext at this
  have e : (fun o => match o with
    | .nx u1 => P (.nx u1)
    | o => P o) = P := by
    funext o
    cases o <;> rfl
  rw [← e]
  exact this
theorem ts_nextS (h : TS u b m K) : TS u (vSeq vNext b) m K := fun P C E hC hE z => h P C E hC hE z
theorem ts_retD {enc : α → U} (he : TG u e ma enc) : TS u (vRet e) ma (kD enc) := fun P C E hC hE z => he _ _ C E (fun a c => hC _ c) hE z
theorem ts_retP {f : α → τ} {a : α} (hK : Rt K f enc) (he : TP u e (enc a)) : TS u (vRet e) (pu (f a)) K := fun P C E hC hE z => he _ _ (hK a P (hC _ z))
theorem ts_set (i : Nat) (he : TG u e ma enc) (h : ∀ a, TS (u.set i (some (enc a, false))) b (k a) K) : TS u (vSeq (vSet i e) b) (bi ma k) K := fun P C E hC hE z => he _ _ _ E (fun a c => h a P C E hC hE c) hE z
theorem ts_setP (i : Nat) (he : TP u e v) (h : TS (u.set i (some (v, false))) b m K) : TS u (vSeq (vSet i e) b) m K := fun P C E hC hE z => he _ _ (h P C E hC hE z)
theorem ts_setO (i : Nat) (he : TG u e ma enc) (h : ∀ a, TS (u.set i (some (enc a, true))) b (k a) K) : TS u (vSeq (vSetO i e) b) (bi ma k) K := fun P C E hC hE z => he _ _ _ E (fun a c => h a P C E hC hE c) hE z
theorem ts_setOP (i : Nat) (he : TP u e v) (h : TS (u.set i (some (v, true))) b m K) : TS u (vSeq (vSetO i e) b) m K := fun P C E hC hE z => he _ _ (h P C E hC hE z)
theorem ts_parG {o1 o2 : Bool} {e2 : VE} {k : α → β → M τ} (i j : Nat) (he : TG u e ma enc) (he2 : TG u e2 mb encb) (h : ∀ x y, TS ((u.set i (some (enc x, o1))).set j (some (encb y, o2))) b (k x y) K) : TS u (vSeq (vParG o1 o2 i j e e2) b) (bi ma fun x => bi mb fun y => k x y) K := fun P C E hC hE z => he _ _ _ E (fun x z => he2 _ _ _ E (fun y z => h x y P C E hC hE z) hE z) hE z
theorem ts_par {e2 : VE} {k : α → β → M τ} (i j : Nat) (he : TG u e ma enc) (he2 : TG u e2 mb encb) (h : ∀ x y, TS ((u.set i (some (enc x, false))).set j (some (encb y, false))) b (k x y) K) : TS u (vSeq (vPar i j e e2) b) (bi ma fun x => bi mb fun y => k x y) K := fun P C E hC hE z => he _ _ _ E (fun x z => he2 _ _ _ E (fun y z => h x y P C E hC hE z) hE z) hE z
theorem ts_asg {g : UG} {u' : α → UEnv} (he : TG u e ma enc) (hg : ∀ a, g (enc a) u = some (u' a)) (h : ∀ a, TS (u' a) b (k a) K) : TS u (vSeq (vAsg g e) b) (bi ma k) K := fun P C E hC hE z => he _ _ _ E (fun a c => by
  show match g (enc a) u with
    | some u1 => b u1 P
    | none => False
  rw [hg]
  exact h a P C E hC hE c) hE z
def appM (l : List α) (x : α) : M (List α) := rq (l.length < sizeLine) (l ++ [x])
theorem app_map (enc : α → U) (l : List α) (x : α) : l.map enc ++ [enc x] = (l ++ [x]).map enc := by rw [List.map_append]; rfl
theorem ts_app {l : List α} {k : List α → M τ} (i : Nat) (hu : u[i]? = some (some (tL enc l, true))) (he : TG u e ma enc) (h : ∀ l, TS (u.set i (some (tL enc l, true))) b (k l) K) : TS u (vSeq (vAppend i e) b) (bi ma fun x => bi (appM l x) k) K := fun P C E hC hE z => by
  show vAppend i e u _
  unfold vAppend
  rw [hu]
  show e u (fun v => (l.map enc).length < sizeLine ∧ _) _
  refine he _ _ _ E (fun x z => ?_) hE z
  rw [List.length_map]
  refine ⟨z.1, ?_⟩
  rw [app_map]
  exact h _ P C E hC hE z.2
theorem ts_appP {l : List α} {x : α} {k : List α → M τ} (i : Nat) (hu : u[i]? = some (some (tL enc l, true))) (he : TP u e (enc x)) (h : ∀ l, TS (u.set i (some (tL enc l, true))) b (k l) K) : TS u (vSeq (vAppend i e) b) (bi (appM l x) k) K := fun P C E hC hE z => by
  show vAppend i e u _
  unfold vAppend
  rw [hu]
  show e u (fun v => (l.map enc).length < sizeLine ∧ _) _
  refine he _ _ ?_
  rw [List.length_map]
  refine ⟨z.1, ?_⟩
  rw [app_map]
  exact h _ P C E hC hE z.2
theorem ts_ext {l : List α} {mx : M (List α)} {k : List α → M τ} (i : Nat) (hu : u[i]? = some (some (tL enc l, true))) (he : TG u e mx (tL enc)) (h : ∀ l, TS (u.set i (some (tL enc l, true))) b (k l) K) : TS u (vSeq (vExtend i e) b) (bi mx fun x => bi (catM l x) k) K := fun P C E hC hE z => by
  show vExtend i e u _
  unfold vExtend
  rw [hu]
  refine he _ _ _ E (fun x z => ?_) hE z
  show (l.map enc).length + (x.map enc).length ≤ sizeLine ∧ _
  rw [List.length_map, List.length_map]
  refine ⟨z.1, ?_⟩
  rw [← List.map_append]
  exact h _ P C E hC hE z.2
variable {t : VT} {c : Bool} {mc : M Bool} {sa sb : VS} {K' : KK τ} {m1 m2 : M τ}
/-- the one side leaves -/
theorem ts_ifx (hx : Ex K K') (ht : TG u t mc id) (h1 : TS u sa m1 K') (h2 : TS u (vSeq sb b) m2 K) : TS u (vSeq (vIfS t sa sb) b) (bi mc fun c => if c = true then m1 else m2) K := fun P C E hC hE z => by
  refine ht _ _ _ E (fun c z => ?_) hE z
  dsimp only [id]
  cases c with
  | true =>
    rw [if_pos rfl] at z ⊢
    exact h1 _ C E (fun t c => hx t P _ (fun o ho p => by cases o <;> first | exact p | cases ho) (hC t c)) hE z
  | false =>
    rw [if_neg (by decide)] at z ⊢
    exact h2 P C E hC hE z
theorem ts_ifxP (hx : Ex K K') (ht : TP u t c) (h1 : TS u sa m1 K') (h2 : TS u (vSeq sb b) m2 K) : TS u (vSeq (vIfS t sa sb) b) (if c = true then m1 else m2) K := fun P C E hC hE z => by
  refine ht _ _ ?_
  cases c with
  | true =>
    rw [if_pos rfl] at z ⊢
    exact h1 _ C E (fun t c => hx t P _ (fun o ho p => by cases o <;> first | exact p | cases ho) (hC t c)) hE z
  | false =>
    rw [if_neg (by decide)] at z ⊢
    exact h2 P C E hC hE z
/-- nothing behind it -/
theorem ts_ife (ht : TG u t mc id) (h1 : TS u sa m1 K) (h2 : TS u sb m2 K) : TS u (vIfS t sa sb) (bi mc fun c => if c = true then m1 else m2) K := fun P C E hC hE z => by
  refine ht _ _ _ E (fun c z => ?_) hE z
  dsimp only [id]
  cases c with
  | true => rw [if_pos rfl] at z ⊢; exact h1 P C E hC hE z
  | false => rw [if_neg (by decide)] at z ⊢; exact h2 P C E hC hE z
theorem ts_ifeP (ht : TP u t c) (h1 : TS u sa m1 K) (h2 : TS u sb m2 K) : TS u (vIfS t sa sb) (if c = true then m1 else m2) K := fun P C E hC hE z => by
  refine ht _ _ ?_
  cases c with
  | true => rw [if_pos rfl] at z ⊢; exact h1 P C E hC hE z
  | false => rw [if_neg (by decide)] at z ⊢; exact h2 P C E hC hE z
/-- some ways leave -/
def thn (m : M (σ ⊕ τ)) (k : σ → M τ) : M τ := bi m fun o => match o with
  | .inl s => k s
  | .inr t => pu t
def forM (f : α → σ → M σ) : List α → σ → M σ
  | [], s => pu s
  | x :: xs, s => bi (f x s) fun s => forM f xs s
variable {it : VI} {g : UG} {body : VS} {mk : σ → Jk → UEnv} {ub : α → σ → Jk → UEnv} {f : α → σ → M σ} {xs : List α} {mi : M (List α)} {s0 : σ} {kk : σ → M τ}
theorem for_ok (hg : ∀ x s j, g (enc x) (mk s j) = some (ub x s j)) (hb : ∀ x s j, TS (ub x s j) body (f x s) (kL mk)) {P : UOut → Prop} {E : TX → Prop} (hE : ∀ x, E x → P (.exc x.u)) : ∀ (xs : List α) (s : σ) (j : Jk) (C : σ → Prop), (∀ s, C s → ∀ j, P (.nx (mk s j))) → forM f xs s C E → forW g body (xs.map enc) (mk s j) P
  | [], s, j, C, hC, z => hC s z j
  | x :: xs, s, j, C, hC, z => by
    show (match g (enc x) (mk s j) with
      | some u1 => body u1 _
      | none => False)
    rw [hg]
    refine hb x s j _ _ E (fun s' z j' => ⟨?_, ?_⟩) (fun x e => hE x e) z
    · exact for_ok hg hb hE xs s' j' C hC z
    · exact for_ok hg hb hE xs s' j' C hC z
theorem ts_forP (hi : TP u it (tMap enc xs)) (h0 : mk s0 (jk u) = u) (hg : ∀ x s j, g (enc x) (mk s j) = some (ub x s j)) (hb : ∀ x s j, TS (ub x s j) body (f x s) (kL mk)) (h : ∀ s j, TS (mk s j) b (kk s) K) : TS u (vSeq (vFor it g body) b) (bi (forM f xs s0) kk) K := fun P C E hC hE z => by
  refine hi _ _ ?_
  rw [← h0]
  exact for_ok hg hb (P := fun o => match o with
    | .nx u1 => b u1 P
    | o => P o) (fun x e => hE x e) xs s0 (jk u) _ (fun s z j => h s j P C E hC hE z) z
theorem ts_forM (hi : TG u it mi (tMap enc)) (h0 : mk s0 (jk u) = u) (hg : ∀ x s j, g (enc x) (mk s j) = some (ub x s j)) (hb : ∀ x s j, TS (ub x s j) body (f x s) (kL mk)) (h : ∀ s j, TS (mk s j) b (kk s) K) : TS u (vSeq (vFor it g body) b) (bi mi fun xs => bi (forM f xs s0) kk) K := fun P C E hC hE z => by
  refine hi _ _ _ E (fun xs z => ?_) hE z
  exact ts_forP (it := fun u Q X => Q (xs.map enc)) (fun Q X q => q) h0 hg hb h P C E hC hE z
def forX (f : α → σ → M (Ctl σ ρ)) : List α → σ → M (σ ⊕ ρ)
  | [], s => pu (.inl s)
  | x :: xs, s => bi (f x s) fun o => match o with
    | .nx s => forX f xs s
    | .bk s => pu (.inl s)
    | .rt r => pu (.inr r)
def thr (m : M (σ ⊕ ρ)) (k : σ → M τ) (r : ρ → τ) : M τ := bi m fun o => match o with
  | .inl s => k s
  | .inr t => pu (r t)
variable {fx : α → σ → M (Ctl σ ρ)} {er : ρ → U} {rr : ρ → τ}
theorem forx_ok (hg : ∀ x s j, g (enc x) (mk s j) = some (ub x s j)) (hb : ∀ x s j, TS (ub x s j) body (fx x s) (kX mk er)) {P : UOut → Prop} {E : TX → Prop} (hE : ∀ x, E x → P (.exc x.u)) : ∀ (xs : List α) (s : σ) (j : Jk) (C : σ ⊕ ρ → Prop), (∀ s, C (.inl s) → ∀ j, P (.nx (mk s j))) → (∀ r, C (.inr r) → P (.rt (er r))) → forX fx xs s C E → forW g body (xs.map enc) (mk s j) P
  | [], s, j, C, hC, _, z => hC s z j
  | x :: xs, s, j, C, hC, hR, z => by
    show (match g (enc x) (mk s j) with
      | some u1 => body u1 _
      | none => False)
    rw [hg]
    refine hb x s j _ _ E (fun s' z => ?_) (fun x e => hE x e) z
    cases s' with
    | nx s' => exact fun j' => ⟨forx_ok hg hb hE xs s' j' C hC hR z, forx_ok hg hb hE xs s' j' C hC hR z⟩
    | bk s' => exact fun j' => hC s' z j'
    | rt r => exact hR r z
theorem ts_forXP (hr : Rt K rr er) (hi : TP u it (tMap enc xs)) (h0 : mk s0 (jk u) = u) (hg : ∀ x s j, g (enc x) (mk s j) = some (ub x s j)) (hb : ∀ x s j, TS (ub x s j) body (fx x s) (kX mk er)) (h : ∀ s j, TS (mk s j) b (kk s) K) : TS u (vSeq (vFor it g body) b) (thr (forX fx xs s0) kk rr) K := fun P C E hC hE z => by
  refine hi _ _ ?_
  rw [← h0]
  exact forx_ok hg hb (P := fun o => match o with
    | .nx u1 => b u1 P
    | o => P o) (fun x e => hE x e) xs s0 (jk u) _ (fun s z j => h s j P C E hC hE z) (fun r z => hr r P (hC _ z)) z
theorem ts_forXM (hr : Rt K rr er) (hi : TG u it mi (tMap enc)) (h0 : mk s0 (jk u) = u) (hg : ∀ x s j, g (enc x) (mk s j) = some (ub x s j)) (hb : ∀ x s j, TS (ub x s j) body (fx x s) (kX mk er)) (h : ∀ s j, TS (mk s j) b (kk s) K) : TS u (vSeq (vFor it g body) b) (bi mi fun xs => thr (forX fx xs s0) kk rr) K := fun P C E hC hE z => by
  refine hi _ _ _ E (fun xs z => ?_) hE z
  exact ts_forXP (it := fun u Q X => Q (xs.map enc)) hr (fun Q X q => q) h0 hg hb h P C E hC hE z
theorem tf_run {N : Nat} {w : VS} {us : List U} {m : M ρ} (h : TS (us.map (fun v => some (v, false)) ++ List.replicate (N - us.length) none) w m (kD er)) : TFn (vRun N w) us m er := fun Q X C E hC hE z => h _ C E (fun r c => hC r c) (fun x e => hE x e) z
end
end Ty
set_option maxRecDepth 100000
set_option maxHeartbeats 4000000
namespace Ty
open PySem PySem.Spec PyProof.Rows L2 Pd
section
variable {κ α β τ A : Type} [DecidableEq κ] [DecidableEq A]
def tDK (kf : κ → Key) (e : α → U) : List (κ × α) → U := fun d => .dK (d.map fun p => kf p.1) (d.map fun p => e p.2)
/-- what a dict holds -/
def lk (d : List (κ × α)) (k : κ) : Option α := match d with
  | [] => none
  | (x, a) :: d => if x = k then some a else lk d k
def putA (d : List (κ × α)) (k : κ) (a : α) : List (κ × α) := if d.any (fun p => decide (p.1 = k)) = true then d.map (fun p => if p.1 = k then (p.1, a) else p) else d ++ [(k, a)]
structure KeyK (kf : κ → Key) (ek : κ → U) : Prop where
  key : ∀ k, (ek k).keyOf = some (kf k)
  inj : ∀ a b, kf a = kf b → a = b
def qI : Int → Key := .inl
theorem key_I : KeyK qI tI := ⟨fun _ => rfl, fun a b h => by injection h⟩
variable {e : α → U}
theorem look_map {kf : κ → A} (hi : ∀ a b, kf a = kf b → a = b) (k : κ) : ∀ d : List (κ × α), lookU (d.map fun p => kf p.1) (d.map fun p => e p.2) (kf k) = (lk d k).map e
  | [] => rfl
  | (x, a) :: d => by
    rw [List.map_cons, List.map_cons]
    unfold lookU lk
    by_cases h : x = k
    · rw [if_pos h, if_pos (by rw [h])]
      rfl
    · rw [if_neg h, if_neg (fun z => h (hi _ _ z))]
      exact look_map hi k d
theorem put_map {kf : κ → A} (hi : ∀ a b, kf a = kf b → a = b) (d : List (κ × α)) (k : κ) (a : α) : putKs (d.map fun p => kf p.1) (kf k) = (putA d k a).map (fun p => kf p.1) ∧ putUs (d.map fun p => kf p.1) (d.map fun p => e p.2) (kf k) (e a) = (putA d k a).map (fun p => e p.2) := by
  have ha : ((d.map fun p => kf p.1).any fun x => decide (x = kf k)) = d.any fun p => decide (p.1 = k) := by
    rw [List.any_map]
    congr 1
    funext p
    rw [Bool.eq_iff_iff]
    show decide (kf p.1 = kf k) = true ↔ _
    rw [decide_eq_true_eq, decide_eq_true_eq]
    exact ⟨hi _ _, fun z => by rw [z]⟩
  unfold putKs putUs putA
  rw [ha]
  by_cases h : (d.any fun p => decide (p.1 = k)) = true
  · rw [if_pos h, if_pos h, if_pos h]
    constructor
    · rw [List.map_map]
      refine List.map_congr_left fun p _ => ?_
      show kf p.1 = kf (if p.1 = k then (p.1, a) else p).1
      split <;> rfl
    · clear h ha
      induction d with
      | nil => rfl
      | cons p d ih =>
        rw [List.map_cons, List.map_cons, List.zipWith_cons_cons, List.map_cons, List.map_cons, ih]
        congr 1
        by_cases hp : p.1 = k
        · rw [if_pos hp, if_pos (by rw [hp])]
        · rw [if_neg hp, if_neg fun z => hp (hi _ _ z)]
  · rw [if_neg h, if_neg h, if_neg h, List.map_append, List.map_append]
    exact ⟨rfl, rfl⟩
variable {u : UEnv} {w w' : VE} {kfK : κ → Key} {kfT : κ → List Key} {ek : κ → U} {d : List (κ × α)} {k : κ} {md : M (List (κ × α))} {mk : M κ}
theorem dget_K (h : KeyK kfK ek) (d : List (κ × α)) (k : κ) : dGetU (tDK kfK e d) (ek k) = some ((lk d k).map e) := by
  show (match (ek k).keyOf with
    | some k => some (lookU (d.map fun (p : κ × α) => kfK p.1) (d.map fun (p : κ × α) => e p.2) k)
    | none => none) = _
  rw [h.key]
  try dsimp only
  rw [look_map h.inj]
theorem o_inDK (h : KeyK kfK ek) : O2P vIn ek (tDK kfK e) (fun a d => (lk d a).isSome) tB := fun a d Q q => by
  unfold vIn
  show match (dGetU (tDK kfK e d) (ek a)).map Option.isSome with
    | some k => Q (.bl k)
    | none => False
  rw [dget_K h]
  show Q (.bl ((lk d a).map e).isSome)
  rw [Option.isSome_map]
  exact q
theorem o_ixDK (h : KeyK kfK ek) : O2 vIx (tDK kfK e) ek (fun d k => op? (lk d k)) e := fun d k Q C E hC m => by
  unfold vIx
  show match dGetU (tDK kfK e d) (ek k) with
    | some (some x) => Q x
    | _ => False
  rw [dget_K h]
  replace m : op? (lk d k) C E := m
  cases z : lk d k with
  | none => rw [z] at m; exact m.elim
  | some x => rw [z] at m; exact hC x m
def putK (kf : κ → Key) (d : List (κ × α)) (k : κ) (a : α) : M (List (κ × α)) := rq (d.length < sizeLine ∧ (putA d k a).map (fun p => kf p.1) ≠ drawKeys) (putA d k a)
variable {K : KK τ} {b : VS} {ma : M α} {v ei : VE}
end
end Ty
set_option maxRecDepth 100000
set_option maxHeartbeats 4000000
namespace Ty
open PySem PySem.Spec PyProof.Rows L2 Pd
theorem len_ok {l : List U} (n : Nat) (h : l.length = n) (hn : n ≤ 1000) : l.length ≤ sizeLine := by
  rw [h, sizeLine_eq]
  omega
section
variable {α β ρ τ : Type} {u : UEnv} {e : α → U} {U0 : Option α → UEnv} {o : Option α} {b : Bool} {i : Nat} {K K' : KK τ} {A B sb : VS} {m1 : M τ} {m2 : α → M τ} {s : VT} {ms : α → M Bool}
theorem ts_retDP {enc : ρ → U} {a : ρ} {w : VE} (he : TP u w (enc a)) : TS u (vRet w) (pu a) (kD enc) := fun P C E hC hE z => he _ _ (hC _ z)
theorem tg_L1 {gv : VOL} {l : VA} {ea : α → List U} {eb : α → U} {m : M α} (h : ∀ a, OL gv (ea a) (eb a)) (hl : TG u l m ea) : TG u (vL gv l) m eb := fun Q X C E hC hE z => hl _ X _ E (fun a z => h a Q (hC _ z)) hE z
end
end Ty
set_option maxRecDepth 100000
set_option maxHeartbeats 400000
namespace Ty
open PySem PySem.Spec PyProof.Rows L2 Pd
end Ty
set_option maxRecDepth 100000
set_option maxHeartbeats 400000
namespace Ty
open PySem PySem.Spec PyProof.Rows L2 Pd SrtT
section
variable {α β κ : Type} {u : UEnv} {e : α → U}
/-- pairs -/
def prL (p : Int × Int) : List Int := [p.1, p.2]
def prB (t : List Int) : Int × Int := (t.getD 0 0, t.getD 1 0)
theorem tupsOf_LP : ∀ l : List (Int × Int), (tL (tP tI tI) l).tupsOf = some (l.map prL) := fun l => by
  show (l.map (tP tI tI)).mapM U.tupI = some (l.map prL)
  induction l with
  | nil => rfl
  | cons t l ih => rw [List.map_cons, List.mapM_cons, ih]; rfl
def sortIM (l : List Int) : M (List Int) := rq (l.length ≤ sizeLine) (sortI l)
theorem tupsOf_LI : ∀ l : List Int, l ≠ [] → (tL tI l).tupsOf = none := fun l h => by
  cases l with
  | nil => exact absurd rfl h
  | cons a l => rfl
theorem l_sortedI (a : List Int) (Q : U → Prop) (C : List Int → Prop) (E : TX → Prop) (hC : ∀ b, C b → Q (tL tI b)) (m : sortIM a C E) : vSorted [tL tI a] Q := by
  show (match (tL tI a).tupsOf with
    | some ts => okT ts = true ∧ shT ts ∧ Q (.lst ((sortT ts).map tupU))
    | none => match (tL tI a).ints with
      | some ns => ns.length ≤ sizeLine ∧ Q (.lst ((sortI ns).map .int))
      | none => False)
  cases a with
  | nil =>
    have e1 : sortI [] = [] := List.Perm.eq_nil (sortI_perm [])
    have e2 : sortT [] = [] := List.Perm.eq_nil (sortT_perm [])
    have h := hC _ m.2
    rw [e1] at h
    refine ⟨rfl, ⟨Nat.zero_le _, fun t ht => (by cases ht)⟩, ?_⟩
    show Q (.lst (List.map tupU (sortT ([] : List (List Int)).reverse)))
    rw [List.reverse_nil, e2]
    exact h
  | cons x a =>
    rw [tupsOf_LI _ (by simp)]
    dsimp only
    rw [show (tL tI (x :: a)).ints = some (x :: a) from ints_mapM _]
    exact ⟨m.1, hC _ m.2⟩
variable [DecidableEq κ] {kfT : κ → List Key} {ek : κ → U} {w w' wz : VE} {d : List (κ × α)} {k : κ} {a z : α} {mk : M κ} {ma mz : M α}
def memB (a : κ) (l : List κ) : Bool := l.any fun y => decide (y = a)
theorem memB_iff {a : κ} {l : List κ} : memB a l = true ↔ a ∈ l := by
  unfold memB
  rw [List.any_eq_true]
  exact ⟨fun ⟨x, h, e⟩ => by rw [← of_decide_eq_true e]; exact h, fun h => ⟨a, h, decide_eq_true rfl⟩⟩
theorem memB_eq {a : κ} {l : List κ} (i : Decidable (a ∈ l)) : @decide (a ∈ l) i = memB a l := by
  rw [Bool.eq_iff_iff, decide_eq_true_eq, memB_iff]
theorem o_inTm {n : Nat} {e : κ → U} (h : CmpN n e) (hn : n ≤ 63) : O2P vIn e (tT e) (fun a l => memB a l) tB := fun a l Q q => o_inT h hn a l Q (by dsimp only at q ⊢; rw [memB_eq]; exact q)
theorem o_inLm {n : Nat} {e : κ → U} (h : CmpN n e) (hn : n ≤ 63) : O2P vIn e (tL e) (fun a l => memB a l) tB := fun a l Q q => o_inL h hn a l Q (by dsimp only at q ⊢; rw [memB_eq]; exact q)
theorem o_notinLm {n : Nat} {e : κ → U} (h : CmpN n e) (hn : n ≤ 63) : O2P vNotIn e (tL e) (fun a l => !memB a l) tB := fun a l Q q => o_notinL h hn a l Q (by dsimp only at q ⊢; rw [memB_eq]; exact q)
variable {l : List α} {wl wh : VG (Option Int)} {lo hi : Option Int} {mh : M (Option Int)}
end
end Ty
set_option maxRecDepth 100000
set_option maxHeartbeats 400000
namespace Ty
open PySem PySem.Spec PyProof.Rows L2 Pd
end Ty
set_option maxRecDepth 100000
set_option maxHeartbeats 400000
namespace Ty
open PySem PySem.Spec PyProof.Rows L2 Pd
section
variable {α β : Type} {e : α → U} {u : UEnv} {n : Nat}
def tX (e : α → U) : List α → U := fun l => .xt (l.map e)
theorem seqX : Seq (tX e) e := fun _ => rfl
theorem pl_X (h : Pl e) : Pl (tX e) := fun a => by
  unfold tX U.plain
  exact plains_map h a
theorem toP_X (m : Nat) (l : List α) : (tX e l).toP m = (tT e l).toP m := by
  cases m <;> rfl
theorem isIn_X (h : CmpN n e) (hn : n ≤ 63) (a : α) (l : List α) [DecidableEq α] : isInU (e a) (tX e l) = some (decide (a ∈ l)) := by
  rw [← isIn_T h hn a l]
  show (match (e a).toP 64, (tX e l).toP 64 with
    | some p, some (.list ds) => some (ds.any fun z => PyData.eqv z p)
    | some p, some (.tuple ds) => some (ds.any fun z => PyData.eqv z p)
    | _, _ => none) = _
  rw [toP_X]
  rfl
theorem o_inXm [DecidableEq α] (h : CmpN n e) (hn : n ≤ 63) : O2P vIn e (tX e) (fun a l => memB a l) tB := fun a l Q q => by
  unfold vIn
  rw [isIn_X h hn, memB_eq]
  exact q
theorem l_tupleX {s : List α → U} (hs : Seq s e) (a : List α) (hx : (s a).isTup = false := by rfl) : OL vTupleX [s a] (tX e a) := fun Q q => by
  unfold vTupleX
  try dsimp only
  rw [hs a]
  exact ⟨hx, q⟩
end
end Ty
set_option maxRecDepth 100000
set_option maxHeartbeats 400000
namespace Ty
open PySem PySem.Spec PyProof.Rows L2 Pd SrtT
section
def setP (l : List (Int × Int)) : List (Int × Int) := (setT (l.map prL)).map prB
theorem setP_map (l : List (Int × Int)) : setT (l.map prL) = (setP l).map prL := by
  unfold setP
  rw [List.map_map]
  have : ∀ t ∈ setT (l.map prL), (prL ∘ prB) t = t := fun t ht => by
    obtain ⟨p, _, rfl⟩ := List.mem_map.mp (mem_setT.mp ht)
    rfl
  exact ((List.map_congr_left this).trans (List.map_id _)).symm
theorem prL_inj {p q : Int × Int} (h : prL p = prL q) : p = q := by
  unfold prL at h
  rw [List.cons.injEq, List.cons.injEq] at h
  exact Prod.ext h.1 h.2.1
theorem mem_setP {p : Int × Int} {l : List (Int × Int)} : p ∈ setP l ↔ p ∈ l := by
  have e : prL p ∈ (setP l).map prL ↔ prL p ∈ l.map prL := by
    rw [← setP_map]
    exact mem_setT
  rw [List.mem_map, List.mem_map] at e
  constructor
  · intro h
    obtain ⟨q, hq, ee⟩ := e.mp ⟨p, h, rfl⟩
    rw [← prL_inj ee]
    exact hq
  · intro h
    obtain ⟨q, hq, ee⟩ := e.mpr ⟨p, h, rfl⟩
    rw [← prL_inj ee]
    exact hq
theorem nodup_setP (l : List (Int × Int)) : (setP l).Nodup := by
  have h : ((setP l).map prL).Nodup := by
    rw [← setP_map]
    unfold setT
    exact (sortT_perm _).nodup_iff.mpr (nodup_dedT _)
  exact List.Pairwise.of_map prL (fun _ _ hne e => hne (congrArg prL e)) h
/-- pairs of numbers that are not below 0 -/
def nnP (l : List (Int × Int)) : Bool := l.all fun p => decide (0 ≤ p.1) && decide (0 ≤ p.2)
def setPM (l : List (Int × Int)) : M (List (Int × Int)) := rq (l.length < 64 ∧ nnP l = true) (setP l)
theorem l_sortset2P (a : List (Int × Int)) (Q : U → Prop) (C : List (Int × Int) → Prop) (E : TX → Prop) (hC : ∀ b, C b → Q (tL (tP tI tI) b)) (m : setPM a C E) : vSortSet2 [tL (tP tI tI) a] Q := by
  show (match (tL (tP tI tI) a).tupsL with
    | some ts => setOk ts = true ∧ (∀ t ∈ ts, t.length ≤ sizeLine) ∧ Q (.lst ((setT ts).map tupU))
    | none => _)
  have e : (tL (tP tI tI) a).tupsL = some (a.map prL) := tupsOf_LP a
  rw [e]
  refine ⟨?_, fun t ht => ?_, ?_⟩
  · unfold setOk
    rw [Bool.and_eq_true, decide_eq_true_eq, List.length_map, List.all_eq_true]
    refine ⟨m.1.1, fun t ht => ?_⟩
    obtain ⟨p, hp, rfl⟩ := List.mem_map.mp ht
    have hl : ((a.map prL).headD []).length = 2 := by
      cases a with
      | nil => cases hp
      | cons q a => rfl
    have h := List.all_eq_true.mp m.1.2 p hp
    rw [Bool.and_eq_true] at h
    rw [hl]
    show (decide ((2 : Nat) = 2) && (true && (decide (0 ≤ p.1) && (decide (0 ≤ p.2) && true)))) = true
    rw [h.1, h.2]
    rfl
  · obtain ⟨p, _, rfl⟩ := List.mem_map.mp ht
    show (2 : Nat) ≤ sizeLine
    rw [sizeLine_eq]
    decide
  · rw [setP_map, List.map_map]
    exact hC _ m.2
end
end Ty
set_option maxRecDepth 100000
set_option maxHeartbeats 400000
namespace Ty
open PySem PySem.Spec PyProof.Rows L2 Pd
end Ty
set_option maxRecDepth 100000
set_option maxHeartbeats 400000
namespace Ty
open PySem PySem.Spec PyProof.Rows L2 Pd SrtT
section
variable {κ α β γ τ ρ : Type} {e : α → U} {u : UEnv}
theorem o_addN : O2P vAddN tI tI (fun a b => a + b) tI := fun a b Q q => q
variable {w wl wh : VE}
end
section
variable {α β τ : Type} {e : α → U} {eb : β → U} {u : UEnv}
theorem ks_nd {d : List (Int × β)} : d.map (fun p => qI p.1) ≠ drawKeys := by
  cases d with
  | nil => intro h; cases h
  | cons p d => intro h; rw [List.map_cons] at h; unfold drawKeys at h; injection h with h; cases h
def dcM (mt : α → M Bool) (mk : α → M Int) (me : α → M β) : List α → List (Int × β) → M (List (Int × β))
  | [], acc => pu acc
  | x :: xs, acc => bi (mt x) fun c => if c = true then bi (mk x) fun k => bi (me x) fun y => dcM mt mk me xs (putA acc k y) else dcM mt mk me xs acc
variable {it : VI} {own : List Nat} {g : UG} {tt : VT} {tk te : VE} {ue : α → UEnv}
theorem dc_ok {u0 : UEnv} {mt : α → M Bool} {mk : α → M Int} {me : α → M β} (hg : ∀ x, g (e x) u0 = some (ue x)) (ht : ∀ x, TG (ue x) tt (mt x) id) (hk : ∀ x, TG (ue x) tk (mk x) tI) (he : ∀ x, TG (ue x) te (me x) eb) : ∀ (xs : List α) (acc : List (Int × β)) (Q : U → Prop) (C : List (Int × β) → Prop),
    (∀ l, C l → Q (tDK qI eb l)) → dcM mt mk me xs acc C (fun _ => False) → dcW g tt tk te u0 (xs.map e) (acc.map fun p => qI p.1) (acc.map fun p => eb p.2) Q
  | [], acc, Q, C, hC, m => ⟨ks_nd, hC acc m⟩
  | x :: xs, acc, Q, C, hC, m => by
    rw [List.map_cons]
    unfold dcW
    rw [hg]
    dsimp only
    refine ht x _ _ _ _ (fun c m => ?_) (fun _ z => z) m
    dsimp only [id]
    cases c with
    | true =>
      rw [if_pos rfl] at m ⊢
      refine hk x _ _ _ _ (fun k m => ?_) (fun _ z => z) m
      refine he x _ _ _ _ (fun y m => ?_) (fun _ z => z) m
      have := dc_ok hg ht hk he xs (putA acc k y) Q C hC m
      have p := put_map (e := eb) key_I.inj acc k y
      rw [← p.1, ← p.2] at this
      exact this
    | false =>
      rw [if_neg (by decide)] at m ⊢
      exact dc_ok hg ht hk he xs acc Q C hC m
theorem tg_dcP {mt : α → M Bool} {mk : α → M Int} {me : α → M β} {xs : List α} (hi : TP u it (tMap e xs)) (hg : ∀ x, g (e x) (wipeU u own) = some (ue x)) (ht : ∀ x, TG (ue x) tt (mt x) id) (hk : ∀ x, TG (ue x) tk (mk x) tI) (he : ∀ x, TG (ue x) te (me x) eb) : TG u (vDc it own g tt tk te) (nx (dcM mt mk me xs [])) (tDK qI eb) := fun Q X C E hC hE m => hi _ X (dc_ok hg ht hk he xs [] Q C hC m)
end
end Ty
set_option maxRecDepth 100000
set_option maxHeartbeats 400000
namespace Ty
open PySem PySem.Spec PyProof.Rows L2 Pd SrtT
section
variable {κ α β τ : Type} [DecidableEq κ] {kf : κ → List Key} {ek : κ → U} {e : β → U} {u : UEnv} {wa wb : VE} {s : List κ → U} {s' : List β → U} {a : List κ} {b : List β}
theorem ts_err {K : KK τ} : TS u vErrS no K := fun P C E hC hE z => z.elim
end
end Ty
set_option maxRecDepth 100000
set_option maxHeartbeats 400000
namespace Ty
open PySem PySem.Spec PyProof.Rows L2 Pd SrtT
def nstKey (s : Bool) (q : Int × Int) : Int := if s = true then q.2 else q.1
def nstVal (s : Bool) (q : Int × Int) : Int := if s = true then q.1 else q.2
/-- the lists of what is told at each spot -/
def nestL (s : Bool) (o : Int × List (Int × Int)) : List (List Int) := (List.range o.1.toNat).map fun (a : Nat) => (o.2.filter fun q => decide (nstKey s q = (a : Int))).map (nstVal s)
def nestOk (s : Bool) (o : Int × List (Int × Int)) : Prop := 0 ≤ o.1 ∧ o.1 ≤ 1000 ∧ o.2.length ≤ 1000 ∧ ∀ q ∈ o.2, 0 ≤ nstKey s q ∧ nstKey s q < o.1 ∧ 0 ≤ nstVal s q
def nestM (s : Bool) (o : Int × List (Int × Int)) : M (List (List Int)) := rq (nestOk s o) (nestL s o)
theorem nest_eq {s : Bool} {o : Int × List (Int × Int)} (h : nestOk s o) : (tL (tL tI)) (nestL s o) = .lst ((List.range o.1.toNat).map fun a => .lst ((colL (o.2.map fun q => ((nstKey s q).toNat, (nstVal s q).toNat)) a).map fun (k : Nat) => .int (k : Nat))) := by
  unfold nestL
  show U.lst (List.map _ (List.map _ _)) = _
  rw [List.map_map]
  congr 1
  refine List.map_congr_left fun a _ => ?_
  show U.lst (List.map _ (List.map _ _)) = _
  congr 1
  unfold colL
  rw [List.filter_map, List.map_map, List.map_map, List.map_map]
  have e : (o.2.filter fun q => decide (nstKey s q = (a : Int))) = o.2.filter ((fun q : Nat × Nat => decide (q.1 = a)) ∘ fun q => ((nstKey s q).toNat, (nstVal s q).toNat)) := List.filter_congr fun q hq => by
    have := (h.2.2.2 q hq).1
    rw [Function.comp_apply, Bool.eq_iff_iff, decide_eq_true_eq, decide_eq_true_eq]
    dsimp only
    omega
  rw [e]
  refine List.map_congr_left fun q hq => ?_
  have := (h.2.2.2 q (List.mem_filter.mp hq).1).2.2
  show U.int (nstVal s q) = U.int (((nstVal s q).toNat : Nat) : Int)
  congr 1
  omega
theorem nest_pairs {s : Bool} {o : Int × List (Int × Int)} (h : nestOk s o) : o.2.map (tP tI tI) = (o.2.map fun q => ((nstKey s q).toNat, (nstVal s q).toNat)).map (pairU s) := by
  rw [List.map_map]
  refine List.map_congr_left fun q hq => ?_
  obtain ⟨a, _, b⟩ := h.2.2.2 q hq
  rw [Function.comp_apply]
  unfold pairU nstKey nstVal at *
  cases s with
  | true =>
    rw [if_pos rfl] at a b ⊢
    rw [if_pos rfl]
    show U.tup [.int q.1, .int q.2] = U.tup [.int ((q.1.toNat : Nat) : Int), .int ((q.2.toNat : Nat) : Int)]
    rw [show ((q.1.toNat : Nat) : Int) = q.1 by omega, show ((q.2.toNat : Nat) : Int) = q.2 by omega]
  | false =>
    rw [if_neg (by decide)] at a b ⊢
    rw [if_neg (by decide)]
    show U.tup [.int q.1, .int q.2] = U.tup [.int ((q.1.toNat : Nat) : Int), .int ((q.2.toNat : Nat) : Int)]
    rw [show ((q.1.toNat : Nat) : Int) = q.1 by omega, show ((q.2.toNat : Nat) : Int) = q.2 by omega]
theorem tf_nest {s : Bool} {c : List (Int × Int) → U} (hc : (∀ l, c l = .tup (l.map (tP tI tI))) ∨ ∀ l, c l = .xt (l.map (tP tI tI))) (o : Int × List (Int × Int)) : TFn (WNest s) [tP tI c o] (nestM s o) (tL (tL tI)) := fun Q X C E hC hE z => by
  obtain ⟨h, z⟩ := z
  have hr := hC _ z
  rw [nest_eq h] at hr
  refine ⟨o.1.toNat, c o.2, o.2.map fun q => ((nstKey s q).toNat, (nstVal s q).toNat), ?_, ?_, fun q hq => ?_, by have := h.2.1; have := h.1; omega, by rw [List.length_map]; exact h.2.2.1, hr⟩
  · show [U.tup [.int o.1, c o.2]] = _
    rw [show ((o.1.toNat : Nat) : Int) = o.1 by have := h.1; omega]
  · rw [← nest_pairs h]
    exact hc.elim (fun e => .inl (e _)) fun e => .inr (e _)
  · obtain ⟨q', hq', rfl⟩ := List.mem_map.mp hq
    obtain ⟨a, b, _⟩ := h.2.2.2 q' hq'
    dsimp only
    omega
theorem tf_nestX {s : Bool} (o : Int × List (Int × Int)) : TFn (WNest s) [tP tI (tX (tP tI tI)) o] (nestM s o) (tL (tL tI)) := tf_nest (.inr fun _ => rfl) o
theorem tf_nestT {s : Bool} (o : Int × List (Int × Int)) : TFn (WNest s) [tP tI (tT (tP tI tI)) o] (nestM s o) (tL (tL tI)) := tf_nest (.inl fun _ => rfl) o
end Ty
set_option maxRecDepth 100000
set_option maxHeartbeats 400000
namespace Ty
open PySem PySem.Spec PyProof.Rows L2 Pd SrtT
section
variable {α β γ δ : Type} {e : α → U} {f : β → U} {g : γ → U} {h : δ → U} {u : UEnv}
theorem o_isK_iI : O1P (vIsK .int) tI (fun _ => true) tB := fun a Q q => q
theorem o_isK_bI : O1P (vIsK .bool) tI (fun _ => false) tB := fun a Q q => q
theorem o_isK_tT : O1P (vIsK .tuple) (tT e) (fun _ => true) tB := fun a Q q => q
def ltP (x y : Int × Int) : Bool := HT.lexLt [x.1, x.2] [y.1, y.2]
end
end Ty
set_option maxRecDepth 100000
set_option maxHeartbeats 400000
namespace Ty
open PySem PySem.Spec PyProof.Rows L2 Pd SrtT
end Ty
set_option maxRecDepth 100000
set_option maxHeartbeats 400000
namespace Ty
open PySem PySem.Spec PyProof.Rows L2 Pd SrtT
end Ty
set_option maxRecDepth 100000
set_option maxHeartbeats 400000
namespace Ty
open PySem PySem.Spec PyProof.Rows L2 Pd SrtT
end Ty
set_option maxRecDepth 100000
set_option maxHeartbeats 4000000
namespace Pd
open PySem PySem.Spec PyProof.Rows L2
end Pd
namespace Ty
open PySem PySem.Spec PyProof.Rows L2 Pd SrtT
end Ty
set_option maxRecDepth 100000
set_option maxHeartbeats 4000000
namespace Ty
open PySem PySem.Spec PyProof.Rows L2 Pd SrtT
end Ty
set_option maxRecDepth 100000
set_option maxHeartbeats 4000000
namespace Pd
open PySem PySem.Spec PyProof.Rows L2
def oRem (x : D) (l : List D) (st : Store) : Res D := match x, l with
  | .ref n, [.int k] => match getL st n with
    | some l => match l.mapM asInt with
      | some ns => if k ∈ ns then .ok .non (st.set n (.lst ((ns.erase k).map .int))) else .err
      | none => .err
    | none => .err
  | _, _ => .err
theorem takesN {X : Cx} : Takes X (fun _ _ _ _ => False) := fun _ _ x => by
  obtain ⟨_, _, _, _, _, _, _, _, _, _, _, _, _, _, _, _, w⟩ := x
  exact w.elim
theorem RDs.ofInts {K : PySem.W.Frag} {f : List Addr} {H : Hp} : ∀ ns : List Int, RDs K f H (ns.map .int) (ns.map V.int)
  | [] => .nil
  | i :: ns => .cons (.int i) (RDs.ofInts ns)
section
variable {X : Cx} {E : XE} {o e : Expr} {apos cpos : Pos} {da de : DE}
theorem rd_rem {K : PySem.W.Frag} {s : L2.St} {H : Hp} {Q : VK} (h : rd K E (dMt oRem da (dCons de dNil)) s H Q) : tRemX K (fun _ _ _ _ => False) (rd K E da) (rd K E de) s H Q := by
  obtain ⟨f, r, st, hs, ht, h⟩ := h
  refine ⟨f, r, st, hs, ht, (post.bind (R' := RD K) h).mono fun x H1 ⟨f1, d, st1, x1, t1, d1, h1⟩ => ?_⟩
  split at h1
  · rename_i hl
    unfold isL at hl
    split at hl
    · rename_i n
      cases e1 : getL st1 n with
      | none => rw [e1] at hl; cases hl
      | some l =>
        obtain ⟨a, vs, rfl, fa, ha, _, _⟩ := RD.lstv t1 d1 (getL_some e1)
        refine ⟨.inl ⟨rfl, vs, .of ha⟩, f1, r, st1, hs.up x1.toEx0, t1, ?_⟩
        have h1 : post K E (RD K) f1 H1 ((de r st1).bind fun y st2 => oRem (.ref n) [y] st2) Q := by
          have e0 : (dCons de dNil r st1).bind (fun ys st2 => oRem (.ref n) ys st2) = (de r st1).bind fun y st2 => oRem (.ref n) [y] st2 := by
            unfold dCons dNil
            cases de r st1 <;> rfl
          rw [← e0]
          exact h1
        refine (post.bind (R' := RD K) h1).mono fun y H2 ⟨f2, dy, st2, x2, t2, d2, h2⟩ => ?_
        have d1' := d1.up x2.toEx0
        unfold oRem at h2
        split at h2
        · rename_i n' k en el
          cases en
          cases el
          split at h2
          · rename_i l2 e2
            split at h2
            · rename_i ns ei
              split at h2
              · rename_i hk
                obtain ⟨a2, vs2, ea2, fa2, ha2, hr2, hz2⟩ := RD.lstv t2 d1' (getL_some e2)
                cases ea2
                have ev := RDs.ints hr2 ei
                subst ev
                refine ⟨a, ns, k, rfl, d2.intv, ha2, fun _ => ?_, fun hn => absurd hk hn⟩
                have x : Ext f2 H2 f2 (upd H2 a (.lst ((ns.erase k).map V.int))) := ext_set t2 fa2
                have hlen : (ns.erase k).length ≤ ns.length := List.length_erase_le
                refine h2 f2 _ .non x (t2.set fa2 ⟨_, upd_same, RDs.ofInts _, ?_⟩) .non
                have := hr2.length
                rw [List.length_map] at this ⊢
                omega
              · exact h2.elim
            · exact h2.elim
          · exact h2.elim
        · exact h2.elim
    · cases hl
  · exact h1.elim
theorem pd_rem (hc : X.calm = true) (ho : PE X o (rd X.K E da)) (he : PE X e (rd X.K E de)) (hbase : attributeBase o "remove" X.env (eval o X.env) = eval o X.env := by rfl)
    (hfew : ((backTo cpos (starEach [e] X.env)).all (fun x => !x.1) && (backToKw cpos (keywordEach [] X.env)).all (fun x => x.1.isSome)
      && decide (([e] : List Expr).length + ([] : List Keyword).length + (if ([] : List Keyword).isEmpty then 0 else 1) < 30)) = true := by rfl)
    (hline : (apos.endLine == cpos.line) = true := by rfl) (hs : starEach [e] X.env = (false, eval e X.env) :: starEach [] X.env := by rfl) (hplain : (backTo cpos (starEach [] X.env)).any (·.1) = false := by rfl) :
    PE X (.Call (.Attribute o "remove" apos) [e] [] cpos) (rd X.K E (dMt oRem da (dCons de dNil))) := (pe_remX hc takesN ho he hbase hfew hline hs hplain).mn fun _ _ _ h => rd_rem h
end
def vRem (i : Nat) (e : VE) : VS := fun u P => match u[i]? with
  | some (some (.lst l, true)) => e u (fun v => ∃ k ns, v = .int k ∧ l.mapM U.asInt = some ns ∧ k ∈ ns ∧ P (.nx (u.set i (some (.lst ((ns.erase k).map .int), true))))) (fun x => P (.exc x))
  | _ => False
theorem Reps.ofInts {Y : Av} {b : Nat} {st : Store} : ∀ ns : List Int, Reps Y b st (ns.map .int) (ns.map .int)
  | [] => .nil
  | i :: ns => .cons (.int i) (Reps.ofInts ns)
theorem asInt_len : ∀ {l : List U} {ns : List Int}, l.mapM U.asInt = some ns → ns.length = l.length
  | [], ns, h => by
    have h : some [] = some ns := h
    cases h
    rfl
  | x :: l, ns, h => by
    rw [List.mapM_cons] at h
    cases e1 : U.asInt x with
    | none => rw [e1] at h; cases h
    | some i =>
      cases e2 : l.mapM U.asInt with
      | none => rw [e1, e2] at h; cases h
      | some ms =>
        rw [e1, e2] at h
        have h : some (i :: ms) = some ns := h
        cases h
        rw [List.length_cons, List.length_cons, asInt_len e2]
section
variable {c : Nat} {e : DE} {we : VE}
theorem sv_rem (i : Nat) (he : EOk .weak c e we) : SOk [i] c (dExpr (dMt oRem (dVar i) (dCons e dNil))) (vRem i we) := fun Z A b u r st P hcap hv q => by
  unfold vRem at q
  split at q
  · rename_i l eu
    obtain ⟨n, e1, e2, ds, e3, hl, r1⟩ := hv.own i _ eu
    have e0 : dExpr (dMt oRem (dVar i) (dCons e dNil)) r st = (e r st).out fun d st1 => (oRem (.ref n) [d] st1).out fun _ st2 => .nx r st2 := by
      unfold dExpr dMt dVar
      rw [e2]
      show Res.out (if isL (.ref n) st = true then _ else _) _ = _
      rw [show isL (.ref n) st = true by unfold isL; dsimp only; rw [getL_of e3]; rfl, if_pos rfl]
      unfold dCons dNil
      cases e r st <;> rfl
    rw [e0]
    refine SPost.bind (he Z A b u r st _ _ (by omega) hv q) (Nat.le_refl _) hv fun d st1 v hv1 g hr q1 => ?_
    obtain ⟨n', a1, b1, ds1, c1, hl1, r1⟩ := hv1.own i _ eu
    rw [e1] at a1
    cases a1
    obtain ⟨k, ns, rfl, ei, hk, q1⟩ := q1
    have hd : d = .int k := RelK.intw hr
    subst hd
    unfold oRem
    dsimp only
    rw [getL_of c1]
    dsimp only
    rw [Reps.ints r1 ei]
    dsimp only
    rw [if_pos hk]
    show SPost _ _ _ _ _ _ _ _ (.nx r (st1.set n (.lst ((ns.erase k).map .int)))) _
    have hn : n < st1.length := getSome_lt c1
    have hlen : (ns.erase k).length ≤ ns.length := List.length_erase_le
    have hl2 := asInt_len ei
    refine ⟨A, _, q1, Stp.mut hv1 e1 b1 ⟨(ns.erase k).map .int, List.getElem?_set_self hn, by rw [List.length_map]; omega, ?_⟩⟩
    exact (Reps.ofInts _)
  · exact q.elim
end
end Pd
namespace Ty
open PySem PySem.Spec PyProof.Rows L2 Pd
section
variable {τ : Type} {u : UEnv} {K : KK τ} {b : VS} {e : VE} {ma : M Int}
def remM (l : List Int) (k : Int) : M (List Int) := rq (k ∈ l) (l.erase k)
theorem ts_rem {l : List Int} {k : List Int → M τ} (i : Nat) (hu : u[i]? = some (some (tL tI l, true))) (he : TG u e ma tI) (h : ∀ l, TS (u.set i (some (tL tI l, true))) b (k l) K) : TS u (vSeq (vRem i e) b) (bi ma fun x => bi (remM l x) k) K := fun P C E hC hE z => by
  show vRem i e u _
  unfold vRem
  rw [hu]
  refine he _ _ _ E (fun x z => ?_) hE z
  exact ⟨x, l, rfl, ints_mapM l, z.1, h _ P C E hC hE z.2⟩
theorem okRem {l : List Int} {k : Int} (h : k ∈ l) : remM l k = pu (l.erase k) := rq_true h _
end
end Ty
set_option maxRecDepth 100000
set_option maxHeartbeats 400000
namespace Pd
open PySem PySem.Spec PyProof.Rows L2
end Pd
namespace Ty
open PySem PySem.Spec PyProof.Rows L2 Pd
end Ty
set_option maxRecDepth 100000
set_option maxHeartbeats 400000
namespace Pd
open PySem PySem.Spec PyProof.Rows L2
/-- a list of plain things -/
def flatL : U → Bool
  | .lst l => U.plains l
  | _ => false
def vCallWL (n : Nat) (W : VFn) (l : VA) : VE := fun u Q X => l u (fun us => us.length = n ∧ W us (fun v => flatL v = true ∧ Q v) (fun x => (x.fs.all fun p => p.2.plain) = true ∧ X x)) X
theorem ev_callWL {n c c1 : Nat} {F : DFn} {W : VFn} {l : DA} {wl : VA} (hf : FOkF n c F W) (hl : AOk .weak c1 l wl) : EOk .fresh (c1 + c) (dL (ofN n F) l) (vCallWL n W wl) := by
  refine JOk.bind (kw := fun us u Q X => us.length = n ∧ W us (fun v => flatL v = true ∧ Q v) (fun x => (x.fs.all fun p => p.2.plain) = true ∧ X x)) RelK.up hl fun Z A b u r st0 st ds us Q X hcap hv hr q => ?_
  have hr' := hr.any
  unfold ofN
  rw [hr'.length, if_pos q.1]
  have h := hf noW b st ds us _ _ hcap (fun m z => z.elim) q.1 hr' q.2
  cases e : F ds st with
  | ok d st' =>
    rw [e] at h
    obtain ⟨v, q, g, n, rfl, hn, r⟩ := h
    refine ⟨v, q.2, g, n, rfl, hn, ?_⟩
    cases v with
    | lst us =>
      obtain ⟨ds', e1, e2, e3⟩ := r
      exact ⟨ds', e1, e2, Reps.pl us ds' q.1 e3⟩
    | _ => exact (Bool.false_ne_true q.1).elim
  | exc d st' => rw [e] at h; obtain ⟨v, q, g, r⟩ := h; exact ⟨v, q.2, g, r.1, Reps.xpl q.1 r.2⟩
  | err => rw [e] at h; exact h
end Pd
namespace Ty
open PySem PySem.Spec PyProof.Rows L2 Pd
section
variable {u : UEnv} {n : Nat} {W : VFn} {us : List U} {l : VA} {α β σ τ : Type}
/-- its items are plain -/
theorem flat_tL {er : α → U} (hp : Pl er) : ∀ a : List α, flatL (tL er a) = true
  | [] => rfl
  | x :: a => by
    show ((er x).plain && U.plains (a.map er)) = true
    rw [hp x]
    exact flat_tL hp a
theorem tg_callWL {m : M (List α)} {er : α → U} (hp : Pl er) (hf : TFn W us m (tL er)) (hl : TP u l us) (hn : us.length = n) : TG u (vCallWL n W l) m (tL er) := fun Q X C E hC hE z => hl _ X ⟨hn, hf _ _ C E (fun a c => ⟨flat_tL hp a, hC a c⟩) (fun x e => ⟨x.plain, hE x e⟩) z⟩
def whM (t : σ → M Bool) (f : σ → M σ) : Nat → σ → M σ
  | 0, _ => no
  | n + 1, s => bi (t s) fun c => if c = true then bi (f s) (whM t f n) else pu s
theorem wh_ok {wt : VT} {body : VS} {mk : σ → Jk → UEnv} {t : σ → M Bool} {f : σ → M σ} (ht : ∀ s j, TG (mk s j) wt (t s) id) (hb : ∀ s j, TS (mk s j) body (f s) (kL mk)) {P : UOut → Prop} {E : TX → Prop} (hE : ∀ x, E x → P (.exc x.u)) :
    ∀ (n : Nat) (s : σ) (j : Jk) (C : σ → Prop), (∀ s, C s → ∀ j, P (.nx (mk s j))) → whM t f n s C E → whileW wt body n (mk s j) P
  | 0, _, _, _, _, z => z.elim
  | n + 1, s, j, C, hC, z => by
    show wt (mk s j) _ _
    refine ht s j _ _ _ E (fun c z => ?_) (fun x e => hE x e) z
    dsimp only [id]
    cases c with
    | true =>
      rw [if_pos rfl] at z ⊢
      refine hb s j _ _ E (fun s' z j' => ⟨?_, ?_⟩) (fun x e => hE x e) z
      · exact wh_ok ht hb hE n s' j' C hC z
      · exact wh_ok ht hb hE n s' j' C hC z
    | false =>
      rw [if_neg (by decide)] at z ⊢
      exact hC s z j
theorem ts_while {K : KK τ} {wt : VT} {body b : VS} {mk : σ → Jk → UEnv} {t : σ → M Bool} {f : σ → M σ} {s0 : σ} {N : Nat} {kk : σ → M τ} (h0 : mk s0 (jk u) = u) (ht : ∀ s j, TG (mk s j) wt (t s) id) (hb : ∀ s j, TS (mk s j) body (f s) (kL mk)) (h : ∀ s j, TS (mk s j) b (kk s) K) :
    TS u (vSeq (whileW wt body N) b) (bi (whM t f N s0) kk) K := fun P C E hC hE z => by
  show whileW wt body N u _
  rw [← h0]
  exact wh_ok ht hb (P := fun o => match o with
    | .nx u1 => b u1 P
    | o => P o) (fun x e => hE x e) N s0 (jk u) _ (fun s z j => h s j P C E hC hE z) z
/-- a while that ends: a measure that falls -/
theorem okWh {t : σ → M Bool} {f : σ → M σ} (I : σ → Prop) (m : σ → Nat) (R : σ → Prop) (step : ∀ s, I s → (t s = pu false ∧ R s) ∨ (t s = pu true ∧ ∃ s', f s = pu s' ∧ I s' ∧ m s' < m s)) : ∀ (N : Nat) (s : σ), I s → m s < N → ∃ s', whM t f N s = pu s' ∧ I s' ∧ R s'
  | 0, _, _, h => absurd h (Nat.not_lt_zero _)
  | N + 1, s, hs, h => by
    unfold whM
    rcases step s hs with ⟨e, r⟩ | ⟨e, s', e', i', lt⟩
    · exact ⟨s, by rw [e, pu_bi, if_neg (by decide)], hs, r⟩
    · rw [e, pu_bi, if_pos rfl, e', pu_bi]
      exact okWh I m R step N s' i' (by omega)
theorem tg_op {e : α → U} {w : VE} {m : M (Option α)} (h : TG u w m (tO e)) : TG u w (bi m fun o => op? o) e := fun Q X C E hC hE z => h Q X _ E (fun o z => by
  cases o with
  | none => exact z.elim
  | some a => exact hC a z) hE z
end
end Ty
set_option maxRecDepth 100000
set_option maxHeartbeats 400000
namespace Pd
open PySem PySem.Spec PyProof.Rows L2
def vRunO (N i : Nat) (w : VS) : VFn := fun us Q X => w (us.map (fun v => some (v, false)) ++ List.replicate (N - us.length) none) (fun o => match o with
  | .nx u => (match u[i]? with
    | some (some (v, true)) => Q v
    | _ => False)
  | .exc x => X x
  | _ => False)
theorem rv_start {Z : Av} {b : Nat} {st : Store} {ds : List D} {us : List U} (N : Nat) (hz : ∀ m, Z m → m < st.length) (hr : Reps Z b st ds us) : RV Z (fun _ => none) b (us.map (fun v => some (v, false)) ++ List.replicate (N - us.length) none) (ds.map some ++ List.replicate (N - ds.length) none) st := by
  have hl := hr.length
  have hav : ∀ m, avo Z (fun _ => none) m → Z m := fun m z => z.elim id fun ⟨_, e⟩ => by cases e
  refine ⟨by simp [hl], (fun i j m e _ => by cases e), (fun i m e => by cases e), hz, fun i v e => ?_, fun i v e => ?_⟩
  · by_cases hi : i < us.length
    · rw [List.getElem?_append_left (by simpa using hi), List.getElem?_map] at e
      rw [List.getElem?_append_left (by simpa [hl] using hi), List.getElem?_map]
      cases eq : us[i]? with
      | none => rw [eq] at e; cases e
      | some x =>
        rw [eq] at e
        cases e
        obtain ⟨d, e2, h⟩ := Paired.getR hr.pr eq
        exact ⟨d, by rw [e2]; rfl, h.av fun m _ z => hav m z⟩
    · rw [List.getElem?_append_right (by simpa using hi), List.getElem?_replicate] at e
      split at e <;> cases e
  · by_cases hi : i < us.length
    · rw [List.getElem?_append_left (by simpa using hi), List.getElem?_map] at e
      cases eq : us[i]? with
      | none => rw [eq] at e; cases e
      | some x => rw [eq] at e; cases e
    · rw [List.getElem?_append_right (by simpa using hi), List.getElem?_replicate] at e
      split at e <;> cases e
theorem dSeq_assoc {a b c : DS} : dSeq a (dSeq b c) = dSeq (dSeq a b) c := by
  funext r st
  unfold dSeq
  cases a r st <;> rfl
/-- its content does not stand on itself -/
theorem Cont.fresh {Z : Av} {A : Ow} {b : Nat} {st : Store} {n : Nat} {v : U} (h : Cont (avo Z A) b st n v) (hn : ∃ i, A i = some n) : Cont (fun m => Z m ∨ m = n) b st n v := by
  have go : ∀ m, m < st.length → (Z m ∨ m = n) → avo Z A m := fun m _ z => z.elim .inl fun e => .inr (e ▸ hn)
  exact h.av go
theorem fokF_own {M : List Nat} {N n c : Nat} {s : DS} {w : VS} (i : Nat) (hs : SOk M c s w) : FOkF n c (runD N (dSeq s (dRet (dVar i)))) (vRunO N i w) := fun Z b st ds us Q X hcap hz hln hr q => by
  have h := hs Z _ b _ _ st _ hcap (rv_start N hz hr) q
  have gx : ∀ {b' : Nat} {st' : Store}, Gr (ownP fun _ => none) b b' st st' → Gx b b' st st' := fun g => g.wk fun m _ z => z.elim fun _ e => by cases e
  unfold runD dSeq
  cases e1 : s (ds.map some ++ List.replicate (N - ds.length) none) st with
  | nx r' st' =>
    rw [e1] at h
    obtain ⟨A', u', q1, g⟩ := h
    dsimp only at q1 ⊢
    split at q1
    · rename_i v eu
      obtain ⟨m, a1, a2, a3⟩ := g.rv.own i v eu
      unfold dRet dVar
      rw [a2]
      have low : st.length ≤ m := (g.sub i m a1).elim (fun ⟨_, e⟩ => by cases e) id
      exact ⟨v, q1, gx g.gr, m, rfl, low, a3.fresh ⟨i, a1⟩⟩
    · exact q1.elim
  | bk r' st' => rw [e1] at h; obtain ⟨A', u', q1, g⟩ := h; exact q1.elim
  | ct r' st' => rw [e1] at h; obtain ⟨A', u', q1, g⟩ := h; exact q1.elim
  | rt d st' => rw [e1] at h; obtain ⟨v, q1, g, hr⟩ := h; exact q1.elim
  | exc x st' =>
    rw [e1] at h
    obtain ⟨v, q1, g, hr⟩ := h
    exact ⟨v, q1, gx g, hr⟩
  | err => rw [e1] at h; exact h.elim
end Pd
namespace Ty
open PySem PySem.Spec PyProof.Rows L2 Pd
/-- the statements ahead of the return, on typed values -/
theorem tf_runO {ρ : Type} {w : VS} {us : List U} {N i : Nat} {mk : ρ → Jk → UEnv} {m : M ρ} {er : ρ → U} (h : TS (us.map (fun v => some (v, false)) ++ List.replicate (N - us.length) none) w m (kJ mk)) (at_ : ∀ s j, (mk s j)[i]? = some (some (er s, true))) : TFn (vRunO N i w) us m er := fun Q X C E hC hE z => by
  refine h _ _ E (fun s z j => ?_) (fun x e => hE x e) z
  dsimp only
  rw [at_]
  exact hC s z
end Ty
set_option maxRecDepth 100000
set_option maxHeartbeats 4000000
namespace LH
open PySem PySem.Spec PyProof.Rows L2 Pd
def top (i : Nat) : Stmt := PySem.Challenge.pw_patchrooms_k09_whole_loose_spots.main.body.getD i (.Pass ⟨0, 0, 0, 0⟩)
def mkD (x : Str) (i : Nat) : He.DefD := ⟨(x, none), x, x, defArgs (top i), defBody (top i), defScope (top i), [], []⟩
def fn : List He.DefD := [mkD "is_integer" 4, mkD "is_spot" 5, mkD "above_lists" 6, mkD "below_lists" 7, mkD "part_order" 8, mkD "is_led" 10, mkD "need_leading" 11, mkD "greatest_of" 12, mkD "loose_among" 13, mkD "loose_spots" 14, mkD "bared" 15, mkD "bared_leading" 16, mkD "near_lists" 17, mkD "piece_of" 18, mkD "pieces" 19, mkD "_law_begun" 21, mkD "_law_draw" 22, mkD "_law_of" 23, mkD "_law_shuffled" 24, mkD "_law_like" 25, mkD "_law_closed" 26, mkD "_law_drawn_order" 27, mkD "_law_chain" 28, mkD "_law_is_led" 29, mkD "_law_is_loose" 31, mkD "_law_bared" 30, mkD "_law_leads" 33, mkD "_law_right" 32, mkD "_law_with_loose" 34, mkD "law" 35]
def fa : List He.Fa := [.glo "is_integer", .glo "is_spot", .glo "above_lists", .glo "below_lists", .glo "part_order", .glo "is_led", .glo "need_leading", .glo "greatest_of", .glo "loose_among", .glo "loose_spots", .glo "bared", .glo "bared_leading", .glo "near_lists", .glo "piece_of", .glo "pieces", .glo "_law_begun", .glo "_law_draw", .glo "_law_of", .glo "_law_shuffled", .glo "_law_like", .glo "_law_closed", .glo "_law_drawn_order", .glo "_law_chain", .glo "_law_is_led", .glo "_law_is_loose", .glo "_law_bared", .glo "_law_leads", .glo "_law_right", .glo "_law_with_loose", .glo "law", .free "all", .free "any", .free "bool", .free "enumerate", .free "int", .free "isinstance", .free "len", .free "list", .free "max", .free "min", .free "range", .free "repr", .free "set", .free "sorted", .free "tuple", .free "zip"]
def N_is_integer : List Str := ["value"]
theorem sc_is_integer : FnScope N_is_integer ["value"] (defScope (top 4)) := ⟨rfl, rfl, rfl, by decide +kernel, rfl, by decide +kernel, by decide +kernel⟩
def den_is_integer : DS := (dRet (dAndV (dUn (oIsK .int) (dVar 0)) (dNotV (dUn (oIsK .bool) (dVar 0)))))
def F_is_integer : DFn := runD 1 den_is_integer
theorem ok_is_integer {P : Program} {w : World} {K : PySem.W.Frag} {h : Heap} {mg : Str → Option Value} (X : K.In h) (G : h.Ns mainGlobals mg) (c : He.SaysD fa fn K) : DOk P w K mg CX0 XX0 1 "is_integer" (top 4) ["value"] F_is_integer := by
  obtain ⟨fd, F⟩ := c.def_ 0 (d := mkD "is_integer" 4) rfl
  have m_bool : mg "bool" = none := He.free_ok X G (c.fact 32 (f := .free "bool") rfl)
  have m_int : mg "int" = none := He.free_ok X G (c.fact 34 (f := .free "int") rfl)
  have m_isinstance : mg "isinstance" = none := He.free_ok X G (c.fact 35 (f := .free "isinstance") rfl)
  refine DOk.of0 F (He.glo_ok X G (c.fact 0 (f := .glo "is_integer") rfl)) sc_is_integer (fun _ _ _ _ _ _ us hl => match us, hl with | [_], _ => rfl) fun base cdv A outer s H E KX G' hr hg => ?_
  unfold den_is_integer
  exact (pdss_one (pds_ret (pd_and (pd_isK .int "int" (bt_i m_int) (pd_var 0) m_isinstance) (pd_and1 (pd_not (pd_isK .bool "bool" (bt_b m_bool) (pd_var 0) m_isinstance))))))
def N_is_spot : List Str := ["value", "n"]
theorem sc_is_spot : FnScope N_is_spot ["value", "n"] (defScope (top 5)) := ⟨rfl, rfl, rfl, by decide +kernel, rfl, by decide +kernel, by decide +kernel⟩
def den_is_spot : DS := (dRet (dAndV (dL (ofN 1 F_is_integer) (dCons (dVar 0) dNil)) (dChain (oCmp gLe) (oCmp gLt) (dC (.int 0)) (dVar 0) (dVar 1))))
def F_is_spot : DFn := runD 2 den_is_spot
theorem ok_is_spot {P : Program} {w : World} {K : PySem.W.Frag} {h : Heap} {mg : Str → Option Value} (X : K.In h) (G : h.Ns mainGlobals mg) (c : He.SaysD fa fn K) : DOk P w K mg CX0 XX0 2 "is_spot" (top 5) ["value", "n"] F_is_spot := by
  obtain ⟨fd, F⟩ := c.def_ 1 (d := mkD "is_spot" 5) rfl
  have d_is_integer := ok_is_integer (w := w) (P := P) X G c
  refine DOk.of0 F (He.glo_ok X G (c.fact 1 (f := .glo "is_spot") rfl)) sc_is_spot (fun _ _ _ _ _ _ us hl => match us, hl with | [_, _], _ => rfl) fun base cdv A outer s H E KX G' hr hg => ?_
  unfold den_is_spot
  exact (pdss_one (pds_ret (pd_and (pc_call (E := fun _ _ _ => False) d_is_integer (hr.mono (by decide)) ⟨KX, G', pass0, hg⟩ (pda_cons (pd_var 0) pda_nil)) (pd_and1 (pd_chain od_le od_lt pd_int (pd_var 0) (pd_var 1))))))
def N_above_lists : List Str := ["order", "found", "x", "y"]
theorem sc_above_lists : FnScope N_above_lists ["order"] (defScope (top 6)) := ⟨rfl, rfl, rfl, by decide +kernel, rfl, by decide +kernel, by decide +kernel⟩
def den_above_lists : DS := (dSeq (dSet 1 (dLc (itRg1 (dBin oIx (dVar 0) (dC (.int 0)))) [2] (nNm 2) dYes (dL oLst dNil)))
    (dSeq (dFor (itSeq (dBin oIx (dVar 0) (dC (.int 1)))) (nTp (nsCons (nNm 2) (nsCons (nNm 3) nsNil)))
    (dExpr (dMt oAppend (dBin oIx (dVar 1) (dVar 2)) (dCons (dVar 3) dNil))))
    (dRet (dVar 1))))
def F_above_lists : DFn := runD 4 den_above_lists
theorem ok_above_lists {P : Program} {w : World} {K : PySem.W.Frag} {h : Heap} {mg : Str → Option Value} (X : K.In h) (G : h.Ns mainGlobals mg) (c : He.SaysD fa fn K) : DOk P w K mg CX0 XX0 1 "above_lists" (top 6) ["order"] F_above_lists := by
  obtain ⟨fd, F⟩ := c.def_ 2 (d := mkD "above_lists" 6) rfl
  have m_range : mg "range" = none := He.free_ok X G (c.fact 40 (f := .free "range") rfl)
  refine DOk.of0 F (He.glo_ok X G (c.fact 2 (f := .glo "above_lists") rfl)) sc_above_lists (fun _ _ _ _ _ _ us hl => match us, hl with | [_], _ => rfl) fun base cdv A outer s H E KX G' hr hg => ?_
  unfold den_above_lists
  exact (pdss_cons (pds_setLc 1 (own := [("x", 2)]) (gok_nm 2) rfl sc_above_lists.nd (blkOk_by (by rfl)) (pdi_range1 rfl m_range (pd_ix hr.u1 (pd_var 0) pd_int)) (fun _ _ _ _ _ => (pg_name (i := 2) sc_above_lists.nd rfl (by first | exact Or.inl rfl | exact Or.inr rfl))) (fun _ _ _ _ _ => pds_tests0) (fun _ _ _ _ _ => (pd_lst pda_nil)))
    (pdss_cons (pds_for (gok_t2 (gok_nm 2) (gok_nm 3)) PassesOwn.never rfl (pdi_seq (pd_ix hr.u1 (pd_var 0) pd_int)) (pg_tup rfl (pgs_cons (pg_name (i := 2) sc_above_lists.nd rfl (by first | exact Or.inl rfl | exact Or.inr rfl)) (pgs_cons (pg_name (i := 3) sc_above_lists.nd rfl (by first | exact Or.inl rfl | exact Or.inr rfl)) pgs_nil)))
    (pdss_one (pds_expr (pd_mt PySem.F.slot_list_append PySem.F.type_list_append md_append (pd_ix hr.u1 (pd_var 1) (pd_var 2)) (pda_cons (pd_var 3) pda_nil)))))
    (pdss_one (pds_ret (pd_var 1)))))
def N_below_lists : List Str := ["order", "found", "x", "y"]
theorem sc_below_lists : FnScope N_below_lists ["order"] (defScope (top 7)) := ⟨rfl, rfl, rfl, by decide +kernel, rfl, by decide +kernel, by decide +kernel⟩
def den_below_lists : DS := (dSeq (dSet 1 (dLc (itRg1 (dBin oIx (dVar 0) (dC (.int 0)))) [2] (nNm 2) dYes (dL oLst dNil)))
    (dSeq (dFor (itSeq (dBin oIx (dVar 0) (dC (.int 1)))) (nTp (nsCons (nNm 2) (nsCons (nNm 3) nsNil)))
    (dExpr (dMt oAppend (dBin oIx (dVar 1) (dVar 3)) (dCons (dVar 2) dNil))))
    (dRet (dVar 1))))
def F_below_lists : DFn := runD 4 den_below_lists
theorem ok_below_lists {P : Program} {w : World} {K : PySem.W.Frag} {h : Heap} {mg : Str → Option Value} (X : K.In h) (G : h.Ns mainGlobals mg) (c : He.SaysD fa fn K) : DOk P w K mg CX0 XX0 1 "below_lists" (top 7) ["order"] F_below_lists := by
  obtain ⟨fd, F⟩ := c.def_ 3 (d := mkD "below_lists" 7) rfl
  have m_range : mg "range" = none := He.free_ok X G (c.fact 40 (f := .free "range") rfl)
  refine DOk.of0 F (He.glo_ok X G (c.fact 3 (f := .glo "below_lists") rfl)) sc_below_lists (fun _ _ _ _ _ _ us hl => match us, hl with | [_], _ => rfl) fun base cdv A outer s H E KX G' hr hg => ?_
  unfold den_below_lists
  exact (pdss_cons (pds_setLc 1 (own := [("x", 2)]) (gok_nm 2) rfl sc_below_lists.nd (blkOk_by (by rfl)) (pdi_range1 rfl m_range (pd_ix hr.u1 (pd_var 0) pd_int)) (fun _ _ _ _ _ => (pg_name (i := 2) sc_below_lists.nd rfl (by first | exact Or.inl rfl | exact Or.inr rfl))) (fun _ _ _ _ _ => pds_tests0) (fun _ _ _ _ _ => (pd_lst pda_nil)))
    (pdss_cons (pds_for (gok_t2 (gok_nm 2) (gok_nm 3)) PassesOwn.never rfl (pdi_seq (pd_ix hr.u1 (pd_var 0) pd_int)) (pg_tup rfl (pgs_cons (pg_name (i := 2) sc_below_lists.nd rfl (by first | exact Or.inl rfl | exact Or.inr rfl)) (pgs_cons (pg_name (i := 3) sc_below_lists.nd rfl (by first | exact Or.inl rfl | exact Or.inr rfl)) pgs_nil)))
    (pdss_one (pds_expr (pd_mt PySem.F.slot_list_append PySem.F.type_list_append md_append (pd_ix hr.u1 (pd_var 1) (pd_var 3)) (pda_cons (pd_var 2) pda_nil)))))
    (pdss_one (pds_ret (pd_var 1)))))
def N_part_order : List Str := ["order", "spots", "numbers", "number", "spot", "pairs", "x", "y"]
theorem sc_part_order : FnScope N_part_order ["order", "spots"] (defScope (top 8)) := ⟨rfl, rfl, rfl, by decide +kernel, rfl, by decide +kernel, by decide +kernel⟩
def den_part_order : DS := (dSeq (dSet 2 (dDc (itEnum (dVar 1)) [3, 4] (nTp (nsCons (nNm 3) (nsCons (nNm 4) nsNil))) dYes (dVar 4) (dVar 3)))
    (dSeq (dSet 5 (dLc (itSeq (dBin oIx (dVar 0) (dC (.int 1)))) [6, 7] (nTp (nsCons (nNm 6) (nsCons (nNm 7) nsNil))) (dAnd (dB (dBin oIn (dVar 6) (dVar 2))) (dB (dBin oIn (dVar 7) (dVar 2)))) (dL oTup (dCons (dBin oIx (dVar 2) (dVar 6)) (dCons (dBin oIx (dVar 2) (dVar 7)) dNil)))))
    (dRet (dL oTup (dCons (dL oLen (dCons (dVar 1) dNil)) (dCons (dL oTuple (dCons (dVar 5) dNil)) dNil))))))
def F_part_order : DFn := runD 8 den_part_order
theorem ok_part_order {P : Program} {w : World} {K : PySem.W.Frag} {h : Heap} {mg : Str → Option Value} (X : K.In h) (G : h.Ns mainGlobals mg) (c : He.SaysD fa fn K) : DOk P w K mg CX0 XX0 1 "part_order" (top 8) ["order", "spots"] F_part_order := by
  obtain ⟨fd, F⟩ := c.def_ 4 (d := mkD "part_order" 8) rfl
  have m_enumerate : mg "enumerate" = none := He.free_ok X G (c.fact 33 (f := .free "enumerate") rfl)
  have m_len : mg "len" = none := He.free_ok X G (c.fact 36 (f := .free "len") rfl)
  have m_tuple : mg "tuple" = none := He.free_ok X G (c.fact 44 (f := .free "tuple") rfl)
  refine DOk.of0 F (He.glo_ok X G (c.fact 4 (f := .glo "part_order") rfl)) sc_part_order (fun _ _ _ _ _ _ us hl => match us, hl with | [_, _], _ => rfl) fun base cdv A outer s H E KX G' hr hg => ?_
  unfold den_part_order
  exact (pdss_cons (pds_set 2 sc_part_order.nd (pd_dc (own := [("number", 3), ("spot", 4)]) (gok_t2 (gok_nm 3) (gok_nm 4)) rfl sc_part_order.nd (blkOk_by (by rfl)) (pdi_enum rfl m_enumerate (pd_var 1)) (fun _ _ _ _ _ => (pg_tup rfl (pgs_cons (pg_name (i := 3) sc_part_order.nd rfl (by first | exact Or.inl rfl | exact Or.inr rfl)) (pgs_cons (pg_name (i := 4) sc_part_order.nd rfl (by first | exact Or.inl rfl | exact Or.inr rfl)) pgs_nil)))) (fun _ _ _ _ _ => pds_tests0) (fun _ _ _ _ _ => (pd_var 4)) (fun _ _ _ _ _ => (pd_var 3))))
    (pdss_cons (pds_setLc 5 (own := [("x", 6), ("y", 7)]) (gok_t2 (gok_nm 6) (gok_nm 7)) rfl sc_part_order.nd (blkOk_by (by rfl)) (pdi_seq (pd_ix hr.u1 (pd_var 0) pd_int)) (fun _ _ _ _ _ => (pg_tup rfl (pgs_cons (pg_name (i := 6) sc_part_order.nd rfl (by first | exact Or.inl rfl | exact Or.inr rfl)) (pgs_cons (pg_name (i := 7) sc_part_order.nd rfl (by first | exact Or.inl rfl | exact Or.inr rfl)) pgs_nil)))) (fun _ _ _ _ _ => (pds_tests1 (pdt_w (pdw_and (pdt_cmp (od_in hr.u65) (pd_var 6) (pd_var 2)) (pdw_and1 (pdt_cmp (od_in hr.u65) (pd_var 7) (pd_var 2))))))) (fun _ _ _ _ _ => (pd_tup (pda_cons (pd_ix hr.u1 (pd_var 2) (pd_var 6)) (pda_cons (pd_ix hr.u1 (pd_var 2) (pd_var 7)) pda_nil)))))
    (pdss_one (pds_ret (pd_tup (pda_cons (pd_callB cd_len m_len bt_len (pda_cons (pd_var 1) pda_nil)) (pda_cons (pd_callTy cd_tuple m_tuple bt_tuple (pda_cons (pd_var 5) pda_nil)) pda_nil)))))))
def N_is_led : List Str := ["order", "x", "y"]
theorem sc_is_led : FnScope N_is_led ["order", "x", "y"] (defScope (top 10)) := ⟨rfl, rfl, rfl, by decide +kernel, rfl, by decide +kernel, by decide +kernel⟩
def den_is_led : DS := (dRet (dOrV (dBin oEq (dVar 1) (dVar 2)) (dBin oIn (dL oTup (dCons (dVar 1) (dCons (dVar 2) dNil))) (dBin oIx (dVar 0) (dC (.int 1))))))
def F_is_led : DFn := runD 3 den_is_led
theorem ok_is_led {P : Program} {w : World} {K : PySem.W.Frag} {h : Heap} {mg : Str → Option Value} (X : K.In h) (G : h.Ns mainGlobals mg) (c : He.SaysD fa fn K) : DOk P w K mg CX0 XX0 1 "is_led" (top 10) ["order", "x", "y"] F_is_led := by
  obtain ⟨fd, F⟩ := c.def_ 5 (d := mkD "is_led" 10) rfl

  refine DOk.of0 F (He.glo_ok X G (c.fact 5 (f := .glo "is_led") rfl)) sc_is_led (fun _ _ _ _ _ _ us hl => match us, hl with | [_, _, _], _ => rfl) fun base cdv A outer s H E KX G' hr hg => ?_
  unfold den_is_led
  exact (pdss_one (pds_ret (pd_or (pd_cmp (od_eq hr.u64) (pd_var 1) (pd_var 2)) (pd_and1 (pd_cmp (od_in hr.u65) (pd_tup (pda_cons (pd_var 1) (pda_cons (pd_var 2) pda_nil))) (pd_ix hr.u1 (pd_var 0) pd_int))))))
def N_need_leading : List Str := ["one", "other", "value", "spot", "place", "x", "y"]
theorem sc_need_leading : FnScope N_need_leading ["one", "other", "value"] (defScope (top 11)) := ⟨rfl, rfl, rfl, by decide +kernel, rfl, by decide +kernel, by decide +kernel⟩
def den_need_leading : DS := (dSeq (dIfS (dOr (dNot (dTru (dUn (oIsK .tuple) (dVar 2)))) (dB (dBin oNe (dL oLen (dCons (dVar 2) dNil)) (dBin oIx (dVar 0) (dC (.int 0))))))
    dErrS
    dNext)
    (dSeq (dIfS (dNot (dTru (dL oAll (dCons (dLc (itSeq (dVar 2)) [3] (nNm 3) dYes (dL (ofN 2 F_is_spot) (dCons (dVar 3) (dCons (dBin oIx (dVar 1) (dC (.int 0))) dNil)))) dNil))))
    dErrS
    dNext)
    (dSeq (dFor (itEnum (dBin oIx (dVar 0) (dC (.int 1)))) (nTp (nsCons (nNm 4) (nsCons (nTp (nsCons (nNm 5) (nsCons (nNm 6) nsNil))) nsNil)))
    (dIfS (dNot (dTru (dL (ofN 3 F_is_led) (dCons (dVar 1) (dCons (dBin oIx (dVar 2) (dVar 5)) (dCons (dBin oIx (dVar 2) (dVar 6)) dNil))))))
    dErrS
    dNext))
    (dRet (dVar 2)))))
def F_need_leading : DFn := runD 7 den_need_leading
theorem ok_need_leading {P : Program} {w : World} {K : PySem.W.Frag} {h : Heap} {mg : Str → Option Value} (X : K.In h) (G : h.Ns mainGlobals mg) (c : He.SaysD fa fn K) : DOk P w K mg CX0 XX0 3 "need_leading" (top 11) ["one", "other", "value"] F_need_leading := by
  obtain ⟨fd, F⟩ := c.def_ 6 (d := mkD "need_leading" 11) rfl
  have d_is_spot := ok_is_spot (w := w) (P := P) X G c
  have d_is_led := ok_is_led (w := w) (P := P) X G c
  have m_all : mg "all" = none := He.free_ok X G (c.fact 30 (f := .free "all") rfl)
  have m_enumerate : mg "enumerate" = none := He.free_ok X G (c.fact 33 (f := .free "enumerate") rfl)
  have m_isinstance : mg "isinstance" = none := He.free_ok X G (c.fact 35 (f := .free "isinstance") rfl)
  have m_len : mg "len" = none := He.free_ok X G (c.fact 36 (f := .free "len") rfl)
  have m_tuple : mg "tuple" = none := He.free_ok X G (c.fact 44 (f := .free "tuple") rfl)
  refine DOk.of0 F (He.glo_ok X G (c.fact 6 (f := .glo "need_leading") rfl)) sc_need_leading (fun _ _ _ _ _ _ us hl => match us, hl with | [_, _, _], _ => rfl) fun base cdv A outer s H E KX G' hr hg => ?_
  unfold den_need_leading
  exact (pdss_cons (pds_if (pdt_w (pdw_or (pdt_not (pdt_tru (pd_isK .tuple "tuple" (bt_t m_tuple) (pd_var 2) m_isinstance))) (pdw_or1 (pdt_cmp (od_ne hr.u64) (pd_callB cd_len m_len bt_len (pda_cons (pd_var 2) pda_nil)) (pd_ix hr.u1 (pd_var 0) pd_int)))))
    (pdss_one pds_err)
    pdss_nil)
    (pdss_cons (pds_if (pdt_not (pdt_tru (pd_callB (cd_all rfl) m_all bt_all (pda_cons (pd_lc (own := [("spot", 3)]) (gok_nm 3) rfl sc_need_leading.nd (blkOk_by (by rfl)) (pdi_seq (pd_var 2)) (fun _ _ _ _ _ => (pg_name (i := 3) sc_need_leading.nd rfl (by first | exact Or.inl rfl | exact Or.inr rfl))) (fun _ _ _ _ _ => pds_tests0) (fun _ _ _ _ _ => (pc_call (E := fun _ _ _ => False) d_is_spot (hr.mono (by decide)) ⟨KX, G', pass0, hg⟩ (pda_cons (pd_var 3) (pda_cons (pd_ix hr.u1 (pd_var 1) pd_int) pda_nil))))) pda_nil))))
    (pdss_one pds_err)
    pdss_nil)
    (pdss_cons (pds_for (gok_t2 (gok_nm 4) (gok_t2 (gok_nm 5) (gok_nm 6))) PassesOwn.never rfl (pdi_enum rfl m_enumerate (pd_ix hr.u1 (pd_var 0) pd_int)) (pg_tup rfl (pgs_cons (pg_name (i := 4) sc_need_leading.nd rfl (by first | exact Or.inl rfl | exact Or.inr rfl)) (pgs_cons (pg_tup rfl (pgs_cons (pg_name (i := 5) sc_need_leading.nd rfl (by first | exact Or.inl rfl | exact Or.inr rfl)) (pgs_cons (pg_name (i := 6) sc_need_leading.nd rfl (by first | exact Or.inl rfl | exact Or.inr rfl)) pgs_nil))) pgs_nil)))
    (pdss_one (pds_if (pdt_not (pdt_tru (pc_call (E := fun _ _ _ => False) d_is_led (hr.mono (by decide)) ⟨KX, G', pass0, hg⟩ (pda_cons (pd_var 1) (pda_cons (pd_ix hr.u1 (pd_var 2) (pd_var 5)) (pda_cons (pd_ix hr.u1 (pd_var 2) (pd_var 6)) pda_nil))))))
    (pdss_one pds_err)
    pdss_nil)))
    (pdss_one (pds_ret (pd_var 2))))))
def N_greatest_of : List Str := ["order", "spots", "y", "z"]
theorem sc_greatest_of : FnScope N_greatest_of ["order", "spots"] (defScope (top 12)) := ⟨rfl, rfl, rfl, by decide +kernel, rfl, by decide +kernel, by decide +kernel⟩
def den_greatest_of : DS := (dSeq (dFor (itSeq (dVar 1)) (nNm 2)
    (dIfS (dTru (dL oAll (dCons (dLc (itSeq (dVar 1)) [3] (nNm 3) dYes (dL (ofN 3 F_is_led) (dCons (dVar 0) (dCons (dVar 3) (dCons (dVar 2) dNil))))) dNil)))
    (dRet (dVar 2))
    dNext))
    (dRet (dC .non)))
def F_greatest_of : DFn := runD 4 den_greatest_of
theorem ok_greatest_of {P : Program} {w : World} {K : PySem.W.Frag} {h : Heap} {mg : Str → Option Value} (X : K.In h) (G : h.Ns mainGlobals mg) (c : He.SaysD fa fn K) : DOk P w K mg CX0 XX0 2 "greatest_of" (top 12) ["order", "spots"] F_greatest_of := by
  obtain ⟨fd, F⟩ := c.def_ 7 (d := mkD "greatest_of" 12) rfl
  have d_is_led := ok_is_led (w := w) (P := P) X G c
  have m_all : mg "all" = none := He.free_ok X G (c.fact 30 (f := .free "all") rfl)
  refine DOk.of0 F (He.glo_ok X G (c.fact 7 (f := .glo "greatest_of") rfl)) sc_greatest_of (fun _ _ _ _ _ _ us hl => match us, hl with | [_, _], _ => rfl) fun base cdv A outer s H E KX G' hr hg => ?_
  unfold den_greatest_of
  exact (pdss_cons (pds_for (gok_nm 2) PassesOwn.never rfl (pdi_seq (pd_var 1)) (pg_name (i := 2) sc_greatest_of.nd rfl (by first | exact Or.inl rfl | exact Or.inr rfl))
    (pdss_one (pds_if (pdt_tru (pd_callB (cd_all rfl) m_all bt_all (pda_cons (pd_lc (own := [("z", 3)]) (gok_nm 3) rfl sc_greatest_of.nd (blkOk_by (by rfl)) (pdi_seq (pd_var 1)) (fun _ _ _ _ _ => (pg_name (i := 3) sc_greatest_of.nd rfl (by first | exact Or.inl rfl | exact Or.inr rfl))) (fun _ _ _ _ _ => pds_tests0) (fun _ _ _ _ _ => (pc_call (E := fun _ _ _ => False) d_is_led (hr.mono (by decide)) ⟨KX, G', pass0, hg⟩ (pda_cons (pd_var 0) (pda_cons (pd_var 3) (pda_cons (pd_var 2) pda_nil)))))) pda_nil)))
    (pdss_one (pds_ret (pd_var 2)))
    pdss_nil)))
    (pdss_one (pds_ret pd_non)))
def N_loose_among : List Str := ["order", "spots", "below", "found", "x", "y"]
theorem sc_loose_among : FnScope N_loose_among ["order", "spots"] (defScope (top 13)) := ⟨rfl, rfl, rfl, by decide +kernel, rfl, by decide +kernel, by decide +kernel⟩
def den_loose_among : DS := (dSeq (dPar 2 3 (dL (ofN 1 F_below_lists) (dCons (dVar 0) dNil)) (dL oLst dNil))
    (dSeq (dFor (itSeq (dVar 1)) (nNm 4)
    (dIfS (dB (dBin oIsNot (dL (ofN 2 F_greatest_of) (dCons (dVar 0) (dCons (dLc (itSeq (dBin oIx (dVar 2) (dVar 4))) [5] (nNm 5) (dB (dBin oIn (dVar 5) (dVar 1))) (dVar 5)) dNil))) (dC .non)))
    (dExpr (dMt oAppend (dVar 3) (dCons (dVar 4) dNil)))
    dNext))
    (dRet (dVar 3))))
def F_loose_among : DFn := runD 6 den_loose_among
theorem ok_loose_among {P : Program} {w : World} {K : PySem.W.Frag} {h : Heap} {mg : Str → Option Value} (X : K.In h) (G : h.Ns mainGlobals mg) (c : He.SaysD fa fn K) : DOk P w K mg CX0 XX0 3 "loose_among" (top 13) ["order", "spots"] F_loose_among := by
  obtain ⟨fd, F⟩ := c.def_ 8 (d := mkD "loose_among" 13) rfl
  have d_below_lists := ok_below_lists (w := w) (P := P) X G c
  have d_greatest_of := ok_greatest_of (w := w) (P := P) X G c
  refine DOk.of0 F (He.glo_ok X G (c.fact 8 (f := .glo "loose_among") rfl)) sc_loose_among (fun _ _ _ _ _ _ us hl => match us, hl with | [_, _], _ => rfl) fun base cdv A outer s H E KX G' hr hg => ?_
  unfold den_loose_among
  exact (pdss_cons (pds_par 2 3 rfl sc_loose_among.nd (pc_call (E := fun _ _ _ => False) d_below_lists (hr.mono (by decide)) ⟨KX, G', pass0, hg⟩ (pda_cons (pd_var 0) pda_nil)) (pd_lst pda_nil))
    (pdss_cons (pds_for (gok_nm 4) PassesOwn.never rfl (pdi_seq (pd_var 1)) (pg_name (i := 4) sc_loose_among.nd rfl (by first | exact Or.inl rfl | exact Or.inr rfl))
    (pdss_one (pds_if (pdt_cmp od_isnot (pc_call (E := fun _ _ _ => False) d_greatest_of (hr.mono (by decide)) ⟨KX, G', pass0, hg⟩ (pda_cons (pd_var 0) (pda_cons (pd_lc (own := [("y", 5)]) (gok_nm 5) rfl sc_loose_among.nd (blkOk_by (by rfl)) (pdi_seq (pd_ix hr.u1 (pd_var 2) (pd_var 4))) (fun _ _ _ _ _ => (pg_name (i := 5) sc_loose_among.nd rfl (by first | exact Or.inl rfl | exact Or.inr rfl))) (fun _ _ _ _ _ => (pds_tests1 (pdt_cmp (od_in hr.u65) (pd_var 5) (pd_var 1)))) (fun _ _ _ _ _ => (pd_var 5))) pda_nil))) pd_non)
    (pdss_one (pds_expr (pd_mt PySem.F.slot_list_append PySem.F.type_list_append md_append (pd_var 3) (pda_cons (pd_var 4) pda_nil))))
    pdss_nil)))
    (pdss_one (pds_ret (pd_var 3)))))
def N_loose_spots : List Str := ["order"]
theorem sc_loose_spots : FnScope N_loose_spots ["order"] (defScope (top 14)) := ⟨rfl, rfl, rfl, by decide +kernel, rfl, by decide +kernel, by decide +kernel⟩
def den_loose_spots : DS := (dRet (dL oTuple (dCons (dL (ofN 2 F_loose_among) (dCons (dVar 0) (dCons (dLstRg (dRg1 (dBin oIx (dVar 0) (dC (.int 0))))) dNil))) dNil)))
def F_loose_spots : DFn := runD 1 den_loose_spots
theorem ok_loose_spots {P : Program} {w : World} {K : PySem.W.Frag} {h : Heap} {mg : Str → Option Value} (X : K.In h) (G : h.Ns mainGlobals mg) (c : He.SaysD fa fn K) : DOk P w K mg CX0 XX0 4 "loose_spots" (top 14) ["order"] F_loose_spots := by
  obtain ⟨fd, F⟩ := c.def_ 9 (d := mkD "loose_spots" 14) rfl
  have d_loose_among := ok_loose_among (w := w) (P := P) X G c
  have m_list : mg "list" = none := He.free_ok X G (c.fact 37 (f := .free "list") rfl)
  have m_range : mg "range" = none := He.free_ok X G (c.fact 40 (f := .free "range") rfl)
  have m_tuple : mg "tuple" = none := He.free_ok X G (c.fact 44 (f := .free "tuple") rfl)
  refine DOk.of0 F (He.glo_ok X G (c.fact 9 (f := .glo "loose_spots") rfl)) sc_loose_spots (fun _ _ _ _ _ _ us hl => match us, hl with | [_], _ => rfl) fun base cdv A outer s H E KX G' hr hg => ?_
  unfold den_loose_spots
  exact (pdss_one (pds_ret (pd_callTy cd_tuple m_tuple bt_tuple (pda_cons (pc_call (E := fun _ _ _ => False) d_loose_among (hr.mono (by decide)) ⟨KX, G', pass0, hg⟩ (pda_cons (pd_var 0) (pda_cons (pd_listRg1 rfl m_range m_list (pd_ix hr.u1 (pd_var 0) pd_int)) pda_nil))) pda_nil))))
def N_bared : List Str := ["order", "left", "loose"]
theorem sc_bared : FnScope N_bared ["order"] (defScope (top 15)) := ⟨rfl, rfl, rfl, by decide +kernel, rfl, by decide +kernel, by decide +kernel⟩
def den_bared : DS := (dSeq (dSet 1 (dLstRg (dRg1 (dBin oIx (dVar 0) (dC (.int 0))))))
    (dSeq (dSet 2 (dL (ofN 2 F_loose_among) (dCons (dVar 0) (dCons (dVar 1) dNil))))
    (dSeq (whileLoop (dTru (dVar 2))
    (dSeq (dExpr (dMt oRem (dVar 1) (dCons (dBin oIx (dVar 2) (dC (.int 0))) dNil)))
    (dSet 2 (dL (ofN 2 F_loose_among) (dCons (dVar 0) (dCons (dVar 1) dNil))))) 1048576)
    (dRet (dL oTuple (dCons (dVar 1) dNil))))))
def F_bared : DFn := runD 3 den_bared
theorem ok_bared {P : Program} {w : World} {K : PySem.W.Frag} {h : Heap} {mg : Str → Option Value} (X : K.In h) (G : h.Ns mainGlobals mg) (c : He.SaysD fa fn K) : DOk P w K mg CX0 XX0 4 "bared" (top 15) ["order"] F_bared := by
  obtain ⟨fd, F⟩ := c.def_ 10 (d := mkD "bared" 15) rfl
  have d_loose_among := ok_loose_among (w := w) (P := P) X G c
  have m_list : mg "list" = none := He.free_ok X G (c.fact 37 (f := .free "list") rfl)
  have m_range : mg "range" = none := He.free_ok X G (c.fact 40 (f := .free "range") rfl)
  have m_tuple : mg "tuple" = none := He.free_ok X G (c.fact 44 (f := .free "tuple") rfl)
  refine DOk.of0 F (He.glo_ok X G (c.fact 10 (f := .glo "bared") rfl)) sc_bared (fun _ _ _ _ _ _ us hl => match us, hl with | [_], _ => rfl) fun base cdv A outer s H E KX G' hr hg => ?_
  unfold den_bared
  exact (pdss_cons (pds_set 1 sc_bared.nd (pd_listRg1 rfl m_range m_list (pd_ix hr.u1 (pd_var 0) pd_int)))
    (pdss_cons (pds_set 2 sc_bared.nd (pc_call (E := fun _ _ _ => False) d_loose_among (hr.mono (by decide)) ⟨KX, G', pass0, hg⟩ (pda_cons (pd_var 0) (pda_cons (pd_var 1) pda_nil))))
    (pdss_cons (pds_while 1048576 PassesOwn.never (pdt_tru (pd_var 2))
    (pdss_cons (pds_expr (pd_rem rfl (pd_var 1) (pd_ix hr.u1 (pd_var 2) pd_int)))
    (pdss_one (pds_set 2 sc_bared.nd (pc_call (E := fun _ _ _ => False) d_loose_among (hr.mono (by decide)) ⟨KX, G', pass0, hg⟩ (pda_cons (pd_var 0) (pda_cons (pd_var 1) pda_nil)))))))
    (pdss_one (pds_ret (pd_callTy cd_tuple m_tuple bt_tuple (pda_cons (pd_var 1) pda_nil)))))))
def N_bared_leading : List Str := ["order", "left", "y", "x"]
theorem sc_bared_leading : FnScope N_bared_leading ["order"] (defScope (top 16)) := ⟨rfl, rfl, rfl, by decide +kernel, rfl, by decide +kernel, by decide +kernel⟩
def den_bared_leading : DS := (dSeq (dSet 1 (dL (ofN 1 F_bared) (dCons (dVar 0) dNil)))
    (dRet (dL oTuple (dCons (dLc (itRg1 (dBin oIx (dVar 0) (dC (.int 0)))) [3] (nNm 3) dYes (dL (ofN 2 F_greatest_of) (dCons (dVar 0) (dCons (dLc (itSeq (dVar 1)) [2] (nNm 2) (dTru (dL (ofN 3 F_is_led) (dCons (dVar 0) (dCons (dVar 2) (dCons (dVar 3) dNil))))) (dVar 2)) dNil)))) dNil))))
def F_bared_leading : DFn := runD 4 den_bared_leading
theorem ok_bared_leading {P : Program} {w : World} {K : PySem.W.Frag} {h : Heap} {mg : Str → Option Value} (X : K.In h) (G : h.Ns mainGlobals mg) (c : He.SaysD fa fn K) : DOk P w K mg CX0 XX0 5 "bared_leading" (top 16) ["order"] F_bared_leading := by
  obtain ⟨fd, F⟩ := c.def_ 11 (d := mkD "bared_leading" 16) rfl
  have d_bared := ok_bared (w := w) (P := P) X G c
  have d_greatest_of := ok_greatest_of (w := w) (P := P) X G c
  have d_is_led := ok_is_led (w := w) (P := P) X G c
  have m_range : mg "range" = none := He.free_ok X G (c.fact 40 (f := .free "range") rfl)
  have m_tuple : mg "tuple" = none := He.free_ok X G (c.fact 44 (f := .free "tuple") rfl)
  refine DOk.of0 F (He.glo_ok X G (c.fact 11 (f := .glo "bared_leading") rfl)) sc_bared_leading (fun _ _ _ _ _ _ us hl => match us, hl with | [_], _ => rfl) fun base cdv A outer s H E KX G' hr hg => ?_
  unfold den_bared_leading
  exact (pdss_cons (pds_set 1 sc_bared_leading.nd (pc_call (E := fun _ _ _ => False) d_bared (hr.mono (by decide)) ⟨KX, G', pass0, hg⟩ (pda_cons (pd_var 0) pda_nil)))
    (pdss_one (pds_ret (pd_callTy cd_tuple m_tuple bt_tuple (pda_cons (pd_lc (own := [("x", 3)]) (gok_nm 3) rfl sc_bared_leading.nd (blkOk_by (by rfl)) (pdi_range1 rfl m_range (pd_ix hr.u1 (pd_var 0) pd_int)) (fun _ _ _ _ _ => (pg_name (i := 3) sc_bared_leading.nd rfl (by first | exact Or.inl rfl | exact Or.inr rfl))) (fun _ _ _ _ _ => pds_tests0) (fun _ _ _ _ _ => (pc_call (E := fun _ _ _ => False) d_greatest_of (hr.mono (by decide)) ⟨KX, G', pass0, hg⟩ (pda_cons (pd_var 0) (pda_cons (pd_lc (own := [("y", 2)]) (gok_nm 2) rfl sc_bared_leading.nd (blkOk_by (by rfl)) (pdi_seq (pd_var 1)) (fun _ _ _ _ _ => (pg_name (i := 2) sc_bared_leading.nd rfl (by first | exact Or.inl rfl | exact Or.inr rfl))) (fun _ _ _ _ _ => (pds_tests1 (pdt_tru (pc_call (E := fun _ _ _ => False) d_is_led (hr.mono (by decide)) ⟨KX, G', pass0, hg⟩ (pda_cons (pd_var 0) (pda_cons (pd_var 2) (pda_cons (pd_var 3) pda_nil))))))) (fun _ _ _ _ _ => (pd_var 2))) pda_nil))))) pda_nil)))))
def N_near_lists : List Str := ["order", "more", "less"]
theorem sc_near_lists : FnScope N_near_lists ["order"] (defScope (top 17)) := ⟨rfl, rfl, rfl, by decide +kernel, rfl, by decide +kernel, by decide +kernel⟩
def den_near_lists : DS := (dRet (dLc (itZip (dL (ofN 1 F_above_lists) (dCons (dVar 0) dNil)) (dL (ofN 1 F_below_lists) (dCons (dVar 0) dNil))) [1, 2] (nTp (nsCons (nNm 1) (nsCons (nNm 2) nsNil))) dYes (dBin oAdd (dVar 1) (dVar 2))))
def F_near_lists : DFn := runD 3 den_near_lists
theorem ok_near_lists {P : Program} {w : World} {K : PySem.W.Frag} {h : Heap} {mg : Str → Option Value} (X : K.In h) (G : h.Ns mainGlobals mg) (c : He.SaysD fa fn K) : DOk P w K mg CX0 XX0 2 "near_lists" (top 17) ["order"] F_near_lists := by
  obtain ⟨fd, F⟩ := c.def_ 12 (d := mkD "near_lists" 17) rfl
  have d_above_lists := ok_above_lists (w := w) (P := P) X G c
  have d_below_lists := ok_below_lists (w := w) (P := P) X G c
  have m_zip : mg "zip" = none := He.free_ok X G (c.fact 45 (f := .free "zip") rfl)
  refine DOk.of0 F (He.glo_ok X G (c.fact 12 (f := .glo "near_lists") rfl)) sc_near_lists (fun _ _ _ _ _ _ us hl => match us, hl with | [_], _ => rfl) fun base cdv A outer s H E KX G' hr hg => ?_
  unfold den_near_lists
  exact (pdss_one (pds_ret (pd_lc (own := [("more", 1), ("less", 2)]) (gok_t2 (gok_nm 1) (gok_nm 2)) rfl sc_near_lists.nd (blkOk_by (by rfl)) (pdi_zip rfl m_zip (pc_call (E := fun _ _ _ => False) d_above_lists (hr.mono (by decide)) ⟨KX, G', pass0, hg⟩ (pda_cons (pd_var 0) pda_nil)) (pc_call (E := fun _ _ _ => False) d_below_lists (hr.mono (by decide)) ⟨KX, G', pass0, hg⟩ (pda_cons (pd_var 0) pda_nil))) (fun _ _ _ _ _ => (pg_tup rfl (pgs_cons (pg_name (i := 1) sc_near_lists.nd rfl (by first | exact Or.inl rfl | exact Or.inr rfl)) (pgs_cons (pg_name (i := 2) sc_near_lists.nd rfl (by first | exact Or.inl rfl | exact Or.inr rfl)) pgs_nil)))) (fun _ _ _ _ _ => pds_tests0) (fun _ _ _ _ _ => (pd_bin od_add (pd_var 1) (pd_var 2))))))
def N_piece_of : List Str := ["order", "x", "near", "found", "done", "y"]
theorem sc_piece_of : FnScope N_piece_of ["order", "x"] (defScope (top 18)) := ⟨rfl, rfl, rfl, by decide +kernel, rfl, by decide +kernel, by decide +kernel⟩
def den_piece_of : DS := (dSeq (dAsg (nTp (nsCons (nNm 2) (nsCons (nNm 3) (nsCons (nNm 4) nsNil)))) (dL oTup (dCons (dL (ofN 1 F_near_lists) (dCons (dVar 0) dNil)) (dCons (dL oLst (dCons (dVar 1) dNil)) (dCons (dC (.int 0)) dNil)))))
    (dSeq (whileLoop (dB (dBin (oCmp gLt) (dVar 4) (dL oLen (dCons (dVar 3) dNil))))
    (dSeq (dSet 3 (dBin oAdd (dVar 3) (dLc (itSeq (dBin oIx (dVar 2) (dBin oIx (dVar 3) (dVar 4)))) [5] (nNm 5) (dB (dBin oNotIn (dVar 5) (dVar 3))) (dVar 5))))
    (dSet 4 (dBin oAddN (dVar 4) (dC (.int 1))))) 1048576)
    (dRet (dL oTuple (dCons (dL oSorted (dCons (dVar 3) dNil)) dNil)))))
def F_piece_of : DFn := runD 6 den_piece_of
theorem ok_piece_of {P : Program} {w : World} {K : PySem.W.Frag} {h : Heap} {mg : Str → Option Value} (X : K.In h) (G : h.Ns mainGlobals mg) (c : He.SaysD fa fn K) : DOk P w K mg CX0 XX0 3 "piece_of" (top 18) ["order", "x"] F_piece_of := by
  obtain ⟨fd, F⟩ := c.def_ 13 (d := mkD "piece_of" 18) rfl
  have d_near_lists := ok_near_lists (w := w) (P := P) X G c
  have m_len : mg "len" = none := He.free_ok X G (c.fact 36 (f := .free "len") rfl)
  have m_sorted : mg "sorted" = none := He.free_ok X G (c.fact 43 (f := .free "sorted") rfl)
  have m_tuple : mg "tuple" = none := He.free_ok X G (c.fact 44 (f := .free "tuple") rfl)
  refine DOk.of0 F (He.glo_ok X G (c.fact 13 (f := .glo "piece_of") rfl)) sc_piece_of (fun _ _ _ _ _ _ us hl => match us, hl with | [_, _], _ => rfl) fun base cdv A outer s H E KX G' hr hg => ?_
  unfold den_piece_of
  exact (pdss_cons (pds_asg (gok_t3 (gok_nm 2) (gok_nm 3) (gok_nm 4)) (pg_tup rfl (pgs_cons (pg_name (i := 2) sc_piece_of.nd rfl (by first | exact Or.inl rfl | exact Or.inr rfl)) (pgs_cons (pg_name (i := 3) sc_piece_of.nd rfl (by first | exact Or.inl rfl | exact Or.inr rfl)) (pgs_cons (pg_name (i := 4) sc_piece_of.nd rfl (by first | exact Or.inl rfl | exact Or.inr rfl)) pgs_nil)))) (pd_tup (pda_cons (pc_call (E := fun _ _ _ => False) d_near_lists (hr.mono (by decide)) ⟨KX, G', pass0, hg⟩ (pda_cons (pd_var 0) pda_nil)) (pda_cons (pd_lst (pda_cons (pd_var 1) pda_nil)) (pda_cons pd_int pda_nil)))))
    (pdss_cons (pds_while 1048576 PassesOwn.never (pdt_cmp od_lt (pd_var 4) (pd_callB cd_len m_len bt_len (pda_cons (pd_var 3) pda_nil)))
    (pdss_cons (pds_set 3 sc_piece_of.nd (pd_bin od_add (pd_var 3) (pd_lc (own := [("y", 5)]) (gok_nm 5) rfl sc_piece_of.nd (blkOk_by (by rfl)) (pdi_seq (pd_ix hr.u1 (pd_var 2) (pd_ix hr.u1 (pd_var 3) (pd_var 4)))) (fun _ _ _ _ _ => (pg_name (i := 5) sc_piece_of.nd rfl (by first | exact Or.inl rfl | exact Or.inr rfl))) (fun _ _ _ _ _ => (pds_tests1 (pdt_cmp (od_notin hr.u65) (pd_var 5) (pd_var 3)))) (fun _ _ _ _ _ => (pd_var 5)))))
    (pdss_one (pds_aug 4 sc_piece_of.nd pd_int))))
    (pdss_one (pds_ret (pd_callTy cd_tuple m_tuple bt_tuple (pda_cons (pd_callB (cd_sorted rfl) m_sorted bt_sorted (pda_cons (pd_var 3) pda_nil)) pda_nil))))))
def N_pieces : List Str := ["order", "found", "x", "spots"]
theorem sc_pieces : FnScope N_pieces ["order"] (defScope (top 19)) := ⟨rfl, rfl, rfl, by decide +kernel, rfl, by decide +kernel, by decide +kernel⟩
def den_pieces : DS := (dSeq (dSet 1 (dL oLst dNil))
    (dSeq (dFor (itRg1 (dBin oIx (dVar 0) (dC (.int 0)))) (nNm 2)
    (dIfS (dNot (dTru (dL oAny (dCons (dLc (itSeq (dVar 1)) [3] (nNm 3) dYes (dBin oIn (dVar 2) (dVar 3))) dNil))))
    (dExpr (dMt oAppend (dVar 1) (dCons (dL (ofN 2 F_piece_of) (dCons (dVar 0) (dCons (dVar 2) dNil))) dNil)))
    dNext))
    (dRet (dL oTuple (dCons (dVar 1) dNil)))))
def F_pieces : DFn := runD 4 den_pieces
theorem ok_pieces {P : Program} {w : World} {K : PySem.W.Frag} {h : Heap} {mg : Str → Option Value} (X : K.In h) (G : h.Ns mainGlobals mg) (c : He.SaysD fa fn K) : DOk P w K mg CX0 XX0 4 "pieces" (top 19) ["order"] F_pieces := by
  obtain ⟨fd, F⟩ := c.def_ 14 (d := mkD "pieces" 19) rfl
  have d_piece_of := ok_piece_of (w := w) (P := P) X G c
  have m_any : mg "any" = none := He.free_ok X G (c.fact 31 (f := .free "any") rfl)
  have m_range : mg "range" = none := He.free_ok X G (c.fact 40 (f := .free "range") rfl)
  have m_tuple : mg "tuple" = none := He.free_ok X G (c.fact 44 (f := .free "tuple") rfl)
  refine DOk.of0 F (He.glo_ok X G (c.fact 14 (f := .glo "pieces") rfl)) sc_pieces (fun _ _ _ _ _ _ us hl => match us, hl with | [_], _ => rfl) fun base cdv A outer s H E KX G' hr hg => ?_
  unfold den_pieces
  exact (pdss_cons (pds_set 1 sc_pieces.nd (pd_lst pda_nil))
    (pdss_cons (pds_for (gok_nm 2) PassesOwn.never rfl (pdi_range1 rfl m_range (pd_ix hr.u1 (pd_var 0) pd_int)) (pg_name (i := 2) sc_pieces.nd rfl (by first | exact Or.inl rfl | exact Or.inr rfl))
    (pdss_one (pds_if (pdt_not (pdt_tru (pd_callB (cd_any rfl) m_any bt_any (pda_cons (pd_lc (own := [("spots", 3)]) (gok_nm 3) rfl sc_pieces.nd (blkOk_by (by rfl)) (pdi_seq (pd_var 1)) (fun _ _ _ _ _ => (pg_name (i := 3) sc_pieces.nd rfl (by first | exact Or.inl rfl | exact Or.inr rfl))) (fun _ _ _ _ _ => pds_tests0) (fun _ _ _ _ _ => (pd_cmp (od_in hr.u65) (pd_var 2) (pd_var 3)))) pda_nil))))
    (pdss_one (pds_expr (pd_mt PySem.F.slot_list_append PySem.F.type_list_append md_append (pd_var 1) (pda_cons (pc_call (E := fun _ _ _ => False) d_piece_of (hr.mono (by decide)) ⟨KX, G', pass0, hg⟩ (pda_cons (pd_var 0) (pda_cons (pd_var 2) pda_nil))) pda_nil))))
    pdss_nil)))
    (pdss_one (pds_ret (pd_callTy cd_tuple m_tuple bt_tuple (pda_cons (pd_var 1) pda_nil))))))
def N__law_begun : List Str := ["_law_script", "_law_k", "_law_cells", "_law_great", "_law_cell", "_law_seed"]
theorem sc__law_begun : FnScope N__law_begun ["_law_script", "_law_k"] (defScope (top 21)) := ⟨rfl, rfl, rfl, by decide +kernel, rfl, by decide +kernel, by decide +kernel⟩
def den__law_begun : DS := (dSeq (dSet 2 (dBin oAdd (dSl (dVar 0) (dP (dVar 1)) dNoP) (dSl (dVar 0) dNoP (dP (dVar 1)))))
    (dSeq (dSet 3 (dLc (itSeq (dVar 2)) [4] (nNm 4) (dB (dBin (oCmp gGe) (dVar 4) (dBin oPow (dC (.int 10)) (dC (.int 18))))) (dVar 4)))
    (dSeq (dSet 5 (dBin oAdd (dC (.int 71)) (dVar 1)))
    (dSeq (dFor (itSeq (dVar 2)) (nNm 4)
    (dSet 5 (dBin oMod (dL oInt (dCons (dBin oAdd (dBin oMul (dVar 5) (dC (.int 48271))) (dVar 4)) dNil)) (dC (.int 2147483647)))))
    (dRet (dDisp (dpCons (dC (.str "left")) (dIf (dB (dBin oNe (dVar 3) (dL oLst dNil))) (dBin oIx (dVar 3) (dC (.int 0))) (dC (.int 0))) (dpCons (dC (.str "seed")) (dVar 5) (dpCons (dC (.str "cells")) (dBin oAdd (dVar 2) (dL oLst (dCons (dBin oAdd (dBin oMul (dC (.int 53)) (dVar 1)) (dC (.int 11))) dNil))) (dpCons (dC (.str "spot")) (dC (.int 0)) dpNil))))))))))
def F__law_begun : DFn := runD 6 den__law_begun
theorem ok__law_begun {P : Program} {w : World} {K : PySem.W.Frag} {h : Heap} {mg : Str → Option Value} (X : K.In h) (G : h.Ns mainGlobals mg) (c : He.SaysD fa fn K) : DOk P w K mg CX0 XX0 1 "_law_begun" (top 21) ["_law_script", "_law_k"] F__law_begun := by
  obtain ⟨fd, F⟩ := c.def_ 15 (d := mkD "_law_begun" 21) rfl
  have m_int : mg "int" = none := He.free_ok X G (c.fact 34 (f := .free "int") rfl)
  refine DOk.of0 F (He.glo_ok X G (c.fact 15 (f := .glo "_law_begun") rfl)) sc__law_begun (fun _ _ _ _ _ _ us hl => match us, hl with | [_, _], _ => rfl) fun base cdv A outer s H E KX G' hr hg => ?_
  unfold den__law_begun
  exact (pdss_cons (pds_set 2 sc__law_begun.nd (pd_bin od_add (pd_slice (pd_var 0) (pdp_some (pd_var 1)) pdp_none) (pd_slice (pd_var 0) pdp_none (pdp_some (pd_var 1)))))
    (pdss_cons (pds_setLc 3 (own := [("_law_cell", 4)]) (gok_nm 4) rfl sc__law_begun.nd (blkOk_by (by rfl)) (pdi_seq (pd_var 2)) (fun _ _ _ _ _ => (pg_name (i := 4) sc__law_begun.nd rfl (by first | exact Or.inl rfl | exact Or.inr rfl))) (fun _ _ _ _ _ => (pds_tests1 (pdt_cmp od_ge (pd_var 4) (pd_bin od_pow pd_int pd_int)))) (fun _ _ _ _ _ => (pd_var 4)))
    (pdss_cons (pds_set 5 sc__law_begun.nd (pd_bin od_add pd_int (pd_var 1)))
    (pdss_cons (pds_for (gok_nm 4) PassesOwn.never rfl (pdi_seq (pd_var 2)) (pg_name (i := 4) sc__law_begun.nd rfl (by first | exact Or.inl rfl | exact Or.inr rfl))
    (pdss_one (pds_set 5 sc__law_begun.nd (pd_bin od_mod (pd_callTy cd_int m_int bt_int (pda_cons (pd_bin od_add (pd_bin od_mul (pd_var 5) pd_int) (pd_var 4)) pda_nil)) pd_int))))
    (pdss_one (pds_ret (pd_disp (psok_cons (psok_cons (psok_cons (psok_cons psok_nil)))) (pps_cons pd_str (pd_if (pdt_cmp (od_ne hr.u64) (pd_var 3) (pd_lst pda_nil)) (pd_ix hr.u1 (pd_var 3) pd_int) pd_int) (pps_cons pd_str (pd_var 5) (pps_cons pd_str (pd_bin od_add (pd_var 2) (pd_lst (pda_cons (pd_bin od_add (pd_bin od_mul pd_int (pd_var 1)) pd_int) pda_nil))) (pps_cons pd_str pd_int pps_nil)))))))))))
def N__law_draw : List Str := ["_law_m", "_law_bound", "_law_found", "_law_spot", "_law_cells", "_law_extra", "_law_cell", "_law_blend"]
theorem sc__law_draw : FnScope N__law_draw ["_law_m", "_law_bound"] (defScope (top 22)) := ⟨rfl, rfl, rfl, by decide +kernel, rfl, by decide +kernel, by decide +kernel⟩
def den__law_draw : DS := (dSeq (dIfS (dB (dBin (oCmp gGt) (dBin oIx (dVar 0) (dC (.str "left"))) (dC (.int 0))))
    (dSeq (dSet 2 (dBin oMod (dL oInt (dCons (dBin oIx (dVar 0) (dC (.str "left"))) dNil)) (dVar 1)))
    (dSeq (dSetIx (dBin oFdiv (dBin oIx (dVar 0) (dC (.str "left"))) (dVar 1)) (dVar 0) (dC (.str "left")))
    (dRet (dVar 2))))
    dNext)
    (dSeq (dSet 3 (dBin oIx (dVar 0) (dC (.str "spot"))))
    (dSeq (dSetIx (dBin oAdd (dVar 3) (dC (.int 1))) (dVar 0) (dC (.str "spot")))
    (dSeq (dPar 4 5 (dBin oIx (dVar 0) (dC (.str "cells"))) (dBin oAdd (dBin oIx (dVar 0) (dC (.str "seed"))) (dBin oMul (dBin oMul (dC (.int 40503)) (dVar 3)) (dVar 3))))
    (dSeq (dSet 6 (dBin oIx (dVar 4) (dBin oMod (dL oInt (dCons (dVar 3) dNil)) (dL oLen (dCons (dVar 4) dNil)))))
    (dSeq (dSet 7 (dBin oMod (dL oInt (dCons (dBin oAdd (dBin oMul (dVar 6) (dBin oAdd (dBin oMul (dC (.int 2)) (dVar 3)) (dC (.int 3)))) (dVar 5)) dNil)) (dC (.int 2147483647))))
    (dSeq (dSet 7 (dBin oMod (dL oInt (dCons (dBin oAdd (dBin oAdd (dBin oMul (dVar 7) (dVar 7)) (dBin oMul (dC (.int 69621)) (dVar 3))) (dBin oIx (dVar 0) (dC (.str "seed")))) dNil)) (dC (.int 2147483629))))
    (dRet (dBin oMod (dBin oFdiv (dBin oMod (dL oInt (dCons (dBin oAdd (dBin oMul (dVar 7) (dC (.int 48271))) (dVar 3)) dNil)) (dC (.int 2147483647))) (dC (.int 11))) (dVar 1))))))))))
def F__law_draw : DFn := runD 8 den__law_draw
theorem ok__law_draw {P : Program} {w : World} {K : PySem.W.Frag} {h : Heap} {mg : Str → Option Value} (X : K.In h) (G : h.Ns mainGlobals mg) (c : He.SaysD fa fn K) : DOk P w K mg CX0 XX0 1 "_law_draw" (top 22) ["_law_m", "_law_bound"] F__law_draw := by
  obtain ⟨fd, F⟩ := c.def_ 16 (d := mkD "_law_draw" 22) rfl
  have m_int : mg "int" = none := He.free_ok X G (c.fact 34 (f := .free "int") rfl)
  have m_len : mg "len" = none := He.free_ok X G (c.fact 36 (f := .free "len") rfl)
  refine DOk.of0 F (He.glo_ok X G (c.fact 16 (f := .glo "_law_draw") rfl)) sc__law_draw (fun _ _ _ _ _ _ us hl => match us, hl with | [_, _], _ => rfl) fun base cdv A outer s H E KX G' hr hg => ?_
  unfold den__law_draw
  exact (pdss_cons (pds_if (pdt_cmp od_gt (pd_ix hr.u1 (pd_var 0) pd_str) pd_int)
    (pdss_cons (pds_set 2 sc__law_draw.nd (pd_bin od_mod (pd_callTy cd_int m_int bt_int (pda_cons (pd_ix hr.u1 (pd_var 0) pd_str) pda_nil)) (pd_var 1)))
    (pdss_cons (pds_setIx hr.u1 (pd_bin od_fdiv (pd_ix hr.u1 (pd_var 0) pd_str) (pd_var 1)) (pd_var 0) pd_str)
    (pdss_one (pds_ret (pd_var 2)))))
    pdss_nil)
    (pdss_cons (pds_set 3 sc__law_draw.nd (pd_ix hr.u1 (pd_var 0) pd_str))
    (pdss_cons (pds_setIx hr.u1 (pd_bin od_add (pd_var 3) pd_int) (pd_var 0) pd_str)
    (pdss_cons (pds_par 4 5 rfl sc__law_draw.nd (pd_ix hr.u1 (pd_var 0) pd_str) (pd_bin od_add (pd_ix hr.u1 (pd_var 0) pd_str) (pd_bin od_mul (pd_bin od_mul pd_int (pd_var 3)) (pd_var 3))))
    (pdss_cons (pds_set 6 sc__law_draw.nd (pd_ix hr.u1 (pd_var 4) (pd_bin od_mod (pd_callTy cd_int m_int bt_int (pda_cons (pd_var 3) pda_nil)) (pd_callB cd_len m_len bt_len (pda_cons (pd_var 4) pda_nil)))))
    (pdss_cons (pds_set 7 sc__law_draw.nd (pd_bin od_mod (pd_callTy cd_int m_int bt_int (pda_cons (pd_bin od_add (pd_bin od_mul (pd_var 6) (pd_bin od_add (pd_bin od_mul pd_int (pd_var 3)) pd_int)) (pd_var 5)) pda_nil)) pd_int))
    (pdss_cons (pds_set 7 sc__law_draw.nd (pd_bin od_mod (pd_callTy cd_int m_int bt_int (pda_cons (pd_bin od_add (pd_bin od_add (pd_bin od_mul (pd_var 7) (pd_var 7)) (pd_bin od_mul pd_int (pd_var 3))) (pd_ix hr.u1 (pd_var 0) pd_str)) pda_nil)) pd_int))
    (pdss_one (pds_ret (pd_bin od_mod (pd_bin od_fdiv (pd_bin od_mod (pd_callTy cd_int m_int bt_int (pda_cons (pd_bin od_add (pd_bin od_mul (pd_var 7) pd_int) (pd_var 3)) pda_nil)) pd_int) pd_int) (pd_var 1)))))))))))
def N__law_of : List Str := ["_law_m", "_law_some"]
theorem sc__law_of : FnScope N__law_of ["_law_m", "_law_some"] (defScope (top 23)) := ⟨rfl, rfl, rfl, by decide +kernel, rfl, by decide +kernel, by decide +kernel⟩
def den__law_of : DS := (dRet (dBin oIx (dVar 1) (dL (ofN 2 F__law_draw) (dCons (dVar 0) (dCons (dL oLen (dCons (dVar 1) dNil)) dNil)))))
def F__law_of : DFn := runD 2 den__law_of
theorem ok__law_of {P : Program} {w : World} {K : PySem.W.Frag} {h : Heap} {mg : Str → Option Value} (X : K.In h) (G : h.Ns mainGlobals mg) (c : He.SaysD fa fn K) : DOk P w K mg CX0 XX0 2 "_law_of" (top 23) ["_law_m", "_law_some"] F__law_of := by
  obtain ⟨fd, F⟩ := c.def_ 17 (d := mkD "_law_of" 23) rfl
  have d__law_draw := ok__law_draw (w := w) (P := P) X G c
  have m_len : mg "len" = none := He.free_ok X G (c.fact 36 (f := .free "len") rfl)
  refine DOk.of0 F (He.glo_ok X G (c.fact 17 (f := .glo "_law_of") rfl)) sc__law_of (fun _ _ _ _ _ _ us hl => match us, hl with | [_, _], _ => rfl) fun base cdv A outer s H E KX G' hr hg => ?_
  unfold den__law_of
  exact (pdss_one (pds_ret (pd_ix hr.u1 (pd_var 1) (pc_call (E := fun _ _ _ => False) d__law_draw (hr.mono (by decide)) ⟨KX, G', pass0, hg⟩ (pda_cons (pd_var 0) (pda_cons (pd_callB cd_len m_len bt_len (pda_cons (pd_var 1) pda_nil)) pda_nil))))))
def N__law_shuffled : List Str := ["_law_m", "_law_count", "_law_left", "_law_found", "_law_k", "_law_one", "_law_other"]
theorem sc__law_shuffled : FnScope N__law_shuffled ["_law_m", "_law_count"] (defScope (top 24)) := ⟨rfl, rfl, rfl, by decide +kernel, rfl, by decide +kernel, by decide +kernel⟩
def den__law_shuffled : DS := (dSeq (dPar 2 3 (dLstRg (dRg1 (dVar 1))) (dL oLst dNil))
    (dSeq (dFor (itRg1 (dVar 1)) (nNm 4)
    (dSeq (dSet 5 (dL (ofN 2 F__law_of) (dCons (dVar 0) (dCons (dVar 2) dNil))))
    (dSeq (dSet 2 (dLc (itSeq (dVar 2)) [6] (nNm 6) (dB (dBin oNe (dVar 6) (dVar 5))) (dVar 6)))
    (dExpr (dMt oAppend (dVar 3) (dCons (dVar 5) dNil))))))
    (dRet (dL oTuple (dCons (dVar 3) dNil)))))
def F__law_shuffled : DFn := runD 7 den__law_shuffled
theorem ok__law_shuffled {P : Program} {w : World} {K : PySem.W.Frag} {h : Heap} {mg : Str → Option Value} (X : K.In h) (G : h.Ns mainGlobals mg) (c : He.SaysD fa fn K) : DOk P w K mg CX0 XX0 3 "_law_shuffled" (top 24) ["_law_m", "_law_count"] F__law_shuffled := by
  obtain ⟨fd, F⟩ := c.def_ 18 (d := mkD "_law_shuffled" 24) rfl
  have d__law_of := ok__law_of (w := w) (P := P) X G c
  have m_list : mg "list" = none := He.free_ok X G (c.fact 37 (f := .free "list") rfl)
  have m_range : mg "range" = none := He.free_ok X G (c.fact 40 (f := .free "range") rfl)
  have m_tuple : mg "tuple" = none := He.free_ok X G (c.fact 44 (f := .free "tuple") rfl)
  refine DOk.of0 F (He.glo_ok X G (c.fact 18 (f := .glo "_law_shuffled") rfl)) sc__law_shuffled (fun _ _ _ _ _ _ us hl => match us, hl with | [_, _], _ => rfl) fun base cdv A outer s H E KX G' hr hg => ?_
  unfold den__law_shuffled
  exact (pdss_cons (pds_par 2 3 rfl sc__law_shuffled.nd (pd_listRg1 rfl m_range m_list (pd_var 1)) (pd_lst pda_nil))
    (pdss_cons (pds_for (gok_nm 4) PassesOwn.never rfl (pdi_range1 rfl m_range (pd_var 1)) (pg_name (i := 4) sc__law_shuffled.nd rfl (by first | exact Or.inl rfl | exact Or.inr rfl))
    (pdss_cons (pds_set 5 sc__law_shuffled.nd (pc_call (E := fun _ _ _ => False) d__law_of (hr.mono (by decide)) ⟨KX, G', pass0, hg⟩ (pda_cons (pd_var 0) (pda_cons (pd_var 2) pda_nil))))
    (pdss_cons (pds_setLc 2 (own := [("_law_other", 6)]) (gok_nm 6) rfl sc__law_shuffled.nd (blkOk_by (by rfl)) (pdi_seq (pd_var 2)) (fun _ _ _ _ _ => (pg_name (i := 6) sc__law_shuffled.nd rfl (by first | exact Or.inl rfl | exact Or.inr rfl))) (fun _ _ _ _ _ => (pds_tests1 (pdt_cmp (od_ne hr.u64) (pd_var 6) (pd_var 5)))) (fun _ _ _ _ _ => (pd_var 6)))
    (pdss_one (pds_expr (pd_mt PySem.F.slot_list_append PySem.F.type_list_append md_append (pd_var 3) (pda_cons (pd_var 5) pda_nil)))))))
    (pdss_one (pds_ret (pd_callTy cd_tuple m_tuple bt_tuple (pda_cons (pd_var 3) pda_nil))))))
def N__law_like : List Str := ["_law_got", "_law_due"]
theorem sc__law_like : FnScope N__law_like ["_law_got", "_law_due"] (defScope (top 25)) := ⟨rfl, rfl, rfl, by decide +kernel, rfl, by decide +kernel, by decide +kernel⟩
def den__law_like : DS := (dRet (dBin oEqS (dL oRepr (dCons (dVar 0) dNil)) (dL oRepr (dCons (dVar 1) dNil))))
def F__law_like : DFn := runD 2 den__law_like
theorem ok__law_like {P : Program} {w : World} {K : PySem.W.Frag} {h : Heap} {mg : Str → Option Value} (X : K.In h) (G : h.Ns mainGlobals mg) (c : He.SaysD fa fn K) : DOk P w K mg CX0 XX0 1 "_law_like" (top 25) ["_law_got", "_law_due"] F__law_like := by
  obtain ⟨fd, F⟩ := c.def_ 19 (d := mkD "_law_like" 25) rfl
  have m_repr : mg "repr" = none := He.free_ok X G (c.fact 41 (f := .free "repr") rfl)
  refine DOk.of0 F (He.glo_ok X G (c.fact 19 (f := .glo "_law_like") rfl)) sc__law_like (fun _ _ _ _ _ _ us hl => match us, hl with | [_, _], _ => rfl) fun base cdv A outer s H E KX G' hr hg => ?_
  unfold den__law_like
  exact (pdss_one (pds_ret (pd_cmp od_eqS (pd_callB (cd_repr hg hr.u65) m_repr bt_repr (pda_cons (pd_var 0) pda_nil)) (pd_callB (cd_repr hg hr.u65) m_repr bt_repr (pda_cons (pd_var 1) pda_nil)))))
def N__law_closed : List Str := ["_law_n", "_law_pairs", "_law_found", "_law_z", "_law_x", "_law_y"]
theorem sc__law_closed : FnScope N__law_closed ["_law_n", "_law_pairs"] (defScope (top 26)) := ⟨rfl, rfl, rfl, by decide +kernel, rfl, by decide +kernel, by decide +kernel⟩
def den__law_closed : DS := (dSeq (dSet 2 (dL oList (dCons (dVar 1) dNil)))
    (dSeq (dFor (itRg1 (dVar 0)) (nNm 3)
    (dFor (itRg1 (dVar 0)) (nNm 4)
    (dIfS (dB (dBin oIn (dL oTup (dCons (dVar 4) (dCons (dVar 3) dNil))) (dVar 2)))
    (dExpr (dMt oExtend (dVar 2) (dCons (dLc (itRg1 (dVar 0)) [5] (nNm 5) (dAnd (dB (dBin oIn (dL oTup (dCons (dVar 3) (dCons (dVar 5) dNil))) (dVar 2))) (dB (dBin oNotIn (dL oTup (dCons (dVar 4) (dCons (dVar 5) dNil))) (dVar 2)))) (dL oTup (dCons (dVar 4) (dCons (dVar 5) dNil)))) dNil)))
    dNext)))
    (dRet (dL oTup (dCons (dVar 0) (dCons (dL oTupleX (dCons (dL oSortSet2 (dCons (dVar 2) dNil)) dNil)) dNil))))))
def F__law_closed : DFn := runD 6 den__law_closed
theorem ok__law_closed {P : Program} {w : World} {K : PySem.W.Frag} {h : Heap} {mg : Str → Option Value} (X : K.In h) (G : h.Ns mainGlobals mg) (c : He.SaysD fa fn K) : DOk P w K mg CX0 XX0 1 "_law_closed" (top 26) ["_law_n", "_law_pairs"] F__law_closed := by
  obtain ⟨fd, F⟩ := c.def_ 20 (d := mkD "_law_closed" 26) rfl
  have m_list : mg "list" = none := He.free_ok X G (c.fact 37 (f := .free "list") rfl)
  have m_range : mg "range" = none := He.free_ok X G (c.fact 40 (f := .free "range") rfl)
  have m_set : mg "set" = none := He.free_ok X G (c.fact 42 (f := .free "set") rfl)
  have m_sorted : mg "sorted" = none := He.free_ok X G (c.fact 43 (f := .free "sorted") rfl)
  have m_tuple : mg "tuple" = none := He.free_ok X G (c.fact 44 (f := .free "tuple") rfl)
  refine DOk.of0 F (He.glo_ok X G (c.fact 20 (f := .glo "_law_closed") rfl)) sc__law_closed (fun _ _ _ _ _ _ us hl => match us, hl with | [_, _], _ => rfl) fun base cdv A outer s H E KX G' hr hg => ?_
  unfold den__law_closed
  exact (pdss_cons (pds_set 2 sc__law_closed.nd (pd_callTy cd_list m_list bt_list (pda_cons (pd_var 1) pda_nil)))
    (pdss_cons (pds_for (gok_nm 3) PassesOwn.never rfl (pdi_range1 rfl m_range (pd_var 0)) (pg_name (i := 3) sc__law_closed.nd rfl (by first | exact Or.inl rfl | exact Or.inr rfl))
    (pdss_one (pds_for (gok_nm 4) PassesOwn.never rfl (pdi_range1 rfl m_range (pd_var 0)) (pg_name (i := 4) sc__law_closed.nd rfl (by first | exact Or.inl rfl | exact Or.inr rfl))
    (pdss_one (pds_if (pdt_cmp (od_in hr.u65) (pd_tup (pda_cons (pd_var 4) (pda_cons (pd_var 3) pda_nil))) (pd_var 2))
    (pdss_one (pds_expr (pd_mt PySem.F.slot_list_extend PySem.F.type_list_extend md_extend (pd_var 2) (pda_cons (pd_lc (own := [("_law_y", 5)]) (gok_nm 5) rfl sc__law_closed.nd (blkOk_by (by rfl)) (pdi_range1 rfl m_range (pd_var 0)) (fun _ _ _ _ _ => (pg_name (i := 5) sc__law_closed.nd rfl (by first | exact Or.inl rfl | exact Or.inr rfl))) (fun _ _ _ _ _ => (pds_tests1 (pdt_w (pdw_and (pdt_cmp (od_in hr.u65) (pd_tup (pda_cons (pd_var 3) (pda_cons (pd_var 5) pda_nil))) (pd_var 2)) (pdw_and1 (pdt_cmp (od_notin hr.u65) (pd_tup (pda_cons (pd_var 4) (pda_cons (pd_var 5) pda_nil))) (pd_var 2))))))) (fun _ _ _ _ _ => (pd_tup (pda_cons (pd_var 4) (pda_cons (pd_var 5) pda_nil))))) pda_nil))))
    pdss_nil)))))
    (pdss_one (pds_ret (pd_tup (pda_cons (pd_var 0) (pda_cons (pd_callTy cd_tupleX m_tuple bt_tuple (pda_cons (pd_sortset2 rfl hr.u64 (pd_var 2) m_sorted (hm2 := m_set)) pda_nil)) pda_nil)))))))
def N__law_drawn_order : List Str := ["_law_m", "_law_most", "_law_n", "_law_line", "_law_thick", "_law_pairs", "_law_j", "_law_i"]
theorem sc__law_drawn_order : FnScope N__law_drawn_order ["_law_m", "_law_most"] (defScope (top 27)) := ⟨rfl, rfl, rfl, by decide +kernel, rfl, by decide +kernel, by decide +kernel⟩
def den__law_drawn_order : DS := (dSeq (dSet 2 (dL (ofN 2 F__law_draw) (dCons (dVar 0) (dCons (dBin oAdd (dVar 1) (dC (.int 1))) dNil))))
    (dSeq (dAsg (nTp (nsCons (nNm 3) (nsCons (nNm 4) nsNil))) (dL oTup (dCons (dL (ofN 2 F__law_shuffled) (dCons (dVar 0) (dCons (dVar 2) dNil))) (dCons (dBin oAdd (dC (.int 2)) (dL (ofN 2 F__law_draw) (dCons (dVar 0) (dCons (dC (.int 3)) dNil)))) dNil))))
    (dSeq (dSet 5 (dL oLst dNil))
    (dSeq (dFor (itRg1 (dVar 2)) (nNm 6)
    (dExpr (dMt oExtend (dVar 5) (dCons (dLc (itRg1 (dVar 6)) [7] (nNm 7) (dB (dBin oEq (dL (ofN 2 F__law_draw) (dCons (dVar 0) (dCons (dVar 4) dNil))) (dC (.int 0)))) (dL oTup (dCons (dBin oIx (dVar 3) (dVar 7)) (dCons (dBin oIx (dVar 3) (dVar 6)) dNil)))) dNil))))
    (dRet (dL (ofN 2 F__law_closed) (dCons (dVar 2) (dCons (dVar 5) dNil))))))))
def F__law_drawn_order : DFn := runD 8 den__law_drawn_order
theorem ok__law_drawn_order {P : Program} {w : World} {K : PySem.W.Frag} {h : Heap} {mg : Str → Option Value} (X : K.In h) (G : h.Ns mainGlobals mg) (c : He.SaysD fa fn K) : DOk P w K mg CX0 XX0 4 "_law_drawn_order" (top 27) ["_law_m", "_law_most"] F__law_drawn_order := by
  obtain ⟨fd, F⟩ := c.def_ 21 (d := mkD "_law_drawn_order" 27) rfl
  have d__law_draw := ok__law_draw (w := w) (P := P) X G c
  have d__law_shuffled := ok__law_shuffled (w := w) (P := P) X G c
  have d__law_closed := ok__law_closed (w := w) (P := P) X G c
  have m_range : mg "range" = none := He.free_ok X G (c.fact 40 (f := .free "range") rfl)
  refine DOk.of0 F (He.glo_ok X G (c.fact 21 (f := .glo "_law_drawn_order") rfl)) sc__law_drawn_order (fun _ _ _ _ _ _ us hl => match us, hl with | [_, _], _ => rfl) fun base cdv A outer s H E KX G' hr hg => ?_
  unfold den__law_drawn_order
  exact (pdss_cons (pds_set 2 sc__law_drawn_order.nd (pc_call (E := fun _ _ _ => False) d__law_draw (hr.mono (by decide)) ⟨KX, G', pass0, hg⟩ (pda_cons (pd_var 0) (pda_cons (pd_bin od_add (pd_var 1) pd_int) pda_nil))))
    (pdss_cons (pds_asg (gok_t2 (gok_nm 3) (gok_nm 4)) (pg_tup rfl (pgs_cons (pg_name (i := 3) sc__law_drawn_order.nd rfl (by first | exact Or.inl rfl | exact Or.inr rfl)) (pgs_cons (pg_name (i := 4) sc__law_drawn_order.nd rfl (by first | exact Or.inl rfl | exact Or.inr rfl)) pgs_nil))) (pd_tup (pda_cons (pc_call (E := fun _ _ _ => False) d__law_shuffled (hr.mono (by decide)) ⟨KX, G', pass0, hg⟩ (pda_cons (pd_var 0) (pda_cons (pd_var 2) pda_nil))) (pda_cons (pd_bin od_add pd_int (pc_call (E := fun _ _ _ => False) d__law_draw (hr.mono (by decide)) ⟨KX, G', pass0, hg⟩ (pda_cons (pd_var 0) (pda_cons pd_int pda_nil)))) pda_nil))))
    (pdss_cons (pds_set 5 sc__law_drawn_order.nd (pd_lst pda_nil))
    (pdss_cons (pds_for (gok_nm 6) PassesOwn.never rfl (pdi_range1 rfl m_range (pd_var 2)) (pg_name (i := 6) sc__law_drawn_order.nd rfl (by first | exact Or.inl rfl | exact Or.inr rfl))
    (pdss_one (pds_expr (pd_mt PySem.F.slot_list_extend PySem.F.type_list_extend md_extend (pd_var 5) (pda_cons (pd_lc (own := [("_law_i", 7)]) (gok_nm 7) rfl sc__law_drawn_order.nd (blkOk_by (by rfl)) (pdi_range1 rfl m_range (pd_var 6)) (fun _ _ _ _ _ => (pg_name (i := 7) sc__law_drawn_order.nd rfl (by first | exact Or.inl rfl | exact Or.inr rfl))) (fun _ _ _ _ _ => (pds_tests1 (pdt_cmp (od_eq hr.u64) (pc_call (E := fun _ _ _ => False) d__law_draw (hr.mono (by decide)) ⟨KX, G', pass0, hg⟩ (pda_cons (pd_var 0) (pda_cons (pd_var 4) pda_nil))) pd_int))) (fun _ _ _ _ _ => (pd_tup (pda_cons (pd_ix hr.u1 (pd_var 3) (pd_var 7)) (pda_cons (pd_ix hr.u1 (pd_var 3) (pd_var 6)) pda_nil))))) pda_nil)))))
    (pdss_one (pds_ret (pc_call (E := fun _ _ _ => False) d__law_closed (hr.mono (by decide)) ⟨KX, G', pass0, hg⟩ (pda_cons (pd_var 2) (pda_cons (pd_var 5) pda_nil)))))))))
def N__law_chain : List Str := ["_law_n", "_law_pairs", "_law_x", "_law_y"]
theorem sc__law_chain : FnScope N__law_chain ["_law_n"] (defScope (top 28)) := ⟨rfl, rfl, rfl, by decide +kernel, rfl, by decide +kernel, by decide +kernel⟩
def den__law_chain : DS := (dSeq (dSet 1 (dL oLst dNil))
    (dSeq (dFor (itRg1 (dVar 0)) (nNm 2)
    (dExpr (dMt oExtend (dVar 1) (dCons (dLc (itRg2 (dBin oAdd (dVar 2) (dC (.int 1))) (dVar 0)) [3] (nNm 3) dYes (dL oTup (dCons (dVar 2) (dCons (dVar 3) dNil)))) dNil))))
    (dRet (dL oTup (dCons (dVar 0) (dCons (dL oTuple (dCons (dVar 1) dNil)) dNil))))))
def F__law_chain : DFn := runD 4 den__law_chain
theorem ok__law_chain {P : Program} {w : World} {K : PySem.W.Frag} {h : Heap} {mg : Str → Option Value} (X : K.In h) (G : h.Ns mainGlobals mg) (c : He.SaysD fa fn K) : DOk P w K mg CX0 XX0 1 "_law_chain" (top 28) ["_law_n"] F__law_chain := by
  obtain ⟨fd, F⟩ := c.def_ 22 (d := mkD "_law_chain" 28) rfl
  have m_range : mg "range" = none := He.free_ok X G (c.fact 40 (f := .free "range") rfl)
  have m_tuple : mg "tuple" = none := He.free_ok X G (c.fact 44 (f := .free "tuple") rfl)
  refine DOk.of0 F (He.glo_ok X G (c.fact 22 (f := .glo "_law_chain") rfl)) sc__law_chain (fun _ _ _ _ _ _ us hl => match us, hl with | [_], _ => rfl) fun base cdv A outer s H E KX G' hr hg => ?_
  unfold den__law_chain
  exact (pdss_cons (pds_set 1 sc__law_chain.nd (pd_lst pda_nil))
    (pdss_cons (pds_for (gok_nm 2) PassesOwn.never rfl (pdi_range1 rfl m_range (pd_var 0)) (pg_name (i := 2) sc__law_chain.nd rfl (by first | exact Or.inl rfl | exact Or.inr rfl))
    (pdss_one (pds_expr (pd_mt PySem.F.slot_list_extend PySem.F.type_list_extend md_extend (pd_var 1) (pda_cons (pd_lc (own := [("_law_y", 3)]) (gok_nm 3) rfl sc__law_chain.nd (blkOk_by (by rfl)) (pdi_range2 rfl m_range (pd_bin od_add (pd_var 2) pd_int) (pd_var 0)) (fun _ _ _ _ _ => (pg_name (i := 3) sc__law_chain.nd rfl (by first | exact Or.inl rfl | exact Or.inr rfl))) (fun _ _ _ _ _ => pds_tests0) (fun _ _ _ _ _ => (pd_tup (pda_cons (pd_var 2) (pda_cons (pd_var 3) pda_nil))))) pda_nil)))))
    (pdss_one (pds_ret (pd_tup (pda_cons (pd_var 0) (pda_cons (pd_callTy cd_tuple m_tuple bt_tuple (pda_cons (pd_var 1) pda_nil)) pda_nil)))))))
def N__law_is_led : List Str := ["_law_order_so", "_law_x", "_law_y"]
theorem sc__law_is_led : FnScope N__law_is_led ["_law_order_so", "_law_x", "_law_y"] (defScope (top 29)) := ⟨rfl, rfl, rfl, by decide +kernel, rfl, by decide +kernel, by decide +kernel⟩
def den__law_is_led : DS := (dRet (dOrV (dBin oEq (dVar 1) (dVar 2)) (dBin oIn (dL oTup (dCons (dVar 1) (dCons (dVar 2) dNil))) (dBin oIx (dVar 0) (dC (.int 1))))))
def F__law_is_led : DFn := runD 3 den__law_is_led
theorem ok__law_is_led {P : Program} {w : World} {K : PySem.W.Frag} {h : Heap} {mg : Str → Option Value} (X : K.In h) (G : h.Ns mainGlobals mg) (c : He.SaysD fa fn K) : DOk P w K mg CX0 XX0 1 "_law_is_led" (top 29) ["_law_order_so", "_law_x", "_law_y"] F__law_is_led := by
  obtain ⟨fd, F⟩ := c.def_ 23 (d := mkD "_law_is_led" 29) rfl

  refine DOk.of0 F (He.glo_ok X G (c.fact 23 (f := .glo "_law_is_led") rfl)) sc__law_is_led (fun _ _ _ _ _ _ us hl => match us, hl with | [_, _, _], _ => rfl) fun base cdv A outer s H E KX G' hr hg => ?_
  unfold den__law_is_led
  exact (pdss_one (pds_ret (pd_or (pd_cmp (od_eq hr.u64) (pd_var 1) (pd_var 2)) (pd_and1 (pd_cmp (od_in hr.u65) (pd_tup (pda_cons (pd_var 1) (pda_cons (pd_var 2) pda_nil))) (pd_ix hr.u1 (pd_var 0) pd_int))))))
def N__law_is_loose : List Str := ["_law_order_so", "_law_left", "_law_x", "_law_low", "_law_y", "_law_z"]
theorem sc__law_is_loose : FnScope N__law_is_loose ["_law_order_so", "_law_left", "_law_x"] (defScope (top 31)) := ⟨rfl, rfl, rfl, by decide +kernel, rfl, by decide +kernel, by decide +kernel⟩
def den__law_is_loose : DS := (dSeq (dSet 3 (dLc (itSeq (dVar 1)) [4] (nNm 4) (dB (dBin oIn (dL oTup (dCons (dVar 4) (dCons (dVar 2) dNil))) (dBin oIx (dVar 0) (dC (.int 1))))) (dVar 4)))
    (dRet (dBin oNe (dLc (itSeq (dVar 3)) [4] (nNm 4) (dB (dBin oEq (dLc (itSeq (dVar 3)) [5] (nNm 5) (dNot (dTru (dL (ofN 3 F__law_is_led) (dCons (dVar 0) (dCons (dVar 5) (dCons (dVar 4) dNil)))))) (dVar 5)) (dL oLst dNil))) (dVar 4)) (dL oLst dNil))))
def F__law_is_loose : DFn := runD 6 den__law_is_loose
theorem ok__law_is_loose {P : Program} {w : World} {K : PySem.W.Frag} {h : Heap} {mg : Str → Option Value} (X : K.In h) (G : h.Ns mainGlobals mg) (c : He.SaysD fa fn K) : DOk P w K mg CX0 XX0 2 "_law_is_loose" (top 31) ["_law_order_so", "_law_left", "_law_x"] F__law_is_loose := by
  obtain ⟨fd, F⟩ := c.def_ 24 (d := mkD "_law_is_loose" 31) rfl
  have d__law_is_led := ok__law_is_led (w := w) (P := P) X G c
  refine DOk.of0 F (He.glo_ok X G (c.fact 24 (f := .glo "_law_is_loose") rfl)) sc__law_is_loose (fun _ _ _ _ _ _ us hl => match us, hl with | [_, _, _], _ => rfl) fun base cdv A outer s H E KX G' hr hg => ?_
  unfold den__law_is_loose
  exact (pdss_cons (pds_set 3 sc__law_is_loose.nd (pd_lc (own := [("_law_y", 4)]) (gok_nm 4) rfl sc__law_is_loose.nd (blkOk_by (by rfl)) (pdi_seq (pd_var 1)) (fun _ _ _ _ _ => (pg_name (i := 4) sc__law_is_loose.nd rfl (by first | exact Or.inl rfl | exact Or.inr rfl))) (fun _ _ _ _ _ => (pds_tests1 (pdt_cmp (od_in hr.u65) (pd_tup (pda_cons (pd_var 4) (pda_cons (pd_var 2) pda_nil))) (pd_ix hr.u1 (pd_var 0) pd_int)))) (fun _ _ _ _ _ => (pd_var 4))))
    (pdss_one (pds_ret (pd_cmp (od_ne hr.u64) (pd_lc (own := [("_law_y", 4)]) (gok_nm 4) rfl sc__law_is_loose.nd (blkOk_by (by rfl)) (pdi_seq (pd_var 3)) (fun _ _ _ _ _ => (pg_name (i := 4) sc__law_is_loose.nd rfl (by first | exact Or.inl rfl | exact Or.inr rfl))) (fun _ _ _ _ _ => (pds_tests1 (pdt_cmp (od_eq hr.u64) (pd_lc (own := [("_law_z", 5)]) (gok_nm 5) rfl sc__law_is_loose.nd (blkOk_by (by rfl)) (pdi_seq (pd_var 3)) (fun _ _ _ _ _ => (pg_name (i := 5) sc__law_is_loose.nd rfl (by first | exact Or.inl rfl | exact Or.inr rfl))) (fun _ _ _ _ _ => (pds_tests1 (pdt_not (pdt_tru (pc_call (E := fun _ _ _ => False) d__law_is_led (hr.mono (by decide)) ⟨KX, G', pass0, hg⟩ (pda_cons (pd_var 0) (pda_cons (pd_var 5) (pda_cons (pd_var 4) pda_nil)))))))) (fun _ _ _ _ _ => (pd_var 5))) (pd_lst pda_nil)))) (fun _ _ _ _ _ => (pd_var 4))) (pd_lst pda_nil)))))
def N__law_bared : List Str := ["_law_order_so", "_law_left", "_law_turn", "_law_loose", "_law_x"]
theorem sc__law_bared : FnScope N__law_bared ["_law_order_so", "_law_left"] (defScope (top 30)) := ⟨rfl, rfl, rfl, by decide +kernel, rfl, by decide +kernel, by decide +kernel⟩
def den__law_bared : DS := (dSeq (dFor (itRg1 (dBin oIx (dVar 0) (dC (.int 0)))) (nNm 2)
    (dSeq (dSet 3 (dLc (itSeq (dVar 1)) [4] (nNm 4) (dTru (dL (ofN 3 F__law_is_loose) (dCons (dVar 0) (dCons (dVar 1) (dCons (dVar 4) dNil))))) (dVar 4)))
    (dIfS (dB (dBin oNe (dVar 3) (dL oLst dNil)))
    (dSet 1 (dLc (itSeq (dVar 1)) [4] (nNm 4) (dB (dBin oNe (dVar 4) (dBin oIx (dVar 3) (dC (.int 0))))) (dVar 4)))
    dNext)))
    (dRet (dL oTuple (dCons (dL oSorted (dCons (dVar 1) dNil)) dNil))))
def F__law_bared : DFn := runD 5 den__law_bared
theorem ok__law_bared {P : Program} {w : World} {K : PySem.W.Frag} {h : Heap} {mg : Str → Option Value} (X : K.In h) (G : h.Ns mainGlobals mg) (c : He.SaysD fa fn K) : DOk P w K mg CX0 XX0 3 "_law_bared" (top 30) ["_law_order_so", "_law_left"] F__law_bared := by
  obtain ⟨fd, F⟩ := c.def_ 25 (d := mkD "_law_bared" 30) rfl
  have d__law_is_loose := ok__law_is_loose (w := w) (P := P) X G c
  have m_range : mg "range" = none := He.free_ok X G (c.fact 40 (f := .free "range") rfl)
  have m_sorted : mg "sorted" = none := He.free_ok X G (c.fact 43 (f := .free "sorted") rfl)
  have m_tuple : mg "tuple" = none := He.free_ok X G (c.fact 44 (f := .free "tuple") rfl)
  refine DOk.of0 F (He.glo_ok X G (c.fact 25 (f := .glo "_law_bared") rfl)) sc__law_bared (fun _ _ _ _ _ _ us hl => match us, hl with | [_, _], _ => rfl) fun base cdv A outer s H E KX G' hr hg => ?_
  unfold den__law_bared
  exact (pdss_cons (pds_for (gok_nm 2) PassesOwn.never rfl (pdi_range1 rfl m_range (pd_ix hr.u1 (pd_var 0) pd_int)) (pg_name (i := 2) sc__law_bared.nd rfl (by first | exact Or.inl rfl | exact Or.inr rfl))
    (pdss_cons (pds_set 3 sc__law_bared.nd (pd_lc (own := [("_law_x", 4)]) (gok_nm 4) rfl sc__law_bared.nd (blkOk_by (by rfl)) (pdi_seq (pd_var 1)) (fun _ _ _ _ _ => (pg_name (i := 4) sc__law_bared.nd rfl (by first | exact Or.inl rfl | exact Or.inr rfl))) (fun _ _ _ _ _ => (pds_tests1 (pdt_tru (pc_call (E := fun _ _ _ => False) d__law_is_loose (hr.mono (by decide)) ⟨KX, G', pass0, hg⟩ (pda_cons (pd_var 0) (pda_cons (pd_var 1) (pda_cons (pd_var 4) pda_nil))))))) (fun _ _ _ _ _ => (pd_var 4))))
    (pdss_one (pds_if (pdt_cmp (od_ne hr.u64) (pd_var 3) (pd_lst pda_nil))
    (pdss_one (pds_set 1 sc__law_bared.nd (pd_lc (own := [("_law_x", 4)]) (gok_nm 4) rfl sc__law_bared.nd (blkOk_by (by rfl)) (pdi_seq (pd_var 1)) (fun _ _ _ _ _ => (pg_name (i := 4) sc__law_bared.nd rfl (by first | exact Or.inl rfl | exact Or.inr rfl))) (fun _ _ _ _ _ => (pds_tests1 (pdt_cmp (od_ne hr.u64) (pd_var 4) (pd_ix hr.u1 (pd_var 3) pd_int)))) (fun _ _ _ _ _ => (pd_var 4)))))
    pdss_nil))))
    (pdss_one (pds_ret (pd_callTy cd_tuple m_tuple bt_tuple (pda_cons (pd_callB (cd_sorted rfl) m_sorted bt_sorted (pda_cons (pd_var 1) pda_nil)) pda_nil)))))
def N__law_leads : List Str := ["_law_order_so", "_law_due", "_law_told", "_law_far", "_law_x", "_law_low", "_law_y", "_law_z", "_law_some", "_law_row"]
theorem sc__law_leads : FnScope N__law_leads ["_law_order_so", "_law_due"] (defScope (top 33)) := ⟨rfl, rfl, rfl, by decide +kernel, rfl, by decide +kernel, by decide +kernel⟩
def den__law_leads : DS := (dSeq (dAsg (nTp (nsCons (nNm 2) (nsCons (nNm 3) nsNil))) (dL oTup (dCons (dL (ofN 1 F_bared_leading) (dCons (dVar 0) dNil)) (dCons (dL oLst dNil) dNil))))
    (dSeq (dFor (itRg1 (dBin oIx (dVar 0) (dC (.int 0)))) (nNm 4)
    (dSeq (dSet 5 (dLc (itSeq (dVar 1)) [6] (nNm 6) (dTru (dL (ofN 3 F__law_is_led) (dCons (dVar 0) (dCons (dVar 6) (dCons (dVar 4) dNil))))) (dVar 6)))
    (dExpr (dMt oAppend (dVar 3) (dCons (dLc (itSeq (dVar 5)) [6] (nNm 6) (dB (dBin oEq (dLc (itSeq (dVar 5)) [7] (nNm 7) (dNot (dTru (dL (ofN 3 F__law_is_led) (dCons (dVar 0) (dCons (dVar 7) (dCons (dVar 6) dNil)))))) (dVar 7)) (dL oLst dNil))) (dVar 6)) dNil)))))
    (dSeq (dIfS (dB (dBin oNe (dLc (itSeq (dVar 3)) [8] (nNm 8) (dB (dBin oNe (dL oLen (dCons (dVar 8) dNil)) (dC (.int 1)))) (dVar 8)) (dL oLst dNil)))
    (dRet (dC (.bl false)))
    dNext)
    (dSeq (dSet 9 (dL oTuple (dCons (dLc (itSeq (dVar 3)) [8] (nNm 8) dYes (dBin oIx (dVar 8) (dC (.int 0)))) dNil)))
    (dSeq (dIfS (dNot (dTru (dL (ofN 2 F__law_like) (dCons (dL oLst (dCons (dVar 2) (dCons (dLK 0 1 [0] (ofN 1 F_bared_leading) dNil (dCons (dVar 0) dNil)) (dCons (dL (ofN 3 F_need_leading) (dCons (dVar 0) (dCons (dVar 0) (dCons (dVar 2) dNil)))) dNil)))) (dCons (dL oLst (dCons (dVar 9) (dCons (dVar 9) (dCons (dVar 9) dNil)))) dNil)))))
    (dRet (dC (.bl false)))
    dNext)
    (dRet (dBin oEq (dLc (itSeq (dVar 1)) [4] (nNm 4) (dB (dBin oNe (dBin oIx (dVar 2) (dVar 4)) (dVar 4))) (dVar 4)) (dL oLst dNil))))))))
def F__law_leads : DFn := runD 10 den__law_leads
theorem ok__law_leads {P : Program} {w : World} {K : PySem.W.Frag} {h : Heap} {mg : Str → Option Value} (X : K.In h) (G : h.Ns mainGlobals mg) (c : He.SaysD fa fn K) : DOk P w K mg CX0 XX0 6 "_law_leads" (top 33) ["_law_order_so", "_law_due"] F__law_leads := by
  obtain ⟨fd, F⟩ := c.def_ 26 (d := mkD "_law_leads" 33) rfl
  have d_bared_leading := ok_bared_leading (w := w) (P := P) X G c
  have d__law_is_led := ok__law_is_led (w := w) (P := P) X G c
  have d__law_like := ok__law_like (w := w) (P := P) X G c
  have d_need_leading := ok_need_leading (w := w) (P := P) X G c
  have m_len : mg "len" = none := He.free_ok X G (c.fact 36 (f := .free "len") rfl)
  have m_range : mg "range" = none := He.free_ok X G (c.fact 40 (f := .free "range") rfl)
  have m_tuple : mg "tuple" = none := He.free_ok X G (c.fact 44 (f := .free "tuple") rfl)
  refine DOk.of0 F (He.glo_ok X G (c.fact 26 (f := .glo "_law_leads") rfl)) sc__law_leads (fun _ _ _ _ _ _ us hl => match us, hl with | [_, _], _ => rfl) fun base cdv A outer s H E KX G' hr hg => ?_
  unfold den__law_leads
  exact (pdss_cons (pds_asg (gok_t2 (gok_nm 2) (gok_nm 3)) (pg_tup rfl (pgs_cons (pg_name (i := 2) sc__law_leads.nd rfl (by first | exact Or.inl rfl | exact Or.inr rfl)) (pgs_cons (pg_name (i := 3) sc__law_leads.nd rfl (by first | exact Or.inl rfl | exact Or.inr rfl)) pgs_nil))) (pd_tup (pda_cons (pc_call (E := fun _ _ _ => False) d_bared_leading (hr.mono (by decide)) ⟨KX, G', pass0, hg⟩ (pda_cons (pd_var 0) pda_nil)) (pda_cons (pd_lst pda_nil) pda_nil))))
    (pdss_cons (pds_for (gok_nm 4) PassesOwn.never rfl (pdi_range1 rfl m_range (pd_ix hr.u1 (pd_var 0) pd_int)) (pg_name (i := 4) sc__law_leads.nd rfl (by first | exact Or.inl rfl | exact Or.inr rfl))
    (pdss_cons (pds_set 5 sc__law_leads.nd (pd_lc (own := [("_law_y", 6)]) (gok_nm 6) rfl sc__law_leads.nd (blkOk_by (by rfl)) (pdi_seq (pd_var 1)) (fun _ _ _ _ _ => (pg_name (i := 6) sc__law_leads.nd rfl (by first | exact Or.inl rfl | exact Or.inr rfl))) (fun _ _ _ _ _ => (pds_tests1 (pdt_tru (pc_call (E := fun _ _ _ => False) d__law_is_led (hr.mono (by decide)) ⟨KX, G', pass0, hg⟩ (pda_cons (pd_var 0) (pda_cons (pd_var 6) (pda_cons (pd_var 4) pda_nil))))))) (fun _ _ _ _ _ => (pd_var 6))))
    (pdss_one (pds_expr (pd_mt PySem.F.slot_list_append PySem.F.type_list_append md_append (pd_var 3) (pda_cons (pd_lc (own := [("_law_y", 6)]) (gok_nm 6) rfl sc__law_leads.nd (blkOk_by (by rfl)) (pdi_seq (pd_var 5)) (fun _ _ _ _ _ => (pg_name (i := 6) sc__law_leads.nd rfl (by first | exact Or.inl rfl | exact Or.inr rfl))) (fun _ _ _ _ _ => (pds_tests1 (pdt_cmp (od_eq hr.u64) (pd_lc (own := [("_law_z", 7)]) (gok_nm 7) rfl sc__law_leads.nd (blkOk_by (by rfl)) (pdi_seq (pd_var 5)) (fun _ _ _ _ _ => (pg_name (i := 7) sc__law_leads.nd rfl (by first | exact Or.inl rfl | exact Or.inr rfl))) (fun _ _ _ _ _ => (pds_tests1 (pdt_not (pdt_tru (pc_call (E := fun _ _ _ => False) d__law_is_led (hr.mono (by decide)) ⟨KX, G', pass0, hg⟩ (pda_cons (pd_var 0) (pda_cons (pd_var 7) (pda_cons (pd_var 6) pda_nil)))))))) (fun _ _ _ _ _ => (pd_var 7))) (pd_lst pda_nil)))) (fun _ _ _ _ _ => (pd_var 6))) pda_nil))))))
    (pdss_cons (pds_if (pdt_cmp (od_ne hr.u64) (pd_lc (own := [("_law_some", 8)]) (gok_nm 8) rfl sc__law_leads.nd (blkOk_by (by rfl)) (pdi_seq (pd_var 3)) (fun _ _ _ _ _ => (pg_name (i := 8) sc__law_leads.nd rfl (by first | exact Or.inl rfl | exact Or.inr rfl))) (fun _ _ _ _ _ => (pds_tests1 (pdt_cmp (od_ne hr.u64) (pd_callB cd_len m_len bt_len (pda_cons (pd_var 8) pda_nil)) pd_int))) (fun _ _ _ _ _ => (pd_var 8))) (pd_lst pda_nil))
    (pdss_one (pds_ret pd_bl))
    pdss_nil)
    (pdss_cons (pds_set 9 sc__law_leads.nd (pd_callTy cd_tuple m_tuple bt_tuple (pda_cons (pd_lc (own := [("_law_some", 8)]) (gok_nm 8) rfl sc__law_leads.nd (blkOk_by (by rfl)) (pdi_seq (pd_var 3)) (fun _ _ _ _ _ => (pg_name (i := 8) sc__law_leads.nd rfl (by first | exact Or.inl rfl | exact Or.inr rfl))) (fun _ _ _ _ _ => pds_tests0) (fun _ _ _ _ _ => (pd_ix hr.u1 (pd_var 8) pd_int))) pda_nil)))
    (pdss_cons (pds_if (pdt_not (pdt_tru (pc_call (E := fun _ _ _ => False) d__law_like (hr.mono (by decide)) ⟨KX, G', pass0, hg⟩ (pda_cons (pd_lst (pda_cons (pd_var 2) (pda_cons (pc_callK0 (E := fun _ _ _ => False) 1 1 [0] ["order"] d_bared_leading (hr.mono (by decide)) ⟨KX, G', pass0, hg⟩ (pdk_cons (pd_var 0) pdk_nil) (fun _ _ _ _ _ _ us ws h1 h2 => match us, ws, h1, h2 with | [], [_], _, _ => rfl)) (pda_cons (pc_call (E := fun _ _ _ => False) d_need_leading (hr.mono (by decide)) ⟨KX, G', pass0, hg⟩ (pda_cons (pd_var 0) (pda_cons (pd_var 0) (pda_cons (pd_var 2) pda_nil)))) pda_nil)))) (pda_cons (pd_lst (pda_cons (pd_var 9) (pda_cons (pd_var 9) (pda_cons (pd_var 9) pda_nil)))) pda_nil)))))
    (pdss_one (pds_ret pd_bl))
    pdss_nil)
    (pdss_one (pds_ret (pd_cmp (od_eq hr.u64) (pd_lc (own := [("_law_x", 4)]) (gok_nm 4) rfl sc__law_leads.nd (blkOk_by (by rfl)) (pdi_seq (pd_var 1)) (fun _ _ _ _ _ => (pg_name (i := 4) sc__law_leads.nd rfl (by first | exact Or.inl rfl | exact Or.inr rfl))) (fun _ _ _ _ _ => (pds_tests1 (pdt_cmp (od_ne hr.u64) (pd_ix hr.u1 (pd_var 2) (pd_var 4)) (pd_var 4)))) (fun _ _ _ _ _ => (pd_var 4))) (pd_lst pda_nil)))))))))
def N__law_right : List Str := ["_law_m", "_law_order_so", "_law_n", "_law_every", "_law_loose", "_law_x", "_law_due", "_law_left", "_law_turn", "_law_part"]
theorem sc__law_right : FnScope N__law_right ["_law_m", "_law_order_so"] (defScope (top 32)) := ⟨rfl, rfl, rfl, by decide +kernel, rfl, by decide +kernel, by decide +kernel⟩
def den__law_right : DS := (dSeq (dSet 2 (dBin oIx (dVar 1) (dC (.int 0))))
    (dSeq (dSet 3 (dLstRg (dRg1 (dVar 2))))
    (dSeq (dSet 4 (dL oTuple (dCons (dLc (itSeq (dVar 3)) [5] (nNm 5) (dTru (dL (ofN 3 F__law_is_loose) (dCons (dVar 1) (dCons (dVar 3) (dCons (dVar 5) dNil))))) (dVar 5)) dNil)))
    (dSeq (dIfS (dNot (dTru (dL (ofN 2 F__law_like) (dCons (dL oLst (dCons (dL (ofN 1 F_loose_spots) (dCons (dVar 1) dNil)) (dCons (dLK 0 1 [0] (ofN 1 F_loose_spots) dNil (dCons (dVar 1) dNil)) dNil))) (dCons (dL oLst (dCons (dVar 4) (dCons (dVar 4) dNil))) dNil)))))
    (dRet (dC (.bl false)))
    dNext)
    (dSeq (dPar 6 7 (dL (ofN 2 F__law_bared) (dCons (dVar 1) (dCons (dVar 3) dNil))) (dL (ofN 1 F_bared) (dCons (dVar 1) dNil)))
    (dSeq (dIfS (dNot (dTru (dL (ofN 2 F__law_like) (dCons (dL oLst (dCons (dVar 7) (dCons (dLK 0 1 [0] (ofN 1 F_bared) dNil (dCons (dVar 1) dNil)) dNil))) (dCons (dL oLst (dCons (dVar 6) (dCons (dVar 6) dNil))) dNil)))))
    (dRet (dC (.bl false)))
    dNext)
    (dSeq (dFor (itRg1 (dC (.int 3))) (nNm 8)
    (dIfS (dB (dBin oNe (dL (ofN 2 F__law_bared) (dCons (dVar 1) (dCons (dL oList (dCons (dL (ofN 2 F__law_shuffled) (dCons (dVar 0) (dCons (dVar 2) dNil))) dNil)) dNil))) (dVar 6)))
    (dRet (dC (.bl false)))
    dNext))
    (dSeq (dSet 9 (dL (ofN 2 F_part_order) (dCons (dVar 1) (dCons (dVar 7) dNil))))
    (dSeq (dIfS (dNot (dTru (dL (ofN 2 F__law_like) (dCons (dL oLst (dCons (dL (ofN 1 F_loose_spots) (dCons (dVar 9) dNil)) (dCons (dL (ofN 1 F_bared) (dCons (dVar 9) dNil)) dNil))) (dCons (dL oLst (dCons (dL oTup dNil) (dCons (dL oTuple (dCons (dLstRg (dRg1 (dL oLen (dCons (dVar 7) dNil)))) dNil)) dNil))) dNil)))))
    (dRet (dC (.bl false)))
    dNext)
    (dRet (dAndV (dL (ofN 2 F__law_leads) (dCons (dVar 1) (dCons (dVar 6) dNil))) (dBin oEq (dL oLen (dCons (dL (ofN 1 F_pieces) (dCons (dVar 9) dNil)) dNil)) (dL oLen (dCons (dL (ofN 1 F_pieces) (dCons (dVar 1) dNil)) dNil))))))))))))))
def F__law_right : DFn := runD 10 den__law_right
theorem ok__law_right {P : Program} {w : World} {K : PySem.W.Frag} {h : Heap} {mg : Str → Option Value} (X : K.In h) (G : h.Ns mainGlobals mg) (c : He.SaysD fa fn K) : DOk P w K mg CX0 XX0 7 "_law_right" (top 32) ["_law_m", "_law_order_so"] F__law_right := by
  obtain ⟨fd, F⟩ := c.def_ 27 (d := mkD "_law_right" 32) rfl
  have d__law_is_loose := ok__law_is_loose (w := w) (P := P) X G c
  have d__law_like := ok__law_like (w := w) (P := P) X G c
  have d_loose_spots := ok_loose_spots (w := w) (P := P) X G c
  have d__law_bared := ok__law_bared (w := w) (P := P) X G c
  have d_bared := ok_bared (w := w) (P := P) X G c
  have d__law_shuffled := ok__law_shuffled (w := w) (P := P) X G c
  have d_part_order := ok_part_order (w := w) (P := P) X G c
  have d_pieces := ok_pieces (w := w) (P := P) X G c
  have d__law_leads := ok__law_leads (w := w) (P := P) X G c
  have m_len : mg "len" = none := He.free_ok X G (c.fact 36 (f := .free "len") rfl)
  have m_list : mg "list" = none := He.free_ok X G (c.fact 37 (f := .free "list") rfl)
  have m_range : mg "range" = none := He.free_ok X G (c.fact 40 (f := .free "range") rfl)
  have m_tuple : mg "tuple" = none := He.free_ok X G (c.fact 44 (f := .free "tuple") rfl)
  refine DOk.of0 F (He.glo_ok X G (c.fact 27 (f := .glo "_law_right") rfl)) sc__law_right (fun _ _ _ _ _ _ us hl => match us, hl with | [_, _], _ => rfl) fun base cdv A outer s H E KX G' hr hg => ?_
  unfold den__law_right
  exact (pdss_cons (pds_set 2 sc__law_right.nd (pd_ix hr.u1 (pd_var 1) pd_int))
    (pdss_cons (pds_set 3 sc__law_right.nd (pd_listRg1 rfl m_range m_list (pd_var 2)))
    (pdss_cons (pds_set 4 sc__law_right.nd (pd_callTy cd_tuple m_tuple bt_tuple (pda_cons (pd_lc (own := [("_law_x", 5)]) (gok_nm 5) rfl sc__law_right.nd (blkOk_by (by rfl)) (pdi_seq (pd_var 3)) (fun _ _ _ _ _ => (pg_name (i := 5) sc__law_right.nd rfl (by first | exact Or.inl rfl | exact Or.inr rfl))) (fun _ _ _ _ _ => (pds_tests1 (pdt_tru (pc_call (E := fun _ _ _ => False) d__law_is_loose (hr.mono (by decide)) ⟨KX, G', pass0, hg⟩ (pda_cons (pd_var 1) (pda_cons (pd_var 3) (pda_cons (pd_var 5) pda_nil))))))) (fun _ _ _ _ _ => (pd_var 5))) pda_nil)))
    (pdss_cons (pds_if (pdt_not (pdt_tru (pc_call (E := fun _ _ _ => False) d__law_like (hr.mono (by decide)) ⟨KX, G', pass0, hg⟩ (pda_cons (pd_lst (pda_cons (pc_call (E := fun _ _ _ => False) d_loose_spots (hr.mono (by decide)) ⟨KX, G', pass0, hg⟩ (pda_cons (pd_var 1) pda_nil)) (pda_cons (pc_callK0 (E := fun _ _ _ => False) 1 1 [0] ["order"] d_loose_spots (hr.mono (by decide)) ⟨KX, G', pass0, hg⟩ (pdk_cons (pd_var 1) pdk_nil) (fun _ _ _ _ _ _ us ws h1 h2 => match us, ws, h1, h2 with | [], [_], _, _ => rfl)) pda_nil))) (pda_cons (pd_lst (pda_cons (pd_var 4) (pda_cons (pd_var 4) pda_nil))) pda_nil)))))
    (pdss_one (pds_ret pd_bl))
    pdss_nil)
    (pdss_cons (pds_par 6 7 rfl sc__law_right.nd (pc_call (E := fun _ _ _ => False) d__law_bared (hr.mono (by decide)) ⟨KX, G', pass0, hg⟩ (pda_cons (pd_var 1) (pda_cons (pd_var 3) pda_nil))) (pc_call (E := fun _ _ _ => False) d_bared (hr.mono (by decide)) ⟨KX, G', pass0, hg⟩ (pda_cons (pd_var 1) pda_nil)))
    (pdss_cons (pds_if (pdt_not (pdt_tru (pc_call (E := fun _ _ _ => False) d__law_like (hr.mono (by decide)) ⟨KX, G', pass0, hg⟩ (pda_cons (pd_lst (pda_cons (pd_var 7) (pda_cons (pc_callK0 (E := fun _ _ _ => False) 1 1 [0] ["order"] d_bared (hr.mono (by decide)) ⟨KX, G', pass0, hg⟩ (pdk_cons (pd_var 1) pdk_nil) (fun _ _ _ _ _ _ us ws h1 h2 => match us, ws, h1, h2 with | [], [_], _, _ => rfl)) pda_nil))) (pda_cons (pd_lst (pda_cons (pd_var 6) (pda_cons (pd_var 6) pda_nil))) pda_nil)))))
    (pdss_one (pds_ret pd_bl))
    pdss_nil)
    (pdss_cons (pds_for (gok_nm 8) PassesOwn.never rfl (pdi_range1 rfl m_range pd_int) (pg_name (i := 8) sc__law_right.nd rfl (by first | exact Or.inl rfl | exact Or.inr rfl))
    (pdss_one (pds_if (pdt_cmp (od_ne hr.u64) (pc_call (E := fun _ _ _ => False) d__law_bared (hr.mono (by decide)) ⟨KX, G', pass0, hg⟩ (pda_cons (pd_var 1) (pda_cons (pd_callTy cd_list m_list bt_list (pda_cons (pc_call (E := fun _ _ _ => False) d__law_shuffled (hr.mono (by decide)) ⟨KX, G', pass0, hg⟩ (pda_cons (pd_var 0) (pda_cons (pd_var 2) pda_nil))) pda_nil)) pda_nil))) (pd_var 6))
    (pdss_one (pds_ret pd_bl))
    pdss_nil)))
    (pdss_cons (pds_set 9 sc__law_right.nd (pc_call (E := fun _ _ _ => False) d_part_order (hr.mono (by decide)) ⟨KX, G', pass0, hg⟩ (pda_cons (pd_var 1) (pda_cons (pd_var 7) pda_nil))))
    (pdss_cons (pds_if (pdt_not (pdt_tru (pc_call (E := fun _ _ _ => False) d__law_like (hr.mono (by decide)) ⟨KX, G', pass0, hg⟩ (pda_cons (pd_lst (pda_cons (pc_call (E := fun _ _ _ => False) d_loose_spots (hr.mono (by decide)) ⟨KX, G', pass0, hg⟩ (pda_cons (pd_var 9) pda_nil)) (pda_cons (pc_call (E := fun _ _ _ => False) d_bared (hr.mono (by decide)) ⟨KX, G', pass0, hg⟩ (pda_cons (pd_var 9) pda_nil)) pda_nil))) (pda_cons (pd_lst (pda_cons (pd_tup pda_nil) (pda_cons (pd_callTy cd_tuple m_tuple bt_tuple (pda_cons (pd_listRg1 rfl m_range m_list (pd_callB cd_len m_len bt_len (pda_cons (pd_var 7) pda_nil))) pda_nil)) pda_nil))) pda_nil)))))
    (pdss_one (pds_ret pd_bl))
    pdss_nil)
    (pdss_one (pds_ret (pd_and (pc_call (E := fun _ _ _ => False) d__law_leads (hr.mono (by decide)) ⟨KX, G', pass0, hg⟩ (pda_cons (pd_var 1) (pda_cons (pd_var 6) pda_nil))) (pd_and1 (pd_cmp (od_eq hr.u64) (pd_callB cd_len m_len bt_len (pda_cons (pc_call (E := fun _ _ _ => False) d_pieces (hr.mono (by decide)) ⟨KX, G', pass0, hg⟩ (pda_cons (pd_var 9) pda_nil)) pda_nil)) (pd_callB cd_len m_len bt_len (pda_cons (pc_call (E := fun _ _ _ => False) d_pieces (hr.mono (by decide)) ⟨KX, G', pass0, hg⟩ (pda_cons (pd_var 1) pda_nil)) pda_nil))))))))))))))))
def N__law_with_loose : List Str := ["_law_m", "_law_order_so", "_law_n", "_law_x", "_law_more", "_law_y"]
theorem sc__law_with_loose : FnScope N__law_with_loose ["_law_m", "_law_order_so"] (defScope (top 34)) := ⟨rfl, rfl, rfl, by decide +kernel, rfl, by decide +kernel, by decide +kernel⟩
def den__law_with_loose : DS := (dSeq (dSet 2 (dBin oIx (dVar 1) (dC (.int 0))))
    (dSeq (dSet 3 (dL (ofN 2 F__law_draw) (dCons (dVar 0) (dCons (dVar 2) dNil))))
    (dSeq (dSet 4 (dLc (itRg1 (dVar 2)) [5] (nNm 5) (dTru (dL (ofN 3 F__law_is_led) (dCons (dVar 1) (dCons (dVar 5) (dCons (dVar 3) dNil))))) (dL oTup (dCons (dVar 5) (dCons (dVar 2) dNil)))))
    (dRet (dL (ofN 2 F__law_closed) (dCons (dBin oAdd (dVar 2) (dC (.int 1))) (dCons (dBin oAdd (dL oList (dCons (dBin oIx (dVar 1) (dC (.int 1))) dNil)) (dVar 4)) dNil)))))))
def F__law_with_loose : DFn := runD 6 den__law_with_loose
theorem ok__law_with_loose {P : Program} {w : World} {K : PySem.W.Frag} {h : Heap} {mg : Str → Option Value} (X : K.In h) (G : h.Ns mainGlobals mg) (c : He.SaysD fa fn K) : DOk P w K mg CX0 XX0 2 "_law_with_loose" (top 34) ["_law_m", "_law_order_so"] F__law_with_loose := by
  obtain ⟨fd, F⟩ := c.def_ 28 (d := mkD "_law_with_loose" 34) rfl
  have d__law_draw := ok__law_draw (w := w) (P := P) X G c
  have d__law_is_led := ok__law_is_led (w := w) (P := P) X G c
  have d__law_closed := ok__law_closed (w := w) (P := P) X G c
  have m_list : mg "list" = none := He.free_ok X G (c.fact 37 (f := .free "list") rfl)
  have m_range : mg "range" = none := He.free_ok X G (c.fact 40 (f := .free "range") rfl)
  refine DOk.of0 F (He.glo_ok X G (c.fact 28 (f := .glo "_law_with_loose") rfl)) sc__law_with_loose (fun _ _ _ _ _ _ us hl => match us, hl with | [_, _], _ => rfl) fun base cdv A outer s H E KX G' hr hg => ?_
  unfold den__law_with_loose
  exact (pdss_cons (pds_set 2 sc__law_with_loose.nd (pd_ix hr.u1 (pd_var 1) pd_int))
    (pdss_cons (pds_set 3 sc__law_with_loose.nd (pc_call (E := fun _ _ _ => False) d__law_draw (hr.mono (by decide)) ⟨KX, G', pass0, hg⟩ (pda_cons (pd_var 0) (pda_cons (pd_var 2) pda_nil))))
    (pdss_cons (pds_setLc 4 (own := [("_law_y", 5)]) (gok_nm 5) rfl sc__law_with_loose.nd (blkOk_by (by rfl)) (pdi_range1 rfl m_range (pd_var 2)) (fun _ _ _ _ _ => (pg_name (i := 5) sc__law_with_loose.nd rfl (by first | exact Or.inl rfl | exact Or.inr rfl))) (fun _ _ _ _ _ => (pds_tests1 (pdt_tru (pc_call (E := fun _ _ _ => False) d__law_is_led (hr.mono (by decide)) ⟨KX, G', pass0, hg⟩ (pda_cons (pd_var 1) (pda_cons (pd_var 5) (pda_cons (pd_var 3) pda_nil))))))) (fun _ _ _ _ _ => (pd_tup (pda_cons (pd_var 5) (pda_cons (pd_var 2) pda_nil)))))
    (pdss_one (pds_ret (pc_call (E := fun _ _ _ => False) d__law_closed (hr.mono (by decide)) ⟨KX, G', pass0, hg⟩ (pda_cons (pd_bin od_add (pd_var 2) pd_int) (pda_cons (pd_bin od_add (pd_callTy cd_list m_list bt_list (pda_cons (pd_ix hr.u1 (pd_var 1) pd_int) pda_nil)) (pd_var 4)) pda_nil))))))))
def N_law : List Str := ["_law_script", "_law_turn", "_law_m", "_law_order_so", "_law_far", "_law_four", "_law_told"]
theorem sc_law : FnScope N_law ["_law_script"] (defScope (top 35)) := ⟨rfl, rfl, rfl, by decide +kernel, rfl, by decide +kernel, by decide +kernel⟩
def den_law : DS := (dSeq (dFor (itRg1 (dL oMax (dCons (dC (.int 2)) (dCons (dL oMin (dCons (dC (.int 4)) (dCons (dL oLen (dCons (dVar 0) dNil)) dNil))) dNil)))) (nNm 1)
    (dSeq (dSet 2 (dL (ofN 2 F__law_begun) (dCons (dVar 0) (dCons (dVar 1) dNil))))
    (dSeq (dSet 3 (dL (ofN 2 F__law_drawn_order) (dCons (dVar 2) (dCons (dC (.int 9)) dNil))))
    (dSeq (dIfS (dNot (dTru (dL (ofN 2 F__law_right) (dCons (dVar 2) (dCons (dVar 3) dNil)))))
    (dRet (dC (.bl false)))
    dNext)
    (dIfS (dB (dBin (oCmp gGt) (dBin oIx (dVar 3) (dC (.int 0))) (dC (.int 0))))
    (dSeq (dSet 4 (dL (ofN 2 F__law_with_loose) (dCons (dVar 2) (dCons (dVar 3) dNil))))
    (dIfS (dOr (dNot (dTru (dL (ofN 2 F__law_right) (dCons (dVar 2) (dCons (dVar 4) dNil))))) (dNot (dTru (dL (ofN 2 F__law_like) (dCons (dL (ofN 1 F_bared) (dCons (dVar 4) dNil)) (dCons (dL (ofN 1 F_bared) (dCons (dVar 3) dNil)) dNil))))))
    (dRet (dC (.bl false)))
    dNext))
    dNext)))))
    (dSeq (dSet 5 (dL oTup (dCons (dC (.int 4)) (dCons (dL oTup (dCons (dL oTup (dCons (dC (.int 0)) (dCons (dC (.int 2)) dNil))) (dCons (dL oTup (dCons (dC (.int 0)) (dCons (dC (.int 3)) dNil))) (dCons (dL oTup (dCons (dC (.int 1)) (dCons (dC (.int 2)) dNil))) (dCons (dL oTup (dCons (dC (.int 1)) (dCons (dC (.int 3)) dNil))) dNil))))) dNil))))
    (dSeq (dSet 6 (dL oLst (dCons (dL (ofN 1 F_bared) (dCons (dL (ofN 1 F__law_chain) (dCons (dC (.int 7)) dNil)) dNil)) (dCons (dL (ofN 1 F_bared) (dCons (dL oTup (dCons (dC (.int 3)) (dCons (dL oTup dNil) dNil))) dNil)) (dCons (dL (ofN 1 F_bared) (dCons (dVar 5) dNil)) (dCons (dL (ofN 1 F_loose_spots) (dCons (dVar 5) dNil)) (dCons (dL (ofN 1 F_bared) (dCons (dL oTup (dCons (dC (.int 4)) (dCons (dL oTup (dCons (dL oTup (dCons (dC (.int 0)) (dCons (dC (.int 1)) dNil))) (dCons (dL oTup (dCons (dC (.int 0)) (dCons (dC (.int 2)) dNil))) (dCons (dL oTup (dCons (dC (.int 0)) (dCons (dC (.int 3)) dNil))) (dCons (dL oTup (dCons (dC (.int 1)) (dCons (dC (.int 3)) dNil))) (dCons (dL oTup (dCons (dC (.int 2)) (dCons (dC (.int 3)) dNil))) dNil)))))) dNil))) dNil)) dNil)))))))
    (dSeq (dSet 6 (dBin oAdd (dVar 6) (dL oLst (dCons (dL (ofN 1 F_bared_leading) (dCons (dL (ofN 1 F__law_chain) (dCons (dC (.int 4)) dNil)) dNil)) (dCons (dL (ofN 1 F_bared_leading) (dCons (dVar 5) dNil)) (dCons (dL (ofN 1 F_loose_spots) (dCons (dL oTup (dCons (dC (.int 0)) (dCons (dL oTup dNil) dNil))) dNil)) (dCons (dL (ofN 1 F_bared) (dCons (dL oTup (dCons (dC (.int 0)) (dCons (dL oTup dNil) dNil))) dNil)) (dCons (dL (ofN 1 F_bared_leading) (dCons (dL oTup (dCons (dC (.int 0)) (dCons (dL oTup dNil) dNil))) dNil)) dNil))))))))
    (dRet (dL (ofN 2 F__law_like) (dCons (dVar 6) (dCons (dL oLst (dCons (dL oTup (dCons (dC (.int 0)) dNil)) (dCons (dL oTup (dCons (dC (.int 0)) (dCons (dC (.int 1)) (dCons (dC (.int 2)) dNil)))) (dCons (dL oTup (dCons (dC (.int 0)) (dCons (dC (.int 1)) (dCons (dC (.int 2)) (dCons (dC (.int 3)) dNil))))) (dCons (dL oTup dNil) (dCons (dL oTup (dCons (dC (.int 0)) dNil)) (dCons (dL oTup (dCons (dC (.int 0)) (dCons (dC (.int 0)) (dCons (dC (.int 0)) (dCons (dC (.int 0)) dNil))))) (dCons (dL oTup (dCons (dC (.int 0)) (dCons (dC (.int 1)) (dCons (dC (.int 2)) (dCons (dC (.int 3)) dNil))))) (dCons (dL oTup dNil) (dCons (dL oTup dNil) (dCons (dL oTup dNil) dNil))))))))))) dNil))))))))
def F_law : DFn := runD 7 den_law
theorem ok_law {P : Program} {w : World} {K : PySem.W.Frag} {h : Heap} {mg : Str → Option Value} (X : K.In h) (G : h.Ns mainGlobals mg) (c : He.SaysD fa fn K) : DOk P w K mg CX0 XX0 8 "law" (top 35) ["_law_script"] F_law := by
  obtain ⟨fd, F⟩ := c.def_ 29 (d := mkD "law" 35) rfl
  have d__law_begun := ok__law_begun (w := w) (P := P) X G c
  have d__law_drawn_order := ok__law_drawn_order (w := w) (P := P) X G c
  have d__law_right := ok__law_right (w := w) (P := P) X G c
  have d__law_with_loose := ok__law_with_loose (w := w) (P := P) X G c
  have d__law_like := ok__law_like (w := w) (P := P) X G c
  have d_bared := ok_bared (w := w) (P := P) X G c
  have d_loose_spots := ok_loose_spots (w := w) (P := P) X G c
  have d__law_chain := ok__law_chain (w := w) (P := P) X G c
  have d_bared_leading := ok_bared_leading (w := w) (P := P) X G c
  have m_len : mg "len" = none := He.free_ok X G (c.fact 36 (f := .free "len") rfl)
  have m_max : mg "max" = none := He.free_ok X G (c.fact 38 (f := .free "max") rfl)
  have m_min : mg "min" = none := He.free_ok X G (c.fact 39 (f := .free "min") rfl)
  have m_range : mg "range" = none := He.free_ok X G (c.fact 40 (f := .free "range") rfl)
  refine DOk.of0 F (He.glo_ok X G (c.fact 29 (f := .glo "law") rfl)) sc_law (fun _ _ _ _ _ _ us hl => match us, hl with | [_], _ => rfl) fun base cdv A outer s H E KX G' hr hg => ?_
  unfold den_law
  exact (pdss_cons (pds_for (gok_nm 1) PassesOwn.never rfl (pdi_range1 rfl m_range (pd_callB (cd_max rfl) m_max bt_max (pda_cons pd_int (pda_cons (pd_callB (cd_min rfl) m_min bt_min (pda_cons pd_int (pda_cons (pd_callB cd_len m_len bt_len (pda_cons (pd_var 0) pda_nil)) pda_nil))) pda_nil)))) (pg_name (i := 1) sc_law.nd rfl (by first | exact Or.inl rfl | exact Or.inr rfl))
    (pdss_cons (pds_set 2 sc_law.nd (pc_call (E := fun _ _ _ => False) d__law_begun (hr.mono (by decide)) ⟨KX, G', pass0, hg⟩ (pda_cons (pd_var 0) (pda_cons (pd_var 1) pda_nil))))
    (pdss_cons (pds_set 3 sc_law.nd (pc_call (E := fun _ _ _ => False) d__law_drawn_order (hr.mono (by decide)) ⟨KX, G', pass0, hg⟩ (pda_cons (pd_var 2) (pda_cons pd_int pda_nil))))
    (pdss_cons (pds_if (pdt_not (pdt_tru (pc_call (E := fun _ _ _ => False) d__law_right (hr.mono (by decide)) ⟨KX, G', pass0, hg⟩ (pda_cons (pd_var 2) (pda_cons (pd_var 3) pda_nil)))))
    (pdss_one (pds_ret pd_bl))
    pdss_nil)
    (pdss_one (pds_if (pdt_cmp od_gt (pd_ix hr.u1 (pd_var 3) pd_int) pd_int)
    (pdss_cons (pds_set 4 sc_law.nd (pc_call (E := fun _ _ _ => False) d__law_with_loose (hr.mono (by decide)) ⟨KX, G', pass0, hg⟩ (pda_cons (pd_var 2) (pda_cons (pd_var 3) pda_nil))))
    (pdss_one (pds_if (pdt_w (pdw_or (pdt_not (pdt_tru (pc_call (E := fun _ _ _ => False) d__law_right (hr.mono (by decide)) ⟨KX, G', pass0, hg⟩ (pda_cons (pd_var 2) (pda_cons (pd_var 4) pda_nil))))) (pdw_or1 (pdt_not (pdt_tru (pc_call (E := fun _ _ _ => False) d__law_like (hr.mono (by decide)) ⟨KX, G', pass0, hg⟩ (pda_cons (pc_call (E := fun _ _ _ => False) d_bared (hr.mono (by decide)) ⟨KX, G', pass0, hg⟩ (pda_cons (pd_var 4) pda_nil)) (pda_cons (pc_call (E := fun _ _ _ => False) d_bared (hr.mono (by decide)) ⟨KX, G', pass0, hg⟩ (pda_cons (pd_var 3) pda_nil)) pda_nil))))))))
    (pdss_one (pds_ret pd_bl))
    pdss_nil)))
    pdss_nil))))))
    (pdss_cons (pds_set 5 sc_law.nd (pd_tup (pda_cons pd_int (pda_cons (pd_tup (pda_cons (pd_tup (pda_cons pd_int (pda_cons pd_int pda_nil))) (pda_cons (pd_tup (pda_cons pd_int (pda_cons pd_int pda_nil))) (pda_cons (pd_tup (pda_cons pd_int (pda_cons pd_int pda_nil))) (pda_cons (pd_tup (pda_cons pd_int (pda_cons pd_int pda_nil))) pda_nil))))) pda_nil))))
    (pdss_cons (pds_set 6 sc_law.nd (pd_lst (pda_cons (pc_call (E := fun _ _ _ => False) d_bared (hr.mono (by decide)) ⟨KX, G', pass0, hg⟩ (pda_cons (pc_call (E := fun _ _ _ => False) d__law_chain (hr.mono (by decide)) ⟨KX, G', pass0, hg⟩ (pda_cons pd_int pda_nil)) pda_nil)) (pda_cons (pc_call (E := fun _ _ _ => False) d_bared (hr.mono (by decide)) ⟨KX, G', pass0, hg⟩ (pda_cons (pd_tup (pda_cons pd_int (pda_cons (pd_tup pda_nil) pda_nil))) pda_nil)) (pda_cons (pc_call (E := fun _ _ _ => False) d_bared (hr.mono (by decide)) ⟨KX, G', pass0, hg⟩ (pda_cons (pd_var 5) pda_nil)) (pda_cons (pc_call (E := fun _ _ _ => False) d_loose_spots (hr.mono (by decide)) ⟨KX, G', pass0, hg⟩ (pda_cons (pd_var 5) pda_nil)) (pda_cons (pc_call (E := fun _ _ _ => False) d_bared (hr.mono (by decide)) ⟨KX, G', pass0, hg⟩ (pda_cons (pd_tup (pda_cons pd_int (pda_cons (pd_tup (pda_cons (pd_tup (pda_cons pd_int (pda_cons pd_int pda_nil))) (pda_cons (pd_tup (pda_cons pd_int (pda_cons pd_int pda_nil))) (pda_cons (pd_tup (pda_cons pd_int (pda_cons pd_int pda_nil))) (pda_cons (pd_tup (pda_cons pd_int (pda_cons pd_int pda_nil))) (pda_cons (pd_tup (pda_cons pd_int (pda_cons pd_int pda_nil))) pda_nil)))))) pda_nil))) pda_nil)) pda_nil)))))))
    (pdss_cons (pds_set 6 sc_law.nd (pd_bin od_add (pd_var 6) (pd_lst (pda_cons (pc_call (E := fun _ _ _ => False) d_bared_leading (hr.mono (by decide)) ⟨KX, G', pass0, hg⟩ (pda_cons (pc_call (E := fun _ _ _ => False) d__law_chain (hr.mono (by decide)) ⟨KX, G', pass0, hg⟩ (pda_cons pd_int pda_nil)) pda_nil)) (pda_cons (pc_call (E := fun _ _ _ => False) d_bared_leading (hr.mono (by decide)) ⟨KX, G', pass0, hg⟩ (pda_cons (pd_var 5) pda_nil)) (pda_cons (pc_call (E := fun _ _ _ => False) d_loose_spots (hr.mono (by decide)) ⟨KX, G', pass0, hg⟩ (pda_cons (pd_tup (pda_cons pd_int (pda_cons (pd_tup pda_nil) pda_nil))) pda_nil)) (pda_cons (pc_call (E := fun _ _ _ => False) d_bared (hr.mono (by decide)) ⟨KX, G', pass0, hg⟩ (pda_cons (pd_tup (pda_cons pd_int (pda_cons (pd_tup pda_nil) pda_nil))) pda_nil)) (pda_cons (pc_call (E := fun _ _ _ => False) d_bared_leading (hr.mono (by decide)) ⟨KX, G', pass0, hg⟩ (pda_cons (pd_tup (pda_cons pd_int (pda_cons (pd_tup pda_nil) pda_nil))) pda_nil)) pda_nil))))))))
    (pdss_one (pds_ret (pc_call (E := fun _ _ _ => False) d__law_like (hr.mono (by decide)) ⟨KX, G', pass0, hg⟩ (pda_cons (pd_var 6) (pda_cons (pd_lst (pda_cons (pd_tup (pda_cons pd_int pda_nil)) (pda_cons (pd_tup (pda_cons pd_int (pda_cons pd_int (pda_cons pd_int pda_nil)))) (pda_cons (pd_tup (pda_cons pd_int (pda_cons pd_int (pda_cons pd_int (pda_cons pd_int pda_nil))))) (pda_cons (pd_tup pda_nil) (pda_cons (pd_tup (pda_cons pd_int pda_nil)) (pda_cons (pd_tup (pda_cons pd_int (pda_cons pd_int (pda_cons pd_int (pda_cons pd_int pda_nil))))) (pda_cons (pd_tup (pda_cons pd_int (pda_cons pd_int (pda_cons pd_int (pda_cons pd_int pda_nil))))) (pda_cons (pd_tup pda_nil) (pda_cons (pd_tup pda_nil) (pda_cons (pd_tup pda_nil) pda_nil))))))))))) pda_nil)))))))))
end LH
set_option maxRecDepth 100000
set_option maxHeartbeats 4000000
namespace LH
open PySem PySem.Spec PyProof.Rows L2 Pd
def w_is_integer : VS := (vRet (vAndV (vUn (vIsK .int) (vVarW 0)) (vNotV (vUn (vIsK .bool) (vVarW 0)))))
def W_is_integer : VFn := vRun 1 w_is_integer
theorem fok_is_integer : FOk 1 1 F_is_integer W_is_integer := FOk.le (fok_run (by unfold den_is_integer w_is_integer; exact (sv_ret (EOk.sw (ev_and (EOk.sw (ev_un (opv_isK .int) (ev_varW 0))) (ev_not (EOk.sw (ev_un (opv_isK .bool) (ev_varW 0))))))))) (by decide +kernel)
def w_is_spot : VS := (vRet (vAndV (vCall 1 W_is_integer (vCons (vVar 0) vNil)) (vChain (vCmp gLe) (vCmp gLt) (vC (.int 0)) (vVarW 0) (vVarW 1))))
def W_is_spot : VFn := vRun 2 w_is_spot
theorem fok_is_spot : FOk 2 1 F_is_spot W_is_spot := FOk.le (fok_run (by unfold den_is_spot w_is_spot; exact (sv_ret (EOk.sw (ev_and (EOk.sw (ev_call fok_is_integer (av_cons (ev_var 0) av_nil))) (ev_chain (opv_cmp gLe) (opv_cmp gLt) (EOk.sw ev_int) (ev_varW 0) (ev_varW 1))))))) (by decide +kernel)
abbrev W_above_lists : VFn := WNest false
theorem fok_above_lists : FOk 1 1 F_above_lists W_above_lists := fok_nest false 2 3 (.inl ⟨rfl, rfl, rfl⟩)
abbrev W_below_lists : VFn := WNest true
theorem fok_below_lists : FOk 1 1 F_below_lists W_below_lists := fok_nest true 3 2 (.inr ⟨rfl, rfl, rfl⟩)
def w_part_order : VS := (vSeq (vSet 2 (vDc (iEnum (vVarW 1)) [3, 4] (uTp (usCons (uNm 3) (usCons (uNm 4) usNil))) vYes (vVarW 4) (vVar 3)))
    (vSeq (vSet 5 (vLc (iSeq (vBin vIx (vVarW 0) (vC (.int 1)))) [6, 7] (uTp (usCons (uNm 6) (usCons (uNm 7) usNil))) (vAnd (vB (vBin vIn (vVarW 6) (vVarW 2))) (vB (vBin vIn (vVarW 7) (vVarW 2)))) (vTup (vCons (vBin vIx (vVarW 2) (vVarW 6)) (vCons (vBin vIx (vVarW 2) (vVarW 7)) vNil)))))
    (vRet (vTup (vCons (vL vLen (vCons (vVarW 1) vNil)) (vCons (vL vTupleO (vCons (vVarW 5) vNil)) vNil))))))
def W_part_order : VFn := vRun 8 w_part_order
theorem fok_part_order : FOk 2 1 F_part_order W_part_order := FOk.le (fok_run (by unfold den_part_order w_part_order; exact (sv_seq (sv_set 2 (EOk.fs (ev_dc (iv_enum (s := false) (ev_varW 1)) (gv_tp (gsv_cons (gv_nm 3) (gsv_cons (gv_nm 4) gsv_nil))) tv_yes (ev_varW 4) (ev_var 3))))
    (sv_seq (sv_set 5 (EOk.fs (ev_lc (iv_seq (s := false) (EOk.sw (ev_bin opv_ix (ev_varW 0) (EOk.sw ev_int)))) (gv_tp (gsv_cons (gv_nm 6) (gsv_cons (gv_nm 7) gsv_nil))) (tv_and (tv_B (EOk.sw (ev_bin opv_in (ev_varW 6) (ev_varW 2)))) (tv_B (EOk.sw (ev_bin opv_in (ev_varW 7) (ev_varW 2))))) (ev_tup (av_cons (ev_bin opv_ix (ev_varW 2) (ev_varW 6)) (av_cons (ev_bin opv_ix (ev_varW 2) (ev_varW 7)) av_nil))))))
    (sv_ret (EOk.sw (ev_tup (av_cons (ev_L olv_len (av_cons (ev_varW 1) av_nil)) (av_cons (ev_L olv_tuple (av_cons (ev_varW 5) av_nil)) av_nil))))))))) (by decide +kernel)
def w_is_led : VS := (vRet (vOrV (vBin vEq (vVarW 1) (vVarW 2)) (vBin vIn (vTup (vCons (vVar 1) (vCons (vVar 2) vNil))) (vBin vIx (vVarW 0) (vC (.int 1))))))
def W_is_led : VFn := vRun 3 w_is_led
theorem fok_is_led : FOk 3 1 F_is_led W_is_led := FOk.le (fok_run (by unfold den_is_led w_is_led; exact (sv_ret (EOk.sw (ev_or (EOk.sw (ev_bin opv_eq (ev_varW 1) (ev_varW 2))) (ev_bin opv_in (EOk.sw (ev_tup (av_cons (ev_var 1) (av_cons (ev_var 2) av_nil)))) (EOk.sw (ev_bin opv_ix (ev_varW 0) (EOk.sw ev_int))))))))) (by decide +kernel)
def w_need_leading : VS := (vSeq (vIfS (vOr (vNot (vTru (vUn (vIsK .tuple) (vVarW 2)))) (vB (vBin vNe (vL vLen (vCons (vVarW 2) vNil)) (vBin vIx (vVarW 0) (vC (.int 0))))))
    vErrS
    vNext)
    (vSeq (vIfS (vNot (vTru (vL vAll (vCons (vLc (iSeq (vVarW 2)) [3] (uNm 3) vYes (vCall 2 W_is_spot (vCons (vVar 3) (vCons (vBin vIx (vVarW 1) (vC (.int 0))) vNil)))) vNil))))
    vErrS
    vNext)
    (vSeq (vFor (iEnum (vBin vIx (vVarW 0) (vC (.int 1)))) (uTp (usCons (uNm 4) (usCons (uTp (usCons (uNm 5) (usCons (uNm 6) usNil))) usNil)))
    (vIfS (vNot (vTru (vCall 3 W_is_led (vCons (vVar 1) (vCons (vBin vIx (vVarW 2) (vVarW 5)) (vCons (vBin vIx (vVarW 2) (vVarW 6)) vNil))))))
    vErrS
    vNext))
    (vRet (vVarW 2)))))
def W_need_leading : VFn := vRun 7 w_need_leading
theorem fok_need_leading : FOk 3 33554432 F_need_leading W_need_leading := FOk.le (fok_run (by unfold den_need_leading w_need_leading; exact (sv_seq (sv_if (tv_or (tv_not (tv_tru (EOk.sw (ev_un (opv_isK .tuple) (ev_varW 2))))) (tv_B (EOk.sw (ev_bin opv_ne (EOk.sw (ev_L olv_len (av_cons (ev_varW 2) av_nil))) (EOk.sw (ev_bin opv_ix (ev_varW 0) (EOk.sw ev_int)))))))
    sv_err
    sv_next)
    (sv_seq (sv_if (tv_not (tv_tru (EOk.sw (ev_L olv_all (av_cons (EOk.sw (EOk.fs (ev_lc (iv_seq (s := false) (ev_varW 2)) (gv_nm 3) tv_yes (ev_call fok_is_spot (av_cons (ev_var 3) (av_cons (ev_bin opv_ix (ev_varW 1) (EOk.sw ev_int)) av_nil)))))) av_nil)))))
    sv_err
    sv_next)
    (sv_seq (sv_for (iv_enum (s := true) (ev_bin opv_ix (ev_varW 0) (EOk.sw ev_int))) (gv_tp (gsv_cons (gv_nm 4) (gsv_cons (gv_tp (gsv_cons (gv_nm 5) (gsv_cons (gv_nm 6) gsv_nil))) gsv_nil)))
    (sv_if (tv_not (tv_tru (EOk.sw (ev_call fok_is_led (av_cons (ev_var 1) (av_cons (ev_bin opv_ix (ev_varW 2) (ev_varW 5)) (av_cons (ev_bin opv_ix (ev_varW 2) (ev_varW 6)) av_nil)))))))
    sv_err
    sv_next))
    (sv_ret (ev_varW 2))))))) (by decide +kernel)
def w_greatest_of : VS := (vSeq (vFor (iSeq (vVar 1)) (uNm 2)
    (vIfS (vTru (vL vAll (vCons (vLc (iSeq (vVarW 1)) [3] (uNm 3) vYes (vCall 3 W_is_led (vCons (vVar 0) (vCons (vVar 3) (vCons (vVar 2) vNil))))) vNil)))
    (vRet (vVarW 2))
    vNext))
    (vRet (vC .non)))
def W_greatest_of : VFn := vRun 4 w_greatest_of
theorem fok_greatest_of : FOk 2 281474976710656 F_greatest_of W_greatest_of := FOk.le (fok_run (by unfold den_greatest_of w_greatest_of; exact (sv_seq (sv_for (iv_seq (s := true) (ev_var 1)) (gv_nm 2)
    (sv_if (tv_tru (EOk.sw (ev_L olv_all (av_cons (EOk.sw (EOk.fs (ev_lc (iv_seq (s := false) (ev_varW 1)) (gv_nm 3) tv_yes (ev_call fok_is_led (av_cons (ev_var 0) (av_cons (ev_var 3) (av_cons (ev_var 2) av_nil))))))) av_nil))))
    (sv_ret (ev_varW 2))
    sv_next))
    (sv_ret (EOk.sw ev_non))))) (by decide +kernel)
def w_loose_among : VS := (vSeq (vParG false true 2 3 (vCall 1 W_below_lists (vCons (vVar 0) vNil)) (vLst vNil))
    (vFor (iSeq (vVar 1)) (uNm 4)
    (vIfS (vB (vBin vIsNot (vCall 2 W_greatest_of (vCons (vVar 0) (vCons (vLc (iSeq (vBin vIx (vVarW 2) (vVarW 4))) [5] (uNm 5) (vB (vBin vIn (vVarW 5) (vVarW 1))) (vVar 5)) vNil))) (vC .non)))
    (vAppend 3 (vVar 4))
    vNext)))
def W_loose_among : VFn := vRunO 6 3 w_loose_among
theorem fokF_loose_among : FOkF 2 9444732965739290427392 F_loose_among W_loose_among := FOkF.le (by unfold F_loose_among den_loose_among W_loose_among w_loose_among; rw [dSeq_assoc]; exact fokF_own 3 (sv_seq (sv_parSO 2 3 (by decide) (ev_call fok_below_lists (av_cons (ev_var 0) av_nil)) (ev_lst av_nil))
    (sv_for (iv_seq (s := true) (ev_var 1)) (gv_nm 4)
    (sv_if (tv_B (EOk.sw (ev_bin opv_isnot (EOk.sw (ev_call fok_greatest_of (av_cons (ev_var 0) (av_cons (EOk.fs (ev_lc (iv_seq (s := false) (EOk.sw (ev_bin opv_ix (ev_varW 2) (ev_varW 4)))) (gv_nm 5) (tv_B (EOk.sw (ev_bin opv_in (ev_varW 5) (ev_varW 1)))) (ev_var 5))) av_nil)))) (EOk.sw ev_non))))
    (sv_append 3 (ev_var 4))
    sv_next)))) (by decide +kernel)
def w_loose_spots : VS := (vRet (vL vTupleO (vCons (vCall 2 W_loose_among (vCons (vVar 0) (vCons (vLstRg (vRg1 (vBin vIx (vVarW 0) (vC (.int 0))))) vNil))) vNil)))
def W_loose_spots : VFn := vRun 1 w_loose_spots
theorem fok_loose_spots : FOk 1 9444732965739290427392 F_loose_spots W_loose_spots := FOk.le (fok_run (by unfold den_loose_spots w_loose_spots; exact (sv_ret (EOk.sw (ev_L olv_tuple (av_cons (EOk.sw (EOk.fs (ev_callF fokF_loose_among (av_cons (ev_var 0) (av_cons (EOk.fs (ev_lstRg (rv_1 (EOk.sw (ev_bin opv_ix (ev_varW 0) (EOk.sw ev_int)))))) av_nil))))) av_nil)))))) (by decide +kernel)
def w_bared : VS := (vSeq (vSetO 1 (vLstRg (vRg1 (vBin vIx (vVarW 0) (vC (.int 0))))))
    (vSeq (vSet 2 (vCallWL 2 W_loose_among (vCons (vVarW 0) (vCons (vVarW 1) vNil))))
    (vSeq (whileW (vTru (vVarW 2))
    (vSeq (vRem 1 (vBin vIx (vVarW 2) (vC (.int 0))))
    (vSet 2 (vCallWL 2 W_loose_among (vCons (vVarW 0) (vCons (vVarW 1) vNil))))) 1048576)
    (vRet (vL vTupleO (vCons (vVarW 1) vNil))))))
def W_bared : VFn := vRun 3 w_bared
theorem fok_bared : FOk 1 19807040628566084398385987584 F_bared W_bared := FOk.le (fok_run (by unfold den_bared w_bared; exact (sv_seq (sv_setO 1 (ev_lstRg (rv_1 (EOk.sw (ev_bin opv_ix (ev_varW 0) (EOk.sw ev_int))))))
    (sv_seq (sv_set 2 (EOk.fs (ev_callWL fokF_loose_among (av_cons (ev_varW 0) (av_cons (ev_varW 1) av_nil)))))
    (sv_seq (sv_while (tv_tru (ev_varW 2))
    (sv_seq (sv_rem 1 (EOk.sw (ev_bin opv_ix (ev_varW 2) (EOk.sw ev_int))))
    (sv_set 2 (EOk.fs (ev_callWL fokF_loose_among (av_cons (ev_varW 0) (av_cons (ev_varW 1) av_nil)))))) 1048576)
    (sv_ret (EOk.sw (ev_L olv_tuple (av_cons (ev_varW 1) av_nil))))))))) (by decide +kernel)
def w_bared_leading : VS := (vSeq (vSet 1 (vCall 1 W_bared (vCons (vVar 0) vNil)))
    (vRet (vL vTupleO (vCons (vLc (iRg1 (vBin vIx (vVarW 0) (vC (.int 0)))) [3] (uNm 3) vYes (vCall 2 W_greatest_of (vCons (vVar 0) (vCons (vLc (iSeq (vVarW 1)) [2] (uNm 2) (vTru (vCall 3 W_is_led (vCons (vVar 0) (vCons (vVar 2) (vCons (vVar 3) vNil))))) (vVar 2)) vNil)))) vNil))))
def W_bared_leading : VFn := vRun 4 w_bared_leading
theorem fok_bared_leading : FOk 1 39614081257132168796771975168 F_bared_leading W_bared_leading := FOk.le (fok_run (by unfold den_bared_leading w_bared_leading; exact (sv_seq (sv_set 1 (ev_call fok_bared (av_cons (ev_var 0) av_nil)))
    (sv_ret (EOk.sw (ev_L olv_tuple (av_cons (EOk.sw (EOk.fs (ev_lc (iv_rg1 (s := false) (EOk.sw (ev_bin opv_ix (ev_varW 0) (EOk.sw ev_int)))) (gv_nm 3) tv_yes (ev_call fok_greatest_of (av_cons (ev_var 0) (av_cons (EOk.fs (ev_lc (iv_seq (s := false) (ev_varW 1)) (gv_nm 2) (tv_tru (EOk.sw (ev_call fok_is_led (av_cons (ev_var 0) (av_cons (ev_var 2) (av_cons (ev_var 3) av_nil)))))) (ev_var 2))) av_nil)))))) av_nil))))))) (by decide +kernel)
def w_near_lists : VS := (vRet (vLc (iZip (vCall 1 W_above_lists (vCons (vVar 0) vNil)) (vCall 1 W_below_lists (vCons (vVar 0) vNil))) [1, 2] (uTp (usCons (uNm 1) (usCons (uNm 2) usNil))) vYes (vBin vAdd (vVarW 1) (vVarW 2))))
def W_near_lists : VFn := vRun 3 w_near_lists
theorem fok_near_lists : FOk 1 2 F_near_lists W_near_lists := FOk.le (fok_run (by unfold den_near_lists w_near_lists; exact (sv_ret (EOk.sw (EOk.fs (ev_lc (iv_zip (s := false) (EOk.sw (ev_call fok_above_lists (av_cons (ev_var 0) av_nil))) (EOk.sw (ev_call fok_below_lists (av_cons (ev_var 0) av_nil)))) (gv_tp (gsv_cons (gv_nm 1) (gsv_cons (gv_nm 2) gsv_nil))) tv_yes (ev_bin opv_add (ev_varW 1) (ev_varW 2)))))))) (by decide +kernel)
def w_piece_of : VS := (vSeq (vAsg (uTp (usCons (uNm 2) (usCons (uNm 3) (usCons (uNm 4) usNil)))) (vTup (vCons (vCall 1 W_near_lists (vCons (vVar 0) vNil)) (vCons (vLst (vCons (vVar 1) vNil)) (vCons (vC (.int 0)) vNil)))))
    (vSeq (whileW (vB (vBin (vCmp gLt) (vVarW 4) (vL vLen (vCons (vVarW 3) vNil))))
    (vSeq (vSet 3 (vBin vAdd (vVarW 3) (vLc (iSeq (vBin vIx (vVarW 2) (vBin vIx (vVarW 3) (vVarW 4)))) [5] (uNm 5) (vB (vBin vNotIn (vVarW 5) (vVarW 3))) (vVar 5))))
    (vSet 4 (vBin vAddN (vVarW 4) (vC (.int 1))))) 1048576)
    (vRet (vL vTupleO (vCons (vL vSorted (vCons (vVarW 3) vNil)) vNil)))))
def W_piece_of : VFn := vRun 6 w_piece_of
theorem fok_piece_of : FOk 2 2 F_piece_of W_piece_of := FOk.le (fok_run (by unfold den_piece_of w_piece_of; exact (sv_seq (sv_asg (gv_tp (gsv_cons (gv_nm 2) (gsv_cons (gv_nm 3) (gsv_cons (gv_nm 4) gsv_nil)))) (ev_tup (av_cons (ev_call fok_near_lists (av_cons (ev_var 0) av_nil)) (av_cons (EOk.fs (ev_lst (av_cons (ev_var 1) av_nil))) (av_cons ev_int av_nil)))))
    (sv_seq (sv_while (tv_B (EOk.sw (ev_bin (opv_cmp gLt) (ev_varW 4) (EOk.sw (ev_L olv_len (av_cons (ev_varW 3) av_nil))))))
    (sv_seq (sv_set 3 (ev_bin opv_add (ev_varW 3) (EOk.sw (EOk.fs (ev_lc (iv_seq (s := false) (EOk.sw (ev_bin opv_ix (ev_varW 2) (EOk.sw (ev_bin opv_ix (ev_varW 3) (ev_varW 4)))))) (gv_nm 5) (tv_B (EOk.sw (ev_bin opv_notin (ev_varW 5) (ev_varW 3)))) (ev_var 5))))))
    (sv_set 4 (ev_bin opv_addN (ev_varW 4) (EOk.sw ev_int)))) 1048576)
    (sv_ret (EOk.sw (ev_L olv_tuple (av_cons (EOk.sw (EOk.fs (ev_L olv_sorted (av_cons (ev_varW 3) av_nil)))) av_nil)))))))) (by decide +kernel)
def w_pieces : VS := (vSeq (vSetO 1 (vLst vNil))
    (vSeq (vFor (iRg1 (vBin vIx (vVarW 0) (vC (.int 0)))) (uNm 2)
    (vIfS (vNot (vTru (vL vAny (vCons (vLc (iSeq (vVarW 1)) [3] (uNm 3) vYes (vBin vIn (vVarW 2) (vVarW 3))) vNil))))
    (vAppend 1 (vCall 2 W_piece_of (vCons (vVar 0) (vCons (vVar 2) vNil))))
    vNext))
    (vRet (vL vTupleO (vCons (vVarW 1) vNil)))))
def W_pieces : VFn := vRun 4 w_pieces
theorem fok_pieces : FOk 1 33554432 F_pieces W_pieces := FOk.le (fok_run (by unfold den_pieces w_pieces; exact (sv_seq (sv_setO 1 (ev_lst av_nil))
    (sv_seq (sv_for (iv_rg1 (s := true) (EOk.sw (ev_bin opv_ix (ev_varW 0) (EOk.sw ev_int)))) (gv_nm 2)
    (sv_if (tv_not (tv_tru (EOk.sw (ev_L olv_any (av_cons (EOk.sw (EOk.fs (ev_lc (iv_seq (s := false) (ev_varW 1)) (gv_nm 3) tv_yes (ev_bin opv_in (ev_varW 2) (ev_varW 3))))) av_nil)))))
    (sv_append 1 (ev_call fok_piece_of (av_cons (ev_var 0) (av_cons (ev_var 2) av_nil))))
    sv_next))
    (sv_ret (EOk.sw (ev_L olv_tuple (av_cons (ev_varW 1) av_nil)))))))) (by decide +kernel)
def w__law_begun : VS := (vSeq (vSet 2 (vBin vAdd (vSl (vVarW 0) (vP (vVarW 1)) vNoP) (vSl (vVarW 0) vNoP (vP (vVarW 1)))))
    (vSeq (vSet 3 (vLc (iSeq (vVarW 2)) [4] (uNm 4) (vB (vBin (vCmp gGe) (vVarW 4) (vBin vPow (vC (.int 10)) (vC (.int 18))))) (vVar 4)))
    (vSeq (vSet 5 (vBin vAdd (vC (.int 71)) (vVarW 1)))
    (vSeq (vFor (iSeq (vVar 2)) (uNm 4)
    (vSet 5 (vBin vMod (vL vInt (vCons (vBin vAdd (vBin vMul (vVarW 5) (vC (.int 48271))) (vVarW 4)) vNil)) (vC (.int 2147483647)))))
    (vRet (vDraw (vIf (vB (vBin vNe (vVarW 3) (vLst vNil))) (vBin vIx (vVarW 3) (vC (.int 0))) (vC (.int 0))) (vVarW 5) (vBin vAdd (vVarW 2) (vLst (vCons (vBin vAdd (vBin vMul (vC (.int 53)) (vVarW 1)) (vC (.int 11))) vNil)))))))))
def W__law_begun : VFn := vRun 6 w__law_begun
theorem fok__law_begun : FOk 2 1 F__law_begun W__law_begun := FOk.le (fok_run (by unfold den__law_begun w__law_begun; exact (sv_seq (sv_set 2 (ev_bin opv_add (EOk.sw (ev_sl (ev_varW 0) (pv_P (ev_varW 1)) pv_noP)) (EOk.sw (ev_sl (ev_varW 0) pv_noP (pv_P (ev_varW 1))))))
    (sv_seq (sv_set 3 (EOk.fs (ev_lc (iv_seq (s := false) (ev_varW 2)) (gv_nm 4) (tv_B (EOk.sw (ev_bin (opv_cmp gGe) (ev_varW 4) (EOk.sw (ev_bin opv_pow (EOk.sw ev_int) (EOk.sw ev_int)))))) (ev_var 4))))
    (sv_seq (sv_set 5 (ev_bin opv_add (EOk.sw ev_int) (ev_varW 1)))
    (sv_seq (sv_for (iv_seq (s := true) (ev_var 2)) (gv_nm 4)
    (sv_set 5 (ev_bin opv_mod (EOk.sw (ev_L olv_int (av_cons (EOk.sw (ev_bin opv_add (EOk.sw (ev_bin opv_mul (ev_varW 5) (EOk.sw ev_int))) (ev_varW 4))) av_nil))) (EOk.sw ev_int))))
    (sv_ret (EOk.sw (ev_draw (EOk.sw (ev_if (tv_B (EOk.sw (ev_bin opv_ne (ev_varW 3) (EOk.sw (EOk.fs (ev_lst av_nil)))))) (ev_bin opv_ix (ev_varW 3) (EOk.sw ev_int)) ev_int)) (ev_varW 5) (ev_bin opv_add (ev_varW 2) (EOk.sw (EOk.fs (ev_lst (av_cons (ev_bin opv_add (EOk.sw (ev_bin opv_mul (EOk.sw ev_int) (ev_varW 1))) (EOk.sw ev_int)) av_nil)))))))))))))) (by decide +kernel)
abbrev W__law_draw : VFn := W_draw
theorem fok__law_draw : FOk 2 1 F__law_draw W__law_draw := fok_draw
def w__law_of : VS := (vRet (vBin vIx (vVarW 1) (vCall 2 W__law_draw (vCons (vVar 0) (vCons (vL vLen (vCons (vVarW 1) vNil)) vNil)))))
def W__law_of : VFn := vRun 2 w__law_of
theorem fok__law_of : FOk 2 1 F__law_of W__law_of := FOk.le (fok_run (by unfold den__law_of w__law_of; exact (sv_ret (EOk.sw (ev_bin opv_ix (ev_varW 1) (EOk.sw (ev_call fok__law_draw (av_cons (ev_var 0) (av_cons (ev_L olv_len (av_cons (ev_varW 1) av_nil)) av_nil))))))))) (by decide +kernel)
def w__law_shuffled : VS := (vSeq (vParG false true 2 3 (vLstRg (vRg1 (vVarW 1))) (vLst vNil))
    (vSeq (vFor (iRg1 (vVarW 1)) (uNm 4)
    (vSeq (vSet 5 (vCall 2 W__law_of (vCons (vVar 0) (vCons (vVar 2) vNil))))
    (vSeq (vSet 2 (vLc (iSeq (vVarW 2)) [6] (uNm 6) (vB (vBin vNe (vVarW 6) (vVarW 5))) (vVar 6)))
    (vAppend 3 (vVar 5)))))
    (vRet (vL vTupleO (vCons (vVarW 3) vNil)))))
def W__law_shuffled : VFn := vRun 7 w__law_shuffled
theorem fok__law_shuffled : FOk 2 16777216 F__law_shuffled W__law_shuffled := FOk.le (fok_run (by unfold den__law_shuffled w__law_shuffled; exact (sv_seq (sv_parSO 2 3 (by decide) (EOk.fs (ev_lstRg (rv_1 (ev_varW 1)))) (ev_lst av_nil))
    (sv_seq (sv_for (iv_rg1 (s := true) (ev_varW 1)) (gv_nm 4)
    (sv_seq (sv_set 5 (ev_call fok__law_of (av_cons (ev_var 0) (av_cons (ev_var 2) av_nil))))
    (sv_seq (sv_set 2 (EOk.fs (ev_lc (iv_seq (s := false) (ev_varW 2)) (gv_nm 6) (tv_B (EOk.sw (ev_bin opv_ne (ev_varW 6) (ev_varW 5)))) (ev_var 6))))
    (sv_append 3 (ev_var 5)))))
    (sv_ret (EOk.sw (ev_L olv_tuple (av_cons (ev_varW 3) av_nil)))))))) (by decide +kernel)
def w__law_like : VS := (vRet (vBin vEqS (vL vRepr (vCons (vVarW 0) vNil)) (vL vRepr (vCons (vVarW 1) vNil))))
def W__law_like : VFn := vRun 2 w__law_like
theorem fok__law_like : FOk 2 1 F__law_like W__law_like := FOk.le (fok_run (by unfold den__law_like w__law_like; exact (sv_ret (EOk.sw (ev_bin opv_eqS (EOk.sw (ev_L olv_repr (av_cons (ev_varW 0) av_nil))) (EOk.sw (ev_L olv_repr (av_cons (ev_varW 1) av_nil)))))))) (by decide +kernel)
def w__law_closed : VS := (vSeq (vSetO 2 (vL vListO (vCons (vVarW 1) vNil)))
    (vSeq (vFor (iRg1 (vVarW 0)) (uNm 3)
    (vFor (iRg1 (vVarW 0)) (uNm 4)
    (vIfS (vB (vBin vIn (vTup (vCons (vVar 4) (vCons (vVar 3) vNil))) (vVarW 2)))
    (vExtend 2 (vLc (iRg1 (vVarW 0)) [5] (uNm 5) (vAnd (vB (vBin vIn (vTup (vCons (vVar 3) (vCons (vVar 5) vNil))) (vVarW 2))) (vB (vBin vNotIn (vTup (vCons (vVar 4) (vCons (vVar 5) vNil))) (vVarW 2)))) (vTup (vCons (vVar 4) (vCons (vVar 5) vNil)))))
    vNext)))
    (vRet (vTup (vCons (vVar 0) (vCons (vL vTupleX (vCons (vL vSortSet2 (vCons (vVarW 2) vNil)) vNil)) vNil))))))
def W__law_closed : VFn := vRun 6 w__law_closed
theorem fok__law_closed : FOk 2 1 F__law_closed W__law_closed := FOk.le (fok_run (by unfold den__law_closed w__law_closed; exact (sv_seq (sv_setO 2 (ev_L olv_list (av_cons (ev_varW 1) av_nil)))
    (sv_seq (sv_for (iv_rg1 (s := true) (ev_varW 0)) (gv_nm 3)
    (sv_for (iv_rg1 (s := true) (ev_varW 0)) (gv_nm 4)
    (sv_if (tv_B (EOk.sw (ev_bin opv_in (EOk.sw (ev_tup (av_cons (ev_var 4) (av_cons (ev_var 3) av_nil)))) (ev_varW 2))))
    (sv_extend 2 (EOk.sw (EOk.fs (ev_lc (iv_rg1 (s := false) (ev_varW 0)) (gv_nm 5) (tv_and (tv_B (EOk.sw (ev_bin opv_in (EOk.sw (ev_tup (av_cons (ev_var 3) (av_cons (ev_var 5) av_nil)))) (ev_varW 2)))) (tv_B (EOk.sw (ev_bin opv_notin (EOk.sw (ev_tup (av_cons (ev_var 4) (av_cons (ev_var 5) av_nil)))) (ev_varW 2))))) (ev_tup (av_cons (ev_var 4) (av_cons (ev_var 5) av_nil)))))))
    sv_next)))
    (sv_ret (EOk.sw (ev_tup (av_cons (ev_var 0) (av_cons (ev_L olv_tupleX (av_cons (EOk.sw (EOk.fs (ev_L olv_sortset2 (av_cons (ev_varW 2) av_nil)))) av_nil)) av_nil))))))))) (by decide +kernel)
def w__law_drawn_order : VS := (vSeq (vSet 2 (vCall 2 W__law_draw (vCons (vVar 0) (vCons (vBin vAdd (vVarW 1) (vC (.int 1))) vNil))))
    (vSeq (vPar 3 4 (vCall 2 W__law_shuffled (vCons (vVar 0) (vCons (vVar 2) vNil))) (vBin vAdd (vC (.int 2)) (vCall 2 W__law_draw (vCons (vVar 0) (vCons (vC (.int 3)) vNil)))))
    (vSeq (vSetO 5 (vLst vNil))
    (vSeq (vFor (iRg1 (vVarW 2)) (uNm 6)
    (vExtend 5 (vLc (iRg1 (vVarW 6)) [7] (uNm 7) (vB (vBin vEq (vCall 2 W__law_draw (vCons (vVar 0) (vCons (vVar 4) vNil))) (vC (.int 0)))) (vTup (vCons (vBin vIx (vVarW 3) (vVarW 7)) (vCons (vBin vIx (vVarW 3) (vVarW 6)) vNil))))))
    (vRet (vCallW 2 W__law_closed (vCons (vVarW 2) (vCons (vVarW 5) vNil))))))))
def W__law_drawn_order : VFn := vRun 8 w__law_drawn_order
theorem fok__law_drawn_order : FOk 2 562949953421312 F__law_drawn_order W__law_drawn_order := FOk.le (fok_run (by unfold den__law_drawn_order w__law_drawn_order; exact (sv_seq (sv_set 2 (ev_call fok__law_draw (av_cons (ev_var 0) (av_cons (ev_bin opv_add (ev_varW 1) (EOk.sw ev_int)) av_nil))))
    (sv_seq (sv_eq (dAsg_par 3 4 _ _) (sv_par 3 4 (ev_call fok__law_shuffled (av_cons (ev_var 0) (av_cons (ev_var 2) av_nil))) (ev_bin opv_add (EOk.sw ev_int) (EOk.sw (ev_call fok__law_draw (av_cons (ev_var 0) (av_cons ev_int av_nil)))))))
    (sv_seq (sv_setO 5 (ev_lst av_nil))
    (sv_seq (sv_for (iv_rg1 (s := true) (ev_varW 2)) (gv_nm 6)
    (sv_extend 5 (EOk.sw (EOk.fs (ev_lc (iv_rg1 (s := false) (ev_varW 6)) (gv_nm 7) (tv_B (EOk.sw (ev_bin opv_eq (EOk.sw (ev_call fok__law_draw (av_cons (ev_var 0) (av_cons (ev_var 4) av_nil)))) (EOk.sw ev_int)))) (ev_tup (av_cons (ev_bin opv_ix (ev_varW 3) (ev_varW 7)) (av_cons (ev_bin opv_ix (ev_varW 3) (ev_varW 6)) av_nil))))))))
    (sv_ret (EOk.sw (ev_callW fok__law_closed (av_cons (ev_varW 2) (av_cons (ev_varW 5) av_nil))))))))))) (by decide +kernel)
def w__law_chain : VS := (vSeq (vSetO 1 (vLst vNil))
    (vSeq (vFor (iRg1 (vVarW 0)) (uNm 2)
    (vExtend 1 (vLc (iRg2 (vBin vAdd (vVarW 2) (vC (.int 1))) (vVarW 0)) [3] (uNm 3) vYes (vTup (vCons (vVar 2) (vCons (vVar 3) vNil))))))
    (vRet (vTup (vCons (vVar 0) (vCons (vL vTupleO (vCons (vVarW 1) vNil)) vNil))))))
def W__law_chain : VFn := vRun 4 w__law_chain
theorem fok__law_chain : FOk 1 1 F__law_chain W__law_chain := FOk.le (fok_run (by unfold den__law_chain w__law_chain; exact (sv_seq (sv_setO 1 (ev_lst av_nil))
    (sv_seq (sv_for (iv_rg1 (s := true) (ev_varW 0)) (gv_nm 2)
    (sv_extend 1 (EOk.sw (EOk.fs (ev_lc (iv_rg2 (s := false) (EOk.sw (ev_bin opv_add (ev_varW 2) (EOk.sw ev_int))) (ev_varW 0)) (gv_nm 3) tv_yes (ev_tup (av_cons (ev_var 2) (av_cons (ev_var 3) av_nil))))))))
    (sv_ret (EOk.sw (ev_tup (av_cons (ev_var 0) (av_cons (ev_L olv_tuple (av_cons (ev_varW 1) av_nil)) av_nil))))))))) (by decide +kernel)
def w__law_is_led : VS := (vRet (vOrV (vBin vEq (vVarW 1) (vVarW 2)) (vBin vIn (vTup (vCons (vVar 1) (vCons (vVar 2) vNil))) (vBin vIx (vVarW 0) (vC (.int 1))))))
def W__law_is_led : VFn := vRun 3 w__law_is_led
theorem fok__law_is_led : FOk 3 1 F__law_is_led W__law_is_led := FOk.le (fok_run (by unfold den__law_is_led w__law_is_led; exact (sv_ret (EOk.sw (ev_or (EOk.sw (ev_bin opv_eq (ev_varW 1) (ev_varW 2))) (ev_bin opv_in (EOk.sw (ev_tup (av_cons (ev_var 1) (av_cons (ev_var 2) av_nil)))) (EOk.sw (ev_bin opv_ix (ev_varW 0) (EOk.sw ev_int))))))))) (by decide +kernel)
def w__law_is_loose : VS := (vSeq (vSet 3 (vLc (iSeq (vVarW 1)) [4] (uNm 4) (vB (vBin vIn (vTup (vCons (vVar 4) (vCons (vVar 2) vNil))) (vBin vIx (vVarW 0) (vC (.int 1))))) (vVar 4)))
    (vRet (vBin vNe (vLc (iSeq (vVarW 3)) [4] (uNm 4) (vB (vBin vEq (vLc (iSeq (vVarW 3)) [5] (uNm 5) (vNot (vTru (vCall 3 W__law_is_led (vCons (vVar 0) (vCons (vVar 5) (vCons (vVar 4) vNil)))))) (vVar 5)) (vLst vNil))) (vVar 4)) (vLst vNil))))
def W__law_is_loose : VFn := vRun 6 w__law_is_loose
theorem fok__law_is_loose : FOk 3 281474976710656 F__law_is_loose W__law_is_loose := FOk.le (fok_run (by unfold den__law_is_loose w__law_is_loose; exact (sv_seq (sv_set 3 (EOk.fs (ev_lc (iv_seq (s := false) (ev_varW 1)) (gv_nm 4) (tv_B (EOk.sw (ev_bin opv_in (EOk.sw (ev_tup (av_cons (ev_var 4) (av_cons (ev_var 2) av_nil)))) (EOk.sw (ev_bin opv_ix (ev_varW 0) (EOk.sw ev_int)))))) (ev_var 4))))
    (sv_ret (EOk.sw (ev_bin opv_ne (EOk.sw (EOk.fs (ev_lc (iv_seq (s := false) (ev_varW 3)) (gv_nm 4) (tv_B (EOk.sw (ev_bin opv_eq (EOk.sw (EOk.fs (ev_lc (iv_seq (s := false) (ev_varW 3)) (gv_nm 5) (tv_not (tv_tru (EOk.sw (ev_call fok__law_is_led (av_cons (ev_var 0) (av_cons (ev_var 5) (av_cons (ev_var 4) av_nil))))))) (ev_var 5)))) (EOk.sw (EOk.fs (ev_lst av_nil)))))) (ev_var 4)))) (EOk.sw (EOk.fs (ev_lst av_nil))))))))) (by decide +kernel)
def w__law_bared : VS := (vSeq (vFor (iRg1 (vBin vIx (vVarW 0) (vC (.int 0)))) (uNm 2)
    (vSeq (vSet 3 (vLc (iSeq (vVarW 1)) [4] (uNm 4) (vTru (vCall 3 W__law_is_loose (vCons (vVar 0) (vCons (vVar 1) (vCons (vVar 4) vNil))))) (vVar 4)))
    (vIfS (vB (vBin vNe (vVarW 3) (vLst vNil)))
    (vSet 1 (vLc (iSeq (vVarW 1)) [4] (uNm 4) (vB (vBin vNe (vVarW 4) (vBin vIx (vVarW 3) (vC (.int 0))))) (vVar 4)))
    vNext)))
    (vRet (vL vTupleO (vCons (vL vSorted (vCons (vVarW 1) vNil)) vNil))))
def W__law_bared : VFn := vRun 5 w__law_bared
theorem fok__law_bared : FOk 2 79228162514264337593543950336 F__law_bared W__law_bared := FOk.le (fok_run (by unfold den__law_bared w__law_bared; exact (sv_seq (sv_for (iv_rg1 (s := true) (EOk.sw (ev_bin opv_ix (ev_varW 0) (EOk.sw ev_int)))) (gv_nm 2)
    (sv_seq (sv_set 3 (EOk.fs (ev_lc (iv_seq (s := false) (ev_varW 1)) (gv_nm 4) (tv_tru (EOk.sw (ev_call fok__law_is_loose (av_cons (ev_var 0) (av_cons (ev_var 1) (av_cons (ev_var 4) av_nil)))))) (ev_var 4))))
    (sv_if (tv_B (EOk.sw (ev_bin opv_ne (ev_varW 3) (EOk.sw (EOk.fs (ev_lst av_nil))))))
    (sv_set 1 (EOk.fs (ev_lc (iv_seq (s := false) (ev_varW 1)) (gv_nm 4) (tv_B (EOk.sw (ev_bin opv_ne (ev_varW 4) (EOk.sw (ev_bin opv_ix (ev_varW 3) (EOk.sw ev_int)))))) (ev_var 4))))
    sv_next)))
    (sv_ret (EOk.sw (ev_L olv_tuple (av_cons (EOk.sw (EOk.fs (ev_L olv_sorted (av_cons (ev_varW 1) av_nil)))) av_nil))))))) (by decide +kernel)
def w__law_leads : VS := (vSeq (vParG false true 2 3 (vCall 1 W_bared_leading (vCons (vVar 0) vNil)) (vLst vNil))
    (vSeq (vFor (iRg1 (vBin vIx (vVarW 0) (vC (.int 0)))) (uNm 4)
    (vSeq (vSet 5 (vLc (iSeq (vVarW 1)) [6] (uNm 6) (vTru (vCall 3 W__law_is_led (vCons (vVar 0) (vCons (vVar 6) (vCons (vVar 4) vNil))))) (vVar 6)))
    (vAppend 3 (vLc (iSeq (vVarW 5)) [6] (uNm 6) (vB (vBin vEq (vLc (iSeq (vVarW 5)) [7] (uNm 7) (vNot (vTru (vCall 3 W__law_is_led (vCons (vVar 0) (vCons (vVar 7) (vCons (vVar 6) vNil)))))) (vVar 7)) (vLst vNil))) (vVar 6)))))
    (vSeq (vIfS (vB (vBin vNe (vLc (iSeq (vVarW 3)) [8] (uNm 8) (vB (vBin vNe (vL vLen (vCons (vVarW 8) vNil)) (vC (.int 1)))) (vVar 8)) (vLst vNil)))
    (vRet (vC (.bl false)))
    vNext)
    (vSeq (vSet 9 (vL vTupleO (vCons (vLc (iSeq (vVarW 3)) [8] (uNm 8) vYes (vBin vIx (vVarW 8) (vC (.int 0)))) vNil)))
    (vSeq (vIfS (vNot (vTru (vCall 2 W__law_like (vCons (vLst (vCons (vVar 2) (vCons (vCallK 0 1 [0] 1 W_bared_leading vNil (vCons (vVar 0) vNil)) (vCons (vCall 3 W_need_leading (vCons (vVar 0) (vCons (vVar 0) (vCons (vVar 2) vNil)))) vNil)))) (vCons (vLst (vCons (vVar 9) (vCons (vVar 9) (vCons (vVar 9) vNil)))) vNil)))))
    (vRet (vC (.bl false)))
    vNext)
    (vRet (vBin vEq (vLc (iSeq (vVarW 1)) [4] (uNm 4) (vB (vBin vNe (vBin vIx (vVarW 2) (vVarW 4)) (vVarW 4))) (vVar 4)) (vLst vNil))))))))
def W__law_leads : VFn := vRun 10 w__law_leads
theorem fok__law_leads : FOk 2 158456325028528675187087900672 F__law_leads W__law_leads := FOk.le (fok_run (by unfold den__law_leads w__law_leads; exact (sv_seq (sv_eq (dAsg_par 2 3 _ _) (sv_parSO 2 3 (by decide) (ev_call fok_bared_leading (av_cons (ev_var 0) av_nil)) (ev_lst av_nil)))
    (sv_seq (sv_for (iv_rg1 (s := true) (EOk.sw (ev_bin opv_ix (ev_varW 0) (EOk.sw ev_int)))) (gv_nm 4)
    (sv_seq (sv_set 5 (EOk.fs (ev_lc (iv_seq (s := false) (ev_varW 1)) (gv_nm 6) (tv_tru (EOk.sw (ev_call fok__law_is_led (av_cons (ev_var 0) (av_cons (ev_var 6) (av_cons (ev_var 4) av_nil)))))) (ev_var 6))))
    (sv_append 3 (EOk.fs (ev_lc (iv_seq (s := false) (ev_varW 5)) (gv_nm 6) (tv_B (EOk.sw (ev_bin opv_eq (EOk.sw (EOk.fs (ev_lc (iv_seq (s := false) (ev_varW 5)) (gv_nm 7) (tv_not (tv_tru (EOk.sw (ev_call fok__law_is_led (av_cons (ev_var 0) (av_cons (ev_var 7) (av_cons (ev_var 6) av_nil))))))) (ev_var 7)))) (EOk.sw (EOk.fs (ev_lst av_nil)))))) (ev_var 6))))))
    (sv_seq (sv_if (tv_B (EOk.sw (ev_bin opv_ne (EOk.sw (EOk.fs (ev_lc (iv_seq (s := false) (ev_varW 3)) (gv_nm 8) (tv_B (EOk.sw (ev_bin opv_ne (EOk.sw (ev_L olv_len (av_cons (ev_varW 8) av_nil))) (EOk.sw ev_int)))) (ev_var 8)))) (EOk.sw (EOk.fs (ev_lst av_nil))))))
    (sv_ret (EOk.sw ev_bl))
    sv_next)
    (sv_seq (sv_set 9 (ev_L olv_tuple (av_cons (EOk.sw (EOk.fs (ev_lc (iv_seq (s := false) (ev_varW 3)) (gv_nm 8) tv_yes (ev_bin opv_ix (ev_varW 8) (EOk.sw ev_int))))) av_nil)))
    (sv_seq (sv_if (tv_not (tv_tru (EOk.sw (ev_call fok__law_like (av_cons (EOk.fs (ev_lst (av_cons (ev_var 2) (av_cons (ev_callK fok_bared_leading av_nil (av_cons (ev_var 0) av_nil)) (av_cons (ev_call fok_need_leading (av_cons (ev_var 0) (av_cons (ev_var 0) (av_cons (ev_var 2) av_nil)))) av_nil))))) (av_cons (EOk.fs (ev_lst (av_cons (ev_var 9) (av_cons (ev_var 9) (av_cons (ev_var 9) av_nil))))) av_nil))))))
    (sv_ret (EOk.sw ev_bl))
    sv_next)
    (sv_ret (EOk.sw (ev_bin opv_eq (EOk.sw (EOk.fs (ev_lc (iv_seq (s := false) (ev_varW 1)) (gv_nm 4) (tv_B (EOk.sw (ev_bin opv_ne (EOk.sw (ev_bin opv_ix (ev_varW 2) (ev_varW 4))) (ev_varW 4)))) (ev_var 4)))) (EOk.sw (EOk.fs (ev_lst av_nil))))))))))))) (by decide +kernel)
def w__law_right : VS := (vSeq (vSet 2 (vBin vIx (vVarW 1) (vC (.int 0))))
    (vSeq (vSet 3 (vLstRg (vRg1 (vVarW 2))))
    (vSeq (vSet 4 (vL vTupleO (vCons (vLc (iSeq (vVarW 3)) [5] (uNm 5) (vTru (vCall 3 W__law_is_loose (vCons (vVar 1) (vCons (vVar 3) (vCons (vVar 5) vNil))))) (vVar 5)) vNil)))
    (vSeq (vIfS (vNot (vTru (vCall 2 W__law_like (vCons (vLst (vCons (vCall 1 W_loose_spots (vCons (vVar 1) vNil)) (vCons (vCallK 0 1 [0] 1 W_loose_spots vNil (vCons (vVar 1) vNil)) vNil))) (vCons (vLst (vCons (vVar 4) (vCons (vVar 4) vNil))) vNil)))))
    (vRet (vC (.bl false)))
    vNext)
    (vSeq (vPar 6 7 (vCall 2 W__law_bared (vCons (vVar 1) (vCons (vVar 3) vNil))) (vCall 1 W_bared (vCons (vVar 1) vNil)))
    (vSeq (vIfS (vNot (vTru (vCall 2 W__law_like (vCons (vLst (vCons (vVar 7) (vCons (vCallK 0 1 [0] 1 W_bared vNil (vCons (vVar 1) vNil)) vNil))) (vCons (vLst (vCons (vVar 6) (vCons (vVar 6) vNil))) vNil)))))
    (vRet (vC (.bl false)))
    vNext)
    (vSeq (vFor (iRg1 (vC (.int 3))) (uNm 8)
    (vIfS (vB (vBin vNe (vCall 2 W__law_bared (vCons (vVar 1) (vCons (vL vListO (vCons (vCall 2 W__law_shuffled (vCons (vVar 0) (vCons (vVar 2) vNil))) vNil)) vNil))) (vVarW 6)))
    (vRet (vC (.bl false)))
    vNext))
    (vSeq (vSet 9 (vCall 2 W_part_order (vCons (vVar 1) (vCons (vVar 7) vNil))))
    (vSeq (vIfS (vNot (vTru (vCall 2 W__law_like (vCons (vLst (vCons (vCall 1 W_loose_spots (vCons (vVar 9) vNil)) (vCons (vCall 1 W_bared (vCons (vVar 9) vNil)) vNil))) (vCons (vLst (vCons (vTup vNil) (vCons (vL vTupleO (vCons (vLstRg (vRg1 (vL vLen (vCons (vVarW 7) vNil)))) vNil)) vNil))) vNil)))))
    (vRet (vC (.bl false)))
    vNext)
    (vRet (vAndV (vCall 2 W__law_leads (vCons (vVar 1) (vCons (vVar 6) vNil))) (vBin vEq (vL vLen (vCons (vCall 1 W_pieces (vCons (vVar 9) vNil)) vNil)) (vL vLen (vCons (vCall 1 W_pieces (vCons (vVar 1) vNil)) vNil))))))))))))))
def W__law_right : VFn := vRun 10 w__law_right
theorem fok__law_right : FOk 2 2658455991569831745807614120560689152 F__law_right W__law_right := FOk.le (fok_run (by unfold den__law_right w__law_right; exact (sv_seq (sv_set 2 (ev_bin opv_ix (ev_varW 1) (EOk.sw ev_int)))
    (sv_seq (sv_set 3 (EOk.fs (ev_lstRg (rv_1 (ev_varW 2)))))
    (sv_seq (sv_set 4 (ev_L olv_tuple (av_cons (EOk.sw (EOk.fs (ev_lc (iv_seq (s := false) (ev_varW 3)) (gv_nm 5) (tv_tru (EOk.sw (ev_call fok__law_is_loose (av_cons (ev_var 1) (av_cons (ev_var 3) (av_cons (ev_var 5) av_nil)))))) (ev_var 5)))) av_nil)))
    (sv_seq (sv_if (tv_not (tv_tru (EOk.sw (ev_call fok__law_like (av_cons (EOk.fs (ev_lst (av_cons (ev_call fok_loose_spots (av_cons (ev_var 1) av_nil)) (av_cons (ev_callK fok_loose_spots av_nil (av_cons (ev_var 1) av_nil)) av_nil)))) (av_cons (EOk.fs (ev_lst (av_cons (ev_var 4) (av_cons (ev_var 4) av_nil)))) av_nil))))))
    (sv_ret (EOk.sw ev_bl))
    sv_next)
    (sv_seq (sv_par 6 7 (ev_call fok__law_bared (av_cons (ev_var 1) (av_cons (ev_var 3) av_nil))) (ev_call fok_bared (av_cons (ev_var 1) av_nil)))
    (sv_seq (sv_if (tv_not (tv_tru (EOk.sw (ev_call fok__law_like (av_cons (EOk.fs (ev_lst (av_cons (ev_var 7) (av_cons (ev_callK fok_bared av_nil (av_cons (ev_var 1) av_nil)) av_nil)))) (av_cons (EOk.fs (ev_lst (av_cons (ev_var 6) (av_cons (ev_var 6) av_nil)))) av_nil))))))
    (sv_ret (EOk.sw ev_bl))
    sv_next)
    (sv_seq (sv_for (iv_rg1 (s := true) (EOk.sw ev_int)) (gv_nm 8)
    (sv_if (tv_B (EOk.sw (ev_bin opv_ne (EOk.sw (ev_call fok__law_bared (av_cons (ev_var 1) (av_cons (EOk.fs (ev_L olv_list (av_cons (EOk.sw (ev_call fok__law_shuffled (av_cons (ev_var 0) (av_cons (ev_var 2) av_nil)))) av_nil))) av_nil)))) (ev_varW 6))))
    (sv_ret (EOk.sw ev_bl))
    sv_next))
    (sv_seq (sv_set 9 (ev_call fok_part_order (av_cons (ev_var 1) (av_cons (ev_var 7) av_nil))))
    (sv_seq (sv_if (tv_not (tv_tru (EOk.sw (ev_call fok__law_like (av_cons (EOk.fs (ev_lst (av_cons (ev_call fok_loose_spots (av_cons (ev_var 9) av_nil)) (av_cons (ev_call fok_bared (av_cons (ev_var 9) av_nil)) av_nil)))) (av_cons (EOk.fs (ev_lst (av_cons (ev_tup av_nil) (av_cons (ev_L olv_tuple (av_cons (EOk.sw (EOk.fs (ev_lstRg (rv_1 (EOk.sw (ev_L olv_len (av_cons (ev_varW 7) av_nil))))))) av_nil)) av_nil)))) av_nil))))))
    (sv_ret (EOk.sw ev_bl))
    sv_next)
    (sv_ret (EOk.sw (ev_and (EOk.sw (ev_call fok__law_leads (av_cons (ev_var 1) (av_cons (ev_var 6) av_nil)))) (ev_bin opv_eq (EOk.sw (ev_L olv_len (av_cons (EOk.sw (ev_call fok_pieces (av_cons (ev_var 9) av_nil))) av_nil))) (EOk.sw (ev_L olv_len (av_cons (EOk.sw (ev_call fok_pieces (av_cons (ev_var 1) av_nil))) av_nil)))))))))))))))))) (by decide +kernel)
def w__law_with_loose : VS := (vSeq (vSet 2 (vBin vIx (vVarW 1) (vC (.int 0))))
    (vSeq (vSet 3 (vCall 2 W__law_draw (vCons (vVar 0) (vCons (vVar 2) vNil))))
    (vSeq (vSet 4 (vLc (iRg1 (vVarW 2)) [5] (uNm 5) (vTru (vCall 3 W__law_is_led (vCons (vVar 1) (vCons (vVar 5) (vCons (vVar 3) vNil))))) (vTup (vCons (vVar 5) (vCons (vVar 2) vNil)))))
    (vRet (vCall 2 W__law_closed (vCons (vBin vAdd (vVarW 2) (vC (.int 1))) (vCons (vBin vAdd (vL vListO (vCons (vBin vIx (vVarW 1) (vC (.int 1))) vNil)) (vVarW 4)) vNil)))))))
def W__law_with_loose : VFn := vRun 6 w__law_with_loose
theorem fok__law_with_loose : FOk 2 33554432 F__law_with_loose W__law_with_loose := FOk.le (fok_run (by unfold den__law_with_loose w__law_with_loose; exact (sv_seq (sv_set 2 (ev_bin opv_ix (ev_varW 1) (EOk.sw ev_int)))
    (sv_seq (sv_set 3 (ev_call fok__law_draw (av_cons (ev_var 0) (av_cons (ev_var 2) av_nil))))
    (sv_seq (sv_set 4 (EOk.fs (ev_lc (iv_rg1 (s := false) (ev_varW 2)) (gv_nm 5) (tv_tru (EOk.sw (ev_call fok__law_is_led (av_cons (ev_var 1) (av_cons (ev_var 5) (av_cons (ev_var 3) av_nil)))))) (ev_tup (av_cons (ev_var 5) (av_cons (ev_var 2) av_nil))))))
    (sv_ret (EOk.sw (ev_call fok__law_closed (av_cons (ev_bin opv_add (ev_varW 2) (EOk.sw ev_int)) (av_cons (ev_bin opv_add (EOk.sw (EOk.fs (ev_L olv_list (av_cons (EOk.sw (ev_bin opv_ix (ev_varW 1) (EOk.sw ev_int))) av_nil)))) (ev_varW 4)) av_nil)))))))))) (by decide +kernel)
def w_law : VS := (vSeq (vFor (iRg1 (vL vMax (vCons (vC (.int 2)) (vCons (vL vMin (vCons (vC (.int 4)) (vCons (vL vLen (vCons (vVarW 0) vNil)) vNil))) vNil)))) (uNm 1)
    (vSeq (vSet 2 (vCall 2 W__law_begun (vCons (vVar 0) (vCons (vVar 1) vNil))))
    (vSeq (vSet 3 (vCall 2 W__law_drawn_order (vCons (vVar 2) (vCons (vC (.int 9)) vNil))))
    (vSeq (vIfS (vNot (vTru (vCall 2 W__law_right (vCons (vVar 2) (vCons (vVar 3) vNil)))))
    (vRet (vC (.bl false)))
    vNext)
    (vIfS (vB (vBin (vCmp gGt) (vBin vIx (vVarW 3) (vC (.int 0))) (vC (.int 0))))
    (vSeq (vSet 4 (vCall 2 W__law_with_loose (vCons (vVar 2) (vCons (vVar 3) vNil))))
    (vIfS (vOr (vNot (vTru (vCall 2 W__law_right (vCons (vVar 2) (vCons (vVar 4) vNil))))) (vNot (vTru (vCall 2 W__law_like (vCons (vCall 1 W_bared (vCons (vVar 4) vNil)) (vCons (vCall 1 W_bared (vCons (vVar 3) vNil)) vNil))))))
    (vRet (vC (.bl false)))
    vNext))
    vNext)))))
    (vSeq (vSet 5 (vTup (vCons (vC (.int 4)) (vCons (vTup (vCons (vTup (vCons (vC (.int 0)) (vCons (vC (.int 2)) vNil))) (vCons (vTup (vCons (vC (.int 0)) (vCons (vC (.int 3)) vNil))) (vCons (vTup (vCons (vC (.int 1)) (vCons (vC (.int 2)) vNil))) (vCons (vTup (vCons (vC (.int 1)) (vCons (vC (.int 3)) vNil))) vNil))))) vNil))))
    (vSeq (vSet 6 (vLst (vCons (vCall 1 W_bared (vCons (vCall 1 W__law_chain (vCons (vC (.int 7)) vNil)) vNil)) (vCons (vCall 1 W_bared (vCons (vTup (vCons (vC (.int 3)) (vCons (vTup vNil) vNil))) vNil)) (vCons (vCall 1 W_bared (vCons (vVar 5) vNil)) (vCons (vCall 1 W_loose_spots (vCons (vVar 5) vNil)) (vCons (vCall 1 W_bared (vCons (vTup (vCons (vC (.int 4)) (vCons (vTup (vCons (vTup (vCons (vC (.int 0)) (vCons (vC (.int 1)) vNil))) (vCons (vTup (vCons (vC (.int 0)) (vCons (vC (.int 2)) vNil))) (vCons (vTup (vCons (vC (.int 0)) (vCons (vC (.int 3)) vNil))) (vCons (vTup (vCons (vC (.int 1)) (vCons (vC (.int 3)) vNil))) (vCons (vTup (vCons (vC (.int 2)) (vCons (vC (.int 3)) vNil))) vNil)))))) vNil))) vNil)) vNil)))))))
    (vSeq (vSet 6 (vBin vAdd (vVarW 6) (vLst (vCons (vCall 1 W_bared_leading (vCons (vCall 1 W__law_chain (vCons (vC (.int 4)) vNil)) vNil)) (vCons (vCall 1 W_bared_leading (vCons (vVar 5) vNil)) (vCons (vCall 1 W_loose_spots (vCons (vTup (vCons (vC (.int 0)) (vCons (vTup vNil) vNil))) vNil)) (vCons (vCall 1 W_bared (vCons (vTup (vCons (vC (.int 0)) (vCons (vTup vNil) vNil))) vNil)) (vCons (vCall 1 W_bared_leading (vCons (vTup (vCons (vC (.int 0)) (vCons (vTup vNil) vNil))) vNil)) vNil))))))))
    (vRet (vCall 2 W__law_like (vCons (vVar 6) (vCons (vLst (vCons (vTup (vCons (vC (.int 0)) vNil)) (vCons (vTup (vCons (vC (.int 0)) (vCons (vC (.int 1)) (vCons (vC (.int 2)) vNil)))) (vCons (vTup (vCons (vC (.int 0)) (vCons (vC (.int 1)) (vCons (vC (.int 2)) (vCons (vC (.int 3)) vNil))))) (vCons (vTup vNil) (vCons (vTup (vCons (vC (.int 0)) vNil)) (vCons (vTup (vCons (vC (.int 0)) (vCons (vC (.int 0)) (vCons (vC (.int 0)) (vCons (vC (.int 0)) vNil))))) (vCons (vTup (vCons (vC (.int 0)) (vCons (vC (.int 1)) (vCons (vC (.int 2)) (vCons (vC (.int 3)) vNil))))) (vCons (vTup vNil) (vCons (vTup vNil) (vCons (vTup vNil) vNil))))))))))) vNil))))))))
def W_law : VFn := vRun 7 w_law
theorem fok_law : FOk 1 178405961588244985132285746181186892047843328 F_law W_law := FOk.le (fok_run (by unfold den_law w_law; exact (sv_seq (sv_for (iv_rg1 (s := true) (EOk.sw (ev_L olv_max (av_cons (EOk.sw ev_int) (av_cons (EOk.sw (ev_L olv_min (av_cons (EOk.sw ev_int) (av_cons (EOk.sw (ev_L olv_len (av_cons (ev_varW 0) av_nil))) av_nil)))) av_nil))))) (gv_nm 1)
    (sv_seq (sv_set 2 (ev_call fok__law_begun (av_cons (ev_var 0) (av_cons (ev_var 1) av_nil))))
    (sv_seq (sv_set 3 (ev_call fok__law_drawn_order (av_cons (ev_var 2) (av_cons ev_int av_nil))))
    (sv_seq (sv_if (tv_not (tv_tru (EOk.sw (ev_call fok__law_right (av_cons (ev_var 2) (av_cons (ev_var 3) av_nil))))))
    (sv_ret (EOk.sw ev_bl))
    sv_next)
    (sv_if (tv_B (EOk.sw (ev_bin (opv_cmp gGt) (EOk.sw (ev_bin opv_ix (ev_varW 3) (EOk.sw ev_int))) (EOk.sw ev_int))))
    (sv_seq (sv_set 4 (ev_call fok__law_with_loose (av_cons (ev_var 2) (av_cons (ev_var 3) av_nil))))
    (sv_if (tv_or (tv_not (tv_tru (EOk.sw (ev_call fok__law_right (av_cons (ev_var 2) (av_cons (ev_var 4) av_nil)))))) (tv_not (tv_tru (EOk.sw (ev_call fok__law_like (av_cons (ev_call fok_bared (av_cons (ev_var 4) av_nil)) (av_cons (ev_call fok_bared (av_cons (ev_var 3) av_nil)) av_nil)))))))
    (sv_ret (EOk.sw ev_bl))
    sv_next))
    sv_next)))))
    (sv_seq (sv_set 5 (ev_tup (av_cons ev_int (av_cons (ev_tup (av_cons (ev_tup (av_cons ev_int (av_cons ev_int av_nil))) (av_cons (ev_tup (av_cons ev_int (av_cons ev_int av_nil))) (av_cons (ev_tup (av_cons ev_int (av_cons ev_int av_nil))) (av_cons (ev_tup (av_cons ev_int (av_cons ev_int av_nil))) av_nil))))) av_nil))))
    (sv_seq (sv_set 6 (EOk.fs (ev_lst (av_cons (ev_call fok_bared (av_cons (ev_call fok__law_chain (av_cons ev_int av_nil)) av_nil)) (av_cons (ev_call fok_bared (av_cons (ev_tup (av_cons ev_int (av_cons (ev_tup av_nil) av_nil))) av_nil)) (av_cons (ev_call fok_bared (av_cons (ev_var 5) av_nil)) (av_cons (ev_call fok_loose_spots (av_cons (ev_var 5) av_nil)) (av_cons (ev_call fok_bared (av_cons (ev_tup (av_cons ev_int (av_cons (ev_tup (av_cons (ev_tup (av_cons ev_int (av_cons ev_int av_nil))) (av_cons (ev_tup (av_cons ev_int (av_cons ev_int av_nil))) (av_cons (ev_tup (av_cons ev_int (av_cons ev_int av_nil))) (av_cons (ev_tup (av_cons ev_int (av_cons ev_int av_nil))) (av_cons (ev_tup (av_cons ev_int (av_cons ev_int av_nil))) av_nil)))))) av_nil))) av_nil)) av_nil))))))))
    (sv_seq (sv_set 6 (ev_bin opv_add (ev_varW 6) (EOk.sw (EOk.fs (ev_lst (av_cons (ev_call fok_bared_leading (av_cons (ev_call fok__law_chain (av_cons ev_int av_nil)) av_nil)) (av_cons (ev_call fok_bared_leading (av_cons (ev_var 5) av_nil)) (av_cons (ev_call fok_loose_spots (av_cons (ev_tup (av_cons ev_int (av_cons (ev_tup av_nil) av_nil))) av_nil)) (av_cons (ev_call fok_bared (av_cons (ev_tup (av_cons ev_int (av_cons (ev_tup av_nil) av_nil))) av_nil)) (av_cons (ev_call fok_bared_leading (av_cons (ev_tup (av_cons ev_int (av_cons (ev_tup av_nil) av_nil))) av_nil)) av_nil))))))))))
    (sv_ret (EOk.sw (ev_call fok__law_like (av_cons (ev_var 6) (av_cons (EOk.fs (ev_lst (av_cons (ev_tup (av_cons ev_int av_nil)) (av_cons (ev_tup (av_cons ev_int (av_cons ev_int (av_cons ev_int av_nil)))) (av_cons (ev_tup (av_cons ev_int (av_cons ev_int (av_cons ev_int (av_cons ev_int av_nil))))) (av_cons (ev_tup av_nil) (av_cons (ev_tup (av_cons ev_int av_nil)) (av_cons (ev_tup (av_cons ev_int (av_cons ev_int (av_cons ev_int (av_cons ev_int av_nil))))) (av_cons (ev_tup (av_cons ev_int (av_cons ev_int (av_cons ev_int (av_cons ev_int av_nil))))) (av_cons (ev_tup av_nil) (av_cons (ev_tup av_nil) (av_cons (ev_tup av_nil) av_nil)))))))))))) av_nil))))))))))) (by decide +kernel)
end LH
set_option maxRecDepth 100000
set_option maxHeartbeats 12000000
namespace LH
open PySem PySem.Spec PyProof.Rows L2 Pd Ty
@[irreducible] def t_is_integer (a0_value : Int) : M Bool :=
 (pu (true && (!false)))
theorem tf_is_integer (a0_value : Int) : TFn W_is_integer [tI a0_value] (t_is_integer a0_value) Ty.tB := by
  unfold W_is_integer w_is_integer t_is_integer
  exact tf_run (ts_retDP (a := (true && (!false))) (tp_andV (b := true) (c := (!false)) (tp_un o_isK_iI (a := a0_value) (tp_varW 0 (v := tI a0_value) rfl)) (tp_notV (b := false) (tp_un o_isK_bI (a := a0_value) (tp_varW 0 (v := tI a0_value) rfl)))))
@[irreducible] def t_is_spot (a0_value : Int) (a1_n : Int) : M Bool :=
 (bi (t_is_integer a0_value) fun c => if c = true then (pu ((gLe 0 a0_value) && (gLt a0_value a1_n))) else (pu false))
theorem tf_is_spot (a0_value : Int) (a1_n : Int) : TFn W_is_spot [tI a0_value, tI a1_n] (t_is_spot a0_value a1_n) Ty.tB := by
  unfold W_is_spot w_is_spot t_is_spot
  exact tf_run (ts_retD (tg_andV (tg_call (tf_is_integer a0_value) (tpa_cons (v := tI a0_value) (tp_var 0 (v := tI a0_value) rfl) tpa_nil) rfl) (TG.pu (enc := Ty.tB) (a := ((gLe 0 a0_value) && (gLt a0_value a1_n))) (tp_chain (x := 0) (y := a0_value) (z := a1_n) (o_cmp gLe) (o_cmp gLt) tp_c (tp_varW 0 (v := tI a0_value) rfl) (tp_varW 1 (v := tI a1_n) rfl)))))
abbrev t_above_lists (o : Int × List (Int × Int)) : M (List (List Int)) := nestM false o
theorem tf_above_lists (a0_order : (Int × (List (Int × Int)))) : TFn W_above_lists [(tP tI (tT (tP tI tI))) a0_order] (t_above_lists a0_order) (tL (tL tI)) := tf_nestT a0_order
theorem tf_above_lists'1 (a0_order : (Int × (List (Int × Int)))) : TFn W_above_lists [(tP tI (tX (tP tI tI))) a0_order] (t_above_lists a0_order) (tL (tL tI)) := tf_nestX a0_order
abbrev t_below_lists (o : Int × List (Int × Int)) : M (List (List Int)) := nestM true o
theorem tf_below_lists (a0_order : (Int × (List (Int × Int)))) : TFn W_below_lists [(tP tI (tX (tP tI tI))) a0_order] (t_below_lists a0_order) (tL (tL tI)) := tf_nestX a0_order
theorem tf_below_lists'1 (a0_order : (Int × (List (Int × Int)))) : TFn W_below_lists [(tP tI (tT (tP tI tI))) a0_order] (t_below_lists a0_order) (tL (tL tI)) := tf_nestT a0_order
@[irreducible] def t_part_order (a0_order : (Int × (List (Int × Int)))) (a1_spots : (List Int)) : M (Int × (List (Int × Int))) :=
 (bi (nx (dcM (fun (q_1 : (Int × Int)) => (pu true)) (fun (q_1 : (Int × Int)) => (pu q_1.2)) (fun (q_1 : (Int × Int)) => (pu q_1.1)) (en a1_spots) [])) fun (numbers_2 : (List (Int × Int))) =>
 (bi (nx (lcM (fun (q_3 : (Int × Int)) => (pu (((lk numbers_2 q_3.1).isSome) && ((lk numbers_2 q_3.2).isSome)))) (fun (q_3 : (Int × Int)) => (bi (bi (op? (lk numbers_2 q_3.1)) fun x => bi (op? (lk numbers_2 q_3.2)) fun y => pu (x, y)) fun z_4 => pu (z_4.1, z_4.2))) a0_order.2 [])) fun (pairs_5 : (List (Int × Int))) =>
 (pu (((List.length a1_spots : Nat) : Int), pairs_5))))
theorem tf_part_order (a0_order : (Int × (List (Int × Int)))) (a1_spots : (List Int)) : TFn W_part_order [(tP tI (tX (tP tI tI))) a0_order, (tT tI) a1_spots] (t_part_order a0_order a1_spots) (tP tI (tT (tP tI tI))) := by
  unfold W_part_order w_part_order t_part_order
  exact tf_run (ts_set 2 (enc := (tDK qI tI)) (tg_dcP (e := (tP tI tI)) (eb := tI) (ue := (fun q_1 => [some ((tP tI (tX (tP tI tI))) a0_order, false), some ((tT tI) a1_spots, false), none, some (tI q_1.1, false), some (tI q_1.2, false), none, none, none])) (xs := (en a1_spots)) (ti_en (a := a1_spots) seqT (tp_varW 1 (v := (tT tI) a1_spots) rfl)) (fun q_1 => rfl) (fun q_1 => (TG.pu (enc := id) tp_yes)) (fun q_1 => (TG.pu (enc := tI) (a := q_1.2) (tp_varW 4 (v := tI q_1.2) rfl))) (fun q_1 => (TG.pu (enc := tI) (a := q_1.1) (tp_var 3 (v := tI q_1.1) rfl)))) (fun numbers_2 =>
 (ts_set 5 (enc := (tL (tP tI tI))) (tg_lcP (e := (tP tI tI)) (eb := (tP tI tI)) (ue := (fun q_3 => [some ((tP tI (tX (tP tI tI))) a0_order, false), some ((tT tI) a1_spots, false), some ((tDK qI tI) numbers_2, false), none, none, none, some (tI q_3.1, false), some (tI q_3.2, false)])) (xs := a0_order.2) (ti_seq (a := a0_order.2) seqX (tp_snd (p := a0_order) (tp_varW 0 (v := (tP tI (tX (tP tI tI))) a0_order) rfl))) (fun q_3 => rfl) (fun q_3 => (TG.pu (enc := id) (a := (((lk numbers_2 q_3.1).isSome) && ((lk numbers_2 q_3.2).isSome))) (tp_and (b := ((lk numbers_2 q_3.1).isSome)) (c := ((lk numbers_2 q_3.2).isSome)) (tp_B (b := ((lk numbers_2 q_3.1).isSome)) (tp_bin (a := q_3.1) (b := numbers_2) (o_inDK key_I) (tp_varW 6 (v := tI q_3.1) rfl) (tp_varW 2 (v := (tDK qI tI) numbers_2) rfl))) (tp_B (b := ((lk numbers_2 q_3.2).isSome)) (tp_bin (a := q_3.2) (b := numbers_2) (o_inDK key_I) (tp_varW 7 (v := tI q_3.2) rfl) (tp_varW 2 (v := (tDK qI tI) numbers_2) rfl)))))) (fun q_3 => (tg_tup (f := fun z_4 => (z_4.1, z_4.2)) (eb := (tP tI tI)) (tga_consM (tg_binPP (a := numbers_2) (b := q_3.1) (o_ixDK key_I) (tp_varW 2 (v := (tDK qI tI) numbers_2) rfl) (tp_varW 6 (v := tI q_3.1) rfl)) (tga_last (tg_binPP (a := numbers_2) (b := q_3.2) (o_ixDK key_I) (tp_varW 2 (v := (tDK qI tI) numbers_2) rfl) (tp_varW 7 (v := tI q_3.2) rfl)) tpa_nil)) (fun _ => len_ok 2 rfl (by decide)) (fun _ => rfl)))) (fun pairs_5 =>
 (ts_retDP (a := (((List.length a1_spots : Nat) : Int), pairs_5)) (tp_tup (tpa_cons (v := tI ((List.length a1_spots : Nat) : Int)) (tp_L (l_len seqT a1_spots) (tpa_cons (v := (tT tI) a1_spots) (tp_varW 1 (v := (tT tI) a1_spots) rfl) tpa_nil)) (tpa_cons (v := (tT (tP tI tI)) pairs_5) (tp_L (l_tuple seqL pairs_5) (tpa_cons (v := (tL (tP tI tI)) pairs_5) (tp_varW 5 (v := (tL (tP tI tI)) pairs_5) rfl) tpa_nil)) tpa_nil)) (len_ok 2 rfl (by decide))))))))
@[irreducible] def t_is_led (a0_order : (Int × (List (Int × Int)))) (a1_x : Int) (a2_y : Int) : M Bool :=
 (pu ((decide (a1_x = a2_y)) || (memB (a1_x, a2_y) a0_order.2)))
theorem tf_is_led (a0_order : (Int × (List (Int × Int)))) (a1_x : Int) (a2_y : Int) : TFn W_is_led [(tP tI (tX (tP tI tI))) a0_order, tI a1_x, tI a2_y] (t_is_led a0_order a1_x a2_y) Ty.tB := by
  unfold W_is_led w_is_led t_is_led
  exact tf_run (ts_retDP (a := ((decide (a1_x = a2_y)) || (memB (a1_x, a2_y) a0_order.2))) (tp_orV (b := (decide (a1_x = a2_y))) (c := (memB (a1_x, a2_y) a0_order.2)) (tp_bin (a := a1_x) (b := a2_y) (o_eq cmp_I (by decide)) (tp_varW 1 (v := tI a1_x) rfl) (tp_varW 2 (v := tI a2_y) rfl)) (tp_bin (a := (a1_x, a2_y)) (b := a0_order.2) (o_inXm (cmp_P cmp_I cmp_I) (by decide)) (tp_tup (tpa_cons (v := tI a1_x) (tp_var 1 (v := tI a1_x) rfl) (tpa_cons (v := tI a2_y) (tp_var 2 (v := tI a2_y) rfl) tpa_nil)) (len_ok 2 rfl (by decide))) (tp_snd (p := a0_order) (tp_varW 0 (v := (tP tI (tX (tP tI tI))) a0_order) rfl)))))
theorem tf_is_led'1 (a0_order : (Int × (List (Int × Int)))) (a1_x : Int) (a2_y : Int) : TFn W_is_led [(tP tI (tT (tP tI tI))) a0_order, tI a1_x, tI a2_y] (t_is_led a0_order a1_x a2_y) Ty.tB := by
  unfold W_is_led w_is_led t_is_led
  exact tf_run (ts_retDP (a := ((decide (a1_x = a2_y)) || (memB (a1_x, a2_y) a0_order.2))) (tp_orV (b := (decide (a1_x = a2_y))) (c := (memB (a1_x, a2_y) a0_order.2)) (tp_bin (a := a1_x) (b := a2_y) (o_eq cmp_I (by decide)) (tp_varW 1 (v := tI a1_x) rfl) (tp_varW 2 (v := tI a2_y) rfl)) (tp_bin (a := (a1_x, a2_y)) (b := a0_order.2) (o_inTm (cmp_P cmp_I cmp_I) (by decide)) (tp_tup (tpa_cons (v := tI a1_x) (tp_var 1 (v := tI a1_x) rfl) (tpa_cons (v := tI a2_y) (tp_var 2 (v := tI a2_y) rfl) tpa_nil)) (len_ok 2 rfl (by decide))) (tp_snd (p := a0_order) (tp_varW 0 (v := (tP tI (tT (tP tI tI))) a0_order) rfl)))))
@[irreducible] def t_need_leading (a0_one : (Int × (List (Int × Int)))) (a1_other : (Int × (List (Int × Int)))) (a2_value : (List Int)) : M (List Int) :=
 (if ((!true) || (decide (((List.length a2_value : Nat) : Int) ≠ a0_one.1))) = true then
 no
 else
 (bi (bi (bi (nx (lcM (fun (spot_1 : Int) => (pu true)) (fun (spot_1 : Int) => (t_is_spot spot_1 a1_other.1)) a2_value [])) fun z_2 => pu (List.all z_2 id)) fun c => pu (!c)) fun c => if c = true then
 no
 else
 (bi (forM (fun (q_5 : (Int × (Int × Int))) (s_3 : Unit) =>
 (bi (bi (bi (bi (ixM a2_value q_5.2.1) fun x => bi (ixM a2_value q_5.2.2) fun y => pu (x, y)) fun z_6 => t_is_led a1_other z_6.1 z_6.2) fun c => pu (!c)) fun c => if c = true then
 no
 else (pu ()))) (en a0_one.2) ()) fun (s_3 : Unit) =>
 (pu a2_value))))
theorem tf_need_leading (a0_one : (Int × (List (Int × Int)))) (a1_other : (Int × (List (Int × Int)))) (a2_value : (List Int)) : TFn W_need_leading [(tP tI (tX (tP tI tI))) a0_one, (tP tI (tX (tP tI tI))) a1_other, (tT tI) a2_value] (t_need_leading a0_one a1_other a2_value) (tT tI) := by
  unfold W_need_leading w_need_leading t_need_leading
  exact tf_run (ts_ifxP (c := ((!true) || (decide (((List.length a2_value : Nat) : Int) ≠ a0_one.1)))) ex_D (tp_or (b := (!true)) (c := (decide (((List.length a2_value : Nat) : Int) ≠ a0_one.1))) (tp_nott (b := true) (tp_truB (b := true) (tp_un o_isK_tT (a := a2_value) (tp_varW 2 (v := (tT tI) a2_value) rfl)))) (tp_B (b := (decide (((List.length a2_value : Nat) : Int) ≠ a0_one.1))) (tp_bin (a := ((List.length a2_value : Nat) : Int)) (b := a0_one.1) (o_ne cmp_I (by decide)) (tp_L (l_len seqT a2_value) (tpa_cons (v := (tT tI) a2_value) (tp_varW 2 (v := (tT tI) a2_value) rfl) tpa_nil)) (tp_fst (p := a0_one) (tp_varW 0 (v := (tP tI (tX (tP tI tI))) a0_one) rfl)))))
 ts_err
 (ts_nextS (ts_ifx ex_D (tg_nott (tg_truB (tg_L (f := fun z_2 => (List.all z_2 id)) (eb := Ty.tB) (fun z_2 => l_all z_2) (tga_last (tg_lcP (e := tI) (eb := Ty.tB) (ue := (fun spot_1 => [some ((tP tI (tX (tP tI tI))) a0_one, false), some ((tP tI (tX (tP tI tI))) a1_other, false), some ((tT tI) a2_value, false), some (tI spot_1, false), none, none, none])) (xs := a2_value) (ti_seq (a := a2_value) seqT (tp_varW 2 (v := (tT tI) a2_value) rfl)) (fun spot_1 => rfl) (fun spot_1 => (TG.pu (enc := id) tp_yes)) (fun spot_1 => (tg_call (tf_is_spot spot_1 a1_other.1) (tpa_cons (v := tI spot_1) (tp_var 3 (v := tI spot_1) rfl) (tpa_cons (v := tI a1_other.1) (tp_fst (p := a1_other) (tp_varW 1 (v := (tP tI (tX (tP tI tI))) a1_other) rfl)) tpa_nil)) rfl))) tpa_nil))))
 ts_err
 (ts_nextS (ts_forP (enc := (tP tI (tP tI tI))) (mk := (fun (s_3 : Unit) (j_4 : Jk) => [some ((tP tI (tX (tP tI tI))) a0_one, false), some ((tP tI (tX (tP tI tI))) a1_other, false), some ((tT tI) a2_value, false), none, j_4 4, j_4 5, j_4 6])) (ub := (fun q_5 s_3 j_4 => [some ((tP tI (tX (tP tI tI))) a0_one, false), some ((tP tI (tX (tP tI tI))) a1_other, false), some ((tT tI) a2_value, false), none, some (tI q_5.1, false), some (tI q_5.2.1, false), some (tI q_5.2.2, false)])) (s0 := ()) (xs := (en a0_one.2)) (ti_en (a := a0_one.2) seqX (tp_snd (p := a0_one) (tp_varW 0 (v := (tP tI (tX (tP tI tI))) a0_one) rfl))) rfl (fun q_5 s_3 j_4 => rfl)
 (fun q_5 s_3 j_4 => (ts_ife (tg_nott (tg_truB (tg_callM (fun (z_6 : Int × Int) => tf_is_led a1_other z_6.1 z_6.2) (tga_consP (v := (tP tI (tX (tP tI tI))) a1_other) (tp_var 1 (v := (tP tI (tX (tP tI tI))) a1_other) rfl) (tga_consM (tg_binPP (a := a2_value) (b := q_5.2.1) (o_ix seqT) (tp_varW 2 (v := (tT tI) a2_value) rfl) (tp_varW 5 (v := tI q_5.2.1) rfl)) (tga_last (tg_binPP (a := a2_value) (b := q_5.2.2) (o_ix seqT) (tp_varW 2 (v := (tT tI) a2_value) rfl) (tp_varW 6 (v := tI q_5.2.2) rfl)) tpa_nil))) (fun _ => rfl))))
 ts_err
 (ts_next (nx_L (s := ()) rfl))))
 (fun s_3 j_4 => (ts_retDP (a := a2_value) (tp_varW 2 (v := (tT tI) a2_value) rfl))))))))
@[irreducible] def t_greatest_of (a0_order : (Int × (List (Int × Int)))) (a1_spots : (List Int)) : M (Option Int) :=
 (thr (forX (fun (y_3 : Int) (s_1 : Unit) =>
 (bi (bi (nx (lcM (fun (z_4 : Int) => (pu true)) (fun (z_4 : Int) => (t_is_led a0_order z_4 y_3)) a1_spots [])) fun z_5 => pu (List.all z_5 id)) fun c => if c = true then
 (pu (Ctl.rt (some y_3)))
 else (pu (Ctl.nx ())))) a1_spots ()) (fun (s_1 : Unit) =>
 (pu none)) id)
theorem tf_greatest_of (a0_order : (Int × (List (Int × Int)))) (a1_spots : (List Int)) : TFn W_greatest_of [(tP tI (tX (tP tI tI))) a0_order, (tL tI) a1_spots] (t_greatest_of a0_order a1_spots) (tO tI) := by
  unfold W_greatest_of w_greatest_of t_greatest_of
  exact tf_run (ts_forXP (enc := tI) (mk := (fun (s_1 : Unit) (j_2 : Jk) => [some ((tP tI (tX (tP tI tI))) a0_order, false), some ((tL tI) a1_spots, false), j_2 2, none])) (ub := (fun y_3 s_1 j_2 => [some ((tP tI (tX (tP tI tI))) a0_order, false), some ((tL tI) a1_spots, false), some (tI y_3, false), none])) (s0 := ()) (xs := a1_spots) (rr := id) rt_D (ti_seq (a := a1_spots) seqL (tp_var 1 (v := (tL tI) a1_spots) rfl)) rfl (fun y_3 s_1 j_2 => rfl)
 (fun y_3 s_1 j_2 => (ts_ife (tg_truB (tg_L (f := fun z_5 => (List.all z_5 id)) (eb := Ty.tB) (fun z_5 => l_all z_5) (tga_last (tg_lcP (e := tI) (eb := Ty.tB) (ue := (fun z_4 => [some ((tP tI (tX (tP tI tI))) a0_order, false), some ((tL tI) a1_spots, false), some (tI y_3, false), some (tI z_4, false)])) (xs := a1_spots) (ti_seq (a := a1_spots) seqL (tp_varW 1 (v := (tL tI) a1_spots) rfl)) (fun z_4 => rfl) (fun z_4 => (TG.pu (enc := id) tp_yes)) (fun z_4 => (tg_call (tf_is_led a0_order z_4 y_3) (tpa_cons (v := (tP tI (tX (tP tI tI))) a0_order) (tp_var 0 (v := (tP tI (tX (tP tI tI))) a0_order) rfl) (tpa_cons (v := tI z_4) (tp_var 3 (v := tI z_4) rfl) (tpa_cons (v := tI y_3) (tp_var 2 (v := tI y_3) rfl) tpa_nil))) rfl))) tpa_nil)))
 (ts_retP (f := Ctl.rt) (a := (some y_3)) rt_X (tp_varW 2 (v := tI y_3) rfl))
 (ts_next (nx_X (s := ()) rfl))))
 (fun s_1 j_2 => (ts_retDP (a := none) tp_c)))
theorem tf_greatest_of'1 (a0_order : (Int × (List (Int × Int)))) (a1_spots : (List Int)) : TFn W_greatest_of [(tP tI (tT (tP tI tI))) a0_order, (tL tI) a1_spots] (t_greatest_of a0_order a1_spots) (tO tI) := by
  unfold W_greatest_of w_greatest_of t_greatest_of
  exact tf_run (ts_forXP (enc := tI) (mk := (fun (s_1 : Unit) (j_2 : Jk) => [some ((tP tI (tT (tP tI tI))) a0_order, false), some ((tL tI) a1_spots, false), j_2 2, none])) (ub := (fun y_3 s_1 j_2 => [some ((tP tI (tT (tP tI tI))) a0_order, false), some ((tL tI) a1_spots, false), some (tI y_3, false), none])) (s0 := ()) (xs := a1_spots) (rr := id) rt_D (ti_seq (a := a1_spots) seqL (tp_var 1 (v := (tL tI) a1_spots) rfl)) rfl (fun y_3 s_1 j_2 => rfl)
 (fun y_3 s_1 j_2 => (ts_ife (tg_truB (tg_L (f := fun z_5 => (List.all z_5 id)) (eb := Ty.tB) (fun z_5 => l_all z_5) (tga_last (tg_lcP (e := tI) (eb := Ty.tB) (ue := (fun z_4 => [some ((tP tI (tT (tP tI tI))) a0_order, false), some ((tL tI) a1_spots, false), some (tI y_3, false), some (tI z_4, false)])) (xs := a1_spots) (ti_seq (a := a1_spots) seqL (tp_varW 1 (v := (tL tI) a1_spots) rfl)) (fun z_4 => rfl) (fun z_4 => (TG.pu (enc := id) tp_yes)) (fun z_4 => (tg_call (tf_is_led'1 a0_order z_4 y_3) (tpa_cons (v := (tP tI (tT (tP tI tI))) a0_order) (tp_var 0 (v := (tP tI (tT (tP tI tI))) a0_order) rfl) (tpa_cons (v := tI z_4) (tp_var 3 (v := tI z_4) rfl) (tpa_cons (v := tI y_3) (tp_var 2 (v := tI y_3) rfl) tpa_nil))) rfl))) tpa_nil)))
 (ts_retP (f := Ctl.rt) (a := (some y_3)) rt_X (tp_varW 2 (v := tI y_3) rfl))
 (ts_next (nx_X (s := ()) rfl))))
 (fun s_1 j_2 => (ts_retDP (a := none) tp_c)))
@[irreducible] def t_loose_among (a0_order : (Int × (List (Int × Int)))) (a1_spots : (List Int)) : M (List Int) :=
 (bi (t_below_lists a0_order) fun (below_1 : (List (List Int))) =>
 (bi (pu ([] : (List Int))) fun (found_2 : (List Int)) =>
 (bi (forM (fun (x_5 : Int) (s_3 : (List Int)) =>
 (bi (bi (bi (bi (ixM below_1 x_5) fun l_7 => (nx (lcM (fun (y_6 : Int) => (pu (decide (y_6 ∈ a1_spots)))) (fun (y_6 : Int) => (pu y_6)) l_7 []))) fun z_8 => t_greatest_of a0_order z_8) fun a_9 => (pu (!Option.isNone a_9))) fun c => if c = true then
 (bi (appM s_3 x_5) fun (found_11 : (List Int)) =>
 (pu found_11))
 else (pu s_3))) a1_spots found_2) fun (s_3 : (List Int)) =>
 (pu s_3))))
theorem tf_loose_among (a0_order : (Int × (List (Int × Int)))) (a1_spots : (List Int)) : TFn W_loose_among [(tP tI (tX (tP tI tI))) a0_order, (tL tI) a1_spots] (t_loose_among a0_order a1_spots) (tL tI) := by
  unfold W_loose_among w_loose_among t_loose_among
  exact tf_runO (mk := (fun (s_r : (List Int)) (j_r : Jk) => [some ((tP tI (tX (tP tI tI))) a0_order, false), some ((tL tI) a1_spots, false), j_r 2, some ((tL tI) s_r, true), j_r 4, none])) (er := (tL tI)) (ts_parG (o1 := false) (o2 := true) 2 3 (enc := (tL (tL tI))) (encb := (tL tI)) (tg_call (tf_below_lists a0_order) (tpa_cons (v := (tP tI (tX (tP tI tI))) a0_order) (tp_var 0 (v := (tP tI (tX (tP tI tI))) a0_order) rfl) tpa_nil) rfl) (TG.pu (enc := (tL tI)) (a := ([] : (List Int))) (tp_lst tpa_nil (len_ok 0 rfl (by decide)))) (fun below_1 found_2 =>
 (ts_nx (ts_forP (enc := tI) (mk := (fun (s_3 : (List Int)) (j_4 : Jk) => [some ((tP tI (tX (tP tI tI))) a0_order, false), some ((tL tI) a1_spots, false), some ((tL (tL tI)) below_1, false), some ((tL tI) s_3, true), j_4 4, none])) (ub := (fun x_5 s_3 j_4 => [some ((tP tI (tX (tP tI tI))) a0_order, false), some ((tL tI) a1_spots, false), some ((tL (tL tI)) below_1, false), some ((tL tI) s_3, true), some (tI x_5, false), none])) (s0 := found_2) (xs := a1_spots) (ti_seq (a := a1_spots) seqL (tp_var 1 (v := (tL tI) a1_spots) rfl)) rfl (fun x_5 s_3 j_4 => rfl)
 (fun x_5 s_3 j_4 => (ts_ife (tg_B (tg_binMP (b := ()) (O2P.m (o_isnot nn_I)) (tg_callM (fun (z_8 : (List Int)) => tf_greatest_of a0_order z_8) (tga_consP (v := (tP tI (tX (tP tI tI))) a0_order) (tp_var 0 (v := (tP tI (tX (tP tI tI))) a0_order) rfl) (tga_last (tg_lcM (e := tI) (eb := tI) (ue := (fun y_6 => [some ((tP tI (tX (tP tI tI))) a0_order, false), some ((tL tI) a1_spots, false), some ((tL (tL tI)) below_1, false), some ((tL tI) s_3, true), some (tI x_5, false), some (tI y_6, false)])) (ti_seqM seqL (tg_binPP (a := below_1) (b := x_5) (o_ix seqL) (tp_varW 2 (v := (tL (tL tI)) below_1) rfl) (tp_varW 4 (v := tI x_5) rfl))) (fun y_6 => rfl) (fun y_6 => (TG.pu (enc := id) (a := (decide (y_6 ∈ a1_spots))) (tp_B (b := (decide (y_6 ∈ a1_spots))) (tp_bin (a := y_6) (b := a1_spots) (o_inL cmp_I (by decide)) (tp_varW 5 (v := tI y_6) rfl) (tp_varW 1 (v := (tL tI) a1_spots) rfl))))) (fun y_6 => (TG.pu (enc := tI) (a := y_6) (tp_var 5 (v := tI y_6) rfl)))) tpa_nil)) (fun _ => rfl)) tp_c))
 (ts_nx (ts_appP 3 (enc := tI) (l := s_3) (x := x_5) rfl (tp_var 4 (v := tI x_5) rfl) (fun found_11 =>
 (ts_next (nx_L (s := found_11) rfl)))))
 (ts_next (nx_L (s := s_3) rfl))))
 (fun s_3 j_4 => (ts_next (nx_J (s := s_3) rfl))))))) (fun _ _ => rfl)
theorem tf_loose_among'1 (a0_order : (Int × (List (Int × Int)))) (a1_spots : (List Int)) : TFn W_loose_among [(tP tI (tT (tP tI tI))) a0_order, (tL tI) a1_spots] (t_loose_among a0_order a1_spots) (tL tI) := by
  unfold W_loose_among w_loose_among t_loose_among
  exact tf_runO (mk := (fun (s_r : (List Int)) (j_r : Jk) => [some ((tP tI (tT (tP tI tI))) a0_order, false), some ((tL tI) a1_spots, false), j_r 2, some ((tL tI) s_r, true), j_r 4, none])) (er := (tL tI)) (ts_parG (o1 := false) (o2 := true) 2 3 (enc := (tL (tL tI))) (encb := (tL tI)) (tg_call (tf_below_lists'1 a0_order) (tpa_cons (v := (tP tI (tT (tP tI tI))) a0_order) (tp_var 0 (v := (tP tI (tT (tP tI tI))) a0_order) rfl) tpa_nil) rfl) (TG.pu (enc := (tL tI)) (a := ([] : (List Int))) (tp_lst tpa_nil (len_ok 0 rfl (by decide)))) (fun below_1 found_2 =>
 (ts_nx (ts_forP (enc := tI) (mk := (fun (s_3 : (List Int)) (j_4 : Jk) => [some ((tP tI (tT (tP tI tI))) a0_order, false), some ((tL tI) a1_spots, false), some ((tL (tL tI)) below_1, false), some ((tL tI) s_3, true), j_4 4, none])) (ub := (fun x_5 s_3 j_4 => [some ((tP tI (tT (tP tI tI))) a0_order, false), some ((tL tI) a1_spots, false), some ((tL (tL tI)) below_1, false), some ((tL tI) s_3, true), some (tI x_5, false), none])) (s0 := found_2) (xs := a1_spots) (ti_seq (a := a1_spots) seqL (tp_var 1 (v := (tL tI) a1_spots) rfl)) rfl (fun x_5 s_3 j_4 => rfl)
 (fun x_5 s_3 j_4 => (ts_ife (tg_B (tg_binMP (b := ()) (O2P.m (o_isnot nn_I)) (tg_callM (fun (z_8 : (List Int)) => tf_greatest_of'1 a0_order z_8) (tga_consP (v := (tP tI (tT (tP tI tI))) a0_order) (tp_var 0 (v := (tP tI (tT (tP tI tI))) a0_order) rfl) (tga_last (tg_lcM (e := tI) (eb := tI) (ue := (fun y_6 => [some ((tP tI (tT (tP tI tI))) a0_order, false), some ((tL tI) a1_spots, false), some ((tL (tL tI)) below_1, false), some ((tL tI) s_3, true), some (tI x_5, false), some (tI y_6, false)])) (ti_seqM seqL (tg_binPP (a := below_1) (b := x_5) (o_ix seqL) (tp_varW 2 (v := (tL (tL tI)) below_1) rfl) (tp_varW 4 (v := tI x_5) rfl))) (fun y_6 => rfl) (fun y_6 => (TG.pu (enc := id) (a := (decide (y_6 ∈ a1_spots))) (tp_B (b := (decide (y_6 ∈ a1_spots))) (tp_bin (a := y_6) (b := a1_spots) (o_inL cmp_I (by decide)) (tp_varW 5 (v := tI y_6) rfl) (tp_varW 1 (v := (tL tI) a1_spots) rfl))))) (fun y_6 => (TG.pu (enc := tI) (a := y_6) (tp_var 5 (v := tI y_6) rfl)))) tpa_nil)) (fun _ => rfl)) tp_c))
 (ts_nx (ts_appP 3 (enc := tI) (l := s_3) (x := x_5) rfl (tp_var 4 (v := tI x_5) rfl) (fun found_11 =>
 (ts_next (nx_L (s := found_11) rfl)))))
 (ts_next (nx_L (s := s_3) rfl))))
 (fun s_3 j_4 => (ts_next (nx_J (s := s_3) rfl))))))) (fun _ _ => rfl)
@[irreducible] def t_loose_spots (a0_order : (Int × (List (Int × Int)))) : M (List Int) :=
 (bi (rgM 0 a0_order.1) fun z_1 => t_loose_among a0_order z_1)
theorem tf_loose_spots (a0_order : (Int × (List (Int × Int)))) : TFn W_loose_spots [(tP tI (tX (tP tI tI))) a0_order] (t_loose_spots a0_order) (tT tI) := by
  unfold W_loose_spots w_loose_spots t_loose_spots
  exact tf_run (ts_retD (tg_L1 (eb := (tT tI)) (fun z_2 => l_tuple seqL z_2) (tga_last (tg_callM (fun (z_1 : (List Int)) => tf_loose_among a0_order z_1) (tga_consP (v := (tP tI (tX (tP tI tI))) a0_order) (tp_var 0 (v := (tP tI (tX (tP tI tI))) a0_order) rfl) (tga_last (tg_lstRg (i := a0_order.1) (tp_fst (p := a0_order) (tp_varW 0 (v := (tP tI (tX (tP tI tI))) a0_order) rfl))) tpa_nil)) (fun _ => rfl)) tpa_nil)))
theorem tf_loose_spots'1 (a0_order : (Int × (List (Int × Int)))) : TFn W_loose_spots [(tP tI (tT (tP tI tI))) a0_order] (t_loose_spots a0_order) (tT tI) := by
  unfold W_loose_spots w_loose_spots t_loose_spots
  exact tf_run (ts_retD (tg_L1 (eb := (tT tI)) (fun z_2 => l_tuple seqL z_2) (tga_last (tg_callM (fun (z_1 : (List Int)) => tf_loose_among'1 a0_order z_1) (tga_consP (v := (tP tI (tT (tP tI tI))) a0_order) (tp_var 0 (v := (tP tI (tT (tP tI tI))) a0_order) rfl) (tga_last (tg_lstRg (i := a0_order.1) (tp_fst (p := a0_order) (tp_varW 0 (v := (tP tI (tT (tP tI tI))) a0_order) rfl))) tpa_nil)) (fun _ => rfl)) tpa_nil)))
@[irreducible] def t_bared (a0_order : (Int × (List (Int × Int)))) : M (List Int) :=
 (bi (rgM 0 a0_order.1) fun (left_1 : (List Int)) =>
 (bi (t_loose_among a0_order left_1) fun (loose_2 : (List Int)) =>
 (bi (whM (fun (s_3 : (List Int) × (List Int)) => (pu (!(s_3.2).isEmpty))) (fun (s_3 : (List Int) × (List Int)) =>
 (bi (ixM s_3.2 0) fun (x_7 : Int) =>
 (bi (remM s_3.1 x_7) fun (left_5 : (List Int)) =>
 (bi (t_loose_among a0_order left_5) fun (loose_6 : (List Int)) =>
 (pu (left_5, loose_6)))))) 1048576 (left_1, loose_2)) fun (s_3 : (List Int) × (List Int)) =>
 (pu s_3.1))))
theorem tf_bared (a0_order : (Int × (List (Int × Int)))) : TFn W_bared [(tP tI (tX (tP tI tI))) a0_order] (t_bared a0_order) (tT tI) := by
  unfold W_bared w_bared t_bared
  exact tf_run (ts_setO 1 (enc := (tL tI)) (tg_lstRg (i := a0_order.1) (tp_fst (p := a0_order) (tp_varW 0 (v := (tP tI (tX (tP tI tI))) a0_order) rfl))) (fun left_1 =>
 (ts_set 2 (enc := (tL tI)) (tg_callWL pl_I (tf_loose_among a0_order left_1) (tpa_cons (v := (tP tI (tX (tP tI tI))) a0_order) (tp_varW 0 (v := (tP tI (tX (tP tI tI))) a0_order) rfl) (tpa_cons (v := (tL tI) left_1) (tp_varW 1 (v := (tL tI) left_1) rfl) tpa_nil)) rfl) (fun loose_2 =>
 (ts_while (mk := (fun (s_3 : (List Int) × (List Int)) (j_4 : Jk) => [some ((tP tI (tX (tP tI tI))) a0_order, false), some ((tL tI) s_3.1, true), some ((tL tI) s_3.2, false)])) (s0 := (left_1, loose_2)) rfl (fun s_3 j_4 => (TG.pu (enc := id) (a := (!(s_3.2).isEmpty)) (tp_truL (e := tI) (l := s_3.2) (tp_varW 2 (v := (tL tI) s_3.2) rfl))))
 (fun s_3 j_4 => (ts_rem 1 (l := s_3.1) rfl (tg_binPP (a := s_3.2) (b := 0) (o_ix seqL) (tp_varW 2 (v := (tL tI) s_3.2) rfl) tp_c) (fun left_5 =>
 (ts_nx (ts_set 2 (enc := (tL tI)) (tg_callWL pl_I (tf_loose_among a0_order left_5) (tpa_cons (v := (tP tI (tX (tP tI tI))) a0_order) (tp_varW 0 (v := (tP tI (tX (tP tI tI))) a0_order) rfl) (tpa_cons (v := (tL tI) left_5) (tp_varW 1 (v := (tL tI) left_5) rfl) tpa_nil)) rfl) (fun loose_6 =>
 (ts_next (nx_L (s := (left_5, loose_6)) rfl))))))))
 (fun s_3 j_4 => (ts_retDP (a := s_3.1) (tp_L (l_tuple seqL s_3.1) (tpa_cons (v := (tL tI) s_3.1) (tp_varW 1 (v := (tL tI) s_3.1) rfl) tpa_nil)))))))))
theorem tf_bared'1 (a0_order : (Int × (List (Int × Int)))) : TFn W_bared [(tP tI (tT (tP tI tI))) a0_order] (t_bared a0_order) (tT tI) := by
  unfold W_bared w_bared t_bared
  exact tf_run (ts_setO 1 (enc := (tL tI)) (tg_lstRg (i := a0_order.1) (tp_fst (p := a0_order) (tp_varW 0 (v := (tP tI (tT (tP tI tI))) a0_order) rfl))) (fun left_1 =>
 (ts_set 2 (enc := (tL tI)) (tg_callWL pl_I (tf_loose_among'1 a0_order left_1) (tpa_cons (v := (tP tI (tT (tP tI tI))) a0_order) (tp_varW 0 (v := (tP tI (tT (tP tI tI))) a0_order) rfl) (tpa_cons (v := (tL tI) left_1) (tp_varW 1 (v := (tL tI) left_1) rfl) tpa_nil)) rfl) (fun loose_2 =>
 (ts_while (mk := (fun (s_3 : (List Int) × (List Int)) (j_4 : Jk) => [some ((tP tI (tT (tP tI tI))) a0_order, false), some ((tL tI) s_3.1, true), some ((tL tI) s_3.2, false)])) (s0 := (left_1, loose_2)) rfl (fun s_3 j_4 => (TG.pu (enc := id) (a := (!(s_3.2).isEmpty)) (tp_truL (e := tI) (l := s_3.2) (tp_varW 2 (v := (tL tI) s_3.2) rfl))))
 (fun s_3 j_4 => (ts_rem 1 (l := s_3.1) rfl (tg_binPP (a := s_3.2) (b := 0) (o_ix seqL) (tp_varW 2 (v := (tL tI) s_3.2) rfl) tp_c) (fun left_5 =>
 (ts_nx (ts_set 2 (enc := (tL tI)) (tg_callWL pl_I (tf_loose_among'1 a0_order left_5) (tpa_cons (v := (tP tI (tT (tP tI tI))) a0_order) (tp_varW 0 (v := (tP tI (tT (tP tI tI))) a0_order) rfl) (tpa_cons (v := (tL tI) left_5) (tp_varW 1 (v := (tL tI) left_5) rfl) tpa_nil)) rfl) (fun loose_6 =>
 (ts_next (nx_L (s := (left_5, loose_6)) rfl))))))))
 (fun s_3 j_4 => (ts_retDP (a := s_3.1) (tp_L (l_tuple seqL s_3.1) (tpa_cons (v := (tL tI) s_3.1) (tp_varW 1 (v := (tL tI) s_3.1) rfl) tpa_nil)))))))))
@[irreducible] def t_bared_leading (a0_order : (Int × (List (Int × Int)))) : M (List Int) :=
 (bi (t_bared a0_order) fun (left_1 : (List Int)) =>
 (bi (rgM 0 a0_order.1) fun l_5 => (nx (lcM (fun (x_2 : Int) => (pu true)) (fun (x_2 : Int) => (bi (bi (nx (lcM (fun (y_3 : Int) => (t_is_led a0_order y_3 x_2)) (fun (y_3 : Int) => (pu y_3)) left_1 [])) fun z_4 => t_greatest_of a0_order z_4) fun o => op? o)) l_5 []))))
theorem tf_bared_leading (a0_order : (Int × (List (Int × Int)))) : TFn W_bared_leading [(tP tI (tX (tP tI tI))) a0_order] (t_bared_leading a0_order) (tT tI) := by
  unfold W_bared_leading w_bared_leading t_bared_leading
  exact tf_run (ts_set 1 (enc := (tT tI)) (tg_call (tf_bared a0_order) (tpa_cons (v := (tP tI (tX (tP tI tI))) a0_order) (tp_var 0 (v := (tP tI (tX (tP tI tI))) a0_order) rfl) tpa_nil) rfl) (fun left_1 =>
 (ts_retD (tg_L1 (eb := (tT tI)) (fun z_6 => l_tuple seqL z_6) (tga_last (tg_lcM (e := tI) (eb := tI) (ue := (fun x_2 => [some ((tP tI (tX (tP tI tI))) a0_order, false), some ((tT tI) left_1, false), none, some (tI x_2, false)])) (ti_rg1 (i := a0_order.1) (tp_fst (p := a0_order) (tp_varW 0 (v := (tP tI (tX (tP tI tI))) a0_order) rfl))) (fun x_2 => rfl) (fun x_2 => (TG.pu (enc := id) tp_yes)) (fun x_2 => (tg_op (tg_callM (fun (z_4 : (List Int)) => tf_greatest_of a0_order z_4) (tga_consP (v := (tP tI (tX (tP tI tI))) a0_order) (tp_var 0 (v := (tP tI (tX (tP tI tI))) a0_order) rfl) (tga_last (tg_lcP (e := tI) (eb := tI) (ue := (fun y_3 => [some ((tP tI (tX (tP tI tI))) a0_order, false), some ((tT tI) left_1, false), some (tI y_3, false), some (tI x_2, false)])) (xs := left_1) (ti_seq (a := left_1) seqT (tp_varW 1 (v := (tT tI) left_1) rfl)) (fun y_3 => rfl) (fun y_3 => (tg_truB (tg_call (tf_is_led a0_order y_3 x_2) (tpa_cons (v := (tP tI (tX (tP tI tI))) a0_order) (tp_var 0 (v := (tP tI (tX (tP tI tI))) a0_order) rfl) (tpa_cons (v := tI y_3) (tp_var 2 (v := tI y_3) rfl) (tpa_cons (v := tI x_2) (tp_var 3 (v := tI x_2) rfl) tpa_nil))) rfl))) (fun y_3 => (TG.pu (enc := tI) (a := y_3) (tp_var 2 (v := tI y_3) rfl)))) tpa_nil)) (fun _ => rfl))))) tpa_nil)))))
theorem tf_bared_leading'1 (a0_order : (Int × (List (Int × Int)))) : TFn W_bared_leading [(tP tI (tT (tP tI tI))) a0_order] (t_bared_leading a0_order) (tT tI) := by
  unfold W_bared_leading w_bared_leading t_bared_leading
  exact tf_run (ts_set 1 (enc := (tT tI)) (tg_call (tf_bared'1 a0_order) (tpa_cons (v := (tP tI (tT (tP tI tI))) a0_order) (tp_var 0 (v := (tP tI (tT (tP tI tI))) a0_order) rfl) tpa_nil) rfl) (fun left_1 =>
 (ts_retD (tg_L1 (eb := (tT tI)) (fun z_6 => l_tuple seqL z_6) (tga_last (tg_lcM (e := tI) (eb := tI) (ue := (fun x_2 => [some ((tP tI (tT (tP tI tI))) a0_order, false), some ((tT tI) left_1, false), none, some (tI x_2, false)])) (ti_rg1 (i := a0_order.1) (tp_fst (p := a0_order) (tp_varW 0 (v := (tP tI (tT (tP tI tI))) a0_order) rfl))) (fun x_2 => rfl) (fun x_2 => (TG.pu (enc := id) tp_yes)) (fun x_2 => (tg_op (tg_callM (fun (z_4 : (List Int)) => tf_greatest_of'1 a0_order z_4) (tga_consP (v := (tP tI (tT (tP tI tI))) a0_order) (tp_var 0 (v := (tP tI (tT (tP tI tI))) a0_order) rfl) (tga_last (tg_lcP (e := tI) (eb := tI) (ue := (fun y_3 => [some ((tP tI (tT (tP tI tI))) a0_order, false), some ((tT tI) left_1, false), some (tI y_3, false), some (tI x_2, false)])) (xs := left_1) (ti_seq (a := left_1) seqT (tp_varW 1 (v := (tT tI) left_1) rfl)) (fun y_3 => rfl) (fun y_3 => (tg_truB (tg_call (tf_is_led'1 a0_order y_3 x_2) (tpa_cons (v := (tP tI (tT (tP tI tI))) a0_order) (tp_var 0 (v := (tP tI (tT (tP tI tI))) a0_order) rfl) (tpa_cons (v := tI y_3) (tp_var 2 (v := tI y_3) rfl) (tpa_cons (v := tI x_2) (tp_var 3 (v := tI x_2) rfl) tpa_nil))) rfl))) (fun y_3 => (TG.pu (enc := tI) (a := y_3) (tp_var 2 (v := tI y_3) rfl)))) tpa_nil)) (fun _ => rfl))))) tpa_nil)))))
@[irreducible] def t_near_lists (a0_order : (Int × (List (Int × Int)))) : M (List (List Int)) :=
 (bi (bi (t_above_lists a0_order) fun a => bi (t_below_lists a0_order) fun b => pu (List.zip a b)) fun l_2 => (nx (lcM (fun (q_1 : ((List Int) × (List Int))) => (pu true)) (fun (q_1 : ((List Int) × (List Int))) => (catM q_1.1 q_1.2)) l_2 [])))
theorem tf_near_lists (a0_order : (Int × (List (Int × Int)))) : TFn W_near_lists [(tP tI (tT (tP tI tI))) a0_order] (t_near_lists a0_order) (tL (tL tI)) := by
  unfold W_near_lists w_near_lists t_near_lists
  exact tf_run (ts_retD (tg_lcM (e := (tP (tL tI) (tL tI))) (eb := (tL tI)) (ue := (fun q_1 => [some ((tP tI (tT (tP tI tI))) a0_order, false), some ((tL tI) q_1.1, false), some ((tL tI) q_1.2, false)])) (ti_zipMM seqL seqL (tg_call (tf_above_lists a0_order) (tpa_cons (v := (tP tI (tT (tP tI tI))) a0_order) (tp_var 0 (v := (tP tI (tT (tP tI tI))) a0_order) rfl) tpa_nil) rfl) (tg_call (tf_below_lists'1 a0_order) (tpa_cons (v := (tP tI (tT (tP tI tI))) a0_order) (tp_var 0 (v := (tP tI (tT (tP tI tI))) a0_order) rfl) tpa_nil) rfl)) (fun q_1 => rfl) (fun q_1 => (TG.pu (enc := id) tp_yes)) (fun q_1 => (tg_binPP (a := q_1.1) (b := q_1.2) (o_catL (e := tI)) (tp_varW 1 (v := (tL tI) q_1.1) rfl) (tp_varW 2 (v := (tL tI) q_1.2) rfl)))))
theorem tf_near_lists'1 (a0_order : (Int × (List (Int × Int)))) : TFn W_near_lists [(tP tI (tX (tP tI tI))) a0_order] (t_near_lists a0_order) (tL (tL tI)) := by
  unfold W_near_lists w_near_lists t_near_lists
  exact tf_run (ts_retD (tg_lcM (e := (tP (tL tI) (tL tI))) (eb := (tL tI)) (ue := (fun q_1 => [some ((tP tI (tX (tP tI tI))) a0_order, false), some ((tL tI) q_1.1, false), some ((tL tI) q_1.2, false)])) (ti_zipMM seqL seqL (tg_call (tf_above_lists'1 a0_order) (tpa_cons (v := (tP tI (tX (tP tI tI))) a0_order) (tp_var 0 (v := (tP tI (tX (tP tI tI))) a0_order) rfl) tpa_nil) rfl) (tg_call (tf_below_lists a0_order) (tpa_cons (v := (tP tI (tX (tP tI tI))) a0_order) (tp_var 0 (v := (tP tI (tX (tP tI tI))) a0_order) rfl) tpa_nil) rfl)) (fun q_1 => rfl) (fun q_1 => (TG.pu (enc := id) tp_yes)) (fun q_1 => (tg_binPP (a := q_1.1) (b := q_1.2) (o_catL (e := tI)) (tp_varW 1 (v := (tL tI) q_1.1) rfl) (tp_varW 2 (v := (tL tI) q_1.2) rfl)))))
@[irreducible] def t_piece_of (a0_order : (Int × (List (Int × Int)))) (a1_x : Int) : M (List Int) :=
 (bi (bi (t_near_lists a0_order) fun z_1 => pu (z_1, [a1_x], 0)) fun (q_2 : ((List (List Int)) × (List Int) × Int)) =>
 (bi (whM (fun (s_3 : (List Int) × Int) => (pu (gLt s_3.2 ((List.length s_3.1 : Nat) : Int)))) (fun (s_3 : (List Int) × Int) =>
 (bi (bi (bi (bi (ixM s_3.1 s_3.2) fun b_6 => (ixM q_2.1 b_6)) fun l_8 => (nx (lcM (fun (y_7 : Int) => (pu (!decide (y_7 ∈ s_3.1)))) (fun (y_7 : Int) => (pu y_7)) l_8 []))) fun b_10 => (catM s_3.1 b_10)) fun (found_11 : (List Int)) =>
 (bi (pu (s_3.2 + 1)) fun (done_12 : Int) =>
 (pu (found_11, done_12))))) 1048576 (q_2.2.1, q_2.2.2)) fun (s_3 : (List Int) × Int) =>
 (sortIM s_3.1)))
theorem tf_piece_of (a0_order : (Int × (List (Int × Int)))) (a1_x : Int) : TFn W_piece_of [(tP tI (tT (tP tI tI))) a0_order, tI a1_x] (t_piece_of a0_order a1_x) (tT tI) := by
  unfold W_piece_of w_piece_of t_piece_of
  exact tf_run (ts_asg (enc := (tP3 (tL (tL tI)) (tL tI) tI)) (u' := fun q_2 => [some ((tP tI (tT (tP tI tI))) a0_order, false), some (tI a1_x, false), some ((tL (tL tI)) q_2.1, false), some ((tL tI) q_2.2.1, false), some (tI q_2.2.2, false), none]) (tg_tup (f := fun z_1 => (z_1, [a1_x], 0)) (eb := (tP3 (tL (tL tI)) (tL tI) tI)) (tga_last (tg_call (tf_near_lists a0_order) (tpa_cons (v := (tP tI (tT (tP tI tI))) a0_order) (tp_var 0 (v := (tP tI (tT (tP tI tI))) a0_order) rfl) tpa_nil) rfl) (tpa_cons (v := (tL tI) [a1_x]) (tp_lst (tpa_cons (v := tI a1_x) (tp_var 1 (v := tI a1_x) rfl) tpa_nil) (len_ok 1 rfl (by decide))) (tpa_cons (v := tI 0) tp_c tpa_nil))) (fun _ => len_ok 3 rfl (by decide)) (fun _ => rfl)) (fun q_2 => rfl) (fun q_2 =>
 (ts_while (mk := (fun (s_3 : (List Int) × Int) (j_4 : Jk) => [some ((tP tI (tT (tP tI tI))) a0_order, false), some (tI a1_x, false), some ((tL (tL tI)) q_2.1, false), some ((tL tI) s_3.1, false), some (tI s_3.2, false), none])) (s0 := (q_2.2.1, q_2.2.2)) rfl (fun s_3 j_4 => (TG.pu (enc := id) (a := (gLt s_3.2 ((List.length s_3.1 : Nat) : Int))) (tp_B (b := (gLt s_3.2 ((List.length s_3.1 : Nat) : Int))) (tp_bin (a := s_3.2) (b := ((List.length s_3.1 : Nat) : Int)) (o_cmp gLt) (tp_varW 4 (v := tI s_3.2) rfl) (tp_L (l_len seqL s_3.1) (tpa_cons (v := (tL tI) s_3.1) (tp_varW 3 (v := (tL tI) s_3.1) rfl) tpa_nil))))))
 (fun s_3 j_4 => (ts_set 3 (enc := (tL tI)) (tg_binPM (a := s_3.1) (o_catL (e := tI)) (tp_varW 3 (v := (tL tI) s_3.1) rfl) (tg_lcM (e := tI) (eb := tI) (ue := (fun y_7 => [some ((tP tI (tT (tP tI tI))) a0_order, false), some (tI a1_x, false), some ((tL (tL tI)) q_2.1, false), some ((tL tI) s_3.1, false), some (tI s_3.2, false), some (tI y_7, false)])) (ti_seqM seqL (tg_binPM (a := q_2.1) (o_ix seqL) (tp_varW 2 (v := (tL (tL tI)) q_2.1) rfl) (tg_binPP (a := s_3.1) (b := s_3.2) (o_ix seqL) (tp_varW 3 (v := (tL tI) s_3.1) rfl) (tp_varW 4 (v := tI s_3.2) rfl)))) (fun y_7 => rfl) (fun y_7 => (TG.pu (enc := id) (a := (!decide (y_7 ∈ s_3.1))) (tp_B (b := (!decide (y_7 ∈ s_3.1))) (tp_bin (a := y_7) (b := s_3.1) (o_notinL cmp_I (by decide)) (tp_varW 5 (v := tI y_7) rfl) (tp_varW 3 (v := (tL tI) s_3.1) rfl))))) (fun y_7 => (TG.pu (enc := tI) (a := y_7) (tp_var 5 (v := tI y_7) rfl))))) (fun found_11 =>
 (ts_nx (ts_set 4 (enc := tI) (TG.pu (enc := tI) (a := (s_3.2 + 1)) (tp_bin (a := s_3.2) (b := 1) o_addN (tp_varW 4 (v := tI s_3.2) rfl) tp_c)) (fun done_12 =>
 (ts_next (nx_L (s := (found_11, done_12)) rfl))))))))
 (fun s_3 j_4 => (ts_retD (tg_L1 (eb := (tT tI)) (fun z_13 => l_tuple seqL z_13) (tga_last (tg_LP (l_sortedI s_3.1) (tpa_cons (v := (tL tI) s_3.1) (tp_varW 3 (v := (tL tI) s_3.1) rfl) tpa_nil)) tpa_nil)))))))
theorem tf_piece_of'1 (a0_order : (Int × (List (Int × Int)))) (a1_x : Int) : TFn W_piece_of [(tP tI (tX (tP tI tI))) a0_order, tI a1_x] (t_piece_of a0_order a1_x) (tT tI) := by
  unfold W_piece_of w_piece_of t_piece_of
  exact tf_run (ts_asg (enc := (tP3 (tL (tL tI)) (tL tI) tI)) (u' := fun q_2 => [some ((tP tI (tX (tP tI tI))) a0_order, false), some (tI a1_x, false), some ((tL (tL tI)) q_2.1, false), some ((tL tI) q_2.2.1, false), some (tI q_2.2.2, false), none]) (tg_tup (f := fun z_1 => (z_1, [a1_x], 0)) (eb := (tP3 (tL (tL tI)) (tL tI) tI)) (tga_last (tg_call (tf_near_lists'1 a0_order) (tpa_cons (v := (tP tI (tX (tP tI tI))) a0_order) (tp_var 0 (v := (tP tI (tX (tP tI tI))) a0_order) rfl) tpa_nil) rfl) (tpa_cons (v := (tL tI) [a1_x]) (tp_lst (tpa_cons (v := tI a1_x) (tp_var 1 (v := tI a1_x) rfl) tpa_nil) (len_ok 1 rfl (by decide))) (tpa_cons (v := tI 0) tp_c tpa_nil))) (fun _ => len_ok 3 rfl (by decide)) (fun _ => rfl)) (fun q_2 => rfl) (fun q_2 =>
 (ts_while (mk := (fun (s_3 : (List Int) × Int) (j_4 : Jk) => [some ((tP tI (tX (tP tI tI))) a0_order, false), some (tI a1_x, false), some ((tL (tL tI)) q_2.1, false), some ((tL tI) s_3.1, false), some (tI s_3.2, false), none])) (s0 := (q_2.2.1, q_2.2.2)) rfl (fun s_3 j_4 => (TG.pu (enc := id) (a := (gLt s_3.2 ((List.length s_3.1 : Nat) : Int))) (tp_B (b := (gLt s_3.2 ((List.length s_3.1 : Nat) : Int))) (tp_bin (a := s_3.2) (b := ((List.length s_3.1 : Nat) : Int)) (o_cmp gLt) (tp_varW 4 (v := tI s_3.2) rfl) (tp_L (l_len seqL s_3.1) (tpa_cons (v := (tL tI) s_3.1) (tp_varW 3 (v := (tL tI) s_3.1) rfl) tpa_nil))))))
 (fun s_3 j_4 => (ts_set 3 (enc := (tL tI)) (tg_binPM (a := s_3.1) (o_catL (e := tI)) (tp_varW 3 (v := (tL tI) s_3.1) rfl) (tg_lcM (e := tI) (eb := tI) (ue := (fun y_7 => [some ((tP tI (tX (tP tI tI))) a0_order, false), some (tI a1_x, false), some ((tL (tL tI)) q_2.1, false), some ((tL tI) s_3.1, false), some (tI s_3.2, false), some (tI y_7, false)])) (ti_seqM seqL (tg_binPM (a := q_2.1) (o_ix seqL) (tp_varW 2 (v := (tL (tL tI)) q_2.1) rfl) (tg_binPP (a := s_3.1) (b := s_3.2) (o_ix seqL) (tp_varW 3 (v := (tL tI) s_3.1) rfl) (tp_varW 4 (v := tI s_3.2) rfl)))) (fun y_7 => rfl) (fun y_7 => (TG.pu (enc := id) (a := (!decide (y_7 ∈ s_3.1))) (tp_B (b := (!decide (y_7 ∈ s_3.1))) (tp_bin (a := y_7) (b := s_3.1) (o_notinL cmp_I (by decide)) (tp_varW 5 (v := tI y_7) rfl) (tp_varW 3 (v := (tL tI) s_3.1) rfl))))) (fun y_7 => (TG.pu (enc := tI) (a := y_7) (tp_var 5 (v := tI y_7) rfl))))) (fun found_11 =>
 (ts_nx (ts_set 4 (enc := tI) (TG.pu (enc := tI) (a := (s_3.2 + 1)) (tp_bin (a := s_3.2) (b := 1) o_addN (tp_varW 4 (v := tI s_3.2) rfl) tp_c)) (fun done_12 =>
 (ts_next (nx_L (s := (found_11, done_12)) rfl))))))))
 (fun s_3 j_4 => (ts_retD (tg_L1 (eb := (tT tI)) (fun z_13 => l_tuple seqL z_13) (tga_last (tg_LP (l_sortedI s_3.1) (tpa_cons (v := (tL tI) s_3.1) (tp_varW 3 (v := (tL tI) s_3.1) rfl) tpa_nil)) tpa_nil)))))))
@[irreducible] def t_pieces (a0_order : (Int × (List (Int × Int)))) : M (List (List Int)) :=
 (bi (rgM 0 a0_order.1) fun l_7 => bi (forM (fun (x_3 : Int) (s_1 : (List (List Int))) =>
 (if (!(List.any (List.map (fun (spots_4 : (List Int)) => (decide (x_3 ∈ spots_4))) s_1) id)) = true then
 (bi (t_piece_of a0_order x_3) fun (x_6 : (List Int)) =>
 (bi (appM s_1 x_6) fun (found_5 : (List (List Int))) =>
 (pu found_5)))
 else (pu s_1))) l_7 ([] : (List (List Int)))) fun (s_1 : (List (List Int))) =>
 (pu s_1))
theorem tf_pieces (a0_order : (Int × (List (Int × Int)))) : TFn W_pieces [(tP tI (tT (tP tI tI))) a0_order] (t_pieces a0_order) (tT (tT tI)) := by
  unfold W_pieces w_pieces t_pieces
  exact tf_run (ts_setOP 1 (v := (tL (tT tI)) ([] : (List (List Int)))) (tp_lst tpa_nil (len_ok 0 rfl (by decide)))
 (ts_forM (enc := tI) (mk := (fun (s_1 : (List (List Int))) (j_2 : Jk) => [some ((tP tI (tT (tP tI tI))) a0_order, false), some ((tL (tT tI)) s_1, true), j_2 2, none])) (ub := (fun x_3 s_1 j_2 => [some ((tP tI (tT (tP tI tI))) a0_order, false), some ((tL (tT tI)) s_1, true), some (tI x_3, false), none])) (s0 := ([] : (List (List Int)))) (ti_rg1 (i := a0_order.1) (tp_fst (p := a0_order) (tp_varW 0 (v := (tP tI (tT (tP tI tI))) a0_order) rfl))) rfl (fun x_3 s_1 j_2 => rfl)
 (fun x_3 s_1 j_2 => (ts_ifeP (c := (!(List.any (List.map (fun (spots_4 : (List Int)) => (decide (x_3 ∈ spots_4))) s_1) id))) (tp_nott (b := (List.any (List.map (fun (spots_4 : (List Int)) => (decide (x_3 ∈ spots_4))) s_1) id)) (tp_truB (b := (List.any (List.map (fun (spots_4 : (List Int)) => (decide (x_3 ∈ spots_4))) s_1) id)) (tp_L (l_any (List.map (fun (spots_4 : (List Int)) => (decide (x_3 ∈ spots_4))) s_1)) (tpa_cons (v := (tL Ty.tB) (List.map (fun (spots_4 : (List Int)) => (decide (x_3 ∈ spots_4))) s_1)) (tp_lc1 (e := (tT tI)) (eb := Ty.tB) (ue := (fun spots_4 => [some ((tP tI (tT (tP tI tI))) a0_order, false), some ((tL (tT tI)) s_1, true), some (tI x_3, false), some ((tT tI) spots_4, false)])) (xs := s_1) (f := fun spots_4 => (decide (x_3 ∈ spots_4))) (ti_seq (a := s_1) seqL (tp_varW 1 (v := (tL (tT tI)) s_1) rfl)) (fun spots_4 => rfl) (fun spots_4 => (tp_bin (a := x_3) (b := spots_4) (o_inT cmp_I (by decide)) (tp_varW 2 (v := tI x_3) rfl) (tp_varW 3 (v := (tT tI) spots_4) rfl)))) tpa_nil))))
 (ts_nx (ts_app 1 (enc := (tT tI)) (l := s_1) rfl (tg_call (tf_piece_of a0_order x_3) (tpa_cons (v := (tP tI (tT (tP tI tI))) a0_order) (tp_var 0 (v := (tP tI (tT (tP tI tI))) a0_order) rfl) (tpa_cons (v := tI x_3) (tp_var 2 (v := tI x_3) rfl) tpa_nil)) rfl) (fun found_5 =>
 (ts_next (nx_L (s := found_5) rfl)))))
 (ts_next (nx_L (s := s_1) rfl))))
 (fun s_1 j_2 => (ts_retDP (a := s_1) (tp_L (l_tuple seqL s_1) (tpa_cons (v := (tL (tT tI)) s_1) (tp_varW 1 (v := (tL (tT tI)) s_1) rfl) tpa_nil))))))
theorem tf_pieces'1 (a0_order : (Int × (List (Int × Int)))) : TFn W_pieces [(tP tI (tX (tP tI tI))) a0_order] (t_pieces a0_order) (tT (tT tI)) := by
  unfold W_pieces w_pieces t_pieces
  exact tf_run (ts_setOP 1 (v := (tL (tT tI)) ([] : (List (List Int)))) (tp_lst tpa_nil (len_ok 0 rfl (by decide)))
 (ts_forM (enc := tI) (mk := (fun (s_1 : (List (List Int))) (j_2 : Jk) => [some ((tP tI (tX (tP tI tI))) a0_order, false), some ((tL (tT tI)) s_1, true), j_2 2, none])) (ub := (fun x_3 s_1 j_2 => [some ((tP tI (tX (tP tI tI))) a0_order, false), some ((tL (tT tI)) s_1, true), some (tI x_3, false), none])) (s0 := ([] : (List (List Int)))) (ti_rg1 (i := a0_order.1) (tp_fst (p := a0_order) (tp_varW 0 (v := (tP tI (tX (tP tI tI))) a0_order) rfl))) rfl (fun x_3 s_1 j_2 => rfl)
 (fun x_3 s_1 j_2 => (ts_ifeP (c := (!(List.any (List.map (fun (spots_4 : (List Int)) => (decide (x_3 ∈ spots_4))) s_1) id))) (tp_nott (b := (List.any (List.map (fun (spots_4 : (List Int)) => (decide (x_3 ∈ spots_4))) s_1) id)) (tp_truB (b := (List.any (List.map (fun (spots_4 : (List Int)) => (decide (x_3 ∈ spots_4))) s_1) id)) (tp_L (l_any (List.map (fun (spots_4 : (List Int)) => (decide (x_3 ∈ spots_4))) s_1)) (tpa_cons (v := (tL Ty.tB) (List.map (fun (spots_4 : (List Int)) => (decide (x_3 ∈ spots_4))) s_1)) (tp_lc1 (e := (tT tI)) (eb := Ty.tB) (ue := (fun spots_4 => [some ((tP tI (tX (tP tI tI))) a0_order, false), some ((tL (tT tI)) s_1, true), some (tI x_3, false), some ((tT tI) spots_4, false)])) (xs := s_1) (f := fun spots_4 => (decide (x_3 ∈ spots_4))) (ti_seq (a := s_1) seqL (tp_varW 1 (v := (tL (tT tI)) s_1) rfl)) (fun spots_4 => rfl) (fun spots_4 => (tp_bin (a := x_3) (b := spots_4) (o_inT cmp_I (by decide)) (tp_varW 2 (v := tI x_3) rfl) (tp_varW 3 (v := (tT tI) spots_4) rfl)))) tpa_nil))))
 (ts_nx (ts_app 1 (enc := (tT tI)) (l := s_1) rfl (tg_call (tf_piece_of'1 a0_order x_3) (tpa_cons (v := (tP tI (tX (tP tI tI))) a0_order) (tp_var 0 (v := (tP tI (tX (tP tI tI))) a0_order) rfl) (tpa_cons (v := tI x_3) (tp_var 2 (v := tI x_3) rfl) tpa_nil)) rfl) (fun found_5 =>
 (ts_next (nx_L (s := found_5) rfl)))))
 (ts_next (nx_L (s := s_1) rfl))))
 (fun s_1 j_2 => (ts_retDP (a := s_1) (tp_L (l_tuple seqL s_1) (tpa_cons (v := (tL (tT tI)) s_1) (tp_varW 1 (v := (tL (tT tI)) s_1) rfl) tpa_nil))))))
@[irreducible] def t__law_begun (a0_script : (List Int)) (a1_k : Int) : M Unit :=
 (bi (catM (cut a0_script (some a1_k) none) (cut a0_script none (some a1_k))) fun (cells_1 : (List Int)) =>
 (bi (nx (lcM (fun (cell_2 : Int) => (bi (powM 10 18) fun b_4 => (pu (gGe cell_2 b_4)))) (fun (cell_2 : Int) => (pu cell_2)) cells_1 [])) fun (great_5 : (List Int)) =>
 (bi (pu (71 + a1_k)) fun (seed_6 : Int) =>
 (bi (forM (fun (cell_9 : Int) (s_7 : Int) =>
 (bi (bi (bi (mulM s_7 48271) fun a_10 => (pu (a_10 + cell_9))) fun a_13 => (modM a_13 2147483647)) fun (seed_15 : Int) =>
 (pu seed_15))) cells_1 seed_6) fun (s_7 : Int) =>
 (bi (if (decide (great_5 ≠ ([] : (List Int)))) = true then (ixM great_5 0) else (pu 0)) fun i => bi (pu s_7) fun j => bi (bi (bi (bi (mulM 53 a1_k) fun a_16 => (pu (a_16 + 11))) fun z_18 => pu [z_18]) fun b_20 => (catM cells_1 b_20)) fun cs => begM i j cs)))))
theorem tf__law_begun (a0_script : (List Int)) (a1_k : Int) : TFn W__law_begun [(tZ tI) a0_script, tI a1_k] (t__law_begun a0_script a1_k) tG := by
  unfold W__law_begun w__law_begun t__law_begun
  exact tf_run (ts_set 2 (enc := (tL tI)) (tg_binPP (a := (cut a0_script (some a1_k) none)) (b := (cut a0_script none (some a1_k))) (o_catL (e := tI)) (tp_slZ (e := tI) (a := a0_script) (lo := (some a1_k)) (hi := none) (tp_varW 0 (v := (tZ tI) a0_script) rfl) (tp_P (i := a1_k) (tp_varW 1 (v := tI a1_k) rfl)) tp_noP) (tp_slZ (e := tI) (a := a0_script) (lo := none) (hi := (some a1_k)) (tp_varW 0 (v := (tZ tI) a0_script) rfl) tp_noP (tp_P (i := a1_k) (tp_varW 1 (v := tI a1_k) rfl)))) (fun cells_1 =>
 (ts_set 3 (enc := (tL tI)) (tg_lcP (e := tI) (eb := tI) (ue := (fun cell_2 => [some ((tZ tI) a0_script, false), some (tI a1_k, false), some ((tL tI) cells_1, false), none, some (tI cell_2, false), none])) (xs := cells_1) (ti_seq (a := cells_1) seqL (tp_varW 2 (v := (tL tI) cells_1) rfl)) (fun cell_2 => rfl) (fun cell_2 => (tg_B (tg_binPM (a := cell_2) (O2P.m (o_cmp gGe)) (tp_varW 4 (v := tI cell_2) rfl) (tg_binPP (a := 10) (b := 18) o_pow tp_c tp_c)))) (fun cell_2 => (TG.pu (enc := tI) (a := cell_2) (tp_var 4 (v := tI cell_2) rfl)))) (fun great_5 =>
 (ts_set 5 (enc := tI) (TG.pu (enc := tI) (a := (71 + a1_k)) (tp_bin (a := 71) (b := a1_k) o_add tp_c (tp_varW 1 (v := tI a1_k) rfl))) (fun seed_6 =>
 (ts_forP (enc := tI) (mk := (fun (s_7 : Int) (j_8 : Jk) => [some ((tZ tI) a0_script, false), some (tI a1_k, false), some ((tL tI) cells_1, false), some ((tL tI) great_5, false), j_8 4, some (tI s_7, false)])) (ub := (fun cell_9 s_7 j_8 => [some ((tZ tI) a0_script, false), some (tI a1_k, false), some ((tL tI) cells_1, false), some ((tL tI) great_5, false), some (tI cell_9, false), some (tI s_7, false)])) (s0 := seed_6) (xs := cells_1) (ti_seq (a := cells_1) seqL (tp_var 2 (v := (tL tI) cells_1) rfl)) rfl (fun cell_9 s_7 j_8 => rfl)
 (fun cell_9 s_7 j_8 => (ts_nx (ts_set 5 (enc := tI) (tg_binMP (b := 2147483647) o_mod (tg_L1 (eb := tI) (fun z_12 => l_intI z_12) (tga_last (tg_binMP (b := cell_9) (O2P.m o_add) (tg_binPP (a := s_7) (b := 48271) o_mul (tp_varW 5 (v := tI s_7) rfl) tp_c) (tp_varW 4 (v := tI cell_9) rfl)) tpa_nil)) tp_c) (fun seed_15 =>
 (ts_next (nx_L (s := seed_15) rfl))))))
 (fun s_7 j_8 => (ts_retD (tg_beg (tg_ifP (e := tI) (b := (decide (great_5 ≠ ([] : (List Int))))) (tp_B (b := (decide (great_5 ≠ ([] : (List Int))))) (tp_bin (a := great_5) (b := ([] : (List Int))) (o_ne (cmp_L cmp_I) (by decide)) (tp_varW 3 (v := (tL tI) great_5) rfl) (tp_lst tpa_nil (len_ok 0 rfl (by decide))))) (tg_binPP (a := great_5) (b := 0) (o_ix seqL) (tp_varW 3 (v := (tL tI) great_5) rfl) tp_c) (TG.pu (enc := tI) (a := 0) tp_c)) (TG.pu (enc := tI) (a := s_7) (tp_varW 5 (v := tI s_7) rfl)) (tg_binPM (a := cells_1) (o_catL (e := tI)) (tp_varW 2 (v := (tL tI) cells_1) rfl) (tg_lst (f := fun z_18 => [z_18]) (eb := (tL tI)) (tga_last (tg_binMP (b := 11) (O2P.m o_add) (tg_binPP (a := 53) (b := a1_k) o_mul tp_c (tp_varW 1 (v := tI a1_k) rfl)) tp_c) tpa_nil) (fun _ => len_ok 1 rfl (by decide)) (fun _ => rfl)))))))))))))
@[irreducible] def t__law_of (a0_m : Unit) (a1_some : (List Int)) : M Int :=
 (bi (dr ((List.length a1_some : Nat) : Int)) fun b_2 => (ixM a1_some b_2))
theorem tf__law_of (a0_m : Unit) (a1_some : (List Int)) : TFn W__law_of [tG a0_m, (tL tI) a1_some] (t__law_of a0_m a1_some) tI := by
  unfold W__law_of w__law_of t__law_of
  exact tf_run (ts_retD (tg_binPM (a := a1_some) (o_ix seqL) (tp_varW 1 (v := (tL tI) a1_some) rfl) (tg_call (tf_draw a0_m ((List.length a1_some : Nat) : Int)) (tpa_cons (v := tG a0_m) (tp_var 0 (v := tG a0_m) rfl) (tpa_cons (v := tI ((List.length a1_some : Nat) : Int)) (tp_L (l_len seqL a1_some) (tpa_cons (v := (tL tI) a1_some) (tp_varW 1 (v := (tL tI) a1_some) rfl) tpa_nil)) tpa_nil)) rfl)))
@[irreducible] def t__law_shuffled (a0_m : Unit) (a1_count : Int) : M (List Int) :=
 (bi (rgM 0 a1_count) fun (left_1 : (List Int)) =>
 (bi (pu ([] : (List Int))) fun (found_2 : (List Int)) =>
 (bi (rgM 0 a1_count) fun l_10 => bi (forM (fun (k_5 : Int) (s_3 : (List Int) × (List Int)) =>
 (bi (t__law_of a0_m s_3.1) fun (one_6 : Int) =>
 (bi (pu (List.map (fun (other_7 : Int) => other_7) (List.filter (fun (other_7 : Int) => (decide (other_7 ≠ one_6))) s_3.1))) fun (left_8 : (List Int)) =>
 (bi (appM s_3.2 one_6) fun (found_9 : (List Int)) =>
 (pu (left_8, found_9)))))) l_10 (left_1, found_2)) fun (s_3 : (List Int) × (List Int)) =>
 (pu s_3.2))))
theorem tf__law_shuffled (a0_m : Unit) (a1_count : Int) : TFn W__law_shuffled [tG a0_m, tI a1_count] (t__law_shuffled a0_m a1_count) (tT tI) := by
  unfold W__law_shuffled w__law_shuffled t__law_shuffled
  exact tf_run (ts_parG (o1 := false) (o2 := true) 2 3 (enc := (tL tI)) (encb := (tL tI)) (tg_lstRg (i := a1_count) (tp_varW 1 (v := tI a1_count) rfl)) (TG.pu (enc := (tL tI)) (a := ([] : (List Int))) (tp_lst tpa_nil (len_ok 0 rfl (by decide)))) (fun left_1 found_2 =>
 (ts_forM (enc := tI) (mk := (fun (s_3 : (List Int) × (List Int)) (j_4 : Jk) => [some (tG a0_m, false), some (tI a1_count, false), some ((tL tI) s_3.1, false), some ((tL tI) s_3.2, true), j_4 4, j_4 5, none])) (ub := (fun k_5 s_3 j_4 => [some (tG a0_m, false), some (tI a1_count, false), some ((tL tI) s_3.1, false), some ((tL tI) s_3.2, true), some (tI k_5, false), j_4 5, none])) (s0 := (left_1, found_2)) (ti_rg1 (i := a1_count) (tp_varW 1 (v := tI a1_count) rfl)) rfl (fun k_5 s_3 j_4 => rfl)
 (fun k_5 s_3 j_4 => (ts_set 5 (enc := tI) (tg_call (tf__law_of a0_m s_3.1) (tpa_cons (v := tG a0_m) (tp_var 0 (v := tG a0_m) rfl) (tpa_cons (v := (tL tI) s_3.1) (tp_var 2 (v := (tL tI) s_3.1) rfl) tpa_nil)) rfl) (fun one_6 =>
 (ts_set 2 (enc := (tL tI)) (TG.pu (enc := (tL tI)) (a := (List.map (fun (other_7 : Int) => other_7) (List.filter (fun (other_7 : Int) => (decide (other_7 ≠ one_6))) s_3.1))) (tp_lc (e := tI) (eb := tI) (ue := (fun other_7 => [some (tG a0_m, false), some (tI a1_count, false), some ((tL tI) s_3.1, false), some ((tL tI) s_3.2, true), some (tI k_5, false), some (tI one_6, false), some (tI other_7, false)])) (xs := s_3.1) (k := fun other_7 => (decide (other_7 ≠ one_6))) (f := fun other_7 => other_7) (ti_seq (a := s_3.1) seqL (tp_varW 2 (v := (tL tI) s_3.1) rfl)) (fun other_7 => rfl) (fun other_7 => (tp_B (b := (decide (other_7 ≠ one_6))) (tp_bin (a := other_7) (b := one_6) (o_ne cmp_I (by decide)) (tp_varW 6 (v := tI other_7) rfl) (tp_varW 5 (v := tI one_6) rfl)))) (fun other_7 => (tp_var 6 (v := tI other_7) rfl)))) (fun left_8 =>
 (ts_nx (ts_appP 3 (enc := tI) (l := s_3.2) (x := one_6) rfl (tp_var 5 (v := tI one_6) rfl) (fun found_9 =>
 (ts_next (nx_L (s := (left_8, found_9)) rfl))))))))))
 (fun s_3 j_4 => (ts_retDP (a := s_3.2) (tp_L (l_tuple seqL s_3.2) (tpa_cons (v := (tL tI) s_3.2) (tp_varW 3 (v := (tL tI) s_3.2) rfl) tpa_nil)))))))
@[irreducible] def t__law_like (a0_got : (List (List Int))) (a1_due : (List (List Int))) : M Bool :=
 (likeM ((tL (tT tI)) a0_got) ((tL (tT tI)) a1_due))
theorem tf__law_like (a0_got : (List (List Int))) (a1_due : (List (List Int))) : TFn W__law_like [(tL (tT tI)) a0_got, (tL (tT tI)) a1_due] (t__law_like a0_got a1_due) Ty.tB := by
  unfold W__law_like w__law_like t__law_like
  exact tf_run (ts_retD (tg_like (x := ((tL (tT tI)) a0_got)) (y := ((tL (tT tI)) a1_due)) (tp_varW 0 (v := (tL (tT tI)) a0_got) rfl) (tp_varW 1 (v := (tL (tT tI)) a1_due) rfl)))
@[irreducible] def t__law_like'1 (a0_got : (List Int)) (a1_due : (List Int)) : M Bool :=
 (likeM ((tT tI) a0_got) ((tT tI) a1_due))
theorem tf__law_like'1 (a0_got : (List Int)) (a1_due : (List Int)) : TFn W__law_like [(tT tI) a0_got, (tT tI) a1_due] (t__law_like'1 a0_got a1_due) Ty.tB := by
  unfold W__law_like w__law_like t__law_like'1
  exact tf_run (ts_retD (tg_like (x := ((tT tI) a0_got)) (y := ((tT tI) a1_due)) (tp_varW 0 (v := (tT tI) a0_got) rfl) (tp_varW 1 (v := (tT tI) a1_due) rfl)))
@[irreducible] def t__law_closed (a0_n : Int) (a1_pairs : (List (Int × Int))) : M (Int × (List (Int × Int))) :=
 (bi (rgM 0 a0_n) fun l_14 => bi (forM (fun (z_3 : Int) (s_1 : (List (Int × Int))) =>
 (bi (rgM 0 a0_n) fun l_11 => bi (forM (fun (x_6 : Int) (s_4 : (List (Int × Int))) =>
 (if (memB (x_6, z_3) s_4) = true then
 (bi (bi (rgM 0 a0_n) fun l_9 => (nx (lcM (fun (y_8 : Int) => (pu ((memB (z_3, y_8) s_4) && (!memB (x_6, y_8) s_4)))) (fun (y_8 : Int) => (pu (x_6, y_8))) l_9 []))) fun (x_10 : (List (Int × Int))) =>
 (bi (catM s_4 x_10) fun (found_7 : (List (Int × Int))) =>
 (pu found_7)))
 else (pu s_4))) l_11 s_1) fun (s_4 : (List (Int × Int))) =>
 (pu s_4))) l_14 a1_pairs) fun (s_1 : (List (Int × Int))) =>
 (bi (setPM s_1) fun z_13 => pu (a0_n, z_13)))
theorem tf__law_closed (a0_n : Int) (a1_pairs : (List (Int × Int))) : TFn W__law_closed [tI a0_n, (tL (tP tI tI)) a1_pairs] (t__law_closed a0_n a1_pairs) (tP tI (tX (tP tI tI))) := by
  unfold W__law_closed w__law_closed t__law_closed
  exact tf_run (ts_setOP 2 (v := (tL (tP tI tI)) a1_pairs) (tp_L (l_list seqL a1_pairs) (tpa_cons (v := (tL (tP tI tI)) a1_pairs) (tp_varW 1 (v := (tL (tP tI tI)) a1_pairs) rfl) tpa_nil))
 (ts_forM (enc := tI) (mk := (fun (s_1 : (List (Int × Int))) (j_2 : Jk) => [some (tI a0_n, false), some ((tL (tP tI tI)) a1_pairs, false), some ((tL (tP tI tI)) s_1, true), j_2 3, j_2 4, none])) (ub := (fun z_3 s_1 j_2 => [some (tI a0_n, false), some ((tL (tP tI tI)) a1_pairs, false), some ((tL (tP tI tI)) s_1, true), some (tI z_3, false), j_2 4, none])) (s0 := a1_pairs) (ti_rg1 (i := a0_n) (tp_varW 0 (v := tI a0_n) rfl)) rfl (fun z_3 s_1 j_2 => rfl)
 (fun z_3 s_1 j_2 => (ts_nx (ts_forM (enc := tI) (mk := (fun (s_4 : (List (Int × Int))) (j_5 : Jk) => [some (tI a0_n, false), some ((tL (tP tI tI)) a1_pairs, false), some ((tL (tP tI tI)) s_4, true), some (tI z_3, false), j_5 4, none])) (ub := (fun x_6 s_4 j_5 => [some (tI a0_n, false), some ((tL (tP tI tI)) a1_pairs, false), some ((tL (tP tI tI)) s_4, true), some (tI z_3, false), some (tI x_6, false), none])) (s0 := s_1) (ti_rg1 (i := a0_n) (tp_varW 0 (v := tI a0_n) rfl)) rfl (fun x_6 s_4 j_5 => rfl)
 (fun x_6 s_4 j_5 => (ts_ifeP (c := (memB (x_6, z_3) s_4)) (tp_B (b := (memB (x_6, z_3) s_4)) (tp_bin (a := (x_6, z_3)) (b := s_4) (o_inLm (cmp_P cmp_I cmp_I) (by decide)) (tp_tup (tpa_cons (v := tI x_6) (tp_var 4 (v := tI x_6) rfl) (tpa_cons (v := tI z_3) (tp_var 3 (v := tI z_3) rfl) tpa_nil)) (len_ok 2 rfl (by decide))) (tp_varW 2 (v := (tL (tP tI tI)) s_4) rfl)))
 (ts_nx (ts_ext 2 (enc := (tP tI tI)) (l := s_4) rfl (tg_lcM (e := tI) (eb := (tP tI tI)) (ue := (fun y_8 => [some (tI a0_n, false), some ((tL (tP tI tI)) a1_pairs, false), some ((tL (tP tI tI)) s_4, true), some (tI z_3, false), some (tI x_6, false), some (tI y_8, false)])) (ti_rg1 (i := a0_n) (tp_varW 0 (v := tI a0_n) rfl)) (fun y_8 => rfl) (fun y_8 => (TG.pu (enc := id) (a := ((memB (z_3, y_8) s_4) && (!memB (x_6, y_8) s_4))) (tp_and (b := (memB (z_3, y_8) s_4)) (c := (!memB (x_6, y_8) s_4)) (tp_B (b := (memB (z_3, y_8) s_4)) (tp_bin (a := (z_3, y_8)) (b := s_4) (o_inLm (cmp_P cmp_I cmp_I) (by decide)) (tp_tup (tpa_cons (v := tI z_3) (tp_var 3 (v := tI z_3) rfl) (tpa_cons (v := tI y_8) (tp_var 5 (v := tI y_8) rfl) tpa_nil)) (len_ok 2 rfl (by decide))) (tp_varW 2 (v := (tL (tP tI tI)) s_4) rfl))) (tp_B (b := (!memB (x_6, y_8) s_4)) (tp_bin (a := (x_6, y_8)) (b := s_4) (o_notinLm (cmp_P cmp_I cmp_I) (by decide)) (tp_tup (tpa_cons (v := tI x_6) (tp_var 4 (v := tI x_6) rfl) (tpa_cons (v := tI y_8) (tp_var 5 (v := tI y_8) rfl) tpa_nil)) (len_ok 2 rfl (by decide))) (tp_varW 2 (v := (tL (tP tI tI)) s_4) rfl)))))) (fun y_8 => (TG.pu (enc := (tP tI tI)) (a := (x_6, y_8)) (tp_tup (tpa_cons (v := tI x_6) (tp_var 4 (v := tI x_6) rfl) (tpa_cons (v := tI y_8) (tp_var 5 (v := tI y_8) rfl) tpa_nil)) (len_ok 2 rfl (by decide)))))) (fun found_7 =>
 (ts_next (nx_L (s := found_7) rfl)))))
 (ts_next (nx_L (s := s_4) rfl))))
 (fun s_4 j_5 => (ts_next (nx_L (s := s_4) rfl))))))
 (fun s_1 j_2 => (ts_retD (tg_tup (f := fun z_13 => (a0_n, z_13)) (eb := (tP tI (tX (tP tI tI)))) (tga_consP (v := tI a0_n) (tp_var 0 (v := tI a0_n) rfl) (tga_last (tg_L1 (eb := (tX (tP tI tI))) (fun z_12 => l_tupleX seqL z_12) (tga_last (tg_LP (l_sortset2P s_1) (tpa_cons (v := (tL (tP tI tI)) s_1) (tp_varW 2 (v := (tL (tP tI tI)) s_1) rfl) tpa_nil)) tpa_nil)) tpa_nil)) (fun _ => len_ok 2 rfl (by decide)) (fun _ => rfl))))))
@[irreducible] def t__law_drawn_order (a0_m : Unit) (a1_most : Int) : M (Int × (List (Int × Int))) :=
 (bi (dr (a1_most + 1)) fun (n_1 : Int) =>
 (bi (t__law_shuffled a0_m n_1) fun (line_4 : (List Int)) =>
 (bi (bi (dr 3) fun b_3 => (pu (2 + b_3))) fun (thick_5 : Int) =>
 (bi (rgM 0 n_1) fun l_16 => bi (forM (fun (j_8 : Int) (s_6 : (List (Int × Int))) =>
 (bi (bi (rgM 0 j_8) fun l_14 => (nx (lcM (fun (i_10 : Int) => (bi (dr thick_5) fun a_12 => (pu (decide (a_12 = 0))))) (fun (i_10 : Int) => (bi (bi (ixM line_4 i_10) fun x => bi (ixM line_4 j_8) fun y => pu (x, y)) fun z_11 => pu (z_11.1, z_11.2))) l_14 []))) fun (x_15 : (List (Int × Int))) =>
 (bi (catM s_6 x_15) fun (pairs_9 : (List (Int × Int))) =>
 (pu pairs_9)))) l_16 ([] : (List (Int × Int)))) fun (s_6 : (List (Int × Int))) =>
 (t__law_closed n_1 s_6)))))
theorem tf__law_drawn_order (a0_m : Unit) (a1_most : Int) : TFn W__law_drawn_order [tG a0_m, tI a1_most] (t__law_drawn_order a0_m a1_most) (tP tI (tX (tP tI tI))) := by
  unfold W__law_drawn_order w__law_drawn_order t__law_drawn_order
  exact tf_run (ts_set 2 (enc := tI) (tg_call (tf_draw a0_m (a1_most + 1)) (tpa_cons (v := tG a0_m) (tp_var 0 (v := tG a0_m) rfl) (tpa_cons (v := tI (a1_most + 1)) (tp_bin (a := a1_most) (b := 1) o_add (tp_varW 1 (v := tI a1_most) rfl) tp_c) tpa_nil)) rfl) (fun n_1 =>
 (ts_par 3 4 (enc := (tT tI)) (encb := tI) (tg_call (tf__law_shuffled a0_m n_1) (tpa_cons (v := tG a0_m) (tp_var 0 (v := tG a0_m) rfl) (tpa_cons (v := tI n_1) (tp_var 2 (v := tI n_1) rfl) tpa_nil)) rfl) (tg_binPM (a := 2) (O2P.m o_add) tp_c (tg_call (tf_draw a0_m 3) (tpa_cons (v := tG a0_m) (tp_var 0 (v := tG a0_m) rfl) (tpa_cons (v := tI 3) tp_c tpa_nil)) rfl)) (fun line_4 thick_5 =>
 (ts_setOP 5 (v := (tL (tP tI tI)) ([] : (List (Int × Int)))) (tp_lst tpa_nil (len_ok 0 rfl (by decide)))
 (ts_forM (enc := tI) (mk := (fun (s_6 : (List (Int × Int))) (j_7 : Jk) => [some (tG a0_m, false), some (tI a1_most, false), some (tI n_1, false), some ((tT tI) line_4, false), some (tI thick_5, false), some ((tL (tP tI tI)) s_6, true), j_7 6, none])) (ub := (fun j_8 s_6 j_7 => [some (tG a0_m, false), some (tI a1_most, false), some (tI n_1, false), some ((tT tI) line_4, false), some (tI thick_5, false), some ((tL (tP tI tI)) s_6, true), some (tI j_8, false), none])) (s0 := ([] : (List (Int × Int)))) (ti_rg1 (i := n_1) (tp_varW 2 (v := tI n_1) rfl)) rfl (fun j_8 s_6 j_7 => rfl)
 (fun j_8 s_6 j_7 => (ts_nx (ts_ext 5 (enc := (tP tI tI)) (l := s_6) rfl (tg_lcM (e := tI) (eb := (tP tI tI)) (ue := (fun i_10 => [some (tG a0_m, false), some (tI a1_most, false), some (tI n_1, false), some ((tT tI) line_4, false), some (tI thick_5, false), some ((tL (tP tI tI)) s_6, true), some (tI j_8, false), some (tI i_10, false)])) (ti_rg1 (i := j_8) (tp_varW 6 (v := tI j_8) rfl)) (fun i_10 => rfl) (fun i_10 => (tg_B (tg_binMP (b := 0) (O2P.m (o_eq cmp_I (by decide))) (tg_call (tf_draw a0_m thick_5) (tpa_cons (v := tG a0_m) (tp_var 0 (v := tG a0_m) rfl) (tpa_cons (v := tI thick_5) (tp_var 4 (v := tI thick_5) rfl) tpa_nil)) rfl) tp_c))) (fun i_10 => (tg_tup (f := fun z_11 => (z_11.1, z_11.2)) (eb := (tP tI tI)) (tga_consM (tg_binPP (a := line_4) (b := i_10) (o_ix seqT) (tp_varW 3 (v := (tT tI) line_4) rfl) (tp_varW 7 (v := tI i_10) rfl)) (tga_last (tg_binPP (a := line_4) (b := j_8) (o_ix seqT) (tp_varW 3 (v := (tT tI) line_4) rfl) (tp_varW 6 (v := tI j_8) rfl)) tpa_nil)) (fun _ => len_ok 2 rfl (by decide)) (fun _ => rfl)))) (fun pairs_9 =>
 (ts_next (nx_L (s := pairs_9) rfl))))))
 (fun s_6 j_7 => (ts_retD (tg_callW (pl_P pl_I (pl_X (pl_P pl_I pl_I))) (tf__law_closed n_1 s_6) (tpa_cons (v := tI n_1) (tp_varW 2 (v := tI n_1) rfl) (tpa_cons (v := (tL (tP tI tI)) s_6) (tp_varW 5 (v := (tL (tP tI tI)) s_6) rfl) tpa_nil)) rfl)))))))))
@[irreducible] def t__law_chain (a0_n : Int) : M (Int × (List (Int × Int))) :=
 (bi (rgM 0 a0_n) fun l_8 => bi (forM (fun (x_3 : Int) (s_1 : (List (Int × Int))) =>
 (bi (bi (rgM (x_3 + 1) a0_n) fun l_6 => (nx (lcM (fun (y_5 : Int) => (pu true)) (fun (y_5 : Int) => (pu (x_3, y_5))) l_6 []))) fun (x_7 : (List (Int × Int))) =>
 (bi (catM s_1 x_7) fun (pairs_4 : (List (Int × Int))) =>
 (pu pairs_4)))) l_8 ([] : (List (Int × Int)))) fun (s_1 : (List (Int × Int))) =>
 (pu (a0_n, s_1)))
theorem tf__law_chain (a0_n : Int) : TFn W__law_chain [tI a0_n] (t__law_chain a0_n) (tP tI (tT (tP tI tI))) := by
  unfold W__law_chain w__law_chain t__law_chain
  exact tf_run (ts_setOP 1 (v := (tL (tP tI tI)) ([] : (List (Int × Int)))) (tp_lst tpa_nil (len_ok 0 rfl (by decide)))
 (ts_forM (enc := tI) (mk := (fun (s_1 : (List (Int × Int))) (j_2 : Jk) => [some (tI a0_n, false), some ((tL (tP tI tI)) s_1, true), j_2 2, none])) (ub := (fun x_3 s_1 j_2 => [some (tI a0_n, false), some ((tL (tP tI tI)) s_1, true), some (tI x_3, false), none])) (s0 := ([] : (List (Int × Int)))) (ti_rg1 (i := a0_n) (tp_varW 0 (v := tI a0_n) rfl)) rfl (fun x_3 s_1 j_2 => rfl)
 (fun x_3 s_1 j_2 => (ts_nx (ts_ext 1 (enc := (tP tI tI)) (l := s_1) rfl (tg_lcM (e := tI) (eb := (tP tI tI)) (ue := (fun y_5 => [some (tI a0_n, false), some ((tL (tP tI tI)) s_1, true), some (tI x_3, false), some (tI y_5, false)])) (ti_rg2 (i := (x_3 + 1)) (j := a0_n) (tp_bin (a := x_3) (b := 1) o_add (tp_varW 2 (v := tI x_3) rfl) tp_c) (tp_varW 0 (v := tI a0_n) rfl)) (fun y_5 => rfl) (fun y_5 => (TG.pu (enc := id) tp_yes)) (fun y_5 => (TG.pu (enc := (tP tI tI)) (a := (x_3, y_5)) (tp_tup (tpa_cons (v := tI x_3) (tp_var 2 (v := tI x_3) rfl) (tpa_cons (v := tI y_5) (tp_var 3 (v := tI y_5) rfl) tpa_nil)) (len_ok 2 rfl (by decide)))))) (fun pairs_4 =>
 (ts_next (nx_L (s := pairs_4) rfl))))))
 (fun s_1 j_2 => (ts_retDP (a := (a0_n, s_1)) (tp_tup (tpa_cons (v := tI a0_n) (tp_var 0 (v := tI a0_n) rfl) (tpa_cons (v := (tT (tP tI tI)) s_1) (tp_L (l_tuple seqL s_1) (tpa_cons (v := (tL (tP tI tI)) s_1) (tp_varW 1 (v := (tL (tP tI tI)) s_1) rfl) tpa_nil)) tpa_nil)) (len_ok 2 rfl (by decide)))))))
@[irreducible] def t__law_is_led (a0_order_so : (Int × (List (Int × Int)))) (a1_x : Int) (a2_y : Int) : M Bool :=
 (pu ((decide (a1_x = a2_y)) || (memB (a1_x, a2_y) a0_order_so.2)))
theorem tf__law_is_led (a0_order_so : (Int × (List (Int × Int)))) (a1_x : Int) (a2_y : Int) : TFn W__law_is_led [(tP tI (tX (tP tI tI))) a0_order_so, tI a1_x, tI a2_y] (t__law_is_led a0_order_so a1_x a2_y) Ty.tB := by
  unfold W__law_is_led w__law_is_led t__law_is_led
  exact tf_run (ts_retDP (a := ((decide (a1_x = a2_y)) || (memB (a1_x, a2_y) a0_order_so.2))) (tp_orV (b := (decide (a1_x = a2_y))) (c := (memB (a1_x, a2_y) a0_order_so.2)) (tp_bin (a := a1_x) (b := a2_y) (o_eq cmp_I (by decide)) (tp_varW 1 (v := tI a1_x) rfl) (tp_varW 2 (v := tI a2_y) rfl)) (tp_bin (a := (a1_x, a2_y)) (b := a0_order_so.2) (o_inXm (cmp_P cmp_I cmp_I) (by decide)) (tp_tup (tpa_cons (v := tI a1_x) (tp_var 1 (v := tI a1_x) rfl) (tpa_cons (v := tI a2_y) (tp_var 2 (v := tI a2_y) rfl) tpa_nil)) (len_ok 2 rfl (by decide))) (tp_snd (p := a0_order_so) (tp_varW 0 (v := (tP tI (tX (tP tI tI))) a0_order_so) rfl)))))
@[irreducible] def t__law_is_loose (a0_order_so : (Int × (List (Int × Int)))) (a1_left : (List Int)) (a2_x : Int) : M Bool :=
 (bi (pu (List.map (fun (y_1 : Int) => y_1) (List.filter (fun (y_1 : Int) => (memB (y_1, a2_x) a0_order_so.2)) a1_left))) fun (low_2 : (List Int)) =>
 (bi (nx (lcM (fun (y_3 : Int) => (bi (nx (lcM (fun (z_4 : Int) => (bi (t__law_is_led a0_order_so z_4 y_3) fun c => pu (!c))) (fun (z_4 : Int) => (pu z_4)) low_2 [])) fun a_5 => (pu (decide (a_5 = ([] : (List Int))))))) (fun (y_3 : Int) => (pu y_3)) low_2 [])) fun a_7 => (pu (decide (a_7 ≠ ([] : (List Int)))))))
theorem tf__law_is_loose (a0_order_so : (Int × (List (Int × Int)))) (a1_left : (List Int)) (a2_x : Int) : TFn W__law_is_loose [(tP tI (tX (tP tI tI))) a0_order_so, (tL tI) a1_left, tI a2_x] (t__law_is_loose a0_order_so a1_left a2_x) Ty.tB := by
  unfold W__law_is_loose w__law_is_loose t__law_is_loose
  exact tf_run (ts_set 3 (enc := (tL tI)) (TG.pu (enc := (tL tI)) (a := (List.map (fun (y_1 : Int) => y_1) (List.filter (fun (y_1 : Int) => (memB (y_1, a2_x) a0_order_so.2)) a1_left))) (tp_lc (e := tI) (eb := tI) (ue := (fun y_1 => [some ((tP tI (tX (tP tI tI))) a0_order_so, false), some ((tL tI) a1_left, false), some (tI a2_x, false), none, some (tI y_1, false), none])) (xs := a1_left) (k := fun y_1 => (memB (y_1, a2_x) a0_order_so.2)) (f := fun y_1 => y_1) (ti_seq (a := a1_left) seqL (tp_varW 1 (v := (tL tI) a1_left) rfl)) (fun y_1 => rfl) (fun y_1 => (tp_B (b := (memB (y_1, a2_x) a0_order_so.2)) (tp_bin (a := (y_1, a2_x)) (b := a0_order_so.2) (o_inXm (cmp_P cmp_I cmp_I) (by decide)) (tp_tup (tpa_cons (v := tI y_1) (tp_var 4 (v := tI y_1) rfl) (tpa_cons (v := tI a2_x) (tp_var 2 (v := tI a2_x) rfl) tpa_nil)) (len_ok 2 rfl (by decide))) (tp_snd (p := a0_order_so) (tp_varW 0 (v := (tP tI (tX (tP tI tI))) a0_order_so) rfl))))) (fun y_1 => (tp_var 4 (v := tI y_1) rfl)))) (fun low_2 =>
 (ts_retD (tg_binMP (b := ([] : (List Int))) (O2P.m (o_ne (cmp_L cmp_I) (by decide))) (tg_lcP (e := tI) (eb := tI) (ue := (fun y_3 => [some ((tP tI (tX (tP tI tI))) a0_order_so, false), some ((tL tI) a1_left, false), some (tI a2_x, false), some ((tL tI) low_2, false), some (tI y_3, false), none])) (xs := low_2) (ti_seq (a := low_2) seqL (tp_varW 3 (v := (tL tI) low_2) rfl)) (fun y_3 => rfl) (fun y_3 => (tg_B (tg_binMP (b := ([] : (List Int))) (O2P.m (o_eq (cmp_L cmp_I) (by decide))) (tg_lcP (e := tI) (eb := tI) (ue := (fun z_4 => [some ((tP tI (tX (tP tI tI))) a0_order_so, false), some ((tL tI) a1_left, false), some (tI a2_x, false), some ((tL tI) low_2, false), some (tI y_3, false), some (tI z_4, false)])) (xs := low_2) (ti_seq (a := low_2) seqL (tp_varW 3 (v := (tL tI) low_2) rfl)) (fun z_4 => rfl) (fun z_4 => (tg_nott (tg_truB (tg_call (tf__law_is_led a0_order_so z_4 y_3) (tpa_cons (v := (tP tI (tX (tP tI tI))) a0_order_so) (tp_var 0 (v := (tP tI (tX (tP tI tI))) a0_order_so) rfl) (tpa_cons (v := tI z_4) (tp_var 5 (v := tI z_4) rfl) (tpa_cons (v := tI y_3) (tp_var 4 (v := tI y_3) rfl) tpa_nil))) rfl)))) (fun z_4 => (TG.pu (enc := tI) (a := z_4) (tp_var 5 (v := tI z_4) rfl)))) (tp_lst tpa_nil (len_ok 0 rfl (by decide)))))) (fun y_3 => (TG.pu (enc := tI) (a := y_3) (tp_var 4 (v := tI y_3) rfl)))) (tp_lst tpa_nil (len_ok 0 rfl (by decide)))))))
@[irreducible] def t__law_bared (a0_order_so : (Int × (List (Int × Int)))) (a1_left : (List Int)) : M (List Int) :=
 (bi (rgM 0 a0_order_so.1) fun l_11 => bi (forM (fun (turn_3 : Int) (s_1 : (List Int)) =>
 (bi (nx (lcM (fun (x_4 : Int) => (t__law_is_loose a0_order_so s_1 x_4)) (fun (x_4 : Int) => (pu x_4)) s_1 [])) fun (loose_5 : (List Int)) =>
 (if (decide (loose_5 ≠ ([] : (List Int)))) = true then
 (bi (nx (lcM (fun (x_6 : Int) => (bi (ixM loose_5 0) fun b_8 => (pu (decide (x_6 ≠ b_8))))) (fun (x_6 : Int) => (pu x_6)) s_1 [])) fun (left_9 : (List Int)) =>
 (pu left_9))
 else (pu s_1)))) l_11 a1_left) fun (s_1 : (List Int)) =>
 (sortIM s_1))
theorem tf__law_bared (a0_order_so : (Int × (List (Int × Int)))) (a1_left : (List Int)) : TFn W__law_bared [(tP tI (tX (tP tI tI))) a0_order_so, (tL tI) a1_left] (t__law_bared a0_order_so a1_left) (tT tI) := by
  unfold W__law_bared w__law_bared t__law_bared
  exact tf_run (ts_forM (enc := tI) (mk := (fun (s_1 : (List Int)) (j_2 : Jk) => [some ((tP tI (tX (tP tI tI))) a0_order_so, false), some ((tL tI) s_1, false), j_2 2, j_2 3, none])) (ub := (fun turn_3 s_1 j_2 => [some ((tP tI (tX (tP tI tI))) a0_order_so, false), some ((tL tI) s_1, false), some (tI turn_3, false), j_2 3, none])) (s0 := a1_left) (ti_rg1 (i := a0_order_so.1) (tp_fst (p := a0_order_so) (tp_varW 0 (v := (tP tI (tX (tP tI tI))) a0_order_so) rfl))) rfl (fun turn_3 s_1 j_2 => rfl)
 (fun turn_3 s_1 j_2 => (ts_set 3 (enc := (tL tI)) (tg_lcP (e := tI) (eb := tI) (ue := (fun x_4 => [some ((tP tI (tX (tP tI tI))) a0_order_so, false), some ((tL tI) s_1, false), some (tI turn_3, false), j_2 3, some (tI x_4, false)])) (xs := s_1) (ti_seq (a := s_1) seqL (tp_varW 1 (v := (tL tI) s_1) rfl)) (fun x_4 => rfl) (fun x_4 => (tg_truB (tg_call (tf__law_is_loose a0_order_so s_1 x_4) (tpa_cons (v := (tP tI (tX (tP tI tI))) a0_order_so) (tp_var 0 (v := (tP tI (tX (tP tI tI))) a0_order_so) rfl) (tpa_cons (v := (tL tI) s_1) (tp_var 1 (v := (tL tI) s_1) rfl) (tpa_cons (v := tI x_4) (tp_var 4 (v := tI x_4) rfl) tpa_nil))) rfl))) (fun x_4 => (TG.pu (enc := tI) (a := x_4) (tp_var 4 (v := tI x_4) rfl)))) (fun loose_5 =>
 (ts_ifeP (c := (decide (loose_5 ≠ ([] : (List Int))))) (tp_B (b := (decide (loose_5 ≠ ([] : (List Int))))) (tp_bin (a := loose_5) (b := ([] : (List Int))) (o_ne (cmp_L cmp_I) (by decide)) (tp_varW 3 (v := (tL tI) loose_5) rfl) (tp_lst tpa_nil (len_ok 0 rfl (by decide)))))
 (ts_nx (ts_set 1 (enc := (tL tI)) (tg_lcP (e := tI) (eb := tI) (ue := (fun x_6 => [some ((tP tI (tX (tP tI tI))) a0_order_so, false), some ((tL tI) s_1, false), some (tI turn_3, false), some ((tL tI) loose_5, false), some (tI x_6, false)])) (xs := s_1) (ti_seq (a := s_1) seqL (tp_varW 1 (v := (tL tI) s_1) rfl)) (fun x_6 => rfl) (fun x_6 => (tg_B (tg_binPM (a := x_6) (O2P.m (o_ne cmp_I (by decide))) (tp_varW 4 (v := tI x_6) rfl) (tg_binPP (a := loose_5) (b := 0) (o_ix seqL) (tp_varW 3 (v := (tL tI) loose_5) rfl) tp_c)))) (fun x_6 => (TG.pu (enc := tI) (a := x_6) (tp_var 4 (v := tI x_6) rfl)))) (fun left_9 =>
 (ts_next (nx_L (s := left_9) rfl)))))
 (ts_next (nx_L (s := s_1) rfl))))))
 (fun s_1 j_2 => (ts_retD (tg_L1 (eb := (tT tI)) (fun z_10 => l_tuple seqL z_10) (tga_last (tg_LP (l_sortedI s_1) (tpa_cons (v := (tL tI) s_1) (tp_varW 1 (v := (tL tI) s_1) rfl) tpa_nil)) tpa_nil)))))
@[irreducible] def t__law_leads (a0_order_so : (Int × (List (Int × Int)))) (a1_due : (List Int)) : M Bool :=
 (bi (t_bared_leading a0_order_so) fun (told_1 : (List Int)) =>
 (bi (pu ([] : (List (List Int)))) fun (far_2 : (List (List Int))) =>
 (bi (rgM 0 a0_order_so.1) fun l_25 => bi (forM (fun (x_5 : Int) (s_3 : (List (List Int))) =>
 (bi (nx (lcM (fun (y_6 : Int) => (t__law_is_led a0_order_so y_6 x_5)) (fun (y_6 : Int) => (pu y_6)) a1_due [])) fun (low_7 : (List Int)) =>
 (bi (nx (lcM (fun (y_9 : Int) => (bi (nx (lcM (fun (z_10 : Int) => (bi (t__law_is_led a0_order_so z_10 y_9) fun c => pu (!c))) (fun (z_10 : Int) => (pu z_10)) low_7 [])) fun a_11 => (pu (decide (a_11 = ([] : (List Int))))))) (fun (y_9 : Int) => (pu y_9)) low_7 [])) fun (x_13 : (List Int)) =>
 (bi (appM s_3 x_13) fun (far_8 : (List (List Int))) =>
 (pu far_8))))) l_25 far_2) fun (s_3 : (List (List Int))) =>
 (if (decide ((List.map (fun (some_14 : (List Int)) => some_14) (List.filter (fun (some_14 : (List Int)) => (decide (((List.length some_14 : Nat) : Int) ≠ 1))) s_3)) ≠ ([] : (List (List Int))))) = true then
 (pu false)
 else
 (bi (nx (lcM (fun (some_15 : (List Int)) => (pu true)) (fun (some_15 : (List Int)) => (ixM some_15 0)) s_3 [])) fun (row_17 : (List Int)) =>
 (bi (bi (bi (bi (bi (t_bared_leading a0_order_so) fun x => bi (t_need_leading a0_order_so a0_order_so told_1) fun y => pu (x, y)) fun z_18 => pu [told_1, z_18.1, z_18.2]) fun z_19 => t__law_like z_19 [row_17, row_17, row_17]) fun c => pu (!c)) fun c => if c = true then
 (pu false)
 else
 (bi (nx (lcM (fun (x_20 : Int) => (bi (ixM told_1 x_20) fun a_21 => (pu (decide (a_21 ≠ x_20))))) (fun (x_20 : Int) => (pu x_20)) a1_due [])) fun a_23 => (pu (decide (a_23 = ([] : (List Int))))))))))))
theorem tf__law_leads (a0_order_so : (Int × (List (Int × Int)))) (a1_due : (List Int)) : TFn W__law_leads [(tP tI (tX (tP tI tI))) a0_order_so, (tT tI) a1_due] (t__law_leads a0_order_so a1_due) Ty.tB := by
  unfold W__law_leads w__law_leads t__law_leads
  exact tf_run (ts_parG (o1 := false) (o2 := true) 2 3 (enc := (tT tI)) (encb := (tL (tL tI))) (tg_call (tf_bared_leading a0_order_so) (tpa_cons (v := (tP tI (tX (tP tI tI))) a0_order_so) (tp_var 0 (v := (tP tI (tX (tP tI tI))) a0_order_so) rfl) tpa_nil) rfl) (TG.pu (enc := (tL (tL tI))) (a := ([] : (List (List Int)))) (tp_lst tpa_nil (len_ok 0 rfl (by decide)))) (fun told_1 far_2 =>
 (ts_forM (enc := tI) (mk := (fun (s_3 : (List (List Int))) (j_4 : Jk) => [some ((tP tI (tX (tP tI tI))) a0_order_so, false), some ((tT tI) a1_due, false), some ((tT tI) told_1, false), some ((tL (tL tI)) s_3, true), j_4 4, j_4 5, none, none, none, none])) (ub := (fun x_5 s_3 j_4 => [some ((tP tI (tX (tP tI tI))) a0_order_so, false), some ((tT tI) a1_due, false), some ((tT tI) told_1, false), some ((tL (tL tI)) s_3, true), some (tI x_5, false), j_4 5, none, none, none, none])) (s0 := far_2) (ti_rg1 (i := a0_order_so.1) (tp_fst (p := a0_order_so) (tp_varW 0 (v := (tP tI (tX (tP tI tI))) a0_order_so) rfl))) rfl (fun x_5 s_3 j_4 => rfl)
 (fun x_5 s_3 j_4 => (ts_set 5 (enc := (tL tI)) (tg_lcP (e := tI) (eb := tI) (ue := (fun y_6 => [some ((tP tI (tX (tP tI tI))) a0_order_so, false), some ((tT tI) a1_due, false), some ((tT tI) told_1, false), some ((tL (tL tI)) s_3, true), some (tI x_5, false), j_4 5, some (tI y_6, false), none, none, none])) (xs := a1_due) (ti_seq (a := a1_due) seqT (tp_varW 1 (v := (tT tI) a1_due) rfl)) (fun y_6 => rfl) (fun y_6 => (tg_truB (tg_call (tf__law_is_led a0_order_so y_6 x_5) (tpa_cons (v := (tP tI (tX (tP tI tI))) a0_order_so) (tp_var 0 (v := (tP tI (tX (tP tI tI))) a0_order_so) rfl) (tpa_cons (v := tI y_6) (tp_var 6 (v := tI y_6) rfl) (tpa_cons (v := tI x_5) (tp_var 4 (v := tI x_5) rfl) tpa_nil))) rfl))) (fun y_6 => (TG.pu (enc := tI) (a := y_6) (tp_var 6 (v := tI y_6) rfl)))) (fun low_7 =>
 (ts_nx (ts_app 3 (enc := (tL tI)) (l := s_3) rfl (tg_lcP (e := tI) (eb := tI) (ue := (fun y_9 => [some ((tP tI (tX (tP tI tI))) a0_order_so, false), some ((tT tI) a1_due, false), some ((tT tI) told_1, false), some ((tL (tL tI)) s_3, true), some (tI x_5, false), some ((tL tI) low_7, false), some (tI y_9, false), none, none, none])) (xs := low_7) (ti_seq (a := low_7) seqL (tp_varW 5 (v := (tL tI) low_7) rfl)) (fun y_9 => rfl) (fun y_9 => (tg_B (tg_binMP (b := ([] : (List Int))) (O2P.m (o_eq (cmp_L cmp_I) (by decide))) (tg_lcP (e := tI) (eb := tI) (ue := (fun z_10 => [some ((tP tI (tX (tP tI tI))) a0_order_so, false), some ((tT tI) a1_due, false), some ((tT tI) told_1, false), some ((tL (tL tI)) s_3, true), some (tI x_5, false), some ((tL tI) low_7, false), some (tI y_9, false), some (tI z_10, false), none, none])) (xs := low_7) (ti_seq (a := low_7) seqL (tp_varW 5 (v := (tL tI) low_7) rfl)) (fun z_10 => rfl) (fun z_10 => (tg_nott (tg_truB (tg_call (tf__law_is_led a0_order_so z_10 y_9) (tpa_cons (v := (tP tI (tX (tP tI tI))) a0_order_so) (tp_var 0 (v := (tP tI (tX (tP tI tI))) a0_order_so) rfl) (tpa_cons (v := tI z_10) (tp_var 7 (v := tI z_10) rfl) (tpa_cons (v := tI y_9) (tp_var 6 (v := tI y_9) rfl) tpa_nil))) rfl)))) (fun z_10 => (TG.pu (enc := tI) (a := z_10) (tp_var 7 (v := tI z_10) rfl)))) (tp_lst tpa_nil (len_ok 0 rfl (by decide)))))) (fun y_9 => (TG.pu (enc := tI) (a := y_9) (tp_var 6 (v := tI y_9) rfl)))) (fun far_8 =>
 (ts_next (nx_L (s := far_8) rfl))))))))
 (fun s_3 j_4 => (ts_ifxP (c := (decide ((List.map (fun (some_14 : (List Int)) => some_14) (List.filter (fun (some_14 : (List Int)) => (decide (((List.length some_14 : Nat) : Int) ≠ 1))) s_3)) ≠ ([] : (List (List Int)))))) ex_D (tp_B (b := (decide ((List.map (fun (some_14 : (List Int)) => some_14) (List.filter (fun (some_14 : (List Int)) => (decide (((List.length some_14 : Nat) : Int) ≠ 1))) s_3)) ≠ ([] : (List (List Int)))))) (tp_bin (a := (List.map (fun (some_14 : (List Int)) => some_14) (List.filter (fun (some_14 : (List Int)) => (decide (((List.length some_14 : Nat) : Int) ≠ 1))) s_3))) (b := ([] : (List (List Int)))) (o_ne (cmp_L (cmp_L cmp_I)) (by decide)) (tp_lc (e := (tL tI)) (eb := (tL tI)) (ue := (fun some_14 => [some ((tP tI (tX (tP tI tI))) a0_order_so, false), some ((tT tI) a1_due, false), some ((tT tI) told_1, false), some ((tL (tL tI)) s_3, true), j_4 4, j_4 5, none, none, some ((tL tI) some_14, false), none])) (xs := s_3) (k := fun some_14 => (decide (((List.length some_14 : Nat) : Int) ≠ 1))) (f := fun some_14 => some_14) (ti_seq (a := s_3) seqL (tp_varW 3 (v := (tL (tL tI)) s_3) rfl)) (fun some_14 => rfl) (fun some_14 => (tp_B (b := (decide (((List.length some_14 : Nat) : Int) ≠ 1))) (tp_bin (a := ((List.length some_14 : Nat) : Int)) (b := 1) (o_ne cmp_I (by decide)) (tp_L (l_len seqL some_14) (tpa_cons (v := (tL tI) some_14) (tp_varW 8 (v := (tL tI) some_14) rfl) tpa_nil)) tp_c))) (fun some_14 => (tp_var 8 (v := (tL tI) some_14) rfl))) (tp_lst tpa_nil (len_ok 0 rfl (by decide)))))
 (ts_retDP (a := false) tp_c)
 (ts_nextS (ts_set 9 (enc := (tT tI)) (tg_L1 (eb := (tT tI)) (fun z_16 => l_tuple seqL z_16) (tga_last (tg_lcP (e := (tL tI)) (eb := tI) (ue := (fun some_15 => [some ((tP tI (tX (tP tI tI))) a0_order_so, false), some ((tT tI) a1_due, false), some ((tT tI) told_1, false), some ((tL (tL tI)) s_3, true), j_4 4, j_4 5, none, none, some ((tL tI) some_15, false), none])) (xs := s_3) (ti_seq (a := s_3) seqL (tp_varW 3 (v := (tL (tL tI)) s_3) rfl)) (fun some_15 => rfl) (fun some_15 => (TG.pu (enc := id) tp_yes)) (fun some_15 => (tg_binPP (a := some_15) (b := 0) (o_ix seqL) (tp_varW 8 (v := (tL tI) some_15) rfl) tp_c))) tpa_nil)) (fun row_17 =>
 (ts_ifx ex_D (tg_nott (tg_truB (tg_callM (fun (z_19 : (List (List Int))) => tf__law_like z_19 [row_17, row_17, row_17]) (tga_last (tg_lst (f := fun z_18 => [told_1, z_18.1, z_18.2]) (eb := (tL (tT tI))) (tga_consP (v := (tT tI) told_1) (tp_var 2 (v := (tT tI) told_1) rfl) (tga_consM (tg_callK (k := 0) (j := 1) (is := [0]) (tf_bared_leading a0_order_so) tpa_nil (tpa_cons (v := (tP tI (tX (tP tI tI))) a0_order_so) (tp_var 0 (v := (tP tI (tX (tP tI tI))) a0_order_so) rfl) tpa_nil) rfl rfl) (tga_last (tg_call (tf_need_leading a0_order_so a0_order_so told_1) (tpa_cons (v := (tP tI (tX (tP tI tI))) a0_order_so) (tp_var 0 (v := (tP tI (tX (tP tI tI))) a0_order_so) rfl) (tpa_cons (v := (tP tI (tX (tP tI tI))) a0_order_so) (tp_var 0 (v := (tP tI (tX (tP tI tI))) a0_order_so) rfl) (tpa_cons (v := (tT tI) told_1) (tp_var 2 (v := (tT tI) told_1) rfl) tpa_nil))) rfl) tpa_nil))) (fun _ => len_ok 3 rfl (by decide)) (fun _ => rfl)) (tpa_cons (v := (tL (tT tI)) [row_17, row_17, row_17]) (tp_lst (tpa_cons (v := (tT tI) row_17) (tp_var 9 (v := (tT tI) row_17) rfl) (tpa_cons (v := (tT tI) row_17) (tp_var 9 (v := (tT tI) row_17) rfl) (tpa_cons (v := (tT tI) row_17) (tp_var 9 (v := (tT tI) row_17) rfl) tpa_nil))) (len_ok 3 rfl (by decide))) tpa_nil)) (fun _ => rfl))))
 (ts_retDP (a := false) tp_c)
 (ts_nextS (ts_retD (tg_binMP (b := ([] : (List Int))) (O2P.m (o_eq (cmp_L cmp_I) (by decide))) (tg_lcP (e := tI) (eb := tI) (ue := (fun x_20 => [some ((tP tI (tX (tP tI tI))) a0_order_so, false), some ((tT tI) a1_due, false), some ((tT tI) told_1, false), some ((tL (tL tI)) s_3, true), some (tI x_20, false), j_4 5, none, none, none, some ((tT tI) row_17, false)])) (xs := a1_due) (ti_seq (a := a1_due) seqT (tp_varW 1 (v := (tT tI) a1_due) rfl)) (fun x_20 => rfl) (fun x_20 => (tg_B (tg_binMP (b := x_20) (O2P.m (o_ne cmp_I (by decide))) (tg_binPP (a := told_1) (b := x_20) (o_ix seqT) (tp_varW 2 (v := (tT tI) told_1) rfl) (tp_varW 4 (v := tI x_20) rfl)) (tp_varW 4 (v := tI x_20) rfl)))) (fun x_20 => (TG.pu (enc := tI) (a := x_20) (tp_var 4 (v := tI x_20) rfl)))) (tp_lst tpa_nil (len_ok 0 rfl (by decide)))))))))))))))
@[irreducible] def t__law_right (a0_m : Unit) (a1_order_so : (Int × (List (Int × Int)))) : M Bool :=
 (bi (rgM 0 a1_order_so.1) fun (every_1 : (List Int)) =>
 (bi (nx (lcM (fun (x_2 : Int) => (t__law_is_loose a1_order_so every_1 x_2)) (fun (x_2 : Int) => (pu x_2)) every_1 [])) fun (loose_4 : (List Int)) =>
 (bi (bi (bi (bi (bi (t_loose_spots a1_order_so) fun x => bi (t_loose_spots a1_order_so) fun y => pu (x, y)) fun z_5 => pu [z_5.1, z_5.2]) fun z_6 => t__law_like z_6 [loose_4, loose_4]) fun c => pu (!c)) fun c => if c = true then
 (pu false)
 else
 (bi (t__law_bared a1_order_so every_1) fun (due_7 : (List Int)) =>
 (bi (t_bared a1_order_so) fun (left_8 : (List Int)) =>
 (bi (bi (bi (bi (t_bared a1_order_so) fun z_9 => pu [left_8, z_9]) fun z_10 => t__law_like z_10 [due_7, due_7]) fun c => pu (!c)) fun c => if c = true then
 (pu false)
 else
 (bi (rgM 0 3) fun l_27 => thr (forX (fun (turn_13 : Int) (s_11 : Unit) =>
 (bi (bi (bi (t__law_shuffled a0_m a1_order_so.1) fun z_15 => t__law_bared a1_order_so z_15) fun a_16 => (pu (decide (a_16 ≠ due_7)))) fun c => if c = true then
 (pu (Ctl.rt false))
 else (pu (Ctl.nx ())))) l_27 ()) (fun (s_11 : Unit) =>
 (bi (t_part_order a1_order_so left_8) fun (part_18 : (Int × (List (Int × Int)))) =>
 (bi (bi (bi (bi (bi (bi (t_loose_spots part_18) fun x => bi (t_bared part_18) fun y => pu (x, y)) fun z_19 => pu [z_19.1, z_19.2]) fun x => bi (bi (rgM 0 ((List.length left_8 : Nat) : Int)) fun z_21 => pu [([] : (List Int)), z_21]) fun y => pu (x, y)) fun z_22 => t__law_like z_22.1 z_22.2) fun c => pu (!c)) fun c => if c = true then
 (pu false)
 else
 (bi (t__law_leads a1_order_so due_7) fun c => if c = true then (bi (bi (t_pieces part_18) fun z_23 => pu ((List.length z_23 : Nat) : Int)) fun a_25 => bi (bi (t_pieces a1_order_so) fun z_24 => pu ((List.length z_24 : Nat) : Int)) fun b_26 => (pu (decide (a_25 = b_26)))) else (pu false))))) id)))))))
theorem tf__law_right (a0_m : Unit) (a1_order_so : (Int × (List (Int × Int)))) : TFn W__law_right [tG a0_m, (tP tI (tX (tP tI tI))) a1_order_so] (t__law_right a0_m a1_order_so) Ty.tB := by
  unfold W__law_right w__law_right t__law_right
  exact tf_run (ts_setP 2 (v := tI a1_order_so.1) (tp_fst (p := a1_order_so) (tp_varW 1 (v := (tP tI (tX (tP tI tI))) a1_order_so) rfl))
 (ts_set 3 (enc := (tL tI)) (tg_lstRg (i := a1_order_so.1) (tp_varW 2 (v := tI a1_order_so.1) rfl)) (fun every_1 =>
 (ts_set 4 (enc := (tT tI)) (tg_L1 (eb := (tT tI)) (fun z_3 => l_tuple seqL z_3) (tga_last (tg_lcP (e := tI) (eb := tI) (ue := (fun x_2 => [some (tG a0_m, false), some ((tP tI (tX (tP tI tI))) a1_order_so, false), some (tI a1_order_so.1, false), some ((tL tI) every_1, false), none, some (tI x_2, false), none, none, none, none])) (xs := every_1) (ti_seq (a := every_1) seqL (tp_varW 3 (v := (tL tI) every_1) rfl)) (fun x_2 => rfl) (fun x_2 => (tg_truB (tg_call (tf__law_is_loose a1_order_so every_1 x_2) (tpa_cons (v := (tP tI (tX (tP tI tI))) a1_order_so) (tp_var 1 (v := (tP tI (tX (tP tI tI))) a1_order_so) rfl) (tpa_cons (v := (tL tI) every_1) (tp_var 3 (v := (tL tI) every_1) rfl) (tpa_cons (v := tI x_2) (tp_var 5 (v := tI x_2) rfl) tpa_nil))) rfl))) (fun x_2 => (TG.pu (enc := tI) (a := x_2) (tp_var 5 (v := tI x_2) rfl)))) tpa_nil)) (fun loose_4 =>
 (ts_ifx ex_D (tg_nott (tg_truB (tg_callM (fun (z_6 : (List (List Int))) => tf__law_like z_6 [loose_4, loose_4]) (tga_last (tg_lst (f := fun z_5 => [z_5.1, z_5.2]) (eb := (tL (tT tI))) (tga_consM (tg_call (tf_loose_spots a1_order_so) (tpa_cons (v := (tP tI (tX (tP tI tI))) a1_order_so) (tp_var 1 (v := (tP tI (tX (tP tI tI))) a1_order_so) rfl) tpa_nil) rfl) (tga_last (tg_callK (k := 0) (j := 1) (is := [0]) (tf_loose_spots a1_order_so) tpa_nil (tpa_cons (v := (tP tI (tX (tP tI tI))) a1_order_so) (tp_var 1 (v := (tP tI (tX (tP tI tI))) a1_order_so) rfl) tpa_nil) rfl rfl) tpa_nil)) (fun _ => len_ok 2 rfl (by decide)) (fun _ => rfl)) (tpa_cons (v := (tL (tT tI)) [loose_4, loose_4]) (tp_lst (tpa_cons (v := (tT tI) loose_4) (tp_var 4 (v := (tT tI) loose_4) rfl) (tpa_cons (v := (tT tI) loose_4) (tp_var 4 (v := (tT tI) loose_4) rfl) tpa_nil)) (len_ok 2 rfl (by decide))) tpa_nil)) (fun _ => rfl))))
 (ts_retDP (a := false) tp_c)
 (ts_nextS (ts_par 6 7 (enc := (tT tI)) (encb := (tT tI)) (tg_call (tf__law_bared a1_order_so every_1) (tpa_cons (v := (tP tI (tX (tP tI tI))) a1_order_so) (tp_var 1 (v := (tP tI (tX (tP tI tI))) a1_order_so) rfl) (tpa_cons (v := (tL tI) every_1) (tp_var 3 (v := (tL tI) every_1) rfl) tpa_nil)) rfl) (tg_call (tf_bared a1_order_so) (tpa_cons (v := (tP tI (tX (tP tI tI))) a1_order_so) (tp_var 1 (v := (tP tI (tX (tP tI tI))) a1_order_so) rfl) tpa_nil) rfl) (fun due_7 left_8 =>
 (ts_ifx ex_D (tg_nott (tg_truB (tg_callM (fun (z_10 : (List (List Int))) => tf__law_like z_10 [due_7, due_7]) (tga_last (tg_lst (f := fun z_9 => [left_8, z_9]) (eb := (tL (tT tI))) (tga_consP (v := (tT tI) left_8) (tp_var 7 (v := (tT tI) left_8) rfl) (tga_last (tg_callK (k := 0) (j := 1) (is := [0]) (tf_bared a1_order_so) tpa_nil (tpa_cons (v := (tP tI (tX (tP tI tI))) a1_order_so) (tp_var 1 (v := (tP tI (tX (tP tI tI))) a1_order_so) rfl) tpa_nil) rfl rfl) tpa_nil)) (fun _ => len_ok 2 rfl (by decide)) (fun _ => rfl)) (tpa_cons (v := (tL (tT tI)) [due_7, due_7]) (tp_lst (tpa_cons (v := (tT tI) due_7) (tp_var 6 (v := (tT tI) due_7) rfl) (tpa_cons (v := (tT tI) due_7) (tp_var 6 (v := (tT tI) due_7) rfl) tpa_nil)) (len_ok 2 rfl (by decide))) tpa_nil)) (fun _ => rfl))))
 (ts_retDP (a := false) tp_c)
 (ts_nextS (ts_forXM (enc := tI) (mk := (fun (s_11 : Unit) (j_12 : Jk) => [some (tG a0_m, false), some ((tP tI (tX (tP tI tI))) a1_order_so, false), some (tI a1_order_so.1, false), some ((tL tI) every_1, false), some ((tT tI) loose_4, false), none, some ((tT tI) due_7, false), some ((tT tI) left_8, false), j_12 8, none])) (ub := (fun turn_13 s_11 j_12 => [some (tG a0_m, false), some ((tP tI (tX (tP tI tI))) a1_order_so, false), some (tI a1_order_so.1, false), some ((tL tI) every_1, false), some ((tT tI) loose_4, false), none, some ((tT tI) due_7, false), some ((tT tI) left_8, false), some (tI turn_13, false), none])) (s0 := ()) (rr := id) rt_D (ti_rg1 (i := 3) tp_c) rfl (fun turn_13 s_11 j_12 => rfl)
 (fun turn_13 s_11 j_12 => (ts_ife (tg_B (tg_binMP (b := due_7) (O2P.m (o_ne (cmp_T cmp_I) (by decide))) (tg_callM (fun (z_15 : (List Int)) => tf__law_bared a1_order_so z_15) (tga_consP (v := (tP tI (tX (tP tI tI))) a1_order_so) (tp_var 1 (v := (tP tI (tX (tP tI tI))) a1_order_so) rfl) (tga_last (tg_L1 (eb := (tL tI)) (fun z_14 => l_list seqT z_14) (tga_last (tg_call (tf__law_shuffled a0_m a1_order_so.1) (tpa_cons (v := tG a0_m) (tp_var 0 (v := tG a0_m) rfl) (tpa_cons (v := tI a1_order_so.1) (tp_var 2 (v := tI a1_order_so.1) rfl) tpa_nil)) rfl) tpa_nil)) tpa_nil)) (fun _ => rfl)) (tp_varW 6 (v := (tT tI) due_7) rfl)))
 (ts_retP (f := Ctl.rt) (a := false) rt_X tp_c)
 (ts_next (nx_X (s := ()) rfl))))
 (fun s_11 j_12 => (ts_set 9 (enc := (tP tI (tT (tP tI tI)))) (tg_call (tf_part_order a1_order_so left_8) (tpa_cons (v := (tP tI (tX (tP tI tI))) a1_order_so) (tp_var 1 (v := (tP tI (tX (tP tI tI))) a1_order_so) rfl) (tpa_cons (v := (tT tI) left_8) (tp_var 7 (v := (tT tI) left_8) rfl) tpa_nil)) rfl) (fun part_18 =>
 (ts_ifx ex_D (tg_nott (tg_truB (tg_callM (fun (z_22 : (List (List Int)) × (List (List Int))) => tf__law_like z_22.1 z_22.2) (tga_consM (tg_lst (f := fun z_19 => [z_19.1, z_19.2]) (eb := (tL (tT tI))) (tga_consM (tg_call (tf_loose_spots'1 part_18) (tpa_cons (v := (tP tI (tT (tP tI tI))) part_18) (tp_var 9 (v := (tP tI (tT (tP tI tI))) part_18) rfl) tpa_nil) rfl) (tga_last (tg_call (tf_bared'1 part_18) (tpa_cons (v := (tP tI (tT (tP tI tI))) part_18) (tp_var 9 (v := (tP tI (tT (tP tI tI))) part_18) rfl) tpa_nil) rfl) tpa_nil)) (fun _ => len_ok 2 rfl (by decide)) (fun _ => rfl)) (tga_last (tg_lst (f := fun z_21 => [([] : (List Int)), z_21]) (eb := (tL (tT tI))) (tga_consP (v := (tT tI) ([] : (List Int))) (tp_tup tpa_nil (len_ok 0 rfl (by decide))) (tga_last (tg_L1 (eb := (tT tI)) (fun z_20 => l_tuple seqL z_20) (tga_last (tg_lstRg (i := ((List.length left_8 : Nat) : Int)) (tp_L (l_len seqT left_8) (tpa_cons (v := (tT tI) left_8) (tp_varW 7 (v := (tT tI) left_8) rfl) tpa_nil))) tpa_nil)) tpa_nil)) (fun _ => len_ok 2 rfl (by decide)) (fun _ => rfl)) tpa_nil)) (fun _ => rfl))))
 (ts_retDP (a := false) tp_c)
 (ts_nextS (ts_retD (tg_andV (tg_call (tf__law_leads a1_order_so due_7) (tpa_cons (v := (tP tI (tX (tP tI tI))) a1_order_so) (tp_var 1 (v := (tP tI (tX (tP tI tI))) a1_order_so) rfl) (tpa_cons (v := (tT tI) due_7) (tp_var 6 (v := (tT tI) due_7) rfl) tpa_nil)) rfl) (tg_binMM (O2P.m (o_eq cmp_I (by decide))) (tg_L (f := fun z_23 => ((List.length z_23 : Nat) : Int)) (eb := tI) (fun z_23 => l_len seqT z_23) (tga_last (tg_call (tf_pieces part_18) (tpa_cons (v := (tP tI (tT (tP tI tI))) part_18) (tp_var 9 (v := (tP tI (tT (tP tI tI))) part_18) rfl) tpa_nil) rfl) tpa_nil)) (tg_L (f := fun z_24 => ((List.length z_24 : Nat) : Int)) (eb := tI) (fun z_24 => l_len seqT z_24) (tga_last (tg_call (tf_pieces'1 a1_order_so) (tpa_cons (v := (tP tI (tX (tP tI tI))) a1_order_so) (tp_var 1 (v := (tP tI (tX (tP tI tI))) a1_order_so) rfl) tpa_nil) rfl) tpa_nil))))))))))))))))))))))
@[irreducible] def t__law_with_loose (a0_m : Unit) (a1_order_so : (Int × (List (Int × Int)))) : M (Int × (List (Int × Int))) :=
 (bi (dr a1_order_so.1) fun (x_1 : Int) =>
 (bi (bi (rgM 0 a1_order_so.1) fun l_3 => (nx (lcM (fun (y_2 : Int) => (t__law_is_led a1_order_so y_2 x_1)) (fun (y_2 : Int) => (pu (y_2, a1_order_so.1))) l_3 []))) fun (more_4 : (List (Int × Int))) =>
 (bi (catM a1_order_so.2 more_4) fun z_5 => t__law_closed (a1_order_so.1 + 1) z_5)))
theorem tf__law_with_loose (a0_m : Unit) (a1_order_so : (Int × (List (Int × Int)))) : TFn W__law_with_loose [tG a0_m, (tP tI (tX (tP tI tI))) a1_order_so] (t__law_with_loose a0_m a1_order_so) (tP tI (tX (tP tI tI))) := by
  unfold W__law_with_loose w__law_with_loose t__law_with_loose
  exact tf_run (ts_setP 2 (v := tI a1_order_so.1) (tp_fst (p := a1_order_so) (tp_varW 1 (v := (tP tI (tX (tP tI tI))) a1_order_so) rfl))
 (ts_set 3 (enc := tI) (tg_call (tf_draw a0_m a1_order_so.1) (tpa_cons (v := tG a0_m) (tp_var 0 (v := tG a0_m) rfl) (tpa_cons (v := tI a1_order_so.1) (tp_var 2 (v := tI a1_order_so.1) rfl) tpa_nil)) rfl) (fun x_1 =>
 (ts_set 4 (enc := (tL (tP tI tI))) (tg_lcM (e := tI) (eb := (tP tI tI)) (ue := (fun y_2 => [some (tG a0_m, false), some ((tP tI (tX (tP tI tI))) a1_order_so, false), some (tI a1_order_so.1, false), some (tI x_1, false), none, some (tI y_2, false)])) (ti_rg1 (i := a1_order_so.1) (tp_varW 2 (v := tI a1_order_so.1) rfl)) (fun y_2 => rfl) (fun y_2 => (tg_truB (tg_call (tf__law_is_led a1_order_so y_2 x_1) (tpa_cons (v := (tP tI (tX (tP tI tI))) a1_order_so) (tp_var 1 (v := (tP tI (tX (tP tI tI))) a1_order_so) rfl) (tpa_cons (v := tI y_2) (tp_var 5 (v := tI y_2) rfl) (tpa_cons (v := tI x_1) (tp_var 3 (v := tI x_1) rfl) tpa_nil))) rfl))) (fun y_2 => (TG.pu (enc := (tP tI tI)) (a := (y_2, a1_order_so.1)) (tp_tup (tpa_cons (v := tI y_2) (tp_var 5 (v := tI y_2) rfl) (tpa_cons (v := tI a1_order_so.1) (tp_var 2 (v := tI a1_order_so.1) rfl) tpa_nil)) (len_ok 2 rfl (by decide)))))) (fun more_4 =>
 (ts_retD (tg_callM (fun (z_5 : (List (Int × Int))) => tf__law_closed (a1_order_so.1 + 1) z_5) (tga_consP (v := tI (a1_order_so.1 + 1)) (tp_bin (a := a1_order_so.1) (b := 1) o_add (tp_varW 2 (v := tI a1_order_so.1) rfl) tp_c) (tga_last (tg_binPP (a := a1_order_so.2) (b := more_4) (o_catL (e := (tP tI tI))) (tp_L (l_list seqX a1_order_so.2) (tpa_cons (v := (tX (tP tI tI)) a1_order_so.2) (tp_snd (p := a1_order_so) (tp_varW 1 (v := (tP tI (tX (tP tI tI))) a1_order_so) rfl)) tpa_nil)) (tp_varW 4 (v := (tL (tP tI tI)) more_4) rfl)) tpa_nil)) (fun _ => rfl))))))))
@[irreducible] def t_law (a0_script : (List Int)) : M Bool :=
 (bi (rgM 0 (if (if ((List.length a0_script : Nat) : Int) < 4 then ((List.length a0_script : Nat) : Int) else 4) > 2 then (if ((List.length a0_script : Nat) : Int) < 4 then ((List.length a0_script : Nat) : Int) else 4) else 2)) fun l_17 => thr (forX (fun (turn_3 : Int) (s_1 : Unit) =>
 (bi (t__law_begun a0_script turn_3) fun (m_4 : Unit) =>
 (bi (t__law_drawn_order m_4 9) fun (order_so_5 : (Int × (List (Int × Int)))) =>
 (bi (bi (t__law_right m_4 order_so_5) fun c => pu (!c)) fun c => if c = true then
 (pu (Ctl.rt false))
 else
 (if (gGt order_so_5.1 0) = true then
 (bi (t__law_with_loose m_4 order_so_5) fun (far_6 : (Int × (List (Int × Int)))) =>
 (bi (bi (bi (t__law_right m_4 far_6) fun c => pu (!c)) fun c => if c = true then (pu true) else (bi (bi (bi (t_bared far_6) fun x => bi (t_bared order_so_5) fun y => pu (x, y)) fun z_7 => t__law_like'1 z_7.1 z_7.2) fun c => pu (!c))) fun c => if c = true then
 (pu (Ctl.rt false))
 else (pu (Ctl.nx ()))))
 else (pu (Ctl.nx ()))))))) l_17 ()) (fun (s_1 : Unit) =>
 (bi (pu (4, [(0, 2), (0, 3), (1, 2), (1, 3)])) fun (four_8 : (Int × (List (Int × Int)))) =>
 (bi (bi (bi (bi (t__law_chain 7) fun z_9 => t_bared z_9) fun x => bi (bi (t_bared (3, ([] : (List (Int × Int))))) fun x => bi (bi (t_bared four_8) fun x => bi (bi (t_loose_spots four_8) fun x => bi (t_bared (4, [(0, 1), (0, 2), (0, 3), (1, 3), (2, 3)])) fun y => pu (x, y)) fun y => pu (x, y)) fun y => pu (x, y)) fun y => pu (x, y)) fun z_10 => pu [z_10.1, z_10.2.1, z_10.2.2.1, z_10.2.2.2.1, z_10.2.2.2.2]) fun (told_11 : (List (List Int))) =>
 (bi (bi (bi (bi (bi (t__law_chain 4) fun z_12 => t_bared_leading z_12) fun x => bi (bi (t_bared_leading four_8) fun x => bi (bi (t_loose_spots (0, ([] : (List (Int × Int))))) fun x => bi (bi (t_bared (0, ([] : (List (Int × Int))))) fun x => bi (t_bared_leading (0, ([] : (List (Int × Int))))) fun y => pu (x, y)) fun y => pu (x, y)) fun y => pu (x, y)) fun y => pu (x, y)) fun z_13 => pu [z_13.1, z_13.2.1, z_13.2.2.1, z_13.2.2.2.1, z_13.2.2.2.2]) fun b_15 => (catM told_11 b_15)) fun (told_16 : (List (List Int))) =>
 (t__law_like told_16 [[0], [0, 1, 2], [0, 1, 2, 3], ([] : (List Int)), [0], [0, 0, 0, 0], [0, 1, 2, 3], ([] : (List Int)), ([] : (List Int)), ([] : (List Int))]))))) id)
theorem tf_law (a0_script : (List Int)) : TFn W_law [(tZ tI) a0_script] (t_law a0_script) Ty.tB := by
  unfold W_law w_law t_law
  exact tf_run (ts_forXM (enc := tI) (mk := (fun (s_1 : Unit) (j_2 : Jk) => [some ((tZ tI) a0_script, false), j_2 1, j_2 2, j_2 3, j_2 4, none, none])) (ub := (fun turn_3 s_1 j_2 => [some ((tZ tI) a0_script, false), some (tI turn_3, false), j_2 2, j_2 3, j_2 4, none, none])) (s0 := ()) (rr := id) rt_D (ti_rg1 (i := (if (if ((List.length a0_script : Nat) : Int) < 4 then ((List.length a0_script : Nat) : Int) else 4) > 2 then (if ((List.length a0_script : Nat) : Int) < 4 then ((List.length a0_script : Nat) : Int) else 4) else 2)) (tp_L (l_max2 2 (if ((List.length a0_script : Nat) : Int) < 4 then ((List.length a0_script : Nat) : Int) else 4)) (tpa_cons (v := tI 2) tp_c (tpa_cons (v := tI (if ((List.length a0_script : Nat) : Int) < 4 then ((List.length a0_script : Nat) : Int) else 4)) (tp_L (l_min2 4 ((List.length a0_script : Nat) : Int)) (tpa_cons (v := tI 4) tp_c (tpa_cons (v := tI ((List.length a0_script : Nat) : Int)) (tp_L (l_len seqZ a0_script) (tpa_cons (v := (tZ tI) a0_script) (tp_varW 0 (v := (tZ tI) a0_script) rfl) tpa_nil)) tpa_nil))) tpa_nil)))) rfl (fun turn_3 s_1 j_2 => rfl)
 (fun turn_3 s_1 j_2 => (ts_set 2 (enc := tG) (tg_call (tf__law_begun a0_script turn_3) (tpa_cons (v := (tZ tI) a0_script) (tp_var 0 (v := (tZ tI) a0_script) rfl) (tpa_cons (v := tI turn_3) (tp_var 1 (v := tI turn_3) rfl) tpa_nil)) rfl) (fun m_4 =>
 (ts_set 3 (enc := (tP tI (tX (tP tI tI)))) (tg_call (tf__law_drawn_order m_4 9) (tpa_cons (v := tG m_4) (tp_var 2 (v := tG m_4) rfl) (tpa_cons (v := tI 9) tp_c tpa_nil)) rfl) (fun order_so_5 =>
 (ts_ifx ex_X (tg_nott (tg_truB (tg_call (tf__law_right m_4 order_so_5) (tpa_cons (v := tG m_4) (tp_var 2 (v := tG m_4) rfl) (tpa_cons (v := (tP tI (tX (tP tI tI))) order_so_5) (tp_var 3 (v := (tP tI (tX (tP tI tI))) order_so_5) rfl) tpa_nil)) rfl)))
 (ts_retP (f := Ctl.rt) (a := false) rt_Xx tp_c)
 (ts_nextS (ts_ifeP (c := (gGt order_so_5.1 0)) (tp_B (b := (gGt order_so_5.1 0)) (tp_bin (a := order_so_5.1) (b := 0) (o_cmp gGt) (tp_fst (p := order_so_5) (tp_varW 3 (v := (tP tI (tX (tP tI tI))) order_so_5) rfl)) tp_c))
 (ts_set 4 (enc := (tP tI (tX (tP tI tI)))) (tg_call (tf__law_with_loose m_4 order_so_5) (tpa_cons (v := tG m_4) (tp_var 2 (v := tG m_4) rfl) (tpa_cons (v := (tP tI (tX (tP tI tI))) order_so_5) (tp_var 3 (v := (tP tI (tX (tP tI tI))) order_so_5) rfl) tpa_nil)) rfl) (fun far_6 =>
 (ts_ife (tg_or (tg_nott (tg_truB (tg_call (tf__law_right m_4 far_6) (tpa_cons (v := tG m_4) (tp_var 2 (v := tG m_4) rfl) (tpa_cons (v := (tP tI (tX (tP tI tI))) far_6) (tp_var 4 (v := (tP tI (tX (tP tI tI))) far_6) rfl) tpa_nil)) rfl))) (tg_nott (tg_truB (tg_callM (fun (z_7 : (List Int) × (List Int)) => tf__law_like'1 z_7.1 z_7.2) (tga_consM (tg_call (tf_bared far_6) (tpa_cons (v := (tP tI (tX (tP tI tI))) far_6) (tp_var 4 (v := (tP tI (tX (tP tI tI))) far_6) rfl) tpa_nil) rfl) (tga_last (tg_call (tf_bared order_so_5) (tpa_cons (v := (tP tI (tX (tP tI tI))) order_so_5) (tp_var 3 (v := (tP tI (tX (tP tI tI))) order_so_5) rfl) tpa_nil) rfl) tpa_nil)) (fun _ => rfl)))))
 (ts_retP (f := Ctl.rt) (a := false) rt_X tp_c)
 (ts_next (nx_X (s := ()) rfl)))))
 (ts_next (nx_X (s := ()) rfl))))))))))
 (fun s_1 j_2 => (ts_set 5 (enc := (tP tI (tT (tP tI tI)))) (TG.pu (enc := (tP tI (tT (tP tI tI)))) (a := (4, [(0, 2), (0, 3), (1, 2), (1, 3)])) (tp_tup (tpa_cons (v := tI 4) tp_c (tpa_cons (v := (tT (tP tI tI)) [(0, 2), (0, 3), (1, 2), (1, 3)]) (tp_tup (tpa_cons (v := (tP tI tI) (0, 2)) (tp_tup (tpa_cons (v := tI 0) tp_c (tpa_cons (v := tI 2) tp_c tpa_nil)) (len_ok 2 rfl (by decide))) (tpa_cons (v := (tP tI tI) (0, 3)) (tp_tup (tpa_cons (v := tI 0) tp_c (tpa_cons (v := tI 3) tp_c tpa_nil)) (len_ok 2 rfl (by decide))) (tpa_cons (v := (tP tI tI) (1, 2)) (tp_tup (tpa_cons (v := tI 1) tp_c (tpa_cons (v := tI 2) tp_c tpa_nil)) (len_ok 2 rfl (by decide))) (tpa_cons (v := (tP tI tI) (1, 3)) (tp_tup (tpa_cons (v := tI 1) tp_c (tpa_cons (v := tI 3) tp_c tpa_nil)) (len_ok 2 rfl (by decide))) tpa_nil)))) (len_ok 4 rfl (by decide))) tpa_nil)) (len_ok 2 rfl (by decide)))) (fun four_8 =>
 (ts_set 6 (enc := (tL (tT tI))) (tg_lst (f := fun z_10 => [z_10.1, z_10.2.1, z_10.2.2.1, z_10.2.2.2.1, z_10.2.2.2.2]) (eb := (tL (tT tI))) (tga_consM (tg_callM (fun (z_9 : (Int × (List (Int × Int)))) => tf_bared'1 z_9) (tga_last (tg_call (tf__law_chain 7) (tpa_cons (v := tI 7) tp_c tpa_nil) rfl) tpa_nil) (fun _ => rfl)) (tga_consM (tg_call (tf_bared'1 (3, ([] : (List (Int × Int))))) (tpa_cons (v := (tP tI (tT (tP tI tI))) (3, ([] : (List (Int × Int))))) (tp_tup (tpa_cons (v := tI 3) tp_c (tpa_cons (v := (tT (tP tI tI)) ([] : (List (Int × Int)))) (tp_tup tpa_nil (len_ok 0 rfl (by decide))) tpa_nil)) (len_ok 2 rfl (by decide))) tpa_nil) rfl) (tga_consM (tg_call (tf_bared'1 four_8) (tpa_cons (v := (tP tI (tT (tP tI tI))) four_8) (tp_var 5 (v := (tP tI (tT (tP tI tI))) four_8) rfl) tpa_nil) rfl) (tga_consM (tg_call (tf_loose_spots'1 four_8) (tpa_cons (v := (tP tI (tT (tP tI tI))) four_8) (tp_var 5 (v := (tP tI (tT (tP tI tI))) four_8) rfl) tpa_nil) rfl) (tga_last (tg_call (tf_bared'1 (4, [(0, 1), (0, 2), (0, 3), (1, 3), (2, 3)])) (tpa_cons (v := (tP tI (tT (tP tI tI))) (4, [(0, 1), (0, 2), (0, 3), (1, 3), (2, 3)])) (tp_tup (tpa_cons (v := tI 4) tp_c (tpa_cons (v := (tT (tP tI tI)) [(0, 1), (0, 2), (0, 3), (1, 3), (2, 3)]) (tp_tup (tpa_cons (v := (tP tI tI) (0, 1)) (tp_tup (tpa_cons (v := tI 0) tp_c (tpa_cons (v := tI 1) tp_c tpa_nil)) (len_ok 2 rfl (by decide))) (tpa_cons (v := (tP tI tI) (0, 2)) (tp_tup (tpa_cons (v := tI 0) tp_c (tpa_cons (v := tI 2) tp_c tpa_nil)) (len_ok 2 rfl (by decide))) (tpa_cons (v := (tP tI tI) (0, 3)) (tp_tup (tpa_cons (v := tI 0) tp_c (tpa_cons (v := tI 3) tp_c tpa_nil)) (len_ok 2 rfl (by decide))) (tpa_cons (v := (tP tI tI) (1, 3)) (tp_tup (tpa_cons (v := tI 1) tp_c (tpa_cons (v := tI 3) tp_c tpa_nil)) (len_ok 2 rfl (by decide))) (tpa_cons (v := (tP tI tI) (2, 3)) (tp_tup (tpa_cons (v := tI 2) tp_c (tpa_cons (v := tI 3) tp_c tpa_nil)) (len_ok 2 rfl (by decide))) tpa_nil))))) (len_ok 5 rfl (by decide))) tpa_nil)) (len_ok 2 rfl (by decide))) tpa_nil) rfl) tpa_nil))))) (fun _ => len_ok 5 rfl (by decide)) (fun _ => rfl)) (fun told_11 =>
 (ts_set 6 (enc := (tL (tT tI))) (tg_binPM (a := told_11) (o_catL (e := (tT tI))) (tp_varW 6 (v := (tL (tT tI)) told_11) rfl) (tg_lst (f := fun z_13 => [z_13.1, z_13.2.1, z_13.2.2.1, z_13.2.2.2.1, z_13.2.2.2.2]) (eb := (tL (tT tI))) (tga_consM (tg_callM (fun (z_12 : (Int × (List (Int × Int)))) => tf_bared_leading'1 z_12) (tga_last (tg_call (tf__law_chain 4) (tpa_cons (v := tI 4) tp_c tpa_nil) rfl) tpa_nil) (fun _ => rfl)) (tga_consM (tg_call (tf_bared_leading'1 four_8) (tpa_cons (v := (tP tI (tT (tP tI tI))) four_8) (tp_var 5 (v := (tP tI (tT (tP tI tI))) four_8) rfl) tpa_nil) rfl) (tga_consM (tg_call (tf_loose_spots'1 (0, ([] : (List (Int × Int))))) (tpa_cons (v := (tP tI (tT (tP tI tI))) (0, ([] : (List (Int × Int))))) (tp_tup (tpa_cons (v := tI 0) tp_c (tpa_cons (v := (tT (tP tI tI)) ([] : (List (Int × Int)))) (tp_tup tpa_nil (len_ok 0 rfl (by decide))) tpa_nil)) (len_ok 2 rfl (by decide))) tpa_nil) rfl) (tga_consM (tg_call (tf_bared'1 (0, ([] : (List (Int × Int))))) (tpa_cons (v := (tP tI (tT (tP tI tI))) (0, ([] : (List (Int × Int))))) (tp_tup (tpa_cons (v := tI 0) tp_c (tpa_cons (v := (tT (tP tI tI)) ([] : (List (Int × Int)))) (tp_tup tpa_nil (len_ok 0 rfl (by decide))) tpa_nil)) (len_ok 2 rfl (by decide))) tpa_nil) rfl) (tga_last (tg_call (tf_bared_leading'1 (0, ([] : (List (Int × Int))))) (tpa_cons (v := (tP tI (tT (tP tI tI))) (0, ([] : (List (Int × Int))))) (tp_tup (tpa_cons (v := tI 0) tp_c (tpa_cons (v := (tT (tP tI tI)) ([] : (List (Int × Int)))) (tp_tup tpa_nil (len_ok 0 rfl (by decide))) tpa_nil)) (len_ok 2 rfl (by decide))) tpa_nil) rfl) tpa_nil))))) (fun _ => len_ok 5 rfl (by decide)) (fun _ => rfl))) (fun told_16 =>
 (ts_retD (tg_call (tf__law_like told_16 [[0], [0, 1, 2], [0, 1, 2, 3], ([] : (List Int)), [0], [0, 0, 0, 0], [0, 1, 2, 3], ([] : (List Int)), ([] : (List Int)), ([] : (List Int))]) (tpa_cons (v := (tL (tT tI)) told_16) (tp_var 6 (v := (tL (tT tI)) told_16) rfl) (tpa_cons (v := (tL (tT tI)) [[0], [0, 1, 2], [0, 1, 2, 3], ([] : (List Int)), [0], [0, 0, 0, 0], [0, 1, 2, 3], ([] : (List Int)), ([] : (List Int)), ([] : (List Int))]) (tp_lst (tpa_cons (v := (tT tI) [0]) (tp_tup (tpa_cons (v := tI 0) tp_c tpa_nil) (len_ok 1 rfl (by decide))) (tpa_cons (v := (tT tI) [0, 1, 2]) (tp_tup (tpa_cons (v := tI 0) tp_c (tpa_cons (v := tI 1) tp_c (tpa_cons (v := tI 2) tp_c tpa_nil))) (len_ok 3 rfl (by decide))) (tpa_cons (v := (tT tI) [0, 1, 2, 3]) (tp_tup (tpa_cons (v := tI 0) tp_c (tpa_cons (v := tI 1) tp_c (tpa_cons (v := tI 2) tp_c (tpa_cons (v := tI 3) tp_c tpa_nil)))) (len_ok 4 rfl (by decide))) (tpa_cons (v := (tT tI) ([] : (List Int))) (tp_tup tpa_nil (len_ok 0 rfl (by decide))) (tpa_cons (v := (tT tI) [0]) (tp_tup (tpa_cons (v := tI 0) tp_c tpa_nil) (len_ok 1 rfl (by decide))) (tpa_cons (v := (tT tI) [0, 0, 0, 0]) (tp_tup (tpa_cons (v := tI 0) tp_c (tpa_cons (v := tI 0) tp_c (tpa_cons (v := tI 0) tp_c (tpa_cons (v := tI 0) tp_c tpa_nil)))) (len_ok 4 rfl (by decide))) (tpa_cons (v := (tT tI) [0, 1, 2, 3]) (tp_tup (tpa_cons (v := tI 0) tp_c (tpa_cons (v := tI 1) tp_c (tpa_cons (v := tI 2) tp_c (tpa_cons (v := tI 3) tp_c tpa_nil)))) (len_ok 4 rfl (by decide))) (tpa_cons (v := (tT tI) ([] : (List Int))) (tp_tup tpa_nil (len_ok 0 rfl (by decide))) (tpa_cons (v := (tT tI) ([] : (List Int))) (tp_tup tpa_nil (len_ok 0 rfl (by decide))) (tpa_cons (v := (tT tI) ([] : (List Int))) (tp_tup tpa_nil (len_ok 0 rfl (by decide))) tpa_nil)))))))))) (len_ok 10 rfl (by decide))) tpa_nil)) rfl))))))))))
end LH
set_option maxRecDepth 100000
set_option maxHeartbeats 400000
namespace Ty
open PySem PySem.Spec PyProof.Rows L2 Pd
section
variable {α β γ σ ρ τ : Type}
theorem okMul {a b : Int} (h : a.natAbs < 2 ^ 60) : mulM a b = pu (a * b) := rq_true (by
  unfold mulOk
  simp only [Bool.or_eq_true, Bool.and_eq_true, decide_eq_true_eq]
  omega) _
theorem okMul2 {a b : Int} (h : b.natAbs < 2 ^ 60) : mulM a b = pu (a * b) := rq_true (by
  unfold mulOk
  simp only [Bool.or_eq_true, Bool.and_eq_true, decide_eq_true_eq]
  omega) _
theorem okMod {a b : Int} (h : 0 < b) : modM a b = pu (a % b) := rq_true h _
theorem ix_get {l : List α} {k : Nat} {x : α} (h : l[k]? = some x) : ixM l ((k : Nat) : Int) = pu x := op?_some (Pd.atI_nat h)
theorem ix_zero {l : List α} {x : α} (h : l[0]? = some x) : ixM l 0 = pu x := ix_get (k := 0) h
theorem ix_cons {l : List α} {x : α} : ixM (x :: l) 0 = pu x := ix_zero rfl
def rgN (n : Nat) : List Int := (List.range n).map fun (i : Nat) => (i : Int)
theorem rg_N (n : Nat) : rg 0 (n : Int) = rgN n := by
  unfold rg rgN
  simp
theorem rgOk_n {n : Nat} (h : n ≤ 16000000) : rgOk 0 (n : Int) = true := rgOk_of (by omega) (by omega) (by omega) (by omega) (by rw [sizeLine_eq]; omega)
theorem okRg {n : Nat} (h : n ≤ 16000000) : rgM 0 (n : Int) = pu (rgN n) := by rw [← rg_N]; exact rq_true (rgOk_n h) _
theorem okRg2 {a b : Int} (h1 : -100000000 ≤ a) (h2 : a ≤ 100000000) (h3 : -100000000 ≤ b) (h4 : b ≤ 100000000) (h : b - a ≤ 16000000) : rgM a b = pu (rg a b) := rq_true (rgOk_of (by omega) (by omega) (by omega) (by omega) (by rw [sizeLine_eq]; omega)) _
theorem okCat {a b : List α} (h : a.length + b.length ≤ 16000000) : catM a b = pu (a ++ b) := rq_true (by rw [sizeLine_eq]; omega) _
theorem okApp {l : List α} {x : α} (h : l.length < 16000000) : appM l x = pu (l ++ [x]) := rq_true (by rw [sizeLine_eq]; omega) _
theorem en_range (d : α) (l : List α) : en l = (List.range l.length).map fun (k : Nat) => (((k : Nat) : Int), l.getD k d) := by
  unfold en
  refine List.ext_getElem (by simp) fun k h1 h2 => ?_
  simp only [List.getElem_map, List.getElem_zipIdx, List.getElem_range]
  rw [List.getD_eq_getElem?_getD, List.getElem?_eq_getElem (by simpa using h1)]
  simp
/-- over what is mapped -/
theorem lc_map {g : γ → α} {mt : α → M Bool} {me : α → M β} (k : γ → Bool) (f : γ → β) (xs : List γ) (ht : ∀ x ∈ xs, mt (g x) = pu (k x)) (he : ∀ x ∈ xs, k x = true → me (g x) = pu (f x)) : nx (lcM mt me (xs.map g) []) = pu ((xs.filter k).map f) := by
  have h : ∀ (ys : List γ) (acc : List β), (∀ x ∈ ys, x ∈ xs) → lcM mt me (ys.map g) acc = pu (acc ++ (ys.filter k).map f) := by
    intro ys
    induction ys with
    | nil => intro acc _; rw [List.filter_nil, List.map_nil, List.map_nil, List.append_nil]; rfl
    | cons y ys ih =>
      intro acc hs
      have hy := hs y List.mem_cons_self
      rw [List.map_cons]
      unfold lcM
      rw [ht y hy, pu_bi]
      cases hk : k y with
      | true =>
        rw [if_pos rfl, he y hy hk, pu_bi, ih _ fun x hx => hs x (List.mem_cons_of_mem _ hx), List.filter_cons, if_pos hk, List.map_cons, List.append_assoc]
        rfl
      | false =>
        rw [if_neg (by decide), ih _ fun x hx => hs x (List.mem_cons_of_mem _ hx), List.filter_cons, if_neg (by rw [hk]; decide)]
  rw [h xs [] fun _ h => h]
  rfl
theorem lc_map1 {g : γ → α} {me : α → M β} (f : γ → β) (xs : List γ) (he : ∀ x ∈ xs, me (g x) = pu (f x)) : nx (lcM (fun _ => pu true) me (xs.map g) []) = pu (xs.map f) := by
  have := lc_map (mt := fun _ => pu true) (fun _ => true) f xs (fun _ _ => rfl) (fun x hx _ => he x hx)
  rwa [List.filter_eq_self.mpr fun _ _ => rfl] at this
/-- over a range -/
theorem lc_rg {mt : Int → M Bool} {me : Int → M β} {n : Nat} (k : Nat → Bool) (f : Nat → β) (ht : ∀ i, i < n → mt (i : Int) = pu (k i)) (he : ∀ i, i < n → k i = true → me (i : Int) = pu (f i)) : nx (lcM mt me (rgN n) []) = pu (((List.range n).filter k).map f) :=
  lc_map k f (List.range n) (fun x hx => ht x (List.mem_range.mp hx)) (fun x hx => he x (List.mem_range.mp hx))
theorem lc_rg1 {me : Int → M β} {n : Nat} (f : Nat → β) (he : ∀ i, i < n → me (i : Int) = pu (f i)) : nx (lcM (fun _ => pu true) me (rgN n) []) = pu ((List.range n).map f) := lc_map1 f (List.range n) fun x hx => he x (List.mem_range.mp hx)
theorem for_get {f : α → σ → M σ} : ∀ (xs : List α) (S : Nat → σ), (∀ i x, xs[i]? = some x → f x (S i) = pu (S (i + 1))) → forM f xs (S 0) = pu (S xs.length)
  | [], S, _ => rfl
  | x :: xs, S, h => by
    unfold forM
    rw [h 0 x rfl, pu_bi]
    exact for_get xs (fun i => S (i + 1)) fun i y hy => h (i + 1) y (by simpa using hy)
theorem for_rg {f : Int → σ → M σ} {n : Nat} (S : Nat → σ) (h : ∀ i, i < n → f (i : Int) (S i) = pu (S (i + 1))) : forM f (rgN n) (S 0) = pu (S n) := by
  have := for_get (rgN n) S fun i x hx => by
    unfold rgN at hx
    rw [List.getElem?_map] at hx
    obtain ⟨j, hj, rfl⟩ := Option.map_eq_some_iff.mp hx
    have hj2 := List.getElem?_eq_some_iff.mp hj
    obtain ⟨h1, h2⟩ := hj2
    simp at h1 h2
    subst h2
    exact h i h1
  rw [this]
  unfold rgN
  rw [List.length_map, List.length_range]
theorem bi_for_rg {f : Int → σ → M σ} {n : Nat} {k : σ → M τ} {s : σ} (S : Nat → σ) (e : s = S 0) (h : ∀ i, i < n → f (i : Int) (S i) = pu (S (i + 1))) : bi (forM f (rgN n) s) k = k (S n) := by rw [e, for_rg S h, pu_bi]
theorem bi_for_get {f : α → σ → M σ} {xs : List α} {k : σ → M τ} {s : σ} (S : Nat → σ) (e : s = S 0) (h : ∀ i x, xs[i]? = some x → f x (S i) = pu (S (i + 1))) : bi (forM f xs s) k = k (S xs.length) := by rw [e, for_get xs S h, pu_bi]
def En (m : M α) (P : α → Prop) : Prop := ∀ (Q : α → Prop) (X : TX → Prop), (∀ a, P a → Q a) → m Q X
variable {m : M α} {P P' : α → Prop} {k : α → M β} {R : β → Prop}
theorem En.pu {a : α} (h : P a) : En (Ty.pu a) P := fun Q X q => q a h
theorem En.of {a : α} (e : m = Ty.pu a) (h : P a) : En m P := by rw [e]; exact En.pu h
theorem En.bi (h : En m P) (hk : ∀ a, P a → En (k a) R) : En (Ty.bi m k) R := fun Q X q => h _ X fun a p => hk a p Q X q
theorem En.bie {a : α} (e : m = Ty.pu a) (hk : En (k a) R) : En (Ty.bi m k) R := by rw [e]; exact hk
theorem En.wk (h : En m P) (hp : ∀ a, P a → P' a) : En m P' := fun Q X q => h Q X fun a p => q a (hp a p)
theorem En.eq {a : α} (h : En m (fun b => b = a)) (p : P a) : En m P := h.wk fun b e => e ▸ p
theorem En.dr {b : Int} (h0 : 0 < b) (hb : b < 1073741824) : En (Ty.dr b) (fun x => 0 ≤ x ∧ x < b) := fun Q X q => ⟨⟨h0, hb⟩, fun x h1 h2 => q x ⟨h1, h2⟩⟩
/-- a drawn natural -/
theorem En.drN {b : Nat} (h0 : 0 < b) (hb : b < 1073741824) {k : Int → M β} (hk : ∀ x : Nat, x < b → En (k (x : Int)) R) : En (Ty.bi (Ty.dr (b : Int)) k) R := En.bi (En.dr (by omega) (by omega)) fun x hx => by
  have e : x = ((x.toNat : Nat) : Int) := by omega
  rw [e]
  exact hk _ (by omega)
theorem En.nx (h : En m P) : En (Ty.nx m) P := fun Q X q => h Q _ q
theorem En.ite {c : Prop} [Decidable c] {m1 m2 : M α} (h1 : c → En m1 P) (h2 : ¬ c → En m2 P) : En (if c then m1 else m2) P := by
  by_cases h : c
  · rw [if_pos h]; exact h1 h
  · rw [if_neg h]; exact h2 h
theorem En.for_get {f : α → σ → M σ} : ∀ (xs : List α) (I : Nat → σ → Prop) (s : σ), I 0 s → (∀ i x s, xs[i]? = some x → I i s → En (f x s) (I (i + 1))) → En (forM f xs s) (I xs.length)
  | [], I, s, h0, _ => En.pu h0
  | x :: xs, I, s, h0, h => by
    unfold forM
    refine En.bi (h 0 x s rfl h0) fun s' h' => ?_
    exact En.for_get xs (fun i => I (i + 1)) s' h' fun i y t hy ht => h (i + 1) y t (by simpa using hy) ht
theorem rgN_get {n i : Nat} {x : Int} (h : (rgN n)[i]? = some x) : i < n ∧ x = (i : Int) := by
  unfold rgN at h
  rw [List.getElem?_map] at h
  obtain ⟨j, hj, rfl⟩ := Option.map_eq_some_iff.mp h
  obtain ⟨h1, h2⟩ := List.getElem?_eq_some_iff.mp hj
  simp at h1 h2
  subst h2
  exact ⟨h1, rfl⟩
theorem rgN_len (n : Nat) : (rgN n).length = n := by unfold rgN; simp
theorem rgN_mem {n : Nat} {x : Int} : x ∈ rgN n ↔ ∃ i : Nat, i < n ∧ x = (i : Int) := by
  unfold rgN
  rw [List.mem_map]
  exact ⟨fun ⟨i, h, e⟩ => ⟨i, List.mem_range.mp h, e.symm⟩, fun ⟨i, h, e⟩ => ⟨i, List.mem_range.mpr h, e.symm⟩⟩
theorem En.for_rg {f : Int → σ → M σ} {n : Nat} (I : Nat → σ → Prop) {s : σ} (h0 : I 0 s) (h : ∀ i s, i < n → I i s → En (f (i : Int) s) (I (i + 1))) : En (forM f (rgN n) s) (I n) := by
  have := En.for_get (f := f) (rgN n) I s h0 fun i x s hx hI => by
    obtain ⟨hi, rfl⟩ := rgN_get hx
    exact h i s hi hI
  rwa [rgN_len] at this
/-- a loop of checks: none leaves -/
theorem En.forX_get {f : α → σ → M (Ctl σ ρ)} : ∀ (xs : List α) (I : Nat → σ → Prop) (s : σ), I 0 s → (∀ i x s, xs[i]? = some x → I i s → En (f x s) (fun o => ∃ s', o = .nx s' ∧ I (i + 1) s')) → En (forX f xs s) (fun o => ∃ s', o = .inl s' ∧ I xs.length s')
  | [], I, s, h0, _ => En.pu ⟨s, rfl, h0⟩
  | x :: xs, I, s, h0, h => by
    unfold forX
    refine En.bi (h 0 x s rfl h0) fun o ho => ?_
    obtain ⟨s', rfl, h'⟩ := ho
    exact En.forX_get xs (fun i => I (i + 1)) s' h' fun i y t hy ht => h (i + 1) y t (by simpa using hy) ht
theorem En.checks {f : α → Unit → M (Ctl Unit ρ)} (xs : List α) (h : ∀ x ∈ xs, En (f x ()) (fun o => o = .nx ())) : En (forX f xs ()) (fun o => o = .inl ()) :=
  (En.forX_get xs (fun _ _ => True) () trivial fun i x s hx _ => (h x (List.mem_of_getElem? hx)).wk fun o ho => ⟨(), ho, trivial⟩).wk fun o ho => by obtain ⟨s, rfl, _⟩ := ho; rfl
theorem En.thrU {m : M (Unit ⊕ ρ)} {k : Unit → M τ} {r : ρ → τ} {R : τ → Prop} (h : En m (fun o => o = .inl ())) (hk : En (k ()) R) : En (Ty.thr m k r) R := En.bi h fun o ho => by
  subst ho
  exact hk
end
section
variable {α β : Type}
/-- e a is shown by few signs: at a depth n, k signs at most -/
def Sw (n k : Nat) (e : α → U) (a : α) : Prop := ∃ p, Dat n k (e a) p
theorem Sw.mono {n k n' k' : Nat} {e : α → U} {a : α} (h : Sw n k e a) (hn : n ≤ n') (hk : k ≤ k') : Sw n' k' e a := by
  obtain ⟨p, h⟩ := h
  exact ⟨p, h.mono hn hk⟩
theorem sw_I {i : Int} (h : i.natAbs < 10 ^ 12) : Sw 1 0 tI i := ⟨_, dat_int h⟩
theorem dats_Sw {n k : Nat} {e : α → U} : ∀ l : List α, (∀ x ∈ l, Sw n k e x) → ∃ ps, Dats n (l.length * (k + 1)) (l.map e) ps
  | [], _ => ⟨_, dats_nil.mono (Nat.zero_le _) (Nat.zero_le _)⟩
  | x :: l, h => by
    obtain ⟨p, hp⟩ := h x List.mem_cons_self
    obtain ⟨ps, hps⟩ := dats_Sw l fun y hy => h y (List.mem_cons_of_mem _ hy)
    refine ⟨p :: ps, (dats_cons hp hps).mono (by omega) ?_⟩
    rw [List.length_cons, Nat.succ_mul]
    omega
theorem sw_T {n k c : Nat} {e : α → U} {l : List α} (h : ∀ x ∈ l, Sw n k e x) (hc : l.length * (k + 1) ≤ c) : Sw (n + 1) c (tT e) l := by
  obtain ⟨ps, hp⟩ := dats_Sw l h
  exact ⟨_, (dat_tup hp).mono (Nat.le_refl _) hc⟩
theorem sw_L {n k c : Nat} {e : α → U} {l : List α} (h : ∀ x ∈ l, Sw n k e x) (hc : l.length * (k + 1) ≤ c) : Sw (n + 1) c (tL e) l := by
  obtain ⟨ps, hp⟩ := dats_Sw l h
  exact ⟨_, (dat_lst hp).mono (Nat.le_refl _) hc⟩
theorem like_eq {n k : Nat} {e : α → U} {a : α} (h : Sw n k e a) (hn : n ≤ 64) (hk : k ≤ 2 ^ 20) : likeM (e a) (e a) = pu true := by
  obtain ⟨p, h⟩ := h
  exact likeM_refl h hn hk
end
end Ty
set_option maxRecDepth 100000
set_option maxHeartbeats 400000
namespace Ty
open PySem PySem.Spec PyProof.Rows L2 Pd
end Ty
set_option maxRecDepth 100000
set_option maxHeartbeats 4000000
namespace La
open PySem PySem.Spec PyProof.Rows L2 Pd
abbrev Rw := List Int
abbrev Mat := List Rw
def at0 (c : Rw) (k : Nat) : Int := c.getD k 0
def row0 (m : Mat) (k : Nat) : Rw := m.getD k []
/-- a column of a size over p -/
def Vec (p : Int) (n : Nat) (c : Rw) : Prop := c.length = n ∧ ∀ x ∈ c, 0 ≤ x ∧ x < p
def Mt (p : Int) (n : Nat) (m : Mat) : Prop := ∀ c ∈ m, Vec p n c
def Pr (p : Int) : Prop := p = 2 ∨ p = 3 ∨ p = 5 ∨ p = 7 ∨ p = 11 ∨ p = 13
theorem Pr.pos {p : Int} (h : Pr p) : 1 < p ∧ p ≤ 13 := by unfold Pr at h; omega
theorem Pr.inv {p : Int} (h : Pr p) {x : Int} (h0 : 0 < x) (h1 : x < p) : ∃ k : Nat, k < (p - 1).toNat ∧ (1 + (k : Int)) * x % p = 1 := by
  have fin : ∀ q : Nat, (∀ x : Nat, x < q → 0 < x → ∃ k : Nat, k < q - 1 ∧ (1 + k) * x % q = 1) → p = (q : Int) → ∃ k : Nat, k < (p - 1).toNat ∧ (1 + (k : Int)) * x % p = 1 := fun q hq e => by
    obtain ⟨k, hk, e2⟩ := hq x.toNat (by omega) (by omega)
    refine ⟨k, by omega, ?_⟩
    have hx : x = (x.toNat : Int) := by omega
    rw [hx, e]
    have : ((1 : Int) + (k : Int)) = ((1 + k : Nat) : Int) := by omega
    rw [this, ← Int.natCast_mul, ← Int.natCast_emod, e2]
    rfl
  rcases h with e | e | e | e | e | e
  · exact fin 2 (by decide) e
  · exact fin 3 (by decide) e
  · exact fin 5 (by decide) e
  · exact fin 7 (by decide) e
  · exact fin 11 (by decide) e
  · exact fin 13 (by decide) e
def tk (p : Int) (c : Rw) (t : Int) (o : Rw) : Rw := (List.range c.length).map fun j => (at0 c j - t * at0 o j) % p
def bkn (p x : Int) : Int := (((List.range (p - 1).toNat).filter fun (i : Nat) => decide ((1 + (i : Int)) * x % p = 1)).map fun (i : Nat) => 1 + (i : Int)).headD 0
def hits (spot : Nat) (m : Mat) : List Nat := (List.range m.length).filter fun k => decide (at0 (row0 m k) spot ≠ 0)
def clr (p : Int) (spot : Nat) (ld : Rw) (c : Rw) : Rw := if at0 c spot ≠ 0 then tk p c (at0 c spot) ld else c
def redStep (p : Int) (s : Mat × Mat) (spot : Nat) : Mat × Mat := match hits spot s.1 with
  | [] => s
  | k :: _ => ((s.1.eraseIdx k).map (clr p spot ((row0 s.1 k).map fun e => bkn p (at0 (row0 s.1 k) spot) * e % p)), s.2.map (clr p spot ((row0 s.1 k).map fun e => bkn p (at0 (row0 s.1 k) spot) * e % p)) ++ [(row0 s.1 k).map fun e => bkn p (at0 (row0 s.1 k) spot) * e % p])
def redTo (p : Int) (cols : Mat) (n : Nat) : Mat × Mat := (List.range n).foldl (redStep p) (cols, [])
def red (p : Int) (cols : Mat) (n : Nat) : Mat := (redTo p cols n).2
def nz (c : Rw) : List Nat := (List.range c.length).filter fun k => decide (at0 c k ≠ 0)
def lead1 (c : Rw) : Nat := (nz c).headD 0
def leads (B : Mat) : List Nat := B.map lead1
theorem bkn_inv {p x : Int} (hp : Pr p) (h0 : 0 < x) (h1 : x < p) : bkn p x * x % p = 1 := by
  obtain ⟨k, hk, hk2⟩ := hp.inv h0 h1
  unfold bkn
  have hm : k ∈ (List.range (p - 1).toNat).filter fun (i : Nat) => decide ((1 + (i : Int)) * x % p = 1) := List.mem_filter.mpr ⟨List.mem_range.mpr hk, decide_eq_true hk2⟩
  cases e : (List.range (p - 1).toNat).filter fun (i : Nat) => decide ((1 + (i : Int)) * x % p = 1) with
  | nil => rw [e] at hm; exact absurd hm (by simp)
  | cons a l =>
    have ha : a ∈ (List.range (p - 1).toNat).filter fun (i : Nat) => decide ((1 + (i : Int)) * x % p = 1) := by rw [e]; exact List.mem_cons_self
    exact of_decide_eq_true (List.mem_filter.mp ha).2
theorem at0_mem {c : Rw} {k : Nat} (h : k < c.length) : at0 c k ∈ c := by
  unfold at0
  rw [List.getD_eq_getElem?_getD, List.getElem?_eq_getElem h]
  exact List.getElem_mem h
theorem Vec.at {p : Int} {n : Nat} {c : Rw} (h : Vec p n c) (hp : 0 < p) (k : Nat) : 0 ≤ at0 c k ∧ at0 c k < p := by
  by_cases hk : k < c.length
  · exact h.2 _ (at0_mem hk)
  · unfold at0
    rw [List.getD_eq_getElem?_getD, List.getElem?_eq_none (by omega)]
    exact ⟨Int.le_refl _, hp⟩
theorem at0_out {c : Rw} {k : Nat} (h : c.length ≤ k) : at0 c k = 0 := by
  unfold at0
  rw [List.getD_eq_getElem?_getD, List.getElem?_eq_none h]
  rfl
theorem at0_map {n k : Nat} {f : Nat → Int} (h : k < n) : at0 ((List.range n).map f) k = f k := by
  unfold at0
  rw [List.getD_eq_getElem?_getD, List.getElem?_map, List.getElem?_range h]
  rfl
theorem vec_gen {p : Int} {n : Nat} {f : Nat → Int} (h : ∀ k, k < n → 0 ≤ f k ∧ f k < p) : Vec p n ((List.range n).map f) := by
  refine ⟨by simp, fun x hx => ?_⟩
  obtain ⟨k, hk, rfl⟩ := List.mem_map.mp hx
  exact h k (List.mem_range.mp hk)
theorem vec_tk {p : Int} {n : Nat} {c o : Rw} {t : Int} (hp : 0 < p) (h : Vec p n c) : Vec p n (tk p c t o) := by
  have := h.1
  subst this
  exact vec_gen fun k _ => ⟨Int.emod_nonneg _ (by omega), Int.emod_lt_of_pos _ hp⟩
theorem vec_clr {p : Int} {n spot : Nat} {c o : Rw} (hp : 0 < p) (h : Vec p n c) : Vec p n (clr p spot o c) := by
  unfold clr
  split
  · exact vec_tk hp h
  · exact h
theorem vec_scale {p t : Int} {n : Nat} {c : Rw} (hp : 0 < p) (h : Vec p n c) : Vec p n (c.map fun e => t * e % p) := by
  refine ⟨by rw [List.length_map]; exact h.1, fun x hx => ?_⟩
  obtain ⟨y, _, rfl⟩ := List.mem_map.mp hx
  exact ⟨Int.emod_nonneg _ (by omega), Int.emod_lt_of_pos _ hp⟩
theorem row0_mem {m : Mat} {k : Nat} (h : k < m.length) : row0 m k ∈ m := by
  unfold row0
  rw [List.getD_eq_getElem?_getD, List.getElem?_eq_getElem h]
  exact List.getElem_mem h
theorem hits_lt {spot : Nat} {m : Mat} {k : Nat} (h : k ∈ hits spot m) : k < m.length ∧ at0 (row0 m k) spot ≠ 0 := by
  unfold hits at h
  obtain ⟨h1, h2⟩ := List.mem_filter.mp h
  exact ⟨List.mem_range.mp h1, of_decide_eq_true h2⟩
end La
set_option maxRecDepth 100000
set_option maxHeartbeats 4000000
namespace La
section
variable {R : Type} [Lean.Grind.CommRing R]
inductive Sp (B : List (Nat → R)) : (Nat → R) → Prop
  | zero : Sp B (fun _ => 0)
  | add {v b : Nat → R} (c : R) : Sp B v → b ∈ B → Sp B (fun i => v i + c * b i)
variable {B C : List (Nat → R)} {v w b : Nat → R}
theorem Sp.of_eq (h : Sp B v) (e : ∀ i, w i = v i) : Sp B w := by
  have : w = v := funext e
  rw [this]; exact h
theorem Sp.mem (h : b ∈ B) : Sp B b := (Sp.add 1 .zero h).of_eq fun i => by grind
theorem Sp.addv (h : Sp B v) (h' : Sp B w) : Sp B (fun i => v i + w i) := by
  induction h' with
  | zero => exact h.of_eq fun i => by grind
  | add c _ hb ih => exact (Sp.add c ih hb).of_eq fun i => by grind
theorem Sp.smul (a : R) (h : Sp B v) : Sp B (fun i => a * v i) := by
  induction h with
  | zero => exact Sp.zero.of_eq fun i => by grind
  | add c _ hb ih => exact (Sp.add (a * c) ih hb).of_eq fun i => by grind
theorem Sp.sub (h : Sp B v) (h' : Sp B w) (a : R) : Sp B (fun i => v i - a * w i) := (h.addv (h'.smul (-a))).of_eq fun i => by grind
theorem Sp.trans (h : Sp B v) (hB : ∀ b ∈ B, Sp C b) : Sp C v := by
  induction h with
  | zero => exact .zero
  | add c _ hb ih => exact (ih.addv ((hB _ hb).smul c)).of_eq fun i => by grind
theorem Sp.mono (h : Sp B v) (hB : ∀ b ∈ B, b ∈ C) : Sp C v := h.trans fun b hb => .mem (hB b hb)
structure RedF (n : Nat) (B : List (Nat → R)) (L : List Nat) : Prop where
  len : B.length = L.length
  one : ∀ (i : Nat) (b : Nat → R) (l : Nat), B[i]? = some b → L[i]? = some l → b l = 1 ∧ l < n ∧ ∀ k, k < l → b k = 0
  oth : ∀ (i j : Nat) (b : Nat → R) (l : Nat), i ≠ j → B[i]? = some b → L[j]? = some l → b l = 0
  asc : L.Pairwise (· < ·)
variable {n : Nat} {L : List Nat}
end
end La
set_option maxRecDepth 100000
set_option maxHeartbeats 4000000
namespace La
section
variable {R : Type} [Lean.Grind.CommRing R]
def ic (x : Int) : R := @Int.cast R Lean.Grind.Ring.intCast x
/-- the numbers modulo p lie in R -/
structure Ch (p : Int) (R : Type) [Lean.Grind.CommRing R] : Prop where
  z : (ic (p) : R) = 0
  inj : ∀ x : Int, 0 ≤ x → x < p → (ic (x) : R) = 0 → x = 0
theorem cast_mul (x y : Int) : (ic (x * y) : R) = (ic x : R) * (ic y : R) := Lean.Grind.Ring.intCast_mul x y
theorem cast_sub (x y : Int) : (ic (x - y) : R) = (ic x : R) - (ic y : R) := Lean.Grind.Ring.intCast_sub x y
theorem cast_zero : (ic (0) : R) = 0 := Lean.Grind.Ring.intCast_zero
theorem cast_one : (ic (1) : R) = 1 := Lean.Grind.Ring.intCast_one
variable {p : Int}
theorem Ch.mod (h : Ch p R) (x : Int) : (ic (x % p) : R) = (ic x : R) := by
  have e : x % p = x - p * (x / p) := Int.emod_def x p
  rw [e, cast_sub, cast_mul, h.z]
  grind
theorem Ch.eq (h : Ch p R) {x y : Int} (hx : 0 ≤ x ∧ x < p) (hy : 0 ≤ y ∧ y < p) (e : (ic x : R) = (ic y : R)) : x = y := by
  by_cases c : y ≤ x
  · have := h.inj (x - y) (by omega) (by omega) (by rw [cast_sub, e]; grind)
    omega
  · have := h.inj (y - x) (by omega) (by omega) (by rw [cast_sub, e]; grind)
    omega
def fv (c : Rw) : Nat → R := fun k => (ic (at0 c k) : R)
def fm (m : Mat) : List (Nat → R) := m.map fv
variable {n spot : Nat} {c o ld : Rw}
theorem fv_tk (h : Ch p R) {t : Int} (hc : Vec p n c) (ho : Vec p n o) (k : Nat) : (fv (tk p c t o) k : R) = fv c k - (ic t : R) * fv o k := by
  unfold fv
  by_cases hk : k < c.length
  · unfold tk
    rw [at0_map hk, h.mod, cast_sub, cast_mul]
  · rw [at0_out (c := tk p c t o) (by unfold tk; simp; omega), at0_out (c := c) (by omega), at0_out (c := o) (by rw [ho.1, ← hc.1]; omega), cast_zero]
    grind
theorem at0_mapf {f : Int → Int} {k : Nat} (hk : k < c.length) : at0 (c.map f) k = f (at0 c k) := by
  unfold at0
  rw [List.getD_eq_getElem?_getD, List.getD_eq_getElem?_getD, List.getElem?_map, List.getElem?_eq_getElem hk]
  rfl
theorem fv_scale (h : Ch p R) {t : Int} (k : Nat) : (fv (c.map fun e => t * e % p) k : R) = (ic t : R) * fv c k := by
  unfold fv
  by_cases hk : k < c.length
  · rw [at0_mapf hk, h.mod, cast_mul]
  · rw [at0_out (by rw [List.length_map]; omega), at0_out (c := c) (by omega), cast_zero]
    grind
theorem fv_clr (h : Ch p R) (hc : Vec p n c) (ho : Vec p n ld) (k : Nat) : (fv (clr p spot ld c) k : R) = fv c k - fv c spot * fv ld k := by
  unfold clr
  by_cases hz : at0 c spot = 0
  · rw [if_neg (by rw [hz]; simp)]
    have : (fv c spot : R) = 0 := by unfold fv; rw [hz, cast_zero]
    rw [this]
    grind
  · rw [if_pos hz, fv_tk h hc ho]
    rfl
theorem fm_get {m : Mat} {i : Nat} {b : Nat → R} (h : (fm m)[i]? = some b) : ∃ c, m[i]? = some c ∧ b = fv c := by
  unfold fm at h
  rw [List.getElem?_map] at h
  obtain ⟨c, e1, e2⟩ := Option.map_eq_some_iff.mp h
  exact ⟨c, e1, e2.symm⟩
theorem fm_mem {m : Mat} {b : Nat → R} (h : b ∈ fm m) : ∃ c ∈ m, b = fv c := by
  obtain ⟨c, h1, h2⟩ := List.mem_map.mp h
  exact ⟨c, h1, h2.symm⟩
theorem mem_fm {m : Mat} (h : c ∈ m) : (fv c : Nat → R) ∈ fm m := List.mem_map.mpr ⟨c, h, rfl⟩
/-- ahead of a place -/
structure RInv (p : Int) (R : Type) [Lean.Grind.CommRing R] (n : Nat) (cols : Mat) (spot : Nat) (s : Mat × Mat) : Prop where
  v1 : Mt p n s.1
  v2 : Mt p n s.2
  sp1 : ∀ c ∈ s.1 ++ s.2, Sp (fm cols) (fv c : Nat → R)
  sp2 : ∀ c ∈ cols, Sp (fm (s.1 ++ s.2)) (fv c : Nat → R)
  zero : ∀ c ∈ s.1, ∀ k, k < spot → at0 c k = 0
  red : ∃ ls, RedF spot (fm s.2 : List (Nat → R)) ls
theorem RedF.wk {B : List (Nat → R)} {L : List Nat} {m : Nat} (h : RedF n B L) (hm : n ≤ m) : RedF m B L := ⟨h.len, fun i b l e1 e2 => ⟨(h.one i b l e1 e2).1, Nat.lt_of_lt_of_le (h.one i b l e1 e2).2.1 hm, (h.one i b l e1 e2).2.2⟩, h.oth, h.asc⟩
theorem row0_get {m : Mat} {k : Nat} (h : k < m.length) : m[k]? = some (row0 m k) := by
  unfold row0
  rw [List.getD_eq_getElem?_getD, List.getElem?_eq_getElem h]
  rfl
theorem mem_erase_or {m : Mat} {k : Nat} (hk : k < m.length) {c : Rw} (h : c ∈ m) : c = row0 m k ∨ c ∈ m.eraseIdx k := by
  obtain ⟨i, hi⟩ := List.getElem?_of_mem h
  by_cases e : i = k
  · subst e
    rw [row0_get hk] at hi
    exact .inl (Option.some.inj hi).symm
  · refine .inr ?_
    have hil := (List.getElem?_eq_some_iff.mp hi).1
    by_cases hlt : i < k
    · refine List.mem_of_getElem? (i := i) ?_
      rw [List.getElem?_eraseIdx, if_pos hlt]
      exact hi
    · refine List.mem_of_getElem? (i := i - 1) ?_
      rw [List.getElem?_eraseIdx, if_neg (by omega), show i - 1 + 1 = i by omega]
      exact hi
theorem RInv.step (ch : Ch p R) (hp : Pr p) {cols : Mat} {s : Mat × Mat} (h : RInv p R n cols spot s) (hs : spot < n) : RInv p R n cols (spot + 1) (redStep p s spot) := by
  have hb := hp.pos
  have hp0 : 0 < p := by omega
  unfold redStep
  cases e : hits spot s.1 with
  | nil =>
    refine ⟨h.v1, h.v2, h.sp1, h.sp2, fun c hc k hk => ?_, ?_⟩
    · by_cases hks : k = spot
      · subst hks
        obtain ⟨i, hi⟩ := List.getElem?_of_mem hc
        have hil := (List.getElem?_eq_some_iff.mp hi).1
        have hr := row0_get hil
        rw [hi] at hr
        have hr := Option.some.inj hr
        by_cases hz : at0 c k = 0
        · exact hz
        · have hm : i ∈ hits k s.1 := by
            unfold hits
            exact List.mem_filter.mpr ⟨List.mem_range.mpr hil, decide_eq_true (by rw [← hr]; exact hz)⟩
          rw [e] at hm
          exact absurd hm (by simp)
      · exact h.zero c hc k (by omega)
    · obtain ⟨ls, r⟩ := h.red
      exact ⟨ls, r.wk (by omega)⟩
  | cons j l =>
    have hj := hits_lt (show j ∈ hits spot s.1 by rw [e]; exact List.mem_cons_self)
    obtain ⟨r, hr⟩ : ∃ r, r = row0 s.1 j := ⟨_, rfl⟩
    have hrm : r ∈ s.1 := hr ▸ row0_mem hj.1
    have hvr := h.v1 r hrm
    have hat := hvr.at hp0 spot
    have hx0 : 0 < at0 r spot := by have := hj.2; rw [← hr] at this; omega
    obtain ⟨T, hT⟩ : ∃ T, T = bkn p (at0 r spot) := ⟨_, rfl⟩
    obtain ⟨ld, hld⟩ : ∃ ld : Rw, ld = r.map fun e => T * e % p := ⟨_, rfl⟩
    have hvl : Vec p n ld := hld ▸ vec_scale hp0 hvr
    dsimp only
    rw [← hr, ← hT, ← hld]
    have fld : ∀ k, (fv ld k : R) = (ic T : R) * fv r k := fun k => by rw [hld]; exact fv_scale ch k
    have hTr : (ic T : R) * fv r spot = 1 := by
      have e1 := bkn_inv hp hx0 hat.2
      rw [← hT] at e1
      have e2 := ch.mod (T * at0 r spot)
      rw [e1, cast_mul, cast_one] at e2
      exact e2.symm
    have fld1 : (fv ld spot : R) = 1 := by rw [fld, hTr]
    have fcl : ∀ c, Vec p n c → ∀ k, (fv (clr p spot ld c) k : R) = fv c k - fv c spot * fv ld k := fun c hc k => fv_clr ch hc hvl k
    have ldz : ∀ k, k < spot → (fv ld k : R) = 0 := fun k hk => by
      rw [fld]
      have : (fv r k : R) = 0 := by unfold fv; rw [h.zero r hrm k hk, cast_zero]
      rw [this]
      grind
    have spr : Sp (fm cols) (fv r : Nat → R) := h.sp1 r (List.mem_append_left _ hrm)
    have spl : Sp (fm cols) (fv ld : Nat → R) := (spr.smul (ic T : R)).of_eq fld
    have v1' : Mt p n ((s.1.eraseIdx j).map (clr p spot ld)) := fun c hc => by
      obtain ⟨d, hd, rfl⟩ := List.mem_map.mp hc
      exact vec_clr hp0 (h.v1 d (List.mem_of_mem_eraseIdx hd))
    have v2' : Mt p n (s.2.map (clr p spot ld) ++ [ld]) := fun c hc => by
      rcases List.mem_append.mp hc with hc | hc
      · obtain ⟨d, hd, rfl⟩ := List.mem_map.mp hc
        exact vec_clr hp0 (h.v2 d hd)
      · rw [List.mem_singleton] at hc; rw [hc]; exact hvl
    have ldm : (fv ld : Nat → R) ∈ fm ((s.1.eraseIdx j).map (clr p spot ld) ++ (s.2.map (clr p spot ld) ++ [ld])) := mem_fm (List.mem_append_right _ (List.mem_append_right _ (List.mem_singleton.mpr rfl)))
    have old : ∀ c, Vec p n c → (fv (clr p spot ld c) : Nat → R) ∈ fm ((s.1.eraseIdx j).map (clr p spot ld) ++ (s.2.map (clr p spot ld) ++ [ld])) → Sp (fm ((s.1.eraseIdx j).map (clr p spot ld) ++ (s.2.map (clr p spot ld) ++ [ld]))) (fv c : Nat → R) := fun c hc hm => by
      refine ((Sp.mem hm).addv ((Sp.mem ldm).smul (fv c spot))).of_eq fun k => ?_
      rw [fcl c hc k]
      grind
    refine ⟨v1', v2', fun c hc => ?_, fun c hc => ?_, fun c hc k hk => ?_, ?_⟩
    · have cl : ∀ d, Vec p n d → Sp (fm cols) (fv d : Nat → R) → Sp (fm cols) (fv (clr p spot ld d) : Nat → R) := fun d hd hs => (hs.sub spl (fv d spot)).of_eq fun k => fcl d hd k
      rcases List.mem_append.mp hc with hc | hc
      · obtain ⟨d, hd, rfl⟩ := List.mem_map.mp hc
        have hd := List.mem_of_mem_eraseIdx hd
        exact cl d (h.v1 d hd) (h.sp1 d (List.mem_append_left _ hd))
      · rcases List.mem_append.mp hc with hc | hc
        · obtain ⟨d, hd, rfl⟩ := List.mem_map.mp hc
          exact cl d (h.v2 d hd) (h.sp1 d (List.mem_append_right _ hd))
        · rw [List.mem_singleton] at hc; rw [hc]; exact spl
    · refine (h.sp2 c hc).trans fun b hb => ?_
      obtain ⟨d, hd, rfl⟩ := fm_mem hb
      rcases List.mem_append.mp hd with hd | hd
      · rcases mem_erase_or hj.1 hd with hd | hd2
        · rw [hd, ← hr]
          refine ((Sp.mem ldm).smul (fv r spot)).of_eq fun k => ?_
          rw [fld k]
          have : fv r k = (ic T : R) * fv r spot * fv r k := by rw [hTr]; grind
          grind
        · exact old d (h.v1 d hd) (mem_fm (List.mem_append_left _ (List.mem_map.mpr ⟨d, hd2, rfl⟩)))
      · exact old d (h.v2 d hd) (mem_fm (List.mem_append_right _ (List.mem_append_left _ (List.mem_map.mpr ⟨d, hd, rfl⟩))))
    · obtain ⟨d, hd, rfl⟩ := List.mem_map.mp hc
      have hd := List.mem_of_mem_eraseIdx hd
      have hv := vec_clr (spot := spot) (o := ld) hp0 (h.v1 d hd)
      refine ch.inj _ (hv.at hp0 k).1 (hv.at hp0 k).2 ?_
      show (fv (clr p spot ld d) k : R) = 0
      rw [fcl d (h.v1 d hd) k]
      by_cases hks : k = spot
      · subst hks
        rw [fld1]
        grind
      · have : (fv d k : R) = 0 := by unfold fv; rw [h.zero d hd k (by omega), cast_zero]
        rw [this, ldz k (by omega)]
        grind
    · obtain ⟨ls, rd⟩ := h.red
      have hlen : (fm s.2 : List (Nat → R)).length = ls.length := rd.len
      have hlen2 : s.2.length = ls.length := by rw [← hlen]; unfold fm; rw [List.length_map]
      have fe : (fm (s.2.map (clr p spot ld) ++ [ld]) : List (Nat → R)) = fm (s.2.map (clr p spot ld)) ++ [fv ld] := by unfold fm; rw [List.map_append]; rfl
      have lsl : ∀ j l, ls[j]? = some l → l < spot := fun j l e => by
        have hjl := (List.getElem?_eq_some_iff.mp e).1
        exact (rd.one j _ l (by rw [List.getElem?_eq_getElem (by rw [hlen]; exact hjl)]) e).2.1
      have get1 : ∀ (i : Nat) (b : Nat → R), (fm (s.2.map (clr p spot ld)) : List (Nat → R))[i]? = some b → ∃ d, d ∈ s.2 ∧ (fm s.2 : List (Nat → R))[i]? = some (fv d) ∧ ∀ k, b k = fv d k - fv d spot * fv ld k := fun i b e => by
        obtain ⟨c, e1, rfl⟩ := fm_get e
        rw [List.getElem?_map] at e1
        obtain ⟨d, e2, rfl⟩ := Option.map_eq_some_iff.mp e1
        have hd := List.mem_of_getElem? e2
        exact ⟨d, hd, by unfold fm; rw [List.getElem?_map, e2]; rfl, fcl d (h.v2 d hd)⟩
      have hl1 : (fm (s.2.map (clr p spot ld)) : List (Nat → R)).length = ls.length := by unfold fm; rw [List.length_map, List.length_map]; exact hlen2
      refine ⟨ls ++ [spot], ?_, fun i b l e1 e2 => ?_, fun i j b l hij e1 e2 => ?_, ?_⟩
      · rw [fe, List.length_append, List.length_append, hl1]; rfl
      · rw [fe] at e1
        by_cases hi : i < ls.length
        · rw [List.getElem?_append_left (by rw [hl1]; exact hi)] at e1
          rw [List.getElem?_append_left hi] at e2
          obtain ⟨d, hd, e3, e4⟩ := get1 i b e1
          obtain ⟨k1, k2, k3⟩ := rd.one i _ l e3 e2
          refine ⟨?_, by omega, fun k hk => ?_⟩
          · rw [e4, ldz l k2, k1]; grind
          · rw [e4, k3 k hk, ldz k (by omega)]; grind
        · rw [List.getElem?_append_right (by rw [hl1]; omega)] at e1
          rw [List.getElem?_append_right (by omega)] at e2
          have hi0 : i = ls.length := by
            have := (List.getElem?_eq_some_iff.mp e2).1
            simp at this
            omega
          subst hi0
          rw [hl1] at e1
          simp at e1 e2
          subst e1 e2
          exact ⟨fld1, by omega, ldz⟩
      · rw [fe] at e1
        by_cases hi : i < ls.length
        · rw [List.getElem?_append_left (by rw [hl1]; exact hi)] at e1
          obtain ⟨d, hd, e3, e4⟩ := get1 i b e1
          by_cases hj2 : j < ls.length
          · rw [List.getElem?_append_left hj2] at e2
            rw [e4, rd.oth i j _ l hij e3 e2, ldz l (lsl j l e2)]
            grind
          · rw [List.getElem?_append_right (by omega)] at e2
            have hj0 : j = ls.length := by
              have := (List.getElem?_eq_some_iff.mp e2).1
              simp at this
              omega
            subst hj0
            simp at e2
            subst e2
            rw [e4, fld1]
            grind
        · rw [List.getElem?_append_right (by rw [hl1]; omega)] at e1
          have hi0 : i = ls.length := by
            have := (List.getElem?_eq_some_iff.mp e1).1
            rw [hl1] at this
            simp at this
            omega
          subst hi0
          rw [hl1] at e1
          simp at e1
          subst e1
          have hj2 : j < ls.length := by
            have := (List.getElem?_eq_some_iff.mp e2).1
            rw [List.length_append, List.length_singleton] at this
            omega
          rw [List.getElem?_append_left hj2] at e2
          exact ldz l (lsl j l e2)
      · rw [List.pairwise_append]
        refine ⟨rd.asc, List.pairwise_singleton _ _, fun a ha b hb => ?_⟩
        rw [List.mem_singleton] at hb
        rw [hb]
        obtain ⟨i, hi⟩ := List.getElem?_of_mem ha
        exact lsl i a hi
end
end La
set_option maxRecDepth 100000
set_option maxHeartbeats 4000000
namespace La
section
variable {R : Type} [Lean.Grind.CommRing R] {p : Int} {n : Nat}
structure RedOk (p : Int) (R : Type) [Lean.Grind.CommRing R] (n : Nat) (cols B : Mat) : Prop where
  mt : Mt p n B
  red : RedF n (fm B : List (Nat → R)) (leads B)
  sp1 : ∀ c ∈ B, Sp (fm cols) (fv c : Nat → R)
  sp2 : ∀ c ∈ cols, Sp (fm B) (fv c : Nat → R)
def sm : List Nat → (Nat → R) → R
  | [], _ => 0
  | k :: l, f => f k + sm l f
def free (n : Nat) (ls : List Nat) : List Nat := (List.range n).filter fun k => decide (k ∉ ls)
theorem nodup_of_asc : ∀ {ls : List Nat}, ls.Pairwise (· < ·) → ls.Nodup
  | _, h => h.imp fun {a b} (h : a < b) => Nat.ne_of_lt h
end
end La
set_option maxRecDepth 100000
set_option maxHeartbeats 4000000
namespace La
section
variable {R : Type} [Lean.Grind.CommRing R] {p : Int} {n : Nat}
theorem RedOk.get {cols B : Mat} (h : RedOk p R n cols B) {i : Nat} (hi : i < B.length) : (fm B : List (Nat → R))[i]? = some (fv (row0 B i)) ∧ (leads B)[i]? = some (lead1 (row0 B i)) := by
  refine ⟨?_, ?_⟩
  · unfold fm; rw [List.getElem?_map, row0_get hi]; rfl
  · unfold leads; rw [List.getElem?_map, row0_get hi]; rfl
theorem fv_out {c : Rw} (h : Vec p n c) {k : Nat} (hk : n ≤ k) : (fv c k : R) = 0 := by
  unfold fv
  rw [at0_out (by rw [h.1]; exact hk), cast_zero]
def x0 (B : Mat) (ls : List Nat) (n : Nat) : Rw := (B.zip ls).foldl (fun c q => c.set q.2 (at0 q.1 n)) (List.replicate n 0)
def clrK (p : Int) (K : Mat) (x : Rw) : Rw := K.foldl (fun x k => clr p (lead1 k) k x) x
theorem RedF.tail {b : Nat → R} {B : List (Nat → R)} {l : Nat} {L : List Nat} (h : RedF n (b :: B) (l :: L)) : RedF n B L :=
  ⟨by simpa using h.len, fun i c m e1 e2 => h.one (i + 1) c m (by simpa using e1) (by simpa using e2), fun i j c m hij e1 e2 => h.oth (i + 1) (j + 1) c m (by omega) (by simpa using e1) (by simpa using e2), (List.pairwise_cons.mp h.asc).2⟩
end
end La
set_option maxRecDepth 100000
set_option maxHeartbeats 4000000
namespace La
variable {p : Int} {n : Nat}
theorem asc_len {m : Nat} : ∀ {ls : List Nat} {a : Nat}, ls.Pairwise (· < ·) → (∀ l ∈ ls, a ≤ l ∧ l < m) → ls.length ≤ m - a
  | [], _, _, _ => Nat.zero_le _
  | l :: ls, a, h, hl => by
    rw [List.pairwise_cons] at h
    have := asc_len (a := l + 1) h.2 fun k hk => ⟨h.1 k hk, (hl k (List.mem_cons_of_mem _ hk)).2⟩
    have := hl l List.mem_cons_self
    rw [List.length_cons]
    omega
end La
set_option maxRecDepth 100000
set_option maxHeartbeats 400000
namespace La
section
variable {R : Type} [Lean.Grind.CommRing R] {p : Int} {n : Nat}
theorem asc_full {ls : List Nat} (ha : ls.Pairwise (· < ·)) (hm : ∀ i, i < n → i ∈ ls) (hl : ls.length ≤ n) : ls = List.range n := by
  have h1 : ∀ (m : Nat) (a : Nat) (ls : List Nat), ls.Pairwise (· < ·) → (∀ i, a ≤ i → i < a + m → i ∈ ls) → (∀ x ∈ ls, a ≤ x) → ls.length ≤ m → ls = (List.range m).map (a + ·) := by
    intro m
    induction m with
    | zero =>
      intro a ls _ _ _ hl
      have : ls = [] := List.length_eq_zero_iff.mp (by omega)
      rw [this]; rfl
    | succ m ih =>
      intro a ls hp hm hg hl
      have h0 := hm a (by omega) (by omega)
      cases ls with
      | nil => cases h0
      | cons x ls =>
        rw [List.pairwise_cons] at hp
        have hx : x = a := by
          rcases List.mem_cons.mp h0 with e | e
          · exact e.symm
          · have := hp.1 a e
            have := hg x List.mem_cons_self
            omega
        subst hx
        rw [List.range_succ_eq_map, List.map_cons, List.map_map]
        congr 1
        rw [ih (x + 1) ls hp.2 (fun i h1 h2 => by
          rcases List.mem_cons.mp (hm i (by omega) (by omega)) with e | e
          · omega
          · exact e) (fun y hy => hp.1 y hy) (by simpa using hl)]
        refine List.map_congr_left fun k _ => ?_
        show x + 1 + k = x + (k + 1)
        omega
  have := h1 n 0 ls ha (fun i _ h => hm i (by omega)) (fun _ _ => Nat.zero_le _) hl
  rw [this]
  simp
theorem asc_range {ls : List Nat} (ha : ls.Pairwise (· < ·)) (hb : ∀ l ∈ ls, l < n) (hl : n ≤ ls.length) : ls = List.range n := by
  refine asc_full ha (fun i hi => ?_) (by have := asc_len (a := 0) ha fun l h => ⟨Nat.zero_le _, hb l h⟩; omega)
  by_cases hm : i ∈ ls
  · exact hm
  exfalso
  -- a list without i is short
  have h1 : ∀ (ls : List Nat) (a : Nat), ls.Pairwise (· < ·) → (∀ l ∈ ls, a ≤ l ∧ l < n) → i ∉ ls → a ≤ i → i < n → ls.length + 1 ≤ n - a := by
    intro ls
    induction ls with
    | nil => intro a _ _ _ h1 h2; simp; omega
    | cons x ls ih =>
      intro a hp hb hn h1 h2
      rw [List.pairwise_cons] at hp
      have hx := hb x List.mem_cons_self
      have hxi : x ≠ i := fun e => hn (by rw [e]; exact List.mem_cons_self)
      rw [List.length_cons]
      by_cases hlt : x < i
      · have := ih (x + 1) hp.2 (fun l hl => ⟨hp.1 l hl, (hb l (List.mem_cons_of_mem _ hl)).2⟩) (fun h => hn (List.mem_cons_of_mem _ h)) (by omega) h2
        omega
      · have := asc_len (a := x + 1) hp.2 (m := n) fun l hl => ⟨hp.1 l hl, (hb l (List.mem_cons_of_mem _ hl)).2⟩
        omega
  have := h1 ls 0 ha (fun l h => ⟨Nat.zero_le _, hb l h⟩) hm (by omega) hi
  omega
def un (n i : Nat) : Nat → R := fun k => if k = i ∧ i < n then 1 else 0
end
end La
set_option maxRecDepth 100000
set_option maxHeartbeats 400000
namespace La
section
variable {R : Type} [Lean.Grind.CommRing R] {p : Int} {n m : Nat}
theorem nodup_le {α : Type} [DecidableEq α] : ∀ {l k : List α}, l.Nodup → (∀ x ∈ l, x ∈ k) → l.length ≤ k.length
  | [], _, _, _ => Nat.zero_le _
  | a :: l, k, hn, h => by
    rw [List.nodup_cons] at hn
    have ha := h a List.mem_cons_self
    have := nodup_le (k := k.erase a) hn.2 fun x hx => (List.mem_erase_of_ne (fun (e : x = a) => hn.1 (by rw [← e]; exact hx))).mpr (h x (List.mem_cons_of_mem _ hx))
    rw [List.length_erase_of_mem ha] at this
    have hp := List.length_pos_of_mem ha
    rw [List.length_cons]
    omega
def rk (p : Int) (C : Mat) (n : Nat) : Nat := (red p C n).length
theorem asc_eq : ∀ {l k : List Nat}, l.Pairwise (· < ·) → k.Pairwise (· < ·) → (∀ x, x ∈ l ↔ x ∈ k) → l = k
  | [], [], _, _, _ => rfl
  | [], b :: k, _, _, h => absurd ((h b).mpr List.mem_cons_self) (by simp)
  | a :: l, [], _, _, h => absurd ((h a).mp List.mem_cons_self) (by simp)
  | a :: l, b :: k, hl, hk, h => by
    rw [List.pairwise_cons] at hl hk
    have e : a = b := by
      rcases List.mem_cons.mp ((h a).mp List.mem_cons_self) with e | e
      · exact e
      · have h1 := hk.1 a e
        rcases List.mem_cons.mp ((h b).mpr List.mem_cons_self) with e2 | e2
        · exact e2.symm
        · have := hl.1 b e2
          omega
    subst e
    congr 1
    refine asc_eq hl.2 hk.2 fun x => ⟨fun hx => ?_, fun hx => ?_⟩
    · rcases List.mem_cons.mp ((h x).mp (List.mem_cons_of_mem _ hx)) with e | e
      · have := hl.1 x hx; omega
      · exact e
    · rcases List.mem_cons.mp ((h x).mpr (List.mem_cons_of_mem _ hx)) with e | e
      · have := hk.1 x hx; omega
      · exact e
/-- a map of columns -/
structure Lin (p : Int) (R : Type) [Lean.Grind.CommRing R] (n m : Nat) (F : Rw → Rw) (f : (Nat → R) → Nat → R) : Prop where
  vec : ∀ c, Vec p n c → Vec p m (F c)
  eq : ∀ c k, Vec p n c → (fv (F c) k : R) = f (fv c) k
  zero : ∀ k, f (fun _ => 0) k = 0
  add : ∀ v w c k, f (fun i => v i + c * w i) k = f v k + c * f w k
variable {F : Rw → Rw} {f : (Nat → R) → Nat → R}
theorem Lin.up (L : Lin p R n m F f) {C : Mat} (hC : Mt p n C) {w : Nat → R} (hw : Sp (fm (C.map F)) w) : ∃ v, Sp (fm C) v ∧ ∀ k, f v k = w k := by
  induction hw with
  | zero => exact ⟨_, .zero, L.zero⟩
  | add c _ hm ih =>
    obtain ⟨v, h1, h2⟩ := ih
    obtain ⟨e, he, rfl⟩ := fm_mem hm
    obtain ⟨d, hd, rfl⟩ := List.mem_map.mp he
    exact ⟨_, .add c h1 (mem_fm hd), fun k => by
      dsimp only
      rw [L.add, h2, L.eq d k (hC d hd)]⟩
end
end La
set_option maxRecDepth 100000
set_option maxHeartbeats 400000
namespace La
def tr (T : Mat) (n : Nat) : Mat := (List.range n).map fun j => (List.range T.length).map fun i => at0 (row0 T i) j
def rest (p : Int) (B : Mat) (x : Rw) (n : Nat) : Rw := (free n (leads B)).map (at0 (clrK p B x))
end La
set_option maxRecDepth 100000
set_option maxHeartbeats 400000
namespace La
end La
set_option maxRecDepth 100000
set_option maxHeartbeats 400000
namespace La
section
variable {R : Type} [Lean.Grind.CommRing R] {p : Int} {n m : Nat}
theorem nodup_on {α β : Type} {f : α → β} : ∀ {l : List α}, l.Nodup → (∀ x ∈ l, ∀ y ∈ l, f x = f y → x = y) → (l.map f).Nodup
  | [], _, _ => List.nodup_nil
  | a :: l, hn, h => by
    rw [List.nodup_cons] at hn
    rw [List.map_cons, List.nodup_cons]
    refine ⟨fun hm => ?_, nodup_on hn.2 fun x hx y hy => h x (List.mem_cons_of_mem _ hx) y (List.mem_cons_of_mem _ hy)⟩
    obtain ⟨b, hb, e⟩ := List.mem_map.mp hm
    have := h b (List.mem_cons_of_mem _ hb) a List.mem_cons_self e
    rw [this] at hb
    exact hn.1 hb
end
end La
set_option maxRecDepth 100000
set_option maxHeartbeats 400000
namespace La
end La
set_option maxRecDepth 100000
set_option maxHeartbeats 400000
namespace La
section
variable {R : Type} [Lean.Grind.CommRing R] {p : Int} {n m : Nat}
/-- coordinates of a column, at other places -/
def crd (m : Nat) (φ : Nat → Option Nat) (c : Rw) : Rw := (List.range m).map fun k => match φ k with
  | some j => at0 c j
  | none => 0
theorem Sp.out {C : Mat} (hC : Mt p n C) {v : Nat → R} (h : Sp (fm C) v) {k : Nat} (hk : n ≤ k) : v k = 0 := by
  induction h with
  | zero => rfl
  | add c _ hb ih =>
    obtain ⟨d, hd, rfl⟩ := fm_mem hb
    dsimp only
    rw [ih, fv_out (hC d hd) hk]
    grind
end
end La
set_option maxRecDepth 100000
set_option maxHeartbeats 400000
namespace La
section
variable (sz : Nat → Nat)
/-- where the block of a spot begins -/
def stt : List Nat → Nat → Nat
  | [], _ => 0
  | y :: ys, x => if y = x then 0 else sz y + stt ys x
/-- the places of some spots' entries among those of other ones -/
def pos (xs : List Nat) : List Nat → Nat → Nat
  | [], _ => 0
  | y :: ys, k => if k < sz y then stt sz xs y + k else pos xs ys (k - sz y)
end
end La
set_option maxRecDepth 100000
set_option maxHeartbeats 400000
namespace La
def ixo : List Nat → Nat → Option Nat
  | [], _ => none
  | a :: l, x => if a = x then some 0 else (ixo l x).map (· + 1)
theorem ixo_some {x i : Nat} : ∀ {l : List Nat}, ixo l x = some i → l[i]? = some x
  | [], h => by cases h
  | a :: l, h => by
    unfold ixo at h
    split at h
    · rename_i e
      cases h
      rw [e]
      rfl
    · obtain ⟨j, hj, rfl⟩ := Option.map_eq_some_iff.mp h
      have := ixo_some hj
      simpa using this
theorem get_D' {l : List Nat} {k : Nat} (h : k < l.length) : l[k]? = some (l.getD k 0) := by
  rw [List.getD_eq_getElem?_getD, List.getElem?_eq_getElem h]
  rfl
/-- columns of free places, told at all of them -/
def put (n : Nat) (fr : List Nat) (c : Rw) : Rw := crd n (fun k => ixo fr k) c
end La
set_option maxRecDepth 100000
set_option maxHeartbeats 400000
namespace La
end La
set_option maxRecDepth 100000
set_option maxHeartbeats 400000
namespace La
def Cg (p a b : Int) : Prop := ∃ k, a = b + p * k
theorem Cg.add {p a b c d : Int} (h : Cg p a b) (h' : Cg p c d) : Cg p (a + c) (b + d) := by
  obtain ⟨k, rfl⟩ := h
  obtain ⟨l, rfl⟩ := h'
  exact ⟨k + l, by rw [Int.mul_add]; omega⟩
theorem Cg.trans {p a b c : Int} (h : Cg p a b) (h' : Cg p b c) : Cg p a c := by
  obtain ⟨k, rfl⟩ := h
  obtain ⟨l, rfl⟩ := h'
  exact ⟨k + l, by rw [Int.mul_add]; omega⟩
theorem Cg.mod {p a : Int} : Cg p (a % p) a := ⟨-(a / p), by rw [Int.emod_def, Int.mul_neg]; omega⟩
theorem Cg.eq {p a b : Int} (h : Cg p a b) : a % p = b % p := by
  obtain ⟨k, rfl⟩ := h
  exact Int.add_mul_emod_self_left b p k
end La
set_option maxRecDepth 100000
set_option maxHeartbeats 400000
namespace La
end La
set_option maxRecDepth 100000
set_option maxHeartbeats 400000
namespace La
end La
set_option maxRecDepth 100000
set_option maxHeartbeats 400000
namespace La
end La
set_option maxRecDepth 100000
set_option maxHeartbeats 400000
namespace La
end La
set_option maxRecDepth 100000
set_option maxHeartbeats 400000
namespace La
end La
set_option maxRecDepth 100000
set_option maxHeartbeats 400000
namespace LH
open PySem PySem.Spec PyProof.Rows L2 Pd Ty La
def inN (l : List Nat) : List Int := l.map fun (k : Nat) => (k : Int)
theorem inN_len (l : List Nat) : (inN l).length = l.length := by unfold inN; simp
end LH
set_option maxRecDepth 100000
set_option maxHeartbeats 400000
namespace LH
open PySem PySem.Spec PyProof.Rows L2 Pd Ty La
theorem inN_get {l : List Nat} {k : Nat} (h : k < l.length) : ixM (inN l) ((k : Nat) : Int) = pu ((l.getD k 0 : Nat) : Int) := by
  refine ix_get ?_
  unfold inN
  rw [List.getElem?_map, List.getElem?_eq_getElem h, List.getD_eq_getElem?_getD, List.getElem?_eq_getElem h]
  rfl
end LH
set_option maxRecDepth 100000
set_option maxHeartbeats 400000
namespace LH
open PySem PySem.Spec PyProof.Rows L2 Pd Ty La
theorem En.mem {α : Type} {l : List α} {k : Int → M α} (hl : l.length < 1073741824) (h : l ≠ []) : En (bi (dr ((l.length : Nat) : Int)) fun b => ixM l b) (fun x => x ∈ l) := by
  have hp : 0 < l.length := List.length_pos_iff.mpr h
  refine En.bi (En.dr (by omega) (by omega)) fun x hx => ?_
  have e : x = ((x.toNat : Nat) : Int) := by omega
  have hlt : x.toNat < l.length := by omega
  rw [e]
  exact En.of (ix_get (List.getElem?_eq_getElem hlt)) (List.getElem_mem hlt)
theorem n_law_of {m : Unit} {l : List Int} (hl : l.length < 1073741824) (h : l ≠ []) : En (t__law_of m l) (fun x => x ∈ l) := by
  unfold t__law_of
  exact En.mem (k := fun _ => pu 0) hl h
end LH
set_option maxRecDepth 100000
set_option maxHeartbeats 400000
namespace LH
open PySem PySem.Spec PyProof.Rows L2 Pd Ty
theorem mem_cut {α : Type} {l : List α} {lo hi : Option Int} {x : α} (h : x ∈ cut l lo hi) : x ∈ l := List.mem_of_mem_drop (List.mem_of_mem_take h)
theorem len_cut {α : Type} {l : List α} {lo hi : Option Int} : (cut l lo hi).length ≤ l.length := by
  unfold cut
  rw [List.length_take, List.length_drop]
  omega
structure Scr (l : List Int) : Prop where
  len : l.length ≤ 63
  bit : ∀ x ∈ l, x.natAbs.log2 ≤ 1048576
theorem pow10 : powM 10 18 = pu (10 ^ 18) := rq_true (by decide) _
theorem n_law_begun {l : List Int} {k : Int} (h : Scr l) (h0 : 0 ≤ k) (h1 : k ≤ 100) : En (t__law_begun l k) (fun _ => True) := by
  unfold t__law_begun
  have hc := len_cut (l := l) (lo := some k) (hi := none)
  have hd := len_cut (l := l) (lo := none) (hi := some k)
  have hl := h.len
  refine En.bie (okCat (by omega)) ?_
  obtain ⟨cs, hcs⟩ : ∃ cs, cs = cut l (some k) none ++ cut l none (some k) := ⟨_, rfl⟩
  have hcm : ∀ x ∈ cs, x.natAbs.log2 ≤ 1048576 := fun x hx => by
    rw [hcs] at hx
    rcases List.mem_append.mp hx with hx | hx
    · exact h.bit x (mem_cut hx)
    · exact h.bit x (mem_cut hx)
  have hcl : cs.length ≤ 126 := by rw [hcs, List.length_append]; omega
  rw [← hcs]
  refine En.bie (nx_lc (fun x => gGe x (10 ^ 18)) (fun x => x) cs (fun x _ => by rw [pow10, pu_bi]) (fun x _ _ => rfl)) ?_
  rw [pu_bi]
  refine En.bi (En.for_get cs (fun _ s => 0 ≤ s ∧ s < 2147483647) (71 + k) (by omega) fun i x s _ hs => ?_) fun s hs => ?_
  · rw [okMul2 (by decide), pu_bi, pu_bi, okMod (by decide), pu_bi]
    exact En.pu ⟨Int.emod_nonneg _ (by decide), Int.emod_lt_of_pos _ (by decide)⟩
  · refine En.bi (P := fun _ => True) ?_ fun i _ => ?_
    · refine En.ite (fun e => ?_) fun _ => En.pu trivial
      cases hg : List.map (fun (x : Int) => x) (List.filter (fun x => gGe x (10 ^ 18)) cs) with
      | nil => rw [hg] at e; exact absurd e (by decide)
      | cons a t => exact En.of ix_cons trivial
    · rw [pu_bi, okMul (by decide), pu_bi, pu_bi, pu_bi, okCat (by simp; omega), pu_bi]
      refine En.of (rq_true ⟨hs.1, hs.2, by simp, fun x hx => ?_⟩ ()) trivial
      rcases List.mem_append.mp hx with hx | hx
      · exact Nat.lt_of_le_of_lt (hcm x hx) (by decide)
      · rw [List.mem_singleton] at hx
        rw [hx]
        have : (53 * k + 11).natAbs < 2 ^ 20 := by omega
        by_cases hz : (53 * k + 11).natAbs = 0
        · rw [hz]; decide
        · exact Nat.lt_trans ((Nat.log2_lt hz).mpr this) (by decide)
end LH
set_option maxRecDepth 100000
set_option maxHeartbeats 400000
namespace LH
open PySem PySem.Spec PyProof.Rows L2 Pd Ty La
theorem n_law_shuffled {m : Unit} {n : Nat} (hn : n ≤ 1000) : En (t__law_shuffled m (n : Int)) (fun l => l.length = n ∧ (∀ x ∈ l, ∃ i : Nat, i < n ∧ x = (i : Int)) ∧ ∀ i : Nat, i < n → (i : Int) ∈ l) := by
  unfold t__law_shuffled
  rw [okRg (by omega), pu_bi, pu_bi, pu_bi]
  refine En.bi (En.for_rg (fun i s => s.1.Nodup ∧ s.1.length = n - i ∧ s.2.length = i ∧ (∀ x ∈ s.1 ++ s.2, ∃ j : Nat, j < n ∧ x = (j : Int)) ∧ ∀ j : Nat, j < n → (j : Int) ∈ s.1 ++ s.2) ?_ fun i s hi hs => ?_) fun s hs => En.pu ?_
  · refine ⟨?_, by rw [rgN_len]; omega, rfl, fun x hx => ?_, fun j hj => ?_⟩
    · unfold rgN
      refine List.Pairwise.map _ (R := (· ≠ ·)) (fun a b h e => h (by omega)) List.nodup_range
    · rw [List.append_nil] at hx; exact rgN_mem.mp hx
    · rw [List.append_nil]; exact rgN_mem.mpr ⟨j, hj, rfl⟩
  · obtain ⟨h1, h2, h3, h4, h5⟩ := hs
    refine En.bi (n_law_of (by omega) (fun e => by rw [e] at h2; simp at h2; omega)) fun x hx => ?_
    rw [pu_bi]
    refine En.bie (okApp (by omega)) (En.pu ?_)
    have em : ∀ y, y ∈ List.map (fun (z : Int) => z) (List.filter (fun z => decide (z ≠ x)) s.1) ↔ y ∈ s.1 ∧ y ≠ x := fun y => by simp
    refine ⟨?_, ?_, by rw [List.length_append, h3]; rfl, fun y hy => ?_, fun j hj => ?_⟩
    · rw [List.map_id']; exact List.Pairwise.filter _ h1
    · rw [List.map_id']
      have hcnt : ∀ l : List Int, l.Nodup → x ∈ l → (l.filter fun z => decide (z ≠ x)).length + 1 = l.length := by
        intro l
        induction l with
        | nil => intro _ h; cases h
        | cons a l ih =>
          intro hn hm
          rw [List.nodup_cons] at hn
          rcases List.mem_cons.mp hm with e | hm
          · subst e
            have hf : (l.filter fun z => decide (z ≠ x)) = l := List.filter_eq_self.mpr fun b hb => decide_eq_true (fun (z : b = x) => hn.1 (by rw [← z]; exact hb))
            rw [List.filter_cons, if_neg (by simp), hf, List.length_cons]
          · have : a ≠ x := fun e => hn.1 (by rw [e]; exact hm)
            rw [List.filter_cons, if_pos (decide_eq_true this), List.length_cons, List.length_cons, ih hn.2 hm]
      have := hcnt s.1 h1 hx
      show (List.filter (fun z => decide (z ≠ x)) s.1).length = n - (i + 1)
      omega
    · rcases List.mem_append.mp hy with hy | hy
      · exact h4 y (List.mem_append_left _ ((em y).mp hy).1)
      · rcases List.mem_append.mp hy with hy | hy
        · exact h4 y (List.mem_append_right _ hy)
        · rw [List.mem_singleton] at hy; rw [hy]; exact h4 x (List.mem_append_left _ hx)
    · by_cases e : (j : Int) = x
      · exact List.mem_append_right _ (List.mem_append_right _ (by rw [e]; exact List.mem_singleton.mpr rfl))
      · rcases List.mem_append.mp (h5 j hj) with h | h
        · exact List.mem_append_left _ ((em _).mpr ⟨h, e⟩)
        · exact List.mem_append_right _ (List.mem_append_left _ h)
  · obtain ⟨h1, h2, h3, h4, h5⟩ := hs
    have e : s.1 = [] := List.length_eq_zero_iff.mp (by omega)
    rw [e, List.nil_append] at h4 h5
    exact ⟨h3, h4, h5⟩
end LH
set_option maxRecDepth 100000
set_option maxHeartbeats 400000
namespace LH
open PySem PySem.Spec PyProof.Rows L2 Pd Ty La
structure Prs (n : Nat) (l : List (Int × Int)) : Prop where
  at_ : ∀ q ∈ l, ∃ x y : Nat, x < n ∧ y < n ∧ q = ((x : Int), (y : Int))
/-- all pairs of spots -/
def allP (n : Nat) : List (Int × Int) := (rgN n).flatMap fun x => (rgN n).map fun y => (x, y)
theorem mem_allP {n : Nat} {q : Int × Int} : q ∈ allP n ↔ ∃ x y : Nat, x < n ∧ y < n ∧ q = ((x : Int), (y : Int)) := by
  unfold allP
  rw [List.mem_flatMap]
  constructor
  · rintro ⟨x, hx, hq⟩
    obtain ⟨y, hy, rfl⟩ := List.mem_map.mp hq
    obtain ⟨i, hi, rfl⟩ := rgN_mem.mp hx
    obtain ⟨j, hj, rfl⟩ := rgN_mem.mp hy
    exact ⟨i, j, hi, hj, rfl⟩
  · rintro ⟨i, j, hi, hj, rfl⟩
    exact ⟨_, rgN_mem.mpr ⟨i, hi, rfl⟩, List.mem_map.mpr ⟨_, rgN_mem.mpr ⟨j, hj, rfl⟩, rfl⟩⟩
theorem len_allP (n : Nat) : (allP n).length = n * n := by
  unfold allP
  rw [List.length_flatMap]
  have : ∀ l : List Int, (l.map fun x => ((rgN n).map fun y => (x, y)).length).sum = l.length * n := by
    intro l
    induction l with
    | nil => simp
    | cons a l ih => rw [List.map_cons, List.sum_cons, ih, List.length_map, rgN_len, List.length_cons, Nat.succ_mul]; omega
  rw [this, rgN_len]
theorem Prs.len {n : Nat} {l : List (Int × Int)} (h : Prs n l) (hn : l.Nodup) : l.length ≤ n * n := by
  rw [← len_allP n]
  exact nodup_le hn fun q hq => mem_allP.mpr (h.at_ q hq)
theorem Prs.nn {n : Nat} {l : List (Int × Int)} (h : Prs n l) : nnP l = true := by
  refine List.all_eq_true.mpr fun q hq => ?_
  obtain ⟨x, y, _, _, rfl⟩ := h.at_ q hq
  rw [Bool.and_eq_true, decide_eq_true_eq, decide_eq_true_eq]
  omega
theorem nodup_of_cover {α : Type} [DecidableEq α] : ∀ {l k : List α}, k.Nodup → (∀ x ∈ k, x ∈ l) → l.length ≤ k.length → l.Nodup
  | [], _, _, _, _ => List.nodup_nil
  | a :: l, k, hk, h, hl => by
    rw [List.length_cons] at hl
    have ha : a ∉ l := fun m => by
      have := nodup_le hk (k := l) fun x hx => (List.mem_cons.mp (h x hx)).elim (fun e => e ▸ m) id
      omega
    have h1 : k.length ≤ (a :: k.filter fun x => decide (x ≠ a)).length := nodup_le hk fun x hx => by
      by_cases e : x = a
      · rw [e]; exact List.mem_cons_self
      · exact List.mem_cons_of_mem _ (List.mem_filter.mpr ⟨hx, decide_eq_true e⟩)
    rw [List.length_cons] at h1
    refine List.nodup_cons.mpr ⟨ha, nodup_of_cover (k := k.filter fun x => decide (x ≠ a)) (List.Pairwise.filter _ hk) (fun x hx => ?_) (by omega)⟩
    obtain ⟨hx, hne⟩ := List.mem_filter.mp hx
    exact (List.mem_cons.mp (h x hx)).elim (fun e => absurd e (of_decide_eq_true hne)) id
theorem nodup_rgN (n : Nat) : (rgN n).Nodup := nodup_on List.nodup_range fun a _ b _ e => by omega
theorem n_law_shuffled' {m : Unit} {n : Nat} (hn : n ≤ 1000) : En (t__law_shuffled m (n : Int)) (fun l => l.length = n ∧ (∀ x ∈ l, ∃ i : Nat, i < n ∧ x = (i : Int)) ∧ l.Nodup) := (n_law_shuffled hn).wk fun l h => ⟨h.1, h.2.1, nodup_of_cover (nodup_rgN n) (fun x hx => by
  obtain ⟨i, hi, rfl⟩ := rgN_mem.mp hx
  exact h.2.2 i hi) (by rw [rgN_len, h.1]; exact Nat.le_refl _)⟩
structure PrsN (n : Nat) (l : List (Int × Int)) : Prop extends Prs n l where
  nd : l.Nodup
def ascP (l : List (Int × Int)) : Bool := List.all (List.map (fun (q : (Int × Int) × (Int × Int)) => ltP q.1 q.2) (List.zip l (List.tail l))) id
theorem lt_of_le {a b : Int × Int} (h : SrtT.leI (prL a) (prL b) = true) (hne : a ≠ b) : ltP a b = true := by
  obtain ⟨a1, a2⟩ := a
  obtain ⟨b1, b2⟩ := b
  have h : (!SrtT.lexI [b1, b2] [a1, a2]) = true := h
  rw [Bool.not_eq_true'] at h
  show HT.lexLt [a1, a2] [b1, b2] = true
  unfold SrtT.lexI at h
  unfold HT.lexLt
  by_cases e : a1 = b1
  · subst e
    rw [if_pos rfl]
    have h2 : a2 ≠ b2 := fun z => hne (by rw [z])
    unfold HT.lexLt
    rw [if_neg h2]
    simp [SrtT.lexI] at h
    apply decide_eq_true
    omega
  · rw [if_neg e]
    simp [SrtT.lexI, e, Ne.symm e] at h
    apply decide_eq_true
    omega
theorem asc_of : ∀ {l : List (Int × Int)}, l.Pairwise (fun a b => SrtT.leI (prL a) (prL b) = true) → l.Nodup → ascP l = true
  | [], _, _ => rfl
  | [_], _, _ => rfl
  | a :: b :: l, h, hn => by
    have h1 := List.pairwise_cons.mp h
    have h2 := List.pairwise_cons.mp hn
    have := asc_of h1.2 h2.2
    unfold ascP at this ⊢
    rw [List.tail_cons, List.zip_cons_cons, List.map_cons, List.all_cons, lt_of_le (h1.1 b List.mem_cons_self) (h2.1 b List.mem_cons_self)]
    exact this
theorem asc_setP (l : List (Int × Int)) : ascP (setP l) = true := by
  refine asc_of ?_ (nodup_setP l)
  have h : ((setP l).map prL).Pairwise (fun a b => SrtT.leI a b = true) := by
    rw [← setP_map]
    exact List.pairwise_mergeSort SrtT.leI_trans SrtT.leI_total _
  exact List.pairwise_map.mp h
structure PrsT (n : Nat) (l : List (Int × Int)) : Prop extends PrsN n l where
  tr : ∀ x y z : Int, (x, y) ∈ l → (y, z) ∈ l → (x, z) ∈ l
  ac : ∃ f : Int → Nat, ∀ x y : Int, (x, y) ∈ l → f x < f y
  up : ascP l = true
/-- closed through the spots below i -/
def Clo (i : Int) (l : List (Int × Int)) : Prop := ∀ x y z : Int, y < i → (x, y) ∈ l → (y, z) ∈ l → (x, z) ∈ l
/-- what is put in through a spot -/
def Thr (i j : Int) (l s : List (Int × Int)) : Prop := ∀ x y : Int, (x, y) ∈ s ↔ (x, y) ∈ l ∨ (x < j ∧ (x, i) ∈ l ∧ (i, y) ∈ l)
theorem clo_next {i n : Int} {l s : List (Int × Int)} (h : Clo i l) (ht : Thr i n l s) (hn : ∀ x y : Int, (x, y) ∈ l → x < n) : Clo (i + 1) s := by
  intro x y z hy h1 h2
  rw [ht] at h1 h2 ⊢
  by_cases e : y = i
  · subst e
    have h1 : (x, y) ∈ l := h1.elim id fun q => q.2.1
    have h2 : (y, z) ∈ l := h2.elim id fun q => q.2.2
    exact .inr ⟨hn x y h1, h1, h2⟩
  · have hy : y < i := by omega
    rcases h1 with h1 | ⟨_, h1, h1'⟩ <;> rcases h2 with h2 | ⟨_, h2, h2'⟩
    · exact .inl (h x y z hy h1 h2)
    · exact .inr ⟨hn x y h1, h x y i hy h1 h2, h2'⟩
    · exact .inr ⟨hn x i h1, h1, h i y z hy h1' h2⟩
    · exact .inr ⟨hn x i h1, h1, h2'⟩
theorem thr_next {i j : Int} {l s k : List (Int × Int)} (h : Thr i j l s) (hk : ∀ x y : Int, (x, y) ∈ k ↔ (x, y) ∈ s ∨ (x = j ∧ (j, i) ∈ s ∧ (i, y) ∈ s)) : Thr i (j + 1) l k := by
  intro x y
  rw [hk]
  have e1 : (j, i) ∈ s ↔ (j, i) ∈ l := (h j i).trans ⟨fun q => q.elim id fun q => absurd q.1 (by omega), .inl⟩
  have e2 : (i, y) ∈ s ↔ (i, y) ∈ l := (h i y).trans ⟨fun q => q.elim id fun q => q.2.2, .inl⟩
  rw [e1, e2, h x y]
  constructor
  · rintro ((q | ⟨a, b, c⟩) | ⟨a, b, c⟩)
    · exact .inl q
    · exact .inr ⟨by omega, b, c⟩
    · subst a
      exact .inr ⟨by omega, b, c⟩
  · rintro (q | ⟨a, b, c⟩)
    · exact .inl (.inl q)
    · by_cases e : x = j
      · subst e
        exact .inr ⟨rfl, b, c⟩
      · exact .inl (.inr ⟨by omega, b, c⟩)
/-- no pair and its reverse: half of all -/
theorem Prs.half {n : Nat} {l : List (Int × Int)} (h : Prs n l) (hn : l.Nodup) {f : Int → Nat} (hf : ∀ x y : Int, (x, y) ∈ l → f x < f y) : 2 * l.length ≤ n * n := by
  have hd : (l ++ l.map fun q => (q.2, q.1)).Nodup := by
    rw [List.nodup_append]
    refine ⟨hn, nodup_on hn fun a _ b _ e => ?_, fun a ha b hb e => ?_⟩
    · have e1 := congrArg Prod.fst e
      have e2 := congrArg Prod.snd e
      exact Prod.ext e2 e1
    · obtain ⟨q, hq, rfl⟩ := List.mem_map.mp hb
      subst e
      exact Nat.lt_irrefl _ (Nat.lt_trans (hf _ _ ha) (hf q.1 q.2 hq))
  have := nodup_le hd (k := allP n) fun q hq => by
    rcases List.mem_append.mp hq with hq | hq
    · exact mem_allP.mpr (h.at_ q hq)
    · obtain ⟨r, hr, rfl⟩ := List.mem_map.mp hq
      obtain ⟨x, y, hx, hy, e⟩ := h.at_ r hr
      exact mem_allP.mpr ⟨y, x, hy, hx, by rw [e]⟩
  rw [List.length_append, List.length_map, len_allP] at this
  omega
theorem n_law_closed {n : Nat} {l : List (Int × Int)} (h : PrsN n l) (hn : n ≤ 10) (f : Int → Nat) (T : Int → Int → Prop) (hT : ∀ x y z, T x y → T y z → T x z) (hTf : ∀ x y, T x y → f x < f y) (hl : ∀ x y : Int, (x, y) ∈ l → T x y) : En (t__law_closed (n : Int) l) (fun o => o.1 = (n : Int) ∧ PrsT n o.2 ∧ (∀ q ∈ l, q ∈ o.2) ∧ ∀ x y : Int, (x, y) ∈ o.2 → T x y) := by
  have hnn : n * n ≤ 100 := Nat.mul_le_mul hn hn
  unfold t__law_closed
  rw [okRg (by omega), pu_bi]
  refine En.bi (En.for_rg (fun i s => PrsN n s ∧ Clo (i : Int) s ∧ (∀ x y : Int, (x, y) ∈ s → T x y) ∧ ∀ q ∈ l, q ∈ s) ⟨h, fun x y z hy h1 h2 => by
    obtain ⟨a, b, _, _, e⟩ := h.at_ _ h1
    have := congrArg Prod.snd e
    dsimp only at this
    omega, hl, fun q hq => hq⟩ fun i s hi hs => ?_) fun s hs => ?_
  · obtain ⟨hs, hc, hq, hk0⟩ := hs
    rw [pu_bi]
    refine En.bi (En.for_rg (fun j k => PrsN n k ∧ Thr (i : Int) (j : Int) s k) ⟨hs, fun x y => ⟨.inl, fun q => q.elim id fun q => by
      obtain ⟨a, b, _, _, e⟩ := hs.at_ _ q.2.1
      have := congrArg Prod.fst e
      dsimp only at this
      omega⟩⟩ fun j k hj hk => ?_) fun k hk => En.pu ⟨hk.1, clo_next hc hk.2 fun x y q => by
        obtain ⟨a, b, _, _, e⟩ := hs.at_ _ q
        have := congrArg Prod.fst e
        dsimp only at this
        omega, fun x y q => ((hk.2 x y).mp q).elim (hq x y) fun q => hT _ _ _ (hq _ _ q.2.1) (hq _ _ q.2.2), fun q hm => (hk.2 q.1 q.2).mpr (.inl (hk0 q hm))⟩
    obtain ⟨hk, ht⟩ := hk
    refine En.ite (fun c => ?_) fun c => En.pu ⟨hk, thr_next ht fun x y => ⟨.inl, fun q => q.elim id fun q => absurd (memB_iff.mpr q.2.1) c⟩⟩
    rw [pu_bi]
    have e := lc_rg (n := n) (mt := fun (y_8 : Int) => (pu ((memB ((i : Int), y_8) k) && (!memB ((j : Int), y_8) k)))) (me := fun (y_8 : Int) => (pu ((j : Int), y_8))) (fun y => memB ((i : Int), (y : Int)) k && (!memB ((j : Int), (y : Int)) k)) (fun (y : Nat) => ((j : Int), (y : Int))) (fun _ _ => rfl) (fun _ _ _ => rfl)
    rw [e, pu_bi]
    have new : PrsN n (k ++ ((List.range n).filter fun (y : Nat) => memB ((i : Int), (y : Int)) k && (!memB ((j : Int), (y : Int)) k)).map fun (y : Nat) => ((j : Int), (y : Int))) := by
      refine ⟨⟨fun q hq => ?_⟩, ?_⟩
      · rcases List.mem_append.mp hq with hq | hq
        · exact hk.at_ q hq
        · obtain ⟨y, hy, rfl⟩ := List.mem_map.mp hq
          exact ⟨j, y, hj, List.mem_range.mp (List.mem_filter.mp hy).1, rfl⟩
      · rw [List.nodup_append]
        refine ⟨hk.nd, nodup_on (List.Pairwise.filter _ List.nodup_range) fun a _ b _ e => ?_, fun a ha b hb e => ?_⟩
        · have := congrArg Prod.snd e
          dsimp only at this
          omega
        · obtain ⟨y, hy, rfl⟩ := List.mem_map.mp hb
          have := (List.mem_filter.mp hy).2
          rw [Bool.and_eq_true, Bool.not_eq_true', ← Bool.not_eq_true] at this
          rw [e] at ha
          exact this.2 (memB_iff.mpr ha)
    have nl := new.len new.nd
    rw [List.length_append] at nl
    rw [okCat (by omega), pu_bi]
    refine En.pu ⟨new, thr_next ht fun x y => ?_⟩
    rw [List.mem_append]
    constructor
    · rintro (q | q)
      · exact .inl q
      · obtain ⟨z, hz, e⟩ := List.mem_map.mp q
        have e1 := congrArg Prod.fst e
        have e2 := congrArg Prod.snd e
        dsimp only at e1 e2
        subst e1; subst e2
        have hz := (List.mem_filter.mp hz).2
        rw [Bool.and_eq_true] at hz
        exact .inr ⟨rfl, memB_iff.mp c, memB_iff.mp hz.1⟩
    · rintro (q | ⟨rfl, q1, q2⟩)
      · exact .inl q
      · by_cases hm : ((j : Int), y) ∈ k
        · exact .inl hm
        · obtain ⟨a, b, ha, hb, e⟩ := hk.at_ _ q2
          have e2 := congrArg Prod.snd e
          dsimp only at e2
          subst e2
          refine .inr (List.mem_map.mpr ⟨b, List.mem_filter.mpr ⟨List.mem_range.mpr hb, ?_⟩, rfl⟩)
          rw [Bool.and_eq_true, Bool.not_eq_true', ← Bool.not_eq_true]
          exact ⟨memB_iff.mpr q2, fun z => hm (memB_iff.mp z)⟩
  · obtain ⟨hs, hc, hq, hk0⟩ := hs
    have hl := hs.half hs.nd (f := f) fun x y h => hTf _ _ (hq x y h)
    have e : setPM s = pu (setP s) := rq_true ⟨by omega, hs.nn⟩ _
    rw [e, pu_bi]
    refine En.pu ⟨rfl, ⟨⟨⟨fun q hq => hs.at_ q (mem_setP.mp hq)⟩, nodup_setP s⟩, fun x y z h1 h2 => mem_setP.mpr (hc x y z ?_ (mem_setP.mp h1) (mem_setP.mp h2)), ⟨f, fun x y h => hTf _ _ (hq x y (mem_setP.mp h))⟩, asc_setP s⟩, fun q hm => mem_setP.mpr (hk0 q hm), fun x y h => hq x y (mem_setP.mp h)⟩
    obtain ⟨a, b, _, hb, e⟩ := hs.at_ _ (mem_setP.mp h1)
    have := congrArg Prod.snd e
    dsimp only at this
    omega
theorem n_law_drawn_order {m : Unit} {k : Nat} (hk : k ≤ 9) : En (t__law_drawn_order m (k : Int)) (fun o => ∃ n : Nat, n ≤ k ∧ o.1 = (n : Int) ∧ PrsT n o.2) := by
  unfold t__law_drawn_order
  refine En.bi (En.dr (by omega) (by omega)) fun n hn => ?_
  obtain ⟨n, rfl⟩ : ∃ n' : Nat, n = (n' : Int) := ⟨n.toNat, by omega⟩
  have hn7 : n ≤ 9 := by omega
  have hnn : n * n ≤ 81 := Nat.mul_le_mul hn7 hn7
  refine En.bi (n_law_shuffled' (by omega)) fun ln hln => ?_
  refine En.bi (P := fun t => 1 ≤ t ∧ t < 5) (En.bi (En.dr (by decide) (by decide)) fun b hb => En.pu ⟨by omega, by omega⟩) fun th hth => ?_
  rw [okRg (by omega), pu_bi]
  obtain ⟨hll, hlm, hln⟩ := hln
  have get : ∀ i, i < n → ln[i]? = some (ln.getD i 0) := fun i hi => by
    rw [List.getD_eq_getElem?_getD, List.getElem?_eq_getElem (by omega)]
    rfl
  have spot : ∀ i, i < n → ∃ x : Nat, x < n ∧ ln.getD i 0 = (x : Int) := fun i hi => hlm _ (List.mem_of_getElem? (get i hi))
  have inj : ∀ i j, i < n → j < n → ln.getD i 0 = ln.getD j 0 → i = j := fun i j hi hj e => by
    have h1 := (List.getElem?_eq_some_iff.mp (get i hi)).2
    have h2 := (List.getElem?_eq_some_iff.mp (get j hj)).2
    have hne := List.pairwise_iff_getElem.mp hln
    rcases Nat.lt_trichotomy i j with h | h | h
    · exact absurd (h1.trans (e.trans h2.symm)) (hne i j _ _ h)
    · exact h
    · exact absurd (h2.trans (e.symm.trans h1.symm)) (hne j i _ _ h)
  refine En.bi (En.for_rg (fun j s => s.Nodup ∧ ∀ q ∈ s, ∃ i' j' : Nat, j' < j ∧ i' < j' ∧ q = (ln.getD i' 0, ln.getD j' 0)) ⟨by simp, fun q hq => by cases hq⟩ fun j s hj hs => ?_) fun s hs => ?_
  · obtain ⟨hnd, hs⟩ := hs
    rw [okRg (by omega), pu_bi]
    have lcN : En (nx (lcM (fun (i_10 : Int) => (bi (dr th) fun a_12 => (pu (decide (a_12 = 0))))) (fun (i_10 : Int) => (bi (bi (ixM ln i_10) fun x => bi (ixM ln (j : Int)) fun y => pu (x, y)) fun z_11 => pu (z_11.1, z_11.2))) (rgN j) [])) (fun l => l.Nodup ∧ ∀ q ∈ l, ∃ i' : Nat, i' < j ∧ q = (ln.getD i' 0, ln.getD j 0)) := by
      have go : ∀ (xs acc : List Int) (out : List (Int × Int)), (acc ++ xs).Nodup → (∀ x ∈ acc ++ xs, ∃ i : Nat, i < j ∧ x = (i : Int)) → out.Nodup → (∀ q ∈ out, ∃ i : Nat, (i : Int) ∈ acc ∧ i < j ∧ q = (ln.getD i 0, ln.getD j 0)) →
          En (lcM (fun (i_10 : Int) => (bi (dr th) fun a_12 => (pu (decide (a_12 = 0))))) (fun (i_10 : Int) => (bi (bi (ixM ln i_10) fun x => bi (ixM ln (j : Int)) fun y => pu (x, y)) fun z_11 => pu (z_11.1, z_11.2))) xs out) (fun l => l.Nodup ∧ ∀ q ∈ l, ∃ i' : Nat, i' < j ∧ q = (ln.getD i' 0, ln.getD j 0)) := by
        intro xs
        induction xs with
        | nil => intro acc out _ _ h3 h4; exact En.pu ⟨h3, fun q hq => by obtain ⟨i, _, h, e⟩ := h4 q hq; exact ⟨i, h, e⟩⟩
        | cons x xs ih =>
          intro acc out h1 h2 h3 h4
          obtain ⟨i, hi, rfl⟩ := h2 x (by simp)
          have h1' : (acc ++ [(i : Int)] ++ xs).Nodup := by rw [List.append_assoc]; exact h1
          have h2' : ∀ x ∈ acc ++ [(i : Int)] ++ xs, ∃ i : Nat, i < j ∧ x = (i : Int) := by rw [List.append_assoc]; exact h2
          have hni : (i : Int) ∉ acc := fun hm => by
            rw [List.nodup_append] at h1
            exact h1.2.2 _ hm _ List.mem_cons_self rfl
          unfold lcM
          refine En.bi (P := fun _ => True) (En.bi (En.dr (by omega) (by omega)) fun a _ => En.pu trivial) fun c _ => En.ite (fun _ => ?_) fun _ => ?_
          · have e1 : (bi (bi (ixM ln (i : Int)) fun x => bi (ixM ln (j : Int)) fun y => pu (x, y)) fun z_11 => pu (z_11.1, z_11.2)) = pu (ln.getD i 0, ln.getD j 0) := by
              rw [ix_get (get i (by omega)), pu_bi, ix_get (get j hj), pu_bi, pu_bi]
            refine En.bie e1 ?_
            refine ih (acc ++ [(i : Int)]) _ h1' h2' ?_ fun q hq => ?_
            · rw [List.nodup_append]
              refine ⟨h3, by simp, fun q hq b hb e => ?_⟩
              rw [List.mem_singleton] at hb
              obtain ⟨i2, m2, l2, e2⟩ := h4 q hq
              have := congrArg Prod.fst ((e2.symm.trans e).trans hb)
              have := inj i2 i (by omega) (by omega) this
              rw [this] at m2
              exact hni m2
            · rcases List.mem_append.mp hq with hq | hq
              · obtain ⟨i2, m2, l2, e2⟩ := h4 q hq
                exact ⟨i2, List.mem_append_left _ m2, l2, e2⟩
              · rw [List.mem_singleton] at hq
                exact ⟨i, by simp, hi, hq⟩
          · exact ih (acc ++ [(i : Int)]) out h1' h2' h3 fun q hq => by
              obtain ⟨i2, m2, l2, e2⟩ := h4 q hq
              exact ⟨i2, List.mem_append_left _ m2, l2, e2⟩
      exact En.nx (go (rgN j) [] [] (by rw [List.nil_append]; exact nodup_rgN j) (fun x hx => by rw [List.nil_append] at hx; exact rgN_mem.mp hx) (by simp) fun q hq => by cases hq)
    refine En.bi lcN fun l hl => ?_
    obtain ⟨l1, l2⟩ := hl
    have new : (s ++ l).Nodup := by
      rw [List.nodup_append]
      refine ⟨hnd, l1, fun a ha b hb e => ?_⟩
      obtain ⟨i1, j1, u1, u2, e1⟩ := hs a ha
      obtain ⟨i2, u3, e2⟩ := l2 b hb
      have := congrArg Prod.snd ((e1.symm.trans e).trans e2)
      have := inj j1 j (by omega) (by omega) this
      omega
    have prs : Prs n (s ++ l) := ⟨fun q hq => by
      rcases List.mem_append.mp hq with hq | hq
      · obtain ⟨i1, j1, u1, u2, e1⟩ := hs q hq
        obtain ⟨x, hx, ex⟩ := spot i1 (by omega)
        obtain ⟨y, hy, ey⟩ := spot j1 (by omega)
        exact ⟨x, y, hx, hy, by rw [e1, ex, ey]⟩
      · obtain ⟨i1, u1, e1⟩ := l2 q hq
        obtain ⟨x, hx, ex⟩ := spot i1 (by omega)
        obtain ⟨y, hy, ey⟩ := spot j hj
        exact ⟨x, y, hx, hy, by rw [e1, ex, ey]⟩⟩
    have nl := prs.len new
    rw [List.length_append] at nl
    rw [okCat (by omega), pu_bi]
    refine En.pu ⟨new, fun q hq => ?_⟩
    rcases List.mem_append.mp hq with hq | hq
    · obtain ⟨i1, j1, u1, u2, e1⟩ := hs q hq
      exact ⟨i1, j1, by omega, u2, e1⟩
    · obtain ⟨i1, u1, e1⟩ := l2 q hq
      exact ⟨i1, j, by omega, u1, e1⟩
  · obtain ⟨rk, hrk⟩ : ∃ rk : Int → Nat, ∀ i, i < n → rk (ln.getD i 0) = i := by
      classical
      refine ⟨fun v => if h : ∃ i, i < n ∧ ln.getD i 0 = v then Classical.choose h else 0, fun i hi => ?_⟩
      have hx : ∃ j, j < n ∧ ln.getD j 0 = ln.getD i 0 := ⟨i, hi, rfl⟩
      dsimp only
      rw [dif_pos hx]
      have := Classical.choose_spec hx
      exact inj _ _ this.1 hi this.2
    refine (n_law_closed ⟨⟨fun q hq => ?_⟩, hs.1⟩ (by omega) rk (fun x y => rk x < rk y) (fun _ _ _ => Nat.lt_trans) (fun _ _ h => h) fun x y hq => ?_).wk fun o ho => ⟨n, by omega, ho.1, ho.2.1⟩
    · obtain ⟨i1, j1, u1, u2, e1⟩ := hs.2 q hq
      obtain ⟨x, hx, ex⟩ := spot i1 (by omega)
      obtain ⟨y, hy, ey⟩ := spot j1 u1
      exact ⟨x, y, hx, hy, by rw [e1, ex, ey]⟩
    · obtain ⟨i1, j1, u1, u2, e1⟩ := hs.2 _ hq
      have e2 := congrArg Prod.fst e1
      have e3 := congrArg Prod.snd e1
      dsimp only at e2 e3
      rw [e2, e3, hrk i1 (by omega), hrk j1 u1]
      exact u2
end LH
set_option maxRecDepth 100000
set_option maxHeartbeats 400000
namespace LH
open PySem PySem.Spec PyProof.Rows L2 Pd Ty La
structure Spo (n : Nat) (xs : List Nat) : Prop where
  lt : ∀ x ∈ xs, x < n
  nd : xs.Nodup
theorem Spo.len {n : Nat} {xs : List Nat} (h : Spo n xs) : xs.length ≤ n := by
  have := nodup_le h.nd (k := List.range n) fun x hx => List.mem_range.mpr (h.lt x hx)
  rw [List.length_range] at this
  exact this
theorem Spo.cons {n x : Nat} {xs : List Nat} (h : Spo n (x :: xs)) : Spo n xs := ⟨fun y hy => h.lt y (List.mem_cons_of_mem _ hy), (List.nodup_cons.mp h.nd).2⟩
theorem inN_cons {x : Nat} {xs : List Nat} : inN (x :: xs) = (x : Int) :: inN xs := rfl
end LH
set_option maxRecDepth 100000
set_option maxHeartbeats 400000
namespace LH
open PySem PySem.Spec PyProof.Rows L2 Pd Ty La
def prsN (prs : List (Int × Int)) : List (Nat × Nat) := prs.map fun q => (q.1.toNat, q.2.toNat)
/-- the lines of the first pairs -/
theorem prsN_get {n : Nat} {prs : List (Int × Int)} (ho : Prs n prs) {i : Nat} {q : Int × Int} (hq : prs[i]? = some q) : ∃ x y : Nat, x < n ∧ y < n ∧ q = ((x : Int), (y : Int)) ∧ (prsN prs)[i]? = some (x, y) ∧ (prsN prs).getD i (0, 0) = (x, y) := by
  obtain ⟨x, y, hx, hy, e⟩ := ho.at_ q (List.mem_of_getElem? hq)
  have e1 : (prsN prs)[i]? = some (x, y) := by
    unfold prsN
    rw [List.getElem?_map, hq, e]
    rfl
  exact ⟨x, y, hx, hy, e, e1, by rw [List.getD_eq_getElem?_getD, e1]; rfl⟩
theorem prsN_of {n : Nat} {prs : List (Int × Int)} (ho : Prs n prs) {i x y : Nat} (h : (prsN prs)[i]? = some (x, y)) : prs[i]? = some ((x : Int), (y : Int)) := by
  unfold prsN at h
  rw [List.getElem?_map] at h
  obtain ⟨q, hq, e⟩ := Option.map_eq_some_iff.mp h
  obtain ⟨a, b, _, _, e2⟩ := ho.at_ q (List.mem_of_getElem? hq)
  subst e2
  have e1 := congrArg Prod.fst e
  have e2 := congrArg Prod.snd e
  dsimp only at e1 e2
  rw [hq, ← e1, ← e2]
  rfl
end LH
set_option maxRecDepth 100000
set_option maxHeartbeats 400000
namespace LH
open PySem PySem.Spec PyProof.Rows L2 Pd Ty La
theorem dc_gen {α β : Type} {mt : β → M Bool} {mk : β → M Int} {me : β → M α} (κ : Nat → Int) (f : Nat → α) (g : Nat → β) : ∀ (ks : List Nat) (acc : List (Int × α)), (ks.map κ).Nodup → (∀ k ∈ ks, κ k ∉ acc.map (·.1)) → (∀ k ∈ ks, mt (g k) = pu true ∧ mk (g k) = pu (κ k) ∧ me (g k) = pu (f k)) → dcM mt mk me (ks.map g) acc = pu (acc ++ ks.map fun k => (κ k, f k))
  | [], acc, _, _, _ => by rw [List.map_nil, List.map_nil, List.append_nil]; rfl
  | x :: xs, acc, hn, hk, h => by
    obtain ⟨h1, h2, h3⟩ := h x List.mem_cons_self
    rw [List.map_cons, List.nodup_cons] at hn
    rw [List.map_cons]
    unfold dcM
    rw [h1, pu_bi, if_pos rfl, h2, pu_bi, h3, pu_bi]
    have e : putA acc (κ x) (f x) = acc ++ [(κ x, f x)] := by
      unfold putA
      rw [if_neg]
      rw [List.any_eq_true]
      rintro ⟨q, hq, e⟩
      exact hk x List.mem_cons_self (List.mem_map.mpr ⟨q, hq, of_decide_eq_true e⟩)
    rw [e, dc_gen κ f g xs _ hn.2 (fun y hy => ?_) fun y hy => h y (List.mem_cons_of_mem _ hy), List.append_assoc]
    · rfl
    · rw [List.map_append, List.mem_append]
      rintro (z | z)
      · exact hk y (List.mem_cons_of_mem _ hy) z
      · rw [List.map_cons, List.map_nil, List.mem_singleton] at z
        exact hn.1 (List.mem_map.mpr ⟨y, hy, z⟩)
/-- a dict from spots to their numbers -/
def NumD (xs : List Nat) (d : List (Int × Int)) : Prop := ∀ x : Nat, lk d (x : Int) = (ixo xs x).map fun (i : Nat) => (i : Int)
theorem lk_num : ∀ (xs : List Nat) (a x : Nat), lk ((List.range xs.length).map fun k => (((xs.getD k 0 : Nat) : Int), ((a + k : Nat) : Int))) (x : Int) = (ixo xs x).map fun (i : Nat) => ((a + i : Nat) : Int)
  | [], _, _ => rfl
  | y :: ys, a, x => by
    rw [List.length_cons, List.range_succ_eq_map, List.map_cons, List.map_map]
    show lk ((((y : Nat) : Int), ((a + 0 : Nat) : Int)) :: _) _ = _
    unfold lk ixo
    by_cases h : y = x
    · rw [if_pos (by omega), if_pos h]
      rfl
    · rw [if_neg (by omega), if_neg h, Option.map_map]
      have := lk_num ys (a + 1) x
      have e : ((fun k => ((((y :: ys).getD k 0 : Nat) : Int), ((a + k : Nat) : Int))) ∘ Nat.succ) = fun k => (((ys.getD k 0 : Nat) : Int), ((a + 1 + k : Nat) : Int)) := funext fun k => by
        rw [Function.comp_apply, List.getD_cons_succ, show a + k.succ = a + 1 + k by omega]
      rw [e, this]
      congr 1
      funext i
      rw [Function.comp_apply, show a + (i + 1) = a + 1 + i by omega]
theorem e_numbers {n : Nat} {xs : List Nat} (hx : Spo n xs) : ∃ d, nx (dcM (fun (q_1 : (Int × Int)) => (pu true)) (fun (q_1 : (Int × Int)) => (pu q_1.2)) (fun (q_1 : (Int × Int)) => (pu q_1.1)) (en (inN xs)) []) = pu d ∧ NumD xs d := by
  refine ⟨(List.range xs.length).map fun k => (((xs.getD k 0 : Nat) : Int), (k : Int)), ?_, fun x => ?_⟩
  · rw [en_range (0 : Int), inN_len]
    have e : (List.range xs.length).map (fun (k : Nat) => ((k : Int), (inN xs).getD k 0)) = (List.range xs.length).map fun (k : Nat) => ((k : Int), ((xs.getD k 0 : Nat) : Int)) := List.map_congr_left fun k hk => by
      have hk := List.mem_range.mp hk
      unfold inN
      rw [List.getD_eq_getElem?_getD, List.getElem?_map, get_D' hk]
      rfl
    have hn : ((List.range xs.length).map fun k => ((xs.getD k 0 : Nat) : Int)).Nodup := by
      have : (List.range xs.length).map (fun k => ((xs.getD k 0 : Nat) : Int)) = inN xs := by
        unfold inN
        refine List.ext_getElem (by simp) fun i h1 h2 => ?_
        rw [List.getElem_map, List.getElem_map, List.getElem_range, List.getD_eq_getElem?_getD, List.getElem?_eq_getElem (by simpa using h2)]
        rfl
      rw [this]
      exact nodup_on hx.nd fun a _ b _ e => by omega
    have key := dc_gen (mt := fun (q_1 : Int × Int) => pu true) (mk := fun (q_1 : Int × Int) => pu q_1.2) (me := fun (q_1 : Int × Int) => pu q_1.1) (fun k => ((xs.getD k 0 : Nat) : Int)) (fun k => ((k : Nat) : Int)) (fun k => (((k : Nat) : Int), ((xs.getD k 0 : Nat) : Int))) (List.range xs.length) [] hn (fun k _ => by simp) (fun k _ => ⟨rfl, rfl, rfl⟩)
    rw [e, key]
    rfl
  · have := lk_num xs 0 x
    simp only [Nat.zero_add] at this
    exact this
def ixN' (xs : List Nat) (x : Nat) : Nat := (ixo xs x).getD 0
/-- the pairs within a spot set, by their indices -/
def inI (prs : List (Nat × Nat)) (xs : List Nat) : List Nat := (List.range prs.length).filter fun k => decide ((prs.getD k (0, 0)).1 ∈ xs) && decide ((prs.getD k (0, 0)).2 ∈ xs)
def cutPr (prs : List (Int × Int)) (xs : List Nat) : List (Int × Int) := (inI (prsN prs) xs).map fun k => (((ixN' xs ((prsN prs).getD k (0, 0)).1 : Nat) : Int), ((ixN' xs ((prsN prs).getD k (0, 0)).2 : Nat) : Int))
theorem ixo_iff {xs : List Nat} {x : Nat} : (ixo xs x).isSome = decide (x ∈ xs) := by
  rw [Bool.eq_iff_iff, decide_eq_true_eq]
  constructor
  · intro h
    obtain ⟨i, hi⟩ := Option.isSome_iff_exists.mp h
    exact List.mem_of_getElem? (ixo_some hi)
  · intro h
    by_cases e : (ixo xs x).isSome = true
    · exact e
    · induction xs with
      | nil => cases h
      | cons a l ih =>
        unfold ixo at e ⊢
        by_cases q : a = x
        · rw [if_pos q]; rfl
        · rw [if_neg q] at e ⊢
          rw [Option.isSome_map] at e ⊢
          exact ih ((List.mem_cons.mp h).resolve_left fun z => q z.symm) e
theorem ixo_of {xs : List Nat} {x : Nat} (h : x ∈ xs) : ixo xs x = some (ixN' xs x) ∧ xs[ixN' xs x]? = some x := by
  have : (ixo xs x).isSome = true := by rw [ixo_iff]; exact decide_eq_true h
  obtain ⟨i, hi⟩ := Option.isSome_iff_exists.mp this
  have e : ixN' xs x = i := by unfold ixN'; rw [hi]; rfl
  rw [e]
  exact ⟨hi, ixo_some hi⟩
section
variable {n : Nat} {prs : List (Int × Int)} {xs : List Nat}
theorem prs_range (ho : Prs n prs) : prs = (List.range (prsN prs).length).map fun k => ((((prsN prs).getD k (0, 0)).1 : Int), (((prsN prs).getD k (0, 0)).2 : Int)) := by
  refine List.ext_getElem (by unfold prsN; simp) fun i h1 h2 => ?_
  rw [List.getElem_map, List.getElem_range]
  obtain ⟨x, y, _, _, e, _, hD⟩ := prsN_get ho (List.getElem?_eq_getElem h1)
  rw [hD, e]
theorem mem_inI {k : Nat} {prs : List (Nat × Nat)} : k ∈ inI prs xs ↔ k < prs.length ∧ (prs.getD k (0, 0)).1 ∈ xs ∧ (prs.getD k (0, 0)).2 ∈ xs := by
  unfold inI
  rw [List.mem_filter, List.mem_range, Bool.and_eq_true, decide_eq_true_eq, decide_eq_true_eq]
theorem e_part_order (ho : Prs n prs) (hx : Spo n xs) : t_part_order ((n : Int), prs) (inN xs) = pu (((xs.length : Nat) : Int), cutPr prs xs) := by
  obtain ⟨d, e, hd⟩ := e_numbers hx
  unfold t_part_order
  rw [e, pu_bi]
  dsimp only
  have e2 : nx (lcM (fun (q_3 : (Int × Int)) => (pu (((lk d q_3.1).isSome) && ((lk d q_3.2).isSome)))) (fun (q_3 : (Int × Int)) => (bi (bi (op? (lk d q_3.1)) fun x => bi (op? (lk d q_3.2)) fun y => pu (x, y)) fun z_4 => pu (z_4.1, z_4.2))) prs []) = pu (cutPr prs xs) := by
    conv => lhs; rw [prs_range ho]
    refine (lc_map (fun k => decide (((prsN prs).getD k (0, 0)).1 ∈ xs) && decide (((prsN prs).getD k (0, 0)).2 ∈ xs)) (fun k => (((ixN' xs ((prsN prs).getD k (0, 0)).1 : Nat) : Int), ((ixN' xs ((prsN prs).getD k (0, 0)).2 : Nat) : Int))) _ (fun k _ => ?_) fun k _ hk => ?_).trans rfl
    · dsimp only
      rw [hd, hd, Option.isSome_map, Option.isSome_map, ixo_iff, ixo_iff]
    · rw [Bool.and_eq_true, decide_eq_true_eq, decide_eq_true_eq] at hk
      dsimp only
      rw [hd, hd, (ixo_of hk.1).1, (ixo_of hk.2).1, Option.map_some, Option.map_some, op?_some rfl, pu_bi, op?_some rfl, pu_bi, pu_bi]
  rw [e2, pu_bi, inN_len]
theorem cut_get {k' i j : Nat} (ho : Prs n prs) (h : (cutPr prs xs)[k']? = some ((i : Int), (j : Int))) : ∃ k x y, (inI (prsN prs) xs)[k']? = some k ∧ (prsN prs)[k]? = some (x, y) ∧ x ∈ xs ∧ y ∈ xs ∧ i = ixN' xs x ∧ j = ixN' xs y := by
  unfold cutPr at h
  rw [List.getElem?_map] at h
  obtain ⟨k, hk, e⟩ := Option.map_eq_some_iff.mp h
  obtain ⟨h1, h2, h3⟩ := mem_inI.mp (List.mem_of_getElem? hk)
  have e1 := congrArg Prod.fst e
  have e2 := congrArg Prod.snd e
  dsimp only at e1 e2
  exact ⟨k, _, _, hk, by rw [List.getD_eq_getElem?_getD, List.getElem?_eq_getElem h1]; rfl, h2, h3, by omega, by omega⟩
theorem cut_prs (ho : Prs n prs) (hx : Spo n xs) : Prs xs.length (cutPr prs xs) := ⟨fun q hq => by
  unfold cutPr at hq
  obtain ⟨k, hk, rfl⟩ := List.mem_map.mp hq
  obtain ⟨_, h1, h2⟩ := mem_inI.mp hk
  exact ⟨_, _, (List.getElem?_eq_some_iff.mp (ixo_of h1).2).1, (List.getElem?_eq_some_iff.mp (ixo_of h2).2).1, rfl⟩⟩
theorem cut_len (hx : Spo n xs) : (cutPr prs xs).length ≤ prs.length := by
  unfold cutPr inI
  rw [List.length_map]
  refine Nat.le_trans (List.length_filter_le _ _) ?_
  unfold prsN
  rw [List.length_range, List.length_map]
  exact Nat.le_refl _
end
end LH
set_option maxRecDepth 100000
set_option maxHeartbeats 400000
namespace LH
open PySem PySem.Spec PyProof.Rows L2 Pd Ty La
/-- a pair comes ahead of another one -/
def LtP (a b : Int × Int) : Prop := a.1 < b.1 ∨ (a.1 = b.1 ∧ a.2 < b.2)
theorem LtP.tr {a b c : Int × Int} (h : LtP a b) (h' : LtP b c) : LtP a c := by
  unfold LtP at *
  omega
theorem ltP_of {a b : Int × Int} (h : ltP a b = true) : LtP a b := by
  obtain ⟨a1, a2⟩ := a
  obtain ⟨b1, b2⟩ := b
  have h : HT.lexLt [a1, a2] [b1, b2] = true := h
  unfold HT.lexLt at h
  by_cases e : a1 = b1
  · subst e
    rw [if_pos rfl] at h
    unfold HT.lexLt at h
    by_cases e2 : a2 = b2
    · subst e2
      rw [if_pos rfl] at h
      exact absurd h (by decide)
    · rw [if_neg e2] at h
      exact .inr ⟨rfl, of_decide_eq_true h⟩
  · rw [if_neg e] at h
    exact .inl (of_decide_eq_true h)
theorem pw_of_asc : ∀ {l : List (Int × Int)}, ascP l = true → l.Pairwise LtP
  | [], _ => .nil
  | [_], _ => List.pairwise_singleton _ _
  | a :: b :: l, h => by
    unfold ascP at h
    rw [List.tail_cons, List.zip_cons_cons, List.map_cons, List.all_cons, Bool.and_eq_true] at h
    have ih := pw_of_asc (l := b :: l) h.2
    have ab := ltP_of h.1
    refine List.pairwise_cons.mpr ⟨fun c hc => ?_, ih⟩
    rcases List.mem_cons.mp hc with rfl | hc
    · exact ab
    · exact ab.tr ((List.pairwise_cons.mp ih).1 c hc)
theorem leI_of {a b : Int × Int} (h : LtP a b) : SrtT.leI (prL a) (prL b) = true := by
  obtain ⟨a1, a2⟩ := a
  obtain ⟨b1, b2⟩ := b
  show (!SrtT.lexI [b1, b2] [a1, a2]) = true
  unfold LtP at h
  dsimp only at h
  rw [Bool.not_eq_true']
  rcases h with h | ⟨rfl, h⟩
  · simp [SrtT.lexI, show b1 ≠ a1 by omega, show ¬ b1 < a1 by omega]
  · simp [SrtT.lexI, show b2 ≠ a2 by omega, show ¬ b2 < a2 by omega]
theorem pw_nodup {l : List (Int × Int)} (h : l.Pairwise LtP) : l.Nodup := h.imp fun {a b} h e => by
  subst e
  unfold LtP at h
  omega
theorem asc_pw {l : List (Int × Int)} (h : l.Pairwise LtP) : ascP l = true := asc_of (h.imp fun h => leI_of h) (pw_nodup h)
/-- a spot set, ascending -/
structure Asc (n : Nat) (xs : List Nat) : Prop extends Spo n xs where
  lt' : xs.Pairwise (· < ·)
theorem Asc.spo {n : Nat} {xs : List Nat} (h : Asc n xs) : Spo n xs := h.toSpo
theorem asc_range {n : Nat} : Asc n (List.range n) := ⟨⟨fun x hx => List.mem_range.mp hx, List.nodup_range⟩, List.pairwise_lt_range⟩
section
variable {n : Nat} {prs : List (Int × Int)} {xs ys : List Nat}
theorem ixN_inj {x y : Nat} (hx : x ∈ xs) (hy : y ∈ xs) (e : ixN' xs x = ixN' xs y) : x = y := by
  have h1 := (ixo_of hx).2
  have h2 := (ixo_of hy).2
  rw [e, h2] at h1
  exact (Option.some.inj h1).symm
theorem ixN_lt (hx : xs.Pairwise (· < ·)) {x y : Nat} (h1 : x ∈ xs) (h2 : y ∈ xs) (h : x < y) : ixN' xs x < ixN' xs y := by
  have e1 := (ixo_of h1).2
  have e2 := (ixo_of h2).2
  obtain ⟨l1, g1⟩ := List.getElem?_eq_some_iff.mp e1
  obtain ⟨l2, g2⟩ := List.getElem?_eq_some_iff.mp e2
  by_cases c : ixN' xs x < ixN' xs y
  · exact c
  rcases Nat.lt_or_eq_of_le (Nat.le_of_not_lt c) with d | d
  · have := List.pairwise_iff_getElem.mp hx _ _ l2 l1 d
    omega
  · have : xs[ixN' xs x]? = xs[ixN' xs y]? := by rw [d]
    rw [e1, e2] at this
    have := Option.some.inj this
    omega
theorem cut_pw (ho : PrsT n prs) (hx : xs.Pairwise (· < ·)) : (cutPr prs xs).Pairwise LtP := by
  unfold cutPr
  rw [List.pairwise_map]
  have pw := pw_of_asc ho.up
  unfold inI
  rw [List.pairwise_filter]
  refine List.pairwise_lt_range.imp_of_mem fun {a b} ha hb hab h1 h2 => ?_
  have ek : (prsN prs).length = prs.length := by unfold prsN; simp
  rw [List.mem_range, ek] at ha hb
  rw [Bool.and_eq_true, decide_eq_true_eq, decide_eq_true_eq] at h1 h2
  have lt := List.pairwise_iff_getElem.mp pw a b ha hb hab
  obtain ⟨x, y, _, _, e, _, hD⟩ := prsN_get ho.toPrs (List.getElem?_eq_getElem ha)
  obtain ⟨x', y', _, _, e', _, hD'⟩ := prsN_get ho.toPrs (List.getElem?_eq_getElem hb)
  rw [hD] at h1 ⊢
  rw [hD'] at h2 ⊢
  rw [e, e'] at lt
  unfold LtP at lt ⊢
  dsimp only at lt h1 h2 ⊢
  rcases lt with lt | ⟨eq, lt⟩
  · have := ixN_lt hx h1.1 h2.1 (by omega)
    omega
  · have ex : x = x' := by omega
    subst ex
    have := ixN_lt hx h1.2 h2.2 (by omega)
    omega
theorem mem_cutPr (ho : Prs n prs) {i j : Nat} : ((i : Int), (j : Int)) ∈ cutPr prs xs ↔ ∃ x y : Nat, ((x : Int), (y : Int)) ∈ prs ∧ x ∈ xs ∧ y ∈ xs ∧ i = ixN' xs x ∧ j = ixN' xs y := by
  constructor
  · intro h
    obtain ⟨k', hk'⟩ := List.getElem?_of_mem h
    obtain ⟨k, x, y, _, h2, h3, h4, h5, h6⟩ := cut_get ho hk'
    exact ⟨x, y, List.mem_of_getElem? (prsN_of ho h2), h3, h4, h5, h6⟩
  · rintro ⟨x, y, hm, hx, hy, rfl, rfl⟩
    obtain ⟨k, hk⟩ := List.getElem?_of_mem hm
    obtain ⟨x', y', _, _, e, hg, hD⟩ := prsN_get ho hk
    have ex : x = x' := by have := congrArg Prod.fst e; dsimp only at this; omega
    have ey : y = y' := by have := congrArg Prod.snd e; dsimp only at this; omega
    subst ex ey
    unfold cutPr
    refine List.mem_map.mpr ⟨k, mem_inI.mpr ⟨(List.getElem?_eq_some_iff.mp hg).1, ?_⟩, ?_⟩ <;> rw [hD]
    exact ⟨hx, hy⟩
theorem cut_prsT (ho : PrsT n prs) (hx : Asc n xs) : PrsT xs.length (cutPr prs xs) := by
  have hp := cut_prs ho.toPrs hx.spo
  refine ⟨⟨hp, pw_nodup (cut_pw ho hx.lt')⟩, fun a b c h1 h2 => ?_, ?_, asc_pw (cut_pw ho hx.lt')⟩
  · obtain ⟨i, j, _, _, e⟩ := hp.at_ _ h1
    obtain ⟨j', k, _, _, e'⟩ := hp.at_ _ h2
    obtain ⟨rfl, rfl⟩ := Prod.mk.inj e
    obtain ⟨ej, rfl⟩ := Prod.mk.inj e'
    have ej : j = j' := by omega
    subst ej
    obtain ⟨x, y, m1, x1, y1, rfl, ey⟩ := (mem_cutPr ho.toPrs).mp h1
    obtain ⟨y', z, m2, y2, z2, ey', rfl⟩ := (mem_cutPr ho.toPrs).mp h2
    have := ixN_inj y1 y2 (ey.symm.trans ey')
    subst this
    exact (mem_cutPr ho.toPrs).mpr ⟨x, z, ho.tr _ _ _ m1 m2, x1, z2, rfl, rfl⟩
  · obtain ⟨f, hf⟩ := ho.ac
    refine ⟨fun i => f ((xs.getD i.toNat 0 : Nat) : Int), fun a b h => ?_⟩
    obtain ⟨i, j, _, _, e⟩ := hp.at_ _ h
    obtain ⟨rfl, rfl⟩ := Prod.mk.inj e
    obtain ⟨x, y, m1, x1, y1, rfl, rfl⟩ := (mem_cutPr ho.toPrs).mp h
    have gx : xs.getD (ixN' xs x) 0 = x := by rw [List.getD_eq_getElem?_getD, (ixo_of x1).2]; rfl
    have gy : xs.getD (ixN' xs y) 0 = y := by rw [List.getD_eq_getElem?_getD, (ixo_of y1).2]; rfl
    show f ((xs.getD (((ixN' xs x : Nat) : Int)).toNat 0 : Nat) : Int) < f ((xs.getD (((ixN' xs y : Nat) : Int)).toNat 0 : Nat) : Int)
    rw [Int.toNat_natCast, Int.toNat_natCast, gx, gy]
    exact hf _ _ m1
end
end LH
set_option maxRecDepth 100000
set_option maxHeartbeats 400000
namespace LH
open PySem PySem.Spec PyProof.Rows L2 Pd Ty La
def leP (prs : List (Int × Int)) (a b : Nat) : Bool := decide (a = b) || memB ((a : Int), (b : Int)) prs
end LH
set_option maxRecDepth 100000
set_option maxHeartbeats 400000
namespace LH
open PySem PySem.Spec PyProof.Rows L2 Pd Ty La
theorem leP_iff {prs : List (Int × Int)} {a b : Nat} : leP prs a b = true ↔ a = b ∨ ((a : Int), (b : Int)) ∈ prs := by
  unfold leP
  rw [Bool.or_eq_true, decide_eq_true_eq, memB_iff]
end LH
set_option maxRecDepth 100000
set_option maxHeartbeats 400000
namespace LH
open PySem PySem.Spec PyProof.Rows L2 Pd Ty La
/-- the greatest of a set -/
def Top (R : Nat → Nat → Prop) (S : Nat → Prop) (y : Nat) : Prop := S y ∧ ∀ z, S z → z = y ∨ R z y
def Loo (R : Nat → Nat → Prop) (S : Nat → Prop) (x : Nat) : Prop := ∃ y, Top R (fun z => S z ∧ R z x) y
structure Po (R : Nat → Nat → Prop) : Prop where
  tr : ∀ x y z, R x y → R y z → R x z
  ac : ∃ f : Nat → Nat, ∀ x y, R x y → f x < f y
/-- each spot has a greatest one of the set at or below it -/
structure Ret (R : Nat → Nat → Prop) (n : Nat) (S : Nat → Prop) : Prop where
  lt : ∀ x, S x → x < n
  top : ∀ x, x < n → ∃ y, Top R (fun z => S z ∧ (z = x ∨ R z x)) y
structure Core (R : Nat → Nat → Prop) (n : Nat) (S : Nat → Prop) : Prop extends Ret R n S where
  no : ∀ x, S x → ¬ Loo R S x
section
variable {R : Nat → Nat → Prop} {n : Nat} {S F G : Nat → Prop}
theorem Po.ir (h : Po R) {x : Nat} : ¬ R x x := fun q => by
  obtain ⟨f, hf⟩ := h.ac
  exact Nat.lt_irrefl _ (hf _ _ q)
theorem Top.one (h : Po R) {y y' : Nat} (a : Top R S y) (b : Top R S y') : y = y' := by
  rcases a.2 y' b.1 with e | q
  · exact e.symm
  · rcases b.2 y a.1 with e | q'
    · exact e
    · exact (h.ir (h.tr _ _ _ q q')).elim
theorem Ret.ext (e : ∀ x, F x ↔ G x) (h : Ret R n F) : Ret R n G := by
  have : F = G := funext fun x => propext (e x)
  rw [← this]
  exact h
theorem Core.ext (e : ∀ x, F x ↔ G x) (h : Core R n F) : Core R n G := by
  have : F = G := funext fun x => propext (e x)
  rw [← this]
  exact h
theorem Loo.ext (e : ∀ x, F x ↔ G x) {x : Nat} : Loo R F x ↔ Loo R G x := by
  have : F = G := funext fun x => propext (e x)
  rw [this]
theorem ret_all : Ret R n (fun x => x < n) := ⟨fun _ h => h, fun x h => ⟨x, ⟨h, .inl rfl⟩, fun _ hz => hz.2⟩⟩
theorem ret_off (h : Po R) (hS : Ret R n S) {x : Nat} (hl : Loo R S x) : Ret R n (fun z => S z ∧ z ≠ x) := by
  refine ⟨fun z hz => hS.lt z hz.1, fun w hw => ?_⟩
  obtain ⟨t, ⟨ht, htw⟩, hm⟩ := hS.top w hw
  by_cases e : t = x
  · subst e
    obtain ⟨y, ⟨hy, hyx⟩, hym⟩ := hl
    refine ⟨y, ⟨⟨hy, fun e => h.ir (e ▸ hyx)⟩, .inr ?_⟩, fun z hz => ?_⟩
    · rcases htw with e | q
      · rw [← e]; exact hyx
      · exact h.tr _ _ _ hyx q
    · exact hym z ⟨hz.1.1, (hm z ⟨hz.1.1, hz.2⟩).resolve_left hz.1.2⟩
  · exact ⟨t, ⟨⟨ht, e⟩, htw⟩, fun z hz => hm z ⟨hz.1.1, hz.2⟩⟩
theorem core_half {f : Nat → Nat} (hf : ∀ x y, R x y → f x < f y) (hF : Core R n F) (hG : Core R n G) (x : Nat) (ih : ∀ z, f z < f x → (F z ↔ G z)) (hx : F x) : G x := Classical.byContradiction fun hn => by
  obtain ⟨t, ⟨ht, htx⟩, hm⟩ := hG.top x (hF.lt x hx)
  have htx : R t x := htx.resolve_left fun e => hn (e ▸ ht)
  exact hF.no x hx ⟨t, ⟨(ih t (hf _ _ htx)).mpr ht, htx⟩, fun z hz => hm z ⟨(ih z (hf _ _ hz.2)).mp hz.1, .inr hz.2⟩⟩
/-- what is left is one set -/
theorem core_one (h : Po R) (hF : Core R n F) (hG : Core R n G) : ∀ x, F x ↔ G x := by
  obtain ⟨f, hf⟩ := h.ac
  have go : ∀ k x, f x < k → (F x ↔ G x) := by
    intro k
    induction k with
    | zero => intro x q; exact absurd q (Nat.not_lt_zero _)
    | succ k ih =>
      intro x hx
      have h' : ∀ z, f z < f x → (F z ↔ G z) := fun z hz => ih z (by omega)
      exact ⟨core_half hf hF hG x h', core_half hf hG hF x fun z hz => (h' z hz).symm⟩
  exact fun x => go (f x + 1) x (Nat.lt_succ_self _)
end
end LH
set_option maxRecDepth 100000
set_option maxHeartbeats 400000
namespace LH
open PySem PySem.Spec PyProof.Rows L2 Pd Ty La
/-- the order of some pairs -/
def Rp (prs : List (Int × Int)) (x y : Nat) : Prop := ((x : Int), (y : Int)) ∈ prs
def ltB (prs : List (Int × Int)) (x y : Nat) : Bool := memB ((x : Int), (y : Int)) prs
theorem ltB_iff {prs : List (Int × Int)} {x y : Nat} : ltB prs x y = true ↔ Rp prs x y := memB_iff
def looB (prs : List (Int × Int)) (l : List Nat) (x : Nat) : Bool := l.any fun y => ltB prs y x && l.all fun z => !ltB prs z x || leP prs z y
theorem looB_iff {prs : List (Int × Int)} {l : List Nat} {x : Nat} : looB prs l x = true ↔ Loo (Rp prs) (fun z => z ∈ l) x := by
  unfold looB Loo Top
  rw [List.any_eq_true]
  refine exists_congr fun y => ?_
  rw [Bool.and_eq_true, List.all_eq_true, ltB_iff]
  constructor
  · rintro ⟨hy, h1, h2⟩
    refine ⟨⟨hy, h1⟩, fun z hz => ?_⟩
    have := h2 z hz.1
    rw [Bool.or_eq_true, Bool.not_eq_true', ← Bool.not_eq_true, ltB_iff, leP_iff] at this
    exact this.resolve_left fun q => q hz.2
  · rintro ⟨⟨hy, h1⟩, h2⟩
    refine ⟨hy, h1, fun z hz => ?_⟩
    rw [Bool.or_eq_true, Bool.not_eq_true', ← Bool.not_eq_true, ltB_iff, leP_iff]
    by_cases q : Rp prs z x
    · exact .inr (h2 z ⟨hz, q⟩)
    · exact .inl q
theorem po_of {n : Nat} {prs : List (Int × Int)} (h : PrsT n prs) : Po (Rp prs) := by
  obtain ⟨f, hf⟩ := h.ac
  exact ⟨fun x y z a b => h.tr _ _ _ a b, ⟨fun x => f (x : Int), fun x y q => hf _ _ q⟩⟩
theorem lt_of_R {n : Nat} {prs : List (Int × Int)} (h : Prs n prs) {x y : Nat} (q : Rp prs x y) : x < n ∧ y < n := by
  obtain ⟨a, b, ha, hb, e⟩ := h.at_ _ q
  obtain ⟨e1, e2⟩ := Prod.mk.inj e
  omega
section
variable {n : Nat} {prs : List (Int × Int)}
theorem e_led (x y : Nat) : t_is_led ((n : Int), prs) (x : Int) (y : Int) = pu (leP prs x y) := by
  unfold t_is_led leP
  have : decide ((x : Int) = (y : Int)) = decide (x = y) := by
    rw [Bool.eq_iff_iff, decide_eq_true_eq, decide_eq_true_eq]; omega
  rw [this]
theorem e_law_led (x y : Nat) : t__law_is_led ((n : Int), prs) (x : Int) (y : Int) = pu (leP prs x y) := by
  unfold t__law_is_led leP
  have : decide ((x : Int) = (y : Int)) = decide (x = y) := by
    rw [Bool.eq_iff_iff, decide_eq_true_eq, decide_eq_true_eq]; omega
  rw [this]
def topB (prs : List (Int × Int)) (l : List Nat) (y : Nat) : Bool := l.all fun z => leP prs z y
theorem topB_iff {l : List Nat} {y : Nat} (hy : y ∈ l) : topB prs l y = true ↔ Top (Rp prs) (fun z => z ∈ l) y := by
  unfold topB Top
  rw [List.all_eq_true]
  exact ⟨fun h => ⟨hy, fun z hz => leP_iff.mp (h z hz)⟩, fun h z hz => leP_iff.mpr (h.2 z hz)⟩
theorem topL_gen {l : List Nat} : ∀ xs : List Nat, forX (fun (y_3 : Int) (s_1 : Unit) =>
 (bi (bi (nx (lcM (fun (z_4 : Int) => (pu true)) (fun (z_4 : Int) => (t_is_led ((n : Int), prs) z_4 y_3)) (inN l) [])) fun z_5 => pu (List.all z_5 id)) fun c => if c = true then
 (pu (Ctl.rt (some y_3)))
 else (pu (Ctl.nx ())))) (inN xs) () = pu (match xs.find? (topB prs l) with
  | some y => Sum.inr (some (y : Int))
  | none => Sum.inl ())
  | [] => rfl
  | y :: ys => by
    rw [inN_cons]
    unfold forX
    have e : nx (lcM (fun (z_4 : Int) => (pu true)) (fun (z_4 : Int) => (t_is_led ((n : Int), prs) z_4 (y : Int))) (inN l) []) = pu (l.map fun z => leP prs z y) := lc_map1 (fun z => leP prs z y) l fun z _ => e_led z y
    rw [e, pu_bi, pu_bi]
    have e2 : List.all (l.map fun z => leP prs z y) id = topB prs l y := by
      unfold topB
      rw [List.all_map]
      rfl
    rw [e2, List.find?_cons]
    cases hb : topB prs l y with
    | true => rw [if_pos rfl, pu_bi]
    | false =>
      rw [if_neg (by decide), pu_bi]
      exact topL_gen ys
theorem e_greatest (l : List Nat) : t_greatest_of ((n : Int), prs) (inN l) = pu ((l.find? (topB prs l)).map fun (k : Nat) => (k : Int)) := by
  unfold t_greatest_of
  rw [topL_gen l]
  cases l.find? (topB prs l) with
  | none => rfl
  | some y => rfl
theorem find_top {l : List Nat} {y : Nat} (h : l.find? (topB prs l) = some y) : Top (Rp prs) (fun z => z ∈ l) y := (topB_iff (List.mem_of_find?_eq_some h)).mp (List.find?_some h)
theorem find_of (hp : Po (Rp prs)) {l : List Nat} {y : Nat} (h : Top (Rp prs) (fun z => z ∈ l) y) : l.find? (topB prs l) = some y := by
  cases e : l.find? (topB prs l) with
  | none =>
    have := List.find?_eq_none.mp e y h.1
    exact absurd ((topB_iff h.1).mpr h) this
  | some z => rw [(find_top e).one hp h]
/-- what is told below a spot -/
def lowP (prs : List (Int × Int)) (x : Nat) : List Nat := (prs.filter fun q => decide (q.2 = (x : Int))).map fun q => q.1.toNat
def upP (prs : List (Int × Int)) (x : Nat) : List Nat := (prs.filter fun q => decide (q.1 = (x : Int))).map fun q => q.2.toNat
theorem mem_lowP (ho : Prs n prs) {x y : Nat} : y ∈ lowP prs x ↔ Rp prs y x := by
  unfold lowP
  rw [List.mem_map]
  constructor
  · rintro ⟨q, hq, rfl⟩
    obtain ⟨hq1, e⟩ := List.mem_filter.mp hq
    obtain ⟨a, b, _, _, rfl⟩ := ho.at_ q hq1
    have e : (b : Int) = (x : Int) := of_decide_eq_true e
    have : b = x := by omega
    subst this
    exact hq1
  · intro h
    exact ⟨_, List.mem_filter.mpr ⟨h, decide_eq_true rfl⟩, by simp⟩
theorem mem_upP (ho : Prs n prs) {x y : Nat} : y ∈ upP prs x ↔ Rp prs x y := by
  unfold upP
  rw [List.mem_map]
  constructor
  · rintro ⟨q, hq, rfl⟩
    obtain ⟨hq1, e⟩ := List.mem_filter.mp hq
    obtain ⟨a, b, _, _, rfl⟩ := ho.at_ q hq1
    have e : (a : Int) = (x : Int) := of_decide_eq_true e
    have : a = x := by omega
    subst this
    exact hq1
  · intro h
    exact ⟨_, List.mem_filter.mpr ⟨h, decide_eq_true rfl⟩, by simp⟩
theorem nest9 (s : Bool) (ho : Prs n prs) (hn : n ≤ 1000) (hl : prs.length ≤ 1000) : nestM s ((n : Int), prs) = pu ((List.range n).map fun x => inN (if s = true then lowP prs x else upP prs x)) := by
  have ok : nestOk s ((n : Int), prs) := ⟨by omega, by show (n : Int) ≤ 1000; omega, hl, fun q hq => by
    obtain ⟨x, y, hx, hy, rfl⟩ := ho.at_ q hq
    unfold nstKey nstVal
    cases s
    · rw [if_neg (by decide), if_neg (by decide)]; dsimp only; omega
    · rw [if_pos rfl, if_pos rfl]; dsimp only; omega⟩
  have e : nestL s ((n : Int), prs) = (List.range n).map fun x => inN (if s = true then lowP prs x else upP prs x) := by
    unfold nestL
    dsimp only
    rw [Int.toNat_natCast]
    refine List.map_congr_left fun x _ => ?_
    unfold inN
    cases s
    · rw [if_neg (by decide)]
      unfold upP
      rw [List.map_map]
      refine List.map_congr_left fun q hq => ?_
      obtain ⟨a, b, _, _, rfl⟩ := ho.at_ q (List.mem_filter.mp hq).1
      rfl
    · rw [if_pos rfl]
      unfold lowP
      rw [List.map_map]
      refine List.map_congr_left fun q hq => ?_
      obtain ⟨a, b, _, _, rfl⟩ := ho.at_ q (List.mem_filter.mp hq).1
      rfl
  rw [← e]
  exact rq_true ok _
theorem for_pick {f : Int → List Int → M (List Int)} (k : Nat → Bool) : ∀ (xs acc : List Nat), acc.length + xs.length ≤ 1000000 → (∀ x ∈ xs, ∀ s : List Int, s.length ≤ 1000000 → f (x : Int) s = if k x = true then pu (s ++ [(x : Int)]) else pu s) → Ty.forM f (inN xs) (inN acc) = pu (inN (acc ++ xs.filter k))
  | [], acc, _, _ => by rw [List.filter_nil, List.append_nil]; rfl
  | x :: xs, acc, hl, h => by
    rw [List.length_cons] at hl
    rw [inN_cons]
    unfold Ty.forM
    rw [h x List.mem_cons_self _ (by rw [inN_len]; omega), List.filter_cons]
    cases k x with
    | true =>
      rw [if_pos rfl, if_pos rfl, pu_bi]
      have e : inN acc ++ [(x : Int)] = inN (acc ++ [x]) := by unfold inN; rw [List.map_append]; rfl
      rw [e, for_pick k xs (acc ++ [x]) (by rw [List.length_append, List.length_singleton]; omega) fun y hy => h y (List.mem_cons_of_mem _ hy), List.append_assoc]
      rfl
    | false =>
      rw [if_neg (by decide), if_neg (by decide), pu_bi]
      exact for_pick k xs acc (by omega) fun y hy => h y (List.mem_cons_of_mem _ hy)
theorem memInN {l : List Nat} {y : Nat} : (y : Int) ∈ inN l ↔ y ∈ l := by
  unfold inN
  rw [List.mem_map]
  exact ⟨fun ⟨a, ha, e⟩ => by have : a = y := by omega
                              exact this ▸ ha, fun h => ⟨y, h, rfl⟩⟩
theorem e_loose_among (ho : PrsT n prs) (hn : n ≤ 1000) (hp : prs.length ≤ 1000) {l : List Nat} (hl : Spo n l) : t_loose_among ((n : Int), prs) (inN l) = pu (inN (l.filter (looB prs l))) := by
  have e0 : t_below_lists ((n : Int), prs) = pu ((List.range n).map fun x => inN (if true = true then lowP prs x else upP prs x)) := nest9 true ho.toPrs hn hp
  unfold t_loose_among
  rw [e0, pu_bi, pu_bi]
  have key := for_pick (f := fun (x_5 : Int) (s_3 : (List Int)) =>
 (bi (bi (bi (bi (ixM ((List.range n).map fun x => inN (if true = true then lowP prs x else upP prs x)) x_5) fun l_7 => (nx (lcM (fun (y_6 : Int) => (pu (decide (y_6 ∈ (inN l))))) (fun (y_6 : Int) => (pu y_6)) l_7 []))) fun z_8 => t_greatest_of ((n : Int), prs) z_8) fun a_9 => (pu (!Option.isNone a_9))) fun c => if c = true then
 (bi (appM s_3 x_5) fun (found_11 : (List Int)) =>
 (pu found_11))
 else (pu s_3))) (looB prs l) l [] (by have := hl.len; simp only [List.length_nil]; omega) fun x hx s hs => ?_
  · rw [show inN [] = ([] : List Int) from rfl] at key
    rw [key, pu_bi, List.nil_append]
  · have hxn := hl.lt x hx
    have e1 : ixM ((List.range n).map fun x => inN (if true = true then lowP prs x else upP prs x)) ((x : Nat) : Int) = pu (inN (lowP prs x)) := ix_get (by
      rw [List.getElem?_map, List.getElem?_range hxn]
      rfl)
    have e2 : nx (lcM (fun (y_6 : Int) => (pu (decide (y_6 ∈ (inN l))))) (fun (y_6 : Int) => (pu y_6)) (inN (lowP prs x)) []) = pu (inN ((lowP prs x).filter fun y => decide (y ∈ l))) := lc_map (fun y => decide (y ∈ l)) (fun (y : Nat) => (y : Int)) _ (fun y _ => by
      rw [show decide ((y : Int) ∈ inN l) = decide (y ∈ l) by rw [Bool.eq_iff_iff, decide_eq_true_eq, decide_eq_true_eq, memInN]]) fun _ _ _ => rfl
    rw [e1, pu_bi, e2, pu_bi, e_greatest, pu_bi, pu_bi]
    have e3 : (!Option.isNone ((((lowP prs x).filter fun y => decide (y ∈ l)).find? (topB prs ((lowP prs x).filter fun y => decide (y ∈ l)))).map fun (k : Nat) => (k : Int))) = looB prs l x := by
      have hm : ∀ z, z ∈ ((lowP prs x).filter fun y => decide (y ∈ l)) ↔ z ∈ l ∧ Rp prs z x := fun z => by
        rw [List.mem_filter, decide_eq_true_eq, mem_lowP ho.toPrs, and_comm]
      rw [Bool.eq_iff_iff, looB_iff]
      unfold Loo
      have hS : (fun z => z ∈ l ∧ Rp prs z x) = (fun z => z ∈ ((lowP prs x).filter fun y => decide (y ∈ l))) := funext fun z => propext (hm z).symm
      rw [hS]
      constructor
      · intro h
        cases q : ((lowP prs x).filter fun y => decide (y ∈ l)).find? (topB prs ((lowP prs x).filter fun y => decide (y ∈ l))) with
        | none => rw [q] at h; cases h
        | some y => exact ⟨y, find_top q⟩
      · rintro ⟨y, hy⟩
        rw [find_of (po_of ho) hy]
        rfl
    rw [e3]
    cases looB prs l x with
    | true => rw [if_pos rfl, if_pos rfl, okApp (by omega), pu_bi]
    | false => rw [if_neg (by decide), if_neg (by decide)]
theorem topF_iff {l : List Nat} : (l.filter fun y => decide ((l.filter fun z => !leP prs z y) = [])) = l.filter (topB prs l) := List.filter_congr fun y _ => by
  unfold topB
  rw [Bool.eq_iff_iff, decide_eq_true_eq, List.filter_eq_nil_iff, List.all_eq_true]
  exact forall_congr' fun z => forall_congr' fun _ => by rw [Bool.not_eq_true', Bool.not_eq_false]
theorem e_topF (l : List Nat) : nx (lcM (fun (y_3 : Int) => (bi (nx (lcM (fun (z_4 : Int) => (bi (t__law_is_led ((n : Int), prs) z_4 y_3) fun c => pu (!c))) (fun (z_4 : Int) => (pu z_4)) (inN l) [])) fun a_5 => (pu (decide (a_5 = ([] : (List Int))))))) (fun (y_3 : Int) => (pu y_3)) (inN l) []) = pu (inN (l.filter (topB prs l))) := by
  rw [← topF_iff]
  refine lc_map (fun y => decide ((l.filter fun z => !leP prs z y) = [])) (fun (y : Nat) => (y : Int)) l (fun y _ => ?_) fun _ _ _ => rfl
  have e : nx (lcM (fun (z_4 : Int) => (bi (t__law_is_led ((n : Int), prs) z_4 (y : Int)) fun c => pu (!c))) (fun (z_4 : Int) => (pu z_4)) (inN l) []) = pu (inN (l.filter fun z => !leP prs z y)) := lc_map (fun z => !leP prs z y) (fun (z : Nat) => (z : Int)) l (fun z _ => by rw [e_law_led, pu_bi]) fun _ _ _ => rfl
  rw [e, pu_bi]
  have : decide (inN (l.filter fun z => !leP prs z y) = []) = decide ((l.filter fun z => !leP prs z y) = []) := by
    rw [Bool.eq_iff_iff, decide_eq_true_eq, decide_eq_true_eq]
    unfold inN
    rw [List.map_eq_nil_iff]
  rw [this]
theorem e_law_loose (l : List Nat) (x : Nat) : t__law_is_loose ((n : Int), prs) (inN l) (x : Int) = pu (looB prs l x) := by
  unfold t__law_is_loose
  rw [pu_bi]
  have e : List.map (fun (y_1 : Int) => y_1) (List.filter (fun (y_1 : Int) => (memB (y_1, (x : Int)) prs)) (inN l)) = inN (l.filter fun y => ltB prs y x) := by
    rw [List.map_id']
    unfold inN ltB
    rw [List.filter_map]
    rfl
  dsimp only
  rw [e, e_topF, pu_bi]
  have : decide (inN ((l.filter fun y => ltB prs y x).filter (topB prs (l.filter fun y => ltB prs y x))) ≠ []) = looB prs l x := by
    rw [Bool.eq_iff_iff, decide_eq_true_eq, looB_iff]
    unfold inN
    have hS : (fun z => z ∈ l ∧ Rp prs z x) = (fun z => z ∈ (l.filter fun y => ltB prs y x)) := funext fun z => propext (by rw [List.mem_filter, ltB_iff])
    unfold Loo
    rw [hS]
    constructor
    · intro h
      obtain ⟨y, hy⟩ := List.exists_mem_of_ne_nil ((l.filter fun y => ltB prs y x).filter (topB prs (l.filter fun y => ltB prs y x))) fun z => h (by rw [z]; rfl)
      obtain ⟨h1, h2⟩ := List.mem_filter.mp hy
      exact ⟨y, (topB_iff h1).mp h2⟩
    · rintro ⟨y, hy⟩ z
      rw [List.map_eq_nil_iff] at z
      have : y ∈ (l.filter fun y => ltB prs y x).filter (topB prs (l.filter fun y => ltB prs y x)) := List.mem_filter.mpr ⟨hy.1, (topB_iff hy.1).mpr hy⟩
      rw [z] at this
      cases this
  rw [this]
end
end LH
set_option maxRecDepth 100000
set_option maxHeartbeats 400000
namespace LH
open PySem PySem.Spec PyProof.Rows L2 Pd Ty La
theorem srt_strict : ∀ {l : List Int}, l.Pairwise (· ≤ ·) → l.Nodup → l.Pairwise (· < ·)
  | [], _, _ => List.Pairwise.nil
  | a :: l, h, n => by
    rw [List.pairwise_cons] at h ⊢
    rw [List.nodup_cons] at n
    exact ⟨fun b hb => by
      have := h.1 b hb
      have : a ≠ b := fun e => n.1 (e ▸ hb)
      omega, srt_strict h.2 n.2⟩
theorem nodup_inN {xs : List Nat} (h : (inN xs).Nodup) : xs.Nodup := by
  unfold inN at h
  rw [List.Nodup, List.pairwise_map] at h
  exact h.imp fun q e => q (by rw [e])
theorem inN_nodup {xs : List Nat} (h : xs.Nodup) : (inN xs).Nodup := nodup_on h fun a _ b _ e => by omega
end LH
set_option maxRecDepth 100000
set_option maxHeartbeats 400000
namespace LH
open PySem PySem.Spec PyProof.Rows L2 Pd Ty La
theorem inN_erase (x : Nat) : ∀ l : List Nat, (inN l).erase (x : Int) = inN (l.erase x)
  | [] => rfl
  | a :: l => by
    rw [inN_cons, List.erase_cons, List.erase_cons]
    by_cases e : a = x
    · subst e
      rw [beq_self_eq_true, if_pos rfl, beq_self_eq_true, if_pos rfl]
    · have h1 : ((a : Int) == (x : Int)) = false := by rw [beq_eq_false_iff_ne]; omega
      have h2 : (a == x) = false := by rw [beq_eq_false_iff_ne]; exact e
      rw [h1, h2, if_neg (by decide), if_neg (by decide), inN_erase x l]
      rfl
theorem srt_inN {l : List Nat} (hl : l.Nodup) (hn : l.length ≤ 16000000) : ∃ s : List Nat, s.Pairwise (· < ·) ∧ (∀ x, x ∈ s ↔ x ∈ l) ∧ sortIM (inN l) = pu (inN s) := by
  have hp := SrtT.sortI_perm (inN l)
  have e : inN ((SrtT.sortI (inN l)).map Int.toNat) = SrtT.sortI (inN l) := by
    show ((SrtT.sortI (inN l)).map Int.toNat).map (fun (k : Nat) => (k : Int)) = _
    rw [List.map_map]
    refine (List.map_congr_left fun x hx => ?_).trans (List.map_id _)
    obtain ⟨k, _, rfl⟩ := List.mem_map.mp (hp.mem_iff.mp hx)
    rfl
  refine ⟨(SrtT.sortI (inN l)).map Int.toNat, ?_, fun x => ?_, ?_⟩
  · have h := srt_strict (SrtT.sortI_srt (inN l)) (hp.nodup_iff.mpr (inN_nodup hl))
    rw [← e] at h
    unfold inN at h
    rw [List.pairwise_map] at h
    exact h.imp fun q => by omega
  · rw [← memInN, e, hp.mem_iff, memInN]
  · rw [e]
    exact rq_true (by rw [sizeLine_eq, inN_len]; omega) _
section
variable {n : Nat} {prs : List (Int × Int)}
theorem asc_off {l : List Nat} (h : Asc n l) (x : Nat) : Asc n (l.erase x) := ⟨⟨fun y hy => h.lt y (List.mem_of_mem_erase hy), h.nd.sublist List.erase_sublist⟩, h.lt'.sublist List.erase_sublist⟩
theorem no_loo {l : List Nat} (h : l.filter (looB prs l) = []) : ∀ x, x ∈ l → ¬ Loo (Rp prs) (fun z => z ∈ l) x := fun x hx q => List.filter_eq_nil_iff.mp h x hx (looB_iff.mpr q)
theorem e_bared (ho : PrsT n prs) (hn : n ≤ 1000) (hp : prs.length ≤ 1000) : ∃ F, Asc n F ∧ Core (Rp prs) n (fun z => z ∈ F) ∧ t_bared ((n : Int), prs) = pu (inN F) := by
  have e0 : rgN n = inN (List.range n) := rfl
  unfold t_bared
  rw [okRg (by omega), pu_bi, e0, e_loose_among ho hn hp asc_range.spo, pu_bi]
  obtain ⟨s', e, _, l, hl, hc, e2⟩ := okWh (t := fun (s_3 : (List Int) × (List Int)) => (pu (!(s_3.2).isEmpty))) (f := fun (s_3 : (List Int) × (List Int)) =>
 (bi (ixM s_3.2 0) fun (x_7 : Int) =>
 (bi (remM s_3.1 x_7) fun (left_5 : (List Int)) =>
 (bi (t_loose_among ((n : Int), prs) left_5) fun (loose_6 : (List Int)) =>
 (pu (left_5, loose_6))))))
    (fun s => ∃ l, Asc n l ∧ Ret (Rp prs) n (fun z => z ∈ l) ∧ s = (inN l, inN (l.filter (looB prs l)))) (fun s => s.1.length) (fun s => ∃ l, Asc n l ∧ Core (Rp prs) n (fun z => z ∈ l) ∧ s.1 = inN l) (fun s hs => by
      obtain ⟨l, hl, hr, rfl⟩ := hs
      cases hf : l.filter (looB prs l) with
      | nil => exact .inl ⟨rfl, l, hl, ⟨hr, no_loo hf⟩, rfl⟩
      | cons x xs =>
        have hx : x ∈ l.filter (looB prs l) := by rw [hf]; exact List.mem_cons_self
        obtain ⟨hx, hx2⟩ := List.mem_filter.mp hx
        have a' := asc_off hl x
        refine .inr ⟨rfl, (inN (l.erase x), inN ((l.erase x).filter (looB prs (l.erase x)))), ?_, ⟨l.erase x, a', ?_, rfl⟩, ?_⟩
        · dsimp only
          rw [inN_cons, ix_cons, pu_bi, okRem (memInN.mpr hx), pu_bi, inN_erase, e_loose_among ho hn hp a'.spo, pu_bi]
        · refine (ret_off (po_of ho) hr (looB_iff.mp hx2)).ext fun z => ?_
          rw [hl.nd.mem_erase_iff, and_comm]
        · dsimp only
          rw [inN_len, inN_len, List.length_erase_of_mem hx]
          have := List.length_pos_of_mem hx
          omega) 1048576 (inN (List.range n), inN ((List.range n).filter (looB prs (List.range n)))) ⟨_, asc_range, (ret_all (R := Rp prs)).ext fun z => List.mem_range.symm, rfl⟩ (by dsimp only; rw [inN_len, List.length_range]; omega)
  refine ⟨l, hl, hc, ?_⟩
  rw [e, pu_bi, e2]
theorem core_eq (ho : PrsT n prs) {F G : List Nat} (hF : Asc n F) (hG : Asc n G) (h : Core (Rp prs) n (fun z => z ∈ F)) (h' : Core (Rp prs) n (fun z => z ∈ G)) : F = G := asc_eq hF.lt' hG.lt' (core_one (po_of ho) h h')
theorem bared_is (ho : PrsT n prs) (hn : n ≤ 1000) (hp : prs.length ≤ 1000) {F : List Nat} (hF : Asc n F) (h : Core (Rp prs) n (fun z => z ∈ F)) : t_bared ((n : Int), prs) = pu (inN F) := by
  obtain ⟨G, hG, h', e⟩ := e_bared ho hn hp
  rw [e, core_eq ho hG hF h' h]
theorem n_law_bared (ho : PrsT n prs) (hn : n ≤ 1000) {F L : List Nat} (hF : Asc n F) (hc : Core (Rp prs) n (fun z => z ∈ F)) (hL : Spo n L) (hR : Ret (Rp prs) n (fun z => z ∈ L)) : En (t__law_bared ((n : Int), prs) (inN L)) (fun l => l = inN F) := by
  unfold t__law_bared
  dsimp only
  rw [okRg (by omega), pu_bi]
  refine En.bi (En.for_rg (fun i s => ∃ l, Spo n l ∧ Ret (Rp prs) n (fun z => z ∈ l) ∧ s = inN l ∧ (l.length + i ≤ n ∨ l.filter (looB prs l) = [])) ⟨L, hL, hR, rfl, .inl hL.len⟩ fun i s hi hs => ?_) fun s hs => ?_
  · obtain ⟨l, hl, hr, rfl, hb⟩ := hs
    have e1 : nx (lcM (fun (x_4 : Int) => (t__law_is_loose ((n : Int), prs) (inN l) x_4)) (fun (x_4 : Int) => (pu x_4)) (inN l) []) = pu (inN (l.filter (looB prs l))) := lc_map (looB prs l) (fun (x : Nat) => (x : Int)) l (fun x _ => e_law_loose l x) fun _ _ _ => rfl
    rw [e1, pu_bi]
    cases hf : l.filter (looB prs l) with
    | nil =>
      refine En.ite (fun c => absurd c (by decide)) fun _ => En.pu ⟨l, hl, hr, rfl, .inr hf⟩
    | cons x xs =>
      have hx : x ∈ l.filter (looB prs l) := by rw [hf]; exact List.mem_cons_self
      obtain ⟨hx, hx2⟩ := List.mem_filter.mp hx
      refine En.ite (fun _ => ?_) fun c => absurd (by rw [inN_cons]; exact decide_eq_true (by simp)) c
      have e2 : nx (lcM (fun (x_6 : Int) => (bi (ixM (inN (x :: xs)) 0) fun b_8 => (pu (decide (x_6 ≠ b_8))))) (fun (x_6 : Int) => (pu x_6)) (inN l) []) = pu (inN (l.filter fun z => decide (z ≠ x))) := lc_map (fun z => decide (z ≠ x)) (fun (z : Nat) => (z : Int)) l (fun z _ => by
        rw [inN_cons, ix_cons, pu_bi]
        have : decide ((z : Int) ≠ (x : Int)) = decide (z ≠ x) := by rw [Bool.eq_iff_iff, decide_eq_true_eq, decide_eq_true_eq]; omega
        rw [this]) fun _ _ _ => rfl
      rw [e2, pu_bi]
      have hm : ∀ z, z ∈ (l.filter fun z => decide (z ≠ x)) ↔ z ∈ l ∧ z ≠ x := fun z => by rw [List.mem_filter, decide_eq_true_eq]
      refine En.pu ⟨l.filter fun z => decide (z ≠ x), ⟨fun y hy => hl.lt y ((hm y).mp hy).1, hl.nd.sublist List.filter_sublist⟩, (ret_off (po_of ho) hr (looB_iff.mp hx2)).ext fun z => (hm z).symm, rfl, ?_⟩
      rcases hb with hb | hb
      · left
        have : (l.filter fun z => decide (z ≠ x)) = l.erase x := (hl.nd.erase_eq_filter x ▸ (List.filter_congr fun z _ => by rw [Bool.eq_iff_iff, decide_eq_true_eq]; simp))
        rw [this, List.length_erase_of_mem hx]
        have := List.length_pos_of_mem hx
        omega
      · rw [hf] at hb
        cases hb
  · obtain ⟨l, hl, hr, rfl, hb⟩ := hs
    have hno : l.filter (looB prs l) = [] := hb.elim (fun h => by
      have : l = [] := List.length_eq_zero_iff.mp (by omega)
      rw [this]
      rfl) id
    obtain ⟨s, h1, h2, e⟩ := srt_inN hl.nd (by have := hl.len; omega)
    rw [e]
    refine En.pu ?_
    have hs : Asc n s := ⟨⟨fun x hx => hl.lt x ((h2 x).mp hx), nodup_of_asc h1⟩, h1⟩
    have hcs : Core (Rp prs) n (fun z => z ∈ s) := (show Core (Rp prs) n (fun z => z ∈ l) from ⟨hr, no_loo hno⟩).ext fun z => (h2 z).symm
    rw [core_eq ho hs hF hcs hc]
end
end LH
set_option maxRecDepth 100000
set_option maxHeartbeats 400000
namespace LH
open PySem PySem.Spec PyProof.Rows L2 Pd Ty La
theorem get_ixN {F : List Nat} (hn : F.Nodup) {i x : Nat} (h : F[i]? = some x) : ixN' F x = i := by
  have hx := List.mem_of_getElem? h
  have h1 := (ixo_of hx).2
  exact (List.getElem?_inj (List.getElem?_eq_some_iff.mp h1).1 hn).mp (h1.trans h.symm)
theorem getD_of {F : List Nat} {i x : Nat} (h : F[i]? = some x) : F.getD i 0 = x := by rw [List.getD_eq_getElem?_getD, h]; rfl
section
variable {n : Nat} {prs : List (Int × Int)} {F : List Nat}
theorem part_rel (ho : Prs n prs) (hF : F.Nodup) {i j : Nat} : Rp (cutPr prs F) i j ↔ ∃ x y, F[i]? = some x ∧ F[j]? = some y ∧ Rp prs x y := by
  constructor
  · intro h
    obtain ⟨x, y, m, hx, hy, rfl, rfl⟩ := (mem_cutPr ho).mp h
    exact ⟨x, y, (ixo_of hx).2, (ixo_of hy).2, m⟩
  · rintro ⟨x, y, hx, hy, m⟩
    exact (mem_cutPr ho).mpr ⟨x, y, m, List.mem_of_getElem? hx, List.mem_of_getElem? hy, (get_ixN hF hx).symm, (get_ixN hF hy).symm⟩
theorem part_core (ho : PrsT n prs) (hF : Asc n F) (hc : Core (Rp prs) n (fun z => z ∈ F)) : Core (Rp (cutPr prs F)) F.length (fun z => z ∈ List.range F.length) := by
  refine ⟨(ret_all (R := Rp (cutPr prs F))).ext fun z => List.mem_range.symm, fun i hi q => ?_⟩
  obtain ⟨j, ⟨_, hj⟩, hm⟩ := q
  obtain ⟨y, x, gy, gx, m⟩ := (part_rel ho.toPrs hF.nd).mp hj
  refine hc.no x (List.mem_of_getElem? gx) ⟨y, ⟨List.mem_of_getElem? gy, m⟩, fun z hz => ?_⟩
  have gz := (ixo_of hz.1).2
  have hk : Rp (cutPr prs F) (ixN' F z) i := (part_rel ho.toPrs hF.nd).mpr ⟨z, x, gz, gx, hz.2⟩
  rcases hm (ixN' F z) ⟨List.mem_range.mpr (List.getElem?_eq_some_iff.mp gz).1, hk⟩ with e | q
  · rw [e, gy] at gz
    exact .inl (Option.some.inj gz).symm
  · obtain ⟨z', y', gz', gy', m'⟩ := (part_rel ho.toPrs hF.nd).mp q
    rw [gz] at gz'
    rw [gy] at gy'
    obtain rfl := Option.some.inj gz'
    obtain rfl := Option.some.inj gy'
    exact .inr m'
theorem e_loose_spots (ho : PrsT n prs) (hn : n ≤ 1000) (hp : prs.length ≤ 1000) : t_loose_spots ((n : Int), prs) = pu (inN ((List.range n).filter (looB prs (List.range n)))) := by
  unfold t_loose_spots
  rw [okRg (by omega), pu_bi]
  exact e_loose_among ho hn hp asc_range.spo
theorem e_no_loose (ho : PrsT n prs) (hn : n ≤ 1000) (hp : prs.length ≤ 1000) (hc : Core (Rp prs) n (fun z => z ∈ List.range n)) : t_loose_spots ((n : Int), prs) = pu [] := by
  rw [e_loose_spots ho hn hp]
  have : (List.range n).filter (looB prs (List.range n)) = [] := List.filter_eq_nil_iff.mpr fun x hx q => hc.no x hx (looB_iff.mp q)
  rw [this]
  rfl
/-- the spots of a set at or below one -/
def atB (prs : List (Int × Int)) (F : List Nat) (x : Nat) : List Nat := F.filter fun y => leP prs y x
theorem mem_atB {x y : Nat} : y ∈ atB prs F x ↔ y ∈ F ∧ (y = x ∨ Rp prs y x) := by
  unfold atB
  rw [List.mem_filter, leP_iff]
  rfl
/-- the greatest of them -/
def rtF (prs : List (Int × Int)) (F : List Nat) (x : Nat) : Nat := ((atB prs F x).find? (topB prs (atB prs F x))).getD 0
theorem rt_find (ho : PrsT n prs) (hc : Core (Rp prs) n (fun z => z ∈ F)) {x : Nat} (hx : x < n) : (atB prs F x).find? (topB prs (atB prs F x)) = some (rtF prs F x) ∧ Top (Rp prs) (fun z => z ∈ atB prs F x) (rtF prs F x) := by
  obtain ⟨y, hy⟩ := hc.top x hx
  have hS : (fun z => z ∈ F ∧ (z = x ∨ Rp prs z x)) = (fun z => z ∈ atB prs F x) := funext fun z => propext mem_atB.symm
  rw [hS] at hy
  have e := find_of (po_of ho) hy
  have e2 : rtF prs F x = y := by unfold rtF; rw [e]; rfl
  rw [e2]
  exact ⟨e, hy⟩
theorem rt_mem (ho : PrsT n prs) (hc : Core (Rp prs) n (fun z => z ∈ F)) {x : Nat} (hx : x < n) : rtF prs F x ∈ F ∧ (rtF prs F x = x ∨ Rp prs (rtF prs F x) x) := mem_atB.mp (rt_find ho hc hx).2.1
theorem rt_self (ho : PrsT n prs) (hc : Core (Rp prs) n (fun z => z ∈ F)) {x : Nat} (hx : x ∈ F) : rtF prs F x = x := by
  have t := (rt_find ho hc (hc.lt x hx)).2
  have h := rt_mem ho hc (hc.lt x hx)
  rcases h.2 with e | q
  · exact e
  · rcases t.2 x (mem_atB.mpr ⟨hx, .inl rfl⟩) with e | q'
    · exact e.symm
    · exact ((po_of ho).ir ((po_of ho).tr _ _ _ q q')).elim
theorem rt_mono (ho : PrsT n prs) (hc : Core (Rp prs) n (fun z => z ∈ F)) {x y : Nat} (h : Rp prs x y) : rtF prs F x = rtF prs F y ∨ Rp prs (rtF prs F x) (rtF prs F y) := by
  obtain ⟨hx, hy⟩ := lt_of_R ho.toPrs h
  have a := rt_mem ho hc hx
  refine (rt_find ho hc hy).2.2 _ (mem_atB.mpr ⟨a.1, .inr ?_⟩)
  rcases a.2 with e | q
  · rw [e]; exact h
  · exact (po_of ho).tr _ _ _ q h
theorem e_bared_leading (ho : PrsT n prs) (hn : n ≤ 1000) (hp : prs.length ≤ 1000) (hF : Asc n F) (hc : Core (Rp prs) n (fun z => z ∈ F)) : t_bared_leading ((n : Int), prs) = pu (inN ((List.range n).map (rtF prs F))) := by
  unfold t_bared_leading
  rw [bared_is ho hn hp hF hc, pu_bi]
  dsimp only
  rw [okRg (by omega), pu_bi]
  have e := lc_rg1 (n := n) (me := fun (x_2 : Int) => (bi (bi (nx (lcM (fun (y_3 : Int) => (t_is_led ((n : Int), prs) y_3 x_2)) (fun (y_3 : Int) => (pu y_3)) (inN F) [])) fun z_4 => t_greatest_of ((n : Int), prs) z_4) fun o => op? o)) (fun x => ((rtF prs F x : Nat) : Int)) fun x hx => by
    have e1 : nx (lcM (fun (y_3 : Int) => (t_is_led ((n : Int), prs) y_3 (x : Int))) (fun (y_3 : Int) => (pu y_3)) (inN F) []) = pu (inN (atB prs F x)) := lc_map (fun y => leP prs y x) (fun (y : Nat) => (y : Int)) F (fun y _ => e_led y x) fun _ _ _ => rfl
    rw [e1, pu_bi, e_greatest, pu_bi, (rt_find ho hc hx).1]
    rfl
  rw [e]
  unfold inN
  rw [List.map_map]
  rfl
theorem top_one (ho : PrsT n prs) (hF : Asc n F) (hc : Core (Rp prs) n (fun z => z ∈ F)) {x : Nat} (hx : x < n) : (atB prs F x).filter (topB prs (atB prs F x)) = [rtF prs F x] := by
  have t := (rt_find ho hc hx).2
  refine asc_eq ((hF.lt'.sublist List.filter_sublist).sublist List.filter_sublist) (by simp) fun y => ?_
  rw [List.mem_filter, List.mem_singleton]
  constructor
  · rintro ⟨h1, h2⟩
    exact ((topB_iff h1).mp h2).one (po_of ho) t
  · rintro rfl
    exact ⟨t.1, (topB_iff t.1).mpr t⟩
theorem like9 {ls : List (List Int)} (h : ∀ l ∈ ls, l.length ≤ 100 ∧ ∀ x ∈ l, x.natAbs < 10 ^ 12) (hl : ls.length ≤ 100) : t__law_like ls ls = pu true := by
  unfold t__law_like
  have s1 : ∀ l ∈ ls, Sw 2 100 (tT tI) l := fun l hl => sw_T (fun x hx => sw_I ((h l hl).2 x hx)) (by have := (h l hl).1; omega)
  exact like_eq (sw_L (c := 10100) s1 (by have : ls.length * (100 + 1) ≤ 100 * 101 := Nat.mul_le_mul hl (Nat.le_refl _); omega)) (by decide) (by decide)
theorem like9' {l : List Int} (h : l.length ≤ 100 ∧ ∀ x ∈ l, x.natAbs < 10 ^ 12) : t__law_like'1 l l = pu true := by
  unfold t__law_like'1
  exact like_eq (sw_T (c := 100) (fun x hx => sw_I (h.2 x hx)) (by have := h.1; omega)) (by decide) (by decide)
theorem small9 {l : List Nat} {m : Nat} (hm : m ≤ 100) (hl : l.length ≤ 100) (h : ∀ x ∈ l, x < m) : (inN l).length ≤ 100 ∧ ∀ x ∈ inN l, x.natAbs < 10 ^ 12 := ⟨by rw [inN_len]; exact hl, fun x hx => by
  obtain ⟨k, hk, rfl⟩ := List.mem_map.mp hx
  have := h k hk
  omega⟩
theorem rt_small (ho : PrsT n prs) (hc : Core (Rp prs) n (fun z => z ∈ F)) : ∀ x ∈ (List.range n).map (rtF prs F), x < n := fun x hx => by
  obtain ⟨y, hy, rfl⟩ := List.mem_map.mp hx
  exact hc.lt _ (rt_mem ho hc (List.mem_range.mp hy)).1
theorem rt_get {x : Nat} (hx : x < n) : ixM (inN ((List.range n).map (rtF prs F))) ((x : Nat) : Int) = pu ((rtF prs F x : Nat) : Int) := ix_get (by
  unfold inN
  rw [List.map_map, List.getElem?_map, List.getElem?_range hx]
  rfl)
theorem e_need_leading (ho : PrsT n prs) (hn : n ≤ 1000) (hc : Core (Rp prs) n (fun z => z ∈ F)) : t_need_leading ((n : Int), prs) ((n : Int), prs) (inN ((List.range n).map (rtF prs F))) = pu (inN ((List.range n).map (rtF prs F))) := by
  unfold t_need_leading
  have el : ((List.length (inN ((List.range n).map (rtF prs F))) : Nat) : Int) = (n : Int) := by rw [inN_len, List.length_map, List.length_range]
  rw [if_neg (by dsimp only; rw [el]; simp)]
  have e1 : nx (lcM (fun (spot_1 : Int) => (pu true)) (fun (spot_1 : Int) => (t_is_spot spot_1 ((n : Int), prs).1)) (inN ((List.range n).map (rtF prs F))) []) = pu (((List.range n).map (rtF prs F)).map fun _ => true) := lc_map1 (fun _ => true) _ fun x hx => by
    have := rt_small ho hc x hx
    unfold t_is_spot t_is_integer
    rw [pu_bi]
    have e2 : (gLe 0 ((x : Nat) : Int) && gLt ((x : Nat) : Int) ((n : Nat) : Int)) = true := by
      unfold gLe gLt
      rw [Bool.and_eq_true, decide_eq_true_eq, decide_eq_true_eq]
      omega
    rw [if_pos (by decide)]
    dsimp only
    rw [e2]
  rw [e1, pu_bi, pu_bi, pu_bi]
  have e2 : List.all (((List.range n).map (rtF prs F)).map fun _ => true) id = true := List.all_eq_true.mpr fun b hb => by
    obtain ⟨_, _, rfl⟩ := List.mem_map.mp hb
    rfl
  rw [e2, if_neg (by decide)]
  refine bi_for_get (S := fun _ => ()) rfl fun i q hq => ?_
  rw [en_range ((0, 0) : Int × Int)] at hq
  rw [List.getElem?_map] at hq
  obtain ⟨j, hj, rfl⟩ := Option.map_eq_some_iff.mp hq
  have hj := List.mem_range.mp (List.mem_of_getElem? hj)
  have hm : prs.getD j (0, 0) ∈ prs := by
    rw [List.getD_eq_getElem?_getD, List.getElem?_eq_getElem hj]
    exact List.getElem_mem hj
  obtain ⟨x, y, hx, hy, e⟩ := ho.at_ _ hm
  dsimp only
  rw [e]
  dsimp only
  rw [rt_get hx, pu_bi, rt_get hy, pu_bi, pu_bi]
  dsimp only
  have e3 : leP prs (rtF prs F x) (rtF prs F y) = true := leP_iff.mpr (rt_mono ho hc (by rw [e] at hm; exact hm))
  rw [e_led, pu_bi, pu_bi, e3]
  rfl
theorem e_law_leads (ho : PrsT n prs) (hn : n ≤ 10) (hp : prs.length ≤ 1000) (hF : Asc n F) (hc : Core (Rp prs) n (fun z => z ∈ F)) : t__law_leads ((n : Int), prs) (inN F) = pu true := by
  unfold t__law_leads
  rw [e_bared_leading ho (by omega) hp hF hc, pu_bi, pu_bi]
  try dsimp only
  rw [okRg (by omega), pu_bi]
  refine (bi_for_rg (S := fun i => (List.range i).map fun x => [((rtF prs F x : Nat) : Int)]) (s := []) rfl fun x hx => by
    have e1 : nx (lcM (fun (y_6 : Int) => (t__law_is_led ((n : Int), prs) y_6 (x : Int))) (fun (y_6 : Int) => (pu y_6)) (inN F) []) = pu (inN (atB prs F x)) := lc_map (fun y => leP prs y x) (fun (y : Nat) => (y : Int)) F (fun y _ => e_law_led y x) fun _ _ _ => rfl
    try dsimp only
    rw [e1, pu_bi, e_topF, pu_bi, top_one ho hF hc hx, okApp (by rw [List.length_map, List.length_range]; omega), pu_bi, List.range_succ, List.map_append]
    rfl).trans ?_
  try dsimp only
  have e2 : List.filter (fun (some_14 : (List Int)) => (decide (((List.length some_14 : Nat) : Int) ≠ 1))) ((List.range n).map fun x => [((rtF prs F x : Nat) : Int)]) = [] := List.filter_eq_nil_iff.mpr fun l hl => by
    obtain ⟨x, _, rfl⟩ := List.mem_map.mp hl
    simp
  rw [e2, if_neg (by decide)]
  have e3 : nx (lcM (fun (some_15 : (List Int)) => (pu true)) (fun (some_15 : (List Int)) => (ixM some_15 0)) ((List.range n).map fun x => [((rtF prs F x : Nat) : Int)]) []) = pu (inN ((List.range n).map (rtF prs F))) := by
    rw [lc_map1 (fun x => ((rtF prs F x : Nat) : Int)) (List.range n) fun x _ => ix_cons]
    unfold inN
    rw [List.map_map]
    rfl
  rw [e3, pu_bi, pu_bi, e_need_leading ho (by omega) hc, pu_bi, pu_bi, pu_bi]
  try dsimp only
  have sm := small9 (m := n) (l := (List.range n).map (rtF prs F)) (by omega) (by rw [List.length_map, List.length_range]; omega) (rt_small ho hc)
  rw [like9 (fun l hl => by
    simp only [List.mem_cons, List.not_mem_nil, or_false, or_self] at hl
    rw [hl]
    exact sm) (by simp), pu_bi, pu_bi, if_neg (by decide)]
  have e4 : nx (lcM (fun (x_20 : Int) => (bi (ixM (inN ((List.range n).map (rtF prs F))) x_20) fun a_21 => (pu (decide (a_21 ≠ x_20))))) (fun (x_20 : Int) => (pu x_20)) (inN F) []) = pu (inN (F.filter fun _ => false)) := lc_map (fun _ => false) (fun (x : Nat) => (x : Int)) F (fun x hx => by
    rw [rt_get (hF.lt x hx), pu_bi, rt_self ho hc hx]
    simp) fun _ _ _ => rfl
  have e5 : (F.filter fun _ => false) = [] := List.filter_eq_nil_iff.mpr fun _ _ q => by cases q
  rw [e4, e5, pu_bi]
  rfl
end
end LH
set_option maxRecDepth 100000
set_option maxHeartbeats 400000
namespace LH
open PySem PySem.Spec PyProof.Rows L2 Pd Ty La
def Con (R : Nat → Nat → Prop) (x y : Nat) : Prop := ∀ P : Nat → Prop, P x → (∀ a b, P a → R a b ∨ R b a → P b) → P y
section
variable {R : Nat → Nat → Prop} {n : Nat}
theorem Con.rf (x : Nat) : Con R x x := fun _ h _ => h
theorem Con.tr {x y z : Nat} (a : Con R x y) (b : Con R y z) : Con R x z := fun P h st => b P (a P h st) st
theorem Con.step {x y z : Nat} (a : Con R x y) (h : R y z ∨ R z y) : Con R x z := fun P p st => st y z (a P p st) h
theorem Con.sy {x y : Nat} (a : Con R x y) : Con R y x := a (fun w => Con R w x) (Con.rf x) fun a b h q => ((Con.rf b).step q.symm).tr h
/-- one spot of each piece -/
structure Reps (R : Nat → Nat → Prop) (n : Nat) (A : List Nat) : Prop where
  lt : ∀ a ∈ A, a < n
  ne : A.Pairwise fun a b => ¬ Con R a b
  all : ∀ y, y < n → ∃ a ∈ A, Con R a y
theorem pw_con : ∀ {A : List Nat}, (A.Pairwise fun a b => ¬ Con R a b) → ∀ x ∈ A, ∀ y ∈ A, Con R x y → x = y
  | [], _, _, h, _, _, _ => by cases h
  | a :: A, h, x, hx, y, hy, q => by
    rw [List.pairwise_cons] at h
    rcases List.mem_cons.mp hx with e | hx'
    · rcases List.mem_cons.mp hy with e' | hy'
      · rw [e, e']
      · exact absurd (e ▸ q) (h.1 y hy')
    · rcases List.mem_cons.mp hy with e' | hy'
      · exact absurd (e' ▸ q.sy) (h.1 x hx')
      · exact pw_con h.2 x hx' y hy' q
theorem reps_le {R' : Nat → Nat → Prop} {m : Nat} {A B : List Nat} (hA : Reps R n A) (hB : Reps R' m B) (φ : Nat → Nat) (h1 : ∀ a, a < n → φ a < m) (h2 : ∀ a a', a < n → a' < n → Con R' (φ a) (φ a') → Con R a a') : A.length ≤ B.length := by
  have ch : ∀ a : Nat, ∃ b, a < n → b ∈ B ∧ Con R' b (φ a) := fun a => by
    by_cases q : a < n
    · obtain ⟨b, hb, c⟩ := hB.all _ (h1 a q)
      exact ⟨b, fun _ => ⟨hb, c⟩⟩
    · exact ⟨0, fun z => absurd z q⟩
  obtain ⟨g, hg⟩ := Classical.axiomOfChoice ch
  have nd : A.Nodup := List.Pairwise.imp (S := fun a b => a ≠ b) (fun {a b} (h : ¬ Con R a b) (e : a = b) => h (by rw [e]; exact Con.rf b)) hA.ne
  have ndm : (A.map g).Nodup := nodup_on nd fun x hx y hy e => by
    obtain ⟨_, c1⟩ := hg x (hA.lt x hx)
    obtain ⟨_, c2⟩ := hg y (hA.lt y hy)
    rw [e] at c1
    exact pw_con hA.ne x hx y hy (h2 x y (hA.lt x hx) (hA.lt y hy) (c1.sy.tr c2))
  have := nodup_le ndm (k := B) fun b hb => by
    obtain ⟨a, ha, rfl⟩ := List.mem_map.mp hb
    exact (hg a (hA.lt a ha)).1
  rw [List.length_map] at this
  exact this
end
section
variable {n : Nat} {prs : List (Int × Int)} {F : List Nat}
def nbr (prs : List (Int × Int)) (x : Nat) : List Nat := upP prs x ++ lowP prs x
theorem mem_nbr (ho : Prs n prs) {x y : Nat} : y ∈ nbr prs x ↔ Rp prs x y ∨ Rp prs y x := by
  unfold nbr
  rw [List.mem_append, mem_upP ho, mem_lowP ho]
theorem nd_nbr (ho : PrsT n prs) (x : Nat) : (nbr prs x).Nodup := by
  unfold nbr
  rw [List.nodup_append]
  refine ⟨?_, ?_, fun a ha b hb e => ?_⟩
  · unfold upP
    refine nodup_on (ho.nd.sublist List.filter_sublist) fun p hp q hq e => ?_
    obtain ⟨hp, e1⟩ := List.mem_filter.mp hp
    obtain ⟨hq, e2⟩ := List.mem_filter.mp hq
    have e1 := of_decide_eq_true e1
    have e2 := of_decide_eq_true e2
    obtain ⟨a, b, _, _, ep⟩ := ho.at_ p hp
    obtain ⟨c, d, _, _, eq⟩ := ho.at_ q hq
    subst ep eq
    dsimp only at e e1 e2
    rw [Int.toNat_natCast, Int.toNat_natCast] at e
    rw [e, e1, e2]
  · unfold lowP
    refine nodup_on (ho.nd.sublist List.filter_sublist) fun p hp q hq e => ?_
    obtain ⟨hp, e1⟩ := List.mem_filter.mp hp
    obtain ⟨hq, e2⟩ := List.mem_filter.mp hq
    have e1 := of_decide_eq_true e1
    have e2 := of_decide_eq_true e2
    obtain ⟨a, b, _, _, ep⟩ := ho.at_ p hp
    obtain ⟨c, d, _, _, eq⟩ := ho.at_ q hq
    subst ep eq
    dsimp only at e e1 e2
    rw [Int.toNat_natCast, Int.toNat_natCast] at e
    rw [e, e1, e2]
  · subst e
    have h1 := (mem_upP ho.toPrs).mp ha
    have h2 := (mem_lowP ho.toPrs).mp hb
    exact (po_of ho).ir ((po_of ho).tr _ _ _ h1 h2)
theorem nbr_len (ho : PrsT n prs) (x : Nat) : (nbr prs x).length ≤ n := Spo.len ⟨fun y hy => ((mem_nbr ho.toPrs).mp hy).elim (fun q => (lt_of_R ho.toPrs q).2) fun q => (lt_of_R ho.toPrs q).1, nd_nbr ho x⟩
theorem inN_app (a b : List Nat) : inN a ++ inN b = inN (a ++ b) := by unfold inN; rw [List.map_append]
theorem e_near (ho : PrsT n prs) (hn : n ≤ 1000) (hp : prs.length ≤ 1000) : t_near_lists ((n : Int), prs) = pu ((List.range n).map fun x => inN (nbr prs x)) := by
  have e0 : t_below_lists ((n : Int), prs) = pu ((List.range n).map fun x => inN (lowP prs x)) := nest9 true ho.toPrs hn hp
  have e1 : t_above_lists ((n : Int), prs) = pu ((List.range n).map fun x => inN (upP prs x)) := nest9 false ho.toPrs hn hp
  unfold t_near_lists
  rw [e1, pu_bi, e0, pu_bi, pu_bi, List.zip_map']
  refine lc_map1 (fun x => inN (nbr prs x)) (List.range n) fun x _ => ?_
  dsimp only
  have := nbr_len ho x
  unfold nbr at this
  rw [List.length_append] at this
  rw [okCat (by rw [inN_len, inN_len]; omega), inN_app]
  rfl
theorem e_piece (ho : PrsT n prs) (hn : n ≤ 1000) (hp : prs.length ≤ 1000) {x : Nat} (hx : x < n) : ∃ s : List Nat, t_piece_of ((n : Int), prs) (x : Int) = pu (inN s) ∧ (∀ y, y ∈ s ↔ Con (Rp prs) x y) := by
  unfold t_piece_of
  rw [e_near ho hn hp, pu_bi, pu_bi]
  dsimp only
  obtain ⟨s', e, _, fd, h1, h2, e2⟩ := okWh (t := fun (s_3 : (List Int) × Int) => (pu (gLt s_3.2 ((List.length s_3.1 : Nat) : Int)))) (f := fun (s_3 : (List Int) × Int) =>
 (bi (bi (bi (bi (ixM s_3.1 s_3.2) fun b_6 => (ixM ((List.range n).map fun x => inN (nbr prs x)) b_6)) fun l_8 => (nx (lcM (fun (y_7 : Int) => (pu (!decide (y_7 ∈ s_3.1)))) (fun (y_7 : Int) => (pu y_7)) l_8 []))) fun b_10 => (catM s_3.1 b_10)) fun (found_11 : (List Int)) =>
 (bi (pu (s_3.2 + 1)) fun (done_12 : Int) =>
 (pu (found_11, done_12)))))
    (fun s => ∃ (fd : List Nat) (k : Nat), s = (inN fd, (k : Int)) ∧ k ≤ fd.length ∧ Spo n fd ∧ x ∈ fd ∧ (∀ y ∈ fd, Con (Rp prs) x y) ∧ ∀ i y z, i < k → fd[i]? = some y → Rp prs y z ∨ Rp prs z y → z ∈ fd)
    (fun s => n - s.2.toNat) (fun s => ∃ fd : List Nat, Spo n fd ∧ (∀ y, y ∈ fd ↔ Con (Rp prs) x y) ∧ s.1 = inN fd) (fun s hs => by
      obtain ⟨fd, k, rfl, hk, hf, hm, hc, hcl⟩ := hs
      have hlen := hf.len
      by_cases q : k < fd.length
      · right
        have gy : fd[k]? = some (fd.getD k 0) := get_D' q
        have my := List.mem_of_getElem? gy
        have e1 : nx (lcM (fun (y_7 : Int) => (pu (!decide (y_7 ∈ inN fd)))) (fun (y_7 : Int) => (pu y_7)) (inN (nbr prs (fd.getD k 0))) []) = pu (inN ((nbr prs (fd.getD k 0)).filter fun z => !decide (z ∈ fd))) := lc_map (fun z => !decide (z ∈ fd)) (fun (z : Nat) => (z : Int)) _ (fun z _ => by
          rw [show decide ((z : Int) ∈ inN fd) = decide (z ∈ fd) by rw [Bool.eq_iff_iff, decide_eq_true_eq, decide_eq_true_eq, memInN]]) fun _ _ _ => rfl
        have hnew : ∀ z, z ∈ ((nbr prs (fd.getD k 0)).filter fun z => !decide (z ∈ fd)) ↔ (Rp prs (fd.getD k 0) z ∨ Rp prs z (fd.getD k 0)) ∧ z ∉ fd := fun z => by
          rw [List.mem_filter, mem_nbr ho.toPrs, Bool.not_eq_true', decide_eq_false_iff_not]
        have sp : Spo n (fd ++ (nbr prs (fd.getD k 0)).filter fun z => !decide (z ∈ fd)) := by
          refine ⟨fun z hz => ?_, ?_⟩
          · rcases List.mem_append.mp hz with hz | hz
            · exact hf.lt z hz
            · exact ((hnew z).mp hz).1.elim (fun q => (lt_of_R ho.toPrs q).2) fun q => (lt_of_R ho.toPrs q).1
          · rw [List.nodup_append]
            exact ⟨hf.nd, (nd_nbr ho _).sublist List.filter_sublist, fun a ha b hb e => ((hnew b).mp hb).2 (e ▸ ha)⟩
        have sl := sp.len
        refine ⟨by
          unfold gLt
          rw [inN_len, decide_eq_true (by omega)], (inN (fd ++ (nbr prs (fd.getD k 0)).filter fun z => !decide (z ∈ fd)), ((k + 1 : Nat) : Int)), ?_, ⟨_, k + 1, rfl, by rw [List.length_append]; omega, sp, List.mem_append_left _ hm, fun z hz => ?_, fun i y z hi gi hr => ?_⟩, ?_⟩
        · dsimp only
          have e2 : ixM ((List.range n).map fun x => inN (nbr prs x)) ((fd.getD k 0 : Nat) : Int) = pu (inN (nbr prs (fd.getD k 0))) := ix_get (by
            rw [List.getElem?_map, List.getElem?_range (hf.lt _ my)]
            rfl)
          rw [List.length_append] at sl
          rw [inN_get q, pu_bi, e2, pu_bi, e1, pu_bi, okCat (by rw [inN_len, inN_len]; omega), pu_bi, pu_bi, inN_app]
          rfl
        · rcases List.mem_append.mp hz with hz | hz
          · exact hc z hz
          · exact (hc _ my).step ((hnew z).mp hz).1
        · by_cases hz : z ∈ fd
          · exact List.mem_append_left _ hz
          · by_cases e : i = k
            · subst e
              rw [List.getElem?_append_left q, gy] at gi
              obtain rfl := Option.some.inj gi
              exact List.mem_append_right _ ((hnew z).mpr ⟨hr, hz⟩)
            · rw [List.getElem?_append_left (by omega)] at gi
              exact List.mem_append_left _ (hcl i y z (by omega) gi hr)
        · dsimp only
          rw [Int.toNat_natCast, Int.toNat_natCast]
          omega
      · left
        refine ⟨by
          unfold gLt
          rw [inN_len, decide_eq_false (by omega)], fd, hf, fun y => ⟨hc y, fun h => h (fun w => w ∈ fd) hm fun a b ha hr => ?_⟩, rfl⟩
        obtain ⟨i, hi⟩ := List.getElem?_of_mem ha
        have := (List.getElem?_eq_some_iff.mp hi).1
        exact hcl i a b (by omega) hi hr) 1048576 ([(x : Int)], 0) ⟨[x], 0, rfl, by simp, ⟨fun y hy => by rw [List.mem_singleton.mp hy]; exact hx, by simp⟩, by simp, fun y hy => by rw [List.mem_singleton.mp hy]; exact Con.rf x, fun i y z hi => absurd hi (Nat.not_lt_zero _)⟩ (by dsimp only; omega)
  obtain ⟨s, _, h4, e4⟩ := srt_inN h1.nd (by have := h1.len; omega)
  rw [e, pu_bi, e2, e4]
  exact ⟨s, rfl, fun y => (h4 y).trans (h2 y)⟩
theorem n_pieces (ho : PrsT n prs) (hn : n ≤ 1000) (hp : prs.length ≤ 1000) : En (t_pieces ((n : Int), prs)) (fun l => ∃ A, A.length = l.length ∧ Reps (Rp prs) n A) := by
  unfold t_pieces
  rw [okRg (by omega), pu_bi]
  refine En.bi (En.for_rg (fun i (s : List (List Int)) => ∃ A : List Nat, A.length = s.length ∧ A.length ≤ i ∧ (∀ a ∈ A, a < i) ∧ (A.Pairwise fun a b => ¬ Con (Rp prs) a b) ∧ (∀ y, y < i → ∃ a ∈ A, Con (Rp prs) a y) ∧ ∀ y : Nat, (∃ l ∈ s, (y : Int) ∈ l) ↔ ∃ a ∈ A, Con (Rp prs) a y)
    ⟨[], rfl, Nat.le_refl _, fun a h => (by cases h), List.Pairwise.nil, fun y h => absurd h (Nat.not_lt_zero _), fun y => ⟨fun ⟨_, h, _⟩ => (by cases h), fun ⟨_, h, _⟩ => (by cases h)⟩⟩ fun x s hx hs => ?_) fun s hs => En.pu ?_
  · obtain ⟨A, hl, hli, hlt, hne, hall, hm⟩ := hs
    have hany : List.any (List.map (fun (spots_4 : (List Int)) => (decide ((x : Int) ∈ spots_4))) s) id = true ↔ ∃ a ∈ A, Con (Rp prs) a x := by
      rw [← hm x, List.any_eq_true]
      constructor
      · rintro ⟨b, hb, e⟩
        obtain ⟨l, hl, rfl⟩ := List.mem_map.mp hb
        exact ⟨l, hl, of_decide_eq_true e⟩
      · rintro ⟨l, hl, e⟩
        exact ⟨_, List.mem_map.mpr ⟨l, hl, rfl⟩, decide_eq_true e⟩
    refine En.ite (fun c => ?_) fun c => ?_
    · rw [Bool.not_eq_true', ← Bool.not_eq_true, hany] at c
      obtain ⟨p, e, hpm⟩ := e_piece ho hn hp hx
      rw [e, pu_bi, okApp (by omega), pu_bi]
      refine En.pu ⟨A ++ [x], by rw [List.length_append, List.length_append, hl]; rfl, by rw [List.length_append, List.length_singleton]; omega, fun a ha => ?_, ?_, fun y hy => ?_, fun y => ?_⟩
      · rcases List.mem_append.mp ha with ha | ha
        · have := hlt a ha
          omega
        · rw [List.mem_singleton.mp ha]
          omega
      · rw [List.pairwise_append]
        refine ⟨hne, by simp, fun a ha b hb q => ?_⟩
        rw [List.mem_singleton.mp hb] at q
        exact c ⟨a, ha, q⟩
      · by_cases e : y = x
        · exact ⟨x, by simp, by rw [e]; exact Con.rf x⟩
        · obtain ⟨a, ha, q⟩ := hall y (by omega)
          exact ⟨a, List.mem_append_left _ ha, q⟩
      · constructor
        · rintro ⟨l, hl, hy⟩
          rcases List.mem_append.mp hl with hl | hl
          · obtain ⟨a, ha, q⟩ := (hm y).mp ⟨l, hl, hy⟩
            exact ⟨a, List.mem_append_left _ ha, q⟩
          · rw [List.mem_singleton.mp hl, memInN] at hy
            exact ⟨x, by simp, (hpm y).mp hy⟩
        · rintro ⟨a, ha, q⟩
          rcases List.mem_append.mp ha with ha | ha
          · obtain ⟨l, hl, hy⟩ := (hm y).mpr ⟨a, ha, q⟩
            exact ⟨l, List.mem_append_left _ hl, hy⟩
          · rw [List.mem_singleton.mp ha] at q
            exact ⟨inN p, by simp, memInN.mpr ((hpm y).mpr q)⟩
    · rw [Bool.not_eq_true', ← Bool.not_eq_true, hany, Classical.not_not] at c
      refine En.pu ⟨A, hl, by omega, fun a ha => Nat.lt_succ_of_lt (hlt a ha), hne, fun y hy => ?_, hm⟩
      by_cases e : y = x
      · rw [e]; exact c
      · exact hall y (by omega)
  · obtain ⟨A, hl, _, hlt, hne, hall, _⟩ := hs
    exact ⟨A, hl, hlt, hne, hall⟩
/-- bared spots have as many pieces -/
theorem reps_same (ho : PrsT n prs) (hF : Asc n F) (hc : Core (Rp prs) n (fun z => z ∈ F)) {A B : List Nat} (hA : Reps (Rp prs) n A) (hB : Reps (Rp (cutPr prs F)) F.length B) : A.length = B.length := by
  have ix : ∀ z, z ∈ F → ixN' F z < F.length := fun z hz => (List.getElem?_eq_some_iff.mp (ixo_of hz).2).1
  have up : ∀ i j, Con (Rp (cutPr prs F)) i j → Con (Rp prs) (F.getD i 0) (F.getD j 0) := fun i j h => h (fun w => Con (Rp prs) (F.getD i 0) (F.getD w 0)) (Con.rf _) fun a b hab q => by
    refine hab.step ?_
    rcases q with q | q
    · obtain ⟨x, y, gx, gy, m⟩ := (part_rel ho.toPrs hF.nd).mp q
      rw [getD_of gx, getD_of gy]
      exact .inl m
    · obtain ⟨x, y, gx, gy, m⟩ := (part_rel ho.toPrs hF.nd).mp q
      rw [getD_of gx, getD_of gy]
      exact .inr m
  have dn : ∀ x y, x < n → Con (Rp prs) x y → Con (Rp (cutPr prs F)) (ixN' F (rtF prs F x)) (ixN' F (rtF prs F y)) := fun x y hx h => by
    refine h (fun w => Con (Rp (cutPr prs F)) (ixN' F (rtF prs F x)) (ixN' F (rtF prs F w))) (Con.rf _) fun a b hab q => ?_
    have lt : a < n ∧ b < n := q.elim (lt_of_R ho.toPrs) fun q => (lt_of_R ho.toPrs q).symm
    have ga := (ixo_of (rt_mem ho hc lt.1).1).2
    have gb := (ixo_of (rt_mem ho hc lt.2).1).2
    rcases q with q | q
    · rcases rt_mono ho hc q with e | m
      · rw [← e]; exact hab
      · exact hab.step (.inl ((part_rel ho.toPrs hF.nd).mpr ⟨_, _, ga, gb, m⟩))
    · rcases rt_mono ho hc q with e | m
      · rw [e]; exact hab
      · exact hab.step (.inr ((part_rel ho.toPrs hF.nd).mpr ⟨_, _, gb, ga, m⟩))
  have tie : ∀ a, a < n → Con (Rp prs) a (rtF prs F a) := fun a ha => by
    rcases (rt_mem ho hc ha).2 with e | q
    · rw [e]; exact Con.rf a
    · exact (Con.rf a).step (.inr q)
  refine Nat.le_antisymm (reps_le hA hB (fun a => ixN' F (rtF prs F a)) (fun a ha => ix _ (rt_mem ho hc ha).1) fun a a' ha ha' q => ?_) (reps_le hB hA (fun b => F.getD b 0) (fun b hb => hF.lt _ (List.mem_of_getElem? (get_D' hb))) fun b b' hb hb' q => ?_)
  · have := up _ _ q
    rw [getD_of (ixo_of (rt_mem ho hc ha).1).2, getD_of (ixo_of (rt_mem ho hc ha').1).2] at this
    exact ((tie a ha).tr this).tr (tie a' ha').sy
  · have gb := get_D' hb
    have gb' := get_D' hb'
    have := dn _ _ (hF.lt _ (List.mem_of_getElem? gb)) q
    rw [rt_self ho hc (List.mem_of_getElem? gb), rt_self ho hc (List.mem_of_getElem? gb'), get_ixN hF.nd gb, get_ixN hF.nd gb'] at this
    exact this
end
end LH
set_option maxRecDepth 100000
set_option maxHeartbeats 400000
namespace LH
open PySem PySem.Spec PyProof.Rows L2 Pd Ty La
section
variable {n : Nat} {prs : List (Int × Int)} {F : List Nat}
theorem n_law_right (m : Unit) (ho : PrsT n prs) (hn : n ≤ 10) (hp : prs.length ≤ 1000) : En (t__law_right m ((n : Int), prs)) (fun b => b = true) := by
  obtain ⟨F, hF, hc, eB⟩ := e_bared ho (by omega) hp
  have e0 : rgN n = inN (List.range n) := rfl
  have hFl := hF.spo.len
  have hP := cut_prsT ho hF
  have hPl := cut_len (prs := prs) hF.spo
  have hPc := part_core ho hF hc
  unfold t__law_right
  dsimp only
  rw [okRg (by omega), pu_bi]
  have e1 : nx (lcM (fun (x_2 : Int) => (t__law_is_loose ((n : Int), prs) (rgN n) x_2)) (fun (x_2 : Int) => (pu x_2)) (rgN n) []) = pu (inN ((List.range n).filter (looB prs (List.range n)))) := by
    rw [e0]
    exact lc_map (looB prs (List.range n)) (fun (x : Nat) => (x : Int)) (List.range n) (fun x _ => e_law_loose _ x) fun _ _ _ => rfl
  have s1 := small9 (m := n) (l := (List.range n).filter (looB prs (List.range n))) (by omega) (by have := List.length_filter_le (looB prs (List.range n)) (List.range n); rw [List.length_range] at this; omega) fun x hx => List.mem_range.mp (List.mem_filter.mp hx).1
  have s2 := small9 (m := n) (l := F) (by omega) (by omega) hF.lt
  rw [e1, pu_bi, e_loose_spots ho (by omega) hp, pu_bi, pu_bi, pu_bi, pu_bi]
  dsimp only
  rw [like9 (fun l hl => by
    simp only [List.mem_cons, List.not_mem_nil, or_false, or_self] at hl
    rw [hl]
    exact s1) (by simp), pu_bi, pu_bi, if_neg (by decide)]
  refine En.bi (by rw [e0]; exact n_law_bared ho (by omega) hF hc asc_range.spo ((ret_all (R := Rp prs)).ext fun z => List.mem_range.symm)) fun due hdue => ?_
  subst hdue
  rw [eB, pu_bi, pu_bi, pu_bi]
  rw [like9 (fun l hl => by
    simp only [List.mem_cons, List.not_mem_nil, or_false, or_self] at hl
    rw [hl]
    exact s2) (by simp), pu_bi, pu_bi, if_neg (by decide)]
  have e3 : rgM 0 3 = pu (rgN 3) := okRg (n := 3) (by decide)
  rw [e3, pu_bi]
  refine En.thrU (En.checks _ fun turn _ => ?_) ?_
  · refine En.bi (P := fun c => c = false) (En.bi (P := fun l => l = inN F) (En.bi (n_law_shuffled (by omega)) fun l hl => ?_) fun l hl => by
      subst hl
      exact En.pu (decide_eq_false fun q => q rfl)) fun c hc' => En.of (by rw [hc']; rfl) rfl
    obtain ⟨h1, h2, h3⟩ := hl
    have nd : l.Nodup := nodup_of_cover (nodup_rgN n) (fun x hx => by
      obtain ⟨i, hi, rfl⟩ := rgN_mem.mp hx
      exact h3 i hi) (by rw [rgN_len, h1]; exact Nat.le_refl _)
    have e : l = inN (l.map Int.toNat) := by
      unfold inN
      rw [List.map_map]
      refine ((List.map_congr_left fun x hx => ?_).trans (List.map_id l)).symm
      obtain ⟨i, _, rfl⟩ := h2 x hx
      rfl
    have mem : ∀ z : Nat, z ∈ l.map Int.toNat ↔ z < n := fun z => by
      rw [← memInN, ← e]
      exact ⟨fun q => by
        obtain ⟨i, hi, e⟩ := h2 _ q
        omega, h3 z⟩
    rw [e]
    refine n_law_bared ho (by omega) hF hc ⟨fun z hz => (mem z).mp hz, nodup_inN (by rw [← e]; exact nd)⟩ ((ret_all (R := Rp prs)).ext fun z => (mem z).symm)
  · rw [e_part_order ho.toPrs hF.spo, pu_bi, e_no_loose hP (by omega) (by omega) hPc, pu_bi, bared_is hP (by omega) (by omega) asc_range hPc]
    rw [inN_len, okRg (by omega)]
    simp only [pu_bi]
    have e4 : inN (List.range F.length) = rgN F.length := rfl
    have s3 := small9 (m := n) (l := List.range F.length) (by omega) (by rw [List.length_range]; omega) fun x hx => by have := List.mem_range.mp hx; omega
    rw [e4] at s3 ⊢
    rw [like9 (fun l hl => by
      simp only [List.mem_cons, List.not_mem_nil, or_false] at hl
      rcases hl with rfl | rfl
      · exact ⟨by simp, fun x hx => by cases hx⟩
      · exact s3) (by simp), pu_bi]
    simp only [Bool.not_true, pu_bi]
    rw [if_neg (by decide), e_law_leads ho hn hp hF hc, pu_bi, if_pos rfl]
    refine En.bi (P := fun k => ∃ B, ((List.length B : Nat) : Int) = k ∧ Reps (Rp (cutPr prs F)) F.length B) (En.bi (n_pieces hP (by omega) (by omega)) fun l hl => ?_) fun a ha => ?_
    · obtain ⟨B, e, hB⟩ := hl
      exact En.pu ⟨B, by rw [e], hB⟩
    · obtain ⟨B, rfl, hB⟩ := ha
      refine En.bi (P := fun k => ∃ A, ((List.length A : Nat) : Int) = k ∧ Reps (Rp prs) n A) (En.bi (n_pieces ho (by omega) hp) fun l hl => ?_) fun a ha => ?_
      · obtain ⟨A, e, hA⟩ := hl
        exact En.pu ⟨A, by rw [e], hA⟩
      · obtain ⟨A, rfl, hA⟩ := ha
        refine En.pu ?_
        rw [reps_same ho hF hc hA hB]
        exact decide_eq_true rfl
/-- one more spot, above a spot and all below it -/
theorem core_more {prs' : List (Int × Int)} {x : Nat} (ho : Prs n prs) (hx : x < n) (hr : ∀ a b, Rp prs' a b ↔ Rp prs a b ∨ (b = n ∧ a < n ∧ (a = x ∨ Rp prs a x))) (hc : Core (Rp prs) n (fun z => z ∈ F)) : Core (Rp prs') (n + 1) (fun z => z ∈ F) := by
  have old : ∀ a b, b < n → (Rp prs' a b ↔ Rp prs a b) := fun a b hb => (hr a b).trans ⟨fun q => q.elim id fun q => absurd q.1 (by omega), .inl⟩
  refine ⟨⟨fun z hz => Nat.lt_succ_of_lt (hc.lt z hz), fun w hw => ?_⟩, fun w hw q => ?_⟩
  · by_cases e : w = n
    · subst e
      obtain ⟨y, ⟨hy, hyx⟩, hm⟩ := hc.top x hx
      refine ⟨y, ⟨hy, .inr ((hr _ _).mpr (.inr ⟨rfl, hc.lt y hy, hyx⟩))⟩, fun z hz => ?_⟩
      have hzx : z = x ∨ Rp prs z x := by
        rcases hz.2 with e | q
        · have := hc.lt z hz.1
          omega
        · rcases (hr _ _).mp q with q | q
          · have := (lt_of_R ho q).2
            omega
          · exact q.2.2
      exact (hm z ⟨hz.1, hzx⟩).imp id fun q => (hr _ _).mpr (.inl q)
    · have hw : w < n := by omega
      obtain ⟨y, ⟨hy, hyx⟩, hm⟩ := hc.top w hw
      refine ⟨y, ⟨hy, hyx.imp id (old _ _ hw).mpr⟩, fun z hz => (hm z ⟨hz.1, hz.2.imp id (old _ _ hw).mp⟩).imp id fun q => (hr _ _).mpr (.inl q)⟩
  · have hwn := hc.lt w hw
    obtain ⟨y, ⟨hy, hyw⟩, hm⟩ := q
    exact hc.no w hw ⟨y, ⟨hy, (old _ _ hwn).mp hyw⟩, fun z hz => (hm z ⟨hz.1, (old _ _ hwn).mpr hz.2⟩).imp id (old _ _ (hc.lt y hy)).mp⟩
theorem n_with_loose (m : Unit) (ho : PrsT n prs) (hn : n ≤ 9) (hp : prs.length ≤ 1000) (h0 : 0 < n) : En (t__law_with_loose m ((n : Int), prs)) (fun o => ∃ prs', o = (((n + 1 : Nat) : Int), prs') ∧ PrsT (n + 1) prs' ∧ ∀ F : List Nat, Core (Rp prs) n (fun z => z ∈ F) → Core (Rp prs') (n + 1) (fun z => z ∈ F)) := by
  unfold t__law_with_loose
  dsimp only
  refine En.drN h0 (by omega) fun x hx => ?_
  rw [okRg (by omega), pu_bi]
  have e1 : nx (lcM (fun (y_2 : Int) => (t__law_is_led ((n : Int), prs) y_2 (x : Int))) (fun (y_2 : Int) => (pu (y_2, (n : Int)))) (rgN n) []) = pu (((List.range n).filter fun y => leP prs y x).map fun (y : Nat) => ((y : Int), (n : Int))) := lc_rg (fun y => leP prs y x) (fun (y : Nat) => ((y : Int), (n : Int))) (fun y _ => e_law_led y x) fun _ _ _ => rfl
  rw [e1, pu_bi]
  have ml : ((List.range n).filter fun y => leP prs y x).length ≤ n := by
    have := List.length_filter_le (fun y => leP prs y x) (List.range n)
    rw [List.length_range] at this
    exact this
  rw [okCat (by rw [List.length_map]; omega), pu_bi]
  obtain ⟨l, hl⟩ : ∃ l, l = prs ++ ((List.range n).filter fun y => leP prs y x).map fun (y : Nat) => ((y : Int), (n : Int)) := ⟨_, rfl⟩
  have ec : ((n : Int) + 1) = ((n + 1 : Nat) : Int) := rfl
  rw [← hl, ec]
  have hmore : ∀ q, q ∈ (((List.range n).filter fun y => leP prs y x).map fun (y : Nat) => ((y : Int), (n : Int))) ↔ ∃ y : Nat, y < n ∧ leP prs y x = true ∧ q = ((y : Int), (n : Int)) := fun q => by
    rw [List.mem_map]
    constructor
    · rintro ⟨y, hy, rfl⟩
      obtain ⟨h1, h2⟩ := List.mem_filter.mp hy
      exact ⟨y, List.mem_range.mp h1, h2, rfl⟩
    · rintro ⟨y, h1, h2, rfl⟩
      exact ⟨y, List.mem_filter.mpr ⟨List.mem_range.mpr h1, h2⟩, rfl⟩
  have hr : ∀ a b : Nat, Rp l a b ↔ Rp prs a b ∨ (b = n ∧ a < n ∧ (a = x ∨ Rp prs a x)) := fun a b => by
    unfold Rp
    rw [hl, List.mem_append, hmore]
    refine or_congr Iff.rfl ⟨?_, ?_⟩
    · rintro ⟨y, h1, h2, e⟩
      obtain ⟨ea, eb⟩ := Prod.mk.inj e
      have : a = y := by omega
      subst this
      exact ⟨by omega, h1, leP_iff.mp h2⟩
    · rintro ⟨rfl, h1, h2⟩
      exact ⟨a, h1, leP_iff.mpr h2, rfl⟩
  have at' : ∀ q ∈ l, ∃ a b : Nat, a < n ∧ b < n + 1 ∧ q = ((a : Int), (b : Int)) := fun q hq => by
    rw [hl] at hq
    rcases List.mem_append.mp hq with hq | hq
    · obtain ⟨a, b, ha, hb, e⟩ := ho.at_ q hq
      exact ⟨a, b, ha, by omega, e⟩
    · obtain ⟨y, hy, _, e⟩ := (hmore q).mp hq
      exact ⟨y, n, hy, by omega, e⟩
  have hP : PrsN (n + 1) l := by
    refine ⟨⟨fun q hq => by
      obtain ⟨a, b, ha, hb, e⟩ := at' q hq
      exact ⟨a, b, by omega, hb, e⟩⟩, ?_⟩
    rw [hl, List.nodup_append]
    refine ⟨ho.nd, nodup_on (List.nodup_range.sublist List.filter_sublist) fun a _ b _ e => by
      have := (Prod.mk.inj e).1
      omega, fun a ha b hb e => ?_⟩
    obtain ⟨y, _, _, e2⟩ := (hmore b).mp hb
    obtain ⟨u, v, _, hv, e3⟩ := ho.at_ a ha
    rw [e, e2] at e3
    have := (Prod.mk.inj e3).2
    omega
  obtain ⟨f, hf⟩ := ho.ac
  have hf' : ∀ a b : Int, (a, b) ∈ l → (if a = (n : Int) then f (x : Int) + 1 else f a) < (if b = (n : Int) then f (x : Int) + 1 else f b) := fun a b h => by
    obtain ⟨a', b', ha, hb, e⟩ := at' _ h
    obtain ⟨rfl, rfl⟩ := Prod.mk.inj e
    rw [if_neg (by omega)]
    rcases (hr a' b').mp h with q | ⟨rfl, _, q⟩
    · have := (lt_of_R ho.toPrs q).2
      rw [if_neg (by omega)]
      exact hf _ _ q
    · rw [if_pos rfl]
      rcases q with rfl | q
      · exact Nat.lt_succ_self _
      · exact Nat.lt_succ_of_lt (hf _ _ q)
  have tr : ∀ a b c : Int, (a, b) ∈ l → (b, c) ∈ l → (a, c) ∈ l := fun a b c h1 h2 => by
    obtain ⟨a', b', ha, hb, e⟩ := at' _ h1
    obtain ⟨rfl, rfl⟩ := Prod.mk.inj e
    obtain ⟨b2, c', hb2, hc2, e⟩ := at' _ h2
    obtain ⟨eb, rfl⟩ := Prod.mk.inj e
    have : b' = b2 := by omega
    subst this
    have q1 : Rp prs a' b' := ((hr a' b').mp h1).elim id fun q => absurd q.1 (by omega)
    refine (hr a' c').mpr ?_
    rcases (hr b' c').mp h2 with q2 | ⟨rfl, _, q2⟩
    · exact .inl (ho.tr _ _ _ q1 q2)
    · refine .inr ⟨rfl, ha, .inr ?_⟩
      rcases q2 with rfl | q2
      · exact q1
      · exact ho.tr _ _ _ q1 q2
  refine (n_law_closed hP (by omega) (fun z => if z = (n : Int) then f (x : Int) + 1 else f z) (fun a b => (a, b) ∈ l) tr hf' (fun _ _ h => h)).wk fun o h => ?_
  obtain ⟨h1, h2, h3, h4⟩ := h
  refine ⟨o.2, Prod.ext h1 rfl, h2, fun F hc => core_more ho.toPrs hx (fun a b => ?_) hc⟩
  rw [← hr a b]
  exact ⟨fun q => h4 _ _ q, fun q => h3 _ q⟩
def prsB (n : Nat) (l : List (Int × Int)) : Bool := l.all (fun q => decide (0 ≤ q.1 ∧ q.1 < q.2 ∧ q.2 < n)) && l.all (fun q => l.all fun r => decide (q.2 ≠ r.1) || memB (q.1, r.2) l) && ascP l
theorem prs_ok {l : List (Int × Int)} (h : prsB n l = true) : PrsT n l := by
  unfold prsB at h
  rw [Bool.and_eq_true, Bool.and_eq_true, List.all_eq_true, List.all_eq_true] at h
  obtain ⟨⟨h1, h2⟩, h3⟩ := h
  have at' : ∀ q ∈ l, 0 ≤ q.1 ∧ q.1 < q.2 ∧ q.2 < n := fun q hq => of_decide_eq_true (h1 q hq)
  refine ⟨⟨⟨fun q hq => ?_⟩, pw_nodup (pw_of_asc h3)⟩, fun x y z m1 m2 => ?_, ⟨fun z => z.toNat, fun x y m => ?_⟩, h3⟩
  · have := at' q hq
    exact ⟨q.1.toNat, q.2.toNat, by omega, by omega, Prod.ext (by dsimp only; omega) (by dsimp only; omega)⟩
  · have := List.all_eq_true.mp (h2 _ m1) _ m2
    rw [Bool.or_eq_true, decide_eq_true_eq, memB_iff] at this
    exact this.resolve_left fun q => q rfl
  · have := at' _ m
    dsimp only at this ⊢
    omega
def coreB (n : Nat) (prs : List (Int × Int)) (F : List Nat) : Bool := F.all (fun x => decide (x < n)) && (List.range n).all (fun x => (atB prs F x).any (topB prs (atB prs F x))) && F.all (fun x => !looB prs F x)
theorem core_ok (h : coreB n prs F = true) : Core (Rp prs) n (fun z => z ∈ F) := by
  unfold coreB at h
  rw [Bool.and_eq_true, Bool.and_eq_true, List.all_eq_true, List.all_eq_true, List.all_eq_true] at h
  obtain ⟨⟨h1, h2⟩, h3⟩ := h
  refine ⟨⟨fun x hx => of_decide_eq_true (h1 x hx), fun x hx => ?_⟩, fun x hx q => ?_⟩
  · obtain ⟨y, hy, ht⟩ := List.any_eq_true.mp (h2 x (List.mem_range.mpr hx))
    have hS : (fun z => z ∈ F ∧ (z = x ∨ Rp prs z x)) = (fun z => z ∈ atB prs F x) := funext fun z => propext mem_atB.symm
    rw [hS]
    exact ⟨y, (topB_iff hy).mp ht⟩
  · have := h3 x hx
    rw [looB_iff.mpr q] at this
    cases this
def chP (n i : Nat) : List (Int × Int) := (List.range i).flatMap fun (x : Nat) => (rg ((x : Int) + 1) (n : Int)).map fun y => ((x : Int), y)
theorem e_chain (hn : n ≤ 10) : t__law_chain (n : Int) = pu ((n : Int), chP n n) := by
  unfold t__law_chain
  rw [okRg (by omega), pu_bi]
  have ln : ∀ i, i ≤ n → (chP n i).length ≤ i * n := fun i => by
    induction i with
    | zero => intro _; exact Nat.zero_le _
    | succ i ih =>
      intro hi
      have := ih (by omega)
      unfold chP at this ⊢
      rw [List.range_succ, List.flatMap_append, List.length_append, Nat.succ_mul]
      have : ((List.flatMap (fun (x : Nat) => (rg ((x : Int) + 1) (n : Int)).map fun y => ((x : Int), y)) [i])).length ≤ n := by
        simp only [List.flatMap_cons, List.flatMap_nil, List.append_nil, List.length_map]
        unfold rg
        rw [List.length_map, List.length_range]
        omega
      omega
  exact (bi_for_rg (S := fun i => chP n i) (s := []) rfl fun i hi => by
    have h1 := ln i (by omega)
    have h2 : i * n ≤ 10 * 10 := Nat.mul_le_mul (by omega) hn
    rw [okRg2 (by omega) (by omega) (by omega) (by omega) (by omega), pu_bi, nx_lc1 (fun y => ((i : Int), y)) _ fun y _ => rfl, pu_bi, okCat (by
      rw [List.length_map]
      unfold rg
      rw [List.length_map, List.length_range]
      omega), pu_bi]
    unfold chP
    rw [List.range_succ, List.flatMap_append]
    simp).trans rfl
end
theorem n_law {l : List Int} (h : Scr l) : En (t_law l) (fun b => b = true) := by
  unfold t_law
  have hl := h.len
  obtain ⟨t, ht, et⟩ : ∃ t : Nat, t ≤ 4 ∧ (if (if ((List.length l : Nat) : Int) < 4 then ((List.length l : Nat) : Int) else 4) > 2 then (if ((List.length l : Nat) : Int) < 4 then ((List.length l : Nat) : Int) else 4) else 2) = (t : Int) := by
    refine ⟨(if (if ((List.length l : Nat) : Int) < 4 then ((List.length l : Nat) : Int) else 4) > 2 then (if ((List.length l : Nat) : Int) < 4 then ((List.length l : Nat) : Int) else 4) else 2).toNat, ?_, ?_⟩ <;> split <;> (try split) <;> omega
  rw [et, okRg (by omega), pu_bi]
  refine En.thrU (En.checks _ fun x hx => ?_) ?_
  · obtain ⟨i, hi, rfl⟩ := rgN_mem.mp hx
    refine En.bi (n_law_begun h (by omega) (by omega)) fun m _ => ?_
    refine En.bi (n_law_drawn_order (k := 9) (by decide)) fun o ho => ?_
    obtain ⟨o1, prs⟩ := o
    obtain ⟨n, hn, rfl, ho⟩ := ho
    dsimp only at ho
    have hnn : n * n ≤ 81 := Nat.mul_le_mul hn hn
    have hl := ho.toPrs.len ho.nd
    refine En.bi (P := fun b => b = false) (En.bi (n_law_right m ho (by omega) (by omega)) fun b hb => En.of rfl (by rw [hb]; rfl)) fun b hb => ?_
    rw [hb, if_neg (by decide)]
    refine En.ite (fun c => ?_) fun _ => En.pu rfl
    have h0 : 0 < n := by
      have c : decide ((n : Int) > 0) = true := c
      have := of_decide_eq_true c
      omega
    refine En.bi (n_with_loose m ho hn (by omega) h0) fun o2 ho2 => ?_
    obtain ⟨prs', rfl, ho2, hcore⟩ := ho2
    have hnn2 : (n + 1) * (n + 1) ≤ 100 := Nat.mul_le_mul (show n + 1 ≤ 10 by omega) (show n + 1 ≤ 10 by omega)
    have hl2 := ho2.toPrs.len ho2.nd
    refine En.bi (P := fun b => b = false) (En.bi (P := fun b => b = false) (En.bi (n_law_right m ho2 (by omega) (by omega)) fun b hb => En.of rfl (by rw [hb]; rfl)) fun b hb => ?_) fun b hb => ?_
    · rw [hb, if_neg (by decide)]
      obtain ⟨F, hF, hc, e⟩ := e_bared ho (by omega) (by omega)
      have hF' : Asc (n + 1) F := ⟨⟨fun x hx => Nat.lt_succ_of_lt (hF.lt x hx), hF.nd⟩, hF.lt'⟩
      have := hF.spo.len
      rw [bared_is ho2 (by omega) (by omega) hF' (hcore F hc), e, pu_bi, pu_bi, pu_bi]
      rw [like9' (small9 (m := n) (l := F) (by omega) (by omega) hF.lt), pu_bi]
      exact En.pu rfl
    · rw [hb, if_neg (by decide)]
      exact En.pu rfl
  · have c7 : t__law_chain 7 = pu (7, chP 7 7) := e_chain (n := 7) (by decide)
    have c4 : t__law_chain 4 = pu (4, chP 4 4) := e_chain (n := 4) (by decide)
    have asc1 : ∀ {m : Nat}, 0 < m → Asc m [0] := fun h => ⟨⟨fun x hx => by rw [List.mem_singleton.mp hx]; exact h, by simp⟩, by simp⟩
    have p7 : PrsT 7 (chP 7 7) := prs_ok (by decide)
    have p4 : PrsT 4 (chP 4 4) := prs_ok (by decide)
    have p3 : PrsT 3 [] := prs_ok (by decide)
    have p0 : PrsT 0 [] := prs_ok (by decide)
    have pf : PrsT 4 [(0, 2), (0, 3), (1, 2), (1, 3)] := prs_ok (by decide)
    have pg : PrsT 4 [(0, 1), (0, 2), (0, 3), (1, 3), (2, 3)] := prs_ok (by decide)
    have k4 : Core (Rp (chP 4 4)) 4 (fun z => z ∈ [0]) := core_ok (by decide)
    have kf : Core (Rp [(0, 2), (0, 3), (1, 2), (1, 3)]) 4 (fun z => z ∈ List.range 4) := core_ok (by decide)
    have k0 : Core (Rp []) 0 (fun z => z ∈ List.range 0) := core_ok (by decide)
    have b1 : t_bared (7, chP 7 7) = pu [0] := bared_is p7 (by decide) (by decide) (asc1 (by decide)) (core_ok (by decide))
    have b2 : t_bared (3, ([] : List (Int × Int))) = pu [0, 1, 2] := bared_is p3 (by decide) (by decide) (F := List.range 3) asc_range (core_ok (by decide))
    have b3 : t_bared (4, [(0, 2), (0, 3), (1, 2), (1, 3)]) = pu [0, 1, 2, 3] := bared_is pf (by decide) (by decide) asc_range kf
    have b4 : t_loose_spots (4, [(0, 2), (0, 3), (1, 2), (1, 3)]) = pu [] := e_no_loose pf (by decide) (by decide) kf
    have b5 : t_bared (4, [(0, 1), (0, 2), (0, 3), (1, 3), (2, 3)]) = pu [0] := bared_is pg (by decide) (by decide) (asc1 (by decide)) (core_ok (by decide))
    have b6 : t_bared_leading (4, chP 4 4) = pu [0, 0, 0, 0] := (e_bared_leading p4 (by decide) (by decide) (asc1 (by decide)) k4).trans (by rw [show inN ((List.range 4).map (rtF (chP 4 4) [0])) = [0, 0, 0, 0] by decide])
    have b7 : t_bared_leading (4, [(0, 2), (0, 3), (1, 2), (1, 3)]) = pu [0, 1, 2, 3] := (e_bared_leading pf (by decide) (by decide) asc_range kf).trans (by rw [show inN ((List.range 4).map (rtF [(0, 2), (0, 3), (1, 2), (1, 3)] (List.range 4))) = [0, 1, 2, 3] by decide])
    have b8 : t_loose_spots (0, ([] : List (Int × Int))) = pu [] := e_no_loose p0 (by decide) (by decide) k0
    have b9 : t_bared (0, ([] : List (Int × Int))) = pu [] := bared_is p0 (by decide) (by decide) asc_range k0
    have b10 : t_bared_leading (0, ([] : List (Int × Int))) = pu [] := e_bared_leading p0 (by decide) (by decide) asc_range k0
    rw [pu_bi, c7, pu_bi, b1, pu_bi, b2, pu_bi, b3, pu_bi, b4, pu_bi, b5]
    try simp only [pu_bi]
    rw [c4, pu_bi, b6, pu_bi, b7, pu_bi, b8, pu_bi, b9, pu_bi, b10]
    try simp only [pu_bi]
    rw [okCat (by decide), pu_bi]
    refine En.of (like9 (fun l hl => ?_) (by decide)) rfl
    simp only [List.cons_append, List.nil_append, List.mem_cons, List.not_mem_nil, or_false] at hl
    rcases hl with rfl | rfl | rfl | rfl | rfl | rfl | rfl | rfl | rfl | rfl <;> exact ⟨by decide, by decide⟩
end LH
set_option maxRecDepth 100000
set_option maxHeartbeats 400000
namespace LH
open PySem PySem.Spec PyProof.Rows L2 Pd Ty
theorem W_law_true (ns : List Int) (hl : ns.length ≤ 63) (hb : ∀ z ∈ ns, z.natAbs.log2 ≤ 1048576) : W_law [.fz (ns.map .int)] (fun v => v = .bl true) (fun _ => False) :=
  tf_law ns _ _ (fun b => b = true) (fun _ => False) (fun a e => by rw [e]; rfl) (fun _ z => z.elim) (n_law ⟨hl, hb⟩ _ _ fun a e => e)
end LH
set_option maxHeartbeats 4000000
namespace LH
open PySem PySem.Spec PyProof.Rows L2 Pd
abbrev R : PySem.W.OpenRow := PySem.W.OpenLaw.row PySem.Challenge.rw_patchrooms_k09_whole_loose_spots
abbrev hk : PySem.W.Hook := He.hookD 2 fa fn
def ob (s : PySem.W.SharedT) : He.AlD := He.obsDG 2 fa fn (HandSHeadRun.getT s)
theorem ob_eq (s : PySem.W.SharedT) : ob s = hk.obs s.abs := He.obsDG_eq (HandSHeadRun.getT_eq s)
def loose : List PySem.Str := (["is_integer", "is_spot", "above_lists", "below_lists", "part_order", "is_led", "need_leading", "greatest_of", "loose_among", "loose_spots", "bared", "bared_leading", "near_lists", "piece_of", "pieces", "_law_begun", "_law_draw", "_law_of", "_law_shuffled", "_law_like", "_law_closed", "_law_drawn_order", "_law_chain", "_law_is_led", "_law_is_loose", "_law_bared", "_law_leads", "_law_right", "_law_with_loose", "PatchError"] : List PySem.Str) ++ (["NotLeading"] : List PySem.Str)
noncomputable abbrev fin (w : World) (os : PySem.OsState) := HandSHeadRun.endF (HandSHeadRun.stepQ (HandSHeadRun.denQ HandSHeadRun.tabQ) R.prog w) 4000 R.prog w os
open PySem.W PyProof.Rows.Boot in
theorem run1 (w : World) (os : PySem.OsState) : (fin w os).map (fun s => HandSHeadRun.looksF R.prog (boot_heap w.params) s.abs) = some true := by
  kernel_rfl
open PySem.W HandSHeadRun in
theorem run2 (w : World) (os : PySem.OsState) : (fin w os).map (fun s => seenQ (view R.prog [35]) loose (importedModules R.prog.main.body) (fun s => xlAt (view R.prog [35]) [] s && recOk R.toRowW.records s) s.abs) = some (openGood (view R.prog [35]) loose) := by
  kernel_rfl
theorem run3 (w : World) (os : PySem.OsState) : (fin w os).map ob = some (hk.val w) := by
  kernel_rfl
theorem map3 {α β γ δ : Type} {o : Option α} {f : α → β} {g : α → γ} {h : α → δ} {b : β} {c : γ} {d : δ} (h1 : o.map f = some b) (h2 : o.map g = some c) (h3 : o.map h = some d) : o.map (fun s => (f s, g s, h s)) = some (b, c, d) := by
  cases o with
  | none => cases h1
  | some a =>
    have e1 : f a = b := Option.some.inj h1
    have e2 : g a = c := Option.some.inj h2
    have e3 : h a = d := Option.some.inj h3
    show some (f a, g a, h a) = _
    rw [e1, e2, e3]
theorem run (w : World) : HandSHeadRun.RunEq R (PySem.W.view R.prog [35]) hk ob 4000 loose w := fun os => map3 (run1 w os) (run2 w os) (run3 w os)
end LH
open PySem PySem.W PySem.Calls PyProof.Rows
set_option maxRecDepth 100000 in
set_option maxHeartbeats 0 in
theorem PySem.Challenge.cw_patchrooms_k09_whole_loose_spots_holds : PySem.Challenge.rw_patchrooms_k09_whole_loose_spots.Holds := by
  w_on; o_law
  refine HandSHeadRun.head_any (r := OpenLaw.row PySem.Challenge.rw_patchrooms_k09_whole_loose_spots) (q := view (OpenLaw.row PySem.Challenge.rw_patchrooms_k09_whole_loose_spots).prog [35]) (H := LH.hk) (ob := LH.ob) (M := 4000) (loose := LH.loose) (d := HandSHeadRun.topDef (OpenLaw.row PySem.Challenge.rw_patchrooms_k09_whole_loose_spots).prog 35) (kwd := []) LH.ob_eq
    (by kernel_rfl) (fun s => by kernel_rfl) LH.run (by kernel_rfl) (by kernel_rfl) (by kernel_rfl) (by rfl) (by first | assumption | decide +kernel) (by decide +kernel) ⟨rfl, rfl, rfl, rfl, rfl, by decide +kernel⟩ ?hw ?hc
  case hw => w_witness2
  case hc =>
    refine Pd.walk_ofV (l := PySem.Challenge.rw_patchrooms_k09_whole_loose_spots) (n := 63) (k := 8) (c := 178405961588244985132285746181186892047843328) (x := "_law_script") (fx := "law") (st := LH.top 35) (F := LH.F_law) (W := LH.W_law) rfl (by decide) (by kernel_rfl) ⟨rfl, by decide, by decide⟩ (by kernel_rfl) (fun _ _ _ _ _ _ us hl => match us, hl with | [_], _ => rfl) (fun w mg h Y G => ?ok) LH.fok_law (by decide +kernel) LH.W_law_true
    obtain ⟨K, KX, c⟩ := Y
    exact ⟨K, KX, LH.ok_law (P := (PySem.Challenge.rw_patchrooms_k09_whole_loose_spots).prog) (w := w) KX G c⟩
