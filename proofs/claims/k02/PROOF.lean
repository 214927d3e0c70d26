import PyProof.Rows.All
import Wide.All
import OpenK.AllK
import Wide.FinOn
import KE.KStateDown
import HandS.ForMost
import HandS.TupAny
import HandS.TupMul
import HandS.TupLe
import HandS.Deep
import HandS.Conv
import HandS.Zip
import KE.GoesMore
import KE.GoesEnum
import KE.GoesZip
import HandS.SortInts
import HandS.Defaults
import KE.KDictDisplayH
import HandS.HeadEnd
import HandS.HeadHook1
import HandS.HeadHook2
import HandS.Words
import HandS.Ends
import HandS.EndBits
import HandS.Style
import HandS.Head0
import HandS.Head1
import HandS.Head2
import PyProof.WalksMore
import PyProof.TupleIter
import HandS.SortRule
import HandS.TupSets
import HandS.More
import HandS.TupLen
import HandS.SetFor
import HandS.Strs
import HandS.TryOnly
import KE.KTupSum
import KE.KDictLaws
import HandS.DictComp
import KE.KDictZip
import KE.KDictPairs
import HandS.IsInst
import Lean
import PySem.Challenge.RW_patchrooms_k02_whole_columns_led_back
set_option Elab.async false
set_option linter.all false
set_option maxRecDepth 100000
set_option maxHeartbeats 4000000
namespace Pd
open PySem PySem.Spec PyProof.Rows L2
/-- a datum: tuples by value, lists and dicts by their place in the store, fz: a list that is only read (the script), xt: a tuple known to have no dict of its own -/
inductive D where
  | non | bl (b : Bool) | int (i : Int) | str (x : Str) | tup (l : List D) | fz (l : List D) | xt (l : List D) | ref (n : Nat)
structure XD where
  cls : Str
  fs : List (Str × D)
inductive SO where
  | lst (l : List D) | dK (kvs : List (Key × D)) | dT (kvs : List (List Key × D))
abbrev Store := List SO
inductive Res (A : Type) where
  | ok (a : A) (st : Store) | exc (e : XD) (st : Store) | err
@[inline] def Res.bind {A B : Type} (r : Res A) (k : A → Store → Res B) : Res B := match r with
  | .ok a st => k a st
  | .exc e st => .exc e st
  | .err => .err
abbrev Env' := List (Option D)
abbrev DE := Env' → Store → Res D
abbrev DT := Env' → Store → Res Bool
abbrev DA := Env' → Store → Res (List D)
inductive Out where
  | nx (r : Env') (st : Store) | bk (r : Env') (st : Store) | ct (r : Env') (st : Store) | rt (d : D) (st : Store) | exc (e : XD) (st : Store) | err
abbrev DS := Env' → Store → Out
section
variable {A B C : Type} {F : A → B → Prop}
theorem Paired.get' {xs : List A} {ys : List B} (p : Paired F xs ys) : ∀ {i : Nat} {x : A}, xs[i]? = some x → ∃ y, ys[i]? = some y ∧ F x y := by
  induction p with
  | nil => intro i x h; simp at h
  | cons f t ih =>
    intro i x h
    cases i with
    | zero => simp at h; subst h; exact ⟨_, rfl, f⟩
    | succ i => simpa using ih (by simpa using h)
theorem Paired.getR {xs : List A} {ys : List B} (p : Paired F xs ys) : ∀ {i : Nat} {y : B}, ys[i]? = some y → ∃ x, xs[i]? = some x ∧ F x y := by
  induction p with
  | nil => intro i x h; simp at h
  | cons f t ih =>
    intro i x h
    cases i with
    | zero => simp at h; subst h; exact ⟨_, rfl, f⟩
    | succ i => simpa using ih (by simpa using h)
theorem Paired.app {xs xs' : List A} {ys ys' : List B} (p : Paired F xs ys) (q : Paired F xs' ys') : Paired F (xs ++ xs') (ys ++ ys') := by
  induction p with
  | nil => exact q
  | cons f t ih => exact .cons f ih
theorem Paired.tk {xs : List A} {ys : List B} (p : Paired F xs ys) : ∀ n, Paired F (xs.take n) (ys.take n) := by
  induction p with
  | nil => intro n; simp; exact .nil
  | cons f t ih =>
    intro n
    cases n with
    | zero => exact .nil
    | succ n => exact .cons f (ih n)
theorem Paired.dr {xs : List A} {ys : List B} (p : Paired F xs ys) : ∀ n, Paired F (xs.drop n) (ys.drop n) := by
  induction p with
  | nil => intro n; simp; exact .nil
  | cons f t ih =>
    intro n
    cases n with
    | zero => exact .cons f t
    | succ n => exact ih n
theorem Paired.st {x : A} {y : B} (f : F x y) {xs : List A} {ys : List B} (p : Paired F xs ys) : ∀ i, Paired F (xs.set i x) (ys.set i y) := by
  induction p with
  | nil => intro i; exact .nil
  | cons g t ih =>
    intro i
    cases i with
    | zero => exact .cons f t
    | succ i => exact .cons g (ih i)
theorem Paired.rep {x : A} {y : B} (f : F x y) : ∀ n, Paired F (List.replicate n x) (List.replicate n y)
  | 0 => .nil
  | n + 1 => .cons f (Paired.rep f n)
theorem Paired.mp {G : C → B → Prop} {g : A → C} {xs : List A} {ys : List B} (p : Paired F xs ys) (h : ∀ a b, F a b → G (g a) b) : Paired G (xs.map g) ys := by
  induction p with
  | nil => exact .nil
  | cons f t ih => exact .cons (h _ _ f) ih
theorem Paired.of_eq {xs : List A} {ys : List B} (hl : xs.length = ys.length) (h : ∀ (i : Nat) (x : A) (y : B), xs[i]? = some x → ys[i]? = some y → F x y) : Paired F xs ys := by
  induction xs generalizing ys with
  | nil => cases ys with
    | nil => exact .nil
    | cons y ys => cases hl
  | cons x xs ih => cases ys with
    | nil => cases hl
    | cons y ys => exact .cons (h 0 x y rfl rfl) (ih (by simpa using hl) fun i a b p q => h (i + 1) a b (by simpa using p) (by simpa using q))
end
/-- a list that is not written: locked, or of the written part -/
def SqF (K : PySem.W.Frag) (H : Hp) (a : Addr) (xs : List V) : Prop := (∃ o, H a = some (.frz o (.lst xs))) ∨
  ∃ (o : Obj) (its : Array Value) (n : Nat), K.lookup a = some o ∧ o.cls = .type "list" ∧ o.dict = none ∧ o.data = .seq its n ∧ its.size ≤ sizeLine ∧ Vals xs its.toList
/-- a tuple whose object is known to have no dict -/
def SqX (H : Hp) (a : Addr) (xs : List V) : Prop := ∃ o : Obj, H a = some (.frz o (.tup xs)) ∧ o.dict = none
theorem SqX.sq {K : PySem.W.Frag} {H : Hp} {a : Addr} {xs : List V} (h : SqX H a xs) : SqT K H a xs := by
  obtain ⟨o, h, _⟩ := h
  exact .inl (.inr ⟨o, h⟩)
theorem SqF.sq {K : PySem.W.Frag} {H : Hp} {a : Addr} {xs : List V} (h : SqF K H a xs) : SqL K H a xs := by
  rcases h with ⟨o, h⟩ | h
  · exact .inl (.inr ⟨o, h⟩)
  · exact .inr h
section
variable (K : PySem.W.Frag) (f : List Addr) (H : Hp)
mutual
inductive RD : D → V → Prop
  | non : RD .non .non
  | bl (b : Bool) : RD (.bl b) (.bl b)
  | int (i : Int) : RD (.int i) (.int i)
  | str (x : Str) : RD (.str x) (.str x)
  | tup {a : Addr} {vs : List V} {l : List D} : H a = some (.tup vs) → l.length ≤ sizeLine → RDs l vs → RD (.tup l) (.ref a)
  | fz {a : Addr} {vs : List V} {l : List D} : SqF K H a vs → l.length ≤ sizeLine → RDs l vs → RD (.fz l) (.ref a)
  | xt {a : Addr} {vs : List V} {l : List D} : SqX H a vs → l.length ≤ sizeLine → RDs l vs → RD (.xt l) (.ref a)
  | ref {n : Nat} {a : Addr} : f[n]? = some a → RD (.ref n) (.ref a)
inductive RDs : List D → List V → Prop
  | nil : RDs [] []
  | cons {d : D} {v : V} {l : List D} {vs : List V} : RD d v → RDs l vs → RDs (d :: l) (v :: vs)
end
theorem RDs.pr {l : List D} {vs : List V} (h : RDs K f H l vs) : Paired (RD K f H) l vs := by
  induction l generalizing vs with
  | nil => cases h; exact .nil
  | cons d l ih => cases h with
    | cons a b => exact .cons a (ih b)
theorem RDs.of {l : List D} {vs : List V} (h : Paired (RD K f H) l vs) : RDs K f H l vs := by
  induction h with
  | nil => exact .nil
  | cons a b ih => exact .cons a ih
/-- a dict's entries -/
abbrev RKs : List (Key × D) → List (Key × V) → Prop := Paired fun p q => p.1 = q.1 ∧ RD K f H p.2 q.2
abbrev RTs : List (List Key × D) → List (List Key × V) → Prop := Paired fun p q => p.1 = q.1 ∧ RD K f H p.2 q.2
/-- what stands at a place of the store -/
def RO (a : Addr) : SO → Prop
  | .lst l => ∃ vs, H a = some (.lst vs) ∧ RDs K f H l vs ∧ l.length ≤ sizeLine
  | .dK kvs => ∃ vs, H a = some (.dK vs) ∧ RKs K f H kvs vs ∧ kvs.length ≤ sizeLine
  | .dT kvs => ∃ vs, H a = some (.dT vs) ∧ RTs K f H kvs vs ∧ kvs.length ≤ sizeLine
structure RSt (st : Store) : Prop where
  len : f.length = st.length
  nd : f.Nodup
  at_ : ∀ (n : Nat) (o : SO) (a : Addr), st[n]? = some o → f[n]? = some a → RO K f H a o
/-- the slots -/
structure RS (r : Env') (s : L2.St) : Prop where
  len : r.length = s.length
  at_ : ∀ (i : Nat) (d : D), r[i]? = some (some d) → ∃ v, s[i]? = some (some v) ∧ RD K f H d v
end
theorem RO.mut {K : PySem.W.Frag} {f : List Addr} {H : Hp} {a : Addr} {o : SO} (h : RO K f H a o) : ∃ u, H a = some u ∧ Mut (some u) := by
  cases o with
  | lst l => obtain ⟨vs, e, _⟩ := h; exact ⟨_, e, trivial⟩
  | dK l => obtain ⟨vs, e, _⟩ := h; exact ⟨_, e, trivial⟩
  | dT l => obtain ⟨vs, e, _⟩ := h; exact ⟨_, e, trivial⟩
/-- how places and heap may go on -/
structure Ex0 (f : List Addr) (H : Hp) (f' : List Addr) (H' : Hp) : Prop where
  pre : f <+: f'
  im : ∀ b o, H b = some o → ¬ Mut (some o) → H' b = some o
structure Ext (f : List Addr) (H : Hp) (f' : List Addr) (H' : Hp) : Prop extends Ex0 f H f' H' where
  nw : ∀ a, a ∈ f' → a ∉ f → H a = none
  fr : ∀ b o, H b = some o → b ∉ f → H' b = some o
theorem Ext.refl {f : List Addr} {H : Hp} : Ext f H f H := ⟨⟨List.prefix_refl f, fun _ _ h _ => h⟩, fun _ h n => absurd h n, fun _ _ h _ => h⟩
theorem Ext.trans {f f1 f2 : List Addr} {H H1 H2 : Hp} (a : Ext f H f1 H1) (b : Ext f1 H1 f2 H2) : Ext f H f2 H2 := by
  have out : ∀ c o, H c = some o → c ∉ f → c ∉ f1 := fun c o h n m => by
    rw [a.nw c m n] at h
    cases h
  refine ⟨⟨a.pre.trans b.pre, fun c o h n => b.im c o (a.im c o h n) n⟩, fun c m n => ?_, fun c o h n => b.fr c o (a.fr c o h n) (out c o h n)⟩
  cases q : H c with
  | none => rfl
  | some o =>
    have z := b.nw c m (out c o q n)
    rw [a.fr c o q n] at z
    cases z
section
variable {K : PySem.W.Frag} {f f' : List Addr} {H H' : Hp}
theorem Ex0.tup (x : Ex0 f H f' H') {a : Addr} {xs : List V} (h : SqT K H a xs) : SqT K H' a xs := by
  rcases h with (h | ⟨o, h⟩) | h
  · exact .inl (.inl (x.im _ _ h fun z => z))
  · exact .inl (.inr ⟨o, x.im _ _ h fun z => z⟩)
  · exact .inr h
theorem Ex0.fzl (x : Ex0 f H f' H') {a : Addr} {xs : List V} (h : SqF K H a xs) : SqF K H' a xs := by
  rcases h with ⟨o, h⟩ | h
  · exact .inl ⟨o, x.im _ _ h fun z => z⟩
  · exact .inr h
theorem Ex0.xtl (x : Ex0 f H f' H') {a : Addr} {xs : List V} (h : SqX H a xs) : SqX H' a xs := by
  obtain ⟨o, h, d⟩ := h
  exact ⟨o, x.im _ _ h fun z => z, d⟩
theorem Ex0.get (x : Ex0 f H f' H') {n : Nat} {a : Addr} (h : f[n]? = some a) : f'[n]? = some a := by
  obtain ⟨t, rfl⟩ := x.pre
  rw [List.getElem?_append_left (List.getElem?_eq_some_iff.mp h).1]
  exact h
mutual
theorem RD.ext (x : Ex0 f H f' H') : ∀ (d : D) (v : V), RD K f H d v → RD K f' H' d v
  | .non, _, h => by cases h; exact .non
  | .bl b, _, h => by cases h; exact .bl b
  | .int i, _, h => by cases h; exact .int i
  | .str s, _, h => by cases h; exact .str s
  | .tup l, _, h => by
    cases h with
    | tup a b c => exact .tup (x.im _ _ a fun z => z) b (RDs.ext x l _ c)
  | .fz l, _, h => by
    cases h with
    | fz a b c => exact .fz (x.fzl a) b (RDs.ext x l _ c)
  | .xt l, _, h => by
    cases h with
    | xt a b c => exact .xt (x.xtl a) b (RDs.ext x l _ c)
  | .ref n, _, h => by
    cases h with
    | ref a => exact .ref (x.get a)
theorem RDs.ext (x : Ex0 f H f' H') : ∀ (l : List D) (vs : List V), RDs K f H l vs → RDs K f' H' l vs
  | [], _, h => by cases h; exact .nil
  | d :: l, _, h => by
    cases h with
    | cons a b => exact .cons (RD.ext x d _ a) (RDs.ext x l _ b)
end
theorem RD.up (x : Ex0 f H f' H') {d : D} {v : V} (h : RD K f H d v) : RD K f' H' d v := RD.ext x d v h
theorem RDs.up (x : Ex0 f H f' H') {l : List D} {vs : List V} (h : RDs K f H l vs) : RDs K f' H' l vs := RDs.ext x l vs h
theorem RKs.up (x : Ex0 f H f' H') {l : List (Key × D)} {vs : List (Key × V)} (h : RKs K f H l vs) : RKs K f' H' l vs := Paired.mono (fun _ _ z => ⟨z.1, z.2.up x⟩) h
theorem RTs.up (x : Ex0 f H f' H') {l : List (List Key × D)} {vs : List (List Key × V)} (h : RTs K f H l vs) : RTs K f' H' l vs := Paired.mono (fun _ _ z => ⟨z.1, z.2.up x⟩) h
theorem RS.up (x : Ex0 f H f' H') {r : Env'} {s : L2.St} (h : RS K f H r s) : RS K f' H' r s := ⟨h.len, fun i d e => let ⟨v, a, b⟩ := h.at_ i d e; ⟨v, a, b.up x⟩⟩
theorem RDs.length {l : List D} {vs : List V} (h : RDs K f H l vs) : l.length = vs.length := Paired.length h.pr
theorem RO.up {a : Addr} {o : SO} (x : Ex0 f H f' H') (e : H' a = H a) (h : RO K f H a o) : RO K f' H' a o := by
  cases o with
  | lst l => obtain ⟨vs, p, q, z⟩ := h; exact ⟨vs, e.trans p, q.up x, z⟩
  | dK l => obtain ⟨vs, p, q, z⟩ := h; exact ⟨vs, e.trans p, RKs.up x q, z⟩
  | dT l => obtain ⟨vs, p, q, z⟩ := h; exact ⟨vs, e.trans p, RTs.up x q, z⟩
/-- an object that is in no place of the store is laid: a tuple, a new list on the way -/
theorem ext_new {p : Addr} {o : HO} (hp : H p = none) : Ext f H f (upd H p o) :=
  ⟨⟨List.prefix_refl f, fun b u h _ => by rw [upd_ne (ne_of_none h hp)]; exact h⟩, fun _ h n => absurd h n, fun b u h _ => by rw [upd_ne (ne_of_none h hp)]; exact h⟩
theorem RSt.mem {st : Store} (R : RSt K f H st) {a : Addr} (h : a ∈ f) : ∃ u, H a = some u ∧ Mut (some u) := by
  obtain ⟨n, e⟩ := List.getElem?_of_mem h
  have hn : n < st.length := by rw [← R.len]; exact (List.getElem?_eq_some_iff.mp e).1
  exact (R.at_ n _ a (List.getElem?_eq_getElem hn) e).mut
theorem RSt.new {st : Store} (R : RSt K f H st) {p : Addr} {o : HO} (hp : H p = none) : RSt K f (upd H p o) st :=
  ⟨R.len, R.nd, fun n u a e1 e2 => (R.at_ n u a e1 e2).up (ext_new hp).toEx0 (by
    obtain ⟨w, hw, _⟩ := R.mem (List.mem_of_getElem? e2)
    rw [upd_ne (ne_of_none hw hp)])⟩
/-- an object (in no place) takes a place -/
theorem RSt.put {st : Store} (R : RSt K f H st) {p : Addr} {o : SO} (hn : p ∉ f) (x : Ex0 f H (f ++ [p]) H') (he : ∀ a ∈ f, H' a = H a) (h : RO K (f ++ [p]) H' p o) : RSt K (f ++ [p]) H' (st ++ [o]) := by
  refine ⟨by rw [List.length_append, List.length_append, R.len]; rfl, ?_, fun n u a e1 e2 => ?_⟩
  · rw [List.nodup_append]
    exact ⟨R.nd, by simp, fun a ha b hb e => hn (by rw [List.mem_singleton] at hb; rw [← hb, ← e]; exact ha)⟩
  · by_cases hlt : n < st.length
    · rw [List.getElem?_append_left hlt] at e1
      rw [List.getElem?_append_left (by rw [R.len]; exact hlt)] at e2
      exact (R.at_ n u a e1 e2).up x (he a (List.mem_of_getElem? e2))
    · have hn2 : n = st.length := by
        have := (List.getElem?_eq_some_iff.mp e1).1
        rw [List.length_append] at this
        simp at this
        omega
      subst hn2
      rw [List.getElem?_append_right (Nat.le_refl _)] at e1
      rw [List.getElem?_append_right (by rw [R.len]; exact Nat.le_refl _)] at e2
      rw [R.len] at e2
      simp at e1 e2
      subst e1
      subst e2
      exact h
theorem ext_put {p : Addr} {o : HO} (hp : H p = none) : Ext f H (f ++ [p]) (upd H p o) :=
  ⟨⟨List.prefix_append f [p], fun b u h _ => by rw [upd_ne (ne_of_none h hp)]; exact h⟩, fun a h n => by
    rcases List.mem_append.mp h with h | h
    · exact absurd h n
    · rw [List.mem_singleton] at h; rw [h]; exact hp, fun b u h _ => by rw [upd_ne (ne_of_none h hp)]; exact h⟩
/-- a new object at a new place -/
theorem RSt.lay {st : Store} (R : RSt K f H st) {p : Addr} {o : HO} {u : SO} (hp : H p = none) (h : RO K (f ++ [p]) (upd H p o) p u) : RSt K (f ++ [p]) (upd H p o) (st ++ [u]) := by
  have hn : p ∉ f := fun m => by
    obtain ⟨w, hw, _⟩ := R.mem m
    rw [hp] at hw
    cases hw
  refine R.put hn (ext_put hp).toEx0 (fun a ha => ?_) h
  exact upd_ne fun e => hn (e ▸ ha)
/-- an object at its place is written -/
theorem ext_set {st : Store} (R : RSt K f H st) {n : Nat} {a : Addr} {o : HO} (h : f[n]? = some a) : Ext f H f (upd H a o) := by
  have hm := List.mem_of_getElem? h
  obtain ⟨w, hw, mw⟩ := R.mem hm
  refine ⟨⟨List.prefix_refl f, fun b u hb nm => ?_⟩, fun _ h n => absurd h n, fun b u hb n => ?_⟩
  · rw [upd_ne fun e => by
      rw [e, hw] at hb
      cases hb
      exact nm mw]
    exact hb
  · rw [upd_ne fun e => n (by rw [e]; exact hm)]
    exact hb
theorem RSt.set {st : Store} (R : RSt K f H st) {n : Nat} {a : Addr} {o : HO} {u : SO} (h : f[n]? = some a) (hu : RO K f (upd H a o) a u) : RSt K f (upd H a o) (st.set n u) := by
  refine ⟨by rw [List.length_set]; exact R.len, R.nd, fun m w b e1 e2 => ?_⟩
  by_cases hm : m = n
  · subst hm
    rw [h] at e2
    cases e2
    have hlt : m < st.length := by
      have := (List.getElem?_eq_some_iff.mp e1).1
      rw [List.length_set] at this
      exact this
    rw [List.getElem?_set_self hlt] at e1
    cases e1
    exact hu
  · rw [List.getElem?_set_ne (Ne.symm hm)] at e1
    refine (R.at_ m w b e1 e2).up (ext_set R h).toEx0 (upd_ne fun e => hm ?_)
    subst e
    obtain ⟨h1, g1⟩ := List.getElem?_eq_some_iff.mp e2
    obtain ⟨h2, g2⟩ := List.getElem?_eq_some_iff.mp h
    exact (List.getElem_inj R.nd).mp (g1.trans g2.symm)
end
end Pd
set_option maxRecDepth 100000
set_option maxHeartbeats 4000000
namespace Pd
open PySem PySem.Spec PyProof.Rows L2
abbrev XE := XD → List Addr → Hp → Prop
section
variable {A B C A' B' : Type}
def post (K : PySem.W.Frag) (E : XE) (R : List Addr → Hp → A → B → Prop) (f : List Addr) (H : Hp) (r : Res A) (Q : B → Hp → Prop) : Prop := match r with
  | .ok a st => ∀ f' H' b, Ext f H f' H' → RSt K f' H' st → R f' H' a b → Q b H'
  | .exc e st => ∀ f' H', Ext f H f' H' → RSt K f' H' st → E e f' H'
  | .err => False
variable {K : PySem.W.Frag} {E : XE} {R : List Addr → Hp → A → B → Prop} {R' : List Addr → Hp → A' → B' → Prop} {f : List Addr} {H : Hp} {Q : B → Hp → Prop}
theorem post.mono {r : Res A} {Q' : B → Hp → Prop} (h : post K E R f H r Q) (i : ∀ b H', Q b H' → Q' b H') : post K E R f H r Q' := by
  cases r with
  | ok a st => exact fun f' H' b x y z => i _ _ (h f' H' b x y z)
  | exc e st => exact h
  | err => exact h
theorem post.up {r : Res A} {f1 : List Addr} {H1 : Hp} (h : post K E R f H r Q) (x : Ext f H f1 H1) : post K E R f1 H1 r Q := by
  cases r with
  | ok a st => exact fun f' H' b y z w => h f' H' b (x.trans y) z w
  | exc e st => exact fun f' H' y z => h f' H' (x.trans y) z
  | err => exact h
theorem post.bind {r : Res A'} {k : A' → Store → Res A} (h : post K E R f H (r.bind k) Q) :
    post K E R' f H r fun b H1 => ∃ f1 a st1, Ext f H f1 H1 ∧ RSt K f1 H1 st1 ∧ R' f1 H1 a b ∧ post K E R f1 H1 (k a st1) Q := by
  cases r with
  | ok a st => exact fun f' H' b x y z => ⟨f', a, st, x, y, z, post.up (show post K E R f H (k a st) Q from h) x⟩
  | exc e st => exact h
  | err => exact h
theorem post.now {a : A} {b : B} {st : Store} (h : post K E R f H (.ok a st) Q) (y : RSt K f H st) (z : R f H a b) : Q b H := h f H b .refl y z
end
abbrev RB : List Addr → Hp → Bool → Bool → Prop := fun _ _ a b => a = b
abbrev ROI : List Addr → Hp → Option Int → Option Int → Prop := fun _ _ a b => a = b
section
variable (K : PySem.W.Frag) (E : XE)
def rd (e : DE) : TE := fun s H Q => ∃ f r st, RS K f H r s ∧ RSt K f H st ∧ post K E (RD K) f H (e r st) Q
def rdT (e : DT) : TT := fun s H Q => ∃ f r st, RS K f H r s ∧ RSt K f H st ∧ post K E RB f H (e r st) Q
def rdA (e : DA) : TA := fun s H Q => ∃ f r st, RS K f H r s ∧ RSt K f H st ∧ post K E (RDs K) f H (e r st) Q
/-- two data to one -/
def rO (g : D → D → Store → Res D) : R2 := fun x y H Q => ∃ f st d e, RSt K f H st ∧ RD K f H d x ∧ RD K f H e y ∧ post K E (RD K) f H (g d e st) Q
def rU1 (g : D → Store → Res D) : V → Hp → VK → Prop := fun x H Q => ∃ f st d, RSt K f H st ∧ RD K f H d x ∧ post K E (RD K) f H (g d st) Q
def rL (g : List D → Store → Res D) : List V → Hp → VK → Prop := fun x H Q => ∃ f st d, RSt K f H st ∧ RDs K f H d x ∧ post K E (RD K) f H (g d st) Q
end
section
variable {X : Cx}
theorem _root_.L2.PE.mn {e : Expr} {t t' : TE} (h : PE X e t) (i : ∀ s H Q, t' s H Q → t s H Q) : PE X e t' := ⟨fun pins s sg H Q I q => h.run pins s sg H Q I (i _ _ _ q)⟩
theorem _root_.L2.PT.mn {e : Expr} {t t' : TT} (h : PT X e t) (i : ∀ s H Q, t' s H Q → t s H Q) : PT X e t' := ⟨fun pins s sg H Q I q => h.run pins s sg H Q I (i _ _ _ q)⟩
theorem _root_.L2.PW.mn {e : Expr} {t t' : TT} (h : PW X e t) (i : ∀ s H Q, t' s H Q → t s H Q) : PW X e t' := ⟨fun w pins s sg H Q I q => h.run w pins s sg H Q I (i _ _ _ q)⟩
theorem _root_.L2.PA.mn {e : List Expr} {t t' : TA} (h : PA X e t) (i : ∀ s H Q, t' s H Q → t s H Q) : PA X e t' := ⟨fun p pins s sg H Q I q => h.run p pins s sg H Q I (i _ _ _ q)⟩
theorem _root_.L2.PK.mn {e : List Keyword} {t t' : TA} (h : PK X e t) (i : ∀ s H Q, t' s H Q → t s H Q) : PK X e t' := ⟨fun p pins s sg H Q I q => h.run p pins s sg H Q I (i _ _ _ q)⟩
theorem _root_.L2.PS.mn {e : Stmt} {t t' : TS} (h : PS X e t) (i : ∀ D s H, t' D s H → t D s H) : PS X e t' := ⟨fun pins s sg H D I q => h.run pins s sg H D I (i _ _ _ q)⟩
theorem _root_.L2.PSs.mn {e : List Stmt} {t t' : TS} (h : PSs X e t) (i : ∀ D s H, t' D s H → t D s H) : PSs X e t' := ⟨fun pins s sg H D I q => h.run pins s sg H D I (i _ _ _ q)⟩
theorem _root_.L2.PI.mn {tg e : Expr} {t t' : TI} (h : PI X tg e t) (i : ∀ s H Q, t' s H Q → t s H Q) : PI X tg e t' := ⟨fun pins s sg H Q I q => h.run pins s sg H Q I (i _ _ _ q)⟩
theorem OpR.mn {f : Value → Value → Sem Value} {r r' : R2} (h : OpR X f r) (i : ∀ x y H Q, r' x y H Q → r x y H Q) : OpR X f r' := fun pins s sg H x y v u Q I a b q => h pins s sg H x y v u Q I a b (i _ _ _ _ q)
theorem UnR.mn {f : Value → Sem Value} {r r' : V → Hp → VK → Prop} (h : UnR X f r) (i : ∀ x H Q, r' x H Q → r x H Q) : UnR X f r' := fun pins s sg H x v Q I a q => h pins s sg H x v Q I a (i _ _ _ q)
theorem CallR.mn {f : Value} {r r' : List V → Hp → VK → Prop} (h : CallR X f r) (i : ∀ x H Q, r' x H Q → r x H Q) : CallR X f r' := fun pins s sg H x v Q I a q => h pins s sg H x v Q I a (i _ _ _ q)
theorem IxR.mn {r r' : R2} (h : IxR X r) (i : ∀ x y H Q, r' x y H Q → r x y H Q) : IxR X r' := fun e1 e2 pins s sg H x y v u Q I a b q z => h e1 e2 pins s sg H x y v u Q I a b (i _ _ _ _ q) z
theorem SlR.mn {r r' : V → Option Int → Option Int → Hp → VK → Prop} (h : SlR X r) (i : ∀ x l u H Q, r' x l u H Q → r x l u H Q) : SlR X r' := fun pins s sg H x v vl vu lo hi sl Q I a b c d q => h pins s sg H x v vl vu lo hi sl Q I a b c d (i _ _ _ _ _ q)
theorem MtR.mn {id : String} {r r' : V → List V → Hp → VK → Prop} (h : MtR X id r) (i : ∀ x xs H Q, r' x xs H Q → r x xs H Q) : MtR X id r' := fun pins s sg H x xs v us Q I a b q => h pins s sg H x xs v us Q I a b (i _ _ _ _ q)
end
def dVar (i : Nat) : DE := fun r st => match r[i]? with
  | some (some d) => .ok d st
  | _ => .err
def dC (d : D) : DE := fun _ st => .ok d st
section
variable {X : Cx} {E : XE} {pos : Pos}
theorem pd_var (i : Nat) {x : Str} (hN : X.N[i]? = some x := by rfl) (hv : Vis X.env.scope x := by first | exact Or.inl rfl | exact Or.inr (Or.inl rfl) | exact Or.inr (Or.inr rfl)) (hd : (x == ("__debug__" : Str)) = false := by decide)
    (hcd : (x == ("__classdict__" : Str)) = false := by decide) : PE X (.Name x pos) (rd X.K E (dVar i)) := by
  refine (pe_var hN hv hd hcd).mn fun s H Q h => ?_
  obtain ⟨f, r, st, hs, ht, h⟩ := h
  unfold dVar at h
  cases e : r[i]? with
  | none => rw [e] at h; exact h.elim
  | some o =>
    rw [e] at h
    cases o with
    | none => exact h.elim
    | some d =>
      obtain ⟨v, e1, e2⟩ := hs.at_ i d e
      exact ⟨v, e1, h.now ht e2⟩
theorem rd_c {K : PySem.W.Frag} {d : D} {v : V} {s : L2.St} {H : Hp} {Q : VK} (hr : ∀ f H, RD K f H d v) (h : rd K E (dC d) s H Q) : tC v s H Q := by
  obtain ⟨f, r, st, hs, ht, h⟩ := h
  exact post.now (show post K E (RD K) f H (.ok d st) Q from h) ht (hr f H)
theorem pd_int {i : Int} {j : Nat} : PE X (.Constant (.int i) j pos) (rd X.K E (dC (.int i))) := pe_int.mn fun s H Q h => rd_c (fun _ _ => .int i) h
theorem pd_bl {i : Bool} {j : Nat} : PE X (.Constant (.bool i) j pos) (rd X.K E (dC (.bl i))) := pe_bl.mn fun s H Q h => rd_c (fun _ _ => .bl i) h
theorem pd_non {j : Nat} : PE X (.Constant .none j pos) (rd X.K E (dC .non)) := pe_non.mn fun s H Q h => rd_c (fun _ _ => .non) h
theorem pd_str {x : Str} {j : Nat} : PE X (.Constant (.str x) j pos) (rd X.K E (dC (.str x))) := pe_str.mn fun s H Q h => rd_c (fun _ _ => .str x) h
end
def dBin (g : D → D → Store → Res D) (a b : DE) : DE := fun r st => (a r st).bind fun x st1 => (b r st1).bind fun y st2 => g x y st2
def dUn (g : D → Store → Res D) (a : DE) : DE := fun r st => (a r st).bind fun x st1 => g x st1
theorem rd_bin {K : PySem.W.Frag} {E : XE} {g : D → D → Store → Res D} {a b : DE} {s : L2.St} {H : Hp} {Q : VK} (h : rd K E (dBin g a b) s H Q) : tOp (rO K E g) (rd K E a) (rd K E b) s H Q := by
  obtain ⟨f, r, st, hs, ht, h⟩ := h
  refine ⟨f, r, st, hs, ht, (post.bind (R' := RD K) h).mono fun x H1 ⟨f1, d, st1, x1, t1, d1, h1⟩ => ?_⟩
  refine ⟨f1, r, st1, hs.up x1.toEx0, t1, (post.bind (R' := RD K) h1).mono fun y H2 ⟨f2, e, st2, x2, t2, d2, h2⟩ => ?_⟩
  exact ⟨f2, st2, d, e, t2, d1.up x2.toEx0, d2, h2⟩
theorem rd_un {K : PySem.W.Frag} {E : XE} {g : D → Store → Res D} {a : DE} {s : L2.St} {H : Hp} {Q : VK} (h : rd K E (dUn g a) s H Q) : tUn (rU1 K E g) (rd K E a) s H Q := by
  obtain ⟨f, r, st, hs, ht, h⟩ := h
  refine ⟨f, r, st, hs, ht, (post.bind (R' := RD K) h).mono fun x H1 ⟨f1, d, st1, x1, t1, d1, h1⟩ => ⟨f1, st1, d, t1, d1, h1⟩⟩
section
variable {X : Cx} {E : XE} {pos : Pos} {a b c : Expr} {da db dc : DE} {g g' : D → D → Store → Res D}
theorem pd_bin {op : Operator} (ho : OpR X (binaryOp op) (rO X.K E g)) (ha : PE X a (rd X.K E da)) (hb : PE X b (rd X.K E db)) : PE X (.BinOp a op b pos) (rd X.K E (dBin g da db)) := (pe_op ho ha hb).mn fun _ _ _ h => rd_bin h
theorem pd_un {op : UnaryOp} {g : D → Store → Res D} (ho : UnR X (unaryOp op) (rU1 X.K E g)) (ha : PE X a (rd X.K E da)) : PE X (.UnaryOp op a pos) (rd X.K E (dUn g da)) := (pe_un ho ha).mn fun _ _ _ h => rd_un h
theorem pd_cmp {op : CmpOp} (ho : OpR X (compareOp op) (rO X.K E g)) (ha : PE X a (rd X.K E da)) (hb : PE X b (rd X.K E db)) (hm : behindInMarks op b = false := by first | exact nobehind _ (by decide) (by decide) | rfl) : PE X (.Compare a [op] [b] pos) (rd X.K E (dBin g da db)) := (pe_cmpR ho ha hb hm).mn fun _ _ _ h => rd_bin h
/-- a value that is a truth, as a test -/
def asB : D → Store → Res Bool
  | .bl b, st => .ok b st
  | _, _ => .err
def dB (e : DE) : DT := fun r st => (e r st).bind asB
theorem post_asB {K : PySem.W.Frag} {E : XE} {f : List Addr} {H : Hp} {d : D} {x : V} {st : Store} {Q : Bool → Hp → Prop} (t : RSt K f H st) (z : RD K f H d x) (h : post K E RB f H (asB d st) Q) : ∃ k, x = .bl k ∧ Q k H := by
  cases z with
  | bl b => exact ⟨b, rfl, post.now (show post K E RB f H (.ok b st) Q from h) t rfl⟩
  | _ => exact h.elim
theorem rdT_B {K : PySem.W.Frag} {e : DE} {s : L2.St} {H : Hp} {Q : Bool → Hp → Prop} (h : rdT K E (dB e) s H Q) : rd K E e s H fun x H1 => ∃ k, x = .bl k ∧ Q k H1 := by
  obtain ⟨f, r, st, hs, ht, h⟩ := h
  exact ⟨f, r, st, hs, ht, (post.bind (R' := RD K) h).mono fun x H1 ⟨f1, d, st1, x1, t1, d1, h1⟩ => post_asB t1 d1 h1⟩
theorem pdt_cmp {op : CmpOp} (ho : OpR X (compareOp op) (rO X.K E g)) (ha : PE X a (rd X.K E da)) (hb : PE X b (rd X.K E db)) (hm : behindInMarks op b = false := by first | exact nobehind _ (by decide) (by decide) | rfl) : PT X (.Compare a [op] [b] pos) (rdT X.K E (dB (dBin g da db))) :=
  (pt_cmpR ho ha hb hm).mn fun s H Q h => rd_bin (rdT_B h)
end
def dAnd (t u : DT) : DT := fun r st => (t r st).bind fun c st1 => if c = true then u r st1 else .ok false st1
def dOr (t u : DT) : DT := fun r st => (t r st).bind fun c st1 => if c = true then .ok true st1 else u r st1
def dNot (t : DT) : DT := fun r st => (t r st).bind fun c st1 => .ok (!c) st1
def dAndV (a b : DE) : DE := fun r st => (a r st).bind fun x st1 => (asB x st1).bind fun c st2 => if c = true then b r st2 else .ok (.bl false) st2
def dIf (t : DT) (a b : DE) : DE := fun r st => (t r st).bind fun c st1 => if c = true then a r st1 else b r st1
section
variable {X : Cx} {E : XE} {pos : Pos} {a b c : Expr} {rest : List Expr} {da db : DE} {t u : DT}
theorem rdT_and {K : PySem.W.Frag} {s : L2.St} {H : Hp} {Q : Bool → Hp → Prop} (h : rdT K E (dAnd t u) s H Q) : tAnd (rdT K E t) (rdT K E u) s H Q := by
  obtain ⟨f, r, st, hs, ht, h⟩ := h
  refine ⟨f, r, st, hs, ht, (post.bind (R' := RB) h).mono fun k H1 ⟨f1, d, st1, x1, t1, d1, h1⟩ => ?_⟩
  cases d1
  cases k with
  | true => exact iteT ⟨f1, r, st1, hs.up x1.toEx0, t1, h1⟩
  | false => exact iteF (post.now (show post K E RB f1 H1 (.ok false st1) Q from h1) t1 rfl)
theorem rdT_or {K : PySem.W.Frag} {s : L2.St} {H : Hp} {Q : Bool → Hp → Prop} (h : rdT K E (dOr t u) s H Q) : tOr (rdT K E t) (rdT K E u) s H Q := by
  obtain ⟨f, r, st, hs, ht, h⟩ := h
  refine ⟨f, r, st, hs, ht, (post.bind (R' := RB) h).mono fun k H1 ⟨f1, d, st1, x1, t1, d1, h1⟩ => ?_⟩
  cases d1
  cases k with
  | true => exact iteT (post.now (show post K E RB f1 H1 (.ok true st1) Q from h1) t1 rfl)
  | false => exact iteF ⟨f1, r, st1, hs.up x1.toEx0, t1, h1⟩
theorem rdT_not {K : PySem.W.Frag} {s : L2.St} {H : Hp} {Q : Bool → Hp → Prop} (h : rdT K E (dNot t) s H Q) : tNot (rdT K E t) s H Q := by
  obtain ⟨f, r, st, hs, ht, h⟩ := h
  refine ⟨f, r, st, hs, ht, (post.bind (R' := RB) h).mono fun k H1 ⟨f1, d, st1, x1, t1, d1, h1⟩ => ?_⟩
  cases d1
  exact post.now (show post K E RB f1 H1 (.ok (!k) st1) Q from h1) t1 rfl
theorem pdw_and1 (ha : PT X a (rdT X.K E t)) : PW X (.BoolOp .And [a] pos) (rdT X.K E t) := pw_and1 ha
theorem pdw_or1 (ha : PT X a (rdT X.K E t)) : PW X (.BoolOp .Or [a] pos) (rdT X.K E t) := pw_or1 ha
theorem pdw_and (ha : PT X a (rdT X.K E t)) (hb : PW X (.BoolOp .And (b :: rest) pos) (rdT X.K E u)) : PW X (.BoolOp .And (a :: b :: rest) pos) (rdT X.K E (dAnd t u)) := (pw_and ha hb).mn fun _ _ _ h => rdT_and h
theorem pdw_or (ha : PT X a (rdT X.K E t)) (hb : PW X (.BoolOp .Or (b :: rest) pos) (rdT X.K E u)) : PW X (.BoolOp .Or (a :: b :: rest) pos) (rdT X.K E (dOr t u)) := (pw_or ha hb).mn fun _ _ _ h => rdT_or h
theorem pdt_not (ha : PT X a (rdT X.K E t)) : PT X (.UnaryOp .Not a pos) (rdT X.K E (dNot t)) := (pt_not ha).mn fun _ _ _ h => rdT_not h
theorem pdt_w {e : Expr} (h : PW X e (rdT X.K E t)) : PT X e (rdT X.K E t) := h.pt
theorem pd_and1 {op : PySem.BoolOp} (ha : PE X a (rd X.K E da)) : PE X (.BoolOp op [a] pos) (rd X.K E da) := pe_one ha
theorem rd_andV {K : PySem.W.Frag} {s : L2.St} {H : Hp} {Q : VK} (h : rd K E (dAndV da db) s H Q) : tAndV (rd K E da) (rd K E db) s H Q := by
  obtain ⟨f, r, st, hs, ht, h⟩ := h
  refine ⟨f, r, st, hs, ht, (post.bind (R' := RD K) h).mono fun x H1 ⟨f1, d, st1, x1, t1, d1, h1⟩ => ?_⟩
  cases d1 with
  | bl k =>
    refine ⟨k, rfl, ?_⟩
    cases k with
    | true => exact iteT ⟨f1, r, st1, hs.up x1.toEx0, t1, h1⟩
    | false => exact iteF (post.now (show post K E (RD K) f1 H1 (.ok (.bl false) st1) Q from h1) t1 (.bl false))
  | _ => exact h1.elim
theorem pd_and (ha : PE X a (rd X.K E da)) (hb : PE X (.BoolOp .And (b :: rest) pos) (rd X.K E db)) : PE X (.BoolOp .And (a :: b :: rest) pos) (rd X.K E (dAndV da db)) := (pe_and ha hb).mn fun _ _ _ h => rd_andV h
theorem pd_if {c : Expr} (hc : PT X c (rdT X.K E t)) (ha : PE X a (rd X.K E da)) (hb : PE X b (rd X.K E db)) : PE X (.IfExp c a b pos) (rd X.K E (dIf t da db)) := (pe_ifExp hc ha hb).mn fun s H Q h => by
  obtain ⟨f, r, st, hs, ht, h⟩ := h
  refine ⟨f, r, st, hs, ht, (post.bind (R' := RB) h).mono fun k H1 ⟨f1, d, st1, x1, t1, d1, h1⟩ => ?_⟩
  cases d1
  cases k with
  | true => exact iteT ⟨f1, r, st1, hs.up x1.toEx0, t1, h1⟩
  | false => exact iteF ⟨f1, r, st1, hs.up x1.toEx0, t1, h1⟩
end
def dNil : DA := fun _ st => .ok [] st
def dCons (a : DE) (b : DA) : DA := fun r st => (a r st).bind fun x st1 => (b r st1).bind fun l st2 => .ok (x :: l) st2
def oTup (l : List D) (st : Store) : Res D := if l.length ≤ sizeLine then .ok (.tup l) st else .err
def oLst (l : List D) (st : Store) : Res D := if l.length ≤ sizeLine then .ok (.ref st.length) (st ++ [.lst l]) else .err
def dL (g : List D → Store → Res D) (a : DA) : DE := fun r st => (a r st).bind g
section
variable {X : Cx} {E : XE} {pos : Pos} {e : Expr} {es : List Expr} {da : DE} {dl : DA}
theorem pda_nil : PA X [] (rdA X.K E dNil) := pa_nil.mn fun s H Q h => by
  obtain ⟨f, r, st, hs, ht, h⟩ := h
  exact post.now (show post X.K E (RDs X.K) f H (.ok [] st) Q from h) ht .nil
theorem rdA_cons {K : PySem.W.Frag} {s : L2.St} {H : Hp} {Q : List V → Hp → Prop} (h : rdA K E (dCons da dl) s H Q) : tCons (rd K E da) (rdA K E dl) s H Q := by
  obtain ⟨f, r, st, hs, ht, h⟩ := h
  refine ⟨f, r, st, hs, ht, (post.bind (R' := RD K) h).mono fun x H1 ⟨f1, d, st1, x1, t1, d1, h1⟩ => ?_⟩
  refine ⟨f1, r, st1, hs.up x1.toEx0, t1, (post.bind (R' := RDs K) h1).mono fun y H2 ⟨f2, l, st2, x2, t2, d2, h2⟩ => ?_⟩
  exact post.now (show post K E (RDs K) f2 H2 (.ok (d :: l) st2) Q from h2) t2 (.cons (d1.up x2.toEx0) d2)
theorem pda_cons (ha : PE X e (rd X.K E da)) (hr : PA X es (rdA X.K E dl)) (hs : starEach (e :: es) X.env = (false, eval e X.env) :: starEach es X.env := by rfl) : PA X (e :: es) (rdA X.K E (dCons da dl)) := (pa_cons ha hr hs).mn fun _ _ _ h => rdA_cons h
theorem pdk_nil : PK X [] (rdA X.K E dNil) := pk_nil.mn fun s H Q h => by
  obtain ⟨f, r, st, hs, ht, h⟩ := h
  exact post.now (show post X.K E (RDs X.K) f H (.ok [] st) Q from h) ht .nil
theorem pdk_cons {nm : Option Str} {kpos : Pos} {kws : List Keyword} (ha : PE X e (rd X.K E da)) (hr : PK X kws (rdA X.K E dl)) : PK X (⟨nm, e, kpos⟩ :: kws) (rdA X.K E (dCons da dl)) := (pk_cons ha hr).mn fun _ _ _ h => rdA_cons h
/-- a new tuple -/
theorem post_tup {K : PySem.W.Frag} {f : List Addr} {H : Hp} {st : Store} {l : List D} {vs : List V} {Q : VK} (t : RSt K f H st) (z : RDs K f H l vs) (h : post K E (RD K) f H (oTup l st) Q) : vs.length ≤ sizeLine ∧ ∀ p, H p = none → Q (.ref p) (upd H p (.tup vs)) := by
  unfold oTup at h
  by_cases hl : l.length ≤ sizeLine
  · rw [if_pos hl] at h
    refine ⟨z.length ▸ hl, fun p hp => ?_⟩
    have x : Ext f H f (upd H p (.tup vs)) := ext_new hp
    exact h f _ (.ref p) x (t.new hp) (.tup upd_same hl (z.up x.toEx0))
  · rw [if_neg hl] at h
    exact h.elim
theorem post_lst {K : PySem.W.Frag} {f : List Addr} {H : Hp} {st : Store} {l : List D} {vs : List V} {Q : VK} (t : RSt K f H st) (z : RDs K f H l vs) (h : post K E (RD K) f H (oLst l st) Q) : vs.length ≤ sizeLine ∧ ∀ p, H p = none → Q (.ref p) (upd H p (.lst vs)) := by
  unfold oLst at h
  by_cases hl : l.length ≤ sizeLine
  · rw [if_pos hl] at h
    refine ⟨z.length ▸ hl, fun p hp => ?_⟩
    have x : Ext f H (f ++ [p]) (upd H p (.lst vs)) := ext_put hp
    refine h (f ++ [p]) _ (.ref p) x (t.lay hp ⟨vs, upd_same, z.up x.toEx0, hl⟩) (.ref ?_)
    rw [← t.len]
    simp
  · rw [if_neg hl] at h
    exact h.elim
theorem pd_tup {k : Nat} (h : PA X es (rdA X.K E dl)) : PE X (.Tuple es k pos) (rd X.K E (dL oTup dl)) := (pe_tup h).mn fun s H Q h => by
  obtain ⟨f, r, st, hs, ht, h⟩ := h
  exact ⟨f, r, st, hs, ht, (post.bind (R' := RDs X.K) h).mono fun x H1 ⟨f1, d, st1, x1, t1, d1, h1⟩ => post_tup t1 d1 h1⟩
theorem pd_lst (h : PA X es (rdA X.K E dl)) : PE X (.List es pos) (rd X.K E (dL oLst dl)) := (pe_lst h).mn fun s H Q h => by
  obtain ⟨f, r, st, hs, ht, h⟩ := h
  exact ⟨f, r, st, hs, ht, (post.bind (R' := RDs X.K) h).mono fun x H1 ⟨f1, d, st1, x1, t1, d1, h1⟩ => post_lst t1 d1 h1⟩
end
end Pd
set_option maxRecDepth 100000
set_option maxHeartbeats 4000000
namespace Pd
open PySem PySem.Spec PyProof.Rows L2
def getL (st : Store) (n : Nat) : Option (List D) := match st[n]? with
  | some (.lst l) => some l
  | _ => none
theorem getL_some {st : Store} {n : Nat} {l : List D} (h : getL st n = some l) : st[n]? = some (.lst l) := by
  unfold getL at h
  split at h
  · rename_i e
    rw [e, Option.some.inj h]
  · cases h
def newL (l : List D) (st : Store) : Res D := .ok (.ref st.length) (st ++ [.lst l])
def oAdd : D → D → Store → Res D
  | .int i, .int j, st => .ok (.int (i + j)) st
  | .tup a, .tup b, st => if a.length + b.length ≤ sizeLine then .ok (.tup (a ++ b)) st else .err
  | .ref m, .ref n, st => match getL st m, getL st n with
    | some a, some b => if a.length + b.length ≤ sizeLine then newL (a ++ b) st else .err
    | _, _ => .err
  | .str a, .str b, st => if a.length + b.length ≤ sizeLine then .ok (.str (a ++ b)) st else .err
  | _, _, _ => .err
def oSub : D → D → Store → Res D
  | .int i, .int j, st => .ok (.int (i - j)) st
  | _, _, _ => .err
/-- a factor is below 2 ^ 64, or both together have less than 10 ^ 8 bits -/
def mulOk (i j : Int) : Bool := decide (i.natAbs.log2 + j.natAbs.log2 < 100000000) || (decide (-(2 ^ 64) < i) && decide (i < 2 ^ 64)) || (decide (-(2 ^ 64) < j) && decide (j < 2 ^ 64))
def repOk (n : Nat) (k : Int) : Bool := decide (-(2 ^ 63) ≤ k) && decide (k < 2 ^ 63) && decide (n * k.toNat ≤ sizeLine)
def oMul : D → D → Store → Res D
  | .int i, .int j, st => if mulOk i j = true then .ok (.int (i * j)) st else .err
  | .ref m, .int k, st => match getL st m with
    | some a => if repOk a.length k = true then newL (List.replicate k.toNat a).flatten st else .err
    | _ => .err
  | .tup a, .int k, st => if repOk a.length k = true then .ok (.tup (List.replicate k.toNat a).flatten) st else .err
  | _, _, _ => .err
def oFdiv : D → D → Store → Res D
  | .int i, .int j, st => if 0 < j ∧ j < 1073741824 then .ok (.int (i / j)) st else .err
  | _, _, _ => .err
def oMod : D → D → Store → Res D
  | .int i, .int j, st => if 0 < j then .ok (.int (i % j)) st else .err
  | _, _, _ => .err
def oPow : D → D → Store → Res D
  | .int i, .int j, st => if 0 ≤ j ∧ j ≤ 1000000 ∧ i.natAbs < 2 ^ 64 then .ok (.int (i ^ j.toNat)) st else .err
  | _, _, _ => .err
def oNeg : D → Store → Res D
  | .int i, st => .ok (.int (-i)) st
  | _, _ => .err
section
variable {K : PySem.W.Frag} {E : XE} {f : List Addr} {H : Hp} {st : Store} {Q : VK}
theorem RD.intv {i : Int} {v : V} (h : RD K f H (.int i) v) : v = .int i := by cases h; rfl
theorem RD.strv {i : Str} {v : V} (h : RD K f H (.str i) v) : v = .str i := by cases h; rfl
theorem RD.tupv {l : List D} {v : V} (h : RD K f H (.tup l) v) : ∃ a vs, v = .ref a ∧ H a = some (.tup vs) ∧ l.length ≤ sizeLine ∧ RDs K f H l vs := by cases h with | tup a b c => exact ⟨_, _, rfl, a, b, c⟩
theorem RD.xtv {l : List D} {v : V} (h : RD K f H (.xt l) v) : ∃ a vs, v = .ref a ∧ SqX H a vs ∧ l.length ≤ sizeLine ∧ RDs K f H l vs := by cases h with | xt a b c => exact ⟨_, _, rfl, a, b, c⟩
theorem RD.fzv {l : List D} {v : V} (h : RD K f H (.fz l) v) : ∃ a vs, v = .ref a ∧ SqF K H a vs ∧ l.length ≤ sizeLine ∧ RDs K f H l vs := by cases h with | fz a b c => exact ⟨_, _, rfl, a, b, c⟩
theorem RD.refv {n : Nat} {v : V} (h : RD K f H (.ref n) v) : ∃ a, v = .ref a ∧ f[n]? = some a := by cases h with | ref a => exact ⟨_, rfl, a⟩
/-- a list of the store at a value -/
theorem RD.lstv {n : Nat} {v : V} {l : List D} (t : RSt K f H st) (h : RD K f H (.ref n) v) (e : st[n]? = some (.lst l)) : ∃ a vs, v = .ref a ∧ f[n]? = some a ∧ H a = some (.lst vs) ∧ RDs K f H l vs ∧ l.length ≤ sizeLine := by
  obtain ⟨a, rfl, e2⟩ := h.refv
  obtain ⟨vs, x, y, z⟩ := t.at_ n _ a e e2
  exact ⟨a, vs, rfl, e2, x, y, z⟩
theorem RD.tup_new {l : List D} {vs : List V} {p : Addr} (t : RSt K f H st) (hp : H p = none) (z : RDs K f H l vs) (hl : l.length ≤ sizeLine) (h : post K E (RD K) f H (.ok (.tup l) st) Q) : Q (.ref p) (upd H p (.tup vs)) := by
  have x : Ext f H f (upd H p (.tup vs)) := ext_new hp
  exact h f _ (.ref p) x (t.new hp) (.tup upd_same hl (z.up x.toEx0))
theorem RD.lst_new {l : List D} {vs : List V} {p : Addr} (t : RSt K f H st) (hp : H p = none) (z : RDs K f H l vs) (hl : l.length ≤ sizeLine) (h : post K E (RD K) f H (newL l st) Q) : Q (.ref p) (upd H p (.lst vs)) := by
  have x : Ext f H (f ++ [p]) (upd H p (.lst vs)) := ext_put hp
  refine h (f ++ [p]) _ (.ref p) x (t.lay hp ⟨vs, upd_same, z.up x.toEx0, hl⟩) (.ref ?_)
  rw [← t.len]
  simp
theorem RDs.app {l l' : List D} {vs vs' : List V} (a : RDs K f H l vs) (b : RDs K f H l' vs') : RDs K f H (l ++ l') (vs ++ vs') := .of _ _ _ (Paired.app a.pr b.pr)
theorem RDs.rep {l : List D} {vs : List V} (a : RDs K f H l vs) : ∀ n, RDs K f H (List.replicate n l).flatten (List.replicate n vs).flatten
  | 0 => .nil
  | n + 1 => by
    rw [List.replicate_succ, List.replicate_succ, List.flatten_cons, List.flatten_cons]
    exact a.app (RDs.rep a n)
theorem RDs.nil_iff {l : List D} {vs : List V} (a : RDs K f H l vs) : l = [] ↔ vs = [] := by cases a <;> simp
end
section
variable {X : Cx} {E : XE}
/-- a rule for an operation of two data, by what the data are -/
theorem OpR.of {fn : Value → Value → Sem Value} {g : D → D → Store → Res D}
    (h : ∀ (pins : List (Addr × Obj)) (s : Shared) (sg : L2.St) (H : Hp) (f : List Addr) (st : Store) (d e : D) (x y : V) (v u : Value) (Q : VK), Inv X pins sg H s → RelV x v → RelV y u → RSt X.K f H st → RD X.K f H d x → RD X.K f H e y →
      post X.K E (RD X.K) f H (g d e st) Q → wpAny (model X.prog X.w) X.A (fn v u) (EP X pins sg Q) X.xe s) : OpR X fn (rO X.K E g) := fun pins s sg H x y v u Q I rx ry ⟨f, st, d, e, t, d1, d2, q⟩ => h pins s sg H f st d e x y v u Q I rx ry t d1 d2 q
theorem od_add : OpR X (binaryOp .Add) (rO X.K E oAdd) := OpR.of fun pins s sg H f st d e x y v u Q I rx ry t d1 d2 q => by
  cases d <;> cases e <;> first | exact q.elim | skip
  · rename_i i j
    exact op_add pins s sg H x y v u Q I rx ry ⟨i, j, d1.intv, d2.intv, q.now t (.int _)⟩
  · rename_i i j
    have q : post X.K E (RD X.K) f H (if i.length + j.length ≤ sizeLine then .ok (.str (i ++ j)) st else .err) Q := q
    by_cases hl : i.length + j.length ≤ sizeLine
    · rw [if_pos hl] at q
      exact op_add_str pins s sg H x y v u Q I rx ry ⟨i, j, d1.strv, d2.strv, hl, q.now t (.str _)⟩
    · rw [if_neg hl] at q
      exact q.elim
  · rename_i l m
    have q : post X.K E (RD X.K) f H (if l.length + m.length ≤ sizeLine then .ok (.tup (l ++ m)) st else .err) Q := q
    by_cases hl : l.length + m.length ≤ sizeLine
    · rw [if_pos hl] at q
      obtain ⟨a, vs, ex, ha, la, ra⟩ := d1.tupv
      obtain ⟨b, ws, ey, hb, lb, rb⟩ := d2.tupv
      refine op_catA pins s sg H x y v u Q I rx ry ⟨a, b, vs, ws, ex, ey, .of ha, .of hb, by rw [← ra.length, ← rb.length]; exact hl, fun e0 => ?_, fun _ e0 => ?_, fun _ _ p hp => ?_⟩
      · rw [ra.nil_iff.mpr e0] at q
        exact post.now q t (ey ▸ d2)
      · rw [rb.nil_iff.mpr e0, List.append_nil] at q
        exact post.now q t (ex ▸ d1)
      · exact RD.tup_new t hp (ra.app rb) (by rw [List.length_append]; exact hl) q
    · rw [if_neg hl] at q
      exact q.elim
  · rename_i m n
    unfold oAdd at q
    dsimp only at q
    split at q
    · rename_i l l' e1 e2
      by_cases hl : l.length + l'.length ≤ sizeLine
      · rw [if_pos hl] at q
        obtain ⟨a, vs, ex, fa, ha, ra, la⟩ := d1.lstv t (getL_some e1)
        obtain ⟨b, ws, ey, fb, hb, rb, lb⟩ := d2.lstv t (getL_some e2)
        exact op_cat pins s sg H x y v u Q I rx ry ⟨a, b, vs, ws, ex, ey, ha, hb, by rw [← ra.length, ← rb.length]; exact hl, fun p hp => RD.lst_new t hp (ra.app rb) (by rw [List.length_append]; exact hl) q⟩
      · rw [if_neg hl] at q
        exact q.elim
    · exact q.elim
theorem od_int {op : Operator} {g : Int → Int → Int} {C : Int → Int → Prop} {o : D → D → Store → Res D} (h : OpR X (binaryOp op) (rI C fun i j => .int (g i j)))
    (hb : ∀ d e st, (∃ i j, d = .int i ∧ e = .int j ∧ C i j ∧ o d e st = .ok (.int (g i j)) st) ∨ o d e st = .err) : OpR X (binaryOp op) (rO X.K E o) := OpR.of fun pins s sg H f st d e x y v u Q I rx ry t d1 d2 q => by
  rcases hb d e st with ⟨i, j, rfl, rfl, c, e1⟩ | e1
  · rw [e1] at q
    exact h pins s sg H x y v u Q I rx ry ⟨i, j, d1.intv, d2.intv, c, q.now t (.int _)⟩
  · rw [e1] at q
    exact q.elim
theorem od_sub : OpR X (binaryOp .Sub) (rO X.K E oSub) := OpR.of fun pins s sg H f st d e x y v u Q I rx ry t d1 d2 q => by
  cases d <;> cases e <;> first | exact q.elim | skip
  rename_i i j
  exact op_sub pins s sg H x y v u Q I rx ry ⟨i, j, d1.intv, d2.intv, q.now t (.int _)⟩
theorem od_fdiv : OpR X (binaryOp .FloorDiv) (rO X.K E oFdiv) := od_int op_fdiv fun d e st => by
  cases d <;> cases e <;> first | exact .inr rfl | skip
  rename_i i j
  by_cases h : 0 < j ∧ j < 1073741824
  · exact .inl ⟨i, j, rfl, rfl, h, if_pos h⟩
  · exact .inr (if_neg h)
theorem od_mod : OpR X (binaryOp .Mod) (rO X.K E oMod) := od_int op_mod fun d e st => by
  cases d <;> cases e <;> first | exact .inr rfl | skip
  rename_i i j
  by_cases h : 0 < j
  · exact .inl ⟨i, j, rfl, rfl, h, if_pos h⟩
  · exact .inr (if_neg h)
theorem od_pow : OpR X (binaryOp .Pow) (rO X.K E oPow) := od_int op_pow fun d e st => by
  cases d <;> cases e <;> first | exact .inr rfl | skip
  rename_i i j
  by_cases h : 0 ≤ j ∧ j ≤ 1000000 ∧ i.natAbs < 2 ^ 64
  · exact .inl ⟨i, j, rfl, rfl, h, if_pos h⟩
  · exact .inr (if_neg h)
theorem ud_neg : UnR X (unaryOp .USub) (rU1 X.K E oNeg) := UnR.mn un_neg fun x H Q ⟨f, st, d, t, d1, q⟩ => by
  cases d <;> first | exact q.elim | skip
  rename_i i
  exact ⟨i, d1.intv, q.now t (.int _)⟩
theorem bits_log (x : Int) : Builtin.Int.intBits x ≤ x.natAbs.log2 + 1 := by
  simp only [Builtin.Int.intBits]
  split <;> omega
theorem mulOk_ok {i j : Int} (h : mulOk i j = true) : IntMulOk i j := by
  simp only [mulOk, Bool.or_eq_true, Bool.and_eq_true, decide_eq_true_eq] at h
  obtain ⟨h | h⟩ | h := h
  · have line : bitsLine = 134217728 := by decide
    have l := bits_log i
    have r := bits_log j
    simp only [IntMulOk, Builtin.Int.intTooBig, Bool.and_eq_true, decide_eq_true_eq, line, not_and, gt_iff_lt, Nat.not_lt]
    intros
    omega
  · exact CMul.ok (.inl h)
  · exact CMul.ok (.inr h)
theorem op_mulA : OpR X (binaryOp .Mult) (rI (fun i j => IntMulOk i j) fun i j => .int (i * j)) := opI fun _ _ _ _ _ _ _ hc q => mul_int q hc
end
end Pd
set_option maxRecDepth 100000
set_option maxHeartbeats 4000000
namespace Pd
open PySem PySem.Spec PyProof.Rows L2
/-- tuple * int where nothing is repeated: the tuple itself, or a new one without items -/
theorem tmul_low {l : Addr} {its : Array Value} {n : Nat} {dd : Option Addr} {sl : Array (Option Value)} {x : Int} {u : Tok} (fits : (decide (x < -(2 ^ 63)) || decide (x ≥ 2 ^ 63)) = false)
    (low : (its.isEmpty || x == 1) = false → (decide (x ≤ 0) || its.isEmpty) = true) :
    Meets (Builtin.«tuple.__mul__» ⟨[.ref l, .int x u], []⟩) (fun _ R s => s.heap.get? l = some { cls := .type "tuple", dict := dd, data := .seq its n, slots := sl } ∧
      if (its.isEmpty || x == 1) = true then R (.ok (.ret (.ref l))) s
      else R (.ok (.ret (.ref s.heap.objs.size))) { s with heap := s.heap.push { cls := .type "tuple", data := .seq #[] } }) := by
  refine .of_wp fun prog w A R ⟨hp, g, d, tk, os⟩ ⟨at_, post⟩ => ?_
  have ix := AutoSeq1.idx_int
  cases same : its.isEmpty || x == 1 with
  | true =>
    rw [if_pos same] at post
    wp_walk using wpAny_loadPart' at_
    simp only [fits, same, Bool.false_eq_true, if_true, if_false]
    wp_walk using wpAny_loadPart' at_
    exact ⟨_, rfl, post⟩
  | false =>
    rw [if_neg (by rw [same]; decide)] at post
    have none_ := low same
    wp_walk using wpAny_loadPart' at_
    simp only [fits, same, none_, Bool.false_eq_true, if_true, if_false]
    wp_walk using wpAny_loadPart' at_
    exact ⟨_, rfl, post⟩
section
variable {X : Cx}
/-- t * k for any k that fits -/
def rRepA (K : PySem.W.Frag) : R2 := fun x y H Q => ∃ l k xs, x = .ref l ∧ y = .int k ∧ H l = some (.tup xs) ∧ -(2 ^ 63) ≤ k ∧ k < 2 ^ 63 ∧ xs.length * k.toNat ≤ sizeLine ∧
  (((xs = [] ∨ k = 1) ∧ Q (.ref l) H) ∨ (¬ (xs = [] ∨ k = 1) ∧ ∀ p, H p = none → Q (.ref p) (upd H p (.tup (List.replicate k.toNat xs).flatten))))
theorem op_repA : OpR X (binaryOp .Mult) (rRepA X.K) := by
  intro pins s sg H x y v u Q I rx ry h
  obtain ⟨l, k, xs, rfl, rfl, hT, h1, h2, hz, q⟩ := h
  cases rx
  obtain ⟨t, rfl⟩ := ry
  obtain ⟨its, r, ⟨⟨cls, dd, data, sl⟩, ho, hc, n, hd⟩, hs⟩ := I.tuple (SqT.of hT)
  simp only at hc hd
  subst hc hd
  have hle : its.length = xs.length := r.length.symm
  have hi : its.toArray.isEmpty = decide (xs = []) := by
    cases its with
    | nil => cases xs with
      | nil => rfl
      | cons a b => cases hle
    | cons a b => cases xs with
      | nil => cases hle
      | cons a b => rfl
  have c0 : (decide (k < -(2 ^ 63)) || decide (k ≥ 2 ^ 63)) = false := by
    rw [decide_eq_false (by omega), decide_eq_false (by omega)] <;> rfl
  have go : ∀ {Q' : Value → Shared → Prop}, wpAny (model X.prog X.w) X.A (call (.builtin "tuple.__mul__") [.ref l, .int k t]) Q' X.xe s → wpAny (model X.prog X.w) X.A (binaryOp .Mult (.ref l) (.int k t)) Q' X.xe s := fun {Q'} hq =>
    wpAny_binaryOp_repeat_ref (T := "tuple") (U := "int") (by decide) ⟨_, ho, rfl⟩ (fun s' => typeIs_int s' k t) noFill_tuple_mul F.fills_int_mul F.slot_int_rmul repeat_tuple F.slot_int_index.lookup
      (call_meets F.slot_int_rmul (typeIs_int s k t) F.entry_int_rmul (F.args_int_rmul_2 _ _) (int_rmul_tuple k t l its.toArray n dd sl) ⟨ho, rfl, ⟨_, ho, rfl⟩, hq⟩)
  rcases q with ⟨c, q⟩ | ⟨c, q⟩
  · have one : (its.toArray.isEmpty || k == 1) = true := by
      rw [hi]
      rcases c with c | c
      · rw [decide_eq_true c]; rfl
      · rw [c]; simp
    exact go (call_meets F.slot_tuple_mul ⟨_, ho, rfl⟩ F.entry_tuple_mul (F.args_tuple_mul_2 _ _) (tmul_low c0 fun z => absurd (one.symm.trans z) (by decide)) ⟨ho, by rw [if_pos one]; exact ⟨.ref l, H, I, rfl, q⟩⟩)
  · have hx : xs ≠ [] := fun e => c (.inl e)
    have hk : k ≠ 1 := fun e => c (.inr e)
    have c1 : (its.toArray.isEmpty || k == 1) = false := by
      rw [hi, decide_eq_false hx, Bool.false_or]
      exact beq_eq_false_iff_ne.mpr hk
    have q0 := q s.heap.objs.size (I.hok.fresh (Nat.le_refl _))
    by_cases hk0 : k ≤ 0
    · refine go (call_meets F.slot_tuple_mul ⟨_, ho, rfl⟩ F.entry_tuple_mul (F.args_tuple_mul_2 _ _) (tmul_low c0 fun _ => by rw [decide_eq_true hk0]; rfl) ⟨ho, ?_⟩)
      rw [if_neg (by rw [c1]; decide)]
      have e0 : (List.replicate k.toNat xs).flatten = [] := by
        rw [show k.toNat = 0 by omega]
        rfl
      rw [e0] at q0
      exact ⟨.ref s.heap.objs.size, _, I.laid (t' := s.toks) (o := .tup []) (fun b ob q => Heap.get?_push_of_some _ q) (Nat.le_refl _) ⟨Nat.zero_le _, [], .nil, IsTup.new _ _⟩, rfl, q0⟩
    · have flen : (List.replicate k.toNat its).flatten.length = xs.length * k.toNat := by
        rw [PyProof.Rows.lm_len_rep_flat, hle, Nat.mul_comm]
      have hik : ((its.toArray.size : Nat) : Int) * k = ((xs.length * k.toNat : Nat) : Int) := by
        rw [List.size_toArray, hle, Int.natCast_mul, Int.toNat_of_nonneg (by omega)]
      have hz' : ((xs.length * k.toNat : Nat) : Int) ≤ 16777216 := by
        have := hz
        rw [sizeLine_eq] at this
        omega
      have c2 : (decide (k ≤ 0) || its.toArray.isEmpty) = false := by
        rw [hi, decide_eq_false hx, Bool.or_false]
        exact decide_eq_false hk0
      have c4 : Builtin.Tuple.tupleTooMany (((its.toArray.size : Nat) : Int) * k) = false := by
        unfold Builtin.Tuple.tupleTooMany
        rw [sizeLine_eq, hik]
        exact decide_eq_false (by omega)
      refine go (call_meets F.slot_tuple_mul ⟨_, ho, rfl⟩ F.entry_tuple_mul (F.args_tuple_mul_2 _ _) (tuple_mulW l its.toArray n dd sl k t c0 c1 c2 (by rw [hik]; omega) c4 (by rw [size_rep, List.size_toArray, flen]; exact hz)) ⟨ho, ?_⟩)
      rw [size_rep]
      refine ⟨.ref s.heap.objs.size, _, I.laid (t' := s.toks) (o := .tup (List.replicate k.toNat xs).flatten) (fun b ob q => Heap.get?_push_of_some _ q) (Nat.le_refl _) ?_, rfl, q0⟩
      exact ⟨by rw [PyProof.Rows.lm_len_rep_flat, Nat.mul_comm]; exact hz, _, r.rep k.toNat, IsTup.new _ _⟩
variable {E : XE}
theorem repOk_ok {n : Nat} {k : Int} (h : repOk n k = true) : -(2 ^ 63) ≤ k ∧ k < 2 ^ 63 ∧ n * k.toNat ≤ sizeLine := by
  unfold repOk at h
  simp only [Bool.and_eq_true, decide_eq_true_eq] at h
  exact ⟨h.1.1, h.1.2, h.2⟩
theorem flat_len {A : Type} (l : List A) : ∀ n, (List.replicate n l).flatten.length = l.length * n
  | 0 => rfl
  | n + 1 => by rw [List.replicate_succ, List.flatten_cons, List.length_append, flat_len l n, Nat.mul_succ, Nat.add_comm]
theorem od_mul : OpR X (binaryOp .Mult) (rO X.K E oMul) := OpR.of fun pins s sg H f st d e x y v u Q I rx ry t d1 d2 q => by
  cases d <;> cases e <;> first | exact q.elim | skip
  · rename_i i j
    unfold oMul at q
    dsimp only at q
    split at q
    · rename_i hm
      exact op_mulA pins s sg H x y v u Q I rx ry ⟨i, j, d1.intv, d2.intv, mulOk_ok hm, q.now t (.int _)⟩
    · exact q.elim
  · rename_i l k
    unfold oMul at q
    dsimp only at q
    split at q
    · rename_i hm
      obtain ⟨h1, h2, h3⟩ := repOk_ok hm
      obtain ⟨a, vs, ex, ha, la, ra⟩ := d1.tupv
      refine op_repA pins s sg H x y v u Q I rx ry ⟨a, k, vs, ex, d2.intv, ha, h1, h2, by rw [← ra.length]; exact h3, ?_⟩
      by_cases hc : vs = [] ∨ k = 1
      · refine .inl ⟨hc, ?_⟩
        have e1 : (List.replicate k.toNat l).flatten = l := by
          rcases hc with e0 | e0
          · rw [ra.nil_iff.mpr e0]
            simp
          · rw [e0]
            simp
        rw [e1] at q
        exact post.now q t (ex ▸ d1)
      · exact .inr ⟨hc, fun p hp => RD.tup_new t hp (ra.rep _) (by rw [flat_len]; exact h3) q⟩
    · exact q.elim
  · rename_i m k
    unfold oMul at q
    dsimp only at q
    split at q
    · rename_i l e1
      split at q
      · rename_i hm
        obtain ⟨h1, h2, h3⟩ := repOk_ok hm
        obtain ⟨a, vs, ex, fa, ha, ra, la⟩ := d1.lstv t (getL_some e1)
        exact op_rep pins s sg H x y v u Q I rx ry ⟨a, k, vs, ex, d2.intv, ha, h1, h2, by rw [← ra.length]; exact h3, fun p hp => RD.lst_new t hp (ra.rep _) (by rw [flat_len]; exact h3) q⟩
      · exact q.elim
    · exact q.elim
end
end Pd
set_option maxRecDepth 100000
set_option maxHeartbeats 4000000
namespace Pd
open PySem PySem.Spec PyProof.Rows L2
/-- a datum as plain data (lists of the store read out), to a depth -/
def toP (st : Store) : Nat → D → Option PyData
  | 0, _ => none
  | n + 1, d => match d with
    | .non => some .none
    | .bl b => some (.bool b)
    | .int i => some (.int i)
    | .str x => if (PyData.str x).canLay0 = true then some (.str x) else none
    | .tup l => (l.mapM (toP st n)).map .tuple
    | .fz l => (l.mapM (toP st n)).map .list
    | .xt l => (l.mapM (toP st n)).map .tuple
    | .ref k => match getL st k with
      | some l => (l.mapM (toP st n)).map .list
      | none => none
theorem mapM_cons {A B : Type} {g : A → Option B} {a : A} {l : List A} {r : List B} (h : (a :: l).mapM g = some r) : ∃ b r', g a = some b ∧ l.mapM g = some r' ∧ r = b :: r' := by
  rw [List.mapM_cons] at h
  cases e : g a with
  | none => rw [e] at h; cases h
  | some b =>
    cases e2 : l.mapM g with
    | none => rw [e, e2] at h; cases h
    | some r' =>
      rw [e, e2] at h
      exact ⟨b, r', rfl, rfl, (Option.some.inj h).symm⟩
section
variable {K : PySem.W.Frag} {f : List Addr} {H : Hp} {st : Store}
theorem toPs_dp {n : Nat} (ih : ∀ d v p, RD K f H d v → toP st n d = some p → Dp K H v p ∧ p.canLay0 = true ∧ p.depth ≤ n) : ∀ (l : List D) (vs : List V) (ps : List PyData), RDs K f H l vs → l.mapM (toP st n) = some ps → DpAll K H vs ps ∧ PyData.canLayAll0 ps = true ∧ PyData.depthAll ps ≤ n
  | [], _, ps, h, e => by
    cases h
    have e : ps = [] := (Option.some.inj (show some [] = some ps from e)).symm
    subst e
    exact ⟨.nil, rfl, Nat.zero_le _⟩
  | d :: l, _, ps, h, e => by
    cases h with
    | cons a b =>
      obtain ⟨p, r, e1, e2, rfl⟩ := mapM_cons e
      obtain ⟨x1, x2, x3⟩ := ih d _ p a e1
      obtain ⟨y1, y2, y3⟩ := toPs_dp ih l _ r b e2
      refine ⟨.cons x1 y1, by unfold PyData.canLayAll0; rw [x2, y2]; rfl, ?_⟩
      unfold PyData.depthAll
      exact Nat.max_le.mpr ⟨x3, y3⟩
theorem toP_dp (t : RSt K f H st) : ∀ (n : Nat) (d : D) (v : V) (p : PyData), RD K f H d v → toP st n d = some p → Dp K H v p ∧ p.canLay0 = true ∧ p.depth ≤ n
  | 0, d, v, p, _, e => by cases e
  | n + 1, d, v, p, h, e => by
    have ih := toP_dp t n
    have lists : ∀ {l : List D} {a : Addr} {vs : List V}, (l.mapM (toP st n)).map PyData.list = some p → SqL K H a vs → RDs K f H l vs → Dp K H (.ref a) p ∧ p.canLay0 = true ∧ p.depth ≤ n + 1 := fun {l a vs} e hs hr => by
      cases em : l.mapM (toP st n) with
      | none => rw [em] at e; cases e
      | some ps =>
        rw [em] at e
        have e := Option.some.inj e
        subst e
        obtain ⟨y1, y2, y3⟩ := toPs_dp ih l vs ps hr em
        exact ⟨.lst hs y1, y2, by unfold PyData.depth; omega⟩
    cases h with
    | non => have e := Option.some.inj (show some PyData.none = some p from e); subst e; exact ⟨.non, rfl, by unfold PyData.depth; omega⟩
    | bl b => have e := Option.some.inj (show some (PyData.bool b) = some p from e); subst e; exact ⟨.bl b, rfl, by unfold PyData.depth; omega⟩
    | int b => have e := Option.some.inj (show some (PyData.int b) = some p from e); subst e; exact ⟨.int b, rfl, by unfold PyData.depth; omega⟩
    | str x =>
      have e : (if (PyData.str x).canLay0 = true then some (PyData.str x) else none) = some p := e
      split at e
      · rename_i hc
        have e := Option.some.inj e
        subst e
        exact ⟨.str x, hc, by unfold PyData.depth; omega⟩
      · cases e
    | tup a b c =>
      rename_i ad vs l
      have e : (l.mapM (toP st n)).map PyData.tuple = some p := e
      cases em : l.mapM (toP st n) with
      | none => rw [em] at e; cases e
      | some ps =>
        rw [em] at e
        have e := Option.some.inj e
        subst e
        obtain ⟨y1, y2, y3⟩ := toPs_dp ih l vs ps c em
        exact ⟨.tup (.of a) y1, y2, by unfold PyData.depth; omega⟩
    | fz a b c => exact lists e a.sq c
    | xt a b c =>
      rename_i ad vs l
      have e : (l.mapM (toP st n)).map PyData.tuple = some p := e
      cases em : l.mapM (toP st n) with
      | none => rw [em] at e; cases e
      | some ps =>
        rw [em] at e
        have e := Option.some.inj e
        subst e
        obtain ⟨y1, y2, y3⟩ := toPs_dp ih l vs ps c em
        exact ⟨.tup a.sq y1, y2, by unfold PyData.depth; omega⟩
    | ref a =>
      rename_i k ad
      have e : (match getL st k with
        | some l => (l.mapM (toP st n)).map PyData.list
        | none => none) = some p := e
      split at e
      · rename_i l hl
        obtain ⟨ad', vs, ex, _, ha, hr, _⟩ := RD.lstv t (RD.ref a) (getL_some hl)
        cases ex
        exact lists e (.of ha) hr
      · cases e
end
def toP64 (st : Store) (d : D) : Option PyData := toP st 64 d
theorem shaped_of {p : PyData} (h : p.canLay0 = true) (d : p.depth ≤ 64) : SeqAt.shaped p = true := by
  unfold SeqAt.shaped
  rw [h, decide_eq_true d]
  rfl
def oEq (x y : D) (st : Store) : Res D := match toP64 st x, toP64 st y with
  | some p, some q => .ok (.bl (PyData.eqv p q)) st
  | _, _ => .err
def oNe (x y : D) (st : Store) : Res D := match toP64 st x, toP64 st y with
  | some p, some q => .ok (.bl (!PyData.eqv p q)) st
  | _, _ => .err
/-- is a dict's key -/
def keyOf : D → Option Key
  | .int i => some (.inl i)
  | .str x => some (.inr x)
  | _ => none
def keysOf : D → Option (List Key)
  | .tup l => l.mapM keyOf
  | _ => none
/-- what a dict holds at a key; a dict with a key put in -/
def valD {A : Type} [DecidableEq A] (kvs : List (A × D)) (k : A) : Option D := (kvs.find? fun kv => decide (kv.1 = k)).map (·.2)
def putD {A : Type} [DecidableEq A] (kvs : List (A × D)) (k : A) (v : D) : List (A × D) :=
  if (kvs.any fun kv => decide (kv.1 = k)) = true then kvs.map fun kv => if kv.1 = k then (kv.1, v) else kv else kvs ++ [(k, v)]
/-- what a dict of the store holds at a datum: none: no dict, or no key of its kind -/
def dGet (st : Store) (n : Nat) (x : D) : Option (Option D) := match st[n]? with
  | some (.dK kvs) => match keyOf x with
    | some k => some (valD kvs k)
    | none => none
  | some (.dT kvs) => match keysOf x with
    | some k => some (valD kvs k)
    | none => none
  | _ => none
def isIn (x y : D) (st : Store) : Option Bool := match y with
  | .ref n => match getL st n with
    | some _ => match toP64 st x, toP64 st y with
      | some p, some (.list ds) => some (ds.any fun z => PyData.eqv z p)
      | _, _ => none
    | none => match dGet st n x with
      | some o => some o.isSome
      | none => none
  | .fz _ => match toP64 st x, toP64 st y with
      | some p, some (.list ds) => some (ds.any fun z => PyData.eqv z p)
      | _, _ => none
  | .tup _ => match toP64 st x, toP64 st y with
      | some p, some (.tuple ds) => some (ds.any fun z => PyData.eqv z p)
      | _, _ => none
  | .xt _ => match toP64 st x, toP64 st y with
      | some p, some (.tuple ds) => some (ds.any fun z => PyData.eqv z p)
      | _, _ => none
  | _ => none
def oIn (x y : D) (st : Store) : Res D := match isIn x y st with
  | some b => .ok (.bl b) st
  | none => .err
def oNotIn (x y : D) (st : Store) : Res D := match isIn x y st with
  | some b => .ok (.bl (!b)) st
  | none => .err
def isNon : D → Bool
  | .non => true
  | _ => false
def oIs (x y : D) (st : Store) : Res D := if isNon y = true then .ok (.bl (isNon x)) st else .err
def oIsNot (x y : D) (st : Store) : Res D := if isNon y = true then .ok (.bl (!isNon x)) st else .err
section
variable {K : PySem.W.Frag} {f : List Addr} {H : Hp} {st : Store}
theorem RD.keyv {x : D} {v : V} {k : Key} (h : RD K f H x v) (e : keyOf x = some k) : v = kV k := by
  cases x <;> first | cases e | skip
  · rw [h.intv]; rfl
  · rw [h.strv]; rfl
theorem RD.keys_all : ∀ {l : List D} {vs : List V} {ks : List Key}, RDs K f H l vs → l.mapM keyOf = some ks → vs = ks.map kV
  | [], _, ks, h, e => by
    cases h
    have e : ks = [] := (Option.some.inj (show some [] = some ks from e)).symm
    subst e
    rfl
  | d :: l, _, ks, h, e => by
    cases h with
    | cons a b =>
      obtain ⟨k, r, e1, e2, rfl⟩ := mapM_cons e
      rw [a.keyv e1, RD.keys_all b e2]
      rfl
theorem RD.keysv {x : D} {v : V} {ks : List Key} (h : RD K f H x v) (e : keysOf x = some ks) : ∃ b, v = .ref b ∧ H b = some (.tup (ks.map kV)) := by
  cases x <;> first | cases e | skip
  obtain ⟨a, vs, rfl, ha, _, r⟩ := h.tupv
  exact ⟨a, rfl, by rw [← RD.keys_all r e]; exact ha⟩
theorem find_rel {A : Type} [DecidableEq A] {F : D → V → Prop} : ∀ {kvs : List (A × D)} {vs : List (A × V)}, Paired (fun p q => p.1 = q.1 ∧ F p.2 q.2) kvs vs → ∀ k, (valD kvs k = none ∧ valV vs k = none) ∨ ∃ d v, valD kvs k = some d ∧ valV vs k = some v ∧ F d v := by
  intro kvs vs h
  induction h with
  | nil => intro k; exact .inl ⟨rfl, rfl⟩
  | @cons a b l m hab t ih =>
    intro k
    by_cases e : a.1 = k
    · refine .inr ⟨a.2, b.2, ?_, valV_pos (hab.1 ▸ e), hab.2⟩
      simp [valD, List.find?_cons, e]
    · rw [valV_neg (hab.1 ▸ e), show valD (a :: l) k = valD l k by simp [valD, List.find?_cons, e]]
      exact ih k
theorem put_rel {A : Type} [DecidableEq A] {F : D → V → Prop} {kvs : List (A × D)} {vs : List (A × V)} (h : Paired (fun p q => p.1 = q.1 ∧ F p.2 q.2) kvs vs) {d : D} {v : V} (r : F d v) (k : A) : Paired (fun p q => p.1 = q.1 ∧ F p.2 q.2) (putD kvs k d) (putK vs k v) := by
  have ea : (kvs.any fun kv => decide (kv.1 = k)) = (vs.any fun kv => decide (kv.1 = k)) := by
    induction h with
    | nil => rfl
    | cons hab t ih => rw [List.any_cons, List.any_cons, ih, hab.1]
  unfold putD putK
  rw [ea]
  by_cases hc : (vs.any fun kv => decide (kv.1 = k)) = true
  · rw [if_pos hc, if_pos hc]
    clear ea hc
    induction h with
    | nil => exact .nil
    | @cons a b l m hab t ih =>
      refine .cons ?_ ih
      dsimp only
      by_cases e : a.1 = k
      · rw [if_pos e, if_pos (hab.1 ▸ e)]
        exact ⟨hab.1, r⟩
      · rw [if_neg e, if_neg (hab.1 ▸ e)]
        exact hab
  · rw [if_neg hc, if_neg hc]
    exact Paired.app h (.cons ⟨rfl, r⟩ .nil)
/-- a dict of the store asked -/
theorem dGet_ok (t : RSt K f H st) {n : Nat} {x : D} {o : Option D} {a : Addr} {y : V} (e : dGet st n x = some o) (fa : f[n]? = some a) (hy : RD K f H x y) : ∃ r, DGet H a y r ∧ ((o = none ∧ r = none) ∨ ∃ d v, o = some d ∧ r = some v ∧ RD K f H d v) := by
  unfold dGet at e
  split at e
  · rename_i kvs es
    split at e
    · rename_i k ek
      have e := Option.some.inj e
      obtain ⟨vs, hd, hr, _⟩ := t.at_ n _ a es fa
      rw [hy.keyv ek]
      refine ⟨valV vs k, .k hd, ?_⟩
      rcases find_rel hr k with ⟨z1, z2⟩ | ⟨d, v, z1, z2, z3⟩
      · exact .inl ⟨by rw [← e, z1], z2⟩
      · exact .inr ⟨d, v, by rw [← e, z1], z2, z3⟩
    · cases e
  · rename_i kvs es
    split at e
    · rename_i k ek
      have e := Option.some.inj e
      obtain ⟨vs, hd, hr, _⟩ := t.at_ n _ a es fa
      obtain ⟨b, rfl, hb⟩ := hy.keysv ek
      refine ⟨valV vs k, .t hd hb, ?_⟩
      rcases find_rel hr k with ⟨z1, z2⟩ | ⟨d, v, z1, z2, z3⟩
      · exact .inl ⟨by rw [← e, z1], z2⟩
      · exact .inr ⟨d, v, by rw [← e, z1], z2, z3⟩
    · cases e
  · cases e
theorem RD.non_iff {x : D} {v : V} (h : RD K f H x v) : decide (v = .non) = isNon x := by
  cases h <;> rfl
end
section
variable {X : Cx} {E : XE}
theorem od_eq (hu : X.A.units + 64 < cLine) : OpR X (compareOp .Eq) (rO X.K E oEq) := OpR.of fun pins s sg H f st d e x y v u Q I rx ry t d1 d2 q => by
  unfold oEq at q
  split at q
  · rename_i p p' e1 e2
    obtain ⟨a1, b1, c1⟩ := toP_dp t 64 d x p d1 e1
    obtain ⟨a2, b2, c2⟩ := toP_dp t 64 e y p' d2 e2
    exact op_eqD hu pins s sg H x y v u Q I rx ry ⟨p, p', a1, a2, shaped_of b1 c1, shaped_of b2 c2, q.now t (.bl _)⟩
  · exact q.elim
theorem od_ne (hu : X.A.units + 64 < cLine) : OpR X (compareOp .NotEq) (rO X.K E oNe) := OpR.of fun pins s sg H f st d e x y v u Q I rx ry t d1 d2 q => by
  unfold oNe at q
  split at q
  · rename_i p p' e1 e2
    obtain ⟨a1, b1, c1⟩ := toP_dp t 64 d x p d1 e1
    obtain ⟨a2, b2, c2⟩ := toP_dp t 64 e y p' d2 e2
    exact op_neD hu pins s sg H x y v u Q I rx ry ⟨p, p', a1, a2, shaped_of b1 c1, shaped_of b2 c2, q.now t (.bl _)⟩
  · exact q.elim
theorem od_is : OpR X (compareOp .Is) (rO X.K E oIs) := OpR.of fun pins s sg H f st d e x y v u Q I rx ry t d1 d2 q => by
  unfold oIs at q
  split at q
  · rename_i hn
    refine op_isN pins s sg H x y v u Q I rx ry ⟨?_, ?_⟩
    · cases e <;> first | cases hn | skip
      cases d2
      rfl
    · rw [d1.non_iff]
      exact q.now t (.bl _)
  · exact q.elim
theorem od_isnot : OpR X (compareOp .IsNot) (rO X.K E oIsNot) := OpR.of fun pins s sg H f st d e x y v u Q I rx ry t d1 d2 q => by
  unfold oIsNot at q
  split at q
  · rename_i hn
    refine op_notN pins s sg H x y v u Q I rx ry ⟨?_, ?_⟩
    · cases e <;> first | cases hn | skip
      cases d2
      rfl
    · rw [d1.non_iff]
      exact q.now t (.bl _)
  · exact q.elim
/-- x in y, by a rule for each kind -/
theorem in_any {op : CmpOp} {g : Bool → Bool} (hu : X.A.units + 65 < cLine)
    (hL : OpR X (compareOp op) (fun x y H Q => ∃ d ds, Dp X.K H x d ∧ Dp X.K H y (.list ds) ∧ SeqAt.shaped d = true ∧ SeqAt.shaped (.list ds) = true ∧ Q (.bl (g (ds.any fun z => PyData.eqv z d))) H))
    (hT : OpR X (compareOp op) (fun x y H Q => ∃ d ds, Dp X.K H x d ∧ Dp X.K H y (.tuple ds) ∧ SeqAt.shaped d = true ∧ SeqAt.shaped (.tuple ds) = true ∧ Q (.bl (g (ds.any fun z => PyData.eqv z d))) H))
    (hD : OpR X (compareOp op) (fun x y H Q => ∃ a o, y = .ref a ∧ DGet H a x o ∧ Q (.bl (g o.isSome)) H)) : OpR X (compareOp op) (rO X.K E fun x y st => match isIn x y st with
      | some b => .ok (.bl (g b)) st
      | none => .err) := OpR.of fun pins s sg H f st d e x y v u Q I rx ry t d1 d2 q => by
  split at q
  · rename_i b eb
    have q := q.now t (.bl _)
    have lists : ∀ {p : PyData} {ds : List PyData}, toP64 st d = some p → toP64 st e = some (.list ds) → b = (ds.any fun z => PyData.eqv z p) → wpAny (model X.prog X.w) X.A (compareOp op v u) (EP X pins sg Q) X.xe s := fun {p ds} e1 e2 e3 => by
      obtain ⟨a1, b1, c1⟩ := toP_dp t 64 d x p d1 e1
      obtain ⟨a2, b2, c2⟩ := toP_dp t 64 e y _ d2 e2
      exact hL pins s sg H x y v u Q I rx ry ⟨p, ds, a1, a2, shaped_of b1 c1, shaped_of b2 c2, e3 ▸ q⟩
    unfold isIn at eb
    cases e with
    | ref n =>
      dsimp only at eb
      split at eb
      · split at eb
        · rename_i e1 e2
          exact lists e1 e2 (Option.some.inj eb).symm
        · cases eb
      · split at eb
        · rename_i o eo
          obtain ⟨a, rfl, fa⟩ := d2.refv
          obtain ⟨r, hr, hc⟩ := dGet_ok t eo fa d1
          refine hD pins s sg H x _ v u Q I rx ry ⟨a, r, rfl, hr, ?_⟩
          have er : r.isSome = b := by
            rw [← Option.some.inj eb]
            rcases hc with ⟨h1, h2⟩ | ⟨_, _, h1, h2, _⟩ <;> rw [h1, h2] <;> rfl
          rw [er]
          exact q
        · cases eb
    | fz l =>
      dsimp only at eb
      split at eb
      · rename_i e1 e2
        exact lists e1 e2 (Option.some.inj eb).symm
      · cases eb
    | tup l =>
      dsimp only at eb
      split at eb
      · rename_i p ds e1 e2
        obtain ⟨a1, b1, c1⟩ := toP_dp t 64 d x p d1 e1
        obtain ⟨a2, b2, c2⟩ := toP_dp t 64 _ y _ d2 e2
        exact hT pins s sg H x y v u Q I rx ry ⟨p, ds, a1, a2, shaped_of b1 c1, shaped_of b2 c2, Option.some.inj eb ▸ q⟩
      · cases eb
    | xt l =>
      dsimp only at eb
      split at eb
      · rename_i p ds e1 e2
        obtain ⟨a1, b1, c1⟩ := toP_dp t 64 d x p d1 e1
        obtain ⟨a2, b2, c2⟩ := toP_dp t 64 _ y _ d2 e2
        exact hT pins s sg H x y v u Q I rx ry ⟨p, ds, a1, a2, shaped_of b1 c1, shaped_of b2 c2, Option.some.inj eb ▸ q⟩
      · cases eb
    | _ => cases eb
  · exact q.elim
theorem od_in (hu : X.A.units + 65 < cLine) : OpR X (compareOp .In) (rO X.K E oIn) := by
  have h := in_any (E := E) (g := fun b => b) (X := X) (op := .In) hu (op_inD hu) ?_ ?_
  · exact h
  · intro pins s sg H x y v u Q I rx ry h
    obtain ⟨d, ds, hd, he, sd, se, q⟩ := h
    obtain ⟨as, r1⟩ := Dp.reads I d x v hd rx
    obtain ⟨bs, r2⟩ := Dp.reads I (.tuple ds) y u he ry
    exact SeqAt.in_tuple_reads r2 r1 (SeqAt.canLay_of_shaped se) (SeqAt.canLay_of_shaped sd) (room_in_shaped sd hu) ⟨.bl _, H, I, rfl, q⟩
  · intro pins s sg H x y v u Q I rx ry h
    obtain ⟨a, o, rfl, g, q⟩ := h
    cases ry
    exact d_in (by omega) I g rx fun s' I' => ⟨.bl _, H, I', rfl, q⟩
theorem od_notin (hu : X.A.units + 65 < cLine) : OpR X (compareOp .NotIn) (rO X.K E oNotIn) := by
  have h := in_any (E := E) (g := fun b => !b) (X := X) (op := .NotIn) hu (op_notInD hu) ?_ ?_
  · exact h
  · intro pins s sg H x y v u Q I rx ry h
    obtain ⟨d, ds, hd, he, sd, se, q⟩ := h
    obtain ⟨as, r1⟩ := Dp.reads I d x v hd rx
    obtain ⟨bs, r2⟩ := Dp.reads I (.tuple ds) y u he ry
    exact SeqAt.notIn_tuple_reads r2 r1 (SeqAt.canLay_of_shaped se) (SeqAt.canLay_of_shaped sd) (room_in_shaped sd hu) ⟨.bl _, H, I, rfl, q⟩
  · intro pins s sg H x y v u Q I rx ry h
    obtain ⟨a, o, rfl, g, q⟩ := h
    cases ry
    exact d_notIn (by omega) I g rx fun s' I' => ⟨.bl _, H, I', rfl, q⟩
end
def oCmp (g : Int → Int → Bool) : D → D → Store → Res D
  | .int i, .int j, st => .ok (.bl (g i j)) st
  | _, _, _ => .err
section
variable {X : Cx} {E : XE}
theorem od_cmpI {op : CmpOp} {g : Int → Int → Bool} (h : OpR X (compareOp op) (rI0 fun i j => .bl (g i j))) : OpR X (compareOp op) (rO X.K E (oCmp g)) := OpR.of fun pins s sg H f st d e x y v u Q I rx ry t d1 d2 q => by
  cases d <;> cases e <;> first | exact q.elim | skip
  rename_i i j
  exact h pins s sg H x y v u Q I rx ry ⟨i, j, d1.intv, d2.intv, q.now t (.bl _)⟩
abbrev gLt : Int → Int → Bool := fun i j => decide (i < j)
abbrev gGt : Int → Int → Bool := fun i j => decide (j < i)
abbrev gGe : Int → Int → Bool := fun i j => decide (j ≤ i)
theorem od_lt : OpR X (compareOp .Lt) (rO X.K E (oCmp gLt)) := od_cmpI op_lt
theorem od_gt : OpR X (compareOp .Gt) (rO X.K E (oCmp gGt)) := od_cmpI op_gt
theorem od_ge : OpR X (compareOp .GtE) (rO X.K E (oCmp gGe)) := od_cmpI op_ge
end
/-- the items of a list or tuple -/
def seqOf (st : Store) : D → Option (List D)
  | .tup l => some l
  | .fz l => some l
  | .xt l => some l
  | .ref n => getL st n
  | _ => none
def isTup : D → Bool
  | .tup _ => true
  | .xt _ => true
  | _ => false
def isXt : D → Bool
  | .xt _ => true
  | _ => false
def ixSeq (x y : D) (st : Store) : Option D := match seqOf st x with
  | some l => match y with
    | .int i => atI l i
    | _ => none
  | none => none
def ixDic (x y : D) (st : Store) : Option D := match x with
  | .ref n => match dGet st n y with
    | some o => o
    | none => none
  | _ => none
def oIx (x y : D) (st : Store) : Res D := match ixSeq x y st with
  | some d => .ok d st
  | none => match ixDic x y st with
    | some d => .ok d st
    | none => .err
theorem seqOf_ok {K : PySem.W.Frag} {f : List Addr} {H : Hp} {st : Store} (t : RSt K f H st) {x : D} {l : List D} {v : V} (e : seqOf st x = some l) (h : RD K f H x v) : ∃ a vs, v = .ref a ∧ ((isTup x = false ∧ SqL K H a vs) ∨ (isTup x = true ∧ SqT K H a vs ∧ (isXt x = false → H a = some (.tup vs)))) ∧ RDs K f H l vs ∧ l.length ≤ sizeLine := by
  cases x <;> first | cases e | skip
  · obtain ⟨a, vs, rfl, ha, hl, r⟩ := h.tupv
    exact ⟨a, vs, rfl, .inr ⟨rfl, .of ha, fun _ => ha⟩, r, hl⟩
  · obtain ⟨a, vs, rfl, ha, hl, r⟩ := h.fzv
    exact ⟨a, vs, rfl, .inl ⟨rfl, ha.sq⟩, r, hl⟩
  · obtain ⟨a, vs, rfl, ha, hl, r⟩ := h.xtv
    exact ⟨a, vs, rfl, .inr ⟨rfl, ha.sq, fun z => by cases z⟩, r, hl⟩
  · obtain ⟨a, vs, rfl, _, ha, r, hl⟩ := RD.lstv t h (getL_some e)
    exact ⟨a, vs, rfl, .inl ⟨rfl, .of ha⟩, r, hl⟩
theorem atI_rel {K : PySem.W.Frag} {f : List Addr} {H : Hp} {l : List D} {vs : List V} {i : Int} {d : D} (r : RDs K f H l vs) (e : atI l i = some d) : ∃ v, atI vs i = some v ∧ RD K f H d v := by
  unfold atI at e ⊢
  rw [← r.length]
  cases q : ixN l.length i with
  | none => rw [q] at e; cases e
  | some j =>
    rw [q] at e
    obtain ⟨v, e1, e2⟩ := Paired.get' r.pr (show l[j]? = some d from e)
    exact ⟨v, e1, e2⟩
theorem PE.or' {X : Cx} {e : Expr} {t t' : TE} (h : PE X e t) (h' : PE X e t') : PE X e (fun s H Q => t s H Q ∨ t' s H Q) := ⟨fun pins s sg H Q I q => q.elim (h.run pins s sg H Q I) (h'.run pins s sg H Q I)⟩
section
variable {X : Cx} {E : XE} {pos : Pos} {a b : Expr} {da db : DE}
theorem pd_ix (hu : X.A.units + 1 < cLine) (ha : PE X a (rd X.K E da)) (hb : PE X b (rd X.K E db)) (hs : PlainIx b := by exact fun _ _ => rfl) (hs2 : NoSl b := by exact fun _ _ => rfl) : PE X (.Subscript a b pos) (rd X.K E (dBin oIx da db)) := by
  refine (PE.or' (pe_ix ix_seq ha hb hs) (pe_dget hu ha hb hs2)).mn fun s H Q h => ?_
  obtain ⟨f, r, st, hs, ht, h⟩ := h
  have h0 := h
  unfold dBin at h
  cases e1 : da r st with
  | err => rw [e1] at h; exact h.elim
  | exc e st1 => exact .inl ⟨f, r, st, hs, ht, by rw [e1] at h ⊢; exact h⟩
  | ok x st1 =>
    rw [e1] at h
    have h : post X.K E (RD X.K) f H ((db r st1).bind fun y st2 => oIx x y st2) Q := h
    cases e2 : db r st1 with
    | err => rw [e2] at h; exact h.elim
    | exc e st2 =>
      rw [e2] at h
      refine .inl ⟨f, r, st, hs, ht, ?_⟩
      rw [e1]
      exact fun f1 H1 vx x1 t1 d1 => ⟨f1, r, st1, hs.up x1.toEx0, t1, by rw [e2]; exact fun f2 H2 x2 t2 => h f2 H2 (x1.trans x2) t2⟩
    | ok y st2 =>
      rw [e2] at h
      have h : post X.K E (RD X.K) f H (oIx x y st2) Q := h
      unfold oIx at h
      cases q1 : ixSeq x y st2 with
      | some d =>
        rw [q1] at h
        have h5 : post X.K E (RD X.K) f H (.ok d st2) Q := h
        unfold ixSeq at q1
        cases es : seqOf st2 x with
        | none => rw [es] at q1; cases q1
        | some l =>
          rw [es] at q1
          obtain ⟨i, rfl⟩ : ∃ i, y = .int i := by
            cases y <;> first | cases q1 | exact ⟨_, rfl⟩
          have ed : atI l i = some d := q1
          refine .inl ⟨f, r, st, hs, ht, ?_⟩
          rw [e1]
          refine fun f1 H1 vx x1 t1 d1 => ⟨f1, r, st1, hs.up x1.toEx0, t1, ?_⟩
          rw [e2]
          refine fun f2 H2 vy x2 t2 d2 => ?_
          have d1 := d1.up x2.toEx0
          obtain ⟨p, vs, rfl, hk, hr, _⟩ := seqOf_ok t2 es d1
          obtain ⟨v, ev, dv⟩ := atI_rel hr ed
          have q := post.now (post.up h5 (x1.trans x2)) t2 dv
          rcases hk with ⟨_, hk⟩ | ⟨_, hk, _⟩
          · exact .inl ⟨p, vs, i, v, rfl, d2.intv, hk, ev, q⟩
          · exact .inr (.inl ⟨p, vs, i, v, rfl, d2.intv, hk, ev, q⟩)
      | none =>
        rw [q1] at h
        cases q2 : ixDic x y st2 with
        | none => simp only [q2] at h; exact h.elim
        | some d =>
          simp only [q2] at h
          have h5 : post X.K E (RD X.K) f H (.ok d st2) Q := h
          unfold ixDic at q2
          obtain ⟨n, rfl⟩ : ∃ n, x = .ref n := by
            cases x <;> first | cases q2 | exact ⟨_, rfl⟩
          dsimp only at q2
          cases ed : dGet st2 n y with
          | none => rw [ed] at q2; cases q2
          | some o =>
            rw [ed] at q2
            have q2 : o = some d := q2
            subst q2
            refine .inr ⟨f, r, st, hs, ht, ?_⟩
            rw [e1]
            refine fun f1 H1 vx x1 t1 d1 => ⟨f1, r, st1, hs.up x1.toEx0, t1, ?_⟩
            rw [e2]
            refine fun f2 H2 vy x2 t2 d2 => ?_
            have d1 := d1.up x2.toEx0
            obtain ⟨p, rfl, fa⟩ := d1.refv
            obtain ⟨o, hg, hc⟩ := dGet_ok t2 ed fa d2
            rcases hc with ⟨z, _⟩ | ⟨d', v, z1, z2, z3⟩
            · cases z
            · cases z1
              rw [z2] at hg
              exact ⟨p, v, rfl, hg, post.now (post.up h5 (x1.trans x2)) t2 z3⟩
end
end Pd
set_option maxRecDepth 100000
set_option maxHeartbeats 4000000
namespace Pd
open PySem PySem.Spec PyProof.Rows L2
def cutD (l : List D) (lo hi : Option Int) : List D := (l.drop (HT.sIx l.length 0 lo)).take (HT.sIx l.length l.length hi - HT.sIx l.length 0 lo)
def oSl (x : D) (lo hi : Option Int) (st : Store) : Res D := match seqOf st x with
  | some l => if isXt x = true then .err else if isTup x = true then .ok (.tup (cutD l lo hi)) st else newL (cutD l lo hi) st
  | none => .err
abbrev DP := Env' → Store → Res (Option Int)
def dNoP : DP := fun _ st => .ok none st
def asI : D → Store → Res (Option Int)
  | .int i, st => .ok (some i) st
  | _, _ => .err
def dP (e : DE) : DP := fun r st => (e r st).bind asI
def dSl (a : DE) (lo hi : DP) : DE := fun r st => (a r st).bind fun x st1 => (lo r st1).bind fun l st2 => (hi r st2).bind fun h st3 => oSl x l h st3
def rdP (K : PySem.W.Frag) (E : XE) (e : DP) : L2.St → Hp → (Option Int → Hp → Prop) → Prop := fun s H Q => ∃ f r st, RS K f H r s ∧ RSt K f H st ∧ post K E ROI f H (e r st) Q
section
variable {X : Cx} {E : XE} {pos p2 : Pos} {a : Expr} {lo hi : Option Expr} {e : Expr} {da de : DE} {dl dh : DP}
theorem _root_.L2.PO.mn {X : Cx} {e : Option Expr} {t t' : L2.St → Hp → (Option Int → Hp → Prop) → Prop} (h : PO X e t) (i : ∀ s H Q, t' s H Q → t s H Q) : PO X e t' := ⟨fun pins s sg H Q I q => h.run pins s sg H Q I (i _ _ _ q)⟩
theorem pdp_none : PO X none (rdP X.K E dNoP) := po_none.mn fun s H Q h => by
  obtain ⟨f, r, st, hs, ht, h⟩ := h
  exact post.now (show post X.K E ROI f H (.ok none st) Q from h) ht rfl
theorem pdp_some (h : PE X e (rd X.K E de)) : PO X (some e) (rdP X.K E (dP de)) := (po_some h).mn fun s H Q h => by
  obtain ⟨f, r, st, hs, ht, h⟩ := h
  refine ⟨f, r, st, hs, ht, (post.bind (R' := RD X.K) h).mono fun x H1 ⟨f1, d, st1, x1, t1, d1, h1⟩ => ?_⟩
  obtain ⟨i, rfl⟩ : ∃ i, d = .int i := by
    cases d <;> first | exact h1.elim | exact ⟨_, rfl⟩
  exact ⟨i, d1.intv, post.now (show post X.K E ROI f1 H1 (.ok (some i) st1) Q from h1) t1 rfl⟩
theorem cut_rel {K : PySem.W.Frag} {f : List Addr} {H : Hp} {l : List D} {vs : List V} (r : RDs K f H l vs) (lo hi : Option Int) : RDs K f H (cutD l lo hi) (cutV vs lo hi) := by
  unfold cutD cutV
  rw [← r.length]
  exact .of _ _ _ (Paired.tk (Paired.dr r.pr _) _)
theorem cutD_length (l : List D) (lo hi : Option Int) : (cutD l lo hi).length ≤ l.length := by
  unfold cutD
  rw [List.length_take, List.length_drop]
  omega
theorem sld_any : SlR X (fun x lo hi H Q => ∃ f st d, RSt X.K f H st ∧ RD X.K f H d x ∧ post X.K E (RD X.K) f H (oSl d lo hi st) Q) := by
  refine SlR.mn (sl_list.or sl_tupA) fun x lo hi H Q ⟨f, st, d, t, d1, q⟩ => ?_
  unfold oSl at q
  split at q
  · rename_i l es
    obtain ⟨p, vs, rfl, hk, hr, hl⟩ := seqOf_ok t es d1
    split at q
    · exact q.elim
    rename_i nx
    have hz : (cutD l lo hi).length ≤ sizeLine := Nat.le_trans (cutD_length l lo hi) hl
    rcases hk with ⟨e1, hk⟩ | ⟨e1, _, hk⟩
    · rw [e1, if_neg (by decide)] at q
      exact .inl ⟨p, vs, rfl, hk, fun n hn => RD.lst_new t hn (cut_rel hr lo hi) hz q⟩
    · have hk := hk (by simpa using nx)
      rw [e1, if_pos rfl] at q
      refine .inr ⟨p, vs, rfl, .of hk, fun hw => ?_, fun _ n hn => RD.tup_new t hn (cut_rel hr lo hi) hz q⟩
      have e2 : cutD l lo hi = l := by
        unfold cutD
        rw [hr.length, hw.1, hw.2, List.drop_zero, Nat.sub_zero, ← hr.length, List.take_length]
      rw [e2] at q
      exact post.now q t (.tup hk hl hr)
  · exact q.elim
theorem pd_slice (ha : PE X a (rd X.K E da)) (hl : PO X lo (rdP X.K E dl)) (hh : PO X hi (rdP X.K E dh)) : PE X (.Subscript a (.Slice lo hi none p2) pos) (rd X.K E (dSl da dl dh)) := (pe_slice sld_any ha hl hh).mn fun s H Q h => by
  obtain ⟨f, r, st, hs, ht, h⟩ := h
  refine ⟨f, r, st, hs, ht, (post.bind (R' := RD X.K) h).mono fun x H1 ⟨f1, d, st1, x1, t1, d1, h1⟩ => ?_⟩
  have hs1 := hs.up x1.toEx0
  refine ⟨f1, r, st1, hs1, t1, (post.bind (R' := ROI) h1).mono fun l H2 ⟨f2, l', st2, x2, t2, d2, h2⟩ => ?_⟩
  cases d2
  refine ⟨f2, r, st2, hs1.up x2.toEx0, t2, (post.bind (R' := ROI) h2).mono fun u H3 ⟨f3, u', st3, x3, t3, d3, h3⟩ => ?_⟩
  cases d3
  exact ⟨f3, st3, d, t3, (d1.up x2.toEx0).up x3.toEx0, h3⟩
end
def postS (K : PySem.W.Frag) (E : XE) (f : List Addr) (H : Hp) (o : Out) (D : Ends) : Prop := match o with
  | .nx r st => ∀ f' H' s', Ext f H f' H' → RSt K f' H' st → RS K f' H' r s' → D.nx s' H'
  | .bk r st => ∀ f' H' s', Ext f H f' H' → RSt K f' H' st → RS K f' H' r s' → D.bk s' H'
  | .ct r st => ∀ f' H' s', Ext f H f' H' → RSt K f' H' st → RS K f' H' r s' → D.ct s' H'
  | .rt d st => ∀ f' H' v, Ext f H f' H' → RSt K f' H' st → RD K f' H' d v → D.rt v H'
  | .exc e st => ∀ f' H', Ext f H f' H' → RSt K f' H' st → E e f' H'
  | .err => False
def rdS (K : PySem.W.Frag) (E : XE) (c : DS) : TS := fun D s H => ∃ f r st, RS K f H r s ∧ RSt K f H st ∧ postS K E f H (c r st) D
@[inline] def Res.out {A : Type} (r : Res A) (k : A → Store → Out) : Out := match r with
  | .ok a st => k a st
  | .exc e st => .exc e st
  | .err => .err
section
variable {K : PySem.W.Frag} {E : XE} {A B : Type} {R : List Addr → Hp → A → B → Prop} {f f1 : List Addr} {H H1 : Hp} {D D' : Ends} {o : Out}
theorem postS.up (h : postS K E f H o D) (x : Ext f H f1 H1) : postS K E f1 H1 o D := by
  cases o with
  | nx r st => exact fun f' H' s' y => h f' H' s' (x.trans y)
  | bk r st => exact fun f' H' s' y => h f' H' s' (x.trans y)
  | ct r st => exact fun f' H' s' y => h f' H' s' (x.trans y)
  | rt r st => exact fun f' H' s' y => h f' H' s' (x.trans y)
  | exc e st => exact fun f' H' y => h f' H' (x.trans y)
  | err => exact h
theorem postS.bind {r : Res A} {k : A → Store → Out} (h : postS K E f H (r.out k) D) : post K E R f H r fun b H1 => ∃ f1 a st1, Ext f H f1 H1 ∧ RSt K f1 H1 st1 ∧ R f1 H1 a b ∧ postS K E f1 H1 (k a st1) D := by
  cases r with
  | ok a st => exact fun f' H' b x y z => ⟨f', a, st, x, y, z, postS.up (show postS K E f H (k a st) D from h) x⟩
  | exc e st => exact h
  | err => exact h
theorem postS.nx {r : Env'} {st : Store} {s : L2.St} (h : postS K E f H (.nx r st) D) (t : RSt K f H st) (z : RS K f H r s) : D.nx s H := h f H s .refl t z
end
def dNext : DS := fun r st => .nx r st
def dSeq (a b : DS) : DS := fun r st => match a r st with
  | .nx r1 st1 => b r1 st1
  | o => o
def dCont : DS := fun r st => .ct r st
def dExpr (e : DE) : DS := fun r st => (e r st).out fun _ st1 => .nx r st1
def dRet (e : DE) : DS := fun r st => (e r st).out fun d st1 => .rt d st1
def dIfS (t : DT) (a b : DS) : DS := fun r st => (t r st).out fun c st1 => if c = true then a r st1 else b r st1
def dSet (i : Nat) (e : DE) : DS := fun r st => (e r st).out fun d st1 => .nx (r.set i (some d)) st1
section
variable {X : Cx} {E : XE} {pos : Pos} {e : Expr} {de : DE} {st : Stmt} {rest : List Stmt} {c c' : DS} {t : DT}
theorem RS.set {K : PySem.W.Frag} {f : List Addr} {H : Hp} {r : Env'} {s : L2.St} {d : D} {v : V} (h : RS K f H r s) (i : Nat) (z : RD K f H d v) : RS K f H (r.set i (some d)) (s.set i (some v)) := by
  refine ⟨by rw [List.length_set, List.length_set]; exact h.len, fun j d' e => ?_⟩
  by_cases hj : i = j
  · subst hj
    by_cases hi : i < r.length
    · rw [List.getElem?_set_self hi] at e
      cases e
      rw [h.len] at hi
      exact ⟨v, List.getElem?_set_self hi, z⟩
    · rw [List.getElem?_eq_none (by rw [List.length_set]; omega)] at e
      cases e
  · rw [List.getElem?_set_ne hj] at e ⊢
    exact h.at_ j d' e
theorem RS.unset {K : PySem.W.Frag} {f : List Addr} {H : Hp} {r : Env'} {s : L2.St} (h : RS K f H r s) (i : Nat) : RS K f H (r.set i none) (s.set i none) := by
  refine ⟨by rw [List.length_set, List.length_set]; exact h.len, fun j d' e => ?_⟩
  by_cases hj : i = j
  · subst hj
    by_cases hi : i < r.length
    · rw [List.getElem?_set_self hi] at e
      cases e
    · rw [List.getElem?_eq_none (by rw [List.length_set]; omega)] at e
      cases e
  · rw [List.getElem?_set_ne hj] at e ⊢
    exact h.at_ j d' e
theorem pdss_nil : PSs X [] (rdS X.K E dNext) := pss_nil.mn fun D s H h => by
  obtain ⟨f, r, st, hs, ht, h⟩ := h
  exact postS.nx h ht hs
theorem pdss_one (h : PS X st (rdS X.K E c)) : PSs X [st] (rdS X.K E c) := pss_one h
theorem pdss_cons (h1 : PS X st (rdS X.K E c)) (h2 : PSs X rest (rdS X.K E c')) : PSs X (st :: rest) (rdS X.K E (dSeq c c')) := (pss_cons h1 h2).mn fun D s H h => by
  obtain ⟨f, r, st, hs, ht, h⟩ := h
  refine ⟨f, r, st, hs, ht, ?_⟩
  unfold dSeq at h
  cases e : c r st with
  | nx r1 st1 =>
    rw [e] at h
    exact fun f' H' s' x t1 hs1 => ⟨f', r1, st1, hs1, t1, postS.up h x⟩
  | bk r1 st1 => rw [e] at h; exact h
  | ct r1 st1 => rw [e] at h; exact h
  | rt r1 st1 => rw [e] at h; exact h
  | exc r1 st1 => rw [e] at h; exact h
  | err => rw [e] at h; exact h
theorem pds_cont : PS X (.Continue pos) (rdS X.K E dCont) := ps_continue.mn fun D s H h => by
  obtain ⟨f, r, st, hs, ht, h⟩ := h
  exact h f H s .refl ht hs
theorem pds_expr (he : PE X e (rd X.K E de)) (hs : swapsWith e none pos.line X.env = pure false := by rfl) : PS X (.Expr e pos) (rdS X.K E (dExpr de)) := (ps_expr he hs).mn fun D s H h => by
  obtain ⟨f, r, st, hs, ht, h⟩ := h
  refine ⟨f, r, st, hs, ht, (postS.bind (R := RD X.K) h).mono fun x H1 ⟨f1, d, st1, x1, t1, d1, h1⟩ => postS.nx h1 t1 (hs.up x1.toEx0)⟩
theorem pds_ret (he : PE X e (rd X.K E de)) : PS X (.Return (some e) pos) (rdS X.K E (dRet de)) := (ps_ret he).mn fun D s H h => by
  obtain ⟨f, r, st, hs, ht, h⟩ := h
  refine ⟨f, r, st, hs, ht, (postS.bind (R := RD X.K) h).mono fun x H1 ⟨f1, d, st1, x1, t1, d1, h1⟩ => h1 f1 H1 x .refl t1 d1⟩
theorem pds_if {ce : Expr} {a b : List Stmt} (hc : PT X ce (rdT X.K E t)) (ha : PSs X a (rdS X.K E c)) (hb : PSs X b (rdS X.K E c')) : PS X (.If ce a b pos) (rdS X.K E (dIfS t c c')) := (ps_if hc ha hb).mn fun D s H h => by
  obtain ⟨f, r, st, hs, ht, h⟩ := h
  refine ⟨f, r, st, hs, ht, (postS.bind (R := RB) h).mono fun k H1 ⟨f1, d, st1, x1, t1, d1, h1⟩ => ?_⟩
  cases d1
  cases k with
  | true => exact iteT ⟨f1, r, st1, hs.up x1.toEx0, t1, h1⟩
  | false => exact iteF ⟨f1, r, st1, hs.up x1.toEx0, t1, h1⟩
theorem rdS_set {K : PySem.W.Frag} {i : Nat} {D : Ends} {s : L2.St} {H : Hp} (h : rdS K E (dSet i de) D s H) : tAsg (rd K E de) (gName i) D s H := by
  obtain ⟨f, r, st, hs, ht, h⟩ := h
  exact ⟨f, r, st, hs, ht, (postS.bind (R := RD K) h).mono fun x H1 ⟨f1, d, st1, x1, t1, d1, h1⟩ => postS.nx h1 t1 ((hs.up x1.toEx0).set i d1)⟩
theorem pds_set (i : Nat) {x : Str} {pos' : Pos} (hN : X.N.Nodup) (he : PE X e (rd X.K E de)) (hi : X.N[i]? = some x := by rfl) (hx : Loc X.env.scope x := by first | exact Or.inl rfl | exact Or.inr rfl) (hs : swapsWith e (some (.Name x pos')) pos.line X.env = pure false := by rfl)
    (hf : X.fn x = true ∨ X.env.scope.names.lookup x = some .local := by first | exact .inl rfl | exact .inr rfl) : PS X (.Assign [.Name x pos'] e pos) (rdS X.K E (dSet i de)) := (ps_set hN hi hx he hs hf).mn fun _ _ _ h => rdS_set h
end
abbrev DG := D → Env' → Option Env'
/-- a target's reading does what g does to the slots, at the places sl alone -/
def GOk (K : PySem.W.Frag) (t : TG) (g : DG) (sl : List Nat) : Prop := ∀ (f : List Addr) (H : Hp) (r r' : Env') (s : L2.St) (d : D) (v : V) (Q : L2.St → Hp → Prop), RS K f H r s → RD K f H d v → g d r = some r' →
  (∀ s', RS K f H r' s' → (∀ vs : List Nat, (∀ i ∈ sl, i ∈ vs) → wipe s' vs = wipe s vs) → Q s' H) → t v s H Q
def GsOk (K : PySem.W.Frag) (t : TGs) (g : List D → Env' → Option Env') (sl : List Nat) : Prop := ∀ (f : List Addr) (H : Hp) (r r' : Env') (s : L2.St) (d : List D) (v : List V) (Q : L2.St → Hp → Prop), RS K f H r s → RDs K f H d v → g d r = some r' →
  (∀ s', RS K f H r' s' → (∀ vs : List Nat, (∀ i ∈ sl, i ∈ vs) → wipe s' vs = wipe s vs) → Q s' H) → t v s H Q
def nNm (i : Nat) : DG := fun d r => some (r.set i (some d))
def nsNil : List D → Env' → Option Env' := fun l r => match l with
  | [] => some r
  | _ => none
def nsCons (g : DG) (gs : List D → Env' → Option Env') : List D → Env' → Option Env' := fun l r => match l with
  | d :: l => match g d r with
    | some r1 => gs l r1
    | none => none
  | [] => none
def nTp (gs : List D → Env' → Option Env') : DG := fun d r => match d with
  | .tup l => gs l r
  | _ => none
theorem wipe_set {s : L2.St} {i : Nat} {x : Option V} : ∀ {vs : List Nat}, i ∈ vs → wipe (s.set i x) vs = wipe s vs
  | v :: vs, h => by
    show (wipe (s.set i x) vs).set v none = (wipe s vs).set v none
    by_cases hm : i ∈ vs
    · rw [wipe_set hm]
    · rcases List.mem_cons.mp h with rfl | h
      · have go : ∀ {ws : List Nat}, i ∉ ws → wipe (s.set i x) ws = (wipe s ws).set i x := by
          intro ws
          induction ws with
          | nil => intro _; rfl
          | cons w ws ih =>
            intro hn
            show (wipe (s.set i x) ws).set w none = ((wipe s ws).set w none).set i x
            rw [ih fun z => hn (List.mem_cons_of_mem _ z), List.set_comm _ _ (fun e => hn (by rw [e]; exact List.mem_cons_self))]
        rw [go hm, List.set_set]
      · exact absurd h hm
section
variable {K : PySem.W.Frag}
theorem gok_nm (i : Nat) : GOk K (gName i) (nNm i) [i] := fun f H r r' s d v Q hs hd e h => by
  have e := Option.some.inj e
  subst e
  exact h _ (hs.set i hd) fun vs hv => wipe_set (hv i (List.mem_singleton.mpr rfl))
theorem gsok_nil : GsOk K gNil nsNil [] := fun f H r r' s d v Q hs hd e h => by
  cases hd with
  | nil =>
    have e := Option.some.inj (show some r = some r' from e)
    subst e
    exact ⟨rfl, h s hs fun _ _ => rfl⟩
  | cons a b => cases e
theorem gsok_cons {t : TG} {g : DG} {sl sl' : List Nat} {ts : TGs} {gs : List D → Env' → Option Env'} (h1 : GOk K t g sl) (h2 : GsOk K ts gs sl') : GsOk K (gCons t ts) (nsCons g gs) (sl ++ sl') := fun f H r r' s d v Q hs hd e h => by
  cases hd with
  | nil => cases e
  | cons a b =>
    rename_i d v l vs
    have e : (match g d r with
      | some r1 => gs l r1
      | none => none) = some r' := e
    cases e1 : g d r with
    | none => rw [e1] at e; cases e
    | some r1 =>
      rw [e1] at e
      refine ⟨v, vs, rfl, h1 f H r r1 s d v _ hs a e1 fun s1 hs1 w1 => h2 f H r1 r' s1 l vs Q hs1 b e fun s2 hs2 w2 => h s2 hs2 fun ws hw => ?_⟩
      rw [w2 ws fun i hi => hw i (List.mem_append_right _ hi), w1 ws fun i hi => hw i (List.mem_append_left _ hi)]
theorem gsok_len {ts : TGs} {gs : List D → Env' → Option Env'} {n : Nat} (hn : ∀ l r r', gs l r = some r' → l.length = n) {sl : List Nat} (h : GsOk K ts gs sl) : GOk K (gTup K n ts) (nTp gs) sl := fun f H r r' s d v Q hs hd e h' => by
  cases d <;> first | cases e | skip
  rename_i l
  obtain ⟨a, vs, rfl, ha, _, hr⟩ := hd.tupv
  exact ⟨a, vs, rfl, .of ha, by rw [← hr.length]; exact hn l r r' e, h f H r r' s l vs Q hs hr e h'⟩
theorem nsNil_len (l : List D) (r r' : Env') (h : nsNil l r = some r') : l.length = 0 := by
  cases l with
  | nil => rfl
  | cons a b => cases h
theorem nsCons_len {g : DG} {gs : List D → Env' → Option Env'} {n : Nat} (hn : ∀ l r r', gs l r = some r' → l.length = n) (l : List D) (r r' : Env') (h : nsCons g gs l r = some r') : l.length = n + 1 := by
  cases l with
  | nil => cases h
  | cons a b =>
    unfold nsCons at h
    dsimp only at h
    split at h
    · rw [List.length_cons, hn _ _ _ h]
    · cases h
/-- a, b and a, b, c -/
theorem gok_t2 {t1 t2 : TG} {g1 g2 : DG} {l1 l2 : List Nat} (h1 : GOk K t1 g1 l1) (h2 : GOk K t2 g2 l2) : GOk K (gTup K 2 (gCons t1 (gCons t2 gNil))) (nTp (nsCons g1 (nsCons g2 nsNil))) (l1 ++ (l2 ++ [])) :=
  gsok_len (nsCons_len (nsCons_len nsNil_len)) (gsok_cons h1 (gsok_cons h2 gsok_nil))
theorem gok_t3 {t1 t2 t3 : TG} {g1 g2 g3 : DG} {l1 l2 l3 : List Nat} (h1 : GOk K t1 g1 l1) (h2 : GOk K t2 g2 l2) (h3 : GOk K t3 g3 l3) : GOk K (gTup K 3 (gCons t1 (gCons t2 (gCons t3 gNil)))) (nTp (nsCons g1 (nsCons g2 (nsCons g3 nsNil)))) (l1 ++ (l2 ++ (l3 ++ []))) :=
  gsok_len (nsCons_len (nsCons_len (nsCons_len nsNil_len))) (gsok_cons h1 (gsok_cons h2 (gsok_cons h3 gsok_nil)))
end
/-- target = e, the target of slots alone -/
def dAsg (g : DG) (e : DE) : DS := fun r st => (e r st).out fun d st1 => match g d r with
  | some r1 => .nx r1 st1
  | none => .err
section
variable {X : Cx} {E : XE} {pos : Pos} {e tg : Expr} {de : DE}
theorem pds_asg {t : TG} {g : DG} {sl : List Nat} (ok : GOk X.K t g sl) (hg : PG X tg t) (he : PE X e (rd X.K E de)) (hs : swapsWithSole [tg] e pos.line X.env = pure false := by rfl) (hw : swappedStores [tg] e X.env = pure none := by rfl)
    (h1 : (assignEach [tg] X.env).map (·.2) = [assign tg X.env] := by rfl) : PS X (.Assign [tg] e pos) (rdS X.K E (dAsg g de)) := (ps_asg he hg hs hw h1).mn fun D s H h => by
  obtain ⟨f, r, st, hs, ht, h⟩ := h
  refine ⟨f, r, st, hs, ht, (postS.bind (R := RD X.K) h).mono fun x H1 ⟨f1, d, st1, x1, t1, d1, h1⟩ => ?_⟩
  split at h1
  · rename_i r1 e1
    exact ok f1 H1 r r1 s d x D.nx (hs.up x1.toEx0) d1 e1 fun s' hs' _ => postS.nx h1 t1 hs'
  · exact h1.elim
/-- a, b = x, y: two local names -/
def dPar (i j : Nat) (a b : DE) : DS := fun r st => (a r st).out fun x st1 => (b r st1).out fun y st2 => .nx ((r.set i (some x)).set j (some y)) st2
theorem pds_par (i j : Nat) {x y : Str} {a b : Expr} {da db : DE} {px py pt : Pos} {kt k2 : Nat} {pt2 : Pos} (hc : X.calm = true) (hN : X.N.Nodup) (ha : PE X a (rd X.K E da)) (hb : PE X b (rd X.K E db)) (hi : X.N[i]? = some x := by rfl) (hj : X.N[j]? = some y := by rfl) (hij : i ≠ j := by decide)
    (hx : X.env.scope.names.lookup x = some .local := by rfl) (hy : X.env.scope.names.lookup y = some .local := by rfl) (na : starEach [a, b] X.env = (false, eval a X.env) :: starEach [b] X.env := by rfl) (nb : starEach [b] X.env = (false, eval b X.env) :: starEach [] X.env := by rfl)
    (hw : swappedStores [.Tuple [.Name x px, .Name y py] kt pt] (.Tuple [a, b] k2 pt2) X.env = pure (some [x, y]) := by rfl)
    (hs : swapsWithSole [.Tuple [.Name x px, .Name y py] kt pt] (.Tuple [a, b] k2 pt2) pos.line X.env = pure false := by rfl) :
    PS X (.Assign [.Tuple [.Name x px, .Name y py] kt pt] (.Tuple [a, b] k2 pt2) pos) (rdS X.K E (dPar i j da db)) := (ps_par hc hN hi hj hij hx hy (pa_cons ha (pa_cons hb pa_nil nb) na) hw hs).mn fun D s H h => by
  obtain ⟨f, r, st, hs, ht, h⟩ := h
  refine ⟨f, r, st, hs, ht, (postS.bind (R := RD X.K) h).mono fun u H1 ⟨f1, d, st1, x1, t1, d1, h1⟩ => ?_⟩
  refine ⟨f1, r, st1, hs.up x1.toEx0, t1, (postS.bind (R := RD X.K) h1).mono fun w H2 ⟨f2, d', st2, x2, t2, d2, h2⟩ => ?_⟩
  exact ⟨u, w, rfl, postS.nx h2 t2 ((((hs.up x1.toEx0).up x2.toEx0).set i (d1.up x2.toEx0)).set j d2)⟩
end
/-- item i, by the store as it is: none: no list there; some none: the end -/
abbrev AI := Nat → Store → Option (Option D)
abbrev DIt := Env' → Store → Res (AI × Nat)
def RI (K : PySem.W.Frag) : List Addr → Hp → AI × Nat → It → Prop := fun f H a J => a.2 ≤ sizeLine ∧ ∀ f' H' st', Ext f H f' H' → RSt K f' H' st' → ∀ i, (a.1 i st' = some none → J.stop i H') ∧
  ∀ d, a.1 i st' = some (some d) → J.go i H' ∧ ∀ x H'', J.yld i H' x H'' → Ext f' H' f' H'' ∧ RSt K f' H'' st' ∧ RD K f' H'' d x
def rdI (K : PySem.W.Frag) (E : XE) (e : DIt) : TI := fun s H R => ∃ f r st, RS K f H r s ∧ RSt K f H st ∧ post K E (RI K) f H (e r st) R
def forLoop (nx : AI) (g : DG) (body : DS) : Nat → Nat → DS
  | 0, i, r, st => match nx i st with
    | some none => .nx r st
    | _ => .err
  | k + 1, i, r, st => match nx i st with
    | some none => .nx r st
    | some (some d) => match g d r with
      | some r1 => match body r1 st with
        | .nx r2 st2 => forLoop nx g body k (i + 1) r2 st2
        | .ct r2 st2 => forLoop nx g body k (i + 1) r2 st2
        | .bk r2 st2 => .nx r2 st2
        | o => o
      | none => .err
    | none => .err
def dFor (it : DIt) (g : DG) (body : DS) : DS := fun r st => (it r st).out fun a st1 => forLoop a.1 g body a.2 0 r st1
section
variable {X : Cx} {E : XE} {pos : Pos} {tg iter : Expr} {body : List Stmt} {it : DIt} {g : DG} {sl : List Nat} {t : TG} {c : DS}
theorem rdS_for {K : PySem.W.Frag} (ok : GOk K t g sl) {D : Ends} {s : L2.St} {H : Hp} (h : rdS K E (dFor it g c) D s H) : tFor (rdI K E it) t (rdS K E c) D s H := by
  obtain ⟨f, r, st, hs, ht, h⟩ := h
  refine ⟨f, r, st, hs, ht, (postS.bind (R := RI K) h).mono fun J H1 ⟨f1, a, st1, x1, t1, ⟨_, ri⟩, h1⟩ => ?_⟩
  refine ⟨fun i m s H => ∃ f r st, Ext f1 H1 f H ∧ RS K f H r s ∧ RSt K f H st ∧ postS K E f H (forLoop a.1 g c m i r st) D, ⟨a.2, f1, r, st1, .refl, hs.up x1.toEx0, t1, h1⟩, fun i m s H ⟨f, r, st, x, hs, ht, h⟩ => ?_⟩
  obtain ⟨ristop, rigo⟩ := ri f H st x ht i
  cases m with
  | zero =>
    unfold forLoop at h
    split at h
    · rename_i e
      exact .inl ⟨ristop e, postS.nx h ht hs⟩
    · exact h.elim
  | succ m =>
    unfold forLoop at h
    split at h
    · rename_i e
      exact .inl ⟨ristop e, postS.nx h ht hs⟩
    · rename_i d e
      obtain ⟨go, yld⟩ := rigo d e
      refine .inr ⟨go, fun s H => ∃ f r st, Ext f1 H1 f H ∧ RS K f H r s ∧ RSt K f H st ∧ postS K E f H (forLoop a.1 g c m (i + 1) r st) D, fun s' H' q => ⟨m, Nat.lt_succ_self m, q⟩, fun v H' y => ?_⟩
      obtain ⟨x2, t2, d2⟩ := yld v H' y
      split at h
      · rename_i r1 e1
        refine ok f H' r r1 s d v _ (hs.up x2.toEx0) d2 e1 fun s' hs' _ => ⟨f, r1, st, hs', t2, ?_⟩
        have h := postS.up h x2
        cases e3 : c r1 st with
        | nx r2 st2 =>
          rw [e3] at h
          exact fun f' H'' s'' x3 t3 hs3 => ⟨f', r2, st2, (x.trans x2).trans x3, hs3, t3, postS.up h x3⟩
        | ct r2 st2 =>
          rw [e3] at h
          exact fun f' H'' s'' x3 t3 hs3 => ⟨f', r2, st2, (x.trans x2).trans x3, hs3, t3, postS.up h x3⟩
        | bk r2 st2 => rw [e3] at h; exact h
        | rt r2 st2 => rw [e3] at h; exact h
        | exc r2 st2 => rw [e3] at h; exact h
        | err => rw [e3] at h; exact h.elim
      · exact h.elim
    · exact h.elim
theorem pds_for (ok : GOk X.K t g sl) (hp : PassesOwn (model X.prog X.w) X.A X.env X.xe) (hc : X.calm = true) (hi : PI X tg iter (rdI X.K E it)) (hg : PG X tg t) (hb : PSs X body (rdS X.K E c)) (hs : ∀ x, foldedSetIterable iter X.env x = pure x := by intro _; rfl) :
    PS X (.For tg iter body [] pos) (rdS X.K E (dFor it g c)) := (ps_for hp hc hi hg hb hs).mn fun D s H h => rdS_for ok h
end
end Pd
set_option maxRecDepth 100000
set_option maxHeartbeats 4000000
namespace Pd
open PySem PySem.Spec PyProof.Rows L2
/-- no exception may leave -/
abbrev E00 : XE := fun _ _ _ => False
def wipeD (r : Env') : List Nat → Env'
  | [] => r
  | v :: vs => (wipeD r vs).set v none
def lcLoop (nx : AI) (g : DG) (tt : DT) (te : DE) (r0 : Env') : Nat → Nat → List D → Store → Res D
  | 0, i, acc, st => match nx i st with
    | some none => newL acc st
    | _ => .err
  | k + 1, i, acc, st => match nx i st with
    | some none => newL acc st
    | some (some d) => match g d r0 with
      | some r1 => match tt r1 st with
        | .ok b st1 => if b = true then (match te r1 st1 with
          | .ok y st2 => lcLoop nx g tt te r0 k (i + 1) (acc ++ [y]) st2
          | _ => .err) else lcLoop nx g tt te r0 k (i + 1) acc st1
        | _ => .err
      | none => .err
    | none => .err
def dLc (it : DIt) (own : List Nat) (g : DG) (tt : DT) (te : DE) : DE := fun r st => (it r st).bind fun a st1 => lcLoop a.1 g tt te (wipeD r own) a.2 0 [] st1
def dYes : DT := fun _ st => .ok true st
theorem RS.wipe {K : PySem.W.Frag} {f : List Addr} {H : Hp} {r : Env'} {s : L2.St} (h : RS K f H r s) : ∀ vs, RS K f H (wipeD r vs) (L2.wipe s vs)
  | [] => h
  | v :: vs => (RS.wipe h vs).unset v
theorem wipe_wipe (s : L2.St) (vs : List Nat) : L2.wipe (L2.wipe s vs) vs = L2.wipe s vs := by
  have go : ∀ (ws : List Nat) (z : L2.St), (∀ i ∈ ws, ∀ x, z[i]? = some x → x = none) → L2.wipe z ws = z := by
    intro ws
    induction ws with
    | nil => intro z _; rfl
    | cons w ws ih =>
      intro z h
      show (L2.wipe z ws).set w none = z
      rw [ih z fun i hi => h i (List.mem_cons_of_mem _ hi)]
      refine List.ext_getElem? fun j => ?_
      by_cases hj : w = j
      · subst hj
        cases q : z[w]? with
        | none => rw [List.getElem?_eq_none (by rw [List.length_set]; exact List.getElem?_eq_none_iff.mp q)]
        | some x =>
          have := h w List.mem_cons_self x q
          subst this
          rw [List.getElem?_set_self (List.getElem?_eq_some_iff.mp q).1]
      · rw [List.getElem?_set_ne hj]
  refine go vs _ fun i hi x hx => ?_
  cases x with
  | none => rfl
  | some v => exact absurd hi (wipe_some hx).2
section
variable {K : PySem.W.Frag} {E : XE} {it : DIt} {g : DG} {sl : List Nat} {t : TG} {tt : DT} {te : DE}
theorem post.ok {A B : Type} {R : List Addr → Hp → A → B → Prop} {f : List Addr} {H : Hp} {r : Res A} {Q : B → Hp → Prop} {a : A} {st : Store} (e : r = .ok a st) (h : ∀ f' H' b, Ext f H f' H' → RSt K f' H' st → R f' H' a b → Q b H') : post K E R f H r Q := by
  rw [e]
  exact h
theorem rd_lc (ok : GOk K t g sl) {own : List Nat} (hv : ∀ i ∈ sl, i ∈ own) {s : L2.St} {H : Hp} {Q : VK} (h : rd K E (dLc it own g tt te) s H Q) : tLc (rdI K E it) t (rdT K E00 tt) (rd K E00 te) own s H Q := by
  obtain ⟨f, r, st, hs, ht, h⟩ := h
  refine ⟨f, r, st, hs, ht, (post.bind (R' := RI K) h).mono fun J H1 ⟨f1, a, st1, x1, t1, ⟨hz, ri⟩, h1⟩ D hD => ?_⟩
  have hs1 := hs.up x1.toEx0
  have dn : D ∉ f1 := fun m => by
    obtain ⟨w, hw, _⟩ := t1.mem m
    rw [hD] at hw
    cases hw
  -- at turn i, with m turns left: the list so far
  refine ⟨fun i m H => ∃ f st acc vs, Ext f1 H1 f H ∧ RSt K f H st ∧ H D = some (.lst vs) ∧ D ∉ f ∧ RDs K f H acc vs ∧ acc.length ≤ i ∧ i + m = a.2 ∧ post K E (RD K) f1 H1 (lcLoop a.1 g tt te (wipeD r own) m i acc st) Q,
    ⟨a.2, f1, st1, [], [], ext_new hD, t1.new hD, upd_same, dn, .nil, Nat.le_refl _, Nat.zero_add _, h1⟩, fun i m H ⟨f, st, acc, vs, x, ht, hd, hn, hr, hl, hm, h⟩ => ?_⟩
  obtain ⟨ristop, rigo⟩ := ri f H st x ht i
  have fin : post K E (RD K) f1 H1 (newL acc st) Q → Q (.ref D) H := fun h => by
    have x2 : Ext f1 H1 (f ++ [D]) H := ⟨⟨x.pre.trans (List.prefix_append f [D]), x.im⟩, fun c hc hn1 => by
      rcases List.mem_append.mp hc with hc | hc
      · exact x.nw c hc hn1
      · rw [List.mem_singleton] at hc; rw [hc]; exact hD, x.fr⟩
    have x0 : Ex0 f H (f ++ [D]) H := ⟨List.prefix_append f [D], fun _ _ h _ => h⟩
    have t2 : RSt K (f ++ [D]) H (st ++ [.lst acc]) := ht.put hn x0 (fun _ _ => rfl) ⟨vs, hd, hr.up x0, by omega⟩
    refine h (f ++ [D]) H (.ref D) x2 t2 (.ref ?_)
    rw [← ht.len]
    simp
  have dstay : ∀ {f' : List Addr} {H' : Hp}, Ext f H f' H' → H' D = some (.lst vs) ∧ D ∉ f' := fun {f' H'} y => ⟨y.fr _ _ hd hn, fun m => by
    have z := y.nw D m hn
    rw [hd] at z
    cases z⟩
  cases m with
  | zero =>
    unfold lcLoop at h
    split at h
    · rename_i e
      exact .inl ⟨ristop e, fin h⟩
    · exact h.elim
  | succ m =>
    unfold lcLoop at h
    split at h
    · rename_i e
      exact .inl ⟨ristop e, fin h⟩
    · rename_i d e
      obtain ⟨go, yld⟩ := rigo d e
      refine .inr ⟨go, fun H => ∃ f st acc vs, Ext f1 H1 f H ∧ RSt K f H st ∧ H D = some (.lst vs) ∧ D ∉ f ∧ RDs K f H acc vs ∧ acc.length ≤ i + 1 ∧ i + 1 + m = a.2 ∧ post K E (RD K) f1 H1 (lcLoop a.1 g tt te (wipeD r own) m (i + 1) acc st) Q, fun H' q => ⟨m, Nat.lt_succ_self m, q⟩, fun v H' y => ?_⟩
      obtain ⟨x2, t2, d2⟩ := yld v H' y
      obtain ⟨hd2, hn2⟩ := dstay x2
      have hw : RS K f H' (wipeD r own) (L2.wipe s own) := ((hs1.up x.toEx0).up x2.toEx0).wipe own
      split at h
      · rename_i r1 e1
        refine ok f H' _ r1 _ d v _ hw d2 e1 fun s' hs' w' => ⟨?_, f, r1, st, hs', t2, ?_⟩
        · rw [w' own hv]
          exact wipe_wipe s own
        · split at h
          · rename_i b st2 e2
            refine post.ok e2 fun f3 H3 b' x3 t3 eb => ?_
            cases eb
            have hd3 := (dstay (x2.trans x3)).1
            have hn3 := (dstay (x2.trans x3)).2
            have xx := (x.trans x2).trans x3
            have hr3 := hr.up (x2.trans x3).toEx0
            cases b with
            | true =>
              rw [if_pos rfl] at h
              refine iteT ⟨f3, r1, st2, hs'.up x3.toEx0, t3, ?_⟩
              split at h
              · rename_i z st3 e3
                refine post.ok e3 fun f4 H4 w x4 t4 d4 => ?_
                obtain ⟨hd4, hn4⟩ := dstay ((x2.trans x3).trans x4)
                have hr4 := hr3.up x4.toEx0
                refine ⟨vs, hd4, by rw [← hr.length]; omega, ?_⟩
                have hne : ∀ c ∈ f4, c ≠ D := fun c hc e => hn4 (e ▸ hc)
                have x5 : Ex0 f4 H4 f4 (upd H4 D (.lst (vs ++ [w]))) := ⟨List.prefix_refl f4, fun b o hb nm => by
                  rw [upd_ne fun e => by
                    rw [e, hd4] at hb
                    cases hb
                    exact nm trivial]
                  exact hb⟩
                refine ⟨f4, st3, acc ++ [z], vs ++ [w], ⟨⟨(xx.trans x4).pre, fun b o hb nm => ?_⟩, (xx.trans x4).nw, fun b o hb hn => ?_⟩, ⟨t4.len, t4.nd, fun n o c q1 q2 => (t4.at_ n o c q1 q2).up x5 (upd_ne (hne c (List.mem_of_getElem? q2)))⟩, upd_same, hn4, (hr4.app (.cons d4 .nil)).up x5, by rw [List.length_append]; exact Nat.succ_le_succ hl, by omega, h⟩
                · exact x5.im _ _ ((xx.trans x4).im _ _ hb nm) nm
                · rw [upd_ne fun e => by
                    rw [e, hD] at hb
                    cases hb]
                  exact (xx.trans x4).fr _ _ hb hn
              · exact h.elim
            | false =>
              rw [if_neg (by decide)] at h
              exact iteF ⟨f3, st2, acc, vs, xx, t3, hd3, hn3, hr3, by omega, by omega, h⟩
          · exact h.elim
      · exact h.elim
    · exact h.elim
end
section
variable {X : Cx} {E : XE} {pos : Pos} {elt tg iter : Expr} {ifs : List Expr} {scope : Scope} {own : List (Str × Nat)} {it : DIt} {g : DG} {sl : List Nat} {t : TG} {tt : DT} {te : DE}
theorem pds_tests0 : PTs X [] (rdT X.K E dYes) := ⟨fun pins s sg H Q I h => pts_nil.run pins s sg H Q I (by
  obtain ⟨f, r, st, hs, ht, h⟩ := h
  exact post.now (show post X.K E RB f H (.ok true st) Q from h) ht rfl)⟩
/-- a list comprehension's parts -/
theorem pd_lc (ok : GOk X.K t g sl) (hc : X.calm = true) (hN : X.N.Nodup) (bo : BlkOk X.N X.env.scope scope own) (hi : PI X tg iter (rdI X.K E it))
    (hg : ∀ (s : Shared) (H : Hp) (C : Addr) (cl : List (Str × Addr)) (fp : List Addr), PG (X.blk s H scope (compEnvC scope cl C X.env) fp) tg t) (ht : ∀ (s : Shared) (H : Hp) (C : Addr) (cl : List (Str × Addr)) (fp : List Addr), PTs (X.blk s H scope (compEnvC scope cl C X.env) fp) ifs (rdT X.K E00 tt))
    (he : ∀ (s : Shared) (H : Hp) (C : Addr) (cl : List (Str × Addr)) (fp : List Addr), PE (X.blk s H scope (compEnvC scope cl C X.env) fp) elt (rd X.K E00 te)) (hv : ∀ i ∈ sl, i ∈ own.map (·.2) := by decide) (hs : ∀ x, foldedSetIterable iter X.env x = pure x := by intro _; rfl) :
    PE X (.ListComp elt [⟨tg, iter, ifs, 0⟩] scope pos) (rd X.K E (dLc it (own.map (·.2)) g tt te)) := (pe_lc hc hN hi bo hg ht he hs).mn fun s H Q h => rd_lc ok hv h
theorem pds_setLc (i : Nat) {y : Str} {py spos : Pos} (ok : GOk X.K t g sl) (hc : X.calm = true) (hN : X.N.Nodup) (bo : BlkOk X.N X.env.scope scope own) (hi : PI X tg iter (rdI X.K E it))
    (hg : ∀ (s : Shared) (H : Hp) (C : Addr) (cl : List (Str × Addr)) (fp : List Addr), PG (X.blk s H scope (compEnvC scope cl C X.env) fp) tg t) (ht : ∀ (s : Shared) (H : Hp) (C : Addr) (cl : List (Str × Addr)) (fp : List Addr), PTs (X.blk s H scope (compEnvC scope cl C X.env) fp) ifs (rdT X.K E00 tt))
    (he : ∀ (s : Shared) (H : Hp) (C : Addr) (cl : List (Str × Addr)) (fp : List Addr), PE (X.blk s H scope (compEnvC scope cl C X.env) fp) elt (rd X.K E00 te)) (hy : X.N[i]? = some y := by rfl) (hyl : X.env.scope.names.lookup y = some .local := by rfl)
    (hsw : swapsWith (.ListComp elt [⟨tg, iter, ifs, 0⟩] scope pos) (some (.Name y py)) spos.line X.env = pure true := by exact sw_true rfl rfl rfl (by decide +kernel)) (hv : ∀ i ∈ sl, i ∈ own.map (·.2) := by decide) (hs : ∀ x, foldedSetIterable iter X.env x = pure x := by intro _; rfl) :
    PS X (.Assign [.Name y py] (.ListComp elt [⟨tg, iter, ifs, 0⟩] scope pos) spos) (rdS X.K E (dSet i (dLc it (own.map (·.2)) g tt te))) := (ps_setLc hc hN hy hyl hsw hi bo hg ht he hs).mn fun D s H h => by
  obtain ⟨f, r, st, hs, ht, h⟩ := rdS_set h
  exact rd_lc ok hv ⟨f, r, st, hs, ht, h⟩
end
end Pd
set_option maxRecDepth 100000
set_option maxHeartbeats 4000000
namespace Pd
open PySem PySem.Spec PyProof.Rows L2
/-- an iterator of new tuples, from a walk known at each turn -/
def ItT (go : Nat → Hp → Prop) (y : Nat → Hp → List V → Prop) (stop : Nat → Hp → Prop) : It :=
  ⟨go, fun i H v H' => ∃ T xs, v = .ref T ∧ H T = none ∧ H' = upd H T (.tup xs) ∧ y i H xs, stop⟩
theorem turn_T {P : Program} {w : World} {K : PySem.W.Frag} {elts : List Expr} {kk : Nat} {tpos : Pos} {it : Addr} {fp wr : List Addr} {tn : Nat → Heap → Prop} {go : Nat → Hp → Prop} {y : Nat → Hp → List V → Prop} {stop : Nat → Hp → Prop}
    (mem : it ∈ fp) (hwr : ∀ b ∈ wr, b ∈ fp) (obj : ∀ i h, tn i h → ∀ b ∈ fp, ∃ o, h.get? b = some o ∧ ∀ v, o.data ≠ .cell v)
    (keep : ∀ i h h', tn i h → (∀ b ∈ fp, ∀ o, h.get? b = some o → h'.get? b = some o) → tn i h')
    (walk : ∀ (X : Cx), X.prog = P → X.w = w → X.K = K → X.A.handled = none → ∀ (i : Nat) (pins : List (Addr × Obj)) (s : Shared) (sg : L2.St) (H : Hp), Inv X pins sg H s → tn i s.heap → (go i H ∨ stop i H) →
      ∃ n Pt St Mid fpW, WalksT P w X.A it fpW wr n Pt St Mid ∧ St i s.heap ∧ (go i H → i < n) ∧ (stop i H → i = n) ∧ (∀ vals, i < n → Pt i vals → ∃ xs, Vals xs vals.toList ∧ xs.length ≤ sizeLine ∧ y i H xs) ∧ ∀ h', St (i + 1) h' → tn (i + 1) h')
    (self : ∀ (A : Around) (i : Nat) (s : Shared) (Q : Value → Shared → Prop) (E : Value → Shared → Prop), tn i s.heap → Q (.ref it) s → wpAny (model P w) A (pyIter (.ref it)) Q E s) :
    Turn P w K (.Tuple elts kk tpos) (ItT go y stop) fp it tn where
  mem := mem
  obj := obj
  keep := keep
  self := self
  item := by
    intro X hP hw hK hc i pins s sg H E I hf st hg
    subst hP hw hK
    obtain ⟨n, Pt, St, Mid, fpW, W, st0, hn, _, hv, hnext⟩ := walk X rfl rfl rfl (I.ok.hd hc) i pins s sg H I st (.inl hg)
    refine W.item i s _ _ (hn hg) st0 fun T vals h' tk hP hT hIsT hMid hk => ⟨.ref T, rfl, ?_⟩
    refine W.go elts kk tpos i T { s with heap := h', toks := tk } _ _ hMid fun h2 st2 hk2 => ?_
    obtain ⟨xs, rx, hz, hy⟩ := hv vals (hn hg) hP
    obtain ⟨o, ho, hcl, m, hd⟩ := hIsT
    have hap := W.apart i T h' hMid
    have hT2 : h2.get? T = some o := hk2 T o hap ho
    have new : ObjOk X.prog X.w (upd H T (.tup xs)) h2 T (.tup xs) := ⟨hz, vals.toList, rx, ⟨o, hT2, hcl, m, by simpa using hd⟩⟩
    have I1 : Inv X pins sg (upd H T (.tup xs)) { s with heap := h2, toks := tk } :=
      I.turnedNew (ch := wr) (fun b ob hb q => hk2 b ob hb (hk b ob hb q)) (fun b hb => hf b (hwr b hb)) hT new
    refine ⟨.ref T, _, I1, rfl, ⟨T, xs, rfl, I.hok.fresh hT, rfl, hy⟩, hnext h2 st2, fun b hb => ?_⟩
    obtain ⟨ob, hob, _⟩ := obj i s.heap st b hb
    rw [upd_ne (Nat.ne_of_lt (Nat.lt_of_lt_of_le (Heap.lt_size hob) hT))]
    exact (hf b hb).1
  done := by
    intro X hP hw hK hc i pins s sg H E I hf st hg
    subst hP hw hK
    obtain ⟨n, Pt, St, Mid, fpW, W, st0, _, hn, _⟩ := walk X rfl rfl rfl (I.ok.hd hc) i pins s sg H I st (.inr hg)
    have e := hn hg
    subst e
    refine W.done s _ _ st0 fun h' tk hk => ⟨rfl, ?_⟩
    refine I.step (g' := s.gens) (d' := s.drawn) (ch := wr) (fun b hb => ⟨(hf b (hwr b hb)).2.2.2.1, (hf b (hwr b hb)).2.1, (hf b (hwr b hb)).2.2.2.2.1, (hf b (hwr b hb)).2.2.2.2.2⟩) (fun b o _ _ hc e _ => hk b o hc e) (fun b o _ _ hc e _ => ⟨o.slots, hk b o hc e⟩) (fun _ _ _ _ n => n)
      (fun b o hc e => ⟨o, hk b o hc e⟩) (fun _ _ e => e) (fun _ _ _ e => e) (fun b ps e => ⟨#[], by rw [e]; simp⟩) (fun m hm => ?_) (fun b u e => ?_) I.bare
    · obtain ⟨o, es, ep, ho, r⟩ := hm
      exact ⟨o, es, ep, hk _ o (fun z => (hf _ (hwr _ z)).2.1 rfl) ho, r⟩
    · have nw : ∀ c u, H c = some u → c ∉ wr := fun c u q z => by
        rw [(hf c (hwr c z)).1] at q
        cases q
      refine (I.hok b u e).stay (fun c v hc q => hk c v ?_ q) (fun _ q => q) fun _ _ q => q
      rcases hc with z | z
      · rw [z]; exact nw b u e
      · exact nw c _ z
def SqK (K : PySem.W.Frag) (H : Hp) (k : Bool) (a : Addr) (xs : List V) : Prop := if k = true then SqT K H a xs else SqL K H a xs
def itSt (k : Bool) (h : Heap) (it a : Addr) (i : Nat) : Prop := if k = true then h.IsTupleIter it a i else h.IsListIter it a i
def isSq (k : Bool) (h : Heap) (a : Addr) (items : Array Value) : Prop := if k = true then h.IsTuple a items else h.IsList a items
section
variable {X : Cx} {pins : List (Addr × Obj)} {sg : L2.St} {H : Hp} {s : Shared} {k : Bool} {a : Addr} {xs ys : List V}
theorem SqK.items (I : Inv X pins sg H s) (h : SqK X.K H k a xs) : ∃ its : List Value, Vals xs its ∧ isSq k s.heap a its.toArray ∧ xs.length ≤ sizeLine := by
  unfold SqK at h
  unfold isSq
  cases k with
  | true =>
    rw [if_pos rfl] at h
    obtain ⟨its, r, p, z⟩ := I.tuple h
    exact ⟨its, r, by rw [if_pos rfl]; exact p, z⟩
  | false =>
    rw [if_neg (by decide)] at h
    obtain ⟨its, r, p, z⟩ := I.list h
    exact ⟨its, r, by rw [if_neg (by decide)]; exact p.isList, z⟩
theorem drawsK {prog : Program} {w : World} {A : Around} (hh : A.handled = none) (k : Bool) (it l : Addr) (hne : l ≠ it) (items : Array Value) :
    Draws prog w A it [it, l] items.size (fun i v => items[i]? = some v) (fun i h => itSt k h it l i ∧ isSq k h l items) := by
  cases k with
  | true => exact Draws.tuple hh it l hne items
  | false => exact Draws.list hh it l hne items
theorem itSt.at_ {h h' : Heap} {it a : Addr} {i : Nat} (x : itSt k h it a i) (e : ∀ o, h.get? it = some o → h'.get? it = some o) : itSt k h' it a i := by
  cases k with
  | true => exact Heap.IsTupleIter.at x e
  | false => exact Heap.IsListIter.at x e
theorem itSt.ob {h : Heap} {it a : Addr} {i : Nat} (x : itSt k h it a i) : ∃ o, h.get? it = some o ∧ ∀ v, o.data ≠ .cell v := by
  cases k with
  | true =>
    obtain ⟨o, ho, hc, hd⟩ := (show h.IsTupleIter it a i from x)
    exact ⟨o, ho, fun v q => by rw [hd] at q; cases q⟩
  | false =>
    obtain ⟨o, ho, hc, hd⟩ := (show h.IsListIter it a i from x)
    exact ⟨o, ho, fun v q => by rw [hd] at q; cases q⟩
theorem beginsK (k : Bool) (l : Addr) (items : Array Value) : ∃ o, Begins (.ref l) o (fun h => isSq k h l items) ∧ ∀ h it, h.get? it = some o → itSt k h it l 0 := by
  cases k with
  | true => exact ⟨_, begins_tuple l items, fun h it e => ⟨_, e, rfl, rfl⟩⟩
  | false => exact ⟨_, begins_list l items, fun h it e => ⟨_, e, rfl, rfl⟩⟩
/-- the one list or tuple at an address -/
theorem SqK.inj (I : Inv X pins sg H s) (h : SqK X.K H k a xs) (h' : SqK X.K H k a ys) : xs = ys := by
  cases k with
  | true => exact I.tuple_inj h h'
  | false => exact I.list_inj h h'
end
def ItZ (K : PySem.W.Frag) (k1 k2 : Bool) (a b : Addr) : It := ItT
  (fun i H => ∃ xs ys, SqK K H k1 a xs ∧ SqK K H k2 b ys ∧ i < xs.length ∧ i < ys.length)
  (fun i H l => ∀ xs ys, SqK K H k1 a xs → SqK K H k2 b ys → ∃ x y, l = [x, y] ∧ xs[i]? = some x ∧ ys[i]? = some y)
  (fun i H => ∃ xs ys, SqK K H k1 a xs ∧ SqK K H k2 b ys ∧ min xs.length ys.length = i)
theorem turn_Z {P : Program} {w : World} {K : PySem.W.Frag} {elts : List Expr} {kk : Nat} {tpos : Pos} {k1 k2 : Bool} {a b z TI TO i1 i2 : Addr} (S : ZipSep2 z TI TO i1 i2 [i1, a] [i2, b]) (ha : a ≠ i1) (hb : b ≠ i2) :
    Turn P w K (.Tuple elts kk tpos) (ItZ K k1 k2 a b) [z, TI, TO, i1, i2] z (fun i h => IsZip h z TI TO .none ∧ IsTupOf2 h TI (.ref i1) (.ref i2) ∧ (∃ a1 a2, IsTupOf2 h TO a1 a2) ∧ itSt k1 h i1 a i ∧ itSt k2 h i2 b i) := by
  refine turn_T (wr := [z, TO, i1, i2]) (by simp) (fun b hb => by
    simp only [List.mem_cons, List.not_mem_nil, or_false] at hb ⊢
    rcases hb with e | e | e | e
    · exact .inl e
    · exact .inr (.inr (.inl e))
    · exact .inr (.inr (.inr (.inl e)))
    · exact .inr (.inr (.inr (.inr e)))) (fun i h ⟨h1, h2, ⟨a1, a2, h3⟩, h4, h5⟩ c hc => ?_) (fun i h h' ⟨h1, h2, ⟨a1, a2, h3⟩, h4, h5⟩ hk => ?_) (fun X hP hw hK hh i pins s sg H I st hgs => ?_) (fun A i s Q E st h => wpAny_pyIter_zip st.1 h)
  · simp only [List.mem_cons, List.not_mem_nil, or_false] at hc
    rcases hc with e | e | e | e | e
    · rw [e]; exact ⟨_, h1, fun v q => by cases q⟩
    · rw [e]; exact ⟨_, h2, fun v q => by cases q⟩
    · rw [e]; exact ⟨_, h3, fun v q => by cases q⟩
    · rw [e]; exact h4.ob
    · rw [e]; exact h5.ob
  · exact ⟨hk z (by simp) _ h1, hk TI (by simp) _ h2, ⟨a1, a2, hk TO (by simp) _ h3⟩, h4.at_ fun o e => hk i1 (by simp) o e, h5.at_ fun o e => hk i2 (by simp) o e⟩
  · subst hP hw hK
    obtain ⟨h1, h2, h3, h4, h5⟩ := st
    obtain ⟨xs, ys, qx, qy⟩ : ∃ xs ys, SqK X.K H k1 a xs ∧ SqK X.K H k2 b ys := by
      rcases hgs with ⟨xs, ys, qx, qy, _⟩ | ⟨xs, ys, qx, qy, _⟩ <;> exact ⟨xs, ys, qx, qy⟩
    obtain ⟨its1, r1, p1, z1⟩ := SqK.items I qx
    obtain ⟨its2, r2, p2, z2⟩ := SqK.items I qy
    have e1 : its1.toArray.size = xs.length := by rw [List.size_toArray]; exact r1.length.symm
    have e2 : its2.toArray.size = ys.length := by rw [List.size_toArray]; exact r2.length.symm
    refine ⟨_, _, _, _, _, WalksT.zipD2 S (drawsK (A := X.A.in1) hh k1 i1 a ha its1.toArray) (drawsK (A := X.A.in1) hh k2 i2 b hb its2.toArray), ⟨h1, h2, h3, ⟨h4, p1⟩, ⟨h5, p2⟩⟩, fun hg => ?_, fun hg => ?_, fun vals hi hp => ?_, fun h' st' => ⟨st'.1, st'.2.1, st'.2.2.1, st'.2.2.2.1.1, st'.2.2.2.2.1⟩⟩
    · obtain ⟨xs', ys', q1, q2, l1, l2⟩ := hg
      rw [SqK.inj I q1 qx] at l1
      rw [SqK.inj I q2 qy] at l2
      rw [e1, e2]
      exact Nat.lt_min.mpr ⟨l1, l2⟩
    · obtain ⟨xs', ys', q1, q2, l1⟩ := hg
      rw [SqK.inj I q1 qx, SqK.inj I q2 qy] at l1
      rw [e1, e2]
      exact l1.symm
    · obtain ⟨x1, x2, hx1, hx2, rfl⟩ := hp
      obtain ⟨v1, g1, d1⟩ := Paired.getR r1 (i := i) (y := x1) (by simpa using hx1)
      obtain ⟨v2, g2, d2⟩ := Paired.getR r2 (i := i) (y := x2) (by simpa using hx2)
      refine ⟨[v1, v2], .cons d1 (.cons d2 .nil), by show 2 ≤ sizeLine; decide, fun xs' ys' q1 q2 => ⟨v1, v2, rfl, ?_, ?_⟩⟩
      · rw [SqK.inj I q1 qx]; exact g1
      · rw [SqK.inj I q2 qy]; exact g2
def iZK (K : PySem.W.Frag) (ta : TA) : TI := fun s H R => ta s H fun vs H1 => ∃ a b k1 k2 xs ys, vs = [.ref a, .ref b] ∧ SqK K H1 k1 a xs ∧ SqK K H1 k2 b ys ∧ R (ItZ K k1 k2 a b) H1
theorem isSq.lt {h : Heap} {k : Bool} {a : Addr} {its : Array Value} (x : isSq k h a its) : a < h.objs.size := by
  cases k with
  | true => obtain ⟨o, ho, _⟩ := (show h.IsTuple a its from x); exact Heap.lt_size ho
  | false => obtain ⟨o, ho, _⟩ := (show h.IsList a its from x); exact Heap.lt_size ho
theorem vals_refs2 {a b : Addr} {us : List Value} (r : Vals [V.ref a, V.ref b] us) : us = [Value.ref a, Value.ref b] := by
  match us, r with
  | _, .cons x (.cons y .nil) =>
    cases x
    cases y
    rfl
theorem pi_zipK {X : Cx} {e e2 : Expr} {ta : TA} {p pos tpos : Pos} {elts : List Expr} {kk : Nat} (hg : Gl X "zip") (hm : X.mg "zip" = none) (ha : PA X [e, e2] ta)
    (hs : starEach [e, e2] X.env = (false, eval e X.env) :: starEach [e2] X.env := by rfl) (hpl : (backTo pos (starEach [e2] X.env)).any (·.1) = false := by rfl) : PI X (.Tuple elts kk tpos) (.Call (.Name "zip" p) [e, e2] [] pos) (iZK X.K ta) := by
  refine ⟨fun pins s sg H R I h => ?_⟩
  refine Call_ (ld_blt I hg hm PyProof.Rows.boot_zip (PyProof.Rows.callWith_type1 (thn (ha.run pos pins s sg H _ I h) fun us s1 ⟨vs, H1, I1, r1, q1⟩ => ?_) hs hpl))
  obtain ⟨a, b, k1, k2, xs, ys, ex, qx, qy, q⟩ := q1
  subst ex
  obtain rfl := vals_refs2 r1
  obtain ⟨its1, rv1, p1, z1⟩ := SqK.items I1 qx
  obtain ⟨its2, rv2, p2, z2⟩ := SqK.items I1 qy
  obtain ⟨o1, B1, b1⟩ := beginsK k1 a its1.toArray
  obtain ⟨o2, B2, b2⟩ := beginsK k2 b its2.toArray
  have la := p1.lt
  have lb := p2.lt
  refine zip_begins2 B1 B2 p1 p2 fun h' hz hT hO g1 g2 hsz hk => wpAny_pyIter_zip hz ?_
  have I2 : Inv X pins sg H1 { s1 with heap := h' } := I1.kept (t' := s1.toks) hk
  have sep : ZipSep2 (s1.heap.objs.size + 4) (s1.heap.objs.size + 2) (s1.heap.objs.size + 3) s1.heap.objs.size (s1.heap.objs.size + 1) [s1.heap.objs.size, a] [s1.heap.objs.size + 1, b] :=
    zip_sep2 (fun c hc => by rw [List.mem_singleton] at hc; rw [hc]; exact la) (fun c hc => by rw [List.mem_singleton] at hc; rw [hc]; exact lb)
  have nb : b ≠ s1.heap.objs.size + 1 := Nat.ne_of_lt (Nat.lt_succ_of_lt lb)
  refine ⟨s1.heap.objs.size + 4, _, _, _, H1, rfl, I2, turn_Z (k1 := k1) (k2 := k2) sep (Nat.ne_of_lt la) nb, ⟨hz, hT, ⟨_, _, hO⟩, b1 _ _ g1, b2 _ _ g2⟩, fun c hc => ?_, q⟩
  have hle : s1.heap.objs.size ≤ c := by
    simp only [List.mem_cons, List.not_mem_nil, or_false] at hc
    rcases hc with e | e | e | e | e <;> rw [e] <;> first | exact Nat.le_add_right _ _ | exact Nat.le_refl _
  exact I1.fpOk hle (I1.hok.fresh hle)
theorem enum_new1 {v : Value} {o : Obj} {Hh : Heap → Prop} (B : Begins v o Hh) :
    Meets (Builtin.«enumerate.__new__» ⟨[.type "enumerate", v], []⟩) (fun _ R s => Hh s.heap ∧ R (.ok (.ret (.ref (s.heap.push o).objs.size)))
        { s with heap := (s.heap.push o).push { cls := .type "enumerate", data := .fields #[.none, .bool false, .ref s.heap.objs.size, rawInt 0, .none, .none] } }) := by
  refine .of_wp fun prog w A R ⟨hp, g, d, tk, os⟩ ⟨begun, post⟩ => ?_
  have below := sub_enumerate
  have made := fun (p : Program) (w : World) (A' : Around) (E Q : Value → Shared → Prop) => B.iter p w A' E ⟨hp, g, d, tk, os⟩ Q begun
  wp_walk
  refine wpAny_stack_any fun frames => wpAny_pure ?_
  split
  case h_1 =>
    rename_i top _ _ _ _ _
    rcases Bool.eq_false_or_eq_true (top == Value.type "enumerate") with e | e <;> (rw [e]; wp_walk using made; exact ⟨_, rfl, post⟩)
  all_goals (wp_walk using made; exact ⟨_, rfl, post⟩)
def ItE (K : PySem.W.Frag) (k : Bool) (a : Addr) : It := ItT
  (fun i H => ∃ xs, SqK K H k a xs ∧ i < xs.length)
  (fun i H l => ∀ xs, SqK K H k a xs → ∃ x, l = [.int (i : Nat), x] ∧ xs[i]? = some x)
  (fun i H => ∃ xs, SqK K H k a xs ∧ xs.length = i)
theorem turn_E {P : Program} {w : World} {K : PySem.W.Frag} {elts : List Expr} {kk : Nat} {tpos : Pos} {k : Bool} {a e it : Addr} (hei : e ≠ it) (hea : e ≠ a) (hai : a ≠ it) :
    Turn P w K (.Tuple elts kk tpos) (ItE K k a) [e, it] e (fun i h => (∃ old, IsEnum h e it ((i : Nat) : Int) old) ∧ itSt k h it a i) := by
  refine turn_T (wr := [e, it]) (by simp) (fun b hb => hb) (fun i h ⟨⟨old, h1⟩, h2⟩ c hc => ?_) (fun i h h' ⟨⟨old, h1⟩, h2⟩ hk => ?_) (fun X hP hw hK hh i pins s sg H I st hgs => ?_) (fun A i s Q E st h => let ⟨⟨_, he⟩, _⟩ := st; wpAny_pyIter_enum he h)
  · simp only [List.mem_cons, List.not_mem_nil, or_false] at hc
    rcases hc with q | q
    · rw [q]; exact ⟨_, h1, fun v q => by cases q⟩
    · rw [q]; exact h2.ob
  · exact ⟨⟨old, hk e (by simp) _ h1⟩, h2.at_ fun o q => hk it (by simp) o q⟩
  · subst hP hw hK
    obtain ⟨h1, h2⟩ := st
    obtain ⟨xs, qx⟩ : ∃ xs, SqK X.K H k a xs := by
      rcases hgs with ⟨xs, qx, _⟩ | ⟨xs, qx, _⟩ <;> exact ⟨xs, qx⟩
    obtain ⟨its1, r1, p1, z1⟩ := SqK.items I qx
    have e1 : its1.toArray.size = xs.length := by rw [List.size_toArray]; exact r1.length.symm
    refine ⟨_, _, _, _, _, WalksT.enumerateD (drawsK (A := X.A.in1) hh k it a hai its1.toArray) e hei (by simp; exact ⟨hei, hea⟩) (by simp), ⟨h1, ⟨h2, p1⟩⟩, fun hg => ?_, fun hg => ?_, fun vals hi hp => ?_, fun h' st' => ⟨st'.1, st'.2.1⟩⟩
    · obtain ⟨xs', q1, l1⟩ := hg
      rw [SqK.inj I q1 qx] at l1
      rw [e1]
      exact l1
    · obtain ⟨xs', q1, l1⟩ := hg
      rw [SqK.inj I q1 qx] at l1
      rw [e1]
      exact l1.symm
    · obtain ⟨t, x1, hx1, rfl⟩ := hp
      obtain ⟨v1, g1, d1⟩ := Paired.getR r1 (i := i) (y := x1) (by simpa using hx1)
      refine ⟨[.int (i : Nat), v1], .cons ⟨_, rfl⟩ (.cons d1 .nil), by show 2 ≤ sizeLine; decide, fun xs' q1 => ⟨v1, rfl, ?_⟩⟩
      rw [SqK.inj I q1 qx]; exact g1
def iEK (K : PySem.W.Frag) (ta : TA) : TI := fun s H R => ta s H fun vs H1 => ∃ a k xs, vs = [.ref a] ∧ SqK K H1 k a xs ∧ R (ItE K k a) H1
theorem pi_enumK {X : Cx} {e : Expr} {ta : TA} {p pos tpos : Pos} {elts : List Expr} {kk : Nat} (hg : Gl X "enumerate") (hm : X.mg "enumerate" = none) (ha : PA X [e] ta) (hs : starEach [e] X.env = [(false, eval e X.env)] := by rfl) :
    PI X (.Tuple elts kk tpos) (.Call (.Name "enumerate" p) [e] [] pos) (iEK X.K ta) := by
  refine ⟨fun pins s sg H R I h => ?_⟩
  refine Call_ (ld_blt I hg hm boot_enumerate (PyProof.Rows.callWith_type1 (thn (ha.run pos pins s sg H _ I h) fun us s1 ⟨vs, H1, I1, r1, q1⟩ => ?_) hs rfl))
  obtain ⟨a, k, xs, ex, qx, q⟩ := q1
  subst ex
  cases r1 with
  | cons r rr =>
    cases rr
    cases r
    obtain ⟨its1, rv1, p1, z1⟩ := SqK.items I1 qx
    obtain ⟨o1, B1, b1⟩ := beginsK k a its1.toArray
    have la := p1.lt
    refine callType_new F.called_enumerate (by decide) (F.typeCall_enumerate_1 _) (F.newCall_enumerate_1 _) (fun obj => F.args_object_init_2 obj _) F.entry_enumerate_new (enum_new1 B1) ⟨p1, ?_⟩
    have hz : (s1.heap.push o1).objs.size = s1.heap.objs.size + 1 := Heap.size_push ..
    show _ ∧ _
    rw [hz]
    have he : IsEnum ((s1.heap.push o1).push { cls := .type "enumerate", data := .fields #[.none, .bool false, .ref s1.heap.objs.size, rawInt 0, .none, .none] }) (s1.heap.objs.size + 1) s1.heap.objs.size 0 .none := by
      have q := Heap.get?_push_size (s1.heap.push o1) (o := { cls := .type "enumerate", data := .fields #[.none, .bool false, .ref s1.heap.objs.size, rawInt 0, .none, .none] }) rfl
      rw [hz] at q
      exact q
    have hi : ((s1.heap.push o1).push { cls := .type "enumerate", data := .fields #[.none, .bool false, .ref s1.heap.objs.size, rawInt 0, .none, .none] }).get? s1.heap.objs.size = some o1 := Heap.get?_push_of_some _ (Heap.get?_push_size _ B1.free)
    refine ⟨⟨_, he, rfl⟩, wpAny_pyIter_enum he ?_⟩
    have I2 : Inv X pins sg H1 { s1 with heap := (s1.heap.push o1).push { cls := .type "enumerate", data := .fields #[.none, .bool false, .ref s1.heap.objs.size, rawInt 0, .none, .none] } } := I1.kept (t' := s1.toks) fun b o x => Heap.get?_push_of_some _ (Heap.get?_push_of_some _ x)
    have ne : a ≠ s1.heap.objs.size + 1 := Nat.ne_of_lt (Nat.lt_succ_of_lt la)
    refine ⟨s1.heap.objs.size + 1, _, _, _, H1, rfl, I2, turn_E (k := k) (Nat.succ_ne_self _) ne.symm (Nat.ne_of_lt la), ⟨⟨.none, he⟩, b1 _ _ hi⟩, fun c hc => ?_, q⟩
    have hle : s1.heap.objs.size ≤ c := by
      simp only [List.mem_cons, List.not_mem_nil, or_false] at hc
      rcases hc with e | e <;> rw [e] <;> first | exact Nat.le_add_right _ _ | exact Nat.le_refl _
    exact I1.fpOk hle (I1.hok.fresh hle)
/-- item i of a source as it is now -/
def srcAt (x : D) : Nat → Store → Option (Option D) := match x with
  | .ref n => fun i st => (getL st n).map fun l => l[i]?
  | .tup l => fun i _ => some l[i]?
  | .fz l => fun i _ => some l[i]?
  | .xt l => fun i _ => some l[i]?
  | _ => fun _ _ => none
def itSeq (e : DE) : DIt := fun r st => (e r st).bind fun x st1 => match seqOf st1 x with
  | some l => .ok (srcAt x, l.length) st1
  | none => .err
def rgOk (a b : Int) : Bool := decide (-(2 ^ 62) ≤ a) && decide (a < 2 ^ 62) && decide (-(2 ^ 62) ≤ b) && decide (b < 2 ^ 62) && decide ((b - a).toNat ≤ sizeLine)
def rgAI (a : Int) (n : Nat) : AI := fun i _ => if i < n then some (some (.int (a + (i : Nat)))) else some none
def itRg1 (e : DE) : DIt := fun r st => (e r st).bind fun x st1 => match x with
  | .int b => if rgOk 0 b = true then .ok (rgAI 0 b.toNat, b.toNat) st1 else .err
  | _ => .err
def itRg2 (e e2 : DE) : DIt := fun r st => (e r st).bind fun x st1 => (e2 r st1).bind fun y st2 => match x, y with
  | .int a, .int b => if rgOk a b = true then .ok (rgAI a (b - a).toNat, (b - a).toNat) st2 else .err
  | _, _ => .err
/-- the i-th of the items now standing there, with i -/
def enAI (x : D) : AI := fun i st => match seqOf st x with
  | some l => if i ≤ l.length then some (l[i]?.map fun d => .tup [.int (i : Nat), d]) else none
  | none => none
def itEnum (e : DE) : DIt := fun r st => (e r st).bind fun x st1 => match seqOf st1 x with
  | some l => .ok (enAI x, l.length) st1
  | none => .err
def zipAI (x y : D) : AI := fun i st => match seqOf st x, seqOf st y with
  | some l, some m => if i ≤ l.length ∧ i ≤ m.length then (match l[i]?, m[i]? with
    | some d, some e => some (some (.tup [d, e]))
    | _, _ => some none) else none
  | _, _ => none
def itZip (a b : DE) : DIt := fun r st => (a r st).bind fun x st1 => (b r st1).bind fun y st2 => match seqOf st2 x, seqOf st2 y with
  | some l, some m => .ok (zipAI x y, min l.length m.length) st2
  | _, _ => .err
end Pd
set_option maxRecDepth 100000
set_option maxHeartbeats 4000000
namespace Pd
open PySem PySem.Spec PyProof.Rows L2
theorem PI.or' {X : Cx} {tg e : Expr} {t t' : TI} (h : PI X tg e t) (h' : PI X tg e t') : PI X tg e (fun s H Q => t s H Q ∨ t' s H Q) := ⟨fun pins s sg H Q I q => q.elim (h.run pins s sg H Q I) (h'.run pins s sg H Q I)⟩
section
variable {K : PySem.W.Frag} {f f' : List Addr} {H H' : Hp} {st st' : Store} {x : D} {v : V}
/-- a source that stands: at any later heap too -/
theorem src_later {l : List D} (t : RSt K f H st) (d : RD K f H x v) (e : seqOf st x = some l) : ∃ a, v = .ref a ∧ ∀ f' H' st', Ext f H f' H' → RSt K f' H' st' → ∀ l', seqOf st' x = some l' → ∃ vs, SqK K H' (isTup x) a vs ∧ RDs K f' H' l' vs := by
  obtain ⟨a, vs0, rfl, _, _, _⟩ := seqOf_ok t e d
  refine ⟨a, rfl, fun f' H' st' y t' l' e' => ?_⟩
  obtain ⟨b, vs, eb, hk, hr, _⟩ := seqOf_ok t' e' (d.up y.toEx0)
  cases eb
  refine ⟨vs, ?_, hr⟩
  rcases hk with ⟨z, hk⟩ | ⟨z, hk, _⟩
  · rw [z]; exact hk
  · rw [z]; exact hk
theorem srcAt_eq (x : D) (i : Nat) (st : Store) : srcAt x i st = (seqOf st x).map fun l => l[i]? := by
  cases x <;> rfl
theorem ri_src {l : List D} {a : Addr} (hl : l.length ≤ sizeLine) (hk : ∀ f' H' st', Ext f H f' H' → RSt K f' H' st' → ∀ l', seqOf st' x = some l' → ∃ vs, SqK K H' (isTup x) a vs ∧ RDs K f' H' l' vs) :
    RI K f H (srcAt x, l.length) (if isTup x = true then Itt K a else Itl K a) := by
  refine ⟨hl, fun f' H' st' y t' i => ?_⟩
  show (srcAt x i st' = some none → _) ∧ ∀ d, srcAt x i st' = some (some d) → _
  rw [srcAt_eq]
  cases e : seqOf st' x with
  | none => exact ⟨fun z => (by cases z), fun d z => (by cases z)⟩
  | some l' =>
    obtain ⟨vs, hs, hr⟩ := hk f' H' st' y t' l' e
    refine ⟨fun z => ?_, fun d z => ?_⟩
    · have z : l'[i]? = none := Option.some.inj z
      have hle : vs.length ≤ i := by rw [← hr.length]; exact List.getElem?_eq_none_iff.mp z
      cases q : isTup x with
      | true => rw [q] at hs; exact ⟨vs, hs, hle⟩
      | false => rw [q] at hs; exact ⟨vs, hs, hle⟩
    · have z : l'[i]? = some d := Option.some.inj z
      obtain ⟨u, e1, e2⟩ := Paired.get' hr.pr z
      cases q : isTup x with
      | true =>
        rw [q] at hs
        refine ⟨⟨vs, u, hs, e1⟩, fun w H'' ⟨eH, hw⟩ => ?_⟩
        rw [eH]
        have e3 : some w = some u := (hw vs hs).symm.trans e1
        cases e3
        exact ⟨.refl, t', e2⟩
      | false =>
        rw [q] at hs
        refine ⟨⟨vs, u, hs, e1⟩, fun w H'' ⟨eH, hw⟩ => ?_⟩
        rw [eH]
        have e3 : some w = some u := (hw vs hs).symm.trans e1
        cases e3
        exact ⟨.refl, t', e2⟩
end
section
variable {X : Cx} {E : XE} {tg e e2 : Expr} {de de2 : DE} {dl : DA} {p pos tpos : Pos} {elts : List Expr} {kk : Nat}
theorem pdi_seq (he : PE X e (rd X.K E de)) : PI X tg e (rdI X.K E (itSeq de)) := (PI.or' (pi_list he) (pi_tup he)).mn fun s H Q h => by
  obtain ⟨f, r, st, hs, ht, h⟩ := h
  unfold itSeq at h
  -- which kind it is, by the value that comes out
  cases e1 : de r st with
  | err => rw [e1] at h; exact h.elim
  | exc z st1 => exact .inl ⟨f, r, st, hs, ht, by rw [e1] at h ⊢; exact h⟩
  | ok x st1 =>
    rw [e1] at h
    have h : post X.K E (RI X.K) f H (match seqOf st1 x with
      | some l => .ok (srcAt x, l.length) st1
      | none => .err) Q := h
    cases e3 : seqOf st1 x with
    | none => rw [e3] at h; exact h.elim
    | some l =>
      rw [e3] at h
      have h : post X.K E (RI X.K) f H (.ok (srcAt x, l.length) st1) Q := h
      cases q : isTup x with
      | true =>
        refine .inr ⟨f, r, st, hs, ht, ?_⟩
        rw [e1]
        refine fun f1 H1 v x1 t1 d1 => ?_
        obtain ⟨a, rfl, hk⟩ := src_later t1 d1 e3
        obtain ⟨b, vs, eb, hc, _, hl⟩ := seqOf_ok t1 e3 d1
        cases eb
        have ri := ri_src hl hk
        rw [if_pos q] at ri
        rcases hc with ⟨z, _⟩ | ⟨_, hc, _⟩
        · rw [q] at z; cases z
        · exact ⟨a, rfl, ⟨vs, hc⟩, h f1 H1 _ x1 t1 ri⟩
      | false =>
        refine .inl ⟨f, r, st, hs, ht, ?_⟩
        rw [e1]
        refine fun f1 H1 v x1 t1 d1 => ?_
        obtain ⟨a, rfl, hk⟩ := src_later t1 d1 e3
        obtain ⟨b, vs, eb, hc, _, hl⟩ := seqOf_ok t1 e3 d1
        cases eb
        have ri := ri_src hl hk
        rw [if_neg (by rw [q]; decide)] at ri
        rcases hc with ⟨_, hc⟩ | ⟨z, _⟩
        · exact ⟨a, rfl, ⟨vs, hc⟩, h f1 H1 _ x1 t1 ri⟩
        · rw [q] at z; cases z
theorem ri_rg {K : PySem.W.Frag} {f : List Addr} {H : Hp} {a : Int} {n : Nat} (hn : n ≤ sizeLine) : RI K f H (rgAI a n, n) (Itr a n) := by
  refine ⟨hn, fun f' H' st' y t' i => ?_⟩
  show (rgAI a n i st' = some none → _) ∧ ∀ d, rgAI a n i st' = some (some d) → _
  unfold rgAI
  by_cases hi : i < n
  · rw [if_pos hi]
    refine ⟨fun z => (by cases z), fun d z => ?_⟩
    have z := Option.some.inj (Option.some.inj z)
    subst z
    refine ⟨hi, fun w H'' ⟨eH, hw⟩ => ?_⟩
    rw [eH, hw]
    exact ⟨.refl, t', .int _⟩
  · rw [if_neg hi]
    exact ⟨fun _ => Nat.le_of_not_lt hi, fun d z => (by cases z)⟩
theorem rgOk_ok {a b : Int} (h : rgOk a b = true) : (-(2 ^ 62) ≤ a ∧ a < 2 ^ 62 ∧ -(2 ^ 62) ≤ b ∧ b < 2 ^ 62) ∧ (b - a).toNat ≤ sizeLine := by
  unfold rgOk at h
  simp only [Bool.and_eq_true, decide_eq_true_eq] at h
  exact ⟨⟨h.1.1.1.1, h.1.1.1.2, h.1.1.2, h.1.2⟩, h.2⟩
theorem pdi_range1 (hg : Gl X "range") (hm : X.mg "range" = none) (he : PE X e (rd X.K E de)) (hs : starEach [e] X.env = [(false, eval e X.env)] := by rfl) (hs1 : starEach [e] X.env = (false, eval e X.env) :: starEach [] X.env := by rfl) : PI X tg (.Call (.Name "range" p) [e] [] pos) (rdI X.K E (itRg1 de)) := (pi_range1 hg hm (pa_cons he pa_nil hs1) hs).mn fun s H Q h => by
  obtain ⟨f, r, st, hs, ht, h⟩ := h
  refine ⟨f, r, st, hs, ht, (post.bind (R' := RD X.K) h).mono fun v H1 ⟨f1, d, st1, x1, t1, d1, h1⟩ => ?_⟩
  obtain ⟨b, rfl⟩ : ∃ b, d = .int b := by
    cases d <;> first | exact h1.elim | exact ⟨_, rfl⟩
  dsimp only at h1
  split at h1
  · rename_i hk
    obtain ⟨hb, hz⟩ := rgOk_ok hk
    refine ⟨b, by rw [d1.intv], hb.2.2.1, hb.2.2.2, h1 f1 H1 _ .refl t1 (ri_rg ?_)⟩
    rw [Int.sub_zero] at hz
    exact hz
  · exact h1.elim
theorem pdi_range2 (hg : Gl X "range") (hm : X.mg "range" = none) (he : PE X e (rd X.K E de)) (he2 : PE X e2 (rd X.K E de2)) (hs : starEach [e, e2] X.env = [(false, eval e X.env), (false, eval e2 X.env)] := by rfl) (hs2 : starEach [e2] X.env = [(false, eval e2 X.env)] := by rfl)
    (hs3 : starEach [e, e2] X.env = (false, eval e X.env) :: starEach [e2] X.env := by rfl) (hs4 : starEach [e2] X.env = (false, eval e2 X.env) :: starEach [] X.env := by rfl) : PI X tg (.Call (.Name "range" p) [e, e2] [] pos) (rdI X.K E (itRg2 de de2)) := (pi_range2 hg hm (pa_cons he (pa_cons he2 pa_nil hs4) hs3) hs hs2).mn fun s H Q h => by
  obtain ⟨f, r, st, hs, ht, h⟩ := h
  refine ⟨f, r, st, hs, ht, (post.bind (R' := RD X.K) h).mono fun v H1 ⟨f1, d, st1, x1, t1, d1, h1⟩ => ?_⟩
  refine ⟨f1, r, st1, hs.up x1.toEx0, t1, (post.bind (R' := RD X.K) h1).mono fun w H2 ⟨f2, d', st2, x2, t2, d2, h2⟩ => ?_⟩
  obtain ⟨a, b, rfl, rfl⟩ : ∃ a b, d = .int a ∧ d' = .int b := by
    cases d <;> cases d' <;> first | exact h2.elim | exact ⟨_, _, rfl, rfl⟩
  dsimp only at h2
  split at h2
  · rename_i hk
    obtain ⟨hb, hz⟩ := rgOk_ok hk
    exact ⟨a, b, by rw [d1.intv, d2.intv], hb, h2 f2 H2 _ .refl t2 (ri_rg hz)⟩
  · exact h2.elim
theorem ri_en {K : PySem.W.Frag} {f : List Addr} {H : Hp} {x : D} {l : List D} {a : Addr} (hl : l.length ≤ sizeLine) (hk : ∀ f' H' st', Ext f H f' H' → RSt K f' H' st' → ∀ l', seqOf st' x = some l' → ∃ vs, SqK K H' (isTup x) a vs ∧ RDs K f' H' l' vs) :
    RI K f H (enAI x, l.length) (ItE K (isTup x) a) := by
  refine ⟨hl, fun f' H' st' y t' i => ?_⟩
  show (enAI x i st' = some none → _) ∧ ∀ d, enAI x i st' = some (some d) → _
  unfold enAI
  cases e : seqOf st' x with
  | none => exact ⟨fun z => (by cases z), fun d z => (by cases z)⟩
  | some l' =>
    obtain ⟨vs, hs, hr⟩ := hk f' H' st' y t' l' e
    dsimp only
    by_cases hi : i ≤ l'.length
    · rw [if_pos hi]
      cases q : l'[i]? with
      | none =>
        refine ⟨fun _ => ⟨vs, hs, ?_⟩, fun d z => (by cases z)⟩
        have := List.getElem?_eq_none_iff.mp q
        rw [← hr.length]
        omega
      | some d0 =>
        refine ⟨fun z => (by cases z), fun d z => ?_⟩
        have z : D.tup [.int (i : Nat), d0] = d := Option.some.inj (Option.some.inj z)
        subst z
        obtain ⟨u, e1, e2⟩ := Paired.get' hr.pr q
        refine ⟨⟨vs, hs, (List.getElem?_eq_some_iff.mp e1).1⟩, fun w H'' ⟨T, xs, ew, hT, eH, hxs⟩ => ?_⟩
        obtain ⟨x', ex, e3⟩ := hxs vs hs
        have e4 : x' = u := Option.some.inj (e3.symm.trans e1)
        subst ex e4 eH ew
        have x2 : Ext f' H' f' (upd H' T (.tup [.int (i : Nat), x'])) := ext_new hT
        exact ⟨x2, t'.new hT, .tup upd_same (by show 2 ≤ sizeLine; decide) (.cons (.int _) (.cons (e2.up x2.toEx0) .nil))⟩
    · rw [if_neg hi]
      exact ⟨fun z => (by cases z), fun d z => (by cases z)⟩
theorem pdi_enum (hg : Gl X "enumerate") (hm : X.mg "enumerate" = none) (he : PE X e (rd X.K E de)) (hs : starEach [e] X.env = [(false, eval e X.env)] := by rfl) (hs1 : starEach [e] X.env = (false, eval e X.env) :: starEach [] X.env := by rfl) : PI X (.Tuple elts kk tpos) (.Call (.Name "enumerate" p) [e] [] pos) (rdI X.K E (itEnum de)) := (pi_enumK hg hm (pa_cons he pa_nil hs1) hs).mn fun s H Q h => by
  obtain ⟨f, r, st, hs, ht, h⟩ := h
  refine ⟨f, r, st, hs, ht, (post.bind (R' := RD X.K) h).mono fun v H1 ⟨f1, d, st1, x1, t1, d1, h1⟩ => ?_⟩
  cases e3 : seqOf st1 d with
  | none => rw [e3] at h1; exact h1.elim
  | some l =>
    rw [e3] at h1
    obtain ⟨a, rfl, hk⟩ := src_later t1 d1 e3
    obtain ⟨vs, hs', hr⟩ := hk f1 H1 st1 .refl t1 l e3
    obtain ⟨_, _, _, _, _, hl⟩ := seqOf_ok t1 e3 d1
    exact ⟨a, isTup d, vs, rfl, hs', h1 f1 H1 _ .refl t1 (ri_en hl hk)⟩
theorem ri_zip {K : PySem.W.Frag} {f : List Addr} {H : Hp} {x z : D} {l m : List D} {a b : Addr} (hl : l.length ≤ sizeLine) (hk : ∀ f' H' st', Ext f H f' H' → RSt K f' H' st' → ∀ l', seqOf st' x = some l' → ∃ vs, SqK K H' (isTup x) a vs ∧ RDs K f' H' l' vs)
    (hk2 : ∀ f' H' st', Ext f H f' H' → RSt K f' H' st' → ∀ l', seqOf st' z = some l' → ∃ vs, SqK K H' (isTup z) b vs ∧ RDs K f' H' l' vs) : RI K f H (zipAI x z, min l.length m.length) (ItZ K (isTup x) (isTup z) a b) := by
  refine ⟨Nat.le_trans (Nat.min_le_left _ _) hl, fun f' H' st' y t' i => ?_⟩
  show (zipAI x z i st' = some none → _) ∧ ∀ d, zipAI x z i st' = some (some d) → _
  unfold zipAI
  cases e : seqOf st' x with
  | none => exact ⟨fun z => (by cases z), fun d z => (by cases z)⟩
  | some l' =>
    cases e' : seqOf st' z with
    | none => exact ⟨fun z => (by cases z), fun d z => (by cases z)⟩
    | some m' =>
      obtain ⟨vs, hs, hr⟩ := hk f' H' st' y t' l' e
      obtain ⟨ws, hs2, hr2⟩ := hk2 f' H' st' y t' m' e'
      dsimp only
      by_cases hi : i ≤ l'.length ∧ i ≤ m'.length
      · rw [if_pos hi]
        cases q : l'[i]? with
        | none =>
          refine ⟨fun _ => ⟨vs, ws, hs, hs2, ?_⟩, fun d z => (by cases z)⟩
          have := List.getElem?_eq_none_iff.mp q
          rw [← hr.length, ← hr2.length]
          omega
        | some d0 =>
          cases q2 : m'[i]? with
          | none =>
            refine ⟨fun _ => ⟨vs, ws, hs, hs2, ?_⟩, fun d z => (by cases z)⟩
            have := List.getElem?_eq_none_iff.mp q2
            rw [← hr.length, ← hr2.length]
            omega
          | some d1 =>
            refine ⟨fun z => (by cases z), fun d z => ?_⟩
            have z : D.tup [d0, d1] = d := Option.some.inj (Option.some.inj z)
            subst z
            obtain ⟨u, e1, e2⟩ := Paired.get' hr.pr q
            obtain ⟨u', e1', e2'⟩ := Paired.get' hr2.pr q2
            refine ⟨⟨vs, ws, hs, hs2, (List.getElem?_eq_some_iff.mp e1).1, (List.getElem?_eq_some_iff.mp e1').1⟩, fun w H'' ⟨T, xs, ew, hT, eH, hxs⟩ => ?_⟩
            obtain ⟨x', y', ex, e3, e3'⟩ := hxs vs ws hs hs2
            have e4 : x' = u := Option.some.inj (e3.symm.trans e1)
            have e4' : y' = u' := Option.some.inj (e3'.symm.trans e1')
            subst ex e4 e4' eH ew
            have x2 : Ext f' H' f' (upd H' T (.tup [x', y'])) := ext_new hT
            exact ⟨x2, t'.new hT, .tup upd_same (by show 2 ≤ sizeLine; decide) (.cons (e2.up x2.toEx0) (.cons (e2'.up x2.toEx0) .nil))⟩
      · rw [if_neg hi]
        exact ⟨fun z => (by cases z), fun d z => (by cases z)⟩
theorem pdi_zip (hg : Gl X "zip") (hm : X.mg "zip" = none) (he : PE X e (rd X.K E de)) (he2 : PE X e2 (rd X.K E de2)) (hs3 : starEach [e, e2] X.env = (false, eval e X.env) :: starEach [e2] X.env := by rfl) (hs4 : starEach [e2] X.env = (false, eval e2 X.env) :: starEach [] X.env := by rfl)
    (hpl : (backTo pos (starEach [e2] X.env)).any (·.1) = false := by rfl) : PI X (.Tuple elts kk tpos) (.Call (.Name "zip" p) [e, e2] [] pos) (rdI X.K E (itZip de de2)) := (pi_zipK hg hm (pa_cons he (pa_cons he2 pa_nil hs4) hs3) hs3 hpl).mn fun s H Q h => by
  obtain ⟨f, r, st, hs, ht, h⟩ := h
  refine ⟨f, r, st, hs, ht, (post.bind (R' := RD X.K) h).mono fun v H1 ⟨f1, d, st1, x1, t1, d1, h1⟩ => ?_⟩
  refine ⟨f1, r, st1, hs.up x1.toEx0, t1, (post.bind (R' := RD X.K) h1).mono fun w H2 ⟨f2, d', st2, x2, t2, d2, h2⟩ => ?_⟩
  cases e3 : seqOf st2 d with
  | none => rw [e3] at h2; exact h2.elim
  | some l =>
    cases e4 : seqOf st2 d' with
    | none => rw [e3, e4] at h2; exact h2.elim
    | some m =>
      rw [e3, e4] at h2
      have d1 := d1.up x2.toEx0
      obtain ⟨a, rfl, hk⟩ := src_later t2 d1 e3
      obtain ⟨vs, hs', hr⟩ := hk f2 H2 st2 .refl t2 l e3
      obtain ⟨_, _, _, _, _, hl⟩ := seqOf_ok t2 e3 d1
      obtain ⟨b, rfl, hk2⟩ := src_later t2 d2 e4
      obtain ⟨ws, hs2, hr2⟩ := hk2 f2 H2 st2 .refl t2 m e4
      exact ⟨a, b, isTup d, isTup d', vs, ws, rfl, hs', hs2, h2 f2 H2 _ .refl t2 (ri_zip hl hk hk2)⟩
end
end Pd
set_option maxRecDepth 100000
set_option maxHeartbeats 4000000
namespace Pd
open PySem PySem.Spec PyProof.Rows L2
section
variable {X : Cx} {E : XE}
theorem CallR.of {fn : Value} {g : List D → Store → Res D}
    (h : ∀ (pins : List (Addr × Obj)) (s : Shared) (sg : L2.St) (H : Hp) (f : List Addr) (st : Store) (l : List D) (xs : List V) (us : List Value) (Q : VK), Inv X pins sg H s → Vals xs us → RSt X.K f H st → RDs X.K f H l xs →
      post X.K E (RD X.K) f H (g l st) Q → wpAny (model X.prog X.w) X.A (call fn us) (EP X pins sg Q) X.xe s) : CallR X fn (rL X.K E g) := fun pins s sg H xs us Q I r ⟨f, st, l, t, d, q⟩ => h pins s sg H f st l xs us Q I r t d q
variable {x : Str} {p pos : Pos} {e : Expr} {es : List Expr} {dl : DA} {id T : String} {g : List D → Store → Res D}
theorem rd_L {K : PySem.W.Frag} {s : L2.St} {H : Hp} {Q : VK} (h : rd K E (dL g dl) s H Q) : tCB (rL K E g) (rdA K E dl) s H Q := by
  obtain ⟨f, r, st, hs, ht, h⟩ := h
  exact ⟨f, r, st, hs, ht, (post.bind (R' := RDs K) h).mono fun vs H1 ⟨f1, l, st1, x1, t1, d1, h1⟩ => ⟨f1, st1, l, t1, d1, h1⟩⟩
theorem pd_callB (hc : CallR X (.builtin id) (rL X.K E g)) (hm : X.mg x = none) (hv : bootBuiltins x = some (.builtin id)) (ha : PA X (e :: es) (rdA X.K E dl)) (hg : Gl X x := by rfl) (hn : x ≠ "__name__" := by decide) (hdb : (x == ("__debug__" : Str)) = false := by decide)
    (he : starEach (e :: es) X.env = (false, eval e X.env) :: starEach es X.env := by rfl) (hpl : (backTo pos (starEach es X.env)).any (·.1) = false := by rfl) : PE X (.Call (.Name x p) (e :: es) [] pos) (rd X.K E (dL g dl)) := (pe_callB hc hg hm hv ha hn hdb he hpl).mn fun _ _ _ h => rd_L h
theorem pd_callTy (hc : CallR X (.type T) (rL X.K E g)) (hm : X.mg x = none) (hv : bootBuiltins x = some (.type T)) (ha : PA X (e :: es) (rdA X.K E dl)) (hg : Gl X x := by rfl) (hn : x ≠ "__name__" := by decide) (hdb : (x == ("__debug__" : Str)) = false := by decide)
    (he : starEach (e :: es) X.env = (false, eval e X.env) :: starEach es X.env := by rfl) (hpl : (backTo pos (starEach es X.env)).any (·.1) = false := by rfl) : PE X (.Call (.Name x p) (e :: es) [] pos) (rd X.K E (dL g dl)) := (pe_callTy hc hg hm hv ha hn hdb he hpl).mn fun _ _ _ h => rd_L h
end
def oLen : List D → Store → Res D
  | [x], st => match seqOf st x with
    | some l => .ok (.int l.length) st
    | none => .err
  | _, _ => .err
def oInt : List D → Store → Res D
  | [.int i], st => .ok (.int i) st
  | [.bl b], st => .ok (.int (if b = true then 1 else 0)) st
  | _, _ => .err
def oList : List D → Store → Res D
  | [x], st => match seqOf st x with
    | some l => newL l st
    | none => .err
  | _, _ => .err
def oTuple : List D → Store → Res D
  | [x], st => match seqOf st x with
    | some l => if isXt x = true then .err else .ok (.tup l) st
    | none => .err
  | _, _ => .err
def asInt : D → Option Int
  | .int i => some i
  | _ => none
def maxI : List Int → Option Int
  | [] => none
  | i :: l => some (l.foldl max i)
def minI : List Int → Option Int
  | [] => none
  | i :: l => some (l.foldl min i)
/-- the ints of a list (no tuple) -/
def intsOf (st : Store) (x : D) : Option (List Int) := if isTup x = true then none else (seqOf st x).bind fun l => l.mapM asInt
def oMax : List D → Store → Res D
  | [.int i, .int j], st => .ok (.int (if j > i then j else i)) st
  | [x], st => match (intsOf st x).bind maxI with
    | some m => .ok (.int m) st
    | none => .err
  | _, _ => .err
def oMin : List D → Store → Res D
  | [.int i, .int j], st => .ok (.int (if j < i then j else i)) st
  | [x], st => match (intsOf st x).bind minI with
    | some m => .ok (.int m) st
    | none => .err
  | _, _ => .err
def oSum : List D → Store → Res D
  | [x], st => match intsOf st x with
    | some l => .ok (.int l.sum) st
    | none => .err
  | _, _ => .err
section
variable {K : PySem.W.Frag} {f : List Addr} {H : Hp} {st : Store} {E : XE}
theorem RDs.one {d : D} {vs : List V} (h : RDs K f H [d] vs) : ∃ v, vs = [v] ∧ RD K f H d v := by
  cases h with
  | cons a b => cases b; exact ⟨_, rfl, a⟩
theorem RDs.two {d e : D} {vs : List V} (h : RDs K f H [d, e] vs) : ∃ v w, vs = [v, w] ∧ RD K f H d v ∧ RD K f H e w := by
  cases h with
  | cons a b => cases b with
    | cons c d => cases d; exact ⟨_, _, rfl, a, c⟩
theorem RDs.ints : ∀ {l : List D} {vs : List V} {ns : List Int}, RDs K f H l vs → l.mapM asInt = some ns → vs = ns.map V.int
  | [], _, ks, h, e => by
    cases h
    have e : ks = [] := (Option.some.inj (show some [] = some ks from e)).symm
    subst e
    rfl
  | d :: l, _, ks, h, e => by
    cases h with
    | cons a b =>
      obtain ⟨k, r, e1, e2, rfl⟩ := mapM_cons e
      obtain rfl : d = .int k := by
        cases d <;> first | cases e1 | skip
        rfl
      rw [a.intv, RDs.ints b e2]
      rfl
theorem intsOf_ok (t : RSt K f H st) {x : D} {v : V} {ns : List Int} (e : intsOf st x = some ns) (h : RD K f H x v) : ∃ a, v = .ref a ∧ SqL K H a (ns.map V.int) := by
  unfold intsOf at e
  split at e
  · cases e
  · rename_i q
    cases e2 : seqOf st x with
    | none => rw [e2] at e; cases e
    | some l =>
      rw [e2] at e
      obtain ⟨a, vs, rfl, hk, hr, _⟩ := seqOf_ok t e2 h
      rw [RDs.ints hr e] at hk
      rcases hk with ⟨_, hk⟩ | ⟨z, _⟩
      · exact ⟨a, rfl, hk⟩
      · exact absurd z q
end
theorem foldl_max (l : List Int) : ∀ i, l.foldl max i ∈ i :: l ∧ ∀ y ∈ i :: l, y ≤ l.foldl max i := by
  induction l with
  | nil => intro i; exact ⟨List.mem_cons_self, fun y hy => by rw [List.mem_singleton] at hy; rw [hy]; exact Int.le_refl _⟩
  | cons j l ih =>
    intro i
    obtain ⟨h1, h2⟩ := ih (max i j)
    refine ⟨?_, fun y hy => ?_⟩
    · show l.foldl max (max i j) ∈ _
      rcases List.mem_cons.mp h1 with e | h
      · rw [e]
        by_cases h : i ≤ j
        · rw [Int.max_eq_right h]; simp
        · rw [Int.max_eq_left (by omega)]; simp
      · exact List.mem_cons_of_mem _ (List.mem_cons_of_mem _ h)
    · have h0 := h2 (max i j) List.mem_cons_self
      show y ≤ l.foldl max (max i j)
      rcases List.mem_cons.mp hy with e | hy
      · rw [e]; omega
      · rcases List.mem_cons.mp hy with e | hy
        · rw [e]; omega
        · exact h2 y (List.mem_cons_of_mem _ hy)
theorem foldl_min (l : List Int) : ∀ i, l.foldl min i ∈ i :: l ∧ ∀ y ∈ i :: l, l.foldl min i ≤ y := by
  induction l with
  | nil => intro i; exact ⟨List.mem_cons_self, fun y hy => by rw [List.mem_singleton] at hy; rw [hy]; exact Int.le_refl _⟩
  | cons j l ih =>
    intro i
    obtain ⟨h1, h2⟩ := ih (min i j)
    refine ⟨?_, fun y hy => ?_⟩
    · show l.foldl min (min i j) ∈ _
      rcases List.mem_cons.mp h1 with e | h
      · rw [e]
        by_cases h : i ≤ j
        · rw [Int.min_eq_left h]; simp
        · rw [Int.min_eq_right (by omega)]; simp
      · exact List.mem_cons_of_mem _ (List.mem_cons_of_mem _ h)
    · have h0 := h2 (min i j) List.mem_cons_self
      show l.foldl min (min i j) ≤ y
      rcases List.mem_cons.mp hy with e | hy
      · rw [e]; omega
      · rcases List.mem_cons.mp hy with e | hy
        · rw [e]; omega
        · exact h2 y (List.mem_cons_of_mem _ hy)
section
variable {X : Cx} {E : XE}
theorem cd_len : CallR X (.builtin "len") (rL X.K E oLen) := CallR.of fun pins s sg H f st l xs us Q I r t d q => by
  match l, d, q with
  | [x], d, q =>
    unfold oLen at q
    dsimp only at q
    split at q
    · rename_i l e
      obtain ⟨v, rfl, dv⟩ := d.one
      obtain ⟨a, vs, rfl, hk, hr, _⟩ := seqOf_ok t e dv
      refine call_len_seq pins s sg H _ us Q I r ⟨a, vs, rfl, ?_, ?_⟩
      · rcases hk with ⟨_, hk⟩ | ⟨_, hk, _⟩
        · exact .inl hk
        · exact .inr hk
      · rw [← hr.length]
        exact q.now t (.int _)
    · exact q.elim
  | [], d, q => exact q.elim
  | _ :: _ :: _, d, q => exact q.elim
theorem cd_int : CallR X (.type "int") (rL X.K E oInt) := CallR.of fun pins s sg H f st l xs us Q I r t d q => by
  match l, d, q with
  | [.int i], d, q =>
    obtain ⟨v, rfl, dv⟩ := d.one
    exact call_int1 pins s sg H _ us Q I r (.inl ⟨i, by rw [dv.intv], q.now t (.int _)⟩)
  | [.bl b], d, q =>
    obtain ⟨v, rfl, dv⟩ := d.one
    cases dv
    exact call_int1 pins s sg H _ us Q I r (.inr ⟨b, rfl, q.now t (.int _)⟩)
  | [], d, q => exact q.elim
  | _ :: _ :: _, d, q => unfold oInt at q; split at q <;> first | exact q.elim | simp_all
  | [.non], d, q => exact q.elim
  | [.str _], d, q => exact q.elim
  | [.tup _], d, q => exact q.elim
  | [.fz _], d, q => exact q.elim
  | [.xt _], d, q => exact q.elim
  | [.ref _], d, q => exact q.elim
theorem cd_list : CallR X (.type "list") (rL X.K E oList) := CallR.of fun pins s sg H f st l xs us Q I r t d q => by
  match l, d, q with
  | [x], d, q =>
    unfold oList at q
    dsimp only at q
    split at q
    · rename_i l e
      obtain ⟨v, rfl, dv⟩ := d.one
      obtain ⟨a, vs, rfl, hk, hr, hl⟩ := seqOf_ok t e dv
      refine call_list_of pins s sg H _ us Q I r ⟨a, vs, rfl, ?_, fun n hn => RD.lst_new t hn hr hl q⟩
      rcases hk with ⟨_, hk⟩ | ⟨_, hk, _⟩
      · exact .inl hk
      · exact .inr hk
    · exact q.elim
  | [], d, q => exact q.elim
  | _ :: _ :: _, d, q => exact q.elim
theorem cd_tuple : CallR X (.type "tuple") (rL X.K E oTuple) := CallR.of fun pins s sg H f st l xs us Q I r t d q => by
  match l, d, q with
  | [x], d, q =>
    unfold oTuple at q
    dsimp only at q
    split at q
    · rename_i l e
      obtain ⟨v, rfl, dv⟩ := d.one
      obtain ⟨a, vs, rfl, hk, hr, hl⟩ := seqOf_ok t e dv
      split at q
      · exact q.elim
      rename_i nx
      refine call_tuple_of pins s sg H _ us Q I r ⟨a, vs, rfl, ?_⟩
      rcases hk with ⟨_, hk⟩ | ⟨_, _, hk⟩
      · exact .inl ⟨hk, fun n hn => RD.tup_new t hn hr hl q⟩
      · have hk := hk (by simpa using nx)
        exact .inr ⟨.of hk, q.now t (.tup hk hl hr)⟩
    · exact q.elim
  | [], d, q => exact q.elim
  | _ :: _ :: _, d, q => exact q.elim
theorem cd_sum (hc : X.calm = true) : CallR X (.builtin "sum") (rL X.K E oSum) := CallR.of fun pins s sg H f st l xs us Q I r t d q => by
  match l, d, q with
  | [x], d, q =>
    unfold oSum at q
    dsimp only at q
    split at q
    · rename_i ns e
      obtain ⟨v, rfl, dv⟩ := d.one
      obtain ⟨a, rfl, hk⟩ := intsOf_ok t e dv
      exact cr_sum hc pins s sg H _ us Q I r ⟨a, ns, rfl, hk, q.now t (.int _)⟩
    · exact q.elim
  | [], d, q => exact q.elim
  | _ :: _ :: _, d, q => exact q.elim
end
end Pd
set_option maxRecDepth 100000
set_option maxHeartbeats 4000000
namespace Pd
open PySem PySem.Spec PyProof.Rows L2
section
variable {X : Cx} {E : XE}
theorem cd_max (hc : X.calm = true) : CallR X (.builtin "max") (rL X.K E oMax) := CallR.of fun pins s sg H f st l xs us Q I r t d q => by
  have one : ∀ x, l = [x] → (match (intsOf st x).bind maxI with
    | some m => post X.K E (RD X.K) f H (.ok (.int m) st) Q
    | none => False) → wpAny (model X.prog X.w) X.A (call (.builtin "max") us) (EP X pins sg Q) X.xe s := fun x el q' => by
    subst el
    cases e : intsOf st x with
    | none => rw [e] at q'; exact q'.elim
    | some ns =>
      rw [e] at q'
      cases ns with
      | nil => exact q'.elim
      | cons i ns =>
        have q2 : post X.K E (RD X.K) f H (.ok (.int (ns.foldl max i)) st) Q := q'
        obtain ⟨v, rfl, dv⟩ := d.one
        obtain ⟨a, rfl, hk⟩ := intsOf_ok t e dv
        refine cr_max hc pins s sg H _ us Q I r ⟨a, i :: ns, rfl, hk, Nat.succ_pos _, fun m hm hle => ?_⟩
        obtain ⟨h1, h2⟩ := foldl_max ns i
        have em : m = ns.foldl max i := Int.le_antisymm (h2 m hm) (hle _ h1)
        rw [em]
        exact q2.now t (.int _)
  unfold oMax at q
  split at q
  · obtain ⟨v, w, rfl, d1, d2⟩ := d.two
    exact call_max2 hc pins s sg H _ us Q I r ⟨_, _, by rw [d1.intv, d2.intv], q.now t (.int _)⟩
  · rename_i x
    refine one x rfl ?_
    split at q
    · rename_i m e
      first
        | (rw [e]; exact q)
        | exact q
    · exact q.elim
  · exact q.elim
theorem cd_min (hc : X.calm = true) : CallR X (.builtin "min") (rL X.K E oMin) := CallR.of fun pins s sg H f st l xs us Q I r t d q => by
  have one : ∀ x, l = [x] → (match (intsOf st x).bind minI with
    | some m => post X.K E (RD X.K) f H (.ok (.int m) st) Q
    | none => False) → wpAny (model X.prog X.w) X.A (call (.builtin "min") us) (EP X pins sg Q) X.xe s := fun x el q' => by
    subst el
    cases e : intsOf st x with
    | none => rw [e] at q'; exact q'.elim
    | some ns =>
      rw [e] at q'
      cases ns with
      | nil => exact q'.elim
      | cons i ns =>
        have q2 : post X.K E (RD X.K) f H (.ok (.int (ns.foldl min i)) st) Q := q'
        obtain ⟨v, rfl, dv⟩ := d.one
        obtain ⟨a, rfl, hk⟩ := intsOf_ok t e dv
        refine cr_min hc pins s sg H _ us Q I r ⟨a, i :: ns, rfl, hk, Nat.succ_pos _, fun m hm hle => ?_⟩
        obtain ⟨h1, h2⟩ := foldl_min ns i
        have em : m = ns.foldl min i := Int.le_antisymm (hle _ h1) (h2 m hm)
        rw [em]
        exact q2.now t (.int _)
  unfold oMin at q
  split at q
  · obtain ⟨v, w, rfl, d1, d2⟩ := d.two
    exact call_min2 hc pins s sg H _ us Q I r ⟨_, _, by rw [d1.intv, d2.intv], q.now t (.int _)⟩
  · rename_i x
    refine one x rfl ?_
    split at q
    · rename_i m e
      first
        | (rw [e]; exact q)
        | exact q
    · exact q.elim
  · exact q.elim
end
def rgL (a b : Int) : List D := (List.range (b - a).toNat).map fun i => .int (a + (i : Nat))
abbrev DR := Env' → Store → Res (Int × Int)
def dRg1 (e : DE) : DR := fun r st => (e r st).bind fun x st1 => match x with
  | .int b => if rgOk 0 b = true then .ok (0, b) st1 else .err
  | _ => .err
def dLstRg (t : DR) : DE := fun r st => (t r st).bind fun ab st1 => newL (rgL ab.1 ab.2) st1
section
variable {K : PySem.W.Frag} {f : List Addr} {H : Hp}
theorem rgL_rel (a b : Int) : RDs K f H (rgL a b) (rgV a b) := by
  unfold rgL rgV
  refine .of _ _ _ ?_
  induction List.range (b - a).toNat with
  | nil => exact .nil
  | cons i l ih => exact .cons (.int _) ih
end
section
variable {X : Cx} {E : XE} {e e2 : Expr} {de de2 : DE} {p p' pos pos' : Pos}
theorem rgOk_R {a b : Int} (h : rgOk a b = true) : RgOk a b ∧ (b - a).toNat ≤ sizeLine := by
  obtain ⟨h1, h2⟩ := rgOk_ok h
  exact ⟨⟨h1.1, h1.2.1, h1.2.2.1, h1.2.2.2, by rw [sizeLine_eq] at h2; exact h2⟩, h2⟩
theorem pd_listRg1 (hc : X.calm = true) (hm : X.mg "range" = none) (hml : X.mg "list" = none) (he : PE X e (rd X.K E de)) (hg : Gl X "range" := by rfl) (hgl : Gl X "list" := by rfl) (na : starEach [e] X.env = (false, eval e X.env) :: starEach [] X.env := by rfl)
    (nr : starEach [.Call (.Name "range" p) [e] [] pos] X.env = (false, eval (.Call (.Name "range" p) [e] [] pos) X.env) :: starEach [] X.env := by rfl) : PE X (.Call (.Name "list" p') [.Call (.Name "range" p) [e] [] pos] [] pos') (rd X.K E (dLstRg (dRg1 de))) :=
  (pe_listRg hc hgl hml (prg_1 hg hm he na) nr).mn fun s H Q h => by
    obtain ⟨f, r, st, hs, ht, h⟩ := h
    unfold dLstRg dRg1 at h
    have h : post X.K E (RD X.K) f H ((de r st).bind fun x st1 => (match x with
      | .int b => if rgOk 0 b = true then Res.ok ((0 : Int), b) st1 else .err
      | _ => .err).bind fun ab st1 => newL (rgL ab.1 ab.2) st1) Q := by
      cases q : de r st with
      | ok x st1 => rw [q] at h; exact h
      | exc x st1 => rw [q] at h; exact h
      | err => rw [q] at h; exact h
    refine ⟨f, r, st, hs, ht, (post.bind (R' := RD X.K) h).mono fun v H1 ⟨f1, d, st1, x1, t1, d1, h1⟩ => ?_⟩
    obtain ⟨b, rfl⟩ : ∃ b, d = .int b := by
      cases d <;> first | exact h1.elim | exact ⟨_, rfl⟩
    refine ⟨b, d1.intv, ?_⟩
    dsimp only at h1
    split at h1
    · rename_i hk
      obtain ⟨k1, k2⟩ := rgOk_R hk
      exact ⟨k1, fun n hn => RD.lst_new t1 hn (rgL_rel 0 b) (by unfold rgL; rw [List.length_map, List.length_range]; exact k2) h1⟩
    · exact h1.elim
end
def isL (x : D) (st : Store) : Bool := match x with
  | .ref n => (getL st n).isSome
  | _ => false
def dMt (g : D → List D → Store → Res D) (a : DE) (l : DA) : DE := fun r st => (a r st).bind fun x st1 => if isL x st1 = true then (l r st1).bind fun ys st2 => g x ys st2 else .err
def oAppend (x : D) (l : List D) (st : Store) : Res D := match x, l with
  | .ref n, [y] => match getL st n with
    | some l => if l.length < sizeLine then .ok .non (st.set n (.lst (l ++ [y]))) else .err
    | none => .err
  | _, _ => .err
def oExtend (x : D) (l : List D) (st : Store) : Res D := match x, l with
  | .ref n, [.ref m] => match getL st n, getL st m with
    | some l, some k => if l.length + k.length ≤ sizeLine then .ok .non (st.set n (.lst (l ++ k))) else .err
    | _, _ => .err
  | _, _ => .err
def oPop (x : D) (l : List D) (st : Store) : Res D := match x, l with
  | .ref n, [.int i] => match getL st n with
    | some l => match ixN l.length i with
      | some k => match l[k]? with
        | some y => .ok y (st.set n (.lst (l.eraseIdx k)))
        | none => .err
      | none => .err
    | none => .err
  | .ref n, [] => match getL st n with
    | some l => match l[l.length - 1]? with
      | some y => .ok y (st.set n (.lst l.dropLast))
      | none => .err
    | none => .err
  | _, _ => .err
def rM (K : PySem.W.Frag) (E : XE) (g : D → List D → Store → Res D) : V → List V → Hp → VK → Prop := fun x xs H Q => ∃ f st d l, RSt K f H st ∧ RD K f H d x ∧ RDs K f H l xs ∧ post K E (RD K) f H (g d l st) Q
section
variable {X : Cx} {E : XE} {o e : Expr} {es : List Expr} {name : Str} {apos cpos : Pos} {id : String} {g : D → List D → Store → Res D} {da : DE} {dl : DA}
theorem rd_Mt {K : PySem.W.Frag} {s : L2.St} {H : Hp} {Q : VK} (h : rd K E (dMt g da dl) s H Q) : tBM K "list" (rM K E g) (rd K E da) (rdA K E dl) s H Q := by
  obtain ⟨f, r, st, hs, ht, h⟩ := h
  refine ⟨f, r, st, hs, ht, (post.bind (R' := RD K) h).mono fun x H1 ⟨f1, d, st1, x1, t1, d1, h1⟩ => ?_⟩
  split at h1
  · rename_i hl
    unfold isL at hl
    split at hl
    · rename_i n
      cases e1 : getL st1 n with
      | none => rw [e1] at hl; cases hl
      | some l =>
        obtain ⟨a, vs, rfl, fa, ha, _, _⟩ := RD.lstv t1 d1 (getL_some e1)
        refine ⟨.inl ⟨rfl, vs, .of ha⟩, f1, r, st1, hs.up x1.toEx0, t1, (post.bind (R' := RDs K) h1).mono fun ys H2 ⟨f2, ly, st2, x2, t2, d2, h2⟩ => ?_⟩
        exact ⟨f2, st2, .ref n, ly, t2, d1.up x2.toEx0, d2, h2⟩
    · cases hl
  · exact h1.elim
theorem pd_mt (slot : Slot "list" name id) (hty : typeOf (.builtin id) = pure (.type "method_descriptor")) (hm : MtR X id (rM X.K E g)) (ho : PE X o (rd X.K E da)) (ha : PA X (e :: es) (rdA X.K E dl))
    (hbase : attributeBase o name X.env (eval o X.env) = eval o X.env := by rfl)
    (hfew : ((backTo cpos (starEach (e :: es) X.env)).all (fun x => !x.1) && (backToKw cpos (keywordEach [] X.env)).all (fun x => x.1.isSome)
      && decide ((e :: es).length + ([] : List Keyword).length + (if ([] : List Keyword).isEmpty then 0 else 1) < 30)) = true := by rfl)
    (hline : (apos.endLine == cpos.line) = true := by rfl) (hs : starEach (e :: es) X.env = (false, eval e X.env) :: starEach es X.env := by rfl) (hplain : (backTo cpos (starEach es X.env)).any (·.1) = false := by rfl) :
    PE X (.Call (.Attribute o name apos) (e :: es) [] cpos) (rd X.K E (dMt g da dl)) := (pe_bm PySem.F.plainAttrs_list slot hty hm ho ha hbase hfew hline hs hplain).mn fun _ _ _ h => rd_Mt h
theorem md_append : MtR X "list.append" (rM X.K E oAppend) := MtR.mn mt_append fun x xs H Q ⟨f, st, d, l, t, d1, d2, q⟩ => by
  unfold oAppend at q
  split at q
  · rename_i n y
    split at q
    · rename_i l e
      split at q
      · rename_i hz
        obtain ⟨a, vs, rfl, fa, ha, hr, _⟩ := RD.lstv t d1 (getL_some e)
        obtain ⟨v, rfl, dv⟩ := d2.one
        refine ⟨a, vs, v, rfl, rfl, ha, by rw [← hr.length]; exact hz, ?_⟩
        have x : Ext f H f (upd H a (.lst (vs ++ [v]))) := ext_set t fa
        exact q f _ .non x (t.set fa ⟨_, upd_same, (hr.app (.cons dv .nil)).up x.toEx0, by rw [List.length_append]; exact hz⟩) .non
      · exact q.elim
    · exact q.elim
  · exact q.elim
theorem md_extend : MtR X "list.extend" (rM X.K E oExtend) := MtR.mn mt_extend fun x xs H Q ⟨f, st, d, l, t, d1, d2, q⟩ => by
  unfold oExtend at q
  split at q
  · rename_i n m
    split at q
    · rename_i l k e e'
      split at q
      · rename_i hz
        obtain ⟨a, vs, rfl, fa, ha, hr, _⟩ := RD.lstv t d1 (getL_some e)
        obtain ⟨v, rfl, dv⟩ := d2.one
        obtain ⟨b, ws, rfl, fb, hb, hr2, _⟩ := RD.lstv t dv (getL_some e')
        refine ⟨a, b, vs, ws, rfl, rfl, ha, hb, by rw [← hr.length, ← hr2.length]; exact hz, ?_⟩
        have x : Ext f H f (upd H a (.lst (vs ++ ws))) := ext_set t fa
        exact q f _ .non x (t.set fa ⟨_, upd_same, (hr.app hr2).up x.toEx0, by rw [List.length_append]; exact hz⟩) .non
      · exact q.elim
    · exact q.elim
  · exact q.elim
theorem eraseIdx_rel {K : PySem.W.Frag} {f : List Addr} {H : Hp} {l : List D} {vs : List V} (h : RDs K f H l vs) (k : Nat) : RDs K f H (l.eraseIdx k) (vs.eraseIdx k) := by
  refine .of _ _ _ ?_
  have p := h.pr
  clear h
  induction p generalizing k with
  | nil => exact .nil
  | cons a b ih => cases k with
    | zero => exact b
    | succ k => exact .cons a (ih k)
theorem dropLast_rel {K : PySem.W.Frag} {f : List Addr} {H : Hp} {l : List D} {vs : List V} (h : RDs K f H l vs) : RDs K f H l.dropLast vs.dropLast := by
  rw [List.dropLast_eq_take, List.dropLast_eq_take, ← h.length]
  exact .of _ _ _ (Paired.tk h.pr _)
theorem md_pop : MtR X "list.pop" (rM X.K E oPop) := MtR.mn (MtR.or mt_popAt mt_pop) fun x xs H Q ⟨f, st, d, l, t, d1, d2, q⟩ => by
  unfold oPop at q
  split at q
  · rename_i n i
    split at q
    · rename_i l e
      split at q
      · rename_i k ek
        split at q
        · rename_i y ey
          obtain ⟨a, vs, rfl, fa, ha, hr, hz⟩ := RD.lstv t d1 (getL_some e)
          obtain ⟨v, rfl, dv⟩ := d2.one
          obtain ⟨w, ew, dw⟩ := Paired.get' hr.pr ey
          rw [hr.length] at ek
          obtain ⟨z1, z2, z3, z4⟩ := ixN_seq ek
          rw [hr.length, sizeLine_eq] at hz
          refine .inl ⟨a, vs, i, k, w, rfl, by rw [dv.intv], ha, by omega, by omega, z1, ew, ?_⟩
          have x : Ext f H f (upd H a (.lst (vs.eraseIdx k))) := ext_set t fa
          refine q f _ w x (t.set fa ⟨_, upd_same, (eraseIdx_rel hr k).up x.toEx0, ?_⟩) (dw.up x.toEx0)
          have := List.length_eraseIdx_le l k
          rw [hr.length] at this
          rw [sizeLine_eq]
          omega
        · exact q.elim
      · exact q.elim
    · exact q.elim
  · rename_i n
    split at q
    · rename_i l e
      split at q
      · rename_i y ey
        obtain ⟨a, vs, rfl, fa, ha, hr, hz⟩ := RD.lstv t d1 (getL_some e)
        cases d2
        obtain ⟨w, ew, dw⟩ := Paired.get' hr.pr ey
        refine .inr ⟨a, vs, w, rfl, rfl, ha, by rw [← hr.length]; exact ew, ?_⟩
        have x : Ext f H f (upd H a (.lst vs.dropLast)) := ext_set t fa
        exact q f _ w x (t.set fa ⟨_, upd_same, (dropLast_rel hr).up x.toEx0, by rw [List.length_dropLast]; omega⟩) (dw.up x.toEx0)
      · exact q.elim
    · exact q.elim
  · exact q.elim
end
end Pd
set_option maxRecDepth 100000
set_option maxHeartbeats 4000000
namespace Pd
open PySem PySem.Spec PyProof.Rows L2
def setIx (x y v : D) (st : Store) : Option Store := match x with
  | .ref n => match st[n]? with
    | some (.lst l) => match y with
      | .int i => match ixN l.length i with
        | some j => some (st.set n (.lst (l.set j v)))
        | none => none
      | _ => none
    | some (.dK kvs) => match keyOf y with
      | some k => if kvs.length < sizeLine then some (st.set n (.dK (putD kvs k v))) else none
      | none => none
    | some (.dT kvs) => match keysOf y with
      | some k => if kvs.length < sizeLine then some (st.set n (.dT (putD kvs k v))) else none
      | none => none
    | none => none
  | _ => none
theorem putD_length {A : Type} [DecidableEq A] (kvs : List (A × D)) (k : A) (v : D) : (putD kvs k v).length ≤ kvs.length + 1 := by
  unfold putD
  split
  · rw [List.length_map]; omega
  · rw [List.length_append]; exact Nat.le_refl _
def rSet (K : PySem.W.Frag) : V → V → V → Hp → (Hp → Prop) → Prop := fun o i v H Q => ∃ f st d e w st', RSt K f H st ∧ RD K f H d o ∧ RD K f H e i ∧ RD K f H w v ∧ setIx d e w st = some st' ∧ ∀ f' H', Ext f H f' H' → RSt K f' H' st' → Q H'
section
variable {X : Cx} {E : XE}
theorem set_any (hu : X.A.units + 1 < cLine) : PSet X (rSet X.K) := fun pins s sg H o i v ov iv u Q I ro ri rv ⟨f, st, d, e, w, st', t, d1, d2, d3, hs, q⟩ => by
  unfold setIx at hs
  split at hs
  · rename_i n
    obtain ⟨a, rfl, fa⟩ := d1.refv
    split at hs
    · rename_i l es
      split at hs
      · rename_i k
        split at hs
        · rename_i j ej
          have hs := Option.some.inj hs
          subst hs
          obtain ⟨vs, ha, hr, hz⟩ := t.at_ n _ a es fa
          refine set_list pins s sg H _ _ v ov iv u Q I ro ri rv ⟨a, vs, k, j, rfl, d2.intv, ha, by rw [← hr.length]; exact ej, ?_⟩
          have x : Ext f H f (upd H a (.lst (vs.set j v))) := ext_set t fa
          exact q f _ x (t.set fa ⟨_, upd_same, .of _ _ _ (Paired.st (d3.up x.toEx0) (hr.up x.toEx0).pr j), by rw [List.length_set]; exact hz⟩)
        · cases hs
      · cases hs
    · rename_i kvs es
      split at hs
      · rename_i k ek
        split at hs
        · rename_i hz
          have hs := Option.some.inj hs
          subst hs
          obtain ⟨vs, ha, hr, _⟩ := t.at_ n _ a es fa
          cases ro
          have ei := d2.keyv ek
          rw [ei] at ri
          have x : Ext f H f (upd H a (.dK (putK vs k v))) := ext_set t fa
          refine d_setItem hu I (DPut.k ha (by rw [← Paired.length hr]; exact hz)) ri rv fun s' I' => ⟨_, I', q f _ x (t.set fa ⟨_, upd_same, put_rel (RKs.up x.toEx0 hr) (d3.up x.toEx0) k, ?_⟩)⟩
          have := putD_length kvs k w
          omega
        · cases hs
      · cases hs
    · rename_i kvs es
      split at hs
      · rename_i k ek
        split at hs
        · rename_i hz
          have hs := Option.some.inj hs
          subst hs
          obtain ⟨vs, ha, hr, _⟩ := t.at_ n _ a es fa
          cases ro
          obtain ⟨b, rfl, hb⟩ := d2.keysv ek
          have x : Ext f H f (upd H a (.dT (putK vs k v))) := ext_set t fa
          refine d_setItem hu I (DPut.t ha hb (by rw [← Paired.length hr]; exact hz)) ri rv fun s' I' => ⟨_, I', q f _ x (t.set fa ⟨_, upd_same, put_rel (RTs.up x.toEx0 hr) (d3.up x.toEx0) k, ?_⟩)⟩
          have := putD_length kvs k w
          omega
        · cases hs
      · cases hs
    · cases hs
  · cases hs
def dSetIx (e o i : DE) : DS := fun r st => (e r st).out fun v st1 => (o r st1).out fun x st2 => (i r st2).out fun y st3 => match setIx x y v st3 with
  | some st4 => .nx r st4
  | none => .err
theorem pds_setIx {pos pos' : Pos} {e o i : Expr} {de dO di : DE} (hu : X.A.units + 1 < cLine) (he : PE X e (rd X.K E de)) (ho : PE X o (rd X.K E dO)) (hi : PE X i (rd X.K E di)) (hs : swapsWithSole [.Subscript o i pos'] e pos.line X.env = pure false := by rfl) (hw : swappedStores [.Subscript o i pos'] e X.env = pure none := by rfl)
    (h1 : (assignEach [.Subscript o i pos'] X.env).map (·.2) = [assign (.Subscript o i pos') X.env] := by rfl)
    (ha : ∀ v, assign (.Subscript o i pos') X.env v = (do
      let ov ← holding [v] (eval o X.env)
      let iv ← holding [v, ov] (eval i X.env)
      standAt pos'
      holding [v, ov, iv] (setItem ov iv v)
      release [v, ov, iv] []) := by intro _; rfl) : PS X (.Assign [.Subscript o i pos'] e pos) (rdS X.K E (dSetIx de dO di)) := (ps_asg he (pg_sub ho hi (set_any hu) ha) hs hw h1).mn fun D s H h => by
  obtain ⟨f, r, st, hs, ht, h⟩ := h
  refine ⟨f, r, st, hs, ht, (postS.bind (R := RD X.K) h).mono fun v H1 ⟨f1, w, st1, x1, t1, d1, h1⟩ => ?_⟩
  have hs1 := hs.up x1.toEx0
  refine ⟨f1, r, st1, hs1, t1, (postS.bind (R := RD X.K) h1).mono fun o' H2 ⟨f2, x, st2, x2, t2, d2, h2⟩ => ?_⟩
  have hs2 := hs1.up x2.toEx0
  refine ⟨f2, r, st2, hs2, t2, (postS.bind (R := RD X.K) h2).mono fun i' H3 ⟨f3, y, st3, x3, t3, d3, h3⟩ => ?_⟩
  split at h3
  · rename_i st4 e4
    exact ⟨f3, st3, x, y, w, st4, t3, d2.up x3.toEx0, d3, (d1.up x2.toEx0).up x3.toEx0, e4, fun f' H' x4 t4 => h3 f' H' s x4 t4 ((hs2.up x3.toEx0).up x4.toEx0)⟩
  · exact h3.elim
def dNewT : DE := fun _ st => .ok (.ref st.length) (st ++ [.dT []])
theorem pd_dnewT {pos : Pos} : PE X (.Dict [] [] pos) (rd X.K E dNewT) := pe_dnewT.mn fun s H Q h p hp => by
  obtain ⟨f, r, st, hs, ht, h⟩ := h
  have x : Ext f H (f ++ [p]) (upd H p (.dT [])) := ext_put hp
  refine h (f ++ [p]) _ (.ref p) x (ht.lay hp ⟨[], upd_same, .nil, Nat.zero_le _⟩) (.ref ?_)
  rw [← ht.len]
  simp
/-- the pairs of a display, from the left -/
abbrev DPs := Env' → Store → Res (List (D × D))
def dpNil : DPs := fun _ st => .ok [] st
def dpCons (k v : DE) (ps : DPs) : DPs := fun r st => (k r st).bind fun x st1 => (v r st1).bind fun y st2 => (ps r st2).bind fun l st3 => .ok ((x, y) :: l) st3
def mergeD {A : Type} [DecidableEq A] (kvs more : List (A × D)) : List (A × D) := more.foldl (fun acc kv => putD acc kv.1 kv.2) kvs
def keyP (p : D × D) : Option (Key × D) := (keyOf p.1).map fun k => (k, p.2)
def dDisp (ps : DPs) : DE := fun r st => (ps r st).bind fun l st1 => match l.mapM keyP with
  | some kvs => if kvs.length ≤ 15 then .ok (.ref st1.length) (st1 ++ [.dK (mergeD [] kvs)]) else .err
  | none => .err
def RPs (K : PySem.W.Frag) : List Addr → Hp → List (D × D) → List (V × V) → Prop := fun f H l m => Paired (fun p q => RD K f H p.1 q.1 ∧ RD K f H p.2 q.2) l m
end
/-- what the readings of a display's pairs do -/
def PsOk (K : PySem.W.Frag) (E : XE) (trs : List (TE × TE)) (ps : DPs) : Prop := ∀ (f : List Addr) (H : Hp) (r : Env') (st : Store) (s : L2.St) (Q : List (V × V) → Hp → Prop), RS K f H r s → RSt K f H st → post K E (RPs K) f H (ps r st) Q → tPairs trs s H Q
theorem psok_nil {K : PySem.W.Frag} {E : XE} : PsOk K E [] dpNil := fun f H r st s Q hs ht h => post.now (show post K E (RPs K) f H (.ok [] st) Q from h) ht .nil
theorem psok_cons {K : PySem.W.Frag} {E : XE} {k v : DE} {ps : DPs} {trs : List (TE × TE)} (h : PsOk K E trs ps) : PsOk K E ((rd K E k, rd K E v) :: trs) (dpCons k v ps) := fun f H r st s Q hs ht q => by
  refine ⟨f, r, st, hs, ht, (post.bind (R' := RD K) q).mono fun x H1 ⟨f1, d, st1, x1, t1, d1, h1⟩ => ?_⟩
  have hs1 := hs.up x1.toEx0
  refine ⟨f1, r, st1, hs1, t1, (post.bind (R' := RD K) h1).mono fun y H2 ⟨f2, e, st2, x2, t2, d2, h2⟩ => ?_⟩
  refine h f2 H2 r st2 s _ (hs1.up x2.toEx0) t2 ((post.bind (R' := RPs K) h2).mono fun l H3 ⟨f3, m, st3, x3, t3, d3, h3⟩ => ?_)
  exact post.now (show post K E (RPs K) f3 H3 (.ok ((d, e) :: m) st3) Q from h3) t3 (.cons ⟨(d1.up x2.toEx0).up x3.toEx0, d2.up x3.toEx0⟩ d3)
theorem merge_rel {A : Type} [DecidableEq A] {F : D → V → Prop} {more : List (A × D)} {ms : List (A × V)} (h : Paired (fun p q => p.1 = q.1 ∧ F p.2 q.2) more ms) : ∀ {kvs : List (A × D)} {vs : List (A × V)}, Paired (fun p q => p.1 = q.1 ∧ F p.2 q.2) kvs vs →
    Paired (fun p q => p.1 = q.1 ∧ F p.2 q.2) (mergeD kvs more) (ms.foldl (fun acc kv => putK acc kv.1 kv.2) vs) := by
  induction h with
  | nil => intro kvs vs h; exact h
  | @cons a b l m hab t ih =>
    intro kvs vs h
    have e := put_rel h hab.2 a.1
    rw [hab.1] at e
    have := ih e
    rw [← hab.1] at this
    show Paired _ (mergeD (putD kvs a.1 a.2) l) _
    rw [hab.1] at this ⊢
    exact this
theorem mergeD_length {A : Type} [DecidableEq A] : ∀ (more kvs : List (A × D)), (mergeD kvs more).length ≤ kvs.length + more.length
  | [], kvs => Nat.le_refl _
  | p :: r, kvs => by
    have h1 := mergeD_length r (putD kvs p.1 p.2)
    have h2 := putD_length kvs p.1 p.2
    show (mergeD (putD kvs p.1 p.2) r).length ≤ _
    rw [List.length_cons]
    omega
section
variable {X : Cx} {E : XE} {pos : Pos} {keys : List (Option Expr)} {values : List Expr} {trs : List (TE × TE)} {ps : DPs}
theorem keyP_rel {K : PySem.W.Frag} {f : List Addr} {H : Hp} : ∀ {l : List (D × D)} {m : List (V × V)} {kvs : List (Key × D)}, RPs K f H l m → l.mapM keyP = some kvs → ∃ vs : List (Key × V), m = vs.map (fun kv => (kV kv.1, kv.2)) ∧ RKs K f H kvs vs
  | [], _, kvs, h, e => by
    cases h
    have e : kvs = [] := (Option.some.inj (show some [] = some kvs from e)).symm
    subst e
    exact ⟨[], rfl, .nil⟩
  | p :: l, _, kvs, h, e => by
    cases h with
    | @cons a b _ m hab t =>
      obtain ⟨q, r, e1, e2, rfl⟩ := mapM_cons e
      obtain ⟨vs, rfl, hr⟩ := keyP_rel t e2
      obtain ⟨k, ek, eq⟩ := Option.map_eq_some_iff.mp e1
      subst eq
      exact ⟨(k, b.2) :: vs, by rw [List.map_cons, ← hab.1.keyv ek], .cons ⟨rfl, hab.2⟩ hr⟩
theorem pd_disp (ok : PsOk X.K E trs ps) (h : PPs X pos keys values trs) (hall : keys.all (·.isSome) = true := by rfl) (hl : keys.length = values.length := by rfl) (h0 : keys ≠ [] := by exact fun z => by cases z) (h15 : keys.length ≤ 15 := by decide) : PE X (.Dict keys values pos) (rd X.K E (dDisp ps)) := (pe_disp h hall hl h0 h15).mn fun s H Q h p hp => by
  obtain ⟨f, r, st, hs, ht, h⟩ := h
  have x0 : Ext f H f (upd H p (.dK [])) := ext_new hp
  have pn : p ∉ f := fun m => by
    obtain ⟨w, hw, _⟩ := ht.mem m
    rw [hp] at hw
    cases hw
  refine ok f _ r st s _ (hs.up x0.toEx0) (ht.new hp) ?_
  unfold dDisp at h
  cases e1 : ps r st with
  | err => rw [e1] at h; exact h.elim
  | exc z st1 => rw [e1] at h; exact fun f' H' x1 => h f' H' (x0.trans x1)
  | ok l st1 =>
    rw [e1] at h
    intro f1 H1 m x1 t1 d1
    have h : post X.K E (RD X.K) f H (match l.mapM keyP with
      | some kvs => if kvs.length ≤ 15 then .ok (.ref st1.length) (st1 ++ [.dK (mergeD [] kvs)]) else .err
      | none => .err) Q := h
    cases e2 : l.mapM keyP with
    | none => rw [e2] at h; exact h.elim
    | some kvs =>
      rw [e2] at h
      have h : post X.K E (RD X.K) f H (if kvs.length ≤ 15 then .ok (.ref st1.length) (st1 ++ [.dK (mergeD [] kvs)]) else .err) Q := h
      obtain ⟨vs, rfl, hr⟩ := keyP_rel d1 e2
      by_cases hz : kvs.length ≤ 15
      · rw [if_pos hz] at h
        have hp1 : H1 p = some (.dK []) := x1.fr _ _ upd_same pn
        have pn1 : p ∉ f1 := fun m => by
          have z := x1.nw p m pn
          rw [upd_same] at z
          cases z
        refine ⟨hp1, vs, rfl, by rw [← Paired.length hr]; exact hz, ?_⟩
        have x2 : Ex0 f1 H1 (f1 ++ [p]) (upd H1 p (.dK (mergeK [] vs))) := ⟨List.prefix_append f1 [p], fun b o hb nm => by
          rw [upd_ne fun e => by
            rw [e, hp1] at hb
            cases hb
            exact nm trivial]
          exact hb⟩
        have x3 : Ext f H (f1 ++ [p]) (upd H1 p (.dK (mergeK [] vs))) := ⟨⟨x1.pre.trans (List.prefix_append f1 [p]), fun b o hb nm => x2.im _ _ (x1.im _ _ (x0.im _ _ hb nm) nm) nm⟩, fun c hc hn => ?_, fun b o hb hn => ?_⟩
        · refine h (f1 ++ [p]) _ (.ref p) x3 (t1.put pn1 x2 (fun c hc => upd_ne fun e => pn1 (e ▸ hc)) ⟨_, upd_same, merge_rel (RKs.up x2 hr) .nil, ?_⟩) (.ref ?_)
          · have := mergeD_length kvs []
            rw [sizeLine_eq]
            rw [List.length_nil] at this
            omega
          · rw [← t1.len]
            simp
        · rcases List.mem_append.mp hc with hc | hc
          · have z := x1.nw c hc hn
            rw [upd_ne fun e => pn1 (by rw [← e]; exact hc)] at z
            exact z
          · rw [List.mem_singleton] at hc
            rw [hc]
            exact hp
        · have hne : b ≠ p := fun e => by
            rw [e, hp] at hb
            cases hb
          rw [upd_ne hne]
          exact x1.fr _ _ (by rw [upd_ne hne]; exact hb) hn
      · rw [if_neg hz] at h
        exact h.elim
end
end Pd
set_option maxRecDepth 100000
set_option maxHeartbeats 4000000
namespace Pd
open PySem PySem.Spec PyProof.Rows L2
end Pd
set_option maxRecDepth 100000
set_option maxHeartbeats 4000000
namespace Pd
open PySem PySem.Spec PyProof.Rows L2
structure FnG (P : Program) (w : World) (K : PySem.W.Frag) (mg : Str → Option Value) (base : Heap) (CX : CXT) (k : Nat) (f : Addr) (fd : FuncData) (ps : List Str) (sp : Sp) : Prop where
  len : ∀ vs H Q E, sp vs H Q E → vs.length = ps.length
  go : ∀ {A : Around} {outer : List Env} {s : Shared} {H : Hp} {args : Args} {us : List Value} {vs : List V} {Q : VK} {E : XK},
    Room k A → A.guards = some [] → Env0 P w K mg base A outer s H → BindsTo s fd args (ps.zip us) → Vals vs us → sp vs H Q E → codeAny (model P w) A (.call (.ref f) args) (CR CX outer P w H s Q E) s
section
variable {P : Program} {w : World} {K : PySem.W.Frag} {mg : Str → Option Value} {base : Heap} {CX : CXT} {k : Nat} {f : Addr} {fd : FuncData} {ps : List Str} {sp sp' : Sp}
theorem FnG.imp (F : FnG P w K mg base CX k f fd ps sp) (i : ∀ vs H Q E, sp' vs H Q E → sp vs H Q E) : FnG P w K mg base CX k f fd ps sp' :=
  ⟨fun vs H Q E h => F.len vs H Q E (i _ _ _ _ h), fun hr hg e0 hb hv h => F.go hr hg e0 hb hv (i _ _ _ _ h)⟩
end
/-- a def of the text, its body walked -/
theorem FnG.of {P : Program} {w : World} {K : PySem.W.Frag} {mg : Str → Option Value} {base : Heap} {x qual : Str} {params : Arguments} {body : List Stmt} {scope : Scope} {dvs : List V} {kws : List (Str × V)} {f : Addr} {fd : FuncData} {CX : CXT} {N ps : List Str} {k : Nat} {sp : Sp}
    (F : FunD K x qual params body scope dvs kws f fd) (S : FnScope N ps scope) (len : ∀ vs H Q E, sp vs H Q E → vs.length = ps.length)
    (walk : ∀ (cdv : Value) (A : Around) (outer : List Env) (s : Shared) (H : Hp) (vs : List V) (Q : VK) (E : XK), Room k (A.deeper (envOfC qual scope s.heap.objs.size f cdv)) → A.guards = some [] → sp vs H Q E →
      ∃ t, PSs (cxOf CX P w K mg base N qual scope f cdv A outer s H E) body t ∧ t { nx := fun _ H' => Q .non H', rt := Q } (start N vs) H) : FnG P w K mg base CX (k + 1) f fd ps sp := by
  obtain ⟨oc, od, dV, kV, doc, pm, an, cdv, ct, osl, rfl, lk, hcd, _, _⟩ := F.ex
  refine ⟨len, ?_⟩
  intro A outer s H args us vs Q E hr hg e0 hb hv h
  have base_in : ∀ b o, base.get? b = some o → s.heap.get? b = some o := fun b o e => (e0.bs b o e).1
  have kin := e0.mod.kin.keeps base_in
  obtain ⟨t, ht, hq⟩ := walk cdv A outer s H vs Q E (hr.deeper _) hg h
  refine codeAny_call_function hr.depth (kin _ _ lk) rfl S.co S.gen rfl (PySem.W.codeRec_of kin hcd) (hb _ _ _ _ (wpAny_newFunctionEnv_cells S.kind ?par ?body))
  case par =>
    rintro ⟨n, u⟩ hy
    have hn := S.par n (List.of_mem_zip hy).1
    exact hn.imp id fun q => ⟨q, PySem.W.cellsFrom_some _ _ _ (.inl q)⟩
  case body =>
    rintro env rfl s1 x1
    have I := inv_start (CX := CX) (E := E) S hr.hd e0 (len _ _ _ _ h) hv x1
    refine ⟨(e0.mod.nolimit.keeps base_in).keeps x1.toInCall.keep, codeAny_func (wpAny_mono (ht.run [] s1 (start N vs) H _ I hq) (fun fl s' z => ?_) fun _ _ z => z)⟩
    cases fl with
    | next =>
      obtain ⟨σ', H', J, q⟩ := z
      exact ⟨.non, H', J.os, J.bare, J.base, J.hok, rfl, q⟩
    | ret u =>
      obtain ⟨v, σ', H', J, rv, q⟩ := z
      exact ⟨v, H', J.os, J.bare, J.base, J.hok, rv, q⟩
    | brk => exact False.elim z.choose_spec.choose_spec.2
    | cont => exact False.elim z.choose_spec.choose_spec.2
section
variable {X : Cx} {CX : CXT} {k : Nat} {f : Addr} {fd : FuncData} {ps ks : List Str} {sp : Sp} {dvs : List V} {ds : List Value} {E : XK} {x : Str} {p pos : Pos} {e : Expr} {es : List Expr} {t tk : TA} {kws : List Keyword} {g : List Value → List Value → List Value} {gV : List V → List V → List V}
/-- the callee's end is a value's end here -/
theorem cr_end {pins : List (Addr × Obj)} {σ : L2.St} {H : Hp} {s s' : Shared} {Q : VK} {r : Result} (hx : Passes CX X E) (I : Inv X pins σ H s) (h : CR CX X.stack X.prog X.w H s Q E r s') :
    match r with
    | .ok (.ret u) => EP X pins σ Q u s'
    | .ok _ => False
    | .error e => X.xe e s' := by
  cases r with
  | error e => exact hx pins σ H s e s' I h
  | ok fl => cases fl with
    | ret u => exact I.after h
    | _ => exact h
theorem FnG.runs {pins : List (Addr × Obj)} {σ : L2.St} {H : Hp} {s : Shared} {Q : VK} {us ws : List Value} {vs zs : List V} (F : FnG X.prog X.w X.K X.mg X.base CX k f fd ps sp) (hr : Room k X.A) (hg : X.A.guards = some []) (hb : KBinds X.K fd ps ks g gV) (hx : Passes CX X E)
    (I : Inv X pins σ H s) (r : Vals vs us) (rz : Vals zs ws) (h : sp (gV vs zs) H Q E) : wpAny (model X.prog X.w) X.A (call (.ref f) us (ks.zip ws)) (EP X pins σ Q) X.xe s := by
  have rr := hb.rel r rz
  have hl : (g us ws).length = ps.length := rr.length ▸ F.len _ _ _ _ h
  refine wpAny_call (codeAny_mono (F.go hr hg I.env0 (hb.to s us ws I.kIn hl) rr h) fun r s' z => ?_)
  have z := cr_end hx I z
  cases r with
  | error e => exact z
  | ok fl => cases fl <;> exact z
/-- a call by place alone, seen as one with no keywords -/
theorem kb_none {K : PySem.W.Frag} (hb : Binds K fd ps []) : KBinds K fd ps [] (fun us _ => us) (fun vs _ => vs) :=
  ⟨fun s us ws KX hl => by
    have h := hb s us KX (by rw [List.append_nil]; exact hl)
    rw [List.append_nil] at h
    exact h, fun r _ => r⟩
end
/-- the heap behind the top, the script hidden in it or of the written part -/
theorem law_end {P : Program} {w : World} {K : PySem.W.Frag} {mg mb : Str → Option Value} {k : Nat} {fa a : Addr} {fd : FuncData} {x : Str} {sp : Sp} {s₁ : Shared} {vs : List Value} {ns : List Int} {CX : CXT}
    (KX : K.In s₁.heap) (nsG : s₁.heap.Ns mainGlobals mg) (nsB : s₁.heap.Ns builtinsNs mb) (hbb : ∀ x : Str, x ≠ "__name__" → mb x = bootBuiltins x) (hlim : s₁.heap.NoLimit) (hgen : s₁.gens = #[])
    (ha : s₁.heap.get? a = some { cls := .type "list", data := .seq vs.toArray }) (hi : IntsAre vs ns) (hl : ns.length ≤ sizeLine) (hr : Room k callerA)
    (F : ∀ base : Heap, K.In base → base.Ns mainGlobals mg → FnG P w K mg base CX k fa fd [x] sp) (hbind : ∀ (s : Shared) (u : Value), BindsTo s fd ⟨[u], []⟩ [(x, u)])
    (hsp : ∀ H : Hp, (∀ b, H b = none ∨ ∃ o xs, H b = some (.frz o (.lst xs))) → SqF K H a (ns.map V.int) → sp [.ref a] H (fun v _ => v = .bl true) fun _ _ _ => False)
    (hCX : ∀ H e s', CX [] H s₁ (fun _ _ _ => False) e s' → False) :
    codeAny (model P w) callerA (.call (.ref fa) ⟨[.ref a], []⟩) (fun r s' => r = .ok (.ret (.bool true)) ∧ OldK s₁.heap s'.heap ∧ s'.os = s₁.os ∧ AllBare s'.gens) s₁ := by
  -- H: nothing, or the script alone, locked
  have main : ∀ H : Hp, (∀ b, H b = none ∨ (b = a ∧ K.lookup a = none ∧ H b = some (.frz { cls := .type "list", data := .seq vs.toArray } (.lst (ns.map V.int))))) → SqF K H a (ns.map V.int) →
      codeAny (model P w) callerA (.call (.ref fa) ⟨[.ref a], []⟩) (fun r s' => r = .ok (.ret (.bool true)) ∧ OldK s₁.heap s'.heap ∧ s'.os = s₁.os ∧ AllBare s'.gens) s₁ := by
    intro H hH hS
    have see : ∀ {b : Addr} {o : Obj}, s₁.heap.get? b = some o → H b = none → (hidT s₁.heap H).get? b = some o := fun h n => hidT_get h n
    have free : ∀ {b : Addr} {o : Obj}, s₁.heap.get? b = some o → (b = a → K.lookup a = none → False) → H b = none := fun {b o} _ h => (hH b).resolve_right fun ⟨e, z, _⟩ => h e z
    have dct : ∀ {b : Addr} {m : Str → Option Value}, s₁.heap.Ns b m → (hidT s₁.heap H).Ns b m := by
      rintro b m ⟨o, es, ep, e, d, r⟩
      refine ⟨o, es, ep, see e (free e fun z _ => ?_), d, r⟩
      rw [z, ha] at e
      cases e
      cases d
    have kin : K.In (hidT s₁.heap H) := fun b o e => see (KX b o e) (free (KX b o e) fun z n => by
      rw [z, n] at e
      cases e)
    have hok : HOk P w H s₁.heap := by
      intro b u z
      rcases hH b with n | ⟨rfl, _, n⟩
      · rw [n] at z
        cases z
      · rw [n] at z
        cases z
        exact ⟨ha, by rw [List.length_map]; exact hl, vs, _, vals_ints hi, ha⟩
    obtain ⟨mc, c1, c2⟩ := hlim
    have e0 : Env0 P w K mg (hidT s₁.heap H) callerA [] s₁ H :=
      ⟨rfl, ⟨kin, dct nsG, ⟨mb, dct nsB, hbb⟩, ⟨mc, dct c1, c2⟩⟩, fun b o e => of_hidT e, Nat.le_of_eq (hidT_size _ _), trivial, fun b hb => (List.not_mem_nil hb).elim, hok, .of_eq hgen⟩
    refine codeAny_mono ((F _ kin (dct nsG)).go (us := [.ref a]) (vs := [.ref a]) hr rfl e0 (hbind s₁ (.ref a)) (.cons rfl .nil) (hsp H (fun b => (hH b).imp id fun z => ⟨_, _, z.2.2⟩) hS)) fun r s' h => ?_
    match r, h with
    | .error e, h => exact (hCX H e s' h).elim
    | .ok (.ret u), ⟨v, H', os, bare, un, hok', rv, hv⟩ =>
      have hv : v = .bl true := hv
      rw [hv] at rv
      have eu : u = Value.bool true := rv
      rw [eu]
      refine ⟨rfl, OldK.of_keep fun b o e => ?_, os, bare⟩
      rcases hH b with n | ⟨rfl, _, n⟩
      · exact un.keep b o e n (fun z => (List.not_mem_nil z).elim) (fun z => (List.not_mem_nil z).elim)
      · have n' := un.frzs b _ _ n
        rw [ha] at e
        cases e
        exact (hok' b _ n').1
    | .ok .next, h => exact False.elim h
    | .ok .brk, h => exact False.elim h
    | .ok .cont, h => exact False.elim h
  cases hk : K.lookup a with
  | some o =>
    have e := KX a o hk
    rw [ha] at e
    cases e
    exact main (fun _ => none) (fun _ => .inl rfl) (.inr ⟨_, vs.toArray, _, hk, rfl, rfl, rfl, by rw [List.size_toArray, hi.length]; exact hl, by simpa using vals_ints hi⟩)
  | none =>
    refine main (fun b => if b = a then some (.frz { cls := .type "list", data := .seq vs.toArray } (.lst (ns.map V.int))) else none) (fun b => ?_) (.inl ⟨_, if_pos rfl⟩)
    by_cases e : b = a
    · exact .inr ⟨e, hk, if_pos e⟩
    · exact .inl (if_neg e)
end Pd
set_option maxRecDepth 100000
set_option maxHeartbeats 4000000
namespace Pd
open PySem PySem.Spec PyProof.Rows L2
abbrev XX0 : XK → XE := fun _ => E00
abbrev DFn := List D → Store → Res D
/-- the promise of a def that computes F -/
def spD (K : PySem.W.Frag) (XX : XK → XE) (F : DFn) (n : Nat) : Sp := fun vs H Q E => ∃ f st ds, RSt K f H st ∧ RDs K f H ds vs ∧ vs.length = n ∧ post K (XX E) (RD K) f H (F ds st) Q
/-- a body as a function: N slots -/
def runD (N : Nat) (c : DS) : DFn := fun ds st => match c (ds.map some ++ List.replicate (N - ds.length) none) st with
  | .nx _ st1 => .ok .non st1
  | .rt d st1 => .ok d st1
  | .exc e st1 => .exc e st1
  | _ => .err
theorem RS.start {K : PySem.W.Frag} {f : List Addr} {H : Hp} {ds : List D} {vs : List V} (N : List Str) (h : RDs K f H ds vs) : RS K f H (ds.map some ++ List.replicate (N.length - ds.length) none) (L2.start N vs) := by
  unfold L2.start
  rw [← h.length]
  have hl := h.length
  refine ⟨by simp [hl], fun i d e => ?_⟩
  by_cases hi : i < ds.length
  · rw [List.getElem?_append_left (by simpa using hi), List.getElem?_map] at e
    rw [List.getElem?_append_left (by simpa [← h.length] using hi), List.getElem?_map]
    cases q : ds[i]? with
    | none => rw [q] at e; cases e
    | some d' =>
      rw [q] at e
      cases e
      obtain ⟨v, hv, r⟩ := Paired.get' (RDs.pr K f H h) q
      exact ⟨v, by rw [hv]; rfl, r⟩
  · rw [List.getElem?_append_right (by simpa using hi), List.getElem?_replicate] at e
    split at e <;> cases e
theorem rdS_run {K : PySem.W.Frag} {E : XE} {N : List Str} {c : DS} {f : List Addr} {H : Hp} {st : Store} {ds : List D} {vs : List V} {Q : VK} (ht : RSt K f H st) (hd : RDs K f H ds vs) (h : post K E (RD K) f H (runD N.length c ds st) Q) :
    rdS K E c { nx := fun _ H' => Q .non H', rt := Q } (L2.start N vs) H := by
  refine ⟨f, _, st, RS.start N hd, ht, ?_⟩
  unfold runD at h
  split at h
  · rename_i e
    rw [e]
    exact fun f' H' s' x t _ => h f' H' .non x t .non
  · rename_i e
    rw [e]
    exact h
  · rename_i e
    rw [e]
    exact h
  · exact h.elim
/-- a def of the text that computes F (CX: how exceptions leave; XX: the wish about them) -/
structure DOk (P : Program) (w : World) (K : PySem.W.Frag) (mg : Str → Option Value) (CX : CXT) (XX : XK → XE) (k : Nat) (x : Str) (st : Stmt) (ps : List Str) (F : DFn) : Prop where
  ex : ∃ (f : Addr) (fd : FuncData), FunD K x x (defArgs st) (defBody st) (defScope st) [] [] f fd ∧ mg x = some (.ref f) ∧ Binds K fd ps [] ∧ ∀ base : Heap, K.In base → base.Ns mainGlobals mg → FnG P w K mg base CX k f fd ps (spD K XX F ps.length)
theorem _root_.L2.Room.u1 {k : Nat} {A : Around} (r : Room k A) : A.units + 1 < cLine := by have := r.un; omega
theorem _root_.L2.Room.u64 {k : Nat} {A : Around} (r : Room k A) : A.units + 64 < cLine := by have := r.un; omega
theorem _root_.L2.Room.u65 {k : Nat} {A : Around} (r : Room k A) : A.units + 65 < cLine := by have := r.un; omega
section
variable {P : Program} {w : World} {K : PySem.W.Frag} {mg : Str → Option Value} {x : Str} {st : Stmt} {ps N : List Str} {k : Nat} {c : DS} {f : Addr} {fd : FuncData}
/-- no exception leaves -/
theorem DOk.of0 (F : FunD K x x (defArgs st) (defBody st) (defScope st) [] [] f fd) (hm : mg x = some (.ref f)) (S : FnScope N ps (defScope st))
    (hb : ∀ (kV doc pm : Value) (an : Option Addr) (cdv ct : Value) (us : List Value), us.length = ps.length → bindArgs (PySem.W.fnOf x x (defArgs st) (defBody st) (defScope st) .none kV doc pm an cdv ct) ⟨us, []⟩ = pure (ps.zip us))
    (h : ∀ (base : Heap) (cdv : Value) (A : Around) (outer : List Env) (s : Shared) (H : Hp) (E : XK), K.In base → base.Ns mainGlobals mg → Room k (A.deeper (envOfC x (defScope st) s.heap.objs.size f cdv)) → A.guards = some [] →
      PSs (cxOf CX0 P w K mg base N x (defScope st) f cdv A outer s H E).nox (defBody st) (rdS K E00 c)) : DOk P w K mg CX0 XX0 (k + 1) x st ps (runD N.length c) :=
  ⟨f, fd, F, hm, F.bindsN hb, fun base KX G => FnG.of F S (fun vs H Q E ⟨_, _, _, _, _, hl, _⟩ => hl) fun cdv A outer s H vs Q E hr hg hsp => ⟨_, (h base cdv A outer s H E KX G hr hg).nox, by
    obtain ⟨f, st, ds, ht, hd, _, hp⟩ := hsp
    exact rdS_run ht hd hp⟩⟩
/-- a weaker promise -/
theorem DOk.imp {CX : CXT} {XX : XK → XE} {F F' : DFn} (h : DOk P w K mg CX XX k x st ps F) (i : ∀ ds s, F' ds s = .err ∨ F' ds s = F ds s) : DOk P w K mg CX XX k x st ps F' := by
  obtain ⟨f, fd, a, b, c, d⟩ := h
  refine ⟨f, fd, a, b, c, fun base KX G => FnG.imp (d base KX G) fun vs H Q E ⟨f, st, ds, h1, h2, h3, h4⟩ => ⟨f, st, ds, h1, h2, h3, ?_⟩⟩
  rcases i ds st with e | e
  · rw [e] at h4; exact h4.elim
  · rw [← e]; exact h4
end
section
variable {X : Cx} {CX : CXT} {XX : XK → XE} {E : XK} {k : Nat} {x : Str} {st : Stmt} {ps : List Str} {F : DFn} {p pos : Pos} {e : Expr} {es : List Expr} {dl : DA}
theorem rd_call {K : PySem.W.Frag} {n : Nat} {s : L2.St} {H : Hp} {Q : VK} (hn : ∀ ds st, ds.length ≠ n → F ds st = .err) (h : rd K (XX E) (dL F dl) s H Q) : tCall (spD K XX F n) [] E (rdA K (XX E) dl) s H Q := by
  obtain ⟨f, r, st, hs, ht, h⟩ := h
  refine ⟨f, r, st, hs, ht, (post.bind (R' := RDs K) h).mono fun vs H1 ⟨f1, l, st1, x1, t1, d1, h1⟩ => ?_⟩
  rw [List.append_nil]
  refine ⟨f1, st1, l, t1, d1, ?_, h1⟩
  by_cases hl : l.length = n
  · rw [← d1.length]; exact hl
  · rw [hn l st1 hl] at h1
    exact h1.elim
end
/-- F with its arguments counted -/
def ofN (n : Nat) (F : DFn) : DFn := fun ds st => if ds.length = n then F ds st else .err
theorem ofN_ne {n : Nat} {F : DFn} (ds : List D) (st : Store) (h : ds.length ≠ n) : ofN n F ds st = .err := if_neg h
theorem DOk.ofN {P : Program} {w : World} {K : PySem.W.Frag} {mg : Str → Option Value} {CX : CXT} {XX : XK → XE} {k : Nat} {x : Str} {st : Stmt} {ps : List Str} {F : DFn} (h : DOk P w K mg CX XX k x st ps F) (n : Nat) : DOk P w K mg CX XX k x st ps (ofN n F) := h.imp fun ds s => by
  unfold Pd.ofN
  by_cases e : ds.length = n
  · exact .inr (if_pos e)
  · exact .inl (if_neg e)
section
variable {X : Cx} {CX : CXT} {XX : XK → XE} {E : XK} {k : Nat} {x : Str} {st : Stmt} {ps : List Str} {F : DFn} {p pos : Pos} {e : Expr} {es : List Expr} {dl dk : DA} {kws : List Keyword}
/-- what a call needs of where it stands -/
structure At (X : Cx) (CX : CXT) (E : XK) : Prop where
  kin : X.K.In X.base
  ns : X.base.Ns mainGlobals X.mg
  ps : Passes CX X E
  gd : X.A.guards = some []
theorem pd_call (d : DOk X.prog X.w X.K X.mg CX XX k x st ps F) (hr : Room k X.A) (at_ : At X CX E) (ha : PA X (e :: es) (rdA X.K (XX E) dl)) (hg : Gl X x := by rfl)
    (hdb : (x == ("__debug__" : Str)) = false := by decide) (he : starEach (e :: es) X.env = (false, eval e X.env) :: starEach es X.env := by rfl) (hpl : (backTo pos (starEach es X.env)).any (·.1) = false := by rfl) :
    PE X (.Call (.Name x p) (e :: es) [] pos) (rd X.K (XX E) (dL (ofN ps.length F) dl)) := by
  obtain ⟨f, fd, a, b, c, d⟩ := d.ofN ps.length
  refine ⟨fun pins s σ H Q I h => ?_⟩
  have h := rd_call (F := ofN ps.length F) (dl := dl) ofN_ne h
  refine wpAny_Call_Name_kw (ld_glob I hg b ?_ hdb)
  refine PySem.W.callWith_K (h₀ := X.base) I.ok.mod.kin a.kp (thn (ha.run pos pins s σ H _ I h) fun us s1 ⟨vs, H1, I1, r, q⟩ => ⟨I1.kIn, ?_⟩) he hpl
  have q : spD X.K XX (ofN ps.length F) ps.length (vs ++ []) H1 Q E := q
  rw [List.append_nil] at q
  exact FnG.runs (ks := []) (ws := []) (zs := []) (d X.base at_.kin at_.ns) hr at_.gd (kb_none c) at_.ps I1 r .nil q
/-- the written values, then the keywords' values, put in the parameters' order: n values are written, m by keywords, the i-th of is tells where the i-th parameter's value stands -/
def gP (n m : Nat) (is : List Nat) {A : Type} (us ws : List A) : List A := if us.length = n ∧ ws.length = m then is.filterMap fun i => (us ++ ws)[i]? else []
theorem gP_rel {A B : Type} {R : A → B → Prop} {n m : Nat} {us ws : List A} {us' ws' : List B} (h : Paired R us us') (h' : Paired R ws ws') (is : List Nat) : Paired R (gP n m is us ws) (gP n m is us' ws') := by
  unfold gP
  rw [← Paired.length h, ← Paired.length h']
  split
  · have hh := Paired.app h h'
    induction is with
    | nil => exact .nil
    | cons i is ih =>
      rw [List.filterMap_cons, List.filterMap_cons]
      cases q : (us ++ ws)[i]? with
      | none =>
        have : (us' ++ ws')[i]? = none := by
          rw [List.getElem?_eq_none_iff] at q ⊢
          rw [← Paired.length hh]
          exact q
        rw [this]
        exact ih
      | some a =>
        obtain ⟨b, e, r⟩ := Paired.get' hh q
        rw [e]
        exact .cons r ih
  · exact .nil
theorem gP_kb {K : PySem.W.Frag} {x : Str} {st : Stmt} {f : Addr} {fd : FuncData} {ps ks : List Str} (F : FunD K x x (defArgs st) (defBody st) (defScope st) [] [] f fd) (n m : Nat) (is : List Nat) (h0 : ps ≠ [])
    (hb : ∀ (kV doc pm : Value) (an : Option Addr) (cdv ct : Value) (us ws : List Value), us.length = n → ws.length = m → bindArgs (PySem.W.fnOf x x (defArgs st) (defBody st) (defScope st) .none kV doc pm an cdv ct) ⟨us, ks.zip ws⟩ = pure (ps.zip (gP n m is us ws))) :
    KBinds K fd ps ks (gP n m is) (gP n m is) := by
  obtain ⟨oc, od, dV, kV, doc, pm, an, cdv, ct, osl, rfl, lk, hcd, hD, hK⟩ := F.ex
  refine ⟨fun s us ws KX hl => ?_, fun h h' => gP_rel h h' is⟩
  rcases hD with ⟨_, rfl⟩ | ⟨e, _⟩
  · by_cases c : us.length = n ∧ ws.length = m
    · exact .of_eq (hb kV doc pm an cdv ct us ws c.1 c.2)
    · exfalso
      unfold gP at hl
      rw [if_neg c] at hl
      exact h0 (List.length_eq_zero_iff.mp hl.symm)
  · exact absurd rfl e
/-- f(e, .., k = v, ..) -/
def dLK (n m : Nat) (is : List Nat) (F : DFn) (a b : DA) : DE := fun r st => (a r st).bind fun l st1 => (b r st1).bind fun z st2 => F (gP n m is l z) st2
theorem rd_callK {K : PySem.W.Frag} {np n m : Nat} {is : List Nat} {s : L2.St} {H : Hp} {Q : VK} (hn : ∀ ds st, ds.length ≠ np → F ds st = .err) (h : rd K (XX E) (dLK n m is F dl dk) s H Q) : tCallK (spD K XX F np) (gP n m is) E (rdA K (XX E) dl) (rdA K (XX E) dk) s H Q := by
  obtain ⟨f, r, st, hs, ht, h⟩ := h
  refine ⟨f, r, st, hs, ht, (post.bind (R' := RDs K) h).mono fun vs H1 ⟨f1, l, st1, x1, t1, d1, h1⟩ => ?_⟩
  refine ⟨f1, r, st1, hs.up x1.toEx0, t1, (post.bind (R' := RDs K) h1).mono fun zs H2 ⟨f2, z, st2, x2, t2, d2, h2⟩ => ?_⟩
  have dd : RDs K f2 H2 (gP n m is l z) (gP n m is vs zs) := .of _ _ _ (gP_rel (d1.up x2.toEx0).pr d2.pr is)
  refine ⟨f2, st2, _, t2, dd, ?_, h2⟩
  by_cases hl : (gP n m is l z).length = np
  · rw [← dd.length]; exact hl
  · rw [hn _ st2 hl] at h2
    exact h2.elim
/-- f(k = v, ..) -/
theorem pd_callK0 (m : Nat) (is : List Nat) (ks : List Str) (d : DOk X.prog X.w X.K X.mg CX XX k x st ps F) (hr : Room k X.A) (at_ : At X CX E) (hk : PK X kws (rdA X.K (XX E) dk))
    (hb : ∀ (kV doc pm : Value) (an : Option Addr) (cdv ct : Value) (us ws : List Value), us.length = 0 → ws.length = m → bindArgs (PySem.W.fnOf x x (defArgs st) (defBody st) (defScope st) .none kV doc pm an cdv ct) ⟨us, ks.zip ws⟩ = pure (ps.zip (gP 0 m is us ws)))
    (h0 : ps ≠ [] := by decide) (hg : Gl X x := by rfl) (hall : (backToKw pos (keywordEach kws X.env)).all (·.1.isSome) = true := by rfl) (hks : (backToKw pos (keywordEach kws X.env)).filterMap (·.1) = ks := by rfl)
    (hdb : (x == ("__debug__" : Str)) = false := by decide)
    (hpl : ((backTo pos (starEach [] X.env)).any (·.1) || (backToKw pos (keywordEach kws X.env)).any (·.1.isNone)) = false := by rfl) :
    PE X (.Call (.Name x p) [] kws pos) (rd X.K (XX E) (dLK 0 m is (ofN ps.length F) dNil dk)) := by
  obtain ⟨f, fd, a, b, c, d⟩ := d.ofN ps.length
  refine ⟨fun pins s σ H Q I h => ?_⟩
  have h := rd_callK (np := ps.length) ofN_ne h
  refine wpAny_Call_Name_kw (ld_glob I hg b ?_ hdb)
  refine PySem.W.callWith_KW0 (h₀ := X.base) I.ok.mod.kin a.kp hall ?_ hpl
  obtain ⟨f, r, st, hs, ht, h⟩ := h
  have h := post.now (show post X.K (XX E) (RDs X.K) f H (.ok [] st) _ from h) ht .nil
  refine thn (hk.run pos pins s σ H _ I h) fun ws s2 ⟨zs, H2, I2, rz, q2⟩ => ⟨I2.kIn, ?_⟩
  rw [hks]
  exact FnG.runs (us := []) (d X.base at_.kin at_.ns) hr at_.gd (gP_kb a 0 m is h0 hb) at_.ps I2 .nil rz q2
end
end Pd
set_option maxRecDepth 100000
set_option maxHeartbeats 4000000
namespace Pd
open PySem PySem.Spec PyProof.Rows L2
section
variable {X : Cx} {E : XE}
def truD : D → Store → Res Bool
  | .non, st => .ok false st
  | .bl b, st => .ok b st
  | .int i, st => .ok (i != 0) st
  | .tup l, st => .ok (!l.isEmpty) st
  | .fz l, st => .ok (!l.isEmpty) st
  | .xt l, st => .ok (!l.isEmpty) st
  | .ref n, st => match getL st n with
    | some l => .ok (!l.isEmpty) st
    | none => .err
  | _, _ => .err
def dTru (e : DE) : DT := fun r st => (e r st).bind truD
theorem RDs.emp {K : PySem.W.Frag} {f : List Addr} {H : Hp} {l : List D} {vs : List V} (h : RDs K f H l vs) : l.isEmpty = vs.isEmpty := by cases h <;> rfl
theorem pdt_tru {a : Expr} {da : DE} (ha : PE X a (rd X.K E da)) (he : ∀ whole, isTrue a X.env whole = (do let v ← whole; standAt a.pos; holding [v] (truthy v)) := by intro _; rfl) : PT X a (rdT X.K E (dTru da)) := (pt_truth ha he).mn fun s H Q h => by
  obtain ⟨f, r, st, hs, ht, h⟩ := h
  refine ⟨f, r, st, hs, ht, (post.bind (R' := RD X.K) h).mono fun x H1 ⟨f1, d, st1, x1, t1, d1, h1⟩ => ?_⟩
  cases d with
  | non => cases d1; exact ⟨false, rfl, h1.now t1 rfl⟩
  | bl b => cases d1; exact ⟨b, rfl, h1.now t1 rfl⟩
  | int i => cases d1; exact ⟨_, rfl, h1.now t1 rfl⟩
  | str x => exact h1.elim
  | tup l =>
    obtain ⟨a, vs, rfl, ha, _, hr⟩ := d1.tupv
    exact ⟨_, .inr (.inl ⟨vs, .of ha, rfl⟩), h1.now t1 (congrArg (!·) hr.emp)⟩
  | fz l =>
    obtain ⟨a, vs, rfl, ha, _, hr⟩ := d1.fzv
    exact ⟨_, .inl ⟨vs, ha.sq, rfl⟩, h1.now t1 (congrArg (!·) hr.emp)⟩
  | xt l =>
    obtain ⟨a, vs, rfl, ha, _, hr⟩ := d1.xtv
    exact ⟨_, .inr (.inl ⟨vs, ha.sq, rfl⟩), h1.now t1 (congrArg (!·) hr.emp)⟩
  | ref n =>
    have h1 : post X.K E RB f1 H1 (match getL st1 n with
      | some l => .ok (!l.isEmpty) st1
      | none => .err) Q := h1
    cases e : getL st1 n with
    | none => rw [e] at h1; exact h1.elim
    | some l =>
      rw [e] at h1
      obtain ⟨a, vs, rfl, _, ha, hr, _⟩ := RD.lstv t1 d1 (getL_some e)
      exact ⟨_, .inl ⟨vs, .of ha, rfl⟩, h1.now t1 (congrArg (!·) hr.emp)⟩
theorem pds_tests1 {c : Expr} {t : DT} {E : XE} (h : PT X c (rdT X.K E t)) : PTs X [c] (rdT X.K E t) := pts_one h
def oRepr : List D → Store → Res D
  | [x], st => match toP64 st x with
    | some p => if p.showable = true ∧ p.shown.length ≤ sizeLine then .ok (.str p.shown) st else .err
    | none => .err
  | _, _ => .err
theorem cd_repr (hg : X.A.guards = some []) (hu : X.A.units + 65 < cLine) : CallR X (.builtin "repr") (rL X.K E oRepr) := CallR.of fun pins s sg H f st l xs us Q I r t d q => by
  match l, d, q with
  | [x], d, q =>
    unfold oRepr at q
    dsimp only at q
    split at q
    · rename_i p e
      split at q
      · rename_i hc
        obtain ⟨v, rfl, dv⟩ := d.one
        obtain ⟨u, rfl, ru⟩ := vals1 r
        obtain ⟨a1, b1, c1⟩ := toP_dp t 64 x v p dv e
        obtain ⟨as, rr⟩ := Dp.reads I p v u a1 ru
        have q := q.now t (.str _)
        have fin : ∀ (h' : Heap) (tk tk' : Tok), (∀ b o, s.heap.get? b = some o → h'.get? b = some o) → EP X pins sg Q (.str p.shown tk) { s with heap := h', toks := tk' } := fun h' tk tk' hk => ⟨.str p.shown, H, I.kept (t' := tk') hk, ⟨_, rfl⟩, q⟩
        cases x with
        | non => cases dv; cases ru; cases e; exact PySem.P.repr_of_none (fin _ _ _ fun _ _ h => h)
        | bl b => cases dv; cases ru; cases e; exact PySem.P.repr_of_bool (fin _ _ _ fun _ _ h => h)
        | int i => cases dv; obtain ⟨tk, rfl⟩ := ru; cases e; exact PySem.P.repr_of_int (by have := hc.1; unfold PyData.showable at this; exact of_decide_eq_true this) (fin _ _ _ fun _ _ h => h)
        | str y =>
          cases dv
          obtain ⟨tk, rfl⟩ := ru
          have e : (if (PyData.str y).canLay0 = true then some (PyData.str y) else none) = some p := e
          split at e
          · cases e; exact PySem.P.repr_of_str (fin _ _ _ fun _ _ h => h) hc.2
          · cases e
        | tup l =>
          obtain ⟨a, vs, rfl, _⟩ := dv.tupv
          cases ru
          exact PySem.repr_of_reads' rr hc.1 (PyData.noDict_hsm (PyData.hasDict_of_canLay p b1)) hg (by omega) (fun _ _ h => h) (fun h' u tk hk => fin h' u tk hk) hc.2
        | xt l =>
          obtain ⟨a, vs, rfl, _⟩ := dv.xtv
          cases ru
          exact PySem.repr_of_reads' rr hc.1 (PyData.noDict_hsm (PyData.hasDict_of_canLay p b1)) hg (by omega) (fun _ _ h => h) (fun h' u tk hk => fin h' u tk hk) hc.2
        | fz l =>
          obtain ⟨a, vs, rfl, _⟩ := dv.fzv
          cases ru
          exact PySem.repr_of_reads' rr hc.1 (PyData.noDict_hsm (PyData.hasDict_of_canLay p b1)) hg (by omega) (fun _ _ h => h) (fun h' u tk hk => fin h' u tk hk) hc.2
        | ref n =>
          obtain ⟨a, rfl, _⟩ := dv.refv
          cases ru
          exact PySem.repr_of_reads' rr hc.1 (PyData.noDict_hsm (PyData.hasDict_of_canLay p b1)) hg (by omega) (fun _ _ h => h) (fun h' u tk hk => fin h' u tk hk) hc.2
      · exact q.elim
    · exact q.elim
  | [], d, q => exact q.elim
  | _ :: _ :: _, d, q => exact q.elim
def oEqS : D → D → Store → Res D
  | .str a, .str b, st => .ok (.bl (a == b)) st
  | _, _, _ => .err
theorem od_eqS : OpR X (compareOp .Eq) (rO X.K E oEqS) := OpR.of fun pins s sg H f st d e x y v u Q I rx ry t d1 d2 q => by
  cases d <;> cases e <;> first | exact q.elim | skip
  rename_i a b
  have q : post X.K E (RD X.K) f H (.ok (.bl (a == b)) st) Q := q
  rw [d1.strv] at rx
  rw [d2.strv] at ry
  obtain ⟨tk, rfl⟩ := rx
  obtain ⟨tk', rfl⟩ := ry
  exact PyProof.Rows.eq_str ⟨.bl _, H, I, rfl, q.now t (.bl _)⟩
end
end Pd
set_option maxRecDepth 100000
set_option maxHeartbeats 4000000
namespace Pd
open PySem PySem.Spec PyProof.Rows L2
theorem bt_len : bootBuiltins "len" = some (.builtin "len") := by decide +kernel
theorem bt_int : bootBuiltins "int" = some (.type "int") := by decide +kernel
theorem bt_list : bootBuiltins "list" = some (.type "list") := by decide +kernel
theorem bt_tuple : bootBuiltins "tuple" = some (.type "tuple") := by decide +kernel
theorem bt_sum : bootBuiltins "sum" = some (.builtin "sum") := by decide +kernel
theorem bt_max : bootBuiltins "max" = some (.builtin "max") := by decide +kernel
theorem bt_min : bootBuiltins "min" = some (.builtin "min") := by decide +kernel
theorem bt_repr : bootBuiltins "repr" = some (.builtin "repr") := by decide +kernel
section
variable {X : Cx} {E : XE}
def isDic (x : D) (st : Store) : Bool := match x with
  | .ref n => match st[n]? with
    | some (.dK _) => true
    | some (.dT _) => true
    | _ => false
  | _ => false
def dGet1' (o e : DE) : DE := fun r st => (o r st).bind fun x st1 => if isDic x st1 = true then (e r st1).bind fun y st2 => match x with
  | .ref n => match dGet st2 n y with
    | some (some d) => .ok d st2
    | some none => .ok .non st2
    | none => .err
  | _ => .err else .err
theorem pd_get {o e : Expr} {dO de : DE} {apos cpos : Pos} (hu : X.A.units + 1 < cLine) (ho : PE X o (rd X.K E dO)) (he : PE X e (rd X.K E de)) (m : M1 X o "get" apos e cpos) : PE X (.Call (.Attribute o "get" apos) [e] [] cpos) (rd X.K E (dGet1' dO de)) := (pe_dget1 hu ho he m).mn fun s H Q h => by
  obtain ⟨f, r, st, hs, ht, h⟩ := h
  refine ⟨f, r, st, hs, ht, (post.bind (R' := RD X.K) h).mono fun x H1 ⟨f1, d, st1, x1, t1, d1, h1⟩ => ?_⟩
  split at h1
  · rename_i hk
    cases d <;> first | (cases hk) | skip
    rename_i n
    obtain ⟨a, rfl, fa⟩ := d1.refv
    have hd : IsD H1 a := by
      unfold isDic at hk
      dsimp only at hk
      split at hk
      · rename_i kvs es
        obtain ⟨vs, q, _⟩ := t1.at_ n _ a es fa
        exact .inl ⟨vs, .inl q⟩
      · rename_i kvs es
        obtain ⟨vs, q, _⟩ := t1.at_ n _ a es fa
        exact .inr ⟨vs, .inl q⟩
      · cases hk
    refine ⟨a, rfl, hd, f1, r, st1, hs.up x1.toEx0, t1, (post.bind (R' := RD X.K) h1).mono fun y H2 ⟨f2, e', st2, x2, t2, d2, h2⟩ => ?_⟩
    have fa2 : f2[n]? = some a := x2.toEx0.get fa
    dsimp only at h2
    cases ed : dGet st2 n e' with
    | none => rw [ed] at h2; exact h2.elim
    | some o =>
      rw [ed] at h2
      obtain ⟨ov, hg, hc⟩ := dGet_ok t2 ed fa2 d2
      refine ⟨ov, hg, ?_⟩
      rcases hc with ⟨z1, z2⟩ | ⟨d', v, z1, z2, z3⟩
      · rw [z1] at h2
        rw [z2]
        exact post.now (show post X.K E (RD X.K) f2 H2 (.ok .non st2) Q from h2) t2 .non
      · rw [z1] at h2
        rw [z2]
        exact post.now (show post X.K E (RD X.K) f2 H2 (.ok d' st2) Q from h2) t2 z3
  · exact h1.elim
end
section
variable {X : Cx} {E : XK} {k n : Nat} {x : Str} {st : Stmt} {ps : List Str} {F : DFn} {p pos : Pos} {e : Expr} {es : List Expr} {dl dk : DA} {kws : List Keyword}
theorem pc_call (d : DOk X.prog X.w X.K X.mg CX0 XX0 k x st ps F) (hr : Room k X.A) (at_ : At X CX0 E) (ha : PA X (e :: es) (rdA X.K E00 dl)) (hn : ps.length = n := by rfl) (hg : Gl X x := by rfl)
    (hdb : (x == ("__debug__" : Str)) = false := by decide) (he : starEach (e :: es) X.env = (false, eval e X.env) :: starEach es X.env := by rfl) (hpl : (backTo pos (starEach es X.env)).any (·.1) = false := by rfl) :
    PE X (.Call (.Name x p) (e :: es) [] pos) (rd X.K E00 (dL (ofN n F) dl)) := by
  subst hn
  exact pd_call d hr at_ ha hg hdb he hpl
theorem pc_callK0 (np m : Nat) (is : List Nat) (ks : List Str) (d : DOk X.prog X.w X.K X.mg CX0 XX0 k x st ps F) (hr : Room k X.A) (at_ : At X CX0 E) (hk : PK X kws (rdA X.K E00 dk))
    (hb : ∀ (kV doc pm : Value) (an : Option Addr) (cdv ct : Value) (us ws : List Value), us.length = 0 → ws.length = m → bindArgs (PySem.W.fnOf x x (defArgs st) (defBody st) (defScope st) .none kV doc pm an cdv ct) ⟨us, ks.zip ws⟩ = pure (ps.zip (gP 0 m is us ws)))
    (hn : ps.length = np := by rfl) (h0 : ps ≠ [] := by decide) (hg : Gl X x := by rfl) (hall : (backToKw pos (keywordEach kws X.env)).all (·.1.isSome) = true := by rfl) (hks : (backToKw pos (keywordEach kws X.env)).filterMap (·.1) = ks := by rfl)
    (hdb : (x == ("__debug__" : Str)) = false := by decide)
    (hpl : ((backTo pos (starEach [] X.env)).any (·.1) || (backToKw pos (keywordEach kws X.env)).any (·.1.isNone)) = false := by rfl) :
    PE X (.Call (.Name x p) [] kws pos) (rd X.K E00 (dLK 0 m is (ofN np F) dNil dk)) := by
  subst hn
  exact pd_callK0 m is ks d hr at_ hk hb h0 hg hall hks hdb hpl
end
end Pd
set_option maxRecDepth 100000
set_option maxHeartbeats 4000000
namespace Pd
open PySem PySem.Spec PyProof.Rows L2
inductive U where
  | non | bl (b : Bool) | int (i : Int) | str (x : Str) | tup (l : List U) | lst (l : List U) | fz (l : List U) | xt (l : List U)
  | dK (ks : List Key) (vs : List U) | dT (ks : List (List Key)) (vs : List U) | gen
structure UX where
  cls : Str
  fs : List (Str × U)
def drawKeys : List Key := [.inr "left", .inr "seed", .inr "cells", .inr "spot"]
def drawO (L S : Int) (c : Nat) (p : Int) : SO := .dK [(.inr "left", .int L), (.inr "seed", .int S), (.inr "cells", .ref c), (.inr "spot", .int p)]
def isDraw : SO → Bool
  | .dK kvs => decide (kvs.map (·.1) = drawKeys)
  | _ => false
theorem isDraw_drawO (L S : Int) (c : Nat) (p : Int) : isDraw (drawO L S c p) = true := by
  unfold isDraw drawO
  exact decide_eq_true rfl
def capN : Nat := 2 ^ 4000
structure DB (b : Nat) (S p : Int) : Prop where
  p0 : 0 ≤ p
  pb : p ≤ b
  s0 : 0 ≤ S
  s1 : S < 2147483647
abbrev Av := Nat → Prop
abbrev Ow := Nat → Option Nat
def avo (Z : Av) (A : Ow) : Av := fun n => Z n ∨ ∃ i, A i = some n
section
variable (Z : Av) (b : Nat) (st : Store)
mutual
inductive Rep : D → U → Prop
  | non : Rep .non .non
  | bl (k : Bool) : Rep (.bl k) (.bl k)
  | int (i : Int) : Rep (.int i) (.int i)
  | str (x : Str) : Rep (.str x) (.str x)
  | tup {ds : List D} {us : List U} : us.length ≤ sizeLine → Reps ds us → Rep (.tup ds) (.tup us)
  | fz {ds : List D} {us : List U} : us.length ≤ sizeLine → Reps ds us → Rep (.fz ds) (.fz us)
  | xt {ds : List D} {us : List U} : us.length ≤ sizeLine → Reps ds us → Rep (.xt ds) (.xt us)
  | lst {n : Nat} {ds : List D} {us : List U} : ¬ Z n → st[n]? = some (.lst ds) → us.length ≤ sizeLine → Reps ds us → Rep (.ref n) (.lst us)
  | dK {n : Nat} {ks : List Key} {kvs : List (Key × D)} {us : List U} : ¬ Z n → st[n]? = some (.dK kvs) → isDraw (.dK kvs) = false → kvs.map (·.1) = ks → us.length ≤ sizeLine → Reps (kvs.map (·.2)) us → Rep (.ref n) (.dK ks us)
  | dT {n : Nat} {ks : List (List Key)} {kvs : List (List Key × D)} {us : List U} : ¬ Z n → st[n]? = some (.dT kvs) → kvs.map (·.1) = ks → us.length ≤ sizeLine → Reps (kvs.map (·.2)) us → Rep (.ref n) (.dT ks us)
  | gen {n c : Nat} {L S p : Int} {cs : List Int} : ¬ Z n → ¬ Z c → st[n]? = some (drawO L S c p) → DB b S p → st[c]? = some (.lst (cs.map .int)) → cs ≠ [] → (∀ x ∈ cs, x.natAbs.log2 < 2000000) → Rep (.ref n) .gen
inductive Reps : List D → List U → Prop
  | nil : Reps [] []
  | cons {d : D} {u : U} {ds : List D} {us : List U} : Rep d u → Reps ds us → Reps (d :: ds) (u :: us)
end
/-- what stands at a place, by value -/
def Cont (n : Nat) : U → Prop
  | .lst us => ∃ ds, st[n]? = some (.lst ds) ∧ us.length ≤ sizeLine ∧ Reps Z b st ds us
  | .dK ks us => ∃ kvs, st[n]? = some (.dK kvs) ∧ isDraw (.dK kvs) = false ∧ kvs.map (·.1) = ks ∧ us.length ≤ sizeLine ∧ Reps Z b st (kvs.map (·.2)) us
  | .dT ks us => ∃ kvs, st[n]? = some (.dT kvs) ∧ kvs.map (·.1) = ks ∧ us.length ≤ sizeLine ∧ Reps Z b st (kvs.map (·.2)) us
  | _ => False
end
/-- the store grows, what is in W may be written -/
structure Gr (W : Av) (b b' : Nat) (st st' : Store) : Prop where
  bb : b ≤ b'
  len : st.length ≤ st'.length
  same : ∀ n o, ¬ W n → st[n]? = some o → isDraw o = false → st'[n]? = some o
  draw : ∀ n L S c p, ¬ W n → st[n]? = some (drawO L S c p) → DB b S p → ∃ L' p', st'[n]? = some (drawO L' S c p') ∧ DB b' S p'
abbrev noW : Av := fun _ => False
abbrev Gx (b b' : Nat) (st st' : Store) : Prop := Gr noW b b' st st'
theorem DB.up {b b' : Nat} {S p : Int} (h : DB b S p) (hb : b ≤ b') : DB b' S p := ⟨h.p0, by have := h.pb; omega, h.s0, h.s1⟩
theorem getSome_lt {A : Type} {l : List A} {n : Nat} {a : A} (h : l[n]? = some a) : n < l.length := (List.getElem?_eq_some_iff.mp h).1
theorem Gr.refl {W : Av} {b : Nat} {st : Store} : Gr W b b st st := ⟨Nat.le_refl _, Nat.le_refl _, fun _ _ _ h _ => h, fun _ L S c p _ h d => ⟨L, p, h, d⟩⟩
theorem Gr.le {W : Av} {b b1 : Nat} {st : Store} (h : b ≤ b1) : Gr W b b1 st st := ⟨h, Nat.le_refl _, fun _ _ _ h _ => h, fun _ L S c p _ h' d => ⟨L, p, h', d.up h⟩⟩
theorem Gr.trans {W W' : Av} {b b1 b2 : Nat} {st st1 st2 : Store} (g : Gr W b b1 st st1) (h : Gr W' b1 b2 st1 st2) (hw : ∀ n, n < st.length → W' n → W n) : Gr W b b2 st st2 :=
  ⟨Nat.le_trans g.bb h.bb, Nat.le_trans g.len h.len, fun n o nw e d => h.same n o (fun z => nw (hw n (getSome_lt e) z)) (g.same n o nw e d) d, fun n L S c p nw e d => by
    obtain ⟨L', p', e', d'⟩ := g.draw n L S c p nw e d
    exact h.draw n L' S c p' (fun z => nw (hw n (getSome_lt e) z)) e' d'⟩
theorem Gx.trans {b b1 b2 : Nat} {st st1 st2 : Store} (g : Gx b b1 st st1) (h : Gx b1 b2 st1 st2) : Gx b b2 st st2 := Gr.trans g h fun _ _ z => z
theorem Gr.wk {W W' : Av} {b b1 : Nat} {st st1 : Store} (g : Gr W b b1 st st1) (h : ∀ n, n < st.length → W n → W' n) : Gr W' b b1 st st1 :=
  ⟨g.bb, g.len, fun n o nw e d => g.same n o (fun z => nw (h n (getSome_lt e) z)) e d, fun n L S c p nw e d => g.draw n L S c p (fun z => nw (h n (getSome_lt e) z)) e d⟩
theorem Gr.push {W : Av} {b : Nat} {st : Store} (o : SO) : Gr W b b st (st ++ [o]) :=
  ⟨Nat.le_refl _, by simp, fun n o' _ e _ => by rw [List.getElem?_append_left (getSome_lt e)]; exact e, fun n L S c p _ e d => ⟨L, p, by rw [List.getElem?_append_left (getSome_lt e)]; exact e, d⟩⟩
/-- the growth of an expression's end to a greater bound -/
theorem Gr.b_le {W : Av} {b b1 b2 : Nat} {st st1 : Store} (g : Gr W b b1 st st1) (h : b1 ≤ b2) : Gr W b b2 st st1 := ⟨Nat.le_trans g.bb h, g.len, g.same, fun n L S c p nw e d => by
  obtain ⟨L', p', e', d'⟩ := g.draw n L S c p nw e d
  exact ⟨L', p', e', d'.up h⟩⟩
section
variable {Z Z' W : Av} {b b' : Nat} {st st' : Store}
mutual
theorem Rep.upx (g : Gr W b b' st st') (hw : ∀ n, n < st.length → W n → Z n) (hz : ∀ n, n < st.length → Z' n → Z n) : ∀ (u : U) (d : D), Rep Z b st d u → Rep Z' b' st' d u
  | .non, _, h => by cases h; exact .non
  | .bl k, _, h => by cases h; exact .bl k
  | .int i, _, h => by cases h; exact .int i
  | .str s, _, h => by cases h; exact .str s
  | .tup us, _, h => by
    cases h with
    | tup l a => exact .tup l (Reps.upx g hw hz us _ a)
  | .fz us, _, h => by
    cases h with
    | fz l a => exact .fz l (Reps.upx g hw hz us _ a)
  | .xt us, _, h => by
    cases h with
    | xt l a => exact .xt l (Reps.upx g hw hz us _ a)
  | .lst us, _, h => by
    cases h with
    | lst a e l r => exact .lst (fun z => a (hz _ (getSome_lt e) z)) (g.same _ _ (fun z => a (hw _ (getSome_lt e) z)) e rfl) l (Reps.upx g hw hz us _ r)
  | .dK ks us, _, h => by
    cases h with
    | dK a e i k l r => exact .dK (fun z => a (hz _ (getSome_lt e) z)) (g.same _ _ (fun z => a (hw _ (getSome_lt e) z)) e i) i k l (Reps.upx g hw hz us _ r)
  | .dT ks us, _, h => by
    cases h with
    | dT a e k l r => exact .dT (fun z => a (hz _ (getSome_lt e) z)) (g.same _ _ (fun z => a (hw _ (getSome_lt e) z)) e rfl) k l (Reps.upx g hw hz us _ r)
  | .gen, _, h => by
    cases h with
    | gen a c e d f q w =>
      obtain ⟨L', p', e', d'⟩ := g.draw _ _ _ _ _ (fun z => a (hw _ (getSome_lt e) z)) e d
      exact .gen (fun z => a (hz _ (getSome_lt e) z)) (fun z => c (hz _ (getSome_lt f) z)) e' d' (g.same _ _ (fun z => c (hw _ (getSome_lt f) z)) f rfl) q w
theorem Reps.upx (g : Gr W b b' st st') (hw : ∀ n, n < st.length → W n → Z n) (hz : ∀ n, n < st.length → Z' n → Z n) : ∀ (us : List U) (ds : List D), Reps Z b st ds us → Reps Z' b' st' ds us
  | [], _, h => by cases h; exact .nil
  | u :: us, _, h => by
    cases h with
    | cons a r => exact .cons (Rep.upx g hw hz u _ a) (Reps.upx g hw hz us _ r)
end
theorem Rep.up {u : U} {d : D} (g : Gr W b b' st st') (hw : ∀ n, n < st.length → W n → Z n) (hz : ∀ n, n < st.length → Z' n → Z n) (h : Rep Z b st d u) : Rep Z' b' st' d u := Rep.upx g hw hz u d h
theorem Reps.up {us : List U} {ds : List D} (g : Gr W b b' st st') (hw : ∀ n, n < st.length → W n → Z n) (hz : ∀ n, n < st.length → Z' n → Z n) (h : Reps Z b st ds us) : Reps Z' b' st' ds us := Reps.upx g hw hz us ds h
theorem Rep.gx {u : U} {d : D} (h : Rep Z b st d u) (g : Gx b b' st st') : Rep Z b' st' d u := h.up g (fun _ _ z => z.elim) fun _ _ z => z
theorem Reps.gx {u : List U} {d : List D} (h : Reps Z b st d u) (g : Gx b b' st st') : Reps Z b' st' d u := h.up g (fun _ _ z => z.elim) fun _ _ z => z
theorem Rep.av {u : U} {d : D} (h : Rep Z b st d u) (hz : ∀ n, n < st.length → Z' n → Z n) : Rep Z' b st d u := h.up (W := noW) .refl (fun _ _ z => z.elim) hz
theorem Reps.av {u : List U} {d : List D} (h : Reps Z b st d u) (hz : ∀ n, n < st.length → Z' n → Z n) : Reps Z' b st d u := h.up (W := noW) .refl (fun _ _ z => z.elim) hz
theorem Reps.pr {ds : List D} {us : List U} (h : Reps Z b st ds us) : Paired (Rep Z b st) ds us := by
  induction us generalizing ds with
  | nil => cases h; exact .nil
  | cons u us ih => cases h with
    | cons a r => exact .cons a (ih r)
theorem Reps.of {ds : List D} {us : List U} (h : Paired (Rep Z b st) ds us) : Reps Z b st ds us := by
  induction h with
  | nil => exact .nil
  | cons a _ ih => exact .cons a ih
theorem Reps.length {ds : List D} {us : List U} (h : Reps Z b st ds us) : ds.length = us.length := Paired.length h.pr
theorem Cont.upx {n : Nat} {v : U} (g : Gr W b b' st st') (hw : ∀ n, n < st.length → W n → Z n) (hz : ∀ n, n < st.length → Z' n → Z n) (hn : st'[n]? = st[n]?) (h : Cont Z b st n v) : Cont Z' b' st' n v := by
  cases v <;> first | exact h.elim | skip
  · obtain ⟨ds, e, l, r⟩ := h; exact ⟨ds, hn.trans e, l, r.up g hw hz⟩
  · obtain ⟨ds, e, i, k, l, r⟩ := h; exact ⟨ds, hn.trans e, i, k, l, r.up g hw hz⟩
  · obtain ⟨ds, e, k, l, r⟩ := h; exact ⟨ds, hn.trans e, k, l, r.up g hw hz⟩
theorem Cont.lt {n : Nat} {v : U} (h : Cont Z b st n v) : n < st.length := by
  cases v <;> first | exact h.elim | skip
  · obtain ⟨ds, e, r⟩ := h; exact getSome_lt e
  · obtain ⟨ds, e, i, k, r⟩ := h; exact getSome_lt e
  · obtain ⟨ds, e, k, r⟩ := h; exact getSome_lt e
theorem Cont.nd {n : Nat} {v : U} (h : Cont Z b st n v) : ∃ o, st[n]? = some o ∧ isDraw o = false := by
  cases v <;> first | exact h.elim | skip
  · obtain ⟨ds, e, r⟩ := h; exact ⟨_, e, rfl⟩
  · obtain ⟨ds, e, i, k, r⟩ := h; exact ⟨_, e, i⟩
  · obtain ⟨ds, e, k, r⟩ := h; exact ⟨_, e, rfl⟩
theorem Cont.gx {n : Nat} {v : U} (h : Cont Z b st n v) (g : Gx b b' st st') : Cont Z b' st' n v := by
  obtain ⟨o, e, i⟩ := h.nd
  exact h.upx g (fun _ _ z => z.elim) (fun _ _ z => z) ((g.same n o (fun z => z) e i).trans e.symm)
theorem Cont.av {n : Nat} {v : U} (h : Cont Z b st n v) (hz : ∀ n, n < st.length → Z' n → Z n) : Cont Z' b st n v := h.upx (W := noW) .refl (fun _ _ z => z.elim) hz rfl
theorem Cont.rep {n : Nat} {v : U} (h : Cont Z b st n v) (hn : ¬ Z n) : Rep Z b st (.ref n) v := by
  cases v <;> first | exact h.elim | skip
  · obtain ⟨ds, e, l, r⟩ := h; exact .lst hn e l r
  · obtain ⟨ds, e, i, k, l, r⟩ := h; exact .dK hn e i k l r
  · obtain ⟨ds, e, k, l, r⟩ := h; exact .dT hn e k l r
/-- what is held lies in the store -/
theorem Rep.lt {u : U} {d : D} (h : Rep Z b st d u) : Rep (fun n => Z n ∨ st.length ≤ n) b st d u := h.av fun n hn z => z.elim id fun q => absurd hn (Nat.not_lt.mpr q)
theorem Reps.lt {u : List U} {d : List D} (h : Reps Z b st d u) : Reps (fun n => Z n ∨ st.length ≤ n) b st d u := h.av fun n hn z => z.elim id fun q => absurd hn (Nat.not_lt.mpr q)
end
mutual
def U.plain : U → Bool
  | .tup l => U.plains l
  | .lst _ => false
  | .fz _ => false
  | .xt l => U.plains l
  | .dK _ _ => false
  | .dT _ _ => false
  | .gen => false
  | _ => true
def U.plains : List U → Bool
  | [] => true
  | u :: us => u.plain && U.plains us
end
mutual
theorem Rep.pl {Z Z' : Av} {b b' : Nat} {st st' : Store} : ∀ (u : U) (d : D), u.plain = true → Rep Z b st d u → Rep Z' b' st' d u
  | .non, _, _, h => by cases h; exact .non
  | .bl k, _, _, h => by cases h; exact .bl k
  | .int i, _, _, h => by cases h; exact .int i
  | .str s, _, _, h => by cases h; exact .str s
  | .tup us, _, e, h => by
    cases h with
    | tup l a => exact .tup l (Reps.pl us _ (by unfold U.plain at e; exact e) a)
  | .lst _, _, e, _ => by cases e
  | .fz _, _, e, _ => by cases e
  | .xt us, _, e, h => by
    cases h with
    | xt l a => exact .xt l (Reps.pl us _ (by unfold U.plain at e; exact e) a)
  | .dK _ _, _, e, _ => by cases e
  | .dT _ _, _, e, _ => by cases e
  | .gen, _, e, _ => by cases e
theorem Reps.pl {Z Z' : Av} {b b' : Nat} {st st' : Store} : ∀ (u : List U) (d : List D), U.plains u = true → Reps Z b st d u → Reps Z' b' st' d u
  | [], _, _, h => by cases h; exact .nil
  | u :: us, _, e, h => by
    unfold U.plains at e
    rw [Bool.and_eq_true] at e
    cases h with
    | cons a r => exact .cons (Rep.pl u _ e.1 a) (Reps.pl us _ e.2 r)
end
/-- a slot: a value, and whether its list or dict is the slot's own -/
abbrev UEnv := List (Option (U × Bool))
structure RV (Z : Av) (A : Ow) (b : Nat) (u : UEnv) (r : Env') (st : Store) : Prop where
  len : u.length = r.length
  inj : ∀ (i j n : Nat), A i = some n → A j = some n → i = j
  nz : ∀ (i n : Nat), A i = some n → ¬ Z n ∧ n < st.length
  zlt : ∀ n, Z n → n < st.length
  val : ∀ (i : Nat) (v : U), u[i]? = some (some (v, false)) → ∃ d, r[i]? = some (some d) ∧ Rep (avo Z A) b st d v
  own : ∀ (i : Nat) (v : U), u[i]? = some (some (v, true)) → ∃ n, A i = some n ∧ r[i]? = some (some (.ref n)) ∧ Cont (avo Z A) b st n v
theorem RV.gx {Z : Av} {A : Ow} {b b' : Nat} {u : UEnv} {r : Env'} {st st' : Store} (h : RV Z A b u r st) (g : Gx b b' st st') : RV Z A b' u r st' :=
  ⟨h.len, h.inj, fun i n e => ⟨(h.nz i n e).1, Nat.lt_of_lt_of_le (h.nz i n e).2 g.len⟩, fun n z => Nat.lt_of_lt_of_le (h.zlt n z) g.len,
    fun i v e => let ⟨d, a, c⟩ := h.val i v e; ⟨d, a, c.gx g⟩, fun i v e => let ⟨n, a, c, q⟩ := h.own i v e; ⟨n, a, c, q.gx g⟩⟩
theorem RV.avlt {Z : Av} {A : Ow} {b : Nat} {u : UEnv} {r : Env'} {st : Store} (h : RV Z A b u r st) {n : Nat} (z : avo Z A n) : n < st.length := z.elim (h.zlt n) fun ⟨i, e⟩ => (h.nz i n e).2
inductive Kd where
  | weak | strong | fresh
deriving DecidableEq
abbrev Rl (α β : Type) := Av → Ow → Nat → Store → Store → α → β → Prop
def RelK (k : Kd) : Rl D U := fun Z A b st0 st d v => match k with
  | .weak => Rep (avo Z A) b st d v ∨ ∃ i n, A i = some n ∧ d = .ref n ∧ Cont (avo Z A) b st n v
  | .strong => Rep (avo Z A) b st d v
  | .fresh => ∃ n, d = .ref n ∧ st0.length ≤ n ∧ Cont (fun m => avo Z A m ∨ m = n) b st n v
def RelB : Rl Bool Bool := fun _ _ _ _ _ a v => a = v
def RelO : Rl (Option Int) (Option Int) := fun _ _ _ _ _ a v => a = v
def RelL (k : Kd) : Rl (List D) (List U) := fun Z A b st0 st ds vs => Paired (RelK k Z A b st0 st) ds vs
def RelX (Z : Av) (b : Nat) (st : Store) (e : XD) (x : UX) : Prop := e.cls = x.cls ∧ Paired (fun p q => p.1 = q.1 ∧ Rep Z b st p.2 q.2) e.fs x.fs
abbrev VX := UX → Prop
abbrev VG (β : Type) := UEnv → (β → Prop) → VX → Prop
abbrev VE := VG U
abbrev VT := VG Bool
abbrev VA := VG (List U)
def Post {α β : Type} (R : Rl α β) (Z : Av) (A : Ow) (b b' : Nat) (st : Store) (res : Res α) (Q : β → Prop) (X : VX) : Prop := match res with
  | .ok d st' => ∃ v, Q v ∧ Gx b b' st st' ∧ R Z A b' st st' d v
  | .exc e st' => ∃ x, X x ∧ Gx b b' st st' ∧ RelX Z b' st' e x
  | .err => False
/-- e does what w says, with c draws at most -/
def JOk {α β : Type} (R : Rl α β) (c : Nat) (e : Env' → Store → Res α) (w : VG β) : Prop := ∀ (Z : Av) (A : Ow) (b : Nat) (u : UEnv) (r : Env') (st : Store) (Q : β → Prop) (X : VX), b + c ≤ capN → RV Z A b u r st → w u Q X → Post R Z A b (b + c) st (e r st) Q X
structure RUp {α β : Type} (R : Rl α β) : Prop where
  up : ∀ {Z A b b' st0 st st' d v}, R Z A b st0 st d v → Gx b b' st st' → R Z A b' st0 st' d v
  base : ∀ {Z A b st0 st1 st d v}, st0.length ≤ st1.length → R Z A b st1 st d v → R Z A b st0 st d v
theorem RelK.up {k : Kd} : RUp (RelK k) := ⟨fun {Z A b b' st0 st st' d v} h g => by
  cases k with
  | weak => exact h.imp (fun h => h.gx g) fun ⟨i, n, a, e, c⟩ => ⟨i, n, a, e, c.gx g⟩
  | strong => exact Rep.gx h g
  | fresh => obtain ⟨n, e, l, c⟩ := h; exact ⟨n, e, l, c.gx g⟩, fun {Z A b st0 st1 st d v} hl h => by
  cases k with
  | weak => exact h
  | strong => exact h
  | fresh => obtain ⟨n, e, l, c⟩ := h; exact ⟨n, e, Nat.le_trans hl l, c⟩⟩
theorem RelB.up : RUp RelB := ⟨fun h _ => h, fun _ h => h⟩
theorem RelO.up : RUp RelO := ⟨fun h _ => h, fun _ h => h⟩
theorem RelL.up {k : Kd} : RUp (RelL k) := ⟨fun h g => Paired.mono (fun _ _ z => RelK.up.up z g) h, fun hl h => Paired.mono (fun _ _ z => RelK.up.base hl z) h⟩
theorem RelX.gx {Z Z' : Av} {b b' : Nat} {st st' : Store} {e : XD} {x : UX} (h : RelX Z b st e x) (g : Gx b b' st st') : RelX Z b' st' e x := ⟨h.1, Paired.mono (fun _ _ z => ⟨z.1, z.2.gx g⟩) h.2⟩
section
variable {α β α' β' : Type} {R : Rl α β} {R' : Rl α' β'} {Z : Av} {A : Ow} {b b1 b2 c c1 c2 : Nat} {st st1 : Store} {Q : β → Prop} {X : VX} {u : UEnv} {r : Env'}
theorem Post.from {res : Res α} (hR : RUp R) (g : Gx b b1 st st1) (h : Post R Z A b1 b2 st1 res Q X) : Post R Z A b b2 st res Q X := by
  cases res with
  | ok d st' => obtain ⟨v, q, g', h⟩ := h; exact ⟨v, q, g.trans g', hR.base g.len h⟩
  | exc e st' => obtain ⟨x, q, g', h⟩ := h; exact ⟨x, q, g.trans g', h⟩
  | err => exact h
theorem Post.le {res : Res α} (hR : RUp R) (hb : b1 ≤ b2) (h : Post R Z A b b1 st res Q X) : Post R Z A b b2 st res Q X := by
  cases res with
  | ok d st' => obtain ⟨v, q, g', h⟩ := h; exact ⟨v, q, g'.b_le hb, hR.up h (Gr.le hb)⟩
  | exc e st' => obtain ⟨x, q, g', h⟩ := h; exact ⟨x, q, g'.b_le hb, RelX.gx (Z' := Z) h (Gr.le hb)⟩
  | err => exact h
theorem Post.bind {res : Res α'} {k : α' → Store → Res α} {Q' : β' → Prop} (hR : RUp R) (h : Post R' Z A b b1 st res Q' X) (hb : b1 ≤ b2) (hv : RV Z A b u r st)
    (h2 : ∀ d st1 v, RV Z A b1 u r st1 → Gx b b1 st st1 → R' Z A b1 st st1 d v → Q' v → Post R Z A b1 b2 st1 (k d st1) Q X) : Post R Z A b b2 st (res.bind k) Q X := by
  cases res with
  | ok d st' =>
    obtain ⟨v, q, g, h⟩ := h
    exact Post.from hR g (h2 d st' v (hv.gx g) g h q)
  | exc e st' =>
    obtain ⟨x, q, g, h⟩ := h
    exact ⟨x, q, g.b_le hb, RelX.gx (Z' := Z) h (Gr.le hb)⟩
  | err => exact h
/-- one behind the other -/
theorem JOk.bind {e : Env' → Store → Res α'} {w : VG β'} {k : α' → Env' → Store → Res α} {kw : β' → VG β} (hR : RUp R) (h : JOk R' c1 e w)
    (h2 : ∀ Z A b u r st0 st d v Q X, b + c2 ≤ capN → RV Z A b u r st → R' Z A b st0 st d v → kw v u Q X → Post R Z A b (b + c2) st (k d r st) Q X) : JOk R (c1 + c2) (fun r st => (e r st).bind fun d st1 => k d r st1) (fun u Q X => w u (fun v => kw v u Q X) X) := fun Z A b u r st Q X hcap hv q => by
  refine Post.bind hR (h Z A b u r st _ X (by omega) hv q) (by omega) hv fun d st1 v hv1 g hr q1 => ?_
  rw [← Nat.add_assoc]
  exact h2 Z A (b + c1) u r st st1 d v Q X (by omega) hv1 hr q1
theorem JOk.le {e : Env' → Store → Res α} {w : VG β} (hR : RUp R) (h : JOk R c1 e w) (hc : c1 ≤ c2) : JOk R c2 e w := fun Z A b u r st Q X hcap hv q => Post.le hR (by omega) (h Z A b u r st Q X (by omega) hv q)
theorem JOk.mn {e : Env' → Store → Res α} {w w' : VG β} (h : JOk R c e w) (i : ∀ u Q X, w' u Q X → w u Q X) : JOk R c e w' := fun Z A b u r st Q X hcap hv q => h Z A b u r st Q X (by omega) hv (i u Q X q)
end
abbrev EOk (k : Kd) (c : Nat) (e : DE) (w : VE) : Prop := JOk (RelK k) c e w
abbrev TOk (c : Nat) (e : DT) (w : VT) : Prop := JOk RelB c e w
abbrev AOk (k : Kd) (c : Nat) (e : DA) (w : VA) : Prop := JOk (RelL k) c e w
section
variable {Z : Av} {A : Ow} {b c : Nat} {st st0 : Store} {d : D} {v : U} {u : UEnv} {r : Env'}
/-- fresh to strong to weak -/
theorem RelK.fs (hv : RV Z A b u r st0) (h : RelK .fresh Z A b st0 st d v) : RelK .strong Z A b st0 st d v := by
  obtain ⟨n, rfl, hl, h⟩ := h
  refine (h.av fun m _ z => .inl z).rep fun z => ?_
  have := hv.avlt z
  omega
theorem EOk.fs {e : DE} {w : VE} (h : EOk .fresh c e w) : EOk .strong c e w := fun Z A b u r st Q X hcap hv q => by
  have h := h Z A b u r st Q X (by omega) hv q
  cases hr : e r st with
  | ok d st' =>
    rw [hr] at h
    obtain ⟨v, q, g, h⟩ := h
    refine ⟨v, q, g, ?_⟩
    obtain ⟨n, rfl, hl, h⟩ := h
    refine (h.av fun m _ z => .inl z).rep fun z => ?_
    have := hv.avlt z
    omega
  | exc x st' => rw [hr] at h; exact h
  | err => rw [hr] at h; exact h
theorem EOk.sw {e : DE} {w : VE} (h : EOk .strong c e w) : EOk .weak c e w := fun Z A b u r st Q X hcap hv q => by
  have h := h Z A b u r st Q X (by omega) hv q
  cases hr : e r st with
  | ok d st' =>
    rw [hr] at h
    obtain ⟨v, q, g, h⟩ := h
    exact ⟨v, q, g, .inl h⟩
  | exc x st' => rw [hr] at h; exact h
  | err => rw [hr] at h; exact h
/-- a value seen without what it must avoid -/
theorem RelK.any {k : Kd} (h : RelK k Z A b st0 st d v) : Rep noW b st d v := by
  cases k with
  | weak =>
    rcases h with h | ⟨i, n, _, rfl, h⟩
    · exact h.av fun _ _ z => z.elim
    · exact (h.av fun _ _ z => z.elim).rep fun z => z
  | strong => exact Rep.av h fun _ _ z => z.elim
  | fresh => obtain ⟨n, rfl, _, h⟩ := h; exact (h.av fun _ _ z => z.elim).rep fun z => z
/-- the items of a list or tuple, by value -/
def U.items : U → Option (List U)
  | .tup l => some l
  | .lst l => some l
  | .fz l => some l
  | .xt l => some l
  | _ => none
def U.isTup : U → Bool
  | .tup _ => true
  | .xt _ => true
  | _ => false
def U.isXt : U → Bool
  | .xt _ => true
  | _ => false
theorem getL_of {n : Nat} {ds : List D} (e : st[n]? = some (.lst ds)) : getL st n = some ds := by
  unfold getL
  rw [e]
theorem Rep.seq {Y : Av} {us : List U} (h : Rep Y b st d v) (e : v.items = some us) : ∃ ds, seqOf st d = some ds ∧ Pd.isTup d = v.isTup ∧ us.length ≤ sizeLine ∧ Reps Y b st ds us := by
  cases v with
  | tup l => cases e; cases h with
    | tup l a => exact ⟨_, rfl, rfl, l, a⟩
  | fz l => cases e; cases h with
    | fz l a => exact ⟨_, rfl, rfl, l, a⟩
  | xt l => cases e; cases h with
    | xt l a => exact ⟨_, rfl, rfl, l, a⟩
  | lst l => cases e; cases h with
    | lst a e l r => exact ⟨_, getL_of e, rfl, l, r⟩
  | _ => cases e
theorem RelK.seq {us : List U} (h : RelK .weak Z A b st0 st d v) (e : v.items = some us) : ∃ ds, seqOf st d = some ds ∧ Pd.isTup d = v.isTup ∧ us.length ≤ sizeLine ∧ Reps (avo Z A) b st ds us := by
  rcases h with h | ⟨i, n, _, rfl, h⟩
  · exact h.seq e
  · cases v with
    | lst l => cases e; obtain ⟨ds, e, l, r⟩ := h; exact ⟨ds, getL_of e, rfl, l, r⟩
    | tup l => exact h.elim
    | fz l => exact h.elim
    | xt l => exact h.elim
    | _ => cases e
end
end Pd
set_option maxRecDepth 100000
set_option maxHeartbeats 4000000
namespace Pd
open PySem PySem.Spec PyProof.Rows L2
def vVar (i : Nat) : VE := fun u Q _ => match u[i]? with
  | some (some (v, false)) => Q v
  | _ => False
/-- a slot's value, only looked at -/
def vVarW (i : Nat) : VE := fun u Q _ => match u[i]? with
  | some (some (v, _)) => Q v
  | _ => False
def vC (v : U) : VE := fun _ Q _ => Q v
theorem ev_var (i : Nat) : EOk .strong 0 (dVar i) (vVar i) := fun Z A b u r st Q X hcap hv q => by
  unfold vVar at q
  split at q
  · rename_i v e
    obtain ⟨d, e2, h⟩ := hv.val i v e
    unfold dVar
    rw [e2]
    exact ⟨v, q, .refl, h⟩
  · exact q.elim
theorem ev_varW (i : Nat) : EOk .weak 0 (dVar i) (vVarW i) := fun Z A b u r st Q X hcap hv q => by
  unfold vVarW at q
  split at q
  · rename_i v k e
    cases k with
    | false =>
      obtain ⟨d, e2, h⟩ := hv.val i v e
      unfold dVar
      rw [e2]
      exact ⟨v, q, .refl, .inl h⟩
    | true =>
      obtain ⟨n, e1, e2, h⟩ := hv.own i v e
      unfold dVar
      rw [e2]
      exact ⟨v, q, .refl, .inr ⟨i, n, e1, rfl, h⟩⟩
  · exact q.elim
theorem ev_c {d : D} {v : U} (h : ∀ Y b st, Rep Y b st d v) : EOk .strong 0 (dC d) (vC v) := fun Z A b u r st Q X hcap hv q => ⟨v, q, .refl, h _ _ _⟩
theorem ev_int {i : Int} : EOk .strong 0 (dC (.int i)) (vC (.int i)) := ev_c fun _ _ _ => .int i
theorem ev_bl {i : Bool} : EOk .strong 0 (dC (.bl i)) (vC (.bl i)) := ev_c fun _ _ _ => .bl i
theorem ev_non : EOk .strong 0 (dC .non) (vC .non) := ev_c fun _ _ _ => .non
abbrev VO2 := U → U → (U → Prop) → Prop
abbrev VO1 := U → (U → Prop) → Prop
def OpOk (k : Kd) (g : D → D → Store → Res D) (gv : VO2) : Prop := ∀ (Z : Av) (A : Ow) (b : Nat) (u : UEnv) (r : Env') (st st1 st2 : Store) (d e : D) (v w : U) (Q : U → Prop) (X : VX), RV Z A b u r st → RelK .weak Z A b st1 st d v → RelK .weak Z A b st2 st e w → gv v w Q → Post (RelK k) Z A b b st (g d e st) Q X
def Op1Ok (k : Kd) (g : D → Store → Res D) (gv : VO1) : Prop := ∀ (Z : Av) (A : Ow) (b : Nat) (u : UEnv) (r : Env') (st st1 : Store) (d : D) (v : U) (Q : U → Prop) (X : VX), RV Z A b u r st → RelK .weak Z A b st1 st d v → gv v Q → Post (RelK k) Z A b b st (g d st) Q X
def vBin (gv : VO2) (a b : VE) : VE := fun u Q X => a u (fun x => b u (fun y => gv x y Q) X) X
def vUn (gv : VO1) (a : VE) : VE := fun u Q X => a u (fun x => gv x Q) X
section
variable {k : Kd} {c c1 c2 c3 : Nat} {a b e : DE} {wa wb we : VE} {g g' : D → D → Store → Res D} {gv gv' : VO2}
theorem ev_bin (ho : OpOk k g gv) (ha : EOk .weak c1 a wa) (hb : EOk .weak c2 b wb) : EOk k (c1 + c2) (dBin g a b) (vBin gv wa wb) := by
  refine JOk.bind (kw := fun x u Q X => wb u (fun y => gv x y Q) X) RelK.up ha fun Z A n u r st0 st d v Q X hcap hv hr q => ?_
  refine Post.bind RelK.up (hb Z A n u r st _ X (by omega) hv q) (Nat.le_refl _) hv fun d2 st1 v2 hv1 g1 hr2 q2 => ?_
  exact ho Z A _ u r st1 _ _ d d2 v v2 Q X hv1 (RelK.up.up hr g1) hr2 q2
theorem ev_un {g : D → Store → Res D} {gv : VO1} (ho : Op1Ok k g gv) (ha : EOk .weak c1 a wa) : EOk k c1 (dUn g a) (vUn gv wa) := by
  refine JOk.bind (c2 := 0) (kw := fun x u Q X => gv x Q) RelK.up ha fun Z A n u r st0 st d v Q X hcap hv hr q => ?_
  exact ho Z A _ u r st _ d v Q X hv hr q
end
theorem Rep.intd {Y : Av} {b : Nat} {st : Store} {d : D} {i : Int} (h : Rep Y b st d (.int i)) : d = .int i := by cases h; rfl
theorem Rep.bld {Y : Av} {b : Nat} {st : Store} {d : D} {i : Bool} (h : Rep Y b st d (.bl i)) : d = .bl i := by cases h; rfl
theorem Rep.strd {Y : Av} {b : Nat} {st : Store} {d : D} {i : Str} (h : Rep Y b st d (.str i)) : d = .str i := by cases h; rfl
theorem Rep.nond {Y : Av} {b : Nat} {st : Store} {d : D} (h : Rep Y b st d .non) : d = .non := by cases h; rfl
theorem Rep.tupd {Y : Av} {b : Nat} {st : Store} {d : D} {us : List U} (h : Rep Y b st d (.tup us)) : ∃ ds, d = .tup ds ∧ us.length ≤ sizeLine ∧ Reps Y b st ds us := by cases h with | tup l a => exact ⟨_, rfl, l, a⟩
theorem Rep.lstd {Y : Av} {b : Nat} {st : Store} {d : D} {us : List U} (h : Rep Y b st d (.lst us)) : ∃ n ds, d = .ref n ∧ st[n]? = some (.lst ds) ∧ us.length ≤ sizeLine ∧ Reps Y b st ds us := by cases h with | lst a e l r => exact ⟨_, _, rfl, e, l, r⟩
section
variable {Z : Av} {A : Ow} {b : Nat} {st st0 : Store} {d : D}
theorem RelK.tupw {k : Kd} {us : List U} (h : RelK k Z A b st0 st d (.tup us)) : ∃ ds, d = .tup ds ∧ us.length ≤ sizeLine ∧ Reps (avo Z A) b st ds us := by
  cases k with
  | weak =>
    rcases h with h | ⟨i, n, _, rfl, h⟩
    · exact h.tupd
    · exact h.elim
  | strong => exact Rep.tupd h
  | fresh => obtain ⟨n, rfl, _, h⟩ := h; exact h.elim
theorem RelK.lstw {us : List U} (h : RelK .weak Z A b st0 st d (.lst us)) : ∃ n ds, d = .ref n ∧ st[n]? = some (.lst ds) ∧ us.length ≤ sizeLine ∧ Reps (avo Z A) b st ds us := by
  rcases h with h | ⟨i, n, _, rfl, h⟩
  · exact h.lstd
  · obtain ⟨ds, e, l, r⟩ := h
    exact ⟨n, ds, rfl, e, l, r⟩
theorem RelK.intw {k : Kd} {i : Int} (h : RelK k Z A b st0 st d (.int i)) : d = .int i := h.any.intd
theorem RelK.blw {k : Kd} {i : Bool} (h : RelK k Z A b st0 st d (.bl i)) : d = .bl i := h.any.bld
theorem RelK.strw {k : Kd} {i : Str} (h : RelK k Z A b st0 st d (.str i)) : d = .str i := h.any.strd
/-- a new list -/
theorem newL_post {u : UEnv} {r : Env'} {ds : List D} {us : List U} {Q : U → Prop} {X : VX} (hv : RV Z A b u r st) (h : Reps (avo Z A) b st ds us) (hl : us.length ≤ sizeLine) (q : Q (.lst us)) : Post (RelK .fresh) Z A b b st (newL ds st) Q X := by
  refine ⟨.lst us, q, .push _, st.length, rfl, Nat.le_refl _, ds, by simp, hl, ?_⟩
  refine (h.lt.up (W := noW) (b' := b) (.push (.lst ds)) (fun _ _ z => z.elim) fun n hn z => ?_)
  rcases z with z | z
  · exact .inl z
  · exact absurd hn (by omega)
theorem Post.fs {u : UEnv} {r : Env'} {res : Res D} {Q : U → Prop} {X : VX} {b' : Nat} (hv : RV Z A b u r st) (h : Post (RelK .fresh) Z A b b' st res Q X) : Post (RelK .strong) Z A b b' st res Q X := by
  cases res with
  | ok d st' =>
    obtain ⟨v, q, g, n, rfl, hl, h⟩ := h
    refine ⟨v, q, g, (h.av fun m _ z => .inl z).rep fun z => ?_⟩
    have := hv.avlt z
    omega
  | exc x st' => exact h
  | err => exact h
theorem Reps.app {Y : Av} {ds es : List D} {us vs : List U} (h : Reps Y b st ds us) (h' : Reps Y b st es vs) : Reps Y b st (ds ++ es) (us ++ vs) := .of (Paired.app h.pr h'.pr)
end
def vAdd : VO2 := fun v w Q => match v, w with
  | .int i, .int j => Q (.int (i + j))
  | .tup x, .tup y => x.length + y.length ≤ sizeLine ∧ Q (.tup (x ++ y))
  | .str x, .str y => x.length + y.length ≤ sizeLine ∧ Q (.str (x ++ y))
  | .lst x, .lst y => x.length + y.length ≤ sizeLine ∧ Q (.lst (x ++ y))
  | _, _ => False
/-- of lists alone: a new one -/
def vAddL : VO2 := fun v w Q => match v, w with
  | .lst x, .lst y => x.length + y.length ≤ sizeLine ∧ Q (.lst (x ++ y))
  | _, _ => False
theorem opv_addL : OpOk .fresh oAdd vAddL := fun Z A b u r st st1 st2 d e v w Q X hv h1 h2 q => by
  unfold vAddL at q
  split at q
  · obtain ⟨hl, q⟩ := q
    obtain ⟨n, ds, rfl, e1, l1, r1⟩ := h1.lstw
    obtain ⟨m, es, rfl, e2, l2, r2⟩ := h2.lstw
    unfold oAdd
    dsimp only
    rw [getL_of e1, getL_of e2]
    dsimp only
    rw [r1.length, r2.length, if_pos hl]
    exact newL_post hv (r1.app r2) (by rw [List.length_append]; exact hl) q
  · exact q.elim
theorem opv_add : OpOk .strong oAdd vAdd := fun Z A b u r st st1 st2 d e v w Q X hv h1 h2 q => by
  unfold vAdd at q
  split at q
  · rw [h1.intw, h2.intw]
    exact ⟨_, q, .refl, .int _⟩
  · obtain ⟨hl, q⟩ := q
    obtain ⟨ds, rfl, l1, r1⟩ := h1.tupw
    obtain ⟨es, rfl, l2, r2⟩ := h2.tupw
    unfold oAdd
    dsimp only
    rw [r1.length, r2.length, if_pos hl]
    exact ⟨_, q, .refl, .tup (by rw [List.length_append]; exact hl) (r1.app r2)⟩
  · obtain ⟨hl, q⟩ := q
    rw [h1.strw, h2.strw]
    unfold oAdd
    dsimp only
    rw [if_pos hl]
    exact ⟨_, q, .refl, .str _⟩
  · exact Post.fs hv (opv_addL Z A b u r st st1 st2 d e _ _ Q X hv h1 h2 q)
  · exact q.elim
def vSub : VO2 := fun v w Q => match v, w with
  | .int i, .int j => Q (.int (i - j))
  | _, _ => False
theorem opv_sub : OpOk .strong oSub vSub := fun Z A b u r st st1 st2 d e v w Q X hv h1 h2 q => by
  unfold vSub at q
  split at q
  · rw [h1.intw, h2.intw]
    exact ⟨_, q, .refl, .int _⟩
  · exact q.elim
theorem Reps.rep {Y : Av} {b : Nat} {st : Store} {ds : List D} {us : List U} (h : Reps Y b st ds us) : ∀ n, Reps Y b st (List.replicate n ds).flatten (List.replicate n us).flatten
  | 0 => .nil
  | n + 1 => by
    rw [List.replicate_succ, List.replicate_succ, List.flatten_cons, List.flatten_cons]
    exact h.app (Reps.rep h n)
def vMul : VO2 := fun v w Q => match v, w with
  | .int i, .int j => mulOk i j = true ∧ Q (.int (i * j))
  | .lst x, .int k => repOk x.length k = true ∧ Q (.lst (List.replicate k.toNat x).flatten)
  | .tup x, .int k => repOk x.length k = true ∧ Q (.tup (List.replicate k.toNat x).flatten)
  | _, _ => False
def vMulL : VO2 := fun v w Q => match v, w with
  | .lst x, .int k => repOk x.length k = true ∧ Q (.lst (List.replicate k.toNat x).flatten)
  | _, _ => False
theorem opv_mulL : OpOk .fresh oMul vMulL := fun Z A b u r st st1 st2 d e v w Q X hv h1 h2 q => by
  unfold vMulL at q
  split at q
  · obtain ⟨hl, q⟩ := q
    obtain ⟨n, ds, rfl, e1, l1, r1⟩ := h1.lstw
    rw [h2.intw]
    unfold oMul
    dsimp only
    rw [getL_of e1]
    dsimp only
    rw [r1.length, if_pos hl]
    exact newL_post hv (r1.rep _) (by rw [flat_len]; exact (repOk_ok hl).2.2) q
  · exact q.elim
theorem opv_mul : OpOk .strong oMul vMul := fun Z A b u r st st1 st2 d e v w Q X hv h1 h2 q => by
  unfold vMul at q
  split at q
  · obtain ⟨hl, q⟩ := q
    rw [h1.intw, h2.intw]
    unfold oMul
    dsimp only
    rw [if_pos hl]
    exact ⟨_, q, .refl, .int _⟩
  · exact Post.fs hv (opv_mulL Z A b u r st st1 st2 d e _ _ Q X hv h1 h2 q)
  · obtain ⟨hl, q⟩ := q
    obtain ⟨ds, rfl, l1, r1⟩ := h1.tupw
    rw [h2.intw]
    unfold oMul
    dsimp only
    rw [r1.length, if_pos hl]
    exact ⟨_, q, .refl, .tup (by rw [flat_len]; exact (repOk_ok hl).2.2) (r1.rep _)⟩
  · exact q.elim
def vMod : VO2 := fun v w Q => match v, w with
  | .int i, .int j => 0 < j ∧ Q (.int (i % j))
  | _, _ => False
theorem opv_mod : OpOk .strong oMod vMod := fun Z A b u r st st1 st2 d e v w Q X hv h1 h2 q => by
  unfold vMod at q
  split at q
  · rw [h1.intw, h2.intw]
    unfold oMod
    dsimp only
    rw [if_pos q.1]
    exact ⟨_, q.2, .refl, .int _⟩
  · exact q.elim
def vPow : VO2 := fun v w Q => match v, w with
  | .int i, .int j => (0 ≤ j ∧ j ≤ 1000000 ∧ i.natAbs < 2 ^ 64) ∧ Q (.int (i ^ j.toNat))
  | _, _ => False
theorem opv_pow : OpOk .strong oPow vPow := fun Z A b u r st st1 st2 d e v w Q X hv h1 h2 q => by
  unfold vPow at q
  split at q
  · rw [h1.intw, h2.intw]
    unfold oPow
    dsimp only
    rw [if_pos q.1]
    exact ⟨_, q.2, .refl, .int _⟩
  · exact q.elim
def vNeg : VO1 := fun v Q => match v with
  | .int i => Q (.int (-i))
  | _ => False
theorem opv_neg : Op1Ok .strong oNeg vNeg := fun Z A b u r st st1 d v Q X hv h1 q => by
  unfold vNeg at q
  split at q
  · rw [h1.intw]
    exact ⟨_, q, .refl, .int _⟩
  · exact q.elim
def vCmp (g : Int → Int → Bool) : VO2 := fun v w Q => match v, w with
  | .int i, .int j => Q (.bl (g i j))
  | _, _ => False
theorem opv_cmp (g : Int → Int → Bool) : OpOk .strong (oCmp g) (vCmp g) := fun Z A b u r st st1 st2 d e v w Q X hv h1 h2 q => by
  unfold vCmp at q
  split at q
  · rw [h1.intw, h2.intw]
    exact ⟨_, q, .refl, .bl _⟩
  · exact q.elim
/-- a value as plain data, to a depth -/
def U.toP : Nat → U → Option PyData
  | 0, _ => none
  | n + 1, d => match d with
    | .non => some .none
    | .bl b => some (.bool b)
    | .int i => some (.int i)
    | .str x => if (PyData.str x).canLay0 = true then some (.str x) else none
    | .tup l => (l.mapM (U.toP n)).map .tuple
    | .fz l => (l.mapM (U.toP n)).map .list
    | .xt l => (l.mapM (U.toP n)).map .tuple
    | .lst l => (l.mapM (U.toP n)).map .list
    | _ => none
theorem reps_toP {Y : Av} {b : Nat} {st : Store} {n : Nat} (ih : ∀ d v, Rep Y b st d v → toP st n d = v.toP n) : ∀ (ds : List D) (us : List U), Reps Y b st ds us → ds.mapM (toP st n) = us.mapM (U.toP n)
  | [], _, h => by cases h; rfl
  | d :: ds, _, h => by
    cases h with
    | cons a r => rw [List.mapM_cons, List.mapM_cons, ih d _ a, reps_toP ih ds _ r]
theorem rep_toP {Y : Av} {b : Nat} {st : Store} : ∀ (n : Nat) (d : D) (v : U), Rep Y b st d v → toP st n d = v.toP n
  | 0, _, _, _ => rfl
  | n + 1, d, v, h => by
    have ih := rep_toP n (Y := Y) (b := b) (st := st)
    cases h with
    | non => rfl
    | bl k => rfl
    | int i => rfl
    | str x => rfl
    | tup l a => unfold toP U.toP; dsimp only; rw [reps_toP ih _ _ a]
    | fz l a => unfold toP U.toP; dsimp only; rw [reps_toP ih _ _ a]
    | xt l a => unfold toP U.toP; dsimp only; rw [reps_toP ih _ _ a]
    | lst a e l r => unfold toP U.toP; dsimp only; rw [getL_of e]; dsimp only; rw [reps_toP ih _ _ r]
    | dK a e i k l r =>
      unfold toP U.toP getL
      dsimp only
      rw [e]
    | dT a e k l r =>
      unfold toP U.toP getL
      dsimp only
      rw [e]
    | gen a c e d f q w =>
      unfold toP U.toP getL
      dsimp only
      rw [e]
      rfl
theorem RelK.toP {k : Kd} {Z : Av} {A : Ow} {b : Nat} {st st0 : Store} {d : D} {v : U} (h : RelK k Z A b st0 st d v) : toP64 st d = v.toP 64 := rep_toP 64 d v h.any
def vEqG (g : PyData → PyData → Bool) : VO2 := fun v w Q => match v.toP 64, w.toP 64 with
  | some p, some q => Q (.bl (g p q))
  | _, _ => False
def vEq : VO2 := vEqG PyData.eqv
def vNe : VO2 := vEqG fun p q => !PyData.eqv p q
theorem opv_eq : OpOk .strong oEq vEq := fun Z A b u r st st1 st2 d e v w Q X hv h1 h2 q => by
  unfold vEq vEqG at q
  split at q
  · rename_i p p' e1 e2
    unfold oEq
    rw [h1.toP, h2.toP, e1, e2]
    exact ⟨_, q, .refl, .bl _⟩
  · exact q.elim
theorem opv_ne : OpOk .strong oNe vNe := fun Z A b u r st st1 st2 d e v w Q X hv h1 h2 q => by
  unfold vNe vEqG at q
  split at q
  · rename_i p p' e1 e2
    unfold oNe
    rw [h1.toP, h2.toP, e1, e2]
    exact ⟨_, q, .refl, .bl _⟩
  · exact q.elim
def U.keyOf : U → Option Key
  | .int i => some (.inl i)
  | .str x => some (.inr x)
  | _ => none
def U.keysOf : U → Option (List Key)
  | .tup l => l.mapM U.keyOf
  | _ => none
section
variable {Y : Av} {b : Nat} {st : Store}
theorem Rep.key {d : D} {v : U} (h : Rep Y b st d v) : keyOf d = v.keyOf := by cases h <;> rfl
theorem Reps.keys : ∀ {ds : List D} {us : List U}, Reps Y b st ds us → ds.mapM keyOf = us.mapM U.keyOf
  | [], _, h => by cases h; rfl
  | d :: ds, _, h => by
    cases h with
    | cons a r => rw [List.mapM_cons, List.mapM_cons, a.key, Reps.keys r]
theorem Rep.keys {d : D} {v : U} (h : Rep Y b st d v) : keysOf d = v.keysOf := by
  cases h <;> first | rfl | skip
  rename_i a
  exact Reps.keys a
end
/-- what a dict holds at a key, by value -/
def lookU {A : Type} [DecidableEq A] : List A → List U → A → Option U
  | k :: ks, u :: us, x => if k = x then some u else lookU ks us x
  | _, _, _ => none
theorem look_rel {A : Type} [DecidableEq A] {Y : Av} {b : Nat} {st : Store} : ∀ {kvs : List (A × D)} {us : List U} {k : A}, Reps Y b st (kvs.map (·.2)) us → (valD kvs k = none ∧ lookU (kvs.map (·.1)) us k = none) ∨ ∃ d u, valD kvs k = some d ∧ lookU (kvs.map (·.1)) us k = some u ∧ Rep Y b st d u
  | [], _, k, h => by cases h; exact .inl ⟨rfl, rfl⟩
  | (a, x) :: kvs, us, k, h => by
    rw [List.map_cons] at h
    cases h with
    | cons p r =>
      by_cases e : a = k
      · refine .inr ⟨x, _, ?_, ?_, p⟩
        · simp [valD, List.find?_cons, e]
        · simp [lookU, e]
      · have h1 : valD ((a, x) :: kvs) k = valD kvs k := by simp [valD, List.find?_cons, e]
        rw [h1]
        have h2 := look_rel (k := k) r
        simp only [List.map_cons, lookU, if_neg e]
        exact h2
/-- what a dict holds: none: no dict, or no key of its kind -/
def dGetU (v x : U) : Option (Option U) := match v with
  | .dK ks us => match x.keyOf with
    | some k => some (lookU ks us k)
    | none => none
  | .dT ks us => match x.keysOf with
    | some k => some (lookU ks us k)
    | none => none
  | _ => none
theorem dGet_rel {Z : Av} {A : Ow} {b : Nat} {st st1 st2 : Store} {d e : D} {v x : U} {o : Option U} (h1 : RelK .weak Z A b st1 st d v) (h2 : RelK .weak Z A b st2 st e x) (ho : dGetU v x = some o) :
    ∃ n o', d = .ref n ∧ dGet st n e = some o' ∧ getL st n = none ∧ ((o = none ∧ o' = none) ∨ ∃ y z, o = some z ∧ o' = some y ∧ Rep (avo Z A) b st y z) := by
  have hc : ∃ n, d = .ref n ∧ Cont (avo Z A) b st n v := by
    rcases h1 with h | ⟨i, n, _, rfl, h⟩
    · cases h <;> first | cases ho | skip
      · exact ⟨_, rfl, _, by assumption, by assumption, by assumption, by assumption, by assumption⟩
      · exact ⟨_, rfl, _, by assumption, by assumption, by assumption, by assumption⟩
    · exact ⟨n, rfl, h⟩
  obtain ⟨n, rfl, hc⟩ := hc
  cases v with
  | dK ks us =>
    obtain ⟨kvs, e1, _, rfl, _, r⟩ := hc
    unfold dGetU at ho
    dsimp only at ho
    split at ho
    · rename_i k ek
      have ho := Option.some.inj ho
      refine ⟨n, valD kvs k, rfl, ?_, by unfold getL; rw [e1], ?_⟩
      · unfold dGet
        rw [e1]
        dsimp only
        rw [h2.any.key, ek]
      · rcases look_rel (k := k) r with ⟨z1, z2⟩ | ⟨y, z, z1, z2, z3⟩
        · exact .inl ⟨by rw [← ho, z2], z1⟩
        · exact .inr ⟨y, z, by rw [← ho, z2], z1, z3⟩
    · cases ho
  | dT ks us =>
    obtain ⟨kvs, e1, rfl, _, r⟩ := hc
    unfold dGetU at ho
    dsimp only at ho
    split at ho
    · rename_i k ek
      have ho := Option.some.inj ho
      refine ⟨n, valD kvs k, rfl, ?_, by unfold getL; rw [e1], ?_⟩
      · unfold dGet
        rw [e1]
        dsimp only
        rw [h2.any.keys, ek]
      · rcases look_rel (k := k) r with ⟨z1, z2⟩ | ⟨y, z, z1, z2, z3⟩
        · exact .inl ⟨by rw [← ho, z2], z1⟩
        · exact .inr ⟨y, z, by rw [← ho, z2], z1, z3⟩
    · cases ho
  | _ => cases ho
/-- x in y -/
def isInU (x y : U) : Option Bool := match y with
  | .dK _ _ => (dGetU y x).map Option.isSome
  | .dT _ _ => (dGetU y x).map Option.isSome
  | _ => match x.toP 64, y.toP 64 with
    | some p, some (.list ds) => some (ds.any fun z => PyData.eqv z p)
    | some p, some (.tuple ds) => some (ds.any fun z => PyData.eqv z p)
    | _, _ => none
theorem toP_tup_ne {n : Nat} {l : List U} {ds : List PyData} : (U.tup l).toP n ≠ some (.list ds) := by
  cases n with
  | zero => intro h; cases h
  | succ n =>
    intro h
    have h : (l.mapM (U.toP n)).map PyData.tuple = some (.list ds) := h
    cases e : l.mapM (U.toP n) <;> rw [e] at h <;> cases h
theorem toP_lst_ne {n : Nat} {l : List U} {ds : List PyData} : (U.lst l).toP n ≠ some (.tuple ds) := by
  cases n with
  | zero => intro h; cases h
  | succ n =>
    intro h
    have h : (l.mapM (U.toP n)).map PyData.list = some (.tuple ds) := h
    cases e : l.mapM (U.toP n) <;> rw [e] at h <;> cases h
theorem toP_fz_ne {n : Nat} {l : List U} {ds : List PyData} : (U.fz l).toP n ≠ some (.tuple ds) := by
  cases n with
  | zero => intro h; cases h
  | succ n =>
    intro h
    have h : (l.mapM (U.toP n)).map PyData.list = some (.tuple ds) := h
    cases e : l.mapM (U.toP n) <;> rw [e] at h <;> cases h
theorem toP_xt_ne {n : Nat} {l : List U} {ds : List PyData} : (U.xt l).toP n ≠ some (.list ds) := by
  cases n with
  | zero => intro h; cases h
  | succ n =>
    intro h
    have h : (l.mapM (U.toP n)).map PyData.tuple = some (.list ds) := h
    cases e : l.mapM (U.toP n) <;> rw [e] at h <;> cases h
theorem isIn_rel {Z : Av} {A : Ow} {b : Nat} {st st1 st2 : Store} {d e : D} {v w : U} {k : Bool} (h1 : RelK .weak Z A b st1 st d v) (h2 : RelK .weak Z A b st2 st e w) (ho : isInU v w = some k) : isIn d e st = some k := by
  have p1 := h1.toP
  have p2 := h2.toP
  unfold isInU at ho
  split at ho
  · rename_i ks us
    cases eg : dGetU (.dK ks us) v with
    | none => rw [eg] at ho; cases ho
    | some o =>
      rw [eg] at ho
      obtain ⟨n, o', rfl, g1, g2, g3⟩ := dGet_rel h2 h1 eg
      unfold isIn
      dsimp only
      rw [g2]
      dsimp only
      rw [g1]
      have ho := Option.some.inj ho
      dsimp only
      rcases g3 with ⟨a, c⟩ | ⟨y, z, a, c, _⟩ <;> rw [c] <;> rw [a] at ho <;> rw [← ho] <;> rfl
  · rename_i ks us
    cases eg : dGetU (.dT ks us) v with
    | none => rw [eg] at ho; cases ho
    | some o =>
      rw [eg] at ho
      obtain ⟨n, o', rfl, g1, g2, g3⟩ := dGet_rel h2 h1 eg
      unfold isIn
      dsimp only
      rw [g2]
      dsimp only
      rw [g1]
      have ho := Option.some.inj ho
      dsimp only
      rcases g3 with ⟨a, c⟩ | ⟨y, z, a, c, _⟩ <;> rw [c] <;> rw [a] at ho <;> rw [← ho] <;> rfl
  · split at ho
    · rename_i p ds e1 e2
      have ho := Option.some.inj ho
      cases w with
      | tup l => exact absurd e2 toP_tup_ne
      | xt l => exact absurd e2 toP_xt_ne
      | fz l =>
        obtain ⟨ds', q1, q2⟩ : ∃ ds', e = .fz ds' ∧ True := by
          have := h2.any
          cases this
          exact ⟨_, rfl, trivial⟩
        subst q1
        unfold isIn
        dsimp only
        rw [p1, p2, e1, e2]
        dsimp only
        rw [ho]
      | lst l =>
        obtain ⟨n, ds', rfl, q1, _, q2⟩ := h2.lstw
        unfold isIn
        dsimp only
        rw [getL_of q1]
        dsimp only
        rw [p1, p2, e1, e2]
        dsimp only
        rw [ho]
      | str x =>
        have z : (if (PyData.str x).canLay0 = true then some (PyData.str x) else none) = some (.list ds) := e2
        split at z <;> cases z
      | _ => cases e2
    · rename_i p ds e1 e2
      have ho := Option.some.inj ho
      cases w with
      | lst l => exact absurd e2 toP_lst_ne
      | fz l => exact absurd e2 toP_fz_ne
      | xt l =>
        obtain ⟨ds', rfl⟩ : ∃ ds', e = .xt ds' := by
          have := h2.any
          cases this
          exact ⟨_, rfl⟩
        unfold isIn
        dsimp only
        rw [p1, p2, e1, e2]
        dsimp only
        rw [ho]
      | tup l =>
        obtain ⟨ds', rfl, _, q2⟩ := h2.tupw
        unfold isIn
        dsimp only
        rw [p1, p2, e1, e2]
        dsimp only
        rw [ho]
      | str x =>
        have z : (if (PyData.str x).canLay0 = true then some (PyData.str x) else none) = some (.tuple ds) := e2
        split at z <;> cases z
      | _ => cases e2
    · cases ho
def vIn : VO2 := fun v w Q => match isInU v w with
  | some k => Q (.bl k)
  | none => False
def vNotIn : VO2 := fun v w Q => match isInU v w with
  | some k => Q (.bl (!k))
  | none => False
theorem opv_in : OpOk .strong oIn vIn := fun Z A b u r st st1 st2 d e v w Q X hv h1 h2 q => by
  unfold vIn at q
  split at q
  · rename_i k ek
    unfold oIn
    rw [isIn_rel h1 h2 ek]
    exact ⟨_, q, .refl, .bl _⟩
  · exact q.elim
theorem opv_notin : OpOk .strong oNotIn vNotIn := fun Z A b u r st st1 st2 d e v w Q X hv h1 h2 q => by
  unfold vNotIn at q
  split at q
  · rename_i k ek
    unfold oNotIn
    rw [isIn_rel h1 h2 ek]
    exact ⟨_, q, .refl, .bl _⟩
  · exact q.elim
def U.isNon : U → Bool
  | .non => true
  | _ => false
theorem RelK.non_eq {k : Kd} {Z : Av} {A : Ow} {b : Nat} {st st0 : Store} {d : D} {v : U} (h : RelK k Z A b st0 st d v) : Pd.isNon d = v.isNon := by
  have := h.any
  cases this <;> rfl
def vIs : VO2 := fun v w Q => w.isNon = true ∧ Q (.bl v.isNon)
def vIsNot : VO2 := fun v w Q => w.isNon = true ∧ Q (.bl (!v.isNon))
theorem opv_is : OpOk .strong oIs vIs := fun Z A b u r st st1 st2 d e v w Q X hv h1 h2 q => by
  unfold oIs
  rw [h1.non_eq, h2.non_eq, if_pos q.1]
  exact ⟨_, q.2, .refl, .bl _⟩
theorem opv_isnot : OpOk .strong oIsNot vIsNot := fun Z A b u r st st1 st2 d e v w Q X hv h1 h2 q => by
  unfold oIsNot
  rw [h1.non_eq, h2.non_eq, if_pos q.1]
  exact ⟨_, q.2, .refl, .bl _⟩
def vIx : VO2 := fun v w Q => match v.items with
  | some us => match w with
    | .int i => match atI us i with
      | some x => Q x
      | none => False
    | _ => False
  | none => match dGetU v w with
    | some (some x) => Q x
    | _ => False
theorem atI_relU {Y : Av} {b : Nat} {st : Store} {ds : List D} {us : List U} {i : Int} {x : U} (r : Reps Y b st ds us) (e : atI us i = some x) : ∃ d, atI ds i = some d ∧ Rep Y b st d x := by
  unfold atI at e ⊢
  rw [r.length]
  cases q : ixN us.length i with
  | none => rw [q] at e; cases e
  | some j =>
    rw [q] at e
    obtain ⟨v, e1, e2⟩ := Paired.getR r.pr (show us[j]? = some x from e)
    exact ⟨v, e1, e2⟩
theorem opv_ix : OpOk .strong oIx vIx := fun Z A b u r st st1 st2 d e v w Q X hv h1 h2 q => by
  unfold vIx at q
  split at q
  · rename_i us eu
    split at q
    · rename_i i
      split at q
      · rename_i x ex
        obtain ⟨ds, e1, _, _, r1⟩ := h1.seq eu
        obtain ⟨y, e2, r2⟩ := atI_relU r1 ex
        rw [h2.intw]
        unfold oIx ixSeq
        rw [e1]
        dsimp only
        rw [e2]
        exact ⟨x, q, .refl, r2⟩
      · exact q.elim
    · exact q.elim
  · split at q
    · rename_i x ex
      obtain ⟨n, o', rfl, g1, g2, g3⟩ := dGet_rel h1 h2 ex
      rcases g3 with ⟨a, _⟩ | ⟨y, z, a, c, r1⟩
      · cases a
      · cases a
        subst c
        have e0 : ixSeq (.ref n) e st = none := by
          unfold ixSeq
          rw [show seqOf st (.ref n) = none from g2]
        unfold oIx
        rw [e0]
        dsimp only
        unfold ixDic
        dsimp only
        rw [g1]
        exact ⟨x, q, .refl, r1⟩
    · exact q.elim
end Pd
set_option maxRecDepth 100000
set_option maxHeartbeats 4000000
namespace Pd
open PySem PySem.Spec PyProof.Rows L2
def truU : U → (Bool → Prop) → Prop
  | .non, Q => Q false
  | .bl b, Q => Q b
  | .int i, Q => Q (i != 0)
  | .tup l, Q => Q (!l.isEmpty)
  | .fz l, Q => Q (!l.isEmpty)
  | .xt l, Q => Q (!l.isEmpty)
  | .lst l, Q => Q (!l.isEmpty)
  | _, _ => False
def vTru (w : VE) : VT := fun u Q X => w u (fun v => truU v Q) X
def vB (w : VE) : VT := fun u Q X => w u (fun v => match v with
  | .bl k => Q k
  | _ => False) X
def vAnd (t s : VT) : VT := fun u Q X => t u (fun c => if c = true then s u Q X else Q false) X
def vOr (t s : VT) : VT := fun u Q X => t u (fun c => if c = true then Q true else s u Q X) X
def vNot (t : VT) : VT := fun u Q X => t u (fun c => Q (!c)) X
def vAndV (a b : VE) : VE := fun u Q X => a u (fun v => match v with
  | .bl c => if c = true then b u Q X else Q (.bl false)
  | _ => False) X
def vIf (t : VT) (a b : VE) : VE := fun u Q X => t u (fun c => if c = true then a u Q X else b u Q X) X
theorem Reps.emp {Y : Av} {b : Nat} {st : Store} {ds : List D} {us : List U} (h : Reps Y b st ds us) : ds.isEmpty = us.isEmpty := by cases h <;> rfl
section
variable {k : Kd} {c c1 c2 c3 : Nat} {a b e : DE} {wa wb we : VE} {t s : DT} {wt ws : VT} {g g' : D → D → Store → Res D} {gv gv' : VO2}
theorem tv_tru (ha : EOk .weak c a wa) : TOk c (dTru a) (vTru wa) := by
  refine JOk.bind (c2 := 0) (kw := fun v u Q X => truU v Q) RelB.up ha fun Z A n u r st0 st d v Q X hcap hv hr q => ?_
  unfold truU at q
  split at q
  · rw [hr.any.nond]; exact ⟨_, q, .refl, rfl⟩
  · rw [hr.blw]; exact ⟨_, q, .refl, rfl⟩
  · rw [hr.intw]; exact ⟨_, q, .refl, rfl⟩
  · obtain ⟨ds, rfl, _, r1⟩ := hr.tupw
    exact ⟨_, q, .refl, congrArg (!·) r1.emp⟩
  · rename_i l
    have h := hr.any
    cases h with
    | fz _ r1 => exact ⟨_, q, .refl, congrArg (!·) r1.emp⟩
  · rename_i l
    have h := hr.any
    cases h with
    | xt _ r1 => exact ⟨_, q, .refl, congrArg (!·) r1.emp⟩
  · obtain ⟨n, ds, rfl, e, _, r1⟩ := hr.lstw
    unfold truD
    dsimp only
    rw [getL_of e]
    exact ⟨_, q, .refl, congrArg (!·) r1.emp⟩
  · exact q.elim
theorem tv_B (ha : EOk .weak c a wa) : TOk c (dB a) (vB wa) := by
  refine JOk.bind (c2 := 0) (kw := fun v u Q X => match v with
    | .bl k => Q k
    | _ => False) RelB.up ha fun Z A n u r st0 st d v Q X hcap hv hr q => ?_
  cases v <;> first | exact q.elim | skip
  rw [hr.blw]
  exact ⟨_, q, .refl, rfl⟩
theorem tv_and (ht : TOk c1 t wt) (hs : TOk c2 s ws) : TOk (c1 + c2) (dAnd t s) (vAnd wt ws) := by
  refine JOk.bind (kw := fun v u Q X => if v = true then ws u Q X else Q false) RelB.up ht fun Z A n u r st0 st d v Q X hcap hv hr q => ?_
  cases hr
  cases d with
  | true => exact hs Z A n u r st Q X (by omega) hv q
  | false => exact ⟨_, q, .le (by omega), rfl⟩
theorem tv_or (ht : TOk c1 t wt) (hs : TOk c2 s ws) : TOk (c1 + c2) (dOr t s) (vOr wt ws) := by
  refine JOk.bind (kw := fun v u Q X => if v = true then Q true else ws u Q X) RelB.up ht fun Z A n u r st0 st d v Q X hcap hv hr q => ?_
  cases hr
  cases d with
  | true => exact ⟨_, q, .le (by omega), rfl⟩
  | false => exact hs Z A n u r st Q X (by omega) hv q
theorem tv_not (ht : TOk c t wt) : TOk c (dNot t) (vNot wt) := by
  refine JOk.bind (c2 := 0) (kw := fun v u Q X => Q (!v)) RelB.up ht fun Z A n u r st0 st d v Q X hcap hv hr q => ?_
  cases hr
  exact ⟨_, q, .refl, rfl⟩
theorem ev_and (ha : EOk .weak c1 a wa) (hb : EOk .strong c2 b wb) : EOk .strong (c1 + c2) (dAndV a b) (vAndV wa wb) := by
  refine JOk.bind (kw := fun v u Q X => match v with
    | .bl c => if c = true then wb u Q X else Q (.bl false)
    | _ => False) RelK.up ha fun Z A n u r st0 st d v Q X hcap hv hr q => ?_
  cases v <;> first | exact q.elim | skip
  rename_i k
  rw [hr.blw]
  cases k with
  | true => exact hb Z A n u r st Q X (by omega) hv q
  | false => exact ⟨_, q, .le (by omega), .bl _⟩
theorem ev_if (ht : TOk c1 t wt) (ha : EOk k c2 a wa) (hb : EOk k c3 b wb) : EOk k (c1 + (c2 + c3)) (dIf t a b) (vIf wt wa wb) := by
  refine JOk.bind (kw := fun v u Q X => if v = true then wa u Q X else wb u Q X) RelK.up ht fun Z A n u r st0 st d v Q X hcap hv hr q => ?_
  cases hr
  cases d with
  | true => exact Post.le RelK.up (by omega) (ha Z A n u r st Q X (by omega) hv q)
  | false => exact Post.le RelK.up (by omega) (hb Z A n u r st Q X (by omega) hv q)
end
def vNil : VA := fun _ Q _ => Q []
def vCons (a : VE) (b : VA) : VA := fun u Q X => a u (fun x => b u (fun l => Q (x :: l)) X) X
section
variable {k : Kd} {c c1 c2 : Nat} {a : DE} {l : DA} {wa : VE} {wl : VA}
theorem av_nil : AOk k 0 dNil vNil := fun Z A b u r st Q X hcap hv q => ⟨[], q, .refl, .nil⟩
theorem RelK.rebase {Z : Av} {A : Ow} {b : Nat} {st st0 st1 : Store} {d : D} {v : U} (hk : k ≠ .fresh) (h : RelK k Z A b st0 st d v) : RelK k Z A b st1 st d v := by
  cases k with
  | weak => exact h
  | strong => exact h
  | fresh => exact absurd rfl hk
theorem av_cons (ha : EOk k c1 a wa) (hl : AOk k c2 l wl) (hk : k ≠ .fresh := by decide) : AOk k (c1 + c2) (dCons a l) (vCons wa wl) := by
  refine JOk.bind (kw := fun x u Q X => wl u (fun l => Q (x :: l)) X) RelL.up ha fun Z A n u r st0 st d v Q X hcap hv hr q => ?_
  refine Post.bind RelL.up (hl Z A n u r st _ X (by omega) hv q) (Nat.le_refl _) hv fun y st1 v2 hv1 g1 hr2 q2 => ?_
  exact ⟨_, q2, .refl, .cons ((RelK.up.up hr g1).rebase hk) (Paired.mono (fun _ _ z => z.rebase hk) hr2)⟩
/-- strong arguments as data -/
theorem RelL.reps {Z : Av} {A : Ow} {b : Nat} {st st0 : Store} {ds : List D} {us : List U} (h : RelL .strong Z A b st0 st ds us) : Reps (avo Z A) b st ds us := .of h
theorem RelL.any {k : Kd} {Z : Av} {A : Ow} {b : Nat} {st st0 : Store} {ds : List D} {us : List U} (h : RelL k Z A b st0 st ds us) : Reps noW b st ds us := .of (Paired.mono (fun _ _ z => RelK.any z) h)
def vTup (l : VA) : VE := fun u Q X => l u (fun us => us.length ≤ sizeLine ∧ Q (.tup us)) X
def vLst (l : VA) : VE := fun u Q X => l u (fun us => us.length ≤ sizeLine ∧ Q (.lst us)) X
theorem ev_tup (hl : AOk .strong c l wl) : EOk .strong c (dL oTup l) (vTup wl) := by
  refine JOk.bind (c2 := 0) (kw := fun us u Q X => us.length ≤ sizeLine ∧ Q (.tup us)) RelK.up hl fun Z A n u r st0 st d v Q X hcap hv hr q => ?_
  have hr := hr.reps
  unfold oTup
  rw [hr.length, if_pos q.1]
  exact ⟨_, q.2, .refl, .tup q.1 hr⟩
theorem ev_lst (hl : AOk .strong c l wl) : EOk .fresh c (dL oLst l) (vLst wl) := by
  refine JOk.bind (c2 := 0) (kw := fun us u Q X => us.length ≤ sizeLine ∧ Q (.lst us)) RelK.up hl fun Z A n u r st0 st d v Q X hcap hv hr q => ?_
  have hr := hr.reps
  unfold oLst
  rw [hr.length, if_pos q.1]
  exact newL_post hv hr q.1 q.2
def vNoP : VG (Option Int) := fun _ Q _ => Q none
def vP (w : VE) : VG (Option Int) := fun u Q X => w u (fun v => match v with
  | .int i => Q (some i)
  | _ => False) X
def cutU (l : List U) (lo hi : Option Int) : List U := (l.drop (HT.sIx l.length 0 lo)).take (HT.sIx l.length l.length hi - HT.sIx l.length 0 lo)
def vSlG (t : Bool) (wa : VE) (wl wh : VG (Option Int)) : VE := fun u Q X => wa u (fun x => wl u (fun l => wh u (fun h => match x with
  | .tup us => t = true ∧ Q (.tup (cutU us l h))
  | .lst us => Q (.lst (cutU us l h))
  | .fz us => Q (.lst (cutU us l h))
  | _ => False) X) X) X
def vSl : VE → VG (Option Int) → VG (Option Int) → VE := vSlG true
theorem cutU_length (l : List U) (lo hi : Option Int) : (cutU l lo hi).length ≤ l.length := by
  unfold cutU
  rw [List.length_take, List.length_drop]
  omega
theorem cut_relU {Y : Av} {b : Nat} {st : Store} {ds : List D} {us : List U} (r : Reps Y b st ds us) (lo hi : Option Int) : Reps Y b st (cutD ds lo hi) (cutU us lo hi) := by
  unfold cutD cutU
  rw [← r.length]
  exact .of (Paired.tk (Paired.dr r.pr _) _)
theorem pv_noP : JOk RelO 0 dNoP vNoP := fun Z A b u r st Q X hcap hv q => ⟨none, q, .refl, rfl⟩
theorem pv_P (ha : EOk .weak c a wa) : JOk RelO c (dP a) (vP wa) := by
  refine JOk.bind (c2 := 0) (kw := fun v u Q X => match v with
    | .int i => Q (some i)
    | _ => False) RelO.up ha fun Z A n u r st0 st d v Q X hcap hv hr q => ?_
  cases v <;> first | exact q.elim | skip
  rw [hr.intw]
  exact ⟨_, q, .refl, rfl⟩
theorem ev_slG {t : Bool} {dl dh : DP} {wl wh : VG (Option Int)} (ha : EOk .weak c a wa) (hl : JOk RelO c1 dl wl) (hh : JOk RelO c2 dh wh) : EOk (if t = true then .strong else .fresh) (c + (c1 + c2)) (dSl a dl dh) (vSlG t wa wl wh) := by
  refine JOk.bind (kw := fun x u Q X => wl u (fun l => wh u (fun h => match x with
    | .tup us => t = true ∧ Q (.tup (cutU us l h))
    | .lst us => Q (.lst (cutU us l h))
    | .fz us => Q (.lst (cutU us l h))
    | _ => False) X) X) RelK.up ha fun Z A n u r st0 st x v Q X hcap hv hr q => ?_
  refine Post.bind RelK.up (hl Z A n u r st _ X (by omega) hv q) (by omega) hv fun l st1 v2 hv1 g1 hr2 q2 => ?_
  refine Post.bind RelK.up (hh Z A _ u r st1 _ X (by omega) hv1 q2) (by omega) hv1 fun h st2 v3 hv2 g2 hr3 q3 => ?_
  cases hr2
  cases hr3
  have hr := RelK.up.up (RelK.up.up hr g1) g2
  have lists : ∀ us, v.items = some us → v.isTup = false → Q (.lst (cutU us l h)) → Post (RelK .fresh) Z A (n + c1 + c2) (n + (c1 + c2)) st2 (oSl x l h st2) Q X := fun us e1 e2 q => by
    obtain ⟨ds, es, et, hl, r1⟩ := hr.seq e1
    unfold oSl
    rw [es]
    dsimp only
    have nx : isXt x = false := by
      cases x <;> first | rfl | (rw [e2] at et; cases et)
    rw [nx, et, e2, if_neg (by decide), if_neg (by decide)]
    exact Post.le RelK.up (by omega) (newL_post hv2 (cut_relU r1 l h) (Nat.le_trans (cutU_length us l h) hl) q)
  cases v with
  | tup us =>
    obtain ⟨rfl, q3⟩ := q3
    obtain ⟨ds, rfl, hl, r1⟩ := hr.tupw
    show Post (RelK .strong) _ _ _ _ _ _ _ _
    exact ⟨_, q3, .le (by omega), .tup (Nat.le_trans (cutU_length us l h) hl) ((cut_relU r1 l h).gx (.le (by omega)))⟩
  | lst us =>
    have := lists us rfl rfl q3
    cases t with
    | true => exact Post.fs hv2 this
    | false => exact this
  | fz us =>
    have := lists us rfl rfl q3
    cases t with
    | true => exact Post.fs hv2 this
    | false => exact this
  | _ => exact q3.elim
theorem ev_sl {dl dh : DP} {wl wh : VG (Option Int)} (ha : EOk .weak c a wa) (hl : JOk RelO c1 dl wl) (hh : JOk RelO c2 dh wh) : EOk .strong (c + (c1 + c2)) (dSl a dl dh) (vSl wa wl wh) := ev_slG (t := true) ha hl hh
end
abbrev VOL := List U → (U → Prop) → Prop
def OpLOk (k : Kd) (g : List D → Store → Res D) (gv : VOL) : Prop := ∀ (Z : Av) (A : Ow) (b : Nat) (u : UEnv) (r : Env') (st st1 : Store) (ds : List D) (us : List U) (Q : U → Prop) (X : VX), RV Z A b u r st → RelL .weak Z A b st1 st ds us → gv us Q → Post (RelK k) Z A b b st (g ds st) Q X
def vL (gv : VOL) (l : VA) : VE := fun u Q X => l u (fun us => gv us Q) X
theorem ev_L {k : Kd} {c : Nat} {g : List D → Store → Res D} {gv : VOL} {l : DA} {wl : VA} (ho : OpLOk k g gv) (hl : AOk .weak c l wl) : EOk k c (dL g l) (vL gv wl) := by
  refine JOk.bind (c2 := 0) (kw := fun us u Q X => gv us Q) RelK.up hl fun Z A n u r st0 st d v Q X hcap hv hr q => ?_
  exact ho Z A n u r st _ d v Q X hv hr q
/-- one argument -/
theorem RelL.one {Z : Av} {A : Ow} {b : Nat} {st st0 : Store} {ds : List D} {v : U} (h : RelL .weak Z A b st0 st ds [v]) : ∃ d, ds = [d] ∧ RelK .weak Z A b st0 st d v := by
  cases h with
  | cons a b => cases b; exact ⟨_, rfl, a⟩
theorem RelL.two {Z : Av} {A : Ow} {b : Nat} {st st0 : Store} {ds : List D} {v w : U} (h : RelL .weak Z A b st0 st ds [v, w]) : ∃ d e, ds = [d, e] ∧ RelK .weak Z A b st0 st d v ∧ RelK .weak Z A b st0 st e w := by
  cases h with
  | cons a b => cases b with
    | cons c d => cases d; exact ⟨_, _, rfl, a, c⟩
def vLen : VOL := fun l Q => match l with
  | [v] => match v.items with
    | some us => Q (.int us.length)
    | none => False
  | _ => False
theorem olv_len : OpLOk .strong oLen vLen := fun Z A b u r st st1 ds us Q X hv h q => by
  unfold vLen at q
  split at q
  · rename_i v
    split at q
    · rename_i us e
      obtain ⟨d, rfl, h1⟩ := h.one
      obtain ⟨ds, e1, _, _, r1⟩ := h1.seq e
      unfold oLen
      dsimp only
      rw [e1]
      dsimp only
      rw [r1.length]
      exact ⟨_, q, .refl, .int _⟩
    · exact q.elim
  · exact q.elim
def vInt : VOL := fun l Q => match l with
  | [.int i] => Q (.int i)
  | [.bl b] => Q (.int (if b = true then 1 else 0))
  | _ => False
theorem olv_int : OpLOk .strong oInt vInt := fun Z A b u r st st1 ds us Q X hv h q => by
  unfold vInt at q
  split at q
  · obtain ⟨d, rfl, h1⟩ := h.one
    rw [h1.intw]
    exact ⟨_, q, .refl, .int _⟩
  · obtain ⟨d, rfl, h1⟩ := h.one
    rw [h1.blw]
    exact ⟨_, q, .refl, .int _⟩
  · exact q.elim
def vListO : VOL := fun l Q => match l with
  | [v] => match v.items with
    | some us => Q (.lst us)
    | none => False
  | _ => False
theorem olv_list : OpLOk .fresh oList vListO := fun Z A b u r st st1 ds us Q X hv h q => by
  unfold vListO at q
  split at q
  · rename_i v
    split at q
    · rename_i us e
      obtain ⟨d, rfl, h1⟩ := h.one
      obtain ⟨ds, e1, _, hl, r1⟩ := h1.seq e
      unfold oList
      dsimp only
      rw [e1]
      exact newL_post hv r1 hl q
    · exact q.elim
  · exact q.elim
def vTupleO : VOL := fun l Q => match l with
  | [v] => match v.items with
    | some us => v.isXt = false ∧ Q (.tup us)
    | none => False
  | _ => False
theorem olv_tuple : OpLOk .strong oTuple vTupleO := fun Z A b u r st st1 ds us Q X hv h q => by
  unfold vTupleO at q
  split at q
  · rename_i v
    split at q
    · rename_i us e
      obtain ⟨d, rfl, h1⟩ := h.one
      obtain ⟨ds, e1, _, hl, r1⟩ := h1.seq e
      unfold oTuple
      dsimp only
      rw [e1]
      dsimp only
      have nx : isXt d = false := by
        have h2 := h1.any
        cases h2 <;> first | rfl | exact absurd q.1 (by intro z; cases z)
      rw [nx, if_neg (by decide)]
      exact ⟨_, q.2, .refl, .tup hl r1⟩
    · exact q.elim
  · exact q.elim
def U.asInt : U → Option Int
  | .int i => some i
  | _ => none
theorem Reps.ints {Y : Av} {b : Nat} {st : Store} : ∀ {ds : List D} {us : List U} {ns : List Int}, Reps Y b st ds us → us.mapM U.asInt = some ns → ds.mapM asInt = some ns
  | [], _, ns, h, e => by cases h; exact e
  | d :: ds, _, ns, h, e => by
    cases h with
    | cons a r =>
      obtain ⟨k, r', e1, e2, rfl⟩ := mapM_cons e
      rename_i u us
      obtain rfl : u = .int k := by
        cases u <;> first | cases e1 | skip
        rfl
      rw [a.intd, List.mapM_cons, Reps.ints r e2]
      rfl
/-- the ints of a list -/
def U.ints : U → Option (List Int)
  | .lst l => l.mapM U.asInt
  | .fz l => l.mapM U.asInt
  | _ => none
section
variable {Z : Av} {A : Ow} {b : Nat} {st st0 : Store} {d : D} {v : U}
theorem RelK.ints {ns : List Int} (h : RelK .weak Z A b st0 st d v) (e : v.ints = some ns) : intsOf st d = some ns := by
  have go : ∀ us, v.items = some us → v.isTup = false → us.mapM U.asInt = some ns → intsOf st d = some ns := fun us e1 e2 e3 => by
    obtain ⟨ds, e4, e5, _, r1⟩ := h.seq e1
    unfold intsOf
    rw [e5, e2, if_neg (by decide), e4]
    exact r1.ints e3
  cases v with
  | lst l => exact go l rfl rfl e
  | fz l => exact go l rfl rfl e
  | _ => cases e
end
def vSum : VOL := fun l Q => match l with
  | [v] => match v.ints with
    | some ns => Q (.int ns.sum)
    | none => False
  | _ => False
theorem olv_sum : OpLOk .strong oSum vSum := fun Z A b u r st st1 ds us Q X hv h q => by
  unfold vSum at q
  split at q
  · split at q
    · rename_i ns e
      obtain ⟨d, rfl, h1⟩ := h.one
      unfold oSum
      dsimp only
      rw [h1.ints e]
      exact ⟨_, q, .refl, .int _⟩
    · exact q.elim
  · exact q.elim
def vMM (f : List Int → Option Int) (g : Int → Int → Int) : VOL := fun l Q => match l with
  | [v] => match v.ints.bind f with
    | some m => Q (.int m)
    | none => False
  | [v, w] => match v, w with
    | .int i, .int j => Q (.int (g i j))
    | _, _ => False
  | _ => False
def vMax : VOL := vMM maxI fun i j => if j > i then j else i
def vMin : VOL := vMM minI fun i j => if j < i then j else i
theorem olv_max : OpLOk .strong oMax vMax := fun Z A b u r st st1 ds us Q X hv h q => by
  unfold vMax vMM at q
  split at q
  · rename_i v
    split at q
    · rename_i m e
      obtain ⟨d, rfl, h1⟩ := h.one
      cases ev : v.ints with
      | none => rw [ev] at e; cases e
      | some ns =>
        rw [ev] at e
        unfold oMax
        split
        · rename_i i j heq; cases heq
        · rename_i x heq
          cases heq
          rw [h1.ints ev, e]
          exact ⟨_, q, .refl, .int _⟩
        · rename_i k1 k2
          exact absurd rfl (k2 _)
    · exact q.elim
  · split at q
    · obtain ⟨d, e, rfl, h1, h2⟩ := h.two
      rw [h1.intw, h2.intw]
      exact ⟨_, q, .refl, .int _⟩
    · exact q.elim
  · exact q.elim
theorem olv_min : OpLOk .strong oMin vMin := fun Z A b u r st st1 ds us Q X hv h q => by
  unfold vMin vMM at q
  split at q
  · rename_i v
    split at q
    · rename_i m e
      obtain ⟨d, rfl, h1⟩ := h.one
      cases ev : v.ints with
      | none => rw [ev] at e; cases e
      | some ns =>
        rw [ev] at e
        unfold oMin
        split
        · rename_i i j heq; cases heq
        · rename_i x heq
          cases heq
          rw [h1.ints ev, e]
          exact ⟨_, q, .refl, .int _⟩
        · rename_i k1 k2
          exact absurd rfl (k2 _)
    · exact q.elim
  · split at q
    · obtain ⟨d, e, rfl, h1, h2⟩ := h.two
      rw [h1.intw, h2.intw]
      exact ⟨_, q, .refl, .int _⟩
    · exact q.elim
  · exact q.elim
def vRepr : VOL := fun l Q => match l with
  | [v] => match v.toP 64 with
    | some p => (p.showable = true ∧ p.shown.length ≤ sizeLine) ∧ Q (.str p.shown)
    | none => False
  | _ => False
theorem olv_repr : OpLOk .strong oRepr vRepr := fun Z A b u r st st1 ds us Q X hv h q => by
  unfold vRepr at q
  split at q
  · split at q
    · rename_i p e
      obtain ⟨d, rfl, h1⟩ := h.one
      unfold oRepr
      dsimp only
      rw [h1.toP, e]
      dsimp only
      rw [if_pos q.1]
      exact ⟨_, q.2, .refl, .str _⟩
    · exact q.elim
  · exact q.elim
def vEqS : VO2 := fun v w Q => match v, w with
  | .str a, .str b => Q (.bl (a == b))
  | _, _ => False
theorem opv_eqS : OpOk .strong oEqS vEqS := fun Z A b u r st st1 st2 d e v w Q X hv h1 h2 q => by
  unfold vEqS at q
  split at q
  · rw [h1.strw, h2.strw]
    exact ⟨_, q, .refl, .bl _⟩
  · exact q.elim
end Pd
set_option maxRecDepth 100000
set_option maxHeartbeats 4000000
namespace Pd
open PySem PySem.Spec PyProof.Rows L2
abbrev VI := VG (List U)
def wOf (s : Bool) (Z : Av) (A : Ow) : Av := fun n => s = true ∧ avo Z A n
def RelI (s : Bool) : Rl (AI × Nat) (List U) := fun Z A b _ st a us => a.2 = us.length ∧ us.length ≤ sizeLine ∧ ∀ b'' st'', Gr (wOf s Z A) b b'' st st'' →
  ∃ ds, Reps (fun n => avo Z A n ∨ st.length ≤ n) b'' st'' ds us ∧ ∀ i, i ≤ us.length → a.1 i st'' = some ds[i]?
theorem RelI.up {s : Bool} : RUp (RelI s) := ⟨fun {Z A b b' st0 st st' a us} h g => ⟨h.1, h.2.1, fun b'' st'' g2 => by
  obtain ⟨ds, r, n⟩ := h.2.2 b'' st'' (Gr.trans (g.wk fun _ _ z => z.elim) g2 fun _ _ z => z)
  exact ⟨ds, r.av fun m _ z => z.imp id fun z => Nat.le_trans g.len z, n⟩⟩, fun _ h => h⟩
abbrev IOk (s : Bool) (c : Nat) (e : DIt) (w : VI) : Prop := JOk (RelI s) c e w
abbrev sk (s : Bool) : Kd := if s = true then .strong else .weak
section
variable {Z : Av} {A : Ow} {b b'' : Nat} {st st0 st'' : Store} {d e : D} {v w : U} {s : Bool} {us vs : List U}
theorem seqOf_gr {W : Av} {Y : Av} {st st'' : Store} {b b'' : Nat} {n : Nat} {l : List D} (g : Gr W b b'' st st'') (h : getL st n = some l) (hw : ¬ W n) : getL st'' n = some l := getL_of (g.same _ _ hw (getL_some h) rfl)
theorem later_seq (h : RelK (sk s) Z A b st0 st d v) (e : v.items = some us) : ∃ ds, us.length ≤ sizeLine ∧ Reps (avo Z A) b st ds us ∧ ∀ b'' st'', Gr (wOf s Z A) b b'' st st'' → seqOf st'' d = some ds := by
  have hw : RelK .weak Z A b st0 st d v := by
    cases s with
    | true => exact .inl h
    | false => exact h
  obtain ⟨ds, e1, _, l, r⟩ := hw.seq e
  refine ⟨ds, l, r, fun b'' st'' g => ?_⟩
  cases d with
  | tup x => exact e1
  | fz x => exact e1
  | xt x => exact e1
  | ref n =>
    refine seqOf_gr (Y := noW) g e1 fun z => ?_
    cases s with
    | true =>
      have h : Rep (avo Z A) b st (.ref n) v := h
      cases v with
      | lst x => cases h with | lst a _ _ _ => exact a z.2
      | tup x => cases h
      | fz x => cases h
      | xt x => cases h
      | _ => cases e
    | false => exact absurd z.1 (by decide)
  | _ => cases e1
theorem later_reps {ds : List D} (r : Reps (avo Z A) b st ds us) (g : Gr (wOf s Z A) b b'' st st'') : Reps (fun n => avo Z A n ∨ st.length ≤ n) b'' st'' ds us := r.lt.up g (fun _ _ z => .inl z.2) fun _ _ z => z
end
def iSeq (w : VE) : VI := fun u Q X => w u (fun v => match v.items with
  | some us => Q us
  | none => False) X
section
variable {s : Bool} {c c1 c2 : Nat} {e e2 : DE} {we we2 : VE}
theorem iv_seq (h : EOk (sk s) c e we) : IOk s c (itSeq e) (iSeq we) := by
  refine JOk.bind (c2 := 0) (kw := fun v u Q X => match v.items with
    | some us => Q us
    | none => False) RelI.up h fun Z A n u r st0 st d v Q X hcap hv hr q => ?_
  split at q
  · rename_i us eu
    obtain ⟨ds, l, r1, lt⟩ := later_seq hr eu
    rw [lt _ _ .refl]
    refine ⟨us, q, .refl, r1.length, l, fun b'' st'' g => ⟨ds, later_reps r1 g, fun i _ => ?_⟩⟩
    show srcAt d i st'' = _
    rw [srcAt_eq, lt _ _ g]
    rfl
  · exact q.elim
def rgU (a : Int) (n : Nat) : List U := (List.range n).map fun i => .int (a + (i : Nat))
def iRg1 (w : VE) : VI := fun u Q X => w u (fun v => match v with
  | .int b => rgOk 0 b = true ∧ Q (rgU 0 b.toNat)
  | _ => False) X
def iRg2 (w w2 : VE) : VI := fun u Q X => w u (fun v => w2 u (fun v2 => match v, v2 with
  | .int a, .int b => rgOk a b = true ∧ Q (rgU a (b - a).toNat)
  | _, _ => False) X) X
theorem rgU_length (a : Int) (n : Nat) : (rgU a n).length = n := by unfold rgU; simp
theorem rg_rel {Y : Av} {b : Nat} {st : Store} (a : Int) (n : Nat) : Reps Y b st ((List.range n).map fun i => .int (a + (i : Nat))) (rgU a n) := by
  unfold rgU
  induction List.range n with
  | nil => exact .nil
  | cons i l ih => exact .cons (.int _) ih
theorem rg_relI {Z : Av} {A : Ow} {b : Nat} {st0 st : Store} (a : Int) (n : Nat) (hn : n ≤ sizeLine) : RelI s Z A b st0 st (rgAI a n, n) (rgU a n) := by
  refine ⟨(rgU_length a n).symm, by rw [rgU_length]; exact hn, fun b'' st'' g => ⟨_, rg_rel a n, fun i hi => ?_⟩⟩
  show rgAI a n i st'' = _
  unfold rgAI
  by_cases h : i < n
  · rw [if_pos h]
    simp [h]
  · rw [if_neg h]
    simp [h]
theorem iv_rg1 (h : EOk .weak c e we) : IOk s c (itRg1 e) (iRg1 we) := by
  refine JOk.bind (c2 := 0) (kw := fun v u Q X => match v with
    | .int b => rgOk 0 b = true ∧ Q (rgU 0 b.toNat)
    | _ => False) RelI.up h fun Z A n u r st0 st d v Q X hcap hv hr q => ?_
  cases v <;> first | exact q.elim | skip
  rename_i b
  rw [hr.intw]
  show Post _ _ _ _ _ _ (if rgOk 0 b = true then _ else _) _ _
  rw [if_pos q.1]
  have := (rgOk_ok q.1).2
  exact ⟨_, q.2, .refl, rg_relI 0 b.toNat (by rw [Int.sub_zero] at this; exact this)⟩
theorem iv_rg2 (h : EOk .weak c1 e we) (h2 : EOk .weak c2 e2 we2) : IOk s (c1 + c2) (itRg2 e e2) (iRg2 we we2) := by
  refine JOk.bind (kw := fun v u Q X => we2 u (fun v2 => match v, v2 with
    | .int a, .int b => rgOk a b = true ∧ Q (rgU a (b - a).toNat)
    | _, _ => False) X) RelI.up h fun Z A n u r st0 st d v Q X hcap hv hr q => ?_
  refine Post.bind RelI.up (h2 Z A n u r st _ X (by omega) hv q) (Nat.le_refl _) hv fun y st1 v2 hv1 g1 hr2 q2 => ?_
  cases v <;> cases v2 <;> first | exact q2.elim | skip
  rename_i a b
  rw [hr.intw, hr2.intw]
  show Post _ _ _ _ _ _ (if rgOk a b = true then _ else _) _ _
  rw [if_pos q2.1]
  exact ⟨_, q2.2, .refl, rg_relI a _ (rgOk_ok q2.1).2⟩
def enU : Nat → List U → List U
  | _, [] => []
  | i, x :: xs => .tup [.int (i : Nat), x] :: enU (i + 1) xs
theorem enU_length : ∀ (i : Nat) (l : List U), (enU i l).length = l.length
  | _, [] => rfl
  | i, x :: xs => by unfold enU; rw [List.length_cons, List.length_cons, enU_length]
def enD : Nat → List D → List D
  | _, [] => []
  | i, x :: xs => .tup [.int (i : Nat), x] :: enD (i + 1) xs
theorem enD_get : ∀ (i k : Nat) (l : List D), (enD i l)[k]? = l[k]?.map fun d => .tup [.int ((i + k : Nat) : Int), d]
  | _, _, [] => by simp [enD]
  | i, 0, x :: xs => by simp [enD]
  | i, k + 1, x :: xs => by
    unfold enD
    rw [List.getElem?_cons_succ, List.getElem?_cons_succ, enD_get (i + 1) k xs]
    rw [show i + 1 + k = i + (k + 1) by omega]
theorem en_rel {Y : Av} {b : Nat} {st : Store} : ∀ (i : Nat) {ds : List D} {us : List U}, Reps Y b st ds us → Reps Y b st (enD i ds) (enU i us)
  | _, [], _, h => by cases h; exact .nil
  | i, d :: ds, _, h => by
    cases h with
    | cons a r => exact .cons (.tup (by show 2 ≤ sizeLine; decide) (.cons (.int _) (.cons a .nil))) (en_rel (i + 1) r)
def iEnum (w : VE) : VI := fun u Q X => w u (fun v => match v.items with
  | some us => Q (enU 0 us)
  | none => False) X
theorem iv_enum (h : EOk (sk s) c e we) : IOk s c (itEnum e) (iEnum we) := by
  refine JOk.bind (c2 := 0) (kw := fun v u Q X => match v.items with
    | some us => Q (enU 0 us)
    | none => False) RelI.up h fun Z A n u r st0 st d v Q X hcap hv hr q => ?_
  split at q
  · rename_i us eu
    obtain ⟨ds, l, r1, lt⟩ := later_seq hr eu
    rw [lt _ _ .refl]
    refine ⟨_, q, .refl, by rw [enU_length]; exact r1.length, by rw [enU_length]; exact l, fun b'' st'' g => ⟨enD 0 ds, en_rel 0 (later_reps r1 g), fun i hi => ?_⟩⟩
    rw [enU_length, ← r1.length] at hi
    show enAI d i st'' = _
    unfold enAI
    rw [lt _ _ g]
    dsimp only
    rw [if_pos hi, enD_get, Nat.zero_add]
  · exact q.elim
def zipU : List U → List U → List U
  | x :: xs, y :: ys => .tup [x, y] :: zipU xs ys
  | _, _ => []
def zipD : List D → List D → List D
  | x :: xs, y :: ys => .tup [x, y] :: zipD xs ys
  | _, _ => []
theorem zipU_length : ∀ (l m : List U), (zipU l m).length = min l.length m.length
  | [], _ => by simp [zipU]
  | _ :: _, [] => by simp [zipU]
  | x :: xs, y :: ys => by unfold zipU; rw [List.length_cons, List.length_cons, List.length_cons, zipU_length]; omega
theorem zip_rel {Y : Av} {b : Nat} {st : Store} : ∀ {ds es : List D} {us vs : List U}, Reps Y b st ds us → Reps Y b st es vs → Reps Y b st (zipD ds es) (zipU us vs)
  | [], _, _, _, h, _ => by cases h; exact .nil
  | _ :: _, [], _, _, h, h' => by cases h; cases h'; exact .nil
  | d :: ds, e :: es, _, _, h, h' => by
    cases h with
    | cons a r => cases h' with
      | cons a' r' => exact .cons (.tup (by show 2 ≤ sizeLine; decide) (.cons a (.cons a' .nil))) (zip_rel r r')
theorem zipD_get : ∀ (i : Nat) (l m : List D), (match l[i]?, m[i]? with
    | some d, some e => some (some (D.tup [d, e]))
    | _, _ => some none) = some (zipD l m)[i]?
  | i, [], m => by simp [zipD]
  | i, x :: xs, [] => by
    simp only [zipD, List.getElem?_nil]
    cases (x :: xs)[i]? <;> rfl
  | 0, x :: xs, y :: ys => by simp [zipD]
  | i + 1, x :: xs, y :: ys => by
    unfold zipD
    simp only [List.getElem?_cons_succ]
    exact zipD_get i xs ys
def iZip (w w2 : VE) : VI := fun u Q X => w u (fun v => w2 u (fun v2 => match v.items, v2.items with
  | some us, some vs => Q (zipU us vs)
  | _, _ => False) X) X
theorem iv_zip (h : EOk (sk s) c1 e we) (h2 : EOk (sk s) c2 e2 we2) : IOk s (c1 + c2) (itZip e e2) (iZip we we2) := by
  refine JOk.bind (kw := fun v u Q X => we2 u (fun v2 => match v.items, v2.items with
    | some us, some vs => Q (zipU us vs)
    | _, _ => False) X) RelI.up h fun Z A n u r st0 st d v Q X hcap hv hr q => ?_
  refine Post.bind RelI.up (h2 Z A n u r st _ X (by omega) hv q) (Nat.le_refl _) hv fun y st1 v2 hv1 g1 hr2 q2 => ?_
  have hr := RelK.up.up hr g1
  split at q2
  · rename_i us vs eu ev
    obtain ⟨ds, l, r1, lt⟩ := later_seq hr eu
    obtain ⟨es, l2, r2, lt2⟩ := later_seq hr2 ev
    rw [lt _ _ .refl, lt2 _ _ .refl]
    refine ⟨_, q2, .refl, by rw [zipU_length]; show min _ _ = _; rw [r1.length, r2.length], by rw [zipU_length]; omega, fun b'' st'' g => ⟨zipD ds es, zip_rel (later_reps r1 g) (later_reps r2 g), fun i hi => ?_⟩⟩
    rw [zipU_length, ← r1.length, ← r2.length] at hi
    show zipAI d y i st'' = _
    unfold zipAI
    rw [lt _ _ g, lt2 _ _ g]
    dsimp only
    rw [if_pos ⟨by omega, by omega⟩]
    exact zipD_get i ds es
  · exact q2.elim
end
abbrev UG := U → UEnv → Option UEnv
def uNm (i : Nat) : UG := fun v u => some (u.set i (some (v, false)))
def usNil : List U → UEnv → Option UEnv := fun l u => match l with
  | [] => some u
  | _ => none
def usCons (g : UG) (gs : List U → UEnv → Option UEnv) : List U → UEnv → Option UEnv := fun l u => match l with
  | v :: l => match g v u with
    | some u1 => gs l u1
    | none => none
  | [] => none
def uTp (gs : List U → UEnv → Option UEnv) : UG := fun v u => match v with
  | .tup l => gs l u
  | _ => none
/-- slots not in M stay -/
structure Kp (M : List Nat) (u u' : UEnv) (r r' : Env') : Prop where
  u : ∀ j, j ∉ M → u'[j]? = u[j]?
  r : ∀ j, j ∉ M → r'[j]? = r[j]?
theorem Kp.refl {M : List Nat} {u : UEnv} {r : Env'} : Kp M u u r r := ⟨fun _ _ => rfl, fun _ _ => rfl⟩
theorem Kp.trans {M M' : List Nat} {u u1 u2 : UEnv} {r r1 r2 : Env'} (a : Kp M u u1 r r1) (b : Kp M' u1 u2 r1 r2) : Kp (M ++ M') u u2 r r2 :=
  ⟨fun j h => (b.u j fun z => h (List.mem_append_right _ z)).trans (a.u j fun z => h (List.mem_append_left _ z)), fun j h => (b.r j fun z => h (List.mem_append_right _ z)).trans (a.r j fun z => h (List.mem_append_left _ z))⟩
def GvOk (M : List Nat) (g : DG) (gu : UG) : Prop := ∀ (Z : Av) (A : Ow) (b : Nat) (u u1 : UEnv) (r : Env') (st : Store) (d : D) (v : U), RV Z A b u r st → Rep (avo Z A) b st d v → gu v u = some u1 → ∃ r1, g d r = some r1 ∧ RV Z A b u1 r1 st ∧ Kp M u u1 r r1
def GsvOk (M : List Nat) (g : List D → Env' → Option Env') (gu : List U → UEnv → Option UEnv) : Prop := ∀ (Z : Av) (A : Ow) (b : Nat) (u u1 : UEnv) (r : Env') (st : Store) (d : List D) (v : List U), RV Z A b u r st → Reps (avo Z A) b st d v → gu v u = some u1 → ∃ r1, g d r = some r1 ∧ RV Z A b u1 r1 st ∧ Kp M u u1 r r1
theorem RV.set {Z : Av} {A : Ow} {b : Nat} {u : UEnv} {r : Env'} {st : Store} {d : D} {v : U} (h : RV Z A b u r st) (i : Nat) (hd : Rep (avo Z A) b st d v) : RV Z A b (u.set i (some (v, false))) (r.set i (some d)) st := by
  have hl := h.len
  refine ⟨by rw [List.length_set, List.length_set]; exact hl, h.inj, h.nz, h.zlt, fun j w e => ?_, fun j w e => ?_⟩
  · by_cases hj : i = j
    · subst hj
      by_cases hi : i < u.length
      · rw [List.getElem?_set_self hi] at e
        cases e
        exact ⟨d, List.getElem?_set_self (hl ▸ hi), hd⟩
      · rw [List.getElem?_eq_none (by rw [List.length_set]; omega)] at e
        cases e
    · rw [List.getElem?_set_ne hj] at e ⊢
      exact h.val j w e
  · by_cases hj : i = j
    · subst hj
      by_cases hi : i < u.length
      · rw [List.getElem?_set_self hi] at e
        cases e
      · rw [List.getElem?_eq_none (by rw [List.length_set]; omega)] at e
        cases e
    · rw [List.getElem?_set_ne hj] at e
      obtain ⟨n, a, c, q⟩ := h.own j w e
      exact ⟨n, a, by rw [List.getElem?_set_ne hj]; exact c, q⟩
theorem kp_set {i : Nat} {u : UEnv} {r : Env'} {x : Option (U × Bool)} {y : Option D} : Kp [i] u (u.set i x) r (r.set i y) :=
  ⟨fun j h => List.getElem?_set_ne fun e => h (by rw [e]; exact List.mem_singleton.mpr rfl), fun j h => List.getElem?_set_ne fun e => h (by rw [e]; exact List.mem_singleton.mpr rfl)⟩
theorem gv_nm (i : Nat) : GvOk [i] (nNm i) (uNm i) := fun Z A b u u1 r st d v hv hd e => by
  have e := Option.some.inj e
  subst e
  exact ⟨_, rfl, hv.set i hd, kp_set⟩
theorem gsv_nil : GsvOk [] nsNil usNil := fun Z A b u u1 r st d v hv hd e => by
  cases hd with
  | nil => cases e; exact ⟨r, rfl, hv, .refl⟩
  | cons a c => cases e
theorem gsv_cons {M M' : List Nat} {g : DG} {gu : UG} {gs : List D → Env' → Option Env'} {gsu : List U → UEnv → Option UEnv} (h1 : GvOk M g gu) (h2 : GsvOk M' gs gsu) : GsvOk (M ++ M') (nsCons g gs) (usCons gu gsu) := fun Z A b u u1 r st d v hv hd e => by
  cases hd with
  | nil => cases e
  | cons a c =>
    rename_i d v ds us
    have e : (match gu v u with
      | some u1 => gsu us u1
      | none => none) = some u1 := e
    cases e1 : gu v u with
    | none => rw [e1] at e; cases e
    | some u2 =>
      rw [e1] at e
      obtain ⟨r2, e2, hv2, k2⟩ := h1 Z A b u u2 r st d v hv a e1
      obtain ⟨r3, e3, hv3, k3⟩ := h2 Z A b u2 u1 r2 st ds us hv2 c e
      refine ⟨r3, ?_, hv3, k2.trans k3⟩
      show (match g d r with
        | some r1 => gs ds r1
        | none => none) = some r3
      rw [e2]
      exact e3
theorem gv_tp {M : List Nat} {gs : List D → Env' → Option Env'} {gsu : List U → UEnv → Option UEnv} (h : GsvOk M gs gsu) : GvOk M (nTp gs) (uTp gsu) := fun Z A b u u1 r st d v hv hd e => by
  cases v <;> first | cases e | skip
  obtain ⟨ds, rfl, _, r1⟩ := hd.tupd
  exact h Z A b u u1 r st ds _ hv r1 e
def wipeU (u : UEnv) : List Nat → UEnv
  | [] => u
  | v :: vs => (wipeU u vs).set v none
theorem RV.unset {Z : Av} {A : Ow} {b : Nat} {u : UEnv} {r : Env'} {st : Store} (h : RV Z A b u r st) (i : Nat) : RV Z A b (u.set i none) (r.set i none) st := by
  have hl := h.len
  refine ⟨by rw [List.length_set, List.length_set]; exact hl, h.inj, h.nz, h.zlt, fun j w e => ?_, fun j w e => ?_⟩
  · by_cases hj : i = j
    · subst hj
      by_cases hi : i < u.length
      · rw [List.getElem?_set_self hi] at e
        cases e
      · rw [List.getElem?_eq_none (by rw [List.length_set]; omega)] at e
        cases e
    · rw [List.getElem?_set_ne hj] at e ⊢
      exact h.val j w e
  · by_cases hj : i = j
    · subst hj
      by_cases hi : i < u.length
      · rw [List.getElem?_set_self hi] at e
        cases e
      · rw [List.getElem?_eq_none (by rw [List.length_set]; omega)] at e
        cases e
    · rw [List.getElem?_set_ne hj] at e ⊢
      exact h.own j w e
theorem RV.wipe {Z : Av} {A : Ow} {b : Nat} {u : UEnv} {r : Env'} {st : Store} (h : RV Z A b u r st) : ∀ vs, RV Z A b (wipeU u vs) (wipeD r vs) st
  | [] => h
  | v :: vs => (RV.wipe h vs).unset v
def lcW (g : UG) (tt : VT) (te : VE) (u0 : UEnv) : List U → List U → (U → Prop) → Prop
  | [], acc, Q => Q (.lst acc)
  | x :: xs, acc, Q => match g x u0 with
    | some u1 => tt u1 (fun b => if b = true then te u1 (fun y => lcW g tt te u0 xs (acc ++ [y]) Q) (fun _ => False) else lcW g tt te u0 xs acc Q) (fun _ => False)
    | none => False
def vLc (it : VI) (own : List Nat) (g : UG) (tt : VT) (te : VE) : VE := fun u Q X => it u (fun l => lcW g tt te (wipeU u own) l [] Q) X
def vYes : VT := fun _ Q _ => Q true
theorem tv_yes : TOk 0 dYes vYes := fun Z A b u r st Q X hcap hv q => ⟨true, q, .refl, rfl⟩
section
variable {ci ct ce : Nat} {it : DIt} {wi : VI} {own M : List Nat} {g : DG} {gu : UG} {tt : DT} {wt : VT} {te : DE} {we : VE}
theorem lc_run {Z : Av} {A : Ow} {u0 : UEnv} {r0 : Env'} {a : AI × Nat} {us : List U} {b0 : Nat} {st0 : Store} {X : VX} (hg : GvOk M g gu) (ht : TOk ct tt wt) (he : EOk .strong ce te we) (hI : RelI false Z A b0 st0 st0 a us) (c : Nat) (hc : c = ct + ce) : ∀ (m i : Nat) (b : Nat) (st : Store) (acc : List D) (accU : List U) (Q : U → Prop), b + m * c ≤ capN → i + m = us.length → RV Z A b u0 r0 st → Gx b0 b st0 st → Reps (avo Z A) b st acc accU → accU.length ≤ i → lcW gu wt we u0 (us.drop i) accU Q →
    Post (RelK .fresh) Z A b (b + m * c) st (lcLoop a.1 g tt te r0 m i acc st) Q X := by
  intro m
  induction m with
  | zero =>
    intro i b st acc accU Q hcap hi hv g0 ha hl q
    obtain ⟨ds, r1, hn⟩ := hI.2.2 b st (g0.wk fun _ _ z => z.elim)
    have e1 := hn i (by omega)
    rw [List.getElem?_eq_none (by rw [r1.length]; omega)] at e1
    rw [List.drop_eq_nil_of_le (by omega)] at q
    unfold lcLoop
    rw [e1]
    have hz := hI.2.1
    rw [Nat.zero_mul]
    exact newL_post hv ha (by omega) q
  | succ m ih =>
    intro i b st acc accU Q hcap hi hv g0 ha hl q
    have hz := hI.2.1
    obtain ⟨ds, r1, hn⟩ := hI.2.2 b st (g0.wk fun _ _ z => z.elim)
    have e1 := hn i (by omega)
    obtain ⟨x, ex⟩ : ∃ x, us[i]? = some x := ⟨us[i]'(by omega), List.getElem?_eq_getElem (by omega)⟩
    obtain ⟨d, ed, hd⟩ := Paired.getR r1.pr ex
    rw [ed] at e1
    have hdr : us.drop i = x :: us.drop (i + 1) := by
      rw [List.drop_eq_getElem_cons (show i < us.length by omega)]
      rw [List.getElem?_eq_getElem (show i < us.length by omega)] at ex
      rw [Option.some.inj ex]
    rw [hdr] at q
    unfold lcLoop
    rw [e1]
    dsimp only
    unfold lcW at q
    split at q
    · rename_i u1 e2
      obtain ⟨r2, e3, hv2, _⟩ := hg Z A b u0 u1 r0 st d x hv (hd.av fun _ _ z => .inl z) e2
      rw [e3]
      dsimp only
      have hmc : (m + 1) * c = m * c + c := Nat.succ_mul m c
      have h1 := ht Z A b u1 r2 st _ (fun _ => False) (by omega) hv2 q
      cases e4 : tt r2 st with
      | err => rw [e4] at h1; exact h1.elim
      | exc z st1 => rw [e4] at h1; obtain ⟨_, h, _⟩ := h1; exact h.elim
      | ok k st1 =>
        rw [e4] at h1
        obtain ⟨k', q2, g1, hk⟩ := h1
        cases hk
        dsimp only
        cases k with
        | false =>
          rw [if_neg (by decide)] at q2 ⊢
          have h5 := ih (i + 1) (b + ct) st1 acc accU Q (by omega) (by omega) (hv.gx g1) (g0.trans g1) (ha.gx g1) (by omega) q2
          exact Post.le RelK.up (by omega) (Post.from RelK.up g1 h5)
        | true =>
          rw [if_pos rfl] at q2 ⊢
          have h2 := he Z A (b + ct) u1 r2 st1 _ (fun _ => False) (by omega) (hv2.gx g1) q2
          cases e5 : te r2 st1 with
          | err => rw [e5] at h2; exact h2.elim
          | exc z st2 => rw [e5] at h2; obtain ⟨_, h, _⟩ := h2; exact h.elim
          | ok y st2 =>
            rw [e5] at h2
            obtain ⟨y', q3, g2, hy⟩ := h2
            dsimp only
            have h5 := ih (i + 1) (b + ct + ce) st2 (acc ++ [y]) (accU ++ [y']) Q (by omega) (by omega) ((hv.gx g1).gx g2) ((g0.trans g1).trans g2) (((ha.gx g1).gx g2).app (.cons hy .nil)) (by rw [List.length_append, List.length_singleton]; omega) q3
            exact Post.le RelK.up (by omega) (Post.from RelK.up (g1.trans g2) h5)
    · exact q.elim
theorem ev_lc (hi : IOk false ci it wi) (hg : GvOk M g gu) (ht : TOk ct tt wt) (he : EOk .strong ce te we) : EOk .fresh (ci + sizeLine * (ct + ce)) (dLc it own g tt te) (vLc wi own gu wt we) := by
  refine JOk.bind (kw := fun l u Q X => lcW gu wt we (wipeU u own) l [] Q) RelK.up hi fun Z A n u r st0 st a us Q X hcap hv hr q => ?_
  have h := lc_run (r0 := wipeD r own) (X := X) hg ht he ⟨hr.1, hr.2.1, hr.2.2⟩ (ct + ce) rfl us.length 0 n st [] [] Q (by have := Nat.mul_le_mul_right (ct + ce) hr.2.1; omega) (by omega) (hv.wipe own) .refl .nil (Nat.le_refl _) (by rw [List.drop_zero]; exact q)
  rw [← hr.1] at h
  refine Post.le RelK.up ?_ h
  have := Nat.mul_le_mul_right (ct + ce) (show a.2 ≤ sizeLine by rw [hr.1]; exact hr.2.1)
  omega
end
end Pd
set_option maxRecDepth 100000
set_option maxHeartbeats 4000000
namespace Pd
open PySem PySem.Spec PyProof.Rows L2
inductive UOut where
  | nx (u : UEnv) | bk (u : UEnv) | ct (u : UEnv) | rt (v : U) | exc (x : UX)
abbrev VS := UEnv → (UOut → Prop) → Prop
def ownP (A : Ow) : Av := fun n => ∃ i, A i = some n
structure Stp (M : List Nat) (Z : Av) (A : Ow) (b b' : Nat) (u : UEnv) (r : Env') (st : Store) (A' : Ow) (u' : UEnv) (r' : Env') (st' : Store) : Prop where
  rv : RV Z A' b' u' r' st'
  gr : Gr (ownP A) b b' st st'
  sub : ∀ i n, A' i = some n → ownP A n ∨ st.length ≤ n
  kp : Kp M u u' r r'
  ka : ∀ j, j ∉ M → A' j = A j ∧ ∀ n o, A j = some n → st[n]? = some o → isDraw o = false → st'[n]? = some o
def SPost (M : List Nat) (Z : Av) (A : Ow) (b b' : Nat) (u : UEnv) (r : Env') (st : Store) (o : Out) (P : UOut → Prop) : Prop := match o with
  | .nx r' st' => ∃ A' u', P (.nx u') ∧ Stp M Z A b b' u r st A' u' r' st'
  | .bk r' st' => ∃ A' u', P (.bk u') ∧ Stp M Z A b b' u r st A' u' r' st'
  | .ct r' st' => ∃ A' u', P (.ct u') ∧ Stp M Z A b b' u r st A' u' r' st'
  | .rt d st' => ∃ v, P (.rt v) ∧ Gr (ownP A) b b' st st' ∧ Rep Z b' st' d v
  | .exc e st' => ∃ x, P (.exc x) ∧ Gr (ownP A) b b' st st' ∧ RelX Z b' st' e x
  | .err => False
def SOk (M : List Nat) (c : Nat) (s : DS) (w : VS) : Prop := ∀ (Z : Av) (A : Ow) (b : Nat) (u : UEnv) (r : Env') (st : Store) (P : UOut → Prop), b + c ≤ capN → RV Z A b u r st → w u P → SPost M Z A b (b + c) u r st (s r st) P
section
variable {M M' : List Nat} {Z : Av} {A A1 A2 : Ow} {b b1 b2 : Nat} {u u1 u2 : UEnv} {r r1 r2 : Env'} {st st1 st2 : Store} {o : Out} {P : UOut → Prop}
theorem Stp.refl (h : RV Z A b u r st) : Stp M Z A b b u r st A u r st := ⟨h, .refl, fun i n e => .inl ⟨i, e⟩, .refl, fun _ _ => ⟨rfl, fun _ _ _ e _ => e⟩⟩
theorem RV.le {b' : Nat} (h : RV Z A b u r st) (hb : b ≤ b') : RV Z A b' u r st := h.gx (.le hb)
theorem Stp.le {b' : Nat} (h : Stp M Z A b b1 u r st A1 u1 r1 st1) (hb : b1 ≤ b') : Stp M Z A b b' u r st A1 u1 r1 st1 := ⟨h.rv.le hb, h.gr.b_le hb, h.sub, h.kp, h.ka⟩
theorem own_sub (h : ∀ i n, A1 i = some n → ownP A n ∨ st.length ≤ n) : ∀ n, n < st.length → ownP A1 n → ownP A n := fun n hn ⟨i, e⟩ => (h i n e).elim id fun z => absurd hn (by omega)
theorem Stp.trans (h : Stp M Z A b b1 u r st A1 u1 r1 st1) (h' : Stp M' Z A1 b1 b2 u1 r1 st1 A2 u2 r2 st2) : Stp (M ++ M') Z A b b2 u r st A2 u2 r2 st2 :=
  ⟨h'.rv, h.gr.trans h'.gr (own_sub h.sub), fun i n e => by
    rcases h'.sub i n e with ⟨j, e1⟩ | z
    · exact h.sub j n e1
    · exact .inr (Nat.le_trans h.gr.len z), h.kp.trans h'.kp, fun j hj => by
    obtain ⟨a1, c1⟩ := h.ka j fun z => hj (List.mem_append_left _ z)
    obtain ⟨a2, c2⟩ := h'.ka j fun z => hj (List.mem_append_right _ z)
    exact ⟨a2.trans a1, fun n o e eo ed => c2 n o (a1.trans e) (c1 n o e eo ed) ed⟩⟩
theorem Kp.mono (h : Kp M u u1 r r1) (i : ∀ j, j ∈ M → j ∈ M') : Kp M' u u1 r r1 := ⟨fun j hj => h.u j fun z => hj (i j z), fun j hj => h.r j fun z => hj (i j z)⟩
theorem Stp.mono (h : Stp M Z A b b1 u r st A1 u1 r1 st1) (i : ∀ j, j ∈ M → j ∈ M') : Stp M' Z A b b1 u r st A1 u1 r1 st1 := ⟨h.rv, h.gr, h.sub, h.kp.mono i, fun j hj => h.ka j fun z => hj (i j z)⟩
theorem SPost.mono (h : SPost M Z A b b1 u r st o P) (i : ∀ j, j ∈ M → j ∈ M') : SPost M' Z A b b1 u r st o P := by
  cases o with
  | nx r' st' => obtain ⟨A', u', q, h⟩ := h; exact ⟨A', u', q, h.mono i⟩
  | bk r' st' => obtain ⟨A', u', q, h⟩ := h; exact ⟨A', u', q, h.mono i⟩
  | ct r' st' => obtain ⟨A', u', q, h⟩ := h; exact ⟨A', u', q, h.mono i⟩
  | rt d st' => exact h
  | exc e st' => exact h
  | err => exact h
theorem SPost.le {b' : Nat} (h : SPost M Z A b b1 u r st o P) (hb : b1 ≤ b') : SPost M Z A b b' u r st o P := by
  cases o with
  | nx r' st' => obtain ⟨A', u', q, h⟩ := h; exact ⟨A', u', q, h.le hb⟩
  | bk r' st' => obtain ⟨A', u', q, h⟩ := h; exact ⟨A', u', q, h.le hb⟩
  | ct r' st' => obtain ⟨A', u', q, h⟩ := h; exact ⟨A', u', q, h.le hb⟩
  | rt d st' => obtain ⟨v, q, g, h⟩ := h; exact ⟨v, q, g.b_le hb, h.gx (.le hb)⟩
  | exc e st' => obtain ⟨v, q, g, h⟩ := h; exact ⟨v, q, g.b_le hb, h.gx (Z' := Z) (.le hb)⟩
  | err => exact h
/-- from a later place on -/
theorem SPost.from (h0 : Stp M Z A b b1 u r st A1 u1 r1 st1) (h : SPost M' Z A1 b1 b2 u1 r1 st1 o P) : SPost (M ++ M') Z A b b2 u r st o P := by
  cases o with
  | nx r' st' => obtain ⟨A', u', q, h⟩ := h; exact ⟨A', u', q, h0.trans h⟩
  | bk r' st' => obtain ⟨A', u', q, h⟩ := h; exact ⟨A', u', q, h0.trans h⟩
  | ct r' st' => obtain ⟨A', u', q, h⟩ := h; exact ⟨A', u', q, h0.trans h⟩
  | rt d st' => obtain ⟨v, q, g, h⟩ := h; exact ⟨v, q, h0.gr.trans g (own_sub h0.sub), h⟩
  | exc e st' => obtain ⟨v, q, g, h⟩ := h; exact ⟨v, q, h0.gr.trans g (own_sub h0.sub), h⟩
  | err => exact h
theorem Stp.gx (h : RV Z A b u r st) (g : Gx b b1 st st1) : Stp [] Z A b b1 u r st A u r st1 := ⟨h.gx g, g.wk fun _ _ z => z.elim, fun i n e => .inl ⟨i, e⟩, .refl, fun j _ => ⟨rfl, fun n o e eo ed => g.same n o (fun z => z) eo ed⟩⟩
/-- an expression, then what is done with its value -/
theorem SPost.bind {α β : Type} {R : Rl α β} {res : Res α} {k : α → Store → Out} {Q : β → Prop} (h : Post R Z A b b1 st res Q (fun x => P (.exc x))) (hb : b1 ≤ b2) (hv : RV Z A b u r st)
    (h2 : ∀ d st1 v, RV Z A b1 u r st1 → Gx b b1 st st1 → R Z A b1 st st1 d v → Q v → SPost M Z A b1 b2 u r st1 (k d st1) P) : SPost M Z A b b2 u r st (res.out k) P := by
  cases res with
  | ok d st' =>
    obtain ⟨v, q, g, h⟩ := h
    exact SPost.from (Stp.gx hv g) (h2 d st' v (hv.gx g) g h q)
  | exc e st' =>
    obtain ⟨x, q, g, h⟩ := h
    exact ⟨x, q, (g.wk fun _ _ z => z.elim).b_le hb, RelX.gx (Z' := Z) h (.le hb)⟩
  | err => exact h
end
theorem SOk.le {M : List Nat} {c c' : Nat} {s : DS} {w : VS} (h : SOk M c s w) (hc : c ≤ c') : SOk M c' s w := fun Z A b u r st P hcap hv q => (h Z A b u r st P (by omega) hv q).le (by omega)
theorem SOk.mono {M M' : List Nat} {c : Nat} {s : DS} {w : VS} (h : SOk M c s w) (i : ∀ j, j ∈ M → j ∈ M') : SOk M' c s w := fun Z A b u r st P hcap hv q => (h Z A b u r st P (by omega) hv q).mono i
def vNext : VS := fun u P => P (.nx u)
def vCont : VS := fun u P => P (.ct u)
def vSeq (a b : VS) : VS := fun u P => a u (fun o => match o with
  | .nx u1 => b u1 P
  | o => P o)
def vRet (e : VE) : VS := fun u P => e u (fun v => P (.rt v)) (fun x => P (.exc x))
def vIfS (t : VT) (a b : VS) : VS := fun u P => t u (fun c => if c = true then a u P else b u P) (fun x => P (.exc x))
def vSet (i : Nat) (e : VE) : VS := fun u P => e u (fun v => P (.nx (u.set i (some (v, false))))) (fun x => P (.exc x))
def vSetO (i : Nat) (e : VE) : VS := fun u P => e u (fun v => P (.nx (u.set i (some (v, true))))) (fun x => P (.exc x))
def vAsg (g : UG) (e : VE) : VS := fun u P => e u (fun v => match g v u with
  | some u1 => P (.nx u1)
  | none => False) (fun x => P (.exc x))
def vPar (i j : Nat) (a b : VE) : VS := fun u P => a u (fun x => b u (fun y => P (.nx ((u.set i (some (x, false))).set j (some (y, false))))) (fun x => P (.exc x))) (fun x => P (.exc x))
/-- slot i gets a fresh list or dict, its own -/
theorem RV.setO {Z : Av} {A : Ow} {b : Nat} {u : UEnv} {r : Env'} {st st1 : Store} {n : Nat} {v : U} (hv : RV Z A b u r st1) (i : Nat) (hn : st.length ≤ n) (hs : RV Z A b u r st ∨ st.length = st1.length) (ho : ∀ m, avo Z A m → m < n) (hc : Cont (fun m => avo Z A m ∨ m = n) b st1 n v)
    (hR : ∀ (d : D) (w : U), Rep (avo Z A) b st1 d w → True) (hlt : ∀ (i' : Nat) (v' : U), u[i']? = some (some (v', false)) → ∀ d : D, r[i']? = some (some d) → Rep (avo Z A) b st1 d v' → Rep (fun m => avo Z A m ∨ m = n) b st1 d v')
    (hlo : ∀ (i' : Nat) (v' : U), u[i']? = some (some (v', true)) → ∀ m, A i' = some m → Cont (avo Z A) b st1 m v' → Cont (fun m => avo Z A m ∨ m = n) b st1 m v') : RV Z (fun j => if j = i then some n else A j) b (u.set i (some (v, true))) (r.set i (some (.ref n))) st1 := by
  have hl := hv.len
  have hav : ∀ m, avo Z (fun j => if j = i then some n else A j) m → avo Z A m ∨ m = n := fun m z => by
    rcases z with z | ⟨j, e⟩
    · exact .inl (.inl z)
    · by_cases hj : j = i
      · simp only [if_pos hj] at e
        exact .inr (Option.some.inj e).symm
      · simp only [if_neg hj] at e
        exact .inl (.inr ⟨j, e⟩)
  have hnA : ∀ j m, A j = some m → m ≠ n := fun j m e z => by
    have := ho m (.inr ⟨j, e⟩)
    omega
  refine ⟨by rw [List.length_set, List.length_set]; exact hl, fun j k m e1 e2 => ?_, fun j m e => ?_, hv.zlt, fun j w e => ?_, fun j w e => ?_⟩
  · by_cases hj : j = i
    · by_cases hk : k = i
      · rw [hj, hk]
      · simp only [if_pos hj] at e1
        simp only [if_neg hk] at e2
        cases e1
        exact absurd rfl (hnA k _ e2)
    · by_cases hk : k = i
      · simp only [if_neg hj] at e1
        simp only [if_pos hk] at e2
        cases e2
        exact absurd rfl (hnA j _ e1)
      · simp only [if_neg hj] at e1
        simp only [if_neg hk] at e2
        exact hv.inj j k m e1 e2
  · by_cases hj : j = i
    · simp only [if_pos hj] at e
      cases e
      exact ⟨fun z => by have := ho n (.inl z); omega, hc.lt⟩
    · simp only [if_neg hj] at e
      exact hv.nz j m e
  · by_cases hj : i = j
    · subst hj
      by_cases hi : i < u.length
      · rw [List.getElem?_set_self hi] at e
        cases e
      · rw [List.getElem?_eq_none (by rw [List.length_set]; omega)] at e
        cases e
    · rw [List.getElem?_set_ne hj] at e ⊢
      obtain ⟨d, e1, h⟩ := hv.val j w e
      exact ⟨d, e1, (hlt j w e d e1 h).av fun m _ z => hav m z⟩
  · by_cases hj : i = j
    · subst hj
      by_cases hi : i < u.length
      · rw [List.getElem?_set_self hi] at e
        cases e
        exact ⟨n, if_pos rfl, List.getElem?_set_self (hl ▸ hi), hc.av fun m _ z => hav m z⟩
      · rw [List.getElem?_eq_none (by rw [List.length_set]; omega)] at e
        cases e
    · rw [List.getElem?_set_ne hj] at e
      obtain ⟨m, a, c, q⟩ := hv.own j w e
      exact ⟨m, (if_neg (Ne.symm hj)).trans a, by rw [List.getElem?_set_ne hj]; exact c, (hlo j w e m a q).av fun m _ z => hav m z⟩
section
variable {M M1 M2 : List Nat} {c c1 c2 c3 : Nat} {e e2 : DE} {we we2 : VE} {s s1 s2 : DS} {w w1 w2 : VS} {t : DT} {wt : VT}
theorem sv_next : SOk [] 0 dNext vNext := fun Z A b u r st P hcap hv q => ⟨A, u, q, .refl hv⟩
theorem sv_cont : SOk [] 0 dCont vCont := fun Z A b u r st P hcap hv q => ⟨A, u, q, .refl hv⟩
theorem sv_seq (h1 : SOk M1 c1 s1 w1) (h2 : SOk M2 c2 s2 w2) : SOk (M1 ++ M2) (c1 + c2) (dSeq s1 s2) (vSeq w1 w2) := fun Z A b u r st P hcap hv q => by
  have h := h1 Z A b u r st _ (by omega) hv q
  unfold dSeq
  cases e : s1 r st with
  | nx r1 st1 =>
    rw [e] at h
    obtain ⟨A1, u1, q1, g⟩ := h
    rw [← Nat.add_assoc]
    exact SPost.from g (h2 Z A1 _ u1 r1 st1 P (by omega) g.rv q1)
  | bk r1 st1 => rw [e] at h; exact (SPost.mono (o := .bk r1 st1) (show SPost M1 Z A b (b + c1) u r st (.bk r1 st1) P from h) fun j z => List.mem_append_left _ z).le (by omega)
  | ct r1 st1 => rw [e] at h; exact (SPost.mono (o := .ct r1 st1) (show SPost M1 Z A b (b + c1) u r st (.ct r1 st1) P from h) fun j z => List.mem_append_left _ z).le (by omega)
  | rt r1 st1 => rw [e] at h; exact SPost.le (o := .rt r1 st1) (M := M1 ++ M2) (show SPost (M1 ++ M2) Z A b (b + c1) u r st (.rt r1 st1) P from h) (by omega)
  | exc r1 st1 => rw [e] at h; exact SPost.le (o := .exc r1 st1) (M := M1 ++ M2) (show SPost (M1 ++ M2) Z A b (b + c1) u r st (.exc r1 st1) P from h) (by omega)
  | err => rw [e] at h; exact h
theorem sv_ret (he : EOk .weak c e we) : SOk [] c (dRet e) (vRet we) := fun Z A b u r st P hcap hv q => SPost.bind (he Z A b u r st _ _ (by omega) hv q) (Nat.le_refl _) hv fun d st1 v hv1 g hr q1 => by
  refine ⟨v, q1, .refl, ?_⟩
  rcases hr with h | ⟨i, n, e1, rfl, h⟩
  · exact h.av fun _ _ z => .inl z
  · exact (h.av fun _ _ z => .inl z).rep (hv1.nz i n e1).1
theorem sv_if (ht : TOk c t wt) (h1 : SOk M1 c1 s1 w1) (h2 : SOk M2 c2 s2 w2) : SOk (M1 ++ M2) (c + (c1 + c2)) (dIfS t s1 s2) (vIfS wt w1 w2) := fun Z A b u r st P hcap hv q => SPost.bind (ht Z A b u r st _ _ (by omega) hv q) (by omega) hv fun d st1 v hv1 g hr q1 => by
  cases hr
  cases d with
  | true => exact ((h1 Z A _ u r st1 P (by omega) hv1 q1).mono fun j z => List.mem_append_left _ z).le (by omega)
  | false => exact ((h2 Z A _ u r st1 P (by omega) hv1 q1).mono fun j z => List.mem_append_right _ z).le (by omega)
theorem Stp.kpv {M : List Nat} {Z : Av} {A : Ow} {b : Nat} {u u' : UEnv} {r r' : Env'} {st : Store} (hv : RV Z A b u' r' st) (k : Kp M u u' r r') : Stp M Z A b b u r st A u' r' st := ⟨hv, .refl, fun i n e => .inl ⟨i, e⟩, k, fun _ _ => ⟨rfl, fun _ _ _ e _ => e⟩⟩
theorem sv_set (i : Nat) (he : EOk .strong c e we) : SOk [i] c (dSet i e) (vSet i we) := fun Z A b u r st P hcap hv q => SPost.bind (he Z A b u r st _ _ (by omega) hv q) (Nat.le_refl _) hv fun d st1 v hv1 g hr q1 => ⟨A, _, q1, .kpv (hv1.set i hr) kp_set⟩
theorem sv_asg {g : DG} {gu : UG} (hg : GvOk M g gu) (he : EOk .strong c e we) : SOk M c (dAsg g e) (vAsg gu we) := fun Z A b u r st P hcap hv q => SPost.bind (he Z A b u r st _ _ (by omega) hv q) (Nat.le_refl _) hv fun d st1 v hv1 g1 hr q1 => by
  split at q1
  · rename_i u1 e1
    obtain ⟨r1, e2, hv2, k⟩ := hg Z A _ u u1 r st1 d v hv1 hr e1
    rw [e2]
    exact ⟨A, u1, q1, .kpv hv2 k⟩
  · exact q1.elim
theorem sv_par (i j : Nat) (he : EOk .strong c1 e we) (he2 : EOk .strong c2 e2 we2) : SOk [i, j] (c1 + c2) (dPar i j e e2) (vPar i j we we2) := fun Z A b u r st P hcap hv q => SPost.bind (he Z A b u r st _ _ (by omega) hv q) (by omega) hv fun d st1 v hv1 g1 hr q1 => by
  refine SPost.bind (he2 Z A _ u r st1 _ _ (by omega) hv1 q1) (by omega) hv1 fun d2 st2 v2 hv2 g2 hr2 q2 => ?_
  have hr : Rep (avo Z A) _ st2 d v := Rep.gx hr g2
  exact ⟨A, _, q2, (Stp.kpv ((hv2.set i hr).set j hr2) (Kp.trans kp_set kp_set)).le (by omega)⟩
theorem sv_setO (i : Nat) (he : EOk .fresh c e we) : SOk [i] c (dSet i e) (vSetO i we) := fun Z A b u r st P hcap hv q => by
  have h := he Z A b u r st _ _ (by omega) hv q
  unfold dSet
  cases eq : e r st with
  | err => rw [eq] at h; exact h.elim
  | exc x st1 =>
    rw [eq] at h
    obtain ⟨x', q, g, h⟩ := h
    exact ⟨x', q, g.wk fun _ _ z => z.elim, h⟩
  | ok d st1 =>
    rw [eq] at h
    obtain ⟨v, q, g, n, rfl, hn, hc⟩ := h
    have hv1 := hv.gx g
    have new : ∀ m, m < st.length → m ≠ n := fun m hm z => by omega
    refine ⟨fun j => if j = i then some n else A j, _, q, ⟨?_, g.wk fun _ _ z => z.elim, fun j m e => ?_, kp_set, fun j hj => ⟨if_neg fun z => hj (List.mem_singleton.mpr z), fun m o e1 e2 e3 => g.same m o (fun z => z) e2 e3⟩⟩⟩
    · refine hv1.setO (st := st) i hn (.inl (hv.le (Nat.le_add_right _ _))) (fun m z => Nat.lt_of_lt_of_le (hv.avlt z) hn) hc (fun _ _ _ => trivial) (fun j w e1 d e2 _ => ?_) (fun j w e1 m e2 _ => ?_)
      · obtain ⟨d', e3, h⟩ := hv.val j w e1
        rw [e2] at e3
        cases e3
        exact (h.av (Z' := fun m => avo Z A m ∨ m = n) fun m hm z => z.elim id fun z => absurd z (new m hm)).gx g
      · obtain ⟨m', e3, _, h⟩ := hv.own j w e1
        rw [e2] at e3
        cases e3
        exact (h.av (Z' := fun m => avo Z A m ∨ m = n) fun m hm z => z.elim id fun z => absurd z (new m hm)).gx g
    · by_cases hj : j = i
      · simp only [if_pos hj] at e
        cases e
        exact .inr hn
      · simp only [if_neg hj] at e
        exact .inl ⟨j, e⟩
def forW (g : UG) (body : VS) : List U → UEnv → (UOut → Prop) → Prop
  | [], u, P => P (.nx u)
  | x :: xs, u, P => match g x u with
    | some u1 => body u1 (fun o => match o with
      | .nx u2 => forW g body xs u2 P
      | .ct u2 => forW g body xs u2 P
      | .bk u2 => P (.nx u2)
      | o => P o)
    | none => False
def vFor (it : VI) (g : UG) (body : VS) : VS := fun u P => it u (fun l => forW g body l u P) (fun x => P (.exc x))
theorem for_run {Z : Av} {a : AI × Nat} {us : List U} {g : DG} {gu : UG} {P : UOut → Prop} (I : Ow → Nat → UEnv → Store → Prop) (hg : GvOk M1 g gu) (hs : SOk M2 c s w)
    (hItem : ∀ A b u r st, RV Z A b u r st → I A b u st → ∃ ds, Reps (avo Z A) b st ds us ∧ ∀ i, i ≤ us.length → a.1 i st = some ds[i]?)
    (hStep : ∀ A b b' u r st A' u' r' st', I A b u st → Stp (M1 ++ M2) Z A b b' u r st A' u' r' st' → I A' b' u' st') : ∀ (m i : Nat) (A : Ow) (b : Nat) (u : UEnv) (r : Env') (st : Store), b + m * c ≤ capN → i + m = us.length → RV Z A b u r st → I A b u st → forW gu w (us.drop i) u P →
    SPost (M1 ++ M2) Z A b (b + m * c) u r st (forLoop a.1 g s m i r st) P := by
  intro m
  induction m with
  | zero =>
    intro i A b u r st hcap hi hv hI q
    obtain ⟨ds, r1, hn⟩ := hItem A b u r st hv hI
    have e1 := hn i (by omega)
    rw [List.getElem?_eq_none (by rw [r1.length]; omega)] at e1
    rw [List.drop_eq_nil_of_le (by omega)] at q
    unfold forLoop
    rw [e1]
    rw [Nat.zero_mul]
    exact ⟨A, u, q, .refl hv⟩
  | succ m ih =>
    intro i A b u r st hcap hi hv hI q
    obtain ⟨ds, r1, hn⟩ := hItem A b u r st hv hI
    have e1 := hn i (by omega)
    obtain ⟨x, ex⟩ : ∃ x, us[i]? = some x := ⟨us[i]'(by omega), List.getElem?_eq_getElem (by omega)⟩
    obtain ⟨d, ed, hd⟩ := Paired.getR r1.pr ex
    rw [ed] at e1
    have hdr : us.drop i = x :: us.drop (i + 1) := by
      rw [List.drop_eq_getElem_cons (show i < us.length by omega)]
      rw [List.getElem?_eq_getElem (show i < us.length by omega)] at ex
      rw [Option.some.inj ex]
    rw [hdr] at q
    unfold forLoop
    rw [e1]
    dsimp only
    unfold forW at q
    split at q
    · rename_i u1 e2
      obtain ⟨r2, e3, hv2, k2⟩ := hg Z A b u u1 r st d x hv hd e2
      rw [e3]
      dsimp only
      have hmc : (m + 1) * c = m * c + c := Nat.succ_mul m c
      have h := hs Z A b u1 r2 st _ (by omega) hv2 q
      have st0' : Stp M1 Z A b b u r st A u1 r2 st := .kpv hv2 k2
      have go : ∀ {r3 : Env'} {st3 : Store}, (∃ A3 u3, forW gu w (us.drop (i + 1)) u3 P ∧ Stp M2 Z A b (b + c) u1 r2 st A3 u3 r3 st3) → SPost (M1 ++ M2) Z A b (b + (m + 1) * c) u r st (forLoop a.1 g s m (i + 1) r3 st3) P := fun {r3 st3} h => by
        obtain ⟨A3, u3, q3, g3⟩ := h
        have h5 := ih (i + 1) A3 (b + c) u3 r3 st3 (by omega) (by omega) g3.rv (hStep _ _ _ _ _ _ _ _ _ _ hI (st0'.trans g3)) q3
        refine ((SPost.from (st0'.trans g3) h5).mono fun j hj => ?_).le (by omega)
        rcases List.mem_append.mp hj with z | z
        · exact z
        · exact z
      cases e4 : s r2 st with
      | nx r3 st3 => rw [e4] at h; exact go h
      | ct r3 st3 => rw [e4] at h; exact go h
      | bk r3 st3 =>
        rw [e4] at h
        obtain ⟨A3, u3, q3, g3⟩ := h
        exact ⟨A3, u3, q3, (st0'.trans g3).le (by omega)⟩
      | rt d3 st3 =>
        rw [e4] at h
        exact SPost.le (o := .rt d3 st3) (M := M1 ++ M2) (show SPost (M1 ++ M2) Z A b (b + c) u r st (.rt d3 st3) P from h) (by omega)
      | exc d3 st3 =>
        rw [e4] at h
        exact SPost.le (o := .exc d3 st3) (M := M1 ++ M2) (show SPost (M1 ++ M2) Z A b (b + c) u r st (.exc d3 st3) P from h) (by omega)
      | err => rw [e4] at h; exact h
    · exact q.elim
theorem sv_for {it : DIt} {wi : VI} {g : DG} {gu : UG} {ci : Nat} (hi : IOk true ci it wi) (hg : GvOk M1 g gu) (hs : SOk M2 c s w) : SOk (M1 ++ M2) (ci + sizeLine * c) (dFor it g s) (vFor wi gu w) := fun Z A b u r st P hcap hv q => SPost.bind (hi Z A b u r st _ _ (by omega) hv q) (Nat.add_le_add_left (Nat.le_add_right _ _) _) hv fun a st1 us hv1 g1 hr q1 => by
  have h := for_run (us := us) (a := a) (P := P) (fun A' b' _ st' => Gr (ownP A) (b + ci) b' st1 st' ∧ ∀ i n, A' i = some n → ownP A n ∨ st1.length ≤ n) hg hs (fun A' b' u' r' st' hv' hI => ?_) (fun A' b' b2 u' r' st' A2 u2 r2 st2 hI h => ?_) us.length 0 A (b + ci) u r st1 (by have := Nat.mul_le_mul_right c hr.2.1; omega) (by omega) hv1 ⟨.refl, fun i n e => .inl ⟨i, e⟩⟩ (by rw [List.drop_zero]; exact q1)
  · rw [← hr.1] at h
    refine SPost.le h ?_
    have := Nat.mul_le_mul_right c (show a.2 ≤ sizeLine by rw [hr.1]; exact hr.2.1)
    omega
  · obtain ⟨ds, r1, hn⟩ := hr.2.2 b' st' (hI.1.wk fun _ _ z => ⟨rfl, .inr z⟩)
    refine ⟨ds, r1.av fun n _ z => ?_, hn⟩
    rcases z with z | ⟨j, e⟩
    · exact .inl (.inl z)
    · exact (hI.2 j n e).imp (fun z => .inr z) id
  · refine ⟨hI.1.trans h.gr (fun n hn ⟨j, e⟩ => (hI.2 j n e).elim id fun z => absurd hn (by omega)), fun j n e => ?_⟩
    rcases h.sub j n e with ⟨k, e⟩ | z
    · exact hI.2 k n e
    · exact .inr (Nat.le_trans hI.1.len z)
end
end Pd
set_option maxRecDepth 100000
set_option maxHeartbeats 4000000
namespace Pd
open PySem PySem.Spec PyProof.Rows L2
theorem Gr.set {b : Nat} {st : Store} (n : Nat) (o : SO) : Gr (fun m => m = n) b b st (st.set n o) :=
  ⟨Nat.le_refl _, by simp, fun m o' h e _ => by rw [List.getElem?_set_ne (Ne.symm h)]; exact e, fun m L S c p h e d => ⟨L, p, by rw [List.getElem?_set_ne (Ne.symm h)]; exact e, d⟩⟩
section
variable {Z : Av} {A : Ow} {b : Nat} {u : UEnv} {r : Env'} {st : Store} {i n : Nat} {o : SO} {v' : U}
theorem RV.mut (hv : RV Z A b u r st) (ha : A i = some n) (hr : r[i]? = some (some (.ref n))) (hc : Cont (avo Z A) b (st.set n o) n v') : RV Z A b (u.set i (some (v', true))) r (st.set n o) := by
  have hl := hv.len
  refine ⟨by rw [List.length_set]; exact hl, hv.inj, fun j m e => ⟨(hv.nz j m e).1, by rw [List.length_set]; exact (hv.nz j m e).2⟩, fun m z => by rw [List.length_set]; exact hv.zlt m z, fun j w e => ?_, fun j w e => ?_⟩
  · by_cases hj : i = j
    · subst hj
      by_cases hi : i < u.length
      · rw [List.getElem?_set_self hi] at e
        cases e
      · rw [List.getElem?_eq_none (by rw [List.length_set]; omega)] at e
        cases e
    · rw [List.getElem?_set_ne hj] at e
      obtain ⟨d, e1, h⟩ := hv.val j w e
      exact ⟨d, e1, h.up (Gr.set n o) (fun m _ z => by subst z; exact .inr ⟨i, ha⟩) fun _ _ z => z⟩
  · by_cases hj : i = j
    · subst hj
      by_cases hi : i < u.length
      · rw [List.getElem?_set_self hi] at e
        cases e
        exact ⟨n, ha, hr, hc⟩
      · rw [List.getElem?_eq_none (by rw [List.length_set]; omega)] at e
        cases e
    · rw [List.getElem?_set_ne hj] at e
      obtain ⟨m, a, c, q⟩ := hv.own j w e
      have hmn : n ≠ m := fun z => hj (hv.inj i j m (z ▸ ha) a)
      exact ⟨m, a, c, q.upx (Gr.set n o) (fun m' _ z => by subst z; exact .inr ⟨i, ha⟩) (fun _ _ z => z) (List.getElem?_set_ne hmn)⟩
theorem Stp.mut (hv : RV Z A b u r st) (ha : A i = some n) (hr : r[i]? = some (some (.ref n))) (hc : Cont (avo Z A) b (st.set n o) n v') : Stp [i] Z A b b u r st A (u.set i (some (v', true))) r (st.set n o) :=
  ⟨hv.mut ha hr hc, (Gr.set n o).wk fun m _ z => ⟨i, by rw [z]; exact ha⟩, fun j m e => .inl ⟨j, e⟩, ⟨fun j h => List.getElem?_set_ne fun e => h (by rw [e]; exact List.mem_singleton.mpr rfl), fun _ _ => rfl⟩, fun j hj => ⟨rfl, fun m o' e e2 _ => by
    have hji : i ≠ j := fun z => hj (by rw [z]; exact List.mem_singleton.mpr rfl)
    have hmn : n ≠ m := fun z => hji (hv.inj i j m (z ▸ ha) e)
    rw [List.getElem?_set_ne hmn]
    exact e2⟩⟩
theorem Reps.setn {ds : List D} {us : List U} (h : Reps (avo Z A) b st ds us) (ha : A i = some n) : Reps (avo Z A) b (st.set n o) ds us := h.up (Gr.set n o) (fun m _ z => by subst z; exact .inr ⟨i, ha⟩) fun _ _ z => z
theorem Rep.setn {d : D} {w : U} (h : Rep (avo Z A) b st d w) (ha : A i = some n) : Rep (avo Z A) b (st.set n o) d w := h.up (Gr.set n o) (fun m _ z => by subst z; exact .inr ⟨i, ha⟩) fun _ _ z => z
end
def vAppend (i : Nat) (e : VE) : VS := fun u P => match u[i]? with
  | some (some (.lst l, true)) => e u (fun v => l.length < sizeLine ∧ P (.nx (u.set i (some (.lst (l ++ [v]), true))))) (fun x => P (.exc x))
  | _ => False
def vExtend (i : Nat) (e : VE) : VS := fun u P => match u[i]? with
  | some (some (.lst l, true)) => e u (fun v => match v with
    | .lst k => l.length + k.length ≤ sizeLine ∧ P (.nx (u.set i (some (.lst (l ++ k), true))))
    | _ => False) (fun x => P (.exc x))
  | _ => False
section
variable {c c1 c2 : Nat} {e e2 : DE} {we we2 : VE}
theorem sv_append (i : Nat) (he : EOk .strong c e we) : SOk [i] c (dExpr (dMt oAppend (dVar i) (dCons e dNil))) (vAppend i we) := fun Z A b u r st P hcap hv q => by
  unfold vAppend at q
  split at q
  · rename_i l eu
    obtain ⟨n, e1, e2, ds, e3, hl, r1⟩ := hv.own i _ eu
    have e0 : dExpr (dMt oAppend (dVar i) (dCons e dNil)) r st = (e r st).out fun d st1 => (oAppend (.ref n) [d] st1).out fun _ st2 => .nx r st2 := by
      unfold dExpr dMt dVar
      rw [e2]
      show Res.out (if isL (.ref n) st = true then _ else _) _ = _
      rw [show isL (.ref n) st = true by unfold isL; dsimp only; rw [getL_of e3]; rfl, if_pos rfl]
      unfold dCons dNil
      cases e r st <;> rfl
    rw [e0]
    refine SPost.bind (he Z A b u r st _ _ (by omega) hv q) (Nat.le_refl _) hv fun d st1 v hv1 g hr q1 => ?_
    obtain ⟨n', a1, b1, ds1, c1, hl1, r1⟩ := hv1.own i _ eu
    rw [e1] at a1
    cases a1
    unfold oAppend
    dsimp only
    rw [getL_of c1]
    dsimp only
    rw [r1.length, if_pos q1.1]
    show SPost _ _ _ _ _ _ _ _ (.nx r (st1.set n (.lst (ds1 ++ [d])))) _
    have hn : n < st1.length := getSome_lt c1
    refine ⟨A, _, q1.2, Stp.mut hv1 e1 b1 ⟨ds1 ++ [d], List.getElem?_set_self hn, by rw [List.length_append]; exact q1.1, ?_⟩⟩
    exact (r1.setn e1).app (.cons (Rep.setn hr e1) .nil)
  · exact q.elim
theorem sv_extend (i : Nat) (he : EOk .weak c e we) : SOk [i] c (dExpr (dMt oExtend (dVar i) (dCons e dNil))) (vExtend i we) := fun Z A b u r st P hcap hv q => by
  unfold vExtend at q
  split at q
  · rename_i l eu
    obtain ⟨n, e1, e2, ds, e3, hl, r1⟩ := hv.own i _ eu
    have e0 : dExpr (dMt oExtend (dVar i) (dCons e dNil)) r st = (e r st).out fun d st1 => (oExtend (.ref n) [d] st1).out fun _ st2 => .nx r st2 := by
      unfold dExpr dMt dVar
      rw [e2]
      show Res.out (if isL (.ref n) st = true then _ else _) _ = _
      rw [show isL (.ref n) st = true by unfold isL; dsimp only; rw [getL_of e3]; rfl, if_pos rfl]
      unfold dCons dNil
      cases e r st <;> rfl
    rw [e0]
    refine SPost.bind (he Z A b u r st _ _ (by omega) hv q) (Nat.le_refl _) hv fun d st1 v hv1 g hr q1 => ?_
    obtain ⟨n', a1, b1, ds1, c1, hl1, r1⟩ := hv1.own i _ eu
    rw [e1] at a1
    cases a1
    cases v <;> first | exact q1.elim | skip
    rename_i k
    obtain ⟨m, es, rfl, c2, hl2, r2⟩ := hr.lstw
    unfold oExtend
    dsimp only
    rw [getL_of c1, getL_of c2]
    dsimp only
    rw [r1.length, r2.length, if_pos q1.1]
    show SPost _ _ _ _ _ _ _ _ (.nx r (st1.set n (.lst (ds1 ++ es)))) _
    have hn : n < st1.length := getSome_lt c1
    refine ⟨A, _, q1.2, Stp.mut hv1 e1 b1 ⟨ds1 ++ es, List.getElem?_set_self hn, by rw [List.length_append]; exact q1.1, ?_⟩⟩
    exact (r1.setn e1).app (r2.setn e1)
  · exact q.elim
end
def putKs {A : Type} [DecidableEq A] (ks : List A) (k : A) : List A := if (ks.any fun x => decide (x = k)) = true then ks else ks ++ [k]
def putUs {A : Type} [DecidableEq A] (ks : List A) (us : List U) (k : A) (v : U) : List U := if (ks.any fun x => decide (x = k)) = true then List.zipWith (fun x u => if x = k then v else u) ks us else us ++ [v]
theorem put_keys {A : Type} [DecidableEq A] (kvs : List (A × D)) (k : A) (d : D) : (putD kvs k d).map (·.1) = putKs (kvs.map (·.1)) k := by
  unfold putD putKs
  rw [List.any_map]
  show List.map _ (if (kvs.any fun kv => decide (kv.1 = k)) = true then _ else _) = if (kvs.any fun kv => decide (kv.1 = k)) = true then _ else _
  split
  · rw [List.map_map]
    refine List.map_congr_left fun p _ => ?_
    show (if p.1 = k then (p.1, d) else p).1 = p.1
    split <;> rfl
  · rw [List.map_append]; rfl
theorem put_vals {A : Type} [DecidableEq A] {Y : Av} {b : Nat} {st : Store} {kvs : List (A × D)} {us : List U} (h : Reps Y b st (kvs.map (·.2)) us) (k : A) {d : D} {v : U} (hd : Rep Y b st d v) : Reps Y b st ((putD kvs k d).map (·.2)) (putUs (kvs.map (·.1)) us k v) := by
  unfold putD putUs
  rw [List.any_map]
  show Reps Y b st (List.map _ (if (kvs.any fun kv => decide (kv.1 = k)) = true then _ else _)) (if (kvs.any fun kv => decide (kv.1 = k)) = true then _ else _)
  split
  · rename_i hc
    clear hc
    induction kvs generalizing us with
    | nil => cases h; exact .nil
    | cons p kvs ih =>
      rw [List.map_cons] at h
      cases h with
      | cons a r =>
        rw [List.map_cons, List.map_cons, List.map_cons, List.zipWith_cons_cons]
        refine .cons ?_ (ih r)
        by_cases e : p.1 = k
        · rw [if_pos e, if_pos e]; exact hd
        · rw [if_neg e, if_neg e]; exact a
  · rw [List.map_append]
    exact h.app (.cons hd .nil)
theorem putUs_length {A : Type} [DecidableEq A] {Y : Av} {b : Nat} {st : Store} {kvs : List (A × D)} {us : List U} (h : Reps Y b st (kvs.map (·.2)) us) (k : A) (v : U) : (putUs (kvs.map (·.1)) us k v).length ≤ us.length + 1 := by
  have hl := h.length
  rw [List.length_map] at hl
  unfold putUs
  split
  · rw [List.length_zipWith, List.length_map]; omega
  · rw [List.length_append]; exact Nat.le_refl _
def setU (w k v : U) (Q : U → Prop) : Prop := match w with
  | .lst l => (match k with
    | .int j => match ixN l.length j with
      | some j => Q (.lst (l.set j v))
      | none => False
    | _ => False)
  | .dK ks us => (match k.keyOf with
    | some k => us.length < sizeLine ∧ putKs ks k ≠ drawKeys ∧ Q (.dK (putKs ks k) (putUs ks us k v))
    | none => False)
  | .dT ks us => (match k.keysOf with
    | some k => us.length < sizeLine ∧ Q (.dT (putKs ks k) (putUs ks us k v))
    | none => False)
  | _ => False
def vSetIx (i : Nat) (ei e : VE) : VS := fun u P => match u[i]? with
  | some (some (w, true)) => e u (fun v => ei u (fun k => setU w k v fun w' => P (.nx (u.set i (some (w', true))))) (fun x => P (.exc x))) (fun x => P (.exc x))
  | _ => False
section
variable {c c1 c2 : Nat} {e e2 : DE} {we we2 : VE}
theorem Reps.setm {Y : Av} {b : Nat} {st : Store} {ds : List D} {us : List U} (h : Reps Y b st ds us) {d : D} {v : U} (hd : Rep Y b st d v) (j : Nat) : Reps Y b st (ds.set j d) (us.set j v) := .of (Paired.st hd h.pr j)
theorem sv_setIx (i : Nat) (he : EOk .strong c1 e we) (hi : EOk .weak c2 e2 we2) : SOk [i] (c1 + c2) (dSetIx e (dVar i) e2) (vSetIx i we2 we) := fun Z A b u r st P hcap hv q => by
  unfold vSetIx at q
  split at q
  case h_2 => exact q.elim
  rename_i w eu
  obtain ⟨n, e1, e2', _⟩ := hv.own i _ eu
  unfold dSetIx
  refine SPost.bind (he Z A b u r st _ _ (by omega) hv q) (by omega) hv fun d st1 v hv1 g hr q1 => ?_
  have key : SPost [i] Z A (b + c1) (b + (c1 + c2)) u r st1 ((e2 r st1).out fun y st3 => match setIx (.ref n) y d st3 with
      | some st4 => .nx r st4
      | none => .err) P → SPost [i] Z A (b + c1) (b + (c1 + c2)) u r st1 ((dVar i r st1).out fun x st2 => (e2 r st2).out fun y st3 => match setIx x y d st3 with
      | some st4 => .nx r st4
      | none => .err) P := fun h => by
    unfold dVar
    rw [e2']
    exact h
  refine key ?_
  refine SPost.bind (hi Z A _ u r st1 _ _ (by omega) hv1 q1) (by omega) hv1 fun y st2 k hv2 g2 hr2 q2 => ?_
  have hr : Rep (avo Z A) _ st2 d v := Rep.gx hr g2
  obtain ⟨n', a1, b1, hc⟩ := hv2.own i _ eu
  rw [e1] at a1
  cases a1
  have hn : n < st2.length := hc.lt
  cases w with
  | lst l =>
    obtain ⟨ds, k1, hl1, r1⟩ := hc
    cases k with
    | int j =>
      unfold setU at q2
      dsimp only at q2
      rw [hr2.intw]
      cases ej : ixN l.length j with
      | none => rw [ej] at q2; exact q2.elim
      | some m =>
        rw [ej] at q2
        have es : setIx (.ref n) (.int j) d st2 = some (st2.set n (.lst (ds.set m d))) := by
          unfold setIx
          dsimp only
          rw [k1]
          dsimp only
          rw [r1.length, ej]
        rw [es]
        have hc' : Cont (avo Z A) (b + c1 + c2) (st2.set n (.lst (ds.set m d))) n (.lst (l.set m v)) := ⟨ds.set m d, List.getElem?_set_self hn, by rw [List.length_set]; exact hl1, (r1.setn e1).setm (Rep.setn hr e1) m⟩
        exact ⟨A, _, q2, (Stp.mut hv2 e1 b1 hc').le (by omega)⟩
    | _ => exact q2.elim
  | dK ks us =>
    obtain ⟨kvs, k1, hd1, rfl, hl1, r1⟩ := hc
    unfold setU at q2
    dsimp only at q2
    cases ek : k.keyOf with
    | none => rw [ek] at q2; exact q2.elim
    | some kk =>
      rw [ek] at q2
      obtain ⟨hz, hne, q2⟩ := q2
      have ek' : keyOf y = some kk := by rw [hr2.any.key]; exact ek
      have hz' : kvs.length < sizeLine := by
        have := r1.length
        rw [List.length_map] at this
        omega
      have es : setIx (.ref n) y d st2 = some (st2.set n (.dK (putD kvs kk d))) := by
        unfold setIx
        dsimp only
        rw [k1]
        dsimp only
        rw [ek']
        dsimp only
        rw [if_pos hz']
      rw [es]
      have hc' : Cont (avo Z A) (b + c1 + c2) (st2.set n (.dK (putD kvs kk d))) n (.dK (putKs (kvs.map (·.1)) kk) (putUs (kvs.map (·.1)) us kk v)) := by
        refine ⟨putD kvs kk d, List.getElem?_set_self hn, ?_, put_keys kvs kk d, ?_, ?_⟩
        · show decide ((putD kvs kk d).map (·.1) = drawKeys) = false
          rw [put_keys]
          exact decide_eq_false hne
        · have := putUs_length r1 kk v
          omega
        · exact put_vals (r1.setn e1) kk (Rep.setn hr e1)
      exact ⟨A, _, q2, (Stp.mut hv2 e1 b1 hc').le (by omega)⟩
  | dT ks us =>
    obtain ⟨kvs, k1, rfl, hl1, r1⟩ := hc
    unfold setU at q2
    dsimp only at q2
    cases ek : k.keysOf with
    | none => rw [ek] at q2; exact q2.elim
    | some kk =>
      rw [ek] at q2
      obtain ⟨hz, q2⟩ := q2
      have ek' : keysOf y = some kk := by rw [hr2.any.keys]; exact ek
      have hz' : kvs.length < sizeLine := by
        have := r1.length
        rw [List.length_map] at this
        omega
      have es : setIx (.ref n) y d st2 = some (st2.set n (.dT (putD kvs kk d))) := by
        unfold setIx
        dsimp only
        rw [k1]
        dsimp only
        rw [ek']
        dsimp only
        rw [if_pos hz']
      rw [es]
      have hc' : Cont (avo Z A) (b + c1 + c2) (st2.set n (.dT (putD kvs kk d))) n (.dT (putKs (kvs.map (·.1)) kk) (putUs (kvs.map (·.1)) us kk v)) := by
        refine ⟨putD kvs kk d, List.getElem?_set_self hn, put_keys kvs kk d, ?_, ?_⟩
        · have := putUs_length r1 kk v
          omega
        · exact put_vals (r1.setn e1) kk (Rep.setn hr e1)
      exact ⟨A, _, q2, (Stp.mut hv2 e1 b1 hc').le (by omega)⟩
  | _ => exact hc.elim
end
def vNewT : VE := fun _ Q _ => Q (.dT [] [])
theorem ev_newT : EOk .fresh 0 dNewT vNewT := fun Z A b u r st Q X hcap hv q => ⟨_, q, .push _, st.length, rfl, Nat.le_refl _, [], by simp, rfl, Nat.zero_le _, .nil⟩
section
variable {c c1 c2 c3 : Nat} {e e2 e3 : DE} {we we2 we3 : VE}
/-- the state of the draws, made -/
def vDraw (e e2 e3 : VE) : VE := fun u Q X => e u (fun v1 => e2 u (fun v2 => e3 u (fun v3 => match v1, v2, v3 with
  | .int _, .int S, .lst cs => (0 ≤ S ∧ S < 2147483647 ∧ ∃ ns : List Int, cs = ns.map .int ∧ ns ≠ [] ∧ ∀ x ∈ ns, x.natAbs.log2 < 2000000) ∧ Q .gen
  | _, _, _ => False) X) X) X
theorem Reps.intsd {Y : Av} {b : Nat} {st : Store} : ∀ {ds : List D} {ns : List Int}, Reps Y b st ds (ns.map .int) → ds = ns.map .int
  | [], ns, h => by
    cases ns with
    | nil => rfl
    | cons n ns => cases h
  | d :: ds, ns, h => by
    cases ns with
    | nil => cases h
    | cons n ns =>
      cases h with
      | cons a r => rw [a.intd, Reps.intsd r]; rfl
theorem ev_draw (h1 : EOk .weak c1 e we) (h2 : EOk .weak c2 e2 we2) (h3 : EOk .strong c3 e3 we3) : EOk .strong (c1 + (c2 + c3)) (dDisp (dpCons (dC (.str "left")) e (dpCons (dC (.str "seed")) e2 (dpCons (dC (.str "cells")) e3 (dpCons (dC (.str "spot")) (dC (.int 0)) dpNil))))) (vDraw we we2 we3) := fun Z A b u r st Q X hcap hv q => by
  have e0 : dDisp (dpCons (dC (.str "left")) e (dpCons (dC (.str "seed")) e2 (dpCons (dC (.str "cells")) e3 (dpCons (dC (.str "spot")) (dC (.int 0)) dpNil)))) r st = (e r st).bind fun d1 st1 => (e2 r st1).bind fun d2 st2 => (e3 r st2).bind fun d3 st3 => .ok (.ref st3.length) (st3 ++ [.dK (mergeD [] [(.inr "left", d1), (.inr "seed", d2), (.inr "cells", d3), (.inr "spot", .int 0)])]) := by
    unfold dDisp dpCons dpNil dC
    dsimp only [Res.bind]
    cases e r st with
    | ok d1 st1 =>
      dsimp only [Res.bind]
      cases e2 r st1 with
      | ok d2 st2 =>
        dsimp only [Res.bind]
        cases e3 r st2 with
        | ok d3 st3 => rfl
        | exc x st3 => rfl
        | err => rfl
      | exc x st2 => rfl
      | err => rfl
    | exc x st1 => rfl
    | err => rfl
  rw [e0]
  refine Post.bind RelK.up (h1 Z A b u r st _ X (by omega) hv q) (by omega) hv fun d1 st1 v1 hv1 g1 hr1 q1 => ?_
  refine Post.bind RelK.up (h2 Z A _ u r st1 _ X (by omega) hv1 q1) (by omega) hv1 fun d2 st2 v2 hv2 g2 hr2 q2 => ?_
  refine Post.bind RelK.up (h3 Z A _ u r st2 _ X (by omega) hv2 q2) (by omega) hv2 fun d3 st3 v3 hv3 g3 hr3 q3 => ?_
  split at q3
  · rename_i L S cs
    obtain ⟨⟨s0, s1, ns, rfl, hne, hlog⟩, q3⟩ := q3
    obtain ⟨c, ds, rfl, ec, _, rc⟩ := Rep.lstd hr3
    rw [hr1.intw, hr2.intw]
    have hcl : c < st3.length := getSome_lt ec
    have hcz : ¬ avo Z A c := by
      have h : Rep (avo Z A) _ st3 (.ref c) (.lst (ns.map .int)) := hr3
      cases h with | lst a _ _ _ => exact a
    refine ⟨.gen, q3, (Gr.push _).b_le (by omega), ?_⟩
    refine Rep.gen (n := st3.length) (c := c) (L := L) (S := S) (p := 0) (cs := ns) (fun z => ?_) hcz ?_ ⟨Int.le_refl _, by omega, s0, s1⟩ ?_ hne hlog
    · have := hv3.avlt z
      omega
    · show (st3 ++ [_])[st3.length]? = some (drawO L S c 0)
      rw [List.getElem?_append_right (Nat.le_refl _), Nat.sub_self]
      rfl
    · rw [List.getElem?_append_left hcl, ec, rc.intsd]
  · exact q3.elim
end
abbrev VFn := List U → (U → Prop) → VX → Prop
def FPost (Z : Av) (b b' : Nat) (st : Store) (res : Res D) (Q : U → Prop) (X : VX) : Prop := match res with
  | .ok d st' => ∃ v, Q v ∧ Gx b b' st st' ∧ Rep Z b' st' d v
  | .exc e st' => ∃ x, X x ∧ Gx b b' st st' ∧ RelX Z b' st' e x
  | .err => False
def FOk (n c : Nat) (F : DFn) (W : VFn) : Prop := ∀ (Z : Av) (b : Nat) (st : Store) (ds : List D) (us : List U) (Q : U → Prop) (X : VX), b + c ≤ capN → (∀ m, Z m → m < st.length) → us.length = n → Reps Z b st ds us → W us Q X → FPost Z b (b + c) st (F ds st) Q X
def vRun (N : Nat) (w : VS) : VFn := fun us Q X => w (us.map (fun v => some (v, false)) ++ List.replicate (N - us.length) none) (fun o => match o with
  | .nx _ => Q .non
  | .rt v => Q v
  | .exc x => X x
  | _ => False)
theorem fok_run {M : List Nat} {N n c : Nat} {s : DS} {w : VS} (hs : SOk M c s w) : FOk n c (runD N s) (vRun N w) := fun Z b st ds us Q X hcap hz hn hr q => by
  have hl := hr.length
  have hav : ∀ m, avo Z (fun _ => none) m → Z m := fun m z => z.elim id fun ⟨_, e⟩ => by cases e
  have hv : RV Z (fun _ => none) b (us.map (fun v => some (v, false)) ++ List.replicate (N - us.length) none) (ds.map some ++ List.replicate (N - ds.length) none) st := by
    refine ⟨by simp [hl], (fun i j m e _ => by cases e), (fun i m e => by cases e), hz, fun i v e => ?_, fun i v e => ?_⟩
    · by_cases hi : i < us.length
      · rw [List.getElem?_append_left (by simpa using hi), List.getElem?_map] at e
        rw [List.getElem?_append_left (by simpa [hl] using hi), List.getElem?_map]
        cases eq : us[i]? with
        | none => rw [eq] at e; cases e
        | some x =>
          rw [eq] at e
          cases e
          obtain ⟨d, e2, h⟩ := Paired.getR hr.pr eq
          exact ⟨d, by rw [e2]; rfl, h.av fun m _ z => hav m z⟩
      · rw [List.getElem?_append_right (by simpa using hi), List.getElem?_replicate] at e
        split at e <;> cases e
    · by_cases hi : i < us.length
      · rw [List.getElem?_append_left (by simpa using hi), List.getElem?_map] at e
        cases eq : us[i]? with
        | none => rw [eq] at e; cases e
        | some x => rw [eq] at e; cases e
      · rw [List.getElem?_append_right (by simpa using hi), List.getElem?_replicate] at e
        split at e <;> cases e
  have h := hs Z _ b _ _ st _ hcap hv q
  have gx : ∀ {b' : Nat} {st' : Store}, Gr (ownP fun _ => none) b b' st st' → Gx b b' st st' := fun g => g.wk fun m _ z => z.elim fun _ e => by cases e
  unfold runD
  cases e : s (ds.map some ++ List.replicate (N - ds.length) none) st with
  | nx r' st' =>
    rw [e] at h
    obtain ⟨A', u', q1, g⟩ := h
    exact ⟨.non, q1, gx g.gr, .non⟩
  | bk r' st' =>
    rw [e] at h
    obtain ⟨A', u', q1, g⟩ := h
    exact q1.elim
  | ct r' st' =>
    rw [e] at h
    obtain ⟨A', u', q1, g⟩ := h
    exact q1.elim
  | rt d st' =>
    rw [e] at h
    obtain ⟨v, q1, g, hr⟩ := h
    exact ⟨v, q1, gx g, hr⟩
  | exc x st' =>
    rw [e] at h
    obtain ⟨v, q1, g, hr⟩ := h
    exact ⟨v, q1, gx g, hr⟩
  | err => rw [e] at h; exact h
theorem FOk.le {n c c' : Nat} {F : DFn} {W : VFn} (h : FOk n c F W) (hc : c ≤ c') : FOk n c' F W := fun Z b st ds us Q X hcap hz hn hr q => by
  have h := h Z b st ds us Q X (by omega) hz hn hr q
  have hb : b + c ≤ b + c' := by omega
  cases e : F ds st with
  | ok d st' => rw [e] at h; obtain ⟨v, q, g, r⟩ := h; exact ⟨v, q, g.b_le hb, r.gx (.le hb)⟩
  | exc d st' => rw [e] at h; obtain ⟨v, q, g, r⟩ := h; exact ⟨v, q, g.b_le hb, r.gx (Z' := Z) (.le hb)⟩
  | err => rw [e] at h; exact h
def vCall (n : Nat) (W : VFn) (l : VA) : VE := fun u Q X => l u (fun us => us.length = n ∧ W us Q X) X
/-- some argument may be a list of one's own: what comes back holds no list -/
def vCallW (n : Nat) (W : VFn) (l : VA) : VE := fun u Q X => l u (fun us => us.length = n ∧ W us (fun v => v.plain = true ∧ Q v) (fun x => (x.fs.all fun p => p.2.plain) = true ∧ X x)) X
theorem RelX.av {Z Z' : Av} {b : Nat} {st : Store} {e : XD} {x : UX} (h : RelX Z b st e x) (hz : ∀ n, n < st.length → Z' n → Z n) : RelX Z' b st e x := ⟨h.1, Paired.mono (fun _ _ z => ⟨z.1, z.2.av hz⟩) h.2⟩
section
variable {n c c1 c2 : Nat} {F : DFn} {W : VFn} {l lk : DA} {wl wk : VA}
theorem call_post {Z : Av} {A : Ow} {b : Nat} {u : UEnv} {r : Env'} {st : Store} {ds : List D} {us : List U} {Q : U → Prop} {X : VX} (hf : FOk n c F W) (hcap : b + c ≤ capN) (hv : RV Z A b u r st) (hr : Reps (avo Z A) b st ds us) (hn : us.length = n) (q : W us Q X) : Post (RelK .strong) Z A b (b + c) st (ofN n F ds st) Q X := by
  unfold ofN
  rw [hr.length, if_pos hn]
  have h := hf (avo Z A) b st ds us Q X hcap (fun m z => hv.avlt z) hn hr q
  cases e : F ds st with
  | ok d st' => rw [e] at h; obtain ⟨v, q, g, r⟩ := h; exact ⟨v, q, g, r⟩
  | exc d st' => rw [e] at h; obtain ⟨v, q, g, r⟩ := h; exact ⟨v, q, g, r.av fun m _ z => .inl z⟩
  | err => rw [e] at h; exact h
theorem ev_call (hf : FOk n c F W) (hl : AOk .strong c1 l wl) : EOk .strong (c1 + c) (dL (ofN n F) l) (vCall n W wl) := by
  refine JOk.bind (kw := fun us u Q X => us.length = n ∧ W us Q X) RelK.up hl fun Z A b u r st0 st ds us Q X hcap hv hr q => ?_
  exact call_post hf hcap hv hr.reps q.1 q.2
theorem Reps.xpl {Z Z' : Av} {b b' : Nat} {st st' : Store} : ∀ {l : List (Str × D)} {m : List (Str × U)}, (m.all fun p => p.2.plain) = true → Paired (fun p q => p.1 = q.1 ∧ Rep Z b st p.2 q.2) l m → Paired (fun p q => p.1 = q.1 ∧ Rep Z' b' st' p.2 q.2) l m := by
  intro l m h p
  induction p with
  | nil => exact .nil
  | cons a t ih =>
    rw [List.all_cons, Bool.and_eq_true] at h
    exact .cons ⟨a.1, Rep.pl _ _ h.1 a.2⟩ (ih h.2)
theorem ev_callW (hf : FOk n c F W) (hl : AOk .weak c1 l wl) : EOk .strong (c1 + c) (dL (ofN n F) l) (vCallW n W wl) := by
  refine JOk.bind (kw := fun us u Q X => us.length = n ∧ W us (fun v => v.plain = true ∧ Q v) (fun x => (x.fs.all fun p => p.2.plain) = true ∧ X x)) RelK.up hl fun Z A b u r st0 st ds us Q X hcap hv hr q => ?_
  have hr' := hr.any
  unfold ofN
  rw [hr'.length, if_pos q.1]
  have h := hf noW b st ds us _ _ hcap (fun m z => z.elim) q.1 hr' q.2
  cases e : F ds st with
  | ok d st' => rw [e] at h; obtain ⟨v, q, g, r⟩ := h; exact ⟨v, q.2, g, Rep.pl v d q.1 r⟩
  | exc d st' => rw [e] at h; obtain ⟨v, q, g, r⟩ := h; exact ⟨v, q.2, g, r.1, Reps.xpl q.1 r.2⟩
  | err => rw [e] at h; exact h
def vCallK (n m : Nat) (is : List Nat) (np : Nat) (W : VFn) (l k : VA) : VE := fun u Q X => l u (fun us => k u (fun zs => (gP n m is us zs).length = np ∧ W (gP n m is us zs) Q X) X) X
theorem ev_callK {np m k : Nat} {is : List Nat} (hf : FOk np c F W) (hl : AOk .strong c1 l wl) (hk : AOk .strong c2 lk wk) : EOk .strong (c1 + (c2 + c)) (dLK k m is (ofN np F) l lk) (vCallK k m is np W wl wk) := by
  refine JOk.bind (kw := fun us u Q X => wk u (fun zs => (gP k m is us zs).length = np ∧ W (gP k m is us zs) Q X) X) RelK.up hl fun Z A b u r st0 st ds us Q X hcap hv hr q => ?_
  refine Post.bind RelK.up (hk Z A b u r st _ X (by omega) hv q) (by omega) hv fun es st1 zs hv1 g1 hr2 q2 => ?_
  have hr : Reps (avo Z A) _ st1 ds us := Reps.gx hr.reps g1
  have hh : Reps (avo Z A) _ st1 (gP k m is ds es) (gP k m is us zs) := .of (gP_rel hr.pr (RelL.reps hr2).pr is)
  rw [← Nat.add_assoc]
  exact call_post hf (by omega) hv1 hh q2.1 q2.2
end
end Pd
set_option maxRecDepth 100000
set_option maxHeartbeats 4000000
namespace Pd
open PySem PySem.Spec PyProof.Rows L2
theorem sv_eq {M : List Nat} {c : Nat} {s s' : DS} {w : VS} (e : s' = s) (h : SOk M c s w) : SOk M c s' w := e ▸ h
theorem dAsg_par (i j : Nat) (a b : DE) : dAsg (nTp (nsCons (nNm i) (nsCons (nNm j) nsNil))) (dL oTup (dCons a (dCons b dNil))) = dPar i j a b := by
  funext r st
  unfold dAsg dL dCons dNil dPar
  cases a r st with
  | ok x st1 =>
    dsimp only [Res.bind, Res.out]
    cases b r st1 with
    | ok y st2 => rfl
    | exc e st2 => rfl
    | err => rfl
  | exc e st1 => rfl
  | err => rfl
def vParG (o1 o2 : Bool) (i j : Nat) (a b : VE) : VS := fun u P => a u (fun x => b u (fun y => P (.nx ((u.set i (some (x, o1))).set j (some (y, o2))))) (fun x => P (.exc x))) (fun x => P (.exc x))
section
variable {Z : Av} {A : Ow} {b : Nat} {u : UEnv} {r : Env'} {st st0 : Store} {d : D} {v : U}
/-- an environment seen with one more place to avoid, a new one -/
theorem RV.more {b' : Nat} {n : Nat} (hv : RV Z A b u r st0) (g : Gx b b' st0 st) (hn : st0.length ≤ n) (hn2 : n < st.length) : RV (fun m => Z m ∨ m = n) A b' u r st := by
  have hav : ∀ m, avo (fun m => Z m ∨ m = n) A m → avo Z A m ∨ m = n := fun m z => by
    rcases z with (z | z) | z
    · exact .inl (.inl z)
    · exact .inr z
    · exact .inl (.inr z)
  refine ⟨hv.len, hv.inj, fun i m e => ⟨fun z => ?_, Nat.lt_of_lt_of_le (hv.nz i m e).2 g.len⟩, fun m z => ?_, fun i w e => ?_, fun i w e => ?_⟩
  · rcases z with z | z
    · exact (hv.nz i m e).1 z
    · have := (hv.nz i m e).2
      omega
  · rcases z with z | z
    · exact Nat.lt_of_lt_of_le (hv.zlt m z) g.len
    · omega
  · obtain ⟨d, e1, h⟩ := hv.val i w e
    exact ⟨d, e1, (h.av (Z' := avo (fun m => Z m ∨ m = n) A) fun m hm z => (hav m z).elim id fun z => absurd z (by omega)).gx g⟩
  · obtain ⟨m, e1, e2, h⟩ := hv.own i w e
    exact ⟨m, e1, e2, (h.av (Z' := avo (fun m => Z m ∨ m = n) A) fun m' hm z => (hav m' z).elim id fun z => absurd z (by omega)).gx g⟩
/-- slot i takes the new list or dict at n -/
theorem RV.take {n : Nat} (hv : RV (fun m => Z m ∨ m = n) A b u r st) (hz : ¬ Z n) (i : Nat) (hc : Cont (fun m => avo Z A m ∨ m = n) b st n v) : RV Z (fun j => if j = i then some n else A j) b (u.set i (some (v, true))) (r.set i (some (.ref n))) st := by
  have hl := hv.len
  have hA : ∀ j m, A j = some m → m ≠ n := fun j m e z => (hv.nz j m e).1 (.inr z)
  have hav : ∀ m, avo Z (fun j => if j = i then some n else A j) m → avo (fun m => Z m ∨ m = n) A m := fun m z => by
    rcases z with z | ⟨j, e⟩
    · exact .inl (.inl z)
    · by_cases hj : j = i
      · simp only [if_pos hj] at e
        exact .inl (.inr (Option.some.inj e).symm)
      · simp only [if_neg hj] at e
        exact .inr ⟨j, e⟩
  refine ⟨by rw [List.length_set, List.length_set]; exact hl, fun j k m e1 e2 => ?_, fun j m e => ?_, fun m z => hv.zlt m (.inl z), fun j w e => ?_, fun j w e => ?_⟩
  · by_cases hj : j = i
    · by_cases hk : k = i
      · rw [hj, hk]
      · simp only [if_pos hj] at e1
        simp only [if_neg hk] at e2
        cases e1
        exact absurd rfl (hA k _ e2)
    · by_cases hk : k = i
      · simp only [if_neg hj] at e1
        simp only [if_pos hk] at e2
        cases e2
        exact absurd rfl (hA j _ e1)
      · simp only [if_neg hj] at e1
        simp only [if_neg hk] at e2
        exact hv.inj j k m e1 e2
  · by_cases hj : j = i
    · simp only [if_pos hj] at e
      cases e
      exact ⟨hz, hc.lt⟩
    · simp only [if_neg hj] at e
      exact ⟨fun z => (hv.nz j m e).1 (.inl z), (hv.nz j m e).2⟩
  · by_cases hj : i = j
    · subst hj
      by_cases hi : i < u.length
      · rw [List.getElem?_set_self hi] at e
        cases e
      · rw [List.getElem?_eq_none (by rw [List.length_set]; omega)] at e
        cases e
    · rw [List.getElem?_set_ne hj] at e ⊢
      obtain ⟨d, e1, h⟩ := hv.val j w e
      exact ⟨d, e1, h.av fun m _ z => hav m z⟩
  · by_cases hj : i = j
    · subst hj
      by_cases hi : i < u.length
      · rw [List.getElem?_set_self hi] at e
        cases e
        refine ⟨n, if_pos rfl, List.getElem?_set_self (hl ▸ hi), hc.av fun m _ z => ?_⟩
        rcases z with z | ⟨j, e⟩
        · exact .inl (.inl z)
        · by_cases hj : j = i
          · simp only [if_pos hj] at e
            exact .inr (Option.some.inj e).symm
          · simp only [if_neg hj] at e
            exact .inl (.inr ⟨j, e⟩)
      · rw [List.getElem?_eq_none (by rw [List.length_set]; omega)] at e
        cases e
    · rw [List.getElem?_set_ne hj] at e
      obtain ⟨m, a, c, q⟩ := hv.own j w e
      exact ⟨m, (if_neg (Ne.symm hj)).trans a, by rw [List.getElem?_set_ne hj]; exact c, q.av fun m _ z => hav m z⟩
end
section
variable {M : List Nat} {c1 c2 c3 : Nat} {e e2 e3 : DE} {we we2 we3 : VE}
/-- x, y = a value, a new list -/
theorem sv_parSO (i j : Nat) (hij : i ≠ j) (he : EOk .strong c1 e we) (he2 : EOk .fresh c2 e2 we2) : SOk [i, j] (c1 + c2) (dPar i j e e2) (vParG false true i j we we2) := fun Z A b u r st P hcap hv q => SPost.bind (he Z A b u r st _ _ (by omega) hv q) (by omega) hv fun d st1 v hv1 g1 hr q1 => by
  have h2 := he2 Z A _ u r st1 _ _ (by omega) hv1 q1
  cases eq2 : e2 r st1 with
  | err => rw [eq2] at h2; exact h2.elim
  | exc x st2 =>
    rw [eq2] at h2
    obtain ⟨x', q, g2, h⟩ := h2
    exact ⟨x', q, (g2.wk fun _ _ z => z.elim).b_le (by omega), RelX.gx (Z' := Z) h (.le (by omega))⟩
  | ok d2 st2 =>
    rw [eq2] at h2
    obtain ⟨v2, q2, g2, n, rfl, hn, hc⟩ := h2
    have hz : ¬ Z n := fun z => by have := hv1.zlt n z; omega
    have hv2 := hv1.more g2 hn hc.lt
    have hr' : Rep (avo (fun m => Z m ∨ m = n) A) _ st2 d v := (Rep.av (Z' := avo (fun m => Z m ∨ m = n) A) hr fun m hm z => by
      rcases z with (z | z) | z
      · exact .inl z
      · omega
      · exact .inr z).gx g2
    have hv3 := (hv2.set i hr').take hz j hc
    rw [← Nat.add_assoc]
    show SPost _ _ _ _ _ _ _ _ (.nx ((r.set i (some d)).set j (some (.ref n))) st2) _
    refine ⟨_, _, q2, ⟨hv3, g2.wk fun _ _ z => z.elim, fun k m e => ?_, (Kp.trans kp_set kp_set : Kp ([i] ++ [j]) _ _ _ _), fun k hk => ⟨if_neg fun z => hk (by rw [z]; exact List.mem_cons_of_mem _ List.mem_cons_self), fun m o e1 e3 e4 => g2.same m o (fun z => z) e3 e4⟩⟩⟩
    by_cases hk : k = j
    · simp only [if_pos hk] at e
      cases e
      exact .inr hn
    · simp only [if_neg hk] at e
      exact .inl ⟨k, e⟩
/-- x, y = two new lists -/
theorem sv_parOO (i j : Nat) (hij : i ≠ j) (he : EOk .fresh c1 e we) (he2 : EOk .fresh c2 e2 we2) : SOk [i, j] (c1 + c2) (dPar i j e e2) (vParG true true i j we we2) := fun Z A b u r st P hcap hv q => by
  have h := he Z A b u r st _ _ (by omega) hv q
  unfold dPar
  cases eq : e r st with
  | err => rw [eq] at h; exact h.elim
  | exc x st1 =>
    rw [eq] at h
    obtain ⟨x', q, g, h⟩ := h
    exact ⟨x', q, (g.wk fun _ _ z => z.elim).b_le (by omega), RelX.gx (Z' := Z) h (.le (by omega))⟩
  | ok d st1 =>
    rw [eq] at h
    obtain ⟨v, q1, g, n, rfl, hn, hc⟩ := h
    have hz : ¬ Z n := fun z => by have := hv.zlt n z; omega
    have hv1 := hv.more g hn hc.lt
    have h2 := he2 _ A _ u r st1 _ _ (by omega) hv1 q1
    show SPost _ _ _ _ _ _ _ _ ((e2 r st1).out _) _
    cases eq2 : e2 r st1 with
    | err => rw [eq2] at h2; exact h2.elim
    | exc x st2 =>
      rw [eq2] at h2
      obtain ⟨x', q, g2, h⟩ := h2
      exact ⟨x', q, ((g.trans g2).wk fun _ _ z => z.elim).b_le (by omega), (RelX.av h fun m _ z => .inl z).gx (Z' := Z) (.le (by omega))⟩
    | ok d2 st2 =>
      rw [eq2] at h2
      obtain ⟨v2, q2, g2, n2, rfl, hn2, hc2⟩ := h2
      have hnl : n < st1.length := hc.lt
      have hz2 : ¬ Z n2 := fun z => by have := hv1.zlt n2 (.inl z); omega
      -- first with both places kept clear of
      have hv2 : RV (fun m => (Z m ∨ m = n2) ∨ m = n) A (b + c1 + c2) u r st2 := by
        have h := hv1.more g2 hn2 hc2.lt
        refine ⟨h.len, h.inj, fun i m e => ⟨fun z => (h.nz i m e).1 ?_, (h.nz i m e).2⟩, fun m z => h.zlt m ?_, fun i w e => ?_, fun i w e => ?_⟩
        · rcases z with (z | z) | z
          · exact .inl (.inl z)
          · exact .inr z
          · exact .inl (.inr z)
        · rcases z with (z | z) | z
          · exact .inl (.inl z)
          · exact .inr z
          · exact .inl (.inr z)
        · obtain ⟨d, e1, h⟩ := h.val i w e
          refine ⟨d, e1, h.av fun m _ z => ?_⟩
          rcases z with ((z | z) | z) | z
          · exact .inl (.inl (.inl z))
          · exact .inl (.inr z)
          · exact .inl (.inl (.inr z))
          · exact .inr z
        · obtain ⟨m', e1, e2, h⟩ := h.own i w e
          refine ⟨m', e1, e2, h.av fun m _ z => ?_⟩
          rcases z with ((z | z) | z) | z
          · exact .inl (.inl (.inl z))
          · exact .inl (.inr z)
          · exact .inl (.inl (.inr z))
          · exact .inr z
      have hc' : Cont (fun m => avo (fun m => Z m ∨ m = n2) A m ∨ m = n) (b + c1 + c2) st2 n v := (hc.av (Z' := fun m => avo (fun m => Z m ∨ m = n2) A m ∨ m = n) fun m hm z => by
        rcases z with ((z | z) | z) | z
        · exact .inl (.inl z)
        · omega
        · exact .inl (.inr z)
        · exact .inr z).gx g2
      have hv3 := hv2.take (fun z => z.elim hz fun z => by omega) i hc'
      have hc2' : Cont (fun m => avo Z (fun j => if j = i then some n else A j) m ∨ m = n2) (b + c1 + c2) st2 n2 v2 := hc2.av fun m _ z => by
        rcases z with (z | ⟨k, e⟩) | z
        · exact .inl (.inl (.inl z))
        · by_cases hk : k = i
          · simp only [if_pos hk] at e
            exact .inl (.inl (.inr (Option.some.inj e).symm))
          · simp only [if_neg hk] at e
            exact .inl (.inr ⟨k, e⟩)
        · exact .inr z
      have hv4 := hv3.take hz2 j hc2'
      rw [← Nat.add_assoc]
      refine ⟨_, _, q2, ⟨hv4, (g.trans g2).wk fun _ _ z => z.elim, fun k m e => ?_, (Kp.trans kp_set kp_set : Kp ([i] ++ [j]) _ _ _ _), fun k hk => ⟨?_, fun m o e1 e3 e4 => (g.trans g2).same m o (fun z => z) e3 e4⟩⟩⟩
      · by_cases hk : k = j
        · simp only [if_pos hk] at e
          cases e
          exact .inr (Nat.le_trans g.len hn2)
        · simp only [if_neg hk] at e
          by_cases hk2 : k = i
          · simp only [if_pos hk2] at e
            cases e
            exact .inr hn
          · simp only [if_neg hk2] at e
            exact .inl ⟨k, e⟩
      · have h1 : k ≠ i := fun z => hk (by rw [z]; exact List.mem_cons_self)
        have h2 : k ≠ j := fun z => hk (by rw [z]; exact List.mem_cons_of_mem _ List.mem_cons_self)
        simp only [if_neg h1, if_neg h2]
/-- x = y, y's own list is handed on -/
def vMove (i j : Nat) : VS := fun u P => match u[j]? with
  | some (some (v, true)) => P (.nx ((u.set j none).set i (some (v, false))))
  | _ => False
theorem sv_move (i j : Nat) (hij : i ≠ j) : SOk [i, j] 0 (dSet i (dVar j)) (vMove i j) := fun Z A b u r st P hcap hv q => by
  unfold vMove at q
  split at q
  case h_2 => exact q.elim
  rename_i v eu
  obtain ⟨n, e1, e2, hc⟩ := hv.own j v eu
  unfold dSet dVar
  rw [e2]
  show SPost _ _ _ _ _ _ _ _ (.nx (r.set i (some (.ref n))) st) _
  have hjr : r.length = u.length := hv.len.symm
  have hA' : ∀ k m, (if k = j then none else A k) = some m → k ≠ j ∧ A k = some m := fun k m e => by
    by_cases hk : k = j
    · rw [if_pos hk] at e; cases e
    · rw [if_neg hk] at e; exact ⟨hk, e⟩
  have hav : ∀ m, avo Z (fun k => if k = j then none else A k) m → avo Z A m := fun m z => z.imp id fun ⟨k, e⟩ => ⟨k, (hA' k m e).2⟩
  have hn : ¬ avo Z (fun k => if k = j then none else A k) n := fun z => by
    rcases z with z | ⟨k, e⟩
    · exact (hv.nz j n e1).1 z
    · obtain ⟨hk, e⟩ := hA' k n e
      exact hk (hv.inj k j n e e1)
  have hv1 : RV Z (fun k => if k = j then none else A k) b (u.set j none) r st := by
    refine ⟨by rw [List.length_set]; exact hv.len, fun k l m e e' => hv.inj k l m (hA' k m e).2 (hA' l m e').2, fun k m e => hv.nz k m (hA' k m e).2, hv.zlt, fun k w e => ?_, fun k w e => ?_⟩
    · by_cases hk : j = k
      · subst hk
        by_cases hi : j < u.length
        · rw [List.getElem?_set_self hi] at e; cases e
        · rw [List.getElem?_eq_none (by rw [List.length_set]; omega)] at e; cases e
      · rw [List.getElem?_set_ne hk] at e
        obtain ⟨d, e3, h⟩ := hv.val k w e
        exact ⟨d, e3, h.av fun m _ z => hav m z⟩
    · by_cases hk : j = k
      · subst hk
        by_cases hi : j < u.length
        · rw [List.getElem?_set_self hi] at e; cases e
        · rw [List.getElem?_eq_none (by rw [List.length_set]; omega)] at e; cases e
      · rw [List.getElem?_set_ne hk] at e
        obtain ⟨m, e3, e4, h⟩ := hv.own k w e
        exact ⟨m, (if_neg (Ne.symm hk)).trans e3, e4, h.av fun m _ z => hav m z⟩
  have hv2 := hv1.set i ((hc.av fun m _ z => hav m z).rep hn)
  refine ⟨_, _, q, ⟨hv2, .refl, fun k m e => .inl ⟨k, (hA' k m e).2⟩, ⟨fun k hk => ?_, fun k hk => ?_⟩, fun k hk => ⟨if_neg fun z => hk (by rw [z]; exact List.mem_cons_of_mem _ List.mem_cons_self), fun _ _ _ e _ => e⟩⟩⟩
  · have h1 : i ≠ k := fun z => hk (by rw [z]; exact List.mem_cons_self)
    have h2 : j ≠ k := fun z => hk (by rw [z]; exact List.mem_cons_of_mem _ List.mem_cons_self)
    rw [List.getElem?_set_ne h1, List.getElem?_set_ne h2]
  · have h1 : i ≠ k := fun z => hk (by rw [z]; exact List.mem_cons_self)
    rw [List.getElem?_set_ne h1]
def U.isDic : U → Bool
  | .dK _ _ => true
  | .dT _ _ => true
  | _ => false
theorem RelK.isDic {Z : Av} {A : Ow} {b : Nat} {st st0 : Store} {d : D} {v : U} (h : RelK .weak Z A b st0 st d v) (e : v.isDic = true) : Pd.isDic d st = true := by
  have hc : ∃ n, d = .ref n ∧ Cont (avo Z A) b st n v := by
    rcases h with h | ⟨i, n, _, rfl, h⟩
    · cases h <;> first | cases e | skip
      · exact ⟨_, rfl, _, by assumption, by assumption, by assumption, by assumption, by assumption⟩
      · exact ⟨_, rfl, _, by assumption, by assumption, by assumption, by assumption⟩
    · exact ⟨n, rfl, h⟩
  obtain ⟨n, rfl, hc⟩ := hc
  unfold Pd.isDic
  cases v with
  | dK ks us => obtain ⟨kvs, e1, _⟩ := hc; dsimp only; rw [e1]
  | dT ks us => obtain ⟨kvs, e1, _⟩ := hc; dsimp only; rw [e1]
  | _ => cases e
def vGet (a k : VE) : VE := fun u Q X => a u (fun x => x.isDic = true ∧ k u (fun y => match dGetU x y with
  | some (some v) => Q v
  | some none => Q .non
  | none => False) X) X
theorem ev_get (h1 : EOk .weak c1 e we) (h2 : EOk .weak c2 e2 we2) : EOk .strong (c1 + c2) (dGet1' e e2) (vGet we we2) := fun Z A b u r st Q X hcap hv q => by
  unfold dGet1'
  refine Post.bind RelK.up (h1 Z A b u r st _ X (by omega) hv q) (by omega) hv fun d st1 v hv1 g1 hr q1 => ?_
  obtain ⟨hd, q1⟩ := q1
  rw [if_pos (hr.isDic hd)]
  refine Post.bind RelK.up (h2 Z A _ u r st1 _ X (by omega) hv1 q1) (by omega) hv1 fun y st2 w hv2 g2 hr2 q2 => ?_
  have hr := RelK.up.up hr g2
  split at q2
  · rename_i x ex
    obtain ⟨n, o', rfl, k1, k2, k3⟩ := dGet_rel hr hr2 ex
    rcases k3 with ⟨z, _⟩ | ⟨y', z, z1, z2, z3⟩
    · cases z
    · cases z1
      dsimp only
      rw [k1, z2]
      exact ⟨x, q2, .le (by omega), z3.gx (.le (by omega))⟩
  · rename_i ex
    obtain ⟨n, o', rfl, k1, k2, k3⟩ := dGet_rel hr hr2 ex
    rcases k3 with ⟨_, z⟩ | ⟨y', z, z1, z2, z3⟩
    · dsimp only
      rw [k1, z]
      exact ⟨.non, q2, .le (by omega), .non⟩
    · cases z1
  · exact q2.elim
def vRg1 (w : VE) : VG (Int × Int) := fun u Q X => w u (fun v => match v with
  | .int b => rgOk 0 b = true ∧ Q (0, b)
  | _ => False) X
def RelR : Rl (Int × Int) (Int × Int) := fun _ _ _ _ _ a v => a = v ∧ (a.2 - a.1).toNat ≤ sizeLine
theorem RelR.up : RUp RelR := ⟨fun h _ => h, fun _ h => h⟩
theorem rv_1 (h : EOk .weak c1 e we) : JOk RelR c1 (dRg1 e) (vRg1 we) := by
  refine JOk.bind (c2 := 0) (kw := fun v u Q X => match v with
    | .int b => rgOk 0 b = true ∧ Q (0, b)
    | _ => False) RelR.up h fun Z A n u r st0 st d v Q X hcap hv hr q => ?_
  cases v <;> first | exact q.elim | skip
  rename_i b
  rw [hr.intw]
  show Post _ _ _ _ _ _ (if rgOk 0 b = true then _ else _) _ _
  rw [if_pos q.1]
  exact ⟨_, q.2, .refl, rfl, (rgOk_ok q.1).2⟩
def rgLU (a b : Int) : List U := rgU a (b - a).toNat
theorem rgL_relU {Y : Av} {b : Nat} {st : Store} (a c : Int) : Reps Y b st (rgL a c) (rgLU a c) := rg_rel a (c - a).toNat
def vLstRg (w : VG (Int × Int)) : VE := fun u Q X => w u (fun p => Q (.lst (rgLU p.1 p.2))) X
theorem ev_lstRg {t : DR} {w : VG (Int × Int)} (h : JOk RelR c1 t w) : EOk .fresh c1 (dLstRg t) (vLstRg w) := by
  refine JOk.bind (c2 := 0) (kw := fun p u Q X => Q (.lst (rgLU p.1 p.2))) RelK.up h fun Z A n u r st0 st d v Q X hcap hv hr q => ?_
  obtain ⟨rfl, hz⟩ := hr
  exact newL_post hv (rgL_relU _ _) (by unfold rgLU; rw [rgU_length]; exact hz) q
end
end Pd
set_option maxRecDepth 100000
set_option maxHeartbeats 4000000
namespace Pd
open PySem PySem.Spec PyProof.Rows L2
def denDraw : DS := (dSeq (dIfS (dB (dBin (oCmp gGt) (dBin oIx (dVar 0) (dC (.str "left"))) (dC (.int 0))))
    (dSeq (dSet 2 (dBin oMod (dL oInt (dCons (dBin oIx (dVar 0) (dC (.str "left"))) dNil)) (dVar 1)))
    (dSeq (dSetIx (dBin oFdiv (dBin oIx (dVar 0) (dC (.str "left"))) (dVar 1)) (dVar 0) (dC (.str "left")))
    (dRet (dVar 2))))
    dNext)
    (dSeq (dSet 3 (dBin oIx (dVar 0) (dC (.str "spot"))))
    (dSeq (dSetIx (dBin oAdd (dVar 3) (dC (.int 1))) (dVar 0) (dC (.str "spot")))
    (dSeq (dPar 4 5 (dBin oIx (dVar 0) (dC (.str "cells"))) (dBin oAdd (dBin oIx (dVar 0) (dC (.str "seed"))) (dBin oMul (dBin oMul (dC (.int 40503)) (dVar 3)) (dVar 3))))
    (dSeq (dSet 6 (dBin oIx (dVar 4) (dBin oMod (dL oInt (dCons (dVar 3) dNil)) (dL oLen (dCons (dVar 4) dNil)))))
    (dSeq (dSet 7 (dBin oMod (dL oInt (dCons (dBin oAdd (dBin oMul (dVar 6) (dBin oAdd (dBin oMul (dC (.int 2)) (dVar 3)) (dC (.int 3)))) (dVar 5)) dNil)) (dC (.int 2147483647))))
    (dSeq (dSet 7 (dBin oMod (dL oInt (dCons (dBin oAdd (dBin oAdd (dBin oMul (dVar 7) (dVar 7)) (dBin oMul (dC (.int 69621)) (dVar 3))) (dBin oIx (dVar 0) (dC (.str "seed")))) dNil)) (dC (.int 2147483629))))
    (dRet (dBin oMod (dBin oFdiv (dBin oMod (dL oInt (dCons (dBin oAdd (dBin oMul (dVar 7) (dC (.int 48271))) (dVar 3)) dNil)) (dC (.int 2147483647))) (dC (.int 11))) (dVar 1))))))))))
section
variable {st : Store} {n c : Nat} {L S p : Int}
theorem getL_draw (h : st[n]? = some (drawO L S c p)) : getL st n = none := by
  unfold getL
  rw [h]
  rfl
theorem ixD {x : Str} {d : D} (h : st[n]? = some (drawO L S c p)) (e : valD [((.inr "left" : Key), D.int L), (.inr "seed", .int S), (.inr "cells", .ref c), (.inr "spot", .int p)] (.inr x) = some d) : oIx (.ref n) (.str x) st = .ok d st := by
  unfold oIx
  have e0 : ixSeq (.ref n) (.str x) st = none := by
    unfold ixSeq
    rw [show seqOf st (.ref n) = none from getL_draw h]
  rw [e0]
  dsimp only
  unfold ixDic dGet
  dsimp only
  rw [h]
  unfold drawO keyOf
  dsimp only
  rw [e]
theorem ix_left (h : st[n]? = some (drawO L S c p)) : oIx (.ref n) (.str "left") st = .ok (.int L) st := ixD h rfl
theorem ix_seed (h : st[n]? = some (drawO L S c p)) : oIx (.ref n) (.str "seed") st = .ok (.int S) st := ixD h rfl
theorem ix_cells (h : st[n]? = some (drawO L S c p)) : oIx (.ref n) (.str "cells") st = .ok (.ref c) st := ixD h rfl
theorem ix_spot (h : st[n]? = some (drawO L S c p)) : oIx (.ref n) (.str "spot") st = .ok (.int p) st := ixD h rfl
theorem set_left (h : st[n]? = some (drawO L S c p)) (v : Int) : setIx (.ref n) (.str "left") (.int v) st = some (st.set n (drawO v S c p)) := by
  unfold setIx
  dsimp only
  rw [h]
  rfl
theorem set_spot (h : st[n]? = some (drawO L S c p)) (v : Int) : setIx (.ref n) (.str "spot") (.int v) st = some (st.set n (drawO L S c v)) := by
  unfold setIx
  dsimp only
  rw [h]
  rfl
theorem mulOk_bits {i j : Int} {a b : Nat} (hi : i.natAbs < 2 ^ a) (hj : j.natAbs < 2 ^ b) (h0 : 0 < a) (h1 : 0 < b) (h : a + b ≤ 99999999) : mulOk i j = true := by
  have x := PySem.Flt.log2_lt_of h0 hi
  have y := PySem.Flt.log2_lt_of h1 hj
  unfold mulOk
  simp only [Bool.or_eq_true, Bool.and_eq_true, decide_eq_true_eq]
  left; left
  omega
theorem oMod_pos {i j : Int} {st : Store} (h : 0 < j) : oMod (.int i) (.int j) st = .ok (.int (i % j)) st := if_pos h
theorem oFdiv_pos {i j : Int} {st : Store} (h : 0 < j ∧ j < 1073741824) : oFdiv (.int i) (.int j) st = .ok (.int (i / j)) st := if_pos h
theorem natAbs_mul_lt {i j : Int} {a b : Nat} (ha : i.natAbs < 2 ^ a) (hb : j.natAbs < 2 ^ b) : (i * j).natAbs < 2 ^ (a + b) := by
  rw [Int.natAbs_mul, Nat.pow_add]
  exact Nat.mul_lt_mul'' ha hb
theorem draw_left {B : Int} (h : st[n]? = some (drawO L S c p)) (hL : 0 < L) (hB : 0 < B ∧ B < 1073741824) : runD 8 denDraw [.ref n, .int B] st = .ok (.int (L % B)) (st.set n (drawO (L / B) S c p)) := by
  have e1 := ix_left h
  have e2 := set_left h (L / B)
  have e3 : oCmp gGt (.int L) (.int 0) st = .ok (.bl true) st := by
    unfold oCmp gGt
    dsimp only
    rw [decide_eq_true hL]
  have e4 : oMod (.int L) (.int B) st = .ok (.int (L % B)) st := if_pos hB.1
  have e5 : oFdiv (.int L) (.int B) st = .ok (.int (L / B)) st := if_pos hB
  unfold runD denDraw
  simp only [dSeq, dIfS, dB, dBin, dVar, dC, dSet, dSetIx, dRet, Res.bind, Res.out, dL, dCons, dNil, List.map, List.length, List.replicate, List.append, List.cons_append, List.nil_append, List.getElem?_cons_zero, List.getElem?_cons_succ, e1, e3, asB, if_true, oInt, e4, e5, e2, List.set]
theorem draw_right {B : Int} {cs : List Int} (h : st[n]? = some (drawO L S c p)) (hL : ¬ 0 < L) (hB : 0 < B ∧ B < 1073741824) (hp : 0 ≤ p) (hp2 : p.natAbs < 2 ^ 4001) (hS : 0 ≤ S ∧ S < 2147483647) (hc : st[c]? = some (.lst (cs.map .int))) (hne : cs ≠ []) (hcs : ∀ x ∈ cs, x.natAbs.log2 < 2000000) :
    ∃ x, 0 ≤ x ∧ x < B ∧ runD 8 denDraw [.ref n, .int B] st = .ok (.int x) (st.set n (drawO L S c (p + 1))) := by
  have e1 := ix_left h
  have e2 := ix_spot h
  have e3 : oCmp gGt (.int L) (.int 0) st = .ok (.bl false) st := by
    unfold oCmp gGt
    dsimp only
    rw [decide_eq_false hL]
  have e4 : oAdd (.int p) (.int 1) st = .ok (.int (p + 1)) st := rfl
  have e5 := set_spot h (p + 1)
  have hn : n < st.length := getSome_lt h
  obtain ⟨st2, hst2⟩ : ∃ st2, st2 = st.set n (drawO L S c (p + 1)) := ⟨_, rfl⟩
  have h2 : st2[n]? = some (drawO L S c (p + 1)) := by rw [hst2]; exact List.getElem?_set_self hn
  have hcn : n ≠ c := fun e => by
    subst e
    rw [h] at hc
    cases hc
  have hc2 : st2[c]? = some (.lst (cs.map .int)) := by rw [hst2, List.getElem?_set_ne hcn]; exact hc
  have hlen : 0 < (cs.length : Int) := by
    cases cs with
    | nil => exact absurd rfl hne
    | cons a l => rw [List.length_cons]; omega
  have b1 : ((40503 : Int) * p).natAbs < 2 ^ 4017 := by
    have := natAbs_mul_lt (a := 16) (b := 4001) (show (40503 : Int).natAbs < 2 ^ 16 by decide) hp2
    exact this
  have m1 : mulOk 40503 p = true := mulOk_bits (a := 16) (b := 4001) (by decide) hp2 (by decide) (by decide) (by decide)
  have m2 : mulOk (40503 * p) p = true := mulOk_bits (a := 4017) (b := 4001) b1 hp2 (by decide) (by decide) (by decide)
  have m3 : mulOk 2 p = true := mulOk_bits (a := 2) (b := 4001) (by decide) hp2 (by decide) (by decide) (by decide)
  have m4 : mulOk 69621 p = true := mulOk_bits (a := 17) (b := 4001) (by decide) hp2 (by decide) (by decide) (by decide)
  obtain ⟨k, hk⟩ : ∃ k : Nat, k = (p % (cs.length : Int)).toNat := ⟨_, rfl⟩
  have hk1 : 0 ≤ p % (cs.length : Int) := Int.emod_nonneg _ (by omega)
  have hk2 : p % (cs.length : Int) < cs.length := Int.emod_lt_of_pos _ hlen
  have hkl : k < cs.length := by omega
  obtain ⟨x, hx⟩ : ∃ x, x = cs[k]'hkl := ⟨_, rfl⟩
  have hxm : x ∈ cs := by rw [hx]; exact List.getElem_mem hkl
  have e6 : oMod (.int p) (.int (cs.length : Nat)) st2 = .ok (.int (p % (cs.length : Int))) st2 := if_pos hlen
  have e7 : oIx (.ref c) (.int (p % (cs.length : Int))) st2 = .ok (.int x) st2 := by
    unfold oIx ixSeq
    rw [show seqOf st2 (.ref c) = some (cs.map .int) from getL_of hc2]
    dsimp only
    have : atI (cs.map D.int) (p % (cs.length : Int)) = some (.int x) := by
      unfold atI ixN
      rw [List.length_map, if_pos hk1, if_pos hk2]
      show (cs.map D.int)[(p % (cs.length : Int)).toNat]? = _
      rw [← hk, List.getElem?_map, List.getElem?_eq_getElem hkl, hx]
      rfl
    rw [this]
  have e8 := ix_cells h2
  have e9 := ix_seed h2
  have b2 : ((2 : Int) * p + 3).natAbs < 2 ^ 4004 := by
    have h3 := natAbs_mul_lt (a := 2) (b := 4001) (show (2 : Int).natAbs < 2 ^ 2 by decide) hp2
    have h4 : (2 : Nat) ^ 4004 = 2 * 2 ^ 4003 := by rw [← Nat.pow_succ']
    have h5 : 3 ≤ 2 ^ 4003 := Nat.le_trans (by decide) (Nat.pow_le_pow_right (by decide) (show 2 ≤ 4003 by decide))
    have h6 : ((2 : Int) * p).natAbs < 2 ^ 4003 := h3
    omega
  have bx : x.natAbs < 2 ^ 2000001 := by
    by_cases h0 : x.natAbs = 0
    · rw [h0]; exact Nat.pow_pos (by decide)
    · exact Nat.lt_of_lt_of_le (Nat.lt_log2_self) (Nat.pow_le_pow_right (by decide) (by have := hcs x hxm; omega))
  have m5 : mulOk x (2 * p + 3) = true := mulOk_bits (a := 2000001) (b := 4004) bx b2 (by decide) (by decide) (by decide)
  obtain ⟨y1, hy1⟩ : ∃ y, y = (x * (2 * p + 3) + (S + 40503 * p * p)) % 2147483647 := ⟨_, rfl⟩
  have r1 : 0 ≤ y1 ∧ y1 < 2147483647 := by rw [hy1]; exact ⟨Int.emod_nonneg _ (by decide), Int.emod_lt_of_pos _ (by decide)⟩
  have m6 : mulOk y1 y1 = true := mulOk_bits (a := 31) (b := 31) (by omega) (by omega) (by decide) (by decide) (by decide)
  obtain ⟨y2, hy2⟩ : ∃ y, y = (y1 * y1 + 69621 * p + S) % 2147483629 := ⟨_, rfl⟩
  have r2 : 0 ≤ y2 ∧ y2 < 2147483629 := by rw [hy2]; exact ⟨Int.emod_nonneg _ (by decide), Int.emod_lt_of_pos _ (by decide)⟩
  have m7 : mulOk y2 48271 = true := mulOk_bits (a := 31) (b := 16) (by omega) (by decide) (by decide) (by decide) (by decide)
  refine ⟨(y2 * 48271 + p) % 2147483647 / 11 % B, Int.emod_nonneg _ (by omega), Int.emod_lt_of_pos _ hB.1, ?_⟩
  have t0 : ∀ i : Int, oMod (.int i) (.int 2147483647) st2 = .ok (.int (i % 2147483647)) st2 := fun i => oMod_pos (by decide)
  have t1 : ∀ i : Int, oMod (.int i) (.int 2147483629) st2 = .ok (.int (i % 2147483629)) st2 := fun i => oMod_pos (by decide)
  have t2 : ∀ i : Int, oFdiv (.int i) (.int 11) st2 = .ok (.int (i / 11)) st2 := fun i => oFdiv_pos (by decide)
  have t3 : ∀ i : Int, oMod (.int i) (.int B) st2 = .ok (.int (i % B)) st2 := fun i => if_pos hB.1
  have tA : ∀ (i j : Int) (s : Store), oAdd (.int i) (.int j) s = .ok (.int (i + j)) s := fun _ _ _ => rfl
  have tM : ∀ (i j : Int) (s : Store), mulOk i j = true → oMul (.int i) (.int j) s = .ok (.int (i * j)) s := fun i j s h => if_pos h
  have tL : oLen [.ref c] st2 = .ok (.int (cs.length : Nat)) st2 := by
    unfold oLen
    dsimp only
    rw [show seqOf st2 (.ref c) = some (cs.map .int) from getL_of hc2]
    dsimp only
    rw [List.length_map]
  unfold runD denDraw
  simp only [dSeq, dIfS, dB, dBin, dVar, dC, dSet, dSetIx, dRet, dNext, dPar, Res.bind, Res.out, dL, dCons, dNil, List.map, List.length, List.replicate, List.append, List.cons_append, List.nil_append, List.getElem?_cons_zero, List.getElem?_cons_succ, e1, e3, asB, oInt, e2, tA, e5, List.set, if_false, Bool.false_eq_true, ← hst2, e8, e9, tM _ _ _ m1, tM _ _ _ m2, tM _ _ _ m3, tL, e6, e7, tM _ _ _ m5, t0, ← hy1, tM _ _ _ m6, tM _ _ _ m4, t1, ← hy2, tM _ _ _ m7, t2, t3]
end
/-- a drawn number -/
def W_draw : VFn := fun us Q _ => match us with
  | [.gen, .int b] => (0 < b ∧ b < 1073741824) ∧ ∀ x : Int, 0 ≤ x → x < b → Q (.int x)
  | _ => False
theorem fok_draw : FOk 2 1 (runD 8 denDraw) W_draw := fun Z b st ds us Q X hcap hz hn hr q => by
  unfold W_draw at q
  split at q
  case h_2 => exact q.elim
  rename_i B
  obtain ⟨hB, q⟩ := q
  cases hr with
  | cons a r =>
    cases r with
    | cons a2 r =>
      cases r
      rw [a2.intd]
      cases a with
      | gen n1 n2 e d f g w =>
        rename_i n c L S p cs
        have gr : ∀ (L' p' : Int), DB (b + 1) S p' → Gx b (b + 1) st (st.set n (drawO L' S c p')) := fun L' p' hd => by
          refine ⟨Nat.le_succ _, by simp, fun m o _ e1 e2 => ?_, fun m L1 S1 c1 p1 _ e1 d1 => ?_⟩
          · have hm : n ≠ m := fun z => by
              subst z
              rw [e] at e1
              cases e1
              rw [isDraw_drawO] at e2
              cases e2
            rw [List.getElem?_set_ne hm]
            exact e1
          · by_cases hm : n = m
            · subst hm
              rw [e] at e1
              have e3 : drawO L S c p = drawO L1 S1 c1 p1 := Option.some.inj e1
              unfold drawO at e3
              injection e3 with e3
              injection e3 with e4 e5
              injection e5 with e6 e7
              injection e7 with e8 e9
              injection e6 with _ e6
              injection e6 with e6
              injection e8 with _ e8
              injection e8 with e8
              subst e6 e8
              exact ⟨L', p', List.getElem?_set_self (getSome_lt e), hd⟩
            · rw [List.getElem?_set_ne hm]
              exact ⟨L1, p1, e1, d1.up (Nat.le_succ _)⟩
        by_cases hL : 0 < L
        · rw [draw_left e hL hB]
          exact ⟨_, q _ (Int.emod_nonneg _ (by omega)) (Int.emod_lt_of_pos _ hB.1), gr _ _ (d.up (Nat.le_succ _)), .int _⟩
        · have hp2 : p.natAbs < 2 ^ 4001 := by
            have h1 := d.pb
            have h2 := d.p0
            have h3 : capN < 2 ^ 4001 := by unfold capN; exact Nat.pow_lt_pow_right (by decide) (by decide)
            omega
          obtain ⟨x, x0, x1, ex⟩ := draw_right e hL hB d.p0 hp2 ⟨d.s0, d.s1⟩ f g w
          rw [ex]
          exact ⟨_, q x x0 x1, gr _ _ ⟨by have := d.p0; omega, by have := d.pb; omega, d.s0, d.s1⟩, .int _⟩
end Pd
set_option maxRecDepth 100000
set_option maxHeartbeats 4000000
namespace Pd
open PySem PySem.Spec PyProof.Rows L2
def vPopTup (i j : Nat) (k : VE) (own : List Nat) (g : UG) (tt : VT) (te : VE) : VS := fun u P => match u[j]? with
  | some (some (.lst l, true)) => k u (fun x => match x with
    | .int z => match ixN l.length z with
      | some m => match l[m]? with
        | some y => match y.items with
          | some us => lcW g tt te (wipeU (u.set j (some (.lst (l.eraseIdx m), true))) own) us [] (fun v => match v with
            | .lst r => P (.nx ((u.set j (some (.lst (l.eraseIdx m), true))).set i (some (.tup r, false))))
            | _ => False)
          | none => False
        | none => False
      | none => False
    | _ => False) (fun x => P (.exc x))
  | _ => False
theorem Reps.erase {Y : Av} {b : Nat} {st : Store} : ∀ {ds : List D} {us : List U} (m : Nat), Reps Y b st ds us → Reps Y b st (ds.eraseIdx m) (us.eraseIdx m)
  | [], _, m, h => by cases h; exact .nil
  | d :: ds, _, 0, h => by cases h with | cons a r => exact r
  | d :: ds, _, m + 1, h => by cases h with | cons a r => exact .cons a (Reps.erase m r)
theorem sv_popTup {ck ct ce : Nat} {ek te : DE} {wk we : VE} {own M : List Nat} {g : DG} {gu : UG} {tt : DT} {wt : VT} (i j : Nat) (hk : EOk .weak ck ek wk) (hg : GvOk M g gu) (ht : TOk ct tt wt) (he : EOk .strong ce te we) :
    SOk [j, i] (ck + sizeLine * (ct + ce)) (dSet i (dL oTuple (dCons (dLc (itSeq (dMt oPop (dVar j) (dCons ek dNil))) own g tt te) dNil))) (vPopTup i j wk own gu wt we) := fun Z A b u r st P hcap hv q => by
  unfold vPopTup at q
  split at q
  case h_2 => exact q.elim
  rename_i l eu
  obtain ⟨n, e1, e2, ds, e3, hl, r1⟩ := hv.own j _ eu
  have e0 : dSet i (dL oTuple (dCons (dLc (itSeq (dMt oPop (dVar j) (dCons ek dNil))) own g tt te) dNil)) r st = (ek r st).out fun k st1 => (oPop (.ref n) [k] st1).out fun y st2 => match seqOf st2 y with
      | some zs => (lcLoop (srcAt y) g tt te (wipeD r own) zs.length 0 [] st2).out fun d st3 => (oTuple [d] st3).out fun d st4 => .nx (r.set i (some d)) st4
      | none => .err := by
    unfold dSet dL dCons dLc itSeq dMt dVar dNil
    rw [e2]
    show Res.out (Res.bind (Res.bind (Res.bind (Res.bind (if isL (.ref n) st = true then _ else _) _) _) _) _) _ = _
    rw [show isL (.ref n) st = true by unfold isL; dsimp only; rw [getL_of e3]; rfl, if_pos rfl]
    dsimp only
    cases ek r st with
    | err => rfl
    | exc x st1 => rfl
    | ok k st1 =>
      show Res.out (Res.bind (Res.bind (Res.bind (Res.bind (oPop (.ref n) [k] st1) _) _) _) _) _ = Res.out (oPop (.ref n) [k] st1) _
      cases oPop (.ref n) [k] st1 with
      | err => rfl
      | exc x st2 => rfl
      | ok y st2 =>
        show Res.out (Res.bind (Res.bind (Res.bind (match seqOf st2 y with
          | some l => .ok (srcAt y, l.length) st2
          | none => .err) _) _) _) _ = (match seqOf st2 y with
          | some zs => _
          | none => _)
        cases seqOf st2 y with
        | none => rfl
        | some zs =>
          show Res.out (Res.bind (Res.bind (lcLoop (srcAt y) g tt te (wipeD r own) zs.length 0 [] st2) _) _) _ = Res.out (lcLoop (srcAt y) g tt te (wipeD r own) zs.length 0 [] st2) _
          cases lcLoop (srcAt y) g tt te (wipeD r own) zs.length 0 [] st2 with
          | err => rfl
          | exc x st3 => rfl
          | ok d st3 => rfl
  rw [e0]
  refine SPost.bind (hk Z A b u r st _ _ (by omega) hv q) (by omega) hv fun k st1 x hv1 g1 hr q1 => ?_
  cases x <;> first | exact q1.elim | skip
  rename_i z
  dsimp only at q1
  rw [hr.intw]
  obtain ⟨n', a1, b1, ds1, c1, hl1, r1⟩ := hv1.own j _ eu
  rw [e1] at a1
  cases a1
  cases em : ixN l.length z with
  | none => rw [em] at q1; exact q1.elim
  | some m =>
    rw [em] at q1
    dsimp only at q1
    cases ey : l[m]? with
    | none => rw [ey] at q1; exact q1.elim
    | some y =>
      rw [ey] at q1
      dsimp only at q1
      obtain ⟨yd, eyd, hy⟩ := Paired.getR r1.pr ey
      have ep : oPop (.ref n) [.int z] st1 = .ok yd (st1.set n (.lst (ds1.eraseIdx m))) := by
        unfold oPop
        dsimp only
        rw [getL_of c1]
        dsimp only
        rw [r1.length, em]
        dsimp only
        rw [eyd]
      rw [ep]
      show SPost _ _ _ _ _ _ _ _ (match seqOf (st1.set n (.lst (ds1.eraseIdx m))) yd with
        | some zs => _
        | none => _) _
      have hn : n < st1.length := getSome_lt c1
      have hc' : Cont (avo Z A) (b + ck) (st1.set n (.lst (ds1.eraseIdx m))) n (.lst (l.eraseIdx m)) := ⟨ds1.eraseIdx m, List.getElem?_set_self hn, Nat.le_trans (List.length_eraseIdx_le _ _) hl1, (r1.erase m).setn e1⟩
      have hs := Stp.mut hv1 e1 b1 hc'
      have hy2 : Rep (avo Z A) (b + ck) (st1.set n (.lst (ds1.eraseIdx m))) yd y := Rep.setn hy e1
      cases ei : y.items with
      | none => rw [ei] at q1; exact q1.elim
      | some us =>
        rw [ei] at q1
        dsimp only at q1
        have hyK : RelK (sk false) Z A (b + ck) (st1.set n (.lst (ds1.eraseIdx m))) (st1.set n (.lst (ds1.eraseIdx m))) yd y := .inl hy2
        obtain ⟨es, hz, r2, lt⟩ := later_seq hyK ei
        rw [show seqOf (st1.set n (.lst (ds1.eraseIdx m))) yd = some es from lt _ _ .refl]
        dsimp only
        have hI : RelI false Z A (b + ck) (st1.set n (.lst (ds1.eraseIdx m))) (st1.set n (.lst (ds1.eraseIdx m))) (srcAt yd, es.length) us := ⟨r2.length, hz, fun b'' st'' g => ⟨es, later_reps r2 g, fun i _ => by
          show srcAt yd i st'' = _
          rw [srcAt_eq, lt _ _ g]
          rfl⟩⟩
        have hm := Nat.mul_le_mul_right (ct + ce) hz
        have h := lc_run (X := fun x => P (.exc x)) hg ht he hI (ct + ce) rfl us.length 0 (b + ck) _ [] [] _ (by omega) (by omega) (hs.rv.wipe own) .refl .nil (Nat.le_refl _) (by rw [List.drop_zero]; exact q1)
        rw [show es.length = us.length from r2.length]
        refine SPost.from hs (M' := [i]) ?_
        refine SPost.bind h (by omega) hs.rv fun d st3 v hv3 g3 hr3 q3 => ?_
        cases v <;> first | exact q3.elim | skip
        rename_i rl
        obtain ⟨n3, rfl, hn3, fs, c3, hl3, r3⟩ := hr3
        have et : oTuple [.ref n3] st3 = .ok (.tup fs) st3 := by
          unfold oTuple
          dsimp only
          rw [show seqOf st3 (.ref n3) = some fs from getL_of c3]
          rfl
        rw [et]
        refine ⟨A, _, q3, (Stp.kpv (hv3.set i ?_) kp_set).le (by omega)⟩
        exact .tup hl3 (r3.av fun m _ z => .inl z)
end Pd
set_option maxRecDepth 100000
set_option maxHeartbeats 4000000
namespace Pd
open PySem PySem.Spec PyProof.Rows L2
theorem log2_of_bits {n : Int} {k : Nat} (h : Builtin.Int.intBits n ≤ k) : n.natAbs.log2 ≤ k := by
  unfold Builtin.Int.intBits at h
  split at h
  · rename_i e
    have : n.natAbs = 0 := by
      first
        | (have := eq_of_beq e; omega)
        | omega
        | simp_all
    rw [this]
    exact Nat.zero_le _
  · omega
theorem fz_rds {K : PySem.W.Frag} {f : List Addr} {H : Hp} : ∀ ns : List Int, RDs K f H (ns.map .int) (ns.map V.int)
  | [] => .nil
  | n :: ns => .cons (.int n) (fz_rds ns)
theorem fz_reps {Z : Av} {b : Nat} {st : Store} : ∀ ns : List Int, Reps Z b st (ns.map .int) (ns.map .int)
  | [] => .nil
  | n :: ns => .cons (.int n) (fz_reps ns)
/-- a law over a head by facts, read by value -/
theorem walk_ofV {l : PySem.W.OpenLaw} {n k c : Nat} {q : Program} {loose : List Str} {XP : (Str → Option Value) → Heap → Prop} {YP : World → Heap → Prop} {d : DefRec} {x fx : Str} {st : Stmt} {F : DFn} {W : VFn}
    (hn : l.most = some n) (hn2 : n ≤ sizeLine) (hdf : d.params.defaults = []) (hr : Room k callerA) (hx : d.name = fx)
    (hb : ∀ (kV doc pm : Value) (an : Option Addr) (cdv ct : Value) (us : List Value), us.length = 1 → bindArgs (PySem.W.fnOf fx fx (defArgs st) (defBody st) (defScope st) .none kV doc pm an cdv ct) ⟨us, []⟩ = pure (([x] : List Str).zip us))
    (ok : ∀ (w : World) (mg : Str → Option Value) (h : Heap), YP w h → h.Ns mainGlobals mg → ∃ K : PySem.W.Frag, K.In h ∧ DOk l.prog w K mg CX0 XX0 k fx st [x] F)
    (fok : FOk 1 c F W) (hc : c ≤ capN)
    (hW : ∀ ns : List Int, ns.length ≤ n → (∀ z ∈ ns, z.natAbs.log2 ≤ 1048576) → W [.fz (ns.map .int)] (fun v => v = .bl true) (fun _ => False)) :
    PySem.W.WalkO q loose XP YP l.row.toRowW d [] (fun f vs => PySem.call f vs) := by
  refine Att.attach_callB hn hdf fun w s₀ s₁ mg mb fa o pm cd doc a vs ns G Y _ _ _ gm hobj hints hlen hbits hg => ?_
  obtain ⟨K, KX, f, fd, FD, hm, bi, ex⟩ := ok w mg _ Y G.T.g
  rw [hx] at gm
  have e : fa = f := by
    rw [gm] at hm
    have := Option.some.inj hm
    injection this
  subst e
  refine law_end KX G.T.g G.T.b G.T.builtins G.T.nolimit hg hobj hints (Nat.le_trans hlen hn2) hr ex (fun s u => FunD.bindsA (ps := [x]) FD hb s [u] rfl) (fun H hO hS => ?_) fun H e s' h => h
  have hz : ns.length ≤ sizeLine := Nat.le_trans hlen hn2
  refine ⟨[], [], [.fz (ns.map .int)], ⟨rfl, List.nodup_nil, fun m o b e => by cases e⟩, .cons (.fz hS (by rw [List.length_map]; exact hz) (fz_rds ns)) .nil, rfl, ?_⟩
  have h := fok noW 0 [] [.fz (ns.map .int)] [.fz (ns.map .int)] _ _ (by omega) (fun m z => z.elim) rfl (.cons (.fz (by rw [List.length_map]; exact hz) (fz_reps ns)) .nil) (hW ns hlen fun z hz => log2_of_bits (hbits z hz))
  cases ef : F [.fz (ns.map .int)] [] with
  | ok d st' =>
    rw [ef] at h
    obtain ⟨v, rfl, _, hr⟩ := h
    rw [hr.bld]
    intro f' H' b hx ht hd
    cases hd
    rfl
  | exc e st' =>
    rw [ef] at h
    obtain ⟨_, h, _⟩ := h
    exact h.elim
  | err => rw [ef] at h; exact h.elim
end Pd
set_option maxRecDepth 100000
set_option maxHeartbeats 400000
namespace Pd
open PySem PySem.Spec PyProof.Rows L2
end Pd
set_option maxRecDepth 100000
set_option maxHeartbeats 400000
namespace SrtT
open PySem PySem.Spec PyProof.Rows L2 SrtO
def IsTI (h : Heap) (v : Value) (ns : List Int) : Prop := ∃ a o its n, v = .ref a ∧ h.get? a = some o ∧ o.cls = .type "tuple" ∧ o.data = .seq its n ∧ IntsAre its.toList ns
theorem IsTI.keeps {h h' : Heap} {v : Value} {ns : List Int} (p : IsTI h v ns) (k : ∀ b o, h.get? b = some o → o.cls = .type "tuple" → h'.get? b = some o) : IsTI h' v ns := by
  obtain ⟨a, o, its, n, e, ho, hc, r⟩ := p
  exact ⟨a, o, its, n, e, k _ _ ho hc, hc, r⟩
end SrtT
set_option maxRecDepth 100000
set_option maxHeartbeats 400000
namespace L2
open PySem PySem.Spec PyProof.Rows SrtT
end L2
set_option maxRecDepth 100000
set_option maxHeartbeats 400000
namespace Pd
open PySem PySem.Spec PyProof.Rows L2 SrtT
end Pd
set_option maxRecDepth 100000
set_option maxHeartbeats 400000
namespace Pd
open PySem PySem.Spec PyProof.Rows L2
end Pd
set_option maxRecDepth 100000
set_option maxHeartbeats 400000
namespace Pd
open PySem PySem.Spec PyProof.Rows L2
end Pd
set_option maxRecDepth 100000
set_option maxHeartbeats 4000000
namespace Pd
open PySem PySem.Spec PyProof.Rows L2
end Pd
set_option maxRecDepth 100000
set_option maxHeartbeats 4000000
namespace Pd
open PySem PySem.Spec PyProof.Rows L2
end Pd
set_option maxRecDepth 100000
set_option maxHeartbeats 4000000
namespace Pd
open PySem PySem.Spec PyProof.Rows L2
end Pd
set_option maxRecDepth 100000
set_option maxHeartbeats 400000
namespace Pd
open PySem PySem.Spec PyProof.Rows L2 SrtT
end Pd
set_option maxRecDepth 100000
set_option maxHeartbeats 400000
namespace Pd
open PySem PySem.Spec PyProof.Rows L2
end Pd
set_option maxRecDepth 100000
set_option maxHeartbeats 400000
namespace Pd
open PySem PySem.Spec PyProof.Rows L2
end Pd
set_option maxRecDepth 100000
set_option maxHeartbeats 400000
namespace Pd
open PySem PySem.Spec PyProof.Rows L2
end Pd
set_option maxRecDepth 100000
set_option maxHeartbeats 400000
namespace Pd
open PySem PySem.Spec PyProof.Rows L2
end Pd
set_option maxRecDepth 100000
set_option maxHeartbeats 400000
namespace Pd
open PySem PySem.Spec PyProof.Rows L2
end Pd
set_option maxRecDepth 100000
set_option maxHeartbeats 400000
namespace Pd
open PySem PySem.Spec PyProof.Rows L2
end Pd
set_option maxRecDepth 100000
set_option maxHeartbeats 400000
namespace Pd
open PySem PySem.Spec PyProof.Rows L2
section
variable {Z : Av} {A : Ow} {b : Nat} {st st0 : Store} {u : UEnv} {r : Env'} {d : D} {v : U}
theorem RelK.out (hv : RV Z A b u r st) (h : RelK .weak Z A b st0 st d v) : Rep Z b st d v := by
  rcases h with h | ⟨i, n, e1, rfl, h⟩
  · exact h.av fun _ _ z => .inl z
  · exact (h.av fun _ _ z => .inl z).rep (hv.nz i n e1).1
end
end Pd
set_option maxRecDepth 100000
set_option maxHeartbeats 400000
namespace Pd
open PySem PySem.Spec PyProof.Rows L2
def FPostF (Z : Av) (b b' : Nat) (st : Store) (res : Res D) (Q : U → Prop) (X : VX) : Prop := match res with
  | .ok d st' => ∃ v, Q v ∧ Gx b b' st st' ∧ ∃ n, d = .ref n ∧ st.length ≤ n ∧ Cont (fun m => Z m ∨ m = n) b' st' n v
  | .exc e st' => ∃ x, X x ∧ Gx b b' st st' ∧ RelX Z b' st' e x
  | .err => False
def FOkF (n c : Nat) (F : DFn) (W : VFn) : Prop := ∀ (Z : Av) (b : Nat) (st : Store) (ds : List D) (us : List U) (Q : U → Prop) (X : VX), b + c ≤ capN → (∀ m, Z m → m < st.length) → us.length = n → Reps Z b st ds us → W us Q X → FPostF Z b (b + c) st (F ds st) Q X
theorem FOkF.le {n c c' : Nat} {F : DFn} {W : VFn} (h : FOkF n c F W) (hc : c ≤ c') : FOkF n c' F W := fun Z b st ds us Q X hcap hz hn hr q => by
  have h := h Z b st ds us Q X (by omega) hz hn hr q
  have hb : b + c ≤ b + c' := by omega
  cases e : F ds st with
  | ok d st' => rw [e] at h; obtain ⟨v, q, g, n, rfl, hn, r⟩ := h; exact ⟨v, q, g.b_le hb, n, rfl, hn, r.gx (.le hb)⟩
  | exc d st' => rw [e] at h; obtain ⟨v, q, g, r⟩ := h; exact ⟨v, q, g.b_le hb, r.gx (Z' := Z) (.le hb)⟩
  | err => rw [e] at h; exact h
theorem FOkF.ok {n c : Nat} {F : DFn} {W : VFn} (h : FOkF n c F W) : FOk n c F W := fun Z b st ds us Q X hcap hz hn hr q => by
  have h := h Z b st ds us Q X hcap hz hn hr q
  cases e : F ds st with
  | ok d st' =>
    rw [e] at h
    obtain ⟨v, q, g, n, rfl, hn, r⟩ := h
    refine ⟨v, q, g, (r.av fun m _ z => .inl z).rep fun z => ?_⟩
    have := hz n z
    omega
  | exc d st' => rw [e] at h; exact h
  | err => rw [e] at h; exact h
end Pd
set_option maxRecDepth 100000
set_option maxHeartbeats 400000
namespace Pd
open PySem PySem.Spec PyProof.Rows L2 SrtT
end Pd
set_option maxRecDepth 100000
set_option maxHeartbeats 4000000
namespace Pd
open PySem PySem.Spec PyProof.Rows L2
end Pd
set_option maxRecDepth 100000
set_option maxHeartbeats 400000
namespace Pd
open PySem PySem.Spec PyProof.Rows L2
end Pd
set_option maxRecDepth 100000
set_option maxHeartbeats 400000
namespace Pd
open PySem PySem.Spec PyProof.Rows L2
theorem isSq.at_ {h h' : Heap} {k : Bool} {a : Addr} {its : Array Value} (x : isSq k h a its) (e : ∀ o, h.get? a = some o → h'.get? a = some o) : isSq k h' a its := by
  cases k with
  | true => obtain ⟨o, ho, r⟩ := (show h.IsTuple a its from x); exact show h'.IsTuple a its from ⟨o, e o ho, r⟩
  | false => obtain ⟨o, ho, r⟩ := (show h.IsList a its from x); exact show h'.IsList a its from ⟨o, e o ho, r⟩
/-- two lists or tuples under a zip -/
structure ZC where
  (z TI TO i1 i2 l1 l2 : Addr)
  (k1 k2 : Bool)
  (xs ys : Array Value)
namespace ZC
variable (c : ZC)
/-- behind i turns: the zip's own parts -/
structure At (i : Nat) (h : Heap) : Prop where
  ins : IsTupOf2 h c.TI (.ref c.i1) (.ref c.i2)
  it1 : itSt c.k1 h c.i1 c.l1 i
  sq1 : isSq c.k1 h c.l1 c.xs
  it2 : itSt c.k2 h c.i2 c.l2 i
  sq2 : isSq c.k2 h c.l2 c.ys
/-- the pair it laid last: none so far, or one that is still held -/
inductive Last (h : Heap) : Option Addr → Prop where
  | new (a b : Value) : IsZip h c.z c.TI c.TO .none → IsTupOf2 h c.TO a b → Last h none
  | held (T : Addr) (f : Bool) (o : Obj) : IsZipHeld h c.z c.TI c.TO T f → h.get? T = some o → T ≠ c.z → T ≠ c.i1 → T ≠ c.i2 → Last h (some T)
def reads : List Addr := [c.z, c.TI, c.TO, c.i1, c.i2, c.l1, c.l2]
variable {c} {h h' : Heap} {i : Nat} {T : Option Addr}
theorem At.keep (x : c.At i h) (e : ∀ b ∈ c.reads, ∀ o, h.get? b = some o → h'.get? b = some o) : c.At i h' :=
  ⟨e _ (by simp [reads]) _ x.ins, x.it1.at_ (e _ (by simp [reads])), x.sq1.at_ (e _ (by simp [reads])), x.it2.at_ (e _ (by simp [reads])), x.sq2.at_ (e _ (by simp [reads]))⟩
theorem Last.keep (x : c.Last h T) (e : ∀ b, b ∈ c.reads ∨ T = some b → ∀ o, h.get? b = some o → h'.get? b = some o) : c.Last h' T := by
  cases x with
  | new a b hz ho => exact .new a b (e _ (.inl (by simp [reads])) _ hz) (e _ (.inl (by simp [reads])) _ ho)
  | held T f o hz ho r1 r2 r3 => exact .held T f o (e _ (.inl (by simp [reads])) _ hz) (e _ (.inr rfl) _ ho) r1 r2 r3
theorem Last.type {s : Shared} (x : c.Last s.heap T) : s.TypeIs (.ref c.z) "zip" := by
  cases x with
  | new _ _ hz _ => exact ⟨_, hz, rfl⟩
  | held _ _ _ hz _ _ _ _ => exact ⟨_, hz, rfl⟩
end ZC
end Pd
set_option maxRecDepth 100000
set_option maxHeartbeats 400000
namespace Pd
open PySem PySem.Spec PyProof.Rows L2
end Pd
set_option maxRecDepth 100000
set_option maxHeartbeats 4000000
namespace Pd
open PySem PySem.Spec PyProof.Rows L2
end Pd
set_option maxRecDepth 100000
set_option maxHeartbeats 400000
namespace Pd
open PySem PySem.Spec PyProof.Rows L2
abbrev Tp : Type := Str × List Int
def tpB (K : PySem.W.Frag) (t : Tp) : Bool := He.tupB K t.1 (t.2.map He.Dv.int)
structure SaysX (fa : List He.Fa) (fn : List He.DefD) (ts : List Tp) (K : PySem.W.Frag) : Prop where
  d : He.SaysD fa fn K
  t : (ts.all fun t => tpB K t) = true
section
variable {fa : List He.Fa} {fn : List He.DefD} {ts : List Tp} {K : PySem.W.Frag}
theorem SaysX.fact (c : SaysX fa fn ts K) (i : Nat) {f : He.Fa} (h : fa[i]? = some f := by rfl) : f.ok K = true := c.d.fact i h
theorem SaysX.def_ (c : SaysX fa fn ts K) (i : Nat) {d : He.DefD} (h : fn[i]? = some d := by rfl) : ∃ fd, FunD K d.name d.qual d.params d.body d.scope (d.dvs K) (d.kws K) (He.fAd K d.at_) fd := c.d.def_ i h
theorem SaysX.tup (c : SaysX fa fn ts K) (i : Nat) {t : Tp} (h : ts[i]? = some t := by rfl) (H : Hp) : SqT K H (He.ga K t.1) (t.2.map V.int) := by
  have h1 := List.all_eq_true.mp c.t t (List.mem_of_getElem? h)
  have h2 := He.tupB_ok (K := K) (x := t.1) (vs := t.2.map He.Dv.int) h1 H
  rw [List.map_map] at h2
  exact h2
end
end Pd
set_option maxRecDepth 100000
set_option maxHeartbeats 4000000
namespace Pd
open PySem PySem.Spec PyProof.Rows L2
end Pd
set_option maxRecDepth 100000
set_option maxHeartbeats 4000000
namespace Pd
open PySem PySem.Spec PyProof.Rows L2
section
variable {K : PySem.W.Frag} {E : XE} {it it1 : DIt} {g g1 : DG} {sl sl1 : List Nat} {t t1 : TG} {tt : DT} {te : DE}
/-- what holds of the new list along the way -/
structure Half (K : PySem.W.Frag) (D : Addr) (f1 : List Addr) (H1 : Hp) (f : List Addr) (H : Hp) (st : Store) (acc : List Pd.D) (vs : List V) : Prop where
  x : Ext f1 H1 f H
  t : RSt K f H st
  d : H D = some (.lst vs)
  n : D ∉ f
  r : RDs K f H acc vs
  l : acc.length ≤ sizeLine
theorem Half.go {D : Addr} {f1 f f' : List Addr} {H1 H H' : Hp} {st st' : Store} {acc : List Pd.D} {vs : List V} (h : Half K D f1 H1 f H st acc vs) (y : Ext f H f' H') (t' : RSt K f' H' st') : Half K D f1 H1 f' H' st' acc vs := ⟨h.x.trans y, t', y.fr _ _ h.d h.n, (fun m => by
  have z := y.nw D m h.n
  rw [h.d] at z
  cases z), h.r.up y.toEx0, h.l⟩
theorem Half.app {D : Addr} {f1 f : List Addr} {H1 H : Hp} {st : Store} {acc : List Pd.D} {vs : List V} {d : Pd.D} {w : V} (h : Half K D f1 H1 f H st acc vs) (hD : H1 D = none) (hd : RD K f H d w) (hl : acc.length < sizeLine) : Half K D f1 H1 f (upd H D (.lst (vs ++ [w]))) st (acc ++ [d]) (vs ++ [w]) ∧ Ex0 f H f (upd H D (.lst (vs ++ [w]))) := by
  have hne : ∀ c ∈ f, c ≠ D := fun c hc e => h.n (e ▸ hc)
  have x5 : Ex0 f H f (upd H D (.lst (vs ++ [w]))) := ⟨List.prefix_refl f, fun b o hb nm => by
    rw [upd_ne fun e => by
      rw [e, h.d] at hb
      cases hb
      exact nm trivial]
    exact hb⟩
  have fr : ∀ b o, H1 b = some o → b ∉ f1 → upd H D (.lst (vs ++ [w])) b = some o := fun b o hb hn => by
    rw [upd_ne fun e => by
      rw [e, hD] at hb
      cases hb]
    exact h.x.fr _ _ hb hn
  exact ⟨⟨⟨⟨h.x.pre, fun b o hb nm => x5.im _ _ (h.x.im _ _ hb nm) nm⟩, h.x.nw, fr⟩, ⟨h.t.len, h.t.nd, fun n o c q1 q2 => (h.t.at_ n o c q1 q2).up x5 (upd_ne (hne c (List.mem_of_getElem? q2)))⟩, upd_same, h.n, (h.r.app (.cons hd .nil)).up x5, by rw [List.length_append]; exact hl⟩, x5⟩
end
end Pd
set_option maxRecDepth 100000
set_option maxHeartbeats 400000
namespace Pd
open PySem PySem.Spec PyProof.Rows L2
end Pd
set_option maxRecDepth 100000
set_option maxHeartbeats 4000000
namespace Pd
open PySem PySem.Spec PyProof.Rows L2
theorem zipU_map {α β : Type} (f : α → U) (g : β → U) : ∀ (a : List α) (b : List β), zipU (a.map f) (b.map g) = (a.zip b).map fun p => .tup [f p.1, g p.2]
  | [], _ => rfl
  | _ :: _, [] => rfl
  | x :: a, y :: b => by
    show U.tup [f x, g y] :: zipU (a.map f) (b.map g) = _
    rw [zipU_map f g a b]
    rfl
theorem enU_map {α : Type} (f : α → U) : ∀ (i : Nat) (a : List α), enU i (a.map f) = (a.zipIdx i).map fun p => .tup [.int (p.2 : Nat), f p.1]
  | _, [] => rfl
  | i, x :: a => by
    show U.tup [.int (i : Nat), f x] :: enU (i + 1) (a.map f) = _
    rw [enU_map f (i + 1) a]
    rfl
theorem rgOk_of {a b : Int} (h1 : -(2 ^ 60) ≤ a) (h2 : a < 2 ^ 60) (h3 : -(2 ^ 60) ≤ b) (h4 : b < 2 ^ 60) (h5 : (b - a).toNat ≤ sizeLine) : rgOk a b = true := by
  unfold rgOk
  simp only [Bool.and_eq_true, decide_eq_true_eq]
  omega
theorem atI_nat {α : Type} {l : List α} {i : Nat} {x : α} (h : l[i]? = some x) : atI l ((i : Nat) : Int) = some x := by
  unfold atI ixN
  have hl := (List.getElem?_eq_some_iff.mp h).1
  rw [if_pos (by omega), if_pos (by omega)]
  show l[((i : Nat) : Int).toNat]? = _
  rw [Int.toNat_natCast]
  exact h
structure Dat (n k : Nat) (v : U) (p : PyData) : Prop where
  to : ∀ m, n ≤ m → v.toP m = some p
  sh : p.showable = true
  le : p.leavesShort 13 = true
  bk : p.bulk ≤ k
theorem Dat.mono {n k n' k' : Nat} {v : U} {p : PyData} (h : Dat n k v p) (hn : n ≤ n') (hk : k ≤ k') : Dat n' k' v p := ⟨fun m hm => h.to m (by omega), h.sh, h.le, Nat.le_trans h.bk hk⟩
theorem dat_int {i : Int} (h : i.natAbs < 10 ^ 12) : Dat 1 0 (.int i) (.int i) := by
  refine ⟨fun m hm => ?_, ?_, ?_, Nat.le_refl _⟩
  · cases m with
    | zero => omega
    | succ m => rfl
  · unfold PyData.showable
    refine decide_eq_true ?_
    by_cases h0 : i.natAbs = 0
    · rw [h0]; decide
    · have h1 : i.natAbs < 2 ^ 1920 := Nat.lt_trans h (by decide)
      exact (Nat.log2_lt h0).mpr h1
  · unfold PyData.leavesShort
    exact decide_eq_true (PyData.shown_int_le h)
theorem dat_non : Dat 1 0 .non .none := ⟨fun m hm => by cases m with
  | zero => omega
  | succ m => rfl, rfl, rfl, Nat.le_refl _⟩
structure Dats (n k : Nat) (vs : List U) (ps : List PyData) : Prop where
  to : ∀ m, n ≤ m → vs.mapM (U.toP m) = some ps
  sh : PyData.showableAll ps = true
  le : PyData.leavesShortAll 13 ps = true
  bk : PyData.bulkAll ps ≤ k
theorem dats_nil : Dats 0 0 [] [] := ⟨fun m _ => rfl, rfl, rfl, Nat.le_refl _⟩
theorem dats_cons {n k n' k' : Nat} {v : U} {p : PyData} {vs : List U} {ps : List PyData} (h : Dat n k v p) (hs : Dats n' k' vs ps) : Dats (max n n') (k + 1 + k') (v :: vs) (p :: ps) := by
  refine ⟨fun m hm => ?_, ?_, ?_, ?_⟩
  · rw [List.mapM_cons, h.to m (by omega), hs.to m (by omega)]
    rfl
  · unfold PyData.showableAll
    rw [h.sh, hs.sh]
    rfl
  · unfold PyData.leavesShortAll
    rw [h.le, hs.le]
    rfl
  · unfold PyData.bulkAll
    have := h.bk
    have := hs.bk
    omega
theorem Dats.mono {n k n' k' : Nat} {v : List U} {p : List PyData} (h : Dats n k v p) (hn : n ≤ n') (hk : k ≤ k') : Dats n' k' v p := ⟨fun m hm => h.to m (by omega), h.sh, h.le, Nat.le_trans h.bk hk⟩
theorem dat_tup {n k : Nat} {vs : List U} {ps : List PyData} (h : Dats n k vs ps) : Dat (n + 1) k (.tup vs) (.tuple ps) := by
  refine ⟨fun m hm => ?_, by unfold PyData.showable; exact h.sh, by unfold PyData.leavesShort; exact h.le, by unfold PyData.bulk; exact h.bk⟩
  cases m with
  | zero => omega
  | succ m =>
    show (vs.mapM (U.toP m)).map PyData.tuple = _
    rw [h.to m (by omega)]
    rfl
theorem dat_lst {n k : Nat} {vs : List U} {ps : List PyData} (h : Dats n k vs ps) : Dat (n + 1) k (.lst vs) (.list ps) := by
  refine ⟨fun m hm => ?_, by unfold PyData.showable; exact h.sh, by unfold PyData.leavesShort; exact h.le, by unfold PyData.bulk; exact h.bk⟩
  cases m with
  | zero => omega
  | succ m =>
    show (vs.mapM (U.toP m)).map PyData.list = _
    rw [h.to m (by omega)]
    rfl
theorem ints_mapM (l : List Int) : (l.map U.int).mapM U.asInt = some l := by
  induction l with
  | nil => rfl
  | cons a l ih => rw [List.map_cons, List.mapM_cons, ih]; rfl
end Pd
set_option maxRecDepth 100000
set_option maxHeartbeats 400000
namespace Pd
open PySem PySem.Spec PyProof.Rows L2
end Pd
set_option maxRecDepth 100000
set_option maxHeartbeats 400000
namespace Pd
open PySem PySem.Spec PyProof.Rows L2
end Pd
set_option maxRecDepth 100000
set_option maxHeartbeats 400000
namespace Pd
open PySem PySem.Spec PyProof.Rows L2
end Pd
set_option maxRecDepth 100000
set_option maxHeartbeats 400000
namespace Pd
open PySem PySem.Spec PyProof.Rows L2
end Pd
set_option maxRecDepth 100000
set_option maxHeartbeats 400000
namespace Pd
open PySem PySem.Spec PyProof.Rows L2
def RelS : Rl (List D) (List U) := fun Z A b _ st ds us => Reps (avo Z A) b st ds us ∧ us.length ≤ sizeLine
section
variable {ci cj ct ce : Nat} {it it1 : DIt} {wi wi1 : VI} {own own1 M M1 : List Nat} {g g1 : DG} {gu gu1 : UG} {tt : DT} {wt : VT} {te : DE} {we : VE}
theorem RelS.up : RUp RelS := ⟨fun {Z A b b' st0 st st' d v} h g => ⟨h.1.gx g, h.2⟩, fun _ h => h⟩
end
end Pd
set_option maxRecDepth 100000
set_option maxHeartbeats 4000000
namespace Ty
open PySem PySem.Spec PyProof.Rows L2 Pd
/-- an exception -/
structure TX where
  cls : Str
  fs : List (Str × (Int ⊕ Str))
def fU : Int ⊕ Str → U
  | .inl i => .int i
  | .inr s => .str s
def TX.u (x : TX) : UX := ⟨x.cls, x.fs.map fun p => (p.1, fU p.2)⟩
abbrev M (α : Type) := (α → Prop) → (TX → Prop) → Prop
section
variable {α β γ δ : Type}
def pu (a : α) : M α := fun Q _ => Q a
def bi (m : M α) (k : α → M β) : M β := fun Q X => m (fun a => k a Q X) X
def rq (c : Prop) (a : α) : M α := fun Q _ => c ∧ Q a
def no : M α := fun _ _ => False
def op? : Option α → M α
  | some a => pu a
  | none => no
theorem pu_bi (a : α) (k : α → M β) : bi (pu a) k = k a := rfl
theorem bi_pu (m : M α) : bi m pu = m := rfl
theorem rq_true {c : Prop} (h : c) (a : α) : rq c a = pu a := by
  funext Q X
  exact propext ⟨fun z => z.2, fun z => ⟨h, z⟩⟩
theorem op?_some {o : Option α} {a : α} (h : o = some a) : op? o = pu a := by rw [h]; rfl
end
section
variable {α β γ δ : Type}
def tI : Int → U := U.int
def tB : Bool → U := U.bl
def tN : Unit → U := fun _ => .non
def tG : Unit → U := fun _ => .gen
def tT (e : α → U) : List α → U := fun l => .tup (l.map e)
def tL (e : α → U) : List α → U := fun l => .lst (l.map e)
def tZ (e : α → U) : List α → U := fun l => .fz (l.map e)
def tP (e : α → U) (f : β → U) : α × β → U := fun p => .tup [e p.1, f p.2]
def tP3 (e : α → U) (f : β → U) (g : γ → U) : α × β × γ → U := fun p => .tup [e p.1, f p.2.1, g p.2.2]
def tO (e : α → U) : Option α → U
  | none => .non
  | some a => e a
def tMap (e : α → U) : List α → List U := List.map e
end
/-- what w reads is what m says -/
def TG {α β : Type} (u : UEnv) (w : VG β) (m : M α) (enc : α → β) : Prop := ∀ (Q : β → Prop) (X : VX) (C : α → Prop) (E : TX → Prop), (∀ a, C a → Q (enc a)) → (∀ x, E x → X x.u) → m C E → w u Q X
/-- .. and it is there -/
def TP {β : Type} (u : UEnv) (w : VG β) (b : β) : Prop := ∀ (Q : β → Prop) (X : VX), Q b → w u Q X
section
variable {α β γ δ ε : Type} {u : UEnv}
theorem TG.pu {w : VG β} {enc : α → β} {a : α} (h : TP u w (enc a)) : TG u w (pu a) enc := fun Q X C E hC hE m => h Q X (hC a m)
theorem TG.mono {w : VG β} {enc : α → β} {m : M α} (h : TG u w m enc) {enc' : α → β} (e : ∀ a, enc a = enc' a) : TG u w m enc' := fun Q X C E hC hE hm => h Q X C E (fun a c => by rw [e]; exact hC a c) hE hm
theorem tp_var (i : Nat) {v : U} (h : u[i]? = some (some (v, false))) : TP u (vVar i) v := fun Q X q => by
  unfold vVar
  rw [h]
  exact q
theorem tp_varW (i : Nat) {v : U} {b : Bool} (h : u[i]? = some (some (v, b))) : TP u (vVarW i) v := fun Q X q => by
  unfold vVarW
  rw [h]
  cases b <;> exact q
theorem tp_c {v : U} : TP u (vC v) v := fun Q X q => q
def O2 (gv : VO2) (ea : α → U) (eb : β → U) (mo : α → β → M γ) (ec : γ → U) : Prop := ∀ a b Q (C : γ → Prop) (E : TX → Prop), (∀ c, C c → Q (ec c)) → mo a b C E → gv (ea a) (eb b) Q
def O2P (gv : VO2) (ea : α → U) (eb : β → U) (f : α → β → γ) (ec : γ → U) : Prop := ∀ a b Q, Q (ec (f a b)) → gv (ea a) (eb b) Q
def O1P (gv : VO1) (ea : α → U) (f : α → γ) (ec : γ → U) : Prop := ∀ a Q, Q (ec (f a)) → gv (ea a) Q
variable {gv gv' : VO2} {ea : α → U} {eb : β → U} {ec : γ → U} {mo : α → β → M γ} {f : α → β → γ} {wa wb wc : VE} {a : α} {b : β} {ma : M α} {mb : M β}
theorem O2P.m (h : O2P gv ea eb f ec) : O2 gv ea eb (fun a b => pu (f a b)) ec := fun a b Q C E hC m => h a b Q (hC _ m)
theorem tp_bin (h : O2P gv ea eb f ec) (ha : TP u wa (ea a)) (hb : TP u wb (eb b)) : TP u (vBin gv wa wb) (ec (f a b)) := fun Q X q => ha _ X (hb _ X (h a b Q q))
theorem tg_binPP (h : O2 gv ea eb mo ec) (ha : TP u wa (ea a)) (hb : TP u wb (eb b)) : TG u (vBin gv wa wb) (mo a b) ec := fun Q X C E hC hE m => ha _ X (hb _ X (h a b Q C E hC m))
theorem tg_binMP (h : O2 gv ea eb mo ec) (ha : TG u wa ma ea) (hb : TP u wb (eb b)) : TG u (vBin gv wa wb) (bi ma fun a => mo a b) ec := fun Q X C E hC hE m => ha _ X _ E (fun a m => hb _ X (h a b Q C E hC m)) hE m
theorem tg_binPM (h : O2 gv ea eb mo ec) (ha : TP u wa (ea a)) (hb : TG u wb mb eb) : TG u (vBin gv wa wb) (bi mb fun b => mo a b) ec := fun Q X C E hC hE m => ha _ X (hb _ X _ E (fun b m => h a b Q C E hC m) hE m)
theorem tg_binMM (h : O2 gv ea eb mo ec) (ha : TG u wa ma ea) (hb : TG u wb mb eb) : TG u (vBin gv wa wb) (bi ma fun a => bi mb fun b => mo a b) ec := fun Q X C E hC hE m => ha _ X _ E (fun a m => hb _ X _ E (fun b m => h a b Q C E hC m) hE m) hE m
theorem tg_un {gv : VO1} {f : α → γ} (h : O1P gv ea f ec) (ha : TG u wa ma ea) : TG u (vUn gv wa) (bi ma fun a => pu (f a)) ec := fun Q X C E hC hE m => ha _ X _ E (fun a m => h a Q (hC _ m)) hE m
theorem o_add : O2P vAdd tI tI (fun a b => a + b) tI := fun a b Q q => q
theorem o_sub : O2P vSub tI tI (fun a b => a - b) tI := fun a b Q q => q
theorem o_neg : O1P vNeg tI (fun a => -a) tI := fun a Q q => q
theorem o_cmp (g : Int → Int → Bool) : O2P (vCmp g) tI tI (fun a b => g a b) tB := fun a b Q q => q
def mulM (a b : Int) : M Int := rq (mulOk a b = true) (a * b)
def modM (a b : Int) : M Int := rq (0 < b) (a % b)
def powM (a b : Int) : M Int := rq (0 ≤ b ∧ b ≤ 1000000 ∧ a.natAbs < 2 ^ 64) (a ^ b.toNat)
theorem o_mul : O2 vMul tI tI mulM tI := fun a b Q C E hC m => ⟨m.1, hC _ m.2⟩
theorem o_mod : O2 vMod tI tI modM tI := fun a b Q C E hC m => ⟨m.1, hC _ m.2⟩
theorem o_pow : O2 vPow tI tI powM tI := fun a b Q C E hC m => ⟨m.1, hC _ m.2⟩
variable {e : α → U}
def catM (a b : List α) : M (List α) := rq (a.length + b.length ≤ sizeLine) (a ++ b)
theorem o_catT : O2 vAdd (tT e) (tT e) catM (tT e) := fun a b Q C E hC m => by
  have := hC _ m.2
  unfold tT at this ⊢
  rw [List.map_append] at this
  exact ⟨by rw [List.length_map, List.length_map]; exact m.1, this⟩
theorem o_catL : O2 vAdd (tL e) (tL e) catM (tL e) := fun a b Q C E hC m => by
  have := hC _ m.2
  unfold tL at this ⊢
  rw [List.map_append] at this
  exact ⟨by rw [List.length_map, List.length_map]; exact m.1, this⟩
def repM (a : List α) (k : Int) : M (List α) := rq (repOk a.length k = true) (List.replicate k.toNat a).flatten
theorem rep_map (e : α → U) (a : List α) : ∀ n, (List.replicate n (a.map e)).flatten = ((List.replicate n a).flatten).map e
  | 0 => rfl
  | n + 1 => by rw [List.replicate_succ, List.replicate_succ, List.flatten_cons, List.flatten_cons, List.map_append, rep_map e a n]
theorem o_repL : O2 vMul (tL e) tI repM (tL e) := fun a b Q C E hC m => by
  have := hC _ m.2
  unfold tL at this ⊢
  rw [← rep_map] at this
  exact ⟨by rw [List.length_map]; exact m.1, this⟩
theorem o_repLL : O2 vMulL (tL e) tI repM (tL e) := fun a b Q C E hC m => by
  have := hC _ m.2
  unfold tL at this ⊢
  rw [← rep_map] at this
  exact ⟨by rw [List.length_map]; exact m.1, this⟩
/-- an encoder whose values are walked -/
def Seq (s : List α → U) (e : α → U) : Prop := ∀ l, (s l).items = some (l.map e)
theorem seqT : Seq (tT e) e := fun _ => rfl
theorem seqL : Seq (tL e) e := fun _ => rfl
theorem seqZ : Seq (tZ e) e := fun _ => rfl
def ixM (l : List α) (i : Int) : M α := op? (atI l i)
theorem atI_map (e : α → U) (l : List α) (i : Int) : atI (l.map e) i = (atI l i).map e := by
  unfold atI
  rw [List.length_map]
  cases ixN l.length i with
  | none => rfl
  | some j => exact List.getElem?_map
theorem o_ix {s : List α → U} (hs : Seq s e) : O2 vIx s tI ixM e := fun l i Q C E hC m => by
  unfold vIx
  rw [hs l]
  show match atI (l.map e) i with
    | some x => Q x
    | none => False
  rw [atI_map]
  unfold ixM at m
  cases h : atI l i with
  | none => rw [h] at m; exact m.elim
  | some x => rw [h] at m; exact hC x m
def CmpN (n : Nat) (e : α → U) : Prop := ∃ tp : α → PyData, (∀ m, n ≤ m → ∀ a, (e a).toP m = some (tp a)) ∧ (∀ a b, PyData.eqv (tp a) (tp b) = true ↔ a = b)
theorem cmp_I : CmpN 1 tI := ⟨PyData.int, fun m hm a => by cases m with
  | zero => omega
  | succ m => rfl, fun a b => by show (a == b) = true ↔ _; simp⟩
theorem cmp_B : CmpN 1 tB := ⟨PyData.bool, fun m hm a => by cases m with
  | zero => omega
  | succ m => rfl, fun a b => by cases a <;> cases b <;> decide⟩
theorem mapM_tp {e : α → U} {tp : α → PyData} {m : Nat} (h : ∀ a, (e a).toP m = some (tp a)) : ∀ l : List α, (l.map e).mapM (U.toP m) = some (l.map tp)
  | [] => rfl
  | a :: l => by rw [List.map_cons, List.mapM_cons, h, mapM_tp h l]; rfl
theorem eqvAll_iff {tp : α → PyData} (h : ∀ a b, PyData.eqv (tp a) (tp b) = true ↔ a = b) : ∀ l m : List α, PyData.eqvAll (l.map tp) (m.map tp) = true ↔ l = m
  | [], [] => by simp [PyData.eqvAll]
  | [], _ :: _ => by simp [PyData.eqvAll]
  | _ :: _, [] => by simp [PyData.eqvAll]
  | a :: l, b :: m => by
    show (PyData.eqv (tp a) (tp b) && PyData.eqvAll (l.map tp) (m.map tp)) = true ↔ _
    rw [Bool.and_eq_true, h, eqvAll_iff h l m, List.cons.injEq]
theorem cmp_T {n : Nat} (h : CmpN n e) : CmpN (n + 1) (tT e) := by
  obtain ⟨tp, h1, h2⟩ := h
  refine ⟨fun l => .tuple (l.map tp), fun m hm l => ?_, fun l k => eqvAll_iff h2 l k⟩
  cases m with
  | zero => omega
  | succ m =>
    show ((l.map e).mapM (U.toP m)).map PyData.tuple = _
    rw [mapM_tp (h1 m (by omega))]
    rfl
theorem cmp_L {n : Nat} (h : CmpN n e) : CmpN (n + 1) (tL e) := by
  obtain ⟨tp, h1, h2⟩ := h
  refine ⟨fun l => .list (l.map tp), fun m hm l => ?_, fun l k => eqvAll_iff h2 l k⟩
  cases m with
  | zero => omega
  | succ m =>
    show ((l.map e).mapM (U.toP m)).map PyData.list = _
    rw [mapM_tp (h1 m (by omega))]
    rfl
section
variable [DecidableEq α] {n : Nat}
theorem o_eq (h : CmpN n e) (hn : n ≤ 64) : O2P vEq e e (fun a b => decide (a = b)) tB := fun a b Q q => by
  obtain ⟨tp, h1, h2⟩ := h
  unfold vEq vEqG
  rw [h1 64 hn, h1 64 hn]
  show Q (.bl (PyData.eqv (tp a) (tp b)))
  have : PyData.eqv (tp a) (tp b) = decide (a = b) := by rw [Bool.eq_iff_iff, h2, decide_eq_true_eq]
  rw [this]
  exact q
theorem o_ne (h : CmpN n e) (hn : n ≤ 64) : O2P vNe e e (fun a b => decide (a ≠ b)) tB := fun a b Q q => by
  obtain ⟨tp, h1, h2⟩ := h
  unfold vNe vEqG
  rw [h1 64 hn, h1 64 hn]
  show Q (.bl (!PyData.eqv (tp a) (tp b)))
  have : (!PyData.eqv (tp a) (tp b)) = decide (a ≠ b) := by rw [Bool.eq_iff_iff, Bool.not_eq_true', ← Bool.not_eq_true, h2, decide_eq_true_eq]
  rw [this]
  exact q
theorem any_eqv {tp : α → PyData} (h : ∀ a b, PyData.eqv (tp a) (tp b) = true ↔ a = b) (x : α) (l : List α) : ((l.map tp).any fun z => PyData.eqv z (tp x)) = decide (x ∈ l) := by
  rw [Bool.eq_iff_iff, List.any_eq_true, decide_eq_true_eq]
  constructor
  · rintro ⟨p, hp, e⟩
    obtain ⟨y, hy, rfl⟩ := List.mem_map.mp hp
    rw [h] at e
    exact e ▸ hy
  · exact fun hx => ⟨_, List.mem_map.mpr ⟨x, hx, rfl⟩, (h x x).mpr rfl⟩
theorem isIn_L (h : CmpN n e) (hn : n ≤ 63) (a : α) (l : List α) : isInU (e a) (tL e l) = some (decide (a ∈ l)) := by
  obtain ⟨tp, h1, h2⟩ := h
  show (match (e a).toP 64, (tL e l).toP 64 with
    | some p, some (.list ds) => some (ds.any fun z => PyData.eqv z p)
    | some p, some (.tuple ds) => some (ds.any fun z => PyData.eqv z p)
    | _, _ => none) = _
  rw [h1 64 (by omega), show (tL e l).toP 64 = some (.list (l.map tp)) by
    show ((l.map e).mapM (U.toP 63)).map PyData.list = _
    rw [mapM_tp (h1 63 hn)]
    rfl]
  try dsimp only
  rw [any_eqv h2]
theorem o_inL (h : CmpN n e) (hn : n ≤ 63) : O2P vIn e (tL e) (fun a l => decide (a ∈ l)) tB := fun a l Q q => by
  unfold vIn
  rw [isIn_L h hn]
  exact q
theorem o_notinL (h : CmpN n e) (hn : n ≤ 63) : O2P vNotIn e (tL e) (fun a l => !decide (a ∈ l)) tB := fun a l Q q => by
  unfold vNotIn
  rw [isIn_L h hn]
  exact q
end
/-- never None -/
def Nn (e : α → U) : Prop := ∀ a, (e a).isNon = false
theorem nn_T : Nn (tT e) := fun _ => rfl
theorem isNon_O (h : Nn e) (o : Option α) : (tO e o).isNon = o.isNone := by
  cases o with
  | none => rfl
  | some a => exact h a
theorem o_is (h : Nn e) : O2P vIs (tO e) tN (fun o _ => o.isNone) tB := fun o b Q q => ⟨rfl, by rw [isNon_O h]; exact q⟩
theorem o_isnot (h : Nn e) : O2P vIsNot (tO e) tN (fun o _ => !o.isNone) tB := fun o b Q q => ⟨rfl, by rw [isNon_O h]; exact q⟩
end
def likeM (x y : U) : M Bool := fun Q _ => match x.toP 64, y.toP 64 with
  | some p, some q => (p.showable = true ∧ p.shown.length ≤ sizeLine) ∧ (q.showable = true ∧ q.shown.length ≤ sizeLine) ∧ Q (p.shown == q.shown)
  | _, _ => False
theorem tg_like {u : UEnv} {x y : U} {wa wb : VE} (ha : TP u wa x) (hb : TP u wb y) : TG u (vBin vEqS (vL vRepr (vCons wa vNil)) (vL vRepr (vCons wb vNil))) (likeM x y) tB := fun Q X C E hC hE m => by
  refine ha _ X ?_
  show vRepr [x] (fun x => vL vRepr (vCons wb vNil) _ (fun y => vEqS x y Q) X)
  unfold likeM at m
  unfold vRepr
  try dsimp only
  cases h1 : x.toP 64 with
  | none => rw [h1] at m; exact m.elim
  | some p =>
    rw [h1] at m
    cases h2 : y.toP 64 with
    | none => rw [h2] at m; exact m.elim
    | some q =>
      rw [h2] at m
      refine ⟨m.1, hb _ X ?_⟩
      show vRepr [y] (fun y => vEqS _ y Q)
      unfold vRepr
      try dsimp only
      rw [h2]
      exact ⟨m.2.1, hC _ m.2.2⟩
theorem likeM_refl {n k : Nat} {x : U} {p : PyData} (h : Dat n k x p) (hn : n ≤ 64) (hk : k ≤ 2 ^ 20) : likeM x x = pu true := by
  have e := h.to 64 hn
  have hs : p.showable = true ∧ p.shown.length ≤ sizeLine := ⟨h.sh, PyData.shown_fits_bulk (B := 13) (by decide) (by decide) h.le (Nat.le_trans h.bk hk)⟩
  funext Q X
  unfold likeM pu
  rw [e]
  try dsimp only
  rw [beq_self_eq_true]
  exact propext ⟨fun z => z.2.2, fun z => ⟨hs, hs, z⟩⟩
section
variable {α β γ δ : Type} {u : UEnv} {w wa wb wc : VE} {t s : VT} {b c : Bool} {m ma mb : M Bool}
theorem tp_B (h : TP u w (tB b)) : TP u (vB w) b := fun Q X q => h _ X q
theorem tg_B (h : TG u w m tB) : TG u (vB w) m id := fun Q X C E hC hE m => h _ X C E (fun a c => hC a c) hE m
theorem tg_truB (h : TG u w m tB) : TG u (vTru w) m id := fun Q X C E hC hE m => h _ X C E (fun a c => hC a c) hE m
theorem tg_truI {m : M Int} (h : TG u w m tI) : TG u (vTru w) (bi m fun i => pu (i != 0)) id := fun Q X C E hC hE m => h _ X _ E (fun a c => hC _ c) hE m
theorem tru_map (e : α → U) (l : List α) : (!(l.map e).isEmpty) = !l.isEmpty := by cases l <;> rfl
theorem tp_truT {e : α → U} {l : List α} (h : TP u w (tT e l)) : TP u (vTru w) (!l.isEmpty) := fun Q X q => h _ X (by
  show Q (!(l.map e).isEmpty)
  rw [tru_map]; exact q)
theorem tg_andP (ha : TP u t b) (hb : TG u s mb id) : TG u (vAnd t s) (if b = true then mb else pu false) id := fun Q X C E hC hE m => ha _ X (by
  cases b with
  | true => rw [if_pos rfl] at m ⊢; exact hb _ X C E hC hE m
  | false => rw [if_neg (by decide)] at m ⊢; exact hC _ m)
theorem tg_or (ha : TG u t ma id) (hb : TG u s mb id) : TG u (vOr t s) (bi ma fun c => if c = true then pu true else mb) id := fun Q X C E hC hE m => ha _ X _ E (fun c m => by
  try dsimp only
  cases c with
  | true => rw [if_pos rfl] at m; exact hC _ m
  | false => rw [if_neg (by decide)] at m; exact hb _ X C E hC hE m) hE m
theorem tg_nott (ha : TG u t ma id) : TG u (vNot t) (bi ma fun c => pu (!c)) id := fun Q X C E hC hE m => ha _ X _ E (fun c m => hC _ m) hE m
theorem tg_andV (ha : TG u wa ma tB) (hb : TG u wb mb tB) : TG u (vAndV wa wb) (bi ma fun c => if c = true then mb else pu false) tB := fun Q X C E hC hE m => ha _ X _ E (fun c m => by
  show if c = true then wb u Q X else Q (.bl false)
  cases c with
  | true => rw [if_pos rfl] at m ⊢; exact hb _ X C E hC hE m
  | false => rw [if_neg (by decide)] at m ⊢; exact hC _ m) hE m
theorem tp_ifE {e : α → U} {x y : α} (ht : TP u t b) (ha : TP u wa (e x)) (hb : TP u wb (e y)) : TP u (vIf t wa wb) (e (if b = true then x else y)) := fun Q X q => ht _ X (by
  cases b with
  | true => rw [if_pos rfl] at q ⊢; exact ha _ X q
  | false => rw [if_neg (by decide)] at q ⊢; exact hb _ X q)
theorem tg_if {e : α → U} {mx my : M α} (ht : TG u t m id) (ha : TG u wa mx e) (hb : TG u wb my e) : TG u (vIf t wa wb) (bi m fun c => if c = true then mx else my) e := fun Q X C E hC hE m => ht _ X _ E (fun c m => by
  dsimp only [id]
  cases c with
  | true => rw [if_pos rfl] at m ⊢; exact ha _ X C E hC hE m
  | false => rw [if_neg (by decide)] at m ⊢; exact hb _ X C E hC hE m) hE m
theorem tg_ifP {e : α → U} {mx my : M α} (ht : TP u t b) (ha : TG u wa mx e) (hb : TG u wb my e) : TG u (vIf t wa wb) (if b = true then mx else my) e := fun Q X C E hC hE m => ht _ X (by
  cases b with
  | true => rw [if_pos rfl] at m ⊢; exact ha _ X C E hC hE m
  | false => rw [if_neg (by decide)] at m ⊢; exact hb _ X C E hC hE m)
end
section
variable {α β γ δ : Type} {u : UEnv} {w wa wb : VE} {l : VA}
theorem tpa_nil : TP u vNil ([] : List U) := fun Q X q => q
theorem tpa_cons {v : U} {us : List U} (h : TP u w v) (hl : TP u l us) : TP u (vCons w l) (v :: us) := fun Q X q => h _ X (hl _ X q)
theorem tga_consM {e : α → U} {f : β → List U} {m : M α} {ml : M β} (h : TG u w m e) (hl : TG u l ml f) : TG u (vCons w l) (bi m fun x => bi ml fun y => pu (x, y)) (fun p => e p.1 :: f p.2) := fun Q X C E hC hE m => h _ X _ E (fun x m => hl _ X _ E (fun y m => hC _ m) hE m) hE m
theorem tga_consP {v : U} {f : β → List U} {ml : M β} (h : TP u w v) (hl : TG u l ml f) : TG u (vCons w l) ml (fun y => v :: f y) := fun Q X C E hC hE m => h _ X (hl _ X C E (fun y m => hC _ m) hE m)
theorem tga_last {e : α → U} {m : M α} {us : List U} (h : TG u w m e) (hl : TP u l us) : TG u (vCons w l) m (fun x => e x :: us) := fun Q X C E hC hE m => h _ X C E (fun x m => hl _ X (hC _ m)) hE m
def OL (gv : VOL) (us : List U) (v : U) : Prop := ∀ Q : U → Prop, Q v → gv us Q
theorem tp_L {gv : VOL} {us : List U} {v : U} (h : OL gv us v) (hl : TP u l us) : TP u (vL gv l) v := fun Q X q => hl _ X (h Q q)
theorem tg_L {gv : VOL} {ea : α → List U} {f : α → β} {eb : β → U} {m : M α} (h : ∀ a, OL gv (ea a) (eb (f a))) (hl : TG u l m ea) : TG u (vL gv l) (bi m fun a => pu (f a)) eb := fun Q X C E hC hE m => hl _ X _ E (fun a m => h a Q (hC _ m)) hE m
variable {e : α → U} {s : List α → U} {a : List α}
theorem l_len (hs : Seq s e) (a : List α) : OL vLen [s a] (tI (a.length : Nat)) := fun Q q => by
  unfold vLen
  try dsimp only
  rw [hs a]
  try dsimp only
  rw [List.length_map]
  exact q
theorem l_intI (i : Int) : OL vInt [tI i] (tI i) := fun Q q => q
theorem l_intB (b : Bool) : OL vInt [tB b] (tI (if b = true then 1 else 0)) := fun Q q => q
theorem l_list (hs : Seq s e) (a : List α) : OL vListO [s a] (tL e a) := fun Q q => by
  unfold vListO
  try dsimp only
  rw [hs a]
  exact q
theorem l_tuple (hs : Seq s e) (a : List α) (hx : (s a).isXt = false := by rfl) : OL vTupleO [s a] (tT e a) := fun Q q => by
  unfold vTupleO
  try dsimp only
  rw [hs a]
  exact ⟨hx, q⟩
theorem l_sum (a : List Int) : OL vSum [tL tI a] (tI a.sum) := fun Q q => by
  unfold vSum
  try dsimp only
  rw [show (tL tI a).ints = some a from ints_mapM a]
  exact q
theorem l_max2 (i j : Int) : OL vMax [tI i, tI j] (tI (if j > i then j else i)) := fun Q q => q
theorem l_min2 (i j : Int) : OL vMin [tI i, tI j] (tI (if j < i then j else i)) := fun Q q => q
theorem tp_tup {us : List U} (hl : TP u l us) (h : us.length ≤ sizeLine) : TP u (vTup l) (.tup us) := fun Q X q => hl _ X ⟨h, q⟩
theorem tp_lst {us : List U} (hl : TP u l us) (h : us.length ≤ sizeLine) : TP u (vLst l) (.lst us) := fun Q X q => hl _ X ⟨h, q⟩
theorem tg_tup {ea : α → List U} {m : M α} {eb : β → U} {f : α → β} (hl : TG u l m ea) (h : ∀ a, (ea a).length ≤ sizeLine) (he : ∀ a, U.tup (ea a) = eb (f a)) : TG u (vTup l) (bi m fun a => pu (f a)) eb := fun Q X C E hC hE m => hl _ X _ E (fun a m => ⟨h a, by rw [he]; exact hC _ m⟩) hE m
theorem tg_lst {ea : α → List U} {m : M α} {eb : β → U} {f : α → β} (hl : TG u l m ea) (h : ∀ a, (ea a).length ≤ sizeLine) (he : ∀ a, U.lst (ea a) = eb (f a)) : TG u (vLst l) (bi m fun a => pu (f a)) eb := fun Q X C E hC hE m => hl _ X _ E (fun a m => ⟨h a, by rw [he]; exact hC _ m⟩) hE m
def cut (l : List α) (lo hi : Option Int) : List α := (l.drop (HT.sIx l.length 0 lo)).take (HT.sIx l.length l.length hi - HT.sIx l.length 0 lo)
theorem cut_map (e : α → U) (l : List α) (lo hi : Option Int) : cutU (l.map e) lo hi = (cut l lo hi).map e := by
  unfold cutU cut
  rw [List.length_map, List.map_take, List.map_drop]
theorem tp_noP : TP u vNoP (none : Option Int) := fun Q X q => q
theorem tp_P {w : VE} {i : Int} (h : TP u w (tI i)) : TP u (vP w) (some i) := fun Q X q => h _ X q
variable {wl wh : VG (Option Int)} {lo hi : Option Int}
theorem tp_slT (h : TP u w (tT e a)) (h1 : TP u wl lo) (h2 : TP u wh hi) : TP u (vSl w wl wh) (tT e (cut a lo hi)) := fun Q X q => h _ X (h1 _ X (h2 _ X ⟨rfl, by rw [cut_map]; exact q⟩))
theorem tp_slZ (h : TP u w (tZ e a)) (h1 : TP u wl lo) (h2 : TP u wh hi) : TP u (vSl w wl wh) (tL e (cut a lo hi)) := fun Q X q => h _ X (h1 _ X (h2 _ X (by
  show Q (.lst (cutU (a.map e) lo hi))
  rw [cut_map]; exact q)))
def rg (a b : Int) : List Int := (List.range (b - a).toNat).map fun (i : Nat) => a + (i : Int)
def rgM (a b : Int) : M (List Int) := rq (rgOk a b = true) (rg a b)
theorem rg_u (a b : Int) : rgU a (b - a).toNat = (rg a b).map tI := by
  unfold rgU rg
  rw [List.map_map]
  rfl
theorem ti_rg1 {i : Int} (h : TP u w (tI i)) : TG u (iRg1 w) (rgM 0 i) (tMap tI) := fun Q X C E hC hE m => h _ X (by
  show rgOk 0 i = true ∧ Q (rgU 0 i.toNat)
  refine ⟨m.1, ?_⟩
  have := rg_u 0 i
  rw [Int.sub_zero] at this
  rw [this]
  exact hC _ m.2)
theorem ti_rg1M {mi : M Int} (h : TG u w mi tI) : TG u (iRg1 w) (bi mi fun i => rgM 0 i) (tMap tI) := fun Q X C E hC hE m => h _ X _ E (fun i m => by
  show rgOk 0 i = true ∧ Q (rgU 0 i.toNat)
  refine ⟨m.1, ?_⟩
  have := rg_u 0 i
  rw [Int.sub_zero] at this
  rw [this]
  exact hC _ m.2) hE m
theorem ti_rg2 {w' : VE} {i j : Int} (h : TP u w (tI i)) (h' : TP u w' (tI j)) : TG u (iRg2 w w') (rgM i j) (tMap tI) := fun Q X C E hC hE m => h _ X (h' _ X ⟨m.1, by rw [rg_u]; exact hC _ m.2⟩)
theorem ti_seq (hs : Seq s e) (h : TP u w (s a)) : TP u (iSeq w) (tMap e a) := fun Q X q => h _ X (by
  try dsimp only
  rw [hs a]
  exact q)
theorem ti_seqM {ma : M (List α)} (hs : Seq s e) (h : TG u w ma s) : TG u (iSeq w) ma (tMap e) := fun Q X C E hC hE m => h _ X C E (fun l m => by
  try dsimp only
  rw [hs l]
  exact hC _ m) hE m
def en (l : List α) : List (Int × α) := (l.zipIdx 0).map fun p => (((p.2 : Nat) : Int), p.1)
theorem en_u (e : α → U) (l : List α) : enU 0 (l.map e) = (en l).map (tP tI e) := by
  rw [enU_map, en, List.map_map]
  rfl
theorem ti_en (hs : Seq s e) (h : TP u w (s a)) : TP u (iEnum w) (tMap (tP tI e) (en a)) := fun Q X q => h _ X (by
  try dsimp only
  rw [hs a]
  try dsimp only
  rw [en_u]
  exact q)
theorem zip_u {e : α → U} {f : β → U} (a : List α) (b : List β) : zipU (a.map e) (b.map f) = (a.zip b).map (tP e f) := zipU_map e f a b
theorem ti_zip {w' : VE} {e : α → U} {f : β → U} {s : List α → U} {s' : List β → U} {a : List α} {b : List β} (hs : Seq s e) (hs' : Seq s' f) (h : TP u w (s a)) (h' : TP u w' (s' b)) : TP u (iZip w w') (tMap (tP e f) (a.zip b)) := fun Q X q => h _ X (h' _ X (by
  try dsimp only
  rw [hs a, hs' b]
  try dsimp only
  rw [zip_u]
  exact q))
theorem ti_zipPM {w' : VE} {e : α → U} {f : β → U} {s : List α → U} {s' : List β → U} {a : List α} {mb : M (List β)} (hs : Seq s e) (hs' : Seq s' f) (h : TP u w (s a)) (h' : TG u w' mb s') : TG u (iZip w w') (bi mb fun b => pu (a.zip b)) (tMap (tP e f)) := fun Q X C E hC hE m => h _ X (h' _ X _ E (fun b m => by
  try dsimp only
  rw [hs a, hs' b]
  try dsimp only
  rw [zip_u]
  exact hC _ m) hE m)
theorem tg_lstRg {i : Int} (h : TP u w (tI i)) : TG u (vLstRg (vRg1 w)) (rgM 0 i) (tL tI) := fun Q X C E hC hE m => h _ X (by
  show rgOk 0 i = true ∧ Q (.lst (rgLU 0 i))
  refine ⟨m.1, ?_⟩
  have := hC _ m.2
  unfold tL at this
  rw [← rg_u] at this
  exact this)
end
section
variable {α β γ : Type} {u : UEnv} {it : VI} {own : List Nat} {g : UG} {tt : VT} {te : VE} {e : α → U} {eb : β → U} {ue : α → UEnv}
def lcM (mt : α → M Bool) (me : α → M β) : List α → List β → M (List β)
  | [], acc => pu acc
  | x :: xs, acc => bi (mt x) fun c => if c = true then bi (me x) fun y => lcM mt me xs (acc ++ [y]) else lcM mt me xs acc
theorem lc_ok {u0 : UEnv} {mt : α → M Bool} {me : α → M β} (hg : ∀ x, g (e x) u0 = some (ue x)) (ht : ∀ x, TG (ue x) tt (mt x) id) (he : ∀ x, TG (ue x) te (me x) eb) : ∀ (xs : List α) (acc : List β) (Q : U → Prop) (C : List β → Prop),
    (∀ l, C l → Q (tL eb l)) → lcM mt me xs acc C (fun _ => False) → lcW g tt te u0 (xs.map e) (acc.map eb) Q
  | [], acc, Q, C, hC, m => hC acc m
  | x :: xs, acc, Q, C, hC, m => by
    show (match g (e x) u0 with
      | some u1 => tt u1 (fun b => if b = true then te u1 (fun y => lcW g tt te u0 (xs.map e) (acc.map eb ++ [y]) Q) (fun _ => False) else lcW g tt te u0 (xs.map e) (acc.map eb) Q) (fun _ => False)
      | none => False)
    rw [hg]
    refine ht x _ _ _ _ (fun c m => ?_) (fun _ z => z) m
    dsimp only [id]
    cases c with
    | true =>
      rw [if_pos rfl] at m ⊢
      refine he x _ _ _ _ (fun y m => ?_) (fun _ z => z) m
      have := lc_ok hg ht he xs (acc ++ [y]) Q C hC m
      rw [List.map_append] at this
      exact this
    | false =>
      rw [if_neg (by decide)] at m ⊢
      exact lc_ok hg ht he xs acc Q C hC m
/-- a comprehension raises nothing -/
def nx (m : M α) : M α := fun Q _ => m Q (fun _ => False)
theorem tg_lcP {mt : α → M Bool} {me : α → M β} {xs : List α} (hi : TP u it (tMap e xs)) (hg : ∀ x, g (e x) (wipeU u own) = some (ue x)) (ht : ∀ x, TG (ue x) tt (mt x) id) (he : ∀ x, TG (ue x) te (me x) eb) : TG u (vLc it own g tt te) (nx (lcM mt me xs [])) (tL eb) := fun Q X C E hC hE m => hi _ X (lc_ok hg ht he xs [] Q C hC m)
theorem tg_lcM {mt : α → M Bool} {me : α → M β} {mi : M (List α)} (hi : TG u it mi (tMap e)) (hg : ∀ x, g (e x) (wipeU u own) = some (ue x)) (ht : ∀ x, TG (ue x) tt (mt x) id) (he : ∀ x, TG (ue x) te (me x) eb) : TG u (vLc it own g tt te) (bi mi fun xs => nx (lcM mt me xs [])) (tL eb) := fun Q X C E hC hE m => hi _ X _ E (fun xs m => lc_ok hg ht he xs [] Q C hC m) hE m
theorem lcM_pure {mt : α → M Bool} {me : α → M β} {k : α → Bool} {f : α → β} : ∀ (xs : List α) (acc : List β), (∀ x ∈ xs, mt x = pu (k x)) → (∀ x ∈ xs, k x = true → me x = pu (f x)) → lcM mt me xs acc = pu (acc ++ (xs.filter k).map f)
  | [], acc, _, _ => by rw [List.filter_nil, List.map_nil, List.append_nil]; rfl
  | x :: xs, acc, ht, he => by
    unfold lcM
    rw [ht x List.mem_cons_self, pu_bi]
    cases hk : k x with
    | true =>
      rw [if_pos rfl, he x List.mem_cons_self hk, pu_bi, lcM_pure xs _ (fun y hy => ht y (List.mem_cons_of_mem _ hy)) (fun y hy => he y (List.mem_cons_of_mem _ hy)), List.filter_cons, if_pos hk, List.map_cons, List.append_assoc]
      rfl
    | false =>
      rw [if_neg (by decide), lcM_pure xs _ (fun y hy => ht y (List.mem_cons_of_mem _ hy)) (fun y hy => he y (List.mem_cons_of_mem _ hy)), List.filter_cons, if_neg (by rw [hk]; decide)]
theorem nx_lc {mt : α → M Bool} {me : α → M β} (k : α → Bool) (f : α → β) (xs : List α) (ht : ∀ x ∈ xs, mt x = pu (k x)) (he : ∀ x ∈ xs, k x = true → me x = pu (f x)) : nx (lcM mt me xs []) = pu ((xs.filter k).map f) := by
  rw [lcM_pure xs [] ht he]
  rfl
theorem nx_lc1 {me : α → M β} (f : α → β) (xs : List α) (he : ∀ x ∈ xs, me x = pu (f x)) : nx (lcM (fun _ => pu true) me xs []) = pu (xs.map f) := by
  rw [nx_lc (fun _ => true) f xs (fun _ _ => rfl) (fun x hx _ => he x hx), List.filter_eq_self.mpr fun _ _ => rfl]
theorem tp_lc {k : α → Bool} {f : α → β} {xs : List α} (hi : TP u it (tMap e xs)) (hg : ∀ x, g (e x) (wipeU u own) = some (ue x)) (ht : ∀ x, TP (ue x) tt (k x)) (he : ∀ x, TP (ue x) te (eb (f x))) : TP u (vLc it own g tt te) (tL eb ((xs.filter k).map f)) := fun Q X q => by
  refine tg_lcP hi hg (mt := fun x => pu (k x)) (me := fun x => pu (f x)) (fun x => TG.pu (enc := id) (ht x)) (fun x => TG.pu (he x)) Q X (fun l => Q (tL eb l)) (fun _ => False) (fun _ z => z) (fun _ z => z.elim) ?_
  rw [nx_lc k f xs (fun _ _ => rfl) (fun _ _ _ => rfl)]
  exact q
theorem tp_lc1 {f : α → β} {xs : List α} (hi : TP u it (tMap e xs)) (hg : ∀ x, g (e x) (wipeU u own) = some (ue x)) (he : ∀ x, TP (ue x) te (eb (f x))) : TP u (vLc it own g vYes te) (tL eb (xs.map f)) := fun Q X q => by
  refine tg_lcP hi hg (mt := fun x => pu true) (me := fun x => pu (f x)) (fun x => TG.pu (enc := id) fun Q X q => q) (fun x => TG.pu (he x)) Q X (fun l => Q (tL eb l)) (fun _ => False) (fun _ z => z) (fun _ z => z.elim) ?_
  rw [nx_lc1 f xs (fun _ _ => rfl)]
  exact q
theorem tp_yes : TP u vYes true := fun Q X q => q
end
end Ty
set_option maxRecDepth 100000
set_option maxHeartbeats 4000000
namespace Ty
open PySem PySem.Spec PyProof.Rows L2 Pd
def TFn {ρ : Type} (W : VFn) (us : List U) (m : M ρ) (enc : ρ → U) : Prop := ∀ (Q : U → Prop) (X : VX) (C : ρ → Prop) (E : TX → Prop), (∀ a, C a → Q (enc a)) → (∀ x, E x → X x.u) → m C E → W us Q X
section
variable {α β ρ : Type} {u : UEnv} {W : VFn} {us : List U} {n : Nat} {m : M ρ} {er : ρ → U} {l : VA}
theorem tg_call (hf : TFn W us m er) (hl : TP u l us) (hn : us.length = n) : TG u (vCall n W l) m er := fun Q X C E hC hE z => hl _ X ⟨hn, hf Q X C E hC hE z⟩
theorem tg_callM {ma : M α} {ea : α → List U} {f : α → M ρ} (hf : ∀ a, TFn W (ea a) (f a) er) (hl : TG u l ma ea) (hn : ∀ a, (ea a).length = n) : TG u (vCall n W l) (bi ma f) er := fun Q X C E hC hE z => hl _ X _ E (fun a z => ⟨hn a, hf a Q X C E hC hE z⟩) hE z
/-- what holds no list -/
def Pl (e : α → U) : Prop := ∀ a, (e a).plain = true
theorem pl_I : Pl tI := fun _ => rfl
theorem plains_map {e : α → U} (h : Pl e) : ∀ l : List α, U.plains (l.map e) = true
  | [] => by simp [U.plains]
  | a :: l => by
    rw [List.map_cons]
    unfold U.plains
    rw [h a, plains_map h l]
    rfl
theorem pl_T {e : α → U} (h : Pl e) : Pl (tT e) := fun a => by
  unfold tT U.plain
  exact plains_map h a
theorem TX.plain (x : TX) : (x.u.fs.all fun p => p.2.plain) = true := by
  show ((x.fs.map fun p => (p.1, fU p.2)).all fun p => p.2.plain) = true
  rw [List.all_map, List.all_eq_true]
  intro p _
  show (fU p.2).plain = true
  cases p.2 <;> rfl
theorem tg_callW (hp : Pl er) (hf : TFn W us m er) (hl : TP u l us) (hn : us.length = n) : TG u (vCallW n W l) m er := fun Q X C E hC hE z => hl _ X ⟨hn, hf _ _ C E (fun a c => ⟨hp a, hC a c⟩) (fun x e => ⟨x.plain, hE x e⟩) z⟩
theorem tg_callWM {ma : M α} {ea : α → List U} {f : α → M ρ} (hp : Pl er) (hf : ∀ a, TFn W (ea a) (f a) er) (hl : TG u l ma ea) (hn : ∀ a, (ea a).length = n) : TG u (vCallW n W l) (bi ma f) er := fun Q X C E hC hE z => hl _ X _ E (fun a z => ⟨hn a, hf a _ _ C E (fun a c => ⟨hp a, hC a c⟩) (fun x e => ⟨x.plain, hE x e⟩) z⟩) hE z
theorem tg_callK {k j : Nat} {is : List Nat} {zs vs : List U} {lk : VA} (hf : TFn W vs m er) (hl : TP u l us) (hk : TP u lk zs) (hg : gP k j is us zs = vs) (hn : vs.length = n) : TG u (vCallK k j is n W l lk) m er := fun Q X C E hC hE z => hl _ X (hk _ X (by
  try dsimp only
  rw [hg]
  exact ⟨hn, hf Q X C E hC hE z⟩))
/-- a drawn number -/
def dr (b : Int) : M Int := fun Q _ => (0 < b ∧ b < 1073741824) ∧ ∀ x : Int, 0 ≤ x → x < b → Q x
theorem tf_draw (g : Unit) (b : Int) : TFn W_draw [tG g, tI b] (dr b) tI := fun Q X C E hC hE m => ⟨m.1, fun x h0 h1 => hC x (m.2 x h0 h1)⟩
def begM (left seed : Int) (cells : List Int) : M Unit := rq (0 ≤ seed ∧ seed < 2147483647 ∧ cells ≠ [] ∧ ∀ x ∈ cells, x.natAbs.log2 < 2000000) ()
theorem tg_beg {w1 w2 w3 : VE} {mi mj : M Int} {mc : M (List Int)} (h1 : TG u w1 mi tI) (h2 : TG u w2 mj tI) (h3 : TG u w3 mc (tL tI)) : TG u (vDraw w1 w2 w3) (bi mi fun i => bi mj fun j => bi mc fun cs => begM i j cs) tG := fun Q X C E hC hE m => h1 _ X _ E (fun i m => h2 _ X _ E (fun j m => h3 _ X _ E (fun cs m => ⟨⟨m.1.1, m.1.2.1, cs, rfl, m.1.2.2.1, m.1.2.2.2⟩, hC () m.2⟩) hE m) hE m) hE m
end
abbrev KK (τ : Type) := τ → (UOut → Prop) → Prop
def TS {τ : Type} (u : UEnv) (w : VS) (m : M τ) (K : KK τ) : Prop := ∀ (P : UOut → Prop) (C : τ → Prop) (E : TX → Prop), (∀ t, C t → K t P) → (∀ x, E x → P (.exc x.u)) → m C E → w u P
abbrev Jk := Nat → Option (U × Bool)
/-- what stands in an environment -/
def jk (u : UEnv) : Jk := fun i => u.getD i none
inductive Ctl (σ ρ : Type) where
  | nx (s : σ) | bk (s : σ) | rt (r : ρ)
def isNx : UOut → Bool
  | .nx _ => true
  | _ => false
section
variable {α β σ ρ τ τ' : Type} {u : UEnv}
def kD (enc : ρ → U) : KK ρ := fun r P => P (.rt (enc r))
def kJ (mk : σ → Jk → UEnv) : KK σ := fun s P => ∀ j, P (.nx (mk s j))
def kL (mk : σ → Jk → UEnv) : KK σ := fun s P => ∀ j, P (.nx (mk s j)) ∧ P (.ct (mk s j))
def kLx (mk : σ → Jk → UEnv) : KK σ := fun s P => ∀ j, P (.ct (mk s j))
def kX (mk : σ → Jk → UEnv) (enc : ρ → U) : KK (Ctl σ ρ) := fun c P => match c with
  | .nx s => ∀ j, P (.nx (mk s j)) ∧ P (.ct (mk s j))
  | .bk s => ∀ j, P (.bk (mk s j))
  | .rt r => P (.rt (enc r))
/-- the outer end seen from within, where nothing goes on -/
def Ex (K K' : KK τ) : Prop := ∀ t (P P' : UOut → Prop), (∀ o, isNx o = false → P o → P' o) → K t P → K' t P'
theorem ex_D {enc : ρ → U} : Ex (kD enc) (kD enc) := fun t P P' h k => h _ rfl k
theorem ex_L {mk : σ → Jk → UEnv} : Ex (kL mk) (kLx mk) := fun t P P' h k j => h _ rfl (k j).2
def Nx (K : KK τ) (t : τ) (u : UEnv) : Prop := ∀ P, K t P → P (.nx u)
def Ct (K : KK τ) (t : τ) (u : UEnv) : Prop := ∀ P, K t P → P (.ct u)
def Rt (K : KK τ) (f : ρ → τ) (enc : ρ → U) : Prop := ∀ a P, K (f a) P → P (.rt (enc a))
theorem nx_J {mk : σ → Jk → UEnv} {s : σ} (h : mk s (jk u) = u) : Nx (kJ mk) s u := fun P k => by have := k (jk u); rwa [h] at this
theorem nx_L {mk : σ → Jk → UEnv} {s : σ} (h : mk s (jk u) = u) : Nx (kL mk) s u := fun P k => by have := (k (jk u)).1; rwa [h] at this
theorem ct_Lx {mk : σ → Jk → UEnv} {s : σ} (h : mk s (jk u) = u) : Ct (kLx mk) s u := fun P k => by have := k (jk u); rwa [h] at this
theorem nx_X {mk : σ → Jk → UEnv} {enc : ρ → U} {s : σ} (h : mk s (jk u) = u) : Nx (kX mk enc) (.nx s) u := fun P k => by have := (k (jk u)).1; rwa [h] at this
theorem rt_D {enc : ρ → U} : Rt (kD enc) id enc := fun a P k => k
theorem rt_X {mk : σ → Jk → UEnv} {enc : ρ → U} : Rt (kX mk enc) Ctl.rt enc := fun a P k => k
variable {K : KK τ} {b s : VS} {e : VE} {ma : M α} {mb : M β} {k : α → M τ} {m : M τ} {enc : α → U} {encb : β → U} {v w : U}
theorem ts_next {t : τ} (h : Nx K t u) : TS u vNext (pu t) K := fun P C E hC hE z => h P (hC t z)
theorem ts_cont {t : τ} (h : Ct K t u) : TS u vCont (pu t) K := fun P C E hC hE z => h P (hC t z)
/-- the end of the list behind it -/
theorem ts_nx (h : TS u (vSeq s vNext) m K) : TS u s m K := fun P C E hC hE z => by
  have := h P C E hC hE z
  unfold vSeq vNext at this
  have e : (fun o => match o with
    | .nx u1 => P (.nx u1)
    | o => P o) = P := by
    funext o
    cases o <;> rfl
  rw [← e]
  exact this
theorem ts_nextS (h : TS u b m K) : TS u (vSeq vNext b) m K := fun P C E hC hE z => h P C E hC hE z
theorem ts_retD {enc : α → U} (he : TG u e ma enc) : TS u (vRet e) ma (kD enc) := fun P C E hC hE z => he _ _ C E (fun a c => hC _ c) hE z
theorem ts_retP {f : α → τ} {a : α} (hK : Rt K f enc) (he : TP u e (enc a)) : TS u (vRet e) (pu (f a)) K := fun P C E hC hE z => he _ _ (hK a P (hC _ z))
theorem ts_set (i : Nat) (he : TG u e ma enc) (h : ∀ a, TS (u.set i (some (enc a, false))) b (k a) K) : TS u (vSeq (vSet i e) b) (bi ma k) K := fun P C E hC hE z => he _ _ _ E (fun a c => h a P C E hC hE c) hE z
theorem ts_setO (i : Nat) (he : TG u e ma enc) (h : ∀ a, TS (u.set i (some (enc a, true))) b (k a) K) : TS u (vSeq (vSetO i e) b) (bi ma k) K := fun P C E hC hE z => he _ _ _ E (fun a c => h a P C E hC hE c) hE z
theorem ts_setOP (i : Nat) (he : TP u e v) (h : TS (u.set i (some (v, true))) b m K) : TS u (vSeq (vSetO i e) b) m K := fun P C E hC hE z => he _ _ (h P C E hC hE z)
theorem ts_parG {o1 o2 : Bool} {e2 : VE} {k : α → β → M τ} (i j : Nat) (he : TG u e ma enc) (he2 : TG u e2 mb encb) (h : ∀ x y, TS ((u.set i (some (enc x, o1))).set j (some (encb y, o2))) b (k x y) K) : TS u (vSeq (vParG o1 o2 i j e e2) b) (bi ma fun x => bi mb fun y => k x y) K := fun P C E hC hE z => he _ _ _ E (fun x z => he2 _ _ _ E (fun y z => h x y P C E hC hE z) hE z) hE z
theorem ts_parGP {o1 o2 : Bool} {e2 : VE} (i j : Nat) (he : TP u e v) (he2 : TP u e2 w) (h : TS ((u.set i (some (v, o1))).set j (some (w, o2))) b m K) : TS u (vSeq (vParG o1 o2 i j e e2) b) m K := fun P C E hC hE z => he _ _ (he2 _ _ (h P C E hC hE z))
theorem ts_par {e2 : VE} {k : α → β → M τ} (i j : Nat) (he : TG u e ma enc) (he2 : TG u e2 mb encb) (h : ∀ x y, TS ((u.set i (some (enc x, false))).set j (some (encb y, false))) b (k x y) K) : TS u (vSeq (vPar i j e e2) b) (bi ma fun x => bi mb fun y => k x y) K := fun P C E hC hE z => he _ _ _ E (fun x z => he2 _ _ _ E (fun y z => h x y P C E hC hE z) hE z) hE z
theorem ts_asg {g : UG} {u' : α → UEnv} (he : TG u e ma enc) (hg : ∀ a, g (enc a) u = some (u' a)) (h : ∀ a, TS (u' a) b (k a) K) : TS u (vSeq (vAsg g e) b) (bi ma k) K := fun P C E hC hE z => he _ _ _ E (fun a c => by
  show match g (enc a) u with
    | some u1 => b u1 P
    | none => False
  rw [hg]
  exact h a P C E hC hE c) hE z
def appM (l : List α) (x : α) : M (List α) := rq (l.length < sizeLine) (l ++ [x])
theorem app_map (enc : α → U) (l : List α) (x : α) : l.map enc ++ [enc x] = (l ++ [x]).map enc := by rw [List.map_append]; rfl
theorem ts_app {l : List α} {k : List α → M τ} (i : Nat) (hu : u[i]? = some (some (tL enc l, true))) (he : TG u e ma enc) (h : ∀ l, TS (u.set i (some (tL enc l, true))) b (k l) K) : TS u (vSeq (vAppend i e) b) (bi ma fun x => bi (appM l x) k) K := fun P C E hC hE z => by
  show vAppend i e u _
  unfold vAppend
  rw [hu]
  show e u (fun v => (l.map enc).length < sizeLine ∧ _) _
  refine he _ _ _ E (fun x z => ?_) hE z
  rw [List.length_map]
  refine ⟨z.1, ?_⟩
  rw [app_map]
  exact h _ P C E hC hE z.2
theorem ts_appP {l : List α} {x : α} {k : List α → M τ} (i : Nat) (hu : u[i]? = some (some (tL enc l, true))) (he : TP u e (enc x)) (h : ∀ l, TS (u.set i (some (tL enc l, true))) b (k l) K) : TS u (vSeq (vAppend i e) b) (bi (appM l x) k) K := fun P C E hC hE z => by
  show vAppend i e u _
  unfold vAppend
  rw [hu]
  show e u (fun v => (l.map enc).length < sizeLine ∧ _) _
  refine he _ _ ?_
  rw [List.length_map]
  refine ⟨z.1, ?_⟩
  rw [app_map]
  exact h _ P C E hC hE z.2
theorem ts_ext {l : List α} {mx : M (List α)} {k : List α → M τ} (i : Nat) (hu : u[i]? = some (some (tL enc l, true))) (he : TG u e mx (tL enc)) (h : ∀ l, TS (u.set i (some (tL enc l, true))) b (k l) K) : TS u (vSeq (vExtend i e) b) (bi mx fun x => bi (catM l x) k) K := fun P C E hC hE z => by
  show vExtend i e u _
  unfold vExtend
  rw [hu]
  refine he _ _ _ E (fun x z => ?_) hE z
  show (l.map enc).length + (x.map enc).length ≤ sizeLine ∧ _
  rw [List.length_map, List.length_map]
  refine ⟨z.1, ?_⟩
  rw [← List.map_append]
  exact h _ P C E hC hE z.2
def stM (l : List α) (i : Int) (x : α) : M (List α) := op? ((ixN l.length i).map fun j => l.set j x)
theorem set_map (enc : α → U) (x : α) : ∀ (l : List α) (j : Nat), (l.map enc).set j (enc x) = (l.set j x).map enc
  | [], _ => rfl
  | _ :: _, 0 => rfl
  | a :: l, j + 1 => by
    show enc a :: (l.map enc).set j (enc x) = _
    rw [set_map enc x l j]
    rfl
theorem setU_ok {l : List α} {i : Int} {x : α} {Q : U → Prop} {C : List α → Prop} {E : TX → Prop} (hC : ∀ l, C l → Q (tL enc l)) (h : stM l i x C E) : setU (tL enc l) (tI i) (enc x) Q := by
  show match ixN (l.map enc).length i with
    | some j => Q (.lst ((l.map enc).set j (enc x)))
    | none => False
  rw [List.length_map]
  unfold stM at h
  cases e : ixN l.length i with
  | none => rw [e] at h; exact h.elim
  | some j =>
    rw [e] at h
    dsimp only
    rw [set_map]
    exact hC _ h
theorem ts_setIx {l : List α} {mi : M Int} {ei : VE} {k : List α → M τ} (i : Nat) (hu : u[i]? = some (some (tL enc l, true))) (he : TG u e ma enc) (hi : TG u ei mi tI) (h : ∀ l, TS (u.set i (some (tL enc l, true))) b (k l) K) : TS u (vSeq (vSetIx i ei e) b) (bi ma fun x => bi mi fun j => bi (stM l j x) k) K := fun P C E hC hE z => by
  show vSetIx i ei e u _
  unfold vSetIx
  rw [hu]
  exact he _ _ _ E (fun x z => hi _ _ _ E (fun j z => setU_ok (fun l c => h l P C E hC hE c) z) hE z) hE z
theorem ts_setIxP {l : List α} {x : α} {j : Int} {ei : VE} {k : List α → M τ} (i : Nat) (hu : u[i]? = some (some (tL enc l, true))) (he : TP u e (enc x)) (hi : TP u ei (tI j)) (h : ∀ l, TS (u.set i (some (tL enc l, true))) b (k l) K) : TS u (vSeq (vSetIx i ei e) b) (bi (stM l j x) k) K := fun P C E hC hE z => by
  show vSetIx i ei e u _
  unfold vSetIx
  rw [hu]
  exact he _ _ (hi _ _ (setU_ok (fun l c => h l P C E hC hE c) z))
variable {t : VT} {c : Bool} {mc : M Bool} {sa sb : VS} {K' : KK τ} {m1 m2 : M τ}
/-- the one side leaves -/
theorem ts_ifx (hx : Ex K K') (ht : TG u t mc id) (h1 : TS u sa m1 K') (h2 : TS u (vSeq sb b) m2 K) : TS u (vSeq (vIfS t sa sb) b) (bi mc fun c => if c = true then m1 else m2) K := fun P C E hC hE z => by
  refine ht _ _ _ E (fun c z => ?_) hE z
  dsimp only [id]
  cases c with
  | true =>
    rw [if_pos rfl] at z ⊢
    exact h1 _ C E (fun t c => hx t P _ (fun o ho p => by cases o <;> first | exact p | cases ho) (hC t c)) hE z
  | false =>
    rw [if_neg (by decide)] at z ⊢
    exact h2 P C E hC hE z
theorem ts_ifxP (hx : Ex K K') (ht : TP u t c) (h1 : TS u sa m1 K') (h2 : TS u (vSeq sb b) m2 K) : TS u (vSeq (vIfS t sa sb) b) (if c = true then m1 else m2) K := fun P C E hC hE z => by
  refine ht _ _ ?_
  cases c with
  | true =>
    rw [if_pos rfl] at z ⊢
    exact h1 _ C E (fun t c => hx t P _ (fun o ho p => by cases o <;> first | exact p | cases ho) (hC t c)) hE z
  | false =>
    rw [if_neg (by decide)] at z ⊢
    exact h2 P C E hC hE z
/-- nothing behind it -/
theorem ts_ife (ht : TG u t mc id) (h1 : TS u sa m1 K) (h2 : TS u sb m2 K) : TS u (vIfS t sa sb) (bi mc fun c => if c = true then m1 else m2) K := fun P C E hC hE z => by
  refine ht _ _ _ E (fun c z => ?_) hE z
  dsimp only [id]
  cases c with
  | true => rw [if_pos rfl] at z ⊢; exact h1 P C E hC hE z
  | false => rw [if_neg (by decide)] at z ⊢; exact h2 P C E hC hE z
theorem ts_ifeP (ht : TP u t c) (h1 : TS u sa m1 K) (h2 : TS u sb m2 K) : TS u (vIfS t sa sb) (if c = true then m1 else m2) K := fun P C E hC hE z => by
  refine ht _ _ ?_
  cases c with
  | true => rw [if_pos rfl] at z ⊢; exact h1 P C E hC hE z
  | false => rw [if_neg (by decide)] at z ⊢; exact h2 P C E hC hE z
/-- both go on -/
theorem ts_seqJ {mk : σ → Jk → UEnv} {mj : M σ} {k : σ → M τ} (h1 : TS u s mj (kJ mk)) (h : ∀ x j, TS (mk x j) b (k x) K) : TS u (vSeq s b) (bi mj k) K := fun P C E hC hE z => by
  refine h1 _ _ E (fun x z j => ?_) (fun x e => hE x e) z
  exact h x j P C E hC hE z
/-- some ways leave -/
def thn (m : M (σ ⊕ τ)) (k : σ → M τ) : M τ := bi m fun o => match o with
  | .inl s => k s
  | .inr t => pu t
def forM (f : α → σ → M σ) : List α → σ → M σ
  | [], s => pu s
  | x :: xs, s => bi (f x s) fun s => forM f xs s
variable {it : VI} {g : UG} {body : VS} {mk : σ → Jk → UEnv} {ub : α → σ → Jk → UEnv} {f : α → σ → M σ} {xs : List α} {mi : M (List α)} {s0 : σ} {kk : σ → M τ}
theorem for_ok (hg : ∀ x s j, g (enc x) (mk s j) = some (ub x s j)) (hb : ∀ x s j, TS (ub x s j) body (f x s) (kL mk)) {P : UOut → Prop} {E : TX → Prop} (hE : ∀ x, E x → P (.exc x.u)) : ∀ (xs : List α) (s : σ) (j : Jk) (C : σ → Prop), (∀ s, C s → ∀ j, P (.nx (mk s j))) → forM f xs s C E → forW g body (xs.map enc) (mk s j) P
  | [], s, j, C, hC, z => hC s z j
  | x :: xs, s, j, C, hC, z => by
    show (match g (enc x) (mk s j) with
      | some u1 => body u1 _
      | none => False)
    rw [hg]
    refine hb x s j _ _ E (fun s' z j' => ⟨?_, ?_⟩) (fun x e => hE x e) z
    · exact for_ok hg hb hE xs s' j' C hC z
    · exact for_ok hg hb hE xs s' j' C hC z
theorem ts_forP (hi : TP u it (tMap enc xs)) (h0 : mk s0 (jk u) = u) (hg : ∀ x s j, g (enc x) (mk s j) = some (ub x s j)) (hb : ∀ x s j, TS (ub x s j) body (f x s) (kL mk)) (h : ∀ s j, TS (mk s j) b (kk s) K) : TS u (vSeq (vFor it g body) b) (bi (forM f xs s0) kk) K := fun P C E hC hE z => by
  refine hi _ _ ?_
  rw [← h0]
  exact for_ok hg hb (P := fun o => match o with
    | .nx u1 => b u1 P
    | o => P o) (fun x e => hE x e) xs s0 (jk u) _ (fun s z j => h s j P C E hC hE z) z
theorem ts_forM (hi : TG u it mi (tMap enc)) (h0 : mk s0 (jk u) = u) (hg : ∀ x s j, g (enc x) (mk s j) = some (ub x s j)) (hb : ∀ x s j, TS (ub x s j) body (f x s) (kL mk)) (h : ∀ s j, TS (mk s j) b (kk s) K) : TS u (vSeq (vFor it g body) b) (bi mi fun xs => bi (forM f xs s0) kk) K := fun P C E hC hE z => by
  refine hi _ _ _ E (fun xs z => ?_) hE z
  exact ts_forP (it := fun u Q X => Q (xs.map enc)) (fun Q X q => q) h0 hg hb h P C E hC hE z
def forX (f : α → σ → M (Ctl σ ρ)) : List α → σ → M (σ ⊕ ρ)
  | [], s => pu (.inl s)
  | x :: xs, s => bi (f x s) fun o => match o with
    | .nx s => forX f xs s
    | .bk s => pu (.inl s)
    | .rt r => pu (.inr r)
def thr (m : M (σ ⊕ ρ)) (k : σ → M τ) (r : ρ → τ) : M τ := bi m fun o => match o with
  | .inl s => k s
  | .inr t => pu (r t)
variable {fx : α → σ → M (Ctl σ ρ)} {er : ρ → U} {rr : ρ → τ}
theorem forx_ok (hg : ∀ x s j, g (enc x) (mk s j) = some (ub x s j)) (hb : ∀ x s j, TS (ub x s j) body (fx x s) (kX mk er)) {P : UOut → Prop} {E : TX → Prop} (hE : ∀ x, E x → P (.exc x.u)) : ∀ (xs : List α) (s : σ) (j : Jk) (C : σ ⊕ ρ → Prop), (∀ s, C (.inl s) → ∀ j, P (.nx (mk s j))) → (∀ r, C (.inr r) → P (.rt (er r))) → forX fx xs s C E → forW g body (xs.map enc) (mk s j) P
  | [], s, j, C, hC, _, z => hC s z j
  | x :: xs, s, j, C, hC, hR, z => by
    show (match g (enc x) (mk s j) with
      | some u1 => body u1 _
      | none => False)
    rw [hg]
    refine hb x s j _ _ E (fun s' z => ?_) (fun x e => hE x e) z
    cases s' with
    | nx s' => exact fun j' => ⟨forx_ok hg hb hE xs s' j' C hC hR z, forx_ok hg hb hE xs s' j' C hC hR z⟩
    | bk s' => exact fun j' => hC s' z j'
    | rt r => exact hR r z
theorem ts_forXP (hr : Rt K rr er) (hi : TP u it (tMap enc xs)) (h0 : mk s0 (jk u) = u) (hg : ∀ x s j, g (enc x) (mk s j) = some (ub x s j)) (hb : ∀ x s j, TS (ub x s j) body (fx x s) (kX mk er)) (h : ∀ s j, TS (mk s j) b (kk s) K) : TS u (vSeq (vFor it g body) b) (thr (forX fx xs s0) kk rr) K := fun P C E hC hE z => by
  refine hi _ _ ?_
  rw [← h0]
  exact forx_ok hg hb (P := fun o => match o with
    | .nx u1 => b u1 P
    | o => P o) (fun x e => hE x e) xs s0 (jk u) _ (fun s z j => h s j P C E hC hE z) (fun r z => hr r P (hC _ z)) z
theorem ts_forXM (hr : Rt K rr er) (hi : TG u it mi (tMap enc)) (h0 : mk s0 (jk u) = u) (hg : ∀ x s j, g (enc x) (mk s j) = some (ub x s j)) (hb : ∀ x s j, TS (ub x s j) body (fx x s) (kX mk er)) (h : ∀ s j, TS (mk s j) b (kk s) K) : TS u (vSeq (vFor it g body) b) (bi mi fun xs => thr (forX fx xs s0) kk rr) K := fun P C E hC hE z => by
  refine hi _ _ _ E (fun xs z => ?_) hE z
  exact ts_forXP (it := fun u Q X => Q (xs.map enc)) hr (fun Q X q => q) h0 hg hb h P C E hC hE z
theorem ts_move (i l : Nat) (hu : u[l]? = some (some (v, true))) (h : TS ((u.set l none).set i (some (v, false))) b m K) : TS u (vSeq (vMove i l) b) m K := fun P C E hC hE z => by
  show vMove i l u _
  unfold vMove
  rw [hu]
  exact h P C E hC hE z
def popM (l : List (List α)) (k : Int) : M (List α × List (List α)) := op? ((ixN l.length k).bind fun m => (l[m]?).map fun y => (y, l.eraseIdx m))
theorem erase_map (f : α → U) : ∀ (l : List α) (k : Nat), (l.map f).eraseIdx k = (l.eraseIdx k).map f
  | [], _ => rfl
  | _ :: _, 0 => rfl
  | a :: l, k + 1 => by
    show f a :: (l.map f).eraseIdx k = _
    rw [erase_map f l k]
    rfl
theorem ts_popTup {l : List (List α)} {z : Int} {ek te : VE} {own : List Nat} {ue : List (List α) → α → UEnv} {me : α → M β} {k : List β → List (List α) → M τ} (i l' : Nat) (hu : u[l']? = some (some (tL (tT enc) l, true))) (hk : TP u ek (tI z))
    (hg : ∀ L x, g (enc x) (wipeU (u.set l' (some (tL (tT enc) L, true))) own) = some (ue L x)) (he : ∀ L x, TG (ue L x) te (me x) encb)
    (h : ∀ r L, TS ((u.set l' (some (tL (tT enc) L, true))).set i (some (tT encb r, false))) b (k r L) K) : TS u (vSeq (vPopTup i l' ek own g vYes te) b) (bi (popM l z) fun p => bi (nx (lcM (fun _ => pu true) me p.1 [])) fun r => k r p.2) K := fun P C E hC hE y => by
  show vPopTup i l' ek own g vYes te u _
  unfold vPopTup
  rw [hu]
  refine hk _ _ ?_
  show (match ixN (l.map (tT enc)).length z with
    | some m => match (l.map (tT enc))[m]? with
      | some y => match y.items with
        | some us => lcW g vYes te (wipeU (u.set l' (some (.lst ((l.map (tT enc)).eraseIdx m), true))) own) us [] _
        | none => False
      | none => False
    | none => False)
  rw [List.length_map]
  unfold popM at y
  cases e : ixN l.length z with
  | none => rw [e] at y; exact y.elim
  | some m =>
    rw [e] at y
    dsimp only
    rw [List.getElem?_map]
    cases e2 : l[m]? with
    | none =>
      have : (Option.bind (some m) fun m => (l[m]?).map fun y => (y, l.eraseIdx m)) = none := by
        show (l[m]?).map _ = _
        rw [e2]
        rfl
      rw [this] at y
      exact y.elim
    | some r =>
      have : (Option.bind (some m) fun m => (l[m]?).map fun y => (y, l.eraseIdx m)) = some (r, l.eraseIdx m) := by
        show (l[m]?).map _ = _
        rw [e2]
        rfl
      rw [this] at y
      show lcW g vYes te (wipeU (u.set l' (some (.lst ((l.map (tT enc)).eraseIdx m), true))) own) (r.map enc) [] _
      rw [erase_map]
      refine lc_ok (tt := vYes) (mt := fun _ => pu true) (e := enc) (eb := encb) (hg (l.eraseIdx m)) (fun x Q X C E hC hE z => hC _ z) (he (l.eraseIdx m)) r ([] : List β) _ _ (fun q z => ?_) y
      exact h q (l.eraseIdx m) P C E hC hE z
theorem tf_run {N : Nat} {w : VS} {us : List U} {m : M ρ} (h : TS (us.map (fun v => some (v, false)) ++ List.replicate (N - us.length) none) w m (kD er)) : TFn (vRun N w) us m er := fun Q X C E hC hE z => h _ C E (fun r c => hC r c) (fun x e => hE x e) z
end
end Ty
set_option maxRecDepth 100000
set_option maxHeartbeats 4000000
namespace Ty
open PySem PySem.Spec PyProof.Rows L2 Pd
section
variable {κ α β τ A : Type} [DecidableEq κ] [DecidableEq A]
def tDT (kf : κ → List Key) (e : α → U) : List (κ × α) → U := fun d => .dT (d.map fun p => kf p.1) (d.map fun p => e p.2)
/-- what a dict holds -/
def lk (d : List (κ × α)) (k : κ) : Option α := match d with
  | [] => none
  | (x, a) :: d => if x = k then some a else lk d k
def putA (d : List (κ × α)) (k : κ) (a : α) : List (κ × α) := if d.any (fun p => decide (p.1 = k)) = true then d.map (fun p => if p.1 = k then (p.1, a) else p) else d ++ [(k, a)]
structure KeyT (kf : κ → List Key) (ek : κ → U) : Prop where
  key : ∀ k, (ek k).keysOf = some (kf k)
  inj : ∀ a b, kf a = kf b → a = b
def qL (l : List Int) : List Key := l.map .inl
theorem mapM_keys : ∀ l : List Int, (l.map U.int).mapM U.keyOf = some (l.map Sum.inl)
  | [] => rfl
  | a :: l => by rw [List.map_cons, List.mapM_cons, mapM_keys l]; rfl
theorem key_L : KeyT qL (tT tI) := ⟨fun l => mapM_keys l, fun a b h => by
  induction a generalizing b with
  | nil => cases b with
    | nil => rfl
    | cons x b => cases h
  | cons y a ih => cases b with
    | nil => cases h
    | cons x b =>
      unfold qL at h ih
      rw [List.map_cons, List.map_cons, List.cons.injEq] at h
      obtain ⟨h1, h2⟩ := h
      injection h1 with h1
      rw [h1, ih b h2]⟩
variable {e : α → U}
theorem look_map {kf : κ → A} (hi : ∀ a b, kf a = kf b → a = b) (k : κ) : ∀ d : List (κ × α), lookU (d.map fun p => kf p.1) (d.map fun p => e p.2) (kf k) = (lk d k).map e
  | [] => rfl
  | (x, a) :: d => by
    rw [List.map_cons, List.map_cons]
    unfold lookU lk
    by_cases h : x = k
    · rw [if_pos h, if_pos (by rw [h])]
      rfl
    · rw [if_neg h, if_neg (fun z => h (hi _ _ z))]
      exact look_map hi k d
theorem put_map {kf : κ → A} (hi : ∀ a b, kf a = kf b → a = b) (d : List (κ × α)) (k : κ) (a : α) : putKs (d.map fun p => kf p.1) (kf k) = (putA d k a).map (fun p => kf p.1) ∧ putUs (d.map fun p => kf p.1) (d.map fun p => e p.2) (kf k) (e a) = (putA d k a).map (fun p => e p.2) := by
  have ha : ((d.map fun p => kf p.1).any fun x => decide (x = kf k)) = d.any fun p => decide (p.1 = k) := by
    rw [List.any_map]
    congr 1
    funext p
    rw [Bool.eq_iff_iff]
    show decide (kf p.1 = kf k) = true ↔ _
    rw [decide_eq_true_eq, decide_eq_true_eq]
    exact ⟨hi _ _, fun z => by rw [z]⟩
  unfold putKs putUs putA
  rw [ha]
  by_cases h : (d.any fun p => decide (p.1 = k)) = true
  · rw [if_pos h, if_pos h, if_pos h]
    constructor
    · rw [List.map_map]
      refine List.map_congr_left fun p _ => ?_
      show kf p.1 = kf (if p.1 = k then (p.1, a) else p).1
      split <;> rfl
    · clear h ha
      induction d with
      | nil => rfl
      | cons p d ih =>
        rw [List.map_cons, List.map_cons, List.zipWith_cons_cons, List.map_cons, List.map_cons, ih]
        congr 1
        by_cases hp : p.1 = k
        · rw [if_pos hp, if_pos (by rw [hp])]
        · rw [if_neg hp, if_neg fun z => hp (hi _ _ z)]
  · rw [if_neg h, if_neg h, if_neg h, List.map_append, List.map_append]
    exact ⟨rfl, rfl⟩
variable {u : UEnv} {w w' : VE} {kfK : κ → Key} {kfT : κ → List Key} {ek : κ → U} {d : List (κ × α)} {k : κ} {md : M (List (κ × α))} {mk : M κ}
theorem dget_T (h : KeyT kfT ek) (d : List (κ × α)) (k : κ) : dGetU (tDT kfT e d) (ek k) = some ((lk d k).map e) := by
  show (match (ek k).keysOf with
    | some k => some (lookU (d.map fun (p : κ × α) => kfT p.1) (d.map fun (p : κ × α) => e p.2) k)
    | none => none) = _
  rw [h.key]
  try dsimp only
  rw [look_map h.inj]
theorem tp_getT (h : KeyT kfT ek) (h1 : TP u w (tDT kfT e d)) (h2 : TP u w' (ek k)) : TP u (vGet w w') (tO e (lk d k)) := fun Q X q => h1 _ X ⟨rfl, h2 _ X (by
  try dsimp only
  rw [dget_T h]
  cases z : lk d k with
  | none => rw [z] at q; exact q
  | some x => rw [z] at q; exact q)⟩
theorem tp_newT : TP u vNewT (tDT kfT e ([] : List (κ × α))) := fun Q X q => q
def putT (d : List (κ × α)) (k : κ) (a : α) : M (List (κ × α)) := rq (d.length < sizeLine) (putA d k a)
def putK (kf : κ → Key) (d : List (κ × α)) (k : κ) (a : α) : M (List (κ × α)) := rq (d.length < sizeLine ∧ (putA d k a).map (fun p => kf p.1) ≠ drawKeys) (putA d k a)
theorem setU_T (h : KeyT kfT ek) {a : α} {Q : U → Prop} {C : List (κ × α) → Prop} {E : TX → Prop} (hC : ∀ l, C l → Q (tDT kfT e l)) (m : putT d k a C E) : setU (tDT kfT e d) (ek k) (e a) Q := by
  show (match (ek k).keysOf with
    | some k => (d.map fun p => e p.2).length < sizeLine ∧ Q (.dT (putKs (d.map fun p => kfT p.1) k) (putUs (d.map fun p => kfT p.1) (d.map fun p => e p.2) k (e a)))
    | none => False)
  rw [h.key]
  try dsimp only
  rw [(put_map (e := e) h.inj d k a).1, (put_map (e := e) h.inj d k a).2, List.length_map]
  exact ⟨m.1, hC _ m.2⟩
variable {K : KK τ} {b : VS} {ma : M α} {v ei : VE}
theorem ts_setDT {kk : List (κ × α) → M τ} (i : Nat) (hk : KeyT kfT ek) (hu : u[i]? = some (some (tDT kfT e d, true))) (he : TG u v ma e) (hi : TG u ei mk ek) (h : ∀ l, TS (u.set i (some (tDT kfT e l, true))) b (kk l) K) : TS u (vSeq (vSetIx i ei v) b) (bi ma fun x => bi mk fun j => bi (putT d j x) kk) K := fun P C E hC hE z => by
  show vSetIx i ei v u _
  unfold vSetIx
  rw [hu]
  exact he _ _ _ E (fun x z => hi _ _ _ E (fun j z => setU_T hk (fun l c => h l P C E hC hE c) z) hE z) hE z
end
end Ty
set_option maxRecDepth 100000
set_option maxHeartbeats 4000000
namespace Ty
open PySem PySem.Spec PyProof.Rows L2 Pd
theorem len_ok {l : List U} (n : Nat) (h : l.length = n) (hn : n ≤ 1000) : l.length ≤ sizeLine := by
  rw [h, sizeLine_eq]
  omega
section
variable {α β ρ τ : Type} {u : UEnv} {e : α → U} {U0 : Option α → UEnv} {o : Option α} {b : Bool} {i : Nat} {K K' : KK τ} {A B sb : VS} {m1 : M τ} {m2 : α → M τ} {s : VT} {ms : α → M Bool}
def onO (o : Option α) (m1 : M β) (m2 : α → M β) : M β := match o with
  | none => m1
  | some y => m2 y
theorem ts_retDP {enc : ρ → U} {a : ρ} {w : VE} (he : TP u w (enc a)) : TS u (vRet w) (pu a) (kD enc) := fun P C E hC hE z => he _ _ (hC _ z)
theorem vis_ok (hn : Nn e) (hu : u[i]? = some (some (tO e o, b))) : TP u (vBin vIs (vVarW i) (vC .non)) (tB o.isNone) := tp_bin (a := o) (b := ()) (o_is hn) (tp_varW i hu) tp_c
theorem visn_ok (hn : Nn e) (hu : u[i]? = some (some (tO e o, b))) : TP u (vBin vIsNot (vVarW i) (vC .non)) (tB !o.isNone) := tp_bin (a := o) (b := ()) (o_isnot hn) (tp_varW i hu) tp_c
/-- if x is None: (leaves); x is a value behind it -/
theorem ts_none (i : Nat) (hx : Ex K K') (hn : Nn e) (h0 : U0 o = u) (hu : ∀ o, (U0 o)[i]? = some (some (tO e o, b))) (h1 : TS (U0 none) A m1 K') (h2 : ∀ y, TS (U0 (some y)) sb (m2 y) K) : TS u (vSeq (vIfS (vB (vBin vIs (vVarW i) (vC .non))) A vNext) sb) (onO o m1 m2) K := by
  subst h0
  have t := tp_B (vis_ok hn (hu o))
  intro P C E hC hE z
  refine t _ _ ?_
  cases o with
  | none =>
    show (if true = true then _ else _)
    rw [if_pos rfl]
    exact h1 _ C E (fun t c => hx t P _ (fun o ho p => by cases o <;> first | exact p | cases ho) (hC t c)) hE z
  | some y =>
    show (if false = true then _ else _)
    rw [if_neg (by decide)]
    exact h2 y P C E hC hE z
theorem tg_andO (i : Nat) (hn : Nn e) (h0 : U0 o = u) (hu : ∀ o, (U0 o)[i]? = some (some (tO e o, b))) (h : ∀ y, TG (U0 (some y)) s (ms y) id) : TG u (vAnd (vB (vBin vIsNot (vVarW i) (vC .non))) s) (onO o (pu false) ms) id := by
  subst h0
  have t := tp_B (visn_ok hn (hu o))
  intro Q X C E hC hE z
  refine t _ _ ?_
  cases o with
  | none =>
    show (if (!true) = true then _ else _)
    rw [if_neg (by decide)]
    exact hC _ z
  | some y =>
    show (if (!false) = true then _ else _)
    rw [if_pos (by decide)]
    exact h y Q X C E hC hE z
def tU : U → U := fun v => v
theorem tg_any {w : VE} {m : M α} (h : TG u w m e) : TG u w (bi m fun a => pu (e a)) tU := fun Q X C E hC hE z => h Q X _ E (fun a c => hC (e a) c) hE z
theorem tg_L1 {gv : VOL} {l : VA} {ea : α → List U} {eb : α → U} {m : M α} (h : ∀ a, OL gv (ea a) (eb a)) (hl : TG u l m ea) : TG u (vL gv l) m eb := fun Q X C E hC hE z => hl _ X _ E (fun a z => h a Q (hC _ z)) hE z
theorem ts_popTupM {l : List (List α)} {mz : M Int} {enc : α → U} {encb : β → U} {g : UG} {bb : VS} {ek te : VE} {own : List Nat} {ue : List (List α) → α → UEnv} {me : α → M β} {k : List β → List (List α) → M τ} (i l' : Nat) (hu : u[l']? = some (some (tL (tT enc) l, true))) (hk : TG u ek mz tI)
    (hg : ∀ L x, g (enc x) (wipeU (u.set l' (some (tL (tT enc) L, true))) own) = some (ue L x)) (he : ∀ L x, TG (ue L x) te (me x) encb)
    (h : ∀ r L, TS ((u.set l' (some (tL (tT enc) L, true))).set i (some (tT encb r, false))) bb (k r L) K) : TS u (vSeq (vPopTup i l' ek own g vYes te) bb) (bi mz fun z => bi (popM l z) fun p => bi (nx (lcM (fun _ => pu true) me p.1 [])) fun r => k r p.2) K := fun P C E hC hE y => by
  have h2 := fun z => ts_popTup (ek := fun u Q X => Q (tI z)) (z := z) i l' hu (fun Q X q => q) hg he h P C E hC hE
  show vPopTup i l' ek own g vYes te u _
  unfold vPopTup
  rw [hu]
  refine hk _ _ _ E (fun z y => ?_) hE y
  have h3 := h2 z y
  replace h3 : vPopTup i l' (fun u Q X => Q (tI z)) own g vYes te u _ := h3
  unfold vPopTup at h3
  rw [hu] at h3
  exact h3
end
end Ty
set_option maxRecDepth 100000
set_option maxHeartbeats 400000
namespace Ty
open PySem PySem.Spec PyProof.Rows L2 Pd
end Ty
set_option maxRecDepth 100000
set_option maxHeartbeats 400000
namespace Ty
open PySem PySem.Spec PyProof.Rows L2 Pd SrtT
end Ty
set_option maxRecDepth 100000
set_option maxHeartbeats 400000
namespace Ty
open PySem PySem.Spec PyProof.Rows L2 Pd
end Ty
set_option maxRecDepth 100000
set_option maxHeartbeats 400000
namespace Ty
open PySem PySem.Spec PyProof.Rows L2 Pd
end Ty
set_option maxRecDepth 100000
set_option maxHeartbeats 400000
namespace Ty
open PySem PySem.Spec PyProof.Rows L2 Pd SrtT
end Ty
set_option maxRecDepth 100000
set_option maxHeartbeats 400000
namespace Ty
open PySem PySem.Spec PyProof.Rows L2 Pd
end Ty
set_option maxRecDepth 100000
set_option maxHeartbeats 400000
namespace Ty
open PySem PySem.Spec PyProof.Rows L2 Pd SrtT
end Ty
set_option maxRecDepth 100000
set_option maxHeartbeats 400000
namespace Ty
open PySem PySem.Spec PyProof.Rows L2 Pd SrtT
end Ty
set_option maxRecDepth 100000
set_option maxHeartbeats 400000
namespace Ty
open PySem PySem.Spec PyProof.Rows L2 Pd SrtT
end Ty
set_option maxRecDepth 100000
set_option maxHeartbeats 400000
namespace Ty
open PySem PySem.Spec PyProof.Rows L2 Pd SrtT
end Ty
set_option maxRecDepth 100000
set_option maxHeartbeats 400000
namespace Ty
open PySem PySem.Spec PyProof.Rows L2 Pd SrtT
end Ty
set_option maxRecDepth 100000
set_option maxHeartbeats 400000
namespace Ty
open PySem PySem.Spec PyProof.Rows L2 Pd SrtT
end Ty
set_option maxRecDepth 100000
set_option maxHeartbeats 400000
namespace Ty
open PySem PySem.Spec PyProof.Rows L2 Pd SrtT
end Ty
set_option maxRecDepth 100000
set_option maxHeartbeats 4000000
namespace Pd
open PySem PySem.Spec PyProof.Rows L2
end Pd
namespace Ty
open PySem PySem.Spec PyProof.Rows L2 Pd SrtT
end Ty
set_option maxRecDepth 100000
set_option maxHeartbeats 4000000
namespace Ty
open PySem PySem.Spec PyProof.Rows L2 Pd SrtT
end Ty
set_option maxRecDepth 100000
set_option maxHeartbeats 4000000
namespace LH
open PySem PySem.Spec PyProof.Rows L2 Pd
def top (i : Nat) : Stmt := PySem.Challenge.pw_patchrooms_k02_whole_columns_led_back.main.body.getD i (.Pass ⟨0, 0, 0, 0⟩)
def mkD (x : Str) (i : Nat) : He.DefD := ⟨(x, none), x, x, defArgs (top i), defBody (top i), defScope (top i), [], []⟩
def fn : List He.DefD := [mkD "still_table" 1, mkD "taken_off" 2, mkD "back_number" 3, mkD "reduced" 4, mkD "lead_places" 5, mkD "kernel" 6, mkD "solved" 7, mkD "turned_back" 8, mkD "_law_begun" 10, mkD "_law_draw" 11, mkD "_law_of" 12, mkD "_law_shuffled" 13, mkD "_law_like" 14, mkD "_law_back" 15, mkD "_law_off" 16, mkD "_law_reduced" 17, mkD "_law_leads" 18, mkD "_law_kernel" 19, mkD "_law_rank" 20, mkD "_law_led" 21, mkD "_law_behind" 22, mkD "_law_unit" 23, mkD "_law_prime" 24, mkD "_law_small_prime" 25, mkD "_law_column" 26, mkD "_law_table" 27, mkD "_law_every" 28, mkD "_law_steps" 29, mkD "_law_all_right" 30, mkD "_law_back_right" 31, mkD "law" 32]
def fa : List He.Fa := [.glo "still_table", .glo "taken_off", .glo "back_number", .glo "reduced", .glo "lead_places", .glo "kernel", .glo "solved", .glo "turned_back", .glo "_law_begun", .glo "_law_draw", .glo "_law_of", .glo "_law_shuffled", .glo "_law_like", .glo "_law_back", .glo "_law_off", .glo "_law_reduced", .glo "_law_leads", .glo "_law_kernel", .glo "_law_rank", .glo "_law_led", .glo "_law_behind", .glo "_law_unit", .glo "_law_prime", .glo "_law_small_prime", .glo "_law_column", .glo "_law_table", .glo "_law_every", .glo "_law_steps", .glo "_law_all_right", .glo "_law_back_right", .glo "law", .free "enumerate", .free "int", .free "len", .free "list", .free "max", .free "min", .free "range", .free "repr", .free "sum", .free "tuple", .free "zip"]
def N_still_table : List Str := ["size", "j", "i"]
theorem sc_still_table : FnScope N_still_table ["size"] (defScope (top 1)) := ⟨rfl, rfl, rfl, by decide +kernel, rfl, by decide +kernel, by decide +kernel⟩
def den_still_table : DS := (dRet (dL oTuple (dCons (dLc (itRg1 (dVar 0)) [2] (nNm 2) dYes (dL oTuple (dCons (dLc (itRg1 (dVar 0)) [1] (nNm 1) dYes (dL oInt (dCons (dBin oEq (dVar 2) (dVar 1)) dNil))) dNil))) dNil)))
def F_still_table : DFn := runD 3 den_still_table
theorem ok_still_table {P : Program} {w : World} {K : PySem.W.Frag} {h : Heap} {mg : Str → Option Value} (X : K.In h) (G : h.Ns mainGlobals mg) (c : He.SaysD fa fn K) : DOk P w K mg CX0 XX0 1 "still_table" (top 1) ["size"] F_still_table := by
  obtain ⟨fd, F⟩ := c.def_ 0 (d := mkD "still_table" 1) rfl
  have m_int : mg "int" = none := He.free_ok X G (c.fact 32 (f := .free "int") rfl)
  have m_range : mg "range" = none := He.free_ok X G (c.fact 37 (f := .free "range") rfl)
  have m_tuple : mg "tuple" = none := He.free_ok X G (c.fact 40 (f := .free "tuple") rfl)
  refine DOk.of0 F (He.glo_ok X G (c.fact 0 (f := .glo "still_table") rfl)) sc_still_table (fun _ _ _ _ _ _ us hl => match us, hl with | [_], _ => rfl) fun base cdv A outer s H E KX G' hr hg => ?_
  unfold den_still_table
  exact (pdss_one (pds_ret (pd_callTy cd_tuple m_tuple bt_tuple (pda_cons (pd_lc (own := [("i", 2)]) (gok_nm 2) rfl sc_still_table.nd (blkOk_by (by rfl)) (pdi_range1 rfl m_range (pd_var 0)) (fun _ _ _ _ _ => (pg_name (i := 2) sc_still_table.nd rfl (by first | exact Or.inl rfl | exact Or.inr rfl))) (fun _ _ _ _ _ => pds_tests0) (fun _ _ _ _ _ => (pd_callTy cd_tuple m_tuple bt_tuple (pda_cons (pd_lc (own := [("j", 1)]) (gok_nm 1) rfl sc_still_table.nd (blkOk_by (by rfl)) (pdi_range1 rfl m_range (pd_var 0)) (fun _ _ _ _ _ => (pg_name (i := 1) sc_still_table.nd rfl (by first | exact Or.inl rfl | exact Or.inr rfl))) (fun _ _ _ _ _ => pds_tests0) (fun _ _ _ _ _ => (pd_callTy cd_int m_int bt_int (pda_cons (pd_cmp (od_eq hr.u64) (pd_var 2) (pd_var 1)) pda_nil)))) pda_nil)))) pda_nil))))
def N_taken_off : List Str := ["prime", "column", "times", "other", "a", "b"]
theorem sc_taken_off : FnScope N_taken_off ["prime", "column", "times", "other"] (defScope (top 2)) := ⟨rfl, rfl, rfl, by decide +kernel, rfl, by decide +kernel, by decide +kernel⟩
def den_taken_off : DS := (dRet (dL oTuple (dCons (dLc (itZip (dVar 1) (dVar 3)) [4, 5] (nTp (nsCons (nNm 4) (nsCons (nNm 5) nsNil))) dYes (dBin oMod (dBin oSub (dVar 4) (dBin oMul (dVar 2) (dVar 5))) (dVar 0))) dNil)))
def F_taken_off : DFn := runD 6 den_taken_off
theorem ok_taken_off {P : Program} {w : World} {K : PySem.W.Frag} {h : Heap} {mg : Str → Option Value} (X : K.In h) (G : h.Ns mainGlobals mg) (c : He.SaysD fa fn K) : DOk P w K mg CX0 XX0 1 "taken_off" (top 2) ["prime", "column", "times", "other"] F_taken_off := by
  obtain ⟨fd, F⟩ := c.def_ 1 (d := mkD "taken_off" 2) rfl
  have m_tuple : mg "tuple" = none := He.free_ok X G (c.fact 40 (f := .free "tuple") rfl)
  have m_zip : mg "zip" = none := He.free_ok X G (c.fact 41 (f := .free "zip") rfl)
  refine DOk.of0 F (He.glo_ok X G (c.fact 1 (f := .glo "taken_off") rfl)) sc_taken_off (fun _ _ _ _ _ _ us hl => match us, hl with | [_, _, _, _], _ => rfl) fun base cdv A outer s H E KX G' hr hg => ?_
  unfold den_taken_off
  exact (pdss_one (pds_ret (pd_callTy cd_tuple m_tuple bt_tuple (pda_cons (pd_lc (own := [("a", 4), ("b", 5)]) (gok_t2 (gok_nm 4) (gok_nm 5)) rfl sc_taken_off.nd (blkOk_by (by rfl)) (pdi_zip rfl m_zip (pd_var 1) (pd_var 3)) (fun _ _ _ _ _ => (pg_tup rfl (pgs_cons (pg_name (i := 4) sc_taken_off.nd rfl (by first | exact Or.inl rfl | exact Or.inr rfl)) (pgs_cons (pg_name (i := 5) sc_taken_off.nd rfl (by first | exact Or.inl rfl | exact Or.inr rfl)) pgs_nil)))) (fun _ _ _ _ _ => pds_tests0) (fun _ _ _ _ _ => (pd_bin od_mod (pd_bin od_sub (pd_var 4) (pd_bin od_mul (pd_var 2) (pd_var 5))) (pd_var 0)))) pda_nil))))
def N_back_number : List Str := ["prime", "entry", "number"]
theorem sc_back_number : FnScope N_back_number ["prime", "entry"] (defScope (top 3)) := ⟨rfl, rfl, rfl, by decide +kernel, rfl, by decide +kernel, by decide +kernel⟩
def den_back_number : DS := (dRet (dBin oIx (dLc (itRg2 (dC (.int 1)) (dVar 0)) [2] (nNm 2) (dB (dBin oEq (dBin oMod (dBin oMul (dVar 2) (dVar 1)) (dVar 0)) (dC (.int 1)))) (dVar 2)) (dC (.int 0))))
def F_back_number : DFn := runD 3 den_back_number
theorem ok_back_number {P : Program} {w : World} {K : PySem.W.Frag} {h : Heap} {mg : Str → Option Value} (X : K.In h) (G : h.Ns mainGlobals mg) (c : He.SaysD fa fn K) : DOk P w K mg CX0 XX0 1 "back_number" (top 3) ["prime", "entry"] F_back_number := by
  obtain ⟨fd, F⟩ := c.def_ 2 (d := mkD "back_number" 3) rfl
  have m_range : mg "range" = none := He.free_ok X G (c.fact 37 (f := .free "range") rfl)
  refine DOk.of0 F (He.glo_ok X G (c.fact 2 (f := .glo "back_number") rfl)) sc_back_number (fun _ _ _ _ _ _ us hl => match us, hl with | [_, _], _ => rfl) fun base cdv A outer s H E KX G' hr hg => ?_
  unfold den_back_number
  exact (pdss_one (pds_ret (pd_ix hr.u1 (pd_lc (own := [("number", 2)]) (gok_nm 2) rfl sc_back_number.nd (blkOk_by (by rfl)) (pdi_range2 rfl m_range pd_int (pd_var 0)) (fun _ _ _ _ _ => (pg_name (i := 2) sc_back_number.nd rfl (by first | exact Or.inl rfl | exact Or.inr rfl))) (fun _ _ _ _ _ => (pds_tests1 (pdt_cmp (od_eq hr.u64) (pd_bin od_mod (pd_bin od_mul (pd_var 2) (pd_var 1)) (pd_var 0)) pd_int))) (fun _ _ _ _ _ => (pd_var 2))) pd_int)))
def N_reduced : List Str := ["prime", "columns", "size", "left", "found", "spot", "some", "k", "column", "times", "lead", "entry"]
theorem sc_reduced : FnScope N_reduced ["prime", "columns", "size"] (defScope (top 4)) := ⟨rfl, rfl, rfl, by decide +kernel, rfl, by decide +kernel, by decide +kernel⟩
def den_reduced : DS := (dSeq (dPar 3 4 (dL oList (dCons (dVar 1) dNil)) (dL oLst dNil))
    (dSeq (dFor (itRg1 (dVar 2)) (nNm 5)
    (dSeq (dSet 6 (dLc (itEnum (dVar 3)) [7, 8] (nTp (nsCons (nNm 7) (nsCons (nNm 8) nsNil))) (dB (dBin oNe (dBin oIx (dVar 8) (dVar 5)) (dC (.int 0)))) (dVar 7)))
    (dSeq (dIfS (dB (dBin oEq (dVar 6) (dL oLst dNil)))
    dCont
    dNext)
    (dSeq (dSet 9 (dL (ofN 2 F_back_number) (dCons (dVar 0) (dCons (dBin oIx (dBin oIx (dVar 3) (dBin oIx (dVar 6) (dC (.int 0)))) (dVar 5)) dNil))))
    (dSeq (dSet 10 (dL oTuple (dCons (dLc (itSeq (dMt oPop (dVar 3) (dCons (dBin oIx (dVar 6) (dC (.int 0))) dNil))) [11] (nNm 11) dYes (dBin oMod (dBin oMul (dVar 9) (dVar 11)) (dVar 0))) dNil)))
    (dSeq (dSet 3 (dLc (itSeq (dVar 3)) [8] (nNm 8) dYes (dIf (dTru (dBin oIx (dVar 8) (dVar 5))) (dL (ofN 4 F_taken_off) (dCons (dVar 0) (dCons (dVar 8) (dCons (dBin oIx (dVar 8) (dVar 5)) (dCons (dVar 10) dNil))))) (dVar 8))))
    (dSeq (dSet 4 (dLc (itSeq (dVar 4)) [8] (nNm 8) dYes (dIf (dTru (dBin oIx (dVar 8) (dVar 5))) (dL (ofN 4 F_taken_off) (dCons (dVar 0) (dCons (dVar 8) (dCons (dBin oIx (dVar 8) (dVar 5)) (dCons (dVar 10) dNil))))) (dVar 8))))
    (dExpr (dMt oAppend (dVar 4) (dCons (dVar 10) dNil))))))))))
    (dRet (dL oTuple (dCons (dVar 4) dNil)))))
def F_reduced : DFn := runD 12 den_reduced
theorem ok_reduced {P : Program} {w : World} {K : PySem.W.Frag} {h : Heap} {mg : Str → Option Value} (X : K.In h) (G : h.Ns mainGlobals mg) (c : He.SaysD fa fn K) : DOk P w K mg CX0 XX0 2 "reduced" (top 4) ["prime", "columns", "size"] F_reduced := by
  obtain ⟨fd, F⟩ := c.def_ 3 (d := mkD "reduced" 4) rfl
  have d_back_number := ok_back_number (w := w) (P := P) X G c
  have d_taken_off := ok_taken_off (w := w) (P := P) X G c
  have m_enumerate : mg "enumerate" = none := He.free_ok X G (c.fact 31 (f := .free "enumerate") rfl)
  have m_list : mg "list" = none := He.free_ok X G (c.fact 34 (f := .free "list") rfl)
  have m_range : mg "range" = none := He.free_ok X G (c.fact 37 (f := .free "range") rfl)
  have m_tuple : mg "tuple" = none := He.free_ok X G (c.fact 40 (f := .free "tuple") rfl)
  refine DOk.of0 F (He.glo_ok X G (c.fact 3 (f := .glo "reduced") rfl)) sc_reduced (fun _ _ _ _ _ _ us hl => match us, hl with | [_, _, _], _ => rfl) fun base cdv A outer s H E KX G' hr hg => ?_
  unfold den_reduced
  exact (pdss_cons (pds_par 3 4 rfl sc_reduced.nd (pd_callTy cd_list m_list bt_list (pda_cons (pd_var 1) pda_nil)) (pd_lst pda_nil))
    (pdss_cons (pds_for (gok_nm 5) PassesOwn.never rfl (pdi_range1 rfl m_range (pd_var 2)) (pg_name (i := 5) sc_reduced.nd rfl (by first | exact Or.inl rfl | exact Or.inr rfl))
    (pdss_cons (pds_setLc 6 (own := [("k", 7), ("column", 8)]) (gok_t2 (gok_nm 7) (gok_nm 8)) rfl sc_reduced.nd (blkOk_by (by rfl)) (pdi_enum rfl m_enumerate (pd_var 3)) (fun _ _ _ _ _ => (pg_tup rfl (pgs_cons (pg_name (i := 7) sc_reduced.nd rfl (by first | exact Or.inl rfl | exact Or.inr rfl)) (pgs_cons (pg_name (i := 8) sc_reduced.nd rfl (by first | exact Or.inl rfl | exact Or.inr rfl)) pgs_nil)))) (fun _ _ _ _ _ => (pds_tests1 (pdt_cmp (od_ne hr.u64) (pd_ix hr.u1 (pd_var 8) (pd_var 5)) pd_int))) (fun _ _ _ _ _ => (pd_var 7)))
    (pdss_cons (pds_if (pdt_cmp (od_eq hr.u64) (pd_var 6) (pd_lst pda_nil))
    (pdss_one pds_cont)
    pdss_nil)
    (pdss_cons (pds_set 9 sc_reduced.nd (pc_call (E := fun _ _ _ => False) d_back_number (hr.mono (by decide)) ⟨KX, G', pass0, hg⟩ (pda_cons (pd_var 0) (pda_cons (pd_ix hr.u1 (pd_ix hr.u1 (pd_var 3) (pd_ix hr.u1 (pd_var 6) pd_int)) (pd_var 5)) pda_nil))))
    (pdss_cons (pds_set 10 sc_reduced.nd (pd_callTy cd_tuple m_tuple bt_tuple (pda_cons (pd_lc (own := [("entry", 11)]) (gok_nm 11) rfl sc_reduced.nd (blkOk_by (by rfl)) (pdi_seq (pd_mt PySem.F.slot_list_pop PySem.F.type_list_pop md_pop (pd_var 3) (pda_cons (pd_ix hr.u1 (pd_var 6) pd_int) pda_nil))) (fun _ _ _ _ _ => (pg_name (i := 11) sc_reduced.nd rfl (by first | exact Or.inl rfl | exact Or.inr rfl))) (fun _ _ _ _ _ => pds_tests0) (fun _ _ _ _ _ => (pd_bin od_mod (pd_bin od_mul (pd_var 9) (pd_var 11)) (pd_var 0)))) pda_nil)))
    (pdss_cons (pds_setLc 3 (own := [("column", 8)]) (gok_nm 8) rfl sc_reduced.nd (blkOk_by (by rfl)) (pdi_seq (pd_var 3)) (fun _ _ _ _ _ => (pg_name (i := 8) sc_reduced.nd rfl (by first | exact Or.inl rfl | exact Or.inr rfl))) (fun _ _ _ _ _ => pds_tests0) (fun _ _ _ _ _ => (pd_if (pdt_tru (pd_ix hr.u1 (pd_var 8) (pd_var 5))) (pc_call (E := fun _ _ _ => False) d_taken_off (hr.mono (by decide)) ⟨KX, G', pass0, hg⟩ (pda_cons (pd_var 0) (pda_cons (pd_var 8) (pda_cons (pd_ix hr.u1 (pd_var 8) (pd_var 5)) (pda_cons (pd_var 10) pda_nil))))) (pd_var 8))))
    (pdss_cons (pds_setLc 4 (own := [("column", 8)]) (gok_nm 8) rfl sc_reduced.nd (blkOk_by (by rfl)) (pdi_seq (pd_var 4)) (fun _ _ _ _ _ => (pg_name (i := 8) sc_reduced.nd rfl (by first | exact Or.inl rfl | exact Or.inr rfl))) (fun _ _ _ _ _ => pds_tests0) (fun _ _ _ _ _ => (pd_if (pdt_tru (pd_ix hr.u1 (pd_var 8) (pd_var 5))) (pc_call (E := fun _ _ _ => False) d_taken_off (hr.mono (by decide)) ⟨KX, G', pass0, hg⟩ (pda_cons (pd_var 0) (pda_cons (pd_var 8) (pda_cons (pd_ix hr.u1 (pd_var 8) (pd_var 5)) (pda_cons (pd_var 10) pda_nil))))) (pd_var 8))))
    (pdss_one (pds_expr (pd_mt PySem.F.slot_list_append PySem.F.type_list_append md_append (pd_var 4) (pda_cons (pd_var 10) pda_nil)))))))))))
    (pdss_one (pds_ret (pd_callTy cd_tuple m_tuple bt_tuple (pda_cons (pd_var 4) pda_nil))))))
def N_lead_places : List Str := ["basis", "k", "entry", "column"]
theorem sc_lead_places : FnScope N_lead_places ["basis"] (defScope (top 5)) := ⟨rfl, rfl, rfl, by decide +kernel, rfl, by decide +kernel, by decide +kernel⟩
def den_lead_places : DS := (dRet (dLc (itSeq (dVar 0)) [3] (nNm 3) dYes (dBin oIx (dLc (itEnum (dVar 3)) [1, 2] (nTp (nsCons (nNm 1) (nsCons (nNm 2) nsNil))) (dB (dBin oNe (dVar 2) (dC (.int 0)))) (dVar 1)) (dC (.int 0)))))
def F_lead_places : DFn := runD 4 den_lead_places
theorem ok_lead_places {P : Program} {w : World} {K : PySem.W.Frag} {h : Heap} {mg : Str → Option Value} (X : K.In h) (G : h.Ns mainGlobals mg) (c : He.SaysD fa fn K) : DOk P w K mg CX0 XX0 1 "lead_places" (top 5) ["basis"] F_lead_places := by
  obtain ⟨fd, F⟩ := c.def_ 4 (d := mkD "lead_places" 5) rfl
  have m_enumerate : mg "enumerate" = none := He.free_ok X G (c.fact 31 (f := .free "enumerate") rfl)
  refine DOk.of0 F (He.glo_ok X G (c.fact 4 (f := .glo "lead_places") rfl)) sc_lead_places (fun _ _ _ _ _ _ us hl => match us, hl with | [_], _ => rfl) fun base cdv A outer s H E KX G' hr hg => ?_
  unfold den_lead_places
  exact (pdss_one (pds_ret (pd_lc (own := [("column", 3)]) (gok_nm 3) rfl sc_lead_places.nd (blkOk_by (by rfl)) (pdi_seq (pd_var 0)) (fun _ _ _ _ _ => (pg_name (i := 3) sc_lead_places.nd rfl (by first | exact Or.inl rfl | exact Or.inr rfl))) (fun _ _ _ _ _ => pds_tests0) (fun _ _ _ _ _ => (pd_ix hr.u1 (pd_lc (own := [("k", 1), ("entry", 2)]) (gok_t2 (gok_nm 1) (gok_nm 2)) rfl sc_lead_places.nd (blkOk_by (by rfl)) (pdi_enum rfl m_enumerate (pd_var 3)) (fun _ _ _ _ _ => (pg_tup rfl (pgs_cons (pg_name (i := 1) sc_lead_places.nd rfl (by first | exact Or.inl rfl | exact Or.inr rfl)) (pgs_cons (pg_name (i := 2) sc_lead_places.nd rfl (by first | exact Or.inl rfl | exact Or.inr rfl)) pgs_nil)))) (fun _ _ _ _ _ => (pds_tests1 (pdt_cmp (od_ne hr.u64) (pd_var 2) pd_int))) (fun _ _ _ _ _ => (pd_var 1))) pd_int)))))
def N_kernel : List Str := ["prime", "table", "size", "basis", "leads", "found", "free", "column", "line", "lead"]
theorem sc_kernel : FnScope N_kernel ["prime", "table", "size"] (defScope (top 6)) := ⟨rfl, rfl, rfl, by decide +kernel, rfl, by decide +kernel, by decide +kernel⟩
def den_kernel : DS := (dSeq (dSet 3 (dL (ofN 3 F_reduced) (dCons (dVar 0) (dCons (dVar 1) (dCons (dVar 2) dNil)))))
    (dSeq (dPar 4 5 (dL (ofN 1 F_lead_places) (dCons (dVar 3) dNil)) (dL oLst dNil))
    (dSeq (dFor (itRg1 (dVar 2)) (nNm 6)
    (dSeq (dIfS (dB (dBin oIn (dVar 6) (dVar 4)))
    dCont
    dNext)
    (dSeq (dSet 7 (dBin oMul (dL oLst (dCons (dC (.int 0)) dNil)) (dVar 2)))
    (dSeq (dSetIx (dC (.int 1)) (dVar 7) (dVar 6))
    (dSeq (dFor (itZip (dVar 3) (dVar 4)) (nTp (nsCons (nNm 8) (nsCons (nNm 9) nsNil)))
    (dSetIx (dBin oMod (dUn oNeg (dBin oIx (dVar 8) (dVar 6))) (dVar 0)) (dVar 7) (dVar 9)))
    (dExpr (dMt oAppend (dVar 5) (dCons (dL oTuple (dCons (dVar 7) dNil)) dNil))))))))
    (dRet (dL (ofN 3 F_reduced) (dCons (dVar 0) (dCons (dVar 5) (dCons (dVar 2) dNil))))))))
def F_kernel : DFn := runD 10 den_kernel
theorem ok_kernel {P : Program} {w : World} {K : PySem.W.Frag} {h : Heap} {mg : Str → Option Value} (X : K.In h) (G : h.Ns mainGlobals mg) (c : He.SaysD fa fn K) : DOk P w K mg CX0 XX0 3 "kernel" (top 6) ["prime", "table", "size"] F_kernel := by
  obtain ⟨fd, F⟩ := c.def_ 5 (d := mkD "kernel" 6) rfl
  have d_reduced := ok_reduced (w := w) (P := P) X G c
  have d_lead_places := ok_lead_places (w := w) (P := P) X G c
  have m_range : mg "range" = none := He.free_ok X G (c.fact 37 (f := .free "range") rfl)
  have m_tuple : mg "tuple" = none := He.free_ok X G (c.fact 40 (f := .free "tuple") rfl)
  have m_zip : mg "zip" = none := He.free_ok X G (c.fact 41 (f := .free "zip") rfl)
  refine DOk.of0 F (He.glo_ok X G (c.fact 5 (f := .glo "kernel") rfl)) sc_kernel (fun _ _ _ _ _ _ us hl => match us, hl with | [_, _, _], _ => rfl) fun base cdv A outer s H E KX G' hr hg => ?_
  unfold den_kernel
  exact (pdss_cons (pds_set 3 sc_kernel.nd (pc_call (E := fun _ _ _ => False) d_reduced (hr.mono (by decide)) ⟨KX, G', pass0, hg⟩ (pda_cons (pd_var 0) (pda_cons (pd_var 1) (pda_cons (pd_var 2) pda_nil)))))
    (pdss_cons (pds_par 4 5 rfl sc_kernel.nd (pc_call (E := fun _ _ _ => False) d_lead_places (hr.mono (by decide)) ⟨KX, G', pass0, hg⟩ (pda_cons (pd_var 3) pda_nil)) (pd_lst pda_nil))
    (pdss_cons (pds_for (gok_nm 6) PassesOwn.never rfl (pdi_range1 rfl m_range (pd_var 2)) (pg_name (i := 6) sc_kernel.nd rfl (by first | exact Or.inl rfl | exact Or.inr rfl))
    (pdss_cons (pds_if (pdt_cmp (od_in hr.u65) (pd_var 6) (pd_var 4))
    (pdss_one pds_cont)
    pdss_nil)
    (pdss_cons (pds_set 7 sc_kernel.nd (pd_bin od_mul (pd_lst (pda_cons pd_int pda_nil)) (pd_var 2)))
    (pdss_cons (pds_setIx hr.u1 pd_int (pd_var 7) (pd_var 6))
    (pdss_cons (pds_for (gok_t2 (gok_nm 8) (gok_nm 9)) PassesOwn.never rfl (pdi_zip rfl m_zip (pd_var 3) (pd_var 4)) (pg_tup rfl (pgs_cons (pg_name (i := 8) sc_kernel.nd rfl (by first | exact Or.inl rfl | exact Or.inr rfl)) (pgs_cons (pg_name (i := 9) sc_kernel.nd rfl (by first | exact Or.inl rfl | exact Or.inr rfl)) pgs_nil)))
    (pdss_one (pds_setIx hr.u1 (pd_bin od_mod (pd_un ud_neg (pd_ix hr.u1 (pd_var 8) (pd_var 6))) (pd_var 0)) (pd_var 7) (pd_var 9))))
    (pdss_one (pds_expr (pd_mt PySem.F.slot_list_append PySem.F.type_list_append md_append (pd_var 5) (pda_cons (pd_callTy cd_tuple m_tuple bt_tuple (pda_cons (pd_var 7) pda_nil)) pda_nil)))))))))
    (pdss_one (pds_ret (pc_call (E := fun _ _ _ => False) d_reduced (hr.mono (by decide)) ⟨KX, G', pass0, hg⟩ (pda_cons (pd_var 0) (pda_cons (pd_var 5) (pda_cons (pd_var 2) pda_nil)))))))))
def N_solved : List Str := ["prime", "table", "size", "column", "lines", "line", "entry", "basis", "leads", "found", "lead", "told", "spot"]
theorem sc_solved : FnScope N_solved ["prime", "table", "size", "column"] (defScope (top 7)) := ⟨rfl, rfl, rfl, by decide +kernel, rfl, by decide +kernel, by decide +kernel⟩
def den_solved : DS := (dSeq (dSet 4 (dLc (itZip (dVar 1) (dVar 3)) [5, 6] (nTp (nsCons (nNm 5) (nsCons (nNm 6) nsNil))) dYes (dBin oAdd (dVar 5) (dL oTup (dCons (dVar 6) dNil)))))
    (dSeq (dSet 7 (dL (ofN 3 F_reduced) (dCons (dVar 0) (dCons (dVar 4) (dCons (dBin oAdd (dVar 2) (dC (.int 1))) dNil)))))
    (dSeq (dSet 8 (dL (ofN 1 F_lead_places) (dCons (dVar 7) dNil)))
    (dSeq (dIfS (dB (dBin oIn (dVar 2) (dVar 8)))
    (dRet (dC .non))
    dNext)
    (dSeq (dSet 9 (dBin oMul (dL oLst (dCons (dC (.int 0)) dNil)) (dVar 2)))
    (dSeq (dFor (itZip (dVar 7) (dVar 8)) (nTp (nsCons (nNm 5) (nsCons (nNm 10) nsNil)))
    (dSetIx (dBin oIx (dVar 5) (dVar 2)) (dVar 9) (dVar 10)))
    (dSeq (dFor (itSeq (dL (ofN 3 F_kernel) (dCons (dVar 0) (dCons (dVar 1) (dCons (dVar 2) dNil))))) (nNm 11)
    (dSeq (dSet 12 (dBin oIx (dL (ofN 1 F_lead_places) (dCons (dL oLst (dCons (dVar 11) dNil)) dNil)) (dC (.int 0))))
    (dIfS (dB (dBin oNe (dBin oIx (dVar 9) (dVar 12)) (dC (.int 0))))
    (dSet 9 (dL oList (dCons (dL (ofN 4 F_taken_off) (dCons (dVar 0) (dCons (dVar 9) (dCons (dBin oIx (dVar 9) (dVar 12)) (dCons (dVar 11) dNil))))) dNil)))
    dNext)))
    (dRet (dL oTuple (dCons (dVar 9) dNil))))))))))
def F_solved : DFn := runD 13 den_solved
theorem ok_solved {P : Program} {w : World} {K : PySem.W.Frag} {h : Heap} {mg : Str → Option Value} (X : K.In h) (G : h.Ns mainGlobals mg) (c : He.SaysD fa fn K) : DOk P w K mg CX0 XX0 4 "solved" (top 7) ["prime", "table", "size", "column"] F_solved := by
  obtain ⟨fd, F⟩ := c.def_ 6 (d := mkD "solved" 7) rfl
  have d_reduced := ok_reduced (w := w) (P := P) X G c
  have d_lead_places := ok_lead_places (w := w) (P := P) X G c
  have d_taken_off := ok_taken_off (w := w) (P := P) X G c
  have d_kernel := ok_kernel (w := w) (P := P) X G c
  have m_list : mg "list" = none := He.free_ok X G (c.fact 34 (f := .free "list") rfl)
  have m_tuple : mg "tuple" = none := He.free_ok X G (c.fact 40 (f := .free "tuple") rfl)
  have m_zip : mg "zip" = none := He.free_ok X G (c.fact 41 (f := .free "zip") rfl)
  refine DOk.of0 F (He.glo_ok X G (c.fact 6 (f := .glo "solved") rfl)) sc_solved (fun _ _ _ _ _ _ us hl => match us, hl with | [_, _, _, _], _ => rfl) fun base cdv A outer s H E KX G' hr hg => ?_
  unfold den_solved
  exact (pdss_cons (pds_setLc 4 (own := [("line", 5), ("entry", 6)]) (gok_t2 (gok_nm 5) (gok_nm 6)) rfl sc_solved.nd (blkOk_by (by rfl)) (pdi_zip rfl m_zip (pd_var 1) (pd_var 3)) (fun _ _ _ _ _ => (pg_tup rfl (pgs_cons (pg_name (i := 5) sc_solved.nd rfl (by first | exact Or.inl rfl | exact Or.inr rfl)) (pgs_cons (pg_name (i := 6) sc_solved.nd rfl (by first | exact Or.inl rfl | exact Or.inr rfl)) pgs_nil)))) (fun _ _ _ _ _ => pds_tests0) (fun _ _ _ _ _ => (pd_bin od_add (pd_var 5) (pd_tup (pda_cons (pd_var 6) pda_nil)))))
    (pdss_cons (pds_set 7 sc_solved.nd (pc_call (E := fun _ _ _ => False) d_reduced (hr.mono (by decide)) ⟨KX, G', pass0, hg⟩ (pda_cons (pd_var 0) (pda_cons (pd_var 4) (pda_cons (pd_bin od_add (pd_var 2) pd_int) pda_nil)))))
    (pdss_cons (pds_set 8 sc_solved.nd (pc_call (E := fun _ _ _ => False) d_lead_places (hr.mono (by decide)) ⟨KX, G', pass0, hg⟩ (pda_cons (pd_var 7) pda_nil)))
    (pdss_cons (pds_if (pdt_cmp (od_in hr.u65) (pd_var 2) (pd_var 8))
    (pdss_one (pds_ret pd_non))
    pdss_nil)
    (pdss_cons (pds_set 9 sc_solved.nd (pd_bin od_mul (pd_lst (pda_cons pd_int pda_nil)) (pd_var 2)))
    (pdss_cons (pds_for (gok_t2 (gok_nm 5) (gok_nm 10)) PassesOwn.never rfl (pdi_zip rfl m_zip (pd_var 7) (pd_var 8)) (pg_tup rfl (pgs_cons (pg_name (i := 5) sc_solved.nd rfl (by first | exact Or.inl rfl | exact Or.inr rfl)) (pgs_cons (pg_name (i := 10) sc_solved.nd rfl (by first | exact Or.inl rfl | exact Or.inr rfl)) pgs_nil)))
    (pdss_one (pds_setIx hr.u1 (pd_ix hr.u1 (pd_var 5) (pd_var 2)) (pd_var 9) (pd_var 10))))
    (pdss_cons (pds_for (gok_nm 11) PassesOwn.never rfl (pdi_seq (pc_call (E := fun _ _ _ => False) d_kernel (hr.mono (by decide)) ⟨KX, G', pass0, hg⟩ (pda_cons (pd_var 0) (pda_cons (pd_var 1) (pda_cons (pd_var 2) pda_nil))))) (pg_name (i := 11) sc_solved.nd rfl (by first | exact Or.inl rfl | exact Or.inr rfl))
    (pdss_cons (pds_set 12 sc_solved.nd (pd_ix hr.u1 (pc_call (E := fun _ _ _ => False) d_lead_places (hr.mono (by decide)) ⟨KX, G', pass0, hg⟩ (pda_cons (pd_lst (pda_cons (pd_var 11) pda_nil)) pda_nil)) pd_int))
    (pdss_one (pds_if (pdt_cmp (od_ne hr.u64) (pd_ix hr.u1 (pd_var 9) (pd_var 12)) pd_int)
    (pdss_one (pds_set 9 sc_solved.nd (pd_callTy cd_list m_list bt_list (pda_cons (pc_call (E := fun _ _ _ => False) d_taken_off (hr.mono (by decide)) ⟨KX, G', pass0, hg⟩ (pda_cons (pd_var 0) (pda_cons (pd_var 9) (pda_cons (pd_ix hr.u1 (pd_var 9) (pd_var 12)) (pda_cons (pd_var 11) pda_nil))))) pda_nil))))
    pdss_nil))))
    (pdss_one (pds_ret (pd_callTy cd_tuple m_tuple bt_tuple (pda_cons (pd_var 9) pda_nil)))))))))))
def N_turned_back : List Str := ["prime", "table", "size", "lines", "line", "still", "basis"]
theorem sc_turned_back : FnScope N_turned_back ["prime", "table"] (defScope (top 8)) := ⟨rfl, rfl, rfl, by decide +kernel, rfl, by decide +kernel, by decide +kernel⟩
def den_turned_back : DS := (dSeq (dSet 2 (dL oLen (dCons (dVar 1) dNil)))
    (dSeq (dIfS (dAnd (dTru (dVar 1)) (dB (dBin oNe (dL oLen (dCons (dBin oIx (dVar 1) (dC (.int 0))) dNil)) (dVar 2))))
    (dRet (dC .non))
    dNext)
    (dSeq (dSet 3 (dLc (itZip (dVar 1) (dL (ofN 1 F_still_table) (dCons (dVar 2) dNil))) [4, 5] (nTp (nsCons (nNm 4) (nsCons (nNm 5) nsNil))) dYes (dBin oAdd (dVar 4) (dVar 5))))
    (dSeq (dSet 6 (dL (ofN 3 F_reduced) (dCons (dVar 0) (dCons (dVar 3) (dCons (dBin oMul (dC (.int 2)) (dVar 2)) dNil)))))
    (dSeq (dIfS (dB (dBin oNe (dL (ofN 1 F_lead_places) (dCons (dVar 6) dNil)) (dLstRg (dRg1 (dVar 2)))))
    (dRet (dC .non))
    dNext)
    (dRet (dL oTuple (dCons (dLc (itSeq (dVar 6)) [4] (nNm 4) dYes (dSl (dVar 4) (dP (dVar 2)) dNoP)) dNil))))))))
def F_turned_back : DFn := runD 7 den_turned_back
theorem ok_turned_back {P : Program} {w : World} {K : PySem.W.Frag} {h : Heap} {mg : Str → Option Value} (X : K.In h) (G : h.Ns mainGlobals mg) (c : He.SaysD fa fn K) : DOk P w K mg CX0 XX0 3 "turned_back" (top 8) ["prime", "table"] F_turned_back := by
  obtain ⟨fd, F⟩ := c.def_ 7 (d := mkD "turned_back" 8) rfl
  have d_still_table := ok_still_table (w := w) (P := P) X G c
  have d_reduced := ok_reduced (w := w) (P := P) X G c
  have d_lead_places := ok_lead_places (w := w) (P := P) X G c
  have m_len : mg "len" = none := He.free_ok X G (c.fact 33 (f := .free "len") rfl)
  have m_list : mg "list" = none := He.free_ok X G (c.fact 34 (f := .free "list") rfl)
  have m_range : mg "range" = none := He.free_ok X G (c.fact 37 (f := .free "range") rfl)
  have m_tuple : mg "tuple" = none := He.free_ok X G (c.fact 40 (f := .free "tuple") rfl)
  have m_zip : mg "zip" = none := He.free_ok X G (c.fact 41 (f := .free "zip") rfl)
  refine DOk.of0 F (He.glo_ok X G (c.fact 7 (f := .glo "turned_back") rfl)) sc_turned_back (fun _ _ _ _ _ _ us hl => match us, hl with | [_, _], _ => rfl) fun base cdv A outer s H E KX G' hr hg => ?_
  unfold den_turned_back
  exact (pdss_cons (pds_set 2 sc_turned_back.nd (pd_callB cd_len m_len bt_len (pda_cons (pd_var 1) pda_nil)))
    (pdss_cons (pds_if (pdt_w (pdw_and (pdt_tru (pd_var 1)) (pdw_and1 (pdt_cmp (od_ne hr.u64) (pd_callB cd_len m_len bt_len (pda_cons (pd_ix hr.u1 (pd_var 1) pd_int) pda_nil)) (pd_var 2)))))
    (pdss_one (pds_ret pd_non))
    pdss_nil)
    (pdss_cons (pds_setLc 3 (own := [("line", 4), ("still", 5)]) (gok_t2 (gok_nm 4) (gok_nm 5)) rfl sc_turned_back.nd (blkOk_by (by rfl)) (pdi_zip rfl m_zip (pd_var 1) (pc_call (E := fun _ _ _ => False) d_still_table (hr.mono (by decide)) ⟨KX, G', pass0, hg⟩ (pda_cons (pd_var 2) pda_nil))) (fun _ _ _ _ _ => (pg_tup rfl (pgs_cons (pg_name (i := 4) sc_turned_back.nd rfl (by first | exact Or.inl rfl | exact Or.inr rfl)) (pgs_cons (pg_name (i := 5) sc_turned_back.nd rfl (by first | exact Or.inl rfl | exact Or.inr rfl)) pgs_nil)))) (fun _ _ _ _ _ => pds_tests0) (fun _ _ _ _ _ => (pd_bin od_add (pd_var 4) (pd_var 5))))
    (pdss_cons (pds_set 6 sc_turned_back.nd (pc_call (E := fun _ _ _ => False) d_reduced (hr.mono (by decide)) ⟨KX, G', pass0, hg⟩ (pda_cons (pd_var 0) (pda_cons (pd_var 3) (pda_cons (pd_bin od_mul pd_int (pd_var 2)) pda_nil)))))
    (pdss_cons (pds_if (pdt_cmp (od_ne hr.u64) (pc_call (E := fun _ _ _ => False) d_lead_places (hr.mono (by decide)) ⟨KX, G', pass0, hg⟩ (pda_cons (pd_var 6) pda_nil)) (pd_listRg1 rfl m_range m_list (pd_var 2)))
    (pdss_one (pds_ret pd_non))
    pdss_nil)
    (pdss_one (pds_ret (pd_callTy cd_tuple m_tuple bt_tuple (pda_cons (pd_lc (own := [("line", 4)]) (gok_nm 4) rfl sc_turned_back.nd (blkOk_by (by rfl)) (pdi_seq (pd_var 6)) (fun _ _ _ _ _ => (pg_name (i := 4) sc_turned_back.nd rfl (by first | exact Or.inl rfl | exact Or.inr rfl))) (fun _ _ _ _ _ => pds_tests0) (fun _ _ _ _ _ => (pd_slice (pd_var 4) (pdp_some (pd_var 2)) pdp_none))) pda_nil)))))))))
def N__law_begun : List Str := ["_law_script", "_law_k", "_law_cells", "_law_great", "_law_cell", "_law_seed"]
theorem sc__law_begun : FnScope N__law_begun ["_law_script", "_law_k"] (defScope (top 10)) := ⟨rfl, rfl, rfl, by decide +kernel, rfl, by decide +kernel, by decide +kernel⟩
def den__law_begun : DS := (dSeq (dSet 2 (dBin oAdd (dSl (dVar 0) (dP (dVar 1)) dNoP) (dSl (dVar 0) dNoP (dP (dVar 1)))))
    (dSeq (dSet 3 (dLc (itSeq (dVar 2)) [4] (nNm 4) (dB (dBin (oCmp gGe) (dVar 4) (dBin oPow (dC (.int 10)) (dC (.int 18))))) (dVar 4)))
    (dSeq (dSet 5 (dBin oAdd (dC (.int 71)) (dVar 1)))
    (dSeq (dFor (itSeq (dVar 2)) (nNm 4)
    (dSet 5 (dBin oMod (dL oInt (dCons (dBin oAdd (dBin oMul (dVar 5) (dC (.int 48271))) (dVar 4)) dNil)) (dC (.int 2147483647)))))
    (dRet (dDisp (dpCons (dC (.str "left")) (dIf (dB (dBin oNe (dVar 3) (dL oLst dNil))) (dBin oIx (dVar 3) (dC (.int 0))) (dC (.int 0))) (dpCons (dC (.str "seed")) (dVar 5) (dpCons (dC (.str "cells")) (dBin oAdd (dVar 2) (dL oLst (dCons (dBin oAdd (dBin oMul (dC (.int 53)) (dVar 1)) (dC (.int 11))) dNil))) (dpCons (dC (.str "spot")) (dC (.int 0)) dpNil))))))))))
def F__law_begun : DFn := runD 6 den__law_begun
theorem ok__law_begun {P : Program} {w : World} {K : PySem.W.Frag} {h : Heap} {mg : Str → Option Value} (X : K.In h) (G : h.Ns mainGlobals mg) (c : He.SaysD fa fn K) : DOk P w K mg CX0 XX0 1 "_law_begun" (top 10) ["_law_script", "_law_k"] F__law_begun := by
  obtain ⟨fd, F⟩ := c.def_ 8 (d := mkD "_law_begun" 10) rfl
  have m_int : mg "int" = none := He.free_ok X G (c.fact 32 (f := .free "int") rfl)
  refine DOk.of0 F (He.glo_ok X G (c.fact 8 (f := .glo "_law_begun") rfl)) sc__law_begun (fun _ _ _ _ _ _ us hl => match us, hl with | [_, _], _ => rfl) fun base cdv A outer s H E KX G' hr hg => ?_
  unfold den__law_begun
  exact (pdss_cons (pds_set 2 sc__law_begun.nd (pd_bin od_add (pd_slice (pd_var 0) (pdp_some (pd_var 1)) pdp_none) (pd_slice (pd_var 0) pdp_none (pdp_some (pd_var 1)))))
    (pdss_cons (pds_setLc 3 (own := [("_law_cell", 4)]) (gok_nm 4) rfl sc__law_begun.nd (blkOk_by (by rfl)) (pdi_seq (pd_var 2)) (fun _ _ _ _ _ => (pg_name (i := 4) sc__law_begun.nd rfl (by first | exact Or.inl rfl | exact Or.inr rfl))) (fun _ _ _ _ _ => (pds_tests1 (pdt_cmp od_ge (pd_var 4) (pd_bin od_pow pd_int pd_int)))) (fun _ _ _ _ _ => (pd_var 4)))
    (pdss_cons (pds_set 5 sc__law_begun.nd (pd_bin od_add pd_int (pd_var 1)))
    (pdss_cons (pds_for (gok_nm 4) PassesOwn.never rfl (pdi_seq (pd_var 2)) (pg_name (i := 4) sc__law_begun.nd rfl (by first | exact Or.inl rfl | exact Or.inr rfl))
    (pdss_one (pds_set 5 sc__law_begun.nd (pd_bin od_mod (pd_callTy cd_int m_int bt_int (pda_cons (pd_bin od_add (pd_bin od_mul (pd_var 5) pd_int) (pd_var 4)) pda_nil)) pd_int))))
    (pdss_one (pds_ret (pd_disp (psok_cons (psok_cons (psok_cons (psok_cons psok_nil)))) (pps_cons pd_str (pd_if (pdt_cmp (od_ne hr.u64) (pd_var 3) (pd_lst pda_nil)) (pd_ix hr.u1 (pd_var 3) pd_int) pd_int) (pps_cons pd_str (pd_var 5) (pps_cons pd_str (pd_bin od_add (pd_var 2) (pd_lst (pda_cons (pd_bin od_add (pd_bin od_mul pd_int (pd_var 1)) pd_int) pda_nil))) (pps_cons pd_str pd_int pps_nil)))))))))))
def N__law_draw : List Str := ["_law_m", "_law_bound", "_law_found", "_law_spot", "_law_cells", "_law_extra", "_law_cell", "_law_blend"]
theorem sc__law_draw : FnScope N__law_draw ["_law_m", "_law_bound"] (defScope (top 11)) := ⟨rfl, rfl, rfl, by decide +kernel, rfl, by decide +kernel, by decide +kernel⟩
def den__law_draw : DS := (dSeq (dIfS (dB (dBin (oCmp gGt) (dBin oIx (dVar 0) (dC (.str "left"))) (dC (.int 0))))
    (dSeq (dSet 2 (dBin oMod (dL oInt (dCons (dBin oIx (dVar 0) (dC (.str "left"))) dNil)) (dVar 1)))
    (dSeq (dSetIx (dBin oFdiv (dBin oIx (dVar 0) (dC (.str "left"))) (dVar 1)) (dVar 0) (dC (.str "left")))
    (dRet (dVar 2))))
    dNext)
    (dSeq (dSet 3 (dBin oIx (dVar 0) (dC (.str "spot"))))
    (dSeq (dSetIx (dBin oAdd (dVar 3) (dC (.int 1))) (dVar 0) (dC (.str "spot")))
    (dSeq (dPar 4 5 (dBin oIx (dVar 0) (dC (.str "cells"))) (dBin oAdd (dBin oIx (dVar 0) (dC (.str "seed"))) (dBin oMul (dBin oMul (dC (.int 40503)) (dVar 3)) (dVar 3))))
    (dSeq (dSet 6 (dBin oIx (dVar 4) (dBin oMod (dL oInt (dCons (dVar 3) dNil)) (dL oLen (dCons (dVar 4) dNil)))))
    (dSeq (dSet 7 (dBin oMod (dL oInt (dCons (dBin oAdd (dBin oMul (dVar 6) (dBin oAdd (dBin oMul (dC (.int 2)) (dVar 3)) (dC (.int 3)))) (dVar 5)) dNil)) (dC (.int 2147483647))))
    (dSeq (dSet 7 (dBin oMod (dL oInt (dCons (dBin oAdd (dBin oAdd (dBin oMul (dVar 7) (dVar 7)) (dBin oMul (dC (.int 69621)) (dVar 3))) (dBin oIx (dVar 0) (dC (.str "seed")))) dNil)) (dC (.int 2147483629))))
    (dRet (dBin oMod (dBin oFdiv (dBin oMod (dL oInt (dCons (dBin oAdd (dBin oMul (dVar 7) (dC (.int 48271))) (dVar 3)) dNil)) (dC (.int 2147483647))) (dC (.int 11))) (dVar 1))))))))))
def F__law_draw : DFn := runD 8 den__law_draw
theorem ok__law_draw {P : Program} {w : World} {K : PySem.W.Frag} {h : Heap} {mg : Str → Option Value} (X : K.In h) (G : h.Ns mainGlobals mg) (c : He.SaysD fa fn K) : DOk P w K mg CX0 XX0 1 "_law_draw" (top 11) ["_law_m", "_law_bound"] F__law_draw := by
  obtain ⟨fd, F⟩ := c.def_ 9 (d := mkD "_law_draw" 11) rfl
  have m_int : mg "int" = none := He.free_ok X G (c.fact 32 (f := .free "int") rfl)
  have m_len : mg "len" = none := He.free_ok X G (c.fact 33 (f := .free "len") rfl)
  refine DOk.of0 F (He.glo_ok X G (c.fact 9 (f := .glo "_law_draw") rfl)) sc__law_draw (fun _ _ _ _ _ _ us hl => match us, hl with | [_, _], _ => rfl) fun base cdv A outer s H E KX G' hr hg => ?_
  unfold den__law_draw
  exact (pdss_cons (pds_if (pdt_cmp od_gt (pd_ix hr.u1 (pd_var 0) pd_str) pd_int)
    (pdss_cons (pds_set 2 sc__law_draw.nd (pd_bin od_mod (pd_callTy cd_int m_int bt_int (pda_cons (pd_ix hr.u1 (pd_var 0) pd_str) pda_nil)) (pd_var 1)))
    (pdss_cons (pds_setIx hr.u1 (pd_bin od_fdiv (pd_ix hr.u1 (pd_var 0) pd_str) (pd_var 1)) (pd_var 0) pd_str)
    (pdss_one (pds_ret (pd_var 2)))))
    pdss_nil)
    (pdss_cons (pds_set 3 sc__law_draw.nd (pd_ix hr.u1 (pd_var 0) pd_str))
    (pdss_cons (pds_setIx hr.u1 (pd_bin od_add (pd_var 3) pd_int) (pd_var 0) pd_str)
    (pdss_cons (pds_par 4 5 rfl sc__law_draw.nd (pd_ix hr.u1 (pd_var 0) pd_str) (pd_bin od_add (pd_ix hr.u1 (pd_var 0) pd_str) (pd_bin od_mul (pd_bin od_mul pd_int (pd_var 3)) (pd_var 3))))
    (pdss_cons (pds_set 6 sc__law_draw.nd (pd_ix hr.u1 (pd_var 4) (pd_bin od_mod (pd_callTy cd_int m_int bt_int (pda_cons (pd_var 3) pda_nil)) (pd_callB cd_len m_len bt_len (pda_cons (pd_var 4) pda_nil)))))
    (pdss_cons (pds_set 7 sc__law_draw.nd (pd_bin od_mod (pd_callTy cd_int m_int bt_int (pda_cons (pd_bin od_add (pd_bin od_mul (pd_var 6) (pd_bin od_add (pd_bin od_mul pd_int (pd_var 3)) pd_int)) (pd_var 5)) pda_nil)) pd_int))
    (pdss_cons (pds_set 7 sc__law_draw.nd (pd_bin od_mod (pd_callTy cd_int m_int bt_int (pda_cons (pd_bin od_add (pd_bin od_add (pd_bin od_mul (pd_var 7) (pd_var 7)) (pd_bin od_mul pd_int (pd_var 3))) (pd_ix hr.u1 (pd_var 0) pd_str)) pda_nil)) pd_int))
    (pdss_one (pds_ret (pd_bin od_mod (pd_bin od_fdiv (pd_bin od_mod (pd_callTy cd_int m_int bt_int (pda_cons (pd_bin od_add (pd_bin od_mul (pd_var 7) pd_int) (pd_var 3)) pda_nil)) pd_int) pd_int) (pd_var 1)))))))))))
def N__law_of : List Str := ["_law_m", "_law_some"]
theorem sc__law_of : FnScope N__law_of ["_law_m", "_law_some"] (defScope (top 12)) := ⟨rfl, rfl, rfl, by decide +kernel, rfl, by decide +kernel, by decide +kernel⟩
def den__law_of : DS := (dRet (dBin oIx (dVar 1) (dL (ofN 2 F__law_draw) (dCons (dVar 0) (dCons (dL oLen (dCons (dVar 1) dNil)) dNil)))))
def F__law_of : DFn := runD 2 den__law_of
theorem ok__law_of {P : Program} {w : World} {K : PySem.W.Frag} {h : Heap} {mg : Str → Option Value} (X : K.In h) (G : h.Ns mainGlobals mg) (c : He.SaysD fa fn K) : DOk P w K mg CX0 XX0 2 "_law_of" (top 12) ["_law_m", "_law_some"] F__law_of := by
  obtain ⟨fd, F⟩ := c.def_ 10 (d := mkD "_law_of" 12) rfl
  have d__law_draw := ok__law_draw (w := w) (P := P) X G c
  have m_len : mg "len" = none := He.free_ok X G (c.fact 33 (f := .free "len") rfl)
  refine DOk.of0 F (He.glo_ok X G (c.fact 10 (f := .glo "_law_of") rfl)) sc__law_of (fun _ _ _ _ _ _ us hl => match us, hl with | [_, _], _ => rfl) fun base cdv A outer s H E KX G' hr hg => ?_
  unfold den__law_of
  exact (pdss_one (pds_ret (pd_ix hr.u1 (pd_var 1) (pc_call (E := fun _ _ _ => False) d__law_draw (hr.mono (by decide)) ⟨KX, G', pass0, hg⟩ (pda_cons (pd_var 0) (pda_cons (pd_callB cd_len m_len bt_len (pda_cons (pd_var 1) pda_nil)) pda_nil))))))
def N__law_shuffled : List Str := ["_law_m", "_law_count", "_law_left", "_law_found", "_law_k", "_law_one", "_law_other"]
theorem sc__law_shuffled : FnScope N__law_shuffled ["_law_m", "_law_count"] (defScope (top 13)) := ⟨rfl, rfl, rfl, by decide +kernel, rfl, by decide +kernel, by decide +kernel⟩
def den__law_shuffled : DS := (dSeq (dPar 2 3 (dLstRg (dRg1 (dVar 1))) (dL oLst dNil))
    (dSeq (dFor (itRg1 (dVar 1)) (nNm 4)
    (dSeq (dSet 5 (dL (ofN 2 F__law_of) (dCons (dVar 0) (dCons (dVar 2) dNil))))
    (dSeq (dSet 2 (dLc (itSeq (dVar 2)) [6] (nNm 6) (dB (dBin oNe (dVar 6) (dVar 5))) (dVar 6)))
    (dExpr (dMt oAppend (dVar 3) (dCons (dVar 5) dNil))))))
    (dRet (dL oTuple (dCons (dVar 3) dNil)))))
def F__law_shuffled : DFn := runD 7 den__law_shuffled
theorem ok__law_shuffled {P : Program} {w : World} {K : PySem.W.Frag} {h : Heap} {mg : Str → Option Value} (X : K.In h) (G : h.Ns mainGlobals mg) (c : He.SaysD fa fn K) : DOk P w K mg CX0 XX0 3 "_law_shuffled" (top 13) ["_law_m", "_law_count"] F__law_shuffled := by
  obtain ⟨fd, F⟩ := c.def_ 11 (d := mkD "_law_shuffled" 13) rfl
  have d__law_of := ok__law_of (w := w) (P := P) X G c
  have m_list : mg "list" = none := He.free_ok X G (c.fact 34 (f := .free "list") rfl)
  have m_range : mg "range" = none := He.free_ok X G (c.fact 37 (f := .free "range") rfl)
  have m_tuple : mg "tuple" = none := He.free_ok X G (c.fact 40 (f := .free "tuple") rfl)
  refine DOk.of0 F (He.glo_ok X G (c.fact 11 (f := .glo "_law_shuffled") rfl)) sc__law_shuffled (fun _ _ _ _ _ _ us hl => match us, hl with | [_, _], _ => rfl) fun base cdv A outer s H E KX G' hr hg => ?_
  unfold den__law_shuffled
  exact (pdss_cons (pds_par 2 3 rfl sc__law_shuffled.nd (pd_listRg1 rfl m_range m_list (pd_var 1)) (pd_lst pda_nil))
    (pdss_cons (pds_for (gok_nm 4) PassesOwn.never rfl (pdi_range1 rfl m_range (pd_var 1)) (pg_name (i := 4) sc__law_shuffled.nd rfl (by first | exact Or.inl rfl | exact Or.inr rfl))
    (pdss_cons (pds_set 5 sc__law_shuffled.nd (pc_call (E := fun _ _ _ => False) d__law_of (hr.mono (by decide)) ⟨KX, G', pass0, hg⟩ (pda_cons (pd_var 0) (pda_cons (pd_var 2) pda_nil))))
    (pdss_cons (pds_setLc 2 (own := [("_law_other", 6)]) (gok_nm 6) rfl sc__law_shuffled.nd (blkOk_by (by rfl)) (pdi_seq (pd_var 2)) (fun _ _ _ _ _ => (pg_name (i := 6) sc__law_shuffled.nd rfl (by first | exact Or.inl rfl | exact Or.inr rfl))) (fun _ _ _ _ _ => (pds_tests1 (pdt_cmp (od_ne hr.u64) (pd_var 6) (pd_var 5)))) (fun _ _ _ _ _ => (pd_var 6)))
    (pdss_one (pds_expr (pd_mt PySem.F.slot_list_append PySem.F.type_list_append md_append (pd_var 3) (pda_cons (pd_var 5) pda_nil)))))))
    (pdss_one (pds_ret (pd_callTy cd_tuple m_tuple bt_tuple (pda_cons (pd_var 3) pda_nil))))))
def N__law_like : List Str := ["_law_got", "_law_due"]
theorem sc__law_like : FnScope N__law_like ["_law_got", "_law_due"] (defScope (top 14)) := ⟨rfl, rfl, rfl, by decide +kernel, rfl, by decide +kernel, by decide +kernel⟩
def den__law_like : DS := (dRet (dBin oEqS (dL oRepr (dCons (dVar 0) dNil)) (dL oRepr (dCons (dVar 1) dNil))))
def F__law_like : DFn := runD 2 den__law_like
theorem ok__law_like {P : Program} {w : World} {K : PySem.W.Frag} {h : Heap} {mg : Str → Option Value} (X : K.In h) (G : h.Ns mainGlobals mg) (c : He.SaysD fa fn K) : DOk P w K mg CX0 XX0 1 "_law_like" (top 14) ["_law_got", "_law_due"] F__law_like := by
  obtain ⟨fd, F⟩ := c.def_ 12 (d := mkD "_law_like" 14) rfl
  have m_repr : mg "repr" = none := He.free_ok X G (c.fact 38 (f := .free "repr") rfl)
  refine DOk.of0 F (He.glo_ok X G (c.fact 12 (f := .glo "_law_like") rfl)) sc__law_like (fun _ _ _ _ _ _ us hl => match us, hl with | [_, _], _ => rfl) fun base cdv A outer s H E KX G' hr hg => ?_
  unfold den__law_like
  exact (pdss_one (pds_ret (pd_cmp od_eqS (pd_callB (cd_repr hg hr.u65) m_repr bt_repr (pda_cons (pd_var 0) pda_nil)) (pd_callB (cd_repr hg hr.u65) m_repr bt_repr (pda_cons (pd_var 1) pda_nil)))))
def N__law_back : List Str := ["_law_p", "_law_x", "_law_k"]
theorem sc__law_back : FnScope N__law_back ["_law_p", "_law_x"] (defScope (top 15)) := ⟨rfl, rfl, rfl, by decide +kernel, rfl, by decide +kernel, by decide +kernel⟩
def den__law_back : DS := (dRet (dBin oIx (dLc (itRg2 (dC (.int 1)) (dVar 0)) [2] (nNm 2) (dB (dBin oEq (dBin oMod (dL oInt (dCons (dBin oMul (dVar 2) (dVar 1)) dNil)) (dVar 0)) (dC (.int 1)))) (dVar 2)) (dC (.int 0))))
def F__law_back : DFn := runD 3 den__law_back
theorem ok__law_back {P : Program} {w : World} {K : PySem.W.Frag} {h : Heap} {mg : Str → Option Value} (X : K.In h) (G : h.Ns mainGlobals mg) (c : He.SaysD fa fn K) : DOk P w K mg CX0 XX0 1 "_law_back" (top 15) ["_law_p", "_law_x"] F__law_back := by
  obtain ⟨fd, F⟩ := c.def_ 13 (d := mkD "_law_back" 15) rfl
  have m_int : mg "int" = none := He.free_ok X G (c.fact 32 (f := .free "int") rfl)
  have m_range : mg "range" = none := He.free_ok X G (c.fact 37 (f := .free "range") rfl)
  refine DOk.of0 F (He.glo_ok X G (c.fact 13 (f := .glo "_law_back") rfl)) sc__law_back (fun _ _ _ _ _ _ us hl => match us, hl with | [_, _], _ => rfl) fun base cdv A outer s H E KX G' hr hg => ?_
  unfold den__law_back
  exact (pdss_one (pds_ret (pd_ix hr.u1 (pd_lc (own := [("_law_k", 2)]) (gok_nm 2) rfl sc__law_back.nd (blkOk_by (by rfl)) (pdi_range2 rfl m_range pd_int (pd_var 0)) (fun _ _ _ _ _ => (pg_name (i := 2) sc__law_back.nd rfl (by first | exact Or.inl rfl | exact Or.inr rfl))) (fun _ _ _ _ _ => (pds_tests1 (pdt_cmp (od_eq hr.u64) (pd_bin od_mod (pd_callTy cd_int m_int bt_int (pda_cons (pd_bin od_mul (pd_var 2) (pd_var 1)) pda_nil)) (pd_var 0)) pd_int))) (fun _ _ _ _ _ => (pd_var 2))) pd_int)))
def N__law_off : List Str := ["_law_p", "_law_row", "_law_first", "_law_spot", "_law_k", "_law_j"]
theorem sc__law_off : FnScope N__law_off ["_law_p", "_law_row", "_law_first", "_law_spot"] (defScope (top 16)) := ⟨rfl, rfl, rfl, by decide +kernel, rfl, by decide +kernel, by decide +kernel⟩
def den__law_off : DS := (dSeq (dSet 4 (dBin oIx (dVar 1) (dVar 3)))
    (dRet (dL oTuple (dCons (dLc (itRg1 (dL oLen (dCons (dVar 1) dNil))) [5] (nNm 5) dYes (dBin oMod (dL oInt (dCons (dBin oSub (dBin oIx (dVar 1) (dVar 5)) (dBin oMul (dVar 4) (dBin oIx (dVar 2) (dVar 5)))) dNil)) (dVar 0))) dNil))))
def F__law_off : DFn := runD 6 den__law_off
theorem ok__law_off {P : Program} {w : World} {K : PySem.W.Frag} {h : Heap} {mg : Str → Option Value} (X : K.In h) (G : h.Ns mainGlobals mg) (c : He.SaysD fa fn K) : DOk P w K mg CX0 XX0 1 "_law_off" (top 16) ["_law_p", "_law_row", "_law_first", "_law_spot"] F__law_off := by
  obtain ⟨fd, F⟩ := c.def_ 14 (d := mkD "_law_off" 16) rfl
  have m_int : mg "int" = none := He.free_ok X G (c.fact 32 (f := .free "int") rfl)
  have m_len : mg "len" = none := He.free_ok X G (c.fact 33 (f := .free "len") rfl)
  have m_range : mg "range" = none := He.free_ok X G (c.fact 37 (f := .free "range") rfl)
  have m_tuple : mg "tuple" = none := He.free_ok X G (c.fact 40 (f := .free "tuple") rfl)
  refine DOk.of0 F (He.glo_ok X G (c.fact 14 (f := .glo "_law_off") rfl)) sc__law_off (fun _ _ _ _ _ _ us hl => match us, hl with | [_, _, _, _], _ => rfl) fun base cdv A outer s H E KX G' hr hg => ?_
  unfold den__law_off
  exact (pdss_cons (pds_set 4 sc__law_off.nd (pd_ix hr.u1 (pd_var 1) (pd_var 3)))
    (pdss_one (pds_ret (pd_callTy cd_tuple m_tuple bt_tuple (pda_cons (pd_lc (own := [("_law_j", 5)]) (gok_nm 5) rfl sc__law_off.nd (blkOk_by (by rfl)) (pdi_range1 rfl m_range (pd_callB cd_len m_len bt_len (pda_cons (pd_var 1) pda_nil))) (fun _ _ _ _ _ => (pg_name (i := 5) sc__law_off.nd rfl (by first | exact Or.inl rfl | exact Or.inr rfl))) (fun _ _ _ _ _ => pds_tests0) (fun _ _ _ _ _ => (pd_bin od_mod (pd_callTy cd_int m_int bt_int (pda_cons (pd_bin od_sub (pd_ix hr.u1 (pd_var 1) (pd_var 5)) (pd_bin od_mul (pd_var 4) (pd_ix hr.u1 (pd_var 2) (pd_var 5)))) pda_nil)) (pd_var 0)))) pda_nil)))))
def N__law_reduced : List Str := ["_law_p", "_law_rows", "_law_size_so", "_law_left", "_law_found", "_law_row", "_law_spot", "_law_some", "_law_k", "_law_first", "_law_times", "_law_x"]
theorem sc__law_reduced : FnScope N__law_reduced ["_law_p", "_law_rows", "_law_size_so"] (defScope (top 17)) := ⟨rfl, rfl, rfl, by decide +kernel, rfl, by decide +kernel, by decide +kernel⟩
def den__law_reduced : DS := (dSeq (dAsg (nTp (nsCons (nNm 3) (nsCons (nNm 4) nsNil))) (dL oTup (dCons (dLc (itSeq (dVar 1)) [5] (nNm 5) dYes (dL oTuple (dCons (dVar 5) dNil))) (dCons (dL oLst dNil) dNil))))
    (dSeq (dFor (itRg1 (dVar 2)) (nNm 6)
    (dSeq (dSet 7 (dLc (itRg1 (dL oLen (dCons (dVar 3) dNil))) [8] (nNm 8) (dB (dBin oNe (dBin oIx (dBin oIx (dVar 3) (dVar 8)) (dVar 6)) (dC (.int 0)))) (dVar 8)))
    (dIfS (dB (dBin oNe (dVar 7) (dL oLst dNil)))
    (dSeq (dSet 9 (dBin oIx (dVar 3) (dBin oIx (dVar 7) (dC (.int 0)))))
    (dSeq (dSet 10 (dL (ofN 2 F__law_back) (dCons (dVar 0) (dCons (dBin oIx (dVar 9) (dVar 6)) dNil))))
    (dSeq (dSet 9 (dL oTuple (dCons (dLc (itSeq (dVar 9)) [11] (nNm 11) dYes (dBin oMod (dL oInt (dCons (dBin oMul (dVar 10) (dVar 11)) dNil)) (dVar 0))) dNil)))
    (dSeq (dSet 3 (dLc (itRg1 (dL oLen (dCons (dVar 3) dNil))) [8] (nNm 8) (dB (dBin oNe (dVar 8) (dBin oIx (dVar 7) (dC (.int 0))))) (dL (ofN 4 F__law_off) (dCons (dVar 0) (dCons (dBin oIx (dVar 3) (dVar 8)) (dCons (dVar 9) (dCons (dVar 6) dNil)))))))
    (dSet 4 (dBin oAdd (dLc (itSeq (dVar 4)) [5] (nNm 5) dYes (dL (ofN 4 F__law_off) (dCons (dVar 0) (dCons (dVar 5) (dCons (dVar 9) (dCons (dVar 6) dNil)))))) (dL oLst (dCons (dVar 9) dNil))))))))
    dNext)))
    (dRet (dL oTuple (dCons (dVar 4) dNil)))))
def F__law_reduced : DFn := runD 12 den__law_reduced
theorem ok__law_reduced {P : Program} {w : World} {K : PySem.W.Frag} {h : Heap} {mg : Str → Option Value} (X : K.In h) (G : h.Ns mainGlobals mg) (c : He.SaysD fa fn K) : DOk P w K mg CX0 XX0 2 "_law_reduced" (top 17) ["_law_p", "_law_rows", "_law_size_so"] F__law_reduced := by
  obtain ⟨fd, F⟩ := c.def_ 15 (d := mkD "_law_reduced" 17) rfl
  have d__law_back := ok__law_back (w := w) (P := P) X G c
  have d__law_off := ok__law_off (w := w) (P := P) X G c
  have m_int : mg "int" = none := He.free_ok X G (c.fact 32 (f := .free "int") rfl)
  have m_len : mg "len" = none := He.free_ok X G (c.fact 33 (f := .free "len") rfl)
  have m_range : mg "range" = none := He.free_ok X G (c.fact 37 (f := .free "range") rfl)
  have m_tuple : mg "tuple" = none := He.free_ok X G (c.fact 40 (f := .free "tuple") rfl)
  refine DOk.of0 F (He.glo_ok X G (c.fact 15 (f := .glo "_law_reduced") rfl)) sc__law_reduced (fun _ _ _ _ _ _ us hl => match us, hl with | [_, _, _], _ => rfl) fun base cdv A outer s H E KX G' hr hg => ?_
  unfold den__law_reduced
  exact (pdss_cons (pds_asg (gok_t2 (gok_nm 3) (gok_nm 4)) (pg_tup rfl (pgs_cons (pg_name (i := 3) sc__law_reduced.nd rfl (by first | exact Or.inl rfl | exact Or.inr rfl)) (pgs_cons (pg_name (i := 4) sc__law_reduced.nd rfl (by first | exact Or.inl rfl | exact Or.inr rfl)) pgs_nil))) (pd_tup (pda_cons (pd_lc (own := [("_law_row", 5)]) (gok_nm 5) rfl sc__law_reduced.nd (blkOk_by (by rfl)) (pdi_seq (pd_var 1)) (fun _ _ _ _ _ => (pg_name (i := 5) sc__law_reduced.nd rfl (by first | exact Or.inl rfl | exact Or.inr rfl))) (fun _ _ _ _ _ => pds_tests0) (fun _ _ _ _ _ => (pd_callTy cd_tuple m_tuple bt_tuple (pda_cons (pd_var 5) pda_nil)))) (pda_cons (pd_lst pda_nil) pda_nil))))
    (pdss_cons (pds_for (gok_nm 6) PassesOwn.never rfl (pdi_range1 rfl m_range (pd_var 2)) (pg_name (i := 6) sc__law_reduced.nd rfl (by first | exact Or.inl rfl | exact Or.inr rfl))
    (pdss_cons (pds_set 7 sc__law_reduced.nd (pd_lc (own := [("_law_k", 8)]) (gok_nm 8) rfl sc__law_reduced.nd (blkOk_by (by rfl)) (pdi_range1 rfl m_range (pd_callB cd_len m_len bt_len (pda_cons (pd_var 3) pda_nil))) (fun _ _ _ _ _ => (pg_name (i := 8) sc__law_reduced.nd rfl (by first | exact Or.inl rfl | exact Or.inr rfl))) (fun _ _ _ _ _ => (pds_tests1 (pdt_cmp (od_ne hr.u64) (pd_ix hr.u1 (pd_ix hr.u1 (pd_var 3) (pd_var 8)) (pd_var 6)) pd_int))) (fun _ _ _ _ _ => (pd_var 8))))
    (pdss_one (pds_if (pdt_cmp (od_ne hr.u64) (pd_var 7) (pd_lst pda_nil))
    (pdss_cons (pds_set 9 sc__law_reduced.nd (pd_ix hr.u1 (pd_var 3) (pd_ix hr.u1 (pd_var 7) pd_int)))
    (pdss_cons (pds_set 10 sc__law_reduced.nd (pc_call (E := fun _ _ _ => False) d__law_back (hr.mono (by decide)) ⟨KX, G', pass0, hg⟩ (pda_cons (pd_var 0) (pda_cons (pd_ix hr.u1 (pd_var 9) (pd_var 6)) pda_nil))))
    (pdss_cons (pds_set 9 sc__law_reduced.nd (pd_callTy cd_tuple m_tuple bt_tuple (pda_cons (pd_lc (own := [("_law_x", 11)]) (gok_nm 11) rfl sc__law_reduced.nd (blkOk_by (by rfl)) (pdi_seq (pd_var 9)) (fun _ _ _ _ _ => (pg_name (i := 11) sc__law_reduced.nd rfl (by first | exact Or.inl rfl | exact Or.inr rfl))) (fun _ _ _ _ _ => pds_tests0) (fun _ _ _ _ _ => (pd_bin od_mod (pd_callTy cd_int m_int bt_int (pda_cons (pd_bin od_mul (pd_var 10) (pd_var 11)) pda_nil)) (pd_var 0)))) pda_nil)))
    (pdss_cons (pds_set 3 sc__law_reduced.nd (pd_lc (own := [("_law_k", 8)]) (gok_nm 8) rfl sc__law_reduced.nd (blkOk_by (by rfl)) (pdi_range1 rfl m_range (pd_callB cd_len m_len bt_len (pda_cons (pd_var 3) pda_nil))) (fun _ _ _ _ _ => (pg_name (i := 8) sc__law_reduced.nd rfl (by first | exact Or.inl rfl | exact Or.inr rfl))) (fun _ _ _ _ _ => (pds_tests1 (pdt_cmp (od_ne hr.u64) (pd_var 8) (pd_ix hr.u1 (pd_var 7) pd_int)))) (fun _ _ _ _ _ => (pc_call (E := fun _ _ _ => False) d__law_off (hr.mono (by decide)) ⟨KX, G', pass0, hg⟩ (pda_cons (pd_var 0) (pda_cons (pd_ix hr.u1 (pd_var 3) (pd_var 8)) (pda_cons (pd_var 9) (pda_cons (pd_var 6) pda_nil))))))))
    (pdss_one (pds_set 4 sc__law_reduced.nd (pd_bin od_add (pd_lc (own := [("_law_row", 5)]) (gok_nm 5) rfl sc__law_reduced.nd (blkOk_by (by rfl)) (pdi_seq (pd_var 4)) (fun _ _ _ _ _ => (pg_name (i := 5) sc__law_reduced.nd rfl (by first | exact Or.inl rfl | exact Or.inr rfl))) (fun _ _ _ _ _ => pds_tests0) (fun _ _ _ _ _ => (pc_call (E := fun _ _ _ => False) d__law_off (hr.mono (by decide)) ⟨KX, G', pass0, hg⟩ (pda_cons (pd_var 0) (pda_cons (pd_var 5) (pda_cons (pd_var 9) (pda_cons (pd_var 6) pda_nil))))))) (pd_lst (pda_cons (pd_var 9) pda_nil)))))))))
    pdss_nil))))
    (pdss_one (pds_ret (pd_callTy cd_tuple m_tuple bt_tuple (pda_cons (pd_var 4) pda_nil))))))
def N__law_leads : List Str := ["_law_basis", "_law_k", "_law_row"]
theorem sc__law_leads : FnScope N__law_leads ["_law_basis"] (defScope (top 18)) := ⟨rfl, rfl, rfl, by decide +kernel, rfl, by decide +kernel, by decide +kernel⟩
def den__law_leads : DS := (dRet (dLc (itSeq (dVar 0)) [2] (nNm 2) dYes (dBin oIx (dLc (itRg1 (dL oLen (dCons (dVar 2) dNil))) [1] (nNm 1) (dB (dBin oNe (dBin oIx (dVar 2) (dVar 1)) (dC (.int 0)))) (dVar 1)) (dC (.int 0)))))
def F__law_leads : DFn := runD 3 den__law_leads
theorem ok__law_leads {P : Program} {w : World} {K : PySem.W.Frag} {h : Heap} {mg : Str → Option Value} (X : K.In h) (G : h.Ns mainGlobals mg) (c : He.SaysD fa fn K) : DOk P w K mg CX0 XX0 1 "_law_leads" (top 18) ["_law_basis"] F__law_leads := by
  obtain ⟨fd, F⟩ := c.def_ 16 (d := mkD "_law_leads" 18) rfl
  have m_len : mg "len" = none := He.free_ok X G (c.fact 33 (f := .free "len") rfl)
  have m_range : mg "range" = none := He.free_ok X G (c.fact 37 (f := .free "range") rfl)
  refine DOk.of0 F (He.glo_ok X G (c.fact 16 (f := .glo "_law_leads") rfl)) sc__law_leads (fun _ _ _ _ _ _ us hl => match us, hl with | [_], _ => rfl) fun base cdv A outer s H E KX G' hr hg => ?_
  unfold den__law_leads
  exact (pdss_one (pds_ret (pd_lc (own := [("_law_row", 2)]) (gok_nm 2) rfl sc__law_leads.nd (blkOk_by (by rfl)) (pdi_seq (pd_var 0)) (fun _ _ _ _ _ => (pg_name (i := 2) sc__law_leads.nd rfl (by first | exact Or.inl rfl | exact Or.inr rfl))) (fun _ _ _ _ _ => pds_tests0) (fun _ _ _ _ _ => (pd_ix hr.u1 (pd_lc (own := [("_law_k", 1)]) (gok_nm 1) rfl sc__law_leads.nd (blkOk_by (by rfl)) (pdi_range1 rfl m_range (pd_callB cd_len m_len bt_len (pda_cons (pd_var 2) pda_nil))) (fun _ _ _ _ _ => (pg_name (i := 1) sc__law_leads.nd rfl (by first | exact Or.inl rfl | exact Or.inr rfl))) (fun _ _ _ _ _ => (pds_tests1 (pdt_cmp (od_ne hr.u64) (pd_ix hr.u1 (pd_var 2) (pd_var 1)) pd_int))) (fun _ _ _ _ _ => (pd_var 1))) pd_int)))))
def N__law_kernel : List Str := ["_law_p", "_law_table_so", "_law_size_so", "_law_basis", "_law_leads_here", "_law_found", "_law_free", "_law_k", "_law_column_so"]
theorem sc__law_kernel : FnScope N__law_kernel ["_law_p", "_law_table_so", "_law_size_so"] (defScope (top 19)) := ⟨rfl, rfl, rfl, by decide +kernel, rfl, by decide +kernel, by decide +kernel⟩
def den__law_kernel : DS := (dSeq (dSet 3 (dL (ofN 3 F__law_reduced) (dCons (dVar 0) (dCons (dVar 1) (dCons (dVar 2) dNil)))))
    (dSeq (dAsg (nTp (nsCons (nNm 4) (nsCons (nNm 5) nsNil))) (dL oTup (dCons (dL (ofN 1 F__law_leads) (dCons (dVar 3) dNil)) (dCons (dL oLst dNil) dNil))))
    (dSeq (dFor (itSeq (dLc (itRg1 (dVar 2)) [7] (nNm 7) (dB (dBin oNotIn (dVar 7) (dVar 4))) (dVar 7))) (nNm 6)
    (dSeq (dSet 8 (dBin oMul (dL oLst (dCons (dC (.int 0)) dNil)) (dVar 2)))
    (dSeq (dSetIx (dC (.int 1)) (dVar 8) (dVar 6))
    (dSeq (dFor (itRg1 (dL oLen (dCons (dVar 4) dNil))) (nNm 7)
    (dSetIx (dBin oMod (dL oInt (dCons (dUn oNeg (dBin oIx (dBin oIx (dVar 3) (dVar 7)) (dVar 6))) dNil)) (dVar 0)) (dVar 8) (dBin oIx (dVar 4) (dVar 7))))
    (dExpr (dMt oAppend (dVar 5) (dCons (dL oTuple (dCons (dVar 8) dNil)) dNil)))))))
    (dRet (dL (ofN 3 F__law_reduced) (dCons (dVar 0) (dCons (dVar 5) (dCons (dVar 2) dNil))))))))
def F__law_kernel : DFn := runD 9 den__law_kernel
theorem ok__law_kernel {P : Program} {w : World} {K : PySem.W.Frag} {h : Heap} {mg : Str → Option Value} (X : K.In h) (G : h.Ns mainGlobals mg) (c : He.SaysD fa fn K) : DOk P w K mg CX0 XX0 3 "_law_kernel" (top 19) ["_law_p", "_law_table_so", "_law_size_so"] F__law_kernel := by
  obtain ⟨fd, F⟩ := c.def_ 17 (d := mkD "_law_kernel" 19) rfl
  have d__law_reduced := ok__law_reduced (w := w) (P := P) X G c
  have d__law_leads := ok__law_leads (w := w) (P := P) X G c
  have m_int : mg "int" = none := He.free_ok X G (c.fact 32 (f := .free "int") rfl)
  have m_len : mg "len" = none := He.free_ok X G (c.fact 33 (f := .free "len") rfl)
  have m_range : mg "range" = none := He.free_ok X G (c.fact 37 (f := .free "range") rfl)
  have m_tuple : mg "tuple" = none := He.free_ok X G (c.fact 40 (f := .free "tuple") rfl)
  refine DOk.of0 F (He.glo_ok X G (c.fact 17 (f := .glo "_law_kernel") rfl)) sc__law_kernel (fun _ _ _ _ _ _ us hl => match us, hl with | [_, _, _], _ => rfl) fun base cdv A outer s H E KX G' hr hg => ?_
  unfold den__law_kernel
  exact (pdss_cons (pds_set 3 sc__law_kernel.nd (pc_call (E := fun _ _ _ => False) d__law_reduced (hr.mono (by decide)) ⟨KX, G', pass0, hg⟩ (pda_cons (pd_var 0) (pda_cons (pd_var 1) (pda_cons (pd_var 2) pda_nil)))))
    (pdss_cons (pds_asg (gok_t2 (gok_nm 4) (gok_nm 5)) (pg_tup rfl (pgs_cons (pg_name (i := 4) sc__law_kernel.nd rfl (by first | exact Or.inl rfl | exact Or.inr rfl)) (pgs_cons (pg_name (i := 5) sc__law_kernel.nd rfl (by first | exact Or.inl rfl | exact Or.inr rfl)) pgs_nil))) (pd_tup (pda_cons (pc_call (E := fun _ _ _ => False) d__law_leads (hr.mono (by decide)) ⟨KX, G', pass0, hg⟩ (pda_cons (pd_var 3) pda_nil)) (pda_cons (pd_lst pda_nil) pda_nil))))
    (pdss_cons (pds_for (gok_nm 6) PassesOwn.never rfl (pdi_seq (pd_lc (own := [("_law_k", 7)]) (gok_nm 7) rfl sc__law_kernel.nd (blkOk_by (by rfl)) (pdi_range1 rfl m_range (pd_var 2)) (fun _ _ _ _ _ => (pg_name (i := 7) sc__law_kernel.nd rfl (by first | exact Or.inl rfl | exact Or.inr rfl))) (fun _ _ _ _ _ => (pds_tests1 (pdt_cmp (od_notin hr.u65) (pd_var 7) (pd_var 4)))) (fun _ _ _ _ _ => (pd_var 7)))) (pg_name (i := 6) sc__law_kernel.nd rfl (by first | exact Or.inl rfl | exact Or.inr rfl))
    (pdss_cons (pds_set 8 sc__law_kernel.nd (pd_bin od_mul (pd_lst (pda_cons pd_int pda_nil)) (pd_var 2)))
    (pdss_cons (pds_setIx hr.u1 pd_int (pd_var 8) (pd_var 6))
    (pdss_cons (pds_for (gok_nm 7) PassesOwn.never rfl (pdi_range1 rfl m_range (pd_callB cd_len m_len bt_len (pda_cons (pd_var 4) pda_nil))) (pg_name (i := 7) sc__law_kernel.nd rfl (by first | exact Or.inl rfl | exact Or.inr rfl))
    (pdss_one (pds_setIx hr.u1 (pd_bin od_mod (pd_callTy cd_int m_int bt_int (pda_cons (pd_un ud_neg (pd_ix hr.u1 (pd_ix hr.u1 (pd_var 3) (pd_var 7)) (pd_var 6))) pda_nil)) (pd_var 0)) (pd_var 8) (pd_ix hr.u1 (pd_var 4) (pd_var 7)))))
    (pdss_one (pds_expr (pd_mt PySem.F.slot_list_append PySem.F.type_list_append md_append (pd_var 5) (pda_cons (pd_callTy cd_tuple m_tuple bt_tuple (pda_cons (pd_var 8) pda_nil)) pda_nil))))))))
    (pdss_one (pds_ret (pc_call (E := fun _ _ _ => False) d__law_reduced (hr.mono (by decide)) ⟨KX, G', pass0, hg⟩ (pda_cons (pd_var 0) (pda_cons (pd_var 5) (pda_cons (pd_var 2) pda_nil)))))))))
def N__law_rank : List Str := ["_law_p", "_law_rows", "_law_size_so"]
theorem sc__law_rank : FnScope N__law_rank ["_law_p", "_law_rows", "_law_size_so"] (defScope (top 20)) := ⟨rfl, rfl, rfl, by decide +kernel, rfl, by decide +kernel, by decide +kernel⟩
def den__law_rank : DS := (dRet (dL oLen (dCons (dL (ofN 3 F__law_reduced) (dCons (dVar 0) (dCons (dVar 1) (dCons (dVar 2) dNil)))) dNil)))
def F__law_rank : DFn := runD 3 den__law_rank
theorem ok__law_rank {P : Program} {w : World} {K : PySem.W.Frag} {h : Heap} {mg : Str → Option Value} (X : K.In h) (G : h.Ns mainGlobals mg) (c : He.SaysD fa fn K) : DOk P w K mg CX0 XX0 3 "_law_rank" (top 20) ["_law_p", "_law_rows", "_law_size_so"] F__law_rank := by
  obtain ⟨fd, F⟩ := c.def_ 18 (d := mkD "_law_rank" 20) rfl
  have d__law_reduced := ok__law_reduced (w := w) (P := P) X G c
  have m_len : mg "len" = none := He.free_ok X G (c.fact 33 (f := .free "len") rfl)
  refine DOk.of0 F (He.glo_ok X G (c.fact 18 (f := .glo "_law_rank") rfl)) sc__law_rank (fun _ _ _ _ _ _ us hl => match us, hl with | [_, _, _], _ => rfl) fun base cdv A outer s H E KX G' hr hg => ?_
  unfold den__law_rank
  exact (pdss_one (pds_ret (pd_callB cd_len m_len bt_len (pda_cons (pc_call (E := fun _ _ _ => False) d__law_reduced (hr.mono (by decide)) ⟨KX, G', pass0, hg⟩ (pda_cons (pd_var 0) (pda_cons (pd_var 1) (pda_cons (pd_var 2) pda_nil)))) pda_nil))))
def N__law_led : List Str := ["_law_p", "_law_table_so", "_law_column_so", "_law_j", "_law_row"]
theorem sc__law_led : FnScope N__law_led ["_law_p", "_law_table_so", "_law_column_so"] (defScope (top 21)) := ⟨rfl, rfl, rfl, by decide +kernel, rfl, by decide +kernel, by decide +kernel⟩
def den__law_led : DS := (dRet (dL oTuple (dCons (dLc (itSeq (dVar 1)) [4] (nNm 4) dYes (dBin oMod (dL oInt (dCons (dL oSum (dCons (dLc (itRg1 (dL oLen (dCons (dVar 2) dNil))) [3] (nNm 3) dYes (dBin oMul (dBin oIx (dVar 4) (dVar 3)) (dBin oIx (dVar 2) (dVar 3)))) dNil)) dNil)) (dVar 0))) dNil)))
def F__law_led : DFn := runD 5 den__law_led
theorem ok__law_led {P : Program} {w : World} {K : PySem.W.Frag} {h : Heap} {mg : Str → Option Value} (X : K.In h) (G : h.Ns mainGlobals mg) (c : He.SaysD fa fn K) : DOk P w K mg CX0 XX0 1 "_law_led" (top 21) ["_law_p", "_law_table_so", "_law_column_so"] F__law_led := by
  obtain ⟨fd, F⟩ := c.def_ 19 (d := mkD "_law_led" 21) rfl
  have m_int : mg "int" = none := He.free_ok X G (c.fact 32 (f := .free "int") rfl)
  have m_len : mg "len" = none := He.free_ok X G (c.fact 33 (f := .free "len") rfl)
  have m_range : mg "range" = none := He.free_ok X G (c.fact 37 (f := .free "range") rfl)
  have m_sum : mg "sum" = none := He.free_ok X G (c.fact 39 (f := .free "sum") rfl)
  have m_tuple : mg "tuple" = none := He.free_ok X G (c.fact 40 (f := .free "tuple") rfl)
  refine DOk.of0 F (He.glo_ok X G (c.fact 19 (f := .glo "_law_led") rfl)) sc__law_led (fun _ _ _ _ _ _ us hl => match us, hl with | [_, _, _], _ => rfl) fun base cdv A outer s H E KX G' hr hg => ?_
  unfold den__law_led
  exact (pdss_one (pds_ret (pd_callTy cd_tuple m_tuple bt_tuple (pda_cons (pd_lc (own := [("_law_row", 4)]) (gok_nm 4) rfl sc__law_led.nd (blkOk_by (by rfl)) (pdi_seq (pd_var 1)) (fun _ _ _ _ _ => (pg_name (i := 4) sc__law_led.nd rfl (by first | exact Or.inl rfl | exact Or.inr rfl))) (fun _ _ _ _ _ => pds_tests0) (fun _ _ _ _ _ => (pd_bin od_mod (pd_callTy cd_int m_int bt_int (pda_cons (pd_callB (cd_sum rfl) m_sum bt_sum (pda_cons (pd_lc (own := [("_law_j", 3)]) (gok_nm 3) rfl sc__law_led.nd (blkOk_by (by rfl)) (pdi_range1 rfl m_range (pd_callB cd_len m_len bt_len (pda_cons (pd_var 2) pda_nil))) (fun _ _ _ _ _ => (pg_name (i := 3) sc__law_led.nd rfl (by first | exact Or.inl rfl | exact Or.inr rfl))) (fun _ _ _ _ _ => pds_tests0) (fun _ _ _ _ _ => (pd_bin od_mul (pd_ix hr.u1 (pd_var 4) (pd_var 3)) (pd_ix hr.u1 (pd_var 2) (pd_var 3))))) pda_nil)) pda_nil)) (pd_var 0)))) pda_nil))))
def N__law_behind : List Str := ["_law_p", "_law_one", "_law_other", "_law_size_so", "_law_found", "_law_row", "_law_k", "_law_j"]
theorem sc__law_behind : FnScope N__law_behind ["_law_p", "_law_one", "_law_other", "_law_size_so"] (defScope (top 22)) := ⟨rfl, rfl, rfl, by decide +kernel, rfl, by decide +kernel, by decide +kernel⟩
def den__law_behind : DS := (dSeq (dSet 4 (dL oLst dNil))
    (dSeq (dFor (itSeq (dVar 2)) (nNm 5)
    (dExpr (dMt oAppend (dVar 4) (dCons (dL oTuple (dCons (dLc (itRg1 (dVar 3)) [7] (nNm 7) dYes (dBin oMod (dL oInt (dCons (dL oSum (dCons (dLc (itRg1 (dL oLen (dCons (dVar 1) dNil))) [6] (nNm 6) dYes (dBin oMul (dBin oIx (dVar 5) (dVar 6)) (dBin oIx (dBin oIx (dVar 1) (dVar 6)) (dVar 7)))) dNil)) dNil)) (dVar 0))) dNil)) dNil))))
    (dRet (dL oTuple (dCons (dVar 4) dNil)))))
def F__law_behind : DFn := runD 8 den__law_behind
theorem ok__law_behind {P : Program} {w : World} {K : PySem.W.Frag} {h : Heap} {mg : Str → Option Value} (X : K.In h) (G : h.Ns mainGlobals mg) (c : He.SaysD fa fn K) : DOk P w K mg CX0 XX0 1 "_law_behind" (top 22) ["_law_p", "_law_one", "_law_other", "_law_size_so"] F__law_behind := by
  obtain ⟨fd, F⟩ := c.def_ 20 (d := mkD "_law_behind" 22) rfl
  have m_int : mg "int" = none := He.free_ok X G (c.fact 32 (f := .free "int") rfl)
  have m_len : mg "len" = none := He.free_ok X G (c.fact 33 (f := .free "len") rfl)
  have m_range : mg "range" = none := He.free_ok X G (c.fact 37 (f := .free "range") rfl)
  have m_sum : mg "sum" = none := He.free_ok X G (c.fact 39 (f := .free "sum") rfl)
  have m_tuple : mg "tuple" = none := He.free_ok X G (c.fact 40 (f := .free "tuple") rfl)
  refine DOk.of0 F (He.glo_ok X G (c.fact 20 (f := .glo "_law_behind") rfl)) sc__law_behind (fun _ _ _ _ _ _ us hl => match us, hl with | [_, _, _, _], _ => rfl) fun base cdv A outer s H E KX G' hr hg => ?_
  unfold den__law_behind
  exact (pdss_cons (pds_set 4 sc__law_behind.nd (pd_lst pda_nil))
    (pdss_cons (pds_for (gok_nm 5) PassesOwn.never rfl (pdi_seq (pd_var 2)) (pg_name (i := 5) sc__law_behind.nd rfl (by first | exact Or.inl rfl | exact Or.inr rfl))
    (pdss_one (pds_expr (pd_mt PySem.F.slot_list_append PySem.F.type_list_append md_append (pd_var 4) (pda_cons (pd_callTy cd_tuple m_tuple bt_tuple (pda_cons (pd_lc (own := [("_law_j", 7)]) (gok_nm 7) rfl sc__law_behind.nd (blkOk_by (by rfl)) (pdi_range1 rfl m_range (pd_var 3)) (fun _ _ _ _ _ => (pg_name (i := 7) sc__law_behind.nd rfl (by first | exact Or.inl rfl | exact Or.inr rfl))) (fun _ _ _ _ _ => pds_tests0) (fun _ _ _ _ _ => (pd_bin od_mod (pd_callTy cd_int m_int bt_int (pda_cons (pd_callB (cd_sum rfl) m_sum bt_sum (pda_cons (pd_lc (own := [("_law_k", 6)]) (gok_nm 6) rfl sc__law_behind.nd (blkOk_by (by rfl)) (pdi_range1 rfl m_range (pd_callB cd_len m_len bt_len (pda_cons (pd_var 1) pda_nil))) (fun _ _ _ _ _ => (pg_name (i := 6) sc__law_behind.nd rfl (by first | exact Or.inl rfl | exact Or.inr rfl))) (fun _ _ _ _ _ => pds_tests0) (fun _ _ _ _ _ => (pd_bin od_mul (pd_ix hr.u1 (pd_var 5) (pd_var 6)) (pd_ix hr.u1 (pd_ix hr.u1 (pd_var 1) (pd_var 6)) (pd_var 7))))) pda_nil)) pda_nil)) (pd_var 0)))) pda_nil)) pda_nil)))))
    (pdss_one (pds_ret (pd_callTy cd_tuple m_tuple bt_tuple (pda_cons (pd_var 4) pda_nil))))))
def N__law_unit : List Str := ["_law_size_so", "_law_j", "_law_i"]
theorem sc__law_unit : FnScope N__law_unit ["_law_size_so"] (defScope (top 23)) := ⟨rfl, rfl, rfl, by decide +kernel, rfl, by decide +kernel, by decide +kernel⟩
def den__law_unit : DS := (dRet (dL oTuple (dCons (dLc (itRg1 (dVar 0)) [2] (nNm 2) dYes (dL oTuple (dCons (dLc (itRg1 (dVar 0)) [1] (nNm 1) dYes (dIf (dB (dBin oEq (dVar 2) (dVar 1))) (dC (.int 1)) (dC (.int 0)))) dNil))) dNil)))
def F__law_unit : DFn := runD 3 den__law_unit
theorem ok__law_unit {P : Program} {w : World} {K : PySem.W.Frag} {h : Heap} {mg : Str → Option Value} (X : K.In h) (G : h.Ns mainGlobals mg) (c : He.SaysD fa fn K) : DOk P w K mg CX0 XX0 1 "_law_unit" (top 23) ["_law_size_so"] F__law_unit := by
  obtain ⟨fd, F⟩ := c.def_ 21 (d := mkD "_law_unit" 23) rfl
  have m_range : mg "range" = none := He.free_ok X G (c.fact 37 (f := .free "range") rfl)
  have m_tuple : mg "tuple" = none := He.free_ok X G (c.fact 40 (f := .free "tuple") rfl)
  refine DOk.of0 F (He.glo_ok X G (c.fact 21 (f := .glo "_law_unit") rfl)) sc__law_unit (fun _ _ _ _ _ _ us hl => match us, hl with | [_], _ => rfl) fun base cdv A outer s H E KX G' hr hg => ?_
  unfold den__law_unit
  exact (pdss_one (pds_ret (pd_callTy cd_tuple m_tuple bt_tuple (pda_cons (pd_lc (own := [("_law_i", 2)]) (gok_nm 2) rfl sc__law_unit.nd (blkOk_by (by rfl)) (pdi_range1 rfl m_range (pd_var 0)) (fun _ _ _ _ _ => (pg_name (i := 2) sc__law_unit.nd rfl (by first | exact Or.inl rfl | exact Or.inr rfl))) (fun _ _ _ _ _ => pds_tests0) (fun _ _ _ _ _ => (pd_callTy cd_tuple m_tuple bt_tuple (pda_cons (pd_lc (own := [("_law_j", 1)]) (gok_nm 1) rfl sc__law_unit.nd (blkOk_by (by rfl)) (pdi_range1 rfl m_range (pd_var 0)) (fun _ _ _ _ _ => (pg_name (i := 1) sc__law_unit.nd rfl (by first | exact Or.inl rfl | exact Or.inr rfl))) (fun _ _ _ _ _ => pds_tests0) (fun _ _ _ _ _ => (pd_if (pdt_cmp (od_eq hr.u64) (pd_var 2) (pd_var 1)) pd_int pd_int))) pda_nil)))) pda_nil))))
def N__law_prime : List Str := ["_law_m"]
theorem sc__law_prime : FnScope N__law_prime ["_law_m"] (defScope (top 24)) := ⟨rfl, rfl, rfl, by decide +kernel, rfl, by decide +kernel, by decide +kernel⟩
def den__law_prime : DS := (dRet (dL (ofN 2 F__law_of) (dCons (dVar 0) (dCons (dL oLst (dCons (dC (.int 2)) (dCons (dC (.int 3)) (dCons (dC (.int 5)) (dCons (dC (.int 7)) (dCons (dC (.int 11)) (dCons (dC (.int 13)) dNil))))))) dNil))))
def F__law_prime : DFn := runD 1 den__law_prime
theorem ok__law_prime {P : Program} {w : World} {K : PySem.W.Frag} {h : Heap} {mg : Str → Option Value} (X : K.In h) (G : h.Ns mainGlobals mg) (c : He.SaysD fa fn K) : DOk P w K mg CX0 XX0 3 "_law_prime" (top 24) ["_law_m"] F__law_prime := by
  obtain ⟨fd, F⟩ := c.def_ 22 (d := mkD "_law_prime" 24) rfl
  have d__law_of := ok__law_of (w := w) (P := P) X G c
  refine DOk.of0 F (He.glo_ok X G (c.fact 22 (f := .glo "_law_prime") rfl)) sc__law_prime (fun _ _ _ _ _ _ us hl => match us, hl with | [_], _ => rfl) fun base cdv A outer s H E KX G' hr hg => ?_
  unfold den__law_prime
  exact (pdss_one (pds_ret (pc_call (E := fun _ _ _ => False) d__law_of (hr.mono (by decide)) ⟨KX, G', pass0, hg⟩ (pda_cons (pd_var 0) (pda_cons (pd_lst (pda_cons pd_int (pda_cons pd_int (pda_cons pd_int (pda_cons pd_int (pda_cons pd_int (pda_cons pd_int pda_nil))))))) pda_nil)))))
def N__law_small_prime : List Str := ["_law_m"]
theorem sc__law_small_prime : FnScope N__law_small_prime ["_law_m"] (defScope (top 25)) := ⟨rfl, rfl, rfl, by decide +kernel, rfl, by decide +kernel, by decide +kernel⟩
def den__law_small_prime : DS := (dRet (dL (ofN 2 F__law_of) (dCons (dVar 0) (dCons (dL oLst (dCons (dC (.int 2)) (dCons (dC (.int 3)) (dCons (dC (.int 5)) (dCons (dC (.int 2)) (dCons (dC (.int 3)) (dCons (dC (.int 7)) dNil))))))) dNil))))
def F__law_small_prime : DFn := runD 1 den__law_small_prime
theorem ok__law_small_prime {P : Program} {w : World} {K : PySem.W.Frag} {h : Heap} {mg : Str → Option Value} (X : K.In h) (G : h.Ns mainGlobals mg) (c : He.SaysD fa fn K) : DOk P w K mg CX0 XX0 3 "_law_small_prime" (top 25) ["_law_m"] F__law_small_prime := by
  obtain ⟨fd, F⟩ := c.def_ 23 (d := mkD "_law_small_prime" 25) rfl
  have d__law_of := ok__law_of (w := w) (P := P) X G c
  refine DOk.of0 F (He.glo_ok X G (c.fact 23 (f := .glo "_law_small_prime") rfl)) sc__law_small_prime (fun _ _ _ _ _ _ us hl => match us, hl with | [_], _ => rfl) fun base cdv A outer s H E KX G' hr hg => ?_
  unfold den__law_small_prime
  exact (pdss_one (pds_ret (pc_call (E := fun _ _ _ => False) d__law_of (hr.mono (by decide)) ⟨KX, G', pass0, hg⟩ (pda_cons (pd_var 0) (pda_cons (pd_lst (pda_cons pd_int (pda_cons pd_int (pda_cons pd_int (pda_cons pd_int (pda_cons pd_int (pda_cons pd_int pda_nil))))))) pda_nil)))))
def N__law_column : List Str := ["_law_m", "_law_p", "_law_size_so", "_law_spot"]
theorem sc__law_column : FnScope N__law_column ["_law_m", "_law_p", "_law_size_so"] (defScope (top 26)) := ⟨rfl, rfl, rfl, by decide +kernel, rfl, by decide +kernel, by decide +kernel⟩
def den__law_column : DS := (dRet (dL oTuple (dCons (dLc (itRg1 (dVar 2)) [3] (nNm 3) dYes (dIf (dB (dBin oEq (dL (ofN 2 F__law_draw) (dCons (dVar 0) (dCons (dC (.int 3)) dNil))) (dC (.int 0)))) (dC (.int 0)) (dL (ofN 2 F__law_draw) (dCons (dVar 0) (dCons (dVar 1) dNil))))) dNil)))
def F__law_column : DFn := runD 4 den__law_column
theorem ok__law_column {P : Program} {w : World} {K : PySem.W.Frag} {h : Heap} {mg : Str → Option Value} (X : K.In h) (G : h.Ns mainGlobals mg) (c : He.SaysD fa fn K) : DOk P w K mg CX0 XX0 2 "_law_column" (top 26) ["_law_m", "_law_p", "_law_size_so"] F__law_column := by
  obtain ⟨fd, F⟩ := c.def_ 24 (d := mkD "_law_column" 26) rfl
  have d__law_draw := ok__law_draw (w := w) (P := P) X G c
  have m_range : mg "range" = none := He.free_ok X G (c.fact 37 (f := .free "range") rfl)
  have m_tuple : mg "tuple" = none := He.free_ok X G (c.fact 40 (f := .free "tuple") rfl)
  refine DOk.of0 F (He.glo_ok X G (c.fact 24 (f := .glo "_law_column") rfl)) sc__law_column (fun _ _ _ _ _ _ us hl => match us, hl with | [_, _, _], _ => rfl) fun base cdv A outer s H E KX G' hr hg => ?_
  unfold den__law_column
  exact (pdss_one (pds_ret (pd_callTy cd_tuple m_tuple bt_tuple (pda_cons (pd_lc (own := [("_law_spot", 3)]) (gok_nm 3) rfl sc__law_column.nd (blkOk_by (by rfl)) (pdi_range1 rfl m_range (pd_var 2)) (fun _ _ _ _ _ => (pg_name (i := 3) sc__law_column.nd rfl (by first | exact Or.inl rfl | exact Or.inr rfl))) (fun _ _ _ _ _ => pds_tests0) (fun _ _ _ _ _ => (pd_if (pdt_cmp (od_eq hr.u64) (pc_call (E := fun _ _ _ => False) d__law_draw (hr.mono (by decide)) ⟨KX, G', pass0, hg⟩ (pda_cons (pd_var 0) (pda_cons pd_int pda_nil))) pd_int) pd_int (pc_call (E := fun _ _ _ => False) d__law_draw (hr.mono (by decide)) ⟨KX, G', pass0, hg⟩ (pda_cons (pd_var 0) (pda_cons (pd_var 1) pda_nil)))))) pda_nil))))
def N__law_table : List Str := ["_law_m", "_law_p", "_law_lines", "_law_size_so", "_law_found", "_law_turn", "_law_line", "_law_other", "_law_entry"]
theorem sc__law_table : FnScope N__law_table ["_law_m", "_law_p", "_law_lines", "_law_size_so"] (defScope (top 27)) := ⟨rfl, rfl, rfl, by decide +kernel, rfl, by decide +kernel, by decide +kernel⟩
def den__law_table : DS := (dSeq (dSet 4 (dL oLst dNil))
    (dSeq (dFor (itRg1 (dVar 2)) (nNm 5)
    (dSeq (dSet 6 (dL (ofN 3 F__law_column) (dCons (dVar 0) (dCons (dVar 1) (dCons (dVar 3) dNil)))))
    (dSeq (dIfS (dAnd (dB (dBin oNe (dVar 4) (dL oLst dNil))) (dB (dBin oEq (dL (ofN 2 F__law_draw) (dCons (dVar 0) (dCons (dC (.int 3)) dNil))) (dC (.int 0)))))
    (dSeq (dSet 7 (dL (ofN 2 F__law_of) (dCons (dVar 0) (dCons (dVar 4) dNil))))
    (dSet 6 (dL oTuple (dCons (dLc (itSeq (dVar 7)) [8] (nNm 8) dYes (dBin oMod (dL oInt (dCons (dBin oMul (dC (.int 2)) (dVar 8)) dNil)) (dVar 1))) dNil))))
    dNext)
    (dExpr (dMt oAppend (dVar 4) (dCons (dVar 6) dNil))))))
    (dRet (dL oTuple (dCons (dVar 4) dNil)))))
def F__law_table : DFn := runD 9 den__law_table
theorem ok__law_table {P : Program} {w : World} {K : PySem.W.Frag} {h : Heap} {mg : Str → Option Value} (X : K.In h) (G : h.Ns mainGlobals mg) (c : He.SaysD fa fn K) : DOk P w K mg CX0 XX0 3 "_law_table" (top 27) ["_law_m", "_law_p", "_law_lines", "_law_size_so"] F__law_table := by
  obtain ⟨fd, F⟩ := c.def_ 25 (d := mkD "_law_table" 27) rfl
  have d__law_column := ok__law_column (w := w) (P := P) X G c
  have d__law_draw := ok__law_draw (w := w) (P := P) X G c
  have d__law_of := ok__law_of (w := w) (P := P) X G c
  have m_int : mg "int" = none := He.free_ok X G (c.fact 32 (f := .free "int") rfl)
  have m_range : mg "range" = none := He.free_ok X G (c.fact 37 (f := .free "range") rfl)
  have m_tuple : mg "tuple" = none := He.free_ok X G (c.fact 40 (f := .free "tuple") rfl)
  refine DOk.of0 F (He.glo_ok X G (c.fact 25 (f := .glo "_law_table") rfl)) sc__law_table (fun _ _ _ _ _ _ us hl => match us, hl with | [_, _, _, _], _ => rfl) fun base cdv A outer s H E KX G' hr hg => ?_
  unfold den__law_table
  exact (pdss_cons (pds_set 4 sc__law_table.nd (pd_lst pda_nil))
    (pdss_cons (pds_for (gok_nm 5) PassesOwn.never rfl (pdi_range1 rfl m_range (pd_var 2)) (pg_name (i := 5) sc__law_table.nd rfl (by first | exact Or.inl rfl | exact Or.inr rfl))
    (pdss_cons (pds_set 6 sc__law_table.nd (pc_call (E := fun _ _ _ => False) d__law_column (hr.mono (by decide)) ⟨KX, G', pass0, hg⟩ (pda_cons (pd_var 0) (pda_cons (pd_var 1) (pda_cons (pd_var 3) pda_nil)))))
    (pdss_cons (pds_if (pdt_w (pdw_and (pdt_cmp (od_ne hr.u64) (pd_var 4) (pd_lst pda_nil)) (pdw_and1 (pdt_cmp (od_eq hr.u64) (pc_call (E := fun _ _ _ => False) d__law_draw (hr.mono (by decide)) ⟨KX, G', pass0, hg⟩ (pda_cons (pd_var 0) (pda_cons pd_int pda_nil))) pd_int))))
    (pdss_cons (pds_set 7 sc__law_table.nd (pc_call (E := fun _ _ _ => False) d__law_of (hr.mono (by decide)) ⟨KX, G', pass0, hg⟩ (pda_cons (pd_var 0) (pda_cons (pd_var 4) pda_nil))))
    (pdss_one (pds_set 6 sc__law_table.nd (pd_callTy cd_tuple m_tuple bt_tuple (pda_cons (pd_lc (own := [("_law_entry", 8)]) (gok_nm 8) rfl sc__law_table.nd (blkOk_by (by rfl)) (pdi_seq (pd_var 7)) (fun _ _ _ _ _ => (pg_name (i := 8) sc__law_table.nd rfl (by first | exact Or.inl rfl | exact Or.inr rfl))) (fun _ _ _ _ _ => pds_tests0) (fun _ _ _ _ _ => (pd_bin od_mod (pd_callTy cd_int m_int bt_int (pda_cons (pd_bin od_mul pd_int (pd_var 8)) pda_nil)) (pd_var 1)))) pda_nil)))))
    pdss_nil)
    (pdss_one (pds_expr (pd_mt PySem.F.slot_list_append PySem.F.type_list_append md_append (pd_var 4) (pda_cons (pd_var 6) pda_nil)))))))
    (pdss_one (pds_ret (pd_callTy cd_tuple m_tuple bt_tuple (pda_cons (pd_var 4) pda_nil))))))
def N__law_every : List Str := ["_law_p", "_law_size_so", "_law_found", "_law_spot", "_law_longer", "_law_column_so", "_law_x"]
theorem sc__law_every : FnScope N__law_every ["_law_p", "_law_size_so"] (defScope (top 28)) := ⟨rfl, rfl, rfl, by decide +kernel, rfl, by decide +kernel, by decide +kernel⟩
def den__law_every : DS := (dSeq (dSet 2 (dL oLst (dCons (dL oTup dNil) dNil)))
    (dSeq (dFor (itRg1 (dVar 1)) (nNm 3)
    (dSeq (dSet 4 (dL oLst dNil))
    (dSeq (dFor (itSeq (dVar 2)) (nNm 5)
    (dExpr (dMt oExtend (dVar 4) (dCons (dLc (itRg1 (dVar 0)) [6] (nNm 6) dYes (dBin oAdd (dVar 5) (dL oTup (dCons (dVar 6) dNil)))) dNil))))
    (dSet 2 (dVar 4)))))
    (dRet (dVar 2))))
def F__law_every : DFn := runD 7 den__law_every
theorem ok__law_every {P : Program} {w : World} {K : PySem.W.Frag} {h : Heap} {mg : Str → Option Value} (X : K.In h) (G : h.Ns mainGlobals mg) (c : He.SaysD fa fn K) : DOk P w K mg CX0 XX0 1 "_law_every" (top 28) ["_law_p", "_law_size_so"] F__law_every := by
  obtain ⟨fd, F⟩ := c.def_ 26 (d := mkD "_law_every" 28) rfl
  have m_range : mg "range" = none := He.free_ok X G (c.fact 37 (f := .free "range") rfl)
  refine DOk.of0 F (He.glo_ok X G (c.fact 26 (f := .glo "_law_every") rfl)) sc__law_every (fun _ _ _ _ _ _ us hl => match us, hl with | [_, _], _ => rfl) fun base cdv A outer s H E KX G' hr hg => ?_
  unfold den__law_every
  exact (pdss_cons (pds_set 2 sc__law_every.nd (pd_lst (pda_cons (pd_tup pda_nil) pda_nil)))
    (pdss_cons (pds_for (gok_nm 3) PassesOwn.never rfl (pdi_range1 rfl m_range (pd_var 1)) (pg_name (i := 3) sc__law_every.nd rfl (by first | exact Or.inl rfl | exact Or.inr rfl))
    (pdss_cons (pds_set 4 sc__law_every.nd (pd_lst pda_nil))
    (pdss_cons (pds_for (gok_nm 5) PassesOwn.never rfl (pdi_seq (pd_var 2)) (pg_name (i := 5) sc__law_every.nd rfl (by first | exact Or.inl rfl | exact Or.inr rfl))
    (pdss_one (pds_expr (pd_mt PySem.F.slot_list_extend PySem.F.type_list_extend md_extend (pd_var 4) (pda_cons (pd_lc (own := [("_law_x", 6)]) (gok_nm 6) rfl sc__law_every.nd (blkOk_by (by rfl)) (pdi_range1 rfl m_range (pd_var 0)) (fun _ _ _ _ _ => (pg_name (i := 6) sc__law_every.nd rfl (by first | exact Or.inl rfl | exact Or.inr rfl))) (fun _ _ _ _ _ => pds_tests0) (fun _ _ _ _ _ => (pd_bin od_add (pd_var 5) (pd_tup (pda_cons (pd_var 6) pda_nil))))) pda_nil)))))
    (pdss_one (pds_set 2 sc__law_every.nd (pd_var 4))))))
    (pdss_one (pds_ret (pd_var 2)))))
def N__law_steps : List Str := ["_law_m", "_law_p", "_law_size_so", "_law_lines", "_law_line", "_law_turn", "_law_i", "_law_j", "_law_k", "_law_near", "_law_far", "_law_spot", "_law_x", "_law_order"]
theorem sc__law_steps : FnScope N__law_steps ["_law_m", "_law_p", "_law_size_so"] (defScope (top 29)) := ⟨rfl, rfl, rfl, by decide +kernel, rfl, by decide +kernel, by decide +kernel⟩
def den__law_steps : DS := (dSeq (dSet 3 (dLc (itSeq (dL (ofN 1 F__law_unit) (dCons (dVar 2) dNil))) [4] (nNm 4) dYes (dL oList (dCons (dVar 4) dNil))))
    (dSeq (dFor (itRg1 (dBin oMul (dC (.int 3)) (dVar 2))) (nNm 5)
    (dSeq (dAsg (nTp (nsCons (nNm 6) (nsCons (nNm 7) (nsCons (nNm 8) nsNil)))) (dL oTup (dCons (dL (ofN 2 F__law_draw) (dCons (dVar 0) (dCons (dVar 2) dNil))) (dCons (dL (ofN 2 F__law_draw) (dCons (dVar 0) (dCons (dVar 2) dNil))) (dCons (dL (ofN 2 F__law_draw) (dCons (dVar 0) (dCons (dVar 1) dNil))) dNil)))))
    (dIfS (dB (dBin oNe (dVar 6) (dVar 7)))
    (dSeq (dAsg (nTp (nsCons (nNm 9) (nsCons (nNm 10) nsNil))) (dL oTup (dCons (dBin oIx (dVar 3) (dVar 6)) (dCons (dBin oIx (dVar 3) (dVar 7)) dNil))))
    (dSetIx (dLc (itRg1 (dVar 2)) [11] (nNm 11) dYes (dBin oMod (dL oInt (dCons (dBin oAdd (dBin oIx (dVar 9) (dVar 11)) (dBin oMul (dVar 8) (dBin oIx (dVar 10) (dVar 11)))) dNil)) (dVar 1))) (dVar 3) (dVar 6)))
    (dIfS (dB (dBin (oCmp gGt) (dVar 8) (dC (.int 0))))
    (dSetIx (dLc (itSeq (dBin oIx (dVar 3) (dVar 6))) [12] (nNm 12) dYes (dBin oMod (dL oInt (dCons (dBin oMul (dVar 8) (dVar 12)) dNil)) (dVar 1))) (dVar 3) (dVar 6))
    dNext))))
    (dSeq (dSet 13 (dL (ofN 2 F__law_shuffled) (dCons (dVar 0) (dCons (dVar 2) dNil))))
    (dRet (dL oTuple (dCons (dLc (itSeq (dVar 13)) [11] (nNm 11) dYes (dL oTuple (dCons (dBin oIx (dVar 3) (dVar 11)) dNil))) dNil))))))
def F__law_steps : DFn := runD 14 den__law_steps
theorem ok__law_steps {P : Program} {w : World} {K : PySem.W.Frag} {h : Heap} {mg : Str → Option Value} (X : K.In h) (G : h.Ns mainGlobals mg) (c : He.SaysD fa fn K) : DOk P w K mg CX0 XX0 4 "_law_steps" (top 29) ["_law_m", "_law_p", "_law_size_so"] F__law_steps := by
  obtain ⟨fd, F⟩ := c.def_ 27 (d := mkD "_law_steps" 29) rfl
  have d__law_unit := ok__law_unit (w := w) (P := P) X G c
  have d__law_draw := ok__law_draw (w := w) (P := P) X G c
  have d__law_shuffled := ok__law_shuffled (w := w) (P := P) X G c
  have m_int : mg "int" = none := He.free_ok X G (c.fact 32 (f := .free "int") rfl)
  have m_list : mg "list" = none := He.free_ok X G (c.fact 34 (f := .free "list") rfl)
  have m_range : mg "range" = none := He.free_ok X G (c.fact 37 (f := .free "range") rfl)
  have m_tuple : mg "tuple" = none := He.free_ok X G (c.fact 40 (f := .free "tuple") rfl)
  refine DOk.of0 F (He.glo_ok X G (c.fact 27 (f := .glo "_law_steps") rfl)) sc__law_steps (fun _ _ _ _ _ _ us hl => match us, hl with | [_, _, _], _ => rfl) fun base cdv A outer s H E KX G' hr hg => ?_
  unfold den__law_steps
  exact (pdss_cons (pds_set 3 sc__law_steps.nd (pd_lc (own := [("_law_line", 4)]) (gok_nm 4) rfl sc__law_steps.nd (blkOk_by (by rfl)) (pdi_seq (pc_call (E := fun _ _ _ => False) d__law_unit (hr.mono (by decide)) ⟨KX, G', pass0, hg⟩ (pda_cons (pd_var 2) pda_nil))) (fun _ _ _ _ _ => (pg_name (i := 4) sc__law_steps.nd rfl (by first | exact Or.inl rfl | exact Or.inr rfl))) (fun _ _ _ _ _ => pds_tests0) (fun _ _ _ _ _ => (pd_callTy cd_list m_list bt_list (pda_cons (pd_var 4) pda_nil)))))
    (pdss_cons (pds_for (gok_nm 5) PassesOwn.never rfl (pdi_range1 rfl m_range (pd_bin od_mul pd_int (pd_var 2))) (pg_name (i := 5) sc__law_steps.nd rfl (by first | exact Or.inl rfl | exact Or.inr rfl))
    (pdss_cons (pds_asg (gok_t3 (gok_nm 6) (gok_nm 7) (gok_nm 8)) (pg_tup rfl (pgs_cons (pg_name (i := 6) sc__law_steps.nd rfl (by first | exact Or.inl rfl | exact Or.inr rfl)) (pgs_cons (pg_name (i := 7) sc__law_steps.nd rfl (by first | exact Or.inl rfl | exact Or.inr rfl)) (pgs_cons (pg_name (i := 8) sc__law_steps.nd rfl (by first | exact Or.inl rfl | exact Or.inr rfl)) pgs_nil)))) (pd_tup (pda_cons (pc_call (E := fun _ _ _ => False) d__law_draw (hr.mono (by decide)) ⟨KX, G', pass0, hg⟩ (pda_cons (pd_var 0) (pda_cons (pd_var 2) pda_nil))) (pda_cons (pc_call (E := fun _ _ _ => False) d__law_draw (hr.mono (by decide)) ⟨KX, G', pass0, hg⟩ (pda_cons (pd_var 0) (pda_cons (pd_var 2) pda_nil))) (pda_cons (pc_call (E := fun _ _ _ => False) d__law_draw (hr.mono (by decide)) ⟨KX, G', pass0, hg⟩ (pda_cons (pd_var 0) (pda_cons (pd_var 1) pda_nil))) pda_nil)))))
    (pdss_one (pds_if (pdt_cmp (od_ne hr.u64) (pd_var 6) (pd_var 7))
    (pdss_cons (pds_asg (gok_t2 (gok_nm 9) (gok_nm 10)) (pg_tup rfl (pgs_cons (pg_name (i := 9) sc__law_steps.nd rfl (by first | exact Or.inl rfl | exact Or.inr rfl)) (pgs_cons (pg_name (i := 10) sc__law_steps.nd rfl (by first | exact Or.inl rfl | exact Or.inr rfl)) pgs_nil))) (pd_tup (pda_cons (pd_ix hr.u1 (pd_var 3) (pd_var 6)) (pda_cons (pd_ix hr.u1 (pd_var 3) (pd_var 7)) pda_nil))))
    (pdss_one (pds_setIx hr.u1 (pd_lc (own := [("_law_spot", 11)]) (gok_nm 11) rfl sc__law_steps.nd (blkOk_by (by rfl)) (pdi_range1 rfl m_range (pd_var 2)) (fun _ _ _ _ _ => (pg_name (i := 11) sc__law_steps.nd rfl (by first | exact Or.inl rfl | exact Or.inr rfl))) (fun _ _ _ _ _ => pds_tests0) (fun _ _ _ _ _ => (pd_bin od_mod (pd_callTy cd_int m_int bt_int (pda_cons (pd_bin od_add (pd_ix hr.u1 (pd_var 9) (pd_var 11)) (pd_bin od_mul (pd_var 8) (pd_ix hr.u1 (pd_var 10) (pd_var 11)))) pda_nil)) (pd_var 1)))) (pd_var 3) (pd_var 6))))
    (pdss_one (pds_if (pdt_cmp od_gt (pd_var 8) pd_int)
    (pdss_one (pds_setIx hr.u1 (pd_lc (own := [("_law_x", 12)]) (gok_nm 12) rfl sc__law_steps.nd (blkOk_by (by rfl)) (pdi_seq (pd_ix hr.u1 (pd_var 3) (pd_var 6))) (fun _ _ _ _ _ => (pg_name (i := 12) sc__law_steps.nd rfl (by first | exact Or.inl rfl | exact Or.inr rfl))) (fun _ _ _ _ _ => pds_tests0) (fun _ _ _ _ _ => (pd_bin od_mod (pd_callTy cd_int m_int bt_int (pda_cons (pd_bin od_mul (pd_var 8) (pd_var 12)) pda_nil)) (pd_var 1)))) (pd_var 3) (pd_var 6)))
    pdss_nil))))))
    (pdss_cons (pds_set 13 sc__law_steps.nd (pc_call (E := fun _ _ _ => False) d__law_shuffled (hr.mono (by decide)) ⟨KX, G', pass0, hg⟩ (pda_cons (pd_var 0) (pda_cons (pd_var 2) pda_nil))))
    (pdss_one (pds_ret (pd_callTy cd_tuple m_tuple bt_tuple (pda_cons (pd_lc (own := [("_law_spot", 11)]) (gok_nm 11) rfl sc__law_steps.nd (blkOk_by (by rfl)) (pdi_seq (pd_var 13)) (fun _ _ _ _ _ => (pg_name (i := 11) sc__law_steps.nd rfl (by first | exact Or.inl rfl | exact Or.inr rfl))) (fun _ _ _ _ _ => pds_tests0) (fun _ _ _ _ _ => (pd_callTy cd_tuple m_tuple bt_tuple (pda_cons (pd_ix hr.u1 (pd_var 3) (pd_var 11)) pda_nil)))) pda_nil)))))))
def N__law_all_right : List Str := ["_law_m", "_law_p", "_law_size_so", "_law_lines", "_law_table_so", "_law_leads_here", "_law_due", "_law_column_so", "_law_spot"]
theorem sc__law_all_right : FnScope N__law_all_right ["_law_m"] (defScope (top 30)) := ⟨rfl, rfl, rfl, by decide +kernel, rfl, by decide +kernel, by decide +kernel⟩
def den__law_all_right : DS := (dSeq (dSet 1 (dL (ofN 1 F__law_small_prime) (dCons (dVar 0) dNil)))
    (dSeq (dPar 2 3 (dL (ofN 2 F__law_draw) (dCons (dVar 0) (dCons (dIf (dB (dBin (oCmp gLt) (dVar 1) (dC (.int 5)))) (dC (.int 5)) (dC (.int 4))) dNil))) (dL (ofN 2 F__law_draw) (dCons (dVar 0) (dCons (dIf (dB (dBin (oCmp gLt) (dVar 1) (dC (.int 5)))) (dC (.int 5)) (dC (.int 4))) dNil))))
    (dSeq (dSet 4 (dL (ofN 4 F__law_table) (dCons (dVar 0) (dCons (dVar 1) (dCons (dVar 3) (dCons (dVar 2) dNil))))))
    (dSeq (dSet 5 (dL (ofN 1 F__law_leads) (dCons (dL (ofN 3 F__law_kernel) (dCons (dVar 1) (dCons (dVar 4) (dCons (dVar 2) dNil)))) dNil)))
    (dSeq (dSet 6 dNewT)
    (dSeq (dFor (itSeq (dL (ofN 2 F__law_every) (dCons (dVar 1) (dCons (dVar 2) dNil)))) (nNm 7)
    (dIfS (dB (dBin oEq (dLc (itSeq (dVar 5)) [8] (nNm 8) (dB (dBin oNe (dBin oIx (dVar 7) (dVar 8)) (dC (.int 0)))) (dC (.int 1))) (dL oLst dNil)))
    (dSetIx (dVar 7) (dVar 6) (dL (ofN 3 F__law_led) (dCons (dVar 1) (dCons (dVar 4) (dCons (dVar 7) dNil)))))
    dNext))
    (dSeq (dFor (itSeq (dL (ofN 2 F__law_every) (dCons (dVar 1) (dCons (dVar 3) dNil)))) (nNm 7)
    (dIfS (dNot (dTru (dL (ofN 2 F__law_like) (dCons (dL (ofN 4 F_solved) (dCons (dVar 1) (dCons (dVar 4) (dCons (dVar 2) (dCons (dVar 7) dNil))))) (dCons (dGet1' (dVar 6) (dVar 7)) dNil)))))
    (dRet (dC (.bl false)))
    dNext))
    (dRet (dC (.bl true))))))))))
def F__law_all_right : DFn := runD 9 den__law_all_right
theorem ok__law_all_right {P : Program} {w : World} {K : PySem.W.Frag} {h : Heap} {mg : Str → Option Value} (X : K.In h) (G : h.Ns mainGlobals mg) (c : He.SaysD fa fn K) : DOk P w K mg CX0 XX0 5 "_law_all_right" (top 30) ["_law_m"] F__law_all_right := by
  obtain ⟨fd, F⟩ := c.def_ 28 (d := mkD "_law_all_right" 30) rfl
  have d__law_small_prime := ok__law_small_prime (w := w) (P := P) X G c
  have d__law_draw := ok__law_draw (w := w) (P := P) X G c
  have d__law_table := ok__law_table (w := w) (P := P) X G c
  have d__law_leads := ok__law_leads (w := w) (P := P) X G c
  have d__law_kernel := ok__law_kernel (w := w) (P := P) X G c
  have d__law_led := ok__law_led (w := w) (P := P) X G c
  have d__law_every := ok__law_every (w := w) (P := P) X G c
  have d__law_like := ok__law_like (w := w) (P := P) X G c
  have d_solved := ok_solved (w := w) (P := P) X G c
  refine DOk.of0 F (He.glo_ok X G (c.fact 28 (f := .glo "_law_all_right") rfl)) sc__law_all_right (fun _ _ _ _ _ _ us hl => match us, hl with | [_], _ => rfl) fun base cdv A outer s H E KX G' hr hg => ?_
  unfold den__law_all_right
  exact (pdss_cons (pds_set 1 sc__law_all_right.nd (pc_call (E := fun _ _ _ => False) d__law_small_prime (hr.mono (by decide)) ⟨KX, G', pass0, hg⟩ (pda_cons (pd_var 0) pda_nil)))
    (pdss_cons (pds_par 2 3 rfl sc__law_all_right.nd (pc_call (E := fun _ _ _ => False) d__law_draw (hr.mono (by decide)) ⟨KX, G', pass0, hg⟩ (pda_cons (pd_var 0) (pda_cons (pd_if (pdt_cmp od_lt (pd_var 1) pd_int) pd_int pd_int) pda_nil))) (pc_call (E := fun _ _ _ => False) d__law_draw (hr.mono (by decide)) ⟨KX, G', pass0, hg⟩ (pda_cons (pd_var 0) (pda_cons (pd_if (pdt_cmp od_lt (pd_var 1) pd_int) pd_int pd_int) pda_nil))))
    (pdss_cons (pds_set 4 sc__law_all_right.nd (pc_call (E := fun _ _ _ => False) d__law_table (hr.mono (by decide)) ⟨KX, G', pass0, hg⟩ (pda_cons (pd_var 0) (pda_cons (pd_var 1) (pda_cons (pd_var 3) (pda_cons (pd_var 2) pda_nil))))))
    (pdss_cons (pds_set 5 sc__law_all_right.nd (pc_call (E := fun _ _ _ => False) d__law_leads (hr.mono (by decide)) ⟨KX, G', pass0, hg⟩ (pda_cons (pc_call (E := fun _ _ _ => False) d__law_kernel (hr.mono (by decide)) ⟨KX, G', pass0, hg⟩ (pda_cons (pd_var 1) (pda_cons (pd_var 4) (pda_cons (pd_var 2) pda_nil)))) pda_nil)))
    (pdss_cons (pds_set 6 sc__law_all_right.nd pd_dnewT)
    (pdss_cons (pds_for (gok_nm 7) PassesOwn.never rfl (pdi_seq (pc_call (E := fun _ _ _ => False) d__law_every (hr.mono (by decide)) ⟨KX, G', pass0, hg⟩ (pda_cons (pd_var 1) (pda_cons (pd_var 2) pda_nil)))) (pg_name (i := 7) sc__law_all_right.nd rfl (by first | exact Or.inl rfl | exact Or.inr rfl))
    (pdss_one (pds_if (pdt_cmp (od_eq hr.u64) (pd_lc (own := [("_law_spot", 8)]) (gok_nm 8) rfl sc__law_all_right.nd (blkOk_by (by rfl)) (pdi_seq (pd_var 5)) (fun _ _ _ _ _ => (pg_name (i := 8) sc__law_all_right.nd rfl (by first | exact Or.inl rfl | exact Or.inr rfl))) (fun _ _ _ _ _ => (pds_tests1 (pdt_cmp (od_ne hr.u64) (pd_ix hr.u1 (pd_var 7) (pd_var 8)) pd_int))) (fun _ _ _ _ _ => pd_int)) (pd_lst pda_nil))
    (pdss_one (pds_setIx hr.u1 (pd_var 7) (pd_var 6) (pc_call (E := fun _ _ _ => False) d__law_led (hr.mono (by decide)) ⟨KX, G', pass0, hg⟩ (pda_cons (pd_var 1) (pda_cons (pd_var 4) (pda_cons (pd_var 7) pda_nil))))))
    pdss_nil)))
    (pdss_cons (pds_for (gok_nm 7) PassesOwn.never rfl (pdi_seq (pc_call (E := fun _ _ _ => False) d__law_every (hr.mono (by decide)) ⟨KX, G', pass0, hg⟩ (pda_cons (pd_var 1) (pda_cons (pd_var 3) pda_nil)))) (pg_name (i := 7) sc__law_all_right.nd rfl (by first | exact Or.inl rfl | exact Or.inr rfl))
    (pdss_one (pds_if (pdt_not (pdt_tru (pc_call (E := fun _ _ _ => False) d__law_like (hr.mono (by decide)) ⟨KX, G', pass0, hg⟩ (pda_cons (pc_call (E := fun _ _ _ => False) d_solved (hr.mono (by decide)) ⟨KX, G', pass0, hg⟩ (pda_cons (pd_var 1) (pda_cons (pd_var 4) (pda_cons (pd_var 2) (pda_cons (pd_var 7) pda_nil))))) (pda_cons (pd_get hr.u1 (pd_var 6) (pd_var 7) ⟨rfl, rfl, rfl, rfl⟩) pda_nil)))))
    (pdss_one (pds_ret pd_bl))
    pdss_nil)))
    (pdss_one (pds_ret pd_bl)))))))))
def N__law_back_right : List Str := ["_law_m", "_law_p", "_law_size_so", "_law_table_so", "_law_back_here", "_law_both", "_law_told"]
theorem sc__law_back_right : FnScope N__law_back_right ["_law_m"] (defScope (top 31)) := ⟨rfl, rfl, rfl, by decide +kernel, rfl, by decide +kernel, by decide +kernel⟩
def den__law_back_right : DS := (dSeq (dPar 1 2 (dL (ofN 1 F__law_prime) (dCons (dVar 0) dNil)) (dL (ofN 2 F__law_draw) (dCons (dVar 0) (dCons (dC (.int 9)) dNil))))
    (dSeq (dSet 3 (dL (ofN 3 F__law_steps) (dCons (dVar 0) (dCons (dVar 1) (dCons (dVar 2) dNil)))))
    (dSeq (dSet 4 (dL (ofN 2 F_turned_back) (dCons (dVar 1) (dCons (dVar 3) dNil))))
    (dSeq (dIfS (dB (dBin oIs (dVar 4) (dC .non)))
    (dRet (dC (.bl false)))
    dNext)
    (dSeq (dSet 5 (dL oLst (dCons (dL (ofN 4 F__law_behind) (dCons (dVar 1) (dCons (dVar 3) (dCons (dVar 4) (dCons (dVar 2) dNil))))) (dCons (dL (ofN 4 F__law_behind) (dCons (dVar 1) (dCons (dVar 4) (dCons (dVar 3) (dCons (dVar 2) dNil))))) dNil))))
    (dSeq (dIfS (dNot (dTru (dL (ofN 2 F__law_like) (dCons (dVar 5) (dCons (dBin oMul (dL oLst (dCons (dL (ofN 1 F__law_unit) (dCons (dVar 2) dNil)) dNil)) (dC (.int 2))) dNil)))))
    (dRet (dC (.bl false)))
    dNext)
    (dSeq (dSet 3 (dL (ofN 4 F__law_table) (dCons (dVar 0) (dCons (dVar 1) (dCons (dVar 2) (dCons (dVar 2) dNil))))))
    (dSeq (dSet 6 (dL (ofN 2 F_turned_back) (dCons (dVar 1) (dCons (dVar 3) dNil))))
    (dSeq (dIfS (dB (dBin oNe (dBin oIs (dVar 6) (dC .non)) (dBin (oCmp gLt) (dL (ofN 3 F__law_rank) (dCons (dVar 1) (dCons (dVar 3) (dCons (dVar 2) dNil)))) (dVar 2))))
    (dRet (dC (.bl false)))
    dNext)
    (dSeq (dIfS (dAnd (dB (dBin oIsNot (dVar 6) (dC .non))) (dNot (dTru (dL (ofN 2 F__law_like) (dCons (dL (ofN 4 F__law_behind) (dCons (dVar 1) (dCons (dVar 3) (dCons (dVar 6) (dCons (dVar 2) dNil))))) (dCons (dL (ofN 1 F__law_unit) (dCons (dVar 2) dNil)) dNil))))))
    (dRet (dC (.bl false)))
    dNext)
    (dRet (dAndV (dBin oIs (dL (ofN 2 F_turned_back) (dCons (dVar 1) (dCons (dL (ofN 4 F__law_table) (dCons (dVar 0) (dCons (dVar 1) (dCons (dBin oAdd (dC (.int 1)) (dVar 2)) (dCons (dVar 2) dNil))))) dNil))) (dC .non)) (dBin oIs (dL (ofN 2 F_turned_back) (dCons (dVar 1) (dCons (dL (ofN 4 F__law_table) (dCons (dVar 0) (dCons (dVar 1) (dCons (dBin oAdd (dC (.int 1)) (dVar 2)) (dCons (dBin oAdd (dC (.int 2)) (dVar 2)) dNil))))) dNil))) (dC .non))))))))))))))
def F__law_back_right : DFn := runD 7 den__law_back_right
theorem ok__law_back_right {P : Program} {w : World} {K : PySem.W.Frag} {h : Heap} {mg : Str → Option Value} (X : K.In h) (G : h.Ns mainGlobals mg) (c : He.SaysD fa fn K) : DOk P w K mg CX0 XX0 5 "_law_back_right" (top 31) ["_law_m"] F__law_back_right := by
  obtain ⟨fd, F⟩ := c.def_ 29 (d := mkD "_law_back_right" 31) rfl
  have d__law_prime := ok__law_prime (w := w) (P := P) X G c
  have d__law_draw := ok__law_draw (w := w) (P := P) X G c
  have d__law_steps := ok__law_steps (w := w) (P := P) X G c
  have d_turned_back := ok_turned_back (w := w) (P := P) X G c
  have d__law_behind := ok__law_behind (w := w) (P := P) X G c
  have d__law_like := ok__law_like (w := w) (P := P) X G c
  have d__law_unit := ok__law_unit (w := w) (P := P) X G c
  have d__law_table := ok__law_table (w := w) (P := P) X G c
  have d__law_rank := ok__law_rank (w := w) (P := P) X G c
  refine DOk.of0 F (He.glo_ok X G (c.fact 29 (f := .glo "_law_back_right") rfl)) sc__law_back_right (fun _ _ _ _ _ _ us hl => match us, hl with | [_], _ => rfl) fun base cdv A outer s H E KX G' hr hg => ?_
  unfold den__law_back_right
  exact (pdss_cons (pds_par 1 2 rfl sc__law_back_right.nd (pc_call (E := fun _ _ _ => False) d__law_prime (hr.mono (by decide)) ⟨KX, G', pass0, hg⟩ (pda_cons (pd_var 0) pda_nil)) (pc_call (E := fun _ _ _ => False) d__law_draw (hr.mono (by decide)) ⟨KX, G', pass0, hg⟩ (pda_cons (pd_var 0) (pda_cons pd_int pda_nil))))
    (pdss_cons (pds_set 3 sc__law_back_right.nd (pc_call (E := fun _ _ _ => False) d__law_steps (hr.mono (by decide)) ⟨KX, G', pass0, hg⟩ (pda_cons (pd_var 0) (pda_cons (pd_var 1) (pda_cons (pd_var 2) pda_nil)))))
    (pdss_cons (pds_set 4 sc__law_back_right.nd (pc_call (E := fun _ _ _ => False) d_turned_back (hr.mono (by decide)) ⟨KX, G', pass0, hg⟩ (pda_cons (pd_var 1) (pda_cons (pd_var 3) pda_nil))))
    (pdss_cons (pds_if (pdt_cmp od_is (pd_var 4) pd_non)
    (pdss_one (pds_ret pd_bl))
    pdss_nil)
    (pdss_cons (pds_set 5 sc__law_back_right.nd (pd_lst (pda_cons (pc_call (E := fun _ _ _ => False) d__law_behind (hr.mono (by decide)) ⟨KX, G', pass0, hg⟩ (pda_cons (pd_var 1) (pda_cons (pd_var 3) (pda_cons (pd_var 4) (pda_cons (pd_var 2) pda_nil))))) (pda_cons (pc_call (E := fun _ _ _ => False) d__law_behind (hr.mono (by decide)) ⟨KX, G', pass0, hg⟩ (pda_cons (pd_var 1) (pda_cons (pd_var 4) (pda_cons (pd_var 3) (pda_cons (pd_var 2) pda_nil))))) pda_nil))))
    (pdss_cons (pds_if (pdt_not (pdt_tru (pc_call (E := fun _ _ _ => False) d__law_like (hr.mono (by decide)) ⟨KX, G', pass0, hg⟩ (pda_cons (pd_var 5) (pda_cons (pd_bin od_mul (pd_lst (pda_cons (pc_call (E := fun _ _ _ => False) d__law_unit (hr.mono (by decide)) ⟨KX, G', pass0, hg⟩ (pda_cons (pd_var 2) pda_nil)) pda_nil)) pd_int) pda_nil)))))
    (pdss_one (pds_ret pd_bl))
    pdss_nil)
    (pdss_cons (pds_set 3 sc__law_back_right.nd (pc_call (E := fun _ _ _ => False) d__law_table (hr.mono (by decide)) ⟨KX, G', pass0, hg⟩ (pda_cons (pd_var 0) (pda_cons (pd_var 1) (pda_cons (pd_var 2) (pda_cons (pd_var 2) pda_nil))))))
    (pdss_cons (pds_set 6 sc__law_back_right.nd (pc_call (E := fun _ _ _ => False) d_turned_back (hr.mono (by decide)) ⟨KX, G', pass0, hg⟩ (pda_cons (pd_var 1) (pda_cons (pd_var 3) pda_nil))))
    (pdss_cons (pds_if (pdt_cmp (od_ne hr.u64) (pd_cmp od_is (pd_var 6) pd_non) (pd_cmp od_lt (pc_call (E := fun _ _ _ => False) d__law_rank (hr.mono (by decide)) ⟨KX, G', pass0, hg⟩ (pda_cons (pd_var 1) (pda_cons (pd_var 3) (pda_cons (pd_var 2) pda_nil)))) (pd_var 2)))
    (pdss_one (pds_ret pd_bl))
    pdss_nil)
    (pdss_cons (pds_if (pdt_w (pdw_and (pdt_cmp od_isnot (pd_var 6) pd_non) (pdw_and1 (pdt_not (pdt_tru (pc_call (E := fun _ _ _ => False) d__law_like (hr.mono (by decide)) ⟨KX, G', pass0, hg⟩ (pda_cons (pc_call (E := fun _ _ _ => False) d__law_behind (hr.mono (by decide)) ⟨KX, G', pass0, hg⟩ (pda_cons (pd_var 1) (pda_cons (pd_var 3) (pda_cons (pd_var 6) (pda_cons (pd_var 2) pda_nil))))) (pda_cons (pc_call (E := fun _ _ _ => False) d__law_unit (hr.mono (by decide)) ⟨KX, G', pass0, hg⟩ (pda_cons (pd_var 2) pda_nil)) pda_nil))))))))
    (pdss_one (pds_ret pd_bl))
    pdss_nil)
    (pdss_one (pds_ret (pd_and (pd_cmp od_is (pc_call (E := fun _ _ _ => False) d_turned_back (hr.mono (by decide)) ⟨KX, G', pass0, hg⟩ (pda_cons (pd_var 1) (pda_cons (pc_call (E := fun _ _ _ => False) d__law_table (hr.mono (by decide)) ⟨KX, G', pass0, hg⟩ (pda_cons (pd_var 0) (pda_cons (pd_var 1) (pda_cons (pd_bin od_add pd_int (pd_var 2)) (pda_cons (pd_var 2) pda_nil))))) pda_nil))) pd_non) (pd_and1 (pd_cmp od_is (pc_call (E := fun _ _ _ => False) d_turned_back (hr.mono (by decide)) ⟨KX, G', pass0, hg⟩ (pda_cons (pd_var 1) (pda_cons (pc_call (E := fun _ _ _ => False) d__law_table (hr.mono (by decide)) ⟨KX, G', pass0, hg⟩ (pda_cons (pd_var 0) (pda_cons (pd_var 1) (pda_cons (pd_bin od_add pd_int (pd_var 2)) (pda_cons (pd_bin od_add pd_int (pd_var 2)) pda_nil))))) pda_nil))) pd_non)))))))))))))))
def N_law : List Str := ["_law_script", "_law_turn", "_law_m", "_law_told"]
theorem sc_law : FnScope N_law ["_law_script"] (defScope (top 32)) := ⟨rfl, rfl, rfl, by decide +kernel, rfl, by decide +kernel, by decide +kernel⟩
def den_law : DS := (dSeq (dFor (itRg1 (dL oMax (dCons (dC (.int 3)) (dCons (dL oMin (dCons (dL oLen (dCons (dVar 0) dNil)) (dCons (dC (.int 5)) dNil))) dNil)))) (nNm 1)
    (dSeq (dSet 2 (dL (ofN 2 F__law_begun) (dCons (dVar 0) (dCons (dVar 1) dNil))))
    (dIfS (dOr (dNot (dTru (dL (ofN 1 F__law_all_right) (dCons (dVar 2) dNil)))) (dNot (dTru (dL (ofN 1 F__law_back_right) (dCons (dVar 2) dNil)))))
    (dRet (dC (.bl false)))
    dNext)))
    (dSeq (dSet 3 (dL oLst (dCons (dL (ofN 4 F_solved) (dCons (dC (.int 5)) (dCons (dL oTup (dCons (dL oTup (dCons (dC (.int 1)) (dCons (dC (.int 1)) dNil))) dNil)) (dCons (dC (.int 2)) (dCons (dL oTup (dCons (dC (.int 3)) dNil)) dNil))))) (dCons (dL (ofN 4 F_solved) (dCons (dC (.int 5)) (dCons (dL oTup (dCons (dL oTup (dCons (dC (.int 1)) (dCons (dC (.int 2)) dNil))) (dCons (dL oTup (dCons (dC (.int 2)) (dCons (dC (.int 4)) dNil))) dNil))) (dCons (dC (.int 2)) (dCons (dL oTup (dCons (dC (.int 1)) (dCons (dC (.int 3)) dNil))) dNil))))) (dCons (dL (ofN 4 F_solved) (dCons (dC (.int 3)) (dCons (dL oTup dNil) (dCons (dC (.int 2)) (dCons (dL oTup dNil) dNil))))) (dCons (dL (ofN 4 F_solved) (dCons (dC (.int 3)) (dCons (dL oTup (dCons (dL oTup dNil) dNil)) (dCons (dC (.int 0)) (dCons (dL oTup (dCons (dC (.int 1)) dNil)) dNil))))) dNil))))))
    (dSeq (dSet 3 (dBin oAdd (dVar 3) (dL oLst (dCons (dLK 0 4 [3, 2, 1, 0] (ofN 4 F_solved) dNil (dCons (dL oTup (dCons (dC (.int 4)) dNil)) (dCons (dC (.int 1)) (dCons (dL oTup (dCons (dL oTup (dCons (dC (.int 2)) dNil)) dNil)) (dCons (dC (.int 5)) dNil))))) (dCons (dLK 0 2 [1, 0] (ofN 2 F_turned_back) dNil (dCons (dL oTup (dCons (dL oTup (dCons (dC (.int 2)) dNil)) dNil)) (dCons (dC (.int 5)) dNil))) (dCons (dL (ofN 2 F_turned_back) (dCons (dC (.int 3)) (dCons (dL oTup dNil) dNil))) dNil))))))
    (dRet (dL (ofN 2 F__law_like) (dCons (dVar 3) (dCons (dL oLst (dCons (dL oTup (dCons (dC (.int 0)) (dCons (dC (.int 3)) dNil))) (dCons (dC .non) (dCons (dL oTup (dCons (dC (.int 0)) (dCons (dC (.int 0)) dNil))) (dCons (dC .non) (dCons (dL oTup (dCons (dC (.int 2)) dNil)) (dCons (dL oTup (dCons (dL oTup (dCons (dC (.int 3)) dNil)) dNil)) (dCons (dL oTup dNil) dNil)))))))) dNil)))))))
def F_law : DFn := runD 4 den_law
theorem ok_law {P : Program} {w : World} {K : PySem.W.Frag} {h : Heap} {mg : Str → Option Value} (X : K.In h) (G : h.Ns mainGlobals mg) (c : He.SaysD fa fn K) : DOk P w K mg CX0 XX0 6 "law" (top 32) ["_law_script"] F_law := by
  obtain ⟨fd, F⟩ := c.def_ 30 (d := mkD "law" 32) rfl
  have d__law_begun := ok__law_begun (w := w) (P := P) X G c
  have d__law_back_right := ok__law_back_right (w := w) (P := P) X G c
  have d__law_all_right := ok__law_all_right (w := w) (P := P) X G c
  have d_solved := ok_solved (w := w) (P := P) X G c
  have d_turned_back := ok_turned_back (w := w) (P := P) X G c
  have d__law_like := ok__law_like (w := w) (P := P) X G c
  have m_len : mg "len" = none := He.free_ok X G (c.fact 33 (f := .free "len") rfl)
  have m_max : mg "max" = none := He.free_ok X G (c.fact 35 (f := .free "max") rfl)
  have m_min : mg "min" = none := He.free_ok X G (c.fact 36 (f := .free "min") rfl)
  have m_range : mg "range" = none := He.free_ok X G (c.fact 37 (f := .free "range") rfl)
  refine DOk.of0 F (He.glo_ok X G (c.fact 30 (f := .glo "law") rfl)) sc_law (fun _ _ _ _ _ _ us hl => match us, hl with | [_], _ => rfl) fun base cdv A outer s H E KX G' hr hg => ?_
  unfold den_law
  exact (pdss_cons (pds_for (gok_nm 1) PassesOwn.never rfl (pdi_range1 rfl m_range (pd_callB (cd_max rfl) m_max bt_max (pda_cons pd_int (pda_cons (pd_callB (cd_min rfl) m_min bt_min (pda_cons (pd_callB cd_len m_len bt_len (pda_cons (pd_var 0) pda_nil)) (pda_cons pd_int pda_nil))) pda_nil)))) (pg_name (i := 1) sc_law.nd rfl (by first | exact Or.inl rfl | exact Or.inr rfl))
    (pdss_cons (pds_set 2 sc_law.nd (pc_call (E := fun _ _ _ => False) d__law_begun (hr.mono (by decide)) ⟨KX, G', pass0, hg⟩ (pda_cons (pd_var 0) (pda_cons (pd_var 1) pda_nil))))
    (pdss_one (pds_if (pdt_w (pdw_or (pdt_not (pdt_tru (pc_call (E := fun _ _ _ => False) d__law_all_right (hr.mono (by decide)) ⟨KX, G', pass0, hg⟩ (pda_cons (pd_var 2) pda_nil)))) (pdw_or1 (pdt_not (pdt_tru (pc_call (E := fun _ _ _ => False) d__law_back_right (hr.mono (by decide)) ⟨KX, G', pass0, hg⟩ (pda_cons (pd_var 2) pda_nil)))))))
    (pdss_one (pds_ret pd_bl))
    pdss_nil))))
    (pdss_cons (pds_set 3 sc_law.nd (pd_lst (pda_cons (pc_call (E := fun _ _ _ => False) d_solved (hr.mono (by decide)) ⟨KX, G', pass0, hg⟩ (pda_cons pd_int (pda_cons (pd_tup (pda_cons (pd_tup (pda_cons pd_int (pda_cons pd_int pda_nil))) pda_nil)) (pda_cons pd_int (pda_cons (pd_tup (pda_cons pd_int pda_nil)) pda_nil))))) (pda_cons (pc_call (E := fun _ _ _ => False) d_solved (hr.mono (by decide)) ⟨KX, G', pass0, hg⟩ (pda_cons pd_int (pda_cons (pd_tup (pda_cons (pd_tup (pda_cons pd_int (pda_cons pd_int pda_nil))) (pda_cons (pd_tup (pda_cons pd_int (pda_cons pd_int pda_nil))) pda_nil))) (pda_cons pd_int (pda_cons (pd_tup (pda_cons pd_int (pda_cons pd_int pda_nil))) pda_nil))))) (pda_cons (pc_call (E := fun _ _ _ => False) d_solved (hr.mono (by decide)) ⟨KX, G', pass0, hg⟩ (pda_cons pd_int (pda_cons (pd_tup pda_nil) (pda_cons pd_int (pda_cons (pd_tup pda_nil) pda_nil))))) (pda_cons (pc_call (E := fun _ _ _ => False) d_solved (hr.mono (by decide)) ⟨KX, G', pass0, hg⟩ (pda_cons pd_int (pda_cons (pd_tup (pda_cons (pd_tup pda_nil) pda_nil)) (pda_cons pd_int (pda_cons (pd_tup (pda_cons pd_int pda_nil)) pda_nil))))) pda_nil))))))
    (pdss_cons (pds_set 3 sc_law.nd (pd_bin od_add (pd_var 3) (pd_lst (pda_cons (pc_callK0 (E := fun _ _ _ => False) 4 4 [3, 2, 1, 0] ["column", "size", "table", "prime"] d_solved (hr.mono (by decide)) ⟨KX, G', pass0, hg⟩ (pdk_cons (pd_tup (pda_cons pd_int pda_nil)) (pdk_cons pd_int (pdk_cons (pd_tup (pda_cons (pd_tup (pda_cons pd_int pda_nil)) pda_nil)) (pdk_cons pd_int pdk_nil)))) (fun _ _ _ _ _ _ us ws h1 h2 => match us, ws, h1, h2 with | [], [_, _, _, _], _, _ => rfl)) (pda_cons (pc_callK0 (E := fun _ _ _ => False) 2 2 [1, 0] ["table", "prime"] d_turned_back (hr.mono (by decide)) ⟨KX, G', pass0, hg⟩ (pdk_cons (pd_tup (pda_cons (pd_tup (pda_cons pd_int pda_nil)) pda_nil)) (pdk_cons pd_int pdk_nil)) (fun _ _ _ _ _ _ us ws h1 h2 => match us, ws, h1, h2 with | [], [_, _], _, _ => rfl)) (pda_cons (pc_call (E := fun _ _ _ => False) d_turned_back (hr.mono (by decide)) ⟨KX, G', pass0, hg⟩ (pda_cons pd_int (pda_cons (pd_tup pda_nil) pda_nil))) pda_nil))))))
    (pdss_one (pds_ret (pc_call (E := fun _ _ _ => False) d__law_like (hr.mono (by decide)) ⟨KX, G', pass0, hg⟩ (pda_cons (pd_var 3) (pda_cons (pd_lst (pda_cons (pd_tup (pda_cons pd_int (pda_cons pd_int pda_nil))) (pda_cons pd_non (pda_cons (pd_tup (pda_cons pd_int (pda_cons pd_int pda_nil))) (pda_cons pd_non (pda_cons (pd_tup (pda_cons pd_int pda_nil)) (pda_cons (pd_tup (pda_cons (pd_tup (pda_cons pd_int pda_nil)) pda_nil)) (pda_cons (pd_tup pda_nil) pda_nil)))))))) pda_nil))))))))
end LH
set_option maxRecDepth 100000
set_option maxHeartbeats 4000000
namespace LH
open PySem PySem.Spec PyProof.Rows L2 Pd
def w_still_table : VS := (vRet (vL vTupleO (vCons (vLc (iRg1 (vVarW 0)) [2] (uNm 2) vYes (vL vTupleO (vCons (vLc (iRg1 (vVarW 0)) [1] (uNm 1) vYes (vL vInt (vCons (vBin vEq (vVarW 2) (vVarW 1)) vNil))) vNil))) vNil)))
def W_still_table : VFn := vRun 3 w_still_table
theorem fok_still_table : FOk 1 1 F_still_table W_still_table := FOk.le (fok_run (by unfold den_still_table w_still_table; exact (sv_ret (EOk.sw (ev_L olv_tuple (av_cons (EOk.sw (EOk.fs (ev_lc (iv_rg1 (s := false) (ev_varW 0)) (gv_nm 2) tv_yes (ev_L olv_tuple (av_cons (EOk.sw (EOk.fs (ev_lc (iv_rg1 (s := false) (ev_varW 0)) (gv_nm 1) tv_yes (ev_L olv_int (av_cons (EOk.sw (ev_bin opv_eq (ev_varW 2) (ev_varW 1))) av_nil))))) av_nil))))) av_nil)))))) (by decide +kernel)
def w_taken_off : VS := (vRet (vL vTupleO (vCons (vLc (iZip (vVarW 1) (vVarW 3)) [4, 5] (uTp (usCons (uNm 4) (usCons (uNm 5) usNil))) vYes (vBin vMod (vBin vSub (vVarW 4) (vBin vMul (vVarW 2) (vVarW 5))) (vVarW 0))) vNil)))
def W_taken_off : VFn := vRun 6 w_taken_off
theorem fok_taken_off : FOk 4 1 F_taken_off W_taken_off := FOk.le (fok_run (by unfold den_taken_off w_taken_off; exact (sv_ret (EOk.sw (ev_L olv_tuple (av_cons (EOk.sw (EOk.fs (ev_lc (iv_zip (s := false) (ev_varW 1) (ev_varW 3)) (gv_tp (gsv_cons (gv_nm 4) (gsv_cons (gv_nm 5) gsv_nil))) tv_yes (ev_bin opv_mod (EOk.sw (ev_bin opv_sub (ev_varW 4) (EOk.sw (ev_bin opv_mul (ev_varW 2) (ev_varW 5))))) (ev_varW 0))))) av_nil)))))) (by decide +kernel)
def w_back_number : VS := (vRet (vBin vIx (vLc (iRg2 (vC (.int 1)) (vVarW 0)) [2] (uNm 2) (vB (vBin vEq (vBin vMod (vBin vMul (vVarW 2) (vVarW 1)) (vVarW 0)) (vC (.int 1)))) (vVar 2)) (vC (.int 0))))
def W_back_number : VFn := vRun 3 w_back_number
theorem fok_back_number : FOk 2 1 F_back_number W_back_number := FOk.le (fok_run (by unfold den_back_number w_back_number; exact (sv_ret (EOk.sw (ev_bin opv_ix (EOk.sw (EOk.fs (ev_lc (iv_rg2 (s := false) (EOk.sw ev_int) (ev_varW 0)) (gv_nm 2) (tv_B (EOk.sw (ev_bin opv_eq (EOk.sw (ev_bin opv_mod (EOk.sw (ev_bin opv_mul (ev_varW 2) (ev_varW 1))) (ev_varW 0))) (EOk.sw ev_int)))) (ev_var 2)))) (EOk.sw ev_int)))))) (by decide +kernel)
def w_reduced : VS := (vSeq (vParG true true 3 4 (vL vListO (vCons (vVarW 1) vNil)) (vLst vNil))
    (vSeq (vFor (iRg1 (vVarW 2)) (uNm 5)
    (vSeq (vSet 6 (vLc (iEnum (vVarW 3)) [7, 8] (uTp (usCons (uNm 7) (usCons (uNm 8) usNil))) (vB (vBin vNe (vBin vIx (vVarW 8) (vVarW 5)) (vC (.int 0)))) (vVar 7)))
    (vSeq (vIfS (vB (vBin vEq (vVarW 6) (vLst vNil)))
    vCont
    vNext)
    (vSeq (vSet 9 (vCall 2 W_back_number (vCons (vVar 0) (vCons (vBin vIx (vBin vIx (vVarW 3) (vBin vIx (vVarW 6) (vC (.int 0)))) (vVarW 5)) vNil))))
    (vSeq (vPopTup 10 3 (vBin vIx (vVarW 6) (vC (.int 0))) [11] (uNm 11) vYes (vBin vMod (vBin vMul (vVarW 9) (vVarW 11)) (vVarW 0)))
    (vSeq (vSetO 3 (vLc (iSeq (vVarW 3)) [8] (uNm 8) vYes (vIf (vTru (vBin vIx (vVarW 8) (vVarW 5))) (vCall 4 W_taken_off (vCons (vVar 0) (vCons (vVar 8) (vCons (vBin vIx (vVarW 8) (vVarW 5)) (vCons (vVar 10) vNil))))) (vVar 8))))
    (vSeq (vSetO 4 (vLc (iSeq (vVarW 4)) [8] (uNm 8) vYes (vIf (vTru (vBin vIx (vVarW 8) (vVarW 5))) (vCall 4 W_taken_off (vCons (vVar 0) (vCons (vVar 8) (vCons (vBin vIx (vVarW 8) (vVarW 5)) (vCons (vVar 10) vNil))))) (vVar 8))))
    (vAppend 4 (vVar 10)))))))))
    (vRet (vL vTupleO (vCons (vVarW 4) vNil)))))
def W_reduced : VFn := vRun 12 w_reduced
theorem fok_reduced : FOk 3 1125899906842624 F_reduced W_reduced := FOk.le (fok_run (by unfold den_reduced w_reduced; exact (sv_seq (sv_parOO 3 4 (by decide) (ev_L olv_list (av_cons (ev_varW 1) av_nil)) (ev_lst av_nil))
    (sv_seq (sv_for (iv_rg1 (s := true) (ev_varW 2)) (gv_nm 5)
    (sv_seq (sv_set 6 (EOk.fs (ev_lc (iv_enum (s := false) (ev_varW 3)) (gv_tp (gsv_cons (gv_nm 7) (gsv_cons (gv_nm 8) gsv_nil))) (tv_B (EOk.sw (ev_bin opv_ne (EOk.sw (ev_bin opv_ix (ev_varW 8) (ev_varW 5))) (EOk.sw ev_int)))) (ev_var 7))))
    (sv_seq (sv_if (tv_B (EOk.sw (ev_bin opv_eq (ev_varW 6) (EOk.sw (EOk.fs (ev_lst av_nil))))))
    sv_cont
    sv_next)
    (sv_seq (sv_set 9 (ev_call fok_back_number (av_cons (ev_var 0) (av_cons (ev_bin opv_ix (EOk.sw (ev_bin opv_ix (ev_varW 3) (EOk.sw (ev_bin opv_ix (ev_varW 6) (EOk.sw ev_int))))) (ev_varW 5)) av_nil))))
    (sv_seq (sv_popTup (own := [11]) 10 3 (EOk.sw (ev_bin opv_ix (ev_varW 6) (EOk.sw ev_int))) (gv_nm 11) tv_yes (ev_bin opv_mod (EOk.sw (ev_bin opv_mul (ev_varW 9) (ev_varW 11))) (ev_varW 0)))
    (sv_seq (sv_setO 3 (ev_lc (iv_seq (s := false) (ev_varW 3)) (gv_nm 8) tv_yes (ev_if (tv_tru (EOk.sw (ev_bin opv_ix (ev_varW 8) (ev_varW 5)))) (ev_call fok_taken_off (av_cons (ev_var 0) (av_cons (ev_var 8) (av_cons (ev_bin opv_ix (ev_varW 8) (ev_varW 5)) (av_cons (ev_var 10) av_nil))))) (ev_var 8))))
    (sv_seq (sv_setO 4 (ev_lc (iv_seq (s := false) (ev_varW 4)) (gv_nm 8) tv_yes (ev_if (tv_tru (EOk.sw (ev_bin opv_ix (ev_varW 8) (ev_varW 5)))) (ev_call fok_taken_off (av_cons (ev_var 0) (av_cons (ev_var 8) (av_cons (ev_bin opv_ix (ev_varW 8) (ev_varW 5)) (av_cons (ev_var 10) av_nil))))) (ev_var 8))))
    (sv_append 4 (ev_var 10)))))))))
    (sv_ret (EOk.sw (ev_L olv_tuple (av_cons (ev_varW 4) av_nil)))))))) (by decide +kernel)
def w_lead_places : VS := (vRet (vLc (iSeq (vVarW 0)) [3] (uNm 3) vYes (vBin vIx (vLc (iEnum (vVarW 3)) [1, 2] (uTp (usCons (uNm 1) (usCons (uNm 2) usNil))) (vB (vBin vNe (vVarW 2) (vC (.int 0)))) (vVar 1)) (vC (.int 0)))))
def W_lead_places : VFn := vRun 4 w_lead_places
theorem fok_lead_places : FOk 1 1 F_lead_places W_lead_places := FOk.le (fok_run (by unfold den_lead_places w_lead_places; exact (sv_ret (EOk.sw (EOk.fs (ev_lc (iv_seq (s := false) (ev_varW 0)) (gv_nm 3) tv_yes (ev_bin opv_ix (EOk.sw (EOk.fs (ev_lc (iv_enum (s := false) (ev_varW 3)) (gv_tp (gsv_cons (gv_nm 1) (gsv_cons (gv_nm 2) gsv_nil))) (tv_B (EOk.sw (ev_bin opv_ne (ev_varW 2) (EOk.sw ev_int)))) (ev_var 1)))) (EOk.sw ev_int)))))))) (by decide +kernel)
def w_kernel : VS := (vSeq (vSet 3 (vCall 3 W_reduced (vCons (vVar 0) (vCons (vVar 1) (vCons (vVar 2) vNil)))))
    (vSeq (vParG false true 4 5 (vCall 1 W_lead_places (vCons (vVar 3) vNil)) (vLst vNil))
    (vSeq (vFor (iRg1 (vVarW 2)) (uNm 6)
    (vSeq (vIfS (vB (vBin vIn (vVarW 6) (vVarW 4)))
    vCont
    vNext)
    (vSeq (vSetO 7 (vBin vMulL (vLst (vCons (vC (.int 0)) vNil)) (vVarW 2)))
    (vSeq (vSetIx 7 (vVarW 6) (vC (.int 1)))
    (vSeq (vFor (iZip (vVar 3) (vVar 4)) (uTp (usCons (uNm 8) (usCons (uNm 9) usNil)))
    (vSetIx 7 (vVarW 9) (vBin vMod (vUn vNeg (vBin vIx (vVarW 8) (vVarW 6))) (vVarW 0))))
    (vAppend 5 (vL vTupleO (vCons (vVarW 7) vNil))))))))
    (vRet (vCallW 3 W_reduced (vCons (vVarW 0) (vCons (vVarW 5) (vCons (vVarW 2) vNil))))))))
def W_kernel : VFn := vRun 10 w_kernel
theorem fok_kernel : FOk 3 4503599627370496 F_kernel W_kernel := FOk.le (fok_run (by unfold den_kernel w_kernel; exact (sv_seq (sv_set 3 (ev_call fok_reduced (av_cons (ev_var 0) (av_cons (ev_var 1) (av_cons (ev_var 2) av_nil)))))
    (sv_seq (sv_parSO 4 5 (by decide) (ev_call fok_lead_places (av_cons (ev_var 3) av_nil)) (ev_lst av_nil))
    (sv_seq (sv_for (iv_rg1 (s := true) (ev_varW 2)) (gv_nm 6)
    (sv_seq (sv_if (tv_B (EOk.sw (ev_bin opv_in (ev_varW 6) (ev_varW 4))))
    sv_cont
    sv_next)
    (sv_seq (sv_setO 7 (ev_bin opv_mulL (EOk.sw (EOk.fs (ev_lst (av_cons ev_int av_nil)))) (ev_varW 2)))
    (sv_seq (sv_setIx 7 ev_int (ev_varW 6))
    (sv_seq (sv_for (iv_zip (s := true) (ev_var 3) (ev_var 4)) (gv_tp (gsv_cons (gv_nm 8) (gsv_cons (gv_nm 9) gsv_nil)))
    (sv_setIx 7 (ev_bin opv_mod (EOk.sw (ev_un opv_neg (EOk.sw (ev_bin opv_ix (ev_varW 8) (ev_varW 6))))) (ev_varW 0)) (ev_varW 9)))
    (sv_append 5 (ev_L olv_tuple (av_cons (ev_varW 7) av_nil))))))))
    (sv_ret (EOk.sw (ev_callW fok_reduced (av_cons (ev_varW 0) (av_cons (ev_varW 5) (av_cons (ev_varW 2) av_nil))))))))))) (by decide +kernel)
def w_solved : VS := (vSeq (vSet 4 (vLc (iZip (vVarW 1) (vVarW 3)) [5, 6] (uTp (usCons (uNm 5) (usCons (uNm 6) usNil))) vYes (vBin vAdd (vVarW 5) (vTup (vCons (vVar 6) vNil)))))
    (vSeq (vSet 7 (vCall 3 W_reduced (vCons (vVar 0) (vCons (vVar 4) (vCons (vBin vAdd (vVarW 2) (vC (.int 1))) vNil)))))
    (vSeq (vSet 8 (vCall 1 W_lead_places (vCons (vVar 7) vNil)))
    (vSeq (vIfS (vB (vBin vIn (vVarW 2) (vVarW 8)))
    (vRet (vC .non))
    vNext)
    (vSeq (vSetO 9 (vBin vMulL (vLst (vCons (vC (.int 0)) vNil)) (vVarW 2)))
    (vSeq (vFor (iZip (vVar 7) (vVar 8)) (uTp (usCons (uNm 5) (usCons (uNm 10) usNil)))
    (vSetIx 9 (vVarW 10) (vBin vIx (vVarW 5) (vVarW 2))))
    (vSeq (vFor (iSeq (vCall 3 W_kernel (vCons (vVar 0) (vCons (vVar 1) (vCons (vVar 2) vNil))))) (uNm 11)
    (vSeq (vSet 12 (vBin vIx (vCall 1 W_lead_places (vCons (vLst (vCons (vVar 11) vNil)) vNil)) (vC (.int 0))))
    (vIfS (vB (vBin vNe (vBin vIx (vVarW 9) (vVarW 12)) (vC (.int 0))))
    (vSetO 9 (vL vListO (vCons (vCallW 4 W_taken_off (vCons (vVarW 0) (vCons (vVarW 9) (vCons (vBin vIx (vVarW 9) (vVarW 12)) (vCons (vVarW 11) vNil))))) vNil)))
    vNext)))
    (vRet (vL vTupleO (vCons (vVarW 9) vNil))))))))))
def W_solved : VFn := vRun 13 w_solved
theorem fok_solved : FOk 4 9007199254740992 F_solved W_solved := FOk.le (fok_run (by unfold den_solved w_solved; exact (sv_seq (sv_set 4 (EOk.fs (ev_lc (iv_zip (s := false) (ev_varW 1) (ev_varW 3)) (gv_tp (gsv_cons (gv_nm 5) (gsv_cons (gv_nm 6) gsv_nil))) tv_yes (ev_bin opv_add (ev_varW 5) (EOk.sw (ev_tup (av_cons (ev_var 6) av_nil)))))))
    (sv_seq (sv_set 7 (ev_call fok_reduced (av_cons (ev_var 0) (av_cons (ev_var 4) (av_cons (ev_bin opv_add (ev_varW 2) (EOk.sw ev_int)) av_nil)))))
    (sv_seq (sv_set 8 (ev_call fok_lead_places (av_cons (ev_var 7) av_nil)))
    (sv_seq (sv_if (tv_B (EOk.sw (ev_bin opv_in (ev_varW 2) (ev_varW 8))))
    (sv_ret (EOk.sw ev_non))
    sv_next)
    (sv_seq (sv_setO 9 (ev_bin opv_mulL (EOk.sw (EOk.fs (ev_lst (av_cons ev_int av_nil)))) (ev_varW 2)))
    (sv_seq (sv_for (iv_zip (s := true) (ev_var 7) (ev_var 8)) (gv_tp (gsv_cons (gv_nm 5) (gsv_cons (gv_nm 10) gsv_nil)))
    (sv_setIx 9 (ev_bin opv_ix (ev_varW 5) (ev_varW 2)) (ev_varW 10)))
    (sv_seq (sv_for (iv_seq (s := true) (ev_call fok_kernel (av_cons (ev_var 0) (av_cons (ev_var 1) (av_cons (ev_var 2) av_nil))))) (gv_nm 11)
    (sv_seq (sv_set 12 (ev_bin opv_ix (EOk.sw (ev_call fok_lead_places (av_cons (EOk.fs (ev_lst (av_cons (ev_var 11) av_nil))) av_nil))) (EOk.sw ev_int)))
    (sv_if (tv_B (EOk.sw (ev_bin opv_ne (EOk.sw (ev_bin opv_ix (ev_varW 9) (ev_varW 12))) (EOk.sw ev_int))))
    (sv_setO 9 (ev_L olv_list (av_cons (EOk.sw (ev_callW fok_taken_off (av_cons (ev_varW 0) (av_cons (ev_varW 9) (av_cons (EOk.sw (ev_bin opv_ix (ev_varW 9) (ev_varW 12))) (av_cons (ev_varW 11) av_nil)))))) av_nil)))
    sv_next)))
    (sv_ret (EOk.sw (ev_L olv_tuple (av_cons (ev_varW 9) av_nil))))))))))))) (by decide +kernel)
def w_turned_back : VS := (vSeq (vSet 2 (vL vLen (vCons (vVarW 1) vNil)))
    (vSeq (vIfS (vAnd (vTru (vVarW 1)) (vB (vBin vNe (vL vLen (vCons (vBin vIx (vVarW 1) (vC (.int 0))) vNil)) (vVarW 2))))
    (vRet (vC .non))
    vNext)
    (vSeq (vSet 3 (vLc (iZip (vVarW 1) (vCall 1 W_still_table (vCons (vVar 2) vNil))) [4, 5] (uTp (usCons (uNm 4) (usCons (uNm 5) usNil))) vYes (vBin vAdd (vVarW 4) (vVarW 5))))
    (vSeq (vSet 6 (vCall 3 W_reduced (vCons (vVar 0) (vCons (vVar 3) (vCons (vBin vMul (vC (.int 2)) (vVarW 2)) vNil)))))
    (vSeq (vIfS (vB (vBin vNe (vCall 1 W_lead_places (vCons (vVar 6) vNil)) (vLstRg (vRg1 (vVarW 2)))))
    (vRet (vC .non))
    vNext)
    (vRet (vL vTupleO (vCons (vLc (iSeq (vVarW 6)) [4] (uNm 4) vYes (vSl (vVarW 4) (vP (vVarW 2)) vNoP)) vNil))))))))
def W_turned_back : VFn := vRun 7 w_turned_back
theorem fok_turned_back : FOk 2 2251799813685248 F_turned_back W_turned_back := FOk.le (fok_run (by unfold den_turned_back w_turned_back; exact (sv_seq (sv_set 2 (ev_L olv_len (av_cons (ev_varW 1) av_nil)))
    (sv_seq (sv_if (tv_and (tv_tru (ev_varW 1)) (tv_B (EOk.sw (ev_bin opv_ne (EOk.sw (ev_L olv_len (av_cons (EOk.sw (ev_bin opv_ix (ev_varW 1) (EOk.sw ev_int))) av_nil))) (ev_varW 2)))))
    (sv_ret (EOk.sw ev_non))
    sv_next)
    (sv_seq (sv_set 3 (EOk.fs (ev_lc (iv_zip (s := false) (ev_varW 1) (EOk.sw (ev_call fok_still_table (av_cons (ev_var 2) av_nil)))) (gv_tp (gsv_cons (gv_nm 4) (gsv_cons (gv_nm 5) gsv_nil))) tv_yes (ev_bin opv_add (ev_varW 4) (ev_varW 5)))))
    (sv_seq (sv_set 6 (ev_call fok_reduced (av_cons (ev_var 0) (av_cons (ev_var 3) (av_cons (ev_bin opv_mul (EOk.sw ev_int) (ev_varW 2)) av_nil)))))
    (sv_seq (sv_if (tv_B (EOk.sw (ev_bin opv_ne (EOk.sw (ev_call fok_lead_places (av_cons (ev_var 6) av_nil))) (EOk.sw (EOk.fs (ev_lstRg (rv_1 (ev_varW 2))))))))
    (sv_ret (EOk.sw ev_non))
    sv_next)
    (sv_ret (EOk.sw (ev_L olv_tuple (av_cons (EOk.sw (EOk.fs (ev_lc (iv_seq (s := false) (ev_varW 6)) (gv_nm 4) tv_yes (ev_sl (ev_varW 4) (pv_P (ev_varW 2)) pv_noP)))) av_nil))))))))))) (by decide +kernel)
def w__law_begun : VS := (vSeq (vSet 2 (vBin vAdd (vSl (vVarW 0) (vP (vVarW 1)) vNoP) (vSl (vVarW 0) vNoP (vP (vVarW 1)))))
    (vSeq (vSet 3 (vLc (iSeq (vVarW 2)) [4] (uNm 4) (vB (vBin (vCmp gGe) (vVarW 4) (vBin vPow (vC (.int 10)) (vC (.int 18))))) (vVar 4)))
    (vSeq (vSet 5 (vBin vAdd (vC (.int 71)) (vVarW 1)))
    (vSeq (vFor (iSeq (vVar 2)) (uNm 4)
    (vSet 5 (vBin vMod (vL vInt (vCons (vBin vAdd (vBin vMul (vVarW 5) (vC (.int 48271))) (vVarW 4)) vNil)) (vC (.int 2147483647)))))
    (vRet (vDraw (vIf (vB (vBin vNe (vVarW 3) (vLst vNil))) (vBin vIx (vVarW 3) (vC (.int 0))) (vC (.int 0))) (vVarW 5) (vBin vAdd (vVarW 2) (vLst (vCons (vBin vAdd (vBin vMul (vC (.int 53)) (vVarW 1)) (vC (.int 11))) vNil)))))))))
def W__law_begun : VFn := vRun 6 w__law_begun
theorem fok__law_begun : FOk 2 1 F__law_begun W__law_begun := FOk.le (fok_run (by unfold den__law_begun w__law_begun; exact (sv_seq (sv_set 2 (ev_bin opv_add (EOk.sw (ev_sl (ev_varW 0) (pv_P (ev_varW 1)) pv_noP)) (EOk.sw (ev_sl (ev_varW 0) pv_noP (pv_P (ev_varW 1))))))
    (sv_seq (sv_set 3 (EOk.fs (ev_lc (iv_seq (s := false) (ev_varW 2)) (gv_nm 4) (tv_B (EOk.sw (ev_bin (opv_cmp gGe) (ev_varW 4) (EOk.sw (ev_bin opv_pow (EOk.sw ev_int) (EOk.sw ev_int)))))) (ev_var 4))))
    (sv_seq (sv_set 5 (ev_bin opv_add (EOk.sw ev_int) (ev_varW 1)))
    (sv_seq (sv_for (iv_seq (s := true) (ev_var 2)) (gv_nm 4)
    (sv_set 5 (ev_bin opv_mod (EOk.sw (ev_L olv_int (av_cons (EOk.sw (ev_bin opv_add (EOk.sw (ev_bin opv_mul (ev_varW 5) (EOk.sw ev_int))) (ev_varW 4))) av_nil))) (EOk.sw ev_int))))
    (sv_ret (EOk.sw (ev_draw (EOk.sw (ev_if (tv_B (EOk.sw (ev_bin opv_ne (ev_varW 3) (EOk.sw (EOk.fs (ev_lst av_nil)))))) (ev_bin opv_ix (ev_varW 3) (EOk.sw ev_int)) ev_int)) (ev_varW 5) (ev_bin opv_add (ev_varW 2) (EOk.sw (EOk.fs (ev_lst (av_cons (ev_bin opv_add (EOk.sw (ev_bin opv_mul (EOk.sw ev_int) (ev_varW 1))) (EOk.sw ev_int)) av_nil)))))))))))))) (by decide +kernel)
abbrev W__law_draw : VFn := W_draw
theorem fok__law_draw : FOk 2 1 F__law_draw W__law_draw := fok_draw
def w__law_of : VS := (vRet (vBin vIx (vVarW 1) (vCall 2 W__law_draw (vCons (vVar 0) (vCons (vL vLen (vCons (vVarW 1) vNil)) vNil)))))
def W__law_of : VFn := vRun 2 w__law_of
theorem fok__law_of : FOk 2 1 F__law_of W__law_of := FOk.le (fok_run (by unfold den__law_of w__law_of; exact (sv_ret (EOk.sw (ev_bin opv_ix (ev_varW 1) (EOk.sw (ev_call fok__law_draw (av_cons (ev_var 0) (av_cons (ev_L olv_len (av_cons (ev_varW 1) av_nil)) av_nil))))))))) (by decide +kernel)
def w__law_shuffled : VS := (vSeq (vParG false true 2 3 (vLstRg (vRg1 (vVarW 1))) (vLst vNil))
    (vSeq (vFor (iRg1 (vVarW 1)) (uNm 4)
    (vSeq (vSet 5 (vCall 2 W__law_of (vCons (vVar 0) (vCons (vVar 2) vNil))))
    (vSeq (vSet 2 (vLc (iSeq (vVarW 2)) [6] (uNm 6) (vB (vBin vNe (vVarW 6) (vVarW 5))) (vVar 6)))
    (vAppend 3 (vVar 5)))))
    (vRet (vL vTupleO (vCons (vVarW 3) vNil)))))
def W__law_shuffled : VFn := vRun 7 w__law_shuffled
theorem fok__law_shuffled : FOk 2 16777216 F__law_shuffled W__law_shuffled := FOk.le (fok_run (by unfold den__law_shuffled w__law_shuffled; exact (sv_seq (sv_parSO 2 3 (by decide) (EOk.fs (ev_lstRg (rv_1 (ev_varW 1)))) (ev_lst av_nil))
    (sv_seq (sv_for (iv_rg1 (s := true) (ev_varW 1)) (gv_nm 4)
    (sv_seq (sv_set 5 (ev_call fok__law_of (av_cons (ev_var 0) (av_cons (ev_var 2) av_nil))))
    (sv_seq (sv_set 2 (EOk.fs (ev_lc (iv_seq (s := false) (ev_varW 2)) (gv_nm 6) (tv_B (EOk.sw (ev_bin opv_ne (ev_varW 6) (ev_varW 5)))) (ev_var 6))))
    (sv_append 3 (ev_var 5)))))
    (sv_ret (EOk.sw (ev_L olv_tuple (av_cons (ev_varW 3) av_nil)))))))) (by decide +kernel)
def w__law_like : VS := (vRet (vBin vEqS (vL vRepr (vCons (vVarW 0) vNil)) (vL vRepr (vCons (vVarW 1) vNil))))
def W__law_like : VFn := vRun 2 w__law_like
theorem fok__law_like : FOk 2 1 F__law_like W__law_like := FOk.le (fok_run (by unfold den__law_like w__law_like; exact (sv_ret (EOk.sw (ev_bin opv_eqS (EOk.sw (ev_L olv_repr (av_cons (ev_varW 0) av_nil))) (EOk.sw (ev_L olv_repr (av_cons (ev_varW 1) av_nil)))))))) (by decide +kernel)
def w__law_back : VS := (vRet (vBin vIx (vLc (iRg2 (vC (.int 1)) (vVarW 0)) [2] (uNm 2) (vB (vBin vEq (vBin vMod (vL vInt (vCons (vBin vMul (vVarW 2) (vVarW 1)) vNil)) (vVarW 0)) (vC (.int 1)))) (vVar 2)) (vC (.int 0))))
def W__law_back : VFn := vRun 3 w__law_back
theorem fok__law_back : FOk 2 1 F__law_back W__law_back := FOk.le (fok_run (by unfold den__law_back w__law_back; exact (sv_ret (EOk.sw (ev_bin opv_ix (EOk.sw (EOk.fs (ev_lc (iv_rg2 (s := false) (EOk.sw ev_int) (ev_varW 0)) (gv_nm 2) (tv_B (EOk.sw (ev_bin opv_eq (EOk.sw (ev_bin opv_mod (EOk.sw (ev_L olv_int (av_cons (EOk.sw (ev_bin opv_mul (ev_varW 2) (ev_varW 1))) av_nil))) (ev_varW 0))) (EOk.sw ev_int)))) (ev_var 2)))) (EOk.sw ev_int)))))) (by decide +kernel)
def w__law_off : VS := (vSeq (vSet 4 (vBin vIx (vVarW 1) (vVarW 3)))
    (vRet (vL vTupleO (vCons (vLc (iRg1 (vL vLen (vCons (vVarW 1) vNil))) [5] (uNm 5) vYes (vBin vMod (vL vInt (vCons (vBin vSub (vBin vIx (vVarW 1) (vVarW 5)) (vBin vMul (vVarW 4) (vBin vIx (vVarW 2) (vVarW 5)))) vNil)) (vVarW 0))) vNil))))
def W__law_off : VFn := vRun 6 w__law_off
theorem fok__law_off : FOk 4 1 F__law_off W__law_off := FOk.le (fok_run (by unfold den__law_off w__law_off; exact (sv_seq (sv_set 4 (ev_bin opv_ix (ev_varW 1) (ev_varW 3)))
    (sv_ret (EOk.sw (ev_L olv_tuple (av_cons (EOk.sw (EOk.fs (ev_lc (iv_rg1 (s := false) (EOk.sw (ev_L olv_len (av_cons (ev_varW 1) av_nil)))) (gv_nm 5) tv_yes (ev_bin opv_mod (EOk.sw (ev_L olv_int (av_cons (EOk.sw (ev_bin opv_sub (EOk.sw (ev_bin opv_ix (ev_varW 1) (ev_varW 5))) (EOk.sw (ev_bin opv_mul (ev_varW 4) (EOk.sw (ev_bin opv_ix (ev_varW 2) (ev_varW 5))))))) av_nil))) (ev_varW 0))))) av_nil))))))) (by decide +kernel)
def w__law_reduced : VS := (vSeq (vPar 3 4 (vLc (iSeq (vVarW 1)) [5] (uNm 5) vYes (vL vTupleO (vCons (vVarW 5) vNil))) (vLst vNil))
    (vSeq (vFor (iRg1 (vVarW 2)) (uNm 6)
    (vSeq (vSet 7 (vLc (iRg1 (vL vLen (vCons (vVarW 3) vNil))) [8] (uNm 8) (vB (vBin vNe (vBin vIx (vBin vIx (vVarW 3) (vVarW 8)) (vVarW 6)) (vC (.int 0)))) (vVar 8)))
    (vIfS (vB (vBin vNe (vVarW 7) (vLst vNil)))
    (vSeq (vSet 9 (vBin vIx (vVarW 3) (vBin vIx (vVarW 7) (vC (.int 0)))))
    (vSeq (vSet 10 (vCall 2 W__law_back (vCons (vVar 0) (vCons (vBin vIx (vVarW 9) (vVarW 6)) vNil))))
    (vSeq (vSet 9 (vL vTupleO (vCons (vLc (iSeq (vVarW 9)) [11] (uNm 11) vYes (vBin vMod (vL vInt (vCons (vBin vMul (vVarW 10) (vVarW 11)) vNil)) (vVarW 0))) vNil)))
    (vSeq (vSet 3 (vLc (iRg1 (vL vLen (vCons (vVarW 3) vNil))) [8] (uNm 8) (vB (vBin vNe (vVarW 8) (vBin vIx (vVarW 7) (vC (.int 0))))) (vCall 4 W__law_off (vCons (vVar 0) (vCons (vBin vIx (vVarW 3) (vVarW 8)) (vCons (vVar 9) (vCons (vVar 6) vNil)))))))
    (vSet 4 (vBin vAdd (vLc (iSeq (vVarW 4)) [5] (uNm 5) vYes (vCall 4 W__law_off (vCons (vVar 0) (vCons (vVar 5) (vCons (vVar 9) (vCons (vVar 6) vNil)))))) (vLst (vCons (vVar 9) vNil))))))))
    vNext)))
    (vRet (vL vTupleO (vCons (vVarW 4) vNil)))))
def W__law_reduced : VFn := vRun 12 w__law_reduced
theorem fok__law_reduced : FOk 3 1125899906842624 F__law_reduced W__law_reduced := FOk.le (fok_run (by unfold den__law_reduced w__law_reduced; exact (sv_seq (sv_eq (dAsg_par 3 4 _ _) (sv_par 3 4 (EOk.fs (ev_lc (iv_seq (s := false) (ev_varW 1)) (gv_nm 5) tv_yes (ev_L olv_tuple (av_cons (ev_varW 5) av_nil)))) (EOk.fs (ev_lst av_nil))))
    (sv_seq (sv_for (iv_rg1 (s := true) (ev_varW 2)) (gv_nm 6)
    (sv_seq (sv_set 7 (EOk.fs (ev_lc (iv_rg1 (s := false) (EOk.sw (ev_L olv_len (av_cons (ev_varW 3) av_nil)))) (gv_nm 8) (tv_B (EOk.sw (ev_bin opv_ne (EOk.sw (ev_bin opv_ix (EOk.sw (ev_bin opv_ix (ev_varW 3) (ev_varW 8))) (ev_varW 6))) (EOk.sw ev_int)))) (ev_var 8))))
    (sv_if (tv_B (EOk.sw (ev_bin opv_ne (ev_varW 7) (EOk.sw (EOk.fs (ev_lst av_nil))))))
    (sv_seq (sv_set 9 (ev_bin opv_ix (ev_varW 3) (EOk.sw (ev_bin opv_ix (ev_varW 7) (EOk.sw ev_int)))))
    (sv_seq (sv_set 10 (ev_call fok__law_back (av_cons (ev_var 0) (av_cons (ev_bin opv_ix (ev_varW 9) (ev_varW 6)) av_nil))))
    (sv_seq (sv_set 9 (ev_L olv_tuple (av_cons (EOk.sw (EOk.fs (ev_lc (iv_seq (s := false) (ev_varW 9)) (gv_nm 11) tv_yes (ev_bin opv_mod (EOk.sw (ev_L olv_int (av_cons (EOk.sw (ev_bin opv_mul (ev_varW 10) (ev_varW 11))) av_nil))) (ev_varW 0))))) av_nil)))
    (sv_seq (sv_set 3 (EOk.fs (ev_lc (iv_rg1 (s := false) (EOk.sw (ev_L olv_len (av_cons (ev_varW 3) av_nil)))) (gv_nm 8) (tv_B (EOk.sw (ev_bin opv_ne (ev_varW 8) (EOk.sw (ev_bin opv_ix (ev_varW 7) (EOk.sw ev_int)))))) (ev_call fok__law_off (av_cons (ev_var 0) (av_cons (ev_bin opv_ix (ev_varW 3) (ev_varW 8)) (av_cons (ev_var 9) (av_cons (ev_var 6) av_nil))))))))
    (sv_set 4 (ev_bin opv_add (EOk.sw (EOk.fs (ev_lc (iv_seq (s := false) (ev_varW 4)) (gv_nm 5) tv_yes (ev_call fok__law_off (av_cons (ev_var 0) (av_cons (ev_var 5) (av_cons (ev_var 9) (av_cons (ev_var 6) av_nil)))))))) (EOk.sw (EOk.fs (ev_lst (av_cons (ev_var 9) av_nil))))))))))
    sv_next)))
    (sv_ret (EOk.sw (ev_L olv_tuple (av_cons (ev_varW 4) av_nil)))))))) (by decide +kernel)
def w__law_leads : VS := (vRet (vLc (iSeq (vVarW 0)) [2] (uNm 2) vYes (vBin vIx (vLc (iRg1 (vL vLen (vCons (vVarW 2) vNil))) [1] (uNm 1) (vB (vBin vNe (vBin vIx (vVarW 2) (vVarW 1)) (vC (.int 0)))) (vVar 1)) (vC (.int 0)))))
def W__law_leads : VFn := vRun 3 w__law_leads
theorem fok__law_leads : FOk 1 1 F__law_leads W__law_leads := FOk.le (fok_run (by unfold den__law_leads w__law_leads; exact (sv_ret (EOk.sw (EOk.fs (ev_lc (iv_seq (s := false) (ev_varW 0)) (gv_nm 2) tv_yes (ev_bin opv_ix (EOk.sw (EOk.fs (ev_lc (iv_rg1 (s := false) (EOk.sw (ev_L olv_len (av_cons (ev_varW 2) av_nil)))) (gv_nm 1) (tv_B (EOk.sw (ev_bin opv_ne (EOk.sw (ev_bin opv_ix (ev_varW 2) (ev_varW 1))) (EOk.sw ev_int)))) (ev_var 1)))) (EOk.sw ev_int)))))))) (by decide +kernel)
def w__law_kernel : VS := (vSeq (vSet 3 (vCall 3 W__law_reduced (vCons (vVar 0) (vCons (vVar 1) (vCons (vVar 2) vNil)))))
    (vSeq (vParG false true 4 5 (vCall 1 W__law_leads (vCons (vVar 3) vNil)) (vLst vNil))
    (vSeq (vFor (iSeq (vLc (iRg1 (vVarW 2)) [7] (uNm 7) (vB (vBin vNotIn (vVarW 7) (vVarW 4))) (vVar 7))) (uNm 6)
    (vSeq (vSetO 8 (vBin vMulL (vLst (vCons (vC (.int 0)) vNil)) (vVarW 2)))
    (vSeq (vSetIx 8 (vVarW 6) (vC (.int 1)))
    (vSeq (vFor (iRg1 (vL vLen (vCons (vVarW 4) vNil))) (uNm 7)
    (vSetIx 8 (vBin vIx (vVarW 4) (vVarW 7)) (vBin vMod (vL vInt (vCons (vUn vNeg (vBin vIx (vBin vIx (vVarW 3) (vVarW 7)) (vVarW 6))) vNil)) (vVarW 0))))
    (vAppend 5 (vL vTupleO (vCons (vVarW 8) vNil)))))))
    (vRet (vCallW 3 W__law_reduced (vCons (vVarW 0) (vCons (vVarW 5) (vCons (vVarW 2) vNil))))))))
def W__law_kernel : VFn := vRun 9 w__law_kernel
theorem fok__law_kernel : FOk 3 4503599627370496 F__law_kernel W__law_kernel := FOk.le (fok_run (by unfold den__law_kernel w__law_kernel; exact (sv_seq (sv_set 3 (ev_call fok__law_reduced (av_cons (ev_var 0) (av_cons (ev_var 1) (av_cons (ev_var 2) av_nil)))))
    (sv_seq (sv_eq (dAsg_par 4 5 _ _) (sv_parSO 4 5 (by decide) (ev_call fok__law_leads (av_cons (ev_var 3) av_nil)) (ev_lst av_nil)))
    (sv_seq (sv_for (iv_seq (s := true) (EOk.fs (ev_lc (iv_rg1 (s := false) (ev_varW 2)) (gv_nm 7) (tv_B (EOk.sw (ev_bin opv_notin (ev_varW 7) (ev_varW 4)))) (ev_var 7)))) (gv_nm 6)
    (sv_seq (sv_setO 8 (ev_bin opv_mulL (EOk.sw (EOk.fs (ev_lst (av_cons ev_int av_nil)))) (ev_varW 2)))
    (sv_seq (sv_setIx 8 ev_int (ev_varW 6))
    (sv_seq (sv_for (iv_rg1 (s := true) (EOk.sw (ev_L olv_len (av_cons (ev_varW 4) av_nil)))) (gv_nm 7)
    (sv_setIx 8 (ev_bin opv_mod (EOk.sw (ev_L olv_int (av_cons (EOk.sw (ev_un opv_neg (EOk.sw (ev_bin opv_ix (EOk.sw (ev_bin opv_ix (ev_varW 3) (ev_varW 7))) (ev_varW 6))))) av_nil))) (ev_varW 0)) (EOk.sw (ev_bin opv_ix (ev_varW 4) (ev_varW 7)))))
    (sv_append 5 (ev_L olv_tuple (av_cons (ev_varW 8) av_nil)))))))
    (sv_ret (EOk.sw (ev_callW fok__law_reduced (av_cons (ev_varW 0) (av_cons (ev_varW 5) (av_cons (ev_varW 2) av_nil))))))))))) (by decide +kernel)
def w__law_rank : VS := (vRet (vL vLen (vCons (vCall 3 W__law_reduced (vCons (vVar 0) (vCons (vVar 1) (vCons (vVar 2) vNil)))) vNil)))
def W__law_rank : VFn := vRun 3 w__law_rank
theorem fok__law_rank : FOk 3 1125899906842624 F__law_rank W__law_rank := FOk.le (fok_run (by unfold den__law_rank w__law_rank; exact (sv_ret (EOk.sw (ev_L olv_len (av_cons (EOk.sw (ev_call fok__law_reduced (av_cons (ev_var 0) (av_cons (ev_var 1) (av_cons (ev_var 2) av_nil))))) av_nil)))))) (by decide +kernel)
def w__law_led : VS := (vRet (vL vTupleO (vCons (vLc (iSeq (vVarW 1)) [4] (uNm 4) vYes (vBin vMod (vL vInt (vCons (vL vSum (vCons (vLc (iRg1 (vL vLen (vCons (vVarW 2) vNil))) [3] (uNm 3) vYes (vBin vMul (vBin vIx (vVarW 4) (vVarW 3)) (vBin vIx (vVarW 2) (vVarW 3)))) vNil)) vNil)) (vVarW 0))) vNil)))
def W__law_led : VFn := vRun 5 w__law_led
theorem fok__law_led : FOk 3 1 F__law_led W__law_led := FOk.le (fok_run (by unfold den__law_led w__law_led; exact (sv_ret (EOk.sw (ev_L olv_tuple (av_cons (EOk.sw (EOk.fs (ev_lc (iv_seq (s := false) (ev_varW 1)) (gv_nm 4) tv_yes (ev_bin opv_mod (EOk.sw (ev_L olv_int (av_cons (EOk.sw (ev_L olv_sum (av_cons (EOk.sw (EOk.fs (ev_lc (iv_rg1 (s := false) (EOk.sw (ev_L olv_len (av_cons (ev_varW 2) av_nil)))) (gv_nm 3) tv_yes (ev_bin opv_mul (EOk.sw (ev_bin opv_ix (ev_varW 4) (ev_varW 3))) (EOk.sw (ev_bin opv_ix (ev_varW 2) (ev_varW 3))))))) av_nil))) av_nil))) (ev_varW 0))))) av_nil)))))) (by decide +kernel)
def w__law_behind : VS := (vSeq (vSetO 4 (vLst vNil))
    (vSeq (vFor (iSeq (vVar 2)) (uNm 5)
    (vAppend 4 (vL vTupleO (vCons (vLc (iRg1 (vVarW 3)) [7] (uNm 7) vYes (vBin vMod (vL vInt (vCons (vL vSum (vCons (vLc (iRg1 (vL vLen (vCons (vVarW 1) vNil))) [6] (uNm 6) vYes (vBin vMul (vBin vIx (vVarW 5) (vVarW 6)) (vBin vIx (vBin vIx (vVarW 1) (vVarW 6)) (vVarW 7)))) vNil)) vNil)) (vVarW 0))) vNil))))
    (vRet (vL vTupleO (vCons (vVarW 4) vNil)))))
def W__law_behind : VFn := vRun 8 w__law_behind
theorem fok__law_behind : FOk 4 1 F__law_behind W__law_behind := FOk.le (fok_run (by unfold den__law_behind w__law_behind; exact (sv_seq (sv_setO 4 (ev_lst av_nil))
    (sv_seq (sv_for (iv_seq (s := true) (ev_var 2)) (gv_nm 5)
    (sv_append 4 (ev_L olv_tuple (av_cons (EOk.sw (EOk.fs (ev_lc (iv_rg1 (s := false) (ev_varW 3)) (gv_nm 7) tv_yes (ev_bin opv_mod (EOk.sw (ev_L olv_int (av_cons (EOk.sw (ev_L olv_sum (av_cons (EOk.sw (EOk.fs (ev_lc (iv_rg1 (s := false) (EOk.sw (ev_L olv_len (av_cons (ev_varW 1) av_nil)))) (gv_nm 6) tv_yes (ev_bin opv_mul (EOk.sw (ev_bin opv_ix (ev_varW 5) (ev_varW 6))) (EOk.sw (ev_bin opv_ix (EOk.sw (ev_bin opv_ix (ev_varW 1) (ev_varW 6))) (ev_varW 7))))))) av_nil))) av_nil))) (ev_varW 0))))) av_nil))))
    (sv_ret (EOk.sw (ev_L olv_tuple (av_cons (ev_varW 4) av_nil)))))))) (by decide +kernel)
def w__law_unit : VS := (vRet (vL vTupleO (vCons (vLc (iRg1 (vVarW 0)) [2] (uNm 2) vYes (vL vTupleO (vCons (vLc (iRg1 (vVarW 0)) [1] (uNm 1) vYes (vIf (vB (vBin vEq (vVarW 2) (vVarW 1))) (vC (.int 1)) (vC (.int 0)))) vNil))) vNil)))
def W__law_unit : VFn := vRun 3 w__law_unit
theorem fok__law_unit : FOk 1 1 F__law_unit W__law_unit := FOk.le (fok_run (by unfold den__law_unit w__law_unit; exact (sv_ret (EOk.sw (ev_L olv_tuple (av_cons (EOk.sw (EOk.fs (ev_lc (iv_rg1 (s := false) (ev_varW 0)) (gv_nm 2) tv_yes (ev_L olv_tuple (av_cons (EOk.sw (EOk.fs (ev_lc (iv_rg1 (s := false) (ev_varW 0)) (gv_nm 1) tv_yes (ev_if (tv_B (EOk.sw (ev_bin opv_eq (ev_varW 2) (ev_varW 1)))) ev_int ev_int)))) av_nil))))) av_nil)))))) (by decide +kernel)
def w__law_prime : VS := (vRet (vCall 2 W__law_of (vCons (vVar 0) (vCons (vLst (vCons (vC (.int 2)) (vCons (vC (.int 3)) (vCons (vC (.int 5)) (vCons (vC (.int 7)) (vCons (vC (.int 11)) (vCons (vC (.int 13)) vNil))))))) vNil))))
def W__law_prime : VFn := vRun 1 w__law_prime
theorem fok__law_prime : FOk 1 1 F__law_prime W__law_prime := FOk.le (fok_run (by unfold den__law_prime w__law_prime; exact (sv_ret (EOk.sw (ev_call fok__law_of (av_cons (ev_var 0) (av_cons (EOk.fs (ev_lst (av_cons ev_int (av_cons ev_int (av_cons ev_int (av_cons ev_int (av_cons ev_int (av_cons ev_int av_nil)))))))) av_nil))))))) (by decide +kernel)
def w__law_small_prime : VS := (vRet (vCall 2 W__law_of (vCons (vVar 0) (vCons (vLst (vCons (vC (.int 2)) (vCons (vC (.int 3)) (vCons (vC (.int 5)) (vCons (vC (.int 2)) (vCons (vC (.int 3)) (vCons (vC (.int 7)) vNil))))))) vNil))))
def W__law_small_prime : VFn := vRun 1 w__law_small_prime
theorem fok__law_small_prime : FOk 1 1 F__law_small_prime W__law_small_prime := FOk.le (fok_run (by unfold den__law_small_prime w__law_small_prime; exact (sv_ret (EOk.sw (ev_call fok__law_of (av_cons (ev_var 0) (av_cons (EOk.fs (ev_lst (av_cons ev_int (av_cons ev_int (av_cons ev_int (av_cons ev_int (av_cons ev_int (av_cons ev_int av_nil)))))))) av_nil))))))) (by decide +kernel)
def w__law_column : VS := (vRet (vL vTupleO (vCons (vLc (iRg1 (vVarW 2)) [3] (uNm 3) vYes (vIf (vB (vBin vEq (vCall 2 W__law_draw (vCons (vVar 0) (vCons (vC (.int 3)) vNil))) (vC (.int 0)))) (vC (.int 0)) (vCall 2 W__law_draw (vCons (vVar 0) (vCons (vVar 1) vNil))))) vNil)))
def W__law_column : VFn := vRun 4 w__law_column
theorem fok__law_column : FOk 3 33554432 F__law_column W__law_column := FOk.le (fok_run (by unfold den__law_column w__law_column; exact (sv_ret (EOk.sw (ev_L olv_tuple (av_cons (EOk.sw (EOk.fs (ev_lc (iv_rg1 (s := false) (ev_varW 2)) (gv_nm 3) tv_yes (ev_if (tv_B (EOk.sw (ev_bin opv_eq (EOk.sw (ev_call fok__law_draw (av_cons (ev_var 0) (av_cons ev_int av_nil)))) (EOk.sw ev_int)))) ev_int (ev_call fok__law_draw (av_cons (ev_var 0) (av_cons (ev_var 1) av_nil))))))) av_nil)))))) (by decide +kernel)
def w__law_table : VS := (vSeq (vSetO 4 (vLst vNil))
    (vSeq (vFor (iRg1 (vVarW 2)) (uNm 5)
    (vSeq (vSet 6 (vCall 3 W__law_column (vCons (vVar 0) (vCons (vVar 1) (vCons (vVar 3) vNil)))))
    (vSeq (vIfS (vAnd (vB (vBin vNe (vVarW 4) (vLst vNil))) (vB (vBin vEq (vCall 2 W__law_draw (vCons (vVar 0) (vCons (vC (.int 3)) vNil))) (vC (.int 0)))))
    (vSeq (vSet 7 (vCallW 2 W__law_of (vCons (vVarW 0) (vCons (vVarW 4) vNil))))
    (vSet 6 (vL vTupleO (vCons (vLc (iSeq (vVarW 7)) [8] (uNm 8) vYes (vBin vMod (vL vInt (vCons (vBin vMul (vC (.int 2)) (vVarW 8)) vNil)) (vVarW 1))) vNil))))
    vNext)
    (vAppend 4 (vVar 6)))))
    (vRet (vL vTupleO (vCons (vVarW 4) vNil)))))
def W__law_table : VFn := vRun 9 w__law_table
theorem fok__law_table : FOk 4 1125899906842624 F__law_table W__law_table := FOk.le (fok_run (by unfold den__law_table w__law_table; exact (sv_seq (sv_setO 4 (ev_lst av_nil))
    (sv_seq (sv_for (iv_rg1 (s := true) (ev_varW 2)) (gv_nm 5)
    (sv_seq (sv_set 6 (ev_call fok__law_column (av_cons (ev_var 0) (av_cons (ev_var 1) (av_cons (ev_var 3) av_nil)))))
    (sv_seq (sv_if (tv_and (tv_B (EOk.sw (ev_bin opv_ne (ev_varW 4) (EOk.sw (EOk.fs (ev_lst av_nil)))))) (tv_B (EOk.sw (ev_bin opv_eq (EOk.sw (ev_call fok__law_draw (av_cons (ev_var 0) (av_cons ev_int av_nil)))) (EOk.sw ev_int)))))
    (sv_seq (sv_set 7 (ev_callW fok__law_of (av_cons (ev_varW 0) (av_cons (ev_varW 4) av_nil))))
    (sv_set 6 (ev_L olv_tuple (av_cons (EOk.sw (EOk.fs (ev_lc (iv_seq (s := false) (ev_varW 7)) (gv_nm 8) tv_yes (ev_bin opv_mod (EOk.sw (ev_L olv_int (av_cons (EOk.sw (ev_bin opv_mul (EOk.sw ev_int) (ev_varW 8))) av_nil))) (ev_varW 1))))) av_nil))))
    sv_next)
    (sv_append 4 (ev_var 6)))))
    (sv_ret (EOk.sw (ev_L olv_tuple (av_cons (ev_varW 4) av_nil)))))))) (by decide +kernel)
def w__law_every : VS := (vSeq (vSet 2 (vLst (vCons (vTup vNil) vNil)))
    (vSeq (vFor (iRg1 (vVarW 1)) (uNm 3)
    (vSeq (vSetO 4 (vLst vNil))
    (vSeq (vFor (iSeq (vVar 2)) (uNm 5)
    (vExtend 4 (vLc (iRg1 (vVarW 0)) [6] (uNm 6) vYes (vBin vAdd (vVarW 5) (vTup (vCons (vVar 6) vNil))))))
    (vMove 2 4))))
    (vRet (vVarW 2))))
def W__law_every : VFn := vRun 7 w__law_every
theorem fok__law_every : FOk 2 1 F__law_every W__law_every := FOk.le (fok_run (by unfold den__law_every w__law_every; exact (sv_seq (sv_set 2 (EOk.fs (ev_lst (av_cons (ev_tup av_nil) av_nil))))
    (sv_seq (sv_for (iv_rg1 (s := true) (ev_varW 1)) (gv_nm 3)
    (sv_seq (sv_setO 4 (ev_lst av_nil))
    (sv_seq (sv_for (iv_seq (s := true) (ev_var 2)) (gv_nm 5)
    (sv_extend 4 (EOk.sw (EOk.fs (ev_lc (iv_rg1 (s := false) (ev_varW 0)) (gv_nm 6) tv_yes (ev_bin opv_add (ev_varW 5) (EOk.sw (ev_tup (av_cons (ev_var 6) av_nil)))))))))
    (sv_move 2 4 (by decide)))))
    (sv_ret (ev_varW 2)))))) (by decide +kernel)
def w__law_steps : VS := (vSeq (vSetO 3 (vLc (iSeq (vCall 1 W__law_unit (vCons (vVar 2) vNil))) [4] (uNm 4) vYes (vL vListO (vCons (vVarW 4) vNil))))
    (vSeq (vFor (iRg1 (vBin vMul (vC (.int 3)) (vVarW 2))) (uNm 5)
    (vSeq (vAsg (uTp (usCons (uNm 6) (usCons (uNm 7) (usCons (uNm 8) usNil)))) (vTup (vCons (vCall 2 W__law_draw (vCons (vVar 0) (vCons (vVar 2) vNil))) (vCons (vCall 2 W__law_draw (vCons (vVar 0) (vCons (vVar 2) vNil))) (vCons (vCall 2 W__law_draw (vCons (vVar 0) (vCons (vVar 1) vNil))) vNil)))))
    (vIfS (vB (vBin vNe (vVarW 6) (vVarW 7)))
    (vSeq (vPar 9 10 (vBin vIx (vVarW 3) (vVarW 6)) (vBin vIx (vVarW 3) (vVarW 7)))
    (vSetIx 3 (vVarW 6) (vLc (iRg1 (vVarW 2)) [11] (uNm 11) vYes (vBin vMod (vL vInt (vCons (vBin vAdd (vBin vIx (vVarW 9) (vVarW 11)) (vBin vMul (vVarW 8) (vBin vIx (vVarW 10) (vVarW 11)))) vNil)) (vVarW 1)))))
    (vIfS (vB (vBin (vCmp gGt) (vVarW 8) (vC (.int 0))))
    (vSetIx 3 (vVarW 6) (vLc (iSeq (vBin vIx (vVarW 3) (vVarW 6))) [12] (uNm 12) vYes (vBin vMod (vL vInt (vCons (vBin vMul (vVarW 8) (vVarW 12)) vNil)) (vVarW 1))))
    vNext))))
    (vSeq (vSet 13 (vCall 2 W__law_shuffled (vCons (vVar 0) (vCons (vVar 2) vNil))))
    (vRet (vL vTupleO (vCons (vLc (iSeq (vVarW 13)) [11] (uNm 11) vYes (vL vTupleO (vCons (vBin vIx (vVarW 3) (vVarW 11)) vNil))) vNil))))))
def W__law_steps : VFn := vRun 14 w__law_steps
theorem fok__law_steps : FOk 3 134217728 F__law_steps W__law_steps := FOk.le (fok_run (by unfold den__law_steps w__law_steps; exact (sv_seq (sv_setO 3 (ev_lc (iv_seq (s := false) (EOk.sw (ev_call fok__law_unit (av_cons (ev_var 2) av_nil)))) (gv_nm 4) tv_yes (EOk.fs (ev_L olv_list (av_cons (ev_varW 4) av_nil)))))
    (sv_seq (sv_for (iv_rg1 (s := true) (EOk.sw (ev_bin opv_mul (EOk.sw ev_int) (ev_varW 2)))) (gv_nm 5)
    (sv_seq (sv_asg (gv_tp (gsv_cons (gv_nm 6) (gsv_cons (gv_nm 7) (gsv_cons (gv_nm 8) gsv_nil)))) (ev_tup (av_cons (ev_call fok__law_draw (av_cons (ev_var 0) (av_cons (ev_var 2) av_nil))) (av_cons (ev_call fok__law_draw (av_cons (ev_var 0) (av_cons (ev_var 2) av_nil))) (av_cons (ev_call fok__law_draw (av_cons (ev_var 0) (av_cons (ev_var 1) av_nil))) av_nil)))))
    (sv_if (tv_B (EOk.sw (ev_bin opv_ne (ev_varW 6) (ev_varW 7))))
    (sv_seq (sv_eq (dAsg_par 9 10 _ _) (sv_par 9 10 (ev_bin opv_ix (ev_varW 3) (ev_varW 6)) (ev_bin opv_ix (ev_varW 3) (ev_varW 7))))
    (sv_setIx 3 (EOk.fs (ev_lc (iv_rg1 (s := false) (ev_varW 2)) (gv_nm 11) tv_yes (ev_bin opv_mod (EOk.sw (ev_L olv_int (av_cons (EOk.sw (ev_bin opv_add (EOk.sw (ev_bin opv_ix (ev_varW 9) (ev_varW 11))) (EOk.sw (ev_bin opv_mul (ev_varW 8) (EOk.sw (ev_bin opv_ix (ev_varW 10) (ev_varW 11))))))) av_nil))) (ev_varW 1)))) (ev_varW 6)))
    (sv_if (tv_B (EOk.sw (ev_bin (opv_cmp gGt) (ev_varW 8) (EOk.sw ev_int))))
    (sv_setIx 3 (EOk.fs (ev_lc (iv_seq (s := false) (EOk.sw (ev_bin opv_ix (ev_varW 3) (ev_varW 6)))) (gv_nm 12) tv_yes (ev_bin opv_mod (EOk.sw (ev_L olv_int (av_cons (EOk.sw (ev_bin opv_mul (ev_varW 8) (ev_varW 12))) av_nil))) (ev_varW 1)))) (ev_varW 6))
    sv_next))))
    (sv_seq (sv_set 13 (ev_call fok__law_shuffled (av_cons (ev_var 0) (av_cons (ev_var 2) av_nil))))
    (sv_ret (EOk.sw (ev_L olv_tuple (av_cons (EOk.sw (EOk.fs (ev_lc (iv_seq (s := false) (ev_varW 13)) (gv_nm 11) tv_yes (ev_L olv_tuple (av_cons (EOk.sw (ev_bin opv_ix (ev_varW 3) (ev_varW 11))) av_nil))))) av_nil))))))))) (by decide +kernel)
def w__law_all_right : VS := (vSeq (vSet 1 (vCall 1 W__law_small_prime (vCons (vVar 0) vNil)))
    (vSeq (vPar 2 3 (vCall 2 W__law_draw (vCons (vVar 0) (vCons (vIf (vB (vBin (vCmp gLt) (vVarW 1) (vC (.int 5)))) (vC (.int 5)) (vC (.int 4))) vNil))) (vCall 2 W__law_draw (vCons (vVar 0) (vCons (vIf (vB (vBin (vCmp gLt) (vVarW 1) (vC (.int 5)))) (vC (.int 5)) (vC (.int 4))) vNil))))
    (vSeq (vSet 4 (vCall 4 W__law_table (vCons (vVar 0) (vCons (vVar 1) (vCons (vVar 3) (vCons (vVar 2) vNil))))))
    (vSeq (vSet 5 (vCall 1 W__law_leads (vCons (vCall 3 W__law_kernel (vCons (vVar 1) (vCons (vVar 4) (vCons (vVar 2) vNil)))) vNil)))
    (vSeq (vSetO 6 vNewT)
    (vSeq (vFor (iSeq (vCall 2 W__law_every (vCons (vVar 1) (vCons (vVar 2) vNil)))) (uNm 7)
    (vIfS (vB (vBin vEq (vLc (iSeq (vVarW 5)) [8] (uNm 8) (vB (vBin vNe (vBin vIx (vVarW 7) (vVarW 8)) (vC (.int 0)))) (vC (.int 1))) (vLst vNil)))
    (vSetIx 6 (vCall 3 W__law_led (vCons (vVar 1) (vCons (vVar 4) (vCons (vVar 7) vNil)))) (vVar 7))
    vNext))
    (vSeq (vFor (iSeq (vCall 2 W__law_every (vCons (vVar 1) (vCons (vVar 3) vNil)))) (uNm 7)
    (vIfS (vNot (vTru (vCall 2 W__law_like (vCons (vCall 4 W_solved (vCons (vVar 1) (vCons (vVar 4) (vCons (vVar 2) (vCons (vVar 7) vNil))))) (vCons (vGet (vVarW 6) (vVarW 7)) vNil)))))
    (vRet (vC (.bl false)))
    vNext))
    (vRet (vC (.bl true))))))))))
def W__law_all_right : VFn := vRun 9 w__law_all_right
theorem fok__law_all_right : FOk 1 302231454903657293676544 F__law_all_right W__law_all_right := FOk.le (fok_run (by unfold den__law_all_right w__law_all_right; exact (sv_seq (sv_set 1 (ev_call fok__law_small_prime (av_cons (ev_var 0) av_nil)))
    (sv_seq (sv_par 2 3 (ev_call fok__law_draw (av_cons (ev_var 0) (av_cons (ev_if (tv_B (EOk.sw (ev_bin (opv_cmp gLt) (ev_varW 1) (EOk.sw ev_int)))) ev_int ev_int) av_nil))) (ev_call fok__law_draw (av_cons (ev_var 0) (av_cons (ev_if (tv_B (EOk.sw (ev_bin (opv_cmp gLt) (ev_varW 1) (EOk.sw ev_int)))) ev_int ev_int) av_nil))))
    (sv_seq (sv_set 4 (ev_call fok__law_table (av_cons (ev_var 0) (av_cons (ev_var 1) (av_cons (ev_var 3) (av_cons (ev_var 2) av_nil))))))
    (sv_seq (sv_set 5 (ev_call fok__law_leads (av_cons (ev_call fok__law_kernel (av_cons (ev_var 1) (av_cons (ev_var 4) (av_cons (ev_var 2) av_nil)))) av_nil)))
    (sv_seq (sv_setO 6 ev_newT)
    (sv_seq (sv_for (iv_seq (s := true) (ev_call fok__law_every (av_cons (ev_var 1) (av_cons (ev_var 2) av_nil)))) (gv_nm 7)
    (sv_if (tv_B (EOk.sw (ev_bin opv_eq (EOk.sw (EOk.fs (ev_lc (iv_seq (s := false) (ev_varW 5)) (gv_nm 8) (tv_B (EOk.sw (ev_bin opv_ne (EOk.sw (ev_bin opv_ix (ev_varW 7) (ev_varW 8))) (EOk.sw ev_int)))) ev_int))) (EOk.sw (EOk.fs (ev_lst av_nil))))))
    (sv_setIx 6 (ev_var 7) (EOk.sw (ev_call fok__law_led (av_cons (ev_var 1) (av_cons (ev_var 4) (av_cons (ev_var 7) av_nil))))))
    sv_next))
    (sv_seq (sv_for (iv_seq (s := true) (ev_call fok__law_every (av_cons (ev_var 1) (av_cons (ev_var 3) av_nil)))) (gv_nm 7)
    (sv_if (tv_not (tv_tru (EOk.sw (ev_call fok__law_like (av_cons (ev_call fok_solved (av_cons (ev_var 1) (av_cons (ev_var 4) (av_cons (ev_var 2) (av_cons (ev_var 7) av_nil))))) (av_cons (ev_get (ev_varW 6) (ev_varW 7)) av_nil))))))
    (sv_ret (EOk.sw ev_bl))
    sv_next))
    (sv_ret (EOk.sw ev_bl))))))))))) (by decide +kernel)
def w__law_back_right : VS := (vSeq (vPar 1 2 (vCall 1 W__law_prime (vCons (vVar 0) vNil)) (vCall 2 W__law_draw (vCons (vVar 0) (vCons (vC (.int 9)) vNil))))
    (vSeq (vSet 3 (vCall 3 W__law_steps (vCons (vVar 0) (vCons (vVar 1) (vCons (vVar 2) vNil)))))
    (vSeq (vSet 4 (vCall 2 W_turned_back (vCons (vVar 1) (vCons (vVar 3) vNil))))
    (vSeq (vIfS (vB (vBin vIs (vVarW 4) (vC .non)))
    (vRet (vC (.bl false)))
    vNext)
    (vSeq (vSet 5 (vLst (vCons (vCall 4 W__law_behind (vCons (vVar 1) (vCons (vVar 3) (vCons (vVar 4) (vCons (vVar 2) vNil))))) (vCons (vCall 4 W__law_behind (vCons (vVar 1) (vCons (vVar 4) (vCons (vVar 3) (vCons (vVar 2) vNil))))) vNil))))
    (vSeq (vIfS (vNot (vTru (vCall 2 W__law_like (vCons (vVar 5) (vCons (vBin vMul (vLst (vCons (vCall 1 W__law_unit (vCons (vVar 2) vNil)) vNil)) (vC (.int 2))) vNil)))))
    (vRet (vC (.bl false)))
    vNext)
    (vSeq (vSet 3 (vCall 4 W__law_table (vCons (vVar 0) (vCons (vVar 1) (vCons (vVar 2) (vCons (vVar 2) vNil))))))
    (vSeq (vSet 6 (vCall 2 W_turned_back (vCons (vVar 1) (vCons (vVar 3) vNil))))
    (vSeq (vIfS (vB (vBin vNe (vBin vIs (vVarW 6) (vC .non)) (vBin (vCmp gLt) (vCall 3 W__law_rank (vCons (vVar 1) (vCons (vVar 3) (vCons (vVar 2) vNil)))) (vVarW 2))))
    (vRet (vC (.bl false)))
    vNext)
    (vSeq (vIfS (vAnd (vB (vBin vIsNot (vVarW 6) (vC .non))) (vNot (vTru (vCall 2 W__law_like (vCons (vCall 4 W__law_behind (vCons (vVar 1) (vCons (vVar 3) (vCons (vVar 6) (vCons (vVar 2) vNil))))) (vCons (vCall 1 W__law_unit (vCons (vVar 2) vNil)) vNil))))))
    (vRet (vC (.bl false)))
    vNext)
    (vRet (vAndV (vBin vIs (vCall 2 W_turned_back (vCons (vVar 1) (vCons (vCall 4 W__law_table (vCons (vVar 0) (vCons (vVar 1) (vCons (vBin vAdd (vC (.int 1)) (vVarW 2)) (vCons (vVar 2) vNil))))) vNil))) (vC .non)) (vBin vIs (vCall 2 W_turned_back (vCons (vVar 1) (vCons (vCall 4 W__law_table (vCons (vVar 0) (vCons (vVar 1) (vCons (vBin vAdd (vC (.int 1)) (vVarW 2)) (vCons (vBin vAdd (vC (.int 2)) (vVarW 2)) vNil))))) vNil))) (vC .non))))))))))))))
def W__law_back_right : VFn := vRun 7 w__law_back_right
theorem fok__law_back_right : FOk 1 18014398509481984 F__law_back_right W__law_back_right := FOk.le (fok_run (by unfold den__law_back_right w__law_back_right; exact (sv_seq (sv_par 1 2 (ev_call fok__law_prime (av_cons (ev_var 0) av_nil)) (ev_call fok__law_draw (av_cons (ev_var 0) (av_cons ev_int av_nil))))
    (sv_seq (sv_set 3 (ev_call fok__law_steps (av_cons (ev_var 0) (av_cons (ev_var 1) (av_cons (ev_var 2) av_nil)))))
    (sv_seq (sv_set 4 (ev_call fok_turned_back (av_cons (ev_var 1) (av_cons (ev_var 3) av_nil))))
    (sv_seq (sv_if (tv_B (EOk.sw (ev_bin opv_is (ev_varW 4) (EOk.sw ev_non))))
    (sv_ret (EOk.sw ev_bl))
    sv_next)
    (sv_seq (sv_set 5 (EOk.fs (ev_lst (av_cons (ev_call fok__law_behind (av_cons (ev_var 1) (av_cons (ev_var 3) (av_cons (ev_var 4) (av_cons (ev_var 2) av_nil))))) (av_cons (ev_call fok__law_behind (av_cons (ev_var 1) (av_cons (ev_var 4) (av_cons (ev_var 3) (av_cons (ev_var 2) av_nil))))) av_nil)))))
    (sv_seq (sv_if (tv_not (tv_tru (EOk.sw (ev_call fok__law_like (av_cons (ev_var 5) (av_cons (ev_bin opv_mul (EOk.sw (EOk.fs (ev_lst (av_cons (ev_call fok__law_unit (av_cons (ev_var 2) av_nil)) av_nil)))) (EOk.sw ev_int)) av_nil))))))
    (sv_ret (EOk.sw ev_bl))
    sv_next)
    (sv_seq (sv_set 3 (ev_call fok__law_table (av_cons (ev_var 0) (av_cons (ev_var 1) (av_cons (ev_var 2) (av_cons (ev_var 2) av_nil))))))
    (sv_seq (sv_set 6 (ev_call fok_turned_back (av_cons (ev_var 1) (av_cons (ev_var 3) av_nil))))
    (sv_seq (sv_if (tv_B (EOk.sw (ev_bin opv_ne (EOk.sw (ev_bin opv_is (ev_varW 6) (EOk.sw ev_non))) (EOk.sw (ev_bin (opv_cmp gLt) (EOk.sw (ev_call fok__law_rank (av_cons (ev_var 1) (av_cons (ev_var 3) (av_cons (ev_var 2) av_nil))))) (ev_varW 2))))))
    (sv_ret (EOk.sw ev_bl))
    sv_next)
    (sv_seq (sv_if (tv_and (tv_B (EOk.sw (ev_bin opv_isnot (ev_varW 6) (EOk.sw ev_non)))) (tv_not (tv_tru (EOk.sw (ev_call fok__law_like (av_cons (ev_call fok__law_behind (av_cons (ev_var 1) (av_cons (ev_var 3) (av_cons (ev_var 6) (av_cons (ev_var 2) av_nil))))) (av_cons (ev_call fok__law_unit (av_cons (ev_var 2) av_nil)) av_nil)))))))
    (sv_ret (EOk.sw ev_bl))
    sv_next)
    (sv_ret (EOk.sw (ev_and (EOk.sw (ev_bin opv_is (EOk.sw (ev_call fok_turned_back (av_cons (ev_var 1) (av_cons (ev_call fok__law_table (av_cons (ev_var 0) (av_cons (ev_var 1) (av_cons (ev_bin opv_add (EOk.sw ev_int) (ev_varW 2)) (av_cons (ev_var 2) av_nil))))) av_nil)))) (EOk.sw ev_non))) (ev_bin opv_is (EOk.sw (ev_call fok_turned_back (av_cons (ev_var 1) (av_cons (ev_call fok__law_table (av_cons (ev_var 0) (av_cons (ev_var 1) (av_cons (ev_bin opv_add (EOk.sw ev_int) (ev_varW 2)) (av_cons (ev_bin opv_add (EOk.sw ev_int) (ev_varW 2)) av_nil))))) av_nil)))) (EOk.sw ev_non))))))))))))))))) (by decide +kernel)
def w_law : VS := (vSeq (vFor (iRg1 (vL vMax (vCons (vC (.int 3)) (vCons (vL vMin (vCons (vL vLen (vCons (vVarW 0) vNil)) (vCons (vC (.int 5)) vNil))) vNil)))) (uNm 1)
    (vSeq (vSet 2 (vCall 2 W__law_begun (vCons (vVar 0) (vCons (vVar 1) vNil))))
    (vIfS (vOr (vNot (vTru (vCall 1 W__law_all_right (vCons (vVar 2) vNil)))) (vNot (vTru (vCall 1 W__law_back_right (vCons (vVar 2) vNil)))))
    (vRet (vC (.bl false)))
    vNext)))
    (vSeq (vSet 3 (vLst (vCons (vCall 4 W_solved (vCons (vC (.int 5)) (vCons (vTup (vCons (vTup (vCons (vC (.int 1)) (vCons (vC (.int 1)) vNil))) vNil)) (vCons (vC (.int 2)) (vCons (vTup (vCons (vC (.int 3)) vNil)) vNil))))) (vCons (vCall 4 W_solved (vCons (vC (.int 5)) (vCons (vTup (vCons (vTup (vCons (vC (.int 1)) (vCons (vC (.int 2)) vNil))) (vCons (vTup (vCons (vC (.int 2)) (vCons (vC (.int 4)) vNil))) vNil))) (vCons (vC (.int 2)) (vCons (vTup (vCons (vC (.int 1)) (vCons (vC (.int 3)) vNil))) vNil))))) (vCons (vCall 4 W_solved (vCons (vC (.int 3)) (vCons (vTup vNil) (vCons (vC (.int 2)) (vCons (vTup vNil) vNil))))) (vCons (vCall 4 W_solved (vCons (vC (.int 3)) (vCons (vTup (vCons (vTup vNil) vNil)) (vCons (vC (.int 0)) (vCons (vTup (vCons (vC (.int 1)) vNil)) vNil))))) vNil))))))
    (vSeq (vSet 3 (vBin vAdd (vVarW 3) (vLst (vCons (vCallK 0 4 [3, 2, 1, 0] 4 W_solved vNil (vCons (vTup (vCons (vC (.int 4)) vNil)) (vCons (vC (.int 1)) (vCons (vTup (vCons (vTup (vCons (vC (.int 2)) vNil)) vNil)) (vCons (vC (.int 5)) vNil))))) (vCons (vCallK 0 2 [1, 0] 2 W_turned_back vNil (vCons (vTup (vCons (vTup (vCons (vC (.int 2)) vNil)) vNil)) (vCons (vC (.int 5)) vNil))) (vCons (vCall 2 W_turned_back (vCons (vC (.int 3)) (vCons (vTup vNil) vNil))) vNil))))))
    (vRet (vCall 2 W__law_like (vCons (vVar 3) (vCons (vLst (vCons (vTup (vCons (vC (.int 0)) (vCons (vC (.int 3)) vNil))) (vCons (vC .non) (vCons (vTup (vCons (vC (.int 0)) (vCons (vC (.int 0)) vNil))) (vCons (vC .non) (vCons (vTup (vCons (vC (.int 2)) vNil)) (vCons (vTup (vCons (vTup (vCons (vC (.int 3)) vNil)) vNil)) (vCons (vTup vNil) vNil)))))))) vNil)))))))
def W_law : VFn := vRun 4 w_law
theorem fok_law : FOk 1 10141204801825835211973625643008 F_law W_law := FOk.le (fok_run (by unfold den_law w_law; exact (sv_seq (sv_for (iv_rg1 (s := true) (EOk.sw (ev_L olv_max (av_cons (EOk.sw ev_int) (av_cons (EOk.sw (ev_L olv_min (av_cons (EOk.sw (ev_L olv_len (av_cons (ev_varW 0) av_nil))) (av_cons (EOk.sw ev_int) av_nil)))) av_nil))))) (gv_nm 1)
    (sv_seq (sv_set 2 (ev_call fok__law_begun (av_cons (ev_var 0) (av_cons (ev_var 1) av_nil))))
    (sv_if (tv_or (tv_not (tv_tru (EOk.sw (ev_call fok__law_all_right (av_cons (ev_var 2) av_nil))))) (tv_not (tv_tru (EOk.sw (ev_call fok__law_back_right (av_cons (ev_var 2) av_nil))))))
    (sv_ret (EOk.sw ev_bl))
    sv_next)))
    (sv_seq (sv_set 3 (EOk.fs (ev_lst (av_cons (ev_call fok_solved (av_cons ev_int (av_cons (ev_tup (av_cons (ev_tup (av_cons ev_int (av_cons ev_int av_nil))) av_nil)) (av_cons ev_int (av_cons (ev_tup (av_cons ev_int av_nil)) av_nil))))) (av_cons (ev_call fok_solved (av_cons ev_int (av_cons (ev_tup (av_cons (ev_tup (av_cons ev_int (av_cons ev_int av_nil))) (av_cons (ev_tup (av_cons ev_int (av_cons ev_int av_nil))) av_nil))) (av_cons ev_int (av_cons (ev_tup (av_cons ev_int (av_cons ev_int av_nil))) av_nil))))) (av_cons (ev_call fok_solved (av_cons ev_int (av_cons (ev_tup av_nil) (av_cons ev_int (av_cons (ev_tup av_nil) av_nil))))) (av_cons (ev_call fok_solved (av_cons ev_int (av_cons (ev_tup (av_cons (ev_tup av_nil) av_nil)) (av_cons ev_int (av_cons (ev_tup (av_cons ev_int av_nil)) av_nil))))) av_nil)))))))
    (sv_seq (sv_set 3 (ev_bin opv_add (ev_varW 3) (EOk.sw (EOk.fs (ev_lst (av_cons (ev_callK fok_solved av_nil (av_cons (ev_tup (av_cons ev_int av_nil)) (av_cons ev_int (av_cons (ev_tup (av_cons (ev_tup (av_cons ev_int av_nil)) av_nil)) (av_cons ev_int av_nil))))) (av_cons (ev_callK fok_turned_back av_nil (av_cons (ev_tup (av_cons (ev_tup (av_cons ev_int av_nil)) av_nil)) (av_cons ev_int av_nil))) (av_cons (ev_call fok_turned_back (av_cons ev_int (av_cons (ev_tup av_nil) av_nil))) av_nil))))))))
    (sv_ret (EOk.sw (ev_call fok__law_like (av_cons (ev_var 3) (av_cons (EOk.fs (ev_lst (av_cons (ev_tup (av_cons ev_int (av_cons ev_int av_nil))) (av_cons ev_non (av_cons (ev_tup (av_cons ev_int (av_cons ev_int av_nil))) (av_cons ev_non (av_cons (ev_tup (av_cons ev_int av_nil)) (av_cons (ev_tup (av_cons (ev_tup (av_cons ev_int av_nil)) av_nil)) (av_cons (ev_tup av_nil) av_nil))))))))) av_nil)))))))))) (by decide +kernel)
end LH
set_option maxRecDepth 100000
set_option maxHeartbeats 12000000
namespace LH
open PySem PySem.Spec PyProof.Rows L2 Pd Ty
@[irreducible] def t_still_table (a0_size : Int) : M (List (List Int)) :=
 (bi (rgM 0 a0_size) fun l_5 => (nx (lcM (fun (i_1 : Int) => (pu true)) (fun (i_1 : Int) => (bi (rgM 0 a0_size) fun l_3 => (nx (lcM (fun (j_2 : Int) => (pu true)) (fun (j_2 : Int) => (pu (if (decide (i_1 = j_2)) = true then 1 else 0))) l_3 [])))) l_5 [])))
theorem tf_still_table (a0_size : Int) : TFn W_still_table [tI a0_size] (t_still_table a0_size) (tT (tT tI)) := by
  unfold W_still_table w_still_table t_still_table
  exact tf_run (ts_retD (tg_L1 (eb := (tT (tT tI))) (fun z_6 => l_tuple seqL z_6) (tga_last (tg_lcM (e := tI) (eb := (tT tI)) (ue := (fun i_1 => [some (tI a0_size, false), none, some (tI i_1, false)])) (ti_rg1 (i := a0_size) (tp_varW 0 (v := tI a0_size) rfl)) (fun i_1 => rfl) (fun i_1 => (TG.pu (enc := id) tp_yes)) (fun i_1 => (tg_L1 (eb := (tT tI)) (fun z_4 => l_tuple seqL z_4) (tga_last (tg_lcM (e := tI) (eb := tI) (ue := (fun j_2 => [some (tI a0_size, false), some (tI j_2, false), some (tI i_1, false)])) (ti_rg1 (i := a0_size) (tp_varW 0 (v := tI a0_size) rfl)) (fun j_2 => rfl) (fun j_2 => (TG.pu (enc := id) tp_yes)) (fun j_2 => (TG.pu (enc := tI) (a := (if (decide (i_1 = j_2)) = true then 1 else 0)) (tp_L (l_intB (decide (i_1 = j_2))) (tpa_cons (v := Ty.tB (decide (i_1 = j_2))) (tp_bin (a := i_1) (b := j_2) (o_eq cmp_I (by decide)) (tp_varW 2 (v := tI i_1) rfl) (tp_varW 1 (v := tI j_2) rfl)) tpa_nil))))) tpa_nil)))) tpa_nil)))
@[irreducible] def t_taken_off (a0_prime : Int) (a1_column : (List Int)) (a2_times : Int) (a3_other : (List Int)) : M (List Int) :=
 (nx (lcM (fun (q_1 : (Int × Int)) => (pu true)) (fun (q_1 : (Int × Int)) => (bi (bi (mulM a2_times q_1.2) fun b_3 => (pu (q_1.1 - b_3))) fun a_4 => (modM a_4 a0_prime))) (List.zip a1_column a3_other) []))
theorem tf_taken_off (a0_prime : Int) (a1_column : (List Int)) (a2_times : Int) (a3_other : (List Int)) : TFn W_taken_off [tI a0_prime, (tT tI) a1_column, tI a2_times, (tT tI) a3_other] (t_taken_off a0_prime a1_column a2_times a3_other) (tT tI) := by
  unfold W_taken_off w_taken_off t_taken_off
  exact tf_run (ts_retD (tg_L1 (eb := (tT tI)) (fun z_6 => l_tuple seqL z_6) (tga_last (tg_lcP (e := (tP tI tI)) (eb := tI) (ue := (fun q_1 => [some (tI a0_prime, false), some ((tT tI) a1_column, false), some (tI a2_times, false), some ((tT tI) a3_other, false), some (tI q_1.1, false), some (tI q_1.2, false)])) (xs := (List.zip a1_column a3_other)) (ti_zip (a := a1_column) (b := a3_other) seqT seqT (tp_varW 1 (v := (tT tI) a1_column) rfl) (tp_varW 3 (v := (tT tI) a3_other) rfl)) (fun q_1 => rfl) (fun q_1 => (TG.pu (enc := id) tp_yes)) (fun q_1 => (tg_binMP (b := a0_prime) o_mod (tg_binPM (a := q_1.1) (O2P.m o_sub) (tp_varW 4 (v := tI q_1.1) rfl) (tg_binPP (a := a2_times) (b := q_1.2) o_mul (tp_varW 2 (v := tI a2_times) rfl) (tp_varW 5 (v := tI q_1.2) rfl))) (tp_varW 0 (v := tI a0_prime) rfl)))) tpa_nil)))
theorem tf_taken_off'1 (a0_prime : Int) (a1_column : (List Int)) (a2_times : Int) (a3_other : (List Int)) : TFn W_taken_off [tI a0_prime, (tL tI) a1_column, tI a2_times, (tT tI) a3_other] (t_taken_off a0_prime a1_column a2_times a3_other) (tT tI) := by
  unfold W_taken_off w_taken_off t_taken_off
  exact tf_run (ts_retD (tg_L1 (eb := (tT tI)) (fun z_6 => l_tuple seqL z_6) (tga_last (tg_lcP (e := (tP tI tI)) (eb := tI) (ue := (fun q_1 => [some (tI a0_prime, false), some ((tL tI) a1_column, false), some (tI a2_times, false), some ((tT tI) a3_other, false), some (tI q_1.1, false), some (tI q_1.2, false)])) (xs := (List.zip a1_column a3_other)) (ti_zip (a := a1_column) (b := a3_other) seqL seqT (tp_varW 1 (v := (tL tI) a1_column) rfl) (tp_varW 3 (v := (tT tI) a3_other) rfl)) (fun q_1 => rfl) (fun q_1 => (TG.pu (enc := id) tp_yes)) (fun q_1 => (tg_binMP (b := a0_prime) o_mod (tg_binPM (a := q_1.1) (O2P.m o_sub) (tp_varW 4 (v := tI q_1.1) rfl) (tg_binPP (a := a2_times) (b := q_1.2) o_mul (tp_varW 2 (v := tI a2_times) rfl) (tp_varW 5 (v := tI q_1.2) rfl))) (tp_varW 0 (v := tI a0_prime) rfl)))) tpa_nil)))
@[irreducible] def t_back_number (a0_prime : Int) (a1_entry : Int) : M Int :=
 (bi (bi (rgM 1 a0_prime) fun l_6 => (nx (lcM (fun (number_1 : Int) => (bi (bi (mulM number_1 a1_entry) fun a_2 => (modM a_2 a0_prime)) fun a_4 => (pu (decide (a_4 = 1))))) (fun (number_1 : Int) => (pu number_1)) l_6 []))) fun a_7 => (ixM a_7 0))
theorem tf_back_number (a0_prime : Int) (a1_entry : Int) : TFn W_back_number [tI a0_prime, tI a1_entry] (t_back_number a0_prime a1_entry) tI := by
  unfold W_back_number w_back_number t_back_number
  exact tf_run (ts_retD (tg_binMP (b := 0) (o_ix seqL) (tg_lcM (e := tI) (eb := tI) (ue := (fun number_1 => [some (tI a0_prime, false), some (tI a1_entry, false), some (tI number_1, false)])) (ti_rg2 (i := 1) (j := a0_prime) tp_c (tp_varW 0 (v := tI a0_prime) rfl)) (fun number_1 => rfl) (fun number_1 => (tg_B (tg_binMP (b := 1) (O2P.m (o_eq cmp_I (by decide))) (tg_binMP (b := a0_prime) o_mod (tg_binPP (a := number_1) (b := a1_entry) o_mul (tp_varW 2 (v := tI number_1) rfl) (tp_varW 1 (v := tI a1_entry) rfl)) (tp_varW 0 (v := tI a0_prime) rfl)) tp_c))) (fun number_1 => (TG.pu (enc := tI) (a := number_1) (tp_var 2 (v := tI number_1) rfl)))) tp_c))
@[irreducible] def t_reduced (a0_prime : Int) (a1_columns : (List (List Int))) (a2_size : Int) : M (List (List Int)) :=
 (bi (rgM 0 a2_size) fun l_28 => bi (forM (fun (spot_3 : Int) (s_1 : (List (List Int)) × (List (List Int))) =>
 (bi (nx (lcM (fun (q_4 : (Int × (List Int))) => (bi (ixM q_4.2 spot_3) fun a_5 => (pu (decide (a_5 ≠ 0))))) (fun (q_4 : (Int × (List Int))) => (pu q_4.1)) (en s_1.1) [])) fun (some_7 : (List Int)) =>
 (if (decide (some_7 = ([] : (List Int)))) = true then
 (pu (s_1.1, s_1.2))
 else
 (bi (bi (bi (bi (ixM some_7 0) fun b_9 => (ixM s_1.1 b_9)) fun a_10 => (ixM a_10 spot_3)) fun z_12 => t_back_number a0_prime z_12) fun (times_13 : Int) =>
 (bi (ixM some_7 0) fun z_27 => (bi (popM s_1.1 z_27) fun p_19 => bi (nx (lcM (fun _ => pu true) (fun (entry_15 : Int) => (bi (mulM times_13 entry_15) fun a_16 => (modM a_16 a0_prime))) p_19.1 [])) fun lead_18 => ((fun (lead_18 : (List Int)) (L_14 : (List (List Int))) => (bi (nx (lcM (fun (column_20 : (List Int)) => (pu true)) (fun (column_20 : (List Int)) => (bi (bi (ixM column_20 spot_3) fun i => pu (i != 0)) fun c => if c = true then (bi (ixM column_20 spot_3) fun z_21 => t_taken_off a0_prime column_20 z_21 lead_18) else (pu column_20))) L_14 [])) fun (left_22 : (List (List Int))) =>
 (bi (nx (lcM (fun (column_23 : (List Int)) => (pu true)) (fun (column_23 : (List Int)) => (bi (bi (ixM column_23 spot_3) fun i => pu (i != 0)) fun c => if c = true then (bi (ixM column_23 spot_3) fun z_24 => t_taken_off a0_prime column_23 z_24 lead_18) else (pu column_23))) s_1.2 [])) fun (found_25 : (List (List Int))) =>
 (bi (appM found_25 lead_18) fun (found_26 : (List (List Int))) =>
 (pu (left_22, found_26))))))) lead_18 p_19.2)))))) l_28 (a1_columns, ([] : (List (List Int))))) fun (s_1 : (List (List Int)) × (List (List Int))) =>
 (pu s_1.2))
theorem tf_reduced (a0_prime : Int) (a1_columns : (List (List Int))) (a2_size : Int) : TFn W_reduced [tI a0_prime, (tL (tT tI)) a1_columns, tI a2_size] (t_reduced a0_prime a1_columns a2_size) (tT (tT tI)) := by
  unfold W_reduced w_reduced t_reduced
  exact tf_run (ts_parGP (o1 := true) (o2 := true) 3 4 (v := (tL (tT tI)) a1_columns) (w := (tL (tT tI)) ([] : (List (List Int)))) (tp_L (l_list seqL a1_columns) (tpa_cons (v := (tL (tT tI)) a1_columns) (tp_varW 1 (v := (tL (tT tI)) a1_columns) rfl) tpa_nil)) (tp_lst tpa_nil (len_ok 0 rfl (by decide)))
 (ts_forM (enc := tI) (mk := (fun (s_1 : (List (List Int)) × (List (List Int))) (j_2 : Jk) => [some (tI a0_prime, false), some ((tL (tT tI)) a1_columns, false), some (tI a2_size, false), some ((tL (tT tI)) s_1.1, true), some ((tL (tT tI)) s_1.2, true), j_2 5, j_2 6, none, none, j_2 9, j_2 10, none])) (ub := (fun spot_3 s_1 j_2 => [some (tI a0_prime, false), some ((tL (tT tI)) a1_columns, false), some (tI a2_size, false), some ((tL (tT tI)) s_1.1, true), some ((tL (tT tI)) s_1.2, true), some (tI spot_3, false), j_2 6, none, none, j_2 9, j_2 10, none])) (s0 := (a1_columns, ([] : (List (List Int))))) (ti_rg1 (i := a2_size) (tp_varW 2 (v := tI a2_size) rfl)) rfl (fun spot_3 s_1 j_2 => rfl)
 (fun spot_3 s_1 j_2 => (ts_set 6 (enc := (tL tI)) (tg_lcP (e := (tP tI (tT tI))) (eb := tI) (ue := (fun q_4 => [some (tI a0_prime, false), some ((tL (tT tI)) a1_columns, false), some (tI a2_size, false), some ((tL (tT tI)) s_1.1, true), some ((tL (tT tI)) s_1.2, true), some (tI spot_3, false), j_2 6, some (tI q_4.1, false), some ((tT tI) q_4.2, false), j_2 9, j_2 10, none])) (xs := (en s_1.1)) (ti_en (a := s_1.1) seqL (tp_varW 3 (v := (tL (tT tI)) s_1.1) rfl)) (fun q_4 => rfl) (fun q_4 => (tg_B (tg_binMP (b := 0) (O2P.m (o_ne cmp_I (by decide))) (tg_binPP (a := q_4.2) (b := spot_3) (o_ix seqT) (tp_varW 8 (v := (tT tI) q_4.2) rfl) (tp_varW 5 (v := tI spot_3) rfl)) tp_c))) (fun q_4 => (TG.pu (enc := tI) (a := q_4.1) (tp_var 7 (v := tI q_4.1) rfl)))) (fun some_7 =>
 (ts_ifxP (c := (decide (some_7 = ([] : (List Int))))) ex_L (tp_B (b := (decide (some_7 = ([] : (List Int))))) (tp_bin (a := some_7) (b := ([] : (List Int))) (o_eq (cmp_L cmp_I) (by decide)) (tp_varW 6 (v := (tL tI) some_7) rfl) (tp_lst tpa_nil (len_ok 0 rfl (by decide)))))
 (ts_cont (ct_Lx (s := (s_1.1, s_1.2)) rfl))
 (ts_nextS (ts_set 9 (enc := tI) (tg_callM (fun (z_12 : Int) => tf_back_number a0_prime z_12) (tga_consP (v := tI a0_prime) (tp_var 0 (v := tI a0_prime) rfl) (tga_last (tg_binMP (b := spot_3) (o_ix seqT) (tg_binPM (a := s_1.1) (o_ix seqL) (tp_varW 3 (v := (tL (tT tI)) s_1.1) rfl) (tg_binPP (a := some_7) (b := 0) (o_ix seqL) (tp_varW 6 (v := (tL tI) some_7) rfl) tp_c)) (tp_varW 5 (v := tI spot_3) rfl)) tpa_nil)) (fun _ => rfl)) (fun times_13 =>
 (ts_popTupM 10 3 (own := [11]) (l := s_1.1) (enc := tI) (encb := tI) (me := fun entry_15 => (bi (mulM times_13 entry_15) fun a_16 => (modM a_16 a0_prime))) (k := (fun (lead_18 : (List Int)) (L_14 : (List (List Int))) => (bi (nx (lcM (fun (column_20 : (List Int)) => (pu true)) (fun (column_20 : (List Int)) => (bi (bi (ixM column_20 spot_3) fun i => pu (i != 0)) fun c => if c = true then (bi (ixM column_20 spot_3) fun z_21 => t_taken_off a0_prime column_20 z_21 lead_18) else (pu column_20))) L_14 [])) fun (left_22 : (List (List Int))) =>
 (bi (nx (lcM (fun (column_23 : (List Int)) => (pu true)) (fun (column_23 : (List Int)) => (bi (bi (ixM column_23 spot_3) fun i => pu (i != 0)) fun c => if c = true then (bi (ixM column_23 spot_3) fun z_24 => t_taken_off a0_prime column_23 z_24 lead_18) else (pu column_23))) s_1.2 [])) fun (found_25 : (List (List Int))) =>
 (bi (appM found_25 lead_18) fun (found_26 : (List (List Int))) =>
 (pu (left_22, found_26))))))) rfl (tg_binPP (a := some_7) (b := 0) (o_ix seqL) (tp_varW 6 (v := (tL tI) some_7) rfl) tp_c) (fun L_14 entry_15 => rfl) (fun L_14 entry_15 => (tg_binMP (b := a0_prime) o_mod (tg_binPP (a := times_13) (b := entry_15) o_mul (tp_varW 9 (v := tI times_13) rfl) (tp_varW 11 (v := tI entry_15) rfl)) (tp_varW 0 (v := tI a0_prime) rfl))) (fun lead_18 L_14 => (ts_setO 3 (enc := (tL (tT tI))) (tg_lcP (e := (tT tI)) (eb := (tT tI)) (ue := (fun column_20 => [some (tI a0_prime, false), some ((tL (tT tI)) a1_columns, false), some (tI a2_size, false), some ((tL (tT tI)) L_14, true), some ((tL (tT tI)) s_1.2, true), some (tI spot_3, false), some ((tL tI) some_7, false), none, some ((tT tI) column_20, false), some (tI times_13, false), some ((tT tI) lead_18, false), none])) (xs := L_14) (ti_seq (a := L_14) seqL (tp_varW 3 (v := (tL (tT tI)) L_14) rfl)) (fun column_20 => rfl) (fun column_20 => (TG.pu (enc := id) tp_yes)) (fun column_20 => (tg_if (e := (tT tI)) (tg_truI (tg_binPP (a := column_20) (b := spot_3) (o_ix seqT) (tp_varW 8 (v := (tT tI) column_20) rfl) (tp_varW 5 (v := tI spot_3) rfl))) (tg_callM (fun (z_21 : Int) => tf_taken_off a0_prime column_20 z_21 lead_18) (tga_consP (v := tI a0_prime) (tp_var 0 (v := tI a0_prime) rfl) (tga_consP (v := (tT tI) column_20) (tp_var 8 (v := (tT tI) column_20) rfl) (tga_last (tg_binPP (a := column_20) (b := spot_3) (o_ix seqT) (tp_varW 8 (v := (tT tI) column_20) rfl) (tp_varW 5 (v := tI spot_3) rfl)) (tpa_cons (v := (tT tI) lead_18) (tp_var 10 (v := (tT tI) lead_18) rfl) tpa_nil)))) (fun _ => rfl)) (TG.pu (enc := (tT tI)) (a := column_20) (tp_var 8 (v := (tT tI) column_20) rfl))))) (fun left_22 =>
 (ts_setO 4 (enc := (tL (tT tI))) (tg_lcP (e := (tT tI)) (eb := (tT tI)) (ue := (fun column_23 => [some (tI a0_prime, false), some ((tL (tT tI)) a1_columns, false), some (tI a2_size, false), some ((tL (tT tI)) left_22, true), some ((tL (tT tI)) s_1.2, true), some (tI spot_3, false), some ((tL tI) some_7, false), none, some ((tT tI) column_23, false), some (tI times_13, false), some ((tT tI) lead_18, false), none])) (xs := s_1.2) (ti_seq (a := s_1.2) seqL (tp_varW 4 (v := (tL (tT tI)) s_1.2) rfl)) (fun column_23 => rfl) (fun column_23 => (TG.pu (enc := id) tp_yes)) (fun column_23 => (tg_if (e := (tT tI)) (tg_truI (tg_binPP (a := column_23) (b := spot_3) (o_ix seqT) (tp_varW 8 (v := (tT tI) column_23) rfl) (tp_varW 5 (v := tI spot_3) rfl))) (tg_callM (fun (z_24 : Int) => tf_taken_off a0_prime column_23 z_24 lead_18) (tga_consP (v := tI a0_prime) (tp_var 0 (v := tI a0_prime) rfl) (tga_consP (v := (tT tI) column_23) (tp_var 8 (v := (tT tI) column_23) rfl) (tga_last (tg_binPP (a := column_23) (b := spot_3) (o_ix seqT) (tp_varW 8 (v := (tT tI) column_23) rfl) (tp_varW 5 (v := tI spot_3) rfl)) (tpa_cons (v := (tT tI) lead_18) (tp_var 10 (v := (tT tI) lead_18) rfl) tpa_nil)))) (fun _ => rfl)) (TG.pu (enc := (tT tI)) (a := column_23) (tp_var 8 (v := (tT tI) column_23) rfl))))) (fun found_25 =>
 (ts_nx (ts_appP 4 (enc := (tT tI)) (l := found_25) (x := lead_18) rfl (tp_var 10 (v := (tT tI) lead_18) rfl) (fun found_26 =>
 (ts_next (nx_L (s := (left_22, found_26)) rfl))))))))))))))))))
 (fun s_1 j_2 => (ts_retDP (a := s_1.2) (tp_L (l_tuple seqL s_1.2) (tpa_cons (v := (tL (tT tI)) s_1.2) (tp_varW 4 (v := (tL (tT tI)) s_1.2) rfl) tpa_nil))))))
theorem tf_reduced'1 (a0_prime : Int) (a1_columns : (List (List Int))) (a2_size : Int) : TFn W_reduced [tI a0_prime, (tT (tT tI)) a1_columns, tI a2_size] (t_reduced a0_prime a1_columns a2_size) (tT (tT tI)) := by
  unfold W_reduced w_reduced t_reduced
  exact tf_run (ts_parGP (o1 := true) (o2 := true) 3 4 (v := (tL (tT tI)) a1_columns) (w := (tL (tT tI)) ([] : (List (List Int)))) (tp_L (l_list seqT a1_columns) (tpa_cons (v := (tT (tT tI)) a1_columns) (tp_varW 1 (v := (tT (tT tI)) a1_columns) rfl) tpa_nil)) (tp_lst tpa_nil (len_ok 0 rfl (by decide)))
 (ts_forM (enc := tI) (mk := (fun (s_1 : (List (List Int)) × (List (List Int))) (j_2 : Jk) => [some (tI a0_prime, false), some ((tT (tT tI)) a1_columns, false), some (tI a2_size, false), some ((tL (tT tI)) s_1.1, true), some ((tL (tT tI)) s_1.2, true), j_2 5, j_2 6, none, none, j_2 9, j_2 10, none])) (ub := (fun spot_3 s_1 j_2 => [some (tI a0_prime, false), some ((tT (tT tI)) a1_columns, false), some (tI a2_size, false), some ((tL (tT tI)) s_1.1, true), some ((tL (tT tI)) s_1.2, true), some (tI spot_3, false), j_2 6, none, none, j_2 9, j_2 10, none])) (s0 := (a1_columns, ([] : (List (List Int))))) (ti_rg1 (i := a2_size) (tp_varW 2 (v := tI a2_size) rfl)) rfl (fun spot_3 s_1 j_2 => rfl)
 (fun spot_3 s_1 j_2 => (ts_set 6 (enc := (tL tI)) (tg_lcP (e := (tP tI (tT tI))) (eb := tI) (ue := (fun q_4 => [some (tI a0_prime, false), some ((tT (tT tI)) a1_columns, false), some (tI a2_size, false), some ((tL (tT tI)) s_1.1, true), some ((tL (tT tI)) s_1.2, true), some (tI spot_3, false), j_2 6, some (tI q_4.1, false), some ((tT tI) q_4.2, false), j_2 9, j_2 10, none])) (xs := (en s_1.1)) (ti_en (a := s_1.1) seqL (tp_varW 3 (v := (tL (tT tI)) s_1.1) rfl)) (fun q_4 => rfl) (fun q_4 => (tg_B (tg_binMP (b := 0) (O2P.m (o_ne cmp_I (by decide))) (tg_binPP (a := q_4.2) (b := spot_3) (o_ix seqT) (tp_varW 8 (v := (tT tI) q_4.2) rfl) (tp_varW 5 (v := tI spot_3) rfl)) tp_c))) (fun q_4 => (TG.pu (enc := tI) (a := q_4.1) (tp_var 7 (v := tI q_4.1) rfl)))) (fun some_7 =>
 (ts_ifxP (c := (decide (some_7 = ([] : (List Int))))) ex_L (tp_B (b := (decide (some_7 = ([] : (List Int))))) (tp_bin (a := some_7) (b := ([] : (List Int))) (o_eq (cmp_L cmp_I) (by decide)) (tp_varW 6 (v := (tL tI) some_7) rfl) (tp_lst tpa_nil (len_ok 0 rfl (by decide)))))
 (ts_cont (ct_Lx (s := (s_1.1, s_1.2)) rfl))
 (ts_nextS (ts_set 9 (enc := tI) (tg_callM (fun (z_12 : Int) => tf_back_number a0_prime z_12) (tga_consP (v := tI a0_prime) (tp_var 0 (v := tI a0_prime) rfl) (tga_last (tg_binMP (b := spot_3) (o_ix seqT) (tg_binPM (a := s_1.1) (o_ix seqL) (tp_varW 3 (v := (tL (tT tI)) s_1.1) rfl) (tg_binPP (a := some_7) (b := 0) (o_ix seqL) (tp_varW 6 (v := (tL tI) some_7) rfl) tp_c)) (tp_varW 5 (v := tI spot_3) rfl)) tpa_nil)) (fun _ => rfl)) (fun times_13 =>
 (ts_popTupM 10 3 (own := [11]) (l := s_1.1) (enc := tI) (encb := tI) (me := fun entry_15 => (bi (mulM times_13 entry_15) fun a_16 => (modM a_16 a0_prime))) (k := (fun (lead_18 : (List Int)) (L_14 : (List (List Int))) => (bi (nx (lcM (fun (column_20 : (List Int)) => (pu true)) (fun (column_20 : (List Int)) => (bi (bi (ixM column_20 spot_3) fun i => pu (i != 0)) fun c => if c = true then (bi (ixM column_20 spot_3) fun z_21 => t_taken_off a0_prime column_20 z_21 lead_18) else (pu column_20))) L_14 [])) fun (left_22 : (List (List Int))) =>
 (bi (nx (lcM (fun (column_23 : (List Int)) => (pu true)) (fun (column_23 : (List Int)) => (bi (bi (ixM column_23 spot_3) fun i => pu (i != 0)) fun c => if c = true then (bi (ixM column_23 spot_3) fun z_24 => t_taken_off a0_prime column_23 z_24 lead_18) else (pu column_23))) s_1.2 [])) fun (found_25 : (List (List Int))) =>
 (bi (appM found_25 lead_18) fun (found_26 : (List (List Int))) =>
 (pu (left_22, found_26))))))) rfl (tg_binPP (a := some_7) (b := 0) (o_ix seqL) (tp_varW 6 (v := (tL tI) some_7) rfl) tp_c) (fun L_14 entry_15 => rfl) (fun L_14 entry_15 => (tg_binMP (b := a0_prime) o_mod (tg_binPP (a := times_13) (b := entry_15) o_mul (tp_varW 9 (v := tI times_13) rfl) (tp_varW 11 (v := tI entry_15) rfl)) (tp_varW 0 (v := tI a0_prime) rfl))) (fun lead_18 L_14 => (ts_setO 3 (enc := (tL (tT tI))) (tg_lcP (e := (tT tI)) (eb := (tT tI)) (ue := (fun column_20 => [some (tI a0_prime, false), some ((tT (tT tI)) a1_columns, false), some (tI a2_size, false), some ((tL (tT tI)) L_14, true), some ((tL (tT tI)) s_1.2, true), some (tI spot_3, false), some ((tL tI) some_7, false), none, some ((tT tI) column_20, false), some (tI times_13, false), some ((tT tI) lead_18, false), none])) (xs := L_14) (ti_seq (a := L_14) seqL (tp_varW 3 (v := (tL (tT tI)) L_14) rfl)) (fun column_20 => rfl) (fun column_20 => (TG.pu (enc := id) tp_yes)) (fun column_20 => (tg_if (e := (tT tI)) (tg_truI (tg_binPP (a := column_20) (b := spot_3) (o_ix seqT) (tp_varW 8 (v := (tT tI) column_20) rfl) (tp_varW 5 (v := tI spot_3) rfl))) (tg_callM (fun (z_21 : Int) => tf_taken_off a0_prime column_20 z_21 lead_18) (tga_consP (v := tI a0_prime) (tp_var 0 (v := tI a0_prime) rfl) (tga_consP (v := (tT tI) column_20) (tp_var 8 (v := (tT tI) column_20) rfl) (tga_last (tg_binPP (a := column_20) (b := spot_3) (o_ix seqT) (tp_varW 8 (v := (tT tI) column_20) rfl) (tp_varW 5 (v := tI spot_3) rfl)) (tpa_cons (v := (tT tI) lead_18) (tp_var 10 (v := (tT tI) lead_18) rfl) tpa_nil)))) (fun _ => rfl)) (TG.pu (enc := (tT tI)) (a := column_20) (tp_var 8 (v := (tT tI) column_20) rfl))))) (fun left_22 =>
 (ts_setO 4 (enc := (tL (tT tI))) (tg_lcP (e := (tT tI)) (eb := (tT tI)) (ue := (fun column_23 => [some (tI a0_prime, false), some ((tT (tT tI)) a1_columns, false), some (tI a2_size, false), some ((tL (tT tI)) left_22, true), some ((tL (tT tI)) s_1.2, true), some (tI spot_3, false), some ((tL tI) some_7, false), none, some ((tT tI) column_23, false), some (tI times_13, false), some ((tT tI) lead_18, false), none])) (xs := s_1.2) (ti_seq (a := s_1.2) seqL (tp_varW 4 (v := (tL (tT tI)) s_1.2) rfl)) (fun column_23 => rfl) (fun column_23 => (TG.pu (enc := id) tp_yes)) (fun column_23 => (tg_if (e := (tT tI)) (tg_truI (tg_binPP (a := column_23) (b := spot_3) (o_ix seqT) (tp_varW 8 (v := (tT tI) column_23) rfl) (tp_varW 5 (v := tI spot_3) rfl))) (tg_callM (fun (z_24 : Int) => tf_taken_off a0_prime column_23 z_24 lead_18) (tga_consP (v := tI a0_prime) (tp_var 0 (v := tI a0_prime) rfl) (tga_consP (v := (tT tI) column_23) (tp_var 8 (v := (tT tI) column_23) rfl) (tga_last (tg_binPP (a := column_23) (b := spot_3) (o_ix seqT) (tp_varW 8 (v := (tT tI) column_23) rfl) (tp_varW 5 (v := tI spot_3) rfl)) (tpa_cons (v := (tT tI) lead_18) (tp_var 10 (v := (tT tI) lead_18) rfl) tpa_nil)))) (fun _ => rfl)) (TG.pu (enc := (tT tI)) (a := column_23) (tp_var 8 (v := (tT tI) column_23) rfl))))) (fun found_25 =>
 (ts_nx (ts_appP 4 (enc := (tT tI)) (l := found_25) (x := lead_18) rfl (tp_var 10 (v := (tT tI) lead_18) rfl) (fun found_26 =>
 (ts_next (nx_L (s := (left_22, found_26)) rfl))))))))))))))))))
 (fun s_1 j_2 => (ts_retDP (a := s_1.2) (tp_L (l_tuple seqL s_1.2) (tpa_cons (v := (tL (tT tI)) s_1.2) (tp_varW 4 (v := (tL (tT tI)) s_1.2) rfl) tpa_nil))))))
@[irreducible] def t_lead_places (a0_basis : (List (List Int))) : M (List Int) :=
 (nx (lcM (fun (column_1 : (List Int)) => (pu true)) (fun (column_1 : (List Int)) => (ixM (List.map (fun (q_2 : (Int × Int)) => q_2.1) (List.filter (fun (q_2 : (Int × Int)) => (decide (q_2.2 ≠ 0))) (en column_1))) 0)) a0_basis []))
theorem tf_lead_places (a0_basis : (List (List Int))) : TFn W_lead_places [(tT (tT tI)) a0_basis] (t_lead_places a0_basis) (tL tI) := by
  unfold W_lead_places w_lead_places t_lead_places
  exact tf_run (ts_retD (tg_lcP (e := (tT tI)) (eb := tI) (ue := (fun column_1 => [some ((tT (tT tI)) a0_basis, false), none, none, some ((tT tI) column_1, false)])) (xs := a0_basis) (ti_seq (a := a0_basis) seqT (tp_varW 0 (v := (tT (tT tI)) a0_basis) rfl)) (fun column_1 => rfl) (fun column_1 => (TG.pu (enc := id) tp_yes)) (fun column_1 => (tg_binPP (a := (List.map (fun (q_2 : (Int × Int)) => q_2.1) (List.filter (fun (q_2 : (Int × Int)) => (decide (q_2.2 ≠ 0))) (en column_1)))) (b := 0) (o_ix seqL) (tp_lc (e := (tP tI tI)) (eb := tI) (ue := (fun q_2 => [some ((tT (tT tI)) a0_basis, false), some (tI q_2.1, false), some (tI q_2.2, false), some ((tT tI) column_1, false)])) (xs := (en column_1)) (k := fun q_2 => (decide (q_2.2 ≠ 0))) (f := fun q_2 => q_2.1) (ti_en (a := column_1) seqT (tp_varW 3 (v := (tT tI) column_1) rfl)) (fun q_2 => rfl) (fun q_2 => (tp_B (b := (decide (q_2.2 ≠ 0))) (tp_bin (a := q_2.2) (b := 0) (o_ne cmp_I (by decide)) (tp_varW 2 (v := tI q_2.2) rfl) tp_c))) (fun q_2 => (tp_var 1 (v := tI q_2.1) rfl))) tp_c))))
theorem tf_lead_places'1 (a0_basis : (List (List Int))) : TFn W_lead_places [(tL (tT tI)) a0_basis] (t_lead_places a0_basis) (tL tI) := by
  unfold W_lead_places w_lead_places t_lead_places
  exact tf_run (ts_retD (tg_lcP (e := (tT tI)) (eb := tI) (ue := (fun column_1 => [some ((tL (tT tI)) a0_basis, false), none, none, some ((tT tI) column_1, false)])) (xs := a0_basis) (ti_seq (a := a0_basis) seqL (tp_varW 0 (v := (tL (tT tI)) a0_basis) rfl)) (fun column_1 => rfl) (fun column_1 => (TG.pu (enc := id) tp_yes)) (fun column_1 => (tg_binPP (a := (List.map (fun (q_2 : (Int × Int)) => q_2.1) (List.filter (fun (q_2 : (Int × Int)) => (decide (q_2.2 ≠ 0))) (en column_1)))) (b := 0) (o_ix seqL) (tp_lc (e := (tP tI tI)) (eb := tI) (ue := (fun q_2 => [some ((tL (tT tI)) a0_basis, false), some (tI q_2.1, false), some (tI q_2.2, false), some ((tT tI) column_1, false)])) (xs := (en column_1)) (k := fun q_2 => (decide (q_2.2 ≠ 0))) (f := fun q_2 => q_2.1) (ti_en (a := column_1) seqT (tp_varW 3 (v := (tT tI) column_1) rfl)) (fun q_2 => rfl) (fun q_2 => (tp_B (b := (decide (q_2.2 ≠ 0))) (tp_bin (a := q_2.2) (b := 0) (o_ne cmp_I (by decide)) (tp_varW 2 (v := tI q_2.2) rfl) tp_c))) (fun q_2 => (tp_var 1 (v := tI q_2.1) rfl))) tp_c))))
@[irreducible] def t_kernel (a0_prime : Int) (a1_table : (List (List Int))) (a2_size : Int) : M (List (List Int)) :=
 (bi (t_reduced a0_prime a1_table a2_size) fun (basis_1 : (List (List Int))) =>
 (bi (t_lead_places basis_1) fun (leads_2 : (List Int)) =>
 (bi (pu ([] : (List (List Int)))) fun (found_3 : (List (List Int))) =>
 (bi (rgM 0 a2_size) fun l_18 => bi (forM (fun (free_6 : Int) (s_4 : (List (List Int))) =>
 (if (decide (free_6 ∈ leads_2)) = true then
 (pu s_4)
 else
 (bi (repM [0] a2_size) fun (column_7 : (List Int)) =>
 (bi (stM column_7 free_6 1) fun (column_8 : (List Int)) =>
 (bi (forM (fun (q_11 : ((List Int) × Int)) (s_9 : (List Int)) =>
 (bi (bi (bi (ixM q_11.1 free_6) fun x => pu (-x)) fun a_12 => (modM a_12 a0_prime)) fun (x_15 : Int) =>
 (bi (pu q_11.2) fun (j_16 : Int) =>
 (bi (stM s_9 j_16 x_15) fun (column_14 : (List Int)) =>
 (pu column_14))))) (List.zip basis_1 leads_2) column_8) fun (s_9 : (List Int)) =>
 (bi (appM s_4 s_9) fun (found_17 : (List (List Int))) =>
 (pu found_17))))))) l_18 found_3) fun (s_4 : (List (List Int))) =>
 (t_reduced a0_prime s_4 a2_size)))))
theorem tf_kernel (a0_prime : Int) (a1_table : (List (List Int))) (a2_size : Int) : TFn W_kernel [tI a0_prime, (tT (tT tI)) a1_table, tI a2_size] (t_kernel a0_prime a1_table a2_size) (tT (tT tI)) := by
  unfold W_kernel w_kernel t_kernel
  exact tf_run (ts_set 3 (enc := (tT (tT tI))) (tg_call (tf_reduced'1 a0_prime a1_table a2_size) (tpa_cons (v := tI a0_prime) (tp_var 0 (v := tI a0_prime) rfl) (tpa_cons (v := (tT (tT tI)) a1_table) (tp_var 1 (v := (tT (tT tI)) a1_table) rfl) (tpa_cons (v := tI a2_size) (tp_var 2 (v := tI a2_size) rfl) tpa_nil))) rfl) (fun basis_1 =>
 (ts_parG (o1 := false) (o2 := true) 4 5 (enc := (tL tI)) (encb := (tL (tT tI))) (tg_call (tf_lead_places basis_1) (tpa_cons (v := (tT (tT tI)) basis_1) (tp_var 3 (v := (tT (tT tI)) basis_1) rfl) tpa_nil) rfl) (TG.pu (enc := (tL (tT tI))) (a := ([] : (List (List Int)))) (tp_lst tpa_nil (len_ok 0 rfl (by decide)))) (fun leads_2 found_3 =>
 (ts_forM (enc := tI) (mk := (fun (s_4 : (List (List Int))) (j_5 : Jk) => [some (tI a0_prime, false), some ((tT (tT tI)) a1_table, false), some (tI a2_size, false), some ((tT (tT tI)) basis_1, false), some ((tL tI) leads_2, false), some ((tL (tT tI)) s_4, true), j_5 6, j_5 7, j_5 8, j_5 9])) (ub := (fun free_6 s_4 j_5 => [some (tI a0_prime, false), some ((tT (tT tI)) a1_table, false), some (tI a2_size, false), some ((tT (tT tI)) basis_1, false), some ((tL tI) leads_2, false), some ((tL (tT tI)) s_4, true), some (tI free_6, false), j_5 7, j_5 8, j_5 9])) (s0 := found_3) (ti_rg1 (i := a2_size) (tp_varW 2 (v := tI a2_size) rfl)) rfl (fun free_6 s_4 j_5 => rfl)
 (fun free_6 s_4 j_5 => (ts_ifxP (c := (decide (free_6 ∈ leads_2))) ex_L (tp_B (b := (decide (free_6 ∈ leads_2))) (tp_bin (a := free_6) (b := leads_2) (o_inL cmp_I (by decide)) (tp_varW 6 (v := tI free_6) rfl) (tp_varW 4 (v := (tL tI) leads_2) rfl)))
 (ts_cont (ct_Lx (s := s_4) rfl))
 (ts_nextS (ts_setO 7 (enc := (tL tI)) (tg_binPP (a := [0]) (b := a2_size) (o_repLL (e := tI)) (tp_lst (tpa_cons (v := tI 0) tp_c tpa_nil) (len_ok 1 rfl (by decide))) (tp_varW 2 (v := tI a2_size) rfl)) (fun column_7 =>
 (ts_setIxP 7 (enc := tI) (l := column_7) (x := 1) (j := free_6) rfl tp_c (tp_varW 6 (v := tI free_6) rfl) (fun column_8 =>
 (ts_forP (enc := (tP (tT tI) tI)) (mk := (fun (s_9 : (List Int)) (j_10 : Jk) => [some (tI a0_prime, false), some ((tT (tT tI)) a1_table, false), some (tI a2_size, false), some ((tT (tT tI)) basis_1, false), some ((tL tI) leads_2, false), some ((tL (tT tI)) s_4, true), some (tI free_6, false), some ((tL tI) s_9, true), j_10 8, j_10 9])) (ub := (fun q_11 s_9 j_10 => [some (tI a0_prime, false), some ((tT (tT tI)) a1_table, false), some (tI a2_size, false), some ((tT (tT tI)) basis_1, false), some ((tL tI) leads_2, false), some ((tL (tT tI)) s_4, true), some (tI free_6, false), some ((tL tI) s_9, true), some ((tT tI) q_11.1, false), some (tI q_11.2, false)])) (s0 := column_8) (xs := (List.zip basis_1 leads_2)) (ti_zip (a := basis_1) (b := leads_2) seqT seqL (tp_var 3 (v := (tT (tT tI)) basis_1) rfl) (tp_var 4 (v := (tL tI) leads_2) rfl)) rfl (fun q_11 s_9 j_10 => rfl)
 (fun q_11 s_9 j_10 => (ts_nx (ts_setIx 7 (enc := tI) (l := s_9) rfl (tg_binMP (b := a0_prime) o_mod (tg_un o_neg (tg_binPP (a := q_11.1) (b := free_6) (o_ix seqT) (tp_varW 8 (v := (tT tI) q_11.1) rfl) (tp_varW 6 (v := tI free_6) rfl))) (tp_varW 0 (v := tI a0_prime) rfl)) (TG.pu (enc := tI) (a := q_11.2) (tp_varW 9 (v := tI q_11.2) rfl)) (fun column_14 =>
 (ts_next (nx_L (s := column_14) rfl))))))
 (fun s_9 j_10 => (ts_nx (ts_appP 5 (enc := (tT tI)) (l := s_4) (x := s_9) rfl (tp_L (l_tuple seqL s_9) (tpa_cons (v := (tL tI) s_9) (tp_varW 7 (v := (tL tI) s_9) rfl) tpa_nil)) (fun found_17 =>
 (ts_next (nx_L (s := found_17) rfl))))))))))))))
 (fun s_4 j_5 => (ts_retD (tg_callW (pl_T (pl_T pl_I)) (tf_reduced a0_prime s_4 a2_size) (tpa_cons (v := tI a0_prime) (tp_varW 0 (v := tI a0_prime) rfl) (tpa_cons (v := (tL (tT tI)) s_4) (tp_varW 5 (v := (tL (tT tI)) s_4) rfl) (tpa_cons (v := tI a2_size) (tp_varW 2 (v := tI a2_size) rfl) tpa_nil))) rfl))))))))
@[irreducible] def t_solved (a0_prime : Int) (a1_table : (List (List Int))) (a2_size : Int) (a3_column : (List Int)) : M (Option (List Int)) :=
 (bi (nx (lcM (fun (q_1 : ((List Int) × Int)) => (pu true)) (fun (q_1 : ((List Int) × Int)) => (catM q_1.1 [q_1.2])) (List.zip a1_table a3_column) [])) fun (lines_2 : (List (List Int))) =>
 (bi (t_reduced a0_prime lines_2 (a2_size + 1)) fun (basis_3 : (List (List Int))) =>
 (bi (t_lead_places basis_3) fun (leads_4 : (List Int)) =>
 (if (decide (a2_size ∈ leads_4)) = true then
 (pu none)
 else
 (bi (repM [0] a2_size) fun (found_5 : (List Int)) =>
 (bi (forM (fun (q_8 : ((List Int) × Int)) (s_6 : (List Int)) =>
 (bi (ixM q_8.1 a2_size) fun (x_10 : Int) =>
 (bi (pu q_8.2) fun (j_11 : Int) =>
 (bi (stM s_6 j_11 x_10) fun (found_9 : (List Int)) =>
 (pu found_9))))) (List.zip basis_3 leads_4) found_5) fun (s_6 : (List Int)) =>
 (bi (t_kernel a0_prime a1_table a2_size) fun l_23 => bi (forM (fun (told_14 : (List Int)) (s_12 : (List Int)) =>
 (bi (bi (t_lead_places [told_14]) fun a_15 => (ixM a_15 0)) fun (spot_17 : Int) =>
 (bi (bi (ixM s_12 spot_17) fun a_18 => (pu (decide (a_18 ≠ 0)))) fun c => if c = true then
 (bi (bi (ixM s_12 spot_17) fun z_20 => t_taken_off a0_prime s_12 z_20 told_14) fun (found_22 : (List Int)) =>
 (pu found_22))
 else (pu s_12)))) l_23 s_6) fun (s_12 : (List Int)) =>
 (pu (some s_12)))))))))
theorem tf_solved (a0_prime : Int) (a1_table : (List (List Int))) (a2_size : Int) (a3_column : (List Int)) : TFn W_solved [tI a0_prime, (tT (tT tI)) a1_table, tI a2_size, (tT tI) a3_column] (t_solved a0_prime a1_table a2_size a3_column) (tO (tT tI)) := by
  unfold W_solved w_solved t_solved
  exact tf_run (ts_set 4 (enc := (tL (tT tI))) (tg_lcP (e := (tP (tT tI) tI)) (eb := (tT tI)) (ue := (fun q_1 => [some (tI a0_prime, false), some ((tT (tT tI)) a1_table, false), some (tI a2_size, false), some ((tT tI) a3_column, false), none, some ((tT tI) q_1.1, false), some (tI q_1.2, false), none, none, none, none, none, none])) (xs := (List.zip a1_table a3_column)) (ti_zip (a := a1_table) (b := a3_column) seqT seqT (tp_varW 1 (v := (tT (tT tI)) a1_table) rfl) (tp_varW 3 (v := (tT tI) a3_column) rfl)) (fun q_1 => rfl) (fun q_1 => (TG.pu (enc := id) tp_yes)) (fun q_1 => (tg_binPP (a := q_1.1) (b := [q_1.2]) (o_catT (e := tI)) (tp_varW 5 (v := (tT tI) q_1.1) rfl) (tp_tup (tpa_cons (v := tI q_1.2) (tp_var 6 (v := tI q_1.2) rfl) tpa_nil) (len_ok 1 rfl (by decide)))))) (fun lines_2 =>
 (ts_set 7 (enc := (tT (tT tI))) (tg_call (tf_reduced a0_prime lines_2 (a2_size + 1)) (tpa_cons (v := tI a0_prime) (tp_var 0 (v := tI a0_prime) rfl) (tpa_cons (v := (tL (tT tI)) lines_2) (tp_var 4 (v := (tL (tT tI)) lines_2) rfl) (tpa_cons (v := tI (a2_size + 1)) (tp_bin (a := a2_size) (b := 1) o_add (tp_varW 2 (v := tI a2_size) rfl) tp_c) tpa_nil))) rfl) (fun basis_3 =>
 (ts_set 8 (enc := (tL tI)) (tg_call (tf_lead_places basis_3) (tpa_cons (v := (tT (tT tI)) basis_3) (tp_var 7 (v := (tT (tT tI)) basis_3) rfl) tpa_nil) rfl) (fun leads_4 =>
 (ts_ifxP (c := (decide (a2_size ∈ leads_4))) ex_D (tp_B (b := (decide (a2_size ∈ leads_4))) (tp_bin (a := a2_size) (b := leads_4) (o_inL cmp_I (by decide)) (tp_varW 2 (v := tI a2_size) rfl) (tp_varW 8 (v := (tL tI) leads_4) rfl)))
 (ts_retDP (a := none) tp_c)
 (ts_nextS (ts_setO 9 (enc := (tL tI)) (tg_binPP (a := [0]) (b := a2_size) (o_repLL (e := tI)) (tp_lst (tpa_cons (v := tI 0) tp_c tpa_nil) (len_ok 1 rfl (by decide))) (tp_varW 2 (v := tI a2_size) rfl)) (fun found_5 =>
 (ts_forP (enc := (tP (tT tI) tI)) (mk := (fun (s_6 : (List Int)) (j_7 : Jk) => [some (tI a0_prime, false), some ((tT (tT tI)) a1_table, false), some (tI a2_size, false), some ((tT tI) a3_column, false), some ((tL (tT tI)) lines_2, false), j_7 5, none, some ((tT (tT tI)) basis_3, false), some ((tL tI) leads_4, false), some ((tL tI) s_6, true), j_7 10, none, none])) (ub := (fun q_8 s_6 j_7 => [some (tI a0_prime, false), some ((tT (tT tI)) a1_table, false), some (tI a2_size, false), some ((tT tI) a3_column, false), some ((tL (tT tI)) lines_2, false), some ((tT tI) q_8.1, false), none, some ((tT (tT tI)) basis_3, false), some ((tL tI) leads_4, false), some ((tL tI) s_6, true), some (tI q_8.2, false), none, none])) (s0 := found_5) (xs := (List.zip basis_3 leads_4)) (ti_zip (a := basis_3) (b := leads_4) seqT seqL (tp_var 7 (v := (tT (tT tI)) basis_3) rfl) (tp_var 8 (v := (tL tI) leads_4) rfl)) rfl (fun q_8 s_6 j_7 => rfl)
 (fun q_8 s_6 j_7 => (ts_nx (ts_setIx 9 (enc := tI) (l := s_6) rfl (tg_binPP (a := q_8.1) (b := a2_size) (o_ix seqT) (tp_varW 5 (v := (tT tI) q_8.1) rfl) (tp_varW 2 (v := tI a2_size) rfl)) (TG.pu (enc := tI) (a := q_8.2) (tp_varW 10 (v := tI q_8.2) rfl)) (fun found_9 =>
 (ts_next (nx_L (s := found_9) rfl))))))
 (fun s_6 j_7 => (ts_forM (enc := (tT tI)) (mk := (fun (s_12 : (List Int)) (j_13 : Jk) => [some (tI a0_prime, false), some ((tT (tT tI)) a1_table, false), some (tI a2_size, false), some ((tT tI) a3_column, false), some ((tL (tT tI)) lines_2, false), j_7 5, none, some ((tT (tT tI)) basis_3, false), some ((tL tI) leads_4, false), some ((tL tI) s_12, true), j_7 10, j_13 11, j_13 12])) (ub := (fun told_14 s_12 j_13 => [some (tI a0_prime, false), some ((tT (tT tI)) a1_table, false), some (tI a2_size, false), some ((tT tI) a3_column, false), some ((tL (tT tI)) lines_2, false), j_7 5, none, some ((tT (tT tI)) basis_3, false), some ((tL tI) leads_4, false), some ((tL tI) s_12, true), j_7 10, some ((tT tI) told_14, false), j_13 12])) (s0 := s_6) (ti_seqM seqT (tg_call (tf_kernel a0_prime a1_table a2_size) (tpa_cons (v := tI a0_prime) (tp_var 0 (v := tI a0_prime) rfl) (tpa_cons (v := (tT (tT tI)) a1_table) (tp_var 1 (v := (tT (tT tI)) a1_table) rfl) (tpa_cons (v := tI a2_size) (tp_var 2 (v := tI a2_size) rfl) tpa_nil))) rfl)) rfl (fun told_14 s_12 j_13 => rfl)
 (fun told_14 s_12 j_13 => (ts_set 12 (enc := tI) (tg_binMP (b := 0) (o_ix seqL) (tg_call (tf_lead_places'1 [told_14]) (tpa_cons (v := (tL (tT tI)) [told_14]) (tp_lst (tpa_cons (v := (tT tI) told_14) (tp_var 11 (v := (tT tI) told_14) rfl) tpa_nil) (len_ok 1 rfl (by decide))) tpa_nil) rfl) tp_c) (fun spot_17 =>
 (ts_ife (tg_B (tg_binMP (b := 0) (O2P.m (o_ne cmp_I (by decide))) (tg_binPP (a := s_12) (b := spot_17) (o_ix seqL) (tp_varW 9 (v := (tL tI) s_12) rfl) (tp_varW 12 (v := tI spot_17) rfl)) tp_c))
 (ts_nx (ts_setO 9 (enc := (tL tI)) (tg_L1 (eb := (tL tI)) (fun z_21 => l_list seqT z_21) (tga_last (tg_callWM (pl_T pl_I) (fun (z_20 : Int) => tf_taken_off'1 a0_prime s_12 z_20 told_14) (tga_consP (v := tI a0_prime) (tp_varW 0 (v := tI a0_prime) rfl) (tga_consP (v := (tL tI) s_12) (tp_varW 9 (v := (tL tI) s_12) rfl) (tga_last (tg_binPP (a := s_12) (b := spot_17) (o_ix seqL) (tp_varW 9 (v := (tL tI) s_12) rfl) (tp_varW 12 (v := tI spot_17) rfl)) (tpa_cons (v := (tT tI) told_14) (tp_varW 11 (v := (tT tI) told_14) rfl) tpa_nil)))) (fun _ => rfl)) tpa_nil)) (fun found_22 =>
 (ts_next (nx_L (s := found_22) rfl)))))
 (ts_next (nx_L (s := s_12) rfl))))))
 (fun s_12 j_13 => (ts_retDP (a := (some s_12)) (tp_L (l_tuple seqL s_12) (tpa_cons (v := (tL tI) s_12) (tp_varW 9 (v := (tL tI) s_12) rfl) tpa_nil)))))))))))))))))
@[irreducible] def t_turned_back (a0_prime : Int) (a1_table : (List (List Int))) : M (Option (List (List Int))) :=
 (bi (pu ((List.length a1_table : Nat) : Int)) fun (size_1 : Int) =>
 (bi (if (!(a1_table).isEmpty) = true then (bi (bi (ixM a1_table 0) fun z_2 => pu ((List.length z_2 : Nat) : Int)) fun a_3 => (pu (decide (a_3 ≠ size_1)))) else (pu false)) fun c => if c = true then
 (pu none)
 else
 (bi (bi (bi (t_still_table size_1) fun b => pu (List.zip a1_table b)) fun l_6 => (nx (lcM (fun (q_5 : ((List Int) × (List Int))) => (pu true)) (fun (q_5 : ((List Int) × (List Int))) => (catM q_5.1 q_5.2)) l_6 []))) fun (lines_7 : (List (List Int))) =>
 (bi (bi (mulM 2 size_1) fun z_8 => t_reduced a0_prime lines_7 z_8) fun (basis_9 : (List (List Int))) =>
 (bi (bi (t_lead_places basis_9) fun a_10 => bi (rgM 0 size_1) fun b_11 => (pu (decide (a_10 ≠ b_11)))) fun c => if c = true then
 (pu none)
 else
 (pu (some (List.map (fun (line_12 : (List Int)) => (cut line_12 (some size_1) none)) basis_9))))))))
theorem tf_turned_back (a0_prime : Int) (a1_table : (List (List Int))) : TFn W_turned_back [tI a0_prime, (tT (tT tI)) a1_table] (t_turned_back a0_prime a1_table) (tO (tT (tT tI))) := by
  unfold W_turned_back w_turned_back t_turned_back
  exact tf_run (ts_set 2 (enc := tI) (TG.pu (enc := tI) (a := ((List.length a1_table : Nat) : Int)) (tp_L (l_len seqT a1_table) (tpa_cons (v := (tT (tT tI)) a1_table) (tp_varW 1 (v := (tT (tT tI)) a1_table) rfl) tpa_nil))) (fun size_1 =>
 (ts_ifx ex_D (tg_andP (b := (!(a1_table).isEmpty)) (tp_truT (e := (tT tI)) (l := a1_table) (tp_varW 1 (v := (tT (tT tI)) a1_table) rfl)) (tg_B (tg_binMP (b := size_1) (O2P.m (o_ne cmp_I (by decide))) (tg_L (f := fun z_2 => ((List.length z_2 : Nat) : Int)) (eb := tI) (fun z_2 => l_len seqT z_2) (tga_last (tg_binPP (a := a1_table) (b := 0) (o_ix seqT) (tp_varW 1 (v := (tT (tT tI)) a1_table) rfl) tp_c) tpa_nil)) (tp_varW 2 (v := tI size_1) rfl))))
 (ts_retDP (a := none) tp_c)
 (ts_nextS (ts_set 3 (enc := (tL (tT tI))) (tg_lcM (e := (tP (tT tI) (tT tI))) (eb := (tT tI)) (ue := (fun q_5 => [some (tI a0_prime, false), some ((tT (tT tI)) a1_table, false), some (tI size_1, false), none, some ((tT tI) q_5.1, false), some ((tT tI) q_5.2, false), none])) (ti_zipPM (a := a1_table) seqT seqT (tp_varW 1 (v := (tT (tT tI)) a1_table) rfl) (tg_call (tf_still_table size_1) (tpa_cons (v := tI size_1) (tp_var 2 (v := tI size_1) rfl) tpa_nil) rfl)) (fun q_5 => rfl) (fun q_5 => (TG.pu (enc := id) tp_yes)) (fun q_5 => (tg_binPP (a := q_5.1) (b := q_5.2) (o_catT (e := tI)) (tp_varW 4 (v := (tT tI) q_5.1) rfl) (tp_varW 5 (v := (tT tI) q_5.2) rfl)))) (fun lines_7 =>
 (ts_set 6 (enc := (tT (tT tI))) (tg_callM (fun (z_8 : Int) => tf_reduced a0_prime lines_7 z_8) (tga_consP (v := tI a0_prime) (tp_var 0 (v := tI a0_prime) rfl) (tga_consP (v := (tL (tT tI)) lines_7) (tp_var 3 (v := (tL (tT tI)) lines_7) rfl) (tga_last (tg_binPP (a := 2) (b := size_1) o_mul tp_c (tp_varW 2 (v := tI size_1) rfl)) tpa_nil))) (fun _ => rfl)) (fun basis_9 =>
 (ts_ifx ex_D (tg_B (tg_binMM (O2P.m (o_ne (cmp_L cmp_I) (by decide))) (tg_call (tf_lead_places basis_9) (tpa_cons (v := (tT (tT tI)) basis_9) (tp_var 6 (v := (tT (tT tI)) basis_9) rfl) tpa_nil) rfl) (tg_lstRg (i := size_1) (tp_varW 2 (v := tI size_1) rfl))))
 (ts_retDP (a := none) tp_c)
 (ts_nextS (ts_retDP (a := (some (List.map (fun (line_12 : (List Int)) => (cut line_12 (some size_1) none)) basis_9))) (tp_L (l_tuple seqL (List.map (fun (line_12 : (List Int)) => (cut line_12 (some size_1) none)) basis_9)) (tpa_cons (v := (tL (tT tI)) (List.map (fun (line_12 : (List Int)) => (cut line_12 (some size_1) none)) basis_9)) (tp_lc1 (e := (tT tI)) (eb := (tT tI)) (ue := (fun line_12 => [some (tI a0_prime, false), some ((tT (tT tI)) a1_table, false), some (tI size_1, false), some ((tL (tT tI)) lines_7, false), some ((tT tI) line_12, false), none, some ((tT (tT tI)) basis_9, false)])) (xs := basis_9) (f := fun line_12 => (cut line_12 (some size_1) none)) (ti_seq (a := basis_9) seqT (tp_varW 6 (v := (tT (tT tI)) basis_9) rfl)) (fun line_12 => rfl) (fun line_12 => (tp_slT (e := tI) (a := line_12) (lo := (some size_1)) (hi := none) (tp_varW 4 (v := (tT tI) line_12) rfl) (tp_P (i := size_1) (tp_varW 2 (v := tI size_1) rfl)) tp_noP))) tpa_nil)))))))))))))
@[irreducible] def t__law_begun (a0_script : (List Int)) (a1_k : Int) : M Unit :=
 (bi (catM (cut a0_script (some a1_k) none) (cut a0_script none (some a1_k))) fun (cells_1 : (List Int)) =>
 (bi (nx (lcM (fun (cell_2 : Int) => (bi (powM 10 18) fun b_4 => (pu (gGe cell_2 b_4)))) (fun (cell_2 : Int) => (pu cell_2)) cells_1 [])) fun (great_5 : (List Int)) =>
 (bi (pu (71 + a1_k)) fun (seed_6 : Int) =>
 (bi (forM (fun (cell_9 : Int) (s_7 : Int) =>
 (bi (bi (bi (mulM s_7 48271) fun a_10 => (pu (a_10 + cell_9))) fun a_13 => (modM a_13 2147483647)) fun (seed_15 : Int) =>
 (pu seed_15))) cells_1 seed_6) fun (s_7 : Int) =>
 (bi (if (decide (great_5 ≠ ([] : (List Int)))) = true then (ixM great_5 0) else (pu 0)) fun i => bi (pu s_7) fun j => bi (bi (bi (bi (mulM 53 a1_k) fun a_16 => (pu (a_16 + 11))) fun z_18 => pu [z_18]) fun b_20 => (catM cells_1 b_20)) fun cs => begM i j cs)))))
theorem tf__law_begun (a0_script : (List Int)) (a1_k : Int) : TFn W__law_begun [(tZ tI) a0_script, tI a1_k] (t__law_begun a0_script a1_k) tG := by
  unfold W__law_begun w__law_begun t__law_begun
  exact tf_run (ts_set 2 (enc := (tL tI)) (tg_binPP (a := (cut a0_script (some a1_k) none)) (b := (cut a0_script none (some a1_k))) (o_catL (e := tI)) (tp_slZ (e := tI) (a := a0_script) (lo := (some a1_k)) (hi := none) (tp_varW 0 (v := (tZ tI) a0_script) rfl) (tp_P (i := a1_k) (tp_varW 1 (v := tI a1_k) rfl)) tp_noP) (tp_slZ (e := tI) (a := a0_script) (lo := none) (hi := (some a1_k)) (tp_varW 0 (v := (tZ tI) a0_script) rfl) tp_noP (tp_P (i := a1_k) (tp_varW 1 (v := tI a1_k) rfl)))) (fun cells_1 =>
 (ts_set 3 (enc := (tL tI)) (tg_lcP (e := tI) (eb := tI) (ue := (fun cell_2 => [some ((tZ tI) a0_script, false), some (tI a1_k, false), some ((tL tI) cells_1, false), none, some (tI cell_2, false), none])) (xs := cells_1) (ti_seq (a := cells_1) seqL (tp_varW 2 (v := (tL tI) cells_1) rfl)) (fun cell_2 => rfl) (fun cell_2 => (tg_B (tg_binPM (a := cell_2) (O2P.m (o_cmp gGe)) (tp_varW 4 (v := tI cell_2) rfl) (tg_binPP (a := 10) (b := 18) o_pow tp_c tp_c)))) (fun cell_2 => (TG.pu (enc := tI) (a := cell_2) (tp_var 4 (v := tI cell_2) rfl)))) (fun great_5 =>
 (ts_set 5 (enc := tI) (TG.pu (enc := tI) (a := (71 + a1_k)) (tp_bin (a := 71) (b := a1_k) o_add tp_c (tp_varW 1 (v := tI a1_k) rfl))) (fun seed_6 =>
 (ts_forP (enc := tI) (mk := (fun (s_7 : Int) (j_8 : Jk) => [some ((tZ tI) a0_script, false), some (tI a1_k, false), some ((tL tI) cells_1, false), some ((tL tI) great_5, false), j_8 4, some (tI s_7, false)])) (ub := (fun cell_9 s_7 j_8 => [some ((tZ tI) a0_script, false), some (tI a1_k, false), some ((tL tI) cells_1, false), some ((tL tI) great_5, false), some (tI cell_9, false), some (tI s_7, false)])) (s0 := seed_6) (xs := cells_1) (ti_seq (a := cells_1) seqL (tp_var 2 (v := (tL tI) cells_1) rfl)) rfl (fun cell_9 s_7 j_8 => rfl)
 (fun cell_9 s_7 j_8 => (ts_nx (ts_set 5 (enc := tI) (tg_binMP (b := 2147483647) o_mod (tg_L1 (eb := tI) (fun z_12 => l_intI z_12) (tga_last (tg_binMP (b := cell_9) (O2P.m o_add) (tg_binPP (a := s_7) (b := 48271) o_mul (tp_varW 5 (v := tI s_7) rfl) tp_c) (tp_varW 4 (v := tI cell_9) rfl)) tpa_nil)) tp_c) (fun seed_15 =>
 (ts_next (nx_L (s := seed_15) rfl))))))
 (fun s_7 j_8 => (ts_retD (tg_beg (tg_ifP (e := tI) (b := (decide (great_5 ≠ ([] : (List Int))))) (tp_B (b := (decide (great_5 ≠ ([] : (List Int))))) (tp_bin (a := great_5) (b := ([] : (List Int))) (o_ne (cmp_L cmp_I) (by decide)) (tp_varW 3 (v := (tL tI) great_5) rfl) (tp_lst tpa_nil (len_ok 0 rfl (by decide))))) (tg_binPP (a := great_5) (b := 0) (o_ix seqL) (tp_varW 3 (v := (tL tI) great_5) rfl) tp_c) (TG.pu (enc := tI) (a := 0) tp_c)) (TG.pu (enc := tI) (a := s_7) (tp_varW 5 (v := tI s_7) rfl)) (tg_binPM (a := cells_1) (o_catL (e := tI)) (tp_varW 2 (v := (tL tI) cells_1) rfl) (tg_lst (f := fun z_18 => [z_18]) (eb := (tL tI)) (tga_last (tg_binMP (b := 11) (O2P.m o_add) (tg_binPP (a := 53) (b := a1_k) o_mul tp_c (tp_varW 1 (v := tI a1_k) rfl)) tp_c) tpa_nil) (fun _ => len_ok 1 rfl (by decide)) (fun _ => rfl)))))))))))))
@[irreducible] def t__law_of (a0_m : Unit) (a1_some : (List Int)) : M Int :=
 (bi (dr ((List.length a1_some : Nat) : Int)) fun b_2 => (ixM a1_some b_2))
theorem tf__law_of (a0_m : Unit) (a1_some : (List Int)) : TFn W__law_of [tG a0_m, (tL tI) a1_some] (t__law_of a0_m a1_some) tI := by
  unfold W__law_of w__law_of t__law_of
  exact tf_run (ts_retD (tg_binPM (a := a1_some) (o_ix seqL) (tp_varW 1 (v := (tL tI) a1_some) rfl) (tg_call (tf_draw a0_m ((List.length a1_some : Nat) : Int)) (tpa_cons (v := tG a0_m) (tp_var 0 (v := tG a0_m) rfl) (tpa_cons (v := tI ((List.length a1_some : Nat) : Int)) (tp_L (l_len seqL a1_some) (tpa_cons (v := (tL tI) a1_some) (tp_varW 1 (v := (tL tI) a1_some) rfl) tpa_nil)) tpa_nil)) rfl)))
@[irreducible] def t__law_of'1 (a0_m : Unit) (a1_some : (List (List Int))) : M (List Int) :=
 (bi (dr ((List.length a1_some : Nat) : Int)) fun b_2 => (ixM a1_some b_2))
theorem tf__law_of'1 (a0_m : Unit) (a1_some : (List (List Int))) : TFn W__law_of [tG a0_m, (tL (tT tI)) a1_some] (t__law_of'1 a0_m a1_some) (tT tI) := by
  unfold W__law_of w__law_of t__law_of'1
  exact tf_run (ts_retD (tg_binPM (a := a1_some) (o_ix seqL) (tp_varW 1 (v := (tL (tT tI)) a1_some) rfl) (tg_call (tf_draw a0_m ((List.length a1_some : Nat) : Int)) (tpa_cons (v := tG a0_m) (tp_var 0 (v := tG a0_m) rfl) (tpa_cons (v := tI ((List.length a1_some : Nat) : Int)) (tp_L (l_len seqL a1_some) (tpa_cons (v := (tL (tT tI)) a1_some) (tp_varW 1 (v := (tL (tT tI)) a1_some) rfl) tpa_nil)) tpa_nil)) rfl)))
@[irreducible] def t__law_shuffled (a0_m : Unit) (a1_count : Int) : M (List Int) :=
 (bi (rgM 0 a1_count) fun (left_1 : (List Int)) =>
 (bi (pu ([] : (List Int))) fun (found_2 : (List Int)) =>
 (bi (rgM 0 a1_count) fun l_10 => bi (forM (fun (k_5 : Int) (s_3 : (List Int) × (List Int)) =>
 (bi (t__law_of a0_m s_3.1) fun (one_6 : Int) =>
 (bi (pu (List.map (fun (other_7 : Int) => other_7) (List.filter (fun (other_7 : Int) => (decide (other_7 ≠ one_6))) s_3.1))) fun (left_8 : (List Int)) =>
 (bi (appM s_3.2 one_6) fun (found_9 : (List Int)) =>
 (pu (left_8, found_9)))))) l_10 (left_1, found_2)) fun (s_3 : (List Int) × (List Int)) =>
 (pu s_3.2))))
theorem tf__law_shuffled (a0_m : Unit) (a1_count : Int) : TFn W__law_shuffled [tG a0_m, tI a1_count] (t__law_shuffled a0_m a1_count) (tT tI) := by
  unfold W__law_shuffled w__law_shuffled t__law_shuffled
  exact tf_run (ts_parG (o1 := false) (o2 := true) 2 3 (enc := (tL tI)) (encb := (tL tI)) (tg_lstRg (i := a1_count) (tp_varW 1 (v := tI a1_count) rfl)) (TG.pu (enc := (tL tI)) (a := ([] : (List Int))) (tp_lst tpa_nil (len_ok 0 rfl (by decide)))) (fun left_1 found_2 =>
 (ts_forM (enc := tI) (mk := (fun (s_3 : (List Int) × (List Int)) (j_4 : Jk) => [some (tG a0_m, false), some (tI a1_count, false), some ((tL tI) s_3.1, false), some ((tL tI) s_3.2, true), j_4 4, j_4 5, none])) (ub := (fun k_5 s_3 j_4 => [some (tG a0_m, false), some (tI a1_count, false), some ((tL tI) s_3.1, false), some ((tL tI) s_3.2, true), some (tI k_5, false), j_4 5, none])) (s0 := (left_1, found_2)) (ti_rg1 (i := a1_count) (tp_varW 1 (v := tI a1_count) rfl)) rfl (fun k_5 s_3 j_4 => rfl)
 (fun k_5 s_3 j_4 => (ts_set 5 (enc := tI) (tg_call (tf__law_of a0_m s_3.1) (tpa_cons (v := tG a0_m) (tp_var 0 (v := tG a0_m) rfl) (tpa_cons (v := (tL tI) s_3.1) (tp_var 2 (v := (tL tI) s_3.1) rfl) tpa_nil)) rfl) (fun one_6 =>
 (ts_set 2 (enc := (tL tI)) (TG.pu (enc := (tL tI)) (a := (List.map (fun (other_7 : Int) => other_7) (List.filter (fun (other_7 : Int) => (decide (other_7 ≠ one_6))) s_3.1))) (tp_lc (e := tI) (eb := tI) (ue := (fun other_7 => [some (tG a0_m, false), some (tI a1_count, false), some ((tL tI) s_3.1, false), some ((tL tI) s_3.2, true), some (tI k_5, false), some (tI one_6, false), some (tI other_7, false)])) (xs := s_3.1) (k := fun other_7 => (decide (other_7 ≠ one_6))) (f := fun other_7 => other_7) (ti_seq (a := s_3.1) seqL (tp_varW 2 (v := (tL tI) s_3.1) rfl)) (fun other_7 => rfl) (fun other_7 => (tp_B (b := (decide (other_7 ≠ one_6))) (tp_bin (a := other_7) (b := one_6) (o_ne cmp_I (by decide)) (tp_varW 6 (v := tI other_7) rfl) (tp_varW 5 (v := tI one_6) rfl)))) (fun other_7 => (tp_var 6 (v := tI other_7) rfl)))) (fun left_8 =>
 (ts_nx (ts_appP 3 (enc := tI) (l := s_3.2) (x := one_6) rfl (tp_var 5 (v := tI one_6) rfl) (fun found_9 =>
 (ts_next (nx_L (s := (left_8, found_9)) rfl))))))))))
 (fun s_3 j_4 => (ts_retDP (a := s_3.2) (tp_L (l_tuple seqL s_3.2) (tpa_cons (v := (tL tI) s_3.2) (tp_varW 3 (v := (tL tI) s_3.2) rfl) tpa_nil)))))))
@[irreducible] def t__law_like (a0_got : (Option (List Int))) (a1_due : (Option (List Int))) : M Bool :=
 (likeM ((tO (tT tI)) a0_got) ((tO (tT tI)) a1_due))
theorem tf__law_like (a0_got : (Option (List Int))) (a1_due : (Option (List Int))) : TFn W__law_like [(tO (tT tI)) a0_got, (tO (tT tI)) a1_due] (t__law_like a0_got a1_due) Ty.tB := by
  unfold W__law_like w__law_like t__law_like
  exact tf_run (ts_retD (tg_like (x := ((tO (tT tI)) a0_got)) (y := ((tO (tT tI)) a1_due)) (tp_varW 0 (v := (tO (tT tI)) a0_got) rfl) (tp_varW 1 (v := (tO (tT tI)) a1_due) rfl)))
@[irreducible] def t__law_like'1 (a0_got : (List (List (List Int)))) (a1_due : (List (List (List Int)))) : M Bool :=
 (likeM ((tL (tT (tT tI))) a0_got) ((tL (tT (tT tI))) a1_due))
theorem tf__law_like'1 (a0_got : (List (List (List Int)))) (a1_due : (List (List (List Int)))) : TFn W__law_like [(tL (tT (tT tI))) a0_got, (tL (tT (tT tI))) a1_due] (t__law_like'1 a0_got a1_due) Ty.tB := by
  unfold W__law_like w__law_like t__law_like'1
  exact tf_run (ts_retD (tg_like (x := ((tL (tT (tT tI))) a0_got)) (y := ((tL (tT (tT tI))) a1_due)) (tp_varW 0 (v := (tL (tT (tT tI))) a0_got) rfl) (tp_varW 1 (v := (tL (tT (tT tI))) a1_due) rfl)))
@[irreducible] def t__law_like'2 (a0_got : (List (List Int))) (a1_due : (List (List Int))) : M Bool :=
 (likeM ((tT (tT tI)) a0_got) ((tT (tT tI)) a1_due))
theorem tf__law_like'2 (a0_got : (List (List Int))) (a1_due : (List (List Int))) : TFn W__law_like [(tT (tT tI)) a0_got, (tT (tT tI)) a1_due] (t__law_like'2 a0_got a1_due) Ty.tB := by
  unfold W__law_like w__law_like t__law_like'2
  exact tf_run (ts_retD (tg_like (x := ((tT (tT tI)) a0_got)) (y := ((tT (tT tI)) a1_due)) (tp_varW 0 (v := (tT (tT tI)) a0_got) rfl) (tp_varW 1 (v := (tT (tT tI)) a1_due) rfl)))
@[irreducible] def t__law_like'3 (a0_got : (List U)) (a1_due : (List U)) : M Bool :=
 (likeM ((tL tU) a0_got) ((tL tU) a1_due))
theorem tf__law_like'3 (a0_got : (List U)) (a1_due : (List U)) : TFn W__law_like [(tL tU) a0_got, (tL tU) a1_due] (t__law_like'3 a0_got a1_due) Ty.tB := by
  unfold W__law_like w__law_like t__law_like'3
  exact tf_run (ts_retD (tg_like (x := ((tL tU) a0_got)) (y := ((tL tU) a1_due)) (tp_varW 0 (v := (tL tU) a0_got) rfl) (tp_varW 1 (v := (tL tU) a1_due) rfl)))
@[irreducible] def t__law_back (a0_p : Int) (a1_x : Int) : M Int :=
 (bi (bi (rgM 1 a0_p) fun l_7 => (nx (lcM (fun (k_1 : Int) => (bi (bi (mulM k_1 a1_x) fun a_3 => (modM a_3 a0_p)) fun a_5 => (pu (decide (a_5 = 1))))) (fun (k_1 : Int) => (pu k_1)) l_7 []))) fun a_8 => (ixM a_8 0))
theorem tf__law_back (a0_p : Int) (a1_x : Int) : TFn W__law_back [tI a0_p, tI a1_x] (t__law_back a0_p a1_x) tI := by
  unfold W__law_back w__law_back t__law_back
  exact tf_run (ts_retD (tg_binMP (b := 0) (o_ix seqL) (tg_lcM (e := tI) (eb := tI) (ue := (fun k_1 => [some (tI a0_p, false), some (tI a1_x, false), some (tI k_1, false)])) (ti_rg2 (i := 1) (j := a0_p) tp_c (tp_varW 0 (v := tI a0_p) rfl)) (fun k_1 => rfl) (fun k_1 => (tg_B (tg_binMP (b := 1) (O2P.m (o_eq cmp_I (by decide))) (tg_binMP (b := a0_p) o_mod (tg_L1 (eb := tI) (fun z_2 => l_intI z_2) (tga_last (tg_binPP (a := k_1) (b := a1_x) o_mul (tp_varW 2 (v := tI k_1) rfl) (tp_varW 1 (v := tI a1_x) rfl)) tpa_nil)) (tp_varW 0 (v := tI a0_p) rfl)) tp_c))) (fun k_1 => (TG.pu (enc := tI) (a := k_1) (tp_var 2 (v := tI k_1) rfl)))) tp_c))
@[irreducible] def t__law_off (a0_p : Int) (a1_row : (List Int)) (a2_first : (List Int)) (a3_spot : Int) : M (List Int) :=
 (bi (ixM a1_row a3_spot) fun (k_1 : Int) =>
 (bi (rgM 0 ((List.length a1_row : Nat) : Int)) fun l_10 => (nx (lcM (fun (j_2 : Int) => (pu true)) (fun (j_2 : Int) => (bi (bi (ixM a1_row j_2) fun a_5 => bi (bi (ixM a2_first j_2) fun b_4 => (mulM k_1 b_4)) fun b_6 => (pu (a_5 - b_6))) fun a_8 => (modM a_8 a0_p))) l_10 []))))
theorem tf__law_off (a0_p : Int) (a1_row : (List Int)) (a2_first : (List Int)) (a3_spot : Int) : TFn W__law_off [tI a0_p, (tT tI) a1_row, (tT tI) a2_first, tI a3_spot] (t__law_off a0_p a1_row a2_first a3_spot) (tT tI) := by
  unfold W__law_off w__law_off t__law_off
  exact tf_run (ts_set 4 (enc := tI) (tg_binPP (a := a1_row) (b := a3_spot) (o_ix seqT) (tp_varW 1 (v := (tT tI) a1_row) rfl) (tp_varW 3 (v := tI a3_spot) rfl)) (fun k_1 =>
 (ts_retD (tg_L1 (eb := (tT tI)) (fun z_11 => l_tuple seqL z_11) (tga_last (tg_lcM (e := tI) (eb := tI) (ue := (fun j_2 => [some (tI a0_p, false), some ((tT tI) a1_row, false), some ((tT tI) a2_first, false), some (tI a3_spot, false), some (tI k_1, false), some (tI j_2, false)])) (ti_rg1 (i := ((List.length a1_row : Nat) : Int)) (tp_L (l_len seqT a1_row) (tpa_cons (v := (tT tI) a1_row) (tp_varW 1 (v := (tT tI) a1_row) rfl) tpa_nil))) (fun j_2 => rfl) (fun j_2 => (TG.pu (enc := id) tp_yes)) (fun j_2 => (tg_binMP (b := a0_p) o_mod (tg_L1 (eb := tI) (fun z_7 => l_intI z_7) (tga_last (tg_binMM (O2P.m o_sub) (tg_binPP (a := a1_row) (b := j_2) (o_ix seqT) (tp_varW 1 (v := (tT tI) a1_row) rfl) (tp_varW 5 (v := tI j_2) rfl)) (tg_binPM (a := k_1) o_mul (tp_varW 4 (v := tI k_1) rfl) (tg_binPP (a := a2_first) (b := j_2) (o_ix seqT) (tp_varW 2 (v := (tT tI) a2_first) rfl) (tp_varW 5 (v := tI j_2) rfl)))) tpa_nil)) (tp_varW 0 (v := tI a0_p) rfl)))) tpa_nil)))))
@[irreducible] def t__law_reduced (a0_p : Int) (a1_rows : (List (List Int))) (a2_size_so : Int) : M (List (List Int)) :=
 (bi (pu (List.map (fun (row_1 : (List Int)) => row_1) a1_rows)) fun (left_2 : (List (List Int))) =>
 (bi (pu ([] : (List (List Int)))) fun (found_3 : (List (List Int))) =>
 (bi (rgM 0 a2_size_so) fun l_35 => bi (forM (fun (spot_6 : Int) (s_4 : (List (List Int)) × (List (List Int))) =>
 (bi (bi (rgM 0 ((List.length s_4.1 : Nat) : Int)) fun l_12 => (nx (lcM (fun (k_7 : Int) => (bi (bi (ixM s_4.1 k_7) fun a_8 => (ixM a_8 spot_6)) fun a_10 => (pu (decide (a_10 ≠ 0))))) (fun (k_7 : Int) => (pu k_7)) l_12 []))) fun (some_13 : (List Int)) =>
 (if (decide (some_13 ≠ ([] : (List Int)))) = true then
 (bi (bi (ixM some_13 0) fun b_15 => (ixM s_4.1 b_15)) fun (first_16 : (List Int)) =>
 (bi (bi (ixM first_16 spot_6) fun z_17 => t__law_back a0_p z_17) fun (times_18 : Int) =>
 (bi (nx (lcM (fun (x_19 : Int) => (pu true)) (fun (x_19 : Int) => (bi (mulM times_18 x_19) fun a_21 => (modM a_21 a0_p))) first_16 [])) fun (first_24 : (List Int)) =>
 (bi (bi (rgM 0 ((List.length s_4.1 : Nat) : Int)) fun l_29 => (nx (lcM (fun (k_25 : Int) => (bi (ixM some_13 0) fun b_28 => (pu (decide (k_25 ≠ b_28))))) (fun (k_25 : Int) => (bi (ixM s_4.1 k_25) fun z_26 => t__law_off a0_p z_26 first_24 spot_6)) l_29 []))) fun (left_30 : (List (List Int))) =>
 (bi (bi (nx (lcM (fun (row_31 : (List Int)) => (pu true)) (fun (row_31 : (List Int)) => (t__law_off a0_p row_31 first_24 spot_6)) s_4.2 [])) fun a_32 => (catM a_32 [first_24])) fun (found_34 : (List (List Int))) =>
 (pu (left_30, found_34)))))))
 else (pu (s_4.1, s_4.2))))) l_35 (left_2, found_3)) fun (s_4 : (List (List Int)) × (List (List Int))) =>
 (pu s_4.2))))
theorem tf__law_reduced (a0_p : Int) (a1_rows : (List (List Int))) (a2_size_so : Int) : TFn W__law_reduced [tI a0_p, (tT (tT tI)) a1_rows, tI a2_size_so] (t__law_reduced a0_p a1_rows a2_size_so) (tT (tT tI)) := by
  unfold W__law_reduced w__law_reduced t__law_reduced
  exact tf_run (ts_par 3 4 (enc := (tL (tT tI))) (encb := (tL (tT tI))) (TG.pu (enc := (tL (tT tI))) (a := (List.map (fun (row_1 : (List Int)) => row_1) a1_rows)) (tp_lc1 (e := (tT tI)) (eb := (tT tI)) (ue := (fun row_1 => [some (tI a0_p, false), some ((tT (tT tI)) a1_rows, false), some (tI a2_size_so, false), none, none, some ((tT tI) row_1, false), none, none, none, none, none, none])) (xs := a1_rows) (f := fun row_1 => row_1) (ti_seq (a := a1_rows) seqT (tp_varW 1 (v := (tT (tT tI)) a1_rows) rfl)) (fun row_1 => rfl) (fun row_1 => (tp_L (l_tuple seqT row_1) (tpa_cons (v := (tT tI) row_1) (tp_varW 5 (v := (tT tI) row_1) rfl) tpa_nil))))) (TG.pu (enc := (tL (tT tI))) (a := ([] : (List (List Int)))) (tp_lst tpa_nil (len_ok 0 rfl (by decide)))) (fun left_2 found_3 =>
 (ts_forM (enc := tI) (mk := (fun (s_4 : (List (List Int)) × (List (List Int))) (j_5 : Jk) => [some (tI a0_p, false), some ((tT (tT tI)) a1_rows, false), some (tI a2_size_so, false), some ((tL (tT tI)) s_4.1, false), some ((tL (tT tI)) s_4.2, false), none, j_5 6, j_5 7, none, j_5 9, j_5 10, none])) (ub := (fun spot_6 s_4 j_5 => [some (tI a0_p, false), some ((tT (tT tI)) a1_rows, false), some (tI a2_size_so, false), some ((tL (tT tI)) s_4.1, false), some ((tL (tT tI)) s_4.2, false), none, some (tI spot_6, false), j_5 7, none, j_5 9, j_5 10, none])) (s0 := (left_2, found_3)) (ti_rg1 (i := a2_size_so) (tp_varW 2 (v := tI a2_size_so) rfl)) rfl (fun spot_6 s_4 j_5 => rfl)
 (fun spot_6 s_4 j_5 => (ts_set 7 (enc := (tL tI)) (tg_lcM (e := tI) (eb := tI) (ue := (fun k_7 => [some (tI a0_p, false), some ((tT (tT tI)) a1_rows, false), some (tI a2_size_so, false), some ((tL (tT tI)) s_4.1, false), some ((tL (tT tI)) s_4.2, false), none, some (tI spot_6, false), j_5 7, some (tI k_7, false), j_5 9, j_5 10, none])) (ti_rg1 (i := ((List.length s_4.1 : Nat) : Int)) (tp_L (l_len seqL s_4.1) (tpa_cons (v := (tL (tT tI)) s_4.1) (tp_varW 3 (v := (tL (tT tI)) s_4.1) rfl) tpa_nil))) (fun k_7 => rfl) (fun k_7 => (tg_B (tg_binMP (b := 0) (O2P.m (o_ne cmp_I (by decide))) (tg_binMP (b := spot_6) (o_ix seqT) (tg_binPP (a := s_4.1) (b := k_7) (o_ix seqL) (tp_varW 3 (v := (tL (tT tI)) s_4.1) rfl) (tp_varW 8 (v := tI k_7) rfl)) (tp_varW 6 (v := tI spot_6) rfl)) tp_c))) (fun k_7 => (TG.pu (enc := tI) (a := k_7) (tp_var 8 (v := tI k_7) rfl)))) (fun some_13 =>
 (ts_ifeP (c := (decide (some_13 ≠ ([] : (List Int))))) (tp_B (b := (decide (some_13 ≠ ([] : (List Int))))) (tp_bin (a := some_13) (b := ([] : (List Int))) (o_ne (cmp_L cmp_I) (by decide)) (tp_varW 7 (v := (tL tI) some_13) rfl) (tp_lst tpa_nil (len_ok 0 rfl (by decide)))))
 (ts_set 9 (enc := (tT tI)) (tg_binPM (a := s_4.1) (o_ix seqL) (tp_varW 3 (v := (tL (tT tI)) s_4.1) rfl) (tg_binPP (a := some_13) (b := 0) (o_ix seqL) (tp_varW 7 (v := (tL tI) some_13) rfl) tp_c)) (fun first_16 =>
 (ts_set 10 (enc := tI) (tg_callM (fun (z_17 : Int) => tf__law_back a0_p z_17) (tga_consP (v := tI a0_p) (tp_var 0 (v := tI a0_p) rfl) (tga_last (tg_binPP (a := first_16) (b := spot_6) (o_ix seqT) (tp_varW 9 (v := (tT tI) first_16) rfl) (tp_varW 6 (v := tI spot_6) rfl)) tpa_nil)) (fun _ => rfl)) (fun times_18 =>
 (ts_set 9 (enc := (tT tI)) (tg_L1 (eb := (tT tI)) (fun z_23 => l_tuple seqL z_23) (tga_last (tg_lcP (e := tI) (eb := tI) (ue := (fun x_19 => [some (tI a0_p, false), some ((tT (tT tI)) a1_rows, false), some (tI a2_size_so, false), some ((tL (tT tI)) s_4.1, false), some ((tL (tT tI)) s_4.2, false), none, some (tI spot_6, false), some ((tL tI) some_13, false), none, some ((tT tI) first_16, false), some (tI times_18, false), some (tI x_19, false)])) (xs := first_16) (ti_seq (a := first_16) seqT (tp_varW 9 (v := (tT tI) first_16) rfl)) (fun x_19 => rfl) (fun x_19 => (TG.pu (enc := id) tp_yes)) (fun x_19 => (tg_binMP (b := a0_p) o_mod (tg_L1 (eb := tI) (fun z_20 => l_intI z_20) (tga_last (tg_binPP (a := times_18) (b := x_19) o_mul (tp_varW 10 (v := tI times_18) rfl) (tp_varW 11 (v := tI x_19) rfl)) tpa_nil)) (tp_varW 0 (v := tI a0_p) rfl)))) tpa_nil)) (fun first_24 =>
 (ts_set 3 (enc := (tL (tT tI))) (tg_lcM (e := tI) (eb := (tT tI)) (ue := (fun k_25 => [some (tI a0_p, false), some ((tT (tT tI)) a1_rows, false), some (tI a2_size_so, false), some ((tL (tT tI)) s_4.1, false), some ((tL (tT tI)) s_4.2, false), none, some (tI spot_6, false), some ((tL tI) some_13, false), some (tI k_25, false), some ((tT tI) first_24, false), some (tI times_18, false), none])) (ti_rg1 (i := ((List.length s_4.1 : Nat) : Int)) (tp_L (l_len seqL s_4.1) (tpa_cons (v := (tL (tT tI)) s_4.1) (tp_varW 3 (v := (tL (tT tI)) s_4.1) rfl) tpa_nil))) (fun k_25 => rfl) (fun k_25 => (tg_B (tg_binPM (a := k_25) (O2P.m (o_ne cmp_I (by decide))) (tp_varW 8 (v := tI k_25) rfl) (tg_binPP (a := some_13) (b := 0) (o_ix seqL) (tp_varW 7 (v := (tL tI) some_13) rfl) tp_c)))) (fun k_25 => (tg_callM (fun (z_26 : (List Int)) => tf__law_off a0_p z_26 first_24 spot_6) (tga_consP (v := tI a0_p) (tp_var 0 (v := tI a0_p) rfl) (tga_last (tg_binPP (a := s_4.1) (b := k_25) (o_ix seqL) (tp_varW 3 (v := (tL (tT tI)) s_4.1) rfl) (tp_varW 8 (v := tI k_25) rfl)) (tpa_cons (v := (tT tI) first_24) (tp_var 9 (v := (tT tI) first_24) rfl) (tpa_cons (v := tI spot_6) (tp_var 6 (v := tI spot_6) rfl) tpa_nil)))) (fun _ => rfl)))) (fun left_30 =>
 (ts_nx (ts_set 4 (enc := (tL (tT tI))) (tg_binMP (b := [first_24]) (o_catL (e := (tT tI))) (tg_lcP (e := (tT tI)) (eb := (tT tI)) (ue := (fun row_31 => [some (tI a0_p, false), some ((tT (tT tI)) a1_rows, false), some (tI a2_size_so, false), some ((tL (tT tI)) left_30, false), some ((tL (tT tI)) s_4.2, false), some ((tT tI) row_31, false), some (tI spot_6, false), some ((tL tI) some_13, false), none, some ((tT tI) first_24, false), some (tI times_18, false), none])) (xs := s_4.2) (ti_seq (a := s_4.2) seqL (tp_varW 4 (v := (tL (tT tI)) s_4.2) rfl)) (fun row_31 => rfl) (fun row_31 => (TG.pu (enc := id) tp_yes)) (fun row_31 => (tg_call (tf__law_off a0_p row_31 first_24 spot_6) (tpa_cons (v := tI a0_p) (tp_var 0 (v := tI a0_p) rfl) (tpa_cons (v := (tT tI) row_31) (tp_var 5 (v := (tT tI) row_31) rfl) (tpa_cons (v := (tT tI) first_24) (tp_var 9 (v := (tT tI) first_24) rfl) (tpa_cons (v := tI spot_6) (tp_var 6 (v := tI spot_6) rfl) tpa_nil)))) rfl))) (tp_lst (tpa_cons (v := (tT tI) first_24) (tp_var 9 (v := (tT tI) first_24) rfl) tpa_nil) (len_ok 1 rfl (by decide)))) (fun found_34 =>
 (ts_next (nx_L (s := (left_30, found_34)) rfl)))))))))))))
 (ts_next (nx_L (s := (s_4.1, s_4.2)) rfl))))))
 (fun s_4 j_5 => (ts_retDP (a := s_4.2) (tp_L (l_tuple seqL s_4.2) (tpa_cons (v := (tL (tT tI)) s_4.2) (tp_varW 4 (v := (tL (tT tI)) s_4.2) rfl) tpa_nil)))))))
theorem tf__law_reduced'1 (a0_p : Int) (a1_rows : (List (List Int))) (a2_size_so : Int) : TFn W__law_reduced [tI a0_p, (tL (tT tI)) a1_rows, tI a2_size_so] (t__law_reduced a0_p a1_rows a2_size_so) (tT (tT tI)) := by
  unfold W__law_reduced w__law_reduced t__law_reduced
  exact tf_run (ts_par 3 4 (enc := (tL (tT tI))) (encb := (tL (tT tI))) (TG.pu (enc := (tL (tT tI))) (a := (List.map (fun (row_1 : (List Int)) => row_1) a1_rows)) (tp_lc1 (e := (tT tI)) (eb := (tT tI)) (ue := (fun row_1 => [some (tI a0_p, false), some ((tL (tT tI)) a1_rows, false), some (tI a2_size_so, false), none, none, some ((tT tI) row_1, false), none, none, none, none, none, none])) (xs := a1_rows) (f := fun row_1 => row_1) (ti_seq (a := a1_rows) seqL (tp_varW 1 (v := (tL (tT tI)) a1_rows) rfl)) (fun row_1 => rfl) (fun row_1 => (tp_L (l_tuple seqT row_1) (tpa_cons (v := (tT tI) row_1) (tp_varW 5 (v := (tT tI) row_1) rfl) tpa_nil))))) (TG.pu (enc := (tL (tT tI))) (a := ([] : (List (List Int)))) (tp_lst tpa_nil (len_ok 0 rfl (by decide)))) (fun left_2 found_3 =>
 (ts_forM (enc := tI) (mk := (fun (s_4 : (List (List Int)) × (List (List Int))) (j_5 : Jk) => [some (tI a0_p, false), some ((tL (tT tI)) a1_rows, false), some (tI a2_size_so, false), some ((tL (tT tI)) s_4.1, false), some ((tL (tT tI)) s_4.2, false), none, j_5 6, j_5 7, none, j_5 9, j_5 10, none])) (ub := (fun spot_6 s_4 j_5 => [some (tI a0_p, false), some ((tL (tT tI)) a1_rows, false), some (tI a2_size_so, false), some ((tL (tT tI)) s_4.1, false), some ((tL (tT tI)) s_4.2, false), none, some (tI spot_6, false), j_5 7, none, j_5 9, j_5 10, none])) (s0 := (left_2, found_3)) (ti_rg1 (i := a2_size_so) (tp_varW 2 (v := tI a2_size_so) rfl)) rfl (fun spot_6 s_4 j_5 => rfl)
 (fun spot_6 s_4 j_5 => (ts_set 7 (enc := (tL tI)) (tg_lcM (e := tI) (eb := tI) (ue := (fun k_7 => [some (tI a0_p, false), some ((tL (tT tI)) a1_rows, false), some (tI a2_size_so, false), some ((tL (tT tI)) s_4.1, false), some ((tL (tT tI)) s_4.2, false), none, some (tI spot_6, false), j_5 7, some (tI k_7, false), j_5 9, j_5 10, none])) (ti_rg1 (i := ((List.length s_4.1 : Nat) : Int)) (tp_L (l_len seqL s_4.1) (tpa_cons (v := (tL (tT tI)) s_4.1) (tp_varW 3 (v := (tL (tT tI)) s_4.1) rfl) tpa_nil))) (fun k_7 => rfl) (fun k_7 => (tg_B (tg_binMP (b := 0) (O2P.m (o_ne cmp_I (by decide))) (tg_binMP (b := spot_6) (o_ix seqT) (tg_binPP (a := s_4.1) (b := k_7) (o_ix seqL) (tp_varW 3 (v := (tL (tT tI)) s_4.1) rfl) (tp_varW 8 (v := tI k_7) rfl)) (tp_varW 6 (v := tI spot_6) rfl)) tp_c))) (fun k_7 => (TG.pu (enc := tI) (a := k_7) (tp_var 8 (v := tI k_7) rfl)))) (fun some_13 =>
 (ts_ifeP (c := (decide (some_13 ≠ ([] : (List Int))))) (tp_B (b := (decide (some_13 ≠ ([] : (List Int))))) (tp_bin (a := some_13) (b := ([] : (List Int))) (o_ne (cmp_L cmp_I) (by decide)) (tp_varW 7 (v := (tL tI) some_13) rfl) (tp_lst tpa_nil (len_ok 0 rfl (by decide)))))
 (ts_set 9 (enc := (tT tI)) (tg_binPM (a := s_4.1) (o_ix seqL) (tp_varW 3 (v := (tL (tT tI)) s_4.1) rfl) (tg_binPP (a := some_13) (b := 0) (o_ix seqL) (tp_varW 7 (v := (tL tI) some_13) rfl) tp_c)) (fun first_16 =>
 (ts_set 10 (enc := tI) (tg_callM (fun (z_17 : Int) => tf__law_back a0_p z_17) (tga_consP (v := tI a0_p) (tp_var 0 (v := tI a0_p) rfl) (tga_last (tg_binPP (a := first_16) (b := spot_6) (o_ix seqT) (tp_varW 9 (v := (tT tI) first_16) rfl) (tp_varW 6 (v := tI spot_6) rfl)) tpa_nil)) (fun _ => rfl)) (fun times_18 =>
 (ts_set 9 (enc := (tT tI)) (tg_L1 (eb := (tT tI)) (fun z_23 => l_tuple seqL z_23) (tga_last (tg_lcP (e := tI) (eb := tI) (ue := (fun x_19 => [some (tI a0_p, false), some ((tL (tT tI)) a1_rows, false), some (tI a2_size_so, false), some ((tL (tT tI)) s_4.1, false), some ((tL (tT tI)) s_4.2, false), none, some (tI spot_6, false), some ((tL tI) some_13, false), none, some ((tT tI) first_16, false), some (tI times_18, false), some (tI x_19, false)])) (xs := first_16) (ti_seq (a := first_16) seqT (tp_varW 9 (v := (tT tI) first_16) rfl)) (fun x_19 => rfl) (fun x_19 => (TG.pu (enc := id) tp_yes)) (fun x_19 => (tg_binMP (b := a0_p) o_mod (tg_L1 (eb := tI) (fun z_20 => l_intI z_20) (tga_last (tg_binPP (a := times_18) (b := x_19) o_mul (tp_varW 10 (v := tI times_18) rfl) (tp_varW 11 (v := tI x_19) rfl)) tpa_nil)) (tp_varW 0 (v := tI a0_p) rfl)))) tpa_nil)) (fun first_24 =>
 (ts_set 3 (enc := (tL (tT tI))) (tg_lcM (e := tI) (eb := (tT tI)) (ue := (fun k_25 => [some (tI a0_p, false), some ((tL (tT tI)) a1_rows, false), some (tI a2_size_so, false), some ((tL (tT tI)) s_4.1, false), some ((tL (tT tI)) s_4.2, false), none, some (tI spot_6, false), some ((tL tI) some_13, false), some (tI k_25, false), some ((tT tI) first_24, false), some (tI times_18, false), none])) (ti_rg1 (i := ((List.length s_4.1 : Nat) : Int)) (tp_L (l_len seqL s_4.1) (tpa_cons (v := (tL (tT tI)) s_4.1) (tp_varW 3 (v := (tL (tT tI)) s_4.1) rfl) tpa_nil))) (fun k_25 => rfl) (fun k_25 => (tg_B (tg_binPM (a := k_25) (O2P.m (o_ne cmp_I (by decide))) (tp_varW 8 (v := tI k_25) rfl) (tg_binPP (a := some_13) (b := 0) (o_ix seqL) (tp_varW 7 (v := (tL tI) some_13) rfl) tp_c)))) (fun k_25 => (tg_callM (fun (z_26 : (List Int)) => tf__law_off a0_p z_26 first_24 spot_6) (tga_consP (v := tI a0_p) (tp_var 0 (v := tI a0_p) rfl) (tga_last (tg_binPP (a := s_4.1) (b := k_25) (o_ix seqL) (tp_varW 3 (v := (tL (tT tI)) s_4.1) rfl) (tp_varW 8 (v := tI k_25) rfl)) (tpa_cons (v := (tT tI) first_24) (tp_var 9 (v := (tT tI) first_24) rfl) (tpa_cons (v := tI spot_6) (tp_var 6 (v := tI spot_6) rfl) tpa_nil)))) (fun _ => rfl)))) (fun left_30 =>
 (ts_nx (ts_set 4 (enc := (tL (tT tI))) (tg_binMP (b := [first_24]) (o_catL (e := (tT tI))) (tg_lcP (e := (tT tI)) (eb := (tT tI)) (ue := (fun row_31 => [some (tI a0_p, false), some ((tL (tT tI)) a1_rows, false), some (tI a2_size_so, false), some ((tL (tT tI)) left_30, false), some ((tL (tT tI)) s_4.2, false), some ((tT tI) row_31, false), some (tI spot_6, false), some ((tL tI) some_13, false), none, some ((tT tI) first_24, false), some (tI times_18, false), none])) (xs := s_4.2) (ti_seq (a := s_4.2) seqL (tp_varW 4 (v := (tL (tT tI)) s_4.2) rfl)) (fun row_31 => rfl) (fun row_31 => (TG.pu (enc := id) tp_yes)) (fun row_31 => (tg_call (tf__law_off a0_p row_31 first_24 spot_6) (tpa_cons (v := tI a0_p) (tp_var 0 (v := tI a0_p) rfl) (tpa_cons (v := (tT tI) row_31) (tp_var 5 (v := (tT tI) row_31) rfl) (tpa_cons (v := (tT tI) first_24) (tp_var 9 (v := (tT tI) first_24) rfl) (tpa_cons (v := tI spot_6) (tp_var 6 (v := tI spot_6) rfl) tpa_nil)))) rfl))) (tp_lst (tpa_cons (v := (tT tI) first_24) (tp_var 9 (v := (tT tI) first_24) rfl) tpa_nil) (len_ok 1 rfl (by decide)))) (fun found_34 =>
 (ts_next (nx_L (s := (left_30, found_34)) rfl)))))))))))))
 (ts_next (nx_L (s := (s_4.1, s_4.2)) rfl))))))
 (fun s_4 j_5 => (ts_retDP (a := s_4.2) (tp_L (l_tuple seqL s_4.2) (tpa_cons (v := (tL (tT tI)) s_4.2) (tp_varW 4 (v := (tL (tT tI)) s_4.2) rfl) tpa_nil)))))))
@[irreducible] def t__law_leads (a0_basis : (List (List Int))) : M (List Int) :=
 (nx (lcM (fun (row_1 : (List Int)) => (pu true)) (fun (row_1 : (List Int)) => (bi (bi (rgM 0 ((List.length row_1 : Nat) : Int)) fun l_5 => (nx (lcM (fun (k_2 : Int) => (bi (ixM row_1 k_2) fun a_3 => (pu (decide (a_3 ≠ 0))))) (fun (k_2 : Int) => (pu k_2)) l_5 []))) fun a_6 => (ixM a_6 0))) a0_basis []))
theorem tf__law_leads (a0_basis : (List (List Int))) : TFn W__law_leads [(tT (tT tI)) a0_basis] (t__law_leads a0_basis) (tL tI) := by
  unfold W__law_leads w__law_leads t__law_leads
  exact tf_run (ts_retD (tg_lcP (e := (tT tI)) (eb := tI) (ue := (fun row_1 => [some ((tT (tT tI)) a0_basis, false), none, some ((tT tI) row_1, false)])) (xs := a0_basis) (ti_seq (a := a0_basis) seqT (tp_varW 0 (v := (tT (tT tI)) a0_basis) rfl)) (fun row_1 => rfl) (fun row_1 => (TG.pu (enc := id) tp_yes)) (fun row_1 => (tg_binMP (b := 0) (o_ix seqL) (tg_lcM (e := tI) (eb := tI) (ue := (fun k_2 => [some ((tT (tT tI)) a0_basis, false), some (tI k_2, false), some ((tT tI) row_1, false)])) (ti_rg1 (i := ((List.length row_1 : Nat) : Int)) (tp_L (l_len seqT row_1) (tpa_cons (v := (tT tI) row_1) (tp_varW 2 (v := (tT tI) row_1) rfl) tpa_nil))) (fun k_2 => rfl) (fun k_2 => (tg_B (tg_binMP (b := 0) (O2P.m (o_ne cmp_I (by decide))) (tg_binPP (a := row_1) (b := k_2) (o_ix seqT) (tp_varW 2 (v := (tT tI) row_1) rfl) (tp_varW 1 (v := tI k_2) rfl)) tp_c))) (fun k_2 => (TG.pu (enc := tI) (a := k_2) (tp_var 1 (v := tI k_2) rfl)))) tp_c))))
@[irreducible] def t__law_kernel (a0_p : Int) (a1_table_so : (List (List Int))) (a2_size_so : Int) : M (List (List Int)) :=
 (bi (t__law_reduced a0_p a1_table_so a2_size_so) fun (basis_1 : (List (List Int))) =>
 (bi (t__law_leads basis_1) fun (leads_here_2 : (List Int)) =>
 (bi (pu ([] : (List (List Int)))) fun (found_3 : (List (List Int))) =>
 (bi (bi (rgM 0 a2_size_so) fun l_7 => (nx (lcM (fun (k_6 : Int) => (pu (!decide (k_6 ∈ leads_here_2)))) (fun (k_6 : Int) => (pu k_6)) l_7 []))) fun l_24 => bi (forM (fun (free_8 : Int) (s_4 : (List (List Int))) =>
 (bi (repM [0] a2_size_so) fun (column_so_9 : (List Int)) =>
 (bi (stM column_so_9 free_8 1) fun (column_so_10 : (List Int)) =>
 (bi (rgM 0 ((List.length leads_here_2 : Nat) : Int)) fun l_23 => bi (forM (fun (k_13 : Int) (s_11 : (List Int)) =>
 (bi (bi (bi (bi (ixM basis_1 k_13) fun a_14 => (ixM a_14 free_8)) fun x => pu (-x)) fun a_17 => (modM a_17 a0_p)) fun (x_20 : Int) =>
 (bi (ixM leads_here_2 k_13) fun (j_21 : Int) =>
 (bi (stM s_11 j_21 x_20) fun (column_so_19 : (List Int)) =>
 (pu column_so_19))))) l_23 column_so_10) fun (s_11 : (List Int)) =>
 (bi (appM s_4 s_11) fun (found_22 : (List (List Int))) =>
 (pu found_22)))))) l_24 found_3) fun (s_4 : (List (List Int))) =>
 (t__law_reduced a0_p s_4 a2_size_so)))))
theorem tf__law_kernel (a0_p : Int) (a1_table_so : (List (List Int))) (a2_size_so : Int) : TFn W__law_kernel [tI a0_p, (tT (tT tI)) a1_table_so, tI a2_size_so] (t__law_kernel a0_p a1_table_so a2_size_so) (tT (tT tI)) := by
  unfold W__law_kernel w__law_kernel t__law_kernel
  exact tf_run (ts_set 3 (enc := (tT (tT tI))) (tg_call (tf__law_reduced a0_p a1_table_so a2_size_so) (tpa_cons (v := tI a0_p) (tp_var 0 (v := tI a0_p) rfl) (tpa_cons (v := (tT (tT tI)) a1_table_so) (tp_var 1 (v := (tT (tT tI)) a1_table_so) rfl) (tpa_cons (v := tI a2_size_so) (tp_var 2 (v := tI a2_size_so) rfl) tpa_nil))) rfl) (fun basis_1 =>
 (ts_parG (o1 := false) (o2 := true) 4 5 (enc := (tL tI)) (encb := (tL (tT tI))) (tg_call (tf__law_leads basis_1) (tpa_cons (v := (tT (tT tI)) basis_1) (tp_var 3 (v := (tT (tT tI)) basis_1) rfl) tpa_nil) rfl) (TG.pu (enc := (tL (tT tI))) (a := ([] : (List (List Int)))) (tp_lst tpa_nil (len_ok 0 rfl (by decide)))) (fun leads_here_2 found_3 =>
 (ts_forM (enc := tI) (mk := (fun (s_4 : (List (List Int))) (j_5 : Jk) => [some (tI a0_p, false), some ((tT (tT tI)) a1_table_so, false), some (tI a2_size_so, false), some ((tT (tT tI)) basis_1, false), some ((tL tI) leads_here_2, false), some ((tL (tT tI)) s_4, true), j_5 6, j_5 7, j_5 8])) (ub := (fun free_8 s_4 j_5 => [some (tI a0_p, false), some ((tT (tT tI)) a1_table_so, false), some (tI a2_size_so, false), some ((tT (tT tI)) basis_1, false), some ((tL tI) leads_here_2, false), some ((tL (tT tI)) s_4, true), some (tI free_8, false), j_5 7, j_5 8])) (s0 := found_3) (ti_seqM seqL (tg_lcM (e := tI) (eb := tI) (ue := (fun k_6 => [some (tI a0_p, false), some ((tT (tT tI)) a1_table_so, false), some (tI a2_size_so, false), some ((tT (tT tI)) basis_1, false), some ((tL tI) leads_here_2, false), some ((tL (tT tI)) found_3, true), none, some (tI k_6, false), none])) (ti_rg1 (i := a2_size_so) (tp_varW 2 (v := tI a2_size_so) rfl)) (fun k_6 => rfl) (fun k_6 => (TG.pu (enc := id) (a := (!decide (k_6 ∈ leads_here_2))) (tp_B (b := (!decide (k_6 ∈ leads_here_2))) (tp_bin (a := k_6) (b := leads_here_2) (o_notinL cmp_I (by decide)) (tp_varW 7 (v := tI k_6) rfl) (tp_varW 4 (v := (tL tI) leads_here_2) rfl))))) (fun k_6 => (TG.pu (enc := tI) (a := k_6) (tp_var 7 (v := tI k_6) rfl))))) rfl (fun free_8 s_4 j_5 => rfl)
 (fun free_8 s_4 j_5 => (ts_setO 8 (enc := (tL tI)) (tg_binPP (a := [0]) (b := a2_size_so) (o_repLL (e := tI)) (tp_lst (tpa_cons (v := tI 0) tp_c tpa_nil) (len_ok 1 rfl (by decide))) (tp_varW 2 (v := tI a2_size_so) rfl)) (fun column_so_9 =>
 (ts_setIxP 8 (enc := tI) (l := column_so_9) (x := 1) (j := free_8) rfl tp_c (tp_varW 6 (v := tI free_8) rfl) (fun column_so_10 =>
 (ts_forM (enc := tI) (mk := (fun (s_11 : (List Int)) (j_12 : Jk) => [some (tI a0_p, false), some ((tT (tT tI)) a1_table_so, false), some (tI a2_size_so, false), some ((tT (tT tI)) basis_1, false), some ((tL tI) leads_here_2, false), some ((tL (tT tI)) s_4, true), some (tI free_8, false), j_12 7, some ((tL tI) s_11, true)])) (ub := (fun k_13 s_11 j_12 => [some (tI a0_p, false), some ((tT (tT tI)) a1_table_so, false), some (tI a2_size_so, false), some ((tT (tT tI)) basis_1, false), some ((tL tI) leads_here_2, false), some ((tL (tT tI)) s_4, true), some (tI free_8, false), some (tI k_13, false), some ((tL tI) s_11, true)])) (s0 := column_so_10) (ti_rg1 (i := ((List.length leads_here_2 : Nat) : Int)) (tp_L (l_len seqL leads_here_2) (tpa_cons (v := (tL tI) leads_here_2) (tp_varW 4 (v := (tL tI) leads_here_2) rfl) tpa_nil))) rfl (fun k_13 s_11 j_12 => rfl)
 (fun k_13 s_11 j_12 => (ts_nx (ts_setIx 8 (enc := tI) (l := s_11) rfl (tg_binMP (b := a0_p) o_mod (tg_L1 (eb := tI) (fun z_16 => l_intI z_16) (tga_last (tg_un o_neg (tg_binMP (b := free_8) (o_ix seqT) (tg_binPP (a := basis_1) (b := k_13) (o_ix seqT) (tp_varW 3 (v := (tT (tT tI)) basis_1) rfl) (tp_varW 7 (v := tI k_13) rfl)) (tp_varW 6 (v := tI free_8) rfl))) tpa_nil)) (tp_varW 0 (v := tI a0_p) rfl)) (tg_binPP (a := leads_here_2) (b := k_13) (o_ix seqL) (tp_varW 4 (v := (tL tI) leads_here_2) rfl) (tp_varW 7 (v := tI k_13) rfl)) (fun column_so_19 =>
 (ts_next (nx_L (s := column_so_19) rfl))))))
 (fun s_11 j_12 => (ts_nx (ts_appP 5 (enc := (tT tI)) (l := s_4) (x := s_11) rfl (tp_L (l_tuple seqL s_11) (tpa_cons (v := (tL tI) s_11) (tp_varW 8 (v := (tL tI) s_11) rfl) tpa_nil)) (fun found_22 =>
 (ts_next (nx_L (s := found_22) rfl))))))))))))
 (fun s_4 j_5 => (ts_retD (tg_callW (pl_T (pl_T pl_I)) (tf__law_reduced'1 a0_p s_4 a2_size_so) (tpa_cons (v := tI a0_p) (tp_varW 0 (v := tI a0_p) rfl) (tpa_cons (v := (tL (tT tI)) s_4) (tp_varW 5 (v := (tL (tT tI)) s_4) rfl) (tpa_cons (v := tI a2_size_so) (tp_varW 2 (v := tI a2_size_so) rfl) tpa_nil))) rfl))))))))
@[irreducible] def t__law_rank (a0_p : Int) (a1_rows : (List (List Int))) (a2_size_so : Int) : M Int :=
 (bi (t__law_reduced a0_p a1_rows a2_size_so) fun z_1 => pu ((List.length z_1 : Nat) : Int))
theorem tf__law_rank (a0_p : Int) (a1_rows : (List (List Int))) (a2_size_so : Int) : TFn W__law_rank [tI a0_p, (tT (tT tI)) a1_rows, tI a2_size_so] (t__law_rank a0_p a1_rows a2_size_so) tI := by
  unfold W__law_rank w__law_rank t__law_rank
  exact tf_run (ts_retD (tg_L (f := fun z_1 => ((List.length z_1 : Nat) : Int)) (eb := tI) (fun z_1 => l_len seqT z_1) (tga_last (tg_call (tf__law_reduced a0_p a1_rows a2_size_so) (tpa_cons (v := tI a0_p) (tp_var 0 (v := tI a0_p) rfl) (tpa_cons (v := (tT (tT tI)) a1_rows) (tp_var 1 (v := (tT (tT tI)) a1_rows) rfl) (tpa_cons (v := tI a2_size_so) (tp_var 2 (v := tI a2_size_so) rfl) tpa_nil))) rfl) tpa_nil)))
@[irreducible] def t__law_led (a0_p : Int) (a1_table_so : (List (List Int))) (a2_column_so : (List Int)) : M (List Int) :=
 (nx (lcM (fun (row_1 : (List Int)) => (pu true)) (fun (row_1 : (List Int)) => (bi (bi (bi (rgM 0 ((List.length a2_column_so : Nat) : Int)) fun l_5 => (nx (lcM (fun (j_2 : Int) => (pu true)) (fun (j_2 : Int) => (bi (ixM row_1 j_2) fun a_3 => bi (ixM a2_column_so j_2) fun b_4 => (mulM a_3 b_4))) l_5 []))) fun z_6 => pu (List.sum z_6)) fun a_8 => (modM a_8 a0_p))) a1_table_so []))
theorem tf__law_led (a0_p : Int) (a1_table_so : (List (List Int))) (a2_column_so : (List Int)) : TFn W__law_led [tI a0_p, (tT (tT tI)) a1_table_so, (tT tI) a2_column_so] (t__law_led a0_p a1_table_so a2_column_so) (tT tI) := by
  unfold W__law_led w__law_led t__law_led
  exact tf_run (ts_retD (tg_L1 (eb := (tT tI)) (fun z_10 => l_tuple seqL z_10) (tga_last (tg_lcP (e := (tT tI)) (eb := tI) (ue := (fun row_1 => [some (tI a0_p, false), some ((tT (tT tI)) a1_table_so, false), some ((tT tI) a2_column_so, false), none, some ((tT tI) row_1, false)])) (xs := a1_table_so) (ti_seq (a := a1_table_so) seqT (tp_varW 1 (v := (tT (tT tI)) a1_table_so) rfl)) (fun row_1 => rfl) (fun row_1 => (TG.pu (enc := id) tp_yes)) (fun row_1 => (tg_binMP (b := a0_p) o_mod (tg_L1 (eb := tI) (fun z_7 => l_intI z_7) (tga_last (tg_L (f := fun z_6 => (List.sum z_6)) (eb := tI) (fun z_6 => l_sum z_6) (tga_last (tg_lcM (e := tI) (eb := tI) (ue := (fun j_2 => [some (tI a0_p, false), some ((tT (tT tI)) a1_table_so, false), some ((tT tI) a2_column_so, false), some (tI j_2, false), some ((tT tI) row_1, false)])) (ti_rg1 (i := ((List.length a2_column_so : Nat) : Int)) (tp_L (l_len seqT a2_column_so) (tpa_cons (v := (tT tI) a2_column_so) (tp_varW 2 (v := (tT tI) a2_column_so) rfl) tpa_nil))) (fun j_2 => rfl) (fun j_2 => (TG.pu (enc := id) tp_yes)) (fun j_2 => (tg_binMM o_mul (tg_binPP (a := row_1) (b := j_2) (o_ix seqT) (tp_varW 4 (v := (tT tI) row_1) rfl) (tp_varW 3 (v := tI j_2) rfl)) (tg_binPP (a := a2_column_so) (b := j_2) (o_ix seqT) (tp_varW 2 (v := (tT tI) a2_column_so) rfl) (tp_varW 3 (v := tI j_2) rfl))))) tpa_nil)) tpa_nil)) (tp_varW 0 (v := tI a0_p) rfl)))) tpa_nil)))
@[irreducible] def t__law_behind (a0_p : Int) (a1_one : (List (List Int))) (a2_other : (List (List Int))) (a3_size_so : Int) : M (List (List Int)) :=
 (bi (forM (fun (row_3 : (List Int)) (s_1 : (List (List Int))) =>
 (bi (bi (rgM 0 a3_size_so) fun l_16 => (nx (lcM (fun (j_5 : Int) => (pu true)) (fun (j_5 : Int) => (bi (bi (bi (rgM 0 ((List.length a1_one : Nat) : Int)) fun l_11 => (nx (lcM (fun (k_6 : Int) => (pu true)) (fun (k_6 : Int) => (bi (ixM row_3 k_6) fun a_9 => bi (bi (ixM a1_one k_6) fun a_7 => (ixM a_7 j_5)) fun b_10 => (mulM a_9 b_10))) l_11 []))) fun z_12 => pu (List.sum z_12)) fun a_14 => (modM a_14 a0_p))) l_16 []))) fun (x_18 : (List Int)) =>
 (bi (appM s_1 x_18) fun (found_4 : (List (List Int))) =>
 (pu found_4)))) a2_other ([] : (List (List Int)))) fun (s_1 : (List (List Int))) =>
 (pu s_1))
theorem tf__law_behind (a0_p : Int) (a1_one : (List (List Int))) (a2_other : (List (List Int))) (a3_size_so : Int) : TFn W__law_behind [tI a0_p, (tT (tT tI)) a1_one, (tT (tT tI)) a2_other, tI a3_size_so] (t__law_behind a0_p a1_one a2_other a3_size_so) (tT (tT tI)) := by
  unfold W__law_behind w__law_behind t__law_behind
  exact tf_run (ts_setOP 4 (v := (tL (tT tI)) ([] : (List (List Int)))) (tp_lst tpa_nil (len_ok 0 rfl (by decide)))
 (ts_forP (enc := (tT tI)) (mk := (fun (s_1 : (List (List Int))) (j_2 : Jk) => [some (tI a0_p, false), some ((tT (tT tI)) a1_one, false), some ((tT (tT tI)) a2_other, false), some (tI a3_size_so, false), some ((tL (tT tI)) s_1, true), j_2 5, none, none])) (ub := (fun row_3 s_1 j_2 => [some (tI a0_p, false), some ((tT (tT tI)) a1_one, false), some ((tT (tT tI)) a2_other, false), some (tI a3_size_so, false), some ((tL (tT tI)) s_1, true), some ((tT tI) row_3, false), none, none])) (s0 := ([] : (List (List Int)))) (xs := a2_other) (ti_seq (a := a2_other) seqT (tp_var 2 (v := (tT (tT tI)) a2_other) rfl)) rfl (fun row_3 s_1 j_2 => rfl)
 (fun row_3 s_1 j_2 => (ts_nx (ts_app 4 (enc := (tT tI)) (l := s_1) rfl (tg_L1 (eb := (tT tI)) (fun z_17 => l_tuple seqL z_17) (tga_last (tg_lcM (e := tI) (eb := tI) (ue := (fun j_5 => [some (tI a0_p, false), some ((tT (tT tI)) a1_one, false), some ((tT (tT tI)) a2_other, false), some (tI a3_size_so, false), some ((tL (tT tI)) s_1, true), some ((tT tI) row_3, false), none, some (tI j_5, false)])) (ti_rg1 (i := a3_size_so) (tp_varW 3 (v := tI a3_size_so) rfl)) (fun j_5 => rfl) (fun j_5 => (TG.pu (enc := id) tp_yes)) (fun j_5 => (tg_binMP (b := a0_p) o_mod (tg_L1 (eb := tI) (fun z_13 => l_intI z_13) (tga_last (tg_L (f := fun z_12 => (List.sum z_12)) (eb := tI) (fun z_12 => l_sum z_12) (tga_last (tg_lcM (e := tI) (eb := tI) (ue := (fun k_6 => [some (tI a0_p, false), some ((tT (tT tI)) a1_one, false), some ((tT (tT tI)) a2_other, false), some (tI a3_size_so, false), some ((tL (tT tI)) s_1, true), some ((tT tI) row_3, false), some (tI k_6, false), some (tI j_5, false)])) (ti_rg1 (i := ((List.length a1_one : Nat) : Int)) (tp_L (l_len seqT a1_one) (tpa_cons (v := (tT (tT tI)) a1_one) (tp_varW 1 (v := (tT (tT tI)) a1_one) rfl) tpa_nil))) (fun k_6 => rfl) (fun k_6 => (TG.pu (enc := id) tp_yes)) (fun k_6 => (tg_binMM o_mul (tg_binPP (a := row_3) (b := k_6) (o_ix seqT) (tp_varW 5 (v := (tT tI) row_3) rfl) (tp_varW 6 (v := tI k_6) rfl)) (tg_binMP (b := j_5) (o_ix seqT) (tg_binPP (a := a1_one) (b := k_6) (o_ix seqT) (tp_varW 1 (v := (tT (tT tI)) a1_one) rfl) (tp_varW 6 (v := tI k_6) rfl)) (tp_varW 7 (v := tI j_5) rfl))))) tpa_nil)) tpa_nil)) (tp_varW 0 (v := tI a0_p) rfl)))) tpa_nil)) (fun found_4 =>
 (ts_next (nx_L (s := found_4) rfl))))))
 (fun s_1 j_2 => (ts_retDP (a := s_1) (tp_L (l_tuple seqL s_1) (tpa_cons (v := (tL (tT tI)) s_1) (tp_varW 4 (v := (tL (tT tI)) s_1) rfl) tpa_nil))))))
@[irreducible] def t__law_unit (a0_size_so : Int) : M (List (List Int)) :=
 (bi (rgM 0 a0_size_so) fun l_5 => (nx (lcM (fun (i_1 : Int) => (pu true)) (fun (i_1 : Int) => (bi (rgM 0 a0_size_so) fun l_3 => (nx (lcM (fun (j_2 : Int) => (pu true)) (fun (j_2 : Int) => (pu (if (decide (i_1 = j_2)) = true then 1 else 0))) l_3 [])))) l_5 [])))
theorem tf__law_unit (a0_size_so : Int) : TFn W__law_unit [tI a0_size_so] (t__law_unit a0_size_so) (tT (tT tI)) := by
  unfold W__law_unit w__law_unit t__law_unit
  exact tf_run (ts_retD (tg_L1 (eb := (tT (tT tI))) (fun z_6 => l_tuple seqL z_6) (tga_last (tg_lcM (e := tI) (eb := (tT tI)) (ue := (fun i_1 => [some (tI a0_size_so, false), none, some (tI i_1, false)])) (ti_rg1 (i := a0_size_so) (tp_varW 0 (v := tI a0_size_so) rfl)) (fun i_1 => rfl) (fun i_1 => (TG.pu (enc := id) tp_yes)) (fun i_1 => (tg_L1 (eb := (tT tI)) (fun z_4 => l_tuple seqL z_4) (tga_last (tg_lcM (e := tI) (eb := tI) (ue := (fun j_2 => [some (tI a0_size_so, false), some (tI j_2, false), some (tI i_1, false)])) (ti_rg1 (i := a0_size_so) (tp_varW 0 (v := tI a0_size_so) rfl)) (fun j_2 => rfl) (fun j_2 => (TG.pu (enc := id) tp_yes)) (fun j_2 => (TG.pu (enc := tI) (a := (if (decide (i_1 = j_2)) = true then 1 else 0)) (tp_ifE (e := tI) (b := (decide (i_1 = j_2))) (x := 1) (y := 0) (tp_B (b := (decide (i_1 = j_2))) (tp_bin (a := i_1) (b := j_2) (o_eq cmp_I (by decide)) (tp_varW 2 (v := tI i_1) rfl) (tp_varW 1 (v := tI j_2) rfl))) tp_c tp_c)))) tpa_nil)))) tpa_nil)))
@[irreducible] def t__law_prime (a0_m : Unit) : M Int :=
 (t__law_of a0_m [2, 3, 5, 7, 11, 13])
theorem tf__law_prime (a0_m : Unit) : TFn W__law_prime [tG a0_m] (t__law_prime a0_m) tI := by
  unfold W__law_prime w__law_prime t__law_prime
  exact tf_run (ts_retD (tg_call (tf__law_of a0_m [2, 3, 5, 7, 11, 13]) (tpa_cons (v := tG a0_m) (tp_var 0 (v := tG a0_m) rfl) (tpa_cons (v := (tL tI) [2, 3, 5, 7, 11, 13]) (tp_lst (tpa_cons (v := tI 2) tp_c (tpa_cons (v := tI 3) tp_c (tpa_cons (v := tI 5) tp_c (tpa_cons (v := tI 7) tp_c (tpa_cons (v := tI 11) tp_c (tpa_cons (v := tI 13) tp_c tpa_nil)))))) (len_ok 6 rfl (by decide))) tpa_nil)) rfl))
@[irreducible] def t__law_small_prime (a0_m : Unit) : M Int :=
 (t__law_of a0_m [2, 3, 5, 2, 3, 7])
theorem tf__law_small_prime (a0_m : Unit) : TFn W__law_small_prime [tG a0_m] (t__law_small_prime a0_m) tI := by
  unfold W__law_small_prime w__law_small_prime t__law_small_prime
  exact tf_run (ts_retD (tg_call (tf__law_of a0_m [2, 3, 5, 2, 3, 7]) (tpa_cons (v := tG a0_m) (tp_var 0 (v := tG a0_m) rfl) (tpa_cons (v := (tL tI) [2, 3, 5, 2, 3, 7]) (tp_lst (tpa_cons (v := tI 2) tp_c (tpa_cons (v := tI 3) tp_c (tpa_cons (v := tI 5) tp_c (tpa_cons (v := tI 2) tp_c (tpa_cons (v := tI 3) tp_c (tpa_cons (v := tI 7) tp_c tpa_nil)))))) (len_ok 6 rfl (by decide))) tpa_nil)) rfl))
@[irreducible] def t__law_column (a0_m : Unit) (a1_p : Int) (a2_size_so : Int) : M (List Int) :=
 (bi (rgM 0 a2_size_so) fun l_4 => (nx (lcM (fun (spot_1 : Int) => (pu true)) (fun (spot_1 : Int) => (bi (bi (dr 3) fun a_2 => (pu (decide (a_2 = 0)))) fun c => if c = true then (pu 0) else (dr a1_p))) l_4 [])))
theorem tf__law_column (a0_m : Unit) (a1_p : Int) (a2_size_so : Int) : TFn W__law_column [tG a0_m, tI a1_p, tI a2_size_so] (t__law_column a0_m a1_p a2_size_so) (tT tI) := by
  unfold W__law_column w__law_column t__law_column
  exact tf_run (ts_retD (tg_L1 (eb := (tT tI)) (fun z_5 => l_tuple seqL z_5) (tga_last (tg_lcM (e := tI) (eb := tI) (ue := (fun spot_1 => [some (tG a0_m, false), some (tI a1_p, false), some (tI a2_size_so, false), some (tI spot_1, false)])) (ti_rg1 (i := a2_size_so) (tp_varW 2 (v := tI a2_size_so) rfl)) (fun spot_1 => rfl) (fun spot_1 => (TG.pu (enc := id) tp_yes)) (fun spot_1 => (tg_if (e := tI) (tg_B (tg_binMP (b := 0) (O2P.m (o_eq cmp_I (by decide))) (tg_call (tf_draw a0_m 3) (tpa_cons (v := tG a0_m) (tp_var 0 (v := tG a0_m) rfl) (tpa_cons (v := tI 3) tp_c tpa_nil)) rfl) tp_c)) (TG.pu (enc := tI) (a := 0) tp_c) (tg_call (tf_draw a0_m a1_p) (tpa_cons (v := tG a0_m) (tp_var 0 (v := tG a0_m) rfl) (tpa_cons (v := tI a1_p) (tp_var 1 (v := tI a1_p) rfl) tpa_nil)) rfl)))) tpa_nil)))
@[irreducible] def t__law_table (a0_m : Unit) (a1_p : Int) (a2_lines : Int) (a3_size_so : Int) : M (List (List Int)) :=
 (bi (rgM 0 a2_lines) fun l_17 => bi (forM (fun (turn_3 : Int) (s_1 : (List (List Int))) =>
 (bi (t__law_column a0_m a1_p a3_size_so) fun (line_4 : (List Int)) =>
 (bi (bi (if (decide (s_1 ≠ ([] : (List (List Int))))) = true then (bi (dr 3) fun a_5 => (pu (decide (a_5 = 0)))) else (pu false)) fun c => if c = true then
 (bi (t__law_of'1 a0_m s_1) fun (other_9 : (List Int)) =>
 (bi (nx (lcM (fun (entry_10 : Int) => (pu true)) (fun (entry_10 : Int) => (bi (mulM 2 entry_10) fun a_12 => (modM a_12 a1_p))) other_9 [])) fun (line_15 : (List Int)) =>
 (pu line_15)))
 else (pu line_4)) fun (s_7 : (List Int)) =>
 (bi (appM s_1 s_7) fun (found_16 : (List (List Int))) =>
 (pu found_16))))) l_17 ([] : (List (List Int)))) fun (s_1 : (List (List Int))) =>
 (pu s_1))
theorem tf__law_table (a0_m : Unit) (a1_p : Int) (a2_lines : Int) (a3_size_so : Int) : TFn W__law_table [tG a0_m, tI a1_p, tI a2_lines, tI a3_size_so] (t__law_table a0_m a1_p a2_lines a3_size_so) (tT (tT tI)) := by
  unfold W__law_table w__law_table t__law_table
  exact tf_run (ts_setOP 4 (v := (tL (tT tI)) ([] : (List (List Int)))) (tp_lst tpa_nil (len_ok 0 rfl (by decide)))
 (ts_forM (enc := tI) (mk := (fun (s_1 : (List (List Int))) (j_2 : Jk) => [some (tG a0_m, false), some (tI a1_p, false), some (tI a2_lines, false), some (tI a3_size_so, false), some ((tL (tT tI)) s_1, true), j_2 5, j_2 6, j_2 7, none])) (ub := (fun turn_3 s_1 j_2 => [some (tG a0_m, false), some (tI a1_p, false), some (tI a2_lines, false), some (tI a3_size_so, false), some ((tL (tT tI)) s_1, true), some (tI turn_3, false), j_2 6, j_2 7, none])) (s0 := ([] : (List (List Int)))) (ti_rg1 (i := a2_lines) (tp_varW 2 (v := tI a2_lines) rfl)) rfl (fun turn_3 s_1 j_2 => rfl)
 (fun turn_3 s_1 j_2 => (ts_set 6 (enc := (tT tI)) (tg_call (tf__law_column a0_m a1_p a3_size_so) (tpa_cons (v := tG a0_m) (tp_var 0 (v := tG a0_m) rfl) (tpa_cons (v := tI a1_p) (tp_var 1 (v := tI a1_p) rfl) (tpa_cons (v := tI a3_size_so) (tp_var 3 (v := tI a3_size_so) rfl) tpa_nil))) rfl) (fun line_4 =>
 (ts_seqJ (mk := (fun (s_7 : (List Int)) (j_8 : Jk) => [some (tG a0_m, false), some (tI a1_p, false), some (tI a2_lines, false), some (tI a3_size_so, false), some ((tL (tT tI)) s_1, true), some (tI turn_3, false), some ((tT tI) s_7, false), j_8 7, none]))
 (ts_ife (tg_andP (b := (decide (s_1 ≠ ([] : (List (List Int)))))) (tp_B (b := (decide (s_1 ≠ ([] : (List (List Int)))))) (tp_bin (a := s_1) (b := ([] : (List (List Int)))) (o_ne (cmp_L (cmp_T cmp_I)) (by decide)) (tp_varW 4 (v := (tL (tT tI)) s_1) rfl) (tp_lst tpa_nil (len_ok 0 rfl (by decide))))) (tg_B (tg_binMP (b := 0) (O2P.m (o_eq cmp_I (by decide))) (tg_call (tf_draw a0_m 3) (tpa_cons (v := tG a0_m) (tp_var 0 (v := tG a0_m) rfl) (tpa_cons (v := tI 3) tp_c tpa_nil)) rfl) tp_c)))
 (ts_set 7 (enc := (tT tI)) (tg_callW (pl_T pl_I) (tf__law_of'1 a0_m s_1) (tpa_cons (v := tG a0_m) (tp_varW 0 (v := tG a0_m) rfl) (tpa_cons (v := (tL (tT tI)) s_1) (tp_varW 4 (v := (tL (tT tI)) s_1) rfl) tpa_nil)) rfl) (fun other_9 =>
 (ts_nx (ts_set 6 (enc := (tT tI)) (tg_L1 (eb := (tT tI)) (fun z_14 => l_tuple seqL z_14) (tga_last (tg_lcP (e := tI) (eb := tI) (ue := (fun entry_10 => [some (tG a0_m, false), some (tI a1_p, false), some (tI a2_lines, false), some (tI a3_size_so, false), some ((tL (tT tI)) s_1, true), some (tI turn_3, false), some ((tT tI) line_4, false), some ((tT tI) other_9, false), some (tI entry_10, false)])) (xs := other_9) (ti_seq (a := other_9) seqT (tp_varW 7 (v := (tT tI) other_9) rfl)) (fun entry_10 => rfl) (fun entry_10 => (TG.pu (enc := id) tp_yes)) (fun entry_10 => (tg_binMP (b := a1_p) o_mod (tg_L1 (eb := tI) (fun z_11 => l_intI z_11) (tga_last (tg_binPP (a := 2) (b := entry_10) o_mul tp_c (tp_varW 8 (v := tI entry_10) rfl)) tpa_nil)) (tp_varW 1 (v := tI a1_p) rfl)))) tpa_nil)) (fun line_15 =>
 (ts_next (nx_J (s := line_15) rfl)))))))
 (ts_next (nx_J (s := line_4) rfl)))
 (fun s_7 j_8 => (ts_nx (ts_appP 4 (enc := (tT tI)) (l := s_1) (x := s_7) rfl (tp_var 6 (v := (tT tI) s_7) rfl) (fun found_16 =>
 (ts_next (nx_L (s := found_16) rfl))))))))))
 (fun s_1 j_2 => (ts_retDP (a := s_1) (tp_L (l_tuple seqL s_1) (tpa_cons (v := (tL (tT tI)) s_1) (tp_varW 4 (v := (tL (tT tI)) s_1) rfl) tpa_nil))))))
@[irreducible] def t__law_every (a0_p : Int) (a1_size_so : Int) : M (List (List Int)) :=
 (bi (pu [([] : (List Int))]) fun (found_1 : (List (List Int))) =>
 (bi (rgM 0 a1_size_so) fun l_12 => bi (forM (fun (spot_4 : Int) (s_2 : (List (List Int))) =>
 (bi (forM (fun (column_so_7 : (List Int)) (s_5 : (List (List Int))) =>
 (bi (bi (rgM 0 a0_p) fun l_10 => (nx (lcM (fun (x_9 : Int) => (pu true)) (fun (x_9 : Int) => (catM column_so_7 [x_9])) l_10 []))) fun (x_11 : (List (List Int))) =>
 (bi (catM s_5 x_11) fun (longer_8 : (List (List Int))) =>
 (pu longer_8)))) s_2 ([] : (List (List Int)))) fun (s_5 : (List (List Int))) =>
 (pu s_5))) l_12 found_1) fun (s_2 : (List (List Int))) =>
 (pu s_2)))
theorem tf__law_every (a0_p : Int) (a1_size_so : Int) : TFn W__law_every [tI a0_p, tI a1_size_so] (t__law_every a0_p a1_size_so) (tL (tT tI)) := by
  unfold W__law_every w__law_every t__law_every
  exact tf_run (ts_set 2 (enc := (tL (tT tI))) (TG.pu (enc := (tL (tT tI))) (a := [([] : (List Int))]) (tp_lst (tpa_cons (v := (tT tI) ([] : (List Int))) (tp_tup tpa_nil (len_ok 0 rfl (by decide))) tpa_nil) (len_ok 1 rfl (by decide)))) (fun found_1 =>
 (ts_forM (enc := tI) (mk := (fun (s_2 : (List (List Int))) (j_3 : Jk) => [some (tI a0_p, false), some (tI a1_size_so, false), some ((tL (tT tI)) s_2, false), j_3 3, j_3 4, j_3 5, none])) (ub := (fun spot_4 s_2 j_3 => [some (tI a0_p, false), some (tI a1_size_so, false), some ((tL (tT tI)) s_2, false), some (tI spot_4, false), j_3 4, j_3 5, none])) (s0 := found_1) (ti_rg1 (i := a1_size_so) (tp_varW 1 (v := tI a1_size_so) rfl)) rfl (fun spot_4 s_2 j_3 => rfl)
 (fun spot_4 s_2 j_3 => (ts_setOP 4 (v := (tL (tT tI)) ([] : (List (List Int)))) (tp_lst tpa_nil (len_ok 0 rfl (by decide)))
 (ts_forP (enc := (tT tI)) (mk := (fun (s_5 : (List (List Int))) (j_6 : Jk) => [some (tI a0_p, false), some (tI a1_size_so, false), some ((tL (tT tI)) s_2, false), some (tI spot_4, false), some ((tL (tT tI)) s_5, true), j_6 5, none])) (ub := (fun column_so_7 s_5 j_6 => [some (tI a0_p, false), some (tI a1_size_so, false), some ((tL (tT tI)) s_2, false), some (tI spot_4, false), some ((tL (tT tI)) s_5, true), some ((tT tI) column_so_7, false), none])) (s0 := ([] : (List (List Int)))) (xs := s_2) (ti_seq (a := s_2) seqL (tp_var 2 (v := (tL (tT tI)) s_2) rfl)) rfl (fun column_so_7 s_5 j_6 => rfl)
 (fun column_so_7 s_5 j_6 => (ts_nx (ts_ext 4 (enc := (tT tI)) (l := s_5) rfl (tg_lcM (e := tI) (eb := (tT tI)) (ue := (fun x_9 => [some (tI a0_p, false), some (tI a1_size_so, false), some ((tL (tT tI)) s_2, false), some (tI spot_4, false), some ((tL (tT tI)) s_5, true), some ((tT tI) column_so_7, false), some (tI x_9, false)])) (ti_rg1 (i := a0_p) (tp_varW 0 (v := tI a0_p) rfl)) (fun x_9 => rfl) (fun x_9 => (TG.pu (enc := id) tp_yes)) (fun x_9 => (tg_binPP (a := column_so_7) (b := [x_9]) (o_catT (e := tI)) (tp_varW 5 (v := (tT tI) column_so_7) rfl) (tp_tup (tpa_cons (v := tI x_9) (tp_var 6 (v := tI x_9) rfl) tpa_nil) (len_ok 1 rfl (by decide)))))) (fun longer_8 =>
 (ts_next (nx_L (s := longer_8) rfl))))))
 (fun s_5 j_6 => (ts_nx (ts_move 2 4 (v := (tL (tT tI)) s_5) rfl
 (ts_next (nx_L (s := s_5) rfl))))))))
 (fun s_2 j_3 => (ts_retDP (a := s_2) (tp_varW 2 (v := (tL (tT tI)) s_2) rfl))))))
@[irreducible] def t__law_steps (a0_m : Unit) (a1_p : Int) (a2_size_so : Int) : M (List (List Int)) :=
 (bi (bi (t__law_unit a2_size_so) fun l_2 => (nx (lcM (fun (line_1 : (List Int)) => (pu true)) (fun (line_1 : (List Int)) => (pu line_1)) l_2 []))) fun (lines_3 : (List (List Int))) =>
 (bi (bi (mulM 3 a2_size_so) fun i => rgM 0 i) fun l_35 => bi (forM (fun (turn_6 : Int) (s_4 : (List (List Int))) =>
 (bi (bi (bi (dr a2_size_so) fun x => bi (bi (dr a2_size_so) fun x => bi (dr a1_p) fun y => pu (x, y)) fun y => pu (x, y)) fun z_7 => pu (z_7.1, z_7.2.1, z_7.2.2)) fun (q_8 : (Int × Int × Int)) =>
 (if (decide (q_8.1 ≠ q_8.2.1)) = true then
 (bi (ixM s_4 q_8.1) fun (near_9 : (List Int)) =>
 (bi (ixM s_4 q_8.2.1) fun (far_10 : (List Int)) =>
 (bi (bi (rgM 0 a2_size_so) fun l_19 => (nx (lcM (fun (spot_11 : Int) => (pu true)) (fun (spot_11 : Int) => (bi (bi (ixM near_9 spot_11) fun a_14 => bi (bi (ixM far_10 spot_11) fun b_13 => (mulM q_8.2.2 b_13)) fun b_15 => (pu (a_14 + b_15))) fun a_17 => (modM a_17 a1_p))) l_19 []))) fun (x_21 : (List Int)) =>
 (bi (pu q_8.1) fun (j_22 : Int) =>
 (bi (stM s_4 j_22 x_21) fun (lines_20 : (List (List Int))) =>
 (pu lines_20))))))
 else (if (gGt q_8.2.2 0) = true then
 (bi (bi (ixM s_4 q_8.1) fun l_27 => (nx (lcM (fun (x_23 : Int) => (pu true)) (fun (x_23 : Int) => (bi (mulM q_8.2.2 x_23) fun a_25 => (modM a_25 a1_p))) l_27 []))) fun (x_29 : (List Int)) =>
 (bi (pu q_8.1) fun (j_30 : Int) =>
 (bi (stM s_4 j_30 x_29) fun (lines_28 : (List (List Int))) =>
 (pu lines_28))))
 else (pu s_4))))) l_35 lines_3) fun (s_4 : (List (List Int))) =>
 (bi (t__law_shuffled a0_m a2_size_so) fun (order_31 : (List Int)) =>
 (nx (lcM (fun (spot_32 : Int) => (pu true)) (fun (spot_32 : Int) => (ixM s_4 spot_32)) order_31 [])))))
theorem tf__law_steps (a0_m : Unit) (a1_p : Int) (a2_size_so : Int) : TFn W__law_steps [tG a0_m, tI a1_p, tI a2_size_so] (t__law_steps a0_m a1_p a2_size_so) (tT (tT tI)) := by
  unfold W__law_steps w__law_steps t__law_steps
  exact tf_run (ts_setO 3 (enc := (tL (tL tI))) (tg_lcM (e := (tT tI)) (eb := (tL tI)) (ue := (fun line_1 => [some (tG a0_m, false), some (tI a1_p, false), some (tI a2_size_so, false), none, some ((tT tI) line_1, false), none, none, none, none, none, none, none, none, none])) (ti_seqM seqT (tg_call (tf__law_unit a2_size_so) (tpa_cons (v := tI a2_size_so) (tp_var 2 (v := tI a2_size_so) rfl) tpa_nil) rfl)) (fun line_1 => rfl) (fun line_1 => (TG.pu (enc := id) tp_yes)) (fun line_1 => (TG.pu (enc := (tL tI)) (a := line_1) (tp_L (l_list seqT line_1) (tpa_cons (v := (tT tI) line_1) (tp_varW 4 (v := (tT tI) line_1) rfl) tpa_nil))))) (fun lines_3 =>
 (ts_forM (enc := tI) (mk := (fun (s_4 : (List (List Int))) (j_5 : Jk) => [some (tG a0_m, false), some (tI a1_p, false), some (tI a2_size_so, false), some ((tL (tL tI)) s_4, true), none, j_5 5, j_5 6, j_5 7, j_5 8, j_5 9, j_5 10, none, none, none])) (ub := (fun turn_6 s_4 j_5 => [some (tG a0_m, false), some (tI a1_p, false), some (tI a2_size_so, false), some ((tL (tL tI)) s_4, true), none, some (tI turn_6, false), j_5 6, j_5 7, j_5 8, j_5 9, j_5 10, none, none, none])) (s0 := lines_3) (ti_rg1M (tg_binPP (a := 3) (b := a2_size_so) o_mul tp_c (tp_varW 2 (v := tI a2_size_so) rfl))) rfl (fun turn_6 s_4 j_5 => rfl)
 (fun turn_6 s_4 j_5 => (ts_asg (enc := (tP3 tI tI tI)) (u' := fun q_8 => [some (tG a0_m, false), some (tI a1_p, false), some (tI a2_size_so, false), some ((tL (tL tI)) s_4, true), none, some (tI turn_6, false), some (tI q_8.1, false), some (tI q_8.2.1, false), some (tI q_8.2.2, false), j_5 9, j_5 10, none, none, none]) (tg_tup (f := fun z_7 => (z_7.1, z_7.2.1, z_7.2.2)) (eb := (tP3 tI tI tI)) (tga_consM (tg_call (tf_draw a0_m a2_size_so) (tpa_cons (v := tG a0_m) (tp_var 0 (v := tG a0_m) rfl) (tpa_cons (v := tI a2_size_so) (tp_var 2 (v := tI a2_size_so) rfl) tpa_nil)) rfl) (tga_consM (tg_call (tf_draw a0_m a2_size_so) (tpa_cons (v := tG a0_m) (tp_var 0 (v := tG a0_m) rfl) (tpa_cons (v := tI a2_size_so) (tp_var 2 (v := tI a2_size_so) rfl) tpa_nil)) rfl) (tga_last (tg_call (tf_draw a0_m a1_p) (tpa_cons (v := tG a0_m) (tp_var 0 (v := tG a0_m) rfl) (tpa_cons (v := tI a1_p) (tp_var 1 (v := tI a1_p) rfl) tpa_nil)) rfl) tpa_nil))) (fun _ => len_ok 3 rfl (by decide)) (fun _ => rfl)) (fun q_8 => rfl) (fun q_8 =>
 (ts_ifeP (c := (decide (q_8.1 ≠ q_8.2.1))) (tp_B (b := (decide (q_8.1 ≠ q_8.2.1))) (tp_bin (a := q_8.1) (b := q_8.2.1) (o_ne cmp_I (by decide)) (tp_varW 6 (v := tI q_8.1) rfl) (tp_varW 7 (v := tI q_8.2.1) rfl)))
 (ts_par 9 10 (enc := (tL tI)) (encb := (tL tI)) (tg_binPP (a := s_4) (b := q_8.1) (o_ix seqL) (tp_varW 3 (v := (tL (tL tI)) s_4) rfl) (tp_varW 6 (v := tI q_8.1) rfl)) (tg_binPP (a := s_4) (b := q_8.2.1) (o_ix seqL) (tp_varW 3 (v := (tL (tL tI)) s_4) rfl) (tp_varW 7 (v := tI q_8.2.1) rfl)) (fun near_9 far_10 =>
 (ts_nx (ts_setIx 3 (enc := (tL tI)) (l := s_4) rfl (tg_lcM (e := tI) (eb := tI) (ue := (fun spot_11 => [some (tG a0_m, false), some (tI a1_p, false), some (tI a2_size_so, false), some ((tL (tL tI)) s_4, true), none, some (tI turn_6, false), some (tI q_8.1, false), some (tI q_8.2.1, false), some (tI q_8.2.2, false), some ((tL tI) near_9, false), some ((tL tI) far_10, false), some (tI spot_11, false), none, none])) (ti_rg1 (i := a2_size_so) (tp_varW 2 (v := tI a2_size_so) rfl)) (fun spot_11 => rfl) (fun spot_11 => (TG.pu (enc := id) tp_yes)) (fun spot_11 => (tg_binMP (b := a1_p) o_mod (tg_L1 (eb := tI) (fun z_16 => l_intI z_16) (tga_last (tg_binMM (O2P.m o_add) (tg_binPP (a := near_9) (b := spot_11) (o_ix seqL) (tp_varW 9 (v := (tL tI) near_9) rfl) (tp_varW 11 (v := tI spot_11) rfl)) (tg_binPM (a := q_8.2.2) o_mul (tp_varW 8 (v := tI q_8.2.2) rfl) (tg_binPP (a := far_10) (b := spot_11) (o_ix seqL) (tp_varW 10 (v := (tL tI) far_10) rfl) (tp_varW 11 (v := tI spot_11) rfl)))) tpa_nil)) (tp_varW 1 (v := tI a1_p) rfl)))) (TG.pu (enc := tI) (a := q_8.1) (tp_varW 6 (v := tI q_8.1) rfl)) (fun lines_20 =>
 (ts_next (nx_L (s := lines_20) rfl)))))))
 (ts_ifeP (c := (gGt q_8.2.2 0)) (tp_B (b := (gGt q_8.2.2 0)) (tp_bin (a := q_8.2.2) (b := 0) (o_cmp gGt) (tp_varW 8 (v := tI q_8.2.2) rfl) tp_c))
 (ts_nx (ts_setIx 3 (enc := (tL tI)) (l := s_4) rfl (tg_lcM (e := tI) (eb := tI) (ue := (fun x_23 => [some (tG a0_m, false), some (tI a1_p, false), some (tI a2_size_so, false), some ((tL (tL tI)) s_4, true), none, some (tI turn_6, false), some (tI q_8.1, false), some (tI q_8.2.1, false), some (tI q_8.2.2, false), j_5 9, j_5 10, none, some (tI x_23, false), none])) (ti_seqM seqL (tg_binPP (a := s_4) (b := q_8.1) (o_ix seqL) (tp_varW 3 (v := (tL (tL tI)) s_4) rfl) (tp_varW 6 (v := tI q_8.1) rfl))) (fun x_23 => rfl) (fun x_23 => (TG.pu (enc := id) tp_yes)) (fun x_23 => (tg_binMP (b := a1_p) o_mod (tg_L1 (eb := tI) (fun z_24 => l_intI z_24) (tga_last (tg_binPP (a := q_8.2.2) (b := x_23) o_mul (tp_varW 8 (v := tI q_8.2.2) rfl) (tp_varW 12 (v := tI x_23) rfl)) tpa_nil)) (tp_varW 1 (v := tI a1_p) rfl)))) (TG.pu (enc := tI) (a := q_8.1) (tp_varW 6 (v := tI q_8.1) rfl)) (fun lines_28 =>
 (ts_next (nx_L (s := lines_28) rfl)))))
 (ts_next (nx_L (s := s_4) rfl)))))))
 (fun s_4 j_5 => (ts_set 13 (enc := (tT tI)) (tg_call (tf__law_shuffled a0_m a2_size_so) (tpa_cons (v := tG a0_m) (tp_var 0 (v := tG a0_m) rfl) (tpa_cons (v := tI a2_size_so) (tp_var 2 (v := tI a2_size_so) rfl) tpa_nil)) rfl) (fun order_31 =>
 (ts_retD (tg_L1 (eb := (tT (tT tI))) (fun z_34 => l_tuple seqL z_34) (tga_last (tg_lcP (e := tI) (eb := (tT tI)) (ue := (fun spot_32 => [some (tG a0_m, false), some (tI a1_p, false), some (tI a2_size_so, false), some ((tL (tL tI)) s_4, true), none, j_5 5, j_5 6, j_5 7, j_5 8, j_5 9, j_5 10, some (tI spot_32, false), none, some ((tT tI) order_31, false)])) (xs := order_31) (ti_seq (a := order_31) seqT (tp_varW 13 (v := (tT tI) order_31) rfl)) (fun spot_32 => rfl) (fun spot_32 => (TG.pu (enc := id) tp_yes)) (fun spot_32 => (tg_L1 (eb := (tT tI)) (fun z_33 => l_tuple seqL z_33) (tga_last (tg_binPP (a := s_4) (b := spot_32) (o_ix seqL) (tp_varW 3 (v := (tL (tL tI)) s_4) rfl) (tp_varW 11 (v := tI spot_32) rfl)) tpa_nil)))) tpa_nil)))))))))
@[irreducible] def t__law_all_right (a0_m : Unit) : M Bool :=
 (bi (t__law_small_prime a0_m) fun (p_1 : Int) =>
 (bi (dr (if (gLt p_1 5) = true then 5 else 4)) fun (size_so_2 : Int) =>
 (bi (dr (if (gLt p_1 5) = true then 5 else 4)) fun (lines_3 : Int) =>
 (bi (t__law_table a0_m p_1 lines_3 size_so_2) fun (table_so_4 : (List (List Int))) =>
 (bi (bi (t__law_kernel p_1 table_so_4 size_so_2) fun z_5 => t__law_leads z_5) fun (leads_here_6 : (List Int)) =>
 (bi (t__law_every p_1 size_so_2) fun l_23 => bi (forM (fun (column_so_9 : (List Int)) (s_7 : (List ((List Int) × (List Int)))) =>
 (bi (bi (nx (lcM (fun (spot_10 : Int) => (bi (ixM column_so_9 spot_10) fun a_11 => (pu (decide (a_11 ≠ 0))))) (fun (spot_10 : Int) => (pu 1)) leads_here_6 [])) fun a_13 => (pu (decide (a_13 = ([] : (List Int)))))) fun c => if c = true then
 (bi (pu column_so_9) fun (x_16 : (List Int)) =>
 (bi (t__law_led p_1 table_so_4 column_so_9) fun (j_17 : (List Int)) =>
 (bi (putT s_7 j_17 x_16) fun (due_15 : (List ((List Int) × (List Int)))) =>
 (pu due_15))))
 else (pu s_7))) l_23 ([] : (List ((List Int) × (List Int))))) fun (s_7 : (List ((List Int) × (List Int)))) =>
 (bi (t__law_every p_1 lines_3) fun l_22 => thr (forX (fun (column_so_20 : (List Int)) (s_18 : Unit) =>
 (bi (bi (bi (t_solved p_1 table_so_4 size_so_2 column_so_20) fun z_21 => t__law_like z_21 (lk s_7 column_so_20)) fun c => pu (!c)) fun c => if c = true then
 (pu (Ctl.rt false))
 else (pu (Ctl.nx ())))) l_22 ()) (fun (s_18 : Unit) =>
 (pu true)) id)))))))
theorem tf__law_all_right (a0_m : Unit) : TFn W__law_all_right [tG a0_m] (t__law_all_right a0_m) Ty.tB := by
  unfold W__law_all_right w__law_all_right t__law_all_right
  exact tf_run (ts_set 1 (enc := tI) (tg_call (tf__law_small_prime a0_m) (tpa_cons (v := tG a0_m) (tp_var 0 (v := tG a0_m) rfl) tpa_nil) rfl) (fun p_1 =>
 (ts_par 2 3 (enc := tI) (encb := tI) (tg_call (tf_draw a0_m (if (gLt p_1 5) = true then 5 else 4)) (tpa_cons (v := tG a0_m) (tp_var 0 (v := tG a0_m) rfl) (tpa_cons (v := tI (if (gLt p_1 5) = true then 5 else 4)) (tp_ifE (e := tI) (b := (gLt p_1 5)) (x := 5) (y := 4) (tp_B (b := (gLt p_1 5)) (tp_bin (a := p_1) (b := 5) (o_cmp gLt) (tp_varW 1 (v := tI p_1) rfl) tp_c)) tp_c tp_c) tpa_nil)) rfl) (tg_call (tf_draw a0_m (if (gLt p_1 5) = true then 5 else 4)) (tpa_cons (v := tG a0_m) (tp_var 0 (v := tG a0_m) rfl) (tpa_cons (v := tI (if (gLt p_1 5) = true then 5 else 4)) (tp_ifE (e := tI) (b := (gLt p_1 5)) (x := 5) (y := 4) (tp_B (b := (gLt p_1 5)) (tp_bin (a := p_1) (b := 5) (o_cmp gLt) (tp_varW 1 (v := tI p_1) rfl) tp_c)) tp_c tp_c) tpa_nil)) rfl) (fun size_so_2 lines_3 =>
 (ts_set 4 (enc := (tT (tT tI))) (tg_call (tf__law_table a0_m p_1 lines_3 size_so_2) (tpa_cons (v := tG a0_m) (tp_var 0 (v := tG a0_m) rfl) (tpa_cons (v := tI p_1) (tp_var 1 (v := tI p_1) rfl) (tpa_cons (v := tI lines_3) (tp_var 3 (v := tI lines_3) rfl) (tpa_cons (v := tI size_so_2) (tp_var 2 (v := tI size_so_2) rfl) tpa_nil)))) rfl) (fun table_so_4 =>
 (ts_set 5 (enc := (tL tI)) (tg_callM (fun (z_5 : (List (List Int))) => tf__law_leads z_5) (tga_last (tg_call (tf__law_kernel p_1 table_so_4 size_so_2) (tpa_cons (v := tI p_1) (tp_var 1 (v := tI p_1) rfl) (tpa_cons (v := (tT (tT tI)) table_so_4) (tp_var 4 (v := (tT (tT tI)) table_so_4) rfl) (tpa_cons (v := tI size_so_2) (tp_var 2 (v := tI size_so_2) rfl) tpa_nil))) rfl) tpa_nil) (fun _ => rfl)) (fun leads_here_6 =>
 (ts_setOP 6 (v := (tDT qL (tT tI)) ([] : (List ((List Int) × (List Int))))) tp_newT
 (ts_forM (enc := (tT tI)) (mk := (fun (s_7 : (List ((List Int) × (List Int)))) (j_8 : Jk) => [some (tG a0_m, false), some (tI p_1, false), some (tI size_so_2, false), some (tI lines_3, false), some ((tT (tT tI)) table_so_4, false), some ((tL tI) leads_here_6, false), some ((tDT qL (tT tI)) s_7, true), j_8 7, none])) (ub := (fun column_so_9 s_7 j_8 => [some (tG a0_m, false), some (tI p_1, false), some (tI size_so_2, false), some (tI lines_3, false), some ((tT (tT tI)) table_so_4, false), some ((tL tI) leads_here_6, false), some ((tDT qL (tT tI)) s_7, true), some ((tT tI) column_so_9, false), none])) (s0 := ([] : (List ((List Int) × (List Int))))) (ti_seqM seqL (tg_call (tf__law_every p_1 size_so_2) (tpa_cons (v := tI p_1) (tp_var 1 (v := tI p_1) rfl) (tpa_cons (v := tI size_so_2) (tp_var 2 (v := tI size_so_2) rfl) tpa_nil)) rfl)) rfl (fun column_so_9 s_7 j_8 => rfl)
 (fun column_so_9 s_7 j_8 => (ts_ife (tg_B (tg_binMP (b := ([] : (List Int))) (O2P.m (o_eq (cmp_L cmp_I) (by decide))) (tg_lcP (e := tI) (eb := tI) (ue := (fun spot_10 => [some (tG a0_m, false), some (tI p_1, false), some (tI size_so_2, false), some (tI lines_3, false), some ((tT (tT tI)) table_so_4, false), some ((tL tI) leads_here_6, false), some ((tDT qL (tT tI)) s_7, true), some ((tT tI) column_so_9, false), some (tI spot_10, false)])) (xs := leads_here_6) (ti_seq (a := leads_here_6) seqL (tp_varW 5 (v := (tL tI) leads_here_6) rfl)) (fun spot_10 => rfl) (fun spot_10 => (tg_B (tg_binMP (b := 0) (O2P.m (o_ne cmp_I (by decide))) (tg_binPP (a := column_so_9) (b := spot_10) (o_ix seqT) (tp_varW 7 (v := (tT tI) column_so_9) rfl) (tp_varW 8 (v := tI spot_10) rfl)) tp_c))) (fun spot_10 => (TG.pu (enc := tI) (a := 1) tp_c))) (tp_lst tpa_nil (len_ok 0 rfl (by decide)))))
 (ts_nx (ts_setDT 6 (e := (tT tI)) (d := s_7) key_L rfl (TG.pu (enc := (tT tI)) (a := column_so_9) (tp_var 7 (v := (tT tI) column_so_9) rfl)) (tg_call (tf__law_led p_1 table_so_4 column_so_9) (tpa_cons (v := tI p_1) (tp_var 1 (v := tI p_1) rfl) (tpa_cons (v := (tT (tT tI)) table_so_4) (tp_var 4 (v := (tT (tT tI)) table_so_4) rfl) (tpa_cons (v := (tT tI) column_so_9) (tp_var 7 (v := (tT tI) column_so_9) rfl) tpa_nil))) rfl) (fun due_15 =>
 (ts_next (nx_L (s := due_15) rfl)))))
 (ts_next (nx_L (s := s_7) rfl))))
 (fun s_7 j_8 => (ts_forXM (enc := (tT tI)) (mk := (fun (s_18 : Unit) (j_19 : Jk) => [some (tG a0_m, false), some (tI p_1, false), some (tI size_so_2, false), some (tI lines_3, false), some ((tT (tT tI)) table_so_4, false), some ((tL tI) leads_here_6, false), some ((tDT qL (tT tI)) s_7, true), j_19 7, none])) (ub := (fun column_so_20 s_18 j_19 => [some (tG a0_m, false), some (tI p_1, false), some (tI size_so_2, false), some (tI lines_3, false), some ((tT (tT tI)) table_so_4, false), some ((tL tI) leads_here_6, false), some ((tDT qL (tT tI)) s_7, true), some ((tT tI) column_so_20, false), none])) (s0 := ()) (rr := id) rt_D (ti_seqM seqL (tg_call (tf__law_every p_1 lines_3) (tpa_cons (v := tI p_1) (tp_var 1 (v := tI p_1) rfl) (tpa_cons (v := tI lines_3) (tp_var 3 (v := tI lines_3) rfl) tpa_nil)) rfl)) rfl (fun column_so_20 s_18 j_19 => rfl)
 (fun column_so_20 s_18 j_19 => (ts_ife (tg_nott (tg_truB (tg_callM (fun (z_21 : (Option (List Int))) => tf__law_like z_21 (lk s_7 column_so_20)) (tga_last (tg_call (tf_solved p_1 table_so_4 size_so_2 column_so_20) (tpa_cons (v := tI p_1) (tp_var 1 (v := tI p_1) rfl) (tpa_cons (v := (tT (tT tI)) table_so_4) (tp_var 4 (v := (tT (tT tI)) table_so_4) rfl) (tpa_cons (v := tI size_so_2) (tp_var 2 (v := tI size_so_2) rfl) (tpa_cons (v := (tT tI) column_so_20) (tp_var 7 (v := (tT tI) column_so_20) rfl) tpa_nil)))) rfl) (tpa_cons (v := (tO (tT tI)) (lk s_7 column_so_20)) (tp_getT (d := s_7) (k := column_so_20) key_L (tp_varW 6 (v := (tDT qL (tT tI)) s_7) rfl) (tp_varW 7 (v := (tT tI) column_so_20) rfl)) tpa_nil)) (fun _ => rfl))))
 (ts_retP (f := Ctl.rt) (a := false) rt_X tp_c)
 (ts_next (nx_X (s := ()) rfl))))
 (fun s_18 j_19 => (ts_retDP (a := true) tp_c))))))))))))))
@[irreducible] def t__law_back_right (a0_m : Unit) : M Bool :=
 (bi (t__law_prime a0_m) fun (p_1 : Int) =>
 (bi (dr 9) fun (size_so_2 : Int) =>
 (bi (t__law_steps a0_m p_1 size_so_2) fun (table_so_3 : (List (List Int))) =>
 (bi (t_turned_back p_1 table_so_3) fun (back_here_4 : (Option (List (List Int)))) =>
 (onO back_here_4 (pu false) fun (back_here_5 : (List (List Int))) =>
 (bi (bi (bi (t__law_behind p_1 table_so_3 back_here_5 size_so_2) fun x => bi (t__law_behind p_1 back_here_5 table_so_3 size_so_2) fun y => pu (x, y)) fun z_7 => pu [z_7.1, z_7.2]) fun (both_8 : (List (List (List Int)))) =>
 (bi (bi (bi (bi (bi (t__law_unit size_so_2) fun z_9 => pu [z_9]) fun a_10 => (repM a_10 2)) fun z_12 => t__law_like'1 both_8 z_12) fun c => pu (!c)) fun c => if c = true then
 (pu false)
 else
 (bi (t__law_table a0_m p_1 size_so_2 size_so_2) fun (table_so_13 : (List (List Int))) =>
 (bi (t_turned_back p_1 table_so_13) fun (told_14 : (Option (List (List Int)))) =>
 (bi (bi (bi (t__law_rank p_1 table_so_13 size_so_2) fun a_15 => (pu (gLt a_15 size_so_2))) fun b_18 => (pu (decide ((Option.isNone told_14) ≠ b_18)))) fun c => if c = true then
 (pu false)
 else
 (bi (onO told_14 (pu false) fun (told_19 : (List (List Int))) => (bi (bi (bi (t__law_behind p_1 table_so_13 told_19 size_so_2) fun x => bi (t__law_unit size_so_2) fun y => pu (x, y)) fun z_21 => t__law_like'2 z_21.1 z_21.2) fun c => pu (!c))) fun c => if c = true then
 (pu false)
 else
 (bi (bi (bi (t__law_table a0_m p_1 (1 + size_so_2) size_so_2) fun z_25 => t_turned_back p_1 z_25) fun a_26 => (pu (Option.isNone a_26))) fun c => if c = true then (bi (bi (t__law_table a0_m p_1 (1 + size_so_2) (2 + size_so_2)) fun z_22 => t_turned_back p_1 z_22) fun a_23 => (pu (Option.isNone a_23))) else (pu false)))))))))))))
theorem tf__law_back_right (a0_m : Unit) : TFn W__law_back_right [tG a0_m] (t__law_back_right a0_m) Ty.tB := by
  unfold W__law_back_right w__law_back_right t__law_back_right
  exact tf_run (ts_par 1 2 (enc := tI) (encb := tI) (tg_call (tf__law_prime a0_m) (tpa_cons (v := tG a0_m) (tp_var 0 (v := tG a0_m) rfl) tpa_nil) rfl) (tg_call (tf_draw a0_m 9) (tpa_cons (v := tG a0_m) (tp_var 0 (v := tG a0_m) rfl) (tpa_cons (v := tI 9) tp_c tpa_nil)) rfl) (fun p_1 size_so_2 =>
 (ts_set 3 (enc := (tT (tT tI))) (tg_call (tf__law_steps a0_m p_1 size_so_2) (tpa_cons (v := tG a0_m) (tp_var 0 (v := tG a0_m) rfl) (tpa_cons (v := tI p_1) (tp_var 1 (v := tI p_1) rfl) (tpa_cons (v := tI size_so_2) (tp_var 2 (v := tI size_so_2) rfl) tpa_nil))) rfl) (fun table_so_3 =>
 (ts_set 4 (enc := (tO (tT (tT tI)))) (tg_call (tf_turned_back p_1 table_so_3) (tpa_cons (v := tI p_1) (tp_var 1 (v := tI p_1) rfl) (tpa_cons (v := (tT (tT tI)) table_so_3) (tp_var 3 (v := (tT (tT tI)) table_so_3) rfl) tpa_nil)) rfl) (fun back_here_4 =>
 (ts_none (U0 := (fun (o_6 : (Option (List (List Int)))) => [some (tG a0_m, false), some (tI p_1, false), some (tI size_so_2, false), some ((tT (tT tI)) table_so_3, false), some ((tO (tT (tT tI))) o_6, false), none, none])) (o := back_here_4) (e := (tT (tT tI))) 4 ex_D nn_T rfl (fun _ => rfl) (ts_retDP (a := false) tp_c)
 (fun back_here_5 => (ts_set 5 (enc := (tL (tT (tT tI)))) (tg_lst (f := fun z_7 => [z_7.1, z_7.2]) (eb := (tL (tT (tT tI)))) (tga_consM (tg_call (tf__law_behind p_1 table_so_3 back_here_5 size_so_2) (tpa_cons (v := tI p_1) (tp_var 1 (v := tI p_1) rfl) (tpa_cons (v := (tT (tT tI)) table_so_3) (tp_var 3 (v := (tT (tT tI)) table_so_3) rfl) (tpa_cons (v := (tT (tT tI)) back_here_5) (tp_var 4 (v := (tT (tT tI)) back_here_5) rfl) (tpa_cons (v := tI size_so_2) (tp_var 2 (v := tI size_so_2) rfl) tpa_nil)))) rfl) (tga_last (tg_call (tf__law_behind p_1 back_here_5 table_so_3 size_so_2) (tpa_cons (v := tI p_1) (tp_var 1 (v := tI p_1) rfl) (tpa_cons (v := (tT (tT tI)) back_here_5) (tp_var 4 (v := (tT (tT tI)) back_here_5) rfl) (tpa_cons (v := (tT (tT tI)) table_so_3) (tp_var 3 (v := (tT (tT tI)) table_so_3) rfl) (tpa_cons (v := tI size_so_2) (tp_var 2 (v := tI size_so_2) rfl) tpa_nil)))) rfl) tpa_nil)) (fun _ => len_ok 2 rfl (by decide)) (fun _ => rfl)) (fun both_8 =>
 (ts_ifx ex_D (tg_nott (tg_truB (tg_callM (fun (z_12 : (List (List (List Int)))) => tf__law_like'1 both_8 z_12) (tga_consP (v := (tL (tT (tT tI))) both_8) (tp_var 5 (v := (tL (tT (tT tI))) both_8) rfl) (tga_last (tg_binMP (b := 2) (o_repL (e := (tT (tT tI)))) (tg_lst (f := fun z_9 => [z_9]) (eb := (tL (tT (tT tI)))) (tga_last (tg_call (tf__law_unit size_so_2) (tpa_cons (v := tI size_so_2) (tp_var 2 (v := tI size_so_2) rfl) tpa_nil) rfl) tpa_nil) (fun _ => len_ok 1 rfl (by decide)) (fun _ => rfl)) tp_c) tpa_nil)) (fun _ => rfl))))
 (ts_retDP (a := false) tp_c)
 (ts_nextS (ts_set 3 (enc := (tT (tT tI))) (tg_call (tf__law_table a0_m p_1 size_so_2 size_so_2) (tpa_cons (v := tG a0_m) (tp_var 0 (v := tG a0_m) rfl) (tpa_cons (v := tI p_1) (tp_var 1 (v := tI p_1) rfl) (tpa_cons (v := tI size_so_2) (tp_var 2 (v := tI size_so_2) rfl) (tpa_cons (v := tI size_so_2) (tp_var 2 (v := tI size_so_2) rfl) tpa_nil)))) rfl) (fun table_so_13 =>
 (ts_set 6 (enc := (tO (tT (tT tI)))) (tg_call (tf_turned_back p_1 table_so_13) (tpa_cons (v := tI p_1) (tp_var 1 (v := tI p_1) rfl) (tpa_cons (v := (tT (tT tI)) table_so_13) (tp_var 3 (v := (tT (tT tI)) table_so_13) rfl) tpa_nil)) rfl) (fun told_14 =>
 (ts_ifx ex_D (tg_B (tg_binPM (a := (Option.isNone told_14)) (O2P.m (o_ne cmp_B (by decide))) (tp_bin (a := told_14) (b := ()) (o_is nn_T) (tp_varW 6 (v := (tO (tT (tT tI))) told_14) rfl) tp_c) (tg_binMP (b := size_so_2) (O2P.m (o_cmp gLt)) (tg_call (tf__law_rank p_1 table_so_13 size_so_2) (tpa_cons (v := tI p_1) (tp_var 1 (v := tI p_1) rfl) (tpa_cons (v := (tT (tT tI)) table_so_13) (tp_var 3 (v := (tT (tT tI)) table_so_13) rfl) (tpa_cons (v := tI size_so_2) (tp_var 2 (v := tI size_so_2) rfl) tpa_nil))) rfl) (tp_varW 2 (v := tI size_so_2) rfl))))
 (ts_retDP (a := false) tp_c)
 (ts_nextS (ts_ifx ex_D (tg_andO (U0 := (fun (o_20 : (Option (List (List Int)))) => [some (tG a0_m, false), some (tI p_1, false), some (tI size_so_2, false), some ((tT (tT tI)) table_so_13, false), some ((tT (tT tI)) back_here_5, false), some ((tL (tT (tT tI))) both_8, false), some ((tO (tT (tT tI))) o_20, false)])) (o := told_14) (e := (tT (tT tI))) 6 nn_T rfl (fun _ => rfl) (fun told_19 => (tg_nott (tg_truB (tg_callM (fun (z_21 : (List (List Int)) × (List (List Int))) => tf__law_like'2 z_21.1 z_21.2) (tga_consM (tg_call (tf__law_behind p_1 table_so_13 told_19 size_so_2) (tpa_cons (v := tI p_1) (tp_var 1 (v := tI p_1) rfl) (tpa_cons (v := (tT (tT tI)) table_so_13) (tp_var 3 (v := (tT (tT tI)) table_so_13) rfl) (tpa_cons (v := (tT (tT tI)) told_19) (tp_var 6 (v := (tT (tT tI)) told_19) rfl) (tpa_cons (v := tI size_so_2) (tp_var 2 (v := tI size_so_2) rfl) tpa_nil)))) rfl) (tga_last (tg_call (tf__law_unit size_so_2) (tpa_cons (v := tI size_so_2) (tp_var 2 (v := tI size_so_2) rfl) tpa_nil) rfl) tpa_nil)) (fun _ => rfl))))))
 (ts_retDP (a := false) tp_c)
 (ts_nextS (ts_retD (tg_andV (tg_binMP (b := ()) (O2P.m (o_is nn_T)) (tg_callM (fun (z_25 : (List (List Int))) => tf_turned_back p_1 z_25) (tga_consP (v := tI p_1) (tp_var 1 (v := tI p_1) rfl) (tga_last (tg_call (tf__law_table a0_m p_1 (1 + size_so_2) size_so_2) (tpa_cons (v := tG a0_m) (tp_var 0 (v := tG a0_m) rfl) (tpa_cons (v := tI p_1) (tp_var 1 (v := tI p_1) rfl) (tpa_cons (v := tI (1 + size_so_2)) (tp_bin (a := 1) (b := size_so_2) o_add tp_c (tp_varW 2 (v := tI size_so_2) rfl)) (tpa_cons (v := tI size_so_2) (tp_var 2 (v := tI size_so_2) rfl) tpa_nil)))) rfl) tpa_nil)) (fun _ => rfl)) tp_c) (tg_binMP (b := ()) (O2P.m (o_is nn_T)) (tg_callM (fun (z_22 : (List (List Int))) => tf_turned_back p_1 z_22) (tga_consP (v := tI p_1) (tp_var 1 (v := tI p_1) rfl) (tga_last (tg_call (tf__law_table a0_m p_1 (1 + size_so_2) (2 + size_so_2)) (tpa_cons (v := tG a0_m) (tp_var 0 (v := tG a0_m) rfl) (tpa_cons (v := tI p_1) (tp_var 1 (v := tI p_1) rfl) (tpa_cons (v := tI (1 + size_so_2)) (tp_bin (a := 1) (b := size_so_2) o_add tp_c (tp_varW 2 (v := tI size_so_2) rfl)) (tpa_cons (v := tI (2 + size_so_2)) (tp_bin (a := 2) (b := size_so_2) o_add tp_c (tp_varW 2 (v := tI size_so_2) rfl)) tpa_nil)))) rfl) tpa_nil)) (fun _ => rfl)) tp_c)))))))))))))))))))))))
@[irreducible] def t_law (a0_script : (List Int)) : M Bool :=
 (bi (rgM 0 (if (if 5 < ((List.length a0_script : Nat) : Int) then 5 else ((List.length a0_script : Nat) : Int)) > 3 then (if 5 < ((List.length a0_script : Nat) : Int) then 5 else ((List.length a0_script : Nat) : Int)) else 3)) fun l_18 => thr (forX (fun (turn_3 : Int) (s_1 : Unit) =>
 (bi (t__law_begun a0_script turn_3) fun (m_4 : Unit) =>
 (bi (bi (bi (t__law_all_right m_4) fun c => pu (!c)) fun c => if c = true then (pu true) else (bi (t__law_back_right m_4) fun c => pu (!c))) fun c => if c = true then
 (pu (Ctl.rt false))
 else (pu (Ctl.nx ()))))) l_18 ()) (fun (s_1 : Unit) =>
 (bi (bi (bi (bi (t_solved 5 [[1, 1]] 2 [3]) fun v_5 => pu ((tO (tT tI)) v_5)) fun x => bi (bi (bi (t_solved 5 [[1, 2], [2, 4]] 2 [1, 3]) fun v_6 => pu ((tO (tT tI)) v_6)) fun x => bi (bi (bi (t_solved 3 ([] : (List (List Int))) 2 ([] : (List Int))) fun v_7 => pu ((tO (tT tI)) v_7)) fun x => bi (bi (t_solved 3 [([] : (List Int))] 0 [1]) fun v_8 => pu ((tO (tT tI)) v_8)) fun y => pu (x, y)) fun y => pu (x, y)) fun y => pu (x, y)) fun z_9 => pu [z_9.1, z_9.2.1, z_9.2.2.1, z_9.2.2.2]) fun (told_10 : (List U)) =>
 (bi (bi (bi (bi (bi (t_solved 5 [[2]] 1 [4]) fun v_11 => pu ((tO (tT tI)) v_11)) fun x => bi (bi (bi (t_turned_back 5 [[2]]) fun v_12 => pu ((tO (tT (tT tI))) v_12)) fun x => bi (bi (t_turned_back 3 ([] : (List (List Int)))) fun v_13 => pu ((tO (tT (tT tI))) v_13)) fun y => pu (x, y)) fun y => pu (x, y)) fun z_14 => pu [z_14.1, z_14.2.1, z_14.2.2]) fun b_16 => (catM told_10 b_16)) fun (told_17 : (List U)) =>
 (t__law_like'3 told_17 [((tP tI tI) (0, 3)), (tN ()), ((tP tI tI) (0, 0)), (tN ()), ((tT tI) [2]), ((tT (tT tI)) [[3]]), ((tT tI) ([] : (List Int)))])))) id)
theorem tf_law (a0_script : (List Int)) : TFn W_law [(tZ tI) a0_script] (t_law a0_script) Ty.tB := by
  unfold W_law w_law t_law
  exact tf_run (ts_forXM (enc := tI) (mk := (fun (s_1 : Unit) (j_2 : Jk) => [some ((tZ tI) a0_script, false), j_2 1, j_2 2, none])) (ub := (fun turn_3 s_1 j_2 => [some ((tZ tI) a0_script, false), some (tI turn_3, false), j_2 2, none])) (s0 := ()) (rr := id) rt_D (ti_rg1 (i := (if (if 5 < ((List.length a0_script : Nat) : Int) then 5 else ((List.length a0_script : Nat) : Int)) > 3 then (if 5 < ((List.length a0_script : Nat) : Int) then 5 else ((List.length a0_script : Nat) : Int)) else 3)) (tp_L (l_max2 3 (if 5 < ((List.length a0_script : Nat) : Int) then 5 else ((List.length a0_script : Nat) : Int))) (tpa_cons (v := tI 3) tp_c (tpa_cons (v := tI (if 5 < ((List.length a0_script : Nat) : Int) then 5 else ((List.length a0_script : Nat) : Int))) (tp_L (l_min2 ((List.length a0_script : Nat) : Int) 5) (tpa_cons (v := tI ((List.length a0_script : Nat) : Int)) (tp_L (l_len seqZ a0_script) (tpa_cons (v := (tZ tI) a0_script) (tp_varW 0 (v := (tZ tI) a0_script) rfl) tpa_nil)) (tpa_cons (v := tI 5) tp_c tpa_nil))) tpa_nil)))) rfl (fun turn_3 s_1 j_2 => rfl)
 (fun turn_3 s_1 j_2 => (ts_set 2 (enc := tG) (tg_call (tf__law_begun a0_script turn_3) (tpa_cons (v := (tZ tI) a0_script) (tp_var 0 (v := (tZ tI) a0_script) rfl) (tpa_cons (v := tI turn_3) (tp_var 1 (v := tI turn_3) rfl) tpa_nil)) rfl) (fun m_4 =>
 (ts_ife (tg_or (tg_nott (tg_truB (tg_call (tf__law_all_right m_4) (tpa_cons (v := tG m_4) (tp_var 2 (v := tG m_4) rfl) tpa_nil) rfl))) (tg_nott (tg_truB (tg_call (tf__law_back_right m_4) (tpa_cons (v := tG m_4) (tp_var 2 (v := tG m_4) rfl) tpa_nil) rfl))))
 (ts_retP (f := Ctl.rt) (a := false) rt_X tp_c)
 (ts_next (nx_X (s := ()) rfl))))))
 (fun s_1 j_2 => (ts_set 3 (enc := (tL tU)) (tg_lst (f := fun z_9 => [z_9.1, z_9.2.1, z_9.2.2.1, z_9.2.2.2]) (eb := (tL tU)) (tga_consM (tg_any (tg_call (tf_solved 5 [[1, 1]] 2 [3]) (tpa_cons (v := tI 5) tp_c (tpa_cons (v := (tT (tT tI)) [[1, 1]]) (tp_tup (tpa_cons (v := (tT tI) [1, 1]) (tp_tup (tpa_cons (v := tI 1) tp_c (tpa_cons (v := tI 1) tp_c tpa_nil)) (len_ok 2 rfl (by decide))) tpa_nil) (len_ok 1 rfl (by decide))) (tpa_cons (v := tI 2) tp_c (tpa_cons (v := (tT tI) [3]) (tp_tup (tpa_cons (v := tI 3) tp_c tpa_nil) (len_ok 1 rfl (by decide))) tpa_nil)))) rfl)) (tga_consM (tg_any (tg_call (tf_solved 5 [[1, 2], [2, 4]] 2 [1, 3]) (tpa_cons (v := tI 5) tp_c (tpa_cons (v := (tT (tT tI)) [[1, 2], [2, 4]]) (tp_tup (tpa_cons (v := (tT tI) [1, 2]) (tp_tup (tpa_cons (v := tI 1) tp_c (tpa_cons (v := tI 2) tp_c tpa_nil)) (len_ok 2 rfl (by decide))) (tpa_cons (v := (tT tI) [2, 4]) (tp_tup (tpa_cons (v := tI 2) tp_c (tpa_cons (v := tI 4) tp_c tpa_nil)) (len_ok 2 rfl (by decide))) tpa_nil)) (len_ok 2 rfl (by decide))) (tpa_cons (v := tI 2) tp_c (tpa_cons (v := (tT tI) [1, 3]) (tp_tup (tpa_cons (v := tI 1) tp_c (tpa_cons (v := tI 3) tp_c tpa_nil)) (len_ok 2 rfl (by decide))) tpa_nil)))) rfl)) (tga_consM (tg_any (tg_call (tf_solved 3 ([] : (List (List Int))) 2 ([] : (List Int))) (tpa_cons (v := tI 3) tp_c (tpa_cons (v := (tT (tT tI)) ([] : (List (List Int)))) (tp_tup tpa_nil (len_ok 0 rfl (by decide))) (tpa_cons (v := tI 2) tp_c (tpa_cons (v := (tT tI) ([] : (List Int))) (tp_tup tpa_nil (len_ok 0 rfl (by decide))) tpa_nil)))) rfl)) (tga_last (tg_any (tg_call (tf_solved 3 [([] : (List Int))] 0 [1]) (tpa_cons (v := tI 3) tp_c (tpa_cons (v := (tT (tT tI)) [([] : (List Int))]) (tp_tup (tpa_cons (v := (tT tI) ([] : (List Int))) (tp_tup tpa_nil (len_ok 0 rfl (by decide))) tpa_nil) (len_ok 1 rfl (by decide))) (tpa_cons (v := tI 0) tp_c (tpa_cons (v := (tT tI) [1]) (tp_tup (tpa_cons (v := tI 1) tp_c tpa_nil) (len_ok 1 rfl (by decide))) tpa_nil)))) rfl)) tpa_nil)))) (fun _ => len_ok 4 rfl (by decide)) (fun _ => rfl)) (fun told_10 =>
 (ts_set 3 (enc := (tL tU)) (tg_binPM (a := told_10) (o_catL (e := tU)) (tp_varW 3 (v := (tL tU) told_10) rfl) (tg_lst (f := fun z_14 => [z_14.1, z_14.2.1, z_14.2.2]) (eb := (tL tU)) (tga_consM (tg_any (tg_callK (k := 0) (j := 4) (is := [3, 2, 1, 0]) (tf_solved 5 [[2]] 1 [4]) tpa_nil (tpa_cons (v := (tT tI) [4]) (tp_tup (tpa_cons (v := tI 4) tp_c tpa_nil) (len_ok 1 rfl (by decide))) (tpa_cons (v := tI 1) tp_c (tpa_cons (v := (tT (tT tI)) [[2]]) (tp_tup (tpa_cons (v := (tT tI) [2]) (tp_tup (tpa_cons (v := tI 2) tp_c tpa_nil) (len_ok 1 rfl (by decide))) tpa_nil) (len_ok 1 rfl (by decide))) (tpa_cons (v := tI 5) tp_c tpa_nil)))) rfl rfl)) (tga_consM (tg_any (tg_callK (k := 0) (j := 2) (is := [1, 0]) (tf_turned_back 5 [[2]]) tpa_nil (tpa_cons (v := (tT (tT tI)) [[2]]) (tp_tup (tpa_cons (v := (tT tI) [2]) (tp_tup (tpa_cons (v := tI 2) tp_c tpa_nil) (len_ok 1 rfl (by decide))) tpa_nil) (len_ok 1 rfl (by decide))) (tpa_cons (v := tI 5) tp_c tpa_nil)) rfl rfl)) (tga_last (tg_any (tg_call (tf_turned_back 3 ([] : (List (List Int)))) (tpa_cons (v := tI 3) tp_c (tpa_cons (v := (tT (tT tI)) ([] : (List (List Int)))) (tp_tup tpa_nil (len_ok 0 rfl (by decide))) tpa_nil)) rfl)) tpa_nil))) (fun _ => len_ok 3 rfl (by decide)) (fun _ => rfl))) (fun told_17 =>
 (ts_retD (tg_call (tf__law_like'3 told_17 [((tP tI tI) (0, 3)), (tN ()), ((tP tI tI) (0, 0)), (tN ()), ((tT tI) [2]), ((tT (tT tI)) [[3]]), ((tT tI) ([] : (List Int)))]) (tpa_cons (v := (tL tU) told_17) (tp_var 3 (v := (tL tU) told_17) rfl) (tpa_cons (v := (tL tU) [((tP tI tI) (0, 3)), (tN ()), ((tP tI tI) (0, 0)), (tN ()), ((tT tI) [2]), ((tT (tT tI)) [[3]]), ((tT tI) ([] : (List Int)))]) (tp_lst (tpa_cons (v := tU ((tP tI tI) (0, 3))) (tp_tup (tpa_cons (v := tI 0) tp_c (tpa_cons (v := tI 3) tp_c tpa_nil)) (len_ok 2 rfl (by decide))) (tpa_cons (v := tU (tN ())) tp_c (tpa_cons (v := tU ((tP tI tI) (0, 0))) (tp_tup (tpa_cons (v := tI 0) tp_c (tpa_cons (v := tI 0) tp_c tpa_nil)) (len_ok 2 rfl (by decide))) (tpa_cons (v := tU (tN ())) tp_c (tpa_cons (v := tU ((tT tI) [2])) (tp_tup (tpa_cons (v := tI 2) tp_c tpa_nil) (len_ok 1 rfl (by decide))) (tpa_cons (v := tU ((tT (tT tI)) [[3]])) (tp_tup (tpa_cons (v := (tT tI) [3]) (tp_tup (tpa_cons (v := tI 3) tp_c tpa_nil) (len_ok 1 rfl (by decide))) tpa_nil) (len_ok 1 rfl (by decide))) (tpa_cons (v := tU ((tT tI) ([] : (List Int)))) (tp_tup tpa_nil (len_ok 0 rfl (by decide))) tpa_nil))))))) (len_ok 7 rfl (by decide))) tpa_nil)) rfl))))))))
end LH
set_option maxRecDepth 100000
set_option maxHeartbeats 400000
namespace Ty
open PySem PySem.Spec PyProof.Rows L2 Pd
section
variable {α β γ σ ρ τ : Type}
theorem okMul {a b : Int} (h : a.natAbs < 2 ^ 60) : mulM a b = pu (a * b) := rq_true (by
  unfold mulOk
  simp only [Bool.or_eq_true, Bool.and_eq_true, decide_eq_true_eq]
  omega) _
theorem okMul2 {a b : Int} (h : b.natAbs < 2 ^ 60) : mulM a b = pu (a * b) := rq_true (by
  unfold mulOk
  simp only [Bool.or_eq_true, Bool.and_eq_true, decide_eq_true_eq]
  omega) _
theorem okMod {a b : Int} (h : 0 < b) : modM a b = pu (a % b) := rq_true h _
theorem ix_get {l : List α} {k : Nat} {x : α} (h : l[k]? = some x) : ixM l ((k : Nat) : Int) = pu x := op?_some (Pd.atI_nat h)
theorem okIx {l : List α} {k : Nat} {d : α} (h : k < l.length) : ixM l ((k : Nat) : Int) = pu (l.getD k d) := ix_get (by rw [List.getD_eq_getElem?_getD, List.getElem?_eq_getElem h]; rfl)
theorem ix_zero {l : List α} {x : α} (h : l[0]? = some x) : ixM l 0 = pu x := ix_get (k := 0) h
theorem ix_cons {l : List α} {x : α} : ixM (x :: l) 0 = pu x := ix_zero rfl
def rgN (n : Nat) : List Int := (List.range n).map fun (i : Nat) => (i : Int)
theorem rg_N (n : Nat) : rg 0 (n : Int) = rgN n := by
  unfold rg rgN
  simp
theorem rgOk_n {n : Nat} (h : n ≤ 16000000) : rgOk 0 (n : Int) = true := rgOk_of (by omega) (by omega) (by omega) (by omega) (by rw [sizeLine_eq]; omega)
theorem okRg {n : Nat} (h : n ≤ 16000000) : rgM 0 (n : Int) = pu (rgN n) := by rw [← rg_N]; exact rq_true (rgOk_n h) _
theorem okRg2 {a b : Int} (h1 : -100000000 ≤ a) (h2 : a ≤ 100000000) (h3 : -100000000 ≤ b) (h4 : b ≤ 100000000) (h : b - a ≤ 16000000) : rgM a b = pu (rg a b) := rq_true (rgOk_of (by omega) (by omega) (by omega) (by omega) (by rw [sizeLine_eq]; omega)) _
theorem okCat {a b : List α} (h : a.length + b.length ≤ 16000000) : catM a b = pu (a ++ b) := rq_true (by rw [sizeLine_eq]; omega) _
theorem okApp {l : List α} {x : α} (h : l.length < 16000000) : appM l x = pu (l ++ [x]) := rq_true (by rw [sizeLine_eq]; omega) _
theorem ixN_nat {n k : Nat} (h : k < n) : ixN n ((k : Nat) : Int) = some k := by
  unfold ixN
  rw [if_pos (by omega), if_pos (by omega), Int.toNat_natCast]
theorem okSt {l : List α} {k : Nat} {x : α} (h : k < l.length) : stM l ((k : Nat) : Int) x = pu (l.set k x) := op?_some (by rw [ixN_nat h]; rfl)
theorem okPop {l : List (List α)} {k : Nat} {d : List α} (h : k < l.length) : popM l ((k : Nat) : Int) = pu (l.getD k d, l.eraseIdx k) := op?_some (by
  rw [ixN_nat h]
  show (l[k]?).map _ = _
  rw [List.getD_eq_getElem?_getD, List.getElem?_eq_getElem h]
  rfl)
theorem okRep {a : List α} {n : Nat} (h : a.length * n ≤ 16000000) (hn : n ≤ 16000000) : repM a (n : Int) = pu (List.replicate n a).flatten := by
  unfold repM
  rw [rq_true, Int.toNat_natCast]
  unfold repOk
  simp only [Bool.and_eq_true, decide_eq_true_eq]
  rw [sizeLine_eq, Int.toNat_natCast]
  exact ⟨⟨by omega, by omega⟩, by omega⟩
theorem flat_rep (x : α) : ∀ n, (List.replicate n [x]).flatten = List.replicate n x
  | 0 => rfl
  | n + 1 => by rw [List.replicate_succ, List.flatten_cons, flat_rep x n]; rfl
theorem okRep1 {x : α} {n : Nat} (hn : n ≤ 16000000) : repM [x] (n : Int) = pu (List.replicate n x) := by rw [okRep (by simp; omega) hn, flat_rep]
theorem okPut [DecidableEq α] {d : List (α × β)} {k : α} {a : β} (h : d.length < 16000000) : putT d k a = pu (putA d k a) := rq_true (by rw [sizeLine_eq]; omega) _
theorem er_mp (f : α → β) : ∀ (l : List α) (k : Nat), (l.map f).eraseIdx k = (l.eraseIdx k).map f
  | [], _ => rfl
  | _ :: _, 0 => rfl
  | a :: l, k + 1 => by
    show f a :: (l.map f).eraseIdx k = _
    rw [er_mp f l k]
    rfl
theorem en_range (d : α) (l : List α) : en l = (List.range l.length).map fun (k : Nat) => (((k : Nat) : Int), l.getD k d) := by
  unfold en
  refine List.ext_getElem (by simp) fun k h1 h2 => ?_
  simp only [List.getElem_map, List.getElem_zipIdx, List.getElem_range]
  rw [List.getD_eq_getElem?_getD, List.getElem?_eq_getElem (by simpa using h1)]
  simp
theorem zip_range (d : α) (d' : β) (a : List α) (b : List β) (h : a.length = b.length) : List.zip a b = (List.range a.length).map fun (k : Nat) => (a.getD k d, b.getD k d') := by
  refine List.ext_getElem (by simp [h]) fun k h1 h2 => ?_
  simp only [List.getElem_map, List.getElem_zip, List.getElem_range]
  simp at h1
  rw [List.getD_eq_getElem?_getD, List.getD_eq_getElem?_getD, List.getElem?_eq_getElem (by omega), List.getElem?_eq_getElem (by omega)]
  rfl
theorem self_range (d : α) (a : List α) : a = (List.range a.length).map fun (k : Nat) => a.getD k d := by
  refine List.ext_getElem (by simp) fun k h1 h2 => ?_
  simp only [List.getElem_map, List.getElem_range]
  rw [List.getD_eq_getElem?_getD, List.getElem?_eq_getElem h1]
  rfl
/-- over what is mapped -/
theorem lc_map {g : γ → α} {mt : α → M Bool} {me : α → M β} (k : γ → Bool) (f : γ → β) (xs : List γ) (ht : ∀ x ∈ xs, mt (g x) = pu (k x)) (he : ∀ x ∈ xs, k x = true → me (g x) = pu (f x)) : nx (lcM mt me (xs.map g) []) = pu ((xs.filter k).map f) := by
  have h : ∀ (ys : List γ) (acc : List β), (∀ x ∈ ys, x ∈ xs) → lcM mt me (ys.map g) acc = pu (acc ++ (ys.filter k).map f) := by
    intro ys
    induction ys with
    | nil => intro acc _; rw [List.filter_nil, List.map_nil, List.map_nil, List.append_nil]; rfl
    | cons y ys ih =>
      intro acc hs
      have hy := hs y List.mem_cons_self
      rw [List.map_cons]
      unfold lcM
      rw [ht y hy, pu_bi]
      cases hk : k y with
      | true =>
        rw [if_pos rfl, he y hy hk, pu_bi, ih _ fun x hx => hs x (List.mem_cons_of_mem _ hx), List.filter_cons, if_pos hk, List.map_cons, List.append_assoc]
        rfl
      | false =>
        rw [if_neg (by decide), ih _ fun x hx => hs x (List.mem_cons_of_mem _ hx), List.filter_cons, if_neg (by rw [hk]; decide)]
  rw [h xs [] fun _ h => h]
  rfl
theorem lc_map1 {g : γ → α} {me : α → M β} (f : γ → β) (xs : List γ) (he : ∀ x ∈ xs, me (g x) = pu (f x)) : nx (lcM (fun _ => pu true) me (xs.map g) []) = pu (xs.map f) := by
  have := lc_map (mt := fun _ => pu true) (fun _ => true) f xs (fun _ _ => rfl) (fun x hx _ => he x hx)
  rwa [List.filter_eq_self.mpr fun _ _ => rfl] at this
/-- over a range -/
theorem lc_rg {mt : Int → M Bool} {me : Int → M β} {n : Nat} (k : Nat → Bool) (f : Nat → β) (ht : ∀ i, i < n → mt (i : Int) = pu (k i)) (he : ∀ i, i < n → k i = true → me (i : Int) = pu (f i)) : nx (lcM mt me (rgN n) []) = pu (((List.range n).filter k).map f) :=
  lc_map k f (List.range n) (fun x hx => ht x (List.mem_range.mp hx)) (fun x hx => he x (List.mem_range.mp hx))
theorem lc_rg1 {me : Int → M β} {n : Nat} (f : Nat → β) (he : ∀ i, i < n → me (i : Int) = pu (f i)) : nx (lcM (fun _ => pu true) me (rgN n) []) = pu ((List.range n).map f) := lc_map1 f (List.range n) fun x hx => he x (List.mem_range.mp hx)
theorem for_get {f : α → σ → M σ} : ∀ (xs : List α) (S : Nat → σ), (∀ i x, xs[i]? = some x → f x (S i) = pu (S (i + 1))) → forM f xs (S 0) = pu (S xs.length)
  | [], S, _ => rfl
  | x :: xs, S, h => by
    unfold forM
    rw [h 0 x rfl, pu_bi]
    exact for_get xs (fun i => S (i + 1)) fun i y hy => h (i + 1) y (by simpa using hy)
theorem for_rg {f : Int → σ → M σ} {n : Nat} (S : Nat → σ) (h : ∀ i, i < n → f (i : Int) (S i) = pu (S (i + 1))) : forM f (rgN n) (S 0) = pu (S n) := by
  have := for_get (rgN n) S fun i x hx => by
    unfold rgN at hx
    rw [List.getElem?_map] at hx
    obtain ⟨j, hj, rfl⟩ := Option.map_eq_some_iff.mp hx
    have hj2 := List.getElem?_eq_some_iff.mp hj
    obtain ⟨h1, h2⟩ := hj2
    simp at h1 h2
    subst h2
    exact h i h1
  rw [this]
  unfold rgN
  rw [List.length_map, List.length_range]
theorem bi_for_rg {f : Int → σ → M σ} {n : Nat} {k : σ → M τ} {s : σ} (S : Nat → σ) (e : s = S 0) (h : ∀ i, i < n → f (i : Int) (S i) = pu (S (i + 1))) : bi (forM f (rgN n) s) k = k (S n) := by rw [e, for_rg S h, pu_bi]
theorem bi_for_get {f : α → σ → M σ} {xs : List α} {k : σ → M τ} {s : σ} (S : Nat → σ) (e : s = S 0) (h : ∀ i x, xs[i]? = some x → f x (S i) = pu (S (i + 1))) : bi (forM f xs s) k = k (S xs.length) := by rw [e, for_get xs S h, pu_bi]
def En (m : M α) (P : α → Prop) : Prop := ∀ (Q : α → Prop) (X : TX → Prop), (∀ a, P a → Q a) → m Q X
variable {m : M α} {P P' : α → Prop} {k : α → M β} {R : β → Prop}
theorem En.pu {a : α} (h : P a) : En (Ty.pu a) P := fun Q X q => q a h
theorem En.of {a : α} (e : m = Ty.pu a) (h : P a) : En m P := by rw [e]; exact En.pu h
theorem En.bi (h : En m P) (hk : ∀ a, P a → En (k a) R) : En (Ty.bi m k) R := fun Q X q => h _ X fun a p => hk a p Q X q
theorem En.bie {a : α} (e : m = Ty.pu a) (hk : En (k a) R) : En (Ty.bi m k) R := by rw [e]; exact hk
theorem En.wk (h : En m P) (hp : ∀ a, P a → P' a) : En m P' := fun Q X q => h Q X fun a p => q a (hp a p)
theorem En.eq {a : α} (h : En m (fun b => b = a)) (p : P a) : En m P := h.wk fun b e => e ▸ p
theorem En.dr {b : Int} (h0 : 0 < b) (hb : b < 1073741824) : En (Ty.dr b) (fun x => 0 ≤ x ∧ x < b) := fun Q X q => ⟨⟨h0, hb⟩, fun x h1 h2 => q x ⟨h1, h2⟩⟩
theorem En.nx (h : En m P) : En (Ty.nx m) P := fun Q X q => h Q _ q
theorem En.ite {c : Prop} [Decidable c] {m1 m2 : M α} (h1 : c → En m1 P) (h2 : ¬ c → En m2 P) : En (if c then m1 else m2) P := by
  by_cases h : c
  · rw [if_pos h]; exact h1 h
  · rw [if_neg h]; exact h2 h
theorem En.lc1 {me : α → M β} {B : α → β → Prop} (xs : List α) (he : ∀ x ∈ xs, En (me x) (B x)) : En (Ty.nx (lcM (fun _ => Ty.pu true) me xs [])) (fun l => Paired B xs l) := by
  have h : ∀ (xs : List α) (acc : List β), (∀ x ∈ xs, En (me x) (B x)) → En (lcM (fun _ => Ty.pu true) me xs acc) (fun l => ∃ m, l = acc ++ m ∧ Paired B xs m) := by
    intro xs
    induction xs with
    | nil => intro acc _; exact En.pu ⟨[], by simp, .nil⟩
    | cons x xs ih =>
      intro acc he
      unfold lcM
      rw [pu_bi, if_pos rfl]
      refine En.bi (he x List.mem_cons_self) fun y hy => ?_
      refine (ih (acc ++ [y]) fun z hz => he z (List.mem_cons_of_mem _ hz)).wk fun l h => ?_
      obtain ⟨m, rfl, hm⟩ := h
      exact ⟨y :: m, by simp, .cons hy hm⟩
  exact En.nx ((h xs [] he).wk fun l ⟨m, e, h⟩ => by rw [List.nil_append] at e; rw [e]; exact h)
theorem En.for_get {f : α → σ → M σ} : ∀ (xs : List α) (I : Nat → σ → Prop) (s : σ), I 0 s → (∀ i x s, xs[i]? = some x → I i s → En (f x s) (I (i + 1))) → En (forM f xs s) (I xs.length)
  | [], I, s, h0, _ => En.pu h0
  | x :: xs, I, s, h0, h => by
    unfold forM
    refine En.bi (h 0 x s rfl h0) fun s' h' => ?_
    exact En.for_get xs (fun i => I (i + 1)) s' h' fun i y t hy ht => h (i + 1) y t (by simpa using hy) ht
theorem rgN_get {n i : Nat} {x : Int} (h : (rgN n)[i]? = some x) : i < n ∧ x = (i : Int) := by
  unfold rgN at h
  rw [List.getElem?_map] at h
  obtain ⟨j, hj, rfl⟩ := Option.map_eq_some_iff.mp h
  obtain ⟨h1, h2⟩ := List.getElem?_eq_some_iff.mp hj
  simp at h1 h2
  subst h2
  exact ⟨h1, rfl⟩
theorem rgN_len (n : Nat) : (rgN n).length = n := by unfold rgN; simp
theorem rgN_mem {n : Nat} {x : Int} : x ∈ rgN n ↔ ∃ i : Nat, i < n ∧ x = (i : Int) := by
  unfold rgN
  rw [List.mem_map]
  exact ⟨fun ⟨i, h, e⟩ => ⟨i, List.mem_range.mp h, e.symm⟩, fun ⟨i, h, e⟩ => ⟨i, List.mem_range.mpr h, e.symm⟩⟩
theorem En.for_rg {f : Int → σ → M σ} {n : Nat} (I : Nat → σ → Prop) {s : σ} (h0 : I 0 s) (h : ∀ i s, i < n → I i s → En (f (i : Int) s) (I (i + 1))) : En (forM f (rgN n) s) (I n) := by
  have := En.for_get (f := f) (rgN n) I s h0 fun i x s hx hI => by
    obtain ⟨hi, rfl⟩ := rgN_get hx
    exact h i s hi hI
  rwa [rgN_len] at this
/-- a loop of checks: none leaves -/
theorem En.forX_get {f : α → σ → M (Ctl σ ρ)} : ∀ (xs : List α) (I : Nat → σ → Prop) (s : σ), I 0 s → (∀ i x s, xs[i]? = some x → I i s → En (f x s) (fun o => ∃ s', o = .nx s' ∧ I (i + 1) s')) → En (forX f xs s) (fun o => ∃ s', o = .inl s' ∧ I xs.length s')
  | [], I, s, h0, _ => En.pu ⟨s, rfl, h0⟩
  | x :: xs, I, s, h0, h => by
    unfold forX
    refine En.bi (h 0 x s rfl h0) fun o ho => ?_
    obtain ⟨s', rfl, h'⟩ := ho
    exact En.forX_get xs (fun i => I (i + 1)) s' h' fun i y t hy ht => h (i + 1) y t (by simpa using hy) ht
theorem En.checks {f : α → Unit → M (Ctl Unit ρ)} (xs : List α) (h : ∀ x ∈ xs, En (f x ()) (fun o => o = .nx ())) : En (forX f xs ()) (fun o => o = .inl ()) :=
  (En.forX_get xs (fun _ _ => True) () trivial fun i x s hx _ => (h x (List.mem_of_getElem? hx)).wk fun o ho => ⟨(), ho, trivial⟩).wk fun o ho => by obtain ⟨s, rfl, _⟩ := ho; rfl
theorem En.thrU {m : M (Unit ⊕ ρ)} {k : Unit → M τ} {r : ρ → τ} {R : τ → Prop} (h : En m (fun o => o = .inl ())) (hk : En (k ()) R) : En (Ty.thr m k r) R := En.bi h fun o ho => by
  subst ho
  exact hk
end
section
variable {α β : Type}
/-- e a is shown by few signs: at a depth n, k signs at most -/
def Sw (n k : Nat) (e : α → U) (a : α) : Prop := ∃ p, Dat n k (e a) p
theorem Sw.mono {n k n' k' : Nat} {e : α → U} {a : α} (h : Sw n k e a) (hn : n ≤ n') (hk : k ≤ k') : Sw n' k' e a := by
  obtain ⟨p, h⟩ := h
  exact ⟨p, h.mono hn hk⟩
theorem sw_I {i : Int} (h : i.natAbs < 10 ^ 12) : Sw 1 0 tI i := ⟨_, dat_int h⟩
theorem dats_Sw {n k : Nat} {e : α → U} : ∀ l : List α, (∀ x ∈ l, Sw n k e x) → ∃ ps, Dats n (l.length * (k + 1)) (l.map e) ps
  | [], _ => ⟨_, dats_nil.mono (Nat.zero_le _) (Nat.zero_le _)⟩
  | x :: l, h => by
    obtain ⟨p, hp⟩ := h x List.mem_cons_self
    obtain ⟨ps, hps⟩ := dats_Sw l fun y hy => h y (List.mem_cons_of_mem _ hy)
    refine ⟨p :: ps, (dats_cons hp hps).mono (by omega) ?_⟩
    rw [List.length_cons, Nat.succ_mul]
    omega
theorem sw_T {n k c : Nat} {e : α → U} {l : List α} (h : ∀ x ∈ l, Sw n k e x) (hc : l.length * (k + 1) ≤ c) : Sw (n + 1) c (tT e) l := by
  obtain ⟨ps, hp⟩ := dats_Sw l h
  exact ⟨_, (dat_tup hp).mono (Nat.le_refl _) hc⟩
theorem sw_L {n k c : Nat} {e : α → U} {l : List α} (h : ∀ x ∈ l, Sw n k e x) (hc : l.length * (k + 1) ≤ c) : Sw (n + 1) c (tL e) l := by
  obtain ⟨ps, hp⟩ := dats_Sw l h
  exact ⟨_, (dat_lst hp).mono (Nat.le_refl _) hc⟩
theorem sw_O {n k : Nat} {e : α → U} {o : Option α} (hn : 1 ≤ n) (h : ∀ x, o = some x → Sw n k e x) : Sw n k (tO e) o := by
  cases o with
  | none => exact ⟨_, dat_non.mono hn (Nat.zero_le _)⟩
  | some x => exact h x rfl
theorem like_eq {n k : Nat} {e : α → U} {a : α} (h : Sw n k e a) (hn : n ≤ 64) (hk : k ≤ 2 ^ 20) : likeM (e a) (e a) = pu true := by
  obtain ⟨p, h⟩ := h
  exact likeM_refl h hn hk
end
end Ty
set_option maxRecDepth 100000
set_option maxHeartbeats 400000
namespace Ty
open PySem PySem.Spec PyProof.Rows L2 Pd
section
variable {α β κ σ ρ τ : Type} [DecidableEq κ]
theorem lk_app {d : List (κ × α)} {k j : κ} {a : α} (h : k ∉ d.map (·.1)) : lk (d ++ [(k, a)]) j = if j = k then some a else lk d j := by
  induction d with
  | nil =>
    show (if k = j then some a else none) = _
    by_cases e : j = k
    · rw [if_pos e, if_pos e.symm]
    · rw [if_neg e, if_neg fun z => e z.symm]; rfl
  | cons p d ih =>
    obtain ⟨x, b⟩ := p
    have h1 : ¬ k = x := fun e => h (by rw [List.map_cons, e]; exact List.mem_cons_self)
    show (if x = j then some b else lk (d ++ [(k, a)]) j) = if j = k then some a else (if x = j then some b else lk d j)
    rw [ih fun z => h (List.mem_cons_of_mem _ z)]
    by_cases e : x = j
    · rw [if_pos e, if_pos e, if_neg fun z => h1 (by rw [← z, e])]
    · rw [if_neg e, if_neg e]
theorem lk_upd {d : List (κ × α)} {k j : κ} {a : α} (h : k ∈ d.map (·.1)) : lk (d.map fun p => if p.1 = k then (p.1, a) else p) j = if j = k then some a else lk d j := by
  induction d with
  | nil => exact absurd h (by simp)
  | cons p d ih =>
    obtain ⟨x, b⟩ := p
    rw [List.map_cons]
    dsimp only
    by_cases e : x = k
    · subst e
      rw [if_pos rfl]
      show (if x = j then some a else lk _ j) = if j = x then some a else (if x = j then some b else lk d j)
      by_cases e2 : x = j
      · rw [if_pos e2, if_pos e2.symm]
      · rw [if_neg e2, if_neg fun z => e2 z.symm, if_neg e2]
        have g : ∀ d : List (κ × α), lk (d.map fun p => if p.1 = x then (p.1, a) else p) j = lk d j := by
          intro d
          induction d with
          | nil => rfl
          | cons p d ih =>
            obtain ⟨y, c⟩ := p
            rw [List.map_cons]
            dsimp only
            by_cases e3 : y = x
            · rw [if_pos e3]
              show (if y = j then some a else lk _ j) = if y = j then some c else lk d j
              rw [if_neg fun z => e2 (e3.symm.trans z), if_neg fun z => e2 (e3.symm.trans z), ih]
            · rw [if_neg e3]
              show (if y = j then some c else lk _ j) = if y = j then some c else lk d j
              rw [ih]
        exact g d
    · rw [if_neg e]
      show (if x = j then some b else lk _ j) = if j = k then some a else (if x = j then some b else lk d j)
      have hk : k ∈ d.map (·.1) := by
        rcases List.mem_cons.mp h with z | z
        · exact absurd z.symm e
        · exact z
      rw [ih hk]
      by_cases e2 : x = j
      · rw [if_pos e2, if_pos e2, if_neg fun z => e (e2.trans z)]
      · rw [if_neg e2, if_neg e2]
theorem lk_put (d : List (κ × α)) (k j : κ) (a : α) : lk (putA d k a) j = if j = k then some a else lk d j := by
  have hiff : (d.any fun p => decide (p.1 = k)) = true ↔ k ∈ d.map (·.1) := by
    rw [List.any_eq_true, List.mem_map]
    exact ⟨fun ⟨p, h, e⟩ => ⟨p, h, of_decide_eq_true e⟩, fun ⟨p, h, e⟩ => ⟨p, h, decide_eq_true e⟩⟩
  unfold putA
  by_cases h : k ∈ d.map (·.1)
  · rw [if_pos (hiff.mpr h)]
    exact lk_upd h
  · rw [if_neg (fun z => h (hiff.mp z))]
    exact lk_app h
end
end Ty
set_option maxRecDepth 100000
set_option maxHeartbeats 4000000
namespace La
open PySem PySem.Spec PyProof.Rows L2 Pd
abbrev Rw := List Int
abbrev Mat := List Rw
def at0 (c : Rw) (k : Nat) : Int := c.getD k 0
def row0 (m : Mat) (k : Nat) : Rw := m.getD k []
/-- a column of a size over p -/
def Vec (p : Int) (n : Nat) (c : Rw) : Prop := c.length = n ∧ ∀ x ∈ c, 0 ≤ x ∧ x < p
def Mt (p : Int) (n : Nat) (m : Mat) : Prop := ∀ c ∈ m, Vec p n c
def Pr (p : Int) : Prop := p = 2 ∨ p = 3 ∨ p = 5 ∨ p = 7 ∨ p = 11 ∨ p = 13
theorem Pr.pos {p : Int} (h : Pr p) : 1 < p ∧ p ≤ 13 := by unfold Pr at h; omega
theorem Pr.inv {p : Int} (h : Pr p) {x : Int} (h0 : 0 < x) (h1 : x < p) : ∃ k : Nat, k < (p - 1).toNat ∧ (1 + (k : Int)) * x % p = 1 := by
  have fin : ∀ q : Nat, (∀ x : Nat, x < q → 0 < x → ∃ k : Nat, k < q - 1 ∧ (1 + k) * x % q = 1) → p = (q : Int) → ∃ k : Nat, k < (p - 1).toNat ∧ (1 + (k : Int)) * x % p = 1 := fun q hq e => by
    obtain ⟨k, hk, e2⟩ := hq x.toNat (by omega) (by omega)
    refine ⟨k, by omega, ?_⟩
    have hx : x = (x.toNat : Int) := by omega
    rw [hx, e]
    have : ((1 : Int) + (k : Int)) = ((1 + k : Nat) : Int) := by omega
    rw [this, ← Int.natCast_mul, ← Int.natCast_emod, e2]
    rfl
  rcases h with e | e | e | e | e | e
  · exact fin 2 (by decide) e
  · exact fin 3 (by decide) e
  · exact fin 5 (by decide) e
  · exact fin 7 (by decide) e
  · exact fin 11 (by decide) e
  · exact fin 13 (by decide) e
def tk (p : Int) (c : Rw) (t : Int) (o : Rw) : Rw := (List.range c.length).map fun j => (at0 c j - t * at0 o j) % p
def bkn (p x : Int) : Int := (((List.range (p - 1).toNat).filter fun (i : Nat) => decide ((1 + (i : Int)) * x % p = 1)).map fun (i : Nat) => 1 + (i : Int)).headD 0
def hits (spot : Nat) (m : Mat) : List Nat := (List.range m.length).filter fun k => decide (at0 (row0 m k) spot ≠ 0)
def clr (p : Int) (spot : Nat) (ld : Rw) (c : Rw) : Rw := if at0 c spot ≠ 0 then tk p c (at0 c spot) ld else c
def redStep (p : Int) (s : Mat × Mat) (spot : Nat) : Mat × Mat := match hits spot s.1 with
  | [] => s
  | k :: _ => ((s.1.eraseIdx k).map (clr p spot ((row0 s.1 k).map fun e => bkn p (at0 (row0 s.1 k) spot) * e % p)), s.2.map (clr p spot ((row0 s.1 k).map fun e => bkn p (at0 (row0 s.1 k) spot) * e % p)) ++ [(row0 s.1 k).map fun e => bkn p (at0 (row0 s.1 k) spot) * e % p])
def redTo (p : Int) (cols : Mat) (n : Nat) : Mat × Mat := (List.range n).foldl (redStep p) (cols, [])
def red (p : Int) (cols : Mat) (n : Nat) : Mat := (redTo p cols n).2
theorem redTo_succ (p : Int) (cols : Mat) (n : Nat) : redTo p cols (n + 1) = redStep p (redTo p cols n) n := by
  unfold redTo
  rw [List.range_succ, List.foldl_append]
  rfl
def nz (c : Rw) : List Nat := (List.range c.length).filter fun k => decide (at0 c k ≠ 0)
def lead1 (c : Rw) : Nat := (nz c).headD 0
def leads (B : Mat) : List Nat := B.map lead1
theorem bkn_lt {p x : Int} (hp : 1 < p) : 0 ≤ bkn p x ∧ bkn p x < p := by
  unfold bkn
  cases e : (List.range (p - 1).toNat).filter fun (i : Nat) => decide ((1 + (i : Int)) * x % p = 1) with
  | nil => exact ⟨Int.le_refl _, by show (0 : Int) < p; omega⟩
  | cons a l =>
    have hm : a ∈ (List.range (p - 1).toNat).filter fun (i : Nat) => decide ((1 + (i : Int)) * x % p = 1) := by rw [e]; exact List.mem_cons_self
    have := List.mem_range.mp (List.mem_filter.mp hm).1
    show 0 ≤ 1 + (a : Int) ∧ 1 + (a : Int) < p
    omega
theorem bkn_inv {p x : Int} (hp : Pr p) (h0 : 0 < x) (h1 : x < p) : bkn p x * x % p = 1 := by
  obtain ⟨k, hk, hk2⟩ := hp.inv h0 h1
  unfold bkn
  have hm : k ∈ (List.range (p - 1).toNat).filter fun (i : Nat) => decide ((1 + (i : Int)) * x % p = 1) := List.mem_filter.mpr ⟨List.mem_range.mpr hk, decide_eq_true hk2⟩
  cases e : (List.range (p - 1).toNat).filter fun (i : Nat) => decide ((1 + (i : Int)) * x % p = 1) with
  | nil => rw [e] at hm; exact absurd hm (by simp)
  | cons a l =>
    have ha : a ∈ (List.range (p - 1).toNat).filter fun (i : Nat) => decide ((1 + (i : Int)) * x % p = 1) := by rw [e]; exact List.mem_cons_self
    exact of_decide_eq_true (List.mem_filter.mp ha).2
theorem at0_mem {c : Rw} {k : Nat} (h : k < c.length) : at0 c k ∈ c := by
  unfold at0
  rw [List.getD_eq_getElem?_getD, List.getElem?_eq_getElem h]
  exact List.getElem_mem h
theorem Vec.at {p : Int} {n : Nat} {c : Rw} (h : Vec p n c) (hp : 0 < p) (k : Nat) : 0 ≤ at0 c k ∧ at0 c k < p := by
  by_cases hk : k < c.length
  · exact h.2 _ (at0_mem hk)
  · unfold at0
    rw [List.getD_eq_getElem?_getD, List.getElem?_eq_none (by omega)]
    exact ⟨Int.le_refl _, hp⟩
theorem at0_out {c : Rw} {k : Nat} (h : c.length ≤ k) : at0 c k = 0 := by
  unfold at0
  rw [List.getD_eq_getElem?_getD, List.getElem?_eq_none h]
  rfl
theorem at0_map {n k : Nat} {f : Nat → Int} (h : k < n) : at0 ((List.range n).map f) k = f k := by
  unfold at0
  rw [List.getD_eq_getElem?_getD, List.getElem?_map, List.getElem?_range h]
  rfl
theorem row_ext {c d : Rw} (hl : c.length = d.length) (h : ∀ k, k < c.length → at0 c k = at0 d k) : c = d := by
  refine List.ext_getElem hl fun k h1 h2 => ?_
  have e := h k h1
  unfold at0 at e
  rw [List.getD_eq_getElem?_getD, List.getD_eq_getElem?_getD, List.getElem?_eq_getElem h1, List.getElem?_eq_getElem h2] at e
  exact e
theorem vec_gen {p : Int} {n : Nat} {f : Nat → Int} (h : ∀ k, k < n → 0 ≤ f k ∧ f k < p) : Vec p n ((List.range n).map f) := by
  refine ⟨by simp, fun x hx => ?_⟩
  obtain ⟨k, hk, rfl⟩ := List.mem_map.mp hx
  exact h k (List.mem_range.mp hk)
theorem vec_tk {p : Int} {n : Nat} {c o : Rw} {t : Int} (hp : 0 < p) (h : Vec p n c) : Vec p n (tk p c t o) := by
  have := h.1
  subst this
  exact vec_gen fun k _ => ⟨Int.emod_nonneg _ (by omega), Int.emod_lt_of_pos _ hp⟩
theorem vec_clr {p : Int} {n spot : Nat} {c o : Rw} (hp : 0 < p) (h : Vec p n c) : Vec p n (clr p spot o c) := by
  unfold clr
  split
  · exact vec_tk hp h
  · exact h
theorem vec_scale {p t : Int} {n : Nat} {c : Rw} (hp : 0 < p) (h : Vec p n c) : Vec p n (c.map fun e => t * e % p) := by
  refine ⟨by rw [List.length_map]; exact h.1, fun x hx => ?_⟩
  obtain ⟨y, _, rfl⟩ := List.mem_map.mp hx
  exact ⟨Int.emod_nonneg _ (by omega), Int.emod_lt_of_pos _ hp⟩
theorem row0_mem {m : Mat} {k : Nat} (h : k < m.length) : row0 m k ∈ m := by
  unfold row0
  rw [List.getD_eq_getElem?_getD, List.getElem?_eq_getElem h]
  exact List.getElem_mem h
theorem hits_lt {spot : Nat} {m : Mat} {k : Nat} (h : k ∈ hits spot m) : k < m.length ∧ at0 (row0 m k) spot ≠ 0 := by
  unfold hits at h
  obtain ⟨h1, h2⟩ := List.mem_filter.mp h
  exact ⟨List.mem_range.mp h1, of_decide_eq_true h2⟩
theorem mt_step {p : Int} {n spot : Nat} {s : Mat × Mat} (hp : 0 < p) (h1 : Mt p n s.1) (h2 : Mt p n s.2) : Mt p n (redStep p s spot).1 ∧ Mt p n (redStep p s spot).2 := by
  unfold redStep
  cases e : hits spot s.1 with
  | nil => exact ⟨h1, h2⟩
  | cons k l =>
    have hk := (hits_lt (show k ∈ hits spot s.1 by rw [e]; exact List.mem_cons_self)).1
    have hr := vec_scale (t := bkn p (at0 (row0 s.1 k) spot)) hp (h1 _ (row0_mem hk))
    refine ⟨fun c hc => ?_, fun c hc => ?_⟩
    · obtain ⟨d, hd, rfl⟩ := List.mem_map.mp hc
      exact vec_clr hp (h1 d (List.mem_of_mem_eraseIdx hd))
    · rcases List.mem_append.mp hc with hc | hc
      · obtain ⟨d, hd, rfl⟩ := List.mem_map.mp hc
        exact vec_clr hp (h2 d hd)
      · rw [List.mem_singleton] at hc
        rw [hc]
        exact hr
theorem mt_redTo {p : Int} {n : Nat} {cols : Mat} (hp : 0 < p) (h : Mt p n cols) : ∀ k, Mt p n (redTo p cols k).1 ∧ Mt p n (redTo p cols k).2
  | 0 => ⟨h, fun c hc => absurd hc (by simp [redTo])⟩
  | k + 1 => by
    rw [redTo_succ]
    exact mt_step hp (mt_redTo hp h k).1 (mt_redTo hp h k).2
theorem mt_red {p : Int} {n k : Nat} {cols : Mat} (hp : 0 < p) (h : Mt p n cols) : Mt p n (red p cols k) := (mt_redTo hp h k).2
theorem red_count {p : Int} {cols : Mat} : ∀ k, (redTo p cols k).1.length + (redTo p cols k).2.length = cols.length
  | 0 => by simp [redTo]
  | k + 1 => by
    have ih := red_count (p := p) (cols := cols) k
    rw [redTo_succ]
    unfold redStep
    cases e : hits k (redTo p cols k).1 with
    | nil => exact ih
    | cons i l =>
      have hk := (hits_lt (show i ∈ hits k (redTo p cols k).1 by rw [e]; exact List.mem_cons_self)).1
      dsimp only
      rw [List.length_map, List.length_append, List.length_map, List.length_eraseIdx_of_lt hk, List.length_singleton]
      omega
end La
set_option maxRecDepth 100000
set_option maxHeartbeats 4000000
namespace La
section
variable {R : Type} [Lean.Grind.CommRing R]
inductive Sp (B : List (Nat → R)) : (Nat → R) → Prop
  | zero : Sp B (fun _ => 0)
  | add {v b : Nat → R} (c : R) : Sp B v → b ∈ B → Sp B (fun i => v i + c * b i)
variable {B C : List (Nat → R)} {v w b : Nat → R}
theorem Sp.of_eq (h : Sp B v) (e : ∀ i, w i = v i) : Sp B w := by
  have : w = v := funext e
  rw [this]; exact h
theorem Sp.mem (h : b ∈ B) : Sp B b := (Sp.add 1 .zero h).of_eq fun i => by grind
theorem Sp.addv (h : Sp B v) (h' : Sp B w) : Sp B (fun i => v i + w i) := by
  induction h' with
  | zero => exact h.of_eq fun i => by grind
  | add c _ hb ih => exact (Sp.add c ih hb).of_eq fun i => by grind
theorem Sp.smul (a : R) (h : Sp B v) : Sp B (fun i => a * v i) := by
  induction h with
  | zero => exact Sp.zero.of_eq fun i => by grind
  | add c _ hb ih => exact (Sp.add (a * c) ih hb).of_eq fun i => by grind
theorem Sp.sub (h : Sp B v) (h' : Sp B w) (a : R) : Sp B (fun i => v i - a * w i) := (h.addv (h'.smul (-a))).of_eq fun i => by grind
theorem Sp.trans (h : Sp B v) (hB : ∀ b ∈ B, Sp C b) : Sp C v := by
  induction h with
  | zero => exact .zero
  | add c _ hb ih => exact (ih.addv ((hB _ hb).smul c)).of_eq fun i => by grind
theorem Sp.mono (h : Sp B v) (hB : ∀ b ∈ B, b ∈ C) : Sp C v := h.trans fun b hb => .mem (hB b hb)
/-- what a linear map that is 0 on B makes of sums -/
theorem Sp.lin (f : (Nat → R) → R) (h : Sp B v) (h0 : f (fun _ => 0) = 0) (ha : ∀ v b c, b ∈ B → f (fun i => v i + c * b i) = f v + c * f b) (hb : ∀ b ∈ B, f b = 0) : f v = 0 := by
  induction h with
  | zero => exact h0
  | add c _ hm ih => rw [ha _ _ c hm, ih, hb _ hm]; grind
def comb : List (Nat → R) → List R → Nat → R
  | b :: B, c :: cs, k => c * b k + comb B cs k
  | _, _, _ => 0
theorem comb_lin (k : Nat) (c : R) : ∀ (B : List (Nat → R)) (xs ys : List R), xs.length = ys.length → comb B (List.zipWith (fun x y => x + c * y) xs ys) k = comb B xs k + c * comb B ys k
  | [], _, _, _ => by simp only [comb]; grind
  | b :: B, [], [], _ => by simp only [List.zipWith_nil_left, comb]; grind
  | b :: B, x :: xs, y :: ys, h => by
    simp only [List.zipWith_cons_cons, comb]
    rw [comb_lin k c B xs ys (by simpa using h)]
    grind
theorem comb_zero (k : Nat) : ∀ (B : List (Nat → R)) (xs : List R), (∀ x ∈ xs, x = 0) → comb B xs k = 0
  | [], _, _ => by simp only [comb]
  | b :: B, [], _ => by simp only [comb]
  | b :: B, x :: xs, h => by
    simp only [comb]
    rw [comb_zero k B xs fun y hy => h y (List.mem_cons_of_mem _ hy), h x List.mem_cons_self]
    grind
theorem comb_one (k : Nat) : ∀ (B : List (Nat → R)) (xs : List R) (j : Nat) (b : Nat → R), B.length = xs.length → B[j]? = some b → (∀ i x, xs[i]? = some x → x = if i = j then 1 else 0) → comb B xs k = b k
  | [], _, j, b, _, h, _ => by simp at h
  | b0 :: B, [], j, b, hl, _, _ => by simp at hl
  | b0 :: B, x :: xs, 0, b, hl, h, hx => by
    simp only [comb]
    have e : b0 = b := by simpa using h
    rw [comb_zero k B xs fun y hy => ?_, hx 0 x rfl, e]
    · simp only [if_true]; grind
    · obtain ⟨i, hi⟩ := List.getElem?_of_mem hy
      have := hx (i + 1) y (by simpa using hi)
      simpa using this
  | b0 :: B, x :: xs, j + 1, b, hl, h, hx => by
    simp only [comb]
    have e0 := hx 0 x rfl
    rw [if_neg (by omega)] at e0
    rw [comb_one k B xs j b (by simpa using hl) (by simpa using h) fun i y hy => by
      have := hx (i + 1) y (by simpa using hy)
      simpa using this, e0]
    grind
structure RedF (n : Nat) (B : List (Nat → R)) (L : List Nat) : Prop where
  len : B.length = L.length
  one : ∀ (i : Nat) (b : Nat → R) (l : Nat), B[i]? = some b → L[i]? = some l → b l = 1 ∧ l < n ∧ ∀ k, k < l → b k = 0
  oth : ∀ (i j : Nat) (b : Nat → R) (l : Nat), i ≠ j → B[i]? = some b → L[j]? = some l → b l = 0
  asc : L.Pairwise (· < ·)
variable {n : Nat} {L : List Nat}
theorem map_zip (v b : Nat → R) (c : R) : ∀ L : List Nat, L.map (fun i => v i + c * b i) = List.zipWith (fun x y => x + c * y) (L.map v) (L.map b)
  | [] => rfl
  | l :: L => by rw [List.map_cons, List.map_cons, List.map_cons, List.zipWith_cons_cons, map_zip v b c L]
/-- a column of the lot is told by its entries at the lead places -/
theorem RedF.parts (h : RedF n B L) (hv : Sp B v) (k : Nat) : v k = comb B (L.map v) k := by
  have : (fun (v : Nat → R) => v k - comb B (L.map v) k) v = 0 := by
    refine Sp.lin (fun (v : Nat → R) => v k - comb B (L.map v) k) hv ?_ (fun v b c _ => ?_) fun b hb => ?_
    · show (0 : R) - comb B (L.map fun _ => 0) k = 0
      rw [comb_zero k B _ fun x hx => by
        obtain ⟨_, _, rfl⟩ := List.mem_map.mp hx
        rfl]
      grind
    · show v k + c * b k - comb B (L.map fun i => v i + c * b i) k = _
      rw [map_zip, comb_lin k c B _ _ (by simp)]
      grind
    · obtain ⟨j, hj⟩ := List.getElem?_of_mem hb
      show b k - comb B (L.map b) k = 0
      rw [comb_one k B (L.map b) j b (by rw [List.length_map]; exact h.len) hj fun i x hx => ?_]
      · grind
      · rw [List.getElem?_map] at hx
        cases el : L[i]? with
        | none => rw [el] at hx; cases hx
        | some l =>
          rw [el] at hx
          have hx : b l = x := by simpa using hx
          by_cases hij : i = j
          · subst hij
            rw [if_pos rfl, ← hx]
            exact (h.one i b l hj el).1
          · rw [if_neg hij, ← hx]
            exact h.oth j i b l (Ne.symm hij) hj el
  have e : v k - comb B (L.map v) k = 0 := this
  grind
theorem RedF.uniq (h : RedF n B L) (hv : Sp B v) (hw : Sp B w) (e : ∀ l ∈ L, v l = w l) (k : Nat) : v k = w k := by
  rw [h.parts hv, h.parts hw, List.map_congr_left e]
end
end La
set_option maxRecDepth 100000
set_option maxHeartbeats 4000000
namespace La
section
variable {R : Type} [Lean.Grind.CommRing R]
def ic (x : Int) : R := @Int.cast R Lean.Grind.Ring.intCast x
/-- the numbers modulo p lie in R -/
structure Ch (p : Int) (R : Type) [Lean.Grind.CommRing R] : Prop where
  z : (ic (p) : R) = 0
  inj : ∀ x : Int, 0 ≤ x → x < p → (ic (x) : R) = 0 → x = 0
theorem cast_add (x y : Int) : (ic (x + y) : R) = (ic x : R) + (ic y : R) := Lean.Grind.Ring.intCast_add x y
theorem cast_mul (x y : Int) : (ic (x * y) : R) = (ic x : R) * (ic y : R) := Lean.Grind.Ring.intCast_mul x y
theorem cast_sub (x y : Int) : (ic (x - y) : R) = (ic x : R) - (ic y : R) := Lean.Grind.Ring.intCast_sub x y
theorem cast_zero : (ic (0) : R) = 0 := Lean.Grind.Ring.intCast_zero
theorem cast_one : (ic (1) : R) = 1 := Lean.Grind.Ring.intCast_one
variable {p : Int}
theorem Ch.mod (h : Ch p R) (x : Int) : (ic (x % p) : R) = (ic x : R) := by
  have e : x % p = x - p * (x / p) := Int.emod_def x p
  rw [e, cast_sub, cast_mul, h.z]
  grind
theorem Ch.eq (h : Ch p R) {x y : Int} (hx : 0 ≤ x ∧ x < p) (hy : 0 ≤ y ∧ y < p) (e : (ic x : R) = (ic y : R)) : x = y := by
  by_cases c : y ≤ x
  · have := h.inj (x - y) (by omega) (by omega) (by rw [cast_sub, e]; grind)
    omega
  · have := h.inj (y - x) (by omega) (by omega) (by rw [cast_sub, e]; grind)
    omega
def fv (c : Rw) : Nat → R := fun k => (ic (at0 c k) : R)
def fm (m : Mat) : List (Nat → R) := m.map fv
variable {n spot : Nat} {c o ld : Rw}
theorem fv_tk (h : Ch p R) {t : Int} (hc : Vec p n c) (ho : Vec p n o) (k : Nat) : (fv (tk p c t o) k : R) = fv c k - (ic t : R) * fv o k := by
  unfold fv
  by_cases hk : k < c.length
  · unfold tk
    rw [at0_map hk, h.mod, cast_sub, cast_mul]
  · rw [at0_out (c := tk p c t o) (by unfold tk; simp; omega), at0_out (c := c) (by omega), at0_out (c := o) (by rw [ho.1, ← hc.1]; omega), cast_zero]
    grind
theorem at0_mapf {f : Int → Int} {k : Nat} (hk : k < c.length) : at0 (c.map f) k = f (at0 c k) := by
  unfold at0
  rw [List.getD_eq_getElem?_getD, List.getD_eq_getElem?_getD, List.getElem?_map, List.getElem?_eq_getElem hk]
  rfl
theorem fv_scale (h : Ch p R) {t : Int} (k : Nat) : (fv (c.map fun e => t * e % p) k : R) = (ic t : R) * fv c k := by
  unfold fv
  by_cases hk : k < c.length
  · rw [at0_mapf hk, h.mod, cast_mul]
  · rw [at0_out (by rw [List.length_map]; omega), at0_out (c := c) (by omega), cast_zero]
    grind
theorem fv_clr (h : Ch p R) (hc : Vec p n c) (ho : Vec p n ld) (k : Nat) : (fv (clr p spot ld c) k : R) = fv c k - fv c spot * fv ld k := by
  unfold clr
  by_cases hz : at0 c spot = 0
  · rw [if_neg (by rw [hz]; simp)]
    have : (fv c spot : R) = 0 := by unfold fv; rw [hz, cast_zero]
    rw [this]
    grind
  · rw [if_pos hz, fv_tk h hc ho]
    rfl
theorem fm_get {m : Mat} {i : Nat} {b : Nat → R} (h : (fm m)[i]? = some b) : ∃ c, m[i]? = some c ∧ b = fv c := by
  unfold fm at h
  rw [List.getElem?_map] at h
  obtain ⟨c, e1, e2⟩ := Option.map_eq_some_iff.mp h
  exact ⟨c, e1, e2.symm⟩
theorem fm_mem {m : Mat} {b : Nat → R} (h : b ∈ fm m) : ∃ c ∈ m, b = fv c := by
  obtain ⟨c, h1, h2⟩ := List.mem_map.mp h
  exact ⟨c, h1, h2.symm⟩
theorem mem_fm {m : Mat} (h : c ∈ m) : (fv c : Nat → R) ∈ fm m := List.mem_map.mpr ⟨c, h, rfl⟩
/-- ahead of a place -/
structure RInv (p : Int) (R : Type) [Lean.Grind.CommRing R] (n : Nat) (cols : Mat) (spot : Nat) (s : Mat × Mat) : Prop where
  v1 : Mt p n s.1
  v2 : Mt p n s.2
  sp1 : ∀ c ∈ s.1 ++ s.2, Sp (fm cols) (fv c : Nat → R)
  sp2 : ∀ c ∈ cols, Sp (fm (s.1 ++ s.2)) (fv c : Nat → R)
  zero : ∀ c ∈ s.1, ∀ k, k < spot → at0 c k = 0
  red : ∃ ls, RedF spot (fm s.2 : List (Nat → R)) ls
theorem RedF.wk {B : List (Nat → R)} {L : List Nat} {m : Nat} (h : RedF n B L) (hm : n ≤ m) : RedF m B L := ⟨h.len, fun i b l e1 e2 => ⟨(h.one i b l e1 e2).1, Nat.lt_of_lt_of_le (h.one i b l e1 e2).2.1 hm, (h.one i b l e1 e2).2.2⟩, h.oth, h.asc⟩
theorem row0_get {m : Mat} {k : Nat} (h : k < m.length) : m[k]? = some (row0 m k) := by
  unfold row0
  rw [List.getD_eq_getElem?_getD, List.getElem?_eq_getElem h]
  rfl
theorem mem_erase_or {m : Mat} {k : Nat} (hk : k < m.length) {c : Rw} (h : c ∈ m) : c = row0 m k ∨ c ∈ m.eraseIdx k := by
  obtain ⟨i, hi⟩ := List.getElem?_of_mem h
  by_cases e : i = k
  · subst e
    rw [row0_get hk] at hi
    exact .inl (Option.some.inj hi).symm
  · refine .inr ?_
    have hil := (List.getElem?_eq_some_iff.mp hi).1
    by_cases hlt : i < k
    · refine List.mem_of_getElem? (i := i) ?_
      rw [List.getElem?_eraseIdx, if_pos hlt]
      exact hi
    · refine List.mem_of_getElem? (i := i - 1) ?_
      rw [List.getElem?_eraseIdx, if_neg (by omega), show i - 1 + 1 = i by omega]
      exact hi
theorem RInv.step (ch : Ch p R) (hp : Pr p) {cols : Mat} {s : Mat × Mat} (h : RInv p R n cols spot s) (hs : spot < n) : RInv p R n cols (spot + 1) (redStep p s spot) := by
  have hb := hp.pos
  have hp0 : 0 < p := by omega
  unfold redStep
  cases e : hits spot s.1 with
  | nil =>
    refine ⟨h.v1, h.v2, h.sp1, h.sp2, fun c hc k hk => ?_, ?_⟩
    · by_cases hks : k = spot
      · subst hks
        obtain ⟨i, hi⟩ := List.getElem?_of_mem hc
        have hil := (List.getElem?_eq_some_iff.mp hi).1
        have hr := row0_get hil
        rw [hi] at hr
        have hr := Option.some.inj hr
        by_cases hz : at0 c k = 0
        · exact hz
        · have hm : i ∈ hits k s.1 := by
            unfold hits
            exact List.mem_filter.mpr ⟨List.mem_range.mpr hil, decide_eq_true (by rw [← hr]; exact hz)⟩
          rw [e] at hm
          exact absurd hm (by simp)
      · exact h.zero c hc k (by omega)
    · obtain ⟨ls, r⟩ := h.red
      exact ⟨ls, r.wk (by omega)⟩
  | cons j l =>
    have hj := hits_lt (show j ∈ hits spot s.1 by rw [e]; exact List.mem_cons_self)
    obtain ⟨r, hr⟩ : ∃ r, r = row0 s.1 j := ⟨_, rfl⟩
    have hrm : r ∈ s.1 := hr ▸ row0_mem hj.1
    have hvr := h.v1 r hrm
    have hat := hvr.at hp0 spot
    have hx0 : 0 < at0 r spot := by have := hj.2; rw [← hr] at this; omega
    obtain ⟨T, hT⟩ : ∃ T, T = bkn p (at0 r spot) := ⟨_, rfl⟩
    obtain ⟨ld, hld⟩ : ∃ ld : Rw, ld = r.map fun e => T * e % p := ⟨_, rfl⟩
    have hvl : Vec p n ld := hld ▸ vec_scale hp0 hvr
    dsimp only
    rw [← hr, ← hT, ← hld]
    have fld : ∀ k, (fv ld k : R) = (ic T : R) * fv r k := fun k => by rw [hld]; exact fv_scale ch k
    have hTr : (ic T : R) * fv r spot = 1 := by
      have e1 := bkn_inv hp hx0 hat.2
      rw [← hT] at e1
      have e2 := ch.mod (T * at0 r spot)
      rw [e1, cast_mul, cast_one] at e2
      exact e2.symm
    have fld1 : (fv ld spot : R) = 1 := by rw [fld, hTr]
    have fcl : ∀ c, Vec p n c → ∀ k, (fv (clr p spot ld c) k : R) = fv c k - fv c spot * fv ld k := fun c hc k => fv_clr ch hc hvl k
    have ldz : ∀ k, k < spot → (fv ld k : R) = 0 := fun k hk => by
      rw [fld]
      have : (fv r k : R) = 0 := by unfold fv; rw [h.zero r hrm k hk, cast_zero]
      rw [this]
      grind
    have spr : Sp (fm cols) (fv r : Nat → R) := h.sp1 r (List.mem_append_left _ hrm)
    have spl : Sp (fm cols) (fv ld : Nat → R) := (spr.smul (ic T : R)).of_eq fld
    have v1' : Mt p n ((s.1.eraseIdx j).map (clr p spot ld)) := fun c hc => by
      obtain ⟨d, hd, rfl⟩ := List.mem_map.mp hc
      exact vec_clr hp0 (h.v1 d (List.mem_of_mem_eraseIdx hd))
    have v2' : Mt p n (s.2.map (clr p spot ld) ++ [ld]) := fun c hc => by
      rcases List.mem_append.mp hc with hc | hc
      · obtain ⟨d, hd, rfl⟩ := List.mem_map.mp hc
        exact vec_clr hp0 (h.v2 d hd)
      · rw [List.mem_singleton] at hc; rw [hc]; exact hvl
    have ldm : (fv ld : Nat → R) ∈ fm ((s.1.eraseIdx j).map (clr p spot ld) ++ (s.2.map (clr p spot ld) ++ [ld])) := mem_fm (List.mem_append_right _ (List.mem_append_right _ (List.mem_singleton.mpr rfl)))
    have old : ∀ c, Vec p n c → (fv (clr p spot ld c) : Nat → R) ∈ fm ((s.1.eraseIdx j).map (clr p spot ld) ++ (s.2.map (clr p spot ld) ++ [ld])) → Sp (fm ((s.1.eraseIdx j).map (clr p spot ld) ++ (s.2.map (clr p spot ld) ++ [ld]))) (fv c : Nat → R) := fun c hc hm => by
      refine ((Sp.mem hm).addv ((Sp.mem ldm).smul (fv c spot))).of_eq fun k => ?_
      rw [fcl c hc k]
      grind
    refine ⟨v1', v2', fun c hc => ?_, fun c hc => ?_, fun c hc k hk => ?_, ?_⟩
    · have cl : ∀ d, Vec p n d → Sp (fm cols) (fv d : Nat → R) → Sp (fm cols) (fv (clr p spot ld d) : Nat → R) := fun d hd hs => (hs.sub spl (fv d spot)).of_eq fun k => fcl d hd k
      rcases List.mem_append.mp hc with hc | hc
      · obtain ⟨d, hd, rfl⟩ := List.mem_map.mp hc
        have hd := List.mem_of_mem_eraseIdx hd
        exact cl d (h.v1 d hd) (h.sp1 d (List.mem_append_left _ hd))
      · rcases List.mem_append.mp hc with hc | hc
        · obtain ⟨d, hd, rfl⟩ := List.mem_map.mp hc
          exact cl d (h.v2 d hd) (h.sp1 d (List.mem_append_right _ hd))
        · rw [List.mem_singleton] at hc; rw [hc]; exact spl
    · refine (h.sp2 c hc).trans fun b hb => ?_
      obtain ⟨d, hd, rfl⟩ := fm_mem hb
      rcases List.mem_append.mp hd with hd | hd
      · rcases mem_erase_or hj.1 hd with hd | hd2
        · rw [hd, ← hr]
          refine ((Sp.mem ldm).smul (fv r spot)).of_eq fun k => ?_
          rw [fld k]
          have : fv r k = (ic T : R) * fv r spot * fv r k := by rw [hTr]; grind
          grind
        · exact old d (h.v1 d hd) (mem_fm (List.mem_append_left _ (List.mem_map.mpr ⟨d, hd2, rfl⟩)))
      · exact old d (h.v2 d hd) (mem_fm (List.mem_append_right _ (List.mem_append_left _ (List.mem_map.mpr ⟨d, hd, rfl⟩))))
    · obtain ⟨d, hd, rfl⟩ := List.mem_map.mp hc
      have hd := List.mem_of_mem_eraseIdx hd
      have hv := vec_clr (spot := spot) (o := ld) hp0 (h.v1 d hd)
      refine ch.inj _ (hv.at hp0 k).1 (hv.at hp0 k).2 ?_
      show (fv (clr p spot ld d) k : R) = 0
      rw [fcl d (h.v1 d hd) k]
      by_cases hks : k = spot
      · subst hks
        rw [fld1]
        grind
      · have : (fv d k : R) = 0 := by unfold fv; rw [h.zero d hd k (by omega), cast_zero]
        rw [this, ldz k (by omega)]
        grind
    · obtain ⟨ls, rd⟩ := h.red
      have hlen : (fm s.2 : List (Nat → R)).length = ls.length := rd.len
      have hlen2 : s.2.length = ls.length := by rw [← hlen]; unfold fm; rw [List.length_map]
      have fe : (fm (s.2.map (clr p spot ld) ++ [ld]) : List (Nat → R)) = fm (s.2.map (clr p spot ld)) ++ [fv ld] := by unfold fm; rw [List.map_append]; rfl
      have lsl : ∀ j l, ls[j]? = some l → l < spot := fun j l e => by
        have hjl := (List.getElem?_eq_some_iff.mp e).1
        exact (rd.one j _ l (by rw [List.getElem?_eq_getElem (by rw [hlen]; exact hjl)]) e).2.1
      have get1 : ∀ (i : Nat) (b : Nat → R), (fm (s.2.map (clr p spot ld)) : List (Nat → R))[i]? = some b → ∃ d, d ∈ s.2 ∧ (fm s.2 : List (Nat → R))[i]? = some (fv d) ∧ ∀ k, b k = fv d k - fv d spot * fv ld k := fun i b e => by
        obtain ⟨c, e1, rfl⟩ := fm_get e
        rw [List.getElem?_map] at e1
        obtain ⟨d, e2, rfl⟩ := Option.map_eq_some_iff.mp e1
        have hd := List.mem_of_getElem? e2
        exact ⟨d, hd, by unfold fm; rw [List.getElem?_map, e2]; rfl, fcl d (h.v2 d hd)⟩
      have hl1 : (fm (s.2.map (clr p spot ld)) : List (Nat → R)).length = ls.length := by unfold fm; rw [List.length_map, List.length_map]; exact hlen2
      refine ⟨ls ++ [spot], ?_, fun i b l e1 e2 => ?_, fun i j b l hij e1 e2 => ?_, ?_⟩
      · rw [fe, List.length_append, List.length_append, hl1]; rfl
      · rw [fe] at e1
        by_cases hi : i < ls.length
        · rw [List.getElem?_append_left (by rw [hl1]; exact hi)] at e1
          rw [List.getElem?_append_left hi] at e2
          obtain ⟨d, hd, e3, e4⟩ := get1 i b e1
          obtain ⟨k1, k2, k3⟩ := rd.one i _ l e3 e2
          refine ⟨?_, by omega, fun k hk => ?_⟩
          · rw [e4, ldz l k2, k1]; grind
          · rw [e4, k3 k hk, ldz k (by omega)]; grind
        · rw [List.getElem?_append_right (by rw [hl1]; omega)] at e1
          rw [List.getElem?_append_right (by omega)] at e2
          have hi0 : i = ls.length := by
            have := (List.getElem?_eq_some_iff.mp e2).1
            simp at this
            omega
          subst hi0
          rw [hl1] at e1
          simp at e1 e2
          subst e1 e2
          exact ⟨fld1, by omega, ldz⟩
      · rw [fe] at e1
        by_cases hi : i < ls.length
        · rw [List.getElem?_append_left (by rw [hl1]; exact hi)] at e1
          obtain ⟨d, hd, e3, e4⟩ := get1 i b e1
          by_cases hj2 : j < ls.length
          · rw [List.getElem?_append_left hj2] at e2
            rw [e4, rd.oth i j _ l hij e3 e2, ldz l (lsl j l e2)]
            grind
          · rw [List.getElem?_append_right (by omega)] at e2
            have hj0 : j = ls.length := by
              have := (List.getElem?_eq_some_iff.mp e2).1
              simp at this
              omega
            subst hj0
            simp at e2
            subst e2
            rw [e4, fld1]
            grind
        · rw [List.getElem?_append_right (by rw [hl1]; omega)] at e1
          have hi0 : i = ls.length := by
            have := (List.getElem?_eq_some_iff.mp e1).1
            rw [hl1] at this
            simp at this
            omega
          subst hi0
          rw [hl1] at e1
          simp at e1
          subst e1
          have hj2 : j < ls.length := by
            have := (List.getElem?_eq_some_iff.mp e2).1
            rw [List.length_append, List.length_singleton] at this
            omega
          rw [List.getElem?_append_left hj2] at e2
          exact ldz l (lsl j l e2)
      · rw [List.pairwise_append]
        refine ⟨rd.asc, List.pairwise_singleton _ _, fun a ha b hb => ?_⟩
        rw [List.mem_singleton] at hb
        rw [hb]
        obtain ⟨i, hi⟩ := List.getElem?_of_mem ha
        exact lsl i a hi
theorem rinv (ch : Ch p R) (hp : Pr p) {cols : Mat} (h : Mt p n cols) : ∀ k, k ≤ n → RInv p R n cols k (redTo p cols k)
  | 0, _ => by
    refine ⟨h, fun c hc => absurd hc (by simp [redTo]), fun c hc => ?_, fun c hc => ?_, fun c _ k hk => absurd hk (by omega), [], ?_⟩
    · have : (redTo p cols 0).1 ++ (redTo p cols 0).2 = cols := by simp [redTo]
      rw [this] at hc
      exact .mem (mem_fm hc)
    · have : (redTo p cols 0).1 ++ (redTo p cols 0).2 = cols := by simp [redTo]
      rw [this]
      exact .mem (mem_fm hc)
    · exact ⟨by simp [redTo, fm], fun i b l e => by simp [redTo, fm] at e, fun i j b l _ e => by simp [redTo, fm] at e, .nil⟩
  | k + 1, hk => by
    rw [redTo_succ]
    exact (rinv ch hp h k (by omega)).step ch hp (by omega)
end
end La
set_option maxRecDepth 100000
set_option maxHeartbeats 4000000
namespace La
section
variable {R : Type} [Lean.Grind.CommRing R] {p : Int} {n : Nat}
theorem lead1_of (ch : Ch p R) {c : Rw} {l : Nat} (hp : 0 < p) (hc : Vec p n c) (hl : l < n) (h1 : (fv c l : R) = 1) (h1' : (1 : R) ≠ 0) (h0 : ∀ k, k < l → (fv c k : R) = 0) : lead1 c = l := by
  have z : ∀ k, k < l → at0 c k = 0 := fun k hk => ch.inj _ (hc.at hp k).1 (hc.at hp k).2 (h0 k hk)
  have nzl : at0 c l ≠ 0 := fun e => h1' (by
    rw [← h1]
    unfold fv
    rw [e, cast_zero])
  unfold lead1 nz
  have hlen := hc.1
  have e : List.range c.length = List.range l ++ (List.range (n - l)).map (l + ·) := by
    rw [hlen]
    have := List.range_add (n := l) (m := n - l)
    rwa [show l + (n - l) = n by omega] at this
  rw [e, List.filter_append]
  have e1 : (List.range l).filter (fun k => decide (at0 c k ≠ 0)) = [] := by
    rw [List.filter_eq_nil_iff]
    intro k hk
    have := z k (List.mem_range.mp hk)
    simp [this]
  rw [e1, List.nil_append]
  obtain ⟨m, hm⟩ : ∃ m, n - l = m + 1 := ⟨n - l - 1, by omega⟩
  rw [hm, List.range_succ_eq_map, List.map_cons, List.filter_cons, Nat.add_zero, if_pos (decide_eq_true nzl)]
  rfl
theorem Ch.one_ne (ch : Ch p R) (hp : 1 < p) : (1 : R) ≠ 0 := fun e => by
  have := ch.inj 1 (by omega) hp (by rw [cast_one]; exact e)
  omega
structure RedOk (p : Int) (R : Type) [Lean.Grind.CommRing R] (n : Nat) (cols B : Mat) : Prop where
  mt : Mt p n B
  red : RedF n (fm B : List (Nat → R)) (leads B)
  sp1 : ∀ c ∈ B, Sp (fm cols) (fv c : Nat → R)
  sp2 : ∀ c ∈ cols, Sp (fm B) (fv c : Nat → R)
theorem red_ok (ch : Ch p R) (hp : Pr p) {cols : Mat} (h : Mt p n cols) : RedOk p R n cols (red p cols n) := by
  have hb := hp.pos
  have hi := rinv ch hp h n (Nat.le_refl n)
  obtain ⟨ls, r⟩ := hi.red
  have z : ∀ c ∈ (redTo p cols n).1, ∀ k, (fv c k : R) = 0 := fun c hc k => by
    unfold fv
    by_cases hk : k < n
    · rw [hi.zero c hc k hk, cast_zero]
    · rw [at0_out (by rw [(hi.v1 c hc).1]; omega), cast_zero]
  have el : leads (red p cols n) = ls := by
    refine List.ext_getElem? fun i => ?_
    have hlen : (red p cols n).length = ls.length := by
      have := r.len
      unfold fm at this
      rw [List.length_map] at this
      exact this
    by_cases hi2 : i < (red p cols n).length
    · have e1 : (leads (red p cols n))[i]? = some (lead1 (row0 (red p cols n) i)) := by
        unfold leads
        rw [List.getElem?_map, row0_get hi2]
        rfl
      rw [e1, List.getElem?_eq_getElem (by omega)]
      obtain ⟨k1, k2, k3⟩ := r.one i (fv (row0 (red p cols n) i)) ls[i] (by unfold fm; rw [List.getElem?_map]; show Option.map fv (red p cols n)[i]? = _; rw [row0_get hi2]; rfl) (List.getElem?_eq_getElem (by omega))
      exact congrArg some (lead1_of ch (by omega) (hi.v2 _ (row0_mem hi2)) k2 k1 (ch.one_ne hb.1) k3)
    · rw [List.getElem?_eq_none (by unfold leads; rw [List.length_map]; omega), List.getElem?_eq_none (by omega)]
  refine ⟨hi.v2, el ▸ r, fun c hc => hi.sp1 c (List.mem_append_right _ hc), fun c hc => (hi.sp2 c hc).trans fun b hb => ?_⟩
  obtain ⟨d, hd, rfl⟩ := fm_mem hb
  rcases List.mem_append.mp hd with hd | hd
  · exact Sp.zero.of_eq (z d hd)
  · exact .mem (mem_fm hd)
def sm : List Nat → (Nat → R) → R
  | [], _ => 0
  | k :: l, f => f k + sm l f
theorem sm_lin (c : R) (f g : Nat → R) : ∀ l, sm l (fun k => f k + c * g k) = sm l f + c * sm l g
  | [] => by simp only [sm]; grind
  | k :: l => by simp only [sm]; rw [sm_lin c f g l]; grind
theorem sm_zero {f : Nat → R} : ∀ {l : List Nat}, (∀ k ∈ l, f k = 0) → sm l f = 0
  | [], _ => rfl
  | k :: l, h => by simp only [sm]; rw [h k List.mem_cons_self, sm_zero fun j hj => h j (List.mem_cons_of_mem _ hj)]; grind
theorem sm_congr {f g : Nat → R} : ∀ {l : List Nat}, (∀ k ∈ l, f k = g k) → sm l f = sm l g
  | [], _ => rfl
  | k :: l, h => by simp only [sm]; rw [h k List.mem_cons_self, sm_congr fun j hj => h j (List.mem_cons_of_mem _ hj)]
theorem sm_one {f : Nat → R} {a : Nat} : ∀ {l : List Nat}, l.Nodup → a ∈ l → (∀ k ∈ l, k ≠ a → f k = 0) → sm l f = f a
  | [], _, h, _ => absurd h (by simp)
  | k :: l, hn, h, hz => by
    simp only [sm]
    rw [List.nodup_cons] at hn
    rcases List.mem_cons.mp h with rfl | h
    · rw [sm_zero fun j hj => hz j (List.mem_cons_of_mem _ hj) fun e => hn.1 (e ▸ hj)]
      grind
    · rw [hz k List.mem_cons_self fun e => hn.1 (e ▸ h), sm_one hn.2 h fun j hj => hz j (List.mem_cons_of_mem _ hj)]
      grind
theorem sm_split (f : Nat → R) (q : Nat → Bool) : ∀ l, sm l f = sm (l.filter q) f + sm (l.filter fun k => !q k) f
  | [] => by simp only [sm, List.filter_nil]; grind
  | k :: l => by
    rw [List.filter_cons, List.filter_cons]
    cases h : q k with
    | true => simp only [sm, Bool.not_true, if_true, Bool.false_eq_true, if_false]; rw [sm_split f q l]; grind
    | false => simp only [sm, Bool.not_false, if_true, Bool.false_eq_true, if_false]; rw [sm_split f q l]; grind
def dot (n : Nat) (a b : Nat → R) : R := sm (List.range n) fun k => a k * b k
theorem dot_lin (v : Nat → R) (a b : Nat → R) (c : R) : dot n (fun k => a k + c * b k) v = dot n a v + c * dot n b v := by
  unfold dot
  rw [← sm_lin]
  exact sm_congr fun k _ => by grind
theorem dot_linr (a : Nat → R) (v w : Nat → R) (c : R) : dot n a (fun k => v k + c * w k) = dot n a v + c * dot n a w := by
  unfold dot
  rw [← sm_lin]
  exact sm_congr fun k _ => by grind
theorem dot_zero (a : Nat → R) : dot n a (fun _ => 0) = 0 := sm_zero fun k _ => by grind
theorem dot_sp {B : List (Nat → R)} {v t : Nat → R} (h : ∀ b ∈ B, dot n b v = 0) (ht : Sp B t) : dot n t v = 0 := by
  refine Sp.lin (fun t => dot n t v) ht ?_ (fun x b c _ => dot_lin v x b c) h
  exact sm_zero fun k _ => by grind
theorem dot_spr {B : List (Nat → R)} {v t : Nat → R} (h : ∀ b ∈ B, dot n t b = 0) (ht : Sp B v) : dot n t v = 0 :=
  Sp.lin (fun v => dot n t v) ht (dot_zero t) (fun x b c _ => dot_linr t x b c) h
def kcol (p : Int) (B : Mat) (ls : List Nat) (n f : Nat) : Rw := (B.zip ls).foldl (fun c q => c.set q.2 (-(at0 q.1 f) % p)) ((List.replicate n 0).set f 1)
def free (n : Nat) (ls : List Nat) : List Nat := (List.range n).filter fun k => decide (k ∉ ls)
def kerCols (p : Int) (B : Mat) (ls : List Nat) (n : Nat) : Mat := (free n ls).map (kcol p B ls n)
def ker (p : Int) (T : Mat) (n : Nat) : Mat := red p (kerCols p (red p T n) (leads (red p T n)) n) n
theorem at0_set {c : Rw} {i k : Nat} {x : Int} (hi : i < c.length) : at0 (c.set i x) k = if k = i then x else at0 c k := by
  unfold at0
  rw [List.getD_eq_getElem?_getD, List.getD_eq_getElem?_getD]
  by_cases h : k = i
  · subst h
    rw [List.getElem?_set_self hi, if_pos rfl]
    rfl
  · rw [List.getElem?_set_ne (Ne.symm h), if_neg h]
theorem vec_set {c : Rw} {i : Nat} {x : Int} (h : Vec p n c) (hx : 0 ≤ x ∧ x < p) : Vec p n (c.set i x) := by
  refine ⟨by rw [List.length_set]; exact h.1, fun y hy => ?_⟩
  rcases List.mem_or_eq_of_mem_set hy with hy | hy
  · exact h.2 y hy
  · rw [hy]; exact hx
theorem vec_zero (hp : 0 < p) : Vec p n (List.replicate n 0) := ⟨List.length_replicate, fun x hx => by rw [(List.mem_replicate.mp hx).2]; exact ⟨Int.le_refl _, hp⟩⟩
theorem at0_zero (k : Nat) : at0 (List.replicate n 0) k = 0 := by
  unfold at0
  rw [List.getD_eq_getElem?_getD, List.getElem?_replicate]
  split <;> rfl
theorem fold_vec (hp : 0 < p) {f : Nat} : ∀ (l : List (Rw × Nat)) (c : Rw), Vec p n c → Vec p n (l.foldl (fun c q => c.set q.2 (-(at0 q.1 f) % p)) c)
  | [], c, h => h
  | q :: l, c, h => fold_vec hp l _ (vec_set h ⟨Int.emod_nonneg _ (by omega), Int.emod_lt_of_pos _ hp⟩)
theorem vec_kcol (hp : 1 < p) {B : Mat} {ls : List Nat} {f : Nat} : Vec p n (kcol p B ls n f) := fold_vec (by omega) _ _ (vec_set (vec_zero (by omega)) ⟨by omega, hp⟩)
theorem fold_at {f k : Nat} : ∀ (B : Mat) (ls : List Nat) (c : Rw), (∀ l ∈ ls, l < c.length) → ls.Nodup → B.length = ls.length →
    (∀ i l, ls[i]? = some l → at0 ((B.zip ls).foldl (fun c q => c.set q.2 (-(at0 q.1 f) % p)) c) l = -(at0 (row0 B i) f) % p) ∧ (k ∉ ls → at0 ((B.zip ls).foldl (fun c q => c.set q.2 (-(at0 q.1 f) % p)) c) k = at0 c k)
  | [], [], c, _, _, _ => ⟨fun i l e => by simp at e, fun _ => rfl⟩
  | b :: B, l0 :: ls, c, hl, hn, hlen => by
    rw [List.nodup_cons] at hn
    have ih := fold_at (f := f) (k := k) B ls (c.set l0 (-(at0 b f) % p)) (fun l h => by rw [List.length_set]; exact hl l (List.mem_cons_of_mem _ h)) hn.2 (by simpa using hlen)
    have ih0 := fold_at (f := f) (k := l0) B ls (c.set l0 (-(at0 b f) % p)) (fun l h => by rw [List.length_set]; exact hl l (List.mem_cons_of_mem _ h)) hn.2 (by simpa using hlen)
    rw [List.zip_cons_cons, List.foldl_cons]
    refine ⟨fun i l e => ?_, fun hk => ?_⟩
    · cases i with
      | zero =>
        have e : l0 = l := by simpa using e
        subst e
        rw [ih0.2 hn.1, at0_set (hl l0 List.mem_cons_self), if_pos rfl]
        rfl
      | succ i =>
        exact ih.1 i l (by simpa using e)
    · rw [ih.2 fun h => hk (List.mem_cons_of_mem _ h), at0_set (hl l0 List.mem_cons_self), if_neg fun (e : k = l0) => hk (by rw [e]; exact List.mem_cons_self)]
theorem nodup_of_asc : ∀ {ls : List Nat}, ls.Pairwise (· < ·) → ls.Nodup
  | _, h => h.imp fun {a b} (h : a < b) => Nat.ne_of_lt h
end
end La
set_option maxRecDepth 100000
set_option maxHeartbeats 4000000
namespace La
section
variable {R : Type} [Lean.Grind.CommRing R] {p : Int} {n : Nat}
theorem RedOk.get {cols B : Mat} (h : RedOk p R n cols B) {i : Nat} (hi : i < B.length) : (fm B : List (Nat → R))[i]? = some (fv (row0 B i)) ∧ (leads B)[i]? = some (lead1 (row0 B i)) := by
  refine ⟨?_, ?_⟩
  · unfold fm; rw [List.getElem?_map, row0_get hi]; rfl
  · unfold leads; rw [List.getElem?_map, row0_get hi]; rfl
theorem mem_leads {B : Mat} {l : Nat} (h : l ∈ leads B) : ∃ i, i < B.length ∧ (leads B)[i]? = some l ∧ l = lead1 (row0 B i) := by
  obtain ⟨i, hi⟩ := List.getElem?_of_mem h
  have hl := (List.getElem?_eq_some_iff.mp hi).1
  unfold leads at hl
  rw [List.length_map] at hl
  refine ⟨i, hl, hi, ?_⟩
  unfold leads at hi
  rw [List.getElem?_map, row0_get hl] at hi
  exact (Option.some.inj hi).symm
theorem fv_out {c : Rw} (h : Vec p n c) {k : Nat} (hk : n ≤ k) : (fv c k : R) = 0 := by
  unfold fv
  rw [at0_out (by rw [h.1]; exact hk), cast_zero]
theorem RedOk.dotB {cols B : Mat} (h : RedOk p R n cols B) {i : Nat} (hi : i < B.length) (v : Nat → R) : dot n (fv (row0 B i)) v = v (lead1 (row0 B i)) + sm (free n (leads B)) fun f => fv (row0 B i) f * v f := by
  obtain ⟨e1, e2⟩ := h.get hi
  obtain ⟨k1, k2, k3⟩ := h.red.one i _ _ e1 e2
  unfold dot
  rw [sm_split _ (fun k => decide (k ∉ leads B))]
  have e : sm ((List.range n).filter fun k => !decide (k ∉ leads B)) (fun k => fv (row0 B i) k * v k) = fv (row0 B i) (lead1 (row0 B i)) * v (lead1 (row0 B i)) := by
    refine sm_one (List.Pairwise.filter _ List.nodup_range) ?_ fun k hk hne => ?_
    · refine List.mem_filter.mpr ⟨List.mem_range.mpr k2, ?_⟩
      have : lead1 (row0 B i) ∈ leads B := List.mem_of_getElem? e2
      simp [this]
    · have hk2 : k ∈ leads B := by simpa using (List.mem_filter.mp hk).2
      obtain ⟨j, hj, ej, _⟩ := mem_leads hk2
      have hij : i ≠ j := fun z => by
        subst z
        rw [e2] at ej
        exact hne (Option.some.inj ej).symm
      rw [h.red.oth i j _ k hij e1 ej]
      grind
  rw [e, k1]
  unfold free
  grind
theorem free_nodup {ls : List Nat} : (free n ls).Nodup := List.Pairwise.filter _ List.nodup_range
theorem mem_free {ls : List Nat} {f : Nat} : f ∈ free n ls ↔ f < n ∧ f ∉ ls := by
  unfold free
  rw [List.mem_filter, List.mem_range, decide_eq_true_eq]
theorem kcol_at (ch : Ch p R) (hp : 1 < p) {cols B : Mat} (h : RedOk p R n cols B) {f : Nat} (hf : f ∈ free n (leads B)) :
    (fv (kcol p B (leads B) n f) f : R) = 1 ∧ (∀ i, i < B.length → (fv (kcol p B (leads B) n f) (lead1 (row0 B i)) : R) = -fv (row0 B i) f) ∧ ∀ k, k ≠ f → k ∉ leads B → (fv (kcol p B (leads B) n f) k : R) = 0 := by
  obtain ⟨f1, f2⟩ := mem_free.mp hf
  have lt : ∀ l ∈ leads B, l < ((List.replicate n (0 : Int)).set f 1).length := fun l hl => by
    obtain ⟨j, hj, ej, _⟩ := mem_leads hl
    rw [List.length_set, List.length_replicate]
    exact (h.red.one j _ l (h.get hj).1 ej).2.1
  have fa := fun k => fold_at (p := p) (f := f) (k := k) B (leads B) ((List.replicate n 0).set f 1) lt (nodup_of_asc h.red.asc) (by unfold leads; rw [List.length_map])
  refine ⟨?_, fun i hi => ?_, fun k hk hkl => ?_⟩
  · unfold fv kcol
    rw [(fa f).2 f2, at0_set (by rw [List.length_replicate]; exact f1), if_pos rfl, cast_one]
  · unfold fv kcol
    rw [(fa 0).1 i _ (h.get hi).2, ch.mod]
    have : -at0 (row0 B i) f = 0 - at0 (row0 B i) f := by omega
    rw [this, cast_sub, cast_zero]
    grind
  · unfold fv kcol
    rw [(fa k).2 hkl, at0_set (by rw [List.length_replicate]; exact f1), if_neg hk, at0_zero, cast_zero]
theorem kerCols_null (ch : Ch p R) (hp : 1 < p) {T B : Mat} (h : RedOk p R n T B) {v : Nat → R} (hv : ∀ k, n ≤ k → v k = 0) : Sp (fm (kerCols p B (leads B) n)) v ↔ ∀ t ∈ T, dot n (fv t) v = 0 := by
  have lsn : ∀ l ∈ leads B, l < n := fun l hl => by
    obtain ⟨j, hj, ej, _⟩ := mem_leads hl
    exact (h.red.one j _ l (h.get hj).1 ej).2.1
  constructor
  · intro hs t ht
    refine dot_sp (fun b hb => ?_) (h.sp2 t ht)
    obtain ⟨d, hd, rfl⟩ := fm_mem hb
    obtain ⟨i, hi⟩ := List.getElem?_of_mem hd
    have hil := (List.getElem?_eq_some_iff.mp hi).1
    rw [row0_get hil] at hi
    rw [← Option.some.inj hi]
    refine dot_spr (fun b hb => ?_) hs
    obtain ⟨d, hd, rfl⟩ := fm_mem hb
    unfold kerCols at hd
    obtain ⟨f, hf, rfl⟩ := List.mem_map.mp hd
    obtain ⟨k1, k2, k3⟩ := kcol_at ch hp h hf
    rw [h.dotB hil, k2 i hil, sm_one (a := f) free_nodup hf fun k hk hne => ?_, k1]
    · grind
    · rw [k3 k hne (mem_free.mp hk).2]
      grind
  · intro hn
    have hB : ∀ i, i < B.length → dot n (fv (row0 B i)) v = 0 := fun i hi => by
      refine dot_sp (fun b hb => ?_) (h.sp1 _ (row0_mem hi))
      obtain ⟨d, hd, rfl⟩ := fm_mem hb
      exact hn d hd
    have hs : ∀ l : List Nat, (∀ f ∈ l, f ∈ free n (leads B)) → Sp (fm (kerCols p B (leads B) n)) (fun k => sm l fun f => v f * fv (kcol p B (leads B) n f) k) := by
      intro l
      induction l with
      | nil => intro _; exact Sp.zero
      | cons f l ih =>
        intro hl
        refine (Sp.add (v f) (ih fun g hg => hl g (List.mem_cons_of_mem _ hg)) (mem_fm (List.mem_map.mpr ⟨f, hl f List.mem_cons_self, rfl⟩))).of_eq fun k => ?_
        simp only [sm]
        grind
    refine (hs _ fun f hf => hf).of_eq fun k => ?_
    by_cases hk : n ≤ k
    · rw [hv k hk, sm_zero fun f hf => ?_]
      rw [fv_out (vec_kcol hp) hk]
      grind
    · by_cases hkl : k ∈ leads B
      · obtain ⟨i, hi, ei, rfl⟩ := mem_leads hkl
        have e := hB i hi
        rw [h.dotB hi] at e
        have e2 : (sm (free n (leads B)) fun f => v f * fv (kcol p B (leads B) n f) (lead1 (row0 B i))) = sm (free n (leads B)) fun f => 0 + (-1) * (fv (row0 B i) f * v f) := sm_congr fun f hf => by
          rw [(kcol_at ch hp h hf).2.1 i hi]
          grind
        rw [e2, sm_lin (-1) (fun _ => 0), sm_zero (f := fun _ => (0 : R)) fun _ _ => rfl]
        grind
      · have hf : k ∈ free n (leads B) := mem_free.mpr ⟨by omega, hkl⟩
        rw [sm_one (a := k) free_nodup hf fun f hff hne => ?_]
        · rw [(kcol_at ch hp h hf).1]
          grind
        · rw [(kcol_at ch hp h hff).2.2 k (Ne.symm hne) hkl]
          grind
structure KerOk (p : Int) (R : Type) [Lean.Grind.CommRing R] (n : Nat) (T K : Mat) : Prop where
  mt : Mt p n K
  red : RedF n (fm K : List (Nat → R)) (leads K)
  null : ∀ v : Nat → R, (∀ k, n ≤ k → v k = 0) → (Sp (fm K) v ↔ ∀ t ∈ T, dot n (fv t) v = 0)
theorem ker_ok (ch : Ch p R) (hp : Pr p) {T : Mat} (h : Mt p n T) : KerOk p R n T (ker p T n) := by
  have hb := hp.pos
  have r1 := red_ok ch hp h
  have hm : Mt p n (kerCols p (red p T n) (leads (red p T n)) n) := fun c hc => by
    obtain ⟨f, hf, rfl⟩ := List.mem_map.mp hc
    exact vec_kcol hb.1
  have r2 := red_ok ch hp hm
  refine ⟨r2.mt, r2.red, fun v hv => ?_⟩
  rw [← kerCols_null ch hb.1 r1 hv]
  constructor
  · intro hs
    refine hs.trans fun b hb => ?_
    obtain ⟨d, hd, rfl⟩ := fm_mem hb
    exact r2.sp1 d hd
  · intro hs
    refine hs.trans fun b hb => ?_
    obtain ⟨d, hd, rfl⟩ := fm_mem hb
    exact r2.sp2 d hd
def aug (T : Mat) (c : Rw) : Mat := (List.range T.length).map fun k => row0 T k ++ [at0 c k]
def x0 (B : Mat) (ls : List Nat) (n : Nat) : Rw := (B.zip ls).foldl (fun c q => c.set q.2 (at0 q.1 n)) (List.replicate n 0)
def clrK (p : Int) (K : Mat) (x : Rw) : Rw := K.foldl (fun x k => clr p (lead1 k) k x) x
def solve (p : Int) (T : Mat) (n : Nat) (c : Rw) : Option Rw := if n ∈ leads (red p (aug T c) (n + 1)) then none else some (clrK p (ker p T n) (x0 (red p (aug T c) (n + 1)) (leads (red p (aug T c) (n + 1))) n))
theorem x0_at {n k : Nat} : ∀ (B : Mat) (ls : List Nat) (c : Rw), (∀ l ∈ ls, l < c.length) → ls.Nodup → B.length = ls.length →
    (∀ i l, ls[i]? = some l → at0 ((B.zip ls).foldl (fun c q => c.set q.2 (at0 q.1 n)) c) l = at0 (row0 B i) n) ∧ (k ∉ ls → at0 ((B.zip ls).foldl (fun c q => c.set q.2 (at0 q.1 n)) c) k = at0 c k)
  | [], [], c, _, _, _ => ⟨fun i l e => by simp at e, fun _ => rfl⟩
  | b :: B, l0 :: ls, c, hl, hn, hlen => by
    rw [List.nodup_cons] at hn
    have ih := x0_at (n := n) (k := k) B ls (c.set l0 (at0 b n)) (fun l h => by rw [List.length_set]; exact hl l (List.mem_cons_of_mem _ h)) hn.2 (by simpa using hlen)
    have ih0 := x0_at (n := n) (k := l0) B ls (c.set l0 (at0 b n)) (fun l h => by rw [List.length_set]; exact hl l (List.mem_cons_of_mem _ h)) hn.2 (by simpa using hlen)
    rw [List.zip_cons_cons, List.foldl_cons]
    refine ⟨fun i l e => ?_, fun hk => ?_⟩
    · cases i with
      | zero =>
        have e : l0 = l := by simpa using e
        subst e
        rw [ih0.2 hn.1, at0_set (hl l0 List.mem_cons_self), if_pos rfl]
        rfl
      | succ i =>
        exact ih.1 i l (by simpa using e)
    · rw [ih.2 fun h => hk (List.mem_cons_of_mem _ h), at0_set (hl l0 List.mem_cons_self), if_neg fun (e : k = l0) => hk (by rw [e]; exact List.mem_cons_self)]
theorem x0_vec {m : Nat} : ∀ (l : List (Rw × Nat)) (c : Rw), 0 < p → (∀ q ∈ l, Vec p m q.1) → Vec p n c → Vec p n (l.foldl (fun c q => c.set q.2 (at0 q.1 n)) c)
  | [], c, _, _, h => h
  | q :: l, c, hp, hq, h => x0_vec l _ hp (fun r hr => hq r (List.mem_cons_of_mem _ hr)) (vec_set h ((hq q List.mem_cons_self).at hp n))
theorem at0_app {c : Rw} {x : Int} {k : Nat} : at0 (c ++ [x]) k = if k < c.length then at0 c k else if k = c.length then x else 0 := by
  unfold at0
  rw [List.getD_eq_getElem?_getD, List.getD_eq_getElem?_getD]
  by_cases h : k < c.length
  · rw [if_pos h, List.getElem?_append_left h]
  · rw [if_neg h]
    by_cases h2 : k = c.length
    · subst h2
      rw [if_pos rfl, List.getElem?_append_right (Nat.le_refl _), Nat.sub_self]
      rfl
    · rw [if_neg h2, List.getElem?_eq_none (by rw [List.length_append, List.length_singleton]; omega)]
      rfl
theorem aug_mt {T : Mat} {c : Rw} {m : Nat} (hp : 0 < p) (h : Mt p n T) (hc : Vec p m c) : Mt p (n + 1) (aug T c) := fun d hd => by
  obtain ⟨k, hk, rfl⟩ := List.mem_map.mp hd
  have hv := h _ (row0_mem (List.mem_range.mp hk))
  refine ⟨by rw [List.length_append, hv.1]; rfl, fun x hx => ?_⟩
  rcases List.mem_append.mp hx with hx | hx
  · exact hv.2 x hx
  · rw [List.mem_singleton] at hx; rw [hx]; exact hc.at hp k
/-- what must be 0 for v to be led to the last entries -/
def phi (n : Nat) (v : Nat → R) (r : Nat → R) : R := dot n r v - r n
theorem phi_sp {B : List (Nat → R)} {v t : Nat → R} (h : ∀ b ∈ B, phi n v b = 0) (ht : Sp B t) : phi n v t = 0 := by
  refine Sp.lin (phi n v) ht ?_ (fun x b c _ => ?_) h
  · unfold phi
    have : dot n (fun _ => (0 : R)) v = 0 := sm_zero fun k _ => by grind
    rw [this]
    grind
  · unfold phi
    rw [dot_lin]
    grind
theorem phi_aug {T : Mat} {c : Rw} (h : Mt p n T) {k : Nat} (hk : k < T.length) (v : Nat → R) : phi n v (fv (row0 T k ++ [at0 c k])) = dot n (fv (row0 T k)) v - ic (at0 c k) := by
  have hv := h _ (row0_mem hk)
  unfold phi
  have e1 : dot n (fv (row0 T k ++ [at0 c k])) v = dot n (fv (row0 T k)) v := sm_congr fun j hj => by
    unfold fv
    rw [at0_app, hv.1, if_pos (List.mem_range.mp hj)]
  have e2 : (fv (row0 T k ++ [at0 c k]) n : R) = ic (at0 c k) := by
    unfold fv
    rw [at0_app, hv.1, if_neg (by omega), if_pos rfl]
  rw [e1, e2]
theorem RedF.tail {b : Nat → R} {B : List (Nat → R)} {l : Nat} {L : List Nat} (h : RedF n (b :: B) (l :: L)) : RedF n B L :=
  ⟨by simpa using h.len, fun i c m e1 e2 => h.one (i + 1) c m (by simpa using e1) (by simpa using e2), fun i j c m hij e1 e2 => h.oth (i + 1) (j + 1) c m (by omega) (by simpa using e1) (by simpa using e2), (List.pairwise_cons.mp h.asc).2⟩
theorem clrK_ok (ch : Ch p R) (hp : 0 < p) : ∀ (K : Mat) (x : Rw), RedF n (fm K : List (Nat → R)) (leads K) → Mt p n K → Vec p n x →
    Vec p n (clrK p K x) ∧ (∀ l ∈ leads K, (fv (clrK p K x) l : R) = 0) ∧ Sp (fm K) (fun k => fv x k - fv (clrK p K x) k : Nat → R) ∧ ∀ l, (∀ k ∈ K, (fv k l : R) = 0) → (fv (clrK p K x) l : R) = fv x l
  | [], x, _, _, hx => ⟨hx, fun l hl => absurd hl (by simp [leads]), Sp.zero.of_eq fun k => by
    show fv x k - fv x k = (0 : R)
    grind, fun _ _ => rfl⟩
  | k :: K, x, h, hm, hx => by
    have hk := hm k List.mem_cons_self
    have hfe : (fm (k :: K) : List (Nat → R)) = fv k :: fm K := rfl
    have hle : leads (k :: K) = lead1 k :: leads K := rfl
    rw [hfe, hle] at h
    obtain ⟨o1, o2, o3⟩ := h.one 0 (fv k) (lead1 k) rfl rfl
    have hv := vec_clr (spot := lead1 k) (o := k) hp hx
    have fc := fun j => fv_clr (R := R) (spot := lead1 k) ch hx hk j
    obtain ⟨i1, i2, i3, i4⟩ := clrK_ok ch hp K (clr p (lead1 k) k x) h.tail (fun c hc => hm c (List.mem_cons_of_mem _ hc)) hv
    have e : clrK p (k :: K) x = clrK p K (clr p (lead1 k) k x) := rfl
    rw [e]
    have kz : ∀ c ∈ K, (fv c (lead1 k) : R) = 0 := fun c hc => by
      obtain ⟨j, hj⟩ := List.getElem?_of_mem hc
      refine h.oth (j + 1) 0 (fv c) (lead1 k) (by omega) ?_ rfl
      show (fm K : List (Nat → R))[j]? = _
      unfold fm
      rw [List.getElem?_map, hj]
      rfl
    refine ⟨i1, fun l hl => ?_, ?_, fun l hl => ?_⟩
    · rw [hle] at hl
      rcases List.mem_cons.mp hl with rfl | hl
      · rw [i4 _ kz, fc, o1]
        grind
      · exact i2 l hl
    · rw [hfe]
      refine ((i3.mono fun b hb => List.mem_cons_of_mem _ hb).addv ((Sp.mem List.mem_cons_self).smul (fv x (lead1 k)))).of_eq fun j => ?_
      rw [fc j]
      grind
    · rw [i4 l fun c hc => hl c (List.mem_cons_of_mem _ hc), fc, hl k List.mem_cons_self]
      grind
structure SolOk (p : Int) (R : Type) [Lean.Grind.CommRing R] (n : Nat) (T : Mat) (c : Rw) (o : Option Rw) : Prop where
  none : o = none → ∀ v : Nat → R, ¬ ∀ k, k < T.length → dot n (fv (row0 T k)) v = ic (at0 c k)
  some : ∀ x, o = some x → Vec p n x ∧ (∀ k, k < T.length → dot n (fv (row0 T k)) (fv x : Nat → R) = ic (at0 c k)) ∧ ∀ l ∈ leads (ker p T n), at0 x l = 0
theorem solve_ok (ch : Ch p R) (hp : Pr p) {T : Mat} {c : Rw} {m : Nat} (h : Mt p n T) (hc : Vec p m c) : SolOk p R n T c (solve p T n c) := by
  have hb := hp.pos
  have hp0 : 0 < p := by omega
  have ham := aug_mt hp0 h hc
  have r1 := red_ok ch hp ham
  have k1 := ker_ok ch hp h
  obtain ⟨B, hB⟩ : ∃ B, B = red p (aug T c) (n + 1) := ⟨_, rfl⟩
  rw [← hB] at r1
  have row : ∀ k, k < T.length → (row0 T k ++ [at0 c k]) ∈ aug T c := fun k hk => List.mem_map.mpr ⟨k, List.mem_range.mpr hk, rfl⟩
  unfold solve
  rw [← hB]
  by_cases hn : n ∈ leads B
  · rw [if_pos hn]
    refine ⟨fun _ v hv => ?_, fun x e => by cases e⟩
    obtain ⟨i, hi, ei, el⟩ := mem_leads hn
    obtain ⟨o1, o2, o3⟩ := r1.red.one i _ n (r1.get hi).1 ei
    have hz : phi n v (fv (row0 B i)) = 0 := by
      refine phi_sp (fun b hb => ?_) (r1.sp1 _ (row0_mem hi))
      obtain ⟨d, hd, rfl⟩ := fm_mem hb
      obtain ⟨k, hk, rfl⟩ := List.mem_map.mp hd
      have hk := List.mem_range.mp hk
      rw [phi_aug h hk, hv k hk]
      grind
    unfold phi at hz
    have : dot n (fv (row0 B i)) v = 0 := sm_zero fun k hk => by
      rw [o3 k (List.mem_range.mp hk)]
      grind
    rw [this, o1] at hz
    exact ch.one_ne hb.1 (by grind)
  · rw [if_neg hn]
    have lsn : ∀ l ∈ leads B, l < n := fun l hl => by
      obtain ⟨j, hj, ej, _⟩ := mem_leads hl
      have := (r1.red.one j _ l (r1.get hj).1 ej).2.1
      have hne : l ≠ n := fun e => hn (e ▸ hl)
      omega
    have lt : ∀ l ∈ leads B, l < (List.replicate n (0 : Int)).length := fun l hl => by rw [List.length_replicate]; exact lsn l hl
    obtain ⟨x, hx⟩ : ∃ x, x = x0 B (leads B) n := ⟨_, rfl⟩
    have hvx : Vec p n x := hx ▸ x0_vec (m := n + 1) _ _ hp0 (fun q hq => r1.mt _ (List.of_mem_zip hq).1) (vec_zero hp0)
    have fa := fun k => x0_at (n := n) (k := k) B (leads B) (List.replicate n 0) lt (nodup_of_asc r1.red.asc) (by unfold leads; rw [List.length_map])
    have xl : ∀ i, i < B.length → (fv x (lead1 (row0 B i)) : R) = fv (row0 B i) n := fun i hi => by
      rw [hx]
      unfold fv x0
      rw [(fa 0).1 i _ (r1.get hi).2]
    have xz : ∀ k, k ∉ leads B → (fv x k : R) = 0 := fun k hk => by
      rw [hx]
      unfold fv x0
      rw [(fa k).2 hk, at0_zero, cast_zero]
    have pB : ∀ b ∈ (fm B : List (Nat → R)), phi n (fv x) b = 0 := fun b hb => by
      obtain ⟨d, hd, rfl⟩ := fm_mem hb
      obtain ⟨i, hi⟩ := List.getElem?_of_mem hd
      have hil := (List.getElem?_eq_some_iff.mp hi).1
      rw [row0_get hil] at hi
      rw [← Option.some.inj hi]
      obtain ⟨o1, o2, o3⟩ := r1.red.one i _ _ (r1.get hil).1 (r1.get hil).2
      unfold phi
      have e : dot n (fv (row0 B i)) (fv x : Nat → R) = fv (row0 B i) (lead1 (row0 B i)) * fv x (lead1 (row0 B i)) := by
        refine sm_one (a := lead1 (row0 B i)) List.nodup_range (List.mem_range.mpr (lsn _ (List.mem_of_getElem? (r1.get hil).2))) fun k hk hne => ?_
        by_cases hkl : k ∈ leads B
        · obtain ⟨j, hj, ej, _⟩ := mem_leads hkl
          have hij : i ≠ j := fun z => by
            subst z
            rw [(r1.get hil).2] at ej
            exact hne (Option.some.inj ej).symm
          rw [r1.red.oth i j _ k hij (r1.get hil).1 ej]
          grind
        · rw [xz k hkl]
          grind
      rw [e, o1, xl i hil]
      grind
    have hT : ∀ k, k < T.length → dot n (fv (row0 T k)) (fv x : Nat → R) = ic (at0 c k) := fun k hk => by
      have := phi_sp pB (r1.sp2 _ (row k hk))
      rw [phi_aug h hk] at this
      grind
    obtain ⟨c1, c2, c3, _⟩ := clrK_ok (R := R) ch hp0 (ker p T n) x k1.red k1.mt hvx
    rw [← hx]
    refine ⟨fun e => by (cases e), fun y e => ?_⟩
    cases e
    refine ⟨c1, fun k hk => ?_, fun l hl => ch.inj _ (c1.at hp0 l).1 (c1.at hp0 l).2 (c2 l hl)⟩
    have hz := (k1.null _ fun j hj => by
      show (fv x j - fv (clrK p (ker p T n) x) j : R) = 0
      rw [fv_out hvx hj, fv_out c1 hj]
      grind).mp c3 _ (row0_mem hk)
    have e1 : dot n (fv (row0 T k)) (fun j => fv x j - fv (clrK p (ker p T n) x) j : Nat → R) = dot n (fv (row0 T k)) (fv x) + (-1) * dot n (fv (row0 T k)) (fv (clrK p (ker p T n) x)) := by
      rw [← dot_linr]
      exact sm_congr fun j _ => by grind
    rw [e1, hT k hk] at hz
    grind
end
end La
set_option maxRecDepth 100000
set_option maxHeartbeats 4000000
namespace La
theorem fin_ch {m : Nat} (hm : 0 < m) : ∃ (R : Type) (_ : Lean.Grind.CommRing R), Ch ((m : Nat) : Int) R := by
  haveI : NeZero m := ⟨by omega⟩
  refine ⟨Fin m, inferInstance, ?_, fun x h0 h1 e => ?_⟩
  · show (@Int.cast (Fin m) Lean.Grind.Ring.intCast ((m : Nat) : Int)) = 0
    have := (Lean.Grind.IsCharP.intCast_ext_iff (α := Fin m) m (x := ((m : Nat) : Int)) (y := 0)).mpr (by simp)
    rw [this]
    exact Lean.Grind.Ring.intCast_zero
  · have e2 : (@Int.cast (Fin m) Lean.Grind.Ring.intCast x) = @Int.cast (Fin m) Lean.Grind.Ring.intCast 0 := by
      rw [Lean.Grind.Ring.intCast_zero]
      exact e
    have := (Lean.Grind.IsCharP.intCast_ext_iff (α := Fin m) m (x := x) (y := 0)).mp e2
    rw [Int.emod_eq_of_lt h0 h1] at this
    simpa using this
theorem exR {p : Int} (hp : Pr p) : ∃ (R : Type) (_ : Lean.Grind.CommRing R), Ch p R := by
  have hb := hp.pos
  have e : p = ((p.toNat : Nat) : Int) := by omega
  rw [e]
  exact fin_ch (by omega)
variable {p : Int} {n : Nat}
theorem nz_of {c : Rw} {k : Nat} (h : at0 c k ≠ 0) : nz c ≠ [] := fun e => by
  have hk : k < c.length := by
    by_cases hk : k < c.length
    · exact hk
    · exact absurd (at0_out (by omega)) h
  have : k ∈ nz c := List.mem_filter.mpr ⟨List.mem_range.mpr hk, decide_eq_true h⟩
  rw [e] at this
  cases this
theorem RedOk.at_lead {R : Type} [Lean.Grind.CommRing R] (ch : Ch p R) (hp : 1 < p) {cols B : Mat} (h : RedOk p R n cols B) {c : Rw} (hc : c ∈ B) : at0 c (lead1 c) = 1 ∧ lead1 c < n := by
  obtain ⟨i, hi⟩ := List.getElem?_of_mem hc
  have hil := (List.getElem?_eq_some_iff.mp hi).1
  rw [row0_get hil] at hi
  rw [← Option.some.inj hi]
  obtain ⟨k1, k2, k3⟩ := h.red.one i _ _ (h.get hil).1 (h.get hil).2
  refine ⟨ch.eq ((h.mt _ (row0_mem hil)).at (by omega) _) ⟨by omega, hp⟩ ?_, k2⟩
  rw [cast_one]
  exact k1
theorem red_lead (hp : Pr p) {cols : Mat} (h : Mt p n cols) {c : Rw} (hc : c ∈ red p cols n) : at0 c (lead1 c) = 1 ∧ lead1 c < n ∧ nz c ≠ [] := by
  obtain ⟨R, _, ch⟩ := exR hp
  have := (red_ok ch hp h).at_lead ch hp.pos.1 hc
  exact ⟨this.1, this.2, nz_of (k := lead1 c) (by rw [this.1]; decide)⟩
theorem red_nz (hp : Pr p) {cols : Mat} (h : Mt p n cols) : ∀ c ∈ red p cols n, nz c ≠ [] := fun c hc => (red_lead hp h hc).2.2
theorem red_lt (hp : Pr p) {cols : Mat} (h : Mt p n cols) : ∀ l ∈ leads (red p cols n), l < n := fun l hl => by
  obtain ⟨c, hc, rfl⟩ := List.mem_map.mp hl
  exact (red_lead hp h hc).2.1
theorem red_asc (hp : Pr p) {cols : Mat} (h : Mt p n cols) : (leads (red p cols n)).Pairwise (· < ·) := by
  obtain ⟨R, _, ch⟩ := exR hp
  exact (red_ok ch hp h).red.asc
theorem asc_len {m : Nat} : ∀ {ls : List Nat} {a : Nat}, ls.Pairwise (· < ·) → (∀ l ∈ ls, a ≤ l ∧ l < m) → ls.length ≤ m - a
  | [], _, _, _ => Nat.zero_le _
  | l :: ls, a, h, hl => by
    rw [List.pairwise_cons] at h
    have := asc_len (a := l + 1) h.2 fun k hk => ⟨h.1 k hk, (hl k (List.mem_cons_of_mem _ hk)).2⟩
    have := hl l List.mem_cons_self
    rw [List.length_cons]
    omega
theorem red_len (hp : Pr p) {cols : Mat} (h : Mt p n cols) : (red p cols n).length ≤ n := by
  have := asc_len (a := 0) (red_asc hp h) fun l hl => ⟨Nat.zero_le _, red_lt hp h l hl⟩
  unfold leads at this
  rw [List.length_map] at this
  omega
theorem ker_mt (hp : 1 < p) {T : Mat} : Mt p n (kerCols p (red p T n) (leads (red p T n)) n) := fun c hc => by
  obtain ⟨f, hf, rfl⟩ := List.mem_map.mp hc
  exact vec_kcol hp
theorem fold_take {α β : Type} (f : β → α → β) (l : List α) (i : Nat) (x : α) (b : β) (h : l[i]? = some x) : (l.take (i + 1)).foldl f b = f ((l.take i).foldl f b) x := by
  rw [List.take_add_one, h, Option.toList_some, List.foldl_append]
  rfl
def unit (n : Nat) : Mat := (List.range n).map fun i => (List.range n).map fun j => if i = j then (1 : Int) else 0
def augI (T : Mat) : Mat := (List.range T.length).map fun k => row0 T k ++ row0 (unit T.length) k
def tbk (p : Int) (T : Mat) : Option Mat := if T ≠ [] ∧ (row0 T 0).length ≠ T.length then none else if leads (red p (augI T) (2 * T.length)) ≠ List.range T.length then none else some ((red p (augI T) (2 * T.length)).map fun c => c.drop T.length)
theorem unit_vec {k : Nat} (hp : 1 < p) (h : k < n) : Vec p n (row0 (unit n) k) := by
  have e : row0 (unit n) k = (List.range n).map fun j => if k = j then (1 : Int) else 0 := by
    unfold row0 unit
    rw [List.getD_eq_getElem?_getD, List.getElem?_map, List.getElem?_range h]
    rfl
  rw [e]
  exact vec_gen fun j _ => by split <;> omega
theorem unit_len : (unit n).length = n := by unfold unit; simp
theorem augI_mt (hp : 1 < p) {T : Mat} (h : Mt p T.length T) : Mt p (2 * T.length) (augI T) := fun c hc => by
  obtain ⟨k, hk, rfl⟩ := List.mem_map.mp hc
  have hk := List.mem_range.mp hk
  have h1 := h _ (row0_mem hk)
  have h2 := unit_vec hp hk
  refine ⟨by rw [List.length_append, h1.1, h2.1]; omega, fun x hx => ?_⟩
  rcases List.mem_append.mp hx with hx | hx
  · exact h1.2 x hx
  · exact h2.2 x hx
end La
set_option maxRecDepth 100000
set_option maxHeartbeats 400000
namespace La
section
variable {R : Type} [Lean.Grind.CommRing R] {p : Int} {n : Nat}
def isum (n : Nat) (f : Nat → Int) : Int := ((List.range n).map f).sum
theorem ic_sum (f : Nat → Int) : ∀ l : List Nat, (ic ((l.map f).sum) : R) = sm l fun k => ic (f k)
  | [] => by simp only [List.map_nil, List.sum_nil, sm]; exact cast_zero
  | k :: l => by
    rw [List.map_cons, List.sum_cons, cast_add, ic_sum f l]
    rfl
theorem ic_isum (n : Nat) (f : Nat → Int) : (ic (isum n f) : R) = sm (List.range n) fun k => ic (f k) := ic_sum f _
/-- the rank of places -/
theorem unit_lead {m : Nat} {cols B : Mat} (h : RedOk p R m cols B) {w : Nat → R} (hw : Sp (fm B) w) {i N : Nat} (hi : i < N) (hz : ∀ k, k < N → k ≠ i → w k = 0) (h1 : w i ≠ 0) : i ∈ leads B := by
  by_cases hm : i ∈ leads B
  · exact hm
  refine absurd ?_ h1
  have cz : ∀ (D : List (Nat → R)) (xs : List R), (∀ (j : Nat) (b : Nat → R) (x : R), D[j]? = some b → xs[j]? = some x → x * b i = 0) → comb D xs i = 0 := by
    intro D
    induction D with
    | nil => intro xs _; simp only [comb]
    | cons b D ih =>
      intro xs hx
      cases xs with
      | nil => simp only [comb]
      | cons x xs =>
        simp only [comb]
        rw [hx 0 b x rfl rfl, ih xs fun j c y h1 h2 => hx (j + 1) c y (by simpa using h1) (by simpa using h2)]
        grind
  rw [h.red.parts hw i]
  refine cz _ _ fun j b x hb hx => ?_
  rw [List.getElem?_map] at hx
  obtain ⟨l, hl, rfl⟩ := Option.map_eq_some_iff.mp hx
  obtain ⟨o1, o2, o3⟩ := h.red.one j b l hb hl
  have hli : l ≠ i := fun e => hm (e ▸ List.mem_of_getElem? hl)
  by_cases hlN : l < N
  · rw [hz l hlN hli]; grind
  · rw [o3 i (by omega)]; grind
theorem asc_full {ls : List Nat} (ha : ls.Pairwise (· < ·)) (hm : ∀ i, i < n → i ∈ ls) (hl : ls.length ≤ n) : ls = List.range n := by
  have h1 : ∀ (m : Nat) (a : Nat) (ls : List Nat), ls.Pairwise (· < ·) → (∀ i, a ≤ i → i < a + m → i ∈ ls) → (∀ x ∈ ls, a ≤ x) → ls.length ≤ m → ls = (List.range m).map (a + ·) := by
    intro m
    induction m with
    | zero =>
      intro a ls _ _ _ hl
      have : ls = [] := List.length_eq_zero_iff.mp (by omega)
      rw [this]; rfl
    | succ m ih =>
      intro a ls hp hm hg hl
      have h0 := hm a (by omega) (by omega)
      cases ls with
      | nil => cases h0
      | cons x ls =>
        rw [List.pairwise_cons] at hp
        have hx : x = a := by
          rcases List.mem_cons.mp h0 with e | e
          · exact e.symm
          · have := hp.1 a e
            have := hg x List.mem_cons_self
            omega
        subst hx
        rw [List.range_succ_eq_map, List.map_cons, List.map_map]
        congr 1
        rw [ih (x + 1) ls hp.2 (fun i h1 h2 => by
          rcases List.mem_cons.mp (hm i (by omega) (by omega)) with e | e
          · omega
          · exact e) (fun y hy => hp.1 y hy) (by simpa using hl)]
        refine List.map_congr_left fun k _ => ?_
        show x + 1 + k = x + (k + 1)
        omega
  have := h1 n 0 ls ha (fun i _ h => hm i (by omega)) (fun _ _ => Nat.zero_le _) hl
  rw [this]
  simp
theorem asc_range {ls : List Nat} (ha : ls.Pairwise (· < ·)) (hb : ∀ l ∈ ls, l < n) (hl : n ≤ ls.length) : ls = List.range n := by
  refine asc_full ha (fun i hi => ?_) (by have := asc_len (a := 0) ha fun l h => ⟨Nat.zero_le _, hb l h⟩; omega)
  by_cases hm : i ∈ ls
  · exact hm
  exfalso
  -- a list without i is short
  have h1 : ∀ (ls : List Nat) (a : Nat), ls.Pairwise (· < ·) → (∀ l ∈ ls, a ≤ l ∧ l < n) → i ∉ ls → a ≤ i → i < n → ls.length + 1 ≤ n - a := by
    intro ls
    induction ls with
    | nil => intro a _ _ _ h1 h2; simp; omega
    | cons x ls ih =>
      intro a hp hb hn h1 h2
      rw [List.pairwise_cons] at hp
      have hx := hb x List.mem_cons_self
      have hxi : x ≠ i := fun e => hn (by rw [e]; exact List.mem_cons_self)
      rw [List.length_cons]
      by_cases hlt : x < i
      · have := ih (x + 1) hp.2 (fun l hl => ⟨hp.1 l hl, (hb l (List.mem_cons_of_mem _ hl)).2⟩) (fun h => hn (List.mem_cons_of_mem _ h)) (by omega) h2
        omega
      · have := asc_len (a := x + 1) hp.2 (m := n) fun l hl => ⟨hp.1 l hl, (hb l (List.mem_cons_of_mem _ hl)).2⟩
        omega
  have := h1 ls 0 ha (fun l h => ⟨Nat.zero_le _, hb l h⟩) hm (by omega) hi
  omega
def un (n i : Nat) : Nat → R := fun k => if k = i ∧ i < n then 1 else 0
theorem fv_unit {k : Nat} (hk : k < n) (j : Nat) : (fv (row0 (unit n) k) j : R) = un n k j := by
  have e : row0 (unit n) k = (List.range n).map fun j => if k = j then (1 : Int) else 0 := by
    unfold row0 unit
    rw [List.getD_eq_getElem?_getD, List.getElem?_map, List.getElem?_range hk]
    rfl
  unfold fv un
  rw [e]
  by_cases hj : j < n
  · rw [at0_map hj]
    by_cases h : k = j
    · rw [if_pos h, if_pos ⟨h.symm, hk⟩, cast_one]
    · rw [if_neg h, if_neg fun z => h z.1.symm, cast_zero]
  · rw [at0_out (by simp; omega), if_neg (by omega), cast_zero]
theorem fv_app {c d : Rw} {k : Nat} : (fv (c ++ d) k : R) = if k < c.length then fv c k else fv d (k - c.length) := by
  unfold fv at0
  rw [List.getD_eq_getElem?_getD]
  by_cases h : k < c.length
  · rw [if_pos h, List.getElem?_append_left h, ← List.getD_eq_getElem?_getD]
  · rw [if_neg h, List.getElem?_append_right (by omega), ← List.getD_eq_getElem?_getD]
theorem fv_augI {T : Mat} (h : Mt p T.length T) {k j : Nat} (hk : k < T.length) : (fv (row0 T k ++ row0 (unit T.length) k) j : R) = if j < T.length then fv (row0 T k) j else un T.length k (j - T.length) := by
  rw [fv_app, (h _ (row0_mem hk)).1, fv_unit hk]
theorem mem_augI {T : Mat} {k : Nat} (hk : k < T.length) : (fv (row0 T k ++ row0 (unit T.length) k) : Nat → R) ∈ fm (augI T) := mem_fm (List.mem_map.mpr ⟨k, List.mem_range.mpr hk, rfl⟩)
/-- each unit column is a sum of the lines -/
def Full (R : Type) [Lean.Grind.CommRing R] (n : Nat) (T : Mat) : Prop := ∀ i, i < n → Sp (fm T) (un n i : Nat → R)
theorem full_rank (ch : Ch p R) (hp : Pr p) {T : Mat} (h : Mt p n T) (hf : Full R n T) : leads (red p T n) = List.range n := by
  have r := red_ok ch hp h
  refine asc_full r.red.asc (fun i hi => ?_) (by unfold leads; rw [List.length_map]; exact red_len hp h)
  refine unit_lead r (w := un n i) ((hf i hi).trans fun b hb => ?_) hi (fun k _ hk => by unfold un; rw [if_neg fun z => hk z.1]) ?_
  · obtain ⟨d, hd, rfl⟩ := fm_mem hb
    exact r.sp2 d hd
  · unfold un
    rw [if_pos ⟨rfl, hi⟩]
    exact ch.one_ne hp.pos.1
theorem rank_full (ch : Ch p R) (hp : Pr p) {T : Mat} (h : Mt p n T) (hl : n ≤ (red p T n).length) : Full R n T := fun i hi => by
  have r := red_ok ch hp h
  have el : leads (red p T n) = List.range n := asc_range r.red.asc (red_lt hp h) (by unfold leads; rw [List.length_map]; exact hl)
  obtain ⟨B, hB⟩ : ∃ B, B = red p T n := ⟨_, rfl⟩
  rw [← hB] at r el hl
  have hiB : i < B.length := by omega
  refine (r.sp1 _ (row0_mem hiB)).of_eq fun k => ?_
  have hlead : ∀ j, j < n → (leads B)[j]? = some j := fun j hj => by rw [el]; exact List.getElem?_range hj
  unfold un
  by_cases hk : k < n
  · by_cases e : k = i
    · subst e
      rw [if_pos ⟨rfl, hi⟩]
      exact (r.red.one k _ k (r.get hiB).1 (hlead k hk)).1.symm
    · rw [if_neg fun z => e z.1]
      exact (r.red.oth i k _ k (Ne.symm e) (r.get hiB).1 (hlead k hk)).symm
  · rw [if_neg (by omega), fv_out (r.mt _ (row0_mem hiB)) (by omega)]
theorem full_aug (ch : Ch p R) (hp : Pr p) {T : Mat} (h : Mt p T.length T) (hf : Full R T.length T) : leads (red p (augI T) (2 * T.length)) = List.range T.length := by
  have hm := augI_mt hp.pos.1 h
  have r := red_ok ch hp hm
  refine asc_full r.red.asc (fun i hi => ?_) ?_
  · have up : ∀ v : Nat → R, Sp (fm T) v → ∃ w, Sp (fm (augI T)) w ∧ ∀ k, k < T.length → w k = v k := by
      intro v hv
      induction hv with
      | zero => exact ⟨_, .zero, fun _ _ => rfl⟩
      | add c _ hb ih =>
        obtain ⟨w, h1, h2⟩ := ih
        obtain ⟨d, hd, rfl⟩ := fm_mem hb
        obtain ⟨j, hj⟩ := List.getElem?_of_mem hd
        have hjl := (List.getElem?_eq_some_iff.mp hj).1
        rw [row0_get hjl] at hj
        have hj := Option.some.inj hj
        refine ⟨_, .add c h1 (mem_augI hjl), fun k hk => ?_⟩
        dsimp only
        rw [h2 k hk, fv_augI h hjl, if_pos hk, hj]
    obtain ⟨w, h1, h2⟩ := up _ (hf i hi)
    refine unit_lead r (N := T.length) (w := w) (h1.trans fun b hb => ?_) hi (fun k hk hne => ?_) ?_
    · obtain ⟨d, hd, rfl⟩ := fm_mem hb
      exact r.sp2 d hd
    · rw [h2 k hk]
      unfold un
      rw [if_neg fun z => hne z.1]
    · rw [h2 i hi]
      unfold un
      rw [if_pos ⟨rfl, hi⟩]
      exact ch.one_ne hp.pos.1
  · unfold leads
    rw [List.length_map]
    have := red_count (p := p) (cols := augI T) (2 * T.length)
    have e : (augI T).length = T.length := by unfold augI; simp
    unfold red
    omega
structure TbkOk (p : Int) (R : Type) [Lean.Grind.CommRing R] (T S : Mat) : Prop where
  mt : Mt p T.length S
  len : S.length = T.length
  st : ∀ i j, i < T.length → j < T.length → sm (List.range T.length) (fun k => fv (row0 S i) k * fv (row0 T k) j) = (un T.length i j : R)
  ts : ∀ i j, i < T.length → j < T.length → sm (List.range T.length) (fun k => fv (row0 T i) k * fv (row0 S k) j) = (un T.length i j : R)
theorem tbk_none (ch : Ch p R) (hp : Pr p) {T : Mat} (h : Mt p T.length T) (hf : Full R T.length T) : tbk p T ≠ none := by
  unfold tbk
  rw [if_neg (by
    rintro ⟨h1, h2⟩
    cases T with
    | nil => exact h1 rfl
    | cons r T => exact h2 (h r List.mem_cons_self).1), if_neg (fun z => z (full_aug ch hp h hf))]
  exact fun z => by cases z
theorem tbk_ok (ch : Ch p R) (hp : Pr p) {T S : Mat} (h : Mt p T.length T) (e : tbk p T = some S) : TbkOk p R T S := by
  have hb := hp.pos
  have hm := augI_mt hb.1 h
  have r := red_ok ch hp hm
  unfold tbk at e
  split at e
  · cases e
  split at e
  · cases e
  rename_i _ hl
  have hl : leads (red p (augI T) (2 * T.length)) = List.range T.length := by
    by_cases z : leads (red p (augI T) (2 * T.length)) = List.range T.length
    · exact z
    · exact absurd z hl
  have e := Option.some.inj e
  obtain ⟨B, hB⟩ : ∃ B, B = red p (augI T) (2 * T.length) := ⟨_, rfl⟩
  rw [← hB] at r hl e
  have hBl : B.length = T.length := by
    have := congrArg List.length hl
    unfold leads at this
    simpa using this
  have hlead : ∀ j, j < T.length → (leads B)[j]? = some j := fun j hj => by rw [hl]; exact List.getElem?_range hj
  have hS : ∀ i, i < T.length → row0 S i = (row0 B i).drop T.length := fun i hi => by
    rw [← e]
    unfold row0
    rw [List.getD_eq_getElem?_getD, List.getElem?_map, List.getD_eq_getElem?_getD, List.getElem?_eq_getElem (by omega)]
    rfl
  have fS : ∀ i j, i < T.length → (fv (row0 S i) j : R) = fv (row0 B i) (T.length + j) := fun i j hi => by
    rw [hS i hi]
    unfold fv at0
    rw [List.getD_eq_getElem?_getD, List.getElem?_drop, ← List.getD_eq_getElem?_getD]
  have fB : ∀ i j, i < T.length → j < T.length → (fv (row0 B i) j : R) = un T.length i j := fun i j hi hj => by
    unfold un
    by_cases hij : j = i
    · subst hij
      rw [if_pos ⟨rfl, hi⟩]
      exact (r.red.one j _ j (r.get (by omega)).1 (hlead j hj)).1
    · rw [if_neg fun z => hij z.1]
      exact r.red.oth i j _ j (Ne.symm hij) (r.get (by omega)).1 (hlead j hj)
  have un1 : ∀ i k, (un T.length i k : R) = if k = i ∧ i < T.length then 1 else 0 := fun i k => rfl
  have sone : ∀ (i : Nat) (g : Nat → R), i < T.length → sm (List.range T.length) (fun k => un T.length i k * g k) = g i := fun i g hi => by
    rw [sm_one (a := i) List.nodup_range (List.mem_range.mpr hi) fun k _ hk => by
      unfold un; rw [if_neg fun z => hk z.1]; grind]
    unfold un
    rw [if_pos ⟨rfl, hi⟩]
    grind
  have slin : ∀ (f g : Nat → R) (c : R) (w : Nat → R), sm (List.range T.length) (fun k => (f k + c * g k) * w k) = sm (List.range T.length) (fun k => f k * w k) + c * sm (List.range T.length) (fun k => g k * w k) := fun f g c w => by
    rw [← sm_lin]
    exact sm_congr fun k _ => by grind
  have szero : ∀ w : Nat → R, sm (List.range T.length) (fun k => (0 : R) * w k) = 0 := fun w => sm_zero fun k _ => by grind
  refine ⟨fun c hc => ?_, by rw [← e, List.length_map, hBl], fun i j hi hj => ?_, fun i j hi hj => ?_⟩
  · rw [← e] at hc
    obtain ⟨d, hd, rfl⟩ := List.mem_map.mp hc
    have hv := r.mt d hd
    exact ⟨by rw [List.length_drop, hv.1]; omega, fun x hx => hv.2 x (List.mem_of_mem_drop hx)⟩
  · have hz : (fun (v : Nat → R) => sm (List.range T.length) (fun k => v (T.length + k) * fv (row0 T k) j) - v j) (fv (row0 B i)) = 0 := by
      refine Sp.lin (fun (v : Nat → R) => sm (List.range T.length) (fun k => v (T.length + k) * fv (row0 T k) j) - v j) (r.sp1 _ (row0_mem (by omega))) ?_ (fun v b c _ => ?_) fun b hb => ?_
      · show sm (List.range T.length) (fun k => (0 : R) * fv (row0 T k) j) - 0 = 0
        rw [szero]; grind
      · show sm (List.range T.length) (fun k => (v (T.length + k) + c * b (T.length + k)) * fv (row0 T k) j) - (v j + c * b j) = _
        rw [slin (fun k => v (T.length + k)) (fun k => b (T.length + k))]
        grind
      · obtain ⟨d, hd, rfl⟩ := fm_mem hb
        obtain ⟨k, hk, rfl⟩ := List.mem_map.mp hd
        have hk := List.mem_range.mp hk
        show sm (List.range T.length) (fun l => fv (row0 T k ++ row0 (unit T.length) k) (T.length + l) * fv (row0 T l) j) - fv (row0 T k ++ row0 (unit T.length) k) j = 0
        rw [fv_augI h hk, if_pos hj, sm_congr (g := fun l => un T.length k l * fv (row0 T l) j) fun l _ => by rw [fv_augI h hk, if_neg (by omega), Nat.add_sub_cancel_left], sone k _ hk]
        grind
    have hz : sm (List.range T.length) (fun k => fv (row0 B i) (T.length + k) * fv (row0 T k) j) - fv (row0 B i) j = (0 : R) := hz
    rw [fB i j hi hj] at hz
    rw [sm_congr (g := fun k => fv (row0 B i) (T.length + k) * fv (row0 T k) j) fun k _ => by rw [fS i k hi]]
    grind
  · have hz : (fun (v : Nat → R) => sm (List.range T.length) (fun k => v k * fv (row0 B k) (T.length + j)) - v (T.length + j)) (fv (row0 T i ++ row0 (unit T.length) i)) = 0 := by
      refine Sp.lin (fun (v : Nat → R) => sm (List.range T.length) (fun k => v k * fv (row0 B k) (T.length + j)) - v (T.length + j)) (r.sp2 _ (List.mem_map.mpr ⟨i, List.mem_range.mpr hi, rfl⟩)) ?_ (fun v b c _ => ?_) fun b hb => ?_
      · show sm (List.range T.length) (fun k => (0 : R) * fv (row0 B k) (T.length + j)) - 0 = 0
        rw [szero]; grind
      · show sm (List.range T.length) (fun k => (v k + c * b k) * fv (row0 B k) (T.length + j)) - (v (T.length + j) + c * b (T.length + j)) = _
        rw [slin]
        grind
      · obtain ⟨d, hd, rfl⟩ := fm_mem hb
        obtain ⟨k, hk⟩ := List.getElem?_of_mem hd
        have hkl := (List.getElem?_eq_some_iff.mp hk).1
        rw [row0_get hkl] at hk
        rw [← Option.some.inj hk]
        show sm (List.range T.length) (fun l => fv (row0 B k) l * fv (row0 B l) (T.length + j)) - fv (row0 B k) (T.length + j) = 0
        rw [sm_congr (g := fun l => un T.length k l * fv (row0 B l) (T.length + j)) fun l hl => by rw [fB k l (by omega) (List.mem_range.mp hl)], sone k (fun l => fv (row0 B l) (T.length + j)) (by omega)]
        grind
    have hz : sm (List.range T.length) (fun k => fv (row0 T i ++ row0 (unit T.length) i) k * fv (row0 B k) (T.length + j)) - fv (row0 T i ++ row0 (unit T.length) i) (T.length + j) = (0 : R) := hz
    rw [fv_augI h hi, if_neg (by omega), Nat.add_sub_cancel_left] at hz
    rw [sm_congr (g := fun k => fv (row0 T i ++ row0 (unit T.length) i) k * fv (row0 B k) (T.length + j)) fun k hk => by
      have hk := List.mem_range.mp hk
      rw [fS k j hk, fv_augI h hi, if_pos hk]]
    grind
theorem tbk_full (ch : Ch p R) (hp : Pr p) {T S : Mat} (h : Mt p T.length T) (e : tbk p T = some S) : Full R T.length T := fun i hi => by
  have k := tbk_ok (R := R) ch hp h e
  have hs : ∀ l : List Nat, (∀ f ∈ l, f < T.length) → Sp (fm T) (fun j => sm l fun f => (fv (row0 S i) f : R) * fv (row0 T f) j) := by
    intro l
    induction l with
    | nil => intro _; exact Sp.zero
    | cons f l ih =>
      intro hl
      refine (Sp.add (fv (row0 S i) f) (ih fun g hg => hl g (List.mem_cons_of_mem _ hg)) (mem_fm (row0_mem (hl f List.mem_cons_self)))).of_eq fun j => ?_
      simp only [sm]
      grind
  refine (hs (List.range T.length) fun f hf => List.mem_range.mp hf).of_eq fun j => ?_
  by_cases hj : j < T.length
  · rw [k.st i j hi hj]
  · rw [sm_zero fun f hf => by
      rw [fv_out (h _ (row0_mem (List.mem_range.mp hf))) (by omega)]
      grind]
    unfold un
    rw [if_neg (by omega)]
end
def led (p : Int) (T : Mat) (x : Rw) : Rw := T.map fun r => isum x.length (fun j => at0 r j * at0 x j) % p
def beh (p : Int) (one other : Mat) (n : Nat) : Mat := other.map fun r => (List.range n).map fun j => isum one.length (fun k => at0 r k * at0 (row0 one k) j) % p
section
variable {R : Type} [Lean.Grind.CommRing R] {p : Int} {n : Nat}
theorem vec_led {T : Mat} {x : Rw} (hp : 0 < p) : Vec p T.length (led p T x) := ⟨by unfold led; simp, fun y hy => by
  unfold led at hy
  obtain ⟨r, _, rfl⟩ := List.mem_map.mp hy
  exact ⟨Int.emod_nonneg _ (by omega), Int.emod_lt_of_pos _ hp⟩⟩
theorem ic_isum_mul {m : Nat} {f g : Nat → Int} : (ic (isum m fun k => f k * g k) : R) = sm (List.range m) fun k => ic (f k) * ic (g k) := by
  rw [ic_isum]
  exact sm_congr fun k _ => cast_mul _ _
theorem led_at (ch : Ch p R) {T : Mat} {x : Rw} {k : Nat} (hk : k < T.length) : (ic (at0 (led p T x) k) : R) = dot x.length (fv (row0 T k)) (fv x) := by
  have e : at0 (led p T x) k = isum x.length (fun j => at0 (row0 T k) j * at0 x j) % p := by
    unfold led at0 row0
    rw [List.getD_eq_getElem?_getD, List.getElem?_map, List.getD_eq_getElem?_getD, List.getElem?_eq_getElem hk]
    rfl
  rw [e, ch.mod, ic_isum_mul]
  rfl
theorem led_eq (ch : Ch p R) (hp : 1 < p) {T : Mat} {x c : Rw} (hc : Vec p T.length c) : led p T x = c ↔ ∀ k, k < T.length → dot x.length (fv (row0 T k)) (fv x : Nat → R) = ic (at0 c k) := by
  constructor
  · intro e k hk
    rw [← led_at ch hk, e]
  · intro h
    have hv := vec_led (p := p) (T := T) (x := x) (by omega)
    refine row_ext (by rw [hv.1, hc.1]) fun k hk => ?_
    refine ch.eq (hv.at (by omega) k) (hc.at (by omega) k) ?_
    rw [led_at ch (by rw [hv.1] at hk; exact hk)]
    exact h k (by rw [hv.1] at hk; exact hk)
theorem unit_row {i : Nat} (hi : i < n) : row0 (unit n) i = (List.range n).map fun j => if i = j then (1 : Int) else 0 := by
  unfold row0 unit
  rw [List.getD_eq_getElem?_getD, List.getElem?_map, List.getElem?_range hi]
  rfl
theorem mat_ext {A B : Mat} (hl : A.length = B.length) (h : ∀ i, i < A.length → row0 A i = row0 B i) : A = B := by
  refine List.ext_getElem hl fun k h1 h2 => ?_
  have e := h k h1
  unfold row0 at e
  rw [List.getD_eq_getElem?_getD, List.getD_eq_getElem?_getD, List.getElem?_eq_getElem h1, List.getElem?_eq_getElem h2] at e
  exact e
theorem beh_unit (ch : Ch p R) (hp : 1 < p) {one other : Mat} (h1 : one.length = n) (h2 : other.length = n) (h : ∀ i j, i < n → j < n → sm (List.range n) (fun k => fv (row0 other i) k * fv (row0 one k) j) = (un n i j : R)) : beh p one other n = unit n := by
  have er : ∀ i, i < n → row0 (beh p one other n) i = (List.range n).map fun j => isum one.length (fun k => at0 (row0 other i) k * at0 (row0 one k) j) % p := fun i hi => by
    unfold beh row0
    rw [List.getD_eq_getElem?_getD, List.getElem?_map, List.getD_eq_getElem?_getD, List.getElem?_eq_getElem (by omega)]
    rfl
  refine mat_ext (by unfold beh; rw [List.length_map, unit_len, h2]) fun i hi => ?_
  have hi : i < n := by unfold beh at hi; rw [List.length_map] at hi; omega
  rw [er i hi, unit_row hi]
  refine List.map_congr_left fun j hj => ?_
  have hj := List.mem_range.mp hj
  refine ch.eq ⟨Int.emod_nonneg _ (by omega), Int.emod_lt_of_pos _ (by omega)⟩ (by split <;> omega) ?_
  rw [ch.mod, ic_isum_mul, h1]
  have := h i j hi hj
  unfold fv at this
  rw [this]
  unfold un
  by_cases e : i = j
  · rw [if_pos e, if_pos ⟨e.symm, hi⟩, cast_one]
  · rw [if_neg e, if_neg fun z => e z.1.symm, cast_zero]
end
end La
set_option maxRecDepth 100000
set_option maxHeartbeats 400000
namespace La
section
variable {R : Type} [Lean.Grind.CommRing R] {p : Int} {n m : Nat}
/-- a map of columns -/
structure Lin (p : Int) (R : Type) [Lean.Grind.CommRing R] (n m : Nat) (F : Rw → Rw) (f : (Nat → R) → Nat → R) : Prop where
  vec : ∀ c, Vec p n c → Vec p m (F c)
  eq : ∀ c k, Vec p n c → (fv (F c) k : R) = f (fv c) k
  zero : ∀ k, f (fun _ => 0) k = 0
  add : ∀ v w c k, f (fun i => v i + c * w i) k = f v k + c * f w k
variable {F : Rw → Rw} {f : (Nat → R) → Nat → R}
theorem Lin.mt (L : Lin p R n m F f) {C : Mat} (hC : Mt p n C) : Mt p m (C.map F) := fun c hc => by
  obtain ⟨d, hd, rfl⟩ := List.mem_map.mp hc
  exact L.vec d (hC d hd)
theorem Lin.up (L : Lin p R n m F f) {C : Mat} (hC : Mt p n C) {w : Nat → R} (hw : Sp (fm (C.map F)) w) : ∃ v, Sp (fm C) v ∧ ∀ k, f v k = w k := by
  induction hw with
  | zero => exact ⟨_, .zero, L.zero⟩
  | add c _ hm ih =>
    obtain ⟨v, h1, h2⟩ := ih
    obtain ⟨e, he, rfl⟩ := fm_mem hm
    obtain ⟨d, hd, rfl⟩ := List.mem_map.mp he
    exact ⟨_, .add c h1 (mem_fm hd), fun k => by
      dsimp only
      rw [L.add, h2, L.eq d k (hC d hd)]⟩
end
end La
set_option maxRecDepth 100000
set_option maxHeartbeats 400000
namespace La
def rest (p : Int) (B : Mat) (x : Rw) (n : Nat) : Rw := (free n (leads B)).map (at0 (clrK p B x))
end La
set_option maxRecDepth 100000
set_option maxHeartbeats 400000
namespace La
end La
set_option maxRecDepth 100000
set_option maxHeartbeats 400000
namespace La
end La
set_option maxRecDepth 100000
set_option maxHeartbeats 400000
namespace La
end La
set_option maxRecDepth 100000
set_option maxHeartbeats 400000
namespace LH
open PySem PySem.Spec PyProof.Rows L2 Pd Ty La
theorem small {p x : Int} (hp : Pr p) (h : 0 ≤ x ∧ x < p) : x.natAbs < 2 ^ 60 := by
  have := hp.pos
  omega
theorem row0_eq (m : Mat) (k : Nat) : m.getD k [] = row0 m k := rfl
theorem ix_at {c : Rw} {k : Nat} (h : k < c.length) : ixM c ((k : Nat) : Int) = pu (at0 c k) := okIx (d := 0) h
theorem ix_row {m : Mat} {k : Nat} (h : k < m.length) : ixM m ((k : Nat) : Int) = pu (row0 m k) := okIx (d := []) h
theorem e_taken_off {p t : Int} {c o : Rw} (hp : 0 < p) (ht : t.natAbs < 2 ^ 60) (hl : c.length = o.length) : t_taken_off p c t o = pu (tk p c t o) := by
  unfold t_taken_off
  rw [zip_range (0 : Int) (0 : Int) c o hl]
  refine lc_map1 (fun (k : Nat) => (at0 c k - t * at0 o k) % p) _ fun k hk => ?_
  dsimp only
  rw [okMul ht, pu_bi, pu_bi, okMod hp]
  rfl
theorem rg1_map {p : Int} : rg 1 p = (List.range (p - 1).toNat).map fun (i : Nat) => 1 + (i : Int) := rfl
theorem head_ne {l : List Int} {m : List Nat} {f : Nat → Int} (hl : l = m.map f) (h : m ≠ []) : ixM l 0 = pu ((m.map f).headD 0) := by
  cases m with
  | nil => exact absurd rfl h
  | cons a m => rw [hl]; exact ix_cons
theorem bkn_ne {p x : Int} (hp : Pr p) (h0 : 0 < x) (h1 : x < p) : ((List.range (p - 1).toNat).filter fun (i : Nat) => decide ((1 + (i : Int)) * x % p = 1)) ≠ [] := fun e => by
  obtain ⟨k, hk, hk2⟩ := hp.inv h0 h1
  have hm : k ∈ (List.range (p - 1).toNat).filter fun (i : Nat) => decide ((1 + (i : Int)) * x % p = 1) := List.mem_filter.mpr ⟨List.mem_range.mpr hk, decide_eq_true hk2⟩
  rw [e] at hm
  cases hm
theorem e_back_number {p x : Int} (hp : Pr p) (h0 : 0 < x) (h1 : x < p) : t_back_number p x = pu (bkn p x) := by
  have hb := hp.pos
  unfold t_back_number
  rw [okRg2 (by omega) (by omega) (by omega) (by omega) (by omega), pu_bi, rg1_map,
    lc_map (fun (i : Nat) => decide ((1 + (i : Int)) * x % p = 1)) (fun (i : Nat) => 1 + (i : Int)) _ (fun i hi => by
      have hi := List.mem_range.mp hi
      rw [okMul (by omega), pu_bi, okMod (by omega), pu_bi]) (fun i _ _ => rfl), pu_bi]
  exact head_ne rfl (bkn_ne hp h0 h1)
theorem hits_ty (m : Mat) (spot n : Nat) (p : Int) (h : Mt p n m) (hs : spot < n) : nx (lcM (fun (q : Int × List Int) => bi (ixM q.2 (spot : Int)) fun a => pu (decide (a ≠ 0))) (fun (q : Int × List Int) => pu q.1) (en m) []) = pu ((hits spot m).map fun (k : Nat) => (k : Int)) := by
  rw [en_range ([] : List Int)]
  exact lc_map (fun k => decide (at0 (row0 m k) spot ≠ 0)) (fun (k : Nat) => (k : Int)) _ (fun k hk => by
    have hk := List.mem_range.mp hk
    dsimp only
    rw [row0_eq, ix_at (by rw [(h _ (row0_mem hk)).1]; exact hs), pu_bi]) fun k _ _ => rfl
theorem scale_ty {p t : Int} {c : Rw} (hp : 0 < p) (ht : t.natAbs < 2 ^ 60) : nx (lcM (fun _ => pu true) (fun (e : Int) => bi (mulM t e) fun a => modM a p) c []) = pu (c.map fun e => t * e % p) := nx_lc1 _ _ fun e _ => by rw [okMul ht, pu_bi, okMod hp]
theorem clr_ty {p : Int} {n spot : Nat} {m : Mat} {ld : Rw} (hp : Pr p) (h : Mt p n m) (hl : Vec p n ld) (hs : spot < n) : nx (lcM (fun _ => pu true) (fun (column : List Int) => bi (bi (ixM column (spot : Int)) fun i => pu (i != 0)) fun c => if c = true then bi (ixM column (spot : Int)) fun z => t_taken_off p column z ld else pu column) m []) = pu (m.map (clr p spot ld)) := by
  have hb := hp.pos
  refine nx_lc1 _ _ fun c hc => ?_
  have hv := h c hc
  rw [ix_at (by rw [hv.1]; exact hs), pu_bi, pu_bi, pu_bi]
  unfold clr
  by_cases hz : at0 c spot = 0
  · rw [if_neg (by rw [hz]; decide), if_neg (by rw [hz]; decide)]
  · rw [if_pos (by simpa using hz), if_pos hz, e_taken_off (by omega) (small hp (hv.at (by omega) spot)) (by rw [hv.1, hl.1])]
theorem e_reduced {p : Int} {n k : Nat} {cols : Mat} (hp : Pr p) (h : Mt p n cols) (hk : k ≤ n) (hn : n ≤ 1000) (hc : cols.length ≤ 10000000) : t_reduced p cols (k : Int) = pu (red p cols k) := by
  have hb := hp.pos
  unfold t_reduced
  rw [okRg (by omega), pu_bi]
  refine (bi_for_rg (fun i => redTo p cols i) rfl fun i hi => ?_).trans ?_
  rotate_left
  · rfl
  · have hm := mt_redTo (by omega) h i
    have hcount := red_count (p := p) (cols := cols) i
    have hin : i < n := by omega
    dsimp only
    rw [hits_ty _ i n p hm.1 hin, pu_bi, redTo_succ]
    unfold redStep
    cases e : hits i (redTo p cols i).1 with
    | nil => rfl
    | cons j l =>
      have hj := hits_lt (show j ∈ hits i (redTo p cols i).1 by rw [e]; exact List.mem_cons_self)
      have hr := hm.1 _ (row0_mem hj.1)
      have ha := hr.at (by omega) i
      have hbk := bkn_lt (p := p) (x := at0 (row0 (redTo p cols i).1 j) i) (by omega)
      rw [if_neg (by simp)]
      dsimp only
      rw [List.map_cons, ix_cons, pu_bi, ix_row hj.1, pu_bi, ix_at (by rw [hr.1]; exact hin), pu_bi, e_back_number hp (by have := hj.2; omega) ha.2, pu_bi, pu_bi, okPop (d := []) hj.1, pu_bi, scale_ty (by omega) (by omega), pu_bi]
      have hle : Mt p n ((redTo p cols i).1.eraseIdx j) := fun c hc => hm.1 c (List.mem_of_mem_eraseIdx hc)
      have hvl := vec_scale (t := bkn p (at0 (row0 (redTo p cols i).1 j) i)) (by omega) hr
      rw [row0_eq, clr_ty hp hle hvl hin, pu_bi, clr_ty hp hm.2 hvl hin, pu_bi, okApp (by rw [List.length_map]; omega), pu_bi]
end LH
set_option maxRecDepth 100000
set_option maxHeartbeats 400000
namespace LH
open PySem PySem.Spec PyProof.Rows L2 Pd Ty La
theorem lead_ty {c : Rw} (h : nz c ≠ []) : ixM (List.map (fun (q : Int × Int) => q.1) (List.filter (fun (q : Int × Int) => decide (q.2 ≠ 0)) (en c))) 0 = pu ((lead1 c : Nat) : Int) := by
  rw [en_range (0 : Int), List.filter_map, List.map_map]
  have e : (List.filter ((fun (q : Int × Int) => decide (q.2 ≠ 0)) ∘ fun (k : Nat) => ((k : Int), c.getD k 0)) (List.range c.length)) = nz c := rfl
  rw [e]
  unfold lead1
  cases hn : nz c with
  | nil => exact absurd hn h
  | cons a l => exact ix_cons
def inN (l : List Nat) : List Int := l.map fun (k : Nat) => (k : Int)
theorem mem_inN {l : List Nat} {k : Nat} : ((k : Nat) : Int) ∈ inN l ↔ k ∈ l := by
  unfold inN
  rw [List.mem_map]
  exact ⟨fun ⟨j, h, e⟩ => by rwa [show k = j by omega], fun h => ⟨k, h, rfl⟩⟩
theorem inN_len (l : List Nat) : (inN l).length = l.length := by unfold inN; simp
end LH
set_option maxRecDepth 100000
set_option maxHeartbeats 400000
namespace LH
open PySem PySem.Spec PyProof.Rows L2 Pd Ty La
theorem e_lead_places {B : Mat} (h : ∀ c ∈ B, nz c ≠ []) : t_lead_places B = pu (inN (leads B)) := by
  unfold t_lead_places inN leads
  rw [List.map_map]
  exact nx_lc1 _ _ fun c hc => lead_ty (h c hc)
end LH
set_option maxRecDepth 100000
set_option maxHeartbeats 400000
namespace LH
open PySem PySem.Spec PyProof.Rows L2 Pd Ty La
theorem e_law_back {p x : Int} (hp : Pr p) (h0 : 0 < x) (h1 : x < p) : t__law_back p x = pu (bkn p x) := by
  have hb := hp.pos
  unfold t__law_back
  rw [okRg2 (by omega) (by omega) (by omega) (by omega) (by omega), pu_bi, rg1_map,
    lc_map (fun (i : Nat) => decide ((1 + (i : Int)) * x % p = 1)) (fun (i : Nat) => 1 + (i : Int)) _ (fun i hi => by
      have hi := List.mem_range.mp hi
      rw [okMul (by omega), pu_bi, okMod (by omega), pu_bi]) (fun i _ _ => rfl), pu_bi]
  exact head_ne rfl (bkn_ne hp h0 h1)
theorem tk_zero {p : Int} {n : Nat} {c o : Rw} (hc : Vec p n c) : tk p c 0 o = c := by
  refine row_ext (by unfold tk; simp) fun k hk => ?_
  have hk : k < c.length := by unfold tk at hk; simpa using hk
  unfold tk
  rw [at0_map hk]
  have := hc.2 _ (at0_mem hk)
  rw [Int.zero_mul, Int.sub_zero]
  exact Int.emod_eq_of_lt this.1 this.2
theorem e_law_off {p : Int} {n spot : Nat} {c ld : Rw} (hp : Pr p) (hc : Vec p n c) (hl : Vec p n ld) (hs : spot < n) (hn : n ≤ 1000000) : t__law_off p c ld (spot : Int) = pu (clr p spot ld c) := by
  have hb := hp.pos
  unfold t__law_off
  rw [ix_at (by rw [hc.1]; exact hs), pu_bi, okRg (by rw [hc.1]; omega), pu_bi]
  have hs := small hp (hc.at (by omega) spot)
  rw [lc_rg1 (fun j => (at0 c j - at0 c spot * at0 ld j) % p) fun j hj => by
    rw [ix_at hj, pu_bi, ix_at (by rw [hl.1, ← hc.1]; exact hj), pu_bi, okMul hs, pu_bi, pu_bi, okMod (by omega)]]
  show pu (tk p c (at0 c spot) ld) = _
  unfold clr
  by_cases hz : at0 c spot = 0
  · rw [if_neg (by rw [hz]; simp), hz, tk_zero hc]
  · rw [if_pos hz]
theorem filter_ne_range {α : Type} (f : Nat → α) (n j : Nat) : ((List.range n).filter fun k => decide (((k : Nat) : Int) ≠ ((j : Nat) : Int))).map f = ((List.range n).map f).eraseIdx j := by
  have e : (List.range n).filter (fun k => decide (((k : Nat) : Int) ≠ ((j : Nat) : Int))) = (List.range n).eraseIdx j := by
    by_cases hj : j < n
    · have h1 : List.range n = List.range j ++ j :: (List.range (n - j - 1)).map fun k => j + 1 + k := by
        have := List.range_add (n := j) (m := n - j)
        rw [show j + (n - j) = n by omega] at this
        rw [this]
        congr 1
        obtain ⟨m, hm⟩ : ∃ m, n - j = m + 1 := ⟨n - j - 1, by omega⟩
        rw [hm, List.range_succ_eq_map, List.map_cons, List.map_map, Nat.add_sub_cancel]
        congr 1
        refine List.map_congr_left fun k _ => ?_
        show j + (k + 1) = _
        omega
      rw [h1, List.filter_append, List.eraseIdx_append_of_length_le (by simp), List.length_range, Nat.sub_self, List.eraseIdx_cons_zero, List.filter_cons, if_neg (by simp)]
      congr 1
      · exact List.filter_eq_self.mpr fun k hk => by
          have := List.mem_range.mp hk
          exact decide_eq_true (by omega)
      · refine List.filter_eq_self.mpr fun k hk => ?_
        obtain ⟨i, _, rfl⟩ := List.mem_map.mp hk
        exact decide_eq_true (by omega)
    · rw [List.eraseIdx_of_length_le (by simp; omega)]
      refine List.filter_eq_self.mpr fun k hk => ?_
      have := List.mem_range.mp hk
      exact decide_eq_true (by omega)
  rw [e, er_mp]
theorem e_law_reduced {p : Int} {n k : Nat} {cols : Mat} (hp : Pr p) (h : Mt p n cols) (hk : k ≤ n) (hn : n ≤ 1000) (hc : cols.length ≤ 10000000) : t__law_reduced p cols (k : Int) = pu (red p cols k) := by
  have hb := hp.pos
  unfold t__law_reduced
  rw [pu_bi, pu_bi, okRg (by omega), pu_bi, List.map_id']
  refine (bi_for_rg (fun i => redTo p cols i) rfl fun i hi => ?_).trans ?_
  rotate_left
  · rfl
  · have hm := mt_redTo (by omega) h i
    have hcount := red_count (p := p) (cols := cols) i
    have hin : i < n := by omega
    have hh : nx (lcM (fun (k_7 : Int) => (bi (bi (ixM (redTo p cols i).1 k_7) fun a_8 => (ixM a_8 (i : Int))) fun a_10 => (pu (decide (a_10 ≠ 0))))) (fun (k_7 : Int) => (pu k_7)) (rgN (redTo p cols i).1.length) []) = pu ((hits i (redTo p cols i).1).map fun (k : Nat) => (k : Int)) := by
      refine lc_rg (fun k => decide (at0 (row0 (redTo p cols i).1 k) i ≠ 0)) (fun (k : Nat) => (k : Int)) (fun k hk => ?_) fun _ _ _ => rfl
      rw [ix_row hk, pu_bi, ix_at (by rw [(hm.1 _ (row0_mem hk)).1]; exact hin), pu_bi]
    rw [okRg (by omega), pu_bi, hh, pu_bi, redTo_succ]
    unfold redStep
    cases e : hits i (redTo p cols i).1 with
    | nil => rfl
    | cons j l =>
      have hj := hits_lt (show j ∈ hits i (redTo p cols i).1 by rw [e]; exact List.mem_cons_self)
      have hr := hm.1 _ (row0_mem hj.1)
      have ha := hr.at (by omega) i
      have hbk := bkn_lt (p := p) (x := at0 (row0 (redTo p cols i).1 j) i) (by omega)
      have hvl := vec_scale (t := bkn p (at0 (row0 (redTo p cols i).1 j) i)) (by omega) hr
      rw [if_pos (by simp)]
      dsimp only
      rw [List.map_cons, ix_cons, pu_bi, ix_row hj.1, pu_bi, ix_at (by rw [hr.1]; exact hin), pu_bi, e_law_back hp (by have := hj.2; omega) ha.2, pu_bi, scale_ty (by omega) (by omega), pu_bi, pu_bi,
        lc_rg (fun k => decide (((k : Nat) : Int) ≠ ((j : Nat) : Int))) (fun k => clr p i ((row0 (redTo p cols i).1 j).map fun e => bkn p (at0 (row0 (redTo p cols i).1 j) i) * e % p) (row0 (redTo p cols i).1 k)) (fun k hk => by rw [pu_bi]) (fun k hk _ => by
          rw [ix_row hk, pu_bi, e_law_off hp (hm.1 _ (row0_mem hk)) hvl hin (by omega)]), pu_bi,
        nx_lc1 (clr p i ((row0 (redTo p cols i).1 j).map fun e => bkn p (at0 (row0 (redTo p cols i).1 j) i) * e % p)) _ (fun c hc => e_law_off hp (hm.2 c hc) hvl hin (by omega)), pu_bi, okCat (by simp; omega), pu_bi, filter_ne_range]
      have e2 : (List.range (redTo p cols i).1.length).map (fun k => clr p i ((row0 (redTo p cols i).1 j).map fun e => bkn p (at0 (row0 (redTo p cols i).1 j) i) * e % p) (row0 (redTo p cols i).1 k)) = (redTo p cols i).1.map (clr p i ((row0 (redTo p cols i).1 j).map fun e => bkn p (at0 (row0 (redTo p cols i).1 j) i) * e % p)) := by
        have := congrArg (List.map (clr p i ((row0 (redTo p cols i).1 j).map fun e => bkn p (at0 (row0 (redTo p cols i).1 j) i) * e % p))) (self_range ([] : Rw) (redTo p cols i).1)
        rw [List.map_map] at this
        exact this.symm
      rw [e2, er_mp]
end LH
set_option maxRecDepth 100000
set_option maxHeartbeats 400000
namespace LH
open PySem PySem.Spec PyProof.Rows L2 Pd Ty La
theorem e_law_leads {p : Int} {n : Nat} {B : Mat} (hB : Mt p n B) (hn : n ≤ 1000000) (h : ∀ c ∈ B, nz c ≠ []) : t__law_leads B = pu (inN (leads B)) := by
  unfold t__law_leads inN leads
  rw [List.map_map]
  refine nx_lc1 _ _ fun c hc => ?_
  rw [okRg (by rw [(hB c hc).1]; omega), pu_bi, lc_rg (fun k => decide (at0 c k ≠ 0)) (fun (k : Nat) => (k : Int)) (fun k hk => by rw [ix_at hk, pu_bi]) (fun _ _ _ => rfl), pu_bi]
  show ixM ((nz c).map _) 0 = pu ((lead1 c : Nat) : Int)
  unfold lead1
  cases hz : nz c with
  | nil => exact absurd hz (h c hc)
  | cons a l => exact ix_cons
end LH
set_option maxRecDepth 100000
set_option maxHeartbeats 400000
namespace LH
open PySem PySem.Spec PyProof.Rows L2 Pd Ty La
theorem st_nat {c : Rw} {k : Nat} {x : Int} (h : k < c.length) : stM c ((k : Nat) : Int) x = pu (c.set k x) := okSt h
theorem zip_inN {B : Mat} {ls : List Nat} : List.zip B (inN ls) = (List.zip B ls).map fun q => (q.1, ((q.2 : Nat) : Int)) := by
  unfold inN
  rw [List.zip_map_right]
  rfl
/-- the inner loop of kernels -/
theorem kcol_ty {p : Int} {n f : Nat} {B : Mat} {ls : List Nat} (hp : Pr p) (hB : Mt p n B) (hls : ∀ l ∈ ls, l < n) (hf : f < n) {c : Rw} (hc : c.length = n) {g : (List Int × Int) → List Int → M (List Int)}
    (hg : ∀ q s, q.1.length = n → s.length = n → ∀ l : Nat, l < n → q.2 = (l : Int) → g q s = pu (s.set l (-(at0 q.1 f) % p))) : forM g (List.zip B (inN ls)) c = pu ((B.zip ls).foldl (fun c q => c.set q.2 (-(at0 q.1 f) % p)) c) := by
  rw [zip_inN]
  have hb := hp.pos
  have : ∀ (l : List (Rw × Nat)) (c : Rw), (∀ q ∈ l, q.1 ∈ B ∧ q.2 ∈ ls) → c.length = n → forM g (l.map fun q => (q.1, ((q.2 : Nat) : Int))) c = pu (l.foldl (fun c q => c.set q.2 (-(at0 q.1 f) % p)) c) := by
    intro l
    induction l with
    | nil => intro c _ _; rfl
    | cons q l ih =>
      intro c hq hc
      have h1 := hq q List.mem_cons_self
      rw [List.map_cons]
      unfold Ty.forM
      rw [hg _ _ (hB _ h1.1).1 hc q.2 (hls _ h1.2) rfl, pu_bi, ih _ (fun r hr => hq r (List.mem_cons_of_mem _ hr)) (by rw [List.length_set]; exact hc)]
      rfl
  exact this _ c (fun q hq => List.of_mem_zip hq) hc
theorem free_ty {n : Nat} {ls : List Nat} {g : Int → Mat → M Mat} (F : Nat → Rw) (hn : n ≤ 10000)
    (hg : ∀ f s, f < n → s.length ≤ n → g (f : Int) s = if f ∈ ls then pu s else pu (s ++ [F f])) : forM g (rgN n) [] = pu ((free n ls).map F) := by
  refine for_rg (n := n) (fun i => ((List.range i).filter fun k => decide (k ∉ ls)).map F) fun i hi => ?_
  · rw [hg i _ hi (by
      rw [List.length_map]
      have := List.length_filter_le (fun k => decide (k ∉ ls)) (List.range i)
      rw [List.length_range] at this
      omega), List.range_succ, List.filter_append, List.map_append]
    by_cases h : i ∈ ls
    · rw [if_pos h, List.filter_cons, if_neg (by simpa using h)]
      simp
    · rw [if_neg h, List.filter_cons, if_pos (by simpa using h)]
      simp
theorem e_kernel {p : Int} {n : Nat} {T : Mat} (hp : Pr p) (h : Mt p n T) (hn : n ≤ 1000) (hc : T.length ≤ 10000000) : t_kernel p T (n : Int) = pu (ker p T n) := by
  have hb := hp.pos
  have hr := mt_red (k := n) (show 0 < p by omega) h
  have hlt := red_lt hp h
  unfold t_kernel
  rw [e_reduced hp h (Nat.le_refl _) hn hc, pu_bi, e_lead_places (red_nz hp h), pu_bi, pu_bi, okRg (by omega), pu_bi]
  rw [free_ty (n := n) (ls := leads (red p T n)) (kcol p (red p T n) (leads (red p T n)) n) (by omega) fun f s hf hs => ?_]
  · rw [pu_bi]
    exact e_reduced hp (ker_mt hb.1) (Nat.le_refl _) hn (by

      rw [List.length_map]
      have := List.length_filter_le (fun k => decide (k ∉ leads (red p T n))) (List.range n)
      rw [List.length_range] at this
      unfold free
      omega)
  · by_cases hm : f ∈ leads (red p T n)
    · rw [if_pos (decide_eq_true (mem_inN.mpr hm)), if_pos hm]
    · rw [if_neg (by rw [decide_eq_true_eq, mem_inN]; exact hm), if_neg hm, okRep1 (by omega), pu_bi, st_nat (by simp; exact hf), pu_bi,
        kcol_ty hp hr hlt hf (by simp) fun q s hq hs l hl e => by
          rw [ix_at (by rw [hq]; exact hf), pu_bi, pu_bi, okMod (by omega), pu_bi, pu_bi, e, st_nat (by rw [hs]; exact hl), pu_bi], pu_bi, okApp (by omega), pu_bi]
      rfl
end LH
set_option maxRecDepth 100000
set_option maxHeartbeats 400000
namespace LH
open PySem PySem.Spec PyProof.Rows L2 Pd Ty La
theorem e_solved {p : Int} {n m : Nat} {T : Mat} {c : Rw} (hp : Pr p) (h : Mt p n T) (hc : Vec p m c) (hm : m = T.length) (hn : n ≤ 900) (hT : T.length ≤ 10000000) : t_solved p T (n : Int) c = pu (solve p T n c) := by
  have hb := hp.pos
  have hp0 : 0 < p := by omega
  have ham := aug_mt hp0 h hc
  unfold t_solved
  rw [zip_range ([] : Rw) (0 : Int) T c (by rw [hc.1, hm]), lc_map1 (fun (k : Nat) => row0 T k ++ [at0 c k]) _ (fun k hk => by
    have hk := List.mem_range.mp hk
    refine okCat ?_
    have := (h _ (row0_mem hk)).1
    show (row0 T k).length + 1 ≤ _
    omega), pu_bi, show ((n : Int) + 1) = ((n + 1 : Nat) : Int) by omega]
  rw [show (List.map (fun k => row0 T k ++ [at0 c k]) (List.range T.length)) = aug T c from rfl]
  rw [e_reduced hp ham (Nat.le_refl _) (by omega) (by unfold aug; simp; omega), pu_bi, e_lead_places (red_nz hp ham), pu_bi]
  unfold solve
  obtain ⟨B, hB⟩ : ∃ B, B = red p (aug T c) (n + 1) := ⟨_, rfl⟩
  have hBm : Mt p (n + 1) B := hB ▸ mt_red hp0 ham
  have hBl : ∀ l ∈ leads B, l < n + 1 := hB ▸ red_lt hp ham
  rw [← hB]
  by_cases hl : n ∈ leads B
  · rw [if_pos (decide_eq_true (mem_inN.mpr hl)), if_pos hl]
  · rw [if_neg (by rw [decide_eq_true_eq, mem_inN]; exact hl), if_neg hl, okRep1 (by omega), pu_bi]
    have hls : ∀ l ∈ leads B, l < n := fun l h1 => by
      have := hBl l h1
      have : l ≠ n := fun e => hl (e ▸ h1)
      omega
    have hx : ∀ (l : List (Rw × Nat)) (c : Rw), (∀ q ∈ l, q.1 ∈ B ∧ q.2 ∈ leads B) → c.length = n → forM (fun (q_8 : List Int × Int) (s_6 : List Int) => bi (ixM q_8.1 (n : Int)) fun x_10 => bi (pu q_8.2) fun j_11 => bi (stM s_6 j_11 x_10) fun found_9 => pu found_9) (l.map fun q => (q.1, ((q.2 : Nat) : Int))) c = pu (l.foldl (fun c q => c.set q.2 (at0 q.1 n)) c) := by
      intro l
      induction l with
      | nil => intro c _ _; rfl
      | cons q l ih =>
        intro c hq hc
        have h1 := hq q List.mem_cons_self
        rw [List.map_cons]
        unfold Ty.forM
        rw [ix_at (by rw [(hBm _ h1.1).1]; omega), pu_bi, pu_bi, st_nat (by rw [hc]; exact hls _ h1.2), pu_bi, pu_bi, ih _ (fun r hr => hq r (List.mem_cons_of_mem _ hr)) (by rw [List.length_set]; exact hc)]
        rfl
    rw [zip_inN, hx _ _ (fun q hq => List.of_mem_zip hq) (by simp), pu_bi, e_kernel hp h (by omega) hT, pu_bi]
    show bi (forM _ (ker p T n) (x0 B (leads B) n)) _ = _
    have hkm : Mt p n (ker p T n) := mt_red hp0 (ker_mt hb.1)
    have hkn : ∀ c ∈ ker p T n, nz c ≠ [] := red_nz hp (ker_mt hb.1)
    have hkl : ∀ c ∈ ker p T n, lead1 c < n := fun c hc => (red_lead hp (ker_mt hb.1) hc).2.1
    have hvx : Vec p n (x0 B (leads B) n) := x0_vec (m := n + 1) _ _ hp0 (fun q hq => hBm _ (List.of_mem_zip hq).1) (vec_zero hp0)
    have hk : ∀ (K : Mat) (x : Rw), (∀ c ∈ K, c ∈ ker p T n) → Vec p n x → forM (fun (told_14 : (List Int)) (s_12 : (List Int)) =>
 (bi (bi (t_lead_places [told_14]) fun a_15 => (ixM a_15 0)) fun (spot_17 : Int) =>
 (bi (bi (ixM s_12 spot_17) fun a_18 => (pu (decide (a_18 ≠ 0)))) fun c => if c = true then
 (bi (bi (ixM s_12 spot_17) fun z_20 => t_taken_off p s_12 z_20 told_14) fun (found_22 : (List Int)) =>
 (pu found_22))
 else (pu s_12)))) K x = pu (clrK p K x) := by
      intro K
      induction K with
      | nil => intro x _ _; rfl
      | cons k K ih =>
        intro x hK hx
        have h1 := hK k List.mem_cons_self
        unfold Ty.forM
        rw [e_lead_places (B := [k]) (fun c hc => by rw [List.mem_singleton] at hc; rw [hc]; exact hkn k h1), pu_bi,
          show inN (leads [k]) = [((lead1 k : Nat) : Int)] from rfl, ix_cons, pu_bi, ix_at (by rw [hx.1]; exact hkl k h1), pu_bi, pu_bi]
        have e : clrK p (k :: K) x = clrK p K (clr p (lead1 k) k x) := rfl
        rw [e, ← ih _ (fun c hc => hK c (List.mem_cons_of_mem _ hc)) (vec_clr hp0 hx)]
        unfold clr
        by_cases hz : at0 x (lead1 k) = 0
        · rw [if_neg (by rw [hz]; decide), if_neg (by rw [hz]; decide), pu_bi]
        · rw [if_pos (decide_eq_true hz), if_pos hz, pu_bi, e_taken_off hp0 (small hp (hx.at hp0 _)) (by rw [hx.1, (hkm k h1).1]), pu_bi, pu_bi]
    rw [hk _ _ (fun c hc => hc) hvx, pu_bi]
end LH
set_option maxRecDepth 100000
set_option maxHeartbeats 400000
namespace LH
open PySem PySem.Spec PyProof.Rows L2 Pd Ty La
theorem inN_get {l : List Nat} {k : Nat} (h : k < l.length) : ixM (inN l) ((k : Nat) : Int) = pu ((l.getD k 0 : Nat) : Int) := by
  refine ix_get ?_
  unfold inN
  rw [List.getElem?_map, List.getElem?_eq_getElem h, List.getD_eq_getElem?_getD, List.getElem?_eq_getElem h]
  rfl
theorem e_law_kernel {p : Int} {n : Nat} {T : Mat} (hp : Pr p) (h : Mt p n T) (hn : n ≤ 1000) (hc : T.length ≤ 10000000) : t__law_kernel p T (n : Int) = pu (ker p T n) := by
  have hb := hp.pos
  have hr := mt_red (k := n) (show 0 < p by omega) h
  have hlt := red_lt hp h
  unfold t__law_kernel
  rw [e_law_reduced hp h (Nat.le_refl _) hn hc, pu_bi, e_law_leads hr (by omega) (red_nz hp h), pu_bi, pu_bi, okRg (by omega), pu_bi,
    lc_rg (fun k => !decide (k ∈ leads (red p T n))) (fun (k : Nat) => (k : Int)) (fun k hk => by
      have : decide (((k : Nat) : Int) ∈ inN (leads (red p T n))) = decide (k ∈ leads (red p T n)) := by
        rw [Bool.eq_iff_iff, decide_eq_true_eq, decide_eq_true_eq]
        exact mem_inN
      rw [this]) (fun _ _ _ => rfl), pu_bi]
  have ef : ((List.range n).filter fun k => !decide (k ∈ leads (red p T n))) = free n (leads (red p T n)) := by
    unfold free
    refine List.filter_congr fun k _ => ?_
    by_cases hk : k ∈ leads (red p T n) <;> simp [hk]
  rw [ef]
  obtain ⟨B, hB⟩ : ∃ B, B = red p T n := ⟨_, rfl⟩
  rw [← hB] at hr hlt ⊢
  have hBl : (leads B).length = B.length := by unfold leads; rw [List.length_map]
  have hlen : B.length ≤ n := hB ▸ red_len hp h
  refine (bi_for_get (fun i => ((free n (leads B)).take i).map (kcol p B (leads B) n)) rfl fun i x hx => ?_).trans ?_
  · rw [List.getElem?_map] at hx
    obtain ⟨f, hf, rfl⟩ := Option.map_eq_some_iff.mp hx
    have hfm := (mem_free.mp (List.mem_of_getElem? hf)).1
    have hi := (List.getElem?_eq_some_iff.mp hf).1
    have hfl : (free n (leads B)).length ≤ n := by
      have := List.length_filter_le (fun k => decide (k ∉ leads B)) (List.range n)
      rw [List.length_range] at this
      exact this
    rw [okRep1 (by omega), pu_bi, st_nat (by simp; exact hfm), pu_bi, inN_len, hBl, okRg (by omega), pu_bi]
    have hz : (B.zip (leads B)).length = B.length := by rw [List.length_zip, hBl, Nat.min_self]
    refine (bi_for_rg (fun j => ((B.zip (leads B)).take j).foldl (fun c q => c.set q.2 (-(at0 q.1 f) % p)) ((List.replicate n 0).set f 1)) rfl fun j hj => ?_).trans ?_
    · have hq : (B.zip (leads B))[j]? = some (row0 B j, (leads B).getD j 0) := by
        rw [List.getElem?_zip_eq_some]
        refine ⟨row0_get hj, ?_⟩
        rw [List.getD_eq_getElem?_getD, List.getElem?_eq_getElem (by omega)]
        rfl
      rw [okIx (d := []) hj, pu_bi, row0_eq, ix_at (by rw [(hr _ (row0_mem hj)).1]; exact hfm), pu_bi, pu_bi, okMod (by omega), pu_bi, inN_get (by omega), pu_bi]
      have hlj : (leads B).getD j 0 < n := hlt _ (by
        rw [List.getD_eq_getElem?_getD, List.getElem?_eq_getElem (by omega)]
        exact List.getElem_mem _)
      have hsl : ∀ (l : List (Rw × Nat)) (c : Rw), (l.foldl (fun c q => c.set q.2 (-(at0 q.1 f) % p)) c).length = c.length := by
        intro l
        induction l with
        | nil => intro c; rfl
        | cons q l ih => intro c; rw [List.foldl_cons, ih, List.length_set]
      rw [st_nat (by rw [hsl]; simp; exact hlj), pu_bi]
      rw [fold_take _ _ _ _ _ hq]
    · rw [← hz, List.take_length, okApp (by rw [List.length_map, List.length_take]; omega), pu_bi, List.take_add_one, hf, List.map_append]
      rfl
  · rw [List.length_map, List.take_length]
    show t__law_reduced p _ _ = _
    have hk : (free n (leads B)).map (kcol p B (leads B) n) = kerCols p B (leads B) n := rfl
    rw [hk, e_law_reduced hp (hB ▸ ker_mt hb.1) (Nat.le_refl _) hn (by
      rw [← hk, List.length_map]
      have := List.length_filter_le (fun k => decide (k ∉ leads B)) (List.range n)
      rw [List.length_range] at this
      unfold free
      omega), hB]
    rfl
end LH
set_option maxRecDepth 100000
set_option maxHeartbeats 400000
namespace LH
open PySem PySem.Spec PyProof.Rows L2 Pd Ty La
theorem e_law_led {p : Int} {n : Nat} {T : Mat} {x : Rw} (hp : Pr p) (h : Mt p n T) (hx : x.length = n) (hn : n ≤ 1000000) : t__law_led p T x = pu (led p T x) := by
  have hb := hp.pos
  unfold t__law_led led
  refine nx_lc1 _ _ fun r hr => ?_
  have hv := h r hr
  rw [okRg (by omega), pu_bi, lc_rg1 (fun j => at0 r j * at0 x j) (fun j hj => by
    rw [ix_at (by rw [hv.1]; omega), pu_bi, ix_at hj, pu_bi, okMul (small hp (hv.at (by omega) _))]), pu_bi, pu_bi, okMod (by omega)]
  rfl
end LH
set_option maxRecDepth 100000
set_option maxHeartbeats 400000
namespace LH
open PySem PySem.Spec PyProof.Rows L2 Pd Ty La
theorem e_law_behind {p : Int} {m n : Nat} {one other : Mat} (hp : Pr p) (h1 : Mt p n one) (h2 : Mt p m other) (hm : one.length = m) (hn : n ≤ 1000) (hm1 : m ≤ 1000) (ho : other.length ≤ 1000) : t__law_behind p one other (n : Int) = pu (beh p one other n) := by
  have hb := hp.pos
  unfold t__law_behind beh
  refine (bi_for_get (fun i => (other.take i).map fun r => (List.range n).map fun j => isum one.length (fun k => at0 r k * at0 (row0 one k) j) % p) rfl fun i r hr => ?_).trans ?_
  · have hv := h2 r (List.mem_of_getElem? hr)
    rw [okRg (by omega), pu_bi, lc_rg1 (fun j => isum one.length (fun k => at0 r k * at0 (row0 one k) j) % p) (fun j hj => by
      rw [okRg (by omega), pu_bi, lc_rg1 (fun k => at0 r k * at0 (row0 one k) j) (fun k hk => by
        rw [ix_at (by rw [hv.1]; omega), pu_bi, ix_row hk, pu_bi, ix_at (by rw [(h1 _ (row0_mem hk)).1]; exact hj), pu_bi, okMul (small hp (hv.at (by omega) _))]), pu_bi, pu_bi, okMod (by omega)]
      rfl), pu_bi]
    rw [okApp (by rw [List.length_map, List.length_take]; omega), pu_bi, List.take_add_one, hr, List.map_append]
    rfl
  · rw [List.take_length]
end LH
set_option maxRecDepth 100000
set_option maxHeartbeats 400000
namespace LH
open PySem PySem.Spec PyProof.Rows L2 Pd Ty La
theorem e_unit_row (n i : Nat) : ∀ (hn : n ≤ 1000000), nx (lcM (fun (j : Int) => pu true) (fun (j : Int) => pu (if (decide (((i : Nat) : Int) = j)) = true then (1 : Int) else 0)) (rgN n) []) = pu ((List.range n).map fun j => if i = j then (1 : Int) else 0) := fun hn => lc_rg1 _ fun j hj => by
  congr 1
  by_cases h : i = j
  · subst h; simp
  · rw [if_neg (by simp; omega), if_neg h]
theorem e_law_unit {n : Nat} (hn : n ≤ 1000000) : t__law_unit (n : Int) = pu (unit n) := by
  unfold t__law_unit unit
  rw [okRg (by omega), pu_bi, lc_rg1 (fun i => (List.range n).map fun j => if i = j then (1 : Int) else 0) fun i hi => ?_]
  rw [pu_bi, e_unit_row n i hn]
end LH
set_option maxRecDepth 100000
set_option maxHeartbeats 400000
namespace LH
open PySem PySem.Spec PyProof.Rows L2 Pd Ty La
theorem e_still_table {n : Nat} (hn : n ≤ 1000000) : t_still_table (n : Int) = pu (unit n) := by
  unfold t_still_table unit
  rw [okRg (by omega), pu_bi, lc_rg1 (fun i => (List.range n).map fun j => if i = j then (1 : Int) else 0) fun i hi => ?_]
  rw [pu_bi, e_unit_row n i hn]
end LH
set_option maxRecDepth 100000
set_option maxHeartbeats 400000
namespace LH
open PySem PySem.Spec PyProof.Rows L2 Pd Ty La
theorem cut_from {α : Type} {l : List α} {n : Nat} (h : n ≤ l.length) : cut l (some (n : Int)) none = l.drop n := by
  unfold cut HT.sIx
  dsimp only
  rw [List.take_of_length_le]
  · congr 1
    first
      | omega
      | (split <;> omega)
  · rw [List.length_drop]
    first
      | omega
      | (split <;> omega)
end LH
set_option maxRecDepth 100000
set_option maxHeartbeats 400000
namespace LH
open PySem PySem.Spec PyProof.Rows L2 Pd Ty La
theorem e_tbk_none {p : Int} {T : Mat} (h : T ≠ []) (hl : (row0 T 0).length ≠ T.length) : t_turned_back p T = pu none := by
  cases T with
  | nil => exact absurd rfl h
  | cons r T =>
    unfold t_turned_back
    rw [pu_bi, if_pos (by rfl), ix_cons, pu_bi, pu_bi, pu_bi, if_pos]
    have : (r.length : Int) ≠ ((r :: T).length : Nat) := fun e => hl (by
      show r.length = _
      omega)
    exact decide_eq_true this
theorem e_tbk {p : Int} {T : Mat} (hp : Pr p) (h : Mt p T.length T) (hn : T.length ≤ 400) : t_turned_back p T = pu (tbk p T) := by
  have hb := hp.pos
  have hm := augI_mt hb.1 h
  have h0 : (bi (if (!(T).isEmpty) = true then (bi (bi (ixM T 0) fun z_2 => pu ((List.length z_2 : Nat) : Int)) fun a_3 => (pu (decide (a_3 ≠ ((T.length : Nat) : Int))))) else (pu false)) fun c => pu c) = pu false := by
    cases T with
    | nil => rfl
    | cons r T =>
      rw [if_pos (by rfl), ix_cons, pu_bi, pu_bi, pu_bi]
      have := (h r List.mem_cons_self).1
      rw [this]
      simp
  rw [bi_pu] at h0
  unfold t_turned_back
  rw [pu_bi, h0, pu_bi, if_neg (by decide), e_still_table (by omega), pu_bi, pu_bi, zip_range ([] : Rw) ([] : Rw) T (unit T.length) (by rw [unit_len]),
    lc_map1 (fun (k : Nat) => row0 T k ++ row0 (unit T.length) k) _ (fun k hk => by
      have hk := List.mem_range.mp hk
      have h1 := (h _ (row0_mem hk)).1
      have h2 := (unit_vec (p := p) hb.1 hk).1
      refine okCat ?_
      show (row0 T k).length + (row0 (unit T.length) k).length ≤ _
      omega), pu_bi, okMul (by decide), pu_bi]
  rw [show (List.map (fun k => row0 T k ++ row0 (unit T.length) k) (List.range T.length)) = augI T from rfl, show ((2 : Int) * ((T.length : Nat) : Int)) = ((2 * T.length : Nat) : Int) by omega]
  have hl : (augI T).length = T.length := by unfold augI; simp
  rw [e_reduced hp hm (Nat.le_refl _) (by omega) (by omega), pu_bi, e_lead_places (red_nz hp hm), pu_bi, okRg (by omega), pu_bi, pu_bi]
  have ht : tbk p T = if leads (red p (augI T) (2 * T.length)) ≠ List.range T.length then none else some ((red p (augI T) (2 * T.length)).map fun c => c.drop T.length) := by
    unfold tbk
    rw [if_neg]
    rintro ⟨h1, h2⟩
    cases T with
    | nil => exact h1 rfl
    | cons r T => exact h2 (h r List.mem_cons_self).1
  rw [ht]
  have ei : (inN (leads (red p (augI T) (2 * T.length))) = rgN T.length) ↔ leads (red p (augI T) (2 * T.length)) = List.range T.length := by
    unfold inN rgN
    constructor
    · intro e
      have := congrArg (List.map Int.toNat) e
      rw [List.map_map, List.map_map] at this
      have id' : (Int.toNat ∘ fun (k : Nat) => (k : Int)) = id := by funext k; simp
      rwa [id', List.map_id, List.map_id] at this
    · intro e; rw [e]
  by_cases hc : leads (red p (augI T) (2 * T.length)) = List.range T.length
  · rw [if_neg (by rw [decide_eq_true_eq]; exact fun z => z (ei.mpr hc)), if_neg (fun z => z hc)]
    congr 2
    refine List.map_congr_left fun c hcm => ?_
    exact cut_from (by rw [(mt_red (k := 2 * T.length) (by omega) hm c hcm).1]; omega)
  · rw [if_pos (by rw [decide_eq_true_eq]; exact fun z => hc (ei.mp z)), if_pos hc]
end LH
set_option maxRecDepth 100000
set_option maxHeartbeats 400000
namespace LH
open PySem PySem.Spec PyProof.Rows L2 Pd Ty La
theorem En.mem {α : Type} {l : List α} {k : Int → M α} (hl : l.length < 1073741824) (h : l ≠ []) : En (bi (dr ((l.length : Nat) : Int)) fun b => ixM l b) (fun x => x ∈ l) := by
  have hp : 0 < l.length := List.length_pos_iff.mpr h
  refine En.bi (En.dr (by omega) (by omega)) fun x hx => ?_
  have e : x = ((x.toNat : Nat) : Int) := by omega
  have hlt : x.toNat < l.length := by omega
  rw [e]
  exact En.of (ix_get (List.getElem?_eq_getElem hlt)) (List.getElem_mem hlt)
theorem n_law_of {m : Unit} {l : List Int} (hl : l.length < 1073741824) (h : l ≠ []) : En (t__law_of m l) (fun x => x ∈ l) := by
  unfold t__law_of
  exact En.mem (k := fun _ => pu 0) hl h
end LH
set_option maxRecDepth 100000
set_option maxHeartbeats 400000
namespace LH
open PySem PySem.Spec PyProof.Rows L2 Pd Ty La
theorem n_law_of1 {m : Unit} {l : List (List Int)} (hl : l.length < 1073741824) (h : l ≠ []) : En (t__law_of'1 m l) (fun x => x ∈ l) := by
  unfold t__law_of'1
  exact En.mem (k := fun _ => pu []) hl h
end LH
set_option maxRecDepth 100000
set_option maxHeartbeats 400000
namespace LH
open PySem PySem.Spec PyProof.Rows L2 Pd Ty La
theorem n_law_prime {m : Unit} : En (t__law_prime m) Pr := by
  unfold t__law_prime
  refine (n_law_of (by decide) (by simp)).wk fun x hx => ?_
  unfold Pr
  simpa using hx
end LH
set_option maxRecDepth 100000
set_option maxHeartbeats 400000
namespace LH
open PySem PySem.Spec PyProof.Rows L2 Pd Ty La
theorem n_law_small_prime {m : Unit} : En (t__law_small_prime m) (fun p => p = 2 ∨ p = 3 ∨ p = 5 ∨ p = 7) := by
  unfold t__law_small_prime
  refine (n_law_of (by decide) (by simp)).wk fun x hx => ?_
  simp at hx
  omega
end LH
set_option maxRecDepth 100000
set_option maxHeartbeats 400000
namespace LH
open PySem PySem.Spec PyProof.Rows L2 Pd Ty La
theorem n_law_column {m : Unit} {p : Int} {n : Nat} (hp : Pr p) (hn : n ≤ 1000) : En (t__law_column m p (n : Int)) (Vec p n) := by
  have hb := hp.pos
  unfold t__law_column
  rw [okRg (by omega), pu_bi]
  refine (En.lc1 (B := fun _ x => 0 ≤ x ∧ x < p) _ fun x _ => ?_).wk fun l hl => ⟨by rw [← Paired.length hl, rgN_len], fun y hy => ?_⟩
  · refine En.bi (En.bi (En.dr (by decide) (by decide)) fun a _ => En.pu (P := fun _ => True) trivial) fun c _ => En.ite (fun _ => En.pu ⟨by omega, by omega⟩) fun _ => En.dr (by omega) (by omega)
  · obtain ⟨i, hi⟩ := List.getElem?_of_mem hy
    obtain ⟨x, _, h⟩ := Paired.getR hl hi
    exact h
end LH
set_option maxRecDepth 100000
set_option maxHeartbeats 400000
namespace LH
open PySem PySem.Spec PyProof.Rows L2 Pd Ty La
theorem n_law_table {m : Unit} {p : Int} {n k : Nat} (hp : Pr p) (hn : n ≤ 1000) (hk : k ≤ 1000) : En (t__law_table m p (k : Int) (n : Int)) (fun T => Mt p n T ∧ T.length = k) := by
  have hb := hp.pos
  unfold t__law_table
  rw [okRg (by omega), pu_bi]
  refine En.bi (En.for_rg (fun i T => Mt p n T ∧ T.length = i) ⟨fun c hc => absurd hc (by simp), rfl⟩ fun i T hi hT => ?_) fun T hT => En.pu hT
  obtain ⟨hT, hl⟩ := hT
  refine En.bi (n_law_column hp hn) fun c hc => En.bi (P := Vec p n) ?_ fun c hc => ?_
  · refine En.bi (P := fun c => c = true → T ≠ []) ?_ fun b hb => En.ite (fun e => ?_) fun _ => En.pu hc
    · refine En.ite (fun e => ?_) fun _ => En.pu fun z => by cases z
      exact En.bi (En.dr (by decide) (by decide)) fun a _ => En.pu fun _ => of_decide_eq_true e
    · refine En.bi (n_law_of1 (by omega) (hb e)) fun o ho => ?_
      refine En.bie (scale_ty (t := 2) (by omega) (by decide)) (En.pu ?_)
      exact vec_scale (by omega) (hT o ho)
  · refine En.bie (okApp (by omega)) (En.pu ⟨fun d hd => ?_, by rw [List.length_append, hl]; rfl⟩)
    rcases List.mem_append.mp hd with hd | hd
    · exact hT d hd
    · rw [List.mem_singleton] at hd; rw [hd]; exact hc
end LH
set_option maxRecDepth 100000
set_option maxHeartbeats 400000
namespace LH
open PySem PySem.Spec PyProof.Rows L2 Pd Ty La
def allV (p : Nat) : Nat → Mat
  | 0 => [[]]
  | n + 1 => (allV p n).flatMap fun c => (rgN p).map fun x => c ++ [x]
theorem mem_allV {p : Nat} : ∀ {n : Nat} {c : Rw}, c ∈ allV p n ↔ Vec (p : Int) n c
  | 0, c => by
    unfold allV
    rw [List.mem_singleton]
    exact ⟨fun e => by rw [e]; exact ⟨rfl, fun x hx => by cases hx⟩, fun h => List.length_eq_zero_iff.mp h.1⟩
  | n + 1, c => by
    unfold allV
    rw [List.mem_flatMap]
    constructor
    · rintro ⟨d, hd, hc⟩
      obtain ⟨x, hx, rfl⟩ := List.mem_map.mp hc
      obtain ⟨i, hi, rfl⟩ := rgN_mem.mp hx
      have hv := mem_allV.mp hd
      refine ⟨by rw [List.length_append, hv.1]; rfl, fun y hy => ?_⟩
      rcases List.mem_append.mp hy with hy | hy
      · exact hv.2 y hy
      · rw [List.mem_singleton] at hy; rw [hy]; omega
    · intro h
      have hne : c ≠ [] := fun e => by have := h.1; rw [e] at this; simp at this
      refine ⟨c.dropLast, mem_allV.mpr ⟨by rw [List.length_dropLast, h.1]; rfl, fun x hx => h.2 x (List.dropLast_subset c hx)⟩, List.mem_map.mpr ⟨c.getLast hne, ?_, List.dropLast_concat_getLast hne⟩⟩
      have := h.2 _ (List.getLast_mem hne)
      exact rgN_mem.mpr ⟨(c.getLast hne).toNat, by omega, by omega⟩
theorem len_allV (p : Nat) : ∀ n, (allV p n).length = p ^ n
  | 0 => rfl
  | n + 1 => by
    unfold allV
    rw [List.length_flatMap, Nat.pow_succ, ← len_allV p n]
    have : ∀ l : Mat, (l.map fun c => ((rgN p).map fun x => c ++ [x]).length).sum = l.length * p := by
      intro l
      induction l with
      | nil => simp
      | cons c l ih => rw [List.map_cons, List.sum_cons, ih, List.length_map, rgN_len, List.length_cons, Nat.succ_mul]; omega
    exact this _
end LH
set_option maxRecDepth 100000
set_option maxHeartbeats 400000
namespace LH
open PySem PySem.Spec PyProof.Rows L2 Pd Ty La
theorem e_law_every {p n : Nat} (hp : p ≤ 13) (hn : n ≤ 1000) (hb : ∀ k, k ≤ n → p ^ k ≤ 1000000) : t__law_every (p : Int) (n : Int) = pu (allV p n) := by
  unfold t__law_every
  rw [pu_bi, okRg (by omega), pu_bi]
  refine (bi_for_rg (fun i => allV p i) rfl fun i hi => ?_).trans rfl
  have h0 := hb i (by omega)
  have h1 := hb (i + 1) (by omega)
  refine (bi_for_get (fun k => ((allV p i).take k).flatMap fun c => (rgN p).map fun x => c ++ [x]) rfl fun k c hc => ?_).trans ?_
  · have hv := mem_allV.mp (List.mem_of_getElem? hc)
    have hk := (List.getElem?_eq_some_iff.mp hc).1
    have hl : ∀ l : Mat, (l.flatMap fun c => (rgN p).map fun x => c ++ [x]).length = l.length * p := by
      intro l
      induction l with
      | nil => simp
      | cons c l ih => rw [List.flatMap_cons, List.length_append, ih, List.length_map, rgN_len, List.length_cons, Nat.succ_mul]; omega
    rw [okRg (by omega), pu_bi, nx_lc1 (fun x => c ++ [x]) _ fun x _ => okCat (by rw [hv.1]; simp; omega), pu_bi, okCat (by
      rw [hl, List.length_take, List.length_map, rgN_len, len_allV]
      have : min k (p ^ i) * p ≤ p ^ i * p := Nat.mul_le_mul_right _ (by omega)
      have e : p ^ (i + 1) = p ^ i * p := Nat.pow_succ ..
      omega), pu_bi, List.take_add_one, hc, Option.toList_some, List.flatMap_append]
    simp
  · rw [List.take_length]
    rfl
end LH
set_option maxRecDepth 100000
set_option maxHeartbeats 400000
namespace LH
open PySem PySem.Spec PyProof.Rows L2 Pd Ty La
theorem n_law_shuffled {m : Unit} {n : Nat} (hn : n ≤ 1000) : En (t__law_shuffled m (n : Int)) (fun l => l.length = n ∧ (∀ x ∈ l, ∃ i : Nat, i < n ∧ x = (i : Int)) ∧ ∀ i : Nat, i < n → (i : Int) ∈ l) := by
  unfold t__law_shuffled
  rw [okRg (by omega), pu_bi, pu_bi, pu_bi]
  refine En.bi (En.for_rg (fun i s => s.1.Nodup ∧ s.1.length = n - i ∧ s.2.length = i ∧ (∀ x ∈ s.1 ++ s.2, ∃ j : Nat, j < n ∧ x = (j : Int)) ∧ ∀ j : Nat, j < n → (j : Int) ∈ s.1 ++ s.2) ?_ fun i s hi hs => ?_) fun s hs => En.pu ?_
  · refine ⟨?_, by rw [rgN_len]; omega, rfl, fun x hx => ?_, fun j hj => ?_⟩
    · unfold rgN
      refine List.Pairwise.map _ (R := (· ≠ ·)) (fun a b h e => h (by omega)) List.nodup_range
    · rw [List.append_nil] at hx; exact rgN_mem.mp hx
    · rw [List.append_nil]; exact rgN_mem.mpr ⟨j, hj, rfl⟩
  · obtain ⟨h1, h2, h3, h4, h5⟩ := hs
    refine En.bi (n_law_of (by omega) (fun e => by rw [e] at h2; simp at h2; omega)) fun x hx => ?_
    rw [pu_bi]
    refine En.bie (okApp (by omega)) (En.pu ?_)
    have em : ∀ y, y ∈ List.map (fun (z : Int) => z) (List.filter (fun z => decide (z ≠ x)) s.1) ↔ y ∈ s.1 ∧ y ≠ x := fun y => by simp
    refine ⟨?_, ?_, by rw [List.length_append, h3]; rfl, fun y hy => ?_, fun j hj => ?_⟩
    · rw [List.map_id']; exact List.Pairwise.filter _ h1
    · rw [List.map_id']
      have hcnt : ∀ l : List Int, l.Nodup → x ∈ l → (l.filter fun z => decide (z ≠ x)).length + 1 = l.length := by
        intro l
        induction l with
        | nil => intro _ h; cases h
        | cons a l ih =>
          intro hn hm
          rw [List.nodup_cons] at hn
          rcases List.mem_cons.mp hm with e | hm
          · subst e
            have hf : (l.filter fun z => decide (z ≠ x)) = l := List.filter_eq_self.mpr fun b hb => decide_eq_true (fun (z : b = x) => hn.1 (by rw [← z]; exact hb))
            rw [List.filter_cons, if_neg (by simp), hf, List.length_cons]
          · have : a ≠ x := fun e => hn.1 (by rw [e]; exact hm)
            rw [List.filter_cons, if_pos (decide_eq_true this), List.length_cons, List.length_cons, ih hn.2 hm]
      have := hcnt s.1 h1 hx
      show (List.filter (fun z => decide (z ≠ x)) s.1).length = n - (i + 1)
      omega
    · rcases List.mem_append.mp hy with hy | hy
      · exact h4 y (List.mem_append_left _ ((em y).mp hy).1)
      · rcases List.mem_append.mp hy with hy | hy
        · exact h4 y (List.mem_append_right _ hy)
        · rw [List.mem_singleton] at hy; rw [hy]; exact h4 x (List.mem_append_left _ hx)
    · by_cases e : (j : Int) = x
      · exact List.mem_append_right _ (List.mem_append_right _ (by rw [e]; exact List.mem_singleton.mpr rfl))
      · rcases List.mem_append.mp (h5 j hj) with h | h
        · exact List.mem_append_left _ ((em _).mpr ⟨h, e⟩)
        · exact List.mem_append_right _ (List.mem_append_left _ h)
  · obtain ⟨h1, h2, h3, h4, h5⟩ := hs
    have e : s.1 = [] := List.length_eq_zero_iff.mp (by omega)
    rw [e, List.nil_append] at h4 h5
    exact ⟨h3, h4, h5⟩
end LH
set_option maxRecDepth 100000
set_option maxHeartbeats 400000
namespace LH
open PySem PySem.Spec PyProof.Rows L2 Pd Ty La
section
variable {R : Type} [Lean.Grind.CommRing R]
theorem full_unit {p : Int} {n : Nat} : Full R n (unit n) := fun i hi => (Sp.mem (mem_fm (row0_mem (show i < (unit n).length by rw [unit_len]; exact hi)))).of_eq fun k => (fv_unit hi k).symm
theorem row0_set {T : Mat} {i k : Nat} {c : Rw} (hi : i < T.length) : row0 (T.set i c) k = if k = i then c else row0 T k := by
  unfold row0
  rw [List.getD_eq_getElem?_getD, List.getD_eq_getElem?_getD]
  by_cases h : k = i
  · subst h
    rw [List.getElem?_set_self hi, if_pos rfl]
    rfl
  · rw [List.getElem?_set_ne (Ne.symm h), if_neg h]
theorem full_set {n i : Nat} {T : Mat} {c : Rw} (h : Full R n T) (hi : i < T.length) (hc : Sp (fm (T.set i c)) (fv (row0 T i) : Nat → R)) : Full R n (T.set i c) := fun j hj => (h j hj).trans fun b hb => by
  obtain ⟨d, hd, rfl⟩ := fm_mem hb
  obtain ⟨k, hk⟩ := List.getElem?_of_mem hd
  have hkl := (List.getElem?_eq_some_iff.mp hk).1
  rw [row0_get hkl] at hk
  rw [← Option.some.inj hk]
  by_cases e : k = i
  · rw [e]; exact hc
  · have : row0 T k = row0 (T.set i c) k := by rw [row0_set hi, if_neg e]
    rw [this]
    exact .mem (mem_fm (row0_mem (by rw [List.length_set]; exact hkl)))
end
theorem mt_set {p : Int} {n i : Nat} {T : Mat} {c : Rw} (h : Mt p n T) (hc : Vec p n c) : Mt p n (T.set i c) := fun d hd => by
  rcases List.mem_or_eq_of_mem_set hd with hd | hd
  · exact h d hd
  · rw [hd]; exact hc
theorem n_law_steps {R : Type} [Lean.Grind.CommRing R] {m : Unit} {p : Int} {n : Nat} (ch : Ch p R) (hp : Pr p) (hn : n ≤ 1000) : En (t__law_steps m p (n : Int)) (fun T => Mt p n T ∧ T.length = n ∧ Full R n T) := by
  have hb := hp.pos
  unfold t__law_steps
  rw [e_law_unit (by omega), pu_bi, nx_lc1 (fun l => l) _ (fun _ _ => rfl), List.map_id', pu_bi, okMul (by decide), pu_bi, show ((3 : Int) * (n : Int)) = ((3 * n : Nat) : Int) by omega, okRg (by omega), pu_bi]
  refine En.bi (En.for_rg (fun i T => Mt p n T ∧ T.length = n ∧ Full R n T) ⟨?_, unit_len, full_unit (p := p)⟩ fun i T hi hT => ?_) fun T hT => ?_
  · intro c hc
    obtain ⟨k, hk⟩ := List.getElem?_of_mem hc
    have hkl := (List.getElem?_eq_some_iff.mp hk).1
    rw [row0_get hkl] at hk
    rw [← Option.some.inj hk]
    exact unit_vec hb.1 (by rw [unit_len] at hkl; exact hkl)
  · obtain ⟨hT, hl, hF⟩ := hT
    have h0 : 0 < n := by omega
    refine En.bi (P := fun q => (∃ i : Nat, i < n ∧ q.1 = (i : Int)) ∧ (∃ j : Nat, j < n ∧ q.2.1 = (j : Int)) ∧ 0 ≤ q.2.2 ∧ q.2.2 < p) ?_ fun q hq => ?_
    · refine En.bi (P := fun q => (∃ i : Nat, i < n ∧ q.1 = (i : Int)) ∧ (∃ j : Nat, j < n ∧ q.2.1 = (j : Int)) ∧ 0 ≤ q.2.2 ∧ q.2.2 < p) ?_ fun q hq => En.pu hq
      refine En.bi (En.dr (by omega) (by omega)) fun x hx => En.bi (P := fun q => (∃ j : Nat, j < n ∧ q.1 = (j : Int)) ∧ 0 ≤ q.2 ∧ q.2 < p) ?_ fun q hq => En.pu ⟨⟨x.toNat, by omega, by show x = _; omega⟩, hq⟩
      refine En.bi (En.dr (by omega) (by omega)) fun x hx => En.bi (En.dr (by omega) (by omega)) fun y hy => En.pu ⟨⟨x.toNat, by omega, by show x = _; omega⟩, hy.1, hy.2⟩
    · obtain ⟨q1, q2, k⟩ := q
      obtain ⟨⟨a, ha, ea⟩, ⟨b, hbn, eb⟩, hk0, hk1⟩ := hq
      dsimp only at ea eb hk0 hk1 ⊢
      subst ea eb
      have hva := hT _ (row0_mem (k := a) (by omega))
      have hvb := hT _ (row0_mem (k := b) (by omega))
      refine En.ite (fun e => ?_) fun e => En.ite (fun e2 => ?_) fun _ => En.pu ⟨hT, hl, hF⟩
      · have hab : a ≠ b := fun z => of_decide_eq_true e (by rw [z])
        refine En.bie (ix_row (by omega)) (En.bie (ix_row (by omega)) ?_)
        rw [okRg (by omega), pu_bi]
        refine En.bie (lc_rg1 (fun j => (at0 (row0 T a) j + k * at0 (row0 T b) j) % p) fun j hj => by
          rw [ix_at (by rw [hva.1]; exact hj), pu_bi, ix_at (by rw [hvb.1]; exact hj), pu_bi, okMul (small hp ⟨hk0, hk1⟩), pu_bi, pu_bi, okMod (by omega)]) ?_
        rw [pu_bi]
        refine En.bie (okSt (by omega)) (En.pu ⟨mt_set hT (vec_gen fun j _ => ⟨Int.emod_nonneg _ (by omega), Int.emod_lt_of_pos _ (by omega)⟩), by rw [List.length_set]; exact hl, full_set hF (by omega) ?_⟩)
        -- line a is the new one less k times line b
        have s1 : Sp (fm (T.set a ((List.range n).map fun j => (at0 (row0 T a) j + k * at0 (row0 T b) j) % p))) (fv (row0 (T.set a ((List.range n).map fun j => (at0 (row0 T a) j + k * at0 (row0 T b) j) % p)) a) : Nat → R) := .mem (mem_fm (row0_mem (by rw [List.length_set]; omega)))
        have s2 : Sp (fm (T.set a ((List.range n).map fun j => (at0 (row0 T a) j + k * at0 (row0 T b) j) % p))) (fv (row0 (T.set a ((List.range n).map fun j => (at0 (row0 T a) j + k * at0 (row0 T b) j) % p)) b) : Nat → R) := .mem (mem_fm (row0_mem (by rw [List.length_set]; omega)))
        rw [row0_set (by omega), if_pos rfl] at s1
        rw [row0_set (by omega), if_neg (Ne.symm hab)] at s2
        refine (s1.sub s2 (ic k)).of_eq fun j => ?_
        by_cases hj : j < n
        · have : (fv ((List.range n).map fun j => (at0 (row0 T a) j + k * at0 (row0 T b) j) % p) j : R) = fv (row0 T a) j + ic k * fv (row0 T b) j := by
            unfold fv
            rw [at0_map hj, ch.mod, cast_add, cast_mul]
          rw [this]
          grind
        · rw [fv_out hva (by omega), fv_out hvb (by omega)]
          have : (fv ((List.range n).map fun j => (at0 (row0 T a) j + k * at0 (row0 T b) j) % p) j : R) = 0 := by
            unfold fv
            rw [at0_out (by simp; omega), cast_zero]
          rw [this]
          grind
      · have hk : 0 < k := of_decide_eq_true e2
        rw [ix_row (by omega), pu_bi, scale_ty (by omega) (small hp ⟨hk0, hk1⟩), pu_bi, pu_bi]
        refine En.bie (okSt (by omega)) (En.pu ⟨mt_set hT (vec_scale (by omega) hva), by rw [List.length_set]; exact hl, full_set hF (by omega) ?_⟩)
        have s1 : Sp (fm (T.set a ((row0 T a).map fun e => k * e % p))) (fv (row0 (T.set a ((row0 T a).map fun e => k * e % p)) a) : Nat → R) := .mem (mem_fm (row0_mem (by rw [List.length_set]; omega)))
        rw [row0_set (by omega), if_pos rfl] at s1
        refine (s1.smul (ic (bkn p k))).of_eq fun j => ?_
        rw [fv_scale ch]
        have e1 := bkn_inv hp hk hk1
        have e2 := ch.mod (bkn p k * k)
        rw [e1, cast_mul, cast_one] at e2
        grind
  · obtain ⟨hT, hl, hF⟩ := hT
    refine En.bi (n_law_shuffled hn) fun o ho => ?_
    obtain ⟨o1, o2, o3⟩ := ho
    refine En.of (nx_lc1 (fun (x : Int) => row0 T x.toNat) _ fun x hx => ?_) ⟨fun c hc => ?_, by rw [List.length_map]; exact o1, fun i hi => ?_⟩
    · obtain ⟨i, hi, rfl⟩ := o2 x hx
      rw [ix_row (by omega), Int.toNat_natCast]
    · obtain ⟨x, hx, rfl⟩ := List.mem_map.mp hc
      obtain ⟨i, hi, rfl⟩ := o2 x hx
      exact hT _ (row0_mem (by omega))
    · refine (hF i hi).mono fun b hb => ?_
      obtain ⟨d, hd, rfl⟩ := fm_mem hb
      obtain ⟨k, hk⟩ := List.getElem?_of_mem hd
      have hkl := (List.getElem?_eq_some_iff.mp hk).1
      rw [row0_get hkl] at hk
      rw [← Option.some.inj hk]
      exact mem_fm (List.mem_map.mpr ⟨(k : Int), o3 k (by omega), by rw [Int.toNat_natCast]⟩)
end LH
set_option maxRecDepth 100000
set_option maxHeartbeats 400000
namespace LH
open PySem PySem.Spec PyProof.Rows L2 Pd Ty
theorem mem_cut {α : Type} {l : List α} {lo hi : Option Int} {x : α} (h : x ∈ cut l lo hi) : x ∈ l := List.mem_of_mem_drop (List.mem_of_mem_take h)
theorem len_cut {α : Type} {l : List α} {lo hi : Option Int} : (cut l lo hi).length ≤ l.length := by
  unfold cut
  rw [List.length_take, List.length_drop]
  omega
structure Scr (l : List Int) : Prop where
  len : l.length ≤ 63
  bit : ∀ x ∈ l, x.natAbs.log2 ≤ 1048576
theorem pow10 : powM 10 18 = pu (10 ^ 18) := rq_true (by decide) _
theorem n_law_begun {l : List Int} {k : Int} (h : Scr l) (h0 : 0 ≤ k) (h1 : k ≤ 100) : En (t__law_begun l k) (fun _ => True) := by
  unfold t__law_begun
  have hc := len_cut (l := l) (lo := some k) (hi := none)
  have hd := len_cut (l := l) (lo := none) (hi := some k)
  have hl := h.len
  refine En.bie (okCat (by omega)) ?_
  obtain ⟨cs, hcs⟩ : ∃ cs, cs = cut l (some k) none ++ cut l none (some k) := ⟨_, rfl⟩
  have hcm : ∀ x ∈ cs, x.natAbs.log2 ≤ 1048576 := fun x hx => by
    rw [hcs] at hx
    rcases List.mem_append.mp hx with hx | hx
    · exact h.bit x (mem_cut hx)
    · exact h.bit x (mem_cut hx)
  have hcl : cs.length ≤ 126 := by rw [hcs, List.length_append]; omega
  rw [← hcs]
  refine En.bie (nx_lc (fun x => gGe x (10 ^ 18)) (fun x => x) cs (fun x _ => by rw [pow10, pu_bi]) (fun x _ _ => rfl)) ?_
  rw [pu_bi]
  refine En.bi (En.for_get cs (fun _ s => 0 ≤ s ∧ s < 2147483647) (71 + k) (by omega) fun i x s _ hs => ?_) fun s hs => ?_
  · rw [okMul2 (by decide), pu_bi, pu_bi, okMod (by decide), pu_bi]
    exact En.pu ⟨Int.emod_nonneg _ (by decide), Int.emod_lt_of_pos _ (by decide)⟩
  · refine En.bi (P := fun _ => True) ?_ fun i _ => ?_
    · refine En.ite (fun e => ?_) fun _ => En.pu trivial
      cases hg : List.map (fun (x : Int) => x) (List.filter (fun x => gGe x (10 ^ 18)) cs) with
      | nil => rw [hg] at e; exact absurd e (by decide)
      | cons a t => exact En.of ix_cons trivial
    · rw [pu_bi, okMul (by decide), pu_bi, pu_bi, pu_bi, okCat (by simp; omega), pu_bi]
      refine En.of (rq_true ⟨hs.1, hs.2, by simp, fun x hx => ?_⟩ ()) trivial
      rcases List.mem_append.mp hx with hx | hx
      · exact Nat.lt_of_le_of_lt (hcm x hx) (by decide)
      · rw [List.mem_singleton] at hx
        rw [hx]
        have : (53 * k + 11).natAbs < 2 ^ 20 := by omega
        by_cases hz : (53 * k + 11).natAbs = 0
        · rw [hz]; decide
        · exact Nat.lt_trans ((Nat.log2_lt hz).mpr this) (by decide)
end LH
set_option maxRecDepth 100000
set_option maxHeartbeats 400000
namespace LH
open PySem PySem.Spec PyProof.Rows L2 Pd Ty La
theorem lk_put {κ α : Type} [DecidableEq κ] (d : List (κ × α)) (k : κ) (a : α) (c : κ) : lk (putA d k a) c = if k = c then some a else lk d c := by
  have h1 : ∀ d : List (κ × α), (d.any fun p => decide (p.1 = k)) = true → lk (d.map fun p => if p.1 = k then (p.1, a) else p) c = if k = c then some a else lk d c := by
    intro d
    induction d with
    | nil => intro h; cases h
    | cons p d ih =>
      intro h
      obtain ⟨x, b⟩ := p
      rw [List.map_cons]
      by_cases hx : x = k
      · subst hx
        dsimp only
        rw [if_pos rfl]
        unfold lk
        by_cases hc : x = c
        · rw [if_pos hc, if_pos hc]
        · rw [if_neg hc, if_neg hc, if_neg hc]
          -- the others
          clear ih h
          induction d with
          | nil => rfl
          | cons q d ih2 =>
            obtain ⟨y, b⟩ := q
            rw [List.map_cons]
            dsimp only
            by_cases hy : y = x
            · subst hy
              rw [if_pos rfl]
              unfold lk
              rw [if_neg hc, if_neg hc]
              exact ih2
            · rw [if_neg hy]
              unfold lk
              by_cases hyc : y = c
              · rw [if_pos hyc, if_pos hyc]
              · rw [if_neg hyc, if_neg hyc]; exact ih2
      · dsimp only
        rw [if_neg hx]
        rw [List.any_cons] at h
        have h : (d.any fun p => decide (p.1 = k)) = true := by simpa [hx] using h
        unfold lk
        by_cases hc : x = c
        · rw [if_pos hc, if_pos hc, if_neg (by rw [← hc]; exact Ne.symm hx)]
        · rw [if_neg hc, if_neg hc]; exact ih h
  have h2 : ∀ d : List (κ × α), (d.any fun p => decide (p.1 = k)) ≠ true → lk (d ++ [(k, a)]) c = if k = c then some a else lk d c := by
    intro d
    induction d with
    | nil => intro _; rfl
    | cons p d ih =>
      intro h
      obtain ⟨x, b⟩ := p
      have hx : x ≠ k := fun e => h (by rw [List.any_cons, e]; simp)
      have h : (d.any fun p => decide (p.1 = k)) ≠ true := fun e => h (by rw [List.any_cons, e, Bool.or_true])
      rw [List.cons_append]
      unfold lk
      by_cases hc : x = c
      · rw [if_pos hc, if_pos hc, if_neg (by rw [← hc]; exact Ne.symm hx)]
      · rw [if_neg hc, if_neg hc]; exact ih h
  unfold putA
  by_cases h : (d.any fun p => decide (p.1 = k)) = true
  · rw [if_pos h]; exact h1 d h
  · rw [if_neg h]; exact h2 d h
theorem put_len {κ α : Type} [DecidableEq κ] (d : List (κ × α)) (k : κ) (a : α) : (putA d k a).length ≤ d.length + 1 := by
  unfold putA
  split
  · rw [List.length_map]; omega
  · rw [List.length_append]; exact Nat.le_refl _
theorem like_O {o : Option (List Int)} (h : ∀ x, o = some x → (∀ i ∈ x, i.natAbs < 10 ^ 12) ∧ x.length ≤ 1000) : likeM ((tO (tT tI)) o) ((tO (tT tI)) o) = pu true :=
  like_eq (n := 2) (k := 1000) (sw_O (by omega) fun x e => sw_T (n := 1) (k := 0) (fun i hi => sw_I ((h x e).1 i hi)) (by have := (h x e).2; omega)) (by decide) (by decide)
theorem Vec.sm {p : Int} {n : Nat} {c : Rw} (hp : Pr p) (h : Vec p n c) : ∀ i ∈ c, i.natAbs < 10 ^ 12 := fun i hi => by
  have := h.2 i hi
  have := hp.pos
  omega
theorem n_all_right {m : Unit} : En (t__law_all_right m) (fun b => b = true) := by
  unfold t__law_all_right
  refine En.bi n_law_small_prime fun p hp0 => ?_
  have hp : Pr p := by unfold Pr; omega
  have hb := hp.pos
  obtain ⟨q, rfl⟩ : ∃ q : Nat, p = (q : Int) := ⟨p.toNat, by omega⟩
  obtain ⟨c, hc⟩ : ∃ c : Nat, (if (gLt (q : Int) 5) = true then (5 : Int) else 4) = (c : Int) ∧ c ≤ 5 ∧ ∀ k, k < c → q ^ k ≤ 1000 := by
    by_cases h5 : (q : Int) < 5
    · refine ⟨5, if_pos (decide_eq_true h5), by omega, fun k hk => ?_⟩
      have hq : q = 2 ∨ q = 3 := by omega
      have hk : k = 0 ∨ k = 1 ∨ k = 2 ∨ k = 3 ∨ k = 4 := by omega
      rcases hq with rfl | rfl <;> rcases hk with rfl | rfl | rfl | rfl | rfl <;> decide
    · refine ⟨4, if_neg (by unfold gLt; simpa using h5), by omega, fun k hk => ?_⟩
      have hq : q = 5 ∨ q = 7 := by omega
      have hk : k = 0 ∨ k = 1 ∨ k = 2 ∨ k = 3 := by omega
      rcases hq with rfl | rfl <;> rcases hk with rfl | rfl | rfl | rfl <;> decide
  obtain ⟨hc, hc5, hpow⟩ := hc
  rw [hc]
  refine En.bi (En.dr (b := (c : Int)) (by by_cases h : (gLt (q : Int) 5) = true <;> simp [h] at hc <;> omega) (by omega)) fun n hn => En.bi (En.dr (b := (c : Int)) (by omega) (by omega)) fun k hk => ?_
  obtain ⟨n, rfl⟩ : ∃ i : Nat, n = (i : Int) := ⟨n.toNat, by omega⟩
  obtain ⟨k, rfl⟩ : ∃ i : Nat, k = (i : Int) := ⟨k.toNat, by omega⟩
  have hn : n < c := by omega
  have hk : k < c := by omega
  refine En.bi (n_law_table hp (by omega) (by omega)) fun T hT => ?_
  obtain ⟨hT, hTl⟩ := hT
  obtain ⟨R, _, ch⟩ := exR hp
  have K := ker_ok ch hp hT
  have hkm : Mt (q : Int) n (ker (q : Int) T n) := mt_red (by omega) (ker_mt hb.1)
  have hkn : ∀ c ∈ ker (q : Int) T n, nz c ≠ [] := red_nz hp (ker_mt hb.1)
  have hkl : ∀ l ∈ leads (ker (q : Int) T n), l < n := red_lt hp (ker_mt hb.1)
  rw [e_law_kernel hp hT (by omega) (by omega), pu_bi, e_law_leads hkm (by omega) hkn, pu_bi, e_law_every (by omega) (by omega) (fun j hj => Nat.le_trans (hpow j (by omega)) (by decide)), pu_bi]
  obtain ⟨zr, hzr⟩ : ∃ zr : Rw → Prop, zr = fun x => ∀ l ∈ leads (ker (q : Int) T n), at0 x l = 0 := ⟨_, rfl⟩
  refine En.bi (En.for_get (allV q n) (fun i d => d.length ≤ i ∧ (∀ c x, lk d c = some x → Vec (q : Int) n x ∧ led (q : Int) T x = c ∧ zr x) ∧ ∀ j x, j < i → (allV q n)[j]? = some x → zr x → (lk d (led (q : Int) T x)).isSome = true) [] ⟨Nat.le_refl _, ⟨fun c x e => (by cases e), fun j x hj => absurd hj (Nat.not_lt_zero _)⟩⟩ fun i x d hx hI => ?_) fun d hd => ?_
  · obtain ⟨i1, i2, i3⟩ := hI
    have hv : Vec (q : Int) n x := mem_allV.mp (List.mem_of_getElem? hx)
    have hil := (List.getElem?_eq_some_iff.mp hx).1
    rw [len_allV] at hil
    have h1000 := hpow n hn
    have et : (bi (nx (lcM (fun (spot_10 : Int) => (bi (ixM x spot_10) fun a_11 => (pu (decide (a_11 ≠ 0))))) (fun (spot_10 : Int) => (pu (1 : Int))) (inN (leads (ker (q : Int) T n))) [])) fun a_13 => (pu (decide (a_13 = ([] : (List Int)))))) = pu (decide (∀ l ∈ leads (ker (q : Int) T n), at0 x l = 0)) := by
      unfold inN
      rw [lc_map (g := fun (k : Nat) => (k : Int)) (mt := fun (spot_10 : Int) => (bi (ixM x spot_10) fun a_11 => (pu (decide (a_11 ≠ 0))))) (me := fun (spot_10 : Int) => (pu (1 : Int))) (fun l => decide (at0 x l ≠ 0)) (fun _ => (1 : Int)) (leads (ker (q : Int) T n)) (fun l hl => by rw [ix_at (by rw [hv.1]; exact hkl l hl), pu_bi]) (fun _ _ _ => rfl), pu_bi]
      congr 1
      rw [decide_eq_decide, List.map_eq_nil_iff, List.filter_eq_nil_iff]
      simp
    rw [et, pu_bi]
    refine En.ite (fun e => ?_) fun e => En.pu ⟨by omega, i2, fun j y hj hy hz => ?_⟩
    · have hz : zr x := by rw [hzr]; exact of_decide_eq_true e
      rw [pu_bi, e_law_led hp hT hv.1 (by omega), pu_bi, okPut (by omega), pu_bi]
      refine En.pu ⟨Nat.le_trans (put_len _ _ _) (by omega), fun c y hy => ?_, fun j y hj hy hzy => ?_⟩
      · rw [lk_put] at hy
        by_cases hc : led (q : Int) T x = c
        · rw [if_pos hc] at hy
          have := Option.some.inj hy
          subst this
          exact ⟨hv, hc, hz⟩
        · rw [if_neg hc] at hy
          exact i2 c y hy
      · rw [lk_put]
        by_cases hc : led (q : Int) T x = led (q : Int) T y
        · rw [if_pos hc]; rfl
        · rw [if_neg hc]
          by_cases hji : j = i
          · subst hji
            rw [hx] at hy
            exact absurd (congrArg (led (q : Int) T) (Option.some.inj hy)) hc
          · exact i3 j y (by omega) hy hzy
    · by_cases hji : j = i
      · subst hji
        rw [hx] at hy
        rw [← Option.some.inj hy, hzr] at hz
        exact absurd (decide_eq_true hz) e
      · exact i3 j y (by omega) hy hz
  · obtain ⟨_, d1, d2⟩ := hd
    rw [e_law_every (by omega) (by omega) (fun j hj => Nat.le_trans (hpow j (by omega)) (by decide)), pu_bi]
    refine En.thrU (En.checks _ fun c hcm => ?_) (En.pu rfl)
    have hv : Vec (q : Int) k c := mem_allV.mp hcm
    have S := solve_ok (R := R) ch hp hT hv
    have hvc : Vec (q : Int) T.length c := by rw [hTl]; exact hv
    have key : lk d c = solve (q : Int) T n c := by
      cases hs : solve (q : Int) T n c with
      | none =>
        cases hl : lk d c with
        | none => rfl
        | some x =>
          obtain ⟨x1, x2, x3⟩ := d1 c x hl
          have := (led_eq (R := R) ch hb.1 hvc).mp x2
          rw [x1.1] at this
          exact absurd this (S.none hs _)
      | some x =>
        obtain ⟨s1, s2, s3⟩ := S.some x hs
        have el : led (q : Int) T x = c := (led_eq (R := R) ch hb.1 hvc).mpr (by rw [s1.1]; exact s2)
        obtain ⟨j, hj⟩ := List.getElem?_of_mem (mem_allV.mpr s1)
        have := d2 j x (List.getElem?_eq_some_iff.mp hj).1 hj (by rw [hzr]; exact s3)
        rw [el] at this
        obtain ⟨y, hy⟩ := Option.isSome_iff_exists.mp this
        obtain ⟨y1, y2, y3⟩ := d1 c y hy
        rw [hy]
        congr 1
        rw [hzr] at y3
        -- the difference is in the kernel
        have e2 := (led_eq (R := R) ch hb.1 hvc).mp y2
        rw [y1.1] at e2
        have hsp : Sp (fm (ker (q : Int) T n)) (fun j => fv y j - fv x j : Nat → R) := by
          refine (K.null _ fun j hj => by rw [fv_out y1 hj, fv_out s1 hj]; grind).mpr fun t ht => ?_
          obtain ⟨i, hi⟩ := List.getElem?_of_mem ht
          have hil := (List.getElem?_eq_some_iff.mp hi).1
          rw [row0_get hil] at hi
          rw [← Option.some.inj hi]
          have e1 : dot n (fv (row0 T i)) (fun j => fv y j - fv x j : Nat → R) = dot n (fv (row0 T i)) (fv y) + (-1) * dot n (fv (row0 T i)) (fv x) := by
            rw [← dot_linr]
            exact sm_congr fun j _ => by grind
          rw [e1, e2 i hil, s2 i hil]
          grind
        refine row_ext (by rw [y1.1, s1.1]) fun j hj => ch.eq (y1.at (by omega) j) (s1.at (by omega) j) ?_
        have := K.red.uniq hsp Sp.zero (fun l hl => by
          show fv y l - fv x l = (0 : R)
          unfold fv
          rw [y3 l hl, s3 l hl]
          grind) j
        have e3 : (fv y j : R) - fv x j = 0 := this
        have e4 : (fv y j : R) = fv x j := by grind
        exact e4
    rw [e_solved hp hT hv hTl.symm (by omega) (by omega), pu_bi]
    unfold t__law_like
    rw [key, like_O fun x e => ⟨Vec.sm hp (S.some x e).1, by rw [(S.some x e).1.1]; omega⟩, pu_bi, pu_bi]
    exact En.pu rfl
end LH
set_option maxRecDepth 100000
set_option maxHeartbeats 400000
namespace LH
open PySem PySem.Spec PyProof.Rows L2 Pd Ty La
theorem mt_unit {p : Int} {n : Nat} (hp : 1 < p) : Mt p n (unit n) := fun c hc => by
  obtain ⟨k, hk⟩ := List.getElem?_of_mem hc
  have hkl := (List.getElem?_eq_some_iff.mp hk).1
  rw [row0_get hkl] at hk
  rw [← Option.some.inj hk]
  exact unit_vec hp (by rw [unit_len] at hkl; exact hkl)
theorem sw_mat {p : Int} {n c : Nat} {m : Mat} (hp : Pr p) (h : Mt p n m) (hn : n ≤ 1000) (hc : m.length * 1001 ≤ c) : Sw 3 c (tT (tT tI)) m :=
  sw_T (n := 2) (k := 1000) (fun x hx => sw_T (n := 1) (k := 0) (fun i hi => sw_I (Vec.sm hp (h x hx) i hi)) (by have := (h x hx).1; omega)) hc
theorem row0_len {p : Int} {n : Nat} {T : Mat} (h : Mt p n T) (hl : 0 < T.length) : (row0 T 0).length = n := (h _ (row0_mem hl)).1
theorem n_back_right {m : Unit} : En (t__law_back_right m) (fun b => b = true) := by
  unfold t__law_back_right
  refine En.bi n_law_prime fun p hp => ?_
  have hb := hp.pos
  obtain ⟨R, _, ch⟩ := exR hp
  refine En.bi (En.dr (by omega) (by omega)) fun n hn => ?_
  obtain ⟨n, rfl⟩ : ∃ i : Nat, n = (i : Int) := ⟨n.toNat, by omega⟩
  refine En.bi (n_law_steps (R := R) ch hp (by omega)) fun T hT => ?_
  obtain ⟨hT, hl, hF⟩ := hT
  have hn9 : n < 9 := by omega
  have hT' : Mt p T.length T := by rw [hl]; exact hT
  rw [e_tbk hp hT' (by omega), pu_bi]
  cases hS : tbk p T with
  | none => exact absurd hS (tbk_none ch hp hT' (by rw [hl]; exact hF))
  | some S =>
    have k := tbk_ok (R := R) ch hp hT' hS
    have hSm : Mt p n S := by rw [← hl]; exact k.mt
    have hSl : S.length = n := by rw [k.len, hl]
    dsimp only [onO]
    rw [e_law_behind hp hT hSm hl (by omega) (by omega) (by omega), pu_bi, e_law_behind hp hSm hT hSl (by omega) (by omega) (by omega), pu_bi, pu_bi, pu_bi]
    have b1 : beh p T S n = unit n := beh_unit ch hb.1 hl hSl fun i j hi hj => by have := k.st i j (by omega) (by omega); rwa [hl] at this
    have b2 : beh p S T n = unit n := beh_unit ch hb.1 hSl hl fun i j hi hj => by have := k.ts i j (by omega) (by omega); rwa [hl] at this
    have e2 : repM [unit n] 2 = pu (List.replicate 2 (unit n)) := okRep1 (n := 2) (by omega)
    rw [b1, b2, e_law_unit (by omega), pu_bi, pu_bi, e2, pu_bi]
    unfold t__law_like'1
    have hw := sw_mat hp (mt_unit (n := n) hb.1) (by omega) (Nat.le_refl _)
    rw [unit_len] at hw
    rw [show List.replicate 2 (unit n) = [unit n, unit n] from rfl, like_eq (sw_L (n := 3) (c := 100000) (fun x hx => by
      have : x = unit n := by simpa using hx
      rw [this]
      exact hw) (by simp; omega)) (by decide) (by decide), pu_bi, pu_bi, if_neg (by decide)]
    refine En.bi (n_law_table hp (by omega) (by omega)) fun A hA => ?_
    obtain ⟨hA, hAl⟩ := hA
    have hA' : Mt p A.length A := by rw [hAl]; exact hA
    rw [e_tbk hp hA' (by omega), pu_bi]
    unfold t__law_rank
    rw [e_law_reduced hp hA (Nat.le_refl _) (by omega) (by omega), pu_bi, pu_bi, pu_bi]
    have er : (tbk p A).isNone = gLt (((red p A n).length : Nat) : Int) (n : Int) := by
      cases hB : tbk p A with
      | none =>
        symm
        refine decide_eq_true ?_
        by_cases hlt : (red p A n).length < n
        · omega
        · exact absurd hB (tbk_none (R := R) ch hp hA' (by rw [hAl]; exact rank_full ch hp hA (by omega)))
      | some B =>
        symm
        refine decide_eq_false ?_
        have hf := tbk_full (R := R) ch hp hA' hB
        rw [hAl] at hf
        have := congrArg List.length (full_rank ch hp hA hf)
        unfold leads at this
        rw [List.length_map, List.length_range] at this
        omega
    rw [er, pu_bi, if_neg (by simp)]
    refine En.bi (P := fun c => c = false) ?_ fun c hc => ?_
    · cases hB : tbk p A with
      | none =>
        dsimp only
        exact En.pu rfl
      | some B =>
        have k := tbk_ok (R := R) ch hp hA' hB
        have hBm : Mt p n B := by rw [← hAl]; exact k.mt
        have hBl : B.length = n := by rw [k.len, hAl]
        dsimp only
        rw [e_law_behind hp hA hBm hAl (by omega) (by omega) (by omega)]
        simp only [pu_bi]
        unfold t__law_like'2
        rw [beh_unit ch hb.1 hAl hBl fun i j hi hj => by have := k.st i j (by omega) (by omega); rwa [hAl] at this, like_eq hw (by decide) (by omega), pu_bi]
        exact En.pu rfl
    · subst hc
      rw [if_neg (by decide), show ((1 : Int) + (n : Int)) = ((1 + n : Nat) : Int) by omega, show ((2 : Int) + (n : Int)) = ((2 + n : Nat) : Int) by omega]
      refine En.bi (P := fun c => c = true) ?_ fun c hc => ?_
      · refine En.bi (P := fun o => o = none) (En.bi (n_law_table hp (by omega) (by omega)) fun C hC => ?_) fun o ho => by rw [ho]; exact En.pu rfl
        obtain ⟨hC, hCl⟩ := hC
        have := row0_len hC (by omega)
        exact En.of (e_tbk_none (fun e => by rw [e] at hCl; simp at hCl; omega) (by omega)) rfl
      · subst hc
        rw [if_pos rfl]
        refine En.bi (P := fun o => o = none) (En.bi (n_law_table hp (by omega) (by omega)) fun C hC => ?_) fun o ho => by rw [ho]; exact En.pu rfl
        obtain ⟨hC, hCl⟩ := hC
        have := row0_len hC (by omega)
        exact En.of (e_tbk_none (fun e => by rw [e] at hCl; simp at hCl; omega) (by omega)) rfl
theorem pr5 : Pr 5 := by unfold Pr; omega
theorem pr3 : Pr 3 := by unfold Pr; omega
theorem mt_ok {p : Int} {n : Nat} {m : Mat} (h : (m.all fun c => decide (c.length = n) && c.all fun x => decide (0 ≤ x) && decide (x < p)) = true) : Mt p n m := fun c hc => by
  have := List.all_eq_true.mp h c hc
  rw [Bool.and_eq_true, decide_eq_true_eq] at this
  refine ⟨this.1, fun x hx => ?_⟩
  have := List.all_eq_true.mp this.2 x hx
  rw [Bool.and_eq_true, decide_eq_true_eq, decide_eq_true_eq] at this
  exact this
theorem vec_ok {p : Int} {n : Nat} {c : Rw} (h : (decide (c.length = n) && c.all fun x => decide (0 ≤ x) && decide (x < p)) = true) : Vec p n c := mt_ok (m := [c]) (by simpa using h) c (List.mem_singleton.mpr rfl)
theorem c_solved {p : Int} (n m : Nat) {T : Mat} {c : Rw} {o : Option Rw} (hp : Pr p) (h : (T.all fun c => decide (c.length = n) && c.all fun x => decide (0 ≤ x) && decide (x < p)) = true) (hc : (decide (c.length = m) && c.all fun x => decide (0 ≤ x) && decide (x < p)) = true) (hm : m = T.length) (hn : n ≤ 900) (hT : T.length ≤ 10000000) (e : solve p T n c = o) : t_solved p T (n : Int) c = pu o := by rw [e_solved hp (mt_ok h) (vec_ok hc) hm hn hT, e]
theorem n_law {l : List Int} (h : Scr l) : En (t_law l) (fun b => b = true) := by
  unfold t_law
  obtain ⟨K, hK, hK5⟩ : ∃ K : Nat, (if (if 5 < ((List.length l : Nat) : Int) then 5 else ((List.length l : Nat) : Int)) > 3 then (if 5 < ((List.length l : Nat) : Int) then 5 else ((List.length l : Nat) : Int)) else 3) = (K : Int) ∧ K ≤ 5 := by
    refine ⟨(if (if 5 < ((List.length l : Nat) : Int) then 5 else ((List.length l : Nat) : Int)) > 3 then (if 5 < ((List.length l : Nat) : Int) then 5 else ((List.length l : Nat) : Int)) else 3).toNat, ?_, ?_⟩ <;> split <;> split <;> omega
  rw [hK, okRg (by omega), pu_bi]
  refine En.thrU (En.checks _ fun x hx => ?_) ?_
  · obtain ⟨i, hi, rfl⟩ := rgN_mem.mp hx
    refine En.bi (n_law_begun h (by omega) (by omega)) fun m _ => ?_
    refine En.bi (P := fun c => c = false) ?_ fun c hc => by rw [hc]; exact En.pu rfl
    refine En.bi (P := fun c => c = false) (En.bi n_all_right fun b hb => by rw [hb]; exact En.pu rfl) fun c hc => ?_
    rw [hc, if_neg (by decide)]
    exact En.bi n_back_right fun b hb => by rw [hb]; exact En.pu rfl
  · have s1 : t_solved 5 [[1, 1]] 2 [3] = pu (some [0, 3]) := c_solved 2 1 pr5 rfl rfl rfl (by decide) (by decide) (by decide +kernel)
    have s2 : t_solved 5 [[1, 2], [2, 4]] 2 [1, 3] = pu none := c_solved 2 2 pr5 rfl rfl rfl (by decide) (by decide) (by decide +kernel)
    have s3 : t_solved 3 [] 2 [] = pu (some [0, 0]) := c_solved 2 0 pr3 rfl rfl rfl (by decide) (by decide) (by decide +kernel)
    have s4 : t_solved 3 [[]] 0 [1] = pu none := c_solved 0 1 pr3 rfl rfl rfl (by decide) (by decide) (by decide +kernel)
    have s5 : t_solved 5 [[2]] 1 [4] = pu (some [2]) := c_solved 1 1 pr5 rfl rfl rfl (by decide) (by decide) (by decide +kernel)
    have s6 : t_turned_back 5 [[2]] = pu (some [[3]]) := by
      rw [e_tbk pr5 (mt_ok rfl) (by decide)]
      exact congrArg pu (by decide +kernel)
    have s7 : t_turned_back 3 [] = pu (some []) := by
      rw [e_tbk pr3 (mt_ok rfl) (by decide)]
      exact congrArg pu (by decide +kernel)
    rw [s1, s2, s3, s4, s5, s6, s7]
    simp only [pu_bi]
    rw [okCat (by decide), pu_bi]
    unfold t__law_like'3
    refine En.of (like_eq (n := 4) (k := 1000) (e := tL tU) (sw_L (n := 3) (k := 100) (fun x hx => ?_) (by decide)) (by decide) (by decide)) rfl
    have i1 : ∀ l : List Int, l.length ≤ 10 → (l.all fun x => decide (x.natAbs < 100)) = true → Sw 3 100 tU (tT tI l) := fun l hl h => (sw_T (n := 1) (k := 0) (c := 100) (fun i hi => sw_I (by have := of_decide_eq_true (List.all_eq_true.mp h i hi); omega)) (by omega) : Sw 2 100 (tT tI) l).mono (by omega) (by omega)
    have i2 : Sw 3 100 tU (tN ()) := ⟨_, dat_non.mono (by omega) (by omega)⟩
    have i3 : Sw 3 100 tU (tT (tT tI) [[3]]) := sw_T (n := 2) (k := 10) (e := tT tI) (fun x hx => by
      rw [List.mem_singleton] at hx
      rw [hx]
      exact sw_T (n := 1) (k := 0) (fun i hi => sw_I (by
        rw [List.mem_singleton] at hi
        rw [hi]; decide)) (by decide)) (by decide)
    rcases List.mem_cons.mp hx with rfl | hx
    · exact i1 [0, 3] (by decide) (by decide)
    rcases List.mem_cons.mp hx with rfl | hx
    · exact i2
    rcases List.mem_cons.mp hx with rfl | hx
    · exact i1 [0, 0] (by decide) (by decide)
    rcases List.mem_cons.mp hx with rfl | hx
    · exact i2
    rcases List.mem_cons.mp hx with rfl | hx
    · exact i1 [2] (by decide) (by decide)
    rcases List.mem_cons.mp hx with rfl | hx
    · exact i3
    rcases List.mem_cons.mp hx with rfl | hx
    · exact i1 [] (by decide) (by decide)
    cases hx
end LH
set_option maxRecDepth 100000
set_option maxHeartbeats 400000
namespace LH
open PySem PySem.Spec PyProof.Rows L2 Pd Ty
theorem W_law_true (ns : List Int) (hl : ns.length ≤ 63) (hb : ∀ z ∈ ns, z.natAbs.log2 ≤ 1048576) : W_law [.fz (ns.map .int)] (fun v => v = .bl true) (fun _ => False) :=
  tf_law ns _ _ (fun b => b = true) (fun _ => False) (fun a e => by rw [e]; rfl) (fun _ z => z.elim) (n_law ⟨hl, hb⟩ _ _ fun a e => e)
end LH
set_option maxHeartbeats 4000000
namespace LH
open PySem PySem.Spec PyProof.Rows L2 Pd
abbrev R : PySem.W.OpenRow := PySem.W.OpenLaw.row PySem.Challenge.rw_patchrooms_k02_whole_columns_led_back
abbrev hk : PySem.W.Hook := He.hookD 2 fa fn
def ob (s : PySem.W.SharedT) : He.AlD := He.obsDG 2 fa fn (HandSHeadRun.getT s)
theorem ob_eq (s : PySem.W.SharedT) : ob s = hk.obs s.abs := He.obsDG_eq (HandSHeadRun.getT_eq s)
def loose : List PySem.Str := (["still_table", "taken_off", "back_number", "reduced", "lead_places", "kernel", "solved", "turned_back", "_law_begun", "_law_draw", "_law_of", "_law_shuffled", "_law_like", "_law_back", "_law_off", "_law_reduced", "_law_leads", "_law_kernel", "_law_rank", "_law_led", "_law_behind", "_law_unit", "_law_prime", "_law_small_prime", "_law_column", "_law_table", "_law_every", "_law_steps", "_law_all_right", "_law_back_right"] : List PySem.Str)
noncomputable abbrev fin (w : World) (os : PySem.OsState) := HandSHeadRun.endF (HandSHeadRun.stepQ (HandSHeadRun.denQ HandSHeadRun.tabQ) R.prog w) 4000 R.prog w os
open PySem.W PyProof.Rows.Boot in
theorem run1 (w : World) (os : PySem.OsState) : (fin w os).map (fun s => HandSHeadRun.looksF R.prog (boot_heap w.params) s.abs) = some true := by
  kernel_rfl
open PySem.W HandSHeadRun in
theorem run2 (w : World) (os : PySem.OsState) : (fin w os).map (fun s => seenQ (view R.prog [32]) loose (importedModules R.prog.main.body) (fun s => xlAt (view R.prog [32]) [] s && recOk R.toRowW.records s) s.abs) = some (openGood (view R.prog [32]) loose) := by
  kernel_rfl
theorem run3 (w : World) (os : PySem.OsState) : (fin w os).map ob = some (hk.val w) := by
  kernel_rfl
theorem map3 {α β γ δ : Type} {o : Option α} {f : α → β} {g : α → γ} {h : α → δ} {b : β} {c : γ} {d : δ} (h1 : o.map f = some b) (h2 : o.map g = some c) (h3 : o.map h = some d) : o.map (fun s => (f s, g s, h s)) = some (b, c, d) := by
  cases o with
  | none => cases h1
  | some a =>
    have e1 : f a = b := Option.some.inj h1
    have e2 : g a = c := Option.some.inj h2
    have e3 : h a = d := Option.some.inj h3
    show some (f a, g a, h a) = _
    rw [e1, e2, e3]
theorem run (w : World) : HandSHeadRun.RunEq R (PySem.W.view R.prog [32]) hk ob 4000 loose w := fun os => map3 (run1 w os) (run2 w os) (run3 w os)
end LH
open PySem PySem.W PySem.Calls PyProof.Rows
set_option maxRecDepth 100000 in
set_option maxHeartbeats 0 in
theorem PySem.Challenge.cw_patchrooms_k02_whole_columns_led_back_holds : PySem.Challenge.rw_patchrooms_k02_whole_columns_led_back.Holds := by
  w_on; o_law
  refine HandSHeadRun.head_any (r := OpenLaw.row PySem.Challenge.rw_patchrooms_k02_whole_columns_led_back) (q := view (OpenLaw.row PySem.Challenge.rw_patchrooms_k02_whole_columns_led_back).prog [32]) (H := LH.hk) (ob := LH.ob) (M := 4000) (loose := LH.loose) (d := HandSHeadRun.topDef (OpenLaw.row PySem.Challenge.rw_patchrooms_k02_whole_columns_led_back).prog 32) (kwd := []) LH.ob_eq
    (by kernel_rfl) (fun s => by kernel_rfl) LH.run (by kernel_rfl) (by kernel_rfl) (by kernel_rfl) (by rfl) (by first | assumption | decide +kernel) (by decide +kernel) ⟨rfl, rfl, rfl, rfl, rfl, by decide +kernel⟩ ?hw ?hc
  case hw => w_witness2
  case hc =>
    refine Pd.walk_ofV (l := PySem.Challenge.rw_patchrooms_k02_whole_columns_led_back) (n := 63) (k := 6) (c := 10141204801825835211973625643008) (x := "_law_script") (fx := "law") (st := LH.top 32) (F := LH.F_law) (W := LH.W_law) rfl (by decide) (by kernel_rfl) ⟨rfl, by decide, by decide⟩ (by kernel_rfl) (fun _ _ _ _ _ _ us hl => match us, hl with | [_], _ => rfl) (fun w mg h Y G => ?ok) LH.fok_law (by decide +kernel) LH.W_law_true
    obtain ⟨K, KX, c⟩ := Y
    exact ⟨K, KX, LH.ok_law (P := (PySem.Challenge.rw_patchrooms_k02_whole_columns_led_back).prog) (w := w) KX G c⟩
