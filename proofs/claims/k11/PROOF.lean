import PyProof.Rows.All
import Wide.All
import OpenK.AllK
import Wide.FinOn
import HandS.ForMost
import HandS.Flow
import HandS.IsInst
import HandS.TupAny
import HandS.Zip
import KE.KDictKeyed
import HandS.Dict
import KE.KDictDisplayH
import KE.KDictWalk
import HandS.Iter
import HandS.Deep
import HandS.Style
import KE.GoesEnum
import HandS.TupMul
import HandS.TupSets
import HandS.Strs
import HandS.SetFor
import HandS.Conv
import KE.SortData
import HandS.Words
import HandS.Ends
import HandS.EndBits
import PySem.Challenge.RW_litfloors_k11_whole_reachable_states
set_option Elab.async false
set_option linter.all false
namespace Lf
open PySem PySem.Spec PyProof.Rows L2

/-- Python's values, tuples and lists that nobody writes to any more by what is in them; ref: an object that may still be written -/
inductive D where
  | non | bl (b : Bool) | int (i : Int) | str (s : Str) | tup (ds : List D) | lst (ds : List D) | dic (ks vs : List D) | ref (a : Addr) | ty (n : String) | scr (ds : List D)

/-- what may still be written -/
inductive MO where
  | lst (ds : List D) | dic (ob : Obj) (ks vs : List D) | ins (C dx : Addr) (fs : List (Str × D))
abbrev Store := Addr → Option MO
def ups (S : Store) (a : Addr) (m : MO) : Store := fun b => if b = a then some m else S b
theorem ups_same {S : Store} {a : Addr} {m : MO} : ups S a m a = some m := if_pos rfl
theorem ups_ne {S : Store} {a b : Addr} {m : MO} (h : b ≠ a) : ups S a m b = S b := if_neg h
theorem ups_ups {S : Store} {a : Addr} {m n : MO} : ups (ups S a m) a n = ups S a n := by
  funext b; unfold ups; split <;> rfl
/-- without what stands at a -/
def drp (S : Store) (a : Addr) : Store := fun b => if b = a then none else S b
theorem drp_ups {S : Store} {a : Addr} {m : MO} (h : S a = none) : drp (ups S a m) a = S := by
  funext b; unfold drp ups; split
  · rename_i e; rw [e, h]
  · rfl

/-- the program, the world, the written part -/
structure KW where
  P : Program
  w : World
  K : PySem.W.Frag
abbrev kw (X : Cx) : KW := ⟨X.prog, X.w, X.K⟩
mutual
/-- a dict's key as the library has it: truths are numbers -/
def nk : D → NestedKey
  | .bl b => .num (if b then 1 else 0)
  | .int i => .num i
  | .str s => .text s
  | .tup ds => .tup (nks ds)
  | _ => .none
def nks : List D → List NestedKey
  | [] => []
  | d :: ds => nk d :: nks ds
end
/-- ob: the very object of the dict at d; its keys ks (as values xs), what they have (ys) -/
def dO (d : Addr) (ob : Obj) : HO := .ext (fun h => h.get? d = some ob)
theorem dO.mut {d : Addr} {ob : Obj} : Mut (some (dO d ob)) := trivial
def DicO (W : KW) (d : Addr) (ob : Obj) (ks : List D) (xs ys : List V) : Prop := ∃ (es : Array DictEntry) (ep : Nat),
  ob.ExactDict ∧ ob.data = .dict es ep ∧ (d == sysModules) = false ∧ ks.length ≤ sizeLine ∧
  es.toList.map (·.hash) = ks.map (fun k => (nk k).hash W.w) ∧ Vals xs (es.toList.map (·.key)) ∧ Vals ys (es.toList.map (·.val)) ∧ (ks.map nk).Nodup

/-- the tuple at a: new, or of the module -/
def TupAt (K : PySem.W.Frag) (H : Hp) (a : Addr) (xs : List V) : Prop :=
  H a = some (.tup xs) ∨ ∃ (o : Obj) (its : Array Value) (n : Nat), K.lookup a = some o ∧ o.cls = .type "tuple" ∧ o.data = .seq its n ∧ its.size ≤ sizeLine ∧ Vals xs its.toList
/-- the script's list -/
def ScrAt (K : PySem.W.Frag) (H : Hp) (a : Addr) (xs : List V) : Prop := (∃ o, H a = some (.frz o (.lst xs))) ∨
  ∃ (o : Obj) (its : Array Value) (n : Nat), K.lookup a = some o ∧ o.cls = .type "list" ∧ o.dict = none ∧ o.data = .seq its n ∧ its.size ≤ sizeLine ∧ Vals xs its.toList
theorem ScrAt.sq {K : PySem.W.Frag} {H : Hp} {a : Addr} {xs : List V} (h : ScrAt K H a xs) : SqL K H a xs := by
  rcases h with ⟨o, h⟩ | h
  · exact .inl (.inr ⟨o, h⟩)
  · exact .inr h
theorem TupAt.sq {K : PySem.W.Frag} {H : Hp} {a : Addr} {xs : List V} (h : TupAt K H a xs) : SqT K H a xs := by
  rcases h with h | h
  · exact .inl (.inl h)
  · exact .inr h
section
variable (W : KW) (H : Hp) (S : Store)
mutual
/-- the value v stands for d -/
def Rep : D → V → Prop
  | .non, v => v = .non
  | .bl b, v => v = .bl b
  | .int i, v => v = .int i
  | .str s, v => v = .str s
  | .ty n, v => v = .ty n
  | .ref a, v => v = .ref a
  | .tup ds, v => ∃ a xs, v = .ref a ∧ TupAt W.K H a xs ∧ Reps ds xs
  | .lst ds, v => ∃ a xs, v = .ref a ∧ S a = none ∧ H a = some (.lst xs) ∧ Reps ds xs
  | .scr ds, v => ∃ a xs, v = .ref a ∧ ScrAt W.K H a xs ∧ Reps ds xs
  | .dic ks vs, v => ∃ a ob xs ys, v = .ref a ∧ S a = none ∧ H a = some (dO a ob) ∧ DicO W a ob ks xs ys ∧ Reps ks xs ∧ Reps vs ys
def Reps : List D → List V → Prop
  | [], xs => xs = []
  | d :: ds, xs => ∃ x r, xs = x :: r ∧ Rep d x ∧ Reps ds r
end
def RepF : List (Str × D) → List (Str × V) → Prop := Paired fun p q => p.1 = q.1 ∧ Rep W H S p.2 q.2
/-- it stands at a -/
def MOk (a : Addr) : MO → Prop
  | .lst ds => ∃ xs, H a = some (.lst xs) ∧ Reps W H S ds xs
  | .dic ob ks vs => ∃ xs ys, H a = some (dO a ob) ∧ DicO W a ob ks xs ys ∧ Reps W H S ks xs ∧ Reps W H S vs ys
  | .ins C dx fs => ∃ vs, H a = some (.ins C dx vs) ∧ RepF W H S fs vs
/-- what may still be written stands as told -/
def HR : Prop := ∀ a m, S a = some m → MOk W H S a m
end

section
variable {W : KW} {H H1 H2 H' : Hp} {S S1 S2 S' : Store} {d : D} {ds : List D} {v : V} {vs : List V} {a p : Addr}
/-- what nobody writes to stays -/
def Keep (H : Hp) (S : Store) (H' : Hp) (S' : Store) : Prop := ∀ b o, H b = some o → S b = none → H' b = some o ∧ S' b = none
theorem HR.mut (h : HR W H S) {m : MO} (e : S a = some m) : ∃ o, H a = some o ∧ Mut (some o) := by
  have q := h a m e
  cases m with
  | lst ds => obtain ⟨xs, e, _⟩ := q; exact ⟨_, e, trivial⟩
  | dic ob ks vs => obtain ⟨_, _, e, _⟩ := q; exact ⟨_, e, dO.mut⟩
  | ins C dx fs => obtain ⟨xs, e, _⟩ := q; exact ⟨_, e, trivial⟩
theorem HR.none_of (h : HR W H S) {o : HO} (e : H a = some o) (n : ¬ Mut (some o)) : S a = none := by
  cases q : S a with
  | none => rfl
  | some m =>
    obtain ⟨o', e', mu⟩ := h.mut q
    rw [e] at e'; cases e'
    exact absurd mu n
theorem HR.fresh (h : HR W H S) (e : H a = none) : S a = none := by
  cases q : S a with
  | none => rfl
  | some m =>
    obtain ⟨o', e', _⟩ := h.mut q
    rw [e] at e'; cases e'
theorem Keep.sqt (h : HR W H S) (k : Keep H S H' S') {xs : List V} (q : TupAt W.K H a xs) : TupAt W.K H' a xs := by
  rcases q with q | q
  · exact .inl (k a _ q (h.none_of q (fun z => z))).1
  · exact .inr q
theorem Keep.scr (h : HR W H S) (k : Keep H S H' S') {xs : List V} (q : ScrAt W.K H a xs) : ScrAt W.K H' a xs := by
  rcases q with ⟨o, q⟩ | q
  · exact .inl ⟨o, (k a _ q (h.none_of q (fun z => z))).1⟩
  · exact .inr q
theorem Keep.rd (k : Keep H S H' S') (n : S a = none) {u : HO} (q : Rd H a u) : Rd H' a u ∧ S' a = none := by
  rcases q with q | ⟨o, q⟩
  · exact ⟨.inl (k a _ q n).1, (k a _ q n).2⟩
  · exact ⟨.inr ⟨o, (k a _ q n).1⟩, (k a _ q n).2⟩
mutual
theorem Rep.mono (h : HR W H S) (k : Keep H S H' S') : ∀ (d : D) (v : V), Rep W H S d v → Rep W H' S' d v
  | .non, _, e => by simpa [Rep] using e
  | .bl b, _, e => by simpa [Rep] using e
  | .int i, _, e => by simpa [Rep] using e
  | .str s, _, e => by simpa [Rep] using e
  | .ty n, _, e => by simpa [Rep] using e
  | .ref a, _, e => by simpa [Rep] using e
  | .tup ds, _, e => by
    simp only [Rep] at e ⊢
    obtain ⟨a, xs, e, q, r⟩ := e
    exact ⟨a, xs, e, k.sqt h q, Reps.mono h k ds xs r⟩
  | .lst ds, _, e => by
    simp only [Rep] at e ⊢
    obtain ⟨a, xs, e, n, q, r⟩ := e
    exact ⟨a, xs, e, (k a _ q n).2, (k a _ q n).1, Reps.mono h k ds xs r⟩
  | .scr ds, _, e => by
    simp only [Rep] at e ⊢
    obtain ⟨a, xs, e, q, r⟩ := e
    exact ⟨a, xs, e, k.scr h q, Reps.mono h k ds xs r⟩
  | .dic ks vs, _, e => by
    simp only [Rep] at e ⊢
    obtain ⟨a, o, xs, ys, e, n, q, r, r1, r2⟩ := e
    exact ⟨a, o, xs, ys, e, (k a _ q n).2, (k a _ q n).1, r, Reps.mono h k ks xs r1, Reps.mono h k vs ys r2⟩
theorem Reps.mono (h : HR W H S) (k : Keep H S H' S') : ∀ (ds : List D) (vs : List V), Reps W H S ds vs → Reps W H' S' ds vs
  | [], _, e => by simpa [Reps] using e
  | d :: ds, _, e => by
    simp only [Reps] at e ⊢
    obtain ⟨x, r, e, h1, h2⟩ := e
    exact ⟨x, r, e, Rep.mono h k d x h1, Reps.mono h k ds r h2⟩
end
theorem RepF.mono (h : HR W H S) (k : Keep H S H' S') : ∀ {fs : List (Str × D)} {vs : List (Str × V)}, RepF W H S fs vs → RepF W H' S' fs vs :=
  fun r => Paired.mapP r fun p q z => ⟨z.1, z.2.mono h k⟩

/-- what can have become of a heap -/
structure Fut (W : KW) (H : Hp) (S : Store) (H' : Hp) (S' : Store) : Prop where
  keep : Keep H S H' S'
  dom : ∀ b o, H b = some o → ∃ o', H' b = some o'
  hr : HR W H' S'
theorem Fut.refl (h : HR W H S) : Fut W H S H S := ⟨fun _ _ e n => ⟨e, n⟩, fun _ o e => ⟨o, e⟩, h⟩
theorem Fut.trans (f : Fut W H S H1 S1) (g : Fut W H1 S1 H2 S2) : Fut W H S H2 S2 :=
  ⟨fun b o e n => g.keep b o (f.keep b o e n).1 (f.keep b o e n).2, fun b o e => let ⟨o', e'⟩ := f.dom b o e; g.dom b o' e', g.hr⟩
theorem Fut.rep (f : Fut W H S H' S') (h : HR W H S) (r : Rep W H S d v) : Rep W H' S' d v := Rep.mono h f.keep d v r
theorem Fut.reps (f : Fut W H S H' S') (h : HR W H S) (r : Reps W H S ds vs) : Reps W H' S' ds vs := Reps.mono h f.keep ds vs r
theorem Fut.free (f : Fut W H S H' S') (n : H' a = none) : H a = none := by
  cases q : H a with
  | none => rfl
  | some o => obtain ⟨o', e⟩ := f.dom a o q; rw [n] at e; cases e
/-- a new thing that is not written -/
theorem keep_new {o : HO} (h : HR W H S) (hp : H p = none) : Keep H S (upd H p o) S := fun b u e n => ⟨by rw [upd_ne (ne_of_none e hp)]; exact e, n⟩
theorem MOk.mono (h : HR W H S) (k : Keep H S H' S') {m : MO} (e2 : H' a = H a) (q : MOk W H S a m) : MOk W H' S' a m := by
  cases m with
  | lst ds => obtain ⟨xs, q1, q2⟩ := q; exact ⟨xs, e2.trans q1, Reps.mono h k _ _ q2⟩
  | dic ob ks vs => obtain ⟨xs, ys, q1, q2, q3, q4⟩ := q; exact ⟨xs, ys, e2.trans q1, q2, Reps.mono h k _ _ q3, Reps.mono h k _ _ q4⟩
  | ins C dx fs => obtain ⟨xs, q1, q2⟩ := q; exact ⟨xs, e2.trans q1, q2.mono h k⟩
theorem HR.mono_of (h : HR W H S) (k : Keep H S H' S') (hs : ∀ a m, S' a = some m → S a = some m ∧ H' a = H a) : HR W H' S' := fun a m e => by
  obtain ⟨e1, e2⟩ := hs a m e
  exact MOk.mono h k e2 (h a m e1)
theorem Fut.new {o : HO} (h : HR W H S) (hp : H p = none) : Fut W H S (upd H p o) S :=
  ⟨keep_new h hp, fun b u e => ⟨u, by rw [upd_ne (ne_of_none e hp)]; exact e⟩, h.mono_of (keep_new h hp) fun a m e => ⟨e, by
    obtain ⟨o, q, _⟩ := h.mut e
    rw [upd_ne (ne_of_none q hp)]⟩⟩
/-- what stood is forgotten -/
theorem Fut.forget (h : HR W H S) (hs : ∀ a m, S' a = some m → S a = some m) : Fut W H S H S' := by
  have k : Keep H S H S' := fun b o e n => ⟨e, by
    cases q : S' b with
    | none => rfl
    | some m => rw [hs b m q] at n; cases n⟩
  exact ⟨k, fun _ o e => ⟨o, e⟩, h.mono_of k fun a m e => ⟨hs a m e, rfl⟩⟩
theorem keep_at {o : HO} {m : MO} (hp : H p = none ∨ ∃ n, S p = some n) : Keep H S (upd H p o) (ups S p m) := fun b u e n => by
  have ne : b ≠ p := by
    rintro rfl
    rcases hp with z | ⟨y, z⟩
    · rw [e] at z; cases z
    · rw [n] at z; cases z
  rw [upd_ne ne, ups_ne ne]
  exact ⟨e, n⟩
/-- a thing is made, or written -/
theorem Fut.put {o : HO} {m : MO} (h : HR W H S) (hp : H p = none ∨ ∃ n, S p = some n) (new : Keep H S (upd H p o) (ups S p m) → MOk W (upd H p o) (ups S p m) p m) : Fut W H S (upd H p o) (ups S p m) := by
  have k : Keep H S (upd H p o) (ups S p m) := keep_at hp
  refine ⟨k, fun b u e => ?_, fun a m' e => ?_⟩
  · by_cases ne : b = p
    · rw [ne]; exact ⟨_, upd_same⟩
    · exact ⟨u, by rw [upd_ne ne]; exact e⟩
  · by_cases ne : a = p
    · subst ne
      rw [ups_same] at e; cases e
      exact new k
    · rw [ups_ne ne] at e
      exact MOk.mono h k (upd_ne ne) (h a m' e)
/-- a list is made, or written -/
theorem Fut.lst {xs : List V} (h : HR W H S) (hp : H p = none ∨ ∃ n, S p = some n) (r : Reps W H S ds xs) : Fut W H S (upd H p (.lst xs)) (ups S p (.lst ds)) :=
  Fut.put h hp fun k => ⟨xs, upd_same, Reps.mono h k _ _ r⟩
/-- a dict is made, or written -/
theorem Fut.dic {ob : Obj} {ks vs : List D} {xs ys : List V} (h : HR W H S) (hp : H p = none ∨ ∃ n, S p = some n) (hd : DicO W p ob ks xs ys) (r1 : Reps W H S ks xs) (r2 : Reps W H S vs ys) : Fut W H S (upd H p (dO p ob)) (ups S p (.dic ob ks vs)) :=
  Fut.put h hp fun k => ⟨xs, ys, upd_same, hd, Reps.mono h k _ _ r1, Reps.mono h k _ _ r2⟩

/-! ### lists of values -/
theorem Reps.length : ∀ {ds : List D} {vs : List V}, Reps W H S ds vs → ds.length = vs.length
  | [], _, e => by simp only [Reps] at e; subst e; rfl
  | d :: ds, _, e => by
    simp only [Reps] at e
    obtain ⟨x, r, rfl, _, h⟩ := e
    simp [Reps.length h]
theorem Reps.get : ∀ {ds : List D} {vs : List V} {i : Nat} {d : D}, Reps W H S ds vs → ds[i]? = some d → ∃ v, vs[i]? = some v ∧ Rep W H S d v
  | [], _, i, d, _, e => by simp at e
  | d :: ds, _, 0, d', h, e => by
    simp only [Reps] at h
    obtain ⟨x, r, rfl, h1, _⟩ := h
    simp at e; subst e
    exact ⟨x, rfl, h1⟩
  | d :: ds, _, i + 1, d', h, e => by
    simp only [Reps] at h
    obtain ⟨x, r, rfl, _, h2⟩ := h
    simp at e
    obtain ⟨v, e1, e2⟩ := Reps.get h2 e
    exact ⟨v, by simpa using e1, e2⟩
theorem Reps.append : ∀ {ds es : List D} {vs us : List V}, Reps W H S ds vs → Reps W H S es us → Reps W H S (ds ++ es) (vs ++ us)
  | [], _, _, _, h, g => by simp only [Reps] at h; subst h; exact g
  | d :: ds, es, _, us, h, g => by
    simp only [Reps] at h
    obtain ⟨x, r, rfl, h1, h2⟩ := h
    show Reps W H S (d :: (ds ++ es)) _
    simp only [Reps]
    exact ⟨x, r ++ us, rfl, h1, Reps.append h2 g⟩
theorem Reps.take : ∀ {ds : List D} {vs : List V} (n : Nat), Reps W H S ds vs → Reps W H S (ds.take n) (vs.take n)
  | _, _, 0, _ => by simp [Reps]
  | [], _, n + 1, h => by simp only [Reps] at h; subst h; simp [Reps]
  | d :: ds, _, n + 1, h => by
    simp only [Reps] at h
    obtain ⟨x, r, rfl, h1, h2⟩ := h
    simp only [List.take_succ_cons, Reps]
    exact ⟨x, r.take n, rfl, h1, Reps.take n h2⟩
theorem Reps.drop : ∀ {ds : List D} {vs : List V} (n : Nat), Reps W H S ds vs → Reps W H S (ds.drop n) (vs.drop n)
  | _, _, 0, h => by simpa using h
  | [], _, n + 1, h => by simp only [Reps] at h; subst h; simp [Reps]
  | d :: ds, _, n + 1, h => by
    simp only [Reps] at h
    obtain ⟨x, r, rfl, h1, h2⟩ := h
    simp only [List.drop_succ_cons]
    exact Reps.drop n h2
theorem Reps.set {d : D} {v : V} (r : Rep W H S d v) : ∀ {ds : List D} {vs : List V} (i : Nat), Reps W H S ds vs → Reps W H S (ds.set i d) (vs.set i v)
  | [], _, i, h => by simp only [Reps] at h; subst h; simp [Reps]
  | e :: ds, _, 0, h => by
    simp only [Reps] at h
    obtain ⟨x, r', rfl, h1, h2⟩ := h
    simp only [List.set_cons_zero, Reps]
    exact ⟨v, r', rfl, r, h2⟩
  | e :: ds, _, i + 1, h => by
    simp only [Reps] at h
    obtain ⟨x, r', rfl, h1, h2⟩ := h
    simp only [List.set_cons_succ, Reps]
    exact ⟨x, r'.set i v, rfl, h1, Reps.set r i h2⟩
theorem Reps.one {d : D} {v : V} (r : Rep W H S d v) : Reps W H S [d] [v] := by simp only [Reps]; exact ⟨v, [], rfl, r, rfl⟩
theorem Reps.nil_ : Reps W H S [] [] := by simp only [Reps]
theorem Reps.cons_ {d : D} {ds : List D} {v : V} {vs : List V} (r : Rep W H S d v) (t : Reps W H S ds vs) : Reps W H S (d :: ds) (v :: vs) := by simp only [Reps]; exact ⟨v, vs, rfl, r, t⟩
theorem Reps.map {α : Type} {f : α → D} {g : α → V} (h : ∀ x, Rep W H S (f x) (g x)) : ∀ xs : List α, Reps W H S (xs.map f) (xs.map g)
  | [] => Reps.nil_
  | x :: xs => Reps.cons_ (h x) (Reps.map h xs)
theorem Reps.of_map {α : Type} {f : α → D} {g : α → V} (h : ∀ x v, Rep W H S (f x) v → v = g x) : ∀ {xs : List α} {vs : List V}, Reps W H S (xs.map f) vs → vs = xs.map g
  | [], _, e => by simpa [Reps] using e
  | x :: xs, _, e => by
    simp only [List.map_cons, Reps] at e
    obtain ⟨y, r, rfl, h1, h2⟩ := e
    rw [h x y h1, Reps.of_map h h2]; rfl
end

/-! ### locals -/
abbrev DSt := List (Option D)
def LR (W : KW) (H : Hp) (S : Store) (δ : DSt) (σ : L2.St) : Prop := δ.length = σ.length ∧ ∀ (i : Nat) (d : D), δ[i]? = some (some d) → ∃ v, σ[i]? = some (some v) ∧ Rep W H S d v
section
variable {W : KW} {H H1 H2 H' : Hp} {S S1 S2 S' : Store} {d : D} {v : V} {δ : DSt} {σ : L2.St}
theorem LR.fut (l : LR W H S δ σ) (h : HR W H S) (f : Fut W H S H' S') : LR W H' S' δ σ := ⟨l.1, fun i d e => let ⟨v, e1, r⟩ := l.2 i d e; ⟨v, e1, f.rep h r⟩⟩
theorem LR.set (l : LR W H S δ σ) (i : Nat) (r : Rep W H S d v) : LR W H S (δ.set i (some d)) (σ.set i (some v)) := by
  refine ⟨by simpa using l.1, fun j e he => ?_⟩
  by_cases hj : i = j
  · subst hj
    by_cases hi : i < δ.length
    · rw [List.getElem?_set_self hi] at he
      cases he
      exact ⟨v, by rw [List.getElem?_set_self (l.1 ▸ hi)], r⟩
    · rw [List.getElem?_eq_none (by simpa using hi)] at he; cases he
  · rw [List.getElem?_set_ne hj] at he
    obtain ⟨u, e1, e2⟩ := l.2 j e he
    exact ⟨u, by rw [List.getElem?_set_ne hj]; exact e1, e2⟩
def wipeD (δ : DSt) : List Nat → DSt
  | [] => δ
  | v :: vs => (wipeD δ vs).set v none
theorem LR.unset (l : LR W H S δ σ) (i : Nat) : LR W H S (δ.set i none) (σ.set i none) := by
  refine ⟨by simpa using l.1, fun j e he => ?_⟩
  by_cases hj : i = j
  · subst hj
    by_cases hi : i < δ.length
    · rw [List.getElem?_set_self hi] at he; cases he
    · rw [List.getElem?_eq_none (by simpa using hi)] at he; cases he
  · rw [List.getElem?_set_ne hj] at he
    obtain ⟨u, e1, e2⟩ := l.2 j e he
    exact ⟨u, by rw [List.getElem?_set_ne hj]; exact e1, e2⟩
theorem LR.wipe (l : LR W H S δ σ) : ∀ vs : List Nat, LR W H S (wipeD δ vs) (L2.wipe σ vs)
  | [] => l
  | v :: vs => by
    unfold wipeD L2.wipe
    exact (LR.wipe l vs).unset v
/-- from a context with the new locals wiped, back -/
theorem LR.weak {δ' : DSt} (l : LR W H S δ σ) (hl : δ'.length = δ.length) (hw : ∀ (i : Nat) (d : D), δ'[i]? = some (some d) → δ[i]? = some (some d)) : LR W H S δ' σ :=
  ⟨hl.trans l.1, fun i d e => l.2 i d (hw i d e)⟩
end
end Lf
set_option Elab.async false
set_option linter.all false
set_option maxRecDepth 100000
set_option maxHeartbeats 4000000
namespace Lf
open PySem PySem.Spec PyProof.Rows L2

/-! ### dicts: keys that are tuples, or ints, texts, None -/
mutual
/-- a key's part, no deeper than n -/
def kd : Nat → D → Bool
  | _, .non => true
  | _, .bl _ => true
  | _, .int _ => true
  | _, .str _ => true
  | n + 1, .tup ds => kds n ds
  | _, _ => false
def kds : Nat → List D → Bool
  | _, [] => true
  | n, d :: ds => kd n d && kds n ds
end
mutual
theorem nested_of {X : Cx} {pins : List (Addr × Obj)} {σ : L2.St} {H : Hp} {s : Shared} {S : Store} (I : L2.Inv X pins σ H s) : ∀ (n : Nat) (d : D) (v : V) (u : Value), kd n d = true → Rep (kw X) H S d v → RelV v u → NestedIs s.heap (nk d) u ∧ (nk d).depth ≤ n
  | n, .non, v, u, _, r, ru => by
    simp only [Rep] at r; subst r
    cases ru
    exact ⟨.none, Nat.zero_le _⟩
  | n, .bl b, v, u, _, r, ru => by
    simp only [Rep] at r; subst r
    cases ru
    exact ⟨.bool rfl, Nat.zero_le _⟩
  | n, .int i, v, u, _, r, ru => by
    simp only [Rep] at r; subst r
    obtain ⟨t, rfl⟩ := ru
    exact ⟨.int i t, Nat.zero_le _⟩
  | n, .str z, v, u, _, r, ru => by
    simp only [Rep] at r; subst r
    obtain ⟨t, rfl⟩ := ru
    exact ⟨.text z t, Nat.zero_le _⟩
  | 0, .tup ds, v, u, h, r, ru => by simp [kd] at h
  | n + 1, .tup ds, v, u, h, r, ru => by
    simp only [Rep] at r
    obtain ⟨a, xs, rfl, ht, rs⟩ := r
    cases ru
    obtain ⟨its, rv, ⟨o, ho, hc, m, hd⟩, hz⟩ := I.tuple ht.sq
    obtain ⟨h1, h2⟩ := nested_ofs I n ds xs its (by simpa [kd] using h) rs rv
    refine ⟨.tup ho hc hd (by simpa using h1), ?_⟩
    simp only [nk, NestedKey.depth]
    omega
  | n, .lst _, v, u, h, r, ru => by cases n <;> simp [kd] at h
  | n, .dic _ _, v, u, h, r, ru => by cases n <;> simp [kd] at h
  | n, .ref _, v, u, h, r, ru => by cases n <;> simp [kd] at h
  | n, .ty _, v, u, h, r, ru => by cases n <;> simp [kd] at h
  | n, .scr _, v, u, h, r, ru => by cases n <;> simp [kd] at h
theorem nested_ofs {X : Cx} {pins : List (Addr × Obj)} {σ : L2.St} {H : Hp} {s : Shared} {S : Store} (I : L2.Inv X pins σ H s) : ∀ (n : Nat) (ds : List D) (vs : List V) (us : List Value), kds n ds = true → Reps (kw X) H S ds vs → Vals vs us → NestedAll s.heap (nks ds) us ∧ NestedKey.depthAll (nks ds) ≤ n
  | n, [], vs, us, _, r, ru => by
    simp only [Reps] at r; subst r
    cases ru
    exact ⟨.nil, Nat.zero_le _⟩
  | n, d :: ds, vs, us, h, r, ru => by
    simp only [Reps] at r
    obtain ⟨v, r', rfl, r1, r2⟩ := r
    cases ru with
    | cons q1 q2 =>
      have h' : kd n d = true ∧ kds n ds = true := by simpa [kds] using h
      obtain ⟨a1, a2⟩ := nested_of I n d v _ h'.1 r1 q1
      obtain ⟨b1, b2⟩ := nested_ofs I n ds r' _ h'.2 r2 q2
      refine ⟨.cons a1 b1, ?_⟩
      simp only [nks, NestedKey.depthAll]
      omega
end

/-- a key: a tuple of what may stand in a key -/
def keyD (d : D) : Bool := match d with
  | .tup _ => kd 8 d
  | _ => false
def leafD : D → Bool
  | .non => true
  | .int _ => true
  | .str _ => true
  | _ => false
def kOk (b : Bool) (d : D) : Bool := if b = true then keyD d else leafD d
def lf : D → Leaf
  | .int i => .num i
  | .str s => .text s
  | _ => .none
theorem lf_key {d : D} (h : leafD d = true) : (lf d).key = nk d := by
  cases d <;> first | rfl | cases h
def notBl : Value → Bool
  | .bool _ => false
  | _ => true
/-- ints, texts, None: no truths -/
def lfKind (prog : Program) (w : World) : KeyKind prog w Leaf where
  is := fun k v => Leaf.isOf k v && notBl v
  hash := fun k => k.key.hash w
  inj := fun v a b ha hb => by
    simp only [Bool.and_eq_true] at ha hb
    exact (leafKind prog w).inj v a b ha.1 hb.1
  byValue := fun k v h => by
    simp only [Bool.and_eq_true] at h
    exact (leafKind prog w).byValue k v h.1
  pyHash := fun hv h => by
    simp only [Bool.and_eq_true] at hv
    exact (leafKind prog w).pyHash hv.1 h
  eqBool := fun hu hv h => by
    simp only [Bool.and_eq_true] at hu hv
    exact (leafKind prog w).eqBool hu.1 hv.1 h
  «strs» := fun k x t v h => by
    simp only [Bool.and_eq_true] at h
    have := (leafKind prog w).strs k x t v h.1
    rw [show Leaf.isOf k v = v.isStr x from this]
    cases v <;> simp [Value.isStr, notBl]
theorem lf_is {P : Program} {w : World} {W : KW} {H : Hp} {S : Store} {d : D} {v : V} {u : Value} (h : leafD d = true) (r : Rep W H S d v) (ru : RelV v u) : (lfKind P w).is (lf d) u = true := by
  cases d with
  | non => simp only [Rep] at r; subst r; cases ru; rfl
  | int i => simp only [Rep] at r; subst r; obtain ⟨t, rfl⟩ := ru; simp [lfKind, lf, Leaf.isOf, notBl]
  | str s => simp only [Rep] at r; subst r; obtain ⟨t, rfl⟩ := ru; simp [lfKind, lf, Leaf.isOf, notBl, Value.isStrOf]
  | _ => cases h
/-- the value of a leaf -/
def lv : D → V
  | .int i => .int i
  | .str s => .str s
  | _ => .non
theorem lv_rep {W : KW} {H : Hp} {S : Store} {d : D} (h : leafD d = true) : Rep W H S d (lv d) := by
  cases d <;> first | (simp [Rep, lv]; done) | cases h
theorem lv_eq {W : KW} {H : Hp} {S : Store} {d : D} {v : V} (h : leafD d = true) (r : Rep W H S d v) : v = lv d := by
  cases d <;> first | (simpa [Rep, lv] using r) | cases h
theorem lv_rel {P : Program} {w : World} {d : D} {u : Value} (h : leafD d = true) (g : (lfKind P w).is (lf d) u = true) : RelV (lv d) u := by
  have g' : Leaf.isOf (lf d) u = true ∧ notBl u = true := by simpa [lfKind] using g
  cases d with
  | non => cases u <;> simp [lf, Leaf.isOf] at g' <;> rfl
  | int i =>
    cases u <;> simp [lf, Leaf.isOf, notBl] at g'
    subst g'
    exact ⟨_, rfl⟩
  | str s =>
    obtain ⟨t, rfl⟩ := Value.isStrOf_shape (show Value.isStrOf s u = true from g'.1)
    exact ⟨_, rfl⟩
  | _ => cases h
/-! what a key has; what is put -/
def findK : List D → List D → D → Option D
  | k :: ks, v :: vs, x => if nk k = nk x then some v else findK ks vs x
  | _, _, _ => none
def putK : List D → D → List D
  | k :: ks, x => if nk k = nk x then k :: ks else k :: putK ks x
  | [], x => [x]
def putV : List D → List D → D → D → List D
  | k :: ks, v :: vs, x, y => if nk k = nk x then y :: vs else v :: putV ks vs x y
  | _, _, _, y => [y]
theorem putK_len : ∀ (ks : List D) (x : D), (putK ks x).length ≤ ks.length + 1
  | [], _ => by simp [putK]
  | k :: ks, x => by
    simp only [putK]
    split
    · simp
    · have := putK_len ks x
      simp; exact this
theorem putK_mem : ∀ (ks : List D) (x y : D), y ∈ putK ks x → y ∈ ks ∨ y = x
  | [], x, y, h => by simp [putK] at h; exact .inr h
  | k :: ks, x, y, h => by
    simp only [putK] at h
    split at h
    · exact .inl h
    · rcases List.mem_cons.mp h with z | z
      · exact .inl (by simp [z])
      · rcases putK_mem ks x y z with q | q
        · exact .inl (List.mem_cons_of_mem _ q)
        · exact .inr q
/-- a dict stands at a -/
def DicH (W : KW) (H : Hp) (S : Store) (a : Addr) (ks vs : List D) : Prop := ∃ ob xs ys, H a = some (dO a ob) ∧ DicO W a ob ks xs ys ∧ Reps W H S ks xs ∧ Reps W H S vs ys
/-! tuples as keys -/
section
variable {X : Cx} {pins : List (Addr × Obj)} {σ : L2.St} {H : Hp} {s : Shared} {S : Store}
theorem tri_of (I : L2.Inv X pins σ H s) : ∀ (ks : List D) (xs : List V) (L : List DictEntry), ks.all keyD = true → Reps (kw X) H S ks xs → L.map (·.hash) = ks.map (fun k => (nk k).hash X.w) → Vals xs (L.map (·.key)) →
    ∃ tri : List (NestedKey × Addr × Value), L = tri.map (entryOfKey (nestedKind X.prog X.w)) ∧ tri.map (·.1) = ks.map nk ∧ (∀ t ∈ tri, (nestedKind X.prog X.w).is s.heap t.1 t.2.1) ∧ tri.map (·.2.2) = L.map (·.val) ∧ xs = tri.map fun t => V.ref t.2.1
  | [], xs, L, _, r, eh, rv => by
    simp only [Reps] at r; subst r
    have : L = [] := by simpa using eh
    subst this
    exact ⟨[], rfl, rfl, by simp, rfl, rfl⟩
  | k :: ks, xs, L, hk, r, eh, rv => by
    simp only [Reps] at r
    obtain ⟨v, r', rfl, r1, r2⟩ := r
    cases L with
    | nil => simp at eh
    | cons e L =>
      simp only [List.map_cons] at rv eh
      cases rv with
      | cons q1 q2 =>
        have hk' : keyD k = true ∧ ks.all keyD = true := by simpa using hk
        obtain ⟨tri, t1, t2, t3, t4, t5⟩ := tri_of I ks r' L hk'.2 r2 (List.cons.inj eh).2 q2
        cases k with
        | tup ds =>
          have n1 := nested_of I 8 (.tup ds) v e.key (by simpa [keyD] using hk'.1) r1 q1
          simp only [Rep] at r1
          obtain ⟨b, ys, rfl, _⟩ := r1
          have eb : e.key = .ref b := q1
          rw [eb] at n1
          refine ⟨(nk (.tup ds), b, e.val) :: tri, ?_, by simp [t2], fun t ht => ?_, by simp [t4], by simp [t5]⟩
          · simp only [List.map_cons, t1]
            congr 1
            obtain ⟨h, ky, vl⟩ := e
            simp only at eb
            have : h = (nk (.tup ds)).hash X.w := by simpa using (List.cons.inj eh).1
            subst this eb
            rfl
          · rcases List.mem_cons.mp ht with z | z
            · subst z; exact n1
            · exact t3 t z
        | _ => simp [keyD] at hk'
/-- the dict's entries, tuples as keys -/
structure TriAt (X : Cx) (H : Hp) (S : Store) (h : Heap) (a : Addr) (ks vs : List D) (tri : List (NestedKey × Addr × Value)) : Prop where
  dic : h.DictOfH (nestedKind X.prog X.w) a tri
  key : tri.map (·.1) = ks.map nk
  rk : Reps (kw X) H S ks (tri.map fun t => V.ref t.2.1)
  rv : ∃ ys, Reps (kw X) H S vs ys ∧ Vals ys (tri.map (·.2.2))
  sys : (a == sysModules) = false
  sz : ks.length ≤ sizeLine
theorem tri_at (I : L2.Inv X pins σ H s) {a : Addr} {ks vs : List D} (h : DicH (kw X) H S a ks vs) (hk : ks.all keyD = true) : ∃ tri, TriAt X H S s.heap a ks vs tri := by
  obtain ⟨ob, xs, ys, ho, ⟨es, ep, hx, hd, hs, hl, eh, rk, rv, nd⟩, r1, r2⟩ := h
  have hp : s.heap.get? a = some ob := (I.hok a _ ho).1
  obtain ⟨tri, t1, t2, t3, t4, t5⟩ := tri_of I ks xs es.toList hk r1 eh rk
  exact ⟨tri, ⟨ob, es, ep, hp, hx, hd, t1, t3, by rw [t2]; exact nd⟩, t2, by rw [← t5]; exact r1, ⟨ys, r2, by rw [t4]; exact rv⟩, hs, hl⟩
theorem at_find {W : KW} (x : D) : ∀ (ks vs : List D) (ys : List V) (tri : List (NestedKey × Addr × Value)), tri.map (·.1) = ks.map nk → Reps W H S vs ys → Vals ys (tri.map (·.2.2)) →
    (atKey tri (nk x) = none ∧ findK ks vs x = none) ∨ ∃ b u d y, atKey tri (nk x) = some (b, u) ∧ findK ks vs x = some d ∧ Rep W H S d y ∧ RelV y u
  | [], vs, ys, tri, e, r, rv => by
    have : tri = [] := by simpa using e
    subst this
    exact .inl ⟨rfl, rfl⟩
  | k :: ks, vs, ys, tri, e, r, rv => by
    cases tri with
    | nil => simp at e
    | cons t tri =>
      obtain ⟨tk, tb, tv⟩ := t
      simp only [List.map_cons, List.cons.injEq] at e
      simp only [List.map_cons] at rv
      cases rv with
      | cons q1 q2 =>
        cases vs with
        | nil => simp only [Reps] at r; cases r
        | cons v vs =>
          simp only [Reps] at r
          obtain ⟨y, r', e2, r1, r2⟩ := r
          cases e2
          by_cases h : nk k = nk x
          · refine .inr ⟨tb, tv, v, _, ?_, ?_, r1, q1⟩
            · unfold atKey
              rw [List.find?_cons_of_pos (by simp [e.1, h])]
              rfl
            · simp only [findK, if_pos h]
          · have ih := at_find (W := W) x ks vs _ tri e.2 r2 q2
            have ea : atKey ((tk, tb, tv) :: tri) (nk x) = atKey tri (nk x) := by
              unfold atKey
              rw [List.find?_cons_of_neg (by simp [e.1, h])]
            simp only [findK, if_neg h]
            rw [ea]
            exact ih
theorem stored_rec {x : NestedKey × Addr × Value} {xs : List (NestedKey × Addr × Value)} {k : NestedKey} {a : Addr} {v : Value} (nd : ((x :: xs).map (·.1)).Nodup) :
    storedH (x :: xs) k a v = if x.1 = k then (x.1, x.2.1, v) :: xs else x :: storedH xs k a v := by
  rw [List.map_cons, List.nodup_cons] at nd
  by_cases h : x.1 = k
  · have e : atKey (x :: xs) k = some (x.2.1, x.2.2) := by
      unfold atKey
      rw [List.find?_cons_of_pos (by simp [h])]
      rfl
    rw [storedH_old e, if_pos h, List.map_cons]
    have e1 : putAt k v x = (x.1, x.2.1, v) := by unfold putAt; rw [if_pos h]
    rw [e1]
    congr 1
    conv => rhs; rw [← List.map_id xs]
    refine List.map_congr_left fun y hy => ?_
    unfold putAt
    rw [if_neg fun z => nd.1 (List.mem_map.mpr ⟨y, hy, by rw [z, h]⟩)]
    rfl
  · have ea : atKey (x :: xs) k = atKey xs k := by
      unfold atKey
      rw [List.find?_cons_of_neg (by simp [h])]
    rw [if_neg h]
    unfold storedH
    rw [ea]
    split
    · rw [List.map_cons]
      congr 1
      unfold putAt
      rw [if_neg h]
    · rfl
theorem put_tri {W : KW} {x y : D} {a : Addr} {v : V} {u : Value} (rx : Rep W H S x (.ref a)) (ry : Rep W H S y v) (ru : RelV v u) : ∀ (ks vs : List D) (ys : List V) (tri : List (NestedKey × Addr × Value)), (tri.map (·.1)).Nodup → tri.map (·.1) = ks.map nk →
    Reps W H S ks (tri.map fun t => V.ref t.2.1) → Reps W H S vs ys → Vals ys (tri.map (·.2.2)) →
    (storedH tri (nk x) a u).map (·.1) = (putK ks x).map nk ∧ Reps W H S (putK ks x) ((storedH tri (nk x) a u).map fun t => V.ref t.2.1) ∧ ∃ ys', Reps W H S (putV ks vs x y) ys' ∧ Vals ys' ((storedH tri (nk x) a u).map (·.2.2))
  | [], vs, ys, tri, nd, e, rk, r, rv => by
    have : tri = [] := by simpa using e
    subst this
    exact ⟨rfl, Reps.one rx, [v], by simpa [putV] using Reps.one ry, .cons ru .nil⟩
  | k :: ks, vs, ys, tri, nd, e, rk, r, rv => by
    cases tri with
    | nil => simp at e
    | cons t tri =>
      rw [stored_rec nd]
      obtain ⟨tk, tb, tv⟩ := t
      simp only [List.map_cons, List.cons.injEq] at e
      simp only [List.map_cons] at rv nd rk
      simp only [Reps] at rk
      obtain ⟨_, _, e3, rk1, rk2⟩ := rk
      cases e3
      cases rv with
      | cons q1 q2 =>
        cases vs with
        | nil => simp only [Reps] at r; cases r
        | cons v' vs =>
          simp only [Reps] at r
          obtain ⟨y', r', e2, r1, r2⟩ := r
          cases e2
          by_cases h : tk = nk x
          · have h' : nk k = nk x := by rw [← e.1, h]
            simp only [if_pos h, putK, putV, if_pos h', List.map_cons]
            exact ⟨by rw [e.1, e.2], Reps.cons_ rk1 rk2, v :: _, Reps.cons_ ry r2, .cons ru q2⟩
          · have h' : ¬ nk k = nk x := by rw [← e.1]; exact h
            obtain ⟨z1, z2, ys', z3, z4⟩ := put_tri (W := W) rx ry ru ks vs _ tri (List.nodup_cons.mp nd).2 e.2 rk2 r2 q2
            simp only [if_neg h, putK, putV, if_neg h', List.map_cons]
            exact ⟨by rw [z1, e.1], Reps.cons_ rk1 z2, _ :: ys', Reps.cons_ r1 z3, .cons q1 z4⟩
/-- the entries make the dict -/
theorem dic_of_tri {a : Addr} {ks : List D} {h' : Heap} {tri : List (NestedKey × Addr × Value)} (dic : h'.DictOfH (nestedKind X.prog X.w) a tri) (key : tri.map (·.1) = ks.map nk)
    (sys : (a == sysModules) = false) (sz : ks.length ≤ sizeLine) {ys : List V} (rv : Vals ys (tri.map (·.2.2))) : ∃ ob, h'.get? a = some ob ∧ DicO (kw X) a ob ks (tri.map fun t => V.ref t.2.1) ys := by
  obtain ⟨ob, es, ep, hp, hx, hd, t1, t3, nd⟩ := dic
  refine ⟨ob, hp, es, ep, hx, hd, sys, sz, ?_, ?_, ?_, by rw [← key]; exact nd⟩
  · rw [t1]
    have : ∀ l : List (NestedKey × Addr × Value), (l.map (entryOfKey (nestedKind X.prog X.w))).map (·.hash) = (l.map (·.1)).map fun k => k.hash X.w := fun l => by simp [entryOfKey, nestedKind]
    rw [this, key, List.map_map]; rfl
  · rw [t1]
    have : ∀ l : List (NestedKey × Addr × Value), Vals (l.map fun t => V.ref t.2.1) ((l.map (entryOfKey (nestedKind X.prog X.w))).map (·.key)) := fun l => by
      induction l with
      | nil => exact .nil
      | cons t l ih => exact .cons rfl ih
    exact this tri
  · rw [t1]
    have : (tri.map (entryOfKey (nestedKind X.prog X.w))).map (·.val) = tri.map (·.2.2) := by simp [entryOfKey]
    rw [this]; exact rv
end
end Lf
set_option Elab.async false
set_option linter.all false
set_option maxRecDepth 100000
set_option maxHeartbeats 4000000
namespace Lf
open PySem PySem.Spec PyProof.Rows L2

/-! ### ints, texts, None as keys -/
section
variable {X : Cx} {pins : List (Addr × Obj)} {σ : L2.St} {H : Hp} {s : Shared} {S : Store}
theorem lf_iff {k x : D} (h : leafD k = true) (g : leafD x = true) : lf k = lf x ↔ nk k = nk x :=
  ⟨fun e => by rw [← lf_key h, ← lf_key g, e], fun e => Leaf.key_inj (by rw [lf_key h, lf_key g, e])⟩
theorem kvs_of {W : KW} {P : Program} : ∀ (ks : List D) (xs : List V) (L : List DictEntry), ks.all leafD = true → Reps W H S ks xs → L.map (·.hash) = ks.map (fun k => (nk k).hash W.w) → Vals xs (L.map (·.key)) →
    ∃ kvs : List (Leaf × Value), Pairs (lfKind P W.w) L kvs ∧ kvs.map (·.1) = ks.map lf ∧ kvs.map (·.2) = L.map (·.val) ∧ ∀ e ∈ L, ∃ k, (lfKind P W.w).is k e.key = true ∧ e.hash = (lfKind P W.w).hash k
  | [], xs, L, _, r, eh, rv => by
    have : L = [] := by simpa using eh
    subst this
    exact ⟨[], .nil, rfl, rfl, by simp⟩
  | k :: ks, xs, L, hk, r, eh, rv => by
    simp only [Reps] at r
    obtain ⟨v, r', rfl, r1, r2⟩ := r
    cases L with
    | nil => simp at eh
    | cons e L =>
      simp only [List.map_cons] at rv eh
      cases rv with
      | cons q1 q2 =>
        have hk' : leafD k = true ∧ ks.all leafD = true := by simpa using hk
        obtain ⟨kvs, t1, t2, t3, t4⟩ := kvs_of (W := W) (P := P) ks r' L hk'.2 r2 (List.cons.inj eh).2 q2
        have is1 := lf_is (P := P) (w := W.w) hk'.1 r1 q1
        refine ⟨(lf k, e.val) :: kvs, .cons is1 rfl t1, by simp [t2], by simp [t3], fun e' he => ?_⟩
        rcases List.mem_cons.mp he with z | z
        · subst z
          refine ⟨lf k, is1, ?_⟩
          show e'.hash = (lf k).key.hash W.w
          rw [lf_key hk'.1]
          exact (List.cons.inj eh).1
        · exact t4 e' z
structure KvsAt (X : Cx) (H : Hp) (S : Store) (h : Heap) (a : Addr) (ks vs : List D) (kvs : List (Leaf × Value)) : Prop where
  dic : h.DictOf (lfKind X.prog X.w) a kvs
  key : kvs.map (·.1) = ks.map lf
  rv : ∃ ys, Reps (kw X) H S vs ys ∧ Vals ys (kvs.map (·.2))
  sys : (a == sysModules) = false
  sz : ks.length ≤ sizeLine
theorem nodup_lf {ks : List D} (h : ks.all leafD = true) (nd : (ks.map nk).Nodup) : (ks.map lf).Nodup := by
  have e : ks.map nk = (ks.map lf).map Leaf.key := by
    rw [List.map_map]
    refine List.map_congr_left fun k hk => ?_
    exact (lf_key (List.all_eq_true.mp h k hk)).symm
  rw [e] at nd
  exact List.Pairwise.of_map Leaf.key (fun a b z e => z (by rw [e])) nd
theorem kvs_at (I : L2.Inv X pins σ H s) {a : Addr} {ks vs : List D} (h : DicH (kw X) H S a ks vs) (hk : ks.all leafD = true) : ∃ kvs, KvsAt X H S s.heap a ks vs kvs := by
  obtain ⟨ob, xs, ys, ho, ⟨es, ep, hx, hd, hs, hl, eh, rk, rv, nd⟩, r1, r2⟩ := h
  have hp : s.heap.get? a = some ob := (I.hok a _ ho).1
  obtain ⟨kvs, t1, t2, t3, t4⟩ := kvs_of (W := kw X) (P := X.prog) ks xs es.toList hk r1 eh rk
  exact ⟨kvs, ⟨ob, es, ep, hp, hx, hd, fun e he => t4 e (by simpa using he), t1, by rw [t2]; exact nodup_lf hk nd⟩, t2, ⟨ys, r2, by rw [t3]; exact rv⟩, hs, hl⟩
theorem val_find {W : KW} (x : D) (hx : leafD x = true) : ∀ (ks vs : List D) (ys : List V) (kvs : List (Leaf × Value)), ks.all leafD = true → kvs.map (·.1) = ks.map lf → Reps W H S vs ys → Vals ys (kvs.map (·.2)) →
    (valueAt kvs (lf x) = none ∧ findK ks vs x = none) ∨ ∃ u d y, valueAt kvs (lf x) = some u ∧ findK ks vs x = some d ∧ Rep W H S d y ∧ RelV y u
  | [], vs, ys, kvs, _, e, r, rv => by
    have : kvs = [] := by simpa using e
    subst this
    exact .inl ⟨rfl, rfl⟩
  | k :: ks, vs, ys, kvs, hk, e, r, rv => by
    cases kvs with
    | nil => simp at e
    | cons t kvs =>
      obtain ⟨tk, tv⟩ := t
      simp only [List.map_cons, List.cons.injEq] at e
      simp only [List.map_cons] at rv
      have hk' : leafD k = true ∧ ks.all leafD = true := by simpa using hk
      cases rv with
      | cons q1 q2 =>
        cases vs with
        | nil => simp only [Reps] at r; cases r
        | cons v vs =>
          simp only [Reps] at r
          obtain ⟨y, r', e2, r1, r2⟩ := r
          cases e2
          by_cases h : nk k = nk x
          · have h' : tk = lf x := by rw [e.1]; exact (lf_iff hk'.1 hx).mpr h
            refine .inr ⟨tv, v, _, ?_, ?_, r1, q1⟩
            · unfold valueAt
              rw [List.find?_cons_of_pos (by simp [h'])]
              rfl
            · simp only [findK, if_pos h]
          · have h' : ¬ tk = lf x := by rw [e.1]; exact fun z => h ((lf_iff hk'.1 hx).mp z)
            have ih := val_find (W := W) x hx ks vs _ kvs hk'.2 e.2 r2 q2
            have ea : valueAt ((tk, tv) :: kvs) (lf x) = valueAt kvs (lf x) := by
              unfold valueAt
              rw [List.find?_cons_of_neg (by simp [h'])]
            simp only [findK, if_neg h]
            rw [ea]
            exact ih
theorem stored_recL {x : Leaf × Value} {xs : List (Leaf × Value)} {k : Leaf} {v : Value} (nd : ((x :: xs).map (·.1)).Nodup) :
    stored (x :: xs) k v = if x.1 = k then (x.1, v) :: xs else x :: stored xs k v := by
  rw [List.map_cons, List.nodup_cons] at nd
  unfold stored
  by_cases h : x.1 = k
  · rw [if_pos h, if_pos (by simp [h]), List.map_cons, if_pos h]
    congr 1
    conv => rhs; rw [← List.map_id xs]
    refine List.map_congr_left fun y hy => ?_
    rw [if_neg fun z => nd.1 (List.mem_map.mpr ⟨y, hy, by rw [z, h]⟩)]
    rfl
  · rw [if_neg h]
    have : ((x :: xs).any fun kv => decide (kv.1 = k)) = xs.any fun kv => decide (kv.1 = k) := by simp [h]
    rw [this]
    split
    · rw [List.map_cons, if_neg h]
    · rfl
theorem put_kvs {W : KW} {x y : D} {v : V} {u : Value} (hx : leafD x = true) (ry : Rep W H S y v) (ru : RelV v u) : ∀ (ks vs : List D) (ys : List V) (kvs : List (Leaf × Value)), ks.all leafD = true → (kvs.map (·.1)).Nodup → kvs.map (·.1) = ks.map lf →
    Reps W H S vs ys → Vals ys (kvs.map (·.2)) →
    (stored kvs (lf x) u).map (·.1) = (putK ks x).map lf ∧ ∃ ys', Reps W H S (putV ks vs x y) ys' ∧ Vals ys' ((stored kvs (lf x) u).map (·.2))
  | [], vs, ys, kvs, hk, nd, e, r, rv => by
    have : kvs = [] := by simpa using e
    subst this
    exact ⟨rfl, [v], by simpa [putV] using Reps.one ry, .cons ru .nil⟩
  | k :: ks, vs, ys, kvs, hk, nd, e, r, rv => by
    cases kvs with
    | nil => simp at e
    | cons t kvs =>
      rw [stored_recL nd]
      obtain ⟨tk, tv⟩ := t
      simp only [List.map_cons, List.cons.injEq] at e
      simp only [List.map_cons] at rv nd
      have hk' : leafD k = true ∧ ks.all leafD = true := by simpa using hk
      cases rv with
      | cons q1 q2 =>
        cases vs with
        | nil => simp only [Reps] at r; cases r
        | cons v' vs =>
          simp only [Reps] at r
          obtain ⟨y', r', e2, r1, r2⟩ := r
          cases e2
          by_cases h : tk = lf x
          · have h' : nk k = nk x := (lf_iff hk'.1 hx).mp (by rw [← e.1, h])
            simp only [if_pos h, putK, putV, if_pos h', List.map_cons]
            exact ⟨by rw [e.1, e.2], v :: _, Reps.cons_ ry r2, .cons ru q2⟩
          · have h' : ¬ nk k = nk x := fun z => h (by rw [e.1]; exact (lf_iff hk'.1 hx).mpr z)
            obtain ⟨z1, ys', z3, z4⟩ := put_kvs (W := W) hx ry ru ks vs _ kvs hk'.2 (List.nodup_cons.mp nd).2 e.2 r2 q2
            simp only [if_neg h, putK, putV, if_neg h', List.map_cons]
            exact ⟨by rw [z1, e.1], _ :: ys', Reps.cons_ r1 z3, .cons q1 z4⟩
theorem lv_reps {W : KW} : ∀ {ks : List D}, ks.all leafD = true → Reps W H S ks (ks.map lv)
  | [], _ => Reps.nil_
  | k :: ks, h => by
    have h' : leafD k = true ∧ ks.all leafD = true := by simpa using h
    exact Reps.cons_ (lv_rep h'.1) (lv_reps h'.2)
theorem pairs_keys {P : Program} {w : World} : ∀ {es : List DictEntry} {kvs : List (Leaf × Value)} {ks : List D}, Pairs (lfKind P w) es kvs → kvs.map (·.1) = ks.map lf → ks.all leafD = true → (∀ e ∈ es, ∃ k, (lfKind P w).is k e.key = true ∧ e.hash = (lfKind P w).hash k) →
    es.map (·.hash) = ks.map (fun k => (nk k).hash w) ∧ Vals (ks.map lv) (es.map (·.key)) ∧ es.map (·.val) = kvs.map (·.2)
  | _, _, ks, .nil, e, _, _ => by
    have : ks = [] := by simpa using e.symm
    subst this
    exact ⟨rfl, .nil, rfl⟩
  | _, _, ks, @Pairs.cons _ _ _ _ _ en kv es kvs h1 h2 t, e, hk, hh => by
    cases ks with
    | nil => simp at e
    | cons k ks =>
      simp only [List.map_cons, List.cons.injEq] at e
      have hk' : leafD k = true ∧ ks.all leafD = true := by simpa using hk
      obtain ⟨a1, a2, a3⟩ := pairs_keys t e.2 hk'.2 fun e' he => hh e' (List.mem_cons_of_mem _ he)
      rw [e.1] at h1
      obtain ⟨k', b1, b2⟩ := hh en (by simp)
      have ek : k' = lf k := (lfKind P w).inj _ _ _ b1 h1
      refine ⟨?_, .cons (lv_rel hk'.1 h1) a2, by simp [h2, a3]⟩
      simp only [List.map_cons, a1, b2, ek]
      congr 1
      show (lf k).key.hash w = _
      rw [lf_key hk'.1]
theorem dic_of_kvs {a : Addr} {ks : List D} {h' : Heap} {kvs : List (Leaf × Value)} (dic : h'.DictOf (lfKind X.prog X.w) a kvs) (key : kvs.map (·.1) = ks.map lf) (hk : ks.all leafD = true)
    (sys : (a == sysModules) = false) (sz : ks.length ≤ sizeLine) {ys : List V} (rv : Vals ys (kvs.map (·.2))) : ∃ ob, h'.get? a = some ob ∧ DicO (kw X) a ob ks (ks.map lv) ys := by
  obtain ⟨ob, es, ep, hp, hx, hd, hko, hpa, nd⟩ := dic
  obtain ⟨a1, a2, a3⟩ := pairs_keys hpa key hk fun e he => hko e (by simpa using he)
  refine ⟨ob, hp, es, ep, hx, hd, sys, sz, a1, a2, by rw [a3]; exact rv, ?_⟩
  have e : ks.map nk = (ks.map lf).map Leaf.key := by
    rw [List.map_map]
    refine List.map_congr_left fun k hk2 => ?_
    exact (lf_key (List.all_eq_true.mp hk k hk2)).symm
  rw [e, ← key]
  exact List.Pairwise.map Leaf.key (fun a b z e => z (Leaf.key_inj e)) nd
end
end Lf
set_option Elab.async false
set_option linter.all false
set_option maxRecDepth 100000
set_option maxHeartbeats 4000000
namespace Lf
open PySem PySem.Spec PyProof.Rows L2

theorem keyD_tup {d : D} (h : keyD d = true) : ∃ ds, d = .tup ds ∧ kd 8 (.tup ds) = true := by
  cases d <;> first | exact ⟨_, rfl, h⟩ | cases h
/-- the dict at a may be asked for the key k -/
def DAsk (W : KW) (H : Hp) (S : Store) (a : Addr) (ks vs : List D) (k : D) (x : V) : Prop := ∃ b, DicH W H S a ks vs ∧ ks.all (kOk b) = true ∧ kOk b k = true ∧ Rep W H S k x
section
variable {X : Cx} {pins : List (Addr × Obj)} {σ : L2.St} {H : Hp} {s : Shared} {S : Store} {a : Addr} {ks vs : List D} {k y : D} {x : V} {u r : Value} {E : Value → Shared → Prop} {A : Around}
theorem room_of (hu : A.units + 65 < cLine) : (nestedKind X.prog X.w).room A.in1 := by
  show A.units + 1 + 8 < cLine
  omega
theorem dic_in {Q : Value → Shared → Prop} (hu : A.units + 65 < cLine) (I : L2.Inv X pins σ H s) (g : DAsk (kw X) H S a ks vs k x) (rx : RelV x u) (neg : Bool)
    (q : ∀ t, Q (.bool (neg ^^ (findK ks vs k).isSome)) { s with toks := t }) : wpAny (model X.prog X.w) A (compareOp (if neg = true then .NotIn else .In) u (.ref a)) Q E s := by
  obtain ⟨b, hd, hk, hx, rk⟩ := g
  cases b with
  | true =>
    obtain ⟨tri, T⟩ := tri_at I hd (by simpa [kOk] using hk)
    have hx' : keyD k = true := by simpa [kOk] using hx
    obtain ⟨ds, rfl, hx2⟩ := keyD_tup hx'
    have n1 := nested_of I 8 _ x u hx2 rk rx
    simp only [Rep] at rk
    obtain ⟨c, zs, rfl, _⟩ := rk
    cases rx
    obtain ⟨ys, rv, vv⟩ := T.rv
    have hs : (atKey tri (nk (.tup ds))).isSome = (findK ks vs (.tup ds)).isSome := by
      rcases at_find (.tup ds) ks vs ys tri T.key rv vv with ⟨e1, e2⟩ | ⟨_, _, _, _, e1, e2, _, _⟩ <;> rw [e1, e2] <;> rfl
    cases neg with
    | true => exact wpAny_notIn_heap (room_of hu) n1 T.sys T.dic (by rw [hs]; simpa using q _)
    | false => exact wpAny_in_heap (room_of hu) n1 T.sys T.dic (by rw [hs]; simpa using q _)
  | false =>
    have hk' : ks.all leafD = true := by simpa [kOk] using hk
    have hx' : leafD k = true := by simpa [kOk] using hx
    obtain ⟨kvs, T⟩ := kvs_at I hd hk'
    obtain ⟨ys, rv, vv⟩ := T.rv
    have hs : (valueAt kvs (lf k)).isSome = (findK ks vs k).isSome := by
      rcases val_find k hx' ks vs ys kvs hk' T.key rv vv with ⟨e1, e2⟩ | ⟨_, _, _, e1, e2, _, _⟩ <;> rw [e1, e2] <;> rfl
    cases neg with
    | true => exact wpAny_notIn_of (lf_is hx' rk rx) T.sys T.dic.mapOf (by rw [hs]; simpa using q _)
    | false => exact wpAny_in_of (lf_is hx' rk rx) T.sys T.dic.mapOf (by rw [hs]; simpa using q _)
theorem dic_getItem {Q : Value → Shared → Prop} (hu : A.units + 65 < cLine) (I : L2.Inv X pins σ H s) (g : DAsk (kw X) H S a ks vs k x) (rx : RelV x u) (e : findK ks vs k = some y)
    (q : ∀ t v w, Rep (kw X) H S y v → RelV v w → Q w { s with toks := t }) : wpAny (model X.prog X.w) A (getItem (.ref a) u) Q E s := by
  obtain ⟨b, hd, hk, hx, rk⟩ := g
  cases b with
  | true =>
    obtain ⟨tri, T⟩ := tri_at I hd (by simpa [kOk] using hk)
    have hx' : keyD k = true := by simpa [kOk] using hx
    obtain ⟨ds, rfl, hx2⟩ := keyD_tup hx'
    have n1 := nested_of I 8 _ x u hx2 rk rx
    simp only [Rep] at rk
    obtain ⟨c, zs, rfl, _⟩ := rk
    cases rx
    obtain ⟨ys, rv, vv⟩ := T.rv
    rcases at_find (.tup ds) ks vs ys tri T.key rv vv with ⟨e1, e2⟩ | ⟨b, w, d, v, e1, e2, e3, e4⟩
    · rw [e] at e2; cases e2
    · rw [e] at e2; cases e2
      exact wpAny_getItem_heap (room_of hu) n1 T.dic e1 (q _ v w e3 e4)
  | false =>
    have hk' : ks.all leafD = true := by simpa [kOk] using hk
    have hx' : leafD k = true := by simpa [kOk] using hx
    obtain ⟨kvs, T⟩ := kvs_at I hd hk'
    obtain ⟨ys, rv, vv⟩ := T.rv
    rcases val_find k hx' ks vs ys kvs hk' T.key rv vv with ⟨e1, e2⟩ | ⟨w, d, v, e1, e2, e3, e4⟩
    · rw [e] at e2; cases e2
    · rw [e] at e2; cases e2
      exact wpAny_getItem_of (lf_is hx' rk rx) T.dic.mapOf e1 (q _ v w e3 e4)
theorem dic_type (I : L2.Inv X pins σ H s) (h : DicH (kw X) H S a ks vs) : ∃ es ep, s.heap.DictRaw a es ep ∧ s.TypeIs (.ref a) "dict" ∧ (∀ b, Value.ref a = .ref b → ∃ ob, s.heap.get? b = some ob ∧ ob.dict = none) ∧ (a == sysModules) = false ∧ es.size = ks.length ∧ ks.length ≤ sizeLine ∧
    ∃ xs ys, Reps (kw X) H S ks xs ∧ Reps (kw X) H S vs ys ∧ Vals xs (es.toList.map (·.key)) ∧ Vals ys (es.toList.map (·.val)) := by
  obtain ⟨ob, xs, ys, ho, ⟨es, ep, hx, hd, hs, hl, eh, rk, rv, nd⟩, r1, r2⟩ := h
  have hp : s.heap.get? a = some ob := (I.hok a _ ho).1
  refine ⟨es, ep, ⟨ob, hp, hx, hd⟩, ⟨ob, hp, hx.1⟩, fun b e => ?_, hs, ?_, hl, xs, ys, r1, r2, rk, rv⟩
  · cases e; exact ⟨ob, hp, hx.2.1⟩
  · have := congrArg List.length eh
    simpa using this
theorem dic_get1 {Q : Value → Shared → Prop} (hu : A.units + 65 < cLine) (I : L2.Inv X pins σ H s) (g : DAsk (kw X) H S a ks vs k x) (rx : RelV x u)
    (q : ∀ t v w, Rep (kw X) H S ((findK ks vs k).getD .non) v → RelV v w → Q w { s with toks := t }) : wpAny (model X.prog X.w) A (call (.builtin "dict.get") [.ref a, u]) Q E s := by
  obtain ⟨b, hd, hk, hx, rk⟩ := g
  obtain ⟨es, ep, hraw, hT, _⟩ := dic_type I hd
  cases b with
  | true =>
    obtain ⟨tri, T⟩ := tri_at I hd (by simpa [kOk] using hk)
    have hx' : keyD k = true := by simpa [kOk] using hx
    obtain ⟨ds, rfl, hx2⟩ := keyD_tup hx'
    have n1 := nested_of I 8 _ x u hx2 rk rx
    simp only [Rep] at rk
    obtain ⟨c, zs, rfl, _⟩ := rk
    cases rx
    obtain ⟨ys, rv, vv⟩ := T.rv
    refine call_meetsIn PySem.F.slot_dict_get hT PySem.F.entry_dict_get (PySem.F.args_dict_get_2 _ _) (meetsH_dict_get (nestedKind X.prog X.w) a c T.sys) ⟨room_of hu, _, tri, n1, T.dic, ?_⟩
    rcases at_find (.tup ds) ks vs ys tri T.key rv vv with ⟨e1, e2⟩ | ⟨b, w, d, v, e1, e2, e3, e4⟩
    · rw [e1]; rw [e2] at q
      exact q _ .non .none (by simp [Rep]) rfl
    · rw [e1]; rw [e2] at q
      exact q _ v w e3 e4
  | false =>
    have hk' : ks.all leafD = true := by simpa [kOk] using hk
    have hx' : leafD k = true := by simpa [kOk] using hx
    obtain ⟨kvs, T⟩ := kvs_at I hd hk'
    obtain ⟨ys, rv, vv⟩ := T.rv
    refine call_meetsIn PySem.F.slot_dict_get hT PySem.F.entry_dict_get (PySem.F.args_dict_get_2 _ _) (meets_dict_get (lfKind X.prog X.w) a (lf_is hx' rk rx) T.sys) ⟨_, T.dic.mapOf, ?_⟩
    rcases val_find k hx' ks vs ys kvs hk' T.key rv vv with ⟨e1, e2⟩ | ⟨w, d, v, e1, e2, e3, e4⟩
    · rw [e1]; rw [e2] at q
      exact q _ .non .none (by simp [Rep]) rfl
    · rw [e1]; rw [e2] at q
      exact q _ v w e3 e4
theorem dic_get2 {Q : Value → Shared → Prop} {z : D} {zv : V} (hu : A.units + 65 < cLine) (I : L2.Inv X pins σ H s) (g : DAsk (kw X) H S a ks vs k x) (rx : RelV x u) (rz : Rep (kw X) H S z zv) (rr : RelV zv r)
    (q : ∀ t v w, Rep (kw X) H S ((findK ks vs k).getD z) v → RelV v w → Q w { s with toks := t }) : wpAny (model X.prog X.w) A (call (.builtin "dict.get") [.ref a, u, r]) Q E s := by
  obtain ⟨b, hd, hk, hx, rk⟩ := g
  obtain ⟨es, ep, hraw, hT, _⟩ := dic_type I hd
  cases b with
  | true =>
    obtain ⟨tri, T⟩ := tri_at I hd (by simpa [kOk] using hk)
    have hx' : keyD k = true := by simpa [kOk] using hx
    obtain ⟨ds, rfl, hx2⟩ := keyD_tup hx'
    have n1 := nested_of I 8 _ x u hx2 rk rx
    simp only [Rep] at rk
    obtain ⟨c, zs, rfl, _⟩ := rk
    cases rx
    obtain ⟨ys, rv, vv⟩ := T.rv
    refine call_meetsIn PySem.F.slot_dict_get hT PySem.F.entry_dict_get (PySem.F.args_dict_get_3 _ _ _) (meetsH_dict_get_default (nestedKind X.prog X.w) a c T.sys r) ⟨room_of hu, _, tri, n1, T.dic, ?_⟩
    rcases at_find (.tup ds) ks vs ys tri T.key rv vv with ⟨e1, e2⟩ | ⟨b, w, d, v, e1, e2, e3, e4⟩
    · rw [e1]; rw [e2] at q
      exact q _ _ _ rz rr
    · rw [e1]; rw [e2] at q
      exact q _ v w e3 e4
  | false =>
    have hk' : ks.all leafD = true := by simpa [kOk] using hk
    have hx' : leafD k = true := by simpa [kOk] using hx
    obtain ⟨kvs, T⟩ := kvs_at I hd hk'
    obtain ⟨ys, rv, vv⟩ := T.rv
    refine call_meetsIn PySem.F.slot_dict_get hT PySem.F.entry_dict_get (PySem.F.args_dict_get_3 _ _ _) (meets_dict_get_default (lfKind X.prog X.w) a (lf_is hx' rk rx) T.sys r) ⟨_, T.dic.mapOf, ?_⟩
    rcases val_find k hx' ks vs ys kvs hk' T.key rv vv with ⟨e1, e2⟩ | ⟨w, d, v, e1, e2, e3, e4⟩
    · rw [e1]; rw [e2] at q
      exact q _ _ _ rz rr
    · rw [e1]; rw [e2] at q
      exact q _ v w e3 e4
/-- d[k] = y -/
theorem dic_setItem {Q : Unit → Shared → Prop} {v : V} (hu : A.units + 65 < cLine) (I : L2.Inv X pins σ H s) (g : DAsk (kw X) H S a ks vs k x) (rx : RelV x u) (ry : Rep (kw X) H S y v) (rr : RelV v r) (hz : ks.length < sizeLine)
    (q : ∀ t ob h' xs' ys', L2.Inv X pins σ (upd H a (dO a ob)) { s with heap := h', toks := t } → DicO (kw X) a ob (putK ks k) xs' ys' → Reps (kw X) H S (putK ks k) xs' → Reps (kw X) H S (putV ks vs k y) ys' → Q () { s with heap := h', toks := t }) :
    wpAny (model X.prog X.w) A (setItem (.ref a) u r) Q E s := by
  obtain ⟨b, hd, hk, hx, rk⟩ := g
  have hm : Mut (H a) := by obtain ⟨ob, _, _, ho, _⟩ := hd; rw [ho]; exact dO.mut
  have hzl : (putK ks k).length ≤ sizeLine := by have := putK_len ks k; omega
  cases b with
  | true =>
    obtain ⟨tri, T⟩ := tri_at I hd (by simpa [kOk] using hk)
    have hx' : keyD k = true := by simpa [kOk] using hx
    obtain ⟨ds, rfl, hx2⟩ := keyD_tup hx'
    have n1 := nested_of I 8 _ x u hx2 rk rx
    have rk0 := rk
    simp only [Rep] at rk
    obtain ⟨c, zs, rfl, _⟩ := rk
    cases rx
    obtain ⟨ys, rv, vv⟩ := T.rv
    have hl : tri.length = ks.length := by have := congrArg List.length T.key; simpa using this
    have nd : (tri.map (·.1)).Nodup := by obtain ⟨_, _, _, _, _, _, _, _, nd⟩ := T.dic; exact nd
    refine wpAny_setItem_heap (hsz := by omega) (room_of hu) n1 T.dic fun h' hd' hs => ?_
    obtain ⟨z1, z2, ys', z3, z4⟩ := put_tri rk0 ry rr ks vs ys tri nd T.key T.rk rv vv
    obtain ⟨ob, ho, hD⟩ := dic_of_tri (X := X) hd' z1 T.sys hzl z4
    exact q _ ob h' _ _ (d_write I hm hs ⟨ob, ho⟩ ⟨ho, ⟨ob, ho⟩, fun h1 h2 e k => k _ e⟩) hD z2 z3
  | false =>
    have hk' : ks.all leafD = true := by simpa [kOk] using hk
    have hx' : leafD k = true := by simpa [kOk] using hx
    obtain ⟨kvs, T⟩ := kvs_at I hd hk'
    obtain ⟨ys, rv, vv⟩ := T.rv
    have hl : kvs.length = ks.length := by have := congrArg List.length T.key; simpa using this
    have nd : (kvs.map (·.1)).Nodup := by obtain ⟨_, _, _, _, _, _, _, _, nd⟩ := T.dic; exact nd
    refine wpAny_setItem_pairs (hsz := by omega) (lf_is hx' rk rx) T.dic fun h' hd' hs => ?_
    obtain ⟨z1, ys', z3, z4⟩ := put_kvs hx' ry rr ks vs ys kvs hk' nd T.key rv vv
    have hall : (putK ks k).all leafD = true := by
      rw [List.all_eq_true]
      intro y hy
      rcases putK_mem ks k y hy with z | z
      · exact List.all_eq_true.mp hk' y z
      · rw [z]; exact hx'
    obtain ⟨ob, ho, hD⟩ := dic_of_kvs (X := X) hd' z1 hall T.sys hzl z4
    exact q _ ob h' _ _ (d_write I hm hs ⟨ob, ho⟩ ⟨ho, ⟨ob, ho⟩, fun h1 h2 e k => k _ e⟩) hD (lv_reps hall) z3
end

/-! ### as rules -/
def rInDic (W : KW) (neg : Bool) : R2 := fun x y H Q => ∃ S a ks vs k, y = .ref a ∧ DAsk W H S a ks vs k x ∧ Q (.bl (neg ^^ (findK ks vs k).isSome)) H
section
variable {X : Cx}
theorem op_inDic (hu : X.A.units + 65 < cLine) : OpR X (compareOp .In) (rInDic (kw X) false) := by
  intro pins s σ H x y v u Q I rx ry ⟨S, a, ks, vs, k, ey, g, q⟩
  subst ey
  cases ry
  exact dic_in hu I g rx false fun t => ⟨.bl _, H, I.tok t, rfl, q⟩
theorem op_notInDic (hu : X.A.units + 65 < cLine) : OpR X (compareOp .NotIn) (rInDic (kw X) true) := by
  intro pins s σ H x y v u Q I rx ry ⟨S, a, ks, vs, k, ey, g, q⟩
  subst ey
  cases ry
  exact dic_in hu I g rx true fun t => ⟨.bl _, H, I.tok t, rfl, q⟩
def rIxDic (W : KW) : R2 := fun x y H Q => ∃ S a ks vs k d, x = .ref a ∧ DAsk W H S a ks vs k y ∧ findK ks vs k = some d ∧ ∀ w, Rep W H S d w → Q w H
theorem ix_dic (hu : X.A.units + 65 < cLine) : IxR X (rIxDic (kw X)) := by
  intro value slice pins s σ H x y v u Q I rx ry ⟨S, a, ks, vs, k, d, ex, g, e, q⟩ hs
  subst ex
  cases rx
  have hT : s.TypeIs (.ref a) "dict" := by
    obtain ⟨b, hd, _⟩ := g
    obtain ⟨_, _, _, hT, _⟩ := dic_type I hd
    exact hT
  exact tail_any hT PySem.F.slot_dict_getitem.lookup (dic_getItem hu I g ry e fun t v w rv rw' => ⟨v, H, I.tok t, rw', q v rv⟩) hs
def rSetDic (W : KW) : TSet := fun o i v H Q => ∃ S a ks vs k y, o = .ref a ∧ DAsk W H S a ks vs k i ∧ ks.length < sizeLine ∧ Rep W H S y v ∧
  ∀ ob xs' ys', DicO W a ob (putK ks k) xs' ys' → Reps W H S (putK ks k) xs' → Reps W H S (putV ks vs k y) ys' → Q (upd H a (dO a ob))
theorem set_dic (hu : X.A.units + 65 < cLine) : PSet X (rSetDic (kw X)) := by
  intro pins s σ H o i v ov iv u Q I ro ri rv ⟨S, a, ks, vs, k, y, eo, g, hz, ry, q⟩
  subst eo
  cases ro
  exact dic_setItem hu I g ri ry rv hz fun t ob h' xs' ys' I' hD r1 r2 => ⟨_, I', q ob xs' ys' hD r1 r2⟩
def rLenDic (W : KW) : List V → Hp → VK → Prop := fun xs H Q => ∃ S a ks vs, xs = [.ref a] ∧ DicH W H S a ks vs ∧ Q (.int ks.length) H
theorem call_lenDic : CallR X (.builtin "len") (rLenDic (kw X)) := by
  intro pins s σ H xs us Q I r ⟨S, a, ks, vs, ex, hd, q⟩
  subst ex
  obtain ⟨u, rfl, rx⟩ := L2.vals1 r
  cases rx
  obtain ⟨es, ep, hraw, hT, _, hs, hl, hz, _⟩ := dic_type I hd
  rw [sizeLine_eq] at hz
  refine PyProof.Rows.call_len_slot (n := (ks.length : Int)) hT PySem.F.slot_dict_len (fun Q' hq => call_len_raw hs hraw (by rw [hl]; exact hq)) (by omega) (by omega) ?_
  exact ⟨.int ks.length, H, I.tok _, ⟨_, rfl⟩, q⟩
theorem vals_at {xs : List V} {us : List Value} (h : Vals xs us) {i : Nat} {u : Value} (e : us[i]? = some u) : ∃ x, xs[i]? = some x ∧ RelV x u := by
  induction h generalizing i with
  | nil => simp at e
  | cons r t ih =>
    cases i with
    | zero => simp at e; subst e; exact ⟨_, rfl, r⟩
    | succ i => simpa using ih (by simpa using e)
theorem vals_of {xs : List V} : ∀ {us : List Value}, us.length = xs.length → (∀ (i : Nat) (u : Value), us[i]? = some u → ∃ x, xs[i]? = some x ∧ RelV x u) → Vals xs us := by
  induction xs with
  | nil =>
    intro us hl _
    have : us = [] := by simpa using hl
    subst this; exact .nil
  | cons x xs ih =>
    intro us hl h
    cases us with
    | nil => simp at hl
    | cons u us =>
      obtain ⟨y, e, r⟩ := h 0 u rfl
      simp at e; subst e
      exact .cons r (ih (by simpa using hl) fun i u e => by
        obtain ⟨y, e1, r1⟩ := h (i + 1) u (by simpa using e)
        exact ⟨y, by simpa using e1, r1⟩)
def rListDic (W : KW) : List V → Hp → VK → Prop := fun xs H Q => ∃ S a ks vs, xs = [.ref a] ∧ DicH W H S a ks vs ∧ ∀ zs l, Reps W H S ks zs → H l = none → Q (.ref l) (upd H l (.lst zs))
theorem call_listDic (hc : X.calm = true) : CallR X (.type "list") (rListDic (kw X)) := by
  intro pins s σ H xs us Q I r ⟨S, a, ks, vs, ex, hd, q⟩
  subst ex
  obtain ⟨u, rfl, rx⟩ := L2.vals1 r
  cases rx
  obtain ⟨es, ep, hraw, hT, _, hs, hl, hz, xs, ys, r1, r2, v1, v2⟩ := dic_type I hd
  refine PySem.W.kdl_call (KdlSrc.rawDict hs) (I.ok.hd hc) hraw (by omega) fun h' tk acc' c' hk he ⟨hn, hp⟩ => ?_
  have hv : Vals xs acc'.toList := by
    have lx : xs.length = es.toList.length := by have := v1.length; simpa using this
    refine vals_of (by simp at lx ⊢; omega) fun i u e => ?_
    obtain ⟨hi, e2⟩ := hp i u (by simpa using e)
    subst e2
    refine vals_at v1 (i := i) ?_
    rw [List.getElem?_map, Array.getElem?_toList, Array.getElem?_eq_getElem hi]
    rfl
  have hx : xs.length ≤ sizeLine := by have := r1.length; omega
  exact ⟨.ref s.heap.objs.size, _, I.laid (t' := tk) (o := .lst xs) hk (Nat.le_refl _) (show ObjOk X.prog X.w _ h' _ (.lst xs) from ⟨hx, acc'.toList, c', hv, by simpa using he⟩), rfl, q xs _ r1 (I.hok.fresh (Nat.le_refl _))⟩
/-! ### for k in d -/
/-- the keys of the very object ob at d -/
def ItkD (d : Addr) (ob : Obj) (zs : List V) : It :=
  ⟨fun i H => H d = some (dO d ob) ∧ i < zs.length, fun i H x H' => H' = H ∧ zs[i]? = some x, fun i H => H d = some (dO d ob) ∧ i = zs.length⟩
theorem turn_keysD {P : Program} {w : World} {K : PySem.W.Frag} {tg : Expr} {d : Addr} {ob : Obj} {zs : List V} {es : Array DictEntry} {ep : Nat} (it : Addr) (hx : ob.ExactDict) (hod : ob.data = .dict es ep) (hs : (d == sysModules) = false) (hz : Vals zs (es.toList.map (·.key))) :
    Turn P w K tg (ItkD d ob zs) [it] it (fun i h => h.IsKeyIter it d i es.size ep) where
  mem := by simp
  obj := fun i h st b hb => by
    have e : b = it := by simpa using hb
    subst e
    obtain ⟨oi, e, c, dd⟩ := st
    exact ⟨oi, e, fun v z => by rw [dd] at z; cases z⟩
  keep := fun i h h' st k => st.at fun oi e => k it (by simp) oi e
  item := by
    intro X hP hw hK hc i pins s σ H E I hf st hg
    subst hP hw hK
    obtain ⟨hd, hi⟩ := hg
    obtain ⟨f0, f1, f2, f3, f4, f5⟩ := hf it (by simp)
    have hgd : s.heap.get? d = some ob := (I.hok d _ hd).1
    have hl : zs.length = es.size := by have := hz.length; simpa using this
    have hi' : i < es.size := by omega
    have hen : es[i]? = some es[i] := Array.getElem?_eq_getElem hi'
    obtain ⟨x, e1, rx⟩ := vals_at hz (i := i) (u := es[i].key) (by rw [List.getElem?_map, Array.getElem?_toList, hen]; rfl)
    refine next_key_item st hgd hod rfl hen fun h' st' sb => ?_
    have I1 : L2.Inv X pins σ H { s with heap := h' } := I.turned (t' := s.toks) (fun b ob hb e => (sb.2 b hb).trans e) f0 f1 f3 f4 f5
    obtain ⟨oi, e, c, dd⟩ := id st'
    exact ⟨es[i].key, rfl, go_of (s := { s with heap := h' }) e c dd (by decide) ⟨x, H, I1, rx, ⟨rfl, e1⟩, st', fun b hb => (hf b hb).1⟩⟩
  done := by
    intro X hP hw hK hc i pins s σ H E I hf st hg
    subst hP hw hK
    obtain ⟨hd, hi⟩ := hg
    obtain ⟨f0, f1, f2, f3, f4, f5⟩ := hf it (by simp)
    have hgd : s.heap.get? d = some ob := (I.hok d _ hd).1
    have hl : zs.length = es.size := by have := hz.length; simpa using this
    exact next_key_end (I.ok.hd hc) st hgd hod rfl (by omega) fun h' eb => ⟨rfl, I.turned (t' := s.toks) (fun b ob hb e => eb b ob hb e) f0 f1 f3 f4 f5⟩
  self := fun A i s Q E st h => by
    refine wpAny_pyIter_slot st.typeIs PySem.F.slot_dict_keyiterator_iter (wpAny_call_entry PySem.F.slot_dict_keyiterator_iter st.typeIs PySem.F.entry_dict_keyiterator_iter ?_ (PySem.F.args_dict_keyiterator_iter_1 _))
    show wpAny _ _ (ret (.ref it)) _ _ s
    exact wpAny_pure ⟨_, rfl, "dict_keyiterator", _, st.typeIs, PySem.F.slot_dict_keyiterator_next.lookup, h⟩
theorem iter_dic {tg : Expr} {pins : List (Addr × Obj)} {σ : L2.St} {H : Hp} {s : Shared} {a : Addr} {ob : Obj} {ks : List D} {xs ys : List V} {R : It → Hp → Prop} {E : Value → Shared → Prop} (I : L2.Inv X pins σ H s) (ho : H a = some (dO a ob)) (hD : DicO (kw X) a ob ks xs ys) (q : R (ItkD a ob xs) H) :
    wpAny (model X.prog X.w) X.A (pyIter (.ref a)) (PIE X pins σ tg R) E s := by
  obtain ⟨es, ep, hx, hd, hs, hl, eh, rk, rv, nd⟩ := hD
  have hp : s.heap.get? a = some ob := (I.hok a _ ho).1
  exact iter_keys hs hp hx hd (pi_one (tk := s.toks) I _ (turn_keysD _ hx hd hs rk) ⟨_, Heap.get?_push_size _ rfl, rfl, rfl⟩ q)
/-! ### {}, {k: v} -/
theorem dic_empty (h : Heap) (hb : sysModules < h.objs.size) : DicO (kw X) h.objs.size { cls := .type "dict", data := .dict #[] } [] [] [] :=
  ⟨#[], 0, ⟨rfl, rfl, rfl⟩, rfl, beq_eq_false_iff_ne.mpr (Ne.symm (Nat.ne_of_lt hb)), Nat.zero_le _, rfl, .nil, .nil, List.nodup_nil⟩
/-- the empty dict at p takes a first entry -/
theorem dic_first {pins : List (Addr × Obj)} {σ : L2.St} {H : Hp} {s : Shared} {S : Store} {p : Addr} {ob : Obj} {k y : D} {x v : V} {u r : Value} {E : Value → Shared → Prop} {Q : Unit → Shared → Prop} {A : Around} (hu : A.units + 65 < cLine) (I : L2.Inv X pins σ H s) (ho : H p = some (dO p ob)) (hD : DicO (kw X) p ob [] [] [])
    (hk : keyD k = true ∨ leafD k = true) (rk : Rep (kw X) H S k x) (rx : RelV x u) (ry : Rep (kw X) H S y v) (rr : RelV v r)
    (q : ∀ t ob' h' xs' ys', L2.Inv X pins σ (upd H p (dO p ob')) { s with heap := h', toks := t } → DicO (kw X) p ob' [k] xs' ys' → Reps (kw X) H S [k] xs' → Reps (kw X) H S [y] ys' → Q () { s with heap := h', toks := t }) :
    wpAny (model X.prog X.w) A (dictSet p u r) Q E s := by
  have hd : DicH (kw X) H S p [] [] := ⟨ob, [], [], ho, hD, Reps.nil_, Reps.nil_⟩
  have hm : Mut (H p) := by rw [ho]; exact dO.mut
  rcases hk with hk | hk
  · obtain ⟨tri, T⟩ := tri_at I hd rfl
    obtain ⟨ds, rfl, hx2⟩ := keyD_tup hk
    have n1 := nested_of I 8 _ x u hx2 rk rx
    have rk0 := rk
    simp only [Rep] at rk
    obtain ⟨c, zs, rfl, _⟩ := rk
    cases rx
    obtain ⟨ys, rv, vv⟩ := T.rv
    have nd : (tri.map (·.1)).Nodup := by obtain ⟨_, _, _, _, _, _, _, _, nd⟩ := T.dic; exact nd
    have hl : tri.length = 0 := by have := congrArg List.length T.key; simpa using this
    refine wpAny_dictSet_heap (hsz := by omega) (show (nestedKind X.prog X.w).room A by show A.units + 8 < cLine; omega) n1 T.dic fun h' hd' hs => ?_
    obtain ⟨z1, z2, ys', z3, z4⟩ := put_tri rk0 ry rr [] [] ys tri nd T.key T.rk rv vv
    obtain ⟨ob, ho, hD⟩ := dic_of_tri (X := X) hd' z1 T.sys (by rw [sizeLine_eq]; simp [putK]) z4
    exact q _ ob h' _ _ (d_write I hm hs ⟨ob, ho⟩ ⟨ho, ⟨ob, ho⟩, fun h1 h2 e k => k _ e⟩) hD z2 z3
  · obtain ⟨kvs, T⟩ := kvs_at I hd rfl
    obtain ⟨ys, rv, vv⟩ := T.rv
    have nd : (kvs.map (·.1)).Nodup := by obtain ⟨_, _, _, _, _, _, _, _, nd⟩ := T.dic; exact nd
    have hl : kvs.length = 0 := by have := congrArg List.length T.key; simpa using this
    refine wpAny_dictSet_pairs (hsz := by omega) (lf_is hk rk rx) T.dic fun h' hd' hs => ?_
    obtain ⟨z1, ys', z3, z4⟩ := put_kvs hk ry rr [] [] ys kvs rfl nd T.key rv vv
    have hall : (putK [] k).all leafD = true := by simp [putK, hk]
    obtain ⟨ob, ho, hD⟩ := dic_of_kvs (X := X) hd' z1 hall T.sys (by rw [sizeLine_eq]; simp [putK]) z4
    exact q _ ob h' _ _ (d_write I hm hs ⟨ob, ho⟩ ⟨ho, ⟨ob, ho⟩, fun h1 h2 e k => k _ e⟩) hD (lv_reps hall) z3
def tDct0 (W : KW) : TE := fun _ H Q => ∀ p ob, H p = none → DicO W p ob [] [] [] → Q (.ref p) (upd H p (dO p ob))
theorem laid_dO {pins : List (Addr × Obj)} {σ : L2.St} {H : Hp} {s : Shared} (I : L2.Inv X pins σ H s) (ob : Obj) (hf : ob.isFreed = false) : L2.Inv X pins σ (upd H s.heap.objs.size (dO s.heap.objs.size ob)) { s with heap := s.heap.push ob } :=
  have e : (s.heap.push ob).get? s.heap.objs.size = some ob := Heap.get?_push_size _ hf
  I.laid (a := s.heap.objs.size) (t' := s.toks) (fun _ _ q => Heap.get?_push_of_some _ q) (Nat.le_refl _) ⟨e, ⟨_, e⟩, fun h1 h2 e k => k _ e⟩
theorem pe_dct0 {pos : Pos} : PE X (.Dict [] [] pos) (tDct0 (kw X)) := ⟨fun pins s σ H Q I h =>
  wpAny_Dict_empty ⟨.ref s.heap.objs.size, _, laid_dO I _ rfl, rfl, h _ _ (I.hok.fresh (Nat.le_refl _)) (dic_empty s.heap I.big)⟩⟩
def tDct1 (W : KW) (tk tv : TE) : TE := fun σ H Q => ∀ p ob, H p = none → DicO W p ob [] [] [] → tk σ (upd H p (dO p ob)) fun x H1 => tv σ H1 fun y H2 => ∃ S k d, H2 p = some (dO p ob) ∧ (keyD k = true ∨ leafD k = true) ∧ Rep W H2 S k x ∧ Rep W H2 S d y ∧
  ∀ ob' xs' ys', DicO W p ob' [k] xs' ys' → Reps W H2 S [k] xs' → Reps W H2 S [d] ys' → Q (.ref p) (upd H2 p (dO p ob'))
theorem pe_dct1 (hu : X.A.units + 65 < cLine) {k v : Expr} {tk tv : TE} {pos : Pos} (hk : PE X k tk) (hv : PE X v tv) : PE X (.Dict [some k] [v] pos) (tDct1 (kw X) tk tv) := by
  refine ⟨fun pins s σ H Q I h => ?_⟩
  have e : (evalEachOpt [some k] X.env).zip ((evalEach [v] X.env).map fun v => do let x ← v; standAt pos; pure x) = (pairTrees [some k] [v] X.env pos).map fun p => (some p.1, p.2) := zip_pairTrees [some k] [v] X.env pos rfl rfl
  have hlen : (pairTrees [some k] [v] X.env pos).length = 1 := rfl
  rw [arm_eval_Dict, e, dictDisplay_pairs _ (by intro z; cases z) (by rw [hlen]; decide)]
  refine wpAny_bind (wpAny_standAt (wpAny_bind ?_))
  unfold subDict
  refine wpAny_bind (wpAny_alloc ?_)
  refine wpAny_bind (wpAny_holding ?_)
  rw [if_pos (by rw [hlen]; decide)]
  have hD := dic_empty (X := X) s.heap I.big
  have I1 := laid_dO I { cls := .type "dict", data := .dict #[] } rfl
  refine wpAny_bind (pairTrees_cons_walk (thn (hk.run pins _ σ _ _ I1 (h _ _ (I.hok.fresh (Nat.le_refl _)) hD)) fun kv s1 ⟨x, H1, I2, rx, q1⟩ => thn (hv.run pins s1 σ H1 _ I2 q1) fun vv s2 ⟨y, H2, I3, ry, S, kd, d, e1, hkd, rk, rd, q⟩ => pairTrees_nil_walk ?_))
  refine wpAny_holding ?_
  refine wpAny_bind ?_
  rw [List.forIn_cons]
  refine wpAny_bind (wpAny_bind (dic_first hu I3 e1 hD hkd rk rx rd ry fun t ob' h' xs' ys' I4 hD' r1 r2 => wpAny_pure ?_))
  show wpAny _ _ (forIn ([] : List (Value × Value)) PUnit.unit _) _ _ _
  rw [List.forIn_nil]
  exact wpAny_pure (wpAny_pure (wpAny_pure (wpAny_pure ⟨.ref s.heap.objs.size, _, I4, rfl, q ob' xs' ys' hD' r1 r2⟩)))
/-! ### d.get(k), d.get(k, x) -/
def tDicGet1 (W : KW) (td ty : TE) : TE := fun σ H Q => td σ H fun x H1 => ∃ S1 a ks1 vs1, x = .ref a ∧ DicH W H1 S1 a ks1 vs1 ∧ ty σ H1 fun y H2 => ∃ S ks vs k, DAsk W H2 S a ks vs k y ∧ ∀ w, Rep W H2 S ((findK ks vs k).getD .non) w → Q w H2
def tDicGet2 (W : KW) (td ty tx : TE) : TE := fun σ H Q => td σ H fun x H1 => ∃ S1 a ks1 vs1, x = .ref a ∧ DicH W H1 S1 a ks1 vs1 ∧ ty σ H1 fun y H2 => tx σ H2 fun z H3 => ∃ S ks vs k zd, DAsk W H3 S a ks vs k y ∧ Rep W H3 S zd z ∧ ∀ w, Rep W H3 S ((findK ks vs k).getD zd) w → Q w H3
variable {o e f : Expr} {apos cpos : Pos} {td ty tx : TE}
theorem pe_dicGet1 (hu : X.A.units + 65 < cLine) (ho : PE X o td) (he : PE X e ty) (m : M1 X o "get" apos e cpos) : PE X (.Call (.Attribute o "get" apos) [e] [] cpos) (tDicGet1 (kw X) td ty) := by
  refine ⟨fun pins s σ H Q I h => ?_⟩
  refine wpAny_Call_method m.base m.few m.line PySem.F.plainAttrs_dict PySem.F.slot_dict_get PySem.F.type_dict_get (thn (ho.run pins s σ H _ I h) fun u s1 ⟨x, H1, I1, rx, S1, a, ks1, vs1, ex, d, q1⟩ => ?_)
  subst ex
  obtain rfl : u = Value.ref a := rx
  obtain ⟨_, _, _, t1, t2, _⟩ := dic_type I1 d
  refine ⟨t1, t2, ?_⟩
  rw [m.trees]
  refine Calls.callWith_builtin rfl (Calls.evalArgs_plain (Calls.spliced_cons (thn (he.run pins s1 σ H1 _ I1 q1) fun iv s2 ⟨y, H2, I2, ry, S, ks, vs, k, g, q2⟩ => Calls.spliced_nil ?_)))
  exact dic_get1 hu I2 g ry fun t v w rv rw' => ⟨v, H2, I2.tok t, rw', q2 v rv⟩
theorem pe_dicGet2 (hu : X.A.units + 65 < cLine) (ho : PE X o td) (he : PE X e ty) (hf : PE X f tx) (m : M2 X o "get" apos e f cpos) : PE X (.Call (.Attribute o "get" apos) [e, f] [] cpos) (tDicGet2 (kw X) td ty tx) := by
  refine ⟨fun pins s σ H Q I h => ?_⟩
  refine wpAny_Call_method m.base m.few m.line PySem.F.plainAttrs_dict PySem.F.slot_dict_get PySem.F.type_dict_get (thn (ho.run pins s σ H _ I h) fun u s1 ⟨x, H1, I1, rx, S1, a, ks1, vs1, ex, d, q1⟩ => ?_)
  subst ex
  obtain rfl : u = Value.ref a := rx
  obtain ⟨_, _, _, t1, t2, _⟩ := dic_type I1 d
  refine ⟨t1, t2, ?_⟩
  rw [m.trees]
  refine Calls.callWith_builtin rfl (Calls.evalArgs_plain (Calls.spliced_cons (thn (he.run pins s1 σ H1 _ I1 q1) fun iv s2 ⟨y, H2, I2, ry, q2⟩ =>
    Calls.spliced_cons (thn (hf.run pins s2 σ H2 _ I2 q2) fun fv s3 ⟨z, H3, I3, rz, S, ks, vs, k, zd, g, rzd, q3⟩ => Calls.spliced_nil ?_))))
  exact dic_get2 hu I3 g ry rzd rz fun t v w rv rw' => ⟨v, H3, I3.tok t, rw', q3 v rv⟩
end
end Lf
set_option Elab.async false
set_option linter.all false
namespace Lf
open PySem PySem.Spec PyProof.Rows L2

/-! ### readings over D -/
abbrev DK := D → Store → Prop
abbrev DT := DSt → Store → DK → Prop
abbrev DB := DSt → Store → (Bool → Store → Prop) → Prop
abbrev DA := DSt → Store → (List D → Store → Prop) → Prop
structure DEnds where
  nx : DSt → Store → Prop
  rt : DK
  bk : DSt → Store → Prop
  ct : DSt → Store → Prop
abbrev DS := DEnds → DSt → Store → Prop
abbrev DG := D → DSt → Store → (DSt → Store → Prop) → Prop
abbrev DGs := List D → DSt → Store → (DSt → Store → Prop) → Prop
/-- what is walked: the items, and what must stand while they are -/
abbrev DI := DSt → Store → (List D → (Store → Prop) → Store → Prop) → Prop

def up (W : KW) (t : DT) : TE := fun σ H Q => ∃ δ S Qd, HR W H S ∧ LR W H S δ σ ∧ t δ S Qd ∧ ∀ d S' v H', Qd d S' → Fut W H S H' S' → Rep W H' S' d v → Q v H'
def upB (W : KW) (t : DB) : TT := fun σ H Q => ∃ δ S Qd, HR W H S ∧ LR W H S δ σ ∧ t δ S Qd ∧ ∀ b S' H', Qd b S' → Fut W H S H' S' → Q b H'
def upA (W : KW) (t : DA) : TA := fun σ H Q => ∃ δ S Qd, HR W H S ∧ LR W H S δ σ ∧ t δ S Qd ∧ ∀ ds S' vs H', Qd ds S' → Fut W H S H' S' → Reps W H' S' ds vs → Q vs H'
def upS (W : KW) (t : DS) : TS := fun D σ H => ∃ δ S Dd, HR W H S ∧ LR W H S δ σ ∧ t Dd δ S ∧
  (∀ δ' S' σ' H', Dd.nx δ' S' → Fut W H S H' S' → LR W H' S' δ' σ' → D.nx σ' H') ∧
  (∀ d S' v H', Dd.rt d S' → Fut W H S H' S' → Rep W H' S' d v → D.rt v H') ∧
  (∀ δ' S' σ' H', Dd.bk δ' S' → Fut W H S H' S' → LR W H' S' δ' σ' → D.bk σ' H') ∧
  (∀ δ' S' σ' H', Dd.ct δ' S' → Fut W H S H' S' → LR W H' S' δ' σ' → D.ct σ' H')
def upG (W : KW) (g : DG) : TG := fun v σ H Q => ∃ d δ S Qd, HR W H S ∧ LR W H S δ σ ∧ Rep W H S d v ∧ g d δ S Qd ∧ ∀ δ' S' σ' H', Qd δ' S' → Fut W H S H' S' → LR W H' S' δ' σ' → Q σ' H'
def upGs (W : KW) (g : DGs) : TGs := fun vs σ H Q => ∃ ds δ S Qd, HR W H S ∧ LR W H S δ σ ∧ Reps W H S ds vs ∧ g ds δ S Qd ∧ ∀ δ' S' σ' H', Qd δ' S' → Fut W H S H' S' → LR W H' S' δ' σ' → Q σ' H'
/-- how an iterator gives the items ds, while g stands -/
def Steps (W : KW) (J : It) (ds : List D) (g : Store → Prop) (H : Hp) (S : Store) : Prop :=
  ∀ (i : Nat) (H2 : Hp) (S2 : Store), Fut W H S H2 S2 → g S2 → (∀ d, ds[i]? = some d → J.go i H2 ∧ ∀ x H3, J.yld i H2 x H3 → Fut W H2 S2 H3 S2 ∧ Rep W H3 S2 d x) ∧ (i = ds.length → J.stop i H2)
def upI (W : KW) (t : DI) : TI := fun σ H R => ∃ δ S Qd, HR W H S ∧ LR W H S δ σ ∧ t δ S Qd ∧ ∀ ds g S' J H', Qd ds g S' → Fut W H S H' S' → Steps W J ds g H' S' → R J H'

abbrev DE (X : Cx) (e : Expr) (t : DT) : Prop := PE X e (up (kw X) t)
abbrev DTst (X : Cx) (e : Expr) (t : DB) : Prop := PT X e (upB (kw X) t)
abbrev DWst (X : Cx) (e : Expr) (t : DB) : Prop := PW X e (upB (kw X) t)
abbrev DAr (X : Cx) (es : List Expr) (t : DA) : Prop := PA X es (upA (kw X) t)
abbrev DSt1 (X : Cx) (st : Stmt) (t : DS) : Prop := PS X st (upS (kw X) t)
abbrev DSs (X : Cx) (st : List Stmt) (t : DS) : Prop := PSs X st (upS (kw X) t)
abbrev DTg (X : Cx) (e : Expr) (g : DG) : Prop := PG X e (upG (kw X) g)
abbrev DTgs (X : Cx) (es : List Expr) (g : DGs) : Prop := PGs X es (upGs (kw X) g)
abbrev DIt (X : Cx) (tg iter : Expr) (t : DI) : Prop := PI X tg iter (upI (kw X) t)

section
variable {X : Cx}
theorem _root_.L2.PE.imp {e : Expr} {t t' : TE} (h : PE X e t) (w : ∀ σ H Q, t' σ H Q → t σ H Q) : PE X e t' := ⟨fun pins s σ H Q I q => h.run pins s σ H Q I (w σ H Q q)⟩
theorem _root_.L2.PT.imp {e : Expr} {t t' : TT} (h : PT X e t) (w : ∀ σ H Q, t' σ H Q → t σ H Q) : PT X e t' := ⟨fun pins s σ H Q I q => h.run pins s σ H Q I (w σ H Q q)⟩
theorem _root_.L2.PW.imp {e : Expr} {t t' : TT} (h : PW X e t) (w : ∀ σ H Q, t' σ H Q → t σ H Q) : PW X e t' := ⟨fun wh pins s σ H Q I q => h.run wh pins s σ H Q I (w σ H Q q)⟩
theorem _root_.L2.PA.imp {es : List Expr} {t t' : TA} (h : PA X es t) (w : ∀ σ H Q, t' σ H Q → t σ H Q) : PA X es t' := ⟨fun pos pins s σ H Q I q => h.run pos pins s σ H Q I (w σ H Q q)⟩
theorem _root_.L2.PS.imp {st : Stmt} {t t' : TS} (h : PS X st t) (w : ∀ D σ H, t' D σ H → t D σ H) : PS X st t' := ⟨fun pins s σ H D I q => h.run pins s σ H D I (w D σ H q)⟩
theorem _root_.L2.PSs.imp {st : List Stmt} {t t' : TS} (h : PSs X st t) (w : ∀ D σ H, t' D σ H → t D σ H) : PSs X st t' := ⟨fun pins s σ H D I q => h.run pins s σ H D I (w D σ H q)⟩
theorem _root_.L2.PG.imp {e : Expr} {t t' : TG} (h : PG X e t) (w : ∀ v σ H Q, t' v σ H Q → t v σ H Q) : PG X e t' := ⟨fun pins s σ H v u Q I r q => h.run pins s σ H v u Q I r (w v σ H Q q)⟩
theorem _root_.L2.PGs.imp {es : List Expr} {t t' : TGs} (h : PGs X es t) (w : ∀ v σ H Q, t' v σ H Q → t v σ H Q) : PGs X es t' := ⟨fun pins s σ H v u Q I r q => h.run pins s σ H v u Q I r (w v σ H Q q)⟩
theorem _root_.L2.PI.imp {tg e : Expr} {t t' : TI} (h : PI X tg e t) (w : ∀ σ H Q, t' σ H Q → t σ H Q) : PI X tg e t' := ⟨fun pins s σ H Q I q => h.run pins s σ H Q I (w σ H Q q)⟩
end

/-! ### names and constants -/
def sVar (i : Nat) : DT := fun δ S Q => ∃ d, δ[i]? = some (some d) ∧ Q d S
def sC (d : D) : DT := fun _ S Q => Q d S
section
variable {X : Cx} {e a b : Expr} {ta tb : DT} {pos : Pos}
theorem de_var {i : Nat} (h : PE X e (tVar i)) : DE X e (sVar i) := h.imp fun σ H Q ⟨δ, S, Qd, hr, lr, ⟨d, e1, e2⟩, q⟩ => by
  obtain ⟨v, e3, r⟩ := lr.2 i d e1
  exact ⟨v, e3, q d S v H e2 (Fut.refl hr) r⟩
theorem de_c {d : D} {v : V} (h : PE X e (tC v)) (r : ∀ H S, Rep (kw X) H S d v) : DE X e (sC d) := h.imp fun σ H Q ⟨δ, S, Qd, hr, lr, e2, q⟩ => q d S v H e2 (Fut.refl hr) (r H S)

/-! ### two values, then an operation -/
/-- r does on values what o does on D -/
def DOp (W : KW) (r : R2) (o : D → D → Store → DK → Prop) : Prop := ∀ H S x y v u Qd Q, HR W H S → Rep W H S x v → Rep W H S y u → o x y S Qd →
  (∀ d S' w H', Qd d S' → Fut W H S H' S' → Rep W H' S' d w → Q w H') → r v u H Q
def sOp (o : D → D → Store → DK → Prop) (ta tb : DT) : DT := fun δ S Q => ta δ S fun x S1 => tb δ S1 fun y S2 => o x y S2 Q
theorem up_op {W : KW} {r : R2} {o : D → D → Store → DK → Prop} (hd : DOp W r o) {σ : L2.St} {H : Hp} {Q : VK} (h : up W (sOp o ta tb) σ H Q) : tOp r (up W ta) (up W tb) σ H Q := by
  obtain ⟨δ, S, Qd, hr, lr, h, q⟩ := h
  exact ⟨δ, S, _, hr, lr, h, fun x S1 v H1 h1 f1 r1 => ⟨δ, S1, _, f1.hr, lr.fut hr f1, h1, fun y S2 u H2 h2 f2 r2 =>
    hd H2 S2 x y v u Qd Q f2.hr (f2.rep f1.hr r1) r2 h2 fun d S' w H' q1 f3 r3 => q d S' w H' q1 ((f1.trans f2).trans f3) r3⟩⟩
theorem de_op {op : Operator} {r : R2} {o : D → D → Store → DK → Prop} (ho : OpR X (binaryOp op) r) (hd : DOp (kw X) r o) (ha : DE X a ta) (hb : DE X b tb) : DE X (.BinOp a op b pos) (sOp o ta tb) :=
  (pe_op ho ha hb).imp fun σ H Q => up_op hd
theorem de_cmp {op : CmpOp} {r : R2} {o : D → D → Store → DK → Prop} (ho : OpR X (compareOp op) r) (hd : DOp (kw X) r o) (ha : DE X a ta) (hb : DE X b tb) (hm : behindInMarks op b = false) : DE X (.Compare a [op] [b] pos) (sOp o ta tb) :=
  (pe_cmpR ho ha hb hm).imp fun σ H Q => up_op hd
theorem de_ix {r : R2} {o : D → D → Store → DK → Prop} (ho : IxR X r) (hd : DOp (kw X) r o) (ha : DE X a ta) (hb : DE X b tb) (hs : PlainIx b) : DE X (.Subscript a b pos) (sOp o ta tb) :=
  (pe_ix ho ha hb hs).imp fun σ H Q => up_op hd

/-! ### truth -/
def truB (S : Store) : D → Option Bool
  | .non => some false
  | .bl b => some b
  | .int i => some (i != 0)
  | .str s => if s.length ≤ sizeLine then some ((s.length : Int) != 0) else none
  | .tup ds => some (!ds.isEmpty)
  | .lst ds => some (!ds.isEmpty)
  | .dic _ _ => none
  | .ref a => match S a with
    | some (.lst ds) => some (!ds.isEmpty)
    | _ => none
  | .ty _ => none
  | .scr _ => none
theorem Reps.empty {W : KW} {H : Hp} {S : Store} {ds : List D} {vs : List V} (r : Reps W H S ds vs) : ds.isEmpty = vs.isEmpty := by
  have := r.length
  cases ds <;> cases vs <;> simp_all
theorem truV_of {W : KW} {H : Hp} {S : Store} {d : D} {v : V} {k : Bool} (hr : HR W H S) (r : Rep W H S d v) (h : truB S d = some k) : TruV W.K v H k := by
  cases d with
  | non => simp only [Rep] at r; subst r; simp [truB] at h; simp [TruV, h]
  | bl b => simp only [Rep] at r; subst r; simp [truB] at h; simp [TruV, h]
  | int i => simp only [Rep] at r; subst r; simp [truB] at h; simp [TruV, h]
  | str s =>
    simp only [Rep] at r; subst r
    simp only [truB] at h
    split at h
    · rename_i hl
      exact ⟨hl, (Option.some.inj h).symm⟩
    · cases h
  | tup ds =>
    simp only [Rep] at r
    obtain ⟨a, xs, rfl, q, r⟩ := r
    simp [truB] at h
    exact .inr (.inl ⟨xs, q.sq, by rw [← r.empty, h]; simp⟩)
  | lst ds =>
    simp only [Rep] at r
    obtain ⟨a, xs, rfl, n, q, r⟩ := r
    simp [truB] at h
    exact .inl ⟨xs, .inl (.inl q), by rw [← r.empty, h]; simp⟩
  | dic _ _ => simp [truB] at h
  | scr _ => simp [truB] at h
  | ty _ => simp [truB] at h
  | ref a =>
    simp only [Rep] at r; subst r
    simp only [truB] at h
    split at h
    · rename_i ds e
      obtain ⟨xs, q, r⟩ := hr a _ e
      exact .inl ⟨xs, .inl (.inl q), by rw [← r.empty, Option.some.inj h]⟩
    · cases h
/-- a value as a test -/
def sTru (t : DT) : DB := fun δ S Q => t δ S fun d S1 => ∃ k, truB S1 d = some k ∧ Q k S1
theorem dt_tru (ha : DE X a ta) (he : ∀ whole, isTrue a X.env whole = (do let v ← whole; standAt a.pos; holding [v] (truthy v))) : DTst X a (sTru ta) :=
  (pt_truth ha he).imp fun σ H Q ⟨δ, S, Qd, hr, lr, h, q⟩ => ⟨δ, S, _, hr, lr, h, fun d S1 v H1 ⟨k, e, h1⟩ f1 r1 => ⟨k, truV_of f1.hr r1 e, q k S1 H1 h1 f1⟩⟩
/-- an operation whose answer is a truth, as a test -/
theorem dt_cmp {op : CmpOp} {r : R2} {o : D → D → Store → DK → Prop} (ho : OpR X (compareOp op) r) (hd : DOp (kw X) r o) (ob : ∀ x y S Q, o x y S Q → o x y S fun d S1 => (∃ k, d = .bl k) ∧ Q d S1) (ha : DE X a ta) (hb : DE X b tb) (hm : behindInMarks op b = false) :
    DTst X (.Compare a [op] [b] pos) (sTru (sOp o ta tb)) :=
  (pt_cmpR ho ha hb hm).imp fun σ H Q ⟨δ, S, Qd, hr, lr, h, q⟩ => by
    refine ⟨δ, S, _, hr, lr, h, fun x S1 v H1 h1 f1 r1 => ⟨δ, S1, _, f1.hr, lr.fut hr f1, h1, fun y S2 u H2 h2 f2 r2 =>
      hd H2 S2 x y v u _ _ f2.hr (f2.rep f1.hr r1) r2 (ob _ _ _ _ h2) fun d S' w H' q1 f3 r3 => ?_⟩⟩
    obtain ⟨⟨k, e⟩, k2, e2, q1⟩ := q1
    subst e
    simp only [Rep] at r3
    simp [truB] at e2
    subst e2
    exact ⟨k, r3, q k S' H' q1 ((f1.trans f2).trans f3)⟩

/-! ### and, or, not, if -/
def sAnd (ta tb : DT) : DT := fun δ S Q => ta δ S fun d S1 => ∃ k, truB S1 d = some k ∧ if k = true then tb δ S1 Q else Q d S1
def sOr (ta tb : DT) : DT := fun δ S Q => ta δ S fun d S1 => ∃ k, truB S1 d = some k ∧ if k = true then Q d S1 else tb δ S1 Q
def sNot (ta : DT) : DT := fun δ S Q => ta δ S fun d S1 => ∃ k, truB S1 d = some k ∧ Q (.bl (!k)) S1
def sIte (tc ta tb : DT) : DT := fun δ S Q => tc δ S fun d S1 => ∃ k, truB S1 d = some k ∧ if k = true then ta δ S1 Q else tb δ S1 Q
theorem de_and {rest : List Expr} (ha : DE X a ta) (hb : DE X (.BoolOp .And (b :: rest) pos) tb) : DE X (.BoolOp .And (a :: b :: rest) pos) (sAnd ta tb) :=
  (pe_andT ha hb).imp fun σ H Q ⟨δ, S, Qd, hr, lr, h, q⟩ => ⟨δ, S, _, hr, lr, h, fun d S1 v H1 ⟨k, e, h1⟩ f1 r1 => ⟨k, truV_of f1.hr r1 e, by
    cases k with
    | true => exact ⟨δ, S1, Qd, f1.hr, lr.fut hr f1, h1, fun d S' v H' q1 f2 r2 => q d S' v H' q1 (f1.trans f2) r2⟩
    | false => exact q d S1 v H1 h1 f1 r1⟩⟩
theorem de_or {rest : List Expr} (ha : DE X a ta) (hb : DE X (.BoolOp .Or (b :: rest) pos) tb) : DE X (.BoolOp .Or (a :: b :: rest) pos) (sOr ta tb) :=
  (pe_orT ha hb).imp fun σ H Q ⟨δ, S, Qd, hr, lr, h, q⟩ => ⟨δ, S, _, hr, lr, h, fun d S1 v H1 ⟨k, e, h1⟩ f1 r1 => ⟨k, truV_of f1.hr r1 e, by
    cases k with
    | false => exact ⟨δ, S1, Qd, f1.hr, lr.fut hr f1, h1, fun d S' v H' q1 f2 r2 => q d S' v H' q1 (f1.trans f2) r2⟩
    | true => exact q d S1 v H1 h1 f1 r1⟩⟩
theorem de_not (ha : DE X a ta) : DE X (.UnaryOp .Not a pos) (sNot ta) :=
  (pe_notT ha).imp fun σ H Q ⟨δ, S, Qd, hr, lr, h, q⟩ => ⟨δ, S, _, hr, lr, h, fun d S1 v H1 ⟨k, e, h1⟩ f1 r1 => ⟨k, truV_of f1.hr r1 e, q _ S1 _ H1 h1 f1 (by simp [Rep])⟩⟩
/-- tests of and, or, not -/
theorem sTru_and {δ : DSt} {S : Store} {Q : Bool → Store → Prop} : sTru (sAnd ta tb) δ S Q = sTru ta δ S fun k S1 => if k = true then sTru tb δ S1 Q else Q false S1 := by
  unfold sTru sAnd
  congr 1
  funext d S1
  refine propext ⟨fun ⟨k, e, h⟩ => ⟨k, e, ?_⟩, fun ⟨k, e, h⟩ => ⟨k, e, ?_⟩⟩
  · cases k with
    | true => exact h
    | false =>
      obtain ⟨k2, e2, h⟩ := h
      rw [e] at e2; cases e2; exact h
  · cases k with
    | true => exact h
    | false => exact ⟨_, e, h⟩
theorem sTru_or {δ : DSt} {S : Store} {Q : Bool → Store → Prop} : sTru (sOr ta tb) δ S Q = sTru ta δ S fun k S1 => if k = true then Q true S1 else sTru tb δ S1 Q := by
  unfold sTru sOr
  congr 1
  funext d S1
  refine propext ⟨fun ⟨k, e, h⟩ => ⟨k, e, ?_⟩, fun ⟨k, e, h⟩ => ⟨k, e, ?_⟩⟩
  · cases k with
    | false => exact h
    | true =>
      obtain ⟨k2, e2, h⟩ := h
      rw [e] at e2; cases e2; exact h
  · cases k with
    | false => exact h
    | true => exact ⟨_, e, h⟩
theorem sTru_not {δ : DSt} {S : Store} {Qx : Bool → Store → Prop} : sTru (sNot ta) δ S Qx = sTru ta δ S fun k S1 => Qx (!k) S1 := by
  unfold sTru sNot
  congr 1
  funext d S1
  refine propext ⟨fun ⟨k, e, k2, e2, h⟩ => ⟨k, e, ?_⟩, fun ⟨k, e, h⟩ => ⟨k, e, _, rfl, h⟩⟩
  simp [truB] at e2
  show Qx (!k) S1
  rw [e2, Bool.not_not]; exact h
theorem dw_and {rest : List Expr} (ha : DTst X a (sTru ta)) (hb : DWst X (.BoolOp .And (b :: rest) pos) (sTru tb)) : DWst X (.BoolOp .And (a :: b :: rest) pos) (sTru (sAnd ta tb)) :=
  (pw_and ha hb).imp fun σ H Q ⟨δ, S, Qd, hr, lr, h, q⟩ => ⟨δ, S, _, hr, lr, by rw [sTru_and] at h; exact h, fun k S1 H1 h1 f1 => by
    cases k with
    | true => exact ⟨δ, S1, Qd, f1.hr, lr.fut hr f1, h1, fun d S' H' q1 f2 => q d S' H' q1 (f1.trans f2)⟩
    | false => exact q false S1 H1 h1 f1⟩
theorem dw_or {rest : List Expr} (ha : DTst X a (sTru ta)) (hb : DWst X (.BoolOp .Or (b :: rest) pos) (sTru tb)) : DWst X (.BoolOp .Or (a :: b :: rest) pos) (sTru (sOr ta tb)) :=
  (pw_or ha hb).imp fun σ H Q ⟨δ, S, Qd, hr, lr, h, q⟩ => ⟨δ, S, _, hr, lr, by rw [sTru_or] at h; exact h, fun k S1 H1 h1 f1 => by
    cases k with
    | false => exact ⟨δ, S1, Qd, f1.hr, lr.fut hr f1, h1, fun d S' H' q1 f2 => q d S' H' q1 (f1.trans f2)⟩
    | true => exact q true S1 H1 h1 f1⟩
theorem dt_not (ha : DTst X a (sTru ta)) : DTst X (.UnaryOp .Not a pos) (sTru (sNot ta)) :=
  (pt_not ha).imp fun σ H Q ⟨δ, S, Qd, hr, lr, h, q⟩ => ⟨δ, S, _, hr, lr, by rw [sTru_not] at h; exact h, fun k S1 H1 h1 f1 => q _ S1 H1 h1 f1⟩
theorem de_ite {c : Expr} {tc : DT} (hc : DTst X c (sTru tc)) (ha : DE X a ta) (hb : DE X b tb) : DE X (.IfExp c a b pos) (sIte tc ta tb) :=
  (pe_ifExp hc ha hb).imp fun σ H Q ⟨δ, S, Qd, hr, lr, h, q⟩ => ⟨δ, S, fun k S1 => if k = true then ta δ S1 Qd else tb δ S1 Qd, hr, lr, h, fun k S1 H1 h1 f1 => by
    cases k with
    | true => exact ⟨δ, S1, Qd, f1.hr, lr.fut hr f1, h1, fun d S' v H' q1 f2 r2 => q d S' v H' q1 (f1.trans f2) r2⟩
    | false => exact ⟨δ, S1, Qd, f1.hr, lr.fut hr f1, h1, fun d S' v H' q1 f2 r2 => q d S' v H' q1 (f1.trans f2) r2⟩⟩

/-! ### arguments, displays -/
def sNil : DA := fun _ S Q => Q [] S
def sCons (ta : DT) (tr : DA) : DA := fun δ S Q => ta δ S fun d S1 => tr δ S1 fun ds S2 => Q (d :: ds) S2
theorem da_nil : DAr X [] sNil := pa_nil.imp fun σ H Q ⟨δ, S, Qd, hr, lr, h, q⟩ => q [] S [] H h (Fut.refl hr) Reps.nil_
theorem da_cons {es : List Expr} {tr : DA} (ha : DE X a ta) (hs : DAr X es tr) (hst : starEach (a :: es) X.env = (false, eval a X.env) :: starEach es X.env) : DAr X (a :: es) (sCons ta tr) :=
  (pa_cons ha hs hst).imp fun σ H Q ⟨δ, S, Qd, hr, lr, h, q⟩ => ⟨δ, S, _, hr, lr, h, fun d S1 v H1 h1 f1 r1 => ⟨δ, S1, _, f1.hr, lr.fut hr f1, h1, fun ds S2 vs H2 h2 f2 r2 =>
    q (d :: ds) S2 (v :: vs) H2 h2 (f1.trans f2) (Reps.cons_ (f2.rep f1.hr r1) r2)⟩⟩
def sTup (ta : DA) : DT := fun δ S Q => ta δ S fun ds S1 => ds.length ≤ sizeLine ∧ Q (.tup ds) S1
def sLst (ta : DA) : DT := fun δ S Q => ta δ S fun ds S1 => ds.length ≤ sizeLine ∧ Q (.lst ds) S1
/-- a list that will be written to -/
def sLstN (ta : DA) : DT := fun δ S Q => ta δ S fun ds S1 => ds.length ≤ sizeLine ∧ ∀ p, S1 p = none → Q (.ref p) (ups S1 p (.lst ds))
theorem Rep.tup_new {W : KW} {H : Hp} {S : Store} {ds : List D} {vs : List V} {p : Addr} (hr : HR W H S) (hp : H p = none) (r : Reps W H S ds vs) : Rep W (upd H p (.tup vs)) S (.tup ds) (.ref p) := by
  simp only [Rep]
  exact ⟨p, vs, rfl, .inl upd_same, (Fut.new hr hp).reps hr r⟩
theorem Rep.lst_new {W : KW} {H : Hp} {S : Store} {ds : List D} {vs : List V} {p : Addr} (hr : HR W H S) (hp : H p = none) (r : Reps W H S ds vs) : Rep W (upd H p (.lst vs)) S (.lst ds) (.ref p) := by
  simp only [Rep]
  exact ⟨p, vs, rfl, hr.fresh hp, upd_same, (Fut.new hr hp).reps hr r⟩
theorem de_tup {es : List Expr} {tr : DA} {x1 : Nat} (hs : DAr X es tr) : DE X (.Tuple es x1 pos) (sTup tr) :=
  (pe_tup hs).imp fun σ H Q ⟨δ, S, Qd, hr, lr, h, q⟩ => ⟨δ, S, _, hr, lr, h, fun ds S1 vs H1 ⟨hz, h1⟩ f1 r1 => ⟨r1.length ▸ hz, fun p hp =>
    q _ S1 _ _ h1 (f1.trans (Fut.new f1.hr hp)) (Rep.tup_new f1.hr hp r1)⟩⟩
theorem de_lst {es : List Expr} {tr : DA} (hs : DAr X es tr) : DE X (.List es pos) (sLst tr) :=
  (pe_lst hs).imp fun σ H Q ⟨δ, S, Qd, hr, lr, h, q⟩ => ⟨δ, S, _, hr, lr, h, fun ds S1 vs H1 ⟨hz, h1⟩ f1 r1 => ⟨r1.length ▸ hz, fun p hp =>
    q _ S1 _ _ h1 (f1.trans (Fut.new f1.hr hp)) (Rep.lst_new f1.hr hp r1)⟩⟩
theorem de_lstN {es : List Expr} {tr : DA} (hs : DAr X es tr) : DE X (.List es pos) (sLstN tr) :=
  (pe_lst hs).imp fun σ H Q ⟨δ, S, Qd, hr, lr, h, q⟩ => ⟨δ, S, _, hr, lr, h, fun ds S1 vs H1 ⟨hz, h1⟩ f1 r1 => ⟨r1.length ▸ hz, fun p hp =>
    q _ _ (.ref p) _ (h1 p (f1.hr.fresh hp)) (f1.trans (Fut.lst f1.hr (.inl hp) r1)) (by simp [Rep])⟩⟩

/-! ### calls -/
abbrev Spec := List D → Store → DK → Prop
/-- a promise over D, as HandS has it -/
def upSp (W : KW) (sp : Spec) : Sp := fun vs H Q _ => ∃ ds S Qd, HR W H S ∧ Reps W H S ds vs ∧ sp ds S Qd ∧ ∀ d S' v H', Qd d S' → Fut W H S H' S' → Rep W H' S' d v → Q v H'
def sCall (sp : Spec) (ta : DA) : DT := fun δ S Q => ta δ S fun ds S1 => sp ds S1 Q
/-- r does on values what c does on D -/
def DCl (W : KW) (r : List V → Hp → VK → Prop) (c : List D → Store → DK → Prop) : Prop := ∀ H S ds vs Qd Q, HR W H S → Reps W H S ds vs → c ds S Qd →
  (∀ d S' w H', Qd d S' → Fut W H S H' S' → Rep W H' S' d w → Q w H') → r vs H Q
theorem up_call {W : KW} {r : List V → Hp → VK → Prop} {c : List D → Store → DK → Prop} {ta : DA} (hd : DCl W r c) {σ : L2.St} {H : Hp} {Q : VK} (h : up W (sCall c ta) σ H Q) : tCB r (upA W ta) σ H Q := by
  obtain ⟨δ, S, Qd, hr, lr, h, q⟩ := h
  exact ⟨δ, S, _, hr, lr, h, fun ds S1 vs H1 h1 f1 r1 => hd H1 S1 ds vs Qd Q f1.hr r1 h1 fun d S' w H' q1 f2 r2 => q d S' w H' q1 (f1.trans f2) r2⟩
theorem de_callB {id : String} {x : Str} {es : List Expr} {ta : DA} {p : Pos} {r : List V → Hp → VK → Prop} {c : List D → Store → DK → Prop} (hc : CallR X (.builtin id) r) (hd : DCl (kw X) r c) (hg : Gl X x) (hm : X.mg x = none) (hv : bootBuiltins x = some (.builtin id))
    (hn : x ≠ "__name__") (hdb : (x == ("__debug__" : Str)) = false) (ha : DAr X (e :: es) ta) (hs : starEach (e :: es) X.env = (false, eval e X.env) :: starEach es X.env) (hpl : (backTo pos (starEach es X.env)).any (·.1) = false) :
    DE X (.Call (.Name x p) (e :: es) [] pos) (sCall c ta) := by
  exact (pe_callB hc hg hm hv ha hn hdb hs hpl).imp fun σ H Q => up_call hd
theorem de_callTy {T : String} {x : Str} {es : List Expr} {ta : DA} {p : Pos} {r : List V → Hp → VK → Prop} {c : List D → Store → DK → Prop} (hc : CallR X (.type T) r) (hd : DCl (kw X) r c) (hg : Gl X x) (hm : X.mg x = none) (hv : bootBuiltins x = some (.type T))
    (hn : x ≠ "__name__") (hdb : (x == ("__debug__" : Str)) = false) (ha : DAr X (e :: es) ta) (hs : starEach (e :: es) X.env = (false, eval e X.env) :: starEach es X.env) (hpl : (backTo pos (starEach es X.env)).any (·.1) = false) :
    DE X (.Call (.Name x p) (e :: es) [] pos) (sCall c ta) := by
  exact (pe_callTy hc hg hm hv ha hn hdb hs hpl).imp fun σ H Q => up_call hd
theorem de_call {x : Str} {es : List Expr} {ta : DA} {p : Pos} {sp : Spec} {k : Nat} {f : Addr} {fd : FuncData} {ps : List Str} {CX : CXT} {E : XK} (F : FnOk X.prog X.w X.K X.mg X.base CX k f fd ps (upSp (kw X) sp)) (hr : Room k X.A) (hg : Gl X x) (hm : X.mg x = some (.ref f)) (hk : PySem.W.keepIn X.K (.ref f) = true) (hb : Binds X.K fd ps []) (hx : Passes CX X E)
    (ha : DAr X (e :: es) ta) (hdb : (x == ("__debug__" : Str)) = false) (hs : starEach (e :: es) X.env = (false, eval e X.env) :: starEach es X.env) (hpl : (backTo pos (starEach es X.env)).any (·.1) = false) :
    DE X (.Call (.Name x p) (e :: es) [] pos) (sCall sp ta) := by
  exact (pe_call F hr hg hm hk hb .nil hx ha hdb hs hpl).imp fun σ H Q ⟨δ, S, Qd, hr, lr, h, q⟩ => ⟨δ, S, _, hr, lr, h, fun ds S1 vs H1 h1 f1 r1 =>
    ⟨ds, S1, Qd, f1.hr, by rw [List.append_nil]; exact r1, h1, fun d S' v H' q1 f2 r2 => q d S' v H' q1 (f1.trans f2) r2⟩⟩
theorem de_call0 {x : Str} {p : Pos} {sp : Spec} {k : Nat} {f : Addr} {fd : FuncData} {ps : List Str} {CX : CXT} {E : XK} (F : FnOk X.prog X.w X.K X.mg X.base CX k f fd ps (upSp (kw X) sp)) (hr : Room k X.A) (hg : Gl X x) (hm : X.mg x = some (.ref f)) (hk : PySem.W.keepIn X.K (.ref f) = true) (hb : Binds X.K fd ps []) (hx : Passes CX X E)
    (hdb : (x == ("__debug__" : Str)) = false) : DE X (.Call (.Name x p) [] [] pos) (sCall sp sNil) := by
  exact (pe_call0 F hr hg hm hk hb .nil hx hdb).imp fun σ H Q ⟨δ, S, Qd, hr, lr, h, q⟩ =>
    ⟨[], S, Qd, hr, by rw [List.append_nil]; exact Reps.nil_, h, q⟩
end

/-! ### arithmetic -/
/-- a list's items: a list that stands, or one that may be written -/
def asL (S : Store) : D → Option (List D)
  | .lst ds => some ds
  | .ref a => match S a with
    | some (.lst ds) => some ds
    | _ => none
  | _ => none
theorem asL_rep {W : KW} {H : Hp} {S : Store} {d : D} {ds : List D} {v : V} (hr : HR W H S) (r : Rep W H S d v) (h : asL S d = some ds) : ∃ a xs, v = .ref a ∧ H a = some (.lst xs) ∧ Reps W H S ds xs := by
  cases d with
  | lst es =>
    simp only [asL, Option.some.injEq] at h
    subst h
    simp only [Rep] at r
    exact let ⟨a, xs, e, _, q, r⟩ := r; ⟨a, xs, e, q, r⟩
  | ref a =>
    simp only [Rep] at r; subst r
    simp only [asL] at h
    split at h
    · rename_i es e
      cases h
      exact let ⟨xs, q, r⟩ := hr a _ e; ⟨a, xs, rfl, q, r⟩
    · cases h
  | _ => simp [asL] at h
/-- a dict's keys and what they have -/
def asD (S : Store) : D → Option (List D × List D)
  | .dic ks vs => some (ks, vs)
  | .ref a => match S a with
    | some (.dic _ ks vs) => some (ks, vs)
    | _ => none
  | _ => none
theorem asD_rep {W : KW} {H : Hp} {S : Store} {d : D} {ks vs : List D} {v : V} (hr : HR W H S) (r : Rep W H S d v) (h : asD S d = some (ks, vs)) : ∃ a, v = .ref a ∧ DicH W H S a ks vs := by
  cases d with
  | dic ks' vs' =>
    simp only [asD, Option.some.injEq, Prod.mk.injEq] at h
    obtain ⟨rfl, rfl⟩ := h
    simp only [Rep] at r
    exact let ⟨a, ob, xs, ys, e, _, q, r1, r2, r3⟩ := r; ⟨a, e, ob, xs, ys, q, r1, r2, r3⟩
  | ref a =>
    simp only [Rep] at r; subst r
    simp only [asD] at h
    split at h
    · rename_i ob ks' vs' e
      cases h
      exact let ⟨xs, ys, q, r1, r2, r3⟩ := hr a _ e; ⟨a, rfl, ob, xs, ys, q, r1, r2, r3⟩
    · cases h
  | _ => simp [asD] at h
/-- the key k may be asked of a dict with the keys ks -/
def dOk (ks : List D) (k : D) : Bool := (ks.all keyD && keyD k) || (ks.all leafD && leafD k)
theorem dAsk_of {W : KW} {H : Hp} {S : Store} {a : Addr} {ks vs : List D} {k : D} {x : V} (h : dOk ks k = true) (hd : DicH W H S a ks vs) (r : Rep W H S k x) : DAsk W H S a ks vs k x := by
  unfold dOk at h
  simp only [Bool.or_eq_true, Bool.and_eq_true] at h
  rcases h with h | h
  · exact ⟨true, hd, by simpa [kOk] using h.1, by simpa [kOk] using h.2, r⟩
  · exact ⟨false, hd, by simpa [kOk] using h.1, by simpa [kOk] using h.2, r⟩
def opAdd (x y : D) (S : Store) (Q : DK) : Prop := match x, y with
  | .int i, .int j => Q (.int (i + j)) S
  | .str i, .str j => i.length + j.length ≤ sizeLine ∧ Q (.str (i ++ j)) S
  | .tup xs, .tup ys => xs.length + ys.length ≤ sizeLine ∧ Q (.tup (xs ++ ys)) S
  | x, y => ∃ xs ys, asL S x = some xs ∧ asL S y = some ys ∧ xs.length + ys.length ≤ sizeLine ∧ Q (.lst (xs ++ ys)) S
theorem OpR.or3 {X : Cx} {f : Value → Value → Sem Value} {r r' r'' : R2} (h : OpR X f r) (h' : OpR X f r') (h'' : OpR X f r'') : OpR X f (fun x y H Q => r x y H Q ∨ r' x y H Q ∨ r'' x y H Q) := L2.OpR.or h (L2.OpR.or h' h'')
abbrev rAddI : R2 := rI0 fun i j => .int (i + j)
abbrev rAddS : R2 := fun x y H Q => ∃ i j, x = .str i ∧ y = .str j ∧ i.length + j.length ≤ sizeLine ∧ Q (.str (i ++ j)) H
def rAddAll (K : PySem.W.Frag) : R2 := fun x y H Q => (rAddI x y H Q ∨ rAddS x y H Q) ∨ (rCatA K x y H Q ∨ rCat x y H Q)
theorem op_addAll {X : Cx} : OpR X (binaryOp .Add) (rAddAll X.K) := L2.OpR.or (L2.OpR.or op_add op_add_str) (L2.OpR.or op_catA op_cat)
theorem d_add {W : KW} : DOp W (rAddAll W.K) opAdd := by
  intro H S x y v u Qd Q hr rx ry h q
  have L : ∀ xs ys, asL S x = some xs → asL S y = some ys → xs.length + ys.length ≤ sizeLine → Qd (.lst (xs ++ ys)) S → rAddAll W.K v u H Q := fun xs ys ex ey hz h => by
    obtain ⟨a, as, rfl, ha, ra⟩ := asL_rep hr rx ex
    obtain ⟨b, bs, rfl, hb, rb⟩ := asL_rep hr ry ey
    refine .inr (.inr ⟨a, b, as, bs, rfl, rfl, ha, hb, by rw [← ra.length, ← rb.length]; exact hz, fun p hp => q _ S _ _ h (Fut.new hr hp) (Rep.lst_new hr hp (ra.append rb))⟩)
  unfold opAdd at h
  split at h
  · simp only [Rep] at rx ry; subst rx ry
    exact .inl (.inl ⟨_, _, rfl, rfl, q _ S _ H h (Fut.refl hr) (by simp [Rep])⟩)
  · simp only [Rep] at rx ry; subst rx ry
    exact .inl (.inr ⟨_, _, rfl, rfl, h.1, q _ S _ H h.2 (Fut.refl hr) (by simp [Rep])⟩)
  · rename_i xs ys
    simp only [Rep] at rx ry
    obtain ⟨a, as, rfl, ha, ra⟩ := rx
    obtain ⟨b, bs, rfl, hb, rb⟩ := ry
    refine .inr (.inl ⟨a, b, as, bs, rfl, rfl, ha.sq, hb.sq, by rw [← ra.length, ← rb.length]; exact h.1, fun e => ?_, fun _ e => ?_, fun _ _ p hp => q _ S _ _ h.2 (Fut.new hr hp) (Rep.tup_new hr hp (ra.append rb))⟩)
    · refine q _ S _ H h.2 (Fut.refl hr) ?_
      simp only [Rep]
      exact ⟨b, bs, rfl, hb, by have := ra.append rb; rw [e] at this; simpa using this⟩
    · refine q _ S _ H h.2 (Fut.refl hr) ?_
      simp only [Rep]
      exact ⟨a, as, rfl, ha, by have := ra.append rb; rw [e] at this; simpa using this⟩
  · obtain ⟨xs, ys, ex, ey, hz, h⟩ := h
    exact L xs ys ex ey hz h
/-- ints under C -/
def opI (C : Int → Int → Prop) (f : Int → Int → D) (x y : D) (S : Store) (Q : DK) : Prop := match x, y with
  | .int i, .int j => C i j ∧ Q (f i j) S
  | _, _ => False
theorem d_I {W : KW} {C : Int → Int → Prop} {f : Int → Int → D} {g : Int → Int → V} (hfg : ∀ i j H S, Rep W H S (f i j) (g i j)) : DOp W (rI C g) (opI C f) := by
  intro H S x y v u Qd Q hr rx ry h q
  unfold opI at h
  split at h
  · simp only [Rep] at rx ry; subst rx ry
    exact ⟨_, _, rfl, rfl, h.1, q _ S _ H h.2 (Fut.refl hr) (hfg _ _ _ _)⟩
  · exact h.elim
def opI0 (f : Int → Int → D) (x y : D) (S : Store) (Q : DK) : Prop := match x, y with
  | .int i, .int j => Q (f i j) S
  | _, _ => False
theorem d_I0 {W : KW} {f : Int → Int → D} {g : Int → Int → V} (hfg : ∀ i j H S, Rep W H S (f i j) (g i j)) : DOp W (rI0 g) (opI0 f) := by
  intro H S x y v u Qd Q hr rx ry h q
  unfold opI0 at h
  split at h
  · simp only [Rep] at rx ry; subst rx ry
    exact ⟨_, _, rfl, rfl, q _ S _ H h (Fut.refl hr) (hfg _ _ _ _)⟩
  · exact h.elim
abbrev opSub := opI0 fun i j => .int (i - j)
abbrev opMul := opI CMul fun i j => .int (i * j)
abbrev opFdiv := opI CDiv fun i j => .int (i / j)
abbrev opMod := opI (fun _ j => 0 < j) fun i j => .int (i % j)
abbrev opPow := opI CPow fun i j => .int (i ^ j.toNat)
abbrev opLt := opI0 fun i j => .bl (decide (i < j))
abbrev opLe := opI0 fun i j => .bl (decide (i ≤ j))
abbrev opGt := opI0 fun i j => .bl (decide (j < i))
abbrev opGe := opI0 fun i j => .bl (decide (j ≤ i))
def sNeg (ta : DT) : DT := fun δ S Q => ta δ S fun d S1 => match d with
  | .int i => Q (.int (-i)) S1
  | _ => False
theorem de_neg {X : Cx} {a : Expr} {ta : DT} {pos : Pos} (ha : DE X a ta) : DE X (.UnaryOp .USub a pos) (sNeg ta) :=
  (pe_un un_neg ha).imp fun σ H Q ⟨δ, S, Qd, hr, lr, h, q⟩ => ⟨δ, S, _, hr, lr, h, fun d S1 v H1 h1 f1 r1 => by
    cases d with
    | int i => simp only [Rep] at r1; subst r1; exact ⟨i, rfl, q _ S1 _ H1 h1 f1 (by simp [Rep])⟩
    | _ => exact h1.elim⟩

/-! ### == and != of data -/
/-- a list that may be written, as it stands -/
def rsv (S : Store) : D → D
  | .ref a => match S a with
    | some (.lst ds) => .lst ds
    | _ => .ref a
  | d => d
mutual
/-- data no deeper than n -/
def okD : Nat → D → Bool
  | _, .non => true
  | _, .bl _ => true
  | _, .int _ => true
  | _, .str s => PyData.strOk s
  | 0, .tup _ => false
  | n + 1, .tup ds => okDs n ds
  | 0, .lst _ => false
  | n + 1, .lst ds => okDs n ds
  | _, _ => false
def okDs : Nat → List D → Bool
  | _, [] => true
  | n, d :: ds => okD n d && okDs n ds
end
mutual
/-- == -/
def deq : D → D → Bool
  | .non, .non => true
  | .bl a, .bl b => a == b
  | .bl a, .int j => (if a then 1 else 0) == j
  | .int i, .bl b => i == (if b then 1 else 0)
  | .int i, .int j => i == j
  | .str x, .str y => x == y
  | .lst xs, .lst ys => deqs xs ys
  | .tup xs, .tup ys => deqs xs ys
  | _, _ => false
def deqs : List D → List D → Bool
  | [], [] => true
  | x :: xs, y :: ys => deq x y && deqs xs ys
  | _, _ => false
end
mutual
def toPy : D → PyData
  | .bl b => .bool b
  | .int i => .int i
  | .str s => .str s
  | .tup ds => .tuple (toPys ds)
  | .lst ds => .list (toPys ds)
  | _ => .none
def toPys : List D → List PyData
  | [] => []
  | d :: ds => toPy d :: toPys ds
end
end Lf
set_option Elab.async false
set_option linter.all false
namespace Lf
open PySem PySem.Spec PyProof.Rows L2

section
variable {W : KW} {H : Hp} {S : Store}
mutual
theorem okD_lay : ∀ (n : Nat) (d : D), okD n d = true → (toPy d).canLay0 = true ∧ (toPy d).depth ≤ n
  | n, .non, _ => by simp [toPy, PyData.canLay0, PyData.depth]
  | n, .bl b, _ => by simp [toPy, PyData.canLay0, PyData.depth]
  | n, .int i, _ => by simp [toPy, PyData.canLay0, PyData.depth]
  | n, .str s, h => by simpa [toPy, PyData.canLay0, PyData.depth, okD] using h
  | 0, .tup ds, h => by simp [okD] at h
  | n + 1, .tup ds, h => by
    have := okDs_lay n ds (by simpa [okD] using h)
    simp only [toPy, PyData.canLay0, PyData.depth]
    exact ⟨this.1, by omega⟩
  | 0, .lst ds, h => by simp [okD] at h
  | n + 1, .lst ds, h => by
    have := okDs_lay n ds (by simpa [okD] using h)
    simp only [toPy, PyData.canLay0, PyData.depth]
    exact ⟨this.1, by omega⟩
  | n, .dic _ _, h => by cases n <;> simp [okD] at h
  | n, .ref _, h => by cases n <;> simp [okD] at h
  | n, .ty _, h => by cases n <;> simp [okD] at h
  | n, .scr _, h => by cases n <;> simp [okD] at h
theorem okDs_lay : ∀ (n : Nat) (ds : List D), okDs n ds = true → PyData.canLayAll0 (toPys ds) = true ∧ PyData.depthAll (toPys ds) ≤ n
  | n, [], _ => by simp [toPys, PyData.canLayAll0, PyData.depthAll]
  | n, d :: ds, h => by
    have h' : okD n d = true ∧ okDs n ds = true := by simpa [okDs] using h
    have h1 := okD_lay n d h'.1
    have h2 := okDs_lay n ds h'.2
    simp only [toPys, PyData.canLayAll0, PyData.depthAll, h1.1, h2.1, Bool.and_self, true_and]
    omega
end
theorem okD_shaped {d : D} (h : okD 64 d = true) : SeqAt.shaped (toPy d) = true := by
  have := okD_lay 64 d h
  simp [SeqAt.shaped, this.1, this.2]
mutual
theorem okD_dp (n : Nat) : ∀ (d : D) (v : V), okD n d = true → Rep W H S d v → Dp W.K H v (toPy d)
  | .non, _, _, r => by simp only [Rep] at r; subst r; exact .non
  | .bl b, _, _, r => by simp only [Rep] at r; subst r; exact .bl b
  | .int i, _, _, r => by simp only [Rep] at r; subst r; exact .int i
  | .str s, _, _, r => by simp only [Rep] at r; subst r; exact .str s
  | .tup ds, _, h, r => by
    simp only [Rep] at r
    obtain ⟨a, xs, rfl, q, r⟩ := r
    cases n with
    | zero => simp [okD] at h
    | succ n => exact .tup q.sq (okDs_dp n ds xs (by simpa [okD] using h) r)
  | .lst ds, _, h, r => by
    simp only [Rep] at r
    obtain ⟨a, xs, rfl, _, q, r⟩ := r
    cases n with
    | zero => simp [okD] at h
    | succ n => exact .lst (.inl (.inl q)) (okDs_dp n ds xs (by simpa [okD] using h) r)
  | .dic _ _, _, h, _ => by cases n <;> simp [okD] at h
  | .ref _, _, h, _ => by cases n <;> simp [okD] at h
  | .ty _, _, h, _ => by cases n <;> simp [okD] at h
  | .scr _, _, h, _ => by cases n <;> simp [okD] at h
theorem okDs_dp (n : Nat) : ∀ (ds : List D) (vs : List V), okDs n ds = true → Reps W H S ds vs → DpAll W.K H vs (toPys ds)
  | [], _, _, r => by simp only [Reps] at r; subst r; exact .nil
  | d :: ds, _, h, r => by
    have h' : okD n d = true ∧ okDs n ds = true := by simpa [okDs] using h
    simp only [Reps] at r
    obtain ⟨x, xs, rfl, r1, r2⟩ := r
    exact .cons (okD_dp n d x h'.1 r1) (okDs_dp n ds xs h'.2 r2)
end
mutual
theorem deq_eqv (n m : Nat) : ∀ (d e : D), okD n d = true → okD m e = true → PyData.eqv (toPy d) (toPy e) = deq d e
  | .tup xs, .tup ys, h, g => by
    cases n with
    | zero => simp [okD] at h
    | succ n =>
      cases m with
      | zero => simp [okD] at g
      | succ m => simpa [toPy, PyData.eqv, deq] using deqs_eqv n m xs ys (by simpa [okD] using h) (by simpa [okD] using g)
  | .lst xs, .lst ys, h, g => by
    cases n with
    | zero => simp [okD] at h
    | succ n =>
      cases m with
      | zero => simp [okD] at g
      | succ m => simpa [toPy, PyData.eqv, deq] using deqs_eqv n m xs ys (by simpa [okD] using h) (by simpa [okD] using g)
  | .dic _ _, _, h, _ => by cases n <;> simp [okD] at h
  | .ref _, _, h, _ => by cases n <;> simp [okD] at h
  | .ty _, _, h, _ => by cases n <;> simp [okD] at h
  | .scr _, _, h, _ => by cases n <;> simp [okD] at h
  | _, .dic _ _, _, h => by cases m <;> simp [okD] at h
  | _, .ref _, _, h => by cases m <;> simp [okD] at h
  | _, .ty _, _, h => by cases m <;> simp [okD] at h
  | _, .scr _, _, h => by cases m <;> simp [okD] at h
  | .non, .non, _, _ => by simp [toPy, PyData.eqv, deq]
  | .non, .bl _, _, _ => by simp [toPy, PyData.eqv, deq]
  | .non, .int _, _, _ => by simp [toPy, PyData.eqv, deq]
  | .non, .str _, _, _ => by simp [toPy, PyData.eqv, deq]
  | .non, .tup _, _, _ => by simp [toPy, PyData.eqv, deq]
  | .non, .lst _, _, _ => by simp [toPy, PyData.eqv, deq]
  | .bl _, .non, _, _ => by simp [toPy, PyData.eqv, deq]
  | .bl _, .bl _, _, _ => by simp [toPy, PyData.eqv, deq]
  | .bl _, .int _, _, _ => by simp [toPy, PyData.eqv, deq]
  | .bl _, .str _, _, _ => by simp [toPy, PyData.eqv, deq]
  | .bl _, .tup _, _, _ => by simp [toPy, PyData.eqv, deq]
  | .bl _, .lst _, _, _ => by simp [toPy, PyData.eqv, deq]
  | .int _, .non, _, _ => by simp [toPy, PyData.eqv, deq]
  | .int _, .bl _, _, _ => by simp [toPy, PyData.eqv, deq]
  | .int _, .int _, _, _ => by simp [toPy, PyData.eqv, deq]
  | .int _, .str _, _, _ => by simp [toPy, PyData.eqv, deq]
  | .int _, .tup _, _, _ => by simp [toPy, PyData.eqv, deq]
  | .int _, .lst _, _, _ => by simp [toPy, PyData.eqv, deq]
  | .str _, .non, _, _ => by simp [toPy, PyData.eqv, deq]
  | .str _, .bl _, _, _ => by simp [toPy, PyData.eqv, deq]
  | .str _, .int _, _, _ => by simp [toPy, PyData.eqv, deq]
  | .str _, .str _, _, _ => by simp [toPy, PyData.eqv, deq]
  | .str _, .tup _, _, _ => by simp [toPy, PyData.eqv, deq]
  | .str _, .lst _, _, _ => by simp [toPy, PyData.eqv, deq]
  | .tup _, .non, _, _ => by simp [toPy, PyData.eqv, deq]
  | .tup _, .bl _, _, _ => by simp [toPy, PyData.eqv, deq]
  | .tup _, .int _, _, _ => by simp [toPy, PyData.eqv, deq]
  | .tup _, .str _, _, _ => by simp [toPy, PyData.eqv, deq]
  | .tup _, .lst _, _, _ => by simp [toPy, PyData.eqv, deq]
  | .lst _, .non, _, _ => by simp [toPy, PyData.eqv, deq]
  | .lst _, .bl _, _, _ => by simp [toPy, PyData.eqv, deq]
  | .lst _, .int _, _, _ => by simp [toPy, PyData.eqv, deq]
  | .lst _, .str _, _, _ => by simp [toPy, PyData.eqv, deq]
  | .lst _, .tup _, _, _ => by simp [toPy, PyData.eqv, deq]
theorem deqs_eqv (n m : Nat) : ∀ (d e : List D), okDs n d = true → okDs m e = true → PyData.eqvAll (toPys d) (toPys e) = deqs d e
  | [], [], _, _ => by simp [toPys, PyData.eqvAll, deqs]
  | [], _ :: _, _, _ => by simp [toPys, PyData.eqvAll, deqs]
  | _ :: _, [], _, _ => by simp [toPys, PyData.eqvAll, deqs]
  | x :: xs, y :: ys, h, g => by
    have h' : okD n x = true ∧ okDs n xs = true := by simpa [okDs] using h
    have g' : okD m y = true ∧ okDs m ys = true := by simpa [okDs] using g
    simp only [toPys, PyData.eqvAll, deqs, deq_eqv n m x y h'.1 g'.1, deqs_eqv n m xs ys h'.2 g'.2]
end
/-- a list that may be written, as it stands -/
theorem rsv_dp {d : D} {v : V} {n : Nat} (hr : HR W H S) (r : Rep W H S d v) (h : okD n (rsv S d) = true) : Dp W.K H v (toPy (rsv S d)) := by
  cases d with
  | ref a =>
    simp only [Rep] at r; subst r
    cases e : S a with
    | none => simp [rsv, e] at h; cases n <;> simp [okD] at h
    | some m =>
      cases m with
      | lst ds =>
        simp only [rsv, e] at h ⊢
        obtain ⟨xs, q, r⟩ := hr a _ e
        cases n with
        | zero => simp [okD] at h
        | succ n => exact .lst (.inl (.inl q)) (okDs_dp n ds xs (by simpa [okD] using h) r)
      | dic _ _ _ => simp [rsv, e] at h; cases n <;> simp [okD] at h
      | ins _ _ _ => simp [rsv, e] at h; cases n <;> simp [okD] at h
  | _ => exact okD_dp n _ v h r
end
def opEq (x y : D) (S : Store) (Q : DK) : Prop := okD 64 (rsv S x) = true ∧ okD 64 (rsv S y) = true ∧ Q (.bl (deq (rsv S x) (rsv S y))) S
def opNe (x y : D) (S : Store) (Q : DK) : Prop := okD 64 (rsv S x) = true ∧ okD 64 (rsv S y) = true ∧ Q (.bl (!deq (rsv S x) (rsv S y))) S
theorem d_eq {W : KW} : DOp W (rEqD W.K) opEq := by
  intro H S x y v u Qd Q hr rx ry ⟨h1, h2, h⟩ q
  refine ⟨_, _, rsv_dp hr rx h1, rsv_dp hr ry h2, okD_shaped h1, okD_shaped h2, ?_⟩
  rw [deq_eqv 64 64 _ _ h1 h2]
  exact q _ S _ H h (Fut.refl hr) (by simp [Rep])
theorem d_ne {W : KW} : DOp W (rNeD W.K) opNe := by
  intro H S x y v u Qd Q hr rx ry ⟨h1, h2, h⟩ q
  refine ⟨_, _, rsv_dp hr rx h1, rsv_dp hr ry h2, okD_shaped h1, okD_shaped h2, ?_⟩
  rw [deq_eqv 64 64 _ _ h1 h2]
  exact q _ S _ H h (Fut.refl hr) (by simp [Rep])

/-! ### in, not in -/
def flatD : D → Bool
  | .non => true
  | .bl _ => true
  | .int _ => true
  | .str _ => true
  | _ => false
def hasD (x : D) (ds : List D) : Bool := ds.any fun z => deq z x
def opIn (neg : Bool) (x y : D) (S : Store) (Q : DK) : Prop := match y with
  | .tup ds => flatD x = true ∧ ds.all flatD = true ∧ Q (.bl (neg ^^ hasD x ds)) S
  | y => (∃ ds, asL S y = some ds ∧ okD 64 x = true ∧ okDs 63 ds = true ∧ Q (.bl (neg ^^ hasD x ds)) S) ∨ ∃ ks vs, asD S y = some (ks, vs) ∧ dOk ks x = true ∧ Q (.bl (neg ^^ (findK ks vs x).isSome)) S
theorem flat_rep {W : KW} {H : Hp} {S : Store} {d : D} {v : V} (f : flatD d = true) (r : Rep W H S d v) : flatV v = true := by
  cases d with
  | non => simp only [Rep] at r; subst r; rfl
  | bl _ => simp only [Rep] at r; subst r; rfl
  | int _ => simp only [Rep] at r; subst r; rfl
  | str _ => simp only [Rep] at r; subst r; rfl
  | _ => simp [flatD] at f
theorem eqV_rep {W : KW} {H : Hp} {S : Store} {d e : D} {v u : V} (f : flatD d = true) (g : flatD e = true) (r : Rep W H S d v) (r' : Rep W H S e u) : eqV v u = deq d e := by
  cases d with
  | non => simp only [Rep] at r; subst r; cases e <;> simp only [Rep, flatD] at r' g <;> first | (subst r'; simp [eqV, deq]) | (cases g)
  | bl _ => simp only [Rep] at r; subst r; cases e <;> simp only [Rep, flatD] at r' g <;> first | (subst r'; simp [eqV, deq]) | (cases g)
  | int _ => simp only [Rep] at r; subst r; cases e <;> simp only [Rep, flatD] at r' g <;> first | (subst r'; simp [eqV, deq]) | (cases g)
  | str _ => simp only [Rep] at r; subst r; cases e <;> simp only [Rep, flatD] at r' g <;> first | (subst r'; simp [eqV, deq]) | (cases g)
  | _ => simp [flatD] at f
theorem inV_rep {W : KW} {H : Hp} {S : Store} {d : D} {v : V} (f : flatD d = true) (r : Rep W H S d v) : ∀ {ds : List D} {vs : List V}, ds.all flatD = true → Reps W H S ds vs → vs.all flatV = true ∧ inV v vs = hasD d ds
  | [], _, _, e => by simp only [Reps] at e; subst e; simp [inV, hasD]
  | d' :: ds, _, h, e => by
    simp only [Reps] at e
    obtain ⟨x, xs, rfl, r1, r2⟩ := e
    have h' : flatD d' = true ∧ ds.all flatD = true := by simpa using h
    have ih := inV_rep f r h'.2 r2
    simp only [inV, hasD] at ih ⊢
    simp only [List.all_cons, flat_rep h'.1 r1, ih.1, List.any_cons, eqV_rep h'.1 f r1 r, Bool.and_self, true_and]
    rw [ih.2]
theorem any_toPys {n : Nat} {d : D} (h : okD 64 d = true) : ∀ {ds : List D}, okDs n ds = true → ((toPys ds).any fun z => PyData.eqv z (toPy d)) = hasD d ds
  | [], _ => by simp [toPys, hasD]
  | e :: ds, g => by
    have g' : okD n e = true ∧ okDs n ds = true := by simpa [okDs] using g
    have ih := any_toPys h g'.2
    simp only [hasD] at ih ⊢
    simp only [toPys, List.any_cons, deq_eqv n 64 e d g'.1 h, ih]
def rInAll (W : KW) : R2 := fun x y H Q => rIn W.K false x y H Q ∨ rInD W.K x y H Q ∨ rInDic W false x y H Q
def rNotInAll (W : KW) : R2 := fun x y H Q => rIn W.K true x y H Q ∨ rNotInD W.K x y H Q ∨ rInDic W true x y H Q
theorem op_inAll {X : Cx} (hu : X.A.units + 65 < cLine) : OpR X (compareOp .In) (rInAll (kw X)) := L2.OpR.or op_in_seq (L2.OpR.or (op_inD hu) (op_inDic hu))
theorem op_notInAll {X : Cx} (hu : X.A.units + 65 < cLine) : OpR X (compareOp .NotIn) (rNotInAll (kw X)) := L2.OpR.or op_notIn_seq (L2.OpR.or (op_notInD hu) (op_notInDic hu))
theorem asL_dp {W : KW} {H : Hp} {S : Store} {d : D} {ds : List D} {v : V} {n : Nat} (hr : HR W H S) (r : Rep W H S d v) (h : asL S d = some ds) (ok : okDs n ds = true) : Dp W.K H v (.list (toPys ds)) := by
  obtain ⟨a, xs, rfl, q, r⟩ := asL_rep hr r h
  exact .lst (.inl (.inl q)) (okDs_dp n ds xs ok r)
theorem okDs_shaped {ds : List D} (h : okDs 63 ds = true) : SeqAt.shaped (.list (toPys ds)) = true := okD_shaped (d := .lst ds) (by simpa [okD] using h)
theorem d_in {W : KW} : DOp W (rInAll W) (opIn false) := by
  intro H S x y v u Qd Q hr rx ry h q
  unfold opIn at h
  split at h
  · rename_i ds
    simp only [Rep] at ry
    obtain ⟨a, xs, rfl, ht, rs⟩ := ry
    have := inV_rep h.1 rx h.2.1 rs
    refine .inl ⟨a, xs, rfl, .inr ht.sq, flat_rep h.1 rx, this.1, ?_⟩
    rw [this.2]
    exact q _ S _ H h.2.2 (Fut.refl hr) (by simp [Rep])
  · rcases h with ⟨ds, e, h1, h2, h⟩ | ⟨ks, vs, e, h1, h⟩
    · refine .inr (.inl ⟨_, _, okD_dp 64 x v h1 rx, asL_dp hr ry e h2, okD_shaped h1, okDs_shaped h2, ?_⟩)
      rw [any_toPys h1 h2]
      exact q _ S _ H h (Fut.refl hr) (by simp [Rep])
    · obtain ⟨a, rfl, hd⟩ := asD_rep hr ry e
      exact .inr (.inr ⟨S, a, ks, vs, x, rfl, dAsk_of h1 hd rx, q _ S _ H h (Fut.refl hr) (by simp [Rep])⟩)
theorem d_notIn {W : KW} : DOp W (rNotInAll W) (opIn true) := by
  intro H S x y v u Qd Q hr rx ry h q
  unfold opIn at h
  split at h
  · rename_i ds
    simp only [Rep] at ry
    obtain ⟨a, xs, rfl, ht, rs⟩ := ry
    have := inV_rep h.1 rx h.2.1 rs
    refine .inl ⟨a, xs, rfl, .inr ht.sq, flat_rep h.1 rx, this.1, ?_⟩
    rw [this.2]
    exact q _ S _ H h.2.2 (Fut.refl hr) (by simp [Rep])
  · rcases h with ⟨ds, e, h1, h2, h⟩ | ⟨ks, vs, e, h1, h⟩
    · refine .inr (.inl ⟨_, _, okD_dp 64 x v h1 rx, asL_dp hr ry e h2, okD_shaped h1, okDs_shaped h2, ?_⟩)
      rw [any_toPys h1 h2]
      exact q _ S _ H h (Fut.refl hr) (by simp [Rep])
    · obtain ⟨a, rfl, hd⟩ := asD_rep hr ry e
      exact .inr (.inr ⟨S, a, ks, vs, x, rfl, dAsk_of h1 hd rx, q _ S _ H h (Fut.refl hr) (by simp [Rep])⟩)

/-! ### is None, is True -/
def isNon : D → Bool
  | .non => true
  | _ => false
theorem isNon_rep {W : KW} {H : Hp} {S : Store} {d : D} {v : V} (r : Rep W H S d v) : decide (v = .non) = isNon d := by
  cases d with
  | tup ds => simp only [Rep] at r; obtain ⟨a, xs, rfl, _⟩ := r; rfl
  | lst ds => simp only [Rep] at r; obtain ⟨a, xs, rfl, _⟩ := r; rfl
  | scr ds => simp only [Rep] at r; obtain ⟨a, xs, rfl, _⟩ := r; rfl
  | dic ks vs => simp only [Rep] at r; obtain ⟨a, _, _, _, rfl, _⟩ := r; rfl
  | _ => simp only [Rep] at r; subst r; rfl
/-- x is y: y None, or both truths -/
def opIs (neg : Bool) (x y : D) (S : Store) (Q : DK) : Prop := match y with
  | .non => Q (.bl (neg ^^ isNon x)) S
  | .bl b => match x with
    | .bl a => Q (.bl (neg ^^ decide (a = b))) S
    | _ => False
  | _ => False
abbrev rIsN : R2 := fun x y H Q => y = .non ∧ Q (.bl (decide (x = .non))) H
abbrev rIsNN : R2 := fun x y H Q => y = .non ∧ Q (.bl (!decide (x = .non))) H
theorem d_is {W : KW} : DOp W (fun x y H Q => rIsN x y H Q ∨ rIsB x y H Q) (opIs false) := by
  intro H S x y v u Qd Q hr rx ry h q
  unfold opIs at h
  split at h
  · simp only [Rep] at ry; subst ry
    exact .inl ⟨rfl, q _ S _ H h (Fut.refl hr) (by simp [Rep, isNon_rep rx])⟩
  · split at h
    · simp only [Rep] at rx ry; subst rx ry
      exact .inr ⟨_, _, rfl, rfl, q _ S _ H h (Fut.refl hr) (by simp [Rep])⟩
    · exact h.elim
  · exact h.elim
theorem d_isNot {W : KW} : DOp W (fun x y H Q => rIsNN x y H Q ∨ rNotB x y H Q) (opIs true) := by
  intro H S x y v u Qd Q hr rx ry h q
  unfold opIs at h
  split at h
  · simp only [Rep] at ry; subst ry
    exact .inl ⟨rfl, q _ S _ H h (Fut.refl hr) (by simp [Rep, isNon_rep rx])⟩
  · split at h
    · simp only [Rep] at rx ry; subst rx ry
      exact .inr ⟨_, _, rfl, rfl, q _ S _ H h (Fut.refl hr) (by simp [Rep])⟩
    · exact h.elim
  · exact h.elim
theorem op_isAll {X : Cx} : OpR X (compareOp .Is) (fun x y H Q => rIsN x y H Q ∨ rIsB x y H Q) := L2.OpR.or op_isN op_isBl
theorem op_isNotAll {X : Cx} : OpR X (compareOp .IsNot) (fun x y H Q => rIsNN x y H Q ∨ rNotB x y H Q) := L2.OpR.or op_notN op_notBl

/-! ### x[i] -/
def opIx (x y : D) (S : Store) (Q : DK) : Prop := match x, y with
  | .tup ds, .int i => ∃ d, atI ds i = some d ∧ Q d S
  | x, y => (∃ i ds d, y = .int i ∧ asL S x = some ds ∧ atI ds i = some d ∧ Q d S) ∨ ∃ ks vs d, asD S x = some (ks, vs) ∧ dOk ks y = true ∧ findK ks vs y = some d ∧ Q d S
theorem Reps.atI {W : KW} {H : Hp} {S : Store} {ds : List D} {vs : List V} {i : Int} {d : D} (r : Reps W H S ds vs) (h : L2.atI ds i = some d) : ∃ v, L2.atI vs i = some v ∧ Rep W H S d v := by
  unfold L2.atI at h ⊢
  rw [r.length] at h
  cases e : ixN vs.length i with
  | none => rw [e] at h; cases h
  | some j => rw [e] at h; exact r.get h
theorem d_ix {W : KW} : DOp W (fun x y H Q => rIxL W.K x y H Q ∨ rIxT W.K x y H Q ∨ rIxDic W x y H Q) opIx := by
  intro H S x y v u Qd Q hr rx ry h q
  unfold opIx at h
  split at h
  · rename_i ds i
    obtain ⟨d, e, h⟩ := h
    simp only [Rep] at rx ry; subst ry
    obtain ⟨a, xs, rfl, ht, rs⟩ := rx
    obtain ⟨w, e2, rw_⟩ := rs.atI e
    exact .inr (.inl ⟨a, xs, i, w, rfl, rfl, ht.sq, e2, q _ S _ H h (Fut.refl hr) rw_⟩)
  · rcases h with ⟨i, ds, d, rfl, el, e, h⟩ | ⟨ks, vs, d, e, h1, h2, h⟩
    · simp only [Rep] at ry; subst ry
      obtain ⟨a, xs, rfl, ht, rs⟩ := asL_rep hr rx el
      obtain ⟨w, e2, rw_⟩ := rs.atI e
      exact .inl ⟨a, xs, i, w, rfl, rfl, .inl (.inl ht), e2, q _ S _ H h (Fut.refl hr) rw_⟩
    · obtain ⟨a, rfl, hd⟩ := asD_rep hr rx e
      exact .inr (.inr ⟨S, a, ks, vs, y, d, rfl, dAsk_of h1 hd ry, h2, fun w rw_ => q _ S _ H h (Fut.refl hr) rw_⟩)
theorem ix_all {X : Cx} (hu : X.A.units + 65 < cLine) : IxR X (fun x y H Q => rIxL X.K x y H Q ∨ rIxT X.K x y H Q ∨ rIxDic (kw X) x y H Q) := L2.IxR.or ix_list (L2.IxR.or ix_tup (ix_dic hu))

/-! ### slices -/
abbrev DO := DSt → Store → (Option Int → Store → Prop) → Prop
def upO (W : KW) (t : DO) : TO := fun σ H Q => ∃ δ S Qd, HR W H S ∧ LR W H S δ σ ∧ t δ S Qd ∧ ∀ o S' H', Qd o S' → Fut W H S H' S' → Q o H'
def sNoP : DO := fun _ S Q => Q none S
def sP (ta : DT) : DO := fun δ S Q => ta δ S fun d S1 => match d with
  | .int i => Q (some i) S1
  | _ => False
/-- the items of a slice -/
def cutD (ds : List D) (lo hi : Option Int) : List D := (ds.drop (HT.sIx ds.length 0 lo)).take (HT.sIx ds.length ds.length hi - HT.sIx ds.length 0 lo)
def opSl (x : D) (lo hi : Option Int) (S : Store) (Q : DK) : Prop := match x with
  | .tup ds => Q (.tup (cutD ds lo hi)) S
  | .scr ds => Q (.lst (cutD ds lo hi)) S
  | x => ∃ ds, asL S x = some ds ∧ Q (.lst (cutD ds lo hi)) S
def sSl (ta : DT) (tl th : DO) : DT := fun δ S Q => ta δ S fun d S1 => tl δ S1 fun lo S2 => th δ S2 fun hi S3 => opSl d lo hi S3 Q
section
variable {X : Cx} {e a : Expr} {ta : DT} {tl th : DO} {lo hi : Option Expr} {p2 pos : Pos}
abbrev DPo (X : Cx) (e : Option Expr) (t : DO) : Prop := PO X e (upO (kw X) t)
theorem dp_none : DPo X none sNoP := ⟨fun pins s σ H Q I ⟨δ, S, Qd, hr, lr, h, q⟩ => po_none.run pins s σ H Q I (q none S H h (Fut.refl hr))⟩
theorem dp_some (ha : DE X e ta) : DPo X (some e) (sP ta) := ⟨fun pins s σ H Q I ⟨δ, S, Qd, hr, lr, h, q⟩ => (po_some ha).run pins s σ H Q I ⟨δ, S, _, hr, lr, h, fun d S1 v H1 h1 f1 r1 => by
  cases d with
  | int i => simp only [Rep] at r1; subst r1; exact ⟨i, rfl, q (some i) S1 H1 h1 f1⟩
  | _ => exact h1.elim⟩⟩
theorem Reps.cut {W : KW} {H : Hp} {S : Store} {ds : List D} {vs : List V} (lo hi : Option Int) (r : Reps W H S ds vs) : Reps W H S (cutD ds lo hi) (cutV vs lo hi) := by
  unfold cutD cutV
  rw [r.length]
  exact (r.drop _).take _
theorem de_slice (ha : DE X a ta) (hl : DPo X lo tl) (hh : DPo X hi th) : DE X (.Subscript a (.Slice lo hi none p2) pos) (sSl ta tl th) := by
  refine (pe_slice (L2.SlR.or sl_tupA sl_list) ha hl hh).imp fun σ H Q ⟨δ, S, Qd, hr, lr, h, q⟩ => ⟨δ, S, _, hr, lr, h, fun d S1 v H1 h1 f1 r1 => ⟨δ, S1, _, f1.hr, lr.fut hr f1, h1, fun l S2 H2 h2 f2 => ⟨δ, S2, _, f2.hr, (lr.fut hr f1).fut f1.hr f2, h2, fun u S3 H3 h3 f3 => ?_⟩⟩⟩
  have f := (f1.trans f2).trans f3
  have r := f3.rep f2.hr (f2.rep f1.hr r1)
  have fin : ∀ ds' v' H', Fut (kw X) H3 S3 H' S3 → Qd ds' S3 → Rep (kw X) H' S3 ds' v' → Q v' H' := fun ds' v' H' f' h' r' => q ds' S3 v' H' h' (f.trans f') r'
  unfold opSl at h3
  split at h3
  · rename_i ds
    simp only [Rep] at r
    obtain ⟨a, xs, rfl, ht, rs⟩ := r
    refine .inl ⟨a, xs, rfl, ht.sq, fun ⟨z1, z2⟩ => ?_, fun _ p hp => fin _ _ _ (Fut.new f3.hr hp) h3 (Rep.tup_new f3.hr hp (rs.cut l u))⟩
    refine fin _ _ _ (Fut.refl f3.hr) h3 ?_
    simp only [Rep]
    refine ⟨a, xs, rfl, ht, ?_⟩
    have e : cutD ds l u = ds := by
      unfold cutD
      rw [rs.length, z1, z2]
      simp only [List.drop_zero, Nat.sub_zero]
      exact List.take_of_length_le (Nat.le_of_eq rs.length)
    rw [e]; exact rs
  · rename_i ds
    simp only [Rep] at r
    obtain ⟨a, xs, rfl, ht, rs⟩ := r
    exact .inr ⟨a, xs, rfl, ht.sq, fun p hp => fin _ _ _ (Fut.new f3.hr hp) h3 (Rep.lst_new f3.hr hp (rs.cut l u))⟩
  · obtain ⟨ds, e, h3⟩ := h3
    obtain ⟨a, xs, rfl, ht, rs⟩ := asL_rep f3.hr r e
    exact .inr ⟨a, xs, rfl, .inl (.inl ht), fun p hp => fin _ _ _ (Fut.new f3.hr hp) h3 (Rep.lst_new f3.hr hp (rs.cut l u))⟩
end
end Lf
set_option Elab.async false
set_option linter.all false
namespace Lf
open PySem PySem.Spec PyProof.Rows L2

/-! ### targets -/
inductive Tg where
  | nm (i : Nat) | tp (ts : List Tg)
mutual
def tgD : Tg → D → DSt → Option DSt
  | .nm i, d, δ => some (δ.set i (some d))
  | .tp ts, d, δ => match d with
    | .tup ds => tgDs ts ds δ
    | _ => none
def tgDs : List Tg → List D → DSt → Option DSt
  | [], ds, δ => match ds with
    | [] => some δ
    | _ :: _ => none
  | t :: ts, ds, δ => match ds with
    | [] => none
    | d :: ds => match tgD t d δ with
      | some δ1 => tgDs ts ds δ1
      | none => none
end
mutual
def tgV (K : PySem.W.Frag) : Tg → TG
  | .nm i => gName i
  | .tp ts => gTup K ts.length (tgVs K ts)
def tgVs (K : PySem.W.Frag) : List Tg → TGs
  | [] => gNil
  | t :: ts => gCons (tgV K t) (tgVs K ts)
end
mutual
def tgIx : Tg → List Nat
  | .nm i => [i]
  | .tp ts => tgIxs ts
def tgIxs : List Tg → List Nat
  | [] => []
  | t :: ts => tgIx t ++ tgIxs ts
end
theorem wipe_get (σ : L2.St) (j : Nat) : ∀ vs : List Nat, (L2.wipe σ vs)[j]? = if j ∈ vs then (σ[j]?).map (fun _ => none) else σ[j]?
  | [] => by simp [L2.wipe]
  | v :: vs => by
    unfold L2.wipe
    by_cases h : v = j
    · subst h
      rw [List.getElem?_set]
      have := L2.wipe_length σ vs
      by_cases hl : v < σ.length
      · simp [this, hl]
      · simp [this, hl]
    · rw [List.getElem?_set_ne h, wipe_get σ j vs]
      simp [Ne.symm h]
/-- slots outside vs are alike -/
def Alike (vs : List Nat) (σ σ' : L2.St) : Prop := σ.length = σ'.length ∧ ∀ j, j ∉ vs → σ'[j]? = σ[j]?
theorem Alike.wipe {vs : List Nat} {σ σ' : L2.St} (h : Alike vs σ σ') : L2.wipe σ' vs = L2.wipe σ vs := by
  apply List.ext_getElem?
  intro j
  rw [wipe_get, wipe_get]
  by_cases hj : j ∈ vs
  · simp only [hj, if_true]
    by_cases hl : j < σ.length
    · rw [List.getElem?_eq_getElem hl, List.getElem?_eq_getElem (h.1 ▸ hl)]; rfl
    · have := h.1
      rw [List.getElem?_eq_none (by omega), List.getElem?_eq_none (by omega)]
  · simp only [hj, if_false]
    exact h.2 j hj
theorem Alike.trans {vs : List Nat} {a b c : L2.St} (h : Alike vs a b) (g : Alike vs b c) : Alike vs a c := ⟨h.1.trans g.1, fun j hj => (g.2 j hj).trans (h.2 j hj)⟩
theorem Alike.mono {vs us : List Nat} {a b : L2.St} (h : Alike vs a b) (s : ∀ i ∈ vs, i ∈ us) : Alike us a b := ⟨h.1, fun j hj => h.2 j fun z => hj (s j z)⟩
theorem wipe_idem (σ : L2.St) (vs : List Nat) : Alike vs σ (L2.wipe σ vs) := ⟨(L2.wipe_length σ vs).symm, fun j hj => by rw [wipe_get, if_neg hj]⟩
section
variable {W : KW} {H : Hp} {S : Store}
mutual
theorem tg_rep (hr : HR W H S) : ∀ (t : Tg) (d : D) (v : V) (δ δ' : DSt) (σ : L2.St), Rep W H S d v → LR W H S δ σ → tgD t d δ = some δ' → ∀ Q : L2.St → Hp → Prop, (∀ σ', LR W H S δ' σ' → Alike (tgIx t) σ σ' → Q σ' H) → tgV W.K t v σ H Q
  | .nm i, d, v, δ, δ', σ, r, l, e, Q, q => by
    simp only [tgD, Option.some.injEq] at e
    subst e
    refine q _ (l.set i r) ⟨by simp, fun j hj => ?_⟩
    have : i ≠ j := fun z => hj (by simp [tgIx, z])
    rw [List.getElem?_set_ne this]
  | .tp ts, d, v, δ, δ', σ, r, l, e, Q, q => by
    cases d with
    | tup ds =>
      simp only [tgD] at e
      simp only [Rep] at r
      obtain ⟨a, xs, rfl, ht, rs⟩ := r
      have hl := tgDs_len ts ds δ δ' e
      exact ⟨a, xs, rfl, ht.sq, by rw [← rs.length]; exact hl.symm, tg_reps hr ts ds xs δ δ' σ rs l e Q q⟩
    | _ => simp [tgD] at e
theorem tg_reps (hr : HR W H S) : ∀ (ts : List Tg) (ds : List D) (vs : List V) (δ δ' : DSt) (σ : L2.St), Reps W H S ds vs → LR W H S δ σ → tgDs ts ds δ = some δ' → ∀ Q : L2.St → Hp → Prop, (∀ σ', LR W H S δ' σ' → Alike (tgIxs ts) σ σ' → Q σ' H) → tgVs W.K ts vs σ H Q
  | [], ds, vs, δ, δ', σ, r, l, e, Q, q => by
    cases ds with
    | nil =>
      simp only [tgDs, Option.some.injEq] at e
      subst e
      simp only [Reps] at r
      exact ⟨r, q σ l ⟨rfl, fun _ _ => rfl⟩⟩
    | cons _ _ => simp [tgDs] at e
  | t :: ts, ds, vs, δ, δ', σ, r, l, e, Q, q => by
    cases ds with
    | nil => simp [tgDs] at e
    | cons d ds =>
      simp only [tgDs] at e
      split at e
      · rename_i δ1 e1
        simp only [Reps] at r
        obtain ⟨x, xs, rfl, r1, r2⟩ := r
        exact ⟨x, xs, rfl, tg_rep hr t d x δ δ1 σ r1 l e1 _ fun σ1 l1 a1 => tg_reps hr ts ds xs δ1 δ' σ1 r2 l1 e Q fun σ2 l2 a2 =>
          q σ2 l2 ((a1.mono fun i hi => by simp [tgIxs, hi]).trans (a2.mono fun i hi => by simp [tgIxs, hi]))⟩
      · cases e
theorem tgDs_len : ∀ (ts : List Tg) (ds : List D) (δ δ' : DSt), tgDs ts ds δ = some δ' → ts.length = ds.length
  | [], ds, δ, δ', e => by cases ds <;> simp_all [tgDs]
  | t :: ts, ds, δ, δ', e => by
    cases ds with
    | nil => simp [tgDs] at e
    | cons d ds =>
      simp only [tgDs] at e
      split at e
      · rename_i δ1 e1
        simp [tgDs_len ts ds δ1 δ' e]
      · cases e
end
end

/-! ### statements -/
def sNext : DS := fun D δ S => D.nx δ S
def sSeq (t u : DS) : DS := fun D δ S => t { D with nx := u D } δ S
def sBrk : DS := fun D δ S => D.bk δ S
def sCont : DS := fun D δ S => D.ct δ S
def sDrop (ta : DT) : DS := fun D δ S => ta δ S fun _ S1 => D.nx δ S1
def sIf (tc : DT) (t u : DS) : DS := fun D δ S => tc δ S fun d S1 => ∃ k, truB S1 d = some k ∧ if k = true then t D δ S1 else u D δ S1
def sSet (g : Tg) (ta : DT) : DS := fun D δ S => ta δ S fun d S1 => match tgD g d δ with
  | some δ1 => D.nx δ1 S1
  | none => False
def sPar (i j : Nat) (ta : DA) : DS := fun D δ S => ta δ S fun ds S1 => match ds with
  | [d, e] => D.nx ((δ.set i (some d)).set j (some e)) S1
  | _ => False
def sPar3 (i j l : Nat) (ta : DA) : DS := fun D δ S => ta δ S fun ds S1 => match ds with
  | [d, e, f] => D.nx (((δ.set i (some d)).set j (some e)).set l (some f)) S1
  | _ => False
mutual
/-- what lists become of that S no longer tells -/
def Frz (S S' : Store) : D → D → Prop
  | .lst ds, x => x = .lst ds ∨ ∃ a es, x = .ref a ∧ S a = some (.lst es) ∧ S' a = none ∧ Frzs S S' ds es
  | .tup ds, x => ∃ es, x = .tup es ∧ Frzs S S' ds es
  | .dic ks vs, x => x = .dic ks vs ∨ ∃ a ob ws, x = .ref a ∧ S a = some (.dic ob ks ws) ∧ S' a = none ∧ Frzs S S' vs ws
  | d, x => x = d
def Frzs (S S' : Store) : List D → List D → Prop
  | [], xs => xs = []
  | d :: ds, xs => ∃ x r, xs = x :: r ∧ Frz S S' d x ∧ Frzs S S' ds r
end
section
variable {W : KW} {H : Hp} {S S' : Store}
mutual
theorem frz_rep (hr : HR W H S) (hs : ∀ a m, S' a = some m → S a = some m) : ∀ (d x : D) (v : V), Frz S S' d x → Rep W H S x v → Rep W H S' d v
  | .lst ds, x, v, f, r => by
    simp only [Frz] at f
    rcases f with rfl | ⟨a, es, rfl, e, n, f⟩
    · exact (Fut.forget hr hs).rep hr r
    · simp only [Rep] at r ⊢
      subst r
      obtain ⟨xs, q, rs⟩ := hr a _ e
      exact ⟨a, xs, rfl, n, q, frzs_rep hr hs ds es xs f rs⟩
  | .tup ds, x, v, f, r => by
    simp only [Frz] at f
    obtain ⟨es, rfl, f⟩ := f
    simp only [Rep] at r ⊢
    obtain ⟨a, xs, rfl, q, rs⟩ := r
    exact ⟨a, xs, rfl, q, frzs_rep hr hs ds es xs f rs⟩
  | .dic ks vs, x, v, f, r => by
    simp only [Frz] at f
    rcases f with rfl | ⟨a, ob, ws, rfl, e, n, f⟩
    · exact (Fut.forget hr hs).rep hr r
    · simp only [Rep] at r ⊢
      subst r
      obtain ⟨xs, ys, q1, q2, q3, q4⟩ := hr a _ e
      exact ⟨a, ob, xs, ys, rfl, n, q1, q2, (Fut.forget hr hs).reps hr q3, frzs_rep hr hs vs ws ys f q4⟩
  | .non, x, v, f, r => by simp only [Frz] at f; subst f; exact (Fut.forget hr hs).rep hr r
  | .bl _, x, v, f, r => by simp only [Frz] at f; subst f; exact (Fut.forget hr hs).rep hr r
  | .int _, x, v, f, r => by simp only [Frz] at f; subst f; exact (Fut.forget hr hs).rep hr r
  | .str _, x, v, f, r => by simp only [Frz] at f; subst f; exact (Fut.forget hr hs).rep hr r
  | .ref _, x, v, f, r => by simp only [Frz] at f; subst f; exact (Fut.forget hr hs).rep hr r
  | .ty _, x, v, f, r => by simp only [Frz] at f; subst f; exact (Fut.forget hr hs).rep hr r
  | .scr _, x, v, f, r => by simp only [Frz] at f; subst f; exact (Fut.forget hr hs).rep hr r
theorem frzs_rep (hr : HR W H S) (hs : ∀ a m, S' a = some m → S a = some m) : ∀ (ds xs : List D) (vs : List V), Frzs S S' ds xs → Reps W H S xs vs → Reps W H S' ds vs
  | [], xs, vs, f, r => by simp only [Frzs] at f; subst f; simp only [Reps] at r ⊢; exact r
  | d :: ds, xs, vs, f, r => by
    simp only [Frzs] at f
    obtain ⟨x, r', rfl, f1, f2⟩ := f
    simp only [Reps] at r ⊢
    obtain ⟨v, vs, rfl, r1, r2⟩ := r
    exact ⟨v, vs, rfl, frz_rep hr hs d x v f1 r1, frzs_rep hr hs ds r' vs f2 r2⟩
end
end
/-- return: what the callers needn't know is forgotten -/
def sRet (ta : DT) : DS := fun D δ S => ta δ S fun x S1 => ∃ d S2, (∀ a m, S2 a = some m → S1 a = some m) ∧ Frz S1 S2 d x ∧ D.rt d S2
def sRetN : DS := fun D δ S => ∃ S2, (∀ a m, S2 a = some m → S a = some m) ∧ D.rt .non S2
mutual
theorem Frz.refl (S S' : Store) : ∀ d : D, Frz S S' d d
  | .lst ds => by simp [Frz]
  | .tup ds => by simp only [Frz]; exact ⟨ds, rfl, Frzs.refl S S' ds⟩
  | .dic _ _ => by simp [Frz]
  | .non => by simp [Frz]
  | .bl _ => by simp [Frz]
  | .int _ => by simp [Frz]
  | .str _ => by simp [Frz]
  | .ref _ => by simp [Frz]
  | .ty _ => by simp [Frz]
  | .scr _ => by simp [Frz]
theorem Frzs.refl (S S' : Store) : ∀ ds : List D, Frzs S S' ds ds
  | [] => by simp [Frzs]
  | d :: ds => by simp only [Frzs]; exact ⟨d, ds, rfl, Frz.refl S S' d, Frzs.refl S S' ds⟩
end
section
variable {X : Cx} {st : Stmt} {rest b : List Stmt} {t u : DS} {e c : Expr} {ta tc : DT} {pos : Pos}
/-- an end over D behind a change -/
theorem upS_run {W : KW} {t : DS} {D : Ends} {σ : L2.St} {H H1 : Hp} {δ1 : DSt} {S S1 : Store} {Dd : DEnds} (f : Fut W H S H1 S1) (l1 : LR W H1 S1 δ1 σ) (h : t Dd δ1 S1)
    (q1 : ∀ δ' S' σ' H', Dd.nx δ' S' → Fut W H S H' S' → LR W H' S' δ' σ' → D.nx σ' H') (q2 : ∀ d S' v H', Dd.rt d S' → Fut W H S H' S' → Rep W H' S' d v → D.rt v H')
    (q3 : ∀ δ' S' σ' H', Dd.bk δ' S' → Fut W H S H' S' → LR W H' S' δ' σ' → D.bk σ' H') (q4 : ∀ δ' S' σ' H', Dd.ct δ' S' → Fut W H S H' S' → LR W H' S' δ' σ' → D.ct σ' H') : upS W t D σ H1 :=
  ⟨δ1, S1, Dd, f.hr, l1, h, fun δ' S' σ' H' z g l => q1 δ' S' σ' H' z (f.trans g) l, fun d S' v H' z g l => q2 d S' v H' z (f.trans g) l, fun δ' S' σ' H' z g l => q3 δ' S' σ' H' z (f.trans g) l, fun δ' S' σ' H' z g l => q4 δ' S' σ' H' z (f.trans g) l⟩
theorem dss_nil : DSs X [] sNext := pss_nil.imp fun D σ H ⟨δ, S, Dd, hr, lr, h, q1, q2, q3, q4⟩ => q1 δ S σ H h (Fut.refl hr) lr
theorem dss_cons (h1 : DSt1 X st t) (h2 : DSs X rest u) : DSs X (st :: rest) (sSeq t u) := (pss_cons h1 h2).imp fun D σ H ⟨δ, S, Dd, hr, lr, h, q1, q2, q3, q4⟩ =>
  ⟨δ, S, { Dd with nx := u Dd }, hr, lr, h, fun δ' S' σ' H' z f l => upS_run f l z q1 q2 q3 q4, q2, q3, q4⟩
theorem dss_one (h1 : DSt1 X st t) : DSs X [st] t := pss_one h1
theorem ds_pass : DSt1 X (.Pass pos) sNext := ps_pass.imp fun D σ H ⟨δ, S, Dd, hr, lr, h, q1, q2, q3, q4⟩ => q1 δ S σ H h (Fut.refl hr) lr
theorem ds_brk : DSt1 X (.Break pos) sBrk := ps_break.imp fun D σ H ⟨δ, S, Dd, hr, lr, h, q1, q2, q3, q4⟩ => q3 δ S σ H h (Fut.refl hr) lr
theorem ds_cont : DSt1 X (.Continue pos) sCont := ps_continue.imp fun D σ H ⟨δ, S, Dd, hr, lr, h, q1, q2, q3, q4⟩ => q4 δ S σ H h (Fut.refl hr) lr
theorem ds_drop (ha : DE X e ta) (hs : swapsWith e none pos.line X.env = pure false) : DSt1 X (.Expr e pos) (sDrop ta) := (ps_expr ha hs).imp fun D σ H ⟨δ, S, Dd, hr, lr, h, q1, q2, q3, q4⟩ =>
  ⟨δ, S, _, hr, lr, h, fun d S1 v H1 h1 f r => q1 δ S1 σ H1 h1 f (lr.fut hr f)⟩
theorem ds_ret (ha : DE X e ta) : DSt1 X (.Return (some e) pos) (sRet ta) := (ps_ret ha).imp fun D σ H ⟨δ, S, Dd, hr, lr, h, q1, q2, q3, q4⟩ =>
  ⟨δ, S, _, hr, lr, h, fun x S1 v H1 ⟨d, S2, hs, fz, z⟩ f r => q2 d S2 v H1 z (f.trans (Fut.forget f.hr hs)) (frz_rep f.hr hs d x v fz r)⟩
theorem ds_retN : DSt1 X (.Return none pos) sRetN := ps_retN.imp fun D σ H ⟨δ, S, Dd, hr, lr, ⟨S2, hs, h⟩, q1, q2, q3, q4⟩ => q2 .non S2 .non H h (Fut.forget hr hs) (by simp [Rep])
theorem ds_if (hc : DTst X c (sTru tc)) (ha : DSs X rest t) (hb : DSs X b u) : DSt1 X (.If c rest b pos) (sIf tc t u) := (ps_if hc ha hb).imp fun D σ H ⟨δ, S, Dd, hr, lr, h, q1, q2, q3, q4⟩ =>
  ⟨δ, S, fun k S1 => if k = true then t Dd δ S1 else u Dd δ S1, hr, lr, h, fun k S1 H1 h1 f => by
    cases k with
    | true => exact upS_run f (lr.fut hr f) h1 q1 q2 q3 q4
    | false => exact upS_run f (lr.fut hr f) h1 q1 q2 q3 q4⟩
theorem ds_set {tg : Expr} {g : Tg} (ha : DE X e ta) (hg : PG X tg (tgV X.K g)) (hs : swapsWithSole [tg] e pos.line X.env = pure false) (hw : swappedStores [tg] e X.env = pure none) (hA : (assignEach [tg] X.env).map (·.2) = [assign tg X.env]) : DSt1 X (.Assign [tg] e pos) (sSet g ta) :=
  (ps_asg ha hg hs hw hA).imp fun D σ H ⟨δ, S, Dd, hr, lr, h, q1, q2, q3, q4⟩ => ⟨δ, S, _, hr, lr, h, fun d S1 v H1 h1 f r => by
    split at h1
    · rename_i δ1 e1
      exact tg_rep f.hr g d v δ δ1 σ r (lr.fut hr f) e1 _ fun σ1 l1 _ => q1 δ1 S1 σ1 H1 h1 f l1
    · exact h1.elim⟩
theorem Reps.two {W : KW} {H : Hp} {S : Store} {d e : D} {vs : List V} (r : Reps W H S [d, e] vs) : ∃ v w, vs = [v, w] ∧ Rep W H S d v ∧ Rep W H S e w := by
  simp only [Reps] at r
  obtain ⟨x, _, rfl, r1, y, _, rfl, r2, rfl⟩ := r
  exact ⟨x, y, rfl, r1, r2⟩
theorem Reps.three {W : KW} {H : Hp} {S : Store} {d e f : D} {vs : List V} (r : Reps W H S [d, e, f] vs) : ∃ u v w, vs = [u, v, w] ∧ Rep W H S d u ∧ Rep W H S e v ∧ Rep W H S f w := by
  simp only [Reps] at r
  obtain ⟨x, _, rfl, r1, y, _, rfl, r2, z, _, rfl, r3, rfl⟩ := r
  exact ⟨x, y, z, rfl, r1, r2, r3⟩
theorem ds_par {i j : Nat} {x y : Str} {a b : Expr} {tr : DA} {px py pt : Pos} {kt k2 : Nat} {pt2 : Pos} (hc : X.calm = true) (hN : X.N.Nodup) (hi : X.N[i]? = some x) (hj : X.N[j]? = some y) (hij : i ≠ j)
    (hx : X.env.scope.names.lookup x = some .local) (hy : X.env.scope.names.lookup y = some .local) (ha : DAr X [a, b] tr)
    (hw : swappedStores [.Tuple [.Name x px, .Name y py] kt pt] (.Tuple [a, b] k2 pt2) X.env = pure (some [x, y])) :
    DSt1 X (.Assign [.Tuple [.Name x px, .Name y py] kt pt] (.Tuple [a, b] k2 pt2) pos) (sPar i j tr) :=
  (ps_par hc hN hi hj hij hx hy ha hw).imp fun D σ H ⟨δ, S, Dd, hr, lr, h, q1, q2, q3, q4⟩ => ⟨δ, S, _, hr, lr, h, fun ds S1 vs H1 h1 f r => by
    split at h1
    · rename_i d e
      obtain ⟨v, w, rfl, r1, r2⟩ := r.two
      exact ⟨v, w, rfl, q1 _ S1 _ H1 h1 f (((lr.fut hr f).set i r1).set j r2)⟩
    · exact h1.elim⟩
theorem ds_par3 {i j l : Nat} {x y z : Str} {a b c : Expr} {tr : DA} {px py pz pt : Pos} {kt k2 : Nat} {pt2 : Pos} (hc : X.calm = true) (hN : X.N.Nodup) (hi : X.N[i]? = some x) (hj : X.N[j]? = some y) (hl : X.N[l]? = some z) (hij : i ≠ j) (hil : i ≠ l) (hjl : j ≠ l)
    (hx : X.env.scope.names.lookup x = some .local) (hy : X.env.scope.names.lookup y = some .local) (hz : X.env.scope.names.lookup z = some .local) (ha : DAr X [a, b, c] tr)
    (hw : swappedStores [.Tuple [.Name x px, .Name y py, .Name z pz] kt pt] (.Tuple [a, b, c] k2 pt2) X.env = pure (some [x, y, z])) :
    DSt1 X (.Assign [.Tuple [.Name x px, .Name y py, .Name z pz] kt pt] (.Tuple [a, b, c] k2 pt2) pos) (sPar3 i j l tr) :=
  (ps_par3 hc hN hi hj hl hij hil hjl hx hy hz ha hw).imp fun D σ H ⟨δ, S, Dd, hr, lr, h, q1, q2, q3, q4⟩ => ⟨δ, S, _, hr, lr, h, fun ds S1 vs H1 h1 f r => by
    split at h1
    · rename_i d e g
      obtain ⟨u, v, w, rfl, r1, r2, r3⟩ := r.three
      exact ⟨u, v, w, rfl, q1 _ S1 _ H1 h1 f ((((lr.fut hr f).set i r1).set j r2).set l r3)⟩
    · exact h1.elim⟩

/-! ### while -/
def sWhile (tc : DT) (tb : DS) : DS := fun D δ S => ∃ P : Nat → DSt → Store → Prop, (∃ m, P m δ S) ∧ ∀ m δ S, P m δ S → sTru tc δ S fun k S1 =>
  if k = true then tb { nx := fun δ' S' => ∃ m', m' < m ∧ P m' δ' S', rt := D.rt, bk := D.nx, ct := fun δ' S' => ∃ m', m' < m ∧ P m' δ' S' } δ S1 else D.nx δ S1
theorem ds_while (hp : PassesOwn (model X.prog X.w) X.A X.env X.xe) (hc : DTst X c (sTru tc)) (hb : DSs X b t) : DSt1 X (.While c b [] pos) (sWhile tc t) :=
  (ps_while hp hc hb).imp fun D σ H ⟨δ, S, Dd, hr, lr, ⟨P, ⟨m0, h0⟩, turn⟩, q1, q2, q3, q4⟩ => by
    refine ⟨fun m σ' H' => ∃ δ' S', Fut (kw X) H S H' S' ∧ LR (kw X) H' S' δ' σ' ∧ P m δ' S', ⟨m0, δ, S, Fut.refl hr, lr, h0⟩, fun m σ1 H1 ⟨δ1, S1, f1, l1, p1⟩ => ?_⟩
    refine ⟨δ1, S1, _, f1.hr, l1, turn m δ1 S1 p1, fun k S2 H2 h2 f2 => ?_⟩
    cases k with
    | false => exact q1 δ1 S2 σ1 H2 h2 (f1.trans f2) (l1.fut f1.hr f2)
    | true =>
      refine ⟨fun σ' H' => ∃ m', m' < m ∧ ∃ δ' S', Fut (kw X) H S H' S' ∧ LR (kw X) H' S' δ' σ' ∧ P m' δ' S', fun σ' H' ⟨m', hm, z⟩ => ⟨m', hm, z⟩, ?_⟩
      refine upS_run (f1.trans f2) (l1.fut f1.hr f2) h2 (fun δ' S' σ' H' ⟨m', hm, z⟩ g l => ⟨m', hm, δ', S', g, l, z⟩) q2 (fun δ' S' σ' H' z g l => q1 δ' S' σ' H' z g l) (fun δ' S' σ' H' ⟨m', hm, z⟩ g l => ⟨m', hm, δ', S', g, l, z⟩)

/-! ### for -/
def forS (g : Store → Prop) (tg : Tg) (tb : DS) (En : DEnds) : List D → DSt → Store → Prop
  | [], δ, S => g S ∧ En.nx δ S
  | d :: ds, δ, S => g S ∧ match tgD tg d δ with
    | some δ1 => tb { nx := forS g tg tb En ds, rt := En.rt, bk := En.nx, ct := forS g tg tb En ds } δ1 S
    | none => False
def sFor (ti : DI) (tg : Tg) (tb : DS) : DS := fun D δ S => ti δ S fun ds g S1 => forS g tg tb D ds δ S1
theorem forS_g {g : Store → Prop} {tg : Tg} {tb : DS} {En : DEnds} {ds : List D} {δ : DSt} {S : Store} (h : forS g tg tb En ds δ S) : g S := by
  cases ds with
  | nil => exact h.1
  | cons d ds => exact h.1
theorem drop_at {α : Type} {ds : List α} {i : Nat} {d : α} (h : ds[i]? = some d) : ds.drop i = d :: ds.drop (i + 1) := by
  obtain ⟨hl, e⟩ := List.getElem?_eq_some_iff.mp h
  rw [List.drop_eq_getElem_cons hl, e]
theorem ds_for {ti : DI} {tg iter : Expr} {g : Tg} (hp : PassesOwn (model X.prog X.w) X.A X.env X.xe) (hc : X.calm = true) (hi : DIt X tg iter ti) (hg : PG X tg (tgV X.K g)) (hb : DSs X b t)
    (hs : ∀ x, foldedSetIterable iter X.env x = pure x) : DSt1 X (.For tg iter b [] pos) (sFor ti g t) :=
  (ps_for hp hc hi hg hb hs).imp fun D σ H ⟨δ, S, Dd, hr, lr, h, q1, q2, q3, q4⟩ => ⟨δ, S, _, hr, lr, h, fun ds gd S1 J H1 h1 f1 st => by
    refine ⟨fun i m σ' H' => ∃ δ' S', i + m = ds.length ∧ Fut (kw X) H1 S1 H' S' ∧ LR (kw X) H' S' δ' σ' ∧ forS gd g t Dd (ds.drop i) δ' S', ⟨ds.length, δ, S1, by omega, Fut.refl f1.hr, lr.fut hr f1, h1⟩, fun i m σ2 H2 ⟨δ2, S2, em, f2, l2, h2⟩ => ?_⟩
    have stp := st i H2 S2 f2 (forS_g h2)
    by_cases hi : i < ds.length
    · right
      have hd : ds[i]? = some ds[i] := List.getElem?_eq_getElem hi
      obtain ⟨go, yl⟩ := stp.1 _ hd
      rw [drop_at hd] at h2
      obtain ⟨_, h2⟩ := h2
      refine ⟨go, fun σ' H' => ∃ δ' S', Fut (kw X) H1 S1 H' S' ∧ LR (kw X) H' S' δ' σ' ∧ forS gd g t Dd (ds.drop (i + 1)) δ' S', fun σ' H' ⟨δ', S', z1, z2, z3⟩ => ⟨m - 1, by omega, δ', S', by omega, z1, z2, z3⟩, fun x H3 y => ?_⟩
      obtain ⟨f3, r3⟩ := yl x H3 y
      split at h2
      · rename_i δ3 e3
        refine tg_rep f3.hr g ds[i] x δ2 δ3 σ2 r3 (l2.fut f2.hr f3) e3 _ fun σ4 l4 _ => ?_
        have f13 := f2.trans f3
        refine ⟨δ3, S2, _, f3.hr, l4, h2, fun δ' S' σ' H' z g l => ⟨δ', S', f13.trans g, l, z⟩, fun d S' v H' z g l => q2 d S' v H' z ((f1.trans f13).trans g) l, fun δ' S' σ' H' z g l => q1 δ' S' σ' H' z ((f1.trans f13).trans g) l, fun δ' S' σ' H' z g l => ⟨δ', S', f13.trans g, l, z⟩⟩
      · exact h2.elim
    · left
      have ei : i = ds.length := by omega
      refine ⟨stp.2 ei, ?_⟩
      rw [ei, List.drop_length] at h2
      exact q1 δ2 S2 σ2 H2 h2.2 (f1.trans f2) l2⟩
end
end Lf
set_option Elab.async false
set_option linter.all false
set_option maxRecDepth 100000
namespace Lf
open PySem PySem.Spec PyProof.Rows L2
open AutoSeq1 (wpAny_loadPart')

/-! ### enumerate of a tuple -/
set_option maxHeartbeats 1000000 in
theorem meets_enum1 {v : Value} {o : Obj} {G : Heap → Prop} (B : Begins v o G) :
    Meets (Builtin.«enumerate.__new__» ⟨[.type "enumerate", v], []⟩) (fun _ R s => G s.heap ∧
      R (.ok (.ret (.ref (s.heap.push o).objs.size)))
        { s with heap := (s.heap.push o).push { cls := .type "enumerate", data := .fields #[.none, .bool false, .ref s.heap.objs.size, rawInt 0, .none, .none] } }) := .of_wp fun prog w A R s h => by
  obtain ⟨hp, g, d, tk, os⟩ := s
  obtain ⟨h1, h⟩ := h
  have hsub := sub_enumerate
  have q1 : ∀ {A' : Around} {E : Value → Shared → Prop} {Q : Value → Shared → Prop}, Q (.ref hp.objs.size) ⟨hp.push o, g, d, tk, os⟩ →
      wpAny (model prog w) A' (pyIter v) Q E ⟨hp, g, d, tk, os⟩ := fun q => B.iter prog w _ _ ⟨hp, g, d, tk, os⟩ _ h1 q
  wp_walk using q1
  refine wpAny_stack_any fun st => wpAny_pure ?_
  split
  · rename_i c _ _ _ _ _
    cases (c == Value.type "enumerate") <;> (wp_walk using q1; exact ⟨_, rfl, h⟩)
  · wp_walk using q1
    exact ⟨_, rfl, h⟩
theorem call_enum1 {prog : Program} {w : World} {A : Around} {E : Value → Shared → Prop} {s : Shared} {v : Value} {o : Obj} {G : Heap → Prop} {Q : Value → Shared → Prop} (B : Begins v o G) (h1 : G s.heap)
    (h : ∀ h', IsEnum h' (s.heap.objs.size + 1) s.heap.objs.size 0 .none → h'.get? s.heap.objs.size = some o → (∀ b o, s.heap.get? b = some o → h'.get? b = some o) → Q (.ref (s.heap.objs.size + 1)) { s with heap := h' }) :
    wpAny (model prog w) A (call (.type "enumerate") [v]) Q E s := by
  refine callType_new F.called_enumerate (by decide) (F.typeCall_enumerate_1 _) (F.newCall_enumerate_1 _) (fun obj => F.args_object_init_2 obj _) F.entry_enumerate_new (meets_enum1 B) ⟨h1, ?_⟩
  have hz : (s.heap.push o).objs.size = s.heap.objs.size + 1 := Heap.size_push ..
  show _ ∧ _
  rw [hz]
  have he : IsEnum ((s.heap.push o).push { cls := .type "enumerate", data := .fields #[.none, .bool false, .ref s.heap.objs.size, rawInt 0, .none, .none] })
      (s.heap.objs.size + 1) s.heap.objs.size 0 .none := by
    have := Heap.get?_push_size (s.heap.push o) (o := { cls := .type "enumerate", data := .fields #[.none, .bool false, .ref s.heap.objs.size, rawInt 0, .none, .none] }) rfl
    rw [hz] at this; exact this
  exact ⟨⟨_, he, rfl⟩, h _ he (Heap.get?_push_of_some _ (Heap.get?_push_size _ B.free)) fun b o x => Heap.get?_push_of_some _ (Heap.get?_push_of_some _ x)⟩
def IteT (K : PySem.W.Frag) (a : Addr) : It where
  go := fun i H => ∃ (xs : List V) (x : V), SqT K H a xs ∧ xs[i]? = some x
  yld := fun i H v H' => ∃ T x, v = .ref T ∧ H T = none ∧ H' = upd H T (.tup [.int (i : Nat), x]) ∧ ∀ xs, SqT K H a xs → xs[i]? = some x
  stop := fun i H => ∃ xs : List V, SqT K H a xs ∧ xs.length = i
theorem turn_enumT {P : Program} {w : World} {K : PySem.W.Frag} {elts : List Expr} {kk : Nat} {tpos : Pos} (a e it : Addr) :
    Turn P w K (.Tuple elts kk tpos) (IteT K a) [e, it] e (fun i h => (∃ old, IsEnum h e it ((i : Nat) : Int) old) ∧ h.IsTupleIter it a i ∧ e ≠ it ∧ a ≠ it ∧ a ≠ e) where
  mem := List.mem_cons_self ..
  obj := fun i h st b hb => by
    obtain ⟨⟨old, he⟩, ⟨o, ho, hc, hd⟩, _⟩ := st
    rcases (show b = e ∨ b = it by simpa using hb) with z | z <;> rw [z]
    · exact ⟨_, he, fun v q => nomatch q⟩
    · exact ⟨o, ho, fun v q => by rw [hd] at q; cases q⟩
  keep := fun i h h' ⟨⟨old, he⟩, hi, r⟩ k => ⟨⟨old, k e (by simp) _ he⟩, hi.at fun o q => k it (by simp) o q, r⟩
  item := by
    intro X hP hw hK hc i pins s σ H E I hf st hg
    subst hP hw hK
    obtain ⟨⟨old, he⟩, hit, hne, hai, hae⟩ := st
    obtain ⟨xs, x, hq, hx⟩ := hg
    obtain ⟨its, rv, p, hz⟩ := I.tuple hq
    obtain ⟨u, hu, ru⟩ := rv.get hx
    have hel : e < s.heap.objs.size := Heap.lt_size he
    have hil : it < s.heap.objs.size := by
      obtain ⟨_, q, _⟩ := hit
      exact Heap.lt_size q
    have hlen : i < its.toArray.size := by
      have := (List.getElem?_eq_some_iff.mp hu).1
      simpa using this
    refine wpAny_pyNext_enum_itemC (i := i) (Draws.tuple (A := X.A.in1) (I.ok.hd hc) it a hai its.toArray) he ⟨hit, p⟩ hlen hne ?_ fun y h' tk hy ho hst' hT hsz hk => ?_
    · intro hm
      rcases List.mem_cons.mp hm with z | hm
      · exact hne z
      · exact hae (List.mem_singleton.mp hm).symm
    have ey : y = u := by
      have e1 : its.toArray[i]? = some u := by simpa using hu
      exact Option.some.inj (hy.symm.trans e1)
    subst ey
    refine ⟨_, rfl, wpAny_letOwnedTupleGo_enum (s := { s with heap := h', toks := tk + 1 }) ho fun h'' he' sb => ?_⟩
    have hT2 : h''.get? s.heap.objs.size = some { cls := .type "tuple", data := .seq #[.int i tk, y] } := (sb.2 _ (Nat.ne_of_gt hel)).trans hT
    have new : ObjOk X.prog X.w (upd H s.heap.objs.size (.tup [.int (i : Nat), x])) h'' s.heap.objs.size (.tup [.int (i : Nat), x]) :=
      ⟨by show 2 ≤ sizeLine; decide, [.int i tk, y], .cons ⟨_, rfl⟩ (.cons ru .nil), _, hT2, rfl, _, rfl⟩
    have I1 : Inv X pins σ (upd H s.heap.objs.size (.tup [.int (i : Nat), x])) { s with heap := h'', toks := tk + 1 } :=
      I.turnedNew (ch := [e, it]) (fun b ob hb q => (sb.2 b (fun z => hb (by simp [z]))).trans (hk b ob (fun z => hb (by simp [z])) (fun z => hb (by simp [z])) q)) hf (Nat.le_refl _) new
    refine ⟨.ref s.heap.objs.size, _, I1, rfl, ⟨_, x, rfl, I.hok.fresh (Nat.le_refl _), rfl, fun ys hy => by rw [I.tuple_inj hy hq]; exact hx⟩, ⟨⟨y, ?_⟩, hst'.1.at fun o q => (sb.2 it (Ne.symm hne)).trans q, hne, hai, hae⟩, fun b hb => ?_⟩
    · have e1 : ((i + 1 : Nat) : Int) = (i : Int) + 1 := by omega
      rw [e1]; exact he'
    · have hb' : b < s.heap.objs.size := by
        rcases (show b = e ∨ b = it by simpa using hb) with z | z <;> rw [z]
        · exact hel
        · exact hil
      rw [upd_ne (Nat.ne_of_lt hb')]
      exact (hf b hb).1
  done := by
    intro X hP hw hK hc i pins s σ H E I hf st hg
    subst hP hw hK
    obtain ⟨⟨old, he⟩, hit, hne, hai, hae⟩ := st
    obtain ⟨xs, hq, hx⟩ := hg
    obtain ⟨its, rv, p, hz⟩ := I.tuple hq
    obtain ⟨f0, f1, f2, f3, f4, f5⟩ := hf it (by simp)
    have hl := rv.length
    have es : its.toArray.size = i := by rw [List.size_toArray]; omega
    exact wpAny_pyNext_enum_endD (Draws.tuple (A := X.A.in1) (I.ok.hd hc) it a hai its.toArray) he ⟨by rw [es]; exact hit, p⟩ fun h' eb => ⟨rfl, I.turned (t' := s.toks) (fun b o hb q => eb b o hb q) f0 f1 f3 f4 f5⟩
  self := fun A i s Q E ⟨⟨_, he⟩, _⟩ h => wpAny_pyIter_enum he h

/-! ### what is walked -/
section
variable {W : KW} {H : Hp} {S : Store}
theorem steps_list {a : Addr} {xs : List V} {ds : List D} (hr : HR W H S) (n : S a = none) (h : H a = some (.lst xs)) (r : Reps W H S ds xs) : Steps W (Itl W.K a) ds (fun _ => True) H S := fun i H2 S2 f _ => by
  have h2 := (f.keep a _ h n).1
  have r2 := f.reps hr r
  refine ⟨fun d hd => ?_, fun e => ?_⟩
  · obtain ⟨v, hv, rv⟩ := r2.get hd
    refine ⟨⟨xs, v, .inl (.inl h2), hv⟩, fun x H3 ⟨e1, e2⟩ => ?_⟩
    subst e1
    have := e2 xs (.inl (.inl h2))
    rw [hv] at this; cases this
    exact ⟨Fut.refl f.hr, rv⟩
  · exact ⟨xs, .inl (.inl h2), by rw [e, r2.length]; exact Nat.le_refl _⟩
theorem steps_scr {a : Addr} {xs : List V} {ds : List D} (hr : HR W H S) (h : ScrAt W.K H a xs) (r : Reps W H S ds xs) : Steps W (Itl W.K a) ds (fun _ => True) H S := fun i H2 S2 f _ => by
  have r2 := f.reps hr r
  have q2 : SqL W.K H2 a xs := (f.keep.scr hr h).sq
  refine ⟨fun d hd => ?_, fun e => ?_⟩
  · obtain ⟨v, hv, rv⟩ := r2.get hd
    refine ⟨⟨xs, v, q2, hv⟩, fun x H3 ⟨e1, e2⟩ => ?_⟩
    subst e1
    have := e2 xs q2
    rw [hv] at this; cases this
    exact ⟨Fut.refl f.hr, rv⟩
  · exact ⟨xs, q2, by rw [e, r2.length]; exact Nat.le_refl _⟩
theorem steps_ref {a : Addr} {ds : List D} : Steps W (Itl W.K a) ds (fun S' => S' a = some (.lst ds)) H S := fun i H2 S2 f g => by
  obtain ⟨xs, h2, r2⟩ := f.hr a _ g
  refine ⟨fun d hd => ?_, fun e => ?_⟩
  · obtain ⟨v, hv, rv⟩ := r2.get hd
    refine ⟨⟨xs, v, .inl (.inl h2), hv⟩, fun x H3 ⟨e1, e2⟩ => ?_⟩
    subst e1
    have := e2 xs (.inl (.inl h2))
    rw [hv] at this; cases this
    exact ⟨Fut.refl f.hr, rv⟩
  · exact ⟨xs, .inl (.inl h2), by rw [e, r2.length]; exact Nat.le_refl _⟩
theorem steps_tup {a : Addr} {xs : List V} {ds : List D} (hr : HR W H S) (h : TupAt W.K H a xs) (r : Reps W H S ds xs) : Steps W (Itt W.K a) ds (fun _ => True) H S := fun i H2 S2 f _ => by
  have h2 := (f.keep.sqt hr h).sq
  have r2 := f.reps hr r
  refine ⟨fun d hd => ?_, fun e => ?_⟩
  · obtain ⟨v, hv, rv⟩ := r2.get hd
    refine ⟨⟨xs, v, h2, hv⟩, fun x H3 ⟨e1, e2⟩ => ?_⟩
    subst e1
    have := e2 xs h2
    rw [hv] at this; cases this
    exact ⟨Fut.refl f.hr, rv⟩
  · exact ⟨xs, h2, by rw [e, r2.length]; exact Nat.le_refl _⟩
/-- lo, lo + 1, .. (n of them) -/
def rngD (lo : Int) : Nat → List D
  | 0 => []
  | n + 1 => .int lo :: rngD (lo + 1) n
theorem rngD_get : ∀ (n : Nat) (lo : Int) (i : Nat) (d : D), (rngD lo n)[i]? = some d → i < n ∧ d = .int (lo + i)
  | 0, lo, i, d, h => by simp [rngD] at h
  | n + 1, lo, 0, d, h => by simp [rngD] at h; subst h; exact ⟨by omega, by simp⟩
  | n + 1, lo, i + 1, d, h => by
    simp [rngD] at h
    obtain ⟨h1, h2⟩ := rngD_get n (lo + 1) i d h
    refine ⟨by omega, ?_⟩
    rw [h2]
    have : lo + 1 + (i : Int) = lo + ((i + 1 : Nat) : Int) := by omega
    rw [this]
theorem rngD_len : ∀ (n : Nat) (lo : Int), (rngD lo n).length = n
  | 0, _ => rfl
  | n + 1, lo => by simp [rngD, rngD_len n]
theorem steps_rng {lo : Int} {n : Nat} : Steps W (Itr lo n) (rngD lo n) (fun _ => True) H S := fun i H2 S2 f _ => by
  refine ⟨fun d hd => ?_, fun e => ?_⟩
  · obtain ⟨h1, h2⟩ := rngD_get n lo i d hd
    refine ⟨h1, fun x H3 ⟨e1, e2⟩ => ?_⟩
    subst e1 e2 h2
    exact ⟨Fut.refl f.hr, by simp [Rep]⟩
  · rw [rngD_len] at e
    exact Nat.le_of_eq e.symm
/-- enumerate's pairs -/
def enumD (k : Int) : List D → List D
  | [] => []
  | d :: ds => .tup [.int k, d] :: enumD (k + 1) ds
theorem enumD_get : ∀ (ds : List D) (k : Int) (i : Nat) (p : D), (enumD k ds)[i]? = some p → ∃ d, ds[i]? = some d ∧ p = .tup [.int (k + i), d]
  | [], k, i, p, h => by simp [enumD] at h
  | d :: ds, k, 0, p, h => by simp [enumD] at h; subst h; exact ⟨d, rfl, by simp⟩
  | d :: ds, k, i + 1, p, h => by
    simp [enumD] at h
    obtain ⟨e, h1, h2⟩ := enumD_get ds (k + 1) i p h
    refine ⟨e, by simpa using h1, ?_⟩
    rw [h2]
    have : k + 1 + (i : Int) = k + ((i + 1 : Nat) : Int) := by omega
    rw [this]
theorem enumD_len : ∀ (ds : List D) (k : Int), (enumD k ds).length = ds.length
  | [], _ => rfl
  | d :: ds, k => by simp [enumD, enumD_len ds]
theorem pair_new {T : Addr} {x y : V} {d e : D} (hr : HR W H S) (hT : H T = none) (r1 : Rep W H S d x) (r2 : Rep W H S e y) : Fut W H S (upd H T (.tup [x, y])) S ∧ Rep W (upd H T (.tup [x, y])) S (.tup [d, e]) (.ref T) :=
  ⟨Fut.new hr hT, Rep.tup_new hr hT (Reps.cons_ r1 (Reps.one r2))⟩
theorem steps_enumL {a : Addr} {xs : List V} {ds : List D} (hr : HR W H S) (n : S a = none) (h : H a = some (.lst xs)) (r : Reps W H S ds xs) : Steps W (Ite W.K a) (enumD 0 ds) (fun _ => True) H S := fun i H2 S2 f _ => by
  have h2 : SqL W.K H2 a xs := .inl (.inl (f.keep a _ h n).1)
  have r2 := f.reps hr r
  refine ⟨fun p hp => ?_, fun e => ?_⟩
  · obtain ⟨d, hd, rfl⟩ := enumD_get ds 0 i p hp
    obtain ⟨v, hv, rv⟩ := r2.get hd
    refine ⟨⟨xs, v, h2, hv⟩, fun x H3 ⟨T, y, e1, e2, e3, e4⟩ => ?_⟩
    have := e4 xs h2
    rw [hv] at this; cases this
    subst e1 e3
    rw [show (0 : Int) + (i : Int) = (i : Nat) by omega]
    exact pair_new f.hr e2 (by simp [Rep]) rv
  · rw [enumD_len] at e
    exact ⟨xs, h2, by rw [e, r2.length]; exact Nat.le_refl _⟩
theorem steps_enumR {a : Addr} {ds : List D} : Steps W (Ite W.K a) (enumD 0 ds) (fun S' => S' a = some (.lst ds)) H S := fun i H2 S2 f g => by
  obtain ⟨xs, h2', r2⟩ := f.hr a _ g
  have h2 : SqL W.K H2 a xs := .inl (.inl h2')
  refine ⟨fun p hp => ?_, fun e => ?_⟩
  · obtain ⟨d, hd, rfl⟩ := enumD_get ds 0 i p hp
    obtain ⟨v, hv, rv⟩ := r2.get hd
    refine ⟨⟨xs, v, h2, hv⟩, fun x H3 ⟨T, y, e1, e2, e3, e4⟩ => ?_⟩
    have := e4 xs h2
    rw [hv] at this; cases this
    subst e1 e3
    rw [show (0 : Int) + (i : Int) = (i : Nat) by omega]
    exact pair_new f.hr e2 (by simp [Rep]) rv
  · rw [enumD_len] at e
    exact ⟨xs, h2, by rw [e, r2.length]; exact Nat.le_refl _⟩
theorem steps_enumT {a : Addr} {xs : List V} {ds : List D} (hr : HR W H S) (h : TupAt W.K H a xs) (r : Reps W H S ds xs) : Steps W (IteT W.K a) (enumD 0 ds) (fun _ => True) H S := fun i H2 S2 f _ => by
  have h2 := (f.keep.sqt hr h).sq
  have r2 := f.reps hr r
  refine ⟨fun p hp => ?_, fun e => ?_⟩
  · obtain ⟨d, hd, rfl⟩ := enumD_get ds 0 i p hp
    obtain ⟨v, hv, rv⟩ := r2.get hd
    refine ⟨⟨xs, v, h2, hv⟩, fun x H3 ⟨T, y, e1, e2, e3, e4⟩ => ?_⟩
    have := e4 xs h2
    rw [hv] at this; cases this
    subst e1 e3
    rw [show (0 : Int) + (i : Int) = (i : Nat) by omega]
    exact pair_new f.hr e2 (by simp [Rep]) rv
  · rw [enumD_len] at e
    exact ⟨xs, h2, by rw [e, r2.length]⟩
/-- zip's pairs -/
def zipD : List D → List D → List D
  | d :: ds, e :: es => .tup [d, e] :: zipD ds es
  | _, _ => []
theorem zipD_get : ∀ (ds es : List D) (i : Nat) (p : D), (zipD ds es)[i]? = some p → ∃ d e, ds[i]? = some d ∧ es[i]? = some e ∧ p = .tup [d, e]
  | [], es, i, p, h => by simp [zipD] at h
  | d :: ds, [], i, p, h => by simp [zipD] at h
  | d :: ds, e :: es, 0, p, h => by simp [zipD] at h; subst h; exact ⟨d, e, rfl, rfl, rfl⟩
  | d :: ds, e :: es, i + 1, p, h => by
    simp [zipD] at h
    obtain ⟨d', e', h1, h2, h3⟩ := zipD_get ds es i p h
    exact ⟨d', e', by simpa using h1, by simpa using h2, h3⟩
theorem zipD_len : ∀ ds es : List D, (zipD ds es).length = min ds.length es.length
  | [], es => by simp [zipD]
  | d :: ds, [] => by simp [zipD]
  | d :: ds, e :: es => by simp [zipD, zipD_len ds es]
theorem steps_zipT {a b : Addr} {xs ys : List V} {ds es : List D} (hr : HR W H S) (h : TupAt W.K H a xs) (r : Reps W H S ds xs) (h' : TupAt W.K H b ys) (r' : Reps W H S es ys) : Steps W (RZ.ItzT W.K a b) (zipD ds es) (fun _ => True) H S := fun i H2 S2 f _ => by
  have h2 := (f.keep.sqt hr h).sq
  have h2' := (f.keep.sqt hr h').sq
  have r2 := f.reps hr r
  have r2' := f.reps hr r'
  refine ⟨fun p hp => ?_, fun e => ?_⟩
  · obtain ⟨d, e, hd, he, rfl⟩ := zipD_get ds es i p hp
    obtain ⟨v, hv, rv⟩ := r2.get hd
    obtain ⟨u, hu, ru⟩ := r2'.get he
    refine ⟨⟨xs, ys, v, u, h2, h2', hv, hu⟩, fun x H3 ⟨T, y, z, e1, e2, e3, e4, e5⟩ => ?_⟩
    have q1 := e4 xs h2
    have q2 := e5 ys h2'
    rw [hv] at q1; rw [hu] at q2; cases q1; cases q2
    subst e1 e3
    exact pair_new f.hr e2 rv ru
  · rw [zipD_len] at e
    have l1 := r2.length
    have l2 := r2'.length
    exact ⟨xs, ys, h2, h2', by omega⟩
/-- a list as zip has it: it stands, or g says that it does -/
theorem steps_zipL {a b : Addr} {ds es : List D} {g : Store → Prop} (ha : ∀ H2 S2, Fut W H S H2 S2 → g S2 → ∃ xs, H2 a = some (.lst xs) ∧ Reps W H2 S2 ds xs) (hb : ∀ H2 S2, Fut W H S H2 S2 → g S2 → ∃ xs, H2 b = some (.lst xs) ∧ Reps W H2 S2 es xs) :
    Steps W (Itz W.K a b) (zipD ds es) g H S := fun i H2 S2 f gs => by
  obtain ⟨xs, q, r2⟩ := ha H2 S2 f gs
  obtain ⟨ys, q', r2'⟩ := hb H2 S2 f gs
  have h2 : SqL W.K H2 a xs := .inl (.inl q)
  have h2' : SqL W.K H2 b ys := .inl (.inl q')
  refine ⟨fun p hp => ?_, fun e => ?_⟩
  · obtain ⟨d, e, hd, he, rfl⟩ := zipD_get ds es i p hp
    obtain ⟨v, hv, rv⟩ := r2.get hd
    obtain ⟨u, hu, ru⟩ := r2'.get he
    refine ⟨⟨xs, ys, v, u, h2, h2', hv, hu⟩, fun x H3 ⟨T, y, z, e1, e2, e3, e4, e5⟩ => ?_⟩
    have q1 := e4 xs h2
    have q2 := e5 ys h2'
    rw [hv] at q1; rw [hu] at q2; cases q1; cases q2
    subst e1 e3
    exact pair_new f.hr e2 rv ru
  · rw [zipD_len] at e
    have l1 := r2.length
    have l2 := r2'.length
    exact ⟨xs, ys, h2, h2', by omega⟩
end
section
variable {X : Cx} {pins : List (Addr × Obj)} {s : Shared} {σ : L2.St} {H : Hp} {δ : DSt} {S : Store}
theorem DE.go {e : Expr} {t : DT} (h : DE X e t) (I : Inv X pins σ H s) (hr : HR (kw X) H S) (lr : LR (kw X) H S δ σ) {Qd : DK} (q : t δ S Qd) :
    wpAny (model X.prog X.w) X.A (eval e X.env) (fun u s' => ∃ v H', Inv X pins σ H' s' ∧ RelV v u ∧ ∃ d S', Qd d S' ∧ Fut (kw X) H S H' S' ∧ Rep (kw X) H' S' d v) X.xe s :=
  h.run pins s σ H (fun v H' => ∃ d S', Qd d S' ∧ Fut (kw X) H S H' S' ∧ Rep (kw X) H' S' d v) I ⟨δ, S, Qd, hr, lr, q, fun d S' v H' a b c => ⟨d, S', a, b, c⟩⟩
theorem DAr.go {es : List Expr} {t : DA} (h : DAr X es t) (pos : Pos) (I : Inv X pins σ H s) (hr : HR (kw X) H S) (lr : LR (kw X) H S δ σ) {Qd : List D → Store → Prop} (q : t δ S Qd) :
    wpAny (model X.prog X.w) X.A (spliced (backTo pos (starEach es X.env))) (fun us s' => ∃ vs H', Inv X pins σ H' s' ∧ Vals vs us ∧ ∃ ds S', Qd ds S' ∧ Fut (kw X) H S H' S' ∧ Reps (kw X) H' S' ds vs) X.xe s :=
  h.run pos pins s σ H (fun vs H' => ∃ ds S', Qd ds S' ∧ Fut (kw X) H S H' S' ∧ Reps (kw X) H' S' ds vs) I ⟨δ, S, Qd, hr, lr, q, fun d S' v H' a b c => ⟨d, S', a, b, c⟩⟩
end
/-- what stands of a list while it is walked -/
def lstG (S : Store) : D → Store → Prop
  | .ref a => fun S' => ∃ ds, S a = some (.lst ds) ∧ S' a = some (.lst ds)
  | _ => fun _ => True
/-- what stands of a dict while it is walked -/
def dicG (S : Store) : D → Store → Prop
  | .ref a => fun S' => ∃ ob ks vs, S a = some (.dic ob ks vs) ∧ S' a = some (.dic ob ks vs)
  | _ => fun _ => True
def sItr (tl : DT) : DI := fun δ S Q => tl δ S fun d S1 => match d with
  | .tup ds => Q ds (fun _ => True) S1
  | .scr ds => Q ds (fun _ => True) S1
  | d => (∃ ds, asL S1 d = some ds ∧ Q ds (lstG S1 d) S1) ∨ ∃ ks vs, asD S1 d = some (ks, vs) ∧ Q ks (dicG S1 d) S1
theorem relV_inj {x y : V} {u : Value} (h : RelV x u) (g : RelV y u) : x = y := by
  cases x <;> cases y <;> simp only [L2.RelV] at h g <;> first
    | rfl
    | (obtain ⟨t, rfl⟩ := h; obtain ⟨t', e⟩ := g; cases e; rfl)
    | (obtain ⟨t, rfl⟩ := h; obtain ⟨t', e⟩ := g; cases e; done)
    | (subst h; obtain ⟨t', e⟩ := g; cases e; done)
    | (obtain ⟨t, e⟩ := h; subst g; cases e; done)
    | (subst h; cases g; rfl)
    | (subst h; cases g; done)
theorem vals_inj : ∀ {xs ys : List V} {us : List Value}, Vals xs us → Vals ys us → xs = ys
  | _, _, _, .nil, .nil => rfl
  | _, _, _, .cons r t, .cons r' t' => by rw [relV_inj r r', vals_inj t t']
/-- a walk of the keys: the dict's own object stands -/
theorem steps_dic {W : KW} {H : Hp} {S : Store} {d : D} {v : V} {ks vs : List D} (hr : HR W H S) (r : Rep W H S d v) (e : asD S d = some (ks, vs)) : ∃ a ob xs ys, v = .ref a ∧ H a = some (dO a ob) ∧ DicO W a ob ks xs ys ∧ Steps W (ItkD a ob xs) ks (dicG S d) H S := by
  have key : ∀ {a : Addr} {ob : Obj} {xs ys : List V}, DicO W a ob ks xs ys → (∀ H2 S2, Fut W H S H2 S2 → dicG S d S2 → H2 a = some (dO a ob) ∧ Reps W H2 S2 ks xs) → Steps W (ItkD a ob xs) ks (dicG S d) H S := fun {a ob xs ys} hD h i H2 S2 f g => by
    obtain ⟨h2, r2⟩ := h H2 S2 f g
    refine ⟨fun d hd => ?_, fun e => ?_⟩
    · obtain ⟨w, hw, rw_⟩ := r2.get hd
      refine ⟨⟨h2, (List.getElem?_eq_some_iff.mp hw).1⟩, fun x H3 ⟨e1, e2⟩ => ?_⟩
      subst e1
      rw [hw] at e2; cases e2
      exact ⟨Fut.refl f.hr, rw_⟩
    · exact ⟨h2, by rw [e, r2.length]⟩
  cases d with
  | dic ks' vs' =>
    simp only [asD, Option.some.injEq, Prod.mk.injEq] at e
    obtain ⟨rfl, rfl⟩ := e
    simp only [Rep] at r
    obtain ⟨a, ob, xs, ys, e, n, q, hD, r1, r2⟩ := r
    exact ⟨a, ob, xs, ys, e, q, hD, key hD fun H2 S2 f _ => ⟨(f.keep a _ q n).1, f.reps hr r1⟩⟩
  | ref a =>
    simp only [Rep] at r; subst r
    simp only [asD] at e
    split at e
    · rename_i ob ks' vs' e1
      cases e
      obtain ⟨xs, ys, q, hD, r1, r2⟩ := hr a _ e1
      refine ⟨a, ob, xs, ys, rfl, q, hD, key hD fun H2 S2 f ⟨ob', ks', vs', g1, g2⟩ => ?_⟩
      rw [e1] at g1; cases g1
      obtain ⟨xs', ys', q', hD', r1', _⟩ := f.hr a _ g2
      refine ⟨q', ?_⟩
      obtain ⟨es, ep, _, hd, _, _, _, k1, _⟩ := hD
      obtain ⟨es', ep', _, hd', _, _, _, k1', _⟩ := hD'
      rw [hd] at hd'
      cases hd'
      rw [vals_inj k1 k1']
      exact r1'
    · cases e
  | _ => simp [asD] at e
theorem lstG_at {W : KW} {H H2 : Hp} {S S2 : Store} {d : D} {v : V} {ds : List D} (hr : HR W H S) (r : Rep W H S d v) (e : asL S d = some ds) (f : Fut W H S H2 S2) (g : lstG S d S2) {a : Addr} (ev : v = .ref a) : ∃ xs, H2 a = some (.lst xs) ∧ Reps W H2 S2 ds xs := by
  subst ev
  cases d with
  | lst es =>
    simp only [asL, Option.some.injEq] at e; subst e
    simp only [Rep] at r
    obtain ⟨b, xs, e, n, q, rs⟩ := r
    cases e
    exact ⟨xs, (f.keep a _ q n).1, f.reps hr rs⟩
  | ref b =>
    simp only [Rep] at r; cases r
    obtain ⟨es, e1, e2⟩ := g
    simp only [asL, e1, Option.some.injEq] at e; subst e
    obtain ⟨xs, q, rs⟩ := f.hr a _ e2
    exact ⟨xs, q, rs⟩
  | _ => simp [asL] at e
section
variable {X : Cx} {l e e2 tg : Expr} {tl : DT} {ta : DA} {p pos tpos : Pos} {elts : List Expr} {kk : Nat}
theorem di_itr (hl : DE X l tl) : DIt X tg l (sItr tl) := by
  refine ⟨fun pins s σ H R I ⟨δ, S, Qd, hr, lr, h, q⟩ => ?_⟩
  refine thn (DE.go hl I hr lr h) fun u s1 ⟨v, H1, I1, rv, d, S1, h1, f1, r1⟩ => ?_
  have one : ∀ {a : Addr} {its : Array Value} {o : Obj} {J : It} {tn : Nat → Heap → Prop}, u = .ref a → o.isFreed = false → (∀ (w' : World) (A : Around) (E : Value → Shared → Prop) (Q : Value → Shared → Prop), Q (.ref s1.heap.objs.size) { s1 with heap := s1.heap.push o } → wpAny (model X.prog w') A (pyIter (.ref a)) Q E s1) →
      Turn X.prog X.w X.K tg J [s1.heap.objs.size] s1.heap.objs.size tn → tn 0 (s1.heap.push o) → R J H1 → wpAny (model X.prog X.w) X.A (pyIter u) (PIE X pins σ tg R) X.xe s1 := fun {a its o J tn} eu ho hit T h0 hR => by
    subst eu
    refine hit _ _ _ _ ⟨s1.heap.objs.size, [s1.heap.objs.size], tn, J, H1, rfl, I1.kept (t' := s1.toks) fun b o e => Heap.get?_push_of_some _ e, T, h0, fun b hb => ?_, hR⟩
    rw [List.mem_singleton.mp hb]
    exact I1.fpOk (Nat.le_refl _) (I1.hok.fresh (Nat.le_refl _))
  have lst : ∀ {a : Addr} {xs : List V}, v = .ref a → SqL X.K H1 a xs → R (Itl X.K a) H1 → wpAny (model X.prog X.w) X.A (pyIter u) (PIE X pins σ tg R) X.xe s1 := fun {a xs} ev hq hR => by
    subst ev
    obtain ⟨its, _, p, _⟩ := I1.list hq
    exact one (its := its.toArray) (o := { cls := .type "list_iterator", data := .fields #[.ref a, .int 0 0] }) (cast rfl rv) rfl (fun w' A E Q q => wpAny_pyIter_list p.isList q) (turn_list a _) ⟨_, Heap.get?_push_size _ rfl, rfl, rfl⟩ hR
  split at h1
  · rename_i ds
    simp only [Rep] at r1
    obtain ⟨a, xs, rfl, ht, rs⟩ := r1
    obtain ⟨its, _, p, _⟩ := I1.tuple ht.sq
    exact one (its := its.toArray) (o := { cls := .type "tuple_iterator", data := .fields #[.ref a, .int 0 0] }) (cast rfl rv) rfl (fun w' A E Q q => wpAny_pyIter_tuple (show s1.heap.IsTuple a its.toArray from p) q) (turn_tuple a _) ⟨_, Heap.get?_push_size _ rfl, rfl, rfl⟩
      (q ds _ S1 _ H1 h1 f1 (steps_tup f1.hr ht rs))
  · rename_i ds
    simp only [Rep] at r1
    obtain ⟨a, xs, rfl, ht, rs⟩ := r1
    exact lst rfl ht.sq (q ds _ S1 _ H1 h1 f1 (steps_scr f1.hr ht rs))
  · rcases h1 with ⟨ds, e, h1⟩ | ⟨ks, vs, e, h1⟩
    · obtain ⟨a, xs, rfl, ht, rs⟩ := asL_rep f1.hr r1 e
      refine lst rfl (.inl (.inl ht)) (q ds _ S1 _ H1 h1 f1 fun i H2 S2 f2 g2 => ?_)
      obtain ⟨ys, h2, r2⟩ := lstG_at f1.hr r1 e f2 g2 rfl
      have q2 : SqL X.K H2 a ys := .inl (.inl h2)
      refine ⟨fun d hd => ?_, fun e => ?_⟩
      · obtain ⟨v, hv, rv⟩ := r2.get hd
        refine ⟨⟨ys, v, q2, hv⟩, fun x H3 ⟨e1, e2⟩ => ?_⟩
        subst e1
        have := e2 ys q2
        rw [hv] at this; cases this
        exact ⟨Fut.refl f2.hr, rv⟩
      · exact ⟨ys, q2, by rw [e, r2.length]; exact Nat.le_refl _⟩
    · obtain ⟨a, ob, xs, ys, rfl, ho, hD, st⟩ := steps_dic f1.hr r1 e
      obtain rfl : u = Value.ref a := rv
      exact iter_dic I1 ho hD (q ks _ S1 _ H1 h1 f1 st)
/-- lo, lo + c, .. (n of them) -/
def rngC (lo c : Int) : Nat → List D
  | 0 => []
  | n + 1 => .int lo :: rngC (lo + c) c n
theorem rngC_get : ∀ (n : Nat) (lo c : Int) (i : Nat) (d : D), (rngC lo c n)[i]? = some d → i < n ∧ d = .int (lo + i * c)
  | 0, lo, c, i, d, h => by simp [rngC] at h
  | n + 1, lo, c, 0, d, h => by simp [rngC] at h; subst h; exact ⟨by omega, by simp⟩
  | n + 1, lo, c, i + 1, d, h => by
    simp [rngC] at h
    obtain ⟨h1, h2⟩ := rngC_get n (lo + c) c i d h
    refine ⟨by omega, ?_⟩
    rw [h2]
    have : lo + c + (i : Int) * c = lo + ((i + 1 : Nat) : Int) * c := by
      rw [Int.natCast_add, Int.add_mul]; simp; omega
    rw [this]
theorem rngC_len : ∀ (n : Nat) (lo c : Int), (rngC lo c n).length = n
  | 0, _, _ => rfl
  | n + 1, lo, c => by simp [rngC, rngC_len n]
theorem steps_rngC {W : KW} {H : Hp} {S : Store} {lo c : Int} {n : Nat} : Steps W (Itc lo c n) (rngC lo c n) (fun _ => True) H S := fun i H2 S2 f _ => by
  refine ⟨fun d hd => ?_, fun e => ?_⟩
  · obtain ⟨h1, h2⟩ := rngC_get n lo c i d hd
    refine ⟨h1, fun x H3 ⟨e1, e2⟩ => ?_⟩
    subst e1 e2 h2
    exact ⟨Fut.refl f.hr, by simp [Rep]⟩
  · rw [rngC_len] at e
    exact Nat.le_of_eq e.symm
/-- range(i, j, -1) -/
def sRngD (ta : DA) : DI := fun δ S Q => ta δ S fun ds S1 => match ds with
  | [.int i, .int j, .int c] => c = -1 ∧ (-(2 ^ 62) ≤ i ∧ i < 2 ^ 62 ∧ -(2 ^ 62) ≤ j ∧ j < 2 ^ 62) ∧ Q (rngC i (-1) (i - j).toNat) (fun _ => True) S1
  | _ => False
theorem di_rngD {e3 : Expr} (hg : Gl X "range") (hm : X.mg "range" = none) (ha : DAr X [e, e2, e3] ta) (hs : starEach [e, e2, e3] X.env = (false, eval e X.env) :: starEach [e2, e3] X.env) (hpl : (backTo pos (starEach [e2, e3] X.env)).any (·.1) = false) : DIt X tg (.Call (.Name "range" p) [e, e2, e3] [] pos) (sRngD ta) :=
  (pi_range3 hg hm ha hs hpl).imp fun σ H R ⟨δ, S, Qd, hr, lr, h, q⟩ => ⟨δ, S, _, hr, lr, h, fun ds S1 vs H1 h1 f r => by
    split at h1
    · rename_i i j c
      obtain ⟨rfl, b, h1⟩ := h1
      have e := Reps.of_map (f := D.int) (g := V.int) (fun x v z => by simpa [Rep] using z) (xs := [i, j, -1]) r
      exact ⟨i, j, -1, _, e, RgC.neg b.1 b.2.1 b.2.2.1 b.2.2.2, q _ _ S1 _ H1 h1 f steps_rngC⟩
    · exact h1.elim⟩
def sRng1 (ta : DA) : DI := fun δ S Q => ta δ S fun ds S1 => match ds with
  | [.int j] => -(2 ^ 62) ≤ j ∧ j < 2 ^ 62 ∧ Q (rngD 0 j.toNat) (fun _ => True) S1
  | _ => False
def sRng2 (ta : DA) : DI := fun δ S Q => ta δ S fun ds S1 => match ds with
  | [.int i, .int j] => (-(2 ^ 62) ≤ i ∧ i < 2 ^ 62 ∧ -(2 ^ 62) ≤ j ∧ j < 2 ^ 62) ∧ Q (rngD i (j - i).toNat) (fun _ => True) S1
  | _ => False
theorem di_rng1 (hg : Gl X "range") (hm : X.mg "range" = none) (ha : DAr X [e] ta) (hs : starEach [e] X.env = [(false, eval e X.env)]) : DIt X tg (.Call (.Name "range" p) [e] [] pos) (sRng1 ta) :=
  (pi_range1 hg hm ha hs).imp fun σ H R ⟨δ, S, Qd, hr, lr, h, q⟩ => ⟨δ, S, _, hr, lr, h, fun ds S1 vs H1 h1 f r => by
    split at h1
    · rename_i j
      have e := Reps.of_map (f := D.int) (g := V.int) (fun x v z => by simpa [Rep] using z) (xs := [j]) r
      exact ⟨j, e, h1.1, h1.2.1, q _ _ S1 _ H1 h1.2.2 f steps_rng⟩
    · exact h1.elim⟩
theorem di_rng2 (hg : Gl X "range") (hm : X.mg "range" = none) (ha : DAr X [e, e2] ta) (hs : starEach [e, e2] X.env = [(false, eval e X.env), (false, eval e2 X.env)]) (hs2 : starEach [e2] X.env = [(false, eval e2 X.env)]) : DIt X tg (.Call (.Name "range" p) [e, e2] [] pos) (sRng2 ta) :=
  (pi_range2 hg hm ha hs hs2).imp fun σ H R ⟨δ, S, Qd, hr, lr, h, q⟩ => ⟨δ, S, _, hr, lr, h, fun ds S1 vs H1 h1 f r => by
    split at h1
    · rename_i i j
      have e := Reps.of_map (f := D.int) (g := V.int) (fun x v z => by simpa [Rep] using z) (xs := [i, j]) r
      exact ⟨i, j, e, h1.1, q _ _ S1 _ H1 h1.2 f steps_rng⟩
    · exact h1.elim⟩
/-- enumerate(x), x a list or a tuple -/
def sEnumV (Q : List D → (Store → Prop) → Store → Prop) (d : D) (S1 : Store) : Prop := match d with
  | .tup ds => Q (enumD 0 ds) (fun _ => True) S1
  | d => ∃ ds, asL S1 d = some ds ∧ Q (enumD 0 ds) (lstG S1 d) S1
def sEnum (tl : DT) : DI := fun δ S Q => tl δ S (sEnumV Q)
theorem di_enum (hg : Gl X "enumerate") (hm : X.mg "enumerate" = none) (hl : DE X e tl) (hs : starEach [e] X.env = [(false, eval e X.env)]) : DIt X (.Tuple elts kk tpos) (.Call (.Name "enumerate" p) [e] [] pos) (sEnum tl) := by
  refine ⟨fun pins s σ H R I ⟨δ, S, Qd, hr, lr, h, q⟩ => ?_⟩
  have ha : DAr X [e] (sCons tl sNil) := da_cons hl da_nil hs
  have h' : sCons tl sNil δ S fun ds S1 => ∃ d, ds = [d] ∧ sEnumV Qd d S1 := by
    show tl δ S fun d S1 => ∃ d', [d] = [d'] ∧ sEnumV Qd d' S1
    have e : (fun d S1 => ∃ d', [d] = [d'] ∧ sEnumV Qd d' S1) = sEnumV Qd := by
      funext d S1
      refine propext ⟨fun ⟨d', e, h⟩ => ?_, fun h => ⟨d, rfl, h⟩⟩
      cases e; exact h
    rw [e]; exact h
  refine Call_ (ld_blt I hg hm boot_enumerate (PyProof.Rows.callWith_type1 (thn (DAr.go ha pos I hr lr h') fun us s1 ⟨vs, H1, I1, rv, ds, S1, h1, f1, r1⟩ => ?_) hs rfl))
  obtain ⟨d, rfl, h1⟩ := h1
  simp only [Reps] at r1
  obtain ⟨v, _, rfl, r1, rfl⟩ := r1
  obtain ⟨u, rfl, rx⟩ := L2.vals1 rv
  unfold sEnumV at h1
  have fp2 : ∀ c, c ∈ [s1.heap.objs.size + 1, s1.heap.objs.size] → FpOk X pins H1 c := fun c hc => by
    have hle : s1.heap.objs.size ≤ c := by
      rcases (show c = s1.heap.objs.size + 1 ∨ c = s1.heap.objs.size by simpa using hc) with z | z <;> rw [z]
      · exact Nat.le_add_right _ _
      · exact Nat.le_refl _
    exact I1.fpOk hle (I1.hok.fresh hle)
  split at h1
  · rename_i ds
    simp only [Rep] at r1
    obtain ⟨a, xs, rfl, ht, rs⟩ := r1
    obtain rfl : u = Value.ref a := rx
    obtain ⟨its, _, p', _⟩ := I1.tuple ht.sq
    have hal : a < s1.heap.objs.size := by
      obtain ⟨o, z, _⟩ := p'
      exact Heap.lt_size z
    refine call_enum1 (begins_tuple a its.toArray) p' fun h' he hit hk => wpAny_pyIter_enum he ?_
    refine ⟨s1.heap.objs.size + 1, [s1.heap.objs.size + 1, s1.heap.objs.size], _, _, H1, rfl, I1.kept (t' := s1.toks) hk, turn_enumT a (s1.heap.objs.size + 1) s1.heap.objs.size, ⟨⟨.none, he⟩, ⟨_, hit, rfl, rfl⟩, Nat.succ_ne_self _, Nat.ne_of_lt hal, Nat.ne_of_lt (Nat.lt_succ_of_lt hal)⟩, fp2, ?_⟩
    exact q _ _ S1 _ H1 h1 f1 (steps_enumT f1.hr ht rs)
  · obtain ⟨ds, e, h1⟩ := h1
    obtain ⟨a, xs, rfl, ht, rs⟩ := asL_rep f1.hr r1 e
    obtain rfl : u = Value.ref a := rx
    obtain ⟨its, _, p', _⟩ := I1.list (.inl (.inl ht))
    refine call_enumerate_list p'.isList fun h' he hit hsz hk => wpAny_pyIter_enum he ?_
    refine ⟨s1.heap.objs.size + 1, [s1.heap.objs.size + 1, s1.heap.objs.size], _, _, H1, rfl, I1.kept (t' := s1.toks) hk, turn_enum a (s1.heap.objs.size + 1) s1.heap.objs.size, ⟨⟨.none, he⟩, hit, Nat.succ_ne_self _⟩, fp2, ?_⟩
    refine q _ _ S1 _ H1 h1 f1 fun i H2 S2 f2 g2 => ?_
    obtain ⟨ys, h2, r2⟩ := lstG_at f1.hr r1 e f2 g2 rfl
    have q2 : SqL X.K H2 a ys := .inl (.inl h2)
    refine ⟨fun p hp => ?_, fun e => ?_⟩
    · obtain ⟨d, hd, rfl⟩ := enumD_get ds 0 i p hp
      obtain ⟨v, hv, rv⟩ := r2.get hd
      refine ⟨⟨ys, v, q2, hv⟩, fun x H3 ⟨T, y, e1, e2, e3, e4⟩ => ?_⟩
      have := e4 ys q2
      rw [hv] at this; cases this
      subst e1 e3
      rw [show (0 : Int) + (i : Int) = (i : Nat) by omega]
      exact pair_new f2.hr e2 (by simp [Rep]) rv
    · rw [enumD_len] at e
      exact ⟨ys, q2, by rw [e, r2.length]; exact Nat.le_refl _⟩
/-- zip(x, y), two lists or two tuples -/
def sZip (ta : DA) : DI := fun δ S Q => ta δ S fun ds S1 => match ds with
  | [.tup xs, .tup ys] => Q (zipD xs ys) (fun _ => True) S1
  | [x, y] => ∃ xs ys, asL S1 x = some xs ∧ asL S1 y = some ys ∧ Q (zipD xs ys) (fun S' => lstG S1 x S' ∧ lstG S1 y S') S1
  | _ => False
theorem di_zip (hg : Gl X "zip") (hm : X.mg "zip" = none) (ha : DAr X [e, e2] ta) (hs : starEach [e, e2] X.env = (false, eval e X.env) :: starEach [e2] X.env) (hpl : (backTo pos (starEach [e2] X.env)).any (·.1) = false) :
    DIt X (.Tuple elts kk tpos) (.Call (.Name "zip" p) [e, e2] [] pos) (sZip ta) :=
  (RZ.pi_zipA hg hm ha hs hpl).imp fun σ H R ⟨δ, S, Qd, hr, lr, h, q⟩ => ⟨δ, S, _, hr, lr, h, fun ds S1 vs H1 h1 f r => by
    split at h1
    · rename_i xs ys
      obtain ⟨v, w, rfl, r1, r2⟩ := r.two
      simp only [Rep] at r1 r2
      obtain ⟨a, as, rfl, ha, ra⟩ := r1
      obtain ⟨b, bs, rfl, hb, rb⟩ := r2
      exact ⟨a, b, as, bs, rfl, .inr ⟨ha.sq, hb.sq, q _ _ S1 _ H1 h1 f (steps_zipT f.hr ha ra hb rb)⟩⟩
    · rename_i x y _
      obtain ⟨xs, ys, ex, ey, h1⟩ := h1
      obtain ⟨v, w, rfl, r1, r2⟩ := r.two
      obtain ⟨a, as, rfl, ha, ra⟩ := asL_rep f.hr r1 ex
      obtain ⟨b, bs, rfl, hb, rb⟩ := asL_rep f.hr r2 ey
      exact ⟨a, b, as, bs, rfl, .inl ⟨.inl (.inl ha), .inl (.inl hb), q _ _ S1 _ H1 h1 f (steps_zipL (fun H2 S2 f2 g => lstG_at f.hr r1 ex f2 g.1 rfl) fun H2 S2 f2 g => lstG_at f.hr r2 ey f2 g.2 rfl)⟩⟩
    · exact h1.elim⟩
end
end Lf
set_option Elab.async false
set_option linter.all false
set_option maxRecDepth 100000
namespace Lf
open PySem PySem.Spec PyProof.Rows L2

/-! ### comprehensions -/
def lcS (g : Store → Prop) (tg : Tg) (tt : DB) (te : DT) (δ : DSt) (p : Addr) (K : List D → Store → Prop) : List D → List D → Store → Prop
  | [], acc, S => g S ∧ K acc S
  | d :: ds, acc, S => g S ∧ match tgD tg d δ with
    | some δ1 => tt δ1 S fun b S2 => if b = true then te δ1 S2 fun y S3 => S3 p = some (.lst acc) ∧ acc.length < sizeLine ∧ lcS g tg tt te δ p K ds (acc ++ [y]) (ups S3 p (.lst (acc ++ [y]))) else lcS g tg tt te δ p K ds acc S2
    | none => False
/-- what is handed on: the list as it is then, or one that may be written -/
def finL (new : Bool) (p : Addr) (Q : DK) (acc : List D) (S : Store) : Prop := match new with
  | true => Q (.ref p) S
  | false => S p = some (.lst acc) ∧ Q (.lst acc) (drp S p)
def sLc (new : Bool) (ti : DI) (tg : Tg) (tt : DB) (te : DT) (vs : List Nat) : DT := fun δ S Q => ti δ S fun ds g S1 => ∀ p, S1 p = none → lcS g tg tt te (wipeD δ vs) p (finL new p Q) ds [] (ups S1 p (.lst []))
def sYes : DB := fun _ S Q => Q true S
theorem lcS_g {g : Store → Prop} {tg : Tg} {tt : DB} {te : DT} {δ : DSt} {p : Addr} {K : List D → Store → Prop} {ds acc : List D} {S : Store} (h : lcS g tg tt te δ p K ds acc S) : g S := by
  cases ds with
  | nil => exact h.1
  | cons d ds => exact h.1
theorem drp_sub {S : Store} {p : Addr} : ∀ a m, drp S p a = some m → S a = some m := fun a m e => by
  unfold drp at e
  split at e
  · cases e
  · exact e
theorem up_lc {W : KW} {new : Bool} {ti : DI} {tg : Tg} {tt : DB} {te : DT} {vs : List Nat} (hv : ∀ i ∈ tgIx tg, i ∈ vs) {σ : L2.St} {H : Hp} {Q : VK} (h : up W (sLc new ti tg tt te vs) σ H Q) : tLc (upI W ti) (tgV W.K tg) (upB W tt) (up W te) vs σ H Q := by
  obtain ⟨δ, S, Qd, hr, lr, h, q⟩ := h
  refine ⟨δ, S, _, hr, lr, h, fun ds g S1 J H1 h1 f1 st D hD => ?_⟩
  have l1 := (lr.fut hr f1).wipe vs
  have f0 : Fut W H1 S1 (upd H1 D (.lst [])) (ups S1 D (.lst [])) := Fut.lst f1.hr (.inl hD) Reps.nil_
  refine ⟨fun i m H2 => ∃ acc S2, i + m = ds.length ∧ Fut W H1 S1 H2 S2 ∧ lcS g tg tt te (wipeD δ vs) D (finL new D Qd) (ds.drop i) acc S2, ⟨ds.length, [], _, by omega, f0, h1 D (f1.hr.fresh hD)⟩, fun i m H2 ⟨acc, S2, em, f2, h2⟩ => ?_⟩
  have stp := st i H2 S2 f2 (lcS_g h2)
  by_cases hi : i < ds.length
  · right
    have hd : ds[i]? = some ds[i] := List.getElem?_eq_getElem hi
    obtain ⟨go, yl⟩ := stp.1 _ hd
    rw [drop_at hd] at h2
    obtain ⟨_, h2⟩ := h2
    refine ⟨go, fun H' => ∃ acc S', Fut W H1 S1 H' S' ∧ lcS g tg tt te (wipeD δ vs) D (finL new D Qd) (ds.drop (i + 1)) acc S', fun H' ⟨acc, S', z1, z2⟩ => ⟨m - 1, by omega, acc, S', by omega, z1, z2⟩, fun x H3 y => ?_⟩
    obtain ⟨f3, r3⟩ := yl x H3 y
    have f13 := f2.trans f3
    split at h2
    · rename_i δ3 e3
      refine tg_rep f3.hr tg ds[i] x (wipeD δ vs) δ3 (L2.wipe σ vs) r3 (l1.fut f1.hr f13) e3 _ fun σ4 l4 a4 => ⟨?_, ?_⟩
      · rw [(a4.mono hv).wipe, (wipe_idem σ vs).wipe]
      · refine ⟨δ3, S2, _, f3.hr, l4, h2, fun b S4 H4 h4 f4 => ?_⟩
        cases b with
        | true =>
          refine ⟨δ3, S4, _, f4.hr, l4.fut f3.hr f4, h4, fun y5 S5 v5 H5 ⟨e5, z5, h5⟩ f5 r5 => ?_⟩
          obtain ⟨xs, q5, rs5⟩ := f5.hr _ _ e5
          exact ⟨xs, q5, by rw [← rs5.length]; exact z5, acc ++ [y5], _, ((f13.trans f4).trans f5).trans (Fut.lst f5.hr (.inr ⟨_, e5⟩) (rs5.append (Reps.one r5))), h5⟩
        | false => exact ⟨acc, S4, f13.trans f4, h4⟩
    · exact h2.elim
  · left
    have ei : i = ds.length := by omega
    refine ⟨stp.2 ei, ?_⟩
    rw [ei, List.drop_length] at h2
    obtain ⟨_, h2⟩ := h2
    cases new with
    | true => exact q _ S2 _ H2 h2 (f1.trans f2) (by simp [Rep])
    | false =>
      obtain ⟨e, h2⟩ := h2
      obtain ⟨xs, q2, rs⟩ := f2.hr _ _ e
      have ff : Fut W H2 S2 H2 (drp S2 D) := Fut.forget f2.hr drp_sub
      refine q _ _ (.ref D) H2 h2 ((f1.trans f2).trans ff) ?_
      simp only [Rep]
      exact ⟨D, xs, rfl, by unfold drp; rw [if_pos rfl], q2, ff.reps f2.hr rs⟩
section
variable {X : Cx} {new : Bool} {elt tg iter : Expr} {ifs : List Expr} {scope : Scope} {own : List (Str × Nat)} {pos : Pos} {ti : DI} {g : Tg} {tt : DB} {te : DT}
theorem de_lc (hv : ∀ i ∈ tgIx g, i ∈ own.map (·.2)) (hc : X.calm = true) (hN : X.N.Nodup) (hi : DIt X tg iter ti) (ok : BlkOk X.N X.env.scope scope own)
    (hg : ∀ (s : Shared) (H : Hp) (C : Addr) (cl : List (Str × Addr)) (fp : List Addr), PG (X.blk s H scope (compEnvC scope cl C X.env) fp) tg (tgV X.K g))
    (ht : ∀ (s : Shared) (H : Hp) (C : Addr) (cl : List (Str × Addr)) (fp : List Addr), PTs (X.blk s H scope (compEnvC scope cl C X.env) fp) ifs (upB (kw X) tt))
    (he : ∀ (s : Shared) (H : Hp) (C : Addr) (cl : List (Str × Addr)) (fp : List Addr), PE (X.blk s H scope (compEnvC scope cl C X.env) fp) elt (up (kw X) te)) (hs : ∀ x, foldedSetIterable iter X.env x = pure x) :
    DE X (.ListComp elt [⟨tg, iter, ifs, 0⟩] scope pos) (sLc new ti g tt te (own.map (·.2))) :=
  (pe_lc hc hN hi ok hg ht he hs).imp fun σ H Q h => up_lc hv h
theorem ds_setLc {i : Nat} {y : Str} {py spos : Pos} (hv : ∀ i ∈ tgIx g, i ∈ own.map (·.2)) (hc : X.calm = true) (hN : X.N.Nodup) (hy : X.N[i]? = some y) (hyl : X.env.scope.names.lookup y = some .local)
    (hsw : swapsWith (.ListComp elt [⟨tg, iter, ifs, 0⟩] scope pos) (some (.Name y py)) spos.line X.env = pure true) (hi : DIt X tg iter ti) (ok : BlkOk X.N X.env.scope scope own)
    (hg : ∀ (s : Shared) (H : Hp) (C : Addr) (cl : List (Str × Addr)) (fp : List Addr), PG (X.blk s H scope (compEnvC scope cl C X.env) fp) tg (tgV X.K g))
    (ht : ∀ (s : Shared) (H : Hp) (C : Addr) (cl : List (Str × Addr)) (fp : List Addr), PTs (X.blk s H scope (compEnvC scope cl C X.env) fp) ifs (upB (kw X) tt))
    (he : ∀ (s : Shared) (H : Hp) (C : Addr) (cl : List (Str × Addr)) (fp : List Addr), PE (X.blk s H scope (compEnvC scope cl C X.env) fp) elt (up (kw X) te)) (hs : ∀ x, foldedSetIterable iter X.env x = pure x) :
    DSt1 X (.Assign [.Name y py] (.ListComp elt [⟨tg, iter, ifs, 0⟩] scope pos) spos) (sSet (.nm i) (sLc new ti g tt te (own.map (·.2)))) :=
  (ps_setLc hc hN hy hyl hsw hi ok hg ht he hs).imp fun D σ H ⟨δ, S, Dd, hr, lr, h, q1, q2, q3, q4⟩ => by
    refine up_lc (new := new) hv ⟨δ, S, _, hr, lr, h, fun d S1 v H1 h1 f r => ?_⟩
    exact q1 _ S1 _ H1 h1 f ((lr.fut hr f).set i r)
end

/-! ### built-ins -/
/-- a value's type -/
def tyD (S : Store) : D → Option String
  | .non => some "NoneType"
  | .bl _ => some "bool"
  | .int _ => some "int"
  | .str _ => some "str"
  | .tup _ => some "tuple"
  | .lst _ => some "list"
  | .scr _ => some "list"
  | .ref a => match S a with
    | some (.lst _) => some "list"
    | _ => none
  | _ => none
theorem tyD_rep {W : KW} {H : Hp} {S : Store} {d : D} {v : V} {t : String} (hr : HR W H S) (r : Rep W H S d v) (h : tyD S d = some t) : TyX W.K H v (.type t) := by
  cases d with
  | non => simp only [Rep] at r; subst r; simp [tyD] at h; subst h; exact .base .non
  | bl b => simp only [Rep] at r; subst r; simp [tyD] at h; subst h; exact .base (.bl b)
  | int i => simp only [Rep] at r; subst r; simp [tyD] at h; subst h; exact .base (.int i)
  | str s => simp only [Rep] at r; subst r; simp [tyD] at h; subst h; exact .base (.str s)
  | tup ds =>
    simp only [Rep] at r
    obtain ⟨a, xs, rfl, q, _⟩ := r
    simp [tyD] at h; subst h
    rcases q with q | ⟨o, its, n, q, c, _⟩
    · exact .base (.tup q)
    · exact .kTuple q c
  | lst ds =>
    simp only [Rep] at r
    obtain ⟨a, xs, rfl, _, q, _⟩ := r
    simp [tyD] at h; subst h
    exact .base (.lst q)
  | scr ds =>
    simp only [Rep] at r
    obtain ⟨a, xs, rfl, q, _⟩ := r
    simp [tyD] at h; subst h
    rcases q with ⟨o, q⟩ | ⟨o, its, n, q, c, _⟩
    · exact .base (.frz q)
    · exact .kList q c
  | dic _ _ => simp [tyD] at h
  | ty _ => simp [tyD] at h
  | ref a =>
    simp only [Rep] at r; subst r
    simp only [tyD] at h
    split at h
    · rename_i ds e
      obtain ⟨xs, q, _⟩ := hr a _ e
      cases h
      exact .base (.lst q)
    · cases h
def isi (t n : String) : Bool := t == n || (t == "bool" && n == "int")
def tyOk (n : String) : Bool := n == "int" || n == "bool" || n == "str" || n == "list" || n == "tuple"
theorem isi_ok {K : PySem.W.Frag} {S : Store} {d : D} {t n : String} (h : tyD S d = some t) (hn : tyOk n = true) : PySem.W.kitOne K (.type t) (.type n) = some (isi t n) := by
  have ht : t = "NoneType" ∨ t = "bool" ∨ t = "int" ∨ t = "str" ∨ t = "tuple" ∨ t = "list" := by
    cases d <;> simp [tyD] at h
    all_goals first
      | (subst h; simp)
      | (split at h <;> simp_all)
  have hn' : n = "int" ∨ n = "bool" ∨ n = "str" ∨ n = "list" ∨ n = "tuple" := by
    unfold tyOk at hn
    simp only [Bool.or_eq_true, beq_iff_eq] at hn
    rcases hn with (((z | z) | z) | z) | z <;> simp [z]
  refine kit_ty ?_
  rcases ht with z | z | z | z | z | z <;> rcases hn' with y | y | y | y | y <;> rw [z, y] <;> decide +kernel
/-- isinstance(x, T), isinstance(x, (T, ..)) -/
def cIsi (ds : List D) (S : Store) (Q : DK) : Prop := match ds with
  | [x, .ty n] => ∃ t, tyD S x = some t ∧ tyOk n = true ∧ Q (.bl (isi t n)) S
  | [x, .tup ts] => ∃ (t : String) (ns : List String), tyD S x = some t ∧ ts = ns.map D.ty ∧ ns.all tyOk = true ∧ Q (.bl (ns.any (isi t))) S
  | _ => False
def rIsiAll (K : PySem.W.Frag) : List V → Hp → VK → Prop := fun xs H Q => rIsi K xs H Q ∨ rIsiT K xs H Q ∨ rIsiK K xs H Q
theorem call_isiAll {X : Cx} : CallR X (.builtin "isinstance") (rIsiAll X.K) := L2.CallR.or call_isi (L2.CallR.or call_isiT call_isiK)
theorem kitAny_ty {K : PySem.W.Frag} {S : Store} {d : D} {t : String} (h : tyD S d = some t) : ∀ {ns : List String}, ns.all tyOk = true → PySem.W.kitAny K (.type t) (ns.map Value.type) = some (ns.any (isi t))
  | [], _ => rfl
  | n :: ns, hn => by
    have hn' : tyOk n = true ∧ ns.all tyOk = true := by simpa using hn
    refine kitAny_cons (isi_ok h hn'.1) (fun e => ?_) (fun e => by simp [e])
    rw [kitAny_ty h hn'.2]
    simp [e]
theorem vals_ty : ∀ {ns : List String} {us : List Value}, Vals (ns.map V.ty) us → us = ns.map Value.type
  | [], _, .nil => rfl
  | n :: ns, _, .cons r t => by rw [vals_ty t]; show _ :: _ = _ :: _; rw [show _ = Value.type n from r]
theorem d_isi {W : KW} : DCl W (rIsiAll W.K) cIsi := by
  intro H S ds vs Qd Q hr rs h q
  unfold cIsi at h
  split at h
  · rename_i x n
    obtain ⟨t, e, hn, h⟩ := h
    obtain ⟨v, w, rfl, r1, r2⟩ := rs.two
    simp only [Rep] at r2; subst r2
    exact .inl ⟨v, .ty n, _, _, _, rfl, .ty n, tyD_rep hr r1 e, isi_ok e hn, q _ S _ H h (Fut.refl hr) (by simp [Rep])⟩
  · rename_i x ts
    obtain ⟨t, ns, e, e2, hn, h⟩ := h
    subst e2
    obtain ⟨v, w, rfl, r1, r2⟩ := rs.two
    simp only [Rep] at r2
    obtain ⟨a, xs, rfl, ht, rr⟩ := r2
    have ex : xs = ns.map V.ty := Reps.of_map (f := D.ty) (g := V.ty) (fun x v z => by simpa [Rep] using z) rr
    have fin := q _ S _ H h (Fut.refl hr) (by simp [Rep] : Rep W H S (.bl (ns.any (isi t))) (.bl (ns.any (isi t))))
    rcases ht with ht | ⟨o, its, m, ho, hc, hd, _, hv⟩
    · subst ex
      exact .inr (.inl ⟨v, a, _, _, ns.map Value.type, _, rfl, ht, by
        clear fin h hn r1 rs ht rr
        induction ns with
        | nil => exact .nil
        | cons n ns ih => exact .cons (.ty n) ih, tyD_rep hr r1 e, kitAny_ty e hn, fin⟩)
    · subst ex
      obtain ⟨oc, od, dt, sl⟩ := o
      simp only at hc hd
      subst hc hd
      refine .inr (.inr ⟨v, a, od, its.toList, m, sl, _, _, rfl, by simpa using ho, tyD_rep hr r1 e, ?_, fin⟩)
      rw [vals_ty hv]
      exact kitAny_ty e hn
  · exact h.elim
/-- len -/
def cLen (ds : List D) (S : Store) (Q : DK) : Prop := match ds with
  | [.tup es] => Q (.int es.length) S
  | [.scr es] => Q (.int es.length) S
  | [.str s] => s.length ≤ sizeLine ∧ Q (.int s.length) S
  | [x] => (∃ es, asL S x = some es ∧ Q (.int es.length) S) ∨ ∃ ks vs, asD S x = some (ks, vs) ∧ Q (.int ks.length) S
  | _ => False
abbrev rLenQ (K : PySem.W.Frag) : List V → Hp → VK → Prop := fun xs H Q => ∃ p ys, xs = [.ref p] ∧ (SqL K H p ys ∨ SqT K H p ys) ∧ Q (.int ys.length) H
abbrev rLenT : List V → Hp → VK → Prop := fun xs H Q => ∃ z, xs = [.str z] ∧ z.length ≤ sizeLine ∧ Q (.int z.length) H
theorem call_lenAll {X : Cx} : CallR X (.builtin "len") (fun xs H Q => rLenQ X.K xs H Q ∨ rLenT xs H Q ∨ rLenDic (kw X) xs H Q) := L2.CallR.or call_len_seq (L2.CallR.or call_len_str call_lenDic)
theorem Reps.one_ {W : KW} {H : Hp} {S : Store} {d : D} {vs : List V} (r : Reps W H S [d] vs) : ∃ v, vs = [v] ∧ Rep W H S d v := by
  simp only [Reps] at r
  obtain ⟨x, _, rfl, r1, rfl⟩ := r
  exact ⟨x, rfl, r1⟩
theorem d_len {W : KW} : DCl W (fun xs H Q => rLenQ W.K xs H Q ∨ rLenT xs H Q ∨ rLenDic W xs H Q) cLen := by
  intro H S ds vs Qd Q hr rs h q
  unfold cLen at h
  split at h
  · obtain ⟨v, rfl, r⟩ := rs.one_
    simp only [Rep] at r
    obtain ⟨a, xs, rfl, ht, rr⟩ := r
    exact .inl ⟨a, xs, rfl, .inr ht.sq, q _ S _ H h (Fut.refl hr) (by simp [Rep, rr.length])⟩
  · obtain ⟨v, rfl, r⟩ := rs.one_
    simp only [Rep] at r
    obtain ⟨a, xs, rfl, ht, rr⟩ := r
    exact .inl ⟨a, xs, rfl, .inl ht.sq, q _ S _ H h (Fut.refl hr) (by simp [Rep, rr.length])⟩
  · obtain ⟨v, rfl, r⟩ := rs.one_
    simp only [Rep] at r; subst r
    exact .inr (.inl ⟨_, rfl, h.1, q _ S _ H h.2 (Fut.refl hr) (by simp [Rep])⟩)
  · obtain ⟨v, rfl, r⟩ := rs.one_
    rcases h with ⟨es, e, h⟩ | ⟨ks, vs, e, h⟩
    · obtain ⟨a, xs, rfl, ht, rr⟩ := asL_rep hr r e
      exact .inl ⟨a, xs, rfl, .inl (.inl (.inl ht)), q _ S _ H h (Fut.refl hr) (by simp [Rep, rr.length])⟩
    · obtain ⟨a, rfl, hd⟩ := asD_rep hr r e
      exact .inr (.inr ⟨S, a, ks, vs, rfl, hd, q _ S _ H h (Fut.refl hr) (by simp [Rep])⟩)
  · exact h.elim
/-- all, any -/
def cAll (ds : List D) (S : Store) (Q : DK) : Prop := match ds with
  | [x] => ∃ bs : List Bool, asL S x = some (bs.map D.bl) ∧ Q (.bl (bs.all id)) S
  | _ => False
def cAny (ds : List D) (S : Store) (Q : DK) : Prop := match ds with
  | [x] => ∃ bs : List Bool, asL S x = some (bs.map D.bl) ∧ Q (.bl (bs.any id)) S
  | _ => False
theorem reps_bl {W : KW} {H : Hp} {S : Store} {bs : List Bool} {vs : List V} (r : Reps W H S (bs.map D.bl) vs) : vs = bs.map V.bl := Reps.of_map (f := D.bl) (g := V.bl) (fun x v z => by simpa [Rep] using z) r
theorem d_all {W : KW} : DCl W (rAll W.K) cAll := by
  intro H S ds vs Qd Q hr rs h q
  unfold cAll at h
  split at h
  · obtain ⟨v, rfl, r⟩ := rs.one_
    obtain ⟨bs, e, h⟩ := h
    obtain ⟨a, xs, rfl, ht, rr⟩ := asL_rep hr r e
    rw [reps_bl rr] at ht
    exact ⟨a, bs, rfl, .inl (.inl ht), q _ S _ H h (Fut.refl hr) (by simp [Rep])⟩
  · exact h.elim
theorem d_any {W : KW} : DCl W (rAny W.K) cAny := by
  intro H S ds vs Qd Q hr rs h q
  unfold cAny at h
  split at h
  · obtain ⟨v, rfl, r⟩ := rs.one_
    obtain ⟨bs, e, h⟩ := h
    obtain ⟨a, xs, rfl, ht, rr⟩ := asL_rep hr r e
    rw [reps_bl rr] at ht
    exact ⟨a, bs, rfl, .inl (.inl ht), q _ S _ H h (Fut.refl hr) (by simp [Rep])⟩
  · exact h.elim
/-- tuple(x), list(x) -/
def cTuple (ds : List D) (S : Store) (Q : DK) : Prop := match ds with
  | [.tup es] => Q (.tup es) S
  | [x] => ∃ es, asL S x = some es ∧ Q (.tup es) S
  | _ => False
def cList (new : Bool) (ds : List D) (S : Store) (Q : DK) : Prop := ∃ x es, ds = [x] ∧ (x = .tup es ∨ x = .scr es ∨ asL S x = some es ∨ ∃ vs, asD S x = some (es, vs)) ∧ match new with
  | true => ∀ p, S p = none → Q (.ref p) (ups S p (.lst es))
  | false => Q (.lst es) S
abbrev rTupOf (K : PySem.W.Frag) : List V → Hp → VK → Prop := fun xs H Q => ∃ p ys, xs = [.ref p] ∧ ((SqL K H p ys ∧ ∀ l, H l = none → Q (.ref l) (upd H l (.tup ys))) ∨ (SqT K H p ys ∧ Q (.ref p) H))
abbrev rLstOf (K : PySem.W.Frag) : List V → Hp → VK → Prop := fun xs H Q => ∃ p ys, xs = [.ref p] ∧ (SqL K H p ys ∨ SqT K H p ys) ∧ ∀ l, H l = none → Q (.ref l) (upd H l (.lst ys))
theorem d_tuple {W : KW} : DCl W (rTupOf W.K) cTuple := by
  intro H S ds vs Qd Q hr rs h q
  unfold cTuple at h
  split at h
  · obtain ⟨v, rfl, r⟩ := rs.one_
    have r' := r
    simp only [Rep] at r
    obtain ⟨a, xs, rfl, ht, rr⟩ := r
    exact ⟨a, xs, rfl, .inr ⟨ht.sq, q _ S _ H h (Fut.refl hr) r'⟩⟩
  · obtain ⟨v, rfl, r⟩ := rs.one_
    obtain ⟨es, e, h⟩ := h
    obtain ⟨a, xs, rfl, ht, rr⟩ := asL_rep hr r e
    exact ⟨a, xs, rfl, .inl ⟨.inl (.inl ht), fun l hl => q _ S _ _ h (Fut.new hr hl) (Rep.tup_new hr hl rr)⟩⟩
  · exact h.elim
theorem d_list {W : KW} {new : Bool} : DCl W (fun xs H Q => rLstOf W.K xs H Q ∨ rListDic W xs H Q) (cList new) := by
  intro H S ds vs Qd Q hr rs ⟨x, es, e, hx, h⟩ q
  subst e
  obtain ⟨v, rfl, r⟩ := rs.one_
  by_cases hx' : ∃ vs, asD S x = some (es, vs)
  · obtain ⟨vs, e⟩ := hx'
    obtain ⟨a, rfl, hd⟩ := asD_rep hr r e
    refine .inr ⟨S, a, es, vs, rfl, hd, fun zs l rz hl => ?_⟩
    cases new with
    | true => exact q _ _ (.ref l) _ (h l (hr.fresh hl)) (Fut.lst hr (.inl hl) rz) (by simp [Rep])
    | false => exact q _ S _ _ h (Fut.new hr hl) (Rep.lst_new hr hl rz)
  replace hx : x = .tup es ∨ x = .scr es ∨ asL S x = some es := by
    rcases hx with z | z | z | z
    · exact .inl z
    · exact .inr (.inl z)
    · exact .inr (.inr z)
    · exact absurd z hx'
  refine .inl ?_
  have key : ∃ a xs, v = .ref a ∧ (SqL W.K H a xs ∨ SqT W.K H a xs) ∧ Reps W H S es xs := by
    rcases hx with rfl | rfl | e
    · simp only [Rep] at r
      exact let ⟨a, xs, e, ht, rr⟩ := r; ⟨a, xs, e, .inr ht.sq, rr⟩
    · simp only [Rep] at r
      exact let ⟨a, xs, e, ht, rr⟩ := r; ⟨a, xs, e, .inl ht.sq, rr⟩
    · exact let ⟨a, xs, e, ht, rr⟩ := asL_rep hr r e; ⟨a, xs, e, .inl (.inl (.inl ht)), rr⟩
  obtain ⟨a, xs, rfl, ht, rr⟩ := key
  refine ⟨a, xs, rfl, ht, fun l hl => ?_⟩
  cases new with
  | true => exact q _ _ (.ref l) _ (h l (hr.fresh hl)) (Fut.lst hr (.inl hl) rr) (by simp [Rep])
  | false => exact q _ S _ _ h (Fut.new hr hl) (Rep.lst_new hr hl rr)
/-- min, max of two ints; abs; int -/
def cMin2 (ds : List D) (S : Store) (Q : DK) : Prop := match ds with
  | [.int i, .int j] => Q (.int (if j < i then j else i)) S
  | _ => False
def cMax2 (ds : List D) (S : Store) (Q : DK) : Prop := match ds with
  | [.int i, .int j] => Q (.int (if j > i then j else i)) S
  | _ => False
def cInt (ds : List D) (S : Store) (Q : DK) : Prop := match ds with
  | [.int i] => Q (.int i) S
  | [.bl b] => Q (.int (if b then 1 else 0)) S
  | _ => False
def cBool (ds : List D) (S : Store) (Q : DK) : Prop := match ds with
  | [.int i] => Q (.bl (i != 0)) S
  | [.bl b] => Q (.bl b) S
  | _ => False
theorem d_min2 {W : KW} : DCl W (fun xs H Q => ∃ i j, xs = [.int i, .int j] ∧ Q (.int (if j < i then j else i)) H) cMin2 := by
  intro H S ds vs Qd Q hr rs h q
  unfold cMin2 at h
  split at h
  · obtain ⟨v, w, rfl, r1, r2⟩ := rs.two
    simp only [Rep] at r1 r2; subst r1 r2
    exact ⟨_, _, rfl, q _ S _ H h (Fut.refl hr) (by simp [Rep])⟩
  · exact h.elim
theorem d_max2 {W : KW} : DCl W (fun xs H Q => ∃ i j, xs = [.int i, .int j] ∧ Q (.int (if j > i then j else i)) H) cMax2 := by
  intro H S ds vs Qd Q hr rs h q
  unfold cMax2 at h
  split at h
  · obtain ⟨v, w, rfl, r1, r2⟩ := rs.two
    simp only [Rep] at r1 r2; subst r1 r2
    exact ⟨_, _, rfl, q _ S _ H h (Fut.refl hr) (by simp [Rep])⟩
  · exact h.elim
theorem d_int {W : KW} : DCl W (fun xs H Q => (∃ i, xs = [.int i] ∧ Q (.int i) H) ∨ ∃ k, xs = [.bl k] ∧ Q (.int (if k then 1 else 0)) H) cInt := by
  intro H S ds vs Qd Q hr rs h q
  unfold cInt at h
  split at h
  · obtain ⟨v, rfl, r⟩ := rs.one_
    simp only [Rep] at r; subst r
    exact .inl ⟨_, rfl, q _ S _ H h (Fut.refl hr) (by simp [Rep])⟩
  · obtain ⟨v, rfl, r⟩ := rs.one_
    simp only [Rep] at r; subst r
    exact .inr ⟨_, rfl, q _ S _ H h (Fut.refl hr) (by simp [Rep])⟩
  · exact h.elim
theorem d_bool {W : KW} : DCl W (fun xs H Q => (∃ i, xs = [.int i] ∧ Q (.bl (i != 0)) H) ∨ ∃ k, xs = [.bl k] ∧ Q (.bl k) H) cBool := by
  intro H S ds vs Qd Q hr rs h q
  unfold cBool at h
  split at h
  · obtain ⟨v, rfl, r⟩ := rs.one_
    simp only [Rep] at r; subst r
    exact .inl ⟨_, rfl, q _ S _ H h (Fut.refl hr) (by simp [Rep])⟩
  · obtain ⟨v, rfl, r⟩ := rs.one_
    simp only [Rep] at r; subst r
    exact .inr ⟨_, rfl, q _ S _ H h (Fut.refl hr) (by simp [Rep])⟩
  · exact h.elim

/-! ### what is written to -/
/-- x[i] = e -/
def opSetL (o i v : D) (S : Store) (K : Store → Prop) : Prop := match o with
  | .ref a => (∃ k ds j, i = .int k ∧ S a = some (.lst ds) ∧ ixN ds.length k = some j ∧ K (ups S a (.lst (ds.set j v)))) ∨
    ∃ ob ks vs, S a = some (.dic ob ks vs) ∧ dOk ks i = true ∧ ks.length < sizeLine ∧ ∀ ob', K (ups S a (.dic ob' (putK ks i) (putV ks vs i v)))
  | _ => False
def sSetL (to ti te : DT) : DS := fun D δ S => te δ S fun v S1 => to δ S1 fun o S2 => ti δ S2 fun i S3 => opSetL o i v S3 fun S4 => D.nx δ S4
/-- x.append(e), as a statement's expression -/
def mApp (d : D) (ds : List D) (S : Store) (Q : DK) : Prop := match d, ds with
  | .ref a, [e] => ∃ es, S a = some (.lst es) ∧ es.length < sizeLine ∧ Q .non (ups S a (.lst (es ++ [e])))
  | _, _ => False
def sMt (m : D → List D → Store → DK → Prop) (to : DT) (ta : DA) : DT := fun δ S Q => to δ S fun d S1 => ta δ S1 fun ds S2 => m d ds S2 Q
/-- r does on values what m does on D -/
def DMt (W : KW) (r : V → List V → Hp → VK → Prop) (m : D → List D → Store → DK → Prop) : Prop := ∀ H S d ds v vs Qd Q, HR W H S → Rep W H S d v → Reps W H S ds vs → m d ds S Qd →
  (∀ d S' w H', Qd d S' → Fut W H S H' S' → Rep W H' S' d w → Q w H') → r v vs H Q
theorem d_app {W : KW} : DMt W rAppend mApp := by
  intro H S d ds v vs Qd Q hr r rs h q
  unfold mApp at h
  split at h
  · obtain ⟨es, e, hz, h⟩ := h
    obtain ⟨x, rfl, r1⟩ := rs.one_
    simp only [Rep] at r; subst r
    obtain ⟨xs, hx, rx⟩ := hr _ _ e
    exact ⟨_, xs, x, rfl, rfl, hx, by rw [← rx.length]; exact hz, q _ _ _ _ h (Fut.lst hr (.inr ⟨_, e⟩) (rx.append (Reps.one r1))) (by simp [Rep])⟩
  · exact h.elim
end Lf
set_option Elab.async false
set_option linter.all false
set_option maxRecDepth 100000
set_option maxHeartbeats 4000000
namespace Lf
open PySem PySem.Spec PyProof.Rows L2

/-! ### tuple * int, every int -/
theorem tmul_same (l : Addr) (xs : Array Value) (n : Nat) (dd : Option Addr) (sl : Array (Option Value)) (k : Int) (u : Tok) (h0 : (decide (k < -(2 ^ 63)) || decide (k ≥ 2 ^ 63)) = false) (h1 : (xs.isEmpty || k == 1) = true) :
    Meets (Builtin.«tuple.__mul__» ⟨[.ref l, .int k u], []⟩) (fun _ R s => s.heap.get? l = some { cls := .type "tuple", dict := dd, data := .seq xs n, slots := sl } ∧ R (.ok (.ret (.ref l))) s) :=
  .of_wp fun prog w A R s ⟨hl, h⟩ => by
    obtain ⟨hp, g, d, tk, os⟩ := s
    have f1 := AutoSeq1.idx_int
    wp_walk using wpAny_loadPart' hl
    repeat (first
      | (refine wpAny_ite_false (decide_eq_false (by rw [h0]; exact Bool.false_ne_true)) ?_; wp_walk using wpAny_loadPart' hl)
      | (refine wpAny_ite_true (decide_eq_true h1) ?_; wp_walk using wpAny_loadPart' hl))
    exact ⟨_, rfl, h⟩
theorem tmul_nil (l : Addr) (xs : Array Value) (n : Nat) (dd : Option Addr) (sl : Array (Option Value)) (k : Int) (u : Tok) (h0 : (decide (k < -(2 ^ 63)) || decide (k ≥ 2 ^ 63)) = false) (h1 : (xs.isEmpty || k == 1) = false) (h2 : k ≤ 0) :
    Meets (Builtin.«tuple.__mul__» ⟨[.ref l, .int k u], []⟩) (fun _ R s => s.heap.get? l = some { cls := .type "tuple", dict := dd, data := .seq xs n, slots := sl } ∧
      R (.ok (.ret (.ref s.heap.objs.size))) { s with heap := s.heap.push { cls := .type "tuple", data := .seq #[] } }) :=
  .of_wp fun prog w A R s ⟨hl, h⟩ => by
    obtain ⟨hp, g, d, tk, os⟩ := s
    have f1 := AutoSeq1.idx_int
    have h3 : (decide (k ≤ 0) || xs.isEmpty) = true := by simp [h2]
    wp_walk using wpAny_loadPart' hl
    repeat (first
      | (refine wpAny_ite_false (decide_eq_false (by rw [h0]; exact Bool.false_ne_true)) ?_; wp_walk using wpAny_loadPart' hl)
      | (refine wpAny_ite_false (decide_eq_false (by rw [h1]; exact Bool.false_ne_true)) ?_; wp_walk using wpAny_loadPart' hl)
      | (refine wpAny_ite_true (decide_eq_true h3) ?_; wp_walk using wpAny_loadPart' hl))
    exact ⟨_, rfl, h⟩
def rRepS (K : PySem.W.Frag) : R2 := fun x y H Q => ∃ l k xs, x = .ref l ∧ y = .int k ∧ SqT K H l xs ∧ (xs = [] ∨ k = 1) ∧ -1000 ≤ k ∧ k ≤ 1000 ∧ Q (.ref l) H
def rRepN (K : PySem.W.Frag) : R2 := fun x y H Q => ∃ l k xs, x = .ref l ∧ y = .int k ∧ SqT K H l xs ∧ xs ≠ [] ∧ -1000 ≤ k ∧ k ≤ 0 ∧ ∀ p, H p = none → Q (.ref p) (upd H p (.tup []))
theorem op_repS {X : Cx} : OpR X (binaryOp .Mult) (rRepS X.K) := by
  intro pins s σ H x y v u Q I rx ry ⟨l, k, xs, ex, ey, hT, hc, h1, h2, q⟩
  subst ex ey
  cases rx
  obtain ⟨t, rfl⟩ := ry
  obtain ⟨its, r, ⟨⟨cls, dd, data, sl⟩, ho, ec, n, ed⟩, hs⟩ := I.tuple hT
  simp only at ec ed
  subst ec ed
  have c0 : (decide (k < -(2 ^ 63)) || decide (k ≥ 2 ^ 63)) = false := by
    rw [decide_eq_false (by omega), decide_eq_false (by omega)] <;> rfl
  have c1 : (its.toArray.isEmpty || k == 1) = true := by
    rcases hc with e | e
    · subst e
      cases r
      rfl
    · subst e; simp
  exact wpAny_binaryOp_repeat_ref (T := "tuple") (U := "int") (by decide) ⟨_, ho, rfl⟩ (fun s' => typeIs_int s' k t) noFill_tuple_mul PySem.F.fills_int_mul PySem.F.slot_int_rmul repeat_tuple PySem.F.slot_int_index.lookup
    (call_meets PySem.F.slot_int_rmul (typeIs_int s k t) PySem.F.entry_int_rmul (PySem.F.args_int_rmul_2 _ _) (int_rmul_tuple k t l its.toArray n dd sl)
      ⟨ho, rfl, ⟨_, ho, rfl⟩, call_meets PySem.F.slot_tuple_mul ⟨_, ho, rfl⟩ PySem.F.entry_tuple_mul (PySem.F.args_tuple_mul_2 _ _) (tmul_same l its.toArray n dd sl k t c0 c1) ⟨ho, .ref l, H, I, rfl, q⟩⟩)
theorem op_repN {X : Cx} : OpR X (binaryOp .Mult) (rRepN X.K) := by
  intro pins s σ H x y v u Q I rx ry ⟨l, k, xs, ex, ey, hT, hne, h1, h2, q⟩
  subst ex ey
  cases rx
  obtain ⟨t, rfl⟩ := ry
  obtain ⟨its, r, ⟨⟨cls, dd, data, sl⟩, ho, ec, n, ed⟩, hs⟩ := I.tuple hT
  simp only at ec ed
  subst ec ed
  have c0 : (decide (k < -(2 ^ 63)) || decide (k ≥ 2 ^ 63)) = false := by
    rw [decide_eq_false (by omega), decide_eq_false (by omega)] <;> rfl
  have c1 : (its.toArray.isEmpty || k == 1) = false := by
    cases r with
    | nil => exact absurd rfl hne
    | cons _ _ =>
      show (false || k == 1) = false
      rw [Bool.false_or]
      exact beq_eq_false_iff_ne.mpr (by omega)
  exact wpAny_binaryOp_repeat_ref (T := "tuple") (U := "int") (by decide) ⟨_, ho, rfl⟩ (fun s' => typeIs_int s' k t) noFill_tuple_mul PySem.F.fills_int_mul PySem.F.slot_int_rmul repeat_tuple PySem.F.slot_int_index.lookup
    (call_meets PySem.F.slot_int_rmul (typeIs_int s k t) PySem.F.entry_int_rmul (PySem.F.args_int_rmul_2 _ _) (int_rmul_tuple k t l its.toArray n dd sl)
      ⟨ho, rfl, ⟨_, ho, rfl⟩, call_meets PySem.F.slot_tuple_mul ⟨_, ho, rfl⟩ PySem.F.entry_tuple_mul (PySem.F.args_tuple_mul_2 _ _) (tmul_nil l its.toArray n dd sl k t c0 c1 h2)
        ⟨ho, .ref s.heap.objs.size, _, I.laid (t' := s.toks) (o := .tup []) (fun b ob q => Heap.get?_push_of_some _ q) (Nat.le_refl _) ⟨Nat.zero_le _, [], .nil, IsTup.new _ _⟩, rfl, q _ (I.hok.fresh (Nat.le_refl _))⟩⟩)
abbrev opMulI := opI CMul fun i j => .int (i * j)
def repD (ds : List D) (k : Int) : List D := (List.replicate k.toNat ds).flatten
/-- *: of ints, of a tuple and an int, of a list and an int -/
def opMulA (x y : D) (S : Store) (Q : DK) : Prop := match x, y with
  | .tup ds, .int k => -1000 ≤ k ∧ k ≤ 1000 ∧ ds.length ≤ 1000 ∧ Q (.tup (repD ds k)) S
  | .int i, y => opMulI (.int i) y S Q
  | x, .int k => ∃ ds, asL S x = some ds ∧ -1000 ≤ k ∧ k ≤ 1000 ∧ ds.length ≤ 1000 ∧ Q (.lst (repD ds k)) S
  | _, _ => False
theorem Reps.flat {W : KW} {H : Hp} {S : Store} {ds : List D} {vs : List V} (r : Reps W H S ds vs) : ∀ n : Nat, Reps W H S (List.replicate n ds).flatten (List.replicate n vs).flatten
  | 0 => Reps.nil_
  | n + 1 => by
    rw [List.replicate_succ, List.replicate_succ, List.flatten_cons, List.flatten_cons]
    exact r.append (Reps.flat r n)
def rMulAll (K : PySem.W.Frag) : R2 := fun x y H Q => rI CMul (fun i j => .int (i * j)) x y H Q ∨ rRepT K x y H Q ∨ rRepS K x y H Q ∨ rRepN K x y H Q ∨ rRep x y H Q
theorem op_mulAll {X : Cx} : OpR X (binaryOp .Mult) (rMulAll X.K) := L2.OpR.or op_mul (L2.OpR.or op_repT (L2.OpR.or op_repS (L2.OpR.or op_repN op_rep)))
theorem len_flat {α : Type} (ds : List α) : ∀ n : Nat, (List.replicate n ds).flatten.length = n * ds.length
  | 0 => by simp
  | n + 1 => by rw [List.replicate_succ, List.flatten_cons, List.length_append, len_flat ds n, Nat.succ_mul, Nat.add_comm]
theorem d_mul {W : KW} : DOp W (rMulAll W.K) opMulA := by
  intro H S x y v u Qd Q hr rx ry h q
  unfold opMulA at h
  split at h
  · rename_i ds k
    obtain ⟨h1, h2, h3, h⟩ := h
    have rx' := rx
    simp only [Rep] at rx ry; subst ry
    obtain ⟨a, xs, rfl, ht, rs⟩ := rx
    have hl := rs.length
    by_cases hs : xs = [] ∨ k = 1
    · refine .inr (.inr (.inl ⟨a, k, xs, rfl, rfl, ht.sq, hs, h1, h2, q _ S _ H h (Fut.refl hr) ?_⟩))
      have e : repD ds k = ds := by
        rcases hs with e | e
        · subst e
          have : ds = [] := List.eq_nil_of_length_eq_zero hl
          subst this
          unfold repD; simp
        · subst e; unfold repD; simp
      rw [e]; exact rx'
    · have hx : xs ≠ [] := fun e => hs (.inl e)
      have hk : k ≠ 1 := fun e => hs (.inr e)
      have rr := rs.flat k.toNat
      by_cases h0 : k ≤ 0
      · refine .inr (.inr (.inr (.inl ⟨a, k, xs, rfl, rfl, ht.sq, hx, h1, h0, fun p hp => q _ S _ _ h (Fut.new hr hp) ?_⟩)))
        have e : k.toNat = 0 := by omega
        unfold repD
        rw [e] at rr ⊢
        exact Rep.tup_new hr hp rr
      · exact .inr (.inl ⟨a, k, xs, rfl, rfl, ht.sq, hx, by omega, h2, by omega, fun p hp => q _ S _ _ h (Fut.new hr hp) (Rep.tup_new hr hp rr)⟩)
  · exact .inl (d_I (f := fun i j => .int (i * j)) (fun _ _ _ _ => by simp [Rep]) H S _ _ v u Qd Q hr rx ry h q)
  · rename_i k _ _
    obtain ⟨ds, e, h1, h2, h3, h⟩ := h
    simp only [Rep] at ry; subst ry
    obtain ⟨a, xs, rfl, ht, rs⟩ := asL_rep hr rx e
    refine .inr (.inr (.inr (.inr ⟨a, k, xs, rfl, rfl, ht, by omega, by omega, ?_, fun p hp => q _ S _ _ h (Fut.new hr hp) (Rep.lst_new hr hp (rs.flat k.toNat))⟩)))
    have hl := rs.length
    have a1 : xs.length * k.toNat ≤ 1000 * 1000 := Nat.mul_le_mul (by omega) (by omega)
    rw [sizeLine_eq]; omega
  · exact h.elim

/-! ### slices, of strings too -/
def opSlA (x : D) (lo hi : Option Int) (S : Store) (Q : DK) : Prop := match x with
  | .str z => z.length ≤ sizeLine ∧ Q (.str (cutS z lo hi)) S
  | x => opSl x lo hi S Q
def sSlA (ta : DT) (tl th : DO) : DT := fun δ S Q => ta δ S fun d S1 => tl δ S1 fun lo S2 => th δ S2 fun hi S3 => opSlA d lo hi S3 Q
theorem d_sl {W : KW} {H : Hp} {S : Store} {d : D} {v : V} {l u : Option Int} {Qd : DK} {Q : VK} (hr : HR W H S) (r : Rep W H S d v) (h : opSlA d l u S Qd)
    (q : ∀ d S' w H', Qd d S' → Fut W H S H' S' → Rep W H' S' d w → Q w H') : rSlA W.K v l u H Q ∨ L2.rSlL W.K v l u H Q ∨ rSlS v l u H Q := by
  unfold opSlA at h
  split at h
  · simp only [Rep] at r; subst r
    exact .inr (.inr ⟨_, rfl, h.1, q _ S _ H h.2 (Fut.refl hr) (by simp [Rep])⟩)
  · unfold opSl at h
    split at h
    · rename_i ds _
      simp only [Rep] at r
      obtain ⟨a, xs, rfl, ht, rs⟩ := r
      refine .inl ⟨a, xs, rfl, ht.sq, fun ⟨z1, z2⟩ => q _ S _ H h (Fut.refl hr) ?_, fun _ p hp => q _ S _ _ h (Fut.new hr hp) (Rep.tup_new hr hp (rs.cut l u))⟩
      simp only [Rep]
      refine ⟨a, xs, rfl, ht, ?_⟩
      have e : cutD ds l u = ds := by
        unfold cutD
        rw [rs.length, z1, z2]
        simp only [List.drop_zero, Nat.sub_zero]
        exact List.take_of_length_le (Nat.le_of_eq rs.length)
      rw [e]; exact rs
    · rename_i ds _
      simp only [Rep] at r
      obtain ⟨a, xs, rfl, ht, rs⟩ := r
      exact .inr (.inl ⟨a, xs, rfl, ht.sq, fun p hp => q _ S _ _ h (Fut.new hr hp) (Rep.lst_new hr hp (rs.cut l u))⟩)
    · obtain ⟨ds, e, h⟩ := h
      obtain ⟨a, xs, rfl, ht, rs⟩ := asL_rep hr r e
      exact .inr (.inl ⟨a, xs, rfl, .inl (.inl ht), fun p hp => q _ S _ _ h (Fut.new hr hp) (Rep.lst_new hr hp (rs.cut l u))⟩)
theorem de_sliceA {X : Cx} {a : Expr} {lo hi : Option Expr} {ta : DT} {tl th : DO} {p2 pos : Pos} (ha : DE X a ta) (hl : DPo X lo tl) (hh : DPo X hi th) : DE X (.Subscript a (.Slice lo hi none p2) pos) (sSlA ta tl th) := by
  refine (pe_slice (L2.SlR.or sl_tupA (L2.SlR.or sl_list sl_str)) ha hl hh).imp fun σ H Q ⟨δ, S, Qd, hr, lr, h, q⟩ => ⟨δ, S, _, hr, lr, h, fun d S1 v H1 h1 f1 r1 => ⟨δ, S1, _, f1.hr, lr.fut hr f1, h1, fun l S2 H2 h2 f2 => ⟨δ, S2, _, f2.hr, (lr.fut hr f1).fut f1.hr f2, h2, fun u S3 H3 h3 f3 => ?_⟩⟩⟩
  have f := (f1.trans f2).trans f3
  exact d_sl f3.hr (f3.rep f2.hr (f2.rep f1.hr r1)) h3 fun d S' w H' h' f' r' => q d S' w H' h' (f.trans f') r'
end Lf
set_option Elab.async false
set_option linter.all false
set_option maxRecDepth 100000
set_option maxHeartbeats 4000000
namespace Lf
open PySem PySem.Spec PyProof.Rows L2

/-! ### set(list of ints) -/
section
variable {P : Program} {w : World} {A : Around} {E : Value → Shared → Prop} {s : Shared}
/-- a new set -/
abbrev noneIn (w : World) : Obj := { cls := .type "set", dict := none, data := .set #[] 0 (.fresh 0 0 (!w.params.followText "set-order")) }
theorem setOfInts {l : Addr} {items : Array Value} (ns : List Int) {Q : Value → Shared → Prop} (hh : A.handled = none) (hl : s.heap.IsList l items) (hit : IntsAre items.toList ns) (hb : ns.length + 1 < scanBound)
    (h : ∀ (h' : Heap) (tk c : Nat), SetR w h' s.heap.objs.size (fun j => decide (j ∈ ns)) c → c ≤ ns.length → (∀ b o, s.heap.get? b = some o → h'.get? b = some o) → Q (.ref s.heap.objs.size) { s with heap := h', toks := tk }) :
    wpAny (model P w) A (call (.type "set") [.ref l]) Q E s := by
  have hsz : items.size = ns.length := by simpa using IntsAre.length hit
  obtain ⟨c, tl, mro⟩ := PySem.F.called_set.mro
  have made := PySem.F.called_set.made
  have sub := PySem.F.called_set.sub
  refine wpAny_call (codeAny_of_tree ?_)
  show wpAny _ _ (callAny (.type "set") _) _ _ _
  refine wpAny_pure ⟨Code.quiet_builtin _ (by decide +kernel), codeAny_builtin PySem.F.entry_type_call ?_⟩
  rw [Around.under_plain (weight_type_call_type "set" [.ref l] []) rfl]
  have nt := PySem.F.called_set.notType
  have cc := PySem.F.called_set.canCreate
  have ct := PySem.F.typeCall_set_1 (.ref l)
  repeat (any_goals (first | assumption | wp_step))
  refine codeAny_mono (code_set_led1 (.ref l) (E := E) (Q₁ := fun x t => x = .ref s.heap.objs.size ∧ t = { s with heap := s.heap.push (noneIn w) }) ⟨rfl, rfl⟩) fun r t hr => ?_
  cases r with
  | error e => exact hr
  | ok fl =>
    cases fl with
    | ret x =>
      obtain ⟨rfl, rfl⟩ := hr
      have hS : (s.heap.push (noneIn w)).get? s.heap.objs.size = some (noneIn w) := Heap.get?_push_size _ rfl
      have hT : Shared.TypeIs { s with heap := s.heap.push (noneIn w) } (.ref s.heap.objs.size) "set" := ⟨_, hS, rfl⟩
      have li := PySem.F.called_set.init.lookup
      have bi := PySem.F.called_set.init.bind (.ref s.heap.objs.size)
      repeat (any_goals (first | assumption | wp_step))
      refine codeAny_mono (codeAny_call_builtin (R := wants (fun r u => r = .none ∧ ∃ h' tk c, u = { s with heap := h', toks := tk } ∧ SetR w h' s.heap.objs.size (fun j => decide (j ∈ ns)) c ∧ c ≤ ns.length ∧ (∀ b o, s.heap.get? b = some o → h'.get? b = some o)) E)
        PySem.F.called_set.init.plain F.entry_set_init (check_set_init_1 hT ?_)) fun r₂ u hr₂ => ?_
      · obtain ⟨⟨ec, ed, ea, es⟩, hol, e1, nl, e2⟩ := hl
        simp only at e1 e2
        subst e1 e2
        have hol' : (s.heap.push (noneIn w)).get? l = some { cls := .type "list", dict := ed, data := .seq items nl, slots := es } := Heap.get?_push_of_some _ hol
        have s1 := PySem.F.sub_list_set
        have s2 := PySem.F.sub_list_frozenset
        have ne : (Value.type "list" == Value.type "dict") = false := by decide
        have hl1 : (s.heap.push (noneIn w)).IsList l items := ⟨_, hol', rfl, nl, rfl⟩
        unfold Builtin.«set.__init__» noKeywords Builtin.Frozenset.updateFrom
        generalize hPI : pyIter = PI
        wp_walk
        subst hPI
        refine wpAny_pyIter_list hl1 (wpAny_bind (wpAny_runValue ?_))
        have lt : l < s.heap.objs.size := Heap.lt_size hol
        have hh3 : A.in1.in1.in1.handled = none := by simp [hh]
        have zz : (s.heap.push (noneIn w)).objs.size = s.heap.objs.size + 1 := Heap.size_push ..
        have ni : l ≠ (s.heap.push (noneIn w)).objs.size := by rw [zz]; exact Nat.ne_of_lt (Nat.lt_succ_of_lt lt)
        have nf : s.heap.objs.size ∉ [(s.heap.push (noneIn w)).objs.size, l] := by
          intro z
          simp only [List.mem_cons, List.not_mem_nil, or_false] at z
          rcases z with z | z
          · rw [zz] at z; exact absurd z (Nat.ne_of_lt (Nat.lt_succ_self _))
          · exact absurd z (Nat.ne_of_gt lt)
        have vl : ∀ (i : Nat) (v : Value), items[i]? = some v → ∃ k t, ns[i]? = some k ∧ v = .int k t := fun i v hv => by
          have hi : i < ns.length := by rw [← hsz]; exact (Array.getElem?_eq_some_iff.mp hv).1
          obtain ⟨t, e⟩ := PyProof.Rows.IntsAre.int_at hit i v (by rw [Array.getElem?_toList]; exact hv)
          exact ⟨ns[i], t, List.getElem?_eq_getElem hi, by simp [e, hi]⟩
        refine set_update_ints ((Walks.list hh3 _ l ni items).toS) s.heap.objs.size nf ns hsz hb vl (items.size - 0) 0 _ (by omega) (Nat.zero_le _) ⟨⟨_, Heap.get?_push_size _ rfl, rfl, rfl⟩, hl1.push _⟩
          ⟨0, Nat.le_refl 0, setR_new_at (Heap.get?_push_of_some _ hS)⟩ ?_
        intro s' c' hm hc' hS'
        obtain ⟨h', g2, d', tk', os'⟩ := s'
        obtain rfl : g2 = s.gens := hm.gens
        obtain rfl : d' = s.drawn := hm.drawn
        obtain rfl : os' = s.os := hm.os
        show wpAny _ _ _ _ _ _
        refine wpAny_pure ?_
        show wpAny _ _ (ret Value.none) _ _ _
        rw [hsz] at hc'
        refine wpAny_pure ⟨rfl, h', tk', c', rfl, hS', hc', fun b o e => ?_⟩
        have hb0 : b < s.heap.objs.size := Heap.lt_size e
        refine hm.heap b o (fun z => ?_) (Heap.get?_push_of_some _ (Heap.get?_push_of_some _ e))
        simp only [List.mem_cons, List.not_mem_nil, or_false] at z
        rcases z with z | z
        · exact absurd z (Nat.ne_of_lt hb0)
        · rw [zz] at z; exact absurd z (Nat.ne_of_lt (Nat.lt_succ_of_lt hb0))
      · cases r₂ with
        | error e => exact hr₂
        | ok fl₂ =>
          cases fl₂ with
          | ret r =>
            obtain ⟨rfl, h', tk, c', rfl, q1, q2, q3⟩ := hr₂
            repeat (any_goals (first | assumption | wp_step))
            exact h _ _ _ q1 q2 q3
          | _ => exact hr₂.elim
    | _ => exact hr.elim
end
/-- set(x), x's items ints -/
def rSetI (K : PySem.W.Frag) (w : World) : List V → Hp → VK → Prop := fun xs H Q => ∃ (p : Addr) (ns : List Int), xs = [V.ref p] ∧ (SqL K H p (ns.map V.int) ∨ SqT K H p (ns.map V.int)) ∧ ns.length ≤ 1000 ∧
  ∀ q c, H q = none → c ≤ ns.length → Q (.ref q) (upd H q (SetO w q (fun j => decide (j ∈ ns)) c))
theorem cr_setI {X : Cx} (hc : X.calm = true) : CallR X (.type "set") (rSetI X.K X.w) := by
  intro pins s σ H xs us Q I r h
  obtain ⟨p, ns, rfl, hs, hn, q⟩ := h
  obtain ⟨u, rfl, ru⟩ := r.one
  cases ru
  have hd := I.ok.hd hc
  have fin : ∀ (h' : Heap) (tk c : Nat), SetR X.w h' s.heap.objs.size (fun j => decide (j ∈ ns)) c → c ≤ ns.length → (∀ b o, s.heap.get? b = some o → h'.get? b = some o) → EP X pins σ Q (.ref s.heap.objs.size) { s with heap := h', toks := tk } := fun h' tk c hR hcn k =>
    ⟨.ref s.heap.objs.size, upd H s.heap.objs.size (SetO X.w s.heap.objs.size (fun j => decide (j ∈ ns)) c), I.laid k (Nat.le_refl _) (setO_new hR), rfl, q _ c (I.hok.fresh (Nat.le_refl _)) hcn⟩
  rcases hs with hs | hs
  · obtain ⟨its, rv, pl, hz⟩ := I.list hs
    exact setOfInts ns hd pl.isList (ints_of_vals rv) (by unfold scanBound; omega) fin
  · obtain ⟨its, rv, pt, hz⟩ := I.tuple hs
    exact call_set_tupI ns hd (show s.heap.IsTuple p its.toArray from pt) (ints_of_vals rv) (by unfold scanBound; omega) fin
/-! ### sorted(set(x)) -/
def insI (k : Int) : List Int → List Int
  | [] => [k]
  | x :: xs => if k < x then k :: x :: xs else if k = x then x :: xs else x :: insI k xs
/-- the members, rising -/
def sortSet (ns : List Int) : List Int := ns.foldr insI []
theorem insI_mem {k j : Int} : ∀ {xs : List Int}, j ∈ insI k xs ↔ j = k ∨ j ∈ xs
  | [] => by simp [insI]
  | x :: xs => by
    unfold insI
    split
    · simp
    · split
      · rename_i h; subst h; simp
      · simp [insI_mem (xs := xs)]
        constructor
        · rintro (h | h | h) <;> simp [h]
        · rintro (h | h | h) <;> simp [h]
theorem sortSet_mem {j : Int} : ∀ {ns : List Int}, j ∈ sortSet ns ↔ j ∈ ns
  | [] => by simp [sortSet]
  | n :: ns => by
    show j ∈ insI n (sortSet ns) ↔ _
    rw [insI_mem, sortSet_mem]; simp
theorem insI_rising {k : Int} : ∀ {xs : List Int}, xs.Pairwise (· < ·) → (insI k xs).Pairwise (· < ·)
  | [], _ => by simp [insI]
  | x :: xs, h => by
    have h' := List.pairwise_cons.mp h
    unfold insI
    split
    · rename_i hk
      refine List.pairwise_cons.mpr ⟨fun y hy => ?_, h⟩
      rcases List.mem_cons.mp hy with e | e
      · rw [e]; exact hk
      · have := h'.1 y e; omega
    · split
      · exact h
      · rename_i h1 h2
        refine List.pairwise_cons.mpr ⟨fun y hy => ?_, insI_rising h'.2⟩
        rcases insI_mem.mp hy with e | e
        · omega
        · exact h'.1 y e
theorem sortSet_rising : ∀ ns : List Int, (sortSet ns).Pairwise (· < ·)
  | [] => .nil
  | n :: ns => insI_rising (sortSet_rising ns)
theorem rising_unique : ∀ {xs ys : List Int}, xs.Pairwise (· < ·) → ys.Pairwise (· < ·) → (∀ k, k ∈ xs ↔ k ∈ ys) → xs = ys
  | [], [], _, _, _ => rfl
  | [], y :: ys, _, _, h => by have := (h y).mpr (by simp); simp at this
  | x :: xs, [], _, _, h => by have := (h x).mp (by simp); simp at this
  | x :: xs, y :: ys, hx, hy, h => by
    have hx' := List.pairwise_cons.mp hx
    have hy' := List.pairwise_cons.mp hy
    have e : x = y := by
      have a := (h x).mp (by simp)
      have b := (h y).mpr (by simp)
      rcases List.mem_cons.mp a with z | z
      · exact z
      · rcases List.mem_cons.mp b with z2 | z2
        · exact z2.symm
        · have := hy'.1 x z; have := hx'.1 y z2; omega
    subst e
    have : xs = ys := rising_unique hx'.2 hy'.2 fun k => by
      have hk := h k
      simp only [List.mem_cons] at hk
      constructor
      · intro z
        rcases hk.mp (.inr z) with e | e
        · have := hx'.1 k z; omega
        · exact e
      · intro z
        rcases hk.mpr (.inr z) with e | e
        · have := hy'.1 k z; omega
        · exact e
    rw [this]
theorem insI_len {k : Int} : ∀ {xs : List Int}, (insI k xs).length ≤ xs.length + 1
  | [] => by simp [insI]
  | x :: xs => by
    unfold insI
    split
    · simp
    · split
      · simp
      · have := insI_len (k := k) (xs := xs); simp; omega
theorem sortSet_len : ∀ ns : List Int, (sortSet ns).length ≤ ns.length
  | [] => by simp [sortSet]
  | n :: ns => by
    have := insI_len (k := n) (xs := sortSet ns)
    have := sortSet_len ns
    show (insI n (sortSet ns)).length ≤ _
    simp; omega
/-- set(x) of fewer than 64 ints, to be sorted -/
def cSortSet (ds : List D) (S : Store) (Q : DK) : Prop := match ds with
  | [x] => ∃ ns : List Int, (x = .tup (ns.map D.int) ∨ asL S x = some (ns.map D.int)) ∧ ns.length < 64 ∧ Q (.lst ((sortSet ns).map D.int)) S
  | _ => False
theorem Vals.ints_map (ns : List Int) {W : KW} {H : Hp} {S : Store} {vs : List V} (r : Reps W H S (ns.map D.int) vs) : vs = ns.map V.int := Reps.of_map (f := D.int) (g := V.int) (fun x v z => by simpa [Rep] using z) r
theorem reps_ints {W : KW} {H : Hp} {S : Store} : ∀ ns : List Int, Reps W H S (ns.map D.int) (ns.map V.int)
  | [] => Reps.nil_
  | n :: ns => by
    simp only [List.map_cons, Reps]
    exact ⟨_, _, rfl, by simp [Rep], reps_ints ns⟩
theorem sortSet_eq {ns ms : List Int} (h : ms.Pairwise (· < ·)) (hm : ∀ k, k ∈ ms ↔ k ∈ ns) : ms = sortSet ns := rising_unique h (sortSet_rising ns) fun k => by rw [hm, sortSet_mem]
end Lf
set_option Elab.async false
set_option linter.all false
set_option maxRecDepth 100000
set_option maxHeartbeats 4000000
namespace Lf
open PySem PySem.Spec PyProof.Rows L2
/-- sorted(set(a)) -/
theorem de_sortSet {X : Cx} {a : Expr} {ta : DT} {p p2 pos pos2 : Pos} (hc : X.calm = true) (hg : Gl X "sorted") (hm : X.mg "sorted" = none) (hg2 : Gl X "set") (hm2 : X.mg "set" = none) (ha : DE X a ta)
    (hs : starEach [a] X.env = (false, eval a X.env) :: starEach [] X.env) : DE X (.Call (.Name "sorted" p) [.Call (.Name "set" p2) [a] [] pos2] [] pos) (sCall cSortSet (sCons ta sNil)) := by
  have h1 : PE X (.Call (.Name "set" p2) [a] [] pos2) _ := pe_callTy (cr_setI hc) hg2 hm2 (by decide +kernel) (pa_cons ha pa_nil hs) (by decide +kernel) (by decide +kernel) hs (by rfl)
  have h2 : PE X (.Call (.Name "sorted" p) [.Call (.Name "set" p2) [a] [] pos2] [] pos) _ := pe_callB (cr_sortedSet hc) hg hm (by decide +kernel) (pa_cons h1 pa_nil (by rfl)) (by decide +kernel) (by decide +kernel) (by rfl) (by rfl)
  refine h2.imp fun σ H Q ⟨δ, S, Qd, hr, lr, h, q⟩ => ?_
  refine ⟨δ, S, _, hr, lr, h, fun d S1 v H1 h1 f1 r1 => ?_⟩
  have h1' : cSortSet [d] S1 Qd := h1
  unfold cSortSet at h1'
  obtain ⟨ns, hx, hn, h1'⟩ := h1'
  have key : ∃ a xs, v = .ref a ∧ (SqL X.K H1 a xs ∨ SqT X.K H1 a xs) ∧ Reps (kw X) H1 S1 (ns.map D.int) xs := by
    rcases hx with e | e
    · subst e
      simp only [Rep] at r1
      exact let ⟨a, xs, e, ht, rr⟩ := r1; ⟨a, xs, e, .inr ht.sq, rr⟩
    · exact let ⟨a, xs, e, ht, rr⟩ := asL_rep f1.hr r1 e; ⟨a, xs, e, .inl (.inl (.inl ht)), rr⟩
  obtain ⟨a, xs, rfl, ht, rr⟩ := key
  obtain rfl := Vals.ints_map ns rr
  refine ⟨a, ns, rfl, ht, by omega, fun q2 c hq hcn => ⟨q2, _, c, rfl, upd_same, by omega, fun ms p hms hmm hml hp => ?_⟩⟩
  have e : ms = sortSet ns := sortSet_eq hms fun k => by rw [hmm]; simp
  subst e
  have fa := Fut.new (W := kw X) (o := SetO X.w q2 (fun j => decide (j ∈ ns)) c) f1.hr hq
  have fb := Fut.new (W := kw X) (o := .lst ((sortSet ns).map V.int)) fa.hr hp
  refine q _ S1 _ _ h1' ((f1.trans fa).trans fb) (Rep.lst_new fa.hr hp (reps_ints _))

/-! ### tuple(range), list(range) -/
def rgOut (tup : Bool) (i j : Int) : D := match tup with
  | true => .tup (rngD i (j - i).toNat)
  | false => .lst (rngD i (j - i).toNat)
def sRg2 (tup : Bool) (ta tb : DT) : DT := fun δ S Q => ta δ S fun x S1 => tb δ S1 fun y S2 => ∃ i j, x = .int i ∧ y = .int j ∧ RgOk i j ∧ Q (rgOut tup i j) S2
def sRg1 (tup : Bool) (tb : DT) : DT := fun δ S Q => tb δ S fun y S2 => ∃ j, y = .int j ∧ RgOk 0 j ∧ Q (rgOut tup 0 j) S2
theorem rng_reps {W : KW} {H : Hp} {S : Store} : ∀ (n : Nat) (a : Int), Reps W H S (rngD a n) ((List.range n).map fun i => V.int (a + (i : Nat)))
  | 0, a => Reps.nil_
  | n + 1, a => by
    rw [List.range_succ_eq_map, List.map_cons, List.map_map]
    simp only [rngD, Reps]
    refine ⟨_, _, rfl, by simp [Rep], ?_⟩
    have := rng_reps (W := W) (H := H) (S := S) n (a + 1)
    have e : ((fun i : Nat => V.int (a + (i : Nat))) ∘ Nat.succ) = fun i : Nat => V.int (a + 1 + (i : Nat)) := by
      funext i
      simp only [Function.comp]
      congr 1
      omega
    rw [e]; exact this
theorem rg_reps {W : KW} {H : Hp} {S : Store} (a b : Int) : Reps W H S (rngD a (b - a).toNat) (rgV a b) := rng_reps _ a
section
variable {X : Cx} {a b : Expr} {ta tb : DT} {p p2 pos pos2 : Pos}
theorem rg_out {tup : Bool} {H1 : Hp} {S1 : Store} {i j : Int} {Qd : DK} {Q : VK} (hr : HR (kw X) H1 S1) (h : Qd (rgOut tup i j) S1) (q : ∀ d S' w H', Qd d S' → Fut (kw X) H1 S1 H' S' → Rep (kw X) H' S' d w → Q w H') (p : Addr) (hp : H1 p = none) :
    Q (.ref p) (upd H1 p (if tup = true then .tup (rgV i j) else .lst (rgV i j))) := by
  cases tup with
  | true => exact q _ S1 _ _ h (Fut.new hr hp) (Rep.tup_new hr hp (rg_reps i j))
  | false => exact q _ S1 _ _ h (Fut.new hr hp) (Rep.lst_new hr hp (rg_reps i j))
theorem de_rg2 {tup : Bool} {n : Str} (hn : Str.ofString (if tup = true then "tuple" else "list") = n) (hc : X.calm = true) (hg : Gl X n) (hm : X.mg n = none) (hg2 : Gl X "range") (hm2 : X.mg "range" = none) (ha : DE X a ta) (hb : DE X b tb)
    (hs : starEach [a, b] X.env = (false, eval a X.env) :: starEach [b] X.env) (hs2 : starEach [b] X.env = (false, eval b X.env) :: starEach [] X.env) (hpl : (backTo pos2 (starEach [b] X.env)).any (·.1) = false) :
    DE X (.Call (.Name n p) [.Call (.Name "range" p2) [a, b] [] pos2] [] pos) (sRg2 tup ta tb) := by
  have h1 : PRg X (.Call (.Name "range" p2) [a, b] [] pos2) _ := prg_2 hg2 hm2 ha hb hs hs2 hpl
  have key : ∀ σ H Q, up (kw X) (sRg2 tup ta tb) σ H Q → tRg2 (up (kw X) ta) (up (kw X) tb) σ H (fun i j H1 => RgOk i j ∧ ∀ q, H1 q = none → Q (.ref q) (upd H1 q (if tup = true then .tup (rgV i j) else .lst (rgV i j)))) := by
    intro σ H Q ⟨δ, S, Qd, hr, lr, h, q⟩
    refine ⟨δ, S, _, hr, lr, h, fun d S1 v H1 h1 f1 r1 => ⟨δ, S1, _, f1.hr, lr.fut hr f1, h1, fun e S2 u H2 ⟨i, j, e1, e2, ok, h2⟩ f2 r2 => ?_⟩⟩
    subst e1 e2
    have r1' := f2.rep f1.hr r1
    simp only [Rep] at r1' r2
    subst r1' r2
    exact ⟨i, j, rfl, rfl, ok, fun p hp => rg_out f2.hr h2 (fun d S' w H' q1 f3 r3 => q d S' w H' q1 ((f1.trans f2).trans f3) r3) p hp⟩
  subst hn
  cases tup with
  | true => exact PE.imp (pe_tupRg hc hg hm h1) fun σ H Q h => key σ H Q h
  | false => exact PE.imp (pe_listRg hc hg hm h1) fun σ H Q h => key σ H Q h
theorem de_rg1 {tup : Bool} {n : Str} (hn : Str.ofString (if tup = true then "tuple" else "list") = n) (hc : X.calm = true) (hg : Gl X n) (hm : X.mg n = none) (hg2 : Gl X "range") (hm2 : X.mg "range" = none) (hb : DE X b tb)
    (hs2 : starEach [b] X.env = (false, eval b X.env) :: starEach [] X.env) :
    DE X (.Call (.Name n p) [.Call (.Name "range" p2) [b] [] pos2] [] pos) (sRg1 tup tb) := by
  have h1 : PRg X (.Call (.Name "range" p2) [b] [] pos2) _ := prg_1 hg2 hm2 hb hs2
  have key : ∀ σ H Q, up (kw X) (sRg1 tup tb) σ H Q → tRg1 (up (kw X) tb) σ H (fun i j H1 => RgOk i j ∧ ∀ q, H1 q = none → Q (.ref q) (upd H1 q (if tup = true then .tup (rgV i j) else .lst (rgV i j)))) := by
    intro σ H Q ⟨δ, S, Qd, hr, lr, h, q⟩
    refine ⟨δ, S, _, hr, lr, h, fun e S2 u H2 ⟨j, e2, ok, h2⟩ f2 r2 => ?_⟩
    subst e2
    simp only [Rep] at r2
    subst r2
    exact ⟨j, rfl, ok, fun p hp => rg_out f2.hr h2 (fun d S' w H' q1 f3 r3 => q d S' w H' q1 (f2.trans f3) r3) p hp⟩
  subst hn
  cases tup with
  | true => exact PE.imp (pe_tupRg hc hg hm h1) fun σ H Q h => key σ H Q h
  | false => exact PE.imp (pe_listRg hc hg hm h1) fun σ H Q h => key σ H Q h
end

/-! ### min, max, sum, sorted of a list of ints -/
def minL : List Int → Int
  | [] => 0
  | [x] => x
  | x :: y :: r => min x (minL (y :: r))
def maxL : List Int → Int
  | [] => 0
  | [x] => x
  | x :: y :: r => max x (maxL (y :: r))
theorem minL_le : ∀ {ns : List Int}, ∀ y ∈ ns, minL ns ≤ y
  | [], y, h => by simp at h
  | [x], y, h => by simp at h; subst h; simp [minL]
  | x :: z :: r, y, h => by
    rcases List.mem_cons.mp h with e | e
    · subst e; simp [minL]; omega
    · have := minL_le (ns := z :: r) y e
      simp [minL]; omega
theorem minL_mem : ∀ {ns : List Int}, ns ≠ [] → minL ns ∈ ns
  | [], h => absurd rfl h
  | [x], _ => by simp [minL]
  | x :: z :: r, _ => by
    have := minL_mem (ns := z :: r) (by simp)
    unfold minL
    by_cases h : x ≤ minL (z :: r)
    · rw [Int.min_eq_left h]; simp
    · rw [Int.min_eq_right (by omega)]; exact List.mem_cons_of_mem _ this
theorem le_maxL : ∀ {ns : List Int}, ∀ y ∈ ns, y ≤ maxL ns
  | [], y, h => by simp at h
  | [x], y, h => by simp at h; subst h; simp [maxL]
  | x :: z :: r, y, h => by
    rcases List.mem_cons.mp h with e | e
    · subst e; simp [maxL]; omega
    · have := le_maxL (ns := z :: r) y e
      simp [maxL]; omega
theorem maxL_mem : ∀ {ns : List Int}, ns ≠ [] → maxL ns ∈ ns
  | [], h => absurd rfl h
  | [x], _ => by simp [maxL]
  | x :: z :: r, _ => by
    have := maxL_mem (ns := z :: r) (by simp)
    unfold maxL
    by_cases h : maxL (z :: r) ≤ x
    · rw [Int.max_eq_left h]; simp
    · rw [Int.max_eq_right (by omega)]; exact List.mem_cons_of_mem _ this
def insO (k : Int) : List Int → List Int
  | [] => [k]
  | x :: xs => if k ≤ x then k :: x :: xs else x :: insO k xs
def sortO (ns : List Int) : List Int := ns.foldr insO []
theorem insO_perm {k : Int} : ∀ xs : List Int, (insO k xs).Perm (k :: xs)
  | [] => .refl _
  | x :: xs => by
    unfold insO
    split
    · exact .refl _
    · exact ((insO_perm xs).cons x).trans (.swap _ _ _)
theorem sortO_perm : ∀ ns : List Int, (sortO ns).Perm ns
  | [] => .refl _
  | n :: ns => (insO_perm (sortO ns)).trans ((sortO_perm ns).cons n)
theorem insO_sorted {k : Int} : ∀ {xs : List Int}, xs.Pairwise (· ≤ ·) → (insO k xs).Pairwise (· ≤ ·)
  | [], _ => by simp [insO]
  | x :: xs, h => by
    have h' := List.pairwise_cons.mp h
    unfold insO
    split
    · rename_i hk
      refine List.pairwise_cons.mpr ⟨fun y hy => ?_, h⟩
      rcases List.mem_cons.mp hy with e | e
      · rw [e]; exact hk
      · have := h'.1 y e; omega
    · refine List.pairwise_cons.mpr ⟨fun y hy => ?_, insO_sorted h'.2⟩
      rcases List.mem_cons.mp ((insO_perm xs).mem_iff.mp hy) with e | e
      · omega
      · exact h'.1 y e
theorem sortO_sorted : ∀ ns : List Int, (sortO ns).Pairwise (· ≤ ·)
  | [] => .nil
  | n :: ns => insO_sorted (sortO_sorted ns)
theorem sorted_unique : ∀ {xs ys : List Int}, xs.Perm ys → xs.Pairwise (· ≤ ·) → ys.Pairwise (· ≤ ·) → xs = ys := fun h hx hy => by
  exact h.eq_of_pairwise (fun a b _ _ h1 h2 => Int.le_antisymm h1 h2) hx hy
def cMin1 (ds : List D) (S : Store) (Q : DK) : Prop := match ds with
  | [x] => ∃ ns : List Int, asL S x = some (ns.map D.int) ∧ ns ≠ [] ∧ Q (.int (minL ns)) S
  | _ => False
def cMax1 (ds : List D) (S : Store) (Q : DK) : Prop := match ds with
  | [x] => ∃ ns : List Int, asL S x = some (ns.map D.int) ∧ ns ≠ [] ∧ Q (.int (maxL ns)) S
  | _ => False
def cSum (ds : List D) (S : Store) (Q : DK) : Prop := match ds with
  | [x] => ∃ ns : List Int, asL S x = some (ns.map D.int) ∧ Q (.int ns.sum) S
  | _ => False
def cSortI (ds : List D) (S : Store) (Q : DK) : Prop := match ds with
  | [x] => ∃ ns : List Int, asL S x = some (ns.map D.int) ∧ ns.length < 64 ∧ Q (.lst ((sortO ns).map D.int)) S
  | _ => False
section
variable {W : KW}
theorem ints_in {H : Hp} {S : Store} {x : D} {v : V} {ns : List Int} (hr : HR W H S) (r : Rep W H S x v) (e : asL S x = some (ns.map D.int)) : ∃ a, v = .ref a ∧ H a = some (.lst (ns.map V.int)) := by
  obtain ⟨a, xs, rfl, ht, rr⟩ := asL_rep hr r e
  obtain rfl := Vals.ints_map ns rr
  exact ⟨a, rfl, ht⟩
theorem d_min1 : DCl W (rMin W.K) cMin1 := by
  intro H S ds vs Qd Q hr rs h q
  unfold cMin1 at h
  split at h
  · obtain ⟨ns, e, hn, h⟩ := h
    obtain ⟨v, rfl, r⟩ := rs.one_
    obtain ⟨a, rfl, ht⟩ := ints_in hr r e
    refine ⟨a, ns, rfl, .inl (.inl ht), List.length_pos_iff.mpr hn, fun m h1 h2 => ?_⟩
    have e : m = minL ns := Int.le_antisymm (h2 _ (minL_mem hn)) (minL_le _ h1)
    subst e
    exact q _ S _ H h (Fut.refl hr) (by simp [Rep])
  · exact h.elim
theorem d_max1 : DCl W (rMax W.K) cMax1 := by
  intro H S ds vs Qd Q hr rs h q
  unfold cMax1 at h
  split at h
  · obtain ⟨ns, e, hn, h⟩ := h
    obtain ⟨v, rfl, r⟩ := rs.one_
    obtain ⟨a, rfl, ht⟩ := ints_in hr r e
    refine ⟨a, ns, rfl, .inl (.inl ht), List.length_pos_iff.mpr hn, fun m h1 h2 => ?_⟩
    have e : m = maxL ns := Int.le_antisymm (le_maxL _ h1) (h2 _ (maxL_mem hn))
    subst e
    exact q _ S _ H h (Fut.refl hr) (by simp [Rep])
  · exact h.elim
theorem d_sum : DCl W (rSum W.K) cSum := by
  intro H S ds vs Qd Q hr rs h q
  unfold cSum at h
  split at h
  · obtain ⟨ns, e, h⟩ := h
    obtain ⟨v, rfl, r⟩ := rs.one_
    obtain ⟨a, rfl, ht⟩ := ints_in hr r e
    exact ⟨a, ns, rfl, .inl (.inl ht), q _ S _ H h (Fut.refl hr) (by simp [Rep])⟩
  · exact h.elim
theorem d_sortI : DCl W (rSorted W.K) cSortI := by
  intro H S ds vs Qd Q hr rs h q
  unfold cSortI at h
  split at h
  · obtain ⟨ns, e, hn, h⟩ := h
    obtain ⟨v, rfl, r⟩ := rs.one_
    obtain ⟨a, rfl, ht⟩ := ints_in hr r e
    refine ⟨a, ns, rfl, .inl (.inl ht), hn, fun ms p hp hs h0 => ?_⟩
    have e : ms = sortO ns := sorted_unique (hp.trans (sortO_perm ns).symm) hs (sortO_sorted ns)
    subst e
    exact q _ S _ _ h (Fut.new hr h0) (Rep.lst_new hr h0 (reps_ints _))
  · exact h.elim
end
end Lf
set_option Elab.async false
set_option linter.all false
set_option maxRecDepth 100000
set_option maxHeartbeats 4000000
namespace Lf
open PySem PySem.Spec PyProof.Rows L2
open PySem.W (AllAlike alike alikeAll dataLe dataLt SortsAt dataKind dataKind_some dataKind_inv EachIs dataType looks_reads kas_mapM kas_first_eq sorted_vals sortingHeap copyHeap sorting_copy_old sortVals_data each_map bound_map sortVals_length)

/-! ### sorted(x), x a list of alike data -/
section
variable {prog : Program} {w : World} {A : Around} {s : Shared}
/-- a tuple's first item, where it has one -/
def fst1 (h : Heap) : Value → Option Value
  | .ref a => match h.get? a with
    | some o => match o.data with
      | .seq xs _ => xs[0]?
      | _ => none
    | none => none
  | _ => none
theorem mapM_rel {M : Model} {E : Value → Shared → Prop} {α β : Type} {f : α → Sem β} (R : α → β) : ∀ (l : List α) {Q : List β → Shared → Prop}, (∀ v ∈ l, ∀ (Q' : β → Shared → Prop), Q' (R v) s → wpAny M A (f v) Q' E s) → Q (l.map R) s → wpAny M A (l.mapM f) Q E s
  | [], _, _, h => by rw [List.mapM_nil]; exact wpAny_pure h
  | x :: l, Q, hf, h => by
    rw [List.mapM_cons]
    exact wpAny_bind (hf x (.head _) _ (wpAny_bind (mapM_rel R l (Q := fun bs s' => wpAny M A (pure (R x :: bs)) Q E s') (fun v hv => hf v (.tail _ hv)) (wpAny_pure h))))
/-- tuples, the first of them empty -/
theorem kind_empty {E : Value → Shared → Prop} {vs : List Value} {ds : List PyData} {Q : SortKind → Shared → Prop} (e : EachIs (fun v d => ∃ as, Reads s.heap v d as) vs (.tuple [] :: ds)) (ht : ∀ d, d ∈ ds → ∃ xs, d = .tuple xs) (h : Q oneType' s) : wpAny (model prog w) A (keyKind' vs.toArray) Q E s := by
  have rd : ∀ v ∈ vs, ∃ a o xs n, v = .ref a ∧ s.heap.get? a = some o ∧ o.cls = .type "tuple" ∧ o.data = .seq xs n := fun v hv => by
    obtain ⟨d, hd, as, r⟩ := e.left v hv
    have : ∃ xs, d = .tuple xs := by
      rcases List.mem_cons.mp hd with z | z
      · exact ⟨[], z⟩
      · exact ht d z
    obtain ⟨xs, rfl⟩ := this
    cases r with
    | tuple h1 h2 h3 h4 => exact ⟨_, _, _, _, rfl, h1, h2, h3⟩
  cases e with
  | @cons v _ vs _ r t =>
    obtain ⟨as, r⟩ := r
    rw [keyKind'_eq, List.mapM_toArray, map_eq_pure_bind]
    refine wpAny_bind (wpAny_bind (mapM_rel (fst1 s.heap) _ (fun v hv Q' hq => ?_) (wpAny_pure ?_)))
    · obtain ⟨a, o, xs, n, rfl, ho, hc, hd⟩ := rd v hv
      rw [kas_first_eq]
      refine wpAny_bind (PySem.W.Looks.here (show PySem.W.Looks (model prog w) s.heap (typeOf (.ref a)) o.cls from (PySem.W.Looks.ld ho).andThen .now) ?_)
      rw [hc, if_neg (by first | decide | simp)]
      refine wpAny_bind (listItems_at ho hd (wpAny_pure ?_))
      have : fst1 s.heap (.ref a) = xs[0]? := by simp only [fst1, ho, hd]
      rw [← this]; exact hq
    · have h0 : fst1 s.heap v = none := by
        cases r with
        | @tuple a o xs n _ _ h1 h2 h3 h4 =>
          have : xs.toList = [] := by cases q : xs.toList with
            | nil => rfl
            | cons _ _ => rw [q] at h4; cases h4
          simp only [fst1, h1, h3]
          rw [← Array.getElem?_toList, this]; rfl
      rw [if_neg (by simp [h0]), if_neg (by simp [h0])]
      rw [oneTypeOnly'_eq, List.mapM_toArray, map_eq_pure_bind]
      refine wpAny_bind (wpAny_bind (wpAny_bind (kas_mapM (r := Value.type "tuple") _ (fun v hv Q' hq => ?_) (wpAny_pure ?_))))
      · obtain ⟨a, o, xs, n, rfl, ho, hc, hd⟩ := rd v hv
        refine PySem.W.Looks.here (show PySem.W.Looks (model prog w) s.heap (typeOf (.ref a)) o.cls from (PySem.W.Looks.ld ho).andThen .now) ?_
        rw [hc]; exact hq
      · have hall : ((List.map (fun _ => Value.type "tuple") (v :: vs)).toArray.all fun x => x == Value.type "tuple") = true := by
          simp only [List.all_toArray, List.all_map, List.all_eq_true]
          intro _ _
          rfl
        have h1 : (List.map (fun _ => Value.type "tuple") (v :: vs)).toArray[0]? = some (Value.type "tuple") := by simp
        rw [h1]
        simp only [hall, if_true]
        exact wpAny_pure (wpAny_pure h)
/-- one tuple against another, as sorting compares where all are of one type -/
theorem oneLt_tup {E : Value → Shared → Prop} {xs ys : List PyData} {a b : Value} {as bs : List Addr} {Q : Bool → Shared → Prop} (ra : Reads s.heap a (.tuple xs) as) (rb : Reads s.heap b (.tuple ys) bs) (h : alike (.tuple xs) (.tuple ys) = true)
    (hu : A.units + min (PyData.tuple xs).depth (PyData.tuple ys).depth < cLine) (hq : Q (dataLt (.tuple xs) (.tuple ys)) s) : wpAny (model prog w) A (oneLt' true a b) Q E s := by
  have hal : alikeAll xs ys = true := by simpa [alike] using h
  cases ra with
  | @tuple l o vs n _ as₁ h1 h2 h3 h4 =>
    cases rb with
    | @tuple l' o' vs' n' _ bs₁ k1 k2 k3 k4 =>
      have n1 : vs.size = xs.length := by simpa using SeqAt.ReadsAll.length _ _ _ h4
      have n2 : vs'.size = ys.length := by simpa using SeqAt.ReadsAll.length _ _ _ k4
      rw [PySem.W.dataLt_tuple, ← PySem.W.firstLt_toks xs ys hal, ← n1, ← n2] at hq
      rw [oneLt'_eq]
      simp only [if_true]
      refine wpAny_bind (wpAny_cRoomFor (SeqAt.room_here hu) ?_)
      refine wpAny_bind (wpAny_callSpecialIfBound?_slot (T := "tuple") ⟨_, h1, h2⟩ PySem.F.slot_tuple_lt ?_)
      obtain ⟨cls, dd, data, sl⟩ := o
      obtain ⟨cls', dd', data', sl'⟩ := o'
      simp only at h2 h3 k2 k3
      subst h2 h3 k2 k3
      refine call_meets PySem.F.slot_tuple_lt ⟨_, h1, rfl⟩ PySem.F.entry_tuple_lt (PySem.F.args_tuple_lt_2 _ _) (SeqAt.tuple_ltAt l l' vs vs' n n' dd dd' sl sl' (SeqAt.pairEq xs ys) (fun j => dataLt (xs.getD j .none) (ys.getD j .none))) ⟨h1, k1, fun j j1 j2 => ?_, fun j j1 j2 hj => ?_, ?_⟩
      · have := PySem.W.eqAt_alikeAll xs ys A.in1 s vs.toList vs'.toList _ _ h4 k4 hal (SeqAt.room_in hu) j (by simpa using j1) (by simpa using j2)
        simpa using this
      · have := PySem.W.rcLt_alikeAll xs ys A.in1 s vs.toList vs'.toList _ _ h4 k4 hal (SeqAt.room_in hu) j (by simpa using j1) (by simpa using j2) hj
        simpa using this
      · exact wpAny_truthy_bool hq
theorem sorts_empty {vs : List Value} {ds : List PyData} (e : EachIs (fun v d => ∃ as, Reads s.heap v d as) vs (.tuple [] :: ds)) (hal : AllAlike (.tuple [] :: ds)) (ht : ∀ d, d ∈ ds → ∃ xs, d = .tuple xs) (hu : ∀ d, d ∈ PyData.tuple [] :: ds → A.units + d.depth < cLine) :
    SortsAt prog w A s (dataKind s.heap (.tuple [] :: ds)) vs := by
  have ht' : ∀ d, d ∈ PyData.tuple [] :: ds → ∃ xs, d = .tuple xs := fun d hd => by
    rcases List.mem_cons.mp hd with z | z
    · exact ⟨[], z⟩
    · exact ht d z
  refine ⟨fun v hv => ?_, oneType', ?_, fun h2 E Q hq => kind_empty e ht hq⟩
  · obtain ⟨d, hd, as, r⟩ := e.left v hv
    exact ⟨_, dataKind_some hal hd r⟩
  · intro E x y a b Q ha hb hq
    obtain ⟨d, as, hd, ra, rfl⟩ := dataKind_inv ha
    obtain ⟨d', as', hd', rb, rfl⟩ := dataKind_inv hb
    rw [keyLt'_oneType]
    have hal' := hal d hd d' hd'
    obtain ⟨xs, rfl⟩ := ht' d hd
    obtain ⟨ys, rfl⟩ := ht' d' hd'
    exact oneLt_tup ra rb hal' (Nat.lt_of_le_of_lt (Nat.add_le_add_left (Nat.min_le_left _ _) _) (hu _ hd)) hq
end
def leD (a b : D) : Bool := !dataLt (toPy b) (toPy a)
def sortD (ds : List D) : List D := ds.mergeSort leD
/-- these can be sorted -/
def SortOk (ds : List D) : Prop := (∀ d ∈ ds, okD 8 d = true) ∧ (∀ d ∈ ds, ∀ e ∈ ds, alike (toPy d) (toPy e) = true) ∧ ds.length ≤ sizeLine ∧
  ((∃ r, ds = .tup [] :: r ∧ ∀ d ∈ r, ∃ es, d = .tup es) ∨ PySem.W.Sortable (ds.map toPy))
section
variable {W : KW} {H : Hp} {S : Store}
theorem reps_pairs : ∀ {ps : List (D × V)}, (∀ p ∈ ps, Rep W H S p.1 p.2) → Reps W H S (ps.map (·.1)) (ps.map (·.2))
  | [], _ => Reps.nil_
  | p :: ps, h => Reps.cons_ (h p (by simp)) (reps_pairs fun q hq => h q (List.mem_cons_of_mem _ hq))
theorem reps_zip : ∀ {ds : List D} {zs : List V}, Reps W H S ds zs → (ds.zip zs).map (·.1) = ds ∧ (ds.zip zs).map (·.2) = zs ∧ ∀ p ∈ ds.zip zs, Rep W H S p.1 p.2
  | [], zs, r => by simp only [Reps] at r; subst r; simp
  | d :: ds, zs, r => by
    simp only [Reps] at r
    obtain ⟨x, t, rfl, r1, r2⟩ := r
    obtain ⟨a1, a2, a3⟩ := reps_zip r2
    refine ⟨by simp [a1], by simp [a2], fun p hp => ?_⟩
    rw [List.zip_cons_cons, List.mem_cons] at hp
    rcases hp with z | z
    · subst z; exact r1
    · exact a3 p z
theorem each_of_vals : ∀ {ps : List (D × V)} {us : List Value}, Vals (ps.map (·.2)) us → EachIs (fun u p => RelV p.2 u) us ps
  | [], us, v => by cases v; exact .nil
  | p :: ps, us, v => by
    rw [List.map_cons] at v
    cases v with
    | cons r t => exact .cons r (each_of_vals t)
theorem vals_of_each : ∀ {us : List Value} {ps : List (D × V)}, EachIs (fun u p => RelV p.2 u) us ps → Vals (ps.map (·.2)) us
  | _, _, .nil => .nil
  | _, _, .cons r t => .cons r (vals_of_each t)
end
def rSortD (W : KW) : List V → Hp → VK → Prop := fun xs H Q => ∃ S p zs ds, xs = [.ref p] ∧ H p = some (.lst zs) ∧ Reps W H S ds zs ∧ SortOk ds ∧ ∀ zs' l, Reps W H S (sortD ds) zs' → H l = none → Q (.ref l) (upd H l (.lst zs'))
theorem call_sortD {X : Cx} (hu : X.A.units + 65 < cLine) : CallR X (.builtin "sorted") (rSortD (kw X)) := by
  intro pins s σ H xs us Q I r ⟨S, p, zs, ds, ex, hp, rs, ⟨ok1, ok2, ok3, ok4⟩, q⟩
  subst ex
  obtain ⟨u, rfl, rx⟩ := L2.vals1 r
  cases rx
  obtain ⟨its, rv, hl, hz⟩ := I.list (.inl (.inl hp))
  obtain ⟨z1, z2, z3⟩ := reps_zip rs
  generalize hb : ds.zip zs = bs at z1 z2 z3
  have e0 : EachIs (fun u p => RelV p.2 u) its bs := each_of_vals (by rw [z2]; exact rv)
  have er : ∀ {us : List Value} {ps : List (D × V)}, EachIs (fun u p => RelV p.2 u) us ps → (∀ p ∈ ps, Rep (kw X) H S p.1 p.2 ∧ okD 8 p.1 = true) → EachIs (fun v p => ∃ as, Reads s.heap v (toPy p.1) as) us ps := fun {us ps} e h => by
    induction e with
    | nil => exact .nil
    | cons r t ih =>
      obtain ⟨h1, h2⟩ := h _ (List.mem_cons_self ..)
      exact .cons (Dp.reads I _ _ _ (okD_dp 8 _ _ h2 h1) r) (ih fun p hp => h p (List.mem_cons_of_mem _ hp))
  have okb : ∀ p ∈ bs, Rep (kw X) H S p.1 p.2 ∧ okD 8 p.1 = true := fun p hp => ⟨z3 p hp, ok1 _ (by rw [← z1]; exact List.mem_map.mpr ⟨p, hp, rfl⟩)⟩
  have er0 := er e0 okb
  have er' : EachIs (fun v b => ∃ as, Reads (sortingHeap (copyHeap s.heap its) (s.heap.objs.size + 1) its) v (toPy b.1) as) its bs := er0.mono fun _ _ ⟨as, r⟩ => ⟨as, PyProof.Rows.Reads.keeps (fun _ _ => sorting_copy_old) r⟩
  have em : bs.map (fun b => toPy b.1) = ds.map toPy := by rw [← z1, List.map_map]; rfl
  have hal : AllAlike (bs.map fun b => toPy b.1) := by
    rw [em]
    intro d hd d' hd'
    obtain ⟨x, hx, rfl⟩ := List.mem_map.mp hd
    obtain ⟨y, hy, rfl⟩ := List.mem_map.mp hd'
    exact ok2 x hx y hy
  have hdep : ∀ d, d ∈ bs.map (fun b => toPy b.1) → X.A.in1.in1.units + d.depth < cLine := fun d hd => by
    rw [em] at hd
    obtain ⟨x, hx, rfl⟩ := List.mem_map.mp hd
    have := (okD_lay 8 x (ok1 x hx)).2
    show X.A.units + 1 + 1 + _ < cLine
    omega
  have hS : SortsAt X.prog X.w X.A.in1.in1 { s with heap := sortingHeap (copyHeap s.heap its) (s.heap.objs.size + 1) its } (dataKind (sortingHeap (copyHeap s.heap its) (s.heap.objs.size + 1) its) (bs.map fun b => toPy b.1)) its := by
    have em' := each_map (R := fun v d => ∃ as, Reads (sortingHeap (copyHeap s.heap its) (s.heap.objs.size + 1) its) v d as) (fun b : D × V => toPy b.1) er'
    rcases ok4 with ⟨t, et, ht⟩ | ok4
    · have e1 : bs.map (fun b => toPy b.1) = .tuple [] :: t.map toPy := by rw [em, et]; simp [toPy, toPys]
      rw [e1] at em' hal hdep ⊢
      refine sorts_empty (s := { s with heap := sortingHeap (copyHeap s.heap its) (s.heap.objs.size + 1) its }) em' hal (fun d hd => ?_) hdep
      obtain ⟨x, hx, rfl⟩ := List.mem_map.mp hd
      obtain ⟨es, rfl⟩ := ht x hx
      exact ⟨toPys es, by simp [toPy]⟩
    · rw [← em] at ok4
      exact SortsAt.data (s := { s with heap := sortingHeap (copyHeap s.heap its) (s.heap.objs.size + 1) its }) em' hal ok4 hdep
  have hlen : its.length ≤ sizeLine := by rw [← rv.length]; exact hz
  refine sorted_vals hl.isList hS hlen ?_
  have out := sortVals_data (h' := sortingHeap (copyHeap s.heap its) (s.heap.objs.size + 1) its) (enc := fun b : D × V => toPy b.1) false e0 er' hal
  generalize hout : PySem.W.sortVals (dataKind (sortingHeap (copyHeap s.heap its) (s.heap.objs.size + 1) its) (bs.map fun b => toPy b.1)) false its its = os at out
  have hperm : (bs.mergeSort (dataLe false fun b : D × V => toPy b.1)).Perm bs := List.mergeSort_perm _ _
  have hv := vals_of_each out
  have hr : Reps (kw X) H S (sortD ds) ((bs.mergeSort (dataLe false fun b : D × V => toPy b.1)).map (·.2)) := by
    have h1 := reps_pairs (W := kw X) (H := H) (S := S) (ps := bs.mergeSort (dataLe false fun b : D × V => toPy b.1)) fun p hp => z3 p (hperm.mem_iff.mp hp)
    have h2 : (bs.mergeSort (dataLe false fun b : D × V => toPy b.1)).map (·.1) = sortD ds := by
      rw [List.map_mergeSort (r := dataLe false fun b : D × V => toPy b.1) (s := leD) (f := (·.1)) (fun a _ b _ => by rw [PySem.W.dataLe_eq]; rfl), z1]
      rfl
    rw [h2] at h1
    exact h1
  have hl2 : ((bs.mergeSort (dataLe false fun b : D × V => toPy b.1)).map (·.2)).length ≤ sizeLine := by
    rw [List.length_map, hperm.length_eq]
    have : bs.length = zs.length := by rw [← z2, List.length_map]
    omega
  obtain ⟨n, hn⟩ := sortedAll_at s.heap its os.toArray
  exact ⟨.ref (s.heap.objs.size + 1), _, I.laid (t' := s.toks) (fun b o e => sortedAll_old e) (Nat.le_succ _) (show ObjOk X.prog X.w _ _ _ (.lst _) from ⟨hl2, os, n, hv, hn⟩), rfl, q _ _ hr (I.hok.fresh (Nat.le_succ _))⟩
def cSortD (ds : List D) (S : Store) (Q : DK) : Prop := match ds with
  | [x] => ∃ es, asL S x = some es ∧ SortOk es ∧ Q (.lst (sortD es)) S
  | _ => False
theorem d_sortD {W : KW} : DCl W (rSortD W) cSortD := by
  intro H S ds vs Qd Q hr rs h q
  unfold cSortD at h
  split at h
  · obtain ⟨v, rfl, r⟩ := rs.one_
    obtain ⟨es, e, ok, h⟩ := h
    obtain ⟨a, xs, rfl, ht, rr⟩ := asL_rep hr r e
    exact ⟨S, a, xs, es, rfl, ht, rr, ok, fun zs' l rz hl => q _ S _ _ h (Fut.new hr hl) (Rep.lst_new hr hl rz)⟩
  · exact h.elim
end Lf
set_option Elab.async false
set_option linter.all false
set_option maxRecDepth 100000
set_option maxHeartbeats 4000000
namespace Lf
open PySem PySem.Spec PyProof.Rows L2

/-! ### dicts: {}, {k: v}, get -/
def sDct0 : DT := fun _ S Q => ∀ p ob, S p = none → Q (.ref p) (ups S p (.dic ob [] []))
def sDct1 (tk tv : DT) : DT := fun δ S Q => ∀ p ob, S p = none → tk δ (ups S p (.dic ob [] [])) fun x S1 => tv δ S1 fun y S2 => S2 p = some (.dic ob [] []) ∧ (keyD x || leafD x) = true ∧ ∀ ob', Q (.ref p) (ups S2 p (.dic ob' [x] [y]))
def sGet1 (to te : DT) : DT := fun δ S Q => to δ S fun d S1 => (∃ ks vs, asD S1 d = some (ks, vs)) ∧ te δ S1 fun k S2 => ∃ ks vs, asD S2 d = some (ks, vs) ∧ dOk ks k = true ∧ Q ((findK ks vs k).getD .non) S2
def sGet2 (to te tf : DT) : DT := fun δ S Q => to δ S fun d S1 => (∃ ks vs, asD S1 d = some (ks, vs)) ∧ te δ S1 fun k S2 => tf δ S2 fun z S3 => ∃ ks vs, asD S3 d = some (ks, vs) ∧ dOk ks k = true ∧ Q ((findK ks vs k).getD z) S3
section
variable {X : Cx} {k v o e f : Expr} {tk tv to te tf : DT} {pos apos : Pos}
theorem Reps.nil_eq {W : KW} {H : Hp} {S : Store} {xs : List V} (r : Reps W H S [] xs) : xs = [] := by simpa [Reps] using r
theorem de_dct0 : DE X (.Dict [] [] pos) sDct0 := pe_dct0.imp fun σ H Q ⟨δ, S, Qd, hr, lr, h, q⟩ p ob hp hD =>
  q (.ref p) _ (.ref p) _ (h p ob (hr.fresh hp)) (Fut.dic hr (.inl hp) hD Reps.nil_ Reps.nil_) (by simp [Rep])
theorem de_dct1 (hu : X.A.units + 65 < cLine) (hk : DE X k tk) (hv : DE X v tv) : DE X (.Dict [some k] [v] pos) (sDct1 tk tv) := (pe_dct1 hu hk hv).imp fun σ H Q ⟨δ, S, Qd, hr, lr, h, q⟩ p ob hp hD => by
  have f0 : Fut (kw X) H S (upd H p (dO p ob)) (ups S p (.dic ob [] [])) := Fut.dic hr (.inl hp) hD Reps.nil_ Reps.nil_
  refine ⟨δ, _, _, f0.hr, lr.fut hr f0, h p ob (hr.fresh hp), fun x S1 xv H1 h1 f1 r1 => ⟨δ, S1, _, f1.hr, (lr.fut hr f0).fut f0.hr f1, h1, fun y S2 yv H2 ⟨e1, e2, h2⟩ f2 r2 => ?_⟩⟩
  obtain ⟨xs, ys, q1, q2, q3, q4⟩ := f2.hr p _ e1
  refine ⟨S2, x, y, q1, by simpa using e2, f2.rep f1.hr r1, r2, fun ob' xs' ys' hD' r3 r4 => ?_⟩
  exact q (.ref p) _ (.ref p) _ (h2 ob') (((f0.trans f1).trans f2).trans (Fut.dic f2.hr (.inr ⟨_, e1⟩) hD' r3 r4)) (by simp [Rep])
theorem asD_same {W : KW} {H : Hp} {S : Store} {d : D} {ks vs : List D} {a : Addr} (hr : HR W H S) (r : Rep W H S d (.ref a)) (h : asD S d = some (ks, vs)) : DicH W H S a ks vs := by
  obtain ⟨b, e, hd⟩ := asD_rep hr r h
  cases e; exact hd
theorem de_get1 (hu : X.A.units + 65 < cLine) (ho : DE X o to) (he : DE X e te) (m : M1 X o "get" apos e pos) : DE X (.Call (.Attribute o "get" apos) [e] [] pos) (sGet1 to te) := (pe_dicGet1 hu ho he m).imp fun σ H Q ⟨δ, S, Qd, hr, lr, h, q⟩ => by
  refine ⟨δ, S, _, hr, lr, h, fun d S1 v H1 ⟨⟨ks1, vs1, e1⟩, h1⟩ f1 r1 => ?_⟩
  obtain ⟨a, rfl, hd⟩ := asD_rep f1.hr r1 e1
  refine ⟨S1, a, ks1, vs1, rfl, hd, δ, S1, _, f1.hr, lr.fut hr f1, h1, fun k S2 y H2 ⟨ks, vs, e2, ok, q2⟩ f2 r2 => ?_⟩
  exact ⟨S2, ks, vs, k, dAsk_of ok (asD_same f2.hr (f2.rep f1.hr r1) e2) r2, fun w rw_ => q _ S2 _ H2 q2 (f1.trans f2) rw_⟩
theorem de_get2 (hu : X.A.units + 65 < cLine) (ho : DE X o to) (he : DE X e te) (hf : DE X f tf) (m : M2 X o "get" apos e f pos) : DE X (.Call (.Attribute o "get" apos) [e, f] [] pos) (sGet2 to te tf) := (pe_dicGet2 hu ho he hf m).imp fun σ H Q ⟨δ, S, Qd, hr, lr, h, q⟩ => by
  refine ⟨δ, S, _, hr, lr, h, fun d S1 v H1 ⟨⟨ks1, vs1, e1⟩, h1⟩ f1 r1 => ?_⟩
  obtain ⟨a, rfl, hd⟩ := asD_rep f1.hr r1 e1
  refine ⟨S1, a, ks1, vs1, rfl, hd, δ, S1, _, f1.hr, lr.fut hr f1, h1, fun k S2 y H2 h2 f2 r2 => ⟨δ, S2, _, f2.hr, (lr.fut hr f1).fut f1.hr f2, h2, fun z S3 zv H3 ⟨ks, vs, e2, ok, q2⟩ f3 r3 => ?_⟩⟩
  exact ⟨S3, ks, vs, k, z, dAsk_of ok (asD_same f3.hr ((f2.trans f3).rep f1.hr r1) e2) (f3.rep f2.hr r2), r3, fun w rw_ => q _ S3 _ H3 q2 ((f1.trans f2).trans f3) rw_⟩
end
theorem PSet.or {X : Cx} {t t' : TSet} (h : PSet X t) (h' : PSet X t') : PSet X (fun o i v H Q => t o i v H Q ∨ t' o i v H Q) := by
  intro pins s σ H o i v ov iv u Q I ro ri rv q
  rcases q with q | q
  · exact h pins s σ H o i v ov iv u Q I ro ri rv q
  · exact h' pins s σ H o i v ov iv u Q I ro ri rv q
/-- no super() -/
def okBase : Expr → Bool
  | .Call (.Name _ _) [] [] _ => false
  | _ => true
theorem okBase_ok {o : Expr} (h : okBase o = true) (f : Str) (env : Env) (m : Sem Value) : attributeBase o f env m = m := by
  unfold attributeBase
  split
  · simp [okBase] at h
  · rfl
end Lf
set_option Elab.async false
set_option linter.all false
set_option maxRecDepth 100000
namespace Lf
open PySem PySem.Spec PyProof.Rows L2

/-! ### a program's text without its places -/
inductive OpB where
  | add | sub | mul | fdiv | mod | pow
def OpB.op : OpB → Operator
  | .add => .Add | .sub => .Sub | .mul => .Mult | .fdiv => .FloorDiv | .mod => .Mod | .pow => .Pow
def OpB.sem : OpB → D → D → Store → DK → Prop
  | .add => opAdd | .sub => opSub | .mul => opMulA | .fdiv => opFdiv | .mod => opMod | .pow => opPow
inductive OpC where
  | eq | ne | lt | le | gt | ge | inn | nin | is | isn
def OpC.op : OpC → CmpOp
  | .eq => .Eq | .ne => .NotEq | .lt => .Lt | .le => .LtE | .gt => .Gt | .ge => .GtE | .inn => .In | .nin => .NotIn | .is => .Is | .isn => .IsNot
def OpC.sem : OpC → D → D → Store → DK → Prop
  | .eq => opEq | .ne => opNe | .lt => opLt | .le => opLe | .gt => opGt | .ge => opGe | .inn => opIn false | .nin => opIn true | .is => opIs false | .isn => opIs true
/-- built-ins by name -/
inductive BI where
  | isi | len | all | any | tup | lst (new : Bool) | min2 | max2 | int | bool | min1 | max1 | sum | srt | srtD
def BI.name : BI → String
  | .isi => "isinstance" | .len => "len" | .all => "all" | .any => "any" | .tup => "tuple" | .lst _ => "list" | .min2 => "min" | .max2 => "max" | .int => "int" | .bool => "bool" | .min1 => "min" | .max1 => "max" | .sum => "sum" | .srt => "sorted" | .srtD => "sorted"
def BI.sem : BI → List D → Store → DK → Prop
  | .isi => cIsi | .len => cLen | .all => cAll | .any => cAny | .tup => cTuple | .lst n => cList n | .min2 => cMin2 | .max2 => cMax2 | .int => cInt | .bool => cBool | .min1 => cMin1 | .max1 => cMax1 | .sum => cSum | .srt => cSortI | .srtD => cSortD
inductive Ex where
  | no
  | var (i : Nat) | int (i : Int) | str (s : String) | bl (b : Bool) | non
  | gl (x : String) (d : D) | ty (n : String)
  | tup (es : List Ex) | lst (new : Bool) (es : List Ex)
  | bin (o : OpB) (a b : Ex) | neg (a : Ex) | not (a : Ex)
  | cmp (o : OpC) (a b : Ex) | chn (o o' : OpC) (a b c : Ex)
  | and (a b : Ex) | or (a b : Ex) | ite (c a b : Ex)
  | ix (a i : Ex) | sl (a lo hi : Ex)
  | call (f : String) (sp : Spec) (args : List Ex)
  | bi (b : BI) (args : List Ex)
  | app (o e : Ex)
  | lc (new : Bool) (elt : Ex) (tg : Tg) (src cond : Ex) (own : List (String × Nat))
  | rng1 (a : Ex) | rng2 (a b : Ex) | enm (a : Ex) | zip (a b : Ex)
  | sset (a : Ex) | rgc1 (tup : Bool) (b : Ex) | rgc2 (tup : Bool) (a b : Ex)
  | dct0 | dct1 (k v : Ex) | get1 (o e : Ex) | get2 (o e f : Ex) | rngd (a b c : Ex)
def sAppL (to ta : DT) : DT := fun δ S Q => to δ S fun d S1 => (∃ a ds, d = .ref a ∧ S1 a = some (.lst ds)) ∧ ta δ S1 fun e S2 => mApp d [e] S2 Q
def sChn (o o' : D → D → Store → DK → Prop) (ta tb tc : DT) : DT := fun δ S Q => ta δ S fun x S1 => tb δ S1 fun y S2 => o x y S2 fun z S3 => ∃ k, z = .bl k ∧ if k = true then tc δ S3 fun w S4 => o' y w S4 Q else Q (.bl false) S3
def pOf (x : Ex) (t : DT) : DO := match x with
  | .no => sNoP
  | _ => sP t
def cOf (x : Ex) (t : DT) : DB := match x with
  | .no => sYes
  | _ => sTru t
/-- as a value; what it gives when walked -/
def val (t : DT) : DT × DI := (t, sItr t)
def wlk (i : DI) : DT × DI := (fun _ _ _ => False, i)
mutual
def semB : Ex → DT × DI
  | .no => val fun _ _ _ => False
  | .var i => val (sVar i)
  | .int i => val (sC (.int i))
  | .str s => val (sC (.str (Str.ofString s)))
  | .bl b => val (sC (.bl b))
  | .non => val (sC .non)
  | .gl _ d => val (sC d)
  | .ty n => val (sC (.ty n))
  | .tup es => val (sTup (sems es))
  | .lst new es => val (match new with
    | true => sLstN (sems es)
    | false => sLst (sems es))
  | .bin o a b => val (sOp o.sem (semB a).1 (semB b).1)
  | .neg a => val (sNeg (semB a).1)
  | .not a => val (sNot (semB a).1)
  | .cmp o a b => val (sOp o.sem (semB a).1 (semB b).1)
  | .chn o o' a b c => val (sChn o.sem o'.sem (semB a).1 (semB b).1 (semB c).1)
  | .and a b => val (sAnd (semB a).1 (semB b).1)
  | .or a b => val (sOr (semB a).1 (semB b).1)
  | .ite c a b => val (sIte (semB c).1 (semB a).1 (semB b).1)
  | .ix a i => val (sOp opIx (semB a).1 (semB i).1)
  | .sl a lo hi => val (sSlA (semB a).1 (pOf lo (semB lo).1) (pOf hi (semB hi).1))
  | .call _ sp args => val (sCall sp (sems args))
  | .bi b args => val (sCall b.sem (sems args))
  | .app o e => val (sAppL (semB o).1 (semB e).1)
  | .lc new elt tg src cond own => val (sLc new (semB src).2 tg (cOf cond (semB cond).1) (semB elt).1 (own.map (·.2)))
  | .rng1 a => wlk (sRng1 (sCons (semB a).1 sNil))
  | .rng2 a b => wlk (sRng2 (sCons (semB a).1 (sCons (semB b).1 sNil)))
  | .enm a => wlk (sEnum (semB a).1)
  | .zip a b => wlk (sZip (sCons (semB a).1 (sCons (semB b).1 sNil)))
  | .sset a => val (sCall cSortSet (sCons (semB a).1 sNil))
  | .rgc1 t b => val (sRg1 t (semB b).1)
  | .rgc2 t a b => val (sRg2 t (semB a).1 (semB b).1)
  | .dct0 => val sDct0
  | .dct1 k v => val (sDct1 (semB k).1 (semB v).1)
  | .get1 o e => val (sGet1 (semB o).1 (semB e).1)
  | .get2 o e f => val (sGet2 (semB o).1 (semB e).1 (semB f).1)
  | .rngd a b c => wlk (sRngD (sCons (semB a).1 (sCons (semB b).1 (sCons (semB c).1 sNil))))
def sems : List Ex → DA
  | [] => sNil
  | e :: es => sCons (semB e).1 (sems es)
end
def sem (x : Ex) : DT := (semB x).1
def semI (x : Ex) : DI := (semB x).2
example : sem (.bin .add (.var 0) (.int 1)) = sOp opAdd (sVar 0) (sC (.int 1)) := rfl

/-! ### the checker -/
structure Cs where
  sc : Scope
  N : List Str
  fn : Str → Bool
def Cs.vis (c : Cs) (x : Str) : Bool := match c.sc.names.lookup x with
  | some .local => true | some .cell => true | some .free => true | _ => false
def Cs.glb (c : Cs) (x : Str) : Bool := decide (c.sc.names.lookup x = some .globalImplicit)
def notDbg (x : Str) : Bool := !(x == ("__debug__" : Str)) && !(x == ("__classdict__" : Str)) && decide (x ≠ ("__name__" : Str))
mutual
def chkTg (c : Cs) : Tg → Expr → Bool
  | .nm i, e => match e with
    | .Name x _ => decide (c.N[i]? = some x) && (match c.sc.names.lookup x with
      | some .local => true | some .cell => c.fn x | _ => false)
    | _ => false
  | .tp ts, e => match e with
    | .Tuple es _ _ => chkTgs c ts es
    | _ => false
def chkTgs (c : Cs) : List Tg → List Expr → Bool
  | [], es => es.isEmpty
  | t :: ts, es => match es with
    | [] => false
    | e :: es => chkTg c t e && chkTgs c ts es
end
def ownS (own : List (String × Nat)) : List (Str × Nat) := own.map fun p => (Str.ofString p.1, p.2)
def Cs.blk (c : Cs) (scope : Scope) : Cs := ⟨relS scope c.sc, c.N, fun x => scope.names.lookup x == some .cell⟩
def isNo : Ex → Bool
  | .no => true
  | _ => false
def noIte : Ex → Bool
  | .ite _ _ _ => false
  | _ => true
def isTupT : Expr → Bool
  | .Tuple _ _ _ => true
  | _ => false
mutual
/-- the tree is the text's; w: in the place of what is walked -/
def chk (c : Cs) (w : Nat) : Ex → Expr → Bool
  | .no, _ => false
  | .var i, e => match e with
    | .Name x _ => decide (c.N[i]? = some x) && c.vis x && notDbg x
    | _ => false
  | .int i, e => match e with
    | .Constant (.int j) _ _ => decide (i = j)
    | _ => false
  | .str s, e => match e with
    | .Constant (.str x) _ _ => decide (Str.ofString s = x)
    | _ => false
  | .bl b, e => match e with
    | .Constant (.bool x) _ _ => decide (b = x)
    | _ => false
  | .non, e => match e with
    | .Constant .none _ _ => true
    | _ => false
  | .gl x _, e => match e with
    | .Name y _ => decide (Str.ofString x = y) && c.glb y && notDbg y
    | _ => false
  | .ty n, e => match e with
    | .Name y _ => decide (Str.ofString n = y) && c.glb y && tyOk n && notDbg y
    | _ => false
  | .tup es, e => match e with
    | .Tuple xs _ _ => chks c es xs
    | _ => false
  | .lst _ es, e => match e with
    | .List xs _ => chks c es xs
    | _ => false
  | .bin o a b, e => match e with
    | .BinOp x op y _ => decide (op = o.op) && chk c 0 a x && chk c 0 b y
    | _ => false
  | .neg a, e => match e with
    | .UnaryOp .USub x _ => chk c 0 a x
    | _ => false
  | .not a, e => match e with
    | .UnaryOp .Not x _ => chk c 0 a x && noIte a
    | _ => false
  | .cmp o a b, e => match e with
    | .Compare x [op] [y] _ => decide (op = o.op) && chk c 0 a x && chk c 0 b y
    | _ => false
  | .chn o o' a b d, e => match e with
    | .Compare x [op, op'] [y, z] _ => decide (op = o.op) && decide (op' = o'.op) && chk c 0 a x && chk c 0 b y && chk c 0 d z
    | _ => false
  | .and a b, e => match e with
    | .BoolOp .And (x :: y :: r) p => chk c 0 a x && noIte a && noIte b && (match r with
      | [] => chk c 0 b y
      | z :: r => chk c 0 b (.BoolOp .And (y :: z :: r) p))
    | _ => false
  | .or a b, e => match e with
    | .BoolOp .Or (x :: y :: r) p => chk c 0 a x && noIte a && noIte b && (match r with
      | [] => chk c 0 b y
      | z :: r => chk c 0 b (.BoolOp .Or (y :: z :: r) p))
    | _ => false
  | .ite t a b, e => match e with
    | .IfExp x y z _ => chk c 0 t x && noIte t && chk c 0 a y && chk c 0 b z
    | _ => false
  | .ix a i, e => match e with
    | .Subscript x y _ => chk c 0 a x && chk c 0 i y
    | _ => false
  | .sl a lo hi, e => match e with
    | .Subscript x (.Slice l h none _) _ => chk c 0 a x && (match l with
      | none => isNo lo
      | some l => !isNo lo && chk c 0 lo l) && (match h with
      | none => isNo hi
      | some h => !isNo hi && chk c 0 hi h)
    | _ => false
  | .call f _ args, e => match e with
    | .Call (.Name g _) xs [] _ => decide (Str.ofString f = g) && c.glb g && notDbg g && chks c args xs
    | _ => false
  | .bi b args, e => match e with
    | .Call (.Name g _) xs [] _ => decide (Str.ofString b.name = g) && c.glb g && notDbg g && chks c args xs && !args.isEmpty
    | _ => false
  | .app o a, e => match e with
    | .Call (.Attribute x f ap) [y] [] p => decide (f = Str.ofString "append") && (match x with | .Name _ _ => true | .Subscript _ _ _ => true | .Attribute _ _ _ => true | _ => false) && decide (ap.endLine = p.line) && chk c 0 o x && chk c 0 a y
    | _ => false
  | .lc _ elt tg src cond own, e => match e with
    | .ListComp x [⟨t, it, ifs, 0⟩] scope _ => chkTg (c.blk scope) tg t && chk c (if isTupT t then 2 else 1) src it && chk (c.blk scope) 0 elt x && blkC c.N c.sc scope (ownS own) && (tgIx tg).all (fun i => (own.map (·.2)).contains i) &&
        (match ifs with
          | [] => isNo cond
          | [y] => !isNo cond && noIte cond && chk (c.blk scope) 0 cond y
          | _ => false)
    | _ => false
  | .rng1 a, e => match e with
    | .Call (.Name g _) [x] [] _ => decide (1 ≤ w) && decide (Str.ofString "range" = g) && c.glb g && chk c 0 a x
    | _ => false
  | .rng2 a b, e => match e with
    | .Call (.Name g _) [x, y] [] _ => decide (1 ≤ w) && decide (Str.ofString "range" = g) && c.glb g && chk c 0 a x && chk c 0 b y
    | _ => false
  | .enm a, e => match e with
    | .Call (.Name g _) [x] [] _ => decide (2 ≤ w) && decide (Str.ofString "enumerate" = g) && c.glb g && chk c 0 a x
    | _ => false
  | .zip a b, e => match e with
    | .Call (.Name g _) [x, y] [] _ => decide (2 ≤ w) && decide (Str.ofString "zip" = g) && c.glb g && chk c 0 a x && chk c 0 b y
    | _ => false
  | .sset a, e => match e with
    | .Call (.Name g _) [.Call (.Name g2 _) [x] [] _] [] _ => decide (Str.ofString "sorted" = g) && c.glb g && decide (Str.ofString "set" = g2) && c.glb g2 && chk c 0 a x
    | _ => false
  | .rgc1 t b, e => match e with
    | .Call (.Name g _) [.Call (.Name g2 _) [y] [] _] [] _ => decide (Str.ofString (if t = true then "tuple" else "list") = g) && c.glb g && decide (Str.ofString "range" = g2) && c.glb g2 && chk c 0 b y
    | _ => false
  | .rgc2 t a b, e => match e with
    | .Call (.Name g _) [.Call (.Name g2 _) [x, y] [] _] [] _ => decide (Str.ofString (if t = true then "tuple" else "list") = g) && c.glb g && decide (Str.ofString "range" = g2) && c.glb g2 && chk c 0 a x && chk c 0 b y
    | _ => false
  | .dct0, e => match e with
    | .Dict [] [] _ => true
    | _ => false
  | .dct1 k v, e => match e with
    | .Dict [some x] [y] _ => chk c 0 k x && chk c 0 v y
    | _ => false
  | .get1 o a, e => match e with
    | .Call (.Attribute x f ap) [y] [] p => decide (f = Str.ofString "get") && okBase x && decide (ap.endLine = p.line) && chk c 0 o x && chk c 0 a y
    | _ => false
  | .get2 o a b, e => match e with
    | .Call (.Attribute x f ap) [y, z] [] p => decide (f = Str.ofString "get") && okBase x && decide (ap.endLine = p.line) && chk c 0 o x && chk c 0 a y && chk c 0 b z
    | _ => false
  | .rngd a b d, e => match e with
    | .Call (.Name g _) [x, y, z] [] _ => decide (1 ≤ w) && decide (Str.ofString "range" = g) && c.glb g && chk c 0 a x && chk c 0 b y && chk c 0 d z
    | _ => false
def chks (c : Cs) : List Ex → List Expr → Bool
  | [], xs => xs.isEmpty
  | a :: as, xs => match xs with
    | [] => false
    | x :: xs => chk c 0 a x && chks c as xs
end
end Lf
set_option Elab.async false
set_option linter.all false
set_option maxRecDepth 100000
namespace Lf
open PySem PySem.Spec PyProof.Rows L2

/-- what is promised of the module's defs and constants -/
structure Tb where
  fn : String → Spec → Prop
  gl : String → D → Prop
mutual
def uses (T : Tb) : Ex → Prop
  | .gl x d => T.gl x d
  | .tup es => usess T es
  | .lst _ es => usess T es
  | .bin _ a b => uses T a ∧ uses T b
  | .neg a => uses T a
  | .not a => uses T a
  | .cmp _ a b => uses T a ∧ uses T b
  | .chn _ _ a b c => uses T a ∧ uses T b ∧ uses T c
  | .and a b => uses T a ∧ uses T b
  | .or a b => uses T a ∧ uses T b
  | .ite c a b => uses T c ∧ uses T a ∧ uses T b
  | .ix a i => uses T a ∧ uses T i
  | .sl a lo hi => uses T a ∧ uses T lo ∧ uses T hi
  | .call f sp args => T.fn f sp ∧ usess T args
  | .bi _ args => usess T args
  | .app o e => uses T o ∧ uses T e
  | .lc _ elt _ src cond _ => uses T elt ∧ uses T src ∧ uses T cond
  | .rng1 a => uses T a
  | .rng2 a b => uses T a ∧ uses T b
  | .enm a => uses T a
  | .zip a b => uses T a ∧ uses T b
  | .sset a => uses T a
  | .rgc1 _ b => uses T b
  | .rgc2 _ a b => uses T a ∧ uses T b
  | .dct1 a b => uses T a ∧ uses T b
  | .get1 a b => uses T a ∧ uses T b
  | .get2 a b c => uses T a ∧ uses T b ∧ uses T c
  | .rngd a b c => uses T a ∧ uses T b ∧ uses T c
  | .dct0 => True
  | .no => True
  | .var _ => True
  | .int _ => True
  | .str _ => True
  | .bl _ => True
  | .non => True
  | .ty _ => True
def usess (T : Tb) : List Ex → Prop
  | [] => True
  | e :: es => uses T e ∧ usess T es
end
/-- the built-ins' names -/
def bltN : List String := ["isinstance", "len", "all", "any", "tuple", "list", "min", "max", "int", "bool", "range", "enumerate", "zip", "str", "sorted", "set", "sum", "abs", "dict"]
/-- where a checked tree runs -/
structure Good (T : Tb) (X : Cx) (c : Cs) : Prop where
  sc : X.env.scope = c.sc
  N : X.N = c.N
  fn : X.fn = c.fn
  calm : X.calm = true
  nd : c.N.Nodup
  hu : X.A.units + 65 < cLine
  blt : ∀ x ∈ bltN, X.mg (Str.ofString x) = none
  fns : ∀ f sp, T.fn f sp → ∃ (j : Nat) (a : Addr) (fd : FuncData) (ps : List Str), FnOk X.prog X.w X.K X.mg X.base CX0 j a fd ps (upSp (kw X) sp) ∧ Room j X.A ∧ X.mg (Str.ofString f) = some (.ref a) ∧ PySem.W.keepIn X.K (.ref a) = true ∧ Binds X.K fd ps []
  gls : ∀ x d, T.gl x d → ∃ u v, X.mg (Str.ofString x) = some u ∧ RelV v u ∧ ∀ H S, Rep (kw X) H S d v
section
variable {T : Tb} {X : Cx} {c : Cs}
theorem Good.blk (G : Good T X c) (scope : Scope) (s : Shared) (H : Hp) (C : Addr) (cl : List (Str × Addr)) (fp : List Addr) : Good T (X.blk s H scope (compEnvC scope cl C X.env) fp) (c.blk scope) where
  sc := by
    show relS scope X.env.scope = relS scope c.sc
    rw [G.sc]
  N := G.N
  fn := rfl
  calm := G.calm
  nd := G.nd
  hu := G.hu
  blt := G.blt
  fns := G.fns
  gls := G.gls
theorem Good.vis (G : Good T X c) {x : Str} (h : c.vis x = true) : Vis X.env.scope x := by
  unfold Cs.vis at h
  unfold Vis
  rw [G.sc]
  split at h
  · exact .inl (by assumption)
  · exact .inr (.inl (by assumption))
  · exact .inr (.inr (by assumption))
  · cases h
theorem Good.glb (G : Good T X c) {x : Str} (h : c.glb x = true) : Gl X x := by
  unfold Cs.glb at h
  have := of_decide_eq_true h
  unfold Gl
  show X.env.scope.names.lookup x = _
  rw [G.sc]; exact this
theorem notDbg_ok {x : Str} (h : notDbg x = true) : (x == ("__debug__" : Str)) = false ∧ (x == ("__classdict__" : Str)) = false ∧ x ≠ "__name__" := by
  unfold notDbg at h
  simp only [Bool.and_eq_true, Bool.not_eq_true', decide_eq_true_eq] at h
  exact ⟨h.1.1, h.1.2, h.2⟩
/-! ### targets -/
theorem chkTg_assign {e : Expr} {t : Tg} (h : chkTg c t e = true) (es : List Expr) (env : Env) : (assignEach (e :: es) env) = (false, assign e env) :: assignEach es env := by
  cases e <;> first
    | rfl
    | (cases t <;> simp [chkTg] at h)
theorem chkTgs_len : ∀ (ts : List Tg) (es : List Expr) (env : Env), chkTgs c ts es = true → (assignEach es env).length = ts.length ∧ (assignEach es env).findIdx? (·.1) = none
  | [], es, env, h => by
    simp only [chkTgs, List.isEmpty_iff] at h
    subst h
    exact ⟨rfl, rfl⟩
  | t :: ts, es, env, h => by
    cases es with
    | nil => simp [chkTgs] at h
    | cons e es =>
      have h' : chkTg c t e = true ∧ chkTgs c ts es = true := by simpa [chkTgs] using h
      obtain ⟨h1, h2⟩ := chkTgs_len ts es env h'.2
      rw [chkTg_assign h'.1 es env]
      exact ⟨by simp [h1], by rw [List.findIdx?_cons]; simp [h2]⟩
mutual
theorem soundTg (G : Good T X c) : ∀ (t : Tg) (e : Expr), chkTg c t e = true → PG X e (tgV X.K t)
  | .nm i, e, h => by
    cases e with
    | Name x p =>
      simp only [chkTg, Bool.and_eq_true, decide_eq_true_eq] at h
      have h1 := h.1
      have h2 := h.2
      have hl : L2.Loc X.env.scope x ∧ (X.fn x = true ∨ X.env.scope.names.lookup x = some .local) := by
        unfold L2.Loc
        rw [G.sc, G.fn]
        split at h2
        · rename_i z; exact ⟨.inl z, .inr z⟩
        · rename_i z; exact ⟨.inr z, .inl h2⟩
        · cases h2
      exact pg_name (by rw [G.N]; exact G.nd) (by rw [G.N]; exact h1) hl.1 hl.2
    | _ => simp [chkTg] at h
  | .tp ts, e, h => by
    cases e with
    | Tuple es k p =>
      have h' : chkTgs c ts es = true := by simpa [chkTg] using h
      obtain ⟨h1, h2⟩ := chkTgs_len ts es X.env h'
      exact pg_tup G.calm (soundTgs G ts es h') h1 h2
    | _ => simp [chkTg] at h
theorem soundTgs (G : Good T X c) : ∀ (ts : List Tg) (es : List Expr), chkTgs c ts es = true → PGs X es (tgVs X.K ts)
  | [], es, h => by
    simp only [chkTgs, List.isEmpty_iff] at h
    subst h
    exact pgs_nil
  | t :: ts, es, h => by
    cases es with
    | nil => simp [chkTgs] at h
    | cons e es =>
      have h' : chkTg c t e = true ∧ chkTgs c ts es = true := by simpa [chkTgs] using h
      exact pgs_cons (soundTg G t e h'.1) (soundTgs G ts es h'.2) (by rw [chkTg_assign h'.1]; rfl)
end

/-! ### what a checked tree is not -/
/-- neither starred, nor a slice, nor a set -/
def plainE : Expr → Bool
  | .Starred _ _ => false
  | .Slice _ _ _ _ => false
  | .Set _ _ _ => false
  | _ => true
theorem chk_plain {w : Nat} {x : Ex} {e : Expr} (h : chk c w x e = true) : plainE e = true := by
  cases e <;> first
    | rfl
    | (cases x <;> simp [chk] at h)
theorem star_of {e : Expr} (h : plainE e = true) (es : List Expr) (env : Env) : starEach (e :: es) env = (false, eval e env) :: starEach es env := by
  cases e <;> first
    | rfl
    | cases h
theorem ix_of {e : Expr} (h : plainE e = true) : PlainIx e := by
  intro o i
  cases e <;> first
    | rfl
    | cases h
theorem marks_of {e : Expr} (h : plainE e = true) (op : CmpOp) : behindInMarks op e = false := by
  cases e <;> first
    | rfl
    | cases h
theorem fold_of {e : Expr} (h : plainE e = true) (env : Env) (x : Value) : foldedSetIterable e env x = pure x := by
  cases e <;> first
    | rfl
    | cases h
theorem marks2_of {e e' : Expr} (h : plainE e = true) (h' : plainE e' = true) (op op' : CmpOp) : lastMarks [op, op'] [e, e'] = false := by
  show lastMarks [op'] [e'] = false
  exact marks_of h' op'
theorem chks_star : ∀ (as : List Ex) (xs : List Expr) (env : Env) (pos : Pos), chks c as xs = true → (backTo pos (starEach xs env)).any (·.1) = false
  | [], xs, env, pos, h => by
    simp only [chks, List.isEmpty_iff] at h
    subst h; rfl
  | a :: as, xs, env, pos, h => by
    cases xs with
    | nil => simp [chks] at h
    | cons x xs =>
      have h' : chk c 0 a x = true ∧ chks c as xs = true := by simpa [chks] using h
      rw [star_of (chk_plain h'.1)]
      have := chks_star as xs env pos h'.2
      unfold backTo at this ⊢
      simpa using this

/-! ### operators, built-ins -/
theorem sound_bin {o : OpB} {op : Operator} {a b : Expr} {ta tb : DT} {pos : Pos} (ho : op = o.op) (ha : DE X a ta) (hb : DE X b tb) : DE X (.BinOp a op b pos) (sOp o.sem ta tb) := by
  subst ho
  cases o with
  | add => exact de_op op_addAll d_add ha hb
  | sub => exact de_op op_sub (d_I0 fun _ _ _ _ => by simp [Rep]) ha hb
  | mul => exact de_op op_mulAll d_mul ha hb
  | fdiv => exact de_op op_fdiv (d_I fun _ _ _ _ => by simp [Rep]) ha hb
  | mod => exact de_op op_mod (d_I fun _ _ _ _ => by simp [Rep]) ha hb
  | pow => exact de_op op_pow (d_I fun _ _ _ _ => by simp [Rep]) ha hb
/-- each comparison's rule -/
theorem opc_rule (G : Good T X c) (o : OpC) : ∃ r, OpR X (compareOp o.op) r ∧ DOp (kw X) r o.sem := by
  have hu := G.hu
  cases o with
  | eq => exact ⟨_, op_eqD (by omega), d_eq⟩
  | ne => exact ⟨_, op_neD (by omega), d_ne⟩
  | lt => exact ⟨_, op_lt, d_I0 fun _ _ _ _ => by simp [Rep]⟩
  | le => exact ⟨_, op_le, d_I0 fun _ _ _ _ => by simp [Rep]⟩
  | gt => exact ⟨_, op_gt, d_I0 fun _ _ _ _ => by simp [Rep]⟩
  | ge => exact ⟨_, op_ge, d_I0 fun _ _ _ _ => by simp [Rep]⟩
  | inn => exact ⟨_, op_inAll hu, d_in⟩
  | nin => exact ⟨_, op_notInAll hu, d_notIn⟩
  | is => exact ⟨_, op_isAll, d_is⟩
  | isn => exact ⟨_, op_isNotAll, d_isNot⟩
/-- each gives a truth -/
theorem opc_bl (o : OpC) {x y : D} {S : Store} {Q : DK} (h : o.sem x y S Q) : o.sem x y S fun d S1 => (∃ k, d = .bl k) ∧ Q d S1 := by
  cases o with
  | eq => exact ⟨h.1, h.2.1, ⟨_, rfl⟩, h.2.2⟩
  | ne => exact ⟨h.1, h.2.1, ⟨_, rfl⟩, h.2.2⟩
  | inn =>
    simp only [OpC.sem, opIn] at h ⊢
    split at h
    · exact ⟨h.1, h.2.1, ⟨_, rfl⟩, h.2.2⟩
    · rcases h with ⟨ds, e, h1, h2, h⟩ | ⟨ks, vs, e, h1, h⟩
      · exact .inl ⟨ds, e, h1, h2, ⟨_, rfl⟩, h⟩
      · exact .inr ⟨ks, vs, e, h1, ⟨_, rfl⟩, h⟩
  | nin =>
    simp only [OpC.sem, opIn] at h ⊢
    split at h
    · exact ⟨h.1, h.2.1, ⟨_, rfl⟩, h.2.2⟩
    · rcases h with ⟨ds, e, h1, h2, h⟩ | ⟨ks, vs, e, h1, h⟩
      · exact .inl ⟨ds, e, h1, h2, ⟨_, rfl⟩, h⟩
      · exact .inr ⟨ks, vs, e, h1, ⟨_, rfl⟩, h⟩
  | is =>
    simp only [OpC.sem, opIs] at h ⊢
    split at h
    · exact ⟨⟨_, rfl⟩, h⟩
    · split at h
      · exact ⟨⟨_, rfl⟩, h⟩
      · exact h
    · exact h
  | isn =>
    simp only [OpC.sem, opIs] at h ⊢
    split at h
    · exact ⟨⟨_, rfl⟩, h⟩
    · split at h
      · exact ⟨⟨_, rfl⟩, h⟩
      · exact h
    · exact h
  | _ =>
    simp only [OpC.sem, opLt, opLe, opGt, opGe, opI0] at h ⊢
    split at h
    · exact ⟨⟨_, rfl⟩, h⟩
    · exact h
theorem up_chain {W : KW} {r r' : R2} {o o' : D → D → Store → DK → Prop} (hd : DOp W r o) (hd' : DOp W r' o') {ta tb tc : DT} {σ : L2.St} {H : Hp} {Q : VK} (h : up W (sChn o o' ta tb tc) σ H Q) : tChain r r' (up W ta) (up W tb) (up W tc) σ H Q := by
  obtain ⟨δ, S, Qd, hr, lr, h, q⟩ := h
  refine ⟨δ, S, _, hr, lr, h, fun x S1 v H1 h1 f1 r1 => ⟨δ, S1, _, f1.hr, lr.fut hr f1, h1, fun y S2 u H2 h2 f2 r2 => ?_⟩⟩
  have l2 := (lr.fut hr f1).fut f1.hr f2
  refine hd H2 S2 x y v u _ _ f2.hr (f2.rep f1.hr r1) r2 h2 fun d S3 w H3 ⟨k, e, h3⟩ f3 r3 => ?_
  subst e
  simp only [Rep] at r3; subst r3
  refine ⟨k, rfl, ?_⟩
  have f123 := (f1.trans f2).trans f3
  cases k with
  | true =>
    refine ⟨δ, S3, _, f3.hr, l2.fut f2.hr f3, h3, fun z S4 w H4 h4 f4 r4 => ?_⟩
    exact hd' H4 S4 y z u w _ _ f4.hr ((f3.trans f4).rep f2.hr r2) r4 h4 fun d S' w H' q1 f5 r5 => q d S' w H' q1 ((f123.trans f4).trans f5) r5
  | false => exact q _ S3 _ H3 h3 f123 (by simp [Rep])
theorem tst_chain {W : KW} {r r' : R2} {o o' : D → D → Store → DK → Prop} (hd : DOp W r o) (hd' : DOp W r' o') (hb' : ∀ x y S Q, o' x y S Q → o' x y S fun d S1 => (∃ k, d = .bl k) ∧ Q d S1) {ta tb tc : DT} {σ : L2.St} {H : Hp} {Q : Bool → Hp → Prop} (h : upB W (sTru (sChn o o' ta tb tc)) σ H Q) :
    tTest (tChain r r' (up W ta) (up W tb) (up W tc)) σ H Q := by
  obtain ⟨δ, S, Qd, hr, lr, h, q⟩ := h
  refine ⟨δ, S, _, hr, lr, h, fun x S1 v H1 h1 f1 r1 => ⟨δ, S1, _, f1.hr, lr.fut hr f1, h1, fun y S2 u H2 h2 f2 r2 => ?_⟩⟩
  have l2 := (lr.fut hr f1).fut f1.hr f2
  refine hd H2 S2 x y v u _ _ f2.hr (f2.rep f1.hr r1) r2 h2 fun d S3 w H3 ⟨k, e, h3⟩ f3 r3 => ?_
  subst e
  simp only [Rep] at r3; subst r3
  refine ⟨k, rfl, ?_⟩
  have f123 := (f1.trans f2).trans f3
  cases k with
  | true =>
    refine ⟨δ, S3, _, f3.hr, l2.fut f2.hr f3, h3, fun z S4 w H4 h4 f4 r4 => ?_⟩
    refine hd' H4 S4 y z u w _ _ f4.hr ((f3.trans f4).rep f2.hr r2) r4 (hb' _ _ _ _ h4) fun d S' w H' q1 f5 r5 => ?_
    obtain ⟨⟨k, e⟩, k2, e2, q1⟩ := q1
    subst e
    simp only [Rep] at r5
    simp [truB] at e2
    subst e2
    exact ⟨k, r5, q _ S' H' q1 ((f123.trans f4).trans f5)⟩
  | false =>
    obtain ⟨k2, e2, h3⟩ := h3
    simp [truB] at e2
    subst e2
    exact ⟨false, rfl, q _ S3 H3 h3 f123⟩
theorem sound_bi (G : Good T X c) {b : BI} {x : Str} {e : Expr} {es : List Expr} {ta : DA} {p pos : Pos} (hx : Str.ofString b.name = x) (hg : c.glb x = true) (hn : notDbg x = true) (ha : DAr X (e :: es) ta)
    (hs : starEach (e :: es) X.env = (false, eval e X.env) :: starEach es X.env) (hpl : (backTo pos (starEach es X.env)).any (·.1) = false) : DE X (.Call (.Name x p) (e :: es) [] pos) (sCall b.sem ta) := by
  obtain ⟨h1, _, h2⟩ := notDbg_ok hn
  have hg' := G.glb hg
  have hc := G.calm
  subst hx
  cases b with
  | isi => exact de_callB call_isiAll d_isi hg' (G.blt _ (by decide)) (by decide +kernel) h2 h1 ha hs hpl
  | len => exact de_callB call_lenAll d_len hg' (G.blt _ (by decide)) (by decide +kernel) h2 h1 ha hs hpl
  | all => exact de_callB (cr_all hc) d_all hg' (G.blt _ (by decide)) (by decide +kernel) h2 h1 ha hs hpl
  | any => exact de_callB (cr_any hc) d_any hg' (G.blt _ (by decide)) (by decide +kernel) h2 h1 ha hs hpl
  | tup => exact de_callTy call_tuple_of d_tuple hg' (G.blt _ (by decide)) (by decide +kernel) h2 h1 ha hs hpl
  | lst n => exact de_callTy (L2.CallR.or call_list_of (call_listDic hc)) d_list hg' (G.blt _ (by show "list" ∈ bltN; decide)) (by show bootBuiltins (Str.ofString "list") = _; decide +kernel) h2 h1 ha hs hpl
  | min2 => exact de_callB (call_min2 hc) d_min2 hg' (G.blt _ (by decide)) (by decide +kernel) h2 h1 ha hs hpl
  | max2 => exact de_callB (call_max2 hc) d_max2 hg' (G.blt _ (by decide)) (by decide +kernel) h2 h1 ha hs hpl
  | int => exact de_callTy call_int1 d_int hg' (G.blt _ (by decide)) (by decide +kernel) h2 h1 ha hs hpl
  | bool => exact de_callTy call_bool1 d_bool hg' (G.blt _ (by decide)) (by decide +kernel) h2 h1 ha hs hpl
  | min1 => exact de_callB (cr_min hc) d_min1 hg' (G.blt _ (by decide)) (by decide +kernel) h2 h1 ha hs hpl
  | max1 => exact de_callB (cr_max hc) d_max1 hg' (G.blt _ (by decide)) (by decide +kernel) h2 h1 ha hs hpl
  | sum => exact de_callB (cr_sum hc) d_sum hg' (G.blt _ (by decide)) (by decide +kernel) h2 h1 ha hs hpl
  | srt => exact de_callB cr_sorted d_sortI hg' (G.blt _ (by decide)) (by decide +kernel) h2 h1 ha hs hpl
  | srtD => exact de_callB (call_sortD G.hu) d_sortD hg' (G.blt _ (by decide)) (by decide +kernel) h2 h1 ha hs hpl
theorem sound_ty (G : Good T X c) {n : String} {x : Str} {p : Pos} (hx : Str.ofString n = x) (hg : c.glb x = true) (ht : tyOk n = true) (hn : notDbg x = true) : DE X (.Name x p) (sC (.ty n)) := by
  obtain ⟨h1, _, h2⟩ := notDbg_ok hn
  subst hx
  have hn' : n = "int" ∨ n = "bool" ∨ n = "str" ∨ n = "list" ∨ n = "tuple" := by
    unfold tyOk at ht
    simp only [Bool.or_eq_true, beq_iff_eq] at ht
    rcases ht with (((z | z) | z) | z) | z <;> simp [z]
  have hb : n ∈ bltN ∧ bootBuiltins (Str.ofString n) = some (.type n) := by
    rcases hn' with z | z | z | z | z <;> rw [z] <;> exact ⟨by decide, by decide +kernel⟩
  exact de_c (pe_bltn (v := .ty n) (u := .type n) (G.glb hg) (G.blt _ hb.1) hb.2 rfl h2 h1) fun _ _ => by simp [Rep]
/-- o.append(e) -/
theorem de_app {o e : Expr} {ta tb : DT} {ap p : Pos} (ho : DE X o ta) (he : DE X e tb) (hb : attributeBase o (Str.ofString "append") X.env (eval o X.env) = eval o X.env) (hl : (ap.endLine == p.line) = true) (hpe : plainE e = true) :
    DE X (.Call (.Attribute o (Str.ofString "append") ap) [e] [] p) (sAppL ta tb) := by
  have hs := star_of hpe [] X.env
  refine (pe_bm PySem.F.plainAttrs_list PySem.F.slot_list_append PySem.F.type_list_append mt_append ho (da_cons he da_nil hs) hb ?_ hl hs rfl).imp fun σ H Q ⟨δ, S, Qd, hr, lr, h, q⟩ => ⟨δ, S, _, hr, lr, h, fun d S1 v H1 ⟨⟨a, ds, e1, e2⟩, h1⟩ f1 r1 => ⟨?_, δ, S1, fun es S2 => ∃ y, es = [y] ∧ mApp d [y] S2 Qd, f1.hr, lr.fut hr f1, ?_, fun es S2 vs H2 ⟨y, ey, h2⟩ f2 r2 => ?_⟩⟩
  · rw [hs]; rfl
  · subst e1
    simp only [Rep] at r1; subst r1
    obtain ⟨xs, hx, _⟩ := f1.hr a _ e2
    exact .inl ⟨rfl, xs, .inl (.inl hx)⟩
  · show tb δ S1 fun y S2 => ∃ y', [y] = [y'] ∧ mApp d [y'] S2 Qd
    have : (fun y S2 => ∃ y', [y] = [y'] ∧ mApp d [y'] S2 Qd) = fun y S2 => mApp d [y] S2 Qd := by
      funext y S2
      refine propext ⟨fun ⟨y', e, h⟩ => ?_, fun h => ⟨y, rfl, h⟩⟩
      cases e; exact h
    rw [this]; exact h1
  · subst ey
    exact d_app H2 S2 d [y] v vs Qd Q f2.hr (f2.rep f1.hr r1) r2 h2 fun d' S' w H' q1 f3 r3 => q d' S' w H' q1 ((f1.trans f2).trans f3) r3
end
end Lf
set_option Elab.async false
set_option linter.all false
set_option maxRecDepth 100000
set_option maxHeartbeats 2000000
namespace Lf
open PySem PySem.Spec PyProof.Rows L2

def isWalk : Ex → Bool
  | .rng1 _ => true | .rng2 _ _ => true | .enm _ => true | .zip _ _ => true | .rngd _ _ _ => true
  | _ => false
theorem chk_w {c : Cs} {w : Nat} {x : Ex} {e : Expr} (h : isWalk x = false) : chk c w x e = chk c 0 x e := by
  cases x <;> first
    | rfl
    | cases h
theorem semI_of {x : Ex} (h : isWalk x = false) : semI x = sItr (sem x) := by
  cases x <;> first
    | rfl
    | cases h
theorem tst_of {e : Expr} (h : plainE e = true) (h1 : ∀ x p, e ≠ .UnaryOp .Not x p) (h2 : ∀ o v p, e ≠ .BoolOp o v p) (h3 : ∀ a b d p, e ≠ .IfExp a b d p) (h4 : ∀ a b d p, e ≠ .Compare a b d p) (env : Env) (whole : Sem Value) :
    isTrue e env whole = (do let v ← whole; standAt e.pos; holding [v] (truthy v)) := by
  cases e with
  | UnaryOp o x p => cases o <;> first | rfl | exact absurd rfl (h1 x p)
  | BoolOp o v p => exact absurd rfl (h2 o v p)
  | IfExp a b d p => exact absurd rfl (h3 a b d p)
  | Compare a b d p => exact absurd rfl (h4 a b d p)
  | _ => rfl
def noP (x : Ex) : Option Expr → Bool
  | none => isNo x
  | some _ => !isNo x
theorem dp_of {X : Cx} {x : Ex} {l : Option Expr} (hn : noP x l = true) (h : ∀ e, l = some e → DE X e (sem x)) : DPo X l (pOf x (sem x)) := by
  cases l with
  | none => cases x <;> first | exact dp_none | cases hn
  | some e =>
    have := h e rfl
    cases x <;> first | exact dp_some this | cases hn
theorem cOf_of {x : Ex} (h : isNo x = false) : cOf x (sem x) = sTru (sem x) := by
  cases x <;> first
    | rfl
    | cases h
theorem ownS_ix (own : List (String × Nat)) : (ownS own).map (·.2) = own.map (·.2) := by
  unfold ownS
  rw [List.map_map]
  rfl
def isTstK : Ex → Bool
  | .not _ => true | .cmp _ _ _ => true | .chn _ _ _ _ _ => true | .and _ _ => true | .or _ _ => true | .ite _ _ _ => true
  | _ => false
theorem tst_rest {X : Cx} {c : Cs} {w : Nat} {x : Ex} {e : Expr} (hE : DE X e (sem x)) (hp : plainE e = true) (hk : isTstK x = false) (h : chk c w x e = true) : DTst X e (sTru (sem x)) ∧ (∀ op vs p, e = .BoolOp op vs p → DWst X e (sTru (sem x))) := by
  have h2 : ∀ o v p, e ≠ .BoolOp o v p := fun o v p z => by
    subst z
    cases x <;> first
      | (simp [chk] at h; done)
      | cases hk
  refine ⟨dt_tru hE (tst_of hp (fun y p z => ?_) h2 (fun _ _ _ _ z => ?_) (fun _ _ _ _ z => ?_) _), fun op vs p z => absurd z (h2 _ _ _)⟩
  · subst z
    cases x <;> first
      | (simp [chk] at h; done)
      | cases hk
  · subst z
    cases x <;> first
      | (simp [chk] at h; done)
      | cases hk
  · subst z
    cases x <;> first
      | (simp [chk] at h; done)
      | cases hk
theorem PTs_yes {X : Cx} : PTs X [] (upB (kw X) sYes) := ⟨fun pins s σ H Q I ⟨δ, S, Qd, hr, lr, h, q⟩ => pts_nil.run pins s σ H Q I (q true S H h (Fut.refl hr))⟩
mutual
theorem soundE (T : Tb) : ∀ (x : Ex) (X : Cx) (c : Cs) (e : Expr), Good T X c → uses T x → chk c 0 x e = true → DE X e (sem x)
  | .no, X, c, e, G, u, h => by simp [chk] at h
  | .var i, X, c, e, G, u, h => by
    cases e with
    | Name x p =>
      simp only [chk, Bool.and_eq_true, decide_eq_true_eq] at h
      obtain ⟨⟨h1, h2⟩, h3⟩ := h
      obtain ⟨k1, k2, _⟩ := notDbg_ok h3
      exact de_var (pe_var (by rw [G.N]; exact h1) (G.vis h2) k1 k2)
    | _ => simp [chk] at h
  | .int i, X, c, e, G, u, h => by
    cases e with
    | Constant v k p =>
      cases v with
      | int j =>
        simp only [chk, decide_eq_true_eq] at h
        subst h
        exact de_c pe_int fun _ _ => by simp [Rep]
      | _ => simp [chk] at h
    | _ => simp [chk] at h
  | .str s, X, c, e, G, u, h => by
    cases e with
    | Constant v k p =>
      cases v with
      | str j =>
        simp only [chk, decide_eq_true_eq] at h
        subst h
        exact de_c pe_str fun _ _ => by simp [Rep]
      | _ => simp [chk] at h
    | _ => simp [chk] at h
  | .bl b, X, c, e, G, u, h => by
    cases e with
    | Constant v k p =>
      cases v with
      | bool j =>
        simp only [chk, decide_eq_true_eq] at h
        subst h
        exact de_c pe_bl fun _ _ => by simp [Rep]
      | _ => simp [chk] at h
    | _ => simp [chk] at h
  | .non, X, c, e, G, u, h => by
    cases e with
    | Constant v k p =>
      cases v with
      | none => exact de_c pe_non fun _ _ => by simp [Rep]
      | _ => simp [chk] at h
    | _ => simp [chk] at h
  | .gl n d, X, c, e, G, u, h => by
    cases e with
    | Name x p =>
      simp only [chk, Bool.and_eq_true, decide_eq_true_eq] at h
      obtain ⟨⟨h1, h2⟩, h3⟩ := h
      obtain ⟨k1, _, _⟩ := notDbg_ok h3
      subst h1
      obtain ⟨w, v, hm, r, hr⟩ := G.gls n d (by simpa [uses] using u)
      exact de_c (pe_glob (G.glb h2) hm r k1) hr
    | _ => simp [chk] at h
  | .ty n, X, c, e, G, u, h => by
    cases e with
    | Name x p =>
      simp only [chk, Bool.and_eq_true, decide_eq_true_eq] at h
      exact sound_ty G h.1.1.1 h.1.1.2 h.1.2 h.2
    | _ => simp [chk] at h
  | .tup es, X, c, e, G, u, h => by
    cases e with
    | Tuple xs k p => exact de_tup (soundEs T es X c xs G (by simpa [uses] using u) (by simpa [chk] using h))
    | _ => simp [chk] at h
  | .lst new es, X, c, e, G, u, h => by
    cases e with
    | List xs p =>
      have := soundEs T es X c xs G (by simpa [uses] using u) (by simpa [chk] using h)
      cases new with
      | true => exact de_lstN this
      | false => exact de_lst this
    | _ => simp [chk] at h
  | .bin o a b, X, c, e, G, u, h => by
    cases e with
    | BinOp x op y p =>
      simp only [chk, Bool.and_eq_true, decide_eq_true_eq] at h
      simp only [uses] at u
      exact sound_bin h.1.1 (soundE T a X c x G u.1 h.1.2) (soundE T b X c y G u.2 h.2)
    | _ => simp [chk] at h
  | .neg a, X, c, e, G, u, h => by
    cases e with
    | UnaryOp op x p =>
      cases op with
      | USub => exact de_neg (soundE T a X c x G (by simpa [uses] using u) (by simpa [chk] using h))
      | _ => simp [chk] at h
    | _ => simp [chk] at h
  | .not a, X, c, e, G, u, h => by
    cases e with
    | UnaryOp op x p =>
      cases op with
      | Not =>
        simp only [chk, Bool.and_eq_true] at h
        exact de_not (soundE T a X c x G (by simpa [uses] using u) h.1)
      | _ => simp [chk] at h
    | _ => simp [chk] at h
  | .cmp o a b, X, c, e, G, u, h => by
    cases e with
    | Compare x ops ys p =>
      match ops, ys, h with
      | [op], [y], h =>
        simp only [chk, Bool.and_eq_true, decide_eq_true_eq] at h
        simp only [uses] at u
        obtain ⟨⟨h1, h2⟩, h3⟩ := h
        subst h1
        obtain ⟨r, hr, hd⟩ := opc_rule G o
        exact de_cmp hr hd (soundE T a X c x G u.1 h2) (soundE T b X c y G u.2 h3) (marks_of (chk_plain h3) _)
      | [], _, h => simp [chk] at h
      | [_], [], h => simp [chk] at h
      | [_], _ :: _ :: _, h => simp [chk] at h
      | _ :: _ :: _, _, h => simp [chk] at h
    | _ => simp [chk] at h
  | .chn o o' a b d, X, c, e, G, u, h => by
    cases e with
    | Compare x ops ys p =>
      match ops, ys, h with
      | [op, op'], [y, z], h =>
        simp only [chk, Bool.and_eq_true, decide_eq_true_eq] at h
        simp only [uses] at u
        obtain ⟨⟨⟨⟨h1, h2⟩, h3⟩, h4⟩, h5⟩ := h
        subst h1 h2
        obtain ⟨r, hr, hd⟩ := opc_rule G o
        obtain ⟨r', hr', hd'⟩ := opc_rule G o'
        exact (pe_chain hr hr' (soundE T a X c x G u.1 h3) (soundE T b X c y G u.2.1 h4) (soundE T d X c z G u.2.2 h5) (marks2_of (chk_plain h4) (chk_plain h5) _ _)).imp fun σ H Q hq => up_chain hd hd' hq
      | [], _, h => simp [chk] at h
      | [_], _, h => simp [chk] at h
      | [_, _], [], h => simp [chk] at h
      | [_, _], [_], h => simp [chk] at h
      | [_, _], _ :: _ :: _ :: _, h => simp [chk] at h
      | _ :: _ :: _ :: _, _, h => simp [chk] at h
    | _ => simp [chk] at h
  | .and a b, X, c, e, G, u, h => by
    cases e with
    | BoolOp op vs p =>
      match op, vs, h with
      | .And, x :: y :: [], h =>
        simp only [chk, Bool.and_eq_true] at h
        simp only [uses] at u
        exact de_and (soundE T a X c x G u.1 h.1.1.1) (pe_one (soundE T b X c y G u.2 h.2))
      | .And, x :: y :: z :: r, h =>
        simp only [chk, Bool.and_eq_true] at h
        simp only [uses] at u
        exact de_and (soundE T a X c x G u.1 h.1.1.1) (soundE T b X c _ G u.2 h.2)
      | .And, [], h => simp [chk] at h
      | .And, [_], h => simp [chk] at h
      | .Or, _, h => simp [chk] at h
    | _ => simp [chk] at h
  | .or a b, X, c, e, G, u, h => by
    cases e with
    | BoolOp op vs p =>
      match op, vs, h with
      | .Or, x :: y :: [], h =>
        simp only [chk, Bool.and_eq_true] at h
        simp only [uses] at u
        exact de_or (soundE T a X c x G u.1 h.1.1.1) (pe_one (soundE T b X c y G u.2 h.2))
      | .Or, x :: y :: z :: r, h =>
        simp only [chk, Bool.and_eq_true] at h
        simp only [uses] at u
        exact de_or (soundE T a X c x G u.1 h.1.1.1) (soundE T b X c _ G u.2 h.2)
      | .Or, [], h => simp [chk] at h
      | .Or, [_], h => simp [chk] at h
      | .And, _, h => simp [chk] at h
    | _ => simp [chk] at h
  | .ite t a b, X, c, e, G, u, h => by
    cases e with
    | IfExp x y z p =>
      simp only [chk, Bool.and_eq_true] at h
      simp only [uses] at u
      exact de_ite (soundT T t X c x G u.1 h.1.1.1 h.1.1.2).1 (soundE T a X c y G u.2.1 h.1.2) (soundE T b X c z G u.2.2 h.2)
    | _ => simp [chk] at h
  | .ix a i, X, c, e, G, u, h => by
    cases e with
    | Subscript x y p =>
      simp only [chk, Bool.and_eq_true] at h
      simp only [uses] at u
      exact de_ix (ix_all G.hu) d_ix (soundE T a X c x G u.1 h.1) (soundE T i X c y G u.2 h.2) (ix_of (chk_plain h.2))
    | _ => simp [chk] at h
  | .sl a lo hi, X, c, e, G, u, h => by
    cases e with
    | Subscript x s p =>
      cases s with
      | Slice l r st p2 =>
        cases st with
        | none =>
          simp only [chk, Bool.and_eq_true] at h
          simp only [uses] at u
          have hl : noP lo l = true := by
            have := h.1.2
            cases l with
            | none => exact this
            | some e => simp only [Bool.and_eq_true] at this; exact this.1
          have hr : noP hi r = true := by
            have := h.2
            cases r with
            | none => exact this
            | some e => simp only [Bool.and_eq_true] at this; exact this.1
          refine de_sliceA (soundE T a X c x G u.1 h.1.1) (dp_of hl fun e he => ?_) (dp_of hr fun e he => ?_)
          · have := h.1.2
            rw [he] at this
            simp only [Bool.and_eq_true] at this
            exact soundE T lo X c e G u.2.1 this.2
          · have := h.2
            rw [he] at this
            simp only [Bool.and_eq_true] at this
            exact soundE T hi X c e G u.2.2 this.2
        | some _ => simp [chk] at h
      | _ => simp [chk] at h
    | _ => simp [chk] at h
  | .call f sp args, X, c, e, G, u, h => by
    cases e with
    | Call g xs ks p =>
      match g, ks, h with
      | .Name g pg, [], h =>
        simp only [chk, Bool.and_eq_true, decide_eq_true_eq] at h
        simp only [uses] at u
        obtain ⟨⟨⟨h1, h2⟩, h3⟩, h4⟩ := h
        obtain ⟨k1, _, _⟩ := notDbg_ok h3
        subst h1
        obtain ⟨j, ad, fd, ps, F, hr, hm, hk, hb⟩ := G.fns f sp u.1
        have hA := soundEs T args X c xs G u.2 h4
        cases args with
        | nil =>
          simp only [chks, List.isEmpty_iff] at h4
          subst h4
          exact de_call0 F hr (G.glb h2) hm hk hb pass0 k1
        | cons a as =>
          cases xs with
          | nil => simp [chks] at h4
          | cons x xs =>
            have h4' : chk c 0 a x = true ∧ chks c as xs = true := by simpa [chks] using h4
            exact de_call F hr (G.glb h2) hm hk hb pass0 hA k1 (star_of (chk_plain h4'.1) _ _) (chks_star as xs _ _ h4'.2)
      | .Name _ _, _ :: _, h => simp [chk] at h
      | .BoolOp .., _, h => simp [chk] at h
      | .NamedExpr .., _, h => simp [chk] at h
      | .BinOp .., _, h => simp [chk] at h
      | .UnaryOp .., _, h => simp [chk] at h
      | .Lambda .., _, h => simp [chk] at h
      | .IfExp .., _, h => simp [chk] at h
      | .Dict .., _, h => simp [chk] at h
      | .Set .., _, h => simp [chk] at h
      | .ListComp .., _, h => simp [chk] at h
      | .SetComp .., _, h => simp [chk] at h
      | .DictComp .., _, h => simp [chk] at h
      | .GeneratorExp .., _, h => simp [chk] at h
      | .Await .., _, h => simp [chk] at h
      | .Yield .., _, h => simp [chk] at h
      | .YieldFrom .., _, h => simp [chk] at h
      | .Compare .., _, h => simp [chk] at h
      | .Call .., _, h => simp [chk] at h
      | .FormattedValue .., _, h => simp [chk] at h
      | .JoinedStr .., _, h => simp [chk] at h
      | .Constant .., _, h => simp [chk] at h
      | .Attribute .., _, h => simp [chk] at h
      | .Subscript .., _, h => simp [chk] at h
      | .Starred .., _, h => simp [chk] at h
      | .List .., _, h => simp [chk] at h
      | .Tuple .., _, h => simp [chk] at h
      | .Slice .., _, h => simp [chk] at h
    | _ => simp [chk] at h
  | .bi b args, X, c, e, G, u, h => by
    cases e with
    | Call g xs ks p =>
      cases g with
      | Name g pg =>
        cases ks with
        | nil =>
          simp only [chk, Bool.and_eq_true, decide_eq_true_eq] at h
          simp only [uses] at u
          obtain ⟨⟨⟨⟨h1, h2⟩, h3⟩, h4⟩, h5⟩ := h
          have hA := soundEs T args X c xs G u h4
          cases args with
          | nil => simp at h5
          | cons a as =>
            cases xs with
            | nil => simp [chks] at h4
            | cons x xs =>
              have h4' : chk c 0 a x = true ∧ chks c as xs = true := by simpa [chks] using h4
              exact sound_bi G h1 h2 h3 hA (star_of (chk_plain h4'.1) _ _) (chks_star as xs _ _ h4'.2)
        | cons _ _ => simp [chk] at h
      | _ => simp [chk] at h
    | _ => simp [chk] at h
  | .app o a, X, c, e, G, u, h => by
    cases e with
    | Call g xs ks p =>
      cases g with
      | Attribute x f ap =>
        match xs, ks, h with
        | [y], [], h =>
          simp only [chk, Bool.and_eq_true, decide_eq_true_eq] at h
          simp only [uses] at u
          obtain ⟨⟨⟨⟨h1, h2⟩, h3⟩, h4⟩, h5⟩ := h
          subst h1
          refine de_app (soundE T o X c x G u.1 h4) (soundE T a X c y G u.2 h5) ?_ (by simpa using h3) (chk_plain h5)
          cases x with
          | Name _ _ => rfl
          | Subscript _ _ _ => rfl
          | Attribute _ _ _ => rfl
          | _ => cases h2
        | [], _, h => simp [chk] at h
        | _ :: _ :: _, _, h => simp [chk] at h
        | [_], _ :: _, h => simp [chk] at h
      | _ => simp [chk] at h
    | _ => simp [chk] at h
  | .lc new elt tg src cond own, X, c, e, G, u, h => by
    cases e with
    | ListComp x gens scope p =>
      match gens, h with
      | [⟨t, it, ifs, 0⟩], h =>
        simp only [chk, Bool.and_eq_true] at h
        simp only [uses] at u
        obtain ⟨⟨⟨⟨⟨h1, h2⟩, h3⟩, h4⟩, h5⟩, h6⟩ := h
        have hv : ∀ i ∈ tgIx tg, i ∈ (ownS own).map (·.2) := fun i hi => by
          rw [ownS_ix]
          have := List.all_eq_true.mp h5 i hi
          simpa using this
        have Gb := fun s H C cl fp => G.blk scope s H C cl fp
        have main := de_lc (new := new) (pos := p) (elt := x) (tg := t) (iter := it) (ifs := ifs) (scope := scope) (own := ownS own) (g := tg) (ti := semI src) (tt := cOf cond (sem cond)) (te := sem elt) hv G.calm (by rw [G.N]; exact G.nd)
          (soundI T src (if isTupT t then 2 else 1) X c it t G u.2.1 h2 (fun hw => by
            by_cases ht : isTupT t = true
            · cases t <;> first | exact ⟨_, _, _, rfl⟩ | cases ht
            · rw [if_neg ht] at hw; omega))
          (blkOk_by (by rw [G.N, G.sc]; exact h4)) (fun s H C cl fp => soundTg (Gb s H C cl fp) tg t h1)
          (fun s H C cl fp => by
            match ifs, h6 with
            | [], h6 =>
              cases cond <;> first
                | exact PTs_yes
                | cases h6
            | [y], h6 =>
              simp only [Bool.and_eq_true, Bool.not_eq_true'] at h6
              rw [cOf_of h6.1.1]
              exact pts_one (soundT T cond _ _ y (Gb s H C cl fp) u.2.2 h6.2 h6.1.2).1
            | _ :: _ :: _, h6 => cases h6)
          (fun s H C cl fp => soundE T elt _ _ x (Gb s H C cl fp) u.1 h3) (fun x => fold_of (chk_plain h2) _ x)
        rw [ownS_ix] at main
        exact main
      | [], h => simp [chk] at h
      | _ :: _ :: _, h => simp [chk] at h
      | [⟨t, it, ifs, .ofNat (n + 1)⟩], h => exact Bool.noConfusion (show false = true from h)
      | [⟨t, it, ifs, .negSucc n⟩], h => exact Bool.noConfusion (show false = true from h)
    | _ => simp [chk] at h
  | .rng1 a, X, c, e, G, u, h => by
    cases e with
    | Call g xs ks p => cases g <;> cases ks <;> (try cases xs with | nil => simp [chk] at h | cons y ys => cases ys <;> simp [chk] at h) <;> simp [chk] at h
    | _ => simp [chk] at h
  | .rng2 a b, X, c, e, G, u, h => by
    exfalso
    unfold chk at h
    split at h <;> simp at h
  | .enm a, X, c, e, G, u, h => by
    exfalso
    unfold chk at h
    split at h <;> simp at h
  | .zip a b, X, c, e, G, u, h => by
    exfalso
    unfold chk at h
    split at h <;> simp at h
  | .sset a, X, c, e, G, u, h => by
    unfold chk at h
    split at h
    · rename_i g pg g2 pg2 x p2 p
      simp only [Bool.and_eq_true, decide_eq_true_eq] at h
      obtain ⟨⟨⟨⟨h1, h2⟩, h3⟩, h4⟩, h5⟩ := h
      subst h1 h3
      exact de_sortSet G.calm (G.glb h2) (G.blt _ (by decide)) (G.glb h4) (G.blt _ (by decide)) (soundE T a X c x G (by simpa [uses] using u) h5) (star_of (chk_plain h5) [] X.env)
    · cases h
  | .rgc1 t b, X, c, e, G, u, h => by
    unfold chk at h
    split at h
    · rename_i g pg g2 pg2 x p2 p
      simp only [Bool.and_eq_true, decide_eq_true_eq] at h
      obtain ⟨⟨⟨⟨h1, h2⟩, h3⟩, h4⟩, h5⟩ := h
      subst h3
      have hm : X.mg g = none := by rw [← h1]; cases t <;> exact G.blt _ (by decide)
      exact de_rg1 h1 G.calm (G.glb h2) hm (G.glb h4) (G.blt _ (by decide)) (soundE T b X c x G (by simpa [uses] using u) h5) (star_of (chk_plain h5) [] X.env)
    · cases h
  | .rgc2 t a b, X, c, e, G, u, h => by
    unfold chk at h
    split at h
    · rename_i g pg g2 pg2 x y p2 p
      simp only [Bool.and_eq_true, decide_eq_true_eq] at h
      simp only [uses] at u
      obtain ⟨⟨⟨⟨⟨h1, h2⟩, h3⟩, h4⟩, h5⟩, h6⟩ := h
      subst h3
      have hm : X.mg g = none := by rw [← h1]; cases t <;> exact G.blt _ (by decide)
      have hs2 := star_of (chk_plain h6) [] X.env
      have hs := star_of (chk_plain h5) [y] X.env
      exact de_rg2 h1 G.calm (G.glb h2) hm (G.glb h4) (G.blt _ (by decide)) (soundE T a X c x G u.1 h5) (soundE T b X c y G u.2 h6) hs hs2 (by rw [hs2]; rfl)
    · cases h
  | .dct0, X, c, e, G, u, h => by
    unfold chk at h
    split at h
    · exact de_dct0
    · cases h
  | .dct1 k v, X, c, e, G, u, h => by
    unfold chk at h
    split at h
    · rename_i x y p
      simp only [Bool.and_eq_true] at h
      simp only [uses] at u
      exact de_dct1 G.hu (soundE T k X c x G u.1 h.1) (soundE T v X c y G u.2 h.2)
    · cases h
  | .get1 o a, X, c, e, G, u, h => by
    unfold chk at h
    split at h
    · rename_i x f ap y p
      simp only [Bool.and_eq_true, decide_eq_true_eq] at h
      simp only [uses] at u
      obtain ⟨⟨⟨⟨h1, h2⟩, h3⟩, h4⟩, h5⟩ := h
      subst h1
      have hs := star_of (chk_plain h5) [] X.env
      exact de_get1 G.hu (soundE T o X c x G u.1 h4) (soundE T a X c y G u.2 h5) ⟨okBase_ok h2 _ _ _, by rw [hs]; rfl, by simpa using h3, by rw [hs]; rfl⟩
    · cases h
  | .get2 o a b, X, c, e, G, u, h => by
    unfold chk at h
    split at h
    · rename_i x f ap y z p
      simp only [Bool.and_eq_true, decide_eq_true_eq] at h
      simp only [uses] at u
      obtain ⟨⟨⟨⟨⟨h1, h2⟩, h3⟩, h4⟩, h5⟩, h6⟩ := h
      subst h1
      have hs2 := star_of (chk_plain h6) [] X.env
      have hs := star_of (chk_plain h5) [z] X.env
      exact de_get2 G.hu (soundE T o X c x G u.1 h4) (soundE T a X c y G u.2.1 h5) (soundE T b X c z G u.2.2 h6) ⟨okBase_ok h2 _ _ _, by rw [hs, hs2]; rfl, by simpa using h3, by rw [hs, hs2]; rfl⟩
    · cases h
  | .rngd a b d, X, c, e, G, u, h => by
    exfalso
    unfold chk at h
    split at h <;> simp at h
termination_by x => (sizeOf x, 0)
theorem soundEs (T : Tb) : ∀ (as : List Ex) (X : Cx) (c : Cs) (xs : List Expr), Good T X c → usess T as → chks c as xs = true → DAr X xs (sems as)
  | [], X, c, xs, G, u, h => by
    simp only [chks, List.isEmpty_iff] at h
    subst h
    exact da_nil
  | a :: as, X, c, xs, G, u, h => by
    cases xs with
    | nil => simp [chks] at h
    | cons x xs =>
      have h' : chk c 0 a x = true ∧ chks c as xs = true := by simpa [chks] using h
      simp only [usess] at u
      exact da_cons (soundE T a X c x G u.1 h'.1) (soundEs T as X c xs G u.2 h'.2) (star_of (chk_plain h'.1) _ _)
termination_by as => (sizeOf as, 0)
theorem soundT (T : Tb) : ∀ (x : Ex) (X : Cx) (c : Cs) (e : Expr), Good T X c → uses T x → chk c 0 x e = true → noIte x = true → DTst X e (sTru (sem x)) ∧ (∀ op vs p, e = .BoolOp op vs p → DWst X e (sTru (sem x)))
  | .not a, X, c, e, G, u, h, hn => by
    cases e with
    | UnaryOp op x p =>
      cases op with
      | Not =>
        simp only [chk, Bool.and_eq_true] at h
        exact ⟨dt_not (soundT T a X c x G (by simpa [uses] using u) h.1 h.2).1, fun _ _ _ z => nomatch z⟩
      | _ => simp [chk] at h
    | _ => simp [chk] at h
  | .cmp o a b, X, c, e, G, u, h, hn => by
    cases e with
    | Compare x ops ys p =>
      refine ⟨?_, fun _ _ _ z => nomatch z⟩
      match ops, ys, h with
      | [op], [y], h =>
        simp only [chk, Bool.and_eq_true, decide_eq_true_eq] at h
        simp only [uses] at u
        obtain ⟨⟨h1, h2⟩, h3⟩ := h
        subst h1
        obtain ⟨r, hr, hd⟩ := opc_rule G o
        exact dt_cmp hr hd (fun _ _ _ _ => opc_bl o) (soundE T a X c x G u.1 h2) (soundE T b X c y G u.2 h3) (marks_of (chk_plain h3) _)
      | [], _, h => simp [chk] at h
      | [_], [], h => simp [chk] at h
      | [_], _ :: _ :: _, h => simp [chk] at h
      | _ :: _ :: _, _, h => simp [chk] at h
    | _ => simp [chk] at h
  | .chn o o' a b d, X, c, e, G, u, h, hn => by
    cases e with
    | Compare x ops ys p =>
      refine ⟨?_, fun _ _ _ z => nomatch z⟩
      match ops, ys, h with
      | [op, op'], [y, z], h =>
        simp only [chk, Bool.and_eq_true, decide_eq_true_eq] at h
        simp only [uses] at u
        obtain ⟨⟨⟨⟨h1, h2⟩, h3⟩, h4⟩, h5⟩ := h
        subst h1 h2
        obtain ⟨r, hr, hd⟩ := opc_rule G o
        obtain ⟨r', hr', hd'⟩ := opc_rule G o'
        exact (pt_chain hr hr' (soundE T a X c x G u.1 h3) (soundE T b X c y G u.2.1 h4) (soundE T d X c z G u.2.2 h5) (marks2_of (chk_plain h4) (chk_plain h5) _ _)).imp fun σ H Q hq => tst_chain hd hd' (fun _ _ _ _ => opc_bl o') hq
      | [], _, h => simp [chk] at h
      | [_], _, h => simp [chk] at h
      | [_, _], [], h => simp [chk] at h
      | [_, _], [_], h => simp [chk] at h
      | [_, _], _ :: _ :: _ :: _, h => simp [chk] at h
      | _ :: _ :: _ :: _, _, h => simp [chk] at h
    | _ => simp [chk] at h
  | .and a b, X, c, e, G, u, h, hn => by
    cases e with
    | BoolOp op vs p =>
      have main : DWst X (.BoolOp op vs p) (sTru (sem (.and a b))) := by
        match op, vs, h with
        | .And, x :: y :: [], h =>
          simp only [chk, Bool.and_eq_true] at h
          simp only [uses] at u
          exact dw_and (soundT T a X c x G u.1 h.1.1.1 h.1.1.2).1 (pw_and1 (soundT T b X c y G u.2 h.2 h.1.2).1)
        | .And, x :: y :: z :: r, h =>
          simp only [chk, Bool.and_eq_true] at h
          simp only [uses] at u
          exact dw_and (soundT T a X c x G u.1 h.1.1.1 h.1.1.2).1 ((soundT T b X c _ G u.2 h.2 h.1.2).2 _ _ _ rfl)
        | .And, [], h => simp [chk] at h
        | .And, [_], h => simp [chk] at h
        | .Or, _, h => simp [chk] at h
      exact ⟨main.pt, fun _ _ _ _ => main⟩
    | _ => simp [chk] at h
  | .or a b, X, c, e, G, u, h, hn => by
    cases e with
    | BoolOp op vs p =>
      have main : DWst X (.BoolOp op vs p) (sTru (sem (.or a b))) := by
        match op, vs, h with
        | .Or, x :: y :: [], h =>
          simp only [chk, Bool.and_eq_true] at h
          simp only [uses] at u
          exact dw_or (soundT T a X c x G u.1 h.1.1.1 h.1.1.2).1 (pw_or1 (soundT T b X c y G u.2 h.2 h.1.2).1)
        | .Or, x :: y :: z :: r, h =>
          simp only [chk, Bool.and_eq_true] at h
          simp only [uses] at u
          exact dw_or (soundT T a X c x G u.1 h.1.1.1 h.1.1.2).1 ((soundT T b X c _ G u.2 h.2 h.1.2).2 _ _ _ rfl)
        | .Or, [], h => simp [chk] at h
        | .Or, [_], h => simp [chk] at h
        | .And, _, h => simp [chk] at h
      exact ⟨main.pt, fun _ _ _ _ => main⟩
    | _ => simp [chk] at h
  | .ite _ _ _, X, c, e, G, u, h, hn => by cases hn
  | .no, X, c, e, G, u, h, hn => by simp [chk] at h
  | .var i, X, c, e, G, u, h, hn => tst_rest (soundE T _ X c e G u h) (chk_plain h) rfl h
  | .int i, X, c, e, G, u, h, hn => tst_rest (soundE T _ X c e G u h) (chk_plain h) rfl h
  | .str i, X, c, e, G, u, h, hn => tst_rest (soundE T _ X c e G u h) (chk_plain h) rfl h
  | .bl i, X, c, e, G, u, h, hn => tst_rest (soundE T _ X c e G u h) (chk_plain h) rfl h
  | .non, X, c, e, G, u, h, hn => tst_rest (soundE T _ X c e G u h) (chk_plain h) rfl h
  | .gl _ _, X, c, e, G, u, h, hn => tst_rest (soundE T _ X c e G u h) (chk_plain h) rfl h
  | .ty _, X, c, e, G, u, h, hn => tst_rest (soundE T _ X c e G u h) (chk_plain h) rfl h
  | .tup _, X, c, e, G, u, h, hn => tst_rest (soundE T _ X c e G u h) (chk_plain h) rfl h
  | .lst _ _, X, c, e, G, u, h, hn => tst_rest (soundE T _ X c e G u h) (chk_plain h) rfl h
  | .bin _ _ _, X, c, e, G, u, h, hn => tst_rest (soundE T _ X c e G u h) (chk_plain h) rfl h
  | .neg _, X, c, e, G, u, h, hn => tst_rest (soundE T _ X c e G u h) (chk_plain h) rfl h
  | .ix _ _, X, c, e, G, u, h, hn => tst_rest (soundE T _ X c e G u h) (chk_plain h) rfl h
  | .sl _ _ _, X, c, e, G, u, h, hn => tst_rest (soundE T _ X c e G u h) (chk_plain h) rfl h
  | .call _ _ _, X, c, e, G, u, h, hn => tst_rest (soundE T _ X c e G u h) (chk_plain h) rfl h
  | .bi _ _, X, c, e, G, u, h, hn => tst_rest (soundE T _ X c e G u h) (chk_plain h) rfl h
  | .app _ _, X, c, e, G, u, h, hn => tst_rest (soundE T _ X c e G u h) (chk_plain h) rfl h
  | .lc _ _ _ _ _ _, X, c, e, G, u, h, hn => tst_rest (soundE T _ X c e G u h) (chk_plain h) rfl h
  | .rng1 _, X, c, e, G, u, h, hn => tst_rest (soundE T _ X c e G u h) (chk_plain h) rfl h
  | .rng2 _ _, X, c, e, G, u, h, hn => tst_rest (soundE T _ X c e G u h) (chk_plain h) rfl h
  | .enm _, X, c, e, G, u, h, hn => tst_rest (soundE T _ X c e G u h) (chk_plain h) rfl h
  | .zip _ _, X, c, e, G, u, h, hn => tst_rest (soundE T _ X c e G u h) (chk_plain h) rfl h
  | .sset _, X, c, e, G, u, h, hn => tst_rest (soundE T _ X c e G u h) (chk_plain h) rfl h
  | .rgc1 _ _, X, c, e, G, u, h, hn => tst_rest (soundE T _ X c e G u h) (chk_plain h) rfl h
  | .rgc2 _ _ _, X, c, e, G, u, h, hn => tst_rest (soundE T _ X c e G u h) (chk_plain h) rfl h
  | .dct0, X, c, e, G, u, h, hn => tst_rest (soundE T _ X c e G u h) (chk_plain h) rfl h
  | .dct1 _ _, X, c, e, G, u, h, hn => tst_rest (soundE T _ X c e G u h) (chk_plain h) rfl h
  | .get1 _ _, X, c, e, G, u, h, hn => tst_rest (soundE T _ X c e G u h) (chk_plain h) rfl h
  | .get2 _ _ _, X, c, e, G, u, h, hn => tst_rest (soundE T _ X c e G u h) (chk_plain h) rfl h
  | .rngd _ _ _, X, c, e, G, u, h, hn => tst_rest (soundE T _ X c e G u h) (chk_plain h) rfl h
termination_by x => (sizeOf x, 1)
theorem soundI (T : Tb) : ∀ (x : Ex) (w : Nat) (X : Cx) (c : Cs) (e tg : Expr), Good T X c → uses T x → chk c w x e = true → (2 ≤ w → ∃ es k p, tg = .Tuple es k p) → DIt X tg e (semI x)
  | x, w, X, c, e, tg, G, u, h, hw => by
    by_cases hx : isWalk x = false
    · rw [chk_w hx] at h
      rw [semI_of hx]
      exact di_itr (soundE T x X c e G u h)
    · cases x with
      | rng1 a =>
        unfold chk at h
        split at h
        · rename_i g pg x pos
          simp only [Bool.and_eq_true, decide_eq_true_eq] at h
          obtain ⟨⟨⟨h1, h2⟩, h3⟩, h4⟩ := h
          subst h2
          have hs := star_of (chk_plain h4) [] X.env
          exact di_rng1 (G.glb h3) (G.blt _ (by decide)) (da_cons (soundE T a X c x G (by simpa [uses] using u) h4) da_nil hs) hs
        · cases h
      | rng2 a b =>
        unfold chk at h
        split at h
        · rename_i g pg x y pos
          simp only [Bool.and_eq_true, decide_eq_true_eq] at h
          obtain ⟨⟨⟨⟨h1, h2⟩, h3⟩, h4⟩, h5⟩ := h
          subst h2
          simp only [uses] at u
          have hs2 := star_of (chk_plain h5) [] X.env
          have hs := star_of (chk_plain h4) [y] X.env
          exact di_rng2 (G.glb h3) (G.blt _ (by decide)) (da_cons (soundE T a X c x G u.1 h4) (da_cons (soundE T b X c y G u.2 h5) da_nil hs2) hs) (by rw [hs, hs2]; rfl) hs2
        · cases h
      | rngd a b d =>
        unfold chk at h
        split at h
        · rename_i g pg x y z pos
          simp only [Bool.and_eq_true, decide_eq_true_eq] at h
          obtain ⟨⟨⟨⟨⟨h1, h2⟩, h3⟩, h4⟩, h5⟩, h6⟩ := h
          subst h2
          simp only [uses] at u
          have hs3 := star_of (chk_plain h6) [] X.env
          have hs2 := star_of (chk_plain h5) [z] X.env
          have hs := star_of (chk_plain h4) [y, z] X.env
          exact di_rngD (G.glb h3) (G.blt _ (by decide)) (da_cons (soundE T a X c x G u.1 h4) (da_cons (soundE T b X c y G u.2.1 h5) (da_cons (soundE T d X c z G u.2.2 h6) da_nil hs3) hs2) hs) hs (by rw [hs2, hs3]; rfl)
        · cases h
      | enm a =>
        unfold chk at h
        split at h
        · rename_i g pg x pos
          simp only [Bool.and_eq_true, decide_eq_true_eq] at h
          obtain ⟨⟨⟨h1, h2⟩, h3⟩, h4⟩ := h
          subst h2
          obtain ⟨es, k, p, rfl⟩ := hw h1
          exact di_enum (G.glb h3) (G.blt _ (by decide)) (soundE T a X c x G (by simpa [uses] using u) h4) (star_of (chk_plain h4) [] X.env)
        · cases h
      | zip a b =>
        unfold chk at h
        split at h
        · rename_i g pg x y pos
          simp only [Bool.and_eq_true, decide_eq_true_eq] at h
          obtain ⟨⟨⟨⟨h1, h2⟩, h3⟩, h4⟩, h5⟩ := h
          subst h2
          simp only [uses] at u
          obtain ⟨es, k, p, rfl⟩ := hw h1
          have hs2 := star_of (chk_plain h5) [] X.env
          have hs := star_of (chk_plain h4) [y] X.env
          exact di_zip (G.glb h3) (G.blt _ (by decide)) (da_cons (soundE T a X c x G u.1 h4) (da_cons (soundE T b X c y G u.2 h5) da_nil hs2) hs) hs (by rw [hs2]; rfl)
        · cases h
      | _ => exact absurd rfl hx
termination_by x => (sizeOf x, 1)
end
end Lf
set_option Elab.async false
set_option linter.all false
set_option maxRecDepth 100000
set_option maxHeartbeats 2000000
namespace Lf
open PySem PySem.Spec PyProof.Rows L2

/-! ### statements without places -/
inductive Sx where
  | set (g : Tg) (e : Ex)
  | par (i j : Nat) (a b : Ex)
  | par3 (i j l : Nat) (a b c : Ex)
  | setL (o i e : Ex)
  | exp (e : Ex)
  | ite (c : Ex) (a b : List Sx)
  | ret (e : Ex) | retN
  | whl (c : Ex) (b : List Sx)
  | forr (g : Tg) (s : Ex) (b : List Sx)
  | brk | cont | pass
  | nev
mutual
def semS : Sx → DS
  | .set g e => sSet g (sem e)
  | .par i j a b => sPar i j (sems [a, b])
  | .par3 i j l a b c => sPar3 i j l (sems [a, b, c])
  | .setL o i e => sSetL (sem o) (sem i) (sem e)
  | .exp e => sDrop (sem e)
  | .ite c a b => sIf (sem c) (semSs a) (semSs b)
  | .ret e => sRet (sem e)
  | .retN => sRetN
  | .whl c b => sWhile (sem c) (semSs b)
  | .forr g s b => sFor (semI s) g (semSs b)
  | .brk => sBrk
  | .cont => sCont
  | .pass => sNext
  | .nev => fun _ _ _ => False
def semSs : List Sx → DS
  | [] => sNext
  | s :: r => sSeq (semS s) (semSs r)
end
mutual
def usesS (T : Tb) : Sx → Prop
  | .set _ e => uses T e
  | .par _ _ a b => uses T a ∧ uses T b
  | .par3 _ _ _ a b c => uses T a ∧ uses T b ∧ uses T c
  | .setL o i e => uses T o ∧ uses T i ∧ uses T e
  | .exp e => uses T e
  | .ite c a b => uses T c ∧ usesSs T a ∧ usesSs T b
  | .ret e => uses T e
  | .whl c b => uses T c ∧ usesSs T b
  | .forr _ s b => uses T s ∧ usesSs T b
  | .retN => True
  | .brk => True
  | .cont => True
  | .pass => True
  | .nev => True
def usesSs (T : Tb) : List Sx → Prop
  | [] => True
  | s :: r => usesS T s ∧ usesSs T r
end
def isLc : Expr → Bool
  | .ListComp _ _ _ _ => true
  | .SetComp _ _ _ _ => true
  | .DictComp _ _ _ _ _ => true
  | _ => false
/-- the names of a tuple of plain local names on the line told -/
def locN (c : Cs) (ln : Nat) : List Expr → Option (List Str)
  | [] => some []
  | .Name x p :: es => if c.sc.names.lookup x = some .local ∧ p.line = ln then (locN c ln es).map (x :: ·) else none
  | _ => none
def noStar : Expr → Bool
  | .Starred _ _ => false
  | _ => true
/-- «a, b = x, y» stored from the right -/
def swapB (c : Cs) (ts vs : List Expr) (xs : List Str) : Bool :=
  (ts.length == 2 || ts.length == 3) && vs.length == ts.length && vs.all noStar && decide (locN c ((ts.head?.map (·.pos.line)).getD 0) ts = some xs) &&
    xs.eraseDups.length == xs.length && !(vs.all (foldedForSure 8)) && !(vs.all (constantsAlone 8))
/-- «a, b = x, y» by a tuple -/
def noSwapB (c : Cs) (ts vs : List Expr) : Bool :=
  !(ts.length == 2 || ts.length == 3) || vs.length != ts.length || vs.all (foldedForSure 8) ||
    (ts.filterMap fun | .Name id pos => if c.sc.names.lookup id == some .local && pos.line == (ts.head?.map (·.pos.line)).getD 0 then some id else none | _ => none).length != ts.length
mutual
def chkS (c : Cs) : Sx → Stmt → Bool
  | .set g e, s => match s with
    | .Assign [t] v p => chkTg c g t && chk c 0 e v && (match t, v with
        | .Tuple ts _ _, .Tuple vs _ _ => noSwapB c ts vs
        | _, _ => true)
    | _ => false
  | .par i j a b, s => match s with
    | .Assign [.Tuple [.Name x px, .Name y py] kt pt] (.Tuple [u, v] k2 p2) _ => decide (c.N[i]? = some x) && decide (c.N[j]? = some y) && decide (i ≠ j) && chk c 0 a u && chk c 0 b v && swapB c [.Name x px, .Name y py] [u, v] [x, y]
    | _ => false
  | .par3 i j l a b d, s => match s with
    | .Assign [.Tuple [.Name x px, .Name y py, .Name z pz] kt pt] (.Tuple [u, v, w] k2 p2) _ => decide (c.N[i]? = some x) && decide (c.N[j]? = some y) && decide (c.N[l]? = some z) && decide (i ≠ j) && decide (i ≠ l) && decide (j ≠ l) &&
        chk c 0 a u && chk c 0 b v && chk c 0 d w && swapB c [.Name x px, .Name y py, .Name z pz] [u, v, w] [x, y, z]
    | _ => false
  | .setL o i e, s => match s with
    | .Assign [.Subscript x y _] v _ => chk c 0 o x && chk c 0 i y && chk c 0 e v && !isLc v
    | _ => false
  | .exp e, s => match s with
    | .Expr v _ => chk c 0 e v && !isLc v
    | _ => false
  | .ite t a b, s => match s with
    | .If v x y _ => chk c 0 t v && noIte t && chkSs c a x && chkSs c b y
    | _ => false
  | .ret e, s => match s with
    | .Return (some v) _ => chk c 0 e v
    | _ => false
  | .retN, s => match s with
    | .Return none _ => true
    | _ => false
  | .whl t b, s => match s with
    | .While v x [] _ => chk c 0 t v && noIte t && chkSs c b x
    | _ => false
  | .forr g r b, s => match s with
    | .For t v x [] _ => chkTg c g t && chk c (if isTupT t then 2 else 1) r v && chkSs c b x
    | _ => false
  | .brk, s => match s with
    | .Break _ => true
    | _ => false
  | .cont, s => match s with
    | .Continue _ => true
    | _ => false
  | .pass, s => match s with
    | .Pass _ => true
    | _ => false
  | .nev, _ => true
def chkSs (c : Cs) : List Sx → List Stmt → Bool
  | [], ss => ss.isEmpty
  | a :: as, ss => match ss with
    | [] => false
    | s :: ss => chkS c a s && chkSs c as ss
end
section
variable {T : Tb} {X : Cx} {c : Cs}
theorem swapsWith_not {e : Expr} (h : isLc e = false) (t : Option Expr) (l : Nat) (env : Env) : swapsWith e t l env = pure false := by
  cases e <;> first
    | rfl
    | cases h
theorem swapsSole_tup {es : List Expr} {k : Nat} {p : Pos} (e : Expr) (l : Nat) (env : Env) : swapsWithSole [.Tuple es k p] e l env = pure false := by
  cases e <;> rfl
theorem assign_sub {x y : Expr} {px : Pos} (h : plainE y = true) (env : Env) : ∀ v, assign (.Subscript x y px) env v = (do
      let ov ← holding [v] (eval x env)
      let iv ← holding [v, ov] (eval y env)
      standAt px
      holding [v, ov, iv] (setItem ov iv v)
      release [v, ov, iv] []) := fun v => by
  cases y <;> first
    | rfl
    | cases h
theorem locN_ok {ln : Nat} {env : Env} (hs : env.scope = c.sc) : ∀ {ts : List Expr} {xs : List Str}, locN c ln ts = some xs →
    (ts.filterMap fun | .Name id pos => if env.kindOf id == some .local && pos.line == ln then some id else none | _ => none) = xs ∧ xs.length = ts.length ∧ ∀ x ∈ xs, c.sc.names.lookup x = some .local
  | [], xs, h => by simp [locN] at h; subst h; simp
  | t :: ts, xs, h => by
    cases t with
    | Name x p =>
      simp only [locN] at h
      split at h
      · rename_i hx
        cases e : locN c ln ts with
        | none => rw [e] at h; cases h
        | some ys =>
          rw [e] at h
          simp only [Option.map_some, Option.some.injEq] at h
          subst h
          obtain ⟨h1, h2, h3⟩ := locN_ok hs e
          have hk : env.kindOf x = some .local := by show env.scope.names.lookup x = _; rw [hs]; exact hx.1
          refine ⟨?_, by simp [h2], fun z hz => ?_⟩
          · rw [List.filterMap_cons]
            simp only [hk, hx.2, beq_self_eq_true, Bool.and_self, if_true]
            rw [h1]
          · rcases List.mem_cons.mp hz with q | q
            · rw [q]; exact hx.1
            · exact h3 z q
      · cases h
    | _ => simp [locN] at h
theorem noStar_any : ∀ {vs : List Expr}, vs.all noStar = true → (vs.any fun | .Starred .. => true | _ => false) = false
  | [], _ => rfl
  | v :: vs, h => by
    have h' : noStar v = true ∧ vs.all noStar = true := by simpa using h
    rw [List.any_cons, noStar_any h'.2]
    cases v <;> first
      | rfl
      | (simp [noStar] at h')
theorem swap_ok (G : Good T X c) (hk : c.sc.kind = .function) {ts vs : List Expr} {xs : List Str} (h : swapB c ts vs xs = true) {kt k2 : Nat} {pt p2 : Pos} : swappedStores [.Tuple ts kt pt] (.Tuple vs k2 p2) X.env = pure (some xs) ∧ ∀ x ∈ xs, c.sc.names.lookup x = some .local := by
  unfold swapB at h
  simp only [Bool.and_eq_true, decide_eq_true_eq, beq_iff_eq, Bool.not_eq_true'] at h
  obtain ⟨⟨⟨⟨⟨⟨h1, h2⟩, h3⟩, h4⟩, h5⟩, h6⟩, h7⟩ := h
  obtain ⟨l1, l2, l3⟩ := locN_ok G.sc h4
  refine ⟨?_, l3⟩
  have hb : X.env.blockKind = .function := by unfold Env.blockKind; rw [G.sc, hk]; rfl
  unfold swappedStores
  have c1 : (!(ts.length == 2 || ts.length == 3) || vs.length != ts.length || X.env.blockKind != .function) = false := by
    rw [h1, h2, hb]; simp
  have c2 := noStar_any h3
  have c3 : (xs.length != ts.length || xs.eraseDups.length != xs.length) = false := by rw [l2, h5]; simp [l2]
  simp only [c1]
  refine (if_neg Bool.false_ne_true).trans ((if_neg fun z => Bool.noConfusion (c2.symm.trans z)).trans ?_)
  generalize hg : List.filterMap _ ts = ys
  have e : ys = xs := hg.symm.trans l1
  subst e
  simp only [c3, h6, h7]
  rfl
theorem noswap_ok (G : Good T X c) {ts vs : List Expr} (h : noSwapB c ts vs = true) {kt k2 : Nat} {pt p2 : Pos} : swappedStores [.Tuple ts kt pt] (.Tuple vs k2 p2) X.env = pure none := by
  unfold noSwapB at h
  unfold swappedStores
  have hk : ∀ id, X.env.kindOf id = c.sc.names.lookup id := fun id => by
    show X.env.scope.names.lookup id = _
    rw [G.sc]
  simp only [hk]
  by_cases h1 : (!(ts.length == 2 || ts.length == 3) || vs.length != ts.length || X.env.blockKind != .function) = true
  · exact if_pos h1
  · refine (if_neg h1).trans ?_
    by_cases h2 : (vs.any fun | .Starred .. => true | _ => false) = true
    · exact if_pos h2
    · refine (if_neg h2).trans ?_
      by_cases h3 : ((ts.filterMap fun | .Name id pos => if c.sc.names.lookup id == some .local && pos.line == (ts.head?.map (·.pos.line)).getD 0 then some id else none | _ => none).length != ts.length) = true
      · refine if_pos ?_
        simp only [Bool.or_eq_true]
        exact .inl h3
      · have h4 : vs.all (foldedForSure 8) = true := by
          simp only [Bool.or_eq_true] at h h1
          rcases h with (h | h) | h
          · exact absurd (.inl h) h1
          · exact h
          · exact absurd h h3
        split <;> first
          | rfl
          | exact if_pos h4
theorem sound_setLc (G : Good T X c) (hk : c.sc.kind = .function) {g : Tg} {e : Ex} {t v : Expr} {p : Pos} (hg : chkTg c g t = true) (u : uses T e) (he : chk c 0 e v = true) (hl : isLc v = true) (ht : isTupT t = false) : DSt1 X (.Assign [t] v p) (sSet g (sem e)) := by
  have hE := soundE T e X c v G u he
  have hT := soundTg G g t hg
  have hA : (assignEach [t] X.env).map (·.2) = [assign t X.env] := by rw [chkTg_assign hg]; rfl
  cases t with
  | Name y py =>
    cases g with
    | tp ts => simp [chkTg] at hg
    | nm i =>
    cases v with
    | ListComp x gens scope pos =>
      cases e with
      | lc new elt tg src cond own =>
        match gens, he with
        | [⟨t, it, ifs, 0⟩], he =>
          by_cases hsw : (X.env.blockKind == .function && X.env.kindOf y == some .local && py.line == pos.line && !(scope.names.any fun (n, k) => n == y && (k == .local || k == .cell))) = true
          · have hy : X.env.kindOf y = some .local := by
              simp only [Bool.and_eq_true, beq_iff_eq] at hsw
              exact hsw.1.1.2
            simp only [chkTg, Bool.and_eq_true, decide_eq_true_eq] at hg
            simp only [chk, Bool.and_eq_true] at he
            simp only [uses] at u
            obtain ⟨⟨⟨⟨⟨h1, h2⟩, h3⟩, h4⟩, h5⟩, h6⟩ := he
            have hv : ∀ i ∈ tgIx tg, i ∈ (ownS own).map (·.2) := fun i hi => by
              rw [ownS_ix]
              have := List.all_eq_true.mp h5 i hi
              simpa using this
            have Gb := fun s H C cl fp => G.blk scope s H C cl fp
            have main := ds_setLc (new := new) (i := i) (y := y) (py := py) (spos := p) (pos := pos) (elt := x) (tg := t) (iter := it) (ifs := ifs) (scope := scope) (own := ownS own) (g := tg) (ti := semI src) (tt := cOf cond (sem cond)) (te := sem elt) hv G.calm (by rw [G.N]; exact G.nd)
              (by rw [G.N]; exact hg.1) hy (by show pure _ = pure _; exact congrArg pure hsw)
              (soundI T src (if isTupT t then 2 else 1) X c it t G u.2.1 h2 (fun hw => by
                by_cases ht : isTupT t = true
                · cases t <;> first | exact ⟨_, _, _, rfl⟩ | cases ht
                · rw [if_neg ht] at hw; omega))
              (blkOk_by (by rw [G.N, G.sc]; exact h4)) (fun s H C cl fp => soundTg (Gb s H C cl fp) tg t h1)
              (fun s H C cl fp => by
                match ifs, h6 with
                | [], h6 =>
                  cases cond <;> first
                    | exact PTs_yes
                    | cases h6
                | [y], h6 =>
                  simp only [Bool.and_eq_true, Bool.not_eq_true'] at h6
                  rw [cOf_of h6.1.1]
                  exact pts_one (soundT T cond _ _ y (Gb s H C cl fp) u.2.2 h6.2 h6.1.2).1
                | _ :: _ :: _, h6 => cases h6)
              (fun s H C cl fp => soundE T elt _ _ x (Gb s H C cl fp) u.1 h3) (fun x => fold_of (chk_plain h2) _ x)
            rw [ownS_ix] at main
            exact main
          · have hf : swapsWithSole [.Name y py] (.ListComp x [⟨t, it, ifs, 0⟩] scope pos) p.line X.env = pure false := by
              show pure _ = pure _
              exact congrArg pure (Bool.eq_false_iff.mpr hsw)
            exact ds_set hE hT hf rfl hA
        | [], he => simp [chk] at he
        | _ :: _ :: _, he => simp [chk] at he
        | [⟨t, it, ifs, .ofNat (n + 1)⟩], h => exact Bool.noConfusion (show false = true from h)
        | [⟨t, it, ifs, .negSucc n⟩], h => exact Bool.noConfusion (show false = true from h)
      | _ => simp [chk] at he
    | SetComp _ _ _ _ => cases e <;> simp [chk] at he
    | DictComp _ _ _ _ _ => cases e <;> simp [chk] at he
    | _ => cases hl
  | Tuple _ _ _ => cases ht
  | _ => cases g <;> simp [chkTg] at hg
mutual
theorem soundS (T : Tb) (hp : PassesOwn (model X.prog X.w) X.A X.env X.xe) (G : Good T X c) (hk : c.sc.kind = .function) : ∀ (x : Sx) (st : Stmt), usesS T x → chkS c x st = true → DSt1 X st (semS x)
  | .set g e, st, u, h => by
    unfold chkS at h
    split at h
    · rename_i t v p
      simp only [Bool.and_eq_true] at h
      simp only [usesS] at u
      obtain ⟨⟨h1, h2⟩, h3⟩ := h
      have hA : (assignEach [t] X.env).map (·.2) = [assign t X.env] := by rw [chkTg_assign h1]; rfl
      by_cases ht : isTupT t = true
      · cases t with
        | Tuple ts k pt =>
          refine ds_set (soundE T e X c v G u h2) (soundTg G g _ h1) (swapsSole_tup v _ _) ?_ hA
          cases v <;> first
            | rfl
            | exact noswap_ok G h3
        | _ => cases ht
      · have ht' : isTupT t = false := by simpa using ht
        by_cases hl : isLc v = true
        · exact sound_setLc G hk h1 u h2 hl ht'
        · have hl' : isLc v = false := by simpa using hl
          refine ds_set (soundE T e X c v G u h2) (soundTg G g _ h1) (swapsWith_not hl' _ _ _) ?_ hA
          cases t <;> first
            | (cases v <;> rfl)
            | exact Bool.noConfusion ht'
            | (cases g <;> simp [chkTg] at h1)
    · cases h
  | .par i j a b, st, u, h => by
    unfold chkS at h
    split at h
    · rename_i x px y py kt pt e1 e2 k2 p2 p
      simp only [Bool.and_eq_true, decide_eq_true_eq] at h
      simp only [usesS] at u
      obtain ⟨⟨⟨⟨⟨h1, h2⟩, h3⟩, h4⟩, h5⟩, h6⟩ := h
      obtain ⟨sw, hx⟩ := swap_ok G hk h6 (kt := kt) (k2 := k2) (pt := pt) (p2 := p2)
      have hs2 := star_of (chk_plain h5) [] X.env
      have hs := star_of (chk_plain h4) [e2] X.env
      exact ds_par G.calm (by rw [G.N]; exact G.nd) (by rw [G.N]; exact h1) (by rw [G.N]; exact h2) h3 (by rw [G.sc]; exact hx x (by simp)) (by rw [G.sc]; exact hx y (by simp))
        (da_cons (soundE T a X c e1 G u.1 h4) (da_cons (soundE T b X c e2 G u.2 h5) da_nil hs2) hs) sw
    · cases h
  | .par3 i j l a b d, st, u, h => by
    unfold chkS at h
    split at h
    · rename_i x px y py z pz kt pt e1 e2 e3 k2 p2 p
      simp only [Bool.and_eq_true, decide_eq_true_eq] at h
      simp only [usesS] at u
      obtain ⟨⟨⟨⟨⟨⟨⟨⟨⟨h1, h2⟩, h3⟩, h4⟩, h5⟩, h6⟩, h7⟩, h8⟩, h9⟩, h10⟩ := h
      obtain ⟨sw, hx⟩ := swap_ok G hk h10 (kt := kt) (k2 := k2) (pt := pt) (p2 := p2)
      have hs3 := star_of (chk_plain h9) [] X.env
      have hs2 := star_of (chk_plain h8) [e3] X.env
      have hs := star_of (chk_plain h7) [e2, e3] X.env
      exact ds_par3 G.calm (by rw [G.N]; exact G.nd) (by rw [G.N]; exact h1) (by rw [G.N]; exact h2) (by rw [G.N]; exact h3) h4 h5 h6 (by rw [G.sc]; exact hx x (by simp)) (by rw [G.sc]; exact hx y (by simp)) (by rw [G.sc]; exact hx z (by simp))
        (da_cons (soundE T a X c e1 G u.1 h7) (da_cons (soundE T b X c e2 G u.2.1 h8) (da_cons (soundE T d X c e3 G u.2.2 h9) da_nil hs3) hs2) hs) sw
    · cases h
  | .setL o i e, st, u, h => by
    unfold chkS at h
    split at h
    · rename_i x y px v p
      simp only [Bool.and_eq_true, Bool.not_eq_true'] at h
      simp only [usesS] at u
      obtain ⟨⟨⟨h1, h2⟩, h3⟩, h4⟩ := h
      refine (ps_asg (soundE T e X c v G u.2.2 h3) (pg_sub (soundE T o X c x G u.1 h1) (soundE T i X c y G u.2.1 h2) (PSet.or set_list (set_dic G.hu)) (assign_sub (chk_plain h2) _)) (swapsWith_not h4 (some (.Subscript x y px)) p.line X.env) (by cases v <;> rfl)).imp fun D σ H ⟨δ, S, Dd, hr, lr, h, q1, q2, q3, q4⟩ => ?_
      refine ⟨δ, S, _, hr, lr, h, fun d S1 w H1 hw f1 r1 => ⟨δ, S1, _, f1.hr, lr.fut hr f1, hw, fun dx S2 wx H2 hx f2 r2 => ⟨δ, S2, _, f2.hr, (lr.fut hr f1).fut f1.hr f2, hx, fun dy S3 wy H3 hy f3 r3 => ?_⟩⟩⟩
      unfold opSetL at hy
      split at hy
      · rename_i a
        have r2' := f3.rep f2.hr r2
        simp only [Rep] at r2'
        subst r2'
        have r1' := f3.rep f2.hr (f2.rep f1.hr r1)
        rcases hy with ⟨k, ds, j, rfl, e1, e2, hy⟩ | ⟨ob, ks, vs, e1, ok, hz, hy⟩
        · simp only [Rep] at r3
          subst r3
          obtain ⟨xs, hx1, rs⟩ := f3.hr a _ e1
          have ff := Fut.lst f3.hr (.inr ⟨_, e1⟩) (rs.set r1' j)
          have fa := ((f1.trans f2).trans f3).trans ff
          exact .inl ⟨a, xs, k, j, rfl, rfl, hx1, by rw [← rs.length]; exact e2, q1 δ _ σ _ hy fa (lr.fut hr fa)⟩
        · obtain ⟨xs, ys, k1, k2, k3, k4⟩ := f3.hr a _ e1
          refine .inr ⟨S3, a, ks, vs, dy, d, rfl, dAsk_of ok ⟨ob, xs, ys, k1, k2, k3, k4⟩ r3, hz, r1', fun ob' xs' ys' hD r4 r5 => ?_⟩
          have ff := Fut.dic f3.hr (.inr ⟨_, e1⟩) hD r4 r5
          have fa := ((f1.trans f2).trans f3).trans ff
          exact q1 δ _ σ _ (hy ob') fa (lr.fut hr fa)
      · exact hy.elim
    · cases h
  | .exp e, st, u, h => by
    unfold chkS at h
    split at h
    · rename_i v p
      simp only [Bool.and_eq_true, Bool.not_eq_true'] at h
      exact ds_drop (soundE T e X c v G (by simpa [usesS] using u) h.1) (swapsWith_not h.2 _ _ _)
    · cases h
  | .ite t a b, st, u, h => by
    unfold chkS at h
    split at h
    · rename_i v x y p
      simp only [Bool.and_eq_true] at h
      simp only [usesS] at u
      exact ds_if (soundT T t X c v G u.1 h.1.1.1 h.1.1.2).1 (soundSs T hp G hk a x u.2.1 h.1.2) (soundSs T hp G hk b y u.2.2 h.2)
    · cases h
  | .ret e, st, u, h => by
    unfold chkS at h
    split at h
    · rename_i v p
      exact ds_ret (soundE T e X c v G (by simpa [usesS] using u) h)
    · cases h
  | .retN, st, u, h => by
    unfold chkS at h
    split at h
    · exact ds_retN
    · cases h
  | .whl t b, st, u, h => by
    unfold chkS at h
    split at h
    · rename_i v x p
      simp only [Bool.and_eq_true] at h
      simp only [usesS] at u
      exact ds_while hp (soundT T t X c v G u.1 h.1.1 h.1.2).1 (soundSs T hp G hk b x u.2 h.2)
    · cases h
  | .forr g r b, st, u, h => by
    unfold chkS at h
    split at h
    · rename_i t v x p
      simp only [Bool.and_eq_true] at h
      simp only [usesS] at u
      exact ds_for hp G.calm (soundI T r (if isTupT t then 2 else 1) X c v t G u.1 h.1.2 (fun hw => by
        by_cases ht : isTupT t = true
        · cases t <;> first | exact ⟨_, _, _, rfl⟩ | cases ht
        · rw [if_neg ht] at hw; omega)) (soundTg G g t h.1.1) (soundSs T hp G hk b x u.2 h.2) (fun z => fold_of (chk_plain h.1.2) _ z)
    · cases h
  | .brk, st, u, h => by
    unfold chkS at h
    split at h
    · exact ds_brk
    · cases h
  | .cont, st, u, h => by
    unfold chkS at h
    split at h
    · exact ds_cont
    · cases h
  | .pass, st, u, h => by
    unfold chkS at h
    split at h
    · exact ds_pass
    · cases h
  | .nev, st, u, h => PS.imp (t := tNever) ps_never fun D σ H ⟨δ, S, Dd, hr, lr, h, _⟩ => h
termination_by x => sizeOf x
theorem soundSs (T : Tb) (hp : PassesOwn (model X.prog X.w) X.A X.env X.xe) (G : Good T X c) (hk : c.sc.kind = .function) : ∀ (xs : List Sx) (sts : List Stmt), usesSs T xs → chkSs c xs sts = true → DSs X sts (semSs xs)
  | [], sts, u, h => by
    simp only [chkSs, List.isEmpty_iff] at h
    subst h
    exact dss_nil
  | x :: xs, sts, u, h => by
    cases sts with
    | nil => simp [chkSs] at h
    | cons s ss =>
      have h' : chkS c x s = true ∧ chkSs c xs ss = true := by simpa [chkSs] using h
      simp only [usesSs] at u
      exact dss_cons (soundS T hp G hk x s u.1 h'.1) (soundSs T hp G hk xs ss u.2 h'.2)
termination_by xs => sizeOf xs
end
end
end Lf
set_option Elab.async false
set_option linter.all false
set_option maxRecDepth 100000
set_option maxHeartbeats 2000000
namespace Lf
open PySem PySem.Spec PyProof.Rows L2

/-! ### defs -/
def startD (n : Nat) (ds : List D) : DSt := ds.map some ++ List.replicate (n - ds.length) none
/-- the module's def f keeps sp, at level k -/
def FnG (W : KW) (mg : Str → Option Value) (base : Heap) (k : Nat) (f : String) (sp : Spec) : Prop :=
  ∃ (j : Nat) (a : Addr) (fd : FuncData) (ps : List Str), j ≤ k ∧ FnOk W.P W.w W.K mg base CX0 j a fd ps (upSp W sp) ∧ mg (Str.ofString f) = some (.ref a) ∧ PySem.W.keepIn W.K (.ref a) = true ∧ Binds W.K fd ps []
theorem FnG.mono {W : KW} {mg : Str → Option Value} {base : Heap} {j k : Nat} {f : String} {sp : Spec} (h : FnG W mg base j f sp) (le : j ≤ k) : FnG W mg base k f sp := by
  obtain ⟨i, a, fd, ps, hi, r⟩ := h
  exact ⟨i, a, fd, ps, Nat.le_trans hi le, r⟩
/-- the module's constant -/
def GlG (W : KW) (mg : Str → Option Value) (x : String) (d : D) : Prop := ∃ u v, mg (Str.ofString x) = some u ∧ RelV v u ∧ ∀ H S, Rep W H S d v
def tbOf (W : KW) (mg : Str → Option Value) (base : Heap) (k : Nat) : Tb := ⟨FnG W mg base k, GlG W mg⟩
def csOf (st : Stmt) (N : List Str) : Cs := ⟨defScope st, N, fun _ => true⟩
def endsOf (Q : DK) : DEnds := ⟨fun _ S => Q .non S, Q, fun _ _ => False, fun _ _ => False⟩
theorem start_lr {W : KW} {H : Hp} {S : Store} {n : Nat} {N : List Str} (hn : N.length = n) {ds : List D} {vs : List V} (r : Reps W H S ds vs) : LR W H S (startD n ds) (L2.start N vs) := by
  subst hn
  unfold startD L2.start
  refine ⟨by simp [r.length], fun i d e => ?_⟩
  by_cases hi : i < ds.length
  · rw [List.getElem?_append_left (by simpa using hi)] at e
    rw [List.getElem?_map] at e
    cases e2 : ds[i]? with
    | none => rw [e2] at e; cases e
    | some d' =>
      rw [e2] at e
      simp only [Option.map_some, Option.some.injEq] at e
      subst e
      obtain ⟨v, e3, r3⟩ := r.get e2
      refine ⟨v, ?_, r3⟩
      rw [List.getElem?_append_left (by simpa [← r.length] using hi), List.getElem?_map, e3]
      rfl
  · rw [List.getElem?_append_right (by simpa using hi)] at e
    rw [List.getElem?_replicate] at e
    split at e <;> simp at e
/-- a def keeps what its text's reading says -/
theorem fn_ok {W : KW} {mg : Str → Option Value} {base : Heap} {k : Nat} {x : String} {st : Stmt} {f : Addr} {fd : FuncData} {N ps : List Str} {n : Nat} {sp : Spec} {body : List Sx}
    (F : Fun W.K (Str.ofString x) (Str.ofString x) st f fd) (S : FnScope N ps (defScope st)) (hn : N.length = n) (hb : ∀ y ∈ bltN, mg (Str.ofString y) = none)
    (u : usesSs (tbOf W mg base k) body) (c : chkSs (csOf st N) body (defBody st) = true) (len : ∀ ds St Q, sp ds St Q → ds.length = ps.length)
    (law : ∀ ds St Q, sp ds St Q → semSs body (endsOf Q) (startD n ds) St) : FnOk W.P W.w W.K mg base CX0 (k + 1) f fd ps (upSp W sp) := by
  refine F.ok S (fun vs H Q E h => ?_) (fun cdv A outer s H vs Q E hr h => ?_)
  · obtain ⟨ds, St, Qd, hr, r, h, q⟩ := h
    rw [← r.length]
    exact len _ _ _ h
  · obtain ⟨ds, St, Qd, hrep, r, h, q⟩ := h
    have G : Good (tbOf W mg base k) (cxOf CX0 W.P W.w W.K mg base N (Str.ofString x) (defScope st) f cdv A outer s H E).nox (csOf st N) :=
      { sc := rfl, N := rfl, fn := rfl, calm := rfl, nd := S.nd
        hu := by
          have := hr.un
          show (A.deeper _).units + 65 < cLine
          omega
        blt := hb
        fns := fun g sp2 hg => by
          obtain ⟨j, a, fd2, ps2, hj, F2, m2, k2, b2⟩ := hg
          exact ⟨j, a, fd2, ps2, F2, hr.mono hj, m2, k2, b2⟩
        gls := fun y d hy => hy }
    refine ⟨_, soundSs (tbOf W mg base k) PassesOwn.never G S.kind body (defBody st) u c, ?_⟩
    refine ⟨startD n ds, St, endsOf Qd, hrep, start_lr hn r, law ds St Qd h, ?_, ?_, ?_, ?_⟩
    · exact fun δ' S' σ' H' z f _ => q _ S' _ H' z f (by simp [Rep])
    · exact fun d S' v H' z f r => q _ S' _ H' z f r
    · exact fun δ' S' σ' H' z f l => z.elim
    · exact fun δ' S' σ' H' z f l => z.elim
/-- a def of the module, by name -/
structure DefAt (W : KW) (mg : Str → Option Value) (x : String) (st : Stmt) (ps : List Str) : Prop where
  ex : ∃ (f : Addr) (fd : FuncData), Fun W.K (Str.ofString x) (Str.ofString x) st f fd ∧ mg (Str.ofString x) = some (.ref f) ∧ Binds W.K fd ps [] ∧ ∀ us : List Value, us.length = ps.length → bindArgs fd ⟨us, []⟩ = pure (ps.zip us)
theorem fn_g {W : KW} {mg : Str → Option Value} {base : Heap} {k : Nat} {x : String} {st : Stmt} {N ps : List Str} {n : Nat} {sp : Spec} {body : List Sx}
    (DA : DefAt W mg x st ps) (S : FnScope N ps (defScope st)) (hn : N.length = n) (hb : ∀ y ∈ bltN, mg (Str.ofString y) = none)
    (c : chkSs (csOf st N) body (defBody st) = true) (u : usesSs (tbOf W mg base k) body) (len : ∀ ds St Q, sp ds St Q → ds.length = ps.length)
    (law : ∀ ds St Q, sp ds St Q → semSs body (endsOf Q) (startD n ds) St) : FnG W mg base (k + 1) x sp := by
  obtain ⟨f, fd, F, hm, hbd, _⟩ := DA.ex
  exact ⟨k + 1, f, fd, ps, Nat.le_refl _, fn_ok F S hn hb u c len law, hm, F.kp, hbd⟩
/-- no promise at all -/
theorem fn_none {W : KW} {mg : Str → Option Value} {base : Heap} {k : Nat} {x : String} {st : Stmt} {ps : List Str} {sp : Spec} (DA : DefAt W mg x st ps) (h : ∀ ds St Q, ¬ sp ds St Q) : FnG W mg base k x sp := by
  obtain ⟨f, fd, F, hm, hbd, _⟩ := DA.ex
  refine ⟨0, f, fd, ps, Nat.zero_le _, ⟨fun vs H Q E h' => ?_, fun A outer s H args us vs Q E _ _ _ _ h' => ?_⟩, hm, F.kp, hbd⟩
  · obtain ⟨ds, St, Qd, _, _, h', _⟩ := h'
    exact absurd h' (h _ _ _)
  · obtain ⟨ds, St, Qd, _, _, h', _⟩ := h'
    exact absurd h' (h _ _ _)
theorem def_at {W : KW} {h : Heap} {mg : Str → Option Value} {x : String} {st : Stmt} {ps : List Str} {f : Addr} {oc : Value} {od an : Option Addr} {osl : Array (Option Value)} {kV doc pm cdv ct : Value} (X : W.K.In h) (G : h.Ns mainGlobals mg)
    (a : PySem.W.nsIn W.K mainGlobals (Str.ofString x) = some (some (.ref f)))
    (l : W.K.lookup f = some ⟨oc, od, .func (PySem.W.fnOf (Str.ofString x) (Str.ofString x) (defArgs st) (defBody st) (defScope st) .none kV doc pm an cdv ct), osl⟩) (c : PySem.W.codeIn W.K cdv (Str.ofString x) = true) (k : PySem.W.keepIn W.K (.ref f) = true)
    (b : ∀ (kV doc pm : Value) (an : Option Addr) (cdv ct : Value) (us : List Value), us.length = ps.length → bindArgs (PySem.W.fnOf (Str.ofString x) (Str.ofString x) (defArgs st) (defBody st) (defScope st) .none kV doc pm an cdv ct) ⟨us, []⟩ = pure (ps.zip us)) : DefAt W mg x st ps := by
  have F := fun_mk (st := st) l c k
  exact ⟨f, _, F, PySem.W.mg_of X G a, F.binds b, fun us h => b _ _ _ _ _ _ us h⟩

/-! ### constants -/
mutual
/-- v, in the module's written part, is d -/
def isD (K : PySem.W.Frag) : D → Value → Bool
  | .non, v => match v with
    | .none => true
    | _ => false
  | .bl b, v => match v with
    | .bool c => b == c
    | _ => false
  | .int i, v => match v with
    | .int j _ => decide (i = j)
    | _ => false
  | .str s, v => match v with
    | .str t _ => decide (s = t)
    | _ => false
  | .tup ds, v => match v with
    | .ref a => match K.lookup a with
      | some ⟨.type n, _, .seq its _, _⟩ => decide (n = "tuple") && decide (its.size ≤ sizeLine) && isDs K ds its.toList
      | _ => false
    | _ => false
  | _, _ => false
def isDs (K : PySem.W.Frag) : List D → List Value → Bool
  | [], vs => vs.isEmpty
  | d :: ds, vs => match vs with
    | [] => false
    | v :: vs => isD K d v && isDs K ds vs
end
mutual
theorem isD_ok {W : KW} : ∀ (d : D) (u : Value), isD W.K d u = true → ∃ v, RelV v u ∧ ∀ H S, Rep W H S d v
  | .non, u, h => by
    unfold isD at h
    split at h
    · exact ⟨.non, rfl, fun _ _ => by simp [Rep]⟩
    · cases h
  | .bl b, u, h => by
    unfold isD at h
    split at h
    · rename_i c
      have : b = c := by simpa using h
      subst this
      exact ⟨.bl b, rfl, fun _ _ => by simp [Rep]⟩
    · cases h
  | .int i, u, h => by
    unfold isD at h
    split at h
    · rename_i j t
      have : i = j := by simpa using h
      subst this
      exact ⟨.int i, ⟨t, rfl⟩, fun _ _ => by simp [Rep]⟩
    · cases h
  | .str s, u, h => by
    unfold isD at h
    split at h
    · rename_i z t
      have : s = z := by simpa using h
      subst this
      exact ⟨.str s, ⟨t, rfl⟩, fun _ _ => by simp [Rep]⟩
    · cases h
  | .tup ds, u, h => by
    unfold isD at h
    split at h
    · rename_i a
      split at h
      · rename_i n dd its m sl e
        simp only [Bool.and_eq_true, decide_eq_true_eq] at h
        obtain ⟨⟨h1, h2⟩, h3⟩ := h
        obtain ⟨xs, rv, rr⟩ := isDs_ok ds its.toList h3
        refine ⟨.ref a, rfl, fun H S => ?_⟩
        simp only [Rep]
        exact ⟨a, xs, rfl, .inr ⟨_, its, m, e, by rw [h1], rfl, h2, rv⟩, rr H S⟩
      · cases h
    · cases h
  | .lst _, _, h => by unfold isD at h; cases h
  | .dic _ _, _, h => by unfold isD at h; cases h
  | .ref _, _, h => by unfold isD at h; cases h
  | .ty _, _, h => by unfold isD at h; cases h
  | .scr _, _, h => by unfold isD at h; cases h
theorem isDs_ok {W : KW} : ∀ (ds : List D) (us : List Value), isDs W.K ds us = true → ∃ vs, Vals vs us ∧ ∀ H S, Reps W H S ds vs
  | [], us, h => by
    simp only [isDs, List.isEmpty_iff] at h
    subst h
    exact ⟨[], .nil, fun _ _ => Reps.nil_⟩
  | d :: ds, us, h => by
    cases us with
    | nil => simp [isDs] at h
    | cons u us =>
      have h' : isD W.K d u = true ∧ isDs W.K ds us = true := by simpa [isDs] using h
      obtain ⟨v, r1, r2⟩ := isD_ok d u h'.1
      obtain ⟨vs, q1, q2⟩ := isDs_ok ds us h'.2
      exact ⟨v :: vs, .cons r1 q1, fun H S => Reps.cons_ (r2 H S) (q2 H S)⟩
end
theorem gl_at {W : KW} {h : Heap} {mg : Str → Option Value} {x : String} {d : D} {u : Value} (X : W.K.In h) (G : h.Ns mainGlobals mg) (a : PySem.W.nsIn W.K mainGlobals (Str.ofString x) = some (some u)) (c : isD W.K d u = true) : GlG W mg x d := by
  obtain ⟨v, r1, r2⟩ := isD_ok d u c
  exact ⟨u, v, PySem.W.mg_of X G a, r1, r2⟩

/-! ### the law -/
/-- law(script): True -/
def spLaw : Spec := fun ds S Q => ∃ ns : List Int, ds = [.scr (ns.map D.int)] ∧ ns.length ≤ 63 ∧ (∀ z ∈ ns, Builtin.Int.intBits z ≤ 1048576) ∧ (∀ a, S a = none) ∧ ∀ S', Q (.bl true) S'
theorem law_sp {P : Program} {w : World} {K : PySem.W.Frag} {H : Hp} {a : Addr} {ns : List Int} (hl : ns.length ≤ 63) (hb : ∀ z ∈ ns, Builtin.Int.intBits z ≤ 1048576) (hO : Only H) (hS : SqL K H a (ns.map V.int)) :
    upSp ⟨P, w, K⟩ spLaw [.ref a] H (fun v _ => v = .bl true) fun _ _ _ => False := by
  refine ⟨[.scr (ns.map D.int)], fun _ => none, fun d _ => d = .bl true, fun b m e => ?_, ?_, ⟨ns, rfl, hl, hb, fun _ => rfl, fun _ => rfl⟩, fun d S' v H' e f r => ?_⟩
  · exact nomatch (show none = some m from e)
  · simp only [Reps, Rep]
    refine ⟨.ref a, [], rfl, ⟨a, ns.map V.int, rfl, ?_, reps_ints ns⟩, rfl⟩
    rcases hS with (hS | hS) | hS
    · rcases hO a with z | ⟨o, xs, z⟩
      · rw [hS] at z; cases z
      · rw [hS] at z; cases z
    · exact .inl hS
    · exact .inr hS
  · subst e
    simpa [Rep] using r
theorem law_end {W : KW} {mg : Str → Option Value} {st : Stmt} {fa : Addr} {N : List Str} {n k : Nat} {body : List Sx} (DA : DefAt W mg "law" st ["script"]) (hfa : mg "law" = some (.ref fa)) (S : FnScope N ["script"] (defScope st)) (hn : N.length = n)
    (hb : ∀ y ∈ bltN, mg (Str.ofString y) = none) (c : chkSs (csOf st N) body (defBody st) = true) (u : ∀ base : Heap, usesSs (tbOf W mg base k) body) (law : ∀ ds St Q, spLaw ds St Q → semSs body (endsOf Q) (startD n ds) St) :
    ∃ fd : FuncData, (∀ (s : Shared) (v : Value), BindsTo s fd ⟨[v], []⟩ [("script", v)]) ∧ ∀ base : Heap, W.K.In base → base.Ns mainGlobals mg → FnOk W.P W.w W.K mg base CX0 (k + 1) fa fd ["script"] (upSp W spLaw) := by
  obtain ⟨f, fd, F, hm, hbd, hbi⟩ := DA.ex
  have e := hfa.symm.trans hm
  cases e
  refine ⟨fd, fun s v => .of_eq (hbi [v] rfl), fun base _ _ => fn_ok F S hn hb (u base) c (fun ds St Q ⟨ns, e, _⟩ => by rw [e]; rfl) law⟩
end Lf
set_option Elab.async false
set_option linter.all false
set_option maxRecDepth 100000
namespace Lf
open PySem PySem.Spec PyProof.Rows L2
def g_WORDS : D := .tup [.str (Str.ofString "ahead"), .str (Str.ofString "behind"), .str (Str.ofString "end"), .str (Str.ofString "here"), .str (Str.ofString "near"), .str (Str.ofString "opened"), .str (Str.ofString "up")]
def g_MOVES : D := .tup [.str (Str.ofString "back"), .str (Str.ofString "on"), .str (Str.ofString "open"), .str (Str.ofString "stay"), .str (Str.ofString "turn")]
def g_PLAIN : D := .tup [.tup [.tup [.str (Str.ofString "here")], .str (Str.ofString "open")], .tup [.tup [.str (Str.ofString "ahead")], .str (Str.ofString "on")], .tup [.tup [.str (Str.ofString "behind")], .str (Str.ofString "back")]]
def g_FAIR : D := .tup [.tup [.tup [.str (Str.ofString "here"), .str (Str.ofString "no opened")], .str (Str.ofString "open")], .tup [.tup [.str (Str.ofString "ahead")], .str (Str.ofString "on")], .tup [.tup [.str (Str.ofString "behind")], .str (Str.ofString "back")], .tup [.tup [.str (Str.ofString "here")], .str (Str.ofString "open")]]
def g_MOST_CLAUSES : D := .int 8
def g_MOST_TESTS : D := .int 3
def g_MOST_TICKS : D := .int 60
def g_MOST_CONTROLLED : D := .int 4
/-- slots: 0 thing -/
def b_is_whole : List Sx := [
  .ret (.and (.bi .isi [.var 0, .ty "int"]) (.not (.bi .isi [.var 0, .ty "bool"])))]

/-- slots: 0 thing, 1 low, 2 high -/
def b_is_within (s_is_whole : Spec) : List Sx := [
  .ret (.and (.call "is_whole" s_is_whole [.var 0]) (.chn .le .le (.var 1) (.var 0) (.var 2)))]

/-- slots: 0 value -/
def b_is_test : List Sx := [
  .ite (.not (.bi .isi [.var 0, .ty "str"])) [
    .ret (.bl false)] [],
  .ret (.or (.cmp .inn (.var 0) (.gl "WORDS" g_WORDS)) (.and (.cmp .eq (.sl (.var 0) .no (.int 3)) (.str "no ")) (.cmp .inn (.sl (.var 0) (.int 3) .no) (.gl "WORDS" g_WORDS))))]

/-- slots: 0 value, 1 test -/
def b_is_clause (s_is_test : Spec) : List Sx := [
  .ite (.or (.not (.bi .isi [.var 0, .ty "tuple"])) (.or (.cmp .ne (.bi .len [.var 0]) (.int 2)) (.not (.bi .isi [.ix (.var 0) (.int 0), .ty "tuple"])))) [
    .ret (.bl false)] [],
  .ite (.or (.cmp .gt (.bi .len [.ix (.var 0) (.int 0)]) (.gl "MOST_TESTS" g_MOST_TESTS)) (.not (.bi .all [.lc false (.call "is_test" s_is_test [.var 1]) (.nm 1) (.ix (.var 0) (.int 0)) .no [("test", 1)]]))) [
    .ret (.bl false)] [],
  .ret (.and (.bi .isi [.ix (.var 0) (.int 1), .ty "str"]) (.cmp .inn (.ix (.var 0) (.int 1)) (.gl "MOVES" g_MOVES)))]

/-- slots: 0 value, 1 clause -/
def b_is_controller (s_is_clause : Spec) : List Sx := [
  .ite (.or (.not (.bi .isi [.var 0, .ty "tuple"])) (.cmp .gt (.bi .len [.var 0]) (.gl "MOST_CLAUSES" g_MOST_CLAUSES))) [
    .ret (.bl false)] [],
  .ret (.bi .all [.lc false (.call "is_clause" s_is_clause [.var 1]) (.nm 1) (.var 0) .no [("clause", 1)]])]

/-- slots: 0 floors -/
def b_look_at_floors (s_is_within : Spec) : List Sx := [
  .ite (.not (.call "is_within" s_is_within [.var 0, .int 2, .gl "MOST_CONTROLLED" g_MOST_CONTROLLED])) [
    .nev] []]

/-- slots: 0 floors, 1 value, 2 floor, 3 one, 4 other -/
def b_are_floors (s_is_within : Spec) : List Sx := [
  .ite (.or (.not (.bi .isi [.var 1, .ty "tuple"])) (.not (.bi .all [.lc false (.call "is_within" s_is_within [.var 2, .int 1, .var 0]) (.nm 2) (.var 1) .no [("floor", 2)]]))) [
    .ret (.bl false)] [],
  .ret (.bi .all [.lc false (.cmp .lt (.var 3) (.var 4)) (.tp [.nm 3, .nm 4]) (.zip (.var 1) (.sl (.var 1) (.int 1) .no)) .no [("one", 3), ("other", 4)]])]

/-- slots: 0 floors, 1 value, 2 pressed -/
def b_are_ticks (s_are_floors : Spec) : List Sx := [
  .ite (.or (.not (.bi .isi [.var 1, .ty "tuple"])) (.cmp .gt (.bi .len [.var 1]) (.gl "MOST_TICKS" g_MOST_TICKS))) [
    .ret (.bl false)] [],
  .ret (.bi .all [.lc false (.call "are_floors" s_are_floors [.var 0, .var 2]) (.nm 2) (.var 1) .no [("pressed", 2)]])]

/-- slots: 0 floors, 1 value -/
def b_is_plan (s_look_at_floors s_are_ticks : Spec) : List Sx := [
  .exp (.call "look_at_floors" s_look_at_floors [.var 0]),
  .ret (.call "are_ticks" s_are_ticks [.var 0, .var 1])]

/-- slots: 0 cell, 1 turn -/
def b__law_well : List Sx := [
  .ite (.cmp .ge (.var 0) (.bin .pow (.int 10) (.int 18))) [
    .ret (.lst true [.bin .sub (.var 0) (.bin .pow (.int 10) (.int 18)), .bin .mod (.var 0) (.int 2305843009213693951), .var 1])] [],
  .ret (.lst true [.int 0, .bin .mod (.var 0) (.int 2305843009213693951), .var 1])]

/-- slots: 0 bag, 1 many, 2 found, 3 p, 4 n -/
def b__law_take : List Sx := [
  .ite (.cmp .gt (.ix (.var 0) (.int 0)) (.int 0)) [
    .set (.nm 2) (.bin .mod (.ix (.var 0) (.int 0)) (.var 1)),
    .setL (.var 0) (.int 0) (.bin .fdiv (.ix (.var 0) (.int 0)) (.var 1)),
    .ret (.var 2)] [],
  .setL (.var 0) (.int 2) (.bin .add (.ix (.var 0) (.int 2)) (.int 1)),
  .set (.nm 3) (.int 2305843009213693951),
  .set (.nm 4) (.bin .mod (.bin .add (.ix (.var 0) (.int 1)) (.bin .mul (.int 1000003) (.ix (.var 0) (.int 2)))) (.var 3)),
  .set (.nm 4) (.bin .mod (.bin .add (.bin .add (.bin .mul (.var 4) (.var 4)) (.bin .mul (.int 7919) (.bin .pow (.ix (.var 0) (.int 2)) (.int 2)))) (.int 5)) (.var 3)),
  .ret (.bin .mod (.bin .fdiv (.bin .mod (.bin .pow (.var 4) (.int 3)) (.var 3)) (.int 13)) (.var 1))]

/-- slots: 0 script, 1 most, 2 k, 3 cell -/
def b__law_bags (s_law_well : Spec) : List Sx := [
  .ret (.lc false (.call "_law_well" s_law_well [.var 3, .bin .mul (.int 977) (.var 2)]) (.tp [.nm 2, .nm 3]) (.enm (.bin .add (.sl (.var 0) .no (.var 1)) (.lst false [.int 0]))) .no [("k", 2), ("cell", 3)])]

/-- slots: 0 a, 1 b, 2 x, 3 y -/
def b__law_same (s_law_same : Spec) : List Sx := [
  .ite (.or (.and (.bi .isi [.var 0, .ty "list"]) (.bi .isi [.var 1, .ty "list"])) (.and (.bi .isi [.var 0, .ty "tuple"]) (.bi .isi [.var 1, .ty "tuple"]))) [
    .ret (.and (.cmp .eq (.bi .len [.var 0]) (.bi .len [.var 1])) (.bi .all [.lc false (.call "_law_same" s_law_same [.var 2, .var 3]) (.tp [.nm 2, .nm 3]) (.zip (.var 0) (.var 1)) .no [("x", 2), ("y", 3)]]))] [],
  .ite (.or (.bi .isi [.var 0, .tup [.ty "bool", .ty "list", .ty "tuple"]]) (.bi .isi [.var 1, .tup [.ty "bool", .ty "list", .ty "tuple"]])) [
    .ret (.and (.bi .isi [.var 0, .ty "bool"]) (.and (.bi .isi [.var 1, .ty "bool"]) (.cmp .eq (.var 0) (.var 1))))] [],
  .ite (.or (.bi .isi [.var 0, .ty "int"]) (.bi .isi [.var 1, .ty "int"])) [
    .ret (.and (.bi .isi [.var 0, .ty "int"]) (.and (.bi .isi [.var 1, .ty "int"]) (.cmp .eq (.var 0) (.var 1))))] [],
  .ite (.or (.bi .isi [.var 0, .ty "str"]) (.bi .isi [.var 1, .ty "str"])) [
    .ret (.and (.bi .isi [.var 0, .ty "str"]) (.and (.bi .isi [.var 1, .ty "str"]) (.cmp .eq (.var 0) (.var 1))))] [],
  .ret (.and (.cmp .is (.var 0) .non) (.cmp .is (.var 1) .non))]

/-- slots:  -/
def b__law_plain : List Sx := [
  .ret (.tup [.tup [.tup [.str "here"], .str "open"], .tup [.tup [.str "ahead"], .str "on"], .tup [.tup [.str "behind"], .str "back"]])]

/-- slots:  -/
def b__law_fair (s_law_plain : Spec) : List Sx := [
  .ret (.bin .add (.bin .add (.tup [.tup [.tup [.str "here", .str "no opened"], .str "open"]]) (.sl (.call "_law_plain" s_law_plain []) (.int 1) .no)) (.tup [.tup [.tup [.str "here"], .str "open"]]))]

/-- slots: 0 bag, 1 word -/
def b__law_test (s_law_take : Spec) : List Sx := [
  .set (.nm 1) (.ix (.lst false [.str "ahead", .str "behind", .str "end", .str "here", .str "near", .str "opened", .str "up"]) (.call "_law_take" s_law_take [.var 0, .int 7])),
  .ret (.bin .add (.ix (.lst false [.str "", .str "", .str "no "]) (.call "_law_take" s_law_take [.var 0, .int 3])) (.var 1))]

/-- slots: 0 bag, 1 many, 2 tests, 3 k -/
def b__law_clause (s_law_take s_law_test : Spec) : List Sx := [
  .set (.nm 1) (.ix (.lst false [.int 0, .int 1, .int 1, .int 2, .int 2, .int 3]) (.call "_law_take" s_law_take [.var 0, .int 6])),
  .set (.nm 2) (.bi .tup [.lc false (.call "_law_test" s_law_test [.var 0]) (.nm 3) (.rng1 (.var 1)) .no [("k", 3)]]),
  .ret (.tup [.var 2, .ix (.lst false [.str "back", .str "on", .str "on", .str "open", .str "open", .str "stay", .str "turn"]) (.call "_law_take" s_law_take [.var 0, .int 7])])]

/-- slots: 0 bag, 1 most, 2 way, 3 found, 4 at, 5 k -/
def b__law_controller (s_law_take s_law_clause s_law_plain s_law_fair : Spec) : List Sx := [
  .set (.nm 2) (.call "_law_take" s_law_take [.var 0, .int 4]),
  .ite (.cmp .eq (.var 2) (.int 0)) [
    .ret (.bi .tup [.lc false (.call "_law_clause" s_law_clause [.var 0]) (.nm 5) (.rng1 (.call "_law_take" s_law_take [.var 0, .bin .add (.var 1) (.int 1)])) .no [("k", 5)]])] [],
  .set (.nm 3) (.ix (.lst false [.call "_law_plain" s_law_plain [], .call "_law_fair" s_law_fair []]) (.call "_law_take" s_law_take [.var 0, .int 2])),
  .set (.nm 4) (.call "_law_take" s_law_take [.var 0, .bi .len [.var 3]]),
  .ite (.cmp .eq (.var 2) (.int 1)) [
    .set (.nm 3) (.bin .add (.bin .add (.sl (.var 3) .no (.var 4)) (.tup [.call "_law_clause" s_law_clause [.var 0]])) (.sl (.var 3) (.var 4) .no))] [
    .ite (.cmp .eq (.var 2) (.int 2)) [
      .set (.nm 3) (.bin .add (.bin .add (.sl (.var 3) .no (.var 4)) (.bin .mul (.tup [.call "_law_clause" s_law_clause [.var 0]]) (.call "_law_take" s_law_take [.var 0, .int 2]))) (.sl (.var 3) (.bin .add (.var 4) (.int 1)) .no))] []],
  .ret (.sl (.var 3) .no (.var 1))]

/-- slots: 0 bag, 1 floors, 2 floor -/
def b__law_pressed (s_law_take : Spec) : List Sx := [
  .ite (.cmp .eq (.call "_law_take" s_law_take [.var 0, .int 2]) (.int 0)) [
    .ret (.tup [])] [],
  .ret (.bi .tup [.lc false (.var 2) (.nm 2) (.rng2 (.int 1) (.bin .add (.var 1) (.int 1))) (.cmp .eq (.call "_law_take" s_law_take [.var 0, .int 3]) (.int 0)) [("floor", 2)]])]

/-- slots: 0 bag, 1 floors, 2 most, 3 k -/
def b__law_plan (s_law_take s_law_pressed : Spec) : List Sx := [
  .ret (.bi .tup [.lc false (.call "_law_pressed" s_law_pressed [.var 0, .var 1]) (.nm 3) (.rng1 (.call "_law_take" s_law_take [.var 0, .bin .add (.var 2) (.int 1)])) .no [("k", 3)]])]

/-- slots: 0 value, 1 words, 2 word, 3 test -/
def b__law_is_clause : List Sx := [
  .set (.nm 1) (.lst false [.str "ahead", .str "behind", .str "end", .str "here", .str "near", .str "opened", .str "up"]),
  .set (.nm 1) (.bin .add (.var 1) (.lc false (.bin .add (.str "no ") (.var 2)) (.nm 2) (.var 1) .no [("word", 2)])),
  .ite (.or (.not (.bi .isi [.var 0, .ty "tuple"])) (.or (.cmp .ne (.bi .len [.var 0]) (.int 2)) (.or (.not (.bi .isi [.ix (.var 0) (.int 0), .ty "tuple"])) (.cmp .gt (.bi .len [.ix (.var 0) (.int 0)]) (.int 3))))) [
    .ret (.bl false)] [],
  .ite (.cmp .ne (.lc false (.int 1) (.nm 3) (.ix (.var 0) (.int 0)) (.or (.not (.bi .isi [.var 3, .ty "str"])) (.cmp .nin (.var 3) (.var 1))) [("test", 3)]) (.lst false [])) [
    .ret (.bl false)] [],
  .ret (.and (.bi .isi [.ix (.var 0) (.int 1), .ty "str"]) (.cmp .inn (.ix (.var 0) (.int 1)) (.lst false [.str "back", .str "on", .str "open", .str "stay", .str "turn"])))]

/-- slots: 0 value, 1 clause -/
def b__law_is_controller (s_law_is_clause : Spec) : List Sx := [
  .ite (.or (.not (.bi .isi [.var 0, .ty "tuple"])) (.cmp .gt (.bi .len [.var 0]) (.int 8))) [
    .ret (.bl false)] [],
  .ret (.cmp .eq (.lc false (.int 1) (.nm 1) (.var 0) (.not (.call "_law_is_clause" s_law_is_clause [.var 1])) [("clause", 1)]) (.lst false []))]

/-- slots: 0 floors, 1 value, 2 floor -/
def b__law_is_pressed : List Sx := [
  .ite (.not (.bi .isi [.var 1, .ty "tuple"])) [
    .ret (.bl false)] [],
  .ite (.cmp .ne (.lc false (.int 1) (.nm 2) (.var 1) (.or (.not (.bi .isi [.var 2, .ty "int"])) (.bi .isi [.var 2, .ty "bool"])) [("floor", 2)]) (.lst false [])) [
    .ret (.bl false)] [],
  .ret (.and (.cmp .eq (.lc false (.int 1) (.nm 2) (.var 1) (.not (.chn .le .le (.int 1) (.var 2) (.var 0))) [("floor", 2)]) (.lst false [])) (.cmp .eq (.bi (.lst false) [.var 1]) (.sset (.var 1))))]

/-- slots: 0 floors, 1 value, 2 pressed -/
def b__law_is_plan (s_law_is_pressed : Spec) : List Sx := [
  .ite (.or (.not (.bi .isi [.var 1, .ty "tuple"])) (.cmp .gt (.bi .len [.var 1]) (.int 60))) [
    .ret (.bl false)] [],
  .ret (.cmp .eq (.lc false (.int 1) (.nm 2) (.var 1) (.not (.call "_law_is_pressed" s_law_is_pressed [.var 0, .var 2])) [("pressed", 2)]) (.lst false []))]

/-- slots: 0 bag, 1 value, 2 some, 3 at, 4 way -/
def b__law_odd (s_law_take s_law_odd : Spec) : List Sx := [
  .ite (.or (.not (.bi .isi [.var 1, .ty "tuple"])) (.cmp .eq (.call "_law_take" s_law_take [.var 0, .int 4]) (.int 0))) [
    .set (.nm 2) (.lst false [.non, .bl true, .int 0, .int 1, .int 5, .neg (.int 1), .str "", .str "no", .str "no here", .str "nothere", .str "no  up", .str "No up", .str "here", .str "open", .str "opened"]),
    .set (.nm 2) (.bin .add (.var 2) (.lst false [.str "shut", .tup [], .lst false [], .tup [.str "here"], .tup [.tup [], .str "on"], .tup [.int 1], .tup [.int 2, .int 1], .tup [.int 1, .int 1], .str "no no up", .bin .pow (.int 10) (.int 20)])),
    .ret (.ix (.var 2) (.call "_law_take" s_law_take [.var 0, .int 25]))] [],
  .par 3 4 (.call "_law_take" s_law_take [.var 0, .bin .add (.bi .len [.var 1]) (.int 1)]) (.call "_law_take" s_law_take [.var 0, .int 5]),
  .ite (.cmp .eq (.var 4) (.int 0)) [
    .ret (.bi (.lst false) [.var 1])] [],
  .ite (.or (.cmp .eq (.var 4) (.int 1)) (.cmp .eq (.var 3) (.bi .len [.var 1]))) [
    .ret (.bin .add (.bin .add (.sl (.var 1) .no (.var 3)) (.tup [.call "_law_odd" s_law_odd [.var 0, .non]])) (.sl (.var 1) (.var 3) .no))] [],
  .ite (.cmp .eq (.var 4) (.int 2)) [
    .ret (.bin .add (.bin .add (.sl (.var 1) .no (.var 3)) (.sl (.var 1) (.var 3) (.bin .add (.var 3) (.int 1)))) (.sl (.var 1) (.var 3) .no))] [],
  .ite (.cmp .eq (.var 4) (.int 3)) [
    .ret (.bin .add (.sl (.var 1) .no (.var 3)) (.sl (.var 1) (.bin .add (.var 3) (.int 1)) .no))] [],
  .ret (.bin .add (.bin .add (.sl (.var 1) .no (.var 3)) (.tup [.call "_law_odd" s_law_odd [.var 0, .ix (.var 1) (.var 3)]])) (.sl (.var 1) (.bin .add (.var 3) (.int 1)) .no))]

end Lf
set_option Elab.async false
set_option linter.all false
set_option maxRecDepth 100000
namespace Lf
open PySem PySem.Spec PyProof.Rows L2

/-! ### readings, opened -/
/-- by a truth -/
def cnd (b : Bool) (A B : Prop) : Prop := if b = true then A else B
@[simp] theorem cnd_true {A B : Prop} : cnd true A B = A := if_pos rfl
@[simp] theorem cnd_false {A B : Prop} : cnd false A B = B := if_neg Bool.false_ne_true
@[simp] theorem cnd_not {b : Bool} {A B : Prop} : cnd (!b) A B = cnd b B A := by cases b <;> rfl
@[simp] theorem cnd_self {b : Bool} {A : Prop} : cnd b A A = A := by cases b <;> simp
@[simp] theorem cnd_dup1 {b : Bool} {A B C : Prop} : cnd b (cnd b A B) C = cnd b A C := by cases b <;> simp
@[simp] theorem cnd_dup2 {b : Bool} {A B C : Prop} : cnd b A (cnd b B C) = cnd b A C := by cases b <;> simp
theorem cnd_i {b : Bool} {A B : Prop} (h : b = true → A) (g : b = false → B) : cnd b A B := by cases b <;> simp [h, g]
/-- d's truth -/
def Tst (S : Store) (d : D) (R : Bool → Prop) : Prop := ∃ k, truB S d = some k ∧ R k
@[simp] theorem t_bl {S : Store} {b : Bool} {R : Bool → Prop} : Tst S (.bl b) R = R b := propext ⟨fun ⟨_, e, h⟩ => by cases e; exact h, fun h => ⟨b, rfl, h⟩⟩
@[simp] theorem t_int {S : Store} {i : Int} {R : Bool → Prop} : Tst S (.int i) R = R (i != 0) := propext ⟨fun ⟨_, e, h⟩ => by cases e; exact h, fun h => ⟨_, rfl, h⟩⟩
@[simp] theorem t_non {S : Store} {R : Bool → Prop} : Tst S .non R = R false := propext ⟨fun ⟨_, e, h⟩ => by cases e; exact h, fun h => ⟨_, rfl, h⟩⟩
@[simp] theorem t_tup {S : Store} {ds : List D} {R : Bool → Prop} : Tst S (.tup ds) R = R (!ds.isEmpty) := propext ⟨fun ⟨_, e, h⟩ => by cases e; exact h, fun h => ⟨_, rfl, h⟩⟩
@[simp] theorem t_lst {S : Store} {ds : List D} {R : Bool → Prop} : Tst S (.lst ds) R = R (!ds.isEmpty) := propext ⟨fun ⟨_, e, h⟩ => by cases e; exact h, fun h => ⟨_, rfl, h⟩⟩
/-- z is a truth -/
def Chn (z : D) (R : Bool → Prop) : Prop := ∃ k, z = .bl k ∧ R k
@[simp] theorem chn_bl {b : Bool} {R : Bool → Prop} : Chn (.bl b) R = R b := propext ⟨fun ⟨_, e, h⟩ => by cases e; exact h, fun h => ⟨b, rfl, h⟩⟩
section
variable {δ : DSt} {S : Store} {Q : DK} {En : DEnds}
/-! operations on what is known -/
@[simp] theorem b_addI {i j : Int} : OpB.sem .add (.int i) (.int j) S Q = Q (.int (i + j)) S := rfl
@[simp] theorem b_addS {i j : Str} : OpB.sem .add (.str i) (.str j) S Q = (i.length + j.length ≤ sizeLine ∧ Q (.str (i ++ j)) S) := rfl
@[simp] theorem b_addT {i j : List D} : OpB.sem .add (.tup i) (.tup j) S Q = (i.length + j.length ≤ sizeLine ∧ Q (.tup (i ++ j)) S) := rfl
@[simp] theorem b_addL {i j : List D} : OpB.sem .add (.lst i) (.lst j) S Q = (i.length + j.length ≤ sizeLine ∧ Q (.lst (i ++ j)) S) := propext ⟨fun ⟨_, _, e1, e2, h⟩ => by cases e1; cases e2; exact h, fun h => ⟨_, _, rfl, rfl, h⟩⟩
@[simp] theorem b_subI {i j : Int} : OpB.sem .sub (.int i) (.int j) S Q = Q (.int (i - j)) S := rfl
@[simp] theorem b_mulI {i j : Int} : OpB.sem .mul (.int i) (.int j) S Q = (CMul i j ∧ Q (.int (i * j)) S) := rfl
@[simp] theorem b_mulT {ds : List D} {j : Int} : OpB.sem .mul (.tup ds) (.int j) S Q = (-1000 ≤ j ∧ j ≤ 1000 ∧ ds.length ≤ 1000 ∧ Q (.tup (repD ds j)) S) := rfl
@[simp] theorem b_fdivI {i j : Int} : OpB.sem .fdiv (.int i) (.int j) S Q = ((0 < j ∧ j < 1073741824) ∧ Q (.int (i / j)) S) := rfl
@[simp] theorem b_modI {i j : Int} : OpB.sem .mod (.int i) (.int j) S Q = (0 < j ∧ Q (.int (i % j)) S) := rfl
@[simp] theorem b_powI {i j : Int} : OpB.sem .pow (.int i) (.int j) S Q = ((0 ≤ j ∧ j ≤ 1000000 ∧ i.natAbs < 2 ^ 64) ∧ Q (.int (i ^ j.toNat)) S) := rfl
@[simp] theorem c_lt {i j : Int} : OpC.sem .lt (.int i) (.int j) S Q = Q (.bl (decide (i < j))) S := rfl
@[simp] theorem c_le {i j : Int} : OpC.sem .le (.int i) (.int j) S Q = Q (.bl (decide (i ≤ j))) S := rfl
@[simp] theorem c_gt {i j : Int} : OpC.sem .gt (.int i) (.int j) S Q = Q (.bl (decide (j < i))) S := rfl
@[simp] theorem c_ge {i j : Int} : OpC.sem .ge (.int i) (.int j) S Q = Q (.bl (decide (j ≤ i))) S := rfl
@[simp] theorem c_eqI {i j : Int} : OpC.sem .eq (.int i) (.int j) S Q = Q (.bl (i == j)) S := propext ⟨fun h => h.2.2, fun h => ⟨rfl, rfl, h⟩⟩
@[simp] theorem c_neI {i j : Int} : OpC.sem .ne (.int i) (.int j) S Q = Q (.bl (!(i == j))) S := propext ⟨fun h => h.2.2, fun h => ⟨rfl, rfl, h⟩⟩
@[simp] theorem c_eqB {i j : Bool} : OpC.sem .eq (.bl i) (.bl j) S Q = Q (.bl (i == j)) S := propext ⟨fun h => h.2.2, fun h => ⟨rfl, rfl, h⟩⟩
theorem c_eq {x y : D} : OpC.sem .eq x y S Q = (okD 64 (rsv S x) = true ∧ okD 64 (rsv S y) = true ∧ Q (.bl (deq (rsv S x) (rsv S y))) S) := rfl
theorem c_ne {x y : D} : OpC.sem .ne x y S Q = (okD 64 (rsv S x) = true ∧ okD 64 (rsv S y) = true ∧ Q (.bl (!deq (rsv S x) (rsv S y))) S) := rfl
@[simp] theorem c_inT {x : D} {ds : List D} : OpC.sem .inn x (.tup ds) S Q = (flatD x = true ∧ ds.all flatD = true ∧ Q (.bl (hasD x ds)) S) := by simp [OpC.sem, opIn]
@[simp] theorem c_ninT {x : D} {ds : List D} : OpC.sem .nin x (.tup ds) S Q = (flatD x = true ∧ ds.all flatD = true ∧ Q (.bl (!hasD x ds)) S) := by simp [OpC.sem, opIn]
@[simp] theorem c_inL {x : D} {ds : List D} : OpC.sem .inn x (.lst ds) S Q = (okD 64 x = true ∧ okDs 63 ds = true ∧ Q (.bl (hasD x ds)) S) := by simp [OpC.sem, opIn, asL, asD]
@[simp] theorem c_ninL {x : D} {ds : List D} : OpC.sem .nin x (.lst ds) S Q = (okD 64 x = true ∧ okDs 63 ds = true ∧ Q (.bl (!hasD x ds)) S) := by simp [OpC.sem, opIn, asL, asD]
@[simp] theorem c_isN {x : D} : OpC.sem .is x .non S Q = Q (.bl (isNon x)) S := by simp [OpC.sem, opIs]
@[simp] theorem c_isnN {x : D} : OpC.sem .isn x .non S Q = Q (.bl (!isNon x)) S := by simp [OpC.sem, opIs]
@[simp] theorem i_ixT {ds : List D} {j : Int} : opIx (.tup ds) (.int j) S Q = ∃ d, L2.atI ds j = some d ∧ Q d S := rfl
@[simp] theorem i_ixL {ds : List D} {j : Int} : opIx (.lst ds) (.int j) S Q = ∃ d, L2.atI ds j = some d ∧ Q d S := by simp [opIx, asL, asD]
theorem i_ixR {a : Addr} {ds : List D} {j : Int} (h : S a = some (.lst ds)) : opIx (.ref a) (.int j) S Q = ∃ d, L2.atI ds j = some d ∧ Q d S :=
  by simp [opIx, asL, asD, h]
theorem asD_ref {S : Store} {a : Addr} {ob : Obj} {ks vs : List D} (h : S a = some (.dic ob ks vs)) : asD S (.ref a) = some (ks, vs) := by simp only [asD, h]
theorem asL_none {S : Store} {a : Addr} {ob : Obj} {ks vs : List D} (h : S a = some (.dic ob ks vs)) : asL S (.ref a) = none := by simp only [asL, h]
theorem i_ixD {x y : D} {ks vs : List D} (h : asD S x = some (ks, vs)) (hl : asL S x = none) (ht : ∀ ds, x ≠ .tup ds) : opIx x y S Q = (dOk ks y = true ∧ ∃ d, findK ks vs y = some d ∧ Q d S) := by
  unfold opIx
  split
  · exact absurd rfl (ht _)
  · refine propext ⟨fun z => ?_, fun ⟨z1, d, z2, z3⟩ => .inr ⟨ks, vs, d, h, z1, z2, z3⟩⟩
    rcases z with ⟨i, ds, d, _, e, _⟩ | ⟨ks', vs', d, e, z1, z2, z3⟩
    · rw [hl] at e; cases e
    · rw [h] at e; cases e; exact ⟨z1, d, z2, z3⟩
theorem c_inD {x y : D} {ks vs : List D} (h : asD S y = some (ks, vs)) (hl : asL S y = none) (ht : ∀ ds, y ≠ .tup ds) : OpC.sem .inn x y S Q = (dOk ks x = true ∧ Q (.bl (findK ks vs x).isSome) S) := by
  simp only [OpC.sem, opIn]
  refine propext ⟨fun z => ?_, fun ⟨z1, z2⟩ => .inr ⟨ks, vs, h, z1, by simpa using z2⟩⟩
  rcases z with ⟨ds, e, _⟩ | ⟨ks', vs', e, z1, z2⟩
  · rw [hl] at e; cases e
  · rw [h] at e; cases e; exact ⟨z1, by simpa using z2⟩
theorem c_ninD {x y : D} {ks vs : List D} (h : asD S y = some (ks, vs)) (hl : asL S y = none) (ht : ∀ ds, y ≠ .tup ds) : OpC.sem .nin x y S Q = (dOk ks x = true ∧ Q (.bl (!(findK ks vs x).isSome)) S) := by
  simp only [OpC.sem, opIn]
  refine propext ⟨fun z => ?_, fun ⟨z1, z2⟩ => .inr ⟨ks, vs, h, z1, by simpa using z2⟩⟩
  rcases z with ⟨ds, e, _⟩ | ⟨ks', vs', e, z1, z2⟩
  · rw [hl] at e; cases e
  · rw [h] at e; cases e; exact ⟨z1, by simpa using z2⟩
theorem l_setD {a : Addr} {ob : Obj} {ks vs : List D} {i v : D} {K : Store → Prop} (h : S a = some (.dic ob ks vs)) : opSetL (.ref a) i v S K = (dOk ks i = true ∧ ks.length < sizeLine ∧ ∀ ob', K (ups S a (.dic ob' (putK ks i) (putV ks vs i v)))) := by
  refine propext ⟨fun z => ?_, fun z => .inr ⟨ob, ks, vs, h, z⟩⟩
  rcases z with ⟨k, ds, j, _, e, _⟩ | ⟨ob', ks', vs', e, z⟩
  · rw [h] at e; cases e
  · rw [h] at e; cases e; exact z
@[simp] theorem o_dct0 : (semB .dct0).1 δ S Q = ∀ p ob, S p = none → Q (.ref p) (ups S p (.dic ob [] [])) := by simp only [semB, val, sDct0]
@[simp] theorem o_dct1 {k v : Ex} : (semB (.dct1 k v)).1 δ S Q = ∀ p ob, S p = none → (semB k).1 δ (ups S p (.dic ob [] [])) fun x S1 => (semB v).1 δ S1 fun y S2 => S2 p = some (.dic ob [] []) ∧ (keyD x || leafD x) = true ∧ ∀ ob', Q (.ref p) (ups S2 p (.dic ob' [x] [y])) := by simp only [semB, val, sDct1]
@[simp] theorem o_get1 {o e : Ex} : (semB (.get1 o e)).1 δ S Q = (semB o).1 δ S fun d S1 => (∃ ks vs, asD S1 d = some (ks, vs)) ∧ (semB e).1 δ S1 fun k S2 => ∃ ks vs, asD S2 d = some (ks, vs) ∧ dOk ks k = true ∧ Q ((findK ks vs k).getD .non) S2 := by simp only [semB, val, sGet1]
@[simp] theorem o_get2 {o e f : Ex} : (semB (.get2 o e f)).1 δ S Q = (semB o).1 δ S fun d S1 => (∃ ks vs, asD S1 d = some (ks, vs)) ∧ (semB e).1 δ S1 fun k S2 => (semB f).1 δ S2 fun z S3 => ∃ ks vs, asD S3 d = some (ks, vs) ∧ dOk ks k = true ∧ Q ((findK ks vs k).getD z) S3 := by simp only [semB, val, sGet2]
@[simp] theorem a_0 {x : D} {xs : List D} : L2.atI (x :: xs) 0 = some x := L2.atI_nat (j := 0) rfl
@[simp] theorem a_1 {x y : D} {xs : List D} : L2.atI (x :: y :: xs) 1 = some y := L2.atI_nat (j := 1) rfl
@[simp] theorem a_2 {x y z : D} {xs : List D} : L2.atI (x :: y :: z :: xs) 2 = some z := L2.atI_nat (j := 2) rfl
@[simp] theorem a_3 {x y z u : D} {xs : List D} : L2.atI (x :: y :: z :: u :: xs) 3 = some u := L2.atI_nat (j := 3) rfl
@[simp] theorem s_slT {ds : List D} {l h : Option Int} : opSlA (.tup ds) l h S Q = Q (.tup (cutD ds l h)) S := rfl
@[simp] theorem s_slS {z : Str} {l h : Option Int} : opSlA (.str z) l h S Q = (z.length ≤ sizeLine ∧ Q (.str (cutS z l h)) S) := rfl
@[simp] theorem s_slR {ds : List D} {l h : Option Int} : opSlA (.scr ds) l h S Q = Q (.lst (cutD ds l h)) S := rfl
@[simp] theorem s_slL {ds : List D} {l h : Option Int} : opSlA (.lst ds) l h S Q = Q (.lst (cutD ds l h)) S := propext ⟨fun ⟨_, e, h⟩ => by cases e; exact h, fun h => ⟨_, rfl, h⟩⟩
theorem l_set {a : Addr} {ds : List D} {k : Int} {j : Nat} {v : D} {K : Store → Prop} (h : S a = some (.lst ds)) (hj : ixN ds.length k = some j) : opSetL (.ref a) (.int k) v S K = K (ups S a (.lst (ds.set j v))) := by
  simp [opSetL, h, hj]
theorem m_app {a : Addr} {ds : List D} {v : D} (h : S a = some (.lst ds)) : mApp (.ref a) [v] S Q = (ds.length < sizeLine ∧ Q .non (ups S a (.lst (ds ++ [v])))) :=
  propext ⟨fun ⟨_, e, h2⟩ => by rw [h] at e; cases e; exact h2, fun h2 => ⟨ds, h, h2⟩⟩
@[simp] theorem n_lenT {ds : List D} : BI.sem .len [.tup ds] S Q = Q (.int ds.length) S := rfl
@[simp] theorem n_lenL {ds : List D} : BI.sem .len [.lst ds] S Q = Q (.int ds.length) S := by simp [BI.sem, cLen, asL, asD]
theorem n_lenR {a : Addr} {ds : List D} (h : S a = some (.lst ds)) : BI.sem .len [.ref a] S Q = Q (.int ds.length) S := by simp [BI.sem, cLen, asL, asD, h]
theorem n_srtD {x : D} {ds : List D} (h : asL S x = some ds) : BI.sem .srtD [x] S Q = (SortOk ds ∧ Q (.lst (sortD ds)) S) := by simp [BI.sem, cSortD, h]
@[simp] theorem n_tupT {ds : List D} : BI.sem .tup [.tup ds] S Q = Q (.tup ds) S := rfl
@[simp] theorem n_tupL {ds : List D} : BI.sem .tup [.lst ds] S Q = Q (.tup ds) S := propext ⟨fun ⟨_, e, h⟩ => by cases e; exact h, fun h => ⟨_, rfl, h⟩⟩
@[simp] theorem n_lst {x : D} {ds : List D} (h : x = .tup ds ∨ x = .lst ds) : BI.sem (.lst false) [x] S Q = Q (.lst ds) S := by
  refine propext ⟨fun ⟨_, es, e, hx, q⟩ => ?_, fun q => ⟨x, ds, rfl, ?_, q⟩⟩
  · cases e
    rcases h with h | h <;> subst h <;> simp [asL, asD] at hx <;> subst hx <;> exact q
  · rcases h with h | h <;> simp [h, asL, asD]
theorem n_all {bs : List Bool} : BI.sem .all [.lst (bs.map D.bl)] S Q = Q (.bl (bs.all id)) S := by
  refine propext ⟨fun ⟨cs, e, h⟩ => ?_, fun h => ⟨bs, rfl, h⟩⟩
  have : cs = bs := by
    have e2 : bs.map D.bl = cs.map D.bl := by simpa [asL] using e
    exact ((List.map_inj_right (fun a b => by simp)).mp e2).symm
  subst this; exact h
theorem n_all' {ds : List D} {bs : List Bool} (e : ds = bs.map D.bl) : BI.sem .all [.lst ds] S Q = Q (.bl (bs.all id)) S := by subst e; exact n_all
@[simp] theorem n_min2 {i j : Int} : BI.sem .min2 [.int i, .int j] S Q = Q (.int (if j < i then j else i)) S := rfl
@[simp] theorem n_max2 {i j : Int} : BI.sem .max2 [.int i, .int j] S Q = Q (.int (if j > i then j else i)) S := rfl
@[simp] theorem n_intB {b : Bool} : BI.sem .int [.bl b] S Q = Q (.int (if b then 1 else 0)) S := rfl
@[simp] theorem n_isi1 {x : D} {n : String} : BI.sem .isi [x, .ty n] S Q = ∃ t, tyD S x = some t ∧ tyOk n = true ∧ Q (.bl (isi t n)) S := rfl
theorem ty_map {ns ms : List String} (e : ns.map D.ty = ms.map D.ty) : ns = ms := (List.map_inj_right (fun a b => by simp)).mp e
@[simp] theorem n_isi3 {x : D} {a b c : String} : BI.sem .isi [x, .tup [.ty a, .ty b, .ty c]] S Q = ∃ t, tyD S x = some t ∧ (tyOk a && tyOk b && tyOk c) = true ∧ Q (.bl (isi t a || (isi t b || isi t c))) S := by
  refine propext ⟨fun ⟨t, ns, e, e2, h1, h⟩ => ?_, fun ⟨t, e, h1, h⟩ => ⟨t, [a, b, c], e, rfl, ?_, ?_⟩⟩
  · have : [a, b, c] = ns := ty_map (by simpa using e2)
    subst this
    exact ⟨t, e, by simpa [Bool.and_assoc] using h1, by simpa using h⟩
  · simpa [Bool.and_assoc] using h1
  · simpa using h
@[simp] theorem o_tru {t : DT} {R : Bool → Store → Prop} : sTru t δ S R = t δ S fun d S1 => Tst S1 d fun k => R k S1 := rfl
@[simp] theorem o_var {i : Nat} : (semB (.var i)).1 δ S Q = ∃ d, δ[i]? = some (some d) ∧ Q d S := by simp only [semB, val, sVar]
@[simp] theorem o_int {i : Int} : (semB (.int i)).1 δ S Q = Q (.int i) S := by simp only [semB, val, sC]
@[simp] theorem o_str {s : String} : (semB (.str s)).1 δ S Q = Q (.str (Str.ofString s)) S := by simp only [semB, val, sC]
@[simp] theorem o_bl {b : Bool} : (semB (.bl b)).1 δ S Q = Q (.bl b) S := by simp only [semB, val, sC]
@[simp] theorem o_non : (semB .non).1 δ S Q = Q .non S := by simp only [semB, val, sC]
@[simp] theorem o_gl {x : String} {d : D} : (semB (.gl x d)).1 δ S Q = Q d S := by simp only [semB, val, sC]
@[simp] theorem o_ty {x : String} : (semB (.ty x)).1 δ S Q = Q (.ty x) S := by simp only [semB, val, sC]
@[simp] theorem o_tup {es : List Ex} : (semB (.tup es)).1 δ S Q = sems es δ S fun ds S1 => ds.length ≤ sizeLine ∧ Q (.tup ds) S1 := by simp only [semB, val, sTup]
@[simp] theorem o_lst {es : List Ex} : (semB (.lst false es)).1 δ S Q = sems es δ S fun ds S1 => ds.length ≤ sizeLine ∧ Q (.lst ds) S1 := by simp only [semB, val, sLst]
@[simp] theorem o_lstN {es : List Ex} : (semB (.lst true es)).1 δ S Q = sems es δ S fun ds S1 => ds.length ≤ sizeLine ∧ ∀ p, S1 p = none → Q (.ref p) (ups S1 p (.lst ds)) := by simp only [semB, val, sLstN]
@[simp] theorem o_bin {o : OpB} {a b : Ex} : (semB (.bin o a b)).1 δ S Q = (semB a).1 δ S fun x S1 => (semB b).1 δ S1 fun y S2 => o.sem x y S2 Q := by simp only [semB, val, sOp]
@[simp] theorem o_not {a : Ex} : (semB (.not a)).1 δ S Q = (semB a).1 δ S fun d S1 => Tst S1 d fun k => Q (.bl (!k)) S1 := by simp only [semB, val, sNot, Tst]
@[simp] theorem o_neg {a : Ex} : (semB (.neg a)).1 δ S Q = sNeg (semB a).1 δ S Q := by simp only [semB, val]
@[simp] theorem o_cmp {o : OpC} {a b : Ex} : (semB (.cmp o a b)).1 δ S Q = (semB a).1 δ S fun x S1 => (semB b).1 δ S1 fun y S2 => o.sem x y S2 Q := by simp only [semB, val, sOp]
@[simp] theorem o_chn {o o' : OpC} {a b c : Ex} : (semB (.chn o o' a b c)).1 δ S Q = (semB a).1 δ S fun x S1 => (semB b).1 δ S1 fun y S2 => o.sem x y S2 fun z S3 => Chn z fun k => cnd k ((semB c).1 δ S3 fun w S4 => o'.sem y w S4 Q) (Q (.bl false) S3) := by simp only [semB, val, sChn, Chn, cnd]
@[simp] theorem o_and {a b : Ex} : (semB (.and a b)).1 δ S Q = (semB a).1 δ S fun d S1 => Tst S1 d fun k => cnd k ((semB b).1 δ S1 Q) (Q d S1) := by simp only [semB, val, sAnd, Tst, cnd]
@[simp] theorem o_or {a b : Ex} : (semB (.or a b)).1 δ S Q = (semB a).1 δ S fun d S1 => Tst S1 d fun k => cnd k (Q d S1) ((semB b).1 δ S1 Q) := by simp only [semB, val, sOr, Tst, cnd]
@[simp] theorem o_ite {c a b : Ex} : (semB (.ite c a b)).1 δ S Q = (semB c).1 δ S fun d S1 => Tst S1 d fun k => cnd k ((semB a).1 δ S1 Q) ((semB b).1 δ S1 Q) := by simp only [semB, val, sIte, Tst, cnd]
@[simp] theorem o_ix {a b : Ex} : (semB (.ix a b)).1 δ S Q = (semB a).1 δ S fun x S1 => (semB b).1 δ S1 fun y S2 => opIx x y S2 Q := by simp only [semB, val, sOp]
@[simp] theorem o_sl00 {a : Ex} : (semB (.sl a .no .no)).1 δ S Q = (semB a).1 δ S fun d S1 => opSlA d none none S1 Q := by simp only [semB, val, sSlA, pOf, sNoP]
@[simp] theorem o_sl {a lo hi : Ex} : (semB (.sl a lo hi)).1 δ S Q = (semB a).1 δ S fun d S1 => pOf lo (semB lo).1 δ S1 fun l S2 => pOf hi (semB hi).1 δ S2 fun h S3 => opSlA d l h S3 Q := by simp only [semB, val, sSlA]
@[simp] theorem o_no {t : DT} {R : Option Int → Store → Prop} : pOf .no t δ S R = R none S := by simp only [pOf, sNoP]
@[simp] theorem o_pint {i : Int} {R : Option Int → Store → Prop} : pOf (.int i) (semB (.int i)).1 δ S R = R (some i) S := by simp only [pOf, sP, o_int]
@[simp] theorem o_pvar {i : Nat} {R : Option Int → Store → Prop} : pOf (.var i) (semB (.var i)).1 δ S R = ∃ k, δ[i]? = some (some (.int k)) ∧ R (some k) S := by
  simp only [pOf, sP, o_var]
  refine propext ⟨fun ⟨d, e, h⟩ => ?_, fun ⟨k, e, h⟩ => ⟨.int k, e, h⟩⟩
  cases d <;> first | exact ⟨_, e, h⟩ | exact h.elim
@[simp] theorem o_pbin {o : OpB} {a b : Ex} {R : Option Int → Store → Prop} : pOf (.bin o a b) (semB (.bin o a b)).1 δ S R = (semB a).1 δ S fun x S1 => (semB b).1 δ S1 fun y S2 => o.sem x y S2 fun d S3 => match d with
  | .int i => R (some i) S3
  | _ => False := by simp only [pOf, sP, o_bin] <;> rfl
@[simp] theorem o_call {f : String} {sp : Spec} {as : List Ex} : (semB (.call f sp as)).1 δ S Q = sems as δ S fun ds S1 => sp ds S1 Q := by simp only [semB, val, sCall]
@[simp] theorem o_bi {b : BI} {as : List Ex} : (semB (.bi b as)).1 δ S Q = sems as δ S fun ds S1 => b.sem ds S1 Q := by simp only [semB, val, sCall]
@[simp] theorem o_app {o e : Ex} : (semB (.app o e)).1 δ S Q = (semB o).1 δ S fun d S1 => (∃ a ds, d = .ref a ∧ S1 a = some (.lst ds)) ∧ (semB e).1 δ S1 fun x S2 => mApp d [x] S2 Q := by simp only [semB, val, sAppL]
@[simp] theorem o_sset {a : Ex} : (semB (.sset a)).1 δ S Q = (semB a).1 δ S fun d S1 => cSortSet [d] S1 Q := by simp only [semB, val, sCall, sCons, sNil]
@[simp] theorem o_rgc1 {t : Bool} {b : Ex} : (semB (.rgc1 t b)).1 δ S Q = (semB b).1 δ S fun y S2 => ∃ j, y = .int j ∧ RgOk 0 j ∧ Q (rgOut t 0 j) S2 := by simp only [semB, val, sRg1]
@[simp] theorem o_rgc2 {t : Bool} {a b : Ex} : (semB (.rgc2 t a b)).1 δ S Q = (semB a).1 δ S fun x S1 => (semB b).1 δ S1 fun y S2 => ∃ i j, x = .int i ∧ y = .int j ∧ RgOk i j ∧ Q (rgOut t i j) S2 := by simp only [semB, val, sRg2]
@[simp] theorem o_nil {R : List D → Store → Prop} : sems [] δ S R = R [] S := by simp only [sems, sNil]
@[simp] theorem o_cons {e : Ex} {es : List Ex} {R : List D → Store → Prop} : sems (e :: es) δ S R = (semB e).1 δ S fun d S1 => sems es δ S1 fun ds S2 => R (d :: ds) S2 := by simp only [sems, sCons]
/-- a comprehension, its items known -/
theorem o_lc {new : Bool} {elt src cond : Ex} {tg : Tg} {own : List (String × Nat)} : (semB (.lc new elt tg src cond own)).1 δ S Q =
    (semB src).2 δ S fun ds g S1 => ∀ p, S1 p = none → lcS g tg (cOf cond (semB cond).1) (semB elt).1 (wipeD δ (own.map (·.2))) p (finL new p Q) ds [] (ups S1 p (.lst [])) := by simp only [semB, val, sLc]
/-! ### statements -/
@[simp] theorem p_nil : semSs [] En δ S = En.nx δ S := by simp only [semSs, sNext]
@[simp] theorem p_cons {s : Sx} {r : List Sx} : semSs (s :: r) En δ S = semS s { En with nx := semSs r En } δ S := by simp only [semSs, sSeq]
@[simp] theorem p_set {i : Nat} {e : Ex} : semS (.set (.nm i) e) En δ S = (semB e).1 δ S fun d S1 => En.nx (δ.set i (some d)) S1 := by simp only [semS, sSet, sem, tgD]
/-- d put to the target -/
def Tgt (g : Tg) (d : D) (δ : DSt) (R : DSt → Prop) : Prop := match tgD g d δ with
  | some δ1 => R δ1
  | none => False
def Tgts (ts : List Tg) (ds : List D) (δ : DSt) (R : DSt → Prop) : Prop := match tgDs ts ds δ with
  | some δ1 => R δ1
  | none => False
@[simp] theorem tgt_tup {ts : List Tg} {ds : List D} {R : DSt → Prop} : Tgt (.tp ts) (.tup ds) δ R = Tgts ts ds δ R := rfl
@[simp] theorem tgts_nil {R : DSt → Prop} : Tgts [] [] δ R = R δ := rfl
@[simp] theorem tgts_nm {i : Nat} {ts : List Tg} {d : D} {ds : List D} {R : DSt → Prop} : Tgts (.nm i :: ts) (d :: ds) δ R = Tgts ts ds (δ.set i (some d)) R := rfl
@[simp] theorem tgts_tp {us ts : List Tg} {d : D} {ds : List D} {R : DSt → Prop} : Tgts (.tp us :: ts) (d :: ds) δ R = Tgt (.tp us) d δ fun δ1 => Tgts ts ds δ1 R := by
  unfold Tgts Tgt
  simp only [tgDs]
  cases tgD (.tp us) d δ <;> rfl
@[simp] theorem p_setT {ts : List Tg} {e : Ex} : semS (.set (.tp ts) e) En δ S = (semB e).1 δ S fun d S1 => Tgt (.tp ts) d δ fun δ1 => En.nx δ1 S1 := by
  simp only [semS, sSet, sem, Tgt] <;> rfl
@[simp] theorem p_par {i j : Nat} {a b : Ex} : semS (.par i j a b) En δ S = (semB a).1 δ S fun d S1 => (semB b).1 δ S1 fun e S2 => En.nx ((δ.set i (some d)).set j (some e)) S2 := by simp only [semS, sPar, sems, sCons, sNil]
@[simp] theorem p_par3 {i j l : Nat} {a b c : Ex} : semS (.par3 i j l a b c) En δ S = (semB a).1 δ S fun d S1 => (semB b).1 δ S1 fun e S2 => (semB c).1 δ S2 fun f S3 => En.nx (((δ.set i (some d)).set j (some e)).set l (some f)) S3 := by simp only [semS, sPar3, sems, sCons, sNil]
@[simp] theorem p_setL {o i e : Ex} : semS (.setL o i e) En δ S = (semB e).1 δ S fun v S1 => (semB o).1 δ S1 fun o S2 => (semB i).1 δ S2 fun i S3 => opSetL o i v S3 fun S4 => En.nx δ S4 := by simp only [semS, sSetL, sem]
@[simp] theorem p_exp {e : Ex} : semS (.exp e) En δ S = (semB e).1 δ S fun _ S1 => En.nx δ S1 := by simp only [semS, sDrop, sem]
@[simp] theorem p_ite {c : Ex} {a b : List Sx} : semS (.ite c a b) En δ S = (semB c).1 δ S fun d S1 => Tst S1 d fun k => cnd k (semSs a En δ S1) (semSs b En δ S1) := by simp only [semS, sIf, sem, Tst, cnd]
/-- x handed back at S1 -/
def Ret (En : DEnds) (x : D) (S1 : Store) : Prop := ∃ d S2, (∀ a m, S2 a = some m → S1 a = some m) ∧ Frz S1 S2 d x ∧ En.rt d S2
theorem Ret.same {x : D} (h : En.rt x S) : Ret En x S := ⟨x, S, fun _ _ e => e, Frz.refl S S x, h⟩
theorem Ret.less {x : D} (S2 : Store) (hs : ∀ a m, S2 a = some m → S a = some m) (h : En.rt x S2) : Ret En x S := ⟨x, S2, hs, Frz.refl S S2 x, h⟩
@[simp] theorem p_ret {e : Ex} : semS (.ret e) En δ S = (semB e).1 δ S fun x S1 => Ret En x S1 := by simp only [semS, sRet, sem, Ret]
@[simp] theorem r_or {x y : Bool} : cnd x (Ret En (.bl x) S) (Ret En (.bl y) S) = Ret En (.bl (x || y)) S := by cases x <;> simp
@[simp] theorem r_and {x y : Bool} : cnd x (Ret En (.bl y) S) (Ret En (.bl x) S) = Ret En (.bl (x && y)) S := by cases x <;> simp
@[simp] theorem r_if {x y : Bool} : cnd x (Ret En (.bl y) S) (Ret En (.bl false) S) = Ret En (.bl (x && y)) S := by cases x <;> simp
@[simp] theorem r_unless {x y : Bool} : cnd x (Ret En (.bl false) S) (Ret En (.bl y) S) = Ret En (.bl (!x && y)) S := by cases x <;> simp
@[simp] theorem e_nx {R : DK} : (endsOf R).nx δ S = R .non S := rfl
@[simp] theorem e_rt {R : DK} {d : D} : (endsOf R).rt d S = R d S := rfl
@[simp] theorem p_brk : semS .brk En δ S = En.bk δ S := by simp only [semS, sBrk]
@[simp] theorem p_cont : semS .cont En δ S = En.ct δ S := by simp only [semS, sCont]
@[simp] theorem p_pass : semS .pass En δ S = En.nx δ S := by simp only [semS, sNext]
@[simp] theorem p_nev : semS .nev En δ S = False := by simp only [semS]
theorem p_for {g : Tg} {s : Ex} {b : List Sx} : semS (.forr g s b) En δ S = (semB s).2 δ S fun ds gd S1 => forS gd g (semSs b) En ds δ S1 := by simp only [semS, sFor, semI]
/-! ### what is walked -/
@[simp] theorem w_rng1 {a : Ex} {R : List D → (Store → Prop) → Store → Prop} : (semB (.rng1 a)).2 δ S R = (semB a).1 δ S fun d S1 => ∃ j, d = .int j ∧ -(2 ^ 62) ≤ j ∧ j < 2 ^ 62 ∧ R (rngD 0 j.toNat) (fun _ => True) S1 := by
  simp only [semB, wlk, sRng1, sCons, sNil]
  refine congrArg _ (funext fun d => funext fun S1 => ?_)
  cases d <;> simp
@[simp] theorem w_rng2 {a b : Ex} {R : List D → (Store → Prop) → Store → Prop} : (semB (.rng2 a b)).2 δ S R = (semB a).1 δ S fun d S1 => (semB b).1 δ S1 fun e S2 => ∃ i j, d = .int i ∧ e = .int j ∧ (-(2 ^ 62) ≤ i ∧ i < 2 ^ 62 ∧ -(2 ^ 62) ≤ j ∧ j < 2 ^ 62) ∧ R (rngD i (j - i).toNat) (fun _ => True) S2 := by
  simp only [semB, wlk, sRng2, sCons, sNil]
  refine congrArg _ (funext fun d => funext fun S1 => congrArg _ (funext fun e => funext fun S2 => ?_))
  cases d <;> cases e <;> simp
@[simp] theorem w_enm {a : Ex} {R : List D → (Store → Prop) → Store → Prop} : (semB (.enm a)).2 δ S R = (semB a).1 δ S fun d S1 => sEnumV R d S1 := by simp only [semB, wlk, sEnum]
def zipV (R : List D → (Store → Prop) → Store → Prop) (x y : D) (S1 : Store) : Prop := match x, y with
  | .tup xs, .tup ys => R (zipD xs ys) (fun _ => True) S1
  | x, y => ∃ xs ys, asL S1 x = some xs ∧ asL S1 y = some ys ∧ R (zipD xs ys) (fun S' => lstG S1 x S' ∧ lstG S1 y S') S1
@[simp] theorem w_zip {a b : Ex} {R : List D → (Store → Prop) → Store → Prop} : (semB (.zip a b)).2 δ S R = (semB a).1 δ S fun d S1 => (semB b).1 δ S1 fun e S2 => zipV R d e S2 := by
  simp only [semB, wlk, sZip, sCons, sNil]
  refine congrArg _ (funext fun d => funext fun S1 => congrArg _ (funext fun e => funext fun S2 => ?_))
  cases d <;> cases e <;> rfl
/-- a value walked -/
def itrV (R : List D → (Store → Prop) → Store → Prop) (d : D) (S1 : Store) : Prop := match d with
  | .tup ds => R ds (fun _ => True) S1
  | .scr ds => R ds (fun _ => True) S1
  | d => (∃ ds, asL S1 d = some ds ∧ R ds (lstG S1 d) S1) ∨ ∃ ks vs, asD S1 d = some (ks, vs) ∧ R ks (dicG S1 d) S1
theorem w_val {a : Ex} (h : isWalk a = false) {R : List D → (Store → Prop) → Store → Prop} : (semB a).2 δ S R = (semB a).1 δ S fun d S1 => itrV R d S1 := by
  have := semI_of h
  unfold semI sem at this
  rw [this]; rfl
@[simp] theorem w_var {i : Nat} {R : List D → (Store → Prop) → Store → Prop} : (semB (.var i)).2 δ S R = ∃ d, δ[i]? = some (some d) ∧ itrV R d S := by rw [w_val rfl, o_var]
@[simp] theorem w_ix {a b : Ex} {R : List D → (Store → Prop) → Store → Prop} : (semB (.ix a b)).2 δ S R = (semB (.ix a b)).1 δ S fun d S1 => itrV R d S1 := w_val rfl
@[simp] theorem w_call {f : String} {sp : Spec} {as : List Ex} {R : List D → (Store → Prop) → Store → Prop} : (semB (.call f sp as)).2 δ S R = sems as δ S fun ds S1 => sp ds S1 fun d S1 => itrV R d S1 := by rw [w_val rfl, o_call]
@[simp] theorem v_tup {R : List D → (Store → Prop) → Store → Prop} {ds : List D} : itrV R (.tup ds) S = R ds (fun _ => True) S := rfl
@[simp] theorem v_lst {R : List D → (Store → Prop) → Store → Prop} {ds : List D} : itrV R (.lst ds) S = R ds (fun _ => True) S := by simp [itrV, asL, asD]; rfl
@[simp] theorem v_dic {R : List D → (Store → Prop) → Store → Prop} {ks vs : List D} : itrV R (.dic ks vs) S = R ks (fun _ => True) S := by simp [itrV, asL, asD]; rfl
@[simp] theorem w_rngd {a b c : Ex} {R : List D → (Store → Prop) → Store → Prop} : (semB (.rngd a b c)).2 δ S R = (semB a).1 δ S fun d S1 => (semB b).1 δ S1 fun e S2 => (semB c).1 δ S2 fun f S3 => ∃ i j, d = .int i ∧ e = .int j ∧ f = .int (-1) ∧ (-(2 ^ 62) ≤ i ∧ i < 2 ^ 62 ∧ -(2 ^ 62) ≤ j ∧ j < 2 ^ 62) ∧ R (rngC i (-1) (i - j).toNat) (fun _ => True) S3 := by
  simp only [semB, wlk, sRngD, sCons, sNil]
  refine congrArg _ (funext fun d => funext fun S1 => congrArg _ (funext fun e => funext fun S2 => congrArg _ (funext fun f => funext fun S3 => ?_)))
  cases d <;> cases e <;> cases f <;> simp
@[simp] theorem v_enumT {R : List D → (Store → Prop) → Store → Prop} {ds : List D} : sEnumV R (.tup ds) S = R (enumD 0 ds) (fun _ => True) S := rfl
@[simp] theorem v_enumL {R : List D → (Store → Prop) → Store → Prop} {ds : List D} : sEnumV R (.lst ds) S = R (enumD 0 ds) (fun _ => True) S := by simp [sEnumV, asL]; rfl
@[simp] theorem v_zipT {R : List D → (Store → Prop) → Store → Prop} {xs ys : List D} : zipV R (.tup xs) (.tup ys) S = R (zipD xs ys) (fun _ => True) S := rfl
@[simp] theorem v_zipL {R : List D → (Store → Prop) → Store → Prop} {xs ys : List D} : zipV R (.lst xs) (.lst ys) S = R (zipD xs ys) (fun _ => True ∧ True) S :=
  propext ⟨fun ⟨_, _, e1, e2, h⟩ => by cases e1; cases e2; exact h, fun h => ⟨_, _, rfl, rfl, h⟩⟩

/-! ### comprehensions that write nothing -/
theorem ups_at {S : Store} {p : Addr} {m : MO} : ups S p m p = some m := by unfold ups; simp
/-- reads only: at each store with q, the same -/
def Reads (t : DT) (δ : DSt) (q : Store → Prop) (d : D) : Prop := ∀ S Q, q S → Q d S → t δ S Q
def ReadsB (t : DB) (δ : DSt) (q : Store → Prop) (b : Bool) : Prop := ∀ S Q, q S → Q b S → t δ S Q
/-- the comprehension's turns: items by α, kept where p, as f -/
theorem lcS_map {α : Type} {g : Store → Prop} {tg : Tg} {tt : DB} {te : DT} {δ : DSt} {pa : Addr} {K : List D → Store → Prop} (enc : α → D) (p : α → Bool) (f : α → D) (q : Store → Prop) {S0 : Store} :
    ∀ (xs : List α) (acc : List D), (∀ l, q (ups S0 pa (.lst l))) → (∀ l, g (ups S0 pa (.lst l))) → (∀ x ∈ xs, ∃ δ1, tgD tg (enc x) δ = some δ1 ∧ ReadsB tt δ1 q (p x) ∧ (p x = true → Reads te δ1 q (f x))) → acc.length + xs.length ≤ sizeLine →
      K (acc ++ (xs.filter p).map f) (ups S0 pa (.lst (acc ++ (xs.filter p).map f))) → lcS g tg tt te δ pa K (xs.map enc) acc (ups S0 pa (.lst acc))
  | [], acc, hq, hg, h, hl, k => by
    simp only [List.map_nil, lcS]
    exact ⟨hg acc, by simpa using k⟩
  | x :: xs, acc, hq, hg, h, hl, k => by
    simp only [List.map_cons, lcS]
    refine ⟨hg acc, ?_⟩
    obtain ⟨δ1, e1, ht, he⟩ := h x (by simp)
    rw [e1]
    refine ht _ _ (hq acc) ?_
    simp only [List.length_cons] at hl
    cases hp : p x with
    | true =>
      simp only [if_true]
      refine he hp _ _ (hq acc) ?_
      refine ⟨ups_at, by omega, ?_⟩
      rw [ups_ups]
      refine lcS_map enc p f q xs (acc ++ [f x]) hq hg (fun y hy => h y (by simp [hy])) (by simp; omega) ?_
      have e : acc ++ [f x] ++ (xs.filter p).map f = acc ++ ((x :: xs).filter p).map f := by simp [hp]
      rw [e]; exact k
    | false =>
      simp only [Bool.false_eq_true, if_false]
      refine lcS_map enc p f q xs acc hq hg (fun y hy => h y (by simp [hy])) (by omega) ?_
      have e : ((x :: xs).filter p).map f = (xs.filter p).map f := by simp [hp]
      rw [e] at k; exact k
theorem lc_read {α : Type} {g : Store → Prop} {tg : Tg} {tt : DB} {te : DT} {δ : DSt} {Q : DK} (enc : α → D) (p : α → Bool) (f : α → D) (q : Store → Prop) {S : Store} {xs : List α} {ds : List D} {pa : Addr} (hp : S pa = none) (e : ds = xs.map enc)
    (hq : ∀ l, q (ups S pa (.lst l))) (hg : ∀ l, g (ups S pa (.lst l))) (h : ∀ x ∈ xs, ∃ δ1, tgD tg (enc x) δ = some δ1 ∧ ReadsB tt δ1 q (p x) ∧ (p x = true → Reads te δ1 q (f x))) (hl : xs.length ≤ sizeLine)
    (k : Q (.lst ((xs.filter p).map f)) S) : lcS g tg tt te δ pa (finL false pa Q) ds [] (ups S pa (.lst [])) := by
  subst e
  refine lcS_map enc p f q xs [] hq hg h (by simpa using hl) ?_
  simp only [finL, List.nil_append]
  exact ⟨ups_at, by rw [drp_ups hp]; exact k⟩
theorem readsB_yes {δ : DSt} {q : Store → Prop} : ReadsB sYes δ q true := fun S Q _ h => h
theorem readsB_tru {t : DT} {δ : DSt} {q : Store → Prop} {b : Bool} (h : ∀ S Q, q S → Q (.bl b) S → t δ S Q) : ReadsB (sTru t) δ q b := fun S Q hq k => h S _ hq ⟨b, rfl, k⟩
end
end Lf
set_option Elab.async false
set_option linter.all false
set_option maxRecDepth 100000
namespace Lf
open PySem PySem.Spec PyProof.Rows L2

/-! ### values told -/
mutual
/-- data no deeper than n, no longer than L anywhere -/
def gd (L : Nat) : Nat → D → Bool
  | _, .non => true
  | _, .bl _ => true
  | _, .int _ => true
  | _, .str s => PyData.strOk s && decide (s.length ≤ 1000)
  | 0, .tup _ => false
  | n + 1, .tup ds => decide (ds.length ≤ L) && gds L n ds
  | 0, .lst _ => false
  | n + 1, .lst ds => decide (ds.length ≤ L) && gds L n ds
  | _, _ => false
def gds (L : Nat) : Nat → List D → Bool
  | _, [] => true
  | n, d :: ds => gd L n d && gds L n ds
end
mutual
theorem gd_ok {L n : Nat} : ∀ {d : D}, gd L n d = true → okD n d = true
  | .non, _ => by simp [okD]
  | .bl _, _ => by simp [okD]
  | .int _, _ => by simp [okD]
  | .str s, h => by simp [gd] at h; simp [okD, h.1]
  | .tup ds, h => by
    cases n with
    | zero => simp [gd] at h
    | succ n => simp [gd] at h; simp [okD, gds_ok h.2]
  | .lst ds, h => by
    cases n with
    | zero => simp [gd] at h
    | succ n => simp [gd] at h; simp [okD, gds_ok h.2]
  | .dic _ _, h => by cases n <;> simp [gd] at h
  | .ref _, h => by cases n <;> simp [gd] at h
  | .ty _, h => by cases n <;> simp [gd] at h
  | .scr _, h => by cases n <;> simp [gd] at h
theorem gds_ok {L n : Nat} : ∀ {ds : List D}, gds L n ds = true → okDs n ds = true
  | [], _ => by simp [okDs]
  | d :: ds, h => by
    have h' : gd L n d = true ∧ gds L n ds = true := by simpa [gds] using h
    simp [okDs, gd_ok h'.1, gds_ok h'.2]
end
theorem gds_mem {L n : Nat} : ∀ {ds : List D}, gds L n ds = true → ∀ d ∈ ds, gd L n d = true
  | [], _, d, h => by simp at h
  | e :: ds, h, d, hd => by
    have h' : gd L n e = true ∧ gds L n ds = true := by simpa [gds] using h
    rcases List.mem_cons.mp hd with z | z
    · rw [z]; exact h'.1
    · exact gds_mem h'.2 d z
mutual
theorem okD_le {n m : Nat} (hl : n ≤ m) : ∀ {d : D}, okD n d = true → okD m d = true
  | .non, _ => by simp [okD]
  | .bl _, _ => by simp [okD]
  | .int _, _ => by simp [okD]
  | .str s, h => by simp [okD] at h; simp [okD, h]
  | .tup ds, h => by
    cases n with
    | zero => simp [okD] at h
    | succ n =>
      cases m with
      | zero => omega
      | succ m => simp [okD] at h; simp [okD, okDs_le (n := n) (m := m) (by omega) h]
  | .lst ds, h => by
    cases n with
    | zero => simp [okD] at h
    | succ n =>
      cases m with
      | zero => omega
      | succ m => simp [okD] at h; simp [okD, okDs_le (n := n) (m := m) (by omega) h]
  | .dic _ _, h => by cases n <;> simp [okD] at h
  | .ref _, h => by cases n <;> simp [okD] at h
  | .ty _, h => by cases n <;> simp [okD] at h
  | .scr _, h => by cases n <;> simp [okD] at h
theorem okDs_le {n m : Nat} (hl : n ≤ m) : ∀ {ds : List D}, okDs n ds = true → okDs m ds = true
  | [], _ => by simp [okDs]
  | d :: ds, h => by
    have h' : okD n d = true ∧ okDs n ds = true := by simpa [okDs] using h
    simp [okDs, okD_le hl h'.1, okDs_le hl h'.2]
end

mutual
theorem gd_le {L M n m : Nat} (hL : L ≤ M) (hl : n ≤ m) : ∀ {d : D}, gd L n d = true → gd M m d = true
  | .non, _ => by simp [gd]
  | .bl _, _ => by simp [gd]
  | .int _, _ => by simp [gd]
  | .str s, h => by simp [gd] at h; simp [gd, h]
  | .tup ds, h => by
    cases n with
    | zero => simp [gd] at h
    | succ n =>
      cases m with
      | zero => omega
      | succ m => simp [gd] at h; simp [gd, gds_le (n := n) (m := m) hL (by omega) h.2]; omega
  | .lst ds, h => by
    cases n with
    | zero => simp [gd] at h
    | succ n =>
      cases m with
      | zero => omega
      | succ m => simp [gd] at h; simp [gd, gds_le (n := n) (m := m) hL (by omega) h.2]; omega
  | .dic _ _, h => by cases n <;> simp [gd] at h
  | .ref _, h => by cases n <;> simp [gd] at h
  | .ty _, h => by cases n <;> simp [gd] at h
  | .scr _, h => by cases n <;> simp [gd] at h
theorem gds_le {L M n m : Nat} (hL : L ≤ M) (hl : n ≤ m) : ∀ {ds : List D}, gds L n ds = true → gds M m ds = true
  | [], _ => by simp [gds]
  | d :: ds, h => by
    have h' : gd L n d = true ∧ gds L n ds = true := by simpa [gds] using h
    simp [gds, gd_le hL hl h'.1, gds_le hL hl h'.2]
end
theorem gds_of {L n : Nat} : ∀ {ds : List D}, (∀ d ∈ ds, gd L n d = true) → gds L n ds = true
  | [], _ => by simp [gds]
  | d :: ds, h => by simp [gds, h d (by simp), gds_of (ds := ds) (fun e he => h e (List.mem_cons_of_mem _ he))]
theorem gds_app {L n : Nat} : ∀ {ds es : List D}, gds L n ds = true → gds L n es = true → gds L n (ds ++ es) = true := fun h g => gds_of fun d hd => by
  rcases List.mem_append.mp hd with z | z
  · exact gds_mem h d z
  · exact gds_mem g d z

/-! ### draws -/
/-- a bag of draws, good for m draws more -/
def BagL (m : Nat) (l : List D) : Prop := ∃ x y z : Int, l = [.int x, .int y, .int z] ∧ 0 ≤ z ∧ z + m ≤ 1152921504606846976
theorem BagL.le {m n : Nat} {l : List D} (h : BagL m l) (le : n ≤ m) : BagL n l := by
  obtain ⟨x, y, z, e, h1, h2⟩ := h
  exact ⟨x, y, z, e, h1, by omega⟩
def spTake : Spec := fun ds S Q => ∃ b m k l, ds = [.ref b, .int k] ∧ 0 < k ∧ k < 1073741824 ∧ S b = some (.lst l) ∧ BagL (m + 1) l ∧ ∀ r l', 0 ≤ r → r < k → BagL m l' → Q (.int r) (ups S b (.lst l'))
theorem law_take : ∀ ds S Q, spTake ds S Q → semSs b__law_take (endsOf Q) (startD 5 ds) S := by
  rintro ds S Q ⟨b, m, k, l, rfl, h1, h2, hS, ⟨x, y, z, rfl, hz, hm⟩, h⟩
  simp [b__law_take, startD, i_ixR hS]
  by_cases hx : 0 < x
  · simp [hx, h1, h2]
    rw [l_set hS (j := 0) rfl]
    exact Ret.same (h _ _ (Int.emod_nonneg _ (by omega)) (Int.emod_lt_of_pos _ h1) ⟨x / k, y, z, rfl, hz, by omega⟩)
  · simp [hx]
    rw [l_set hS (j := 2) rfl]
    simp [i_ixR ups_at]
    have e1 := Int.emod_nonneg (y + 1000003 * (z + 1)) (show (2305843009213693951 : Int) ≠ 0 by omega)
    have e2 := Int.emod_lt_of_pos (y + 1000003 * (z + 1)) (show (0 : Int) < 2305843009213693951 by omega)
    generalize (y + 1000003 * (z + 1)) % 2305843009213693951 = n at e1 e2 ⊢
    have e3 := Int.emod_nonneg (n * n + 7919 * (z + 1) ^ 2 + 5) (show (2305843009213693951 : Int) ≠ 0 by omega)
    have e4 := Int.emod_lt_of_pos (n * n + 7919 * (z + 1) ^ 2 + 5) (show (0 : Int) < 2305843009213693951 by omega)
    generalize (n * n + 7919 * (z + 1) ^ 2 + 5) % 2305843009213693951 = n2 at e3 e4 ⊢
    refine ⟨.inl ⟨by omega, by omega⟩, .inl ⟨by omega, by omega⟩, by omega, .inl ⟨by omega, by omega⟩, by omega, h1, ?_⟩
    exact Ret.same (h _ _ (Int.emod_nonneg _ (by omega)) (Int.emod_lt_of_pos _ h1) ⟨x, y, z + 1, rfl, by omega, by omega⟩)
end Lf
set_option Elab.async false
set_option linter.all false
set_option maxRecDepth 100000
namespace Lf
open PySem PySem.Spec PyProof.Rows L2

/-! ### words, moves, clauses -/
inductive Wd where
  | ahead | behind | ed | here | near | opened | up
  deriving DecidableEq
def Wd.s : Wd → Str
  | .ahead => Str.ofString "ahead" | .behind => Str.ofString "behind" | .ed => Str.ofString "end" | .here => Str.ofString "here" | .near => Str.ofString "near" | .opened => Str.ofString "opened" | .up => Str.ofString "up"
inductive Mv where
  | back | on | opn | stay | turn
  deriving DecidableEq
def Mv.s : Mv → Str
  | .back => Str.ofString "back" | .on => Str.ofString "on" | .opn => Str.ofString "open" | .stay => Str.ofString "stay" | .turn => Str.ofString "turn"
structure Ts where
  no : Bool
  w : Wd
  deriving DecidableEq
def Ts.s (t : Ts) : Str := (if t.no = true then Str.ofString "no " else Str.ofString "") ++ t.w.s
structure Cl where
  ts : List Ts
  mv : Mv
  deriving DecidableEq
def Cl.d (c : Cl) : D := .tup [.tup (c.ts.map fun t => .str t.s), .str c.mv.s]
def ctlD (cs : List Cl) : D := .tup (cs.map Cl.d)
theorem Ts.forall {p : Ts → Prop} [DecidablePred p] (h : p ⟨false, .ahead⟩ ∧ p ⟨false, .behind⟩ ∧ p ⟨false, .ed⟩ ∧ p ⟨false, .here⟩ ∧ p ⟨false, .near⟩ ∧ p ⟨false, .opened⟩ ∧ p ⟨false, .up⟩ ∧ p ⟨true, .ahead⟩ ∧ p ⟨true, .behind⟩ ∧ p ⟨true, .ed⟩ ∧ p ⟨true, .here⟩ ∧ p ⟨true, .near⟩ ∧ p ⟨true, .opened⟩ ∧ p ⟨true, .up⟩) (t : Ts) : p t := by
  obtain ⟨n, w⟩ := t
  cases n <;> cases w <;> simp [h]
theorem Ts.ok (t : Ts) : PyData.strOk t.s = true ∧ t.s.length ≤ 20 := by
  refine Ts.forall (p := fun t => PyData.strOk t.s = true ∧ t.s.length ≤ 20) ?_ t
  decide +kernel
theorem Mv.ok (m : Mv) : PyData.strOk m.s = true ∧ m.s.length ≤ 20 := by
  cases m <;> decide +kernel
theorem Cl.gd (c : Cl) (L n : Nat) (h : c.ts.length ≤ L) (h2 : 2 ≤ L) : gd L (n + 2) c.d = true := by
  unfold Cl.d
  have e : gds L n (c.ts.map fun t => D.str t.s) = true := gds_of fun d hd => by
    obtain ⟨t, _, rfl⟩ := List.mem_map.mp hd
    have := t.ok
    simp [Lf.gd, this.1]; omega
  have := c.mv.ok
  simp [Lf.gd, gds, e, h, h2, this.1]
  omega
theorem ctl_gd (cs : List Cl) (L n : Nat) (h : ∀ c ∈ cs, c.ts.length ≤ L) (hl : cs.length ≤ L) (h2 : 2 ≤ L) : gd L (n + 3) (ctlD cs) = true := by
  unfold ctlD
  have : gds L (n + 2) (cs.map Cl.d) = true := gds_of fun d hd => by
    obtain ⟨c, hc, rfl⟩ := List.mem_map.mp hd
    exact c.gd L n (h c hc) h2
  simp [Lf.gd, this, hl]

/-! ### comprehensions that draw -/
theorem lcS_draw {α : Type} (enc : α → D) (J : List D → List α → Prop) (t : Nat) {g : Store → Prop} {tg : Tg} {tt : DB} {te : DT} {δ : DSt} {pa b : Addr} {K : List D → Store → Prop} {S0 : Store} (hg : ∀ S, g S) (hpb : pa ≠ b)
    (step : ∀ (d : D) (ds : List D) (acc : List α) (l : List D) (m : Nat) (R0 : Store → Prop) (R1 : DK), J (d :: ds) acc → BagL (m + t) l → (∀ l', J ds acc → BagL m l' → R0 (ups (ups S0 pa (.lst (acc.map enc))) b (.lst l'))) →
      (∀ a l', J ds (acc ++ [a]) → BagL m l' → R1 (enc a) (ups (ups S0 pa (.lst (acc.map enc))) b (.lst l'))) →
      ∃ δ1, tgD tg d δ = some δ1 ∧ tt δ1 (ups (ups S0 pa (.lst (acc.map enc))) b (.lst l)) fun k S2 => cnd k (te δ1 S2 R1) (R0 S2)) :
    ∀ (ds : List D) (acc : List α) (l : List D) (m : Nat), BagL (m + t * ds.length) l → acc.length + ds.length ≤ sizeLine → J ds acc →
      (∀ (acc : List α) l', J [] acc → BagL m l' → K (acc.map enc) (ups (ups S0 pa (.lst (acc.map enc))) b (.lst l'))) → lcS g tg tt te δ pa K ds (acc.map enc) (ups (ups S0 pa (.lst (acc.map enc))) b (.lst l))
  | [], acc, l, m, hb, hl, j, k => by
    simp only [lcS]
    exact ⟨hg _, k acc l j (by simpa using hb)⟩
  | d :: ds, acc, l, m, hb, hl, j, k => by
    simp only [lcS]
    refine ⟨hg _, ?_⟩
    simp only [List.length_cons] at hl hb
    have hb' : BagL (m + t * ds.length + t) l := by rw [Nat.mul_succ] at hb; simpa [Nat.add_assoc] using hb
    obtain ⟨δ1, e1, h1⟩ := step d ds acc l (m + t * ds.length) (lcS g tg tt te δ pa K ds (acc.map enc))
      (fun y S3 => S3 pa = some (.lst (acc.map enc)) ∧ (acc.map enc).length < sizeLine ∧ lcS g tg tt te δ pa K ds (acc.map enc ++ [y]) (ups S3 pa (.lst (acc.map enc ++ [y])))) j hb'
      (fun l' j' hb2 => lcS_draw enc J t hg hpb step ds acc l' m hb2 (by omega) j' k)
      (fun a l' j' hb2 => by
        refine ⟨by rw [ups_ne hpb, ups_at], by simp; omega, ?_⟩
        have e2 : ups (ups (ups S0 pa (.lst (acc.map enc))) b (.lst l')) pa (.lst (acc.map enc ++ [enc a])) = ups (ups S0 pa (.lst ((acc ++ [a]).map enc))) b (.lst l') := by
          funext x
          unfold ups
          by_cases e : x = pa
          · subst e; simp [hpb]
          · simp [e]
        rw [e2]
        have e3 : acc.map enc ++ [enc a] = (acc ++ [a]).map enc := by simp
        rw [e3]
        exact lcS_draw enc J t hg hpb step ds (acc ++ [a]) l' m hb2 (by simp; omega) j' k)
    rw [e1]
    exact h1
theorem drp_ups2 {S : Store} {p b : Addr} {m n : MO} (h : S p = none) (hb : p ≠ b) : drp (ups (ups S p m) b n) p = ups S b n := by
  funext a
  unfold drp ups
  by_cases e : a = p
  · subst e; simp [h, hb]
  · simp [e]
theorem ups_same_eq {S : Store} {b : Addr} {m : MO} (h : S b = some m) : ups S b m = S := by
  funext a
  unfold ups
  by_cases e : a = b
  · subst e; simp [h]
  · simp [e]
/-- a comprehension that draws from the bag at b -/
theorem lc_draw {α : Type} (enc : α → D) (J : List D → List α → Prop) (t : Nat) {g : Store → Prop} {tg : Tg} {tt : DB} {te : DT} {δ : DSt} {pa b : Addr} {Q : DK} {S : Store} {ds l : List D} {m : Nat} (hp : S pa = none) (hb : S b = some (.lst l)) (hg : ∀ S, g S)
    (hl : BagL (m + t * ds.length) l) (hz : ds.length ≤ sizeLine) (j : J ds [])
    (step : ∀ (d : D) (ds : List D) (acc : List α) (l : List D) (m : Nat) (R0 : Store → Prop) (R1 : DK) (S1 : Store), S1 b = some (.lst l) → J (d :: ds) acc → BagL (m + t) l → (∀ l', J ds acc → BagL m l' → R0 (ups S1 b (.lst l'))) →
      (∀ a l', J ds (acc ++ [a]) → BagL m l' → R1 (enc a) (ups S1 b (.lst l'))) →
      ∃ δ1, tgD tg d δ = some δ1 ∧ tt δ1 S1 fun k S2 => cnd k (te δ1 S2 R1) (R0 S2))
    (k : ∀ (acc : List α) l', J [] acc → BagL m l' → Q (.lst (acc.map enc)) (ups S b (.lst l'))) : lcS g tg tt te δ pa (finL false pa Q) ds [] (ups S pa (.lst [])) := by
  have hpb : pa ≠ b := fun e => by rw [e, hb] at hp; cases hp
  have e0 : ups (ups S pa (.lst [])) b (.lst l) = ups S pa (.lst []) := ups_same_eq (by rw [ups_ne (Ne.symm hpb)]; exact hb)
  have main := lcS_draw (α := α) enc J t (g := g) (tg := tg) (tt := tt) (te := te) (δ := δ) (pa := pa) (b := b) (K := finL false pa Q) (S0 := S) hg hpb
    (fun d ds acc l m R0 R1 j hb r0 r1 => by
      refine step d ds acc l m R0 R1 _ ups_at j hb (fun l' j' h' => ?_) (fun a l' j' h' => ?_)
      · rw [ups_ups]; exact r0 l' j' h'
      · rw [ups_ups]; exact r1 a l' j' h') ds [] l m hl (by simpa using hz) j (fun acc l' j' h' => by
      simp only [finL]
      refine ⟨by rw [ups_ne hpb, ups_at], ?_⟩
      rw [drp_ups2 hp hpb]
      exact k acc l' j' h')
  simp only [List.map_nil] at main
  rw [e0] at main
  exact main
end Lf
set_option Elab.async false
set_option linter.all false
set_option maxRecDepth 100000
namespace Lf
open PySem PySem.Spec PyProof.Rows L2

/-- a function that draws: at most t draws of the bag, a result in P -/
def spDraw {α : Type} (t : Nat) (args : List D → Prop) (P : List D → α → Prop) (enc : α → D) : Spec := fun ds S Q => ∃ b m l as, ds = .ref b :: as ∧ args as ∧ S b = some (.lst l) ∧ BagL (m + t) l ∧ ∀ a l', P as a → BagL m l' → Q (enc a) (ups S b (.lst l'))
def spConst (d : D) : Spec := fun ds S Q => ds = [] ∧ Q d S
theorem take_sp {b : Addr} {k : Int} {S : Store} {Q : DK} {l : List D} {m : Nat} (h1 : 0 < k) (h2 : k < 1073741824) (hS : S b = some (.lst l)) (hm : BagL (m + 1) l) (h : ∀ r l', 0 ≤ r → r < k → BagL m l' → Q (.int r) (ups S b (.lst l'))) : spTake [.ref b, .int k] S Q :=
  ⟨b, m, k, l, rfl, h1, h2, hS, hm, h⟩
def spWell : Spec := fun ds S Q => ∃ c t, ds = [.int c, .int t] ∧ 0 ≤ t ∧ t ≤ 1000000 ∧ ∀ p l, S p = none → BagL 1000000000000000 l → Q (.ref p) (ups S p (.lst l))
theorem law_well : ∀ ds S Q, spWell ds S Q → semSs b__law_well (endsOf Q) (startD 2 ds) S := by
  rintro ds S Q ⟨c, t, rfl, h1, h2, h⟩
  simp [b__law_well, startD, sizeLine_eq]
  refine cnd_i (fun _ => ?_) (fun _ => ?_)
  · intro p hp
    exact Ret.same (h p _ hp ⟨_, _, t, rfl, h1, by omega⟩)
  · intro p hp
    exact Ret.same (h p _ hp ⟨_, _, t, rfl, h1, by omega⟩)
def plainC : List Cl := [⟨[⟨false, .here⟩], .opn⟩, ⟨[⟨false, .ahead⟩], .on⟩, ⟨[⟨false, .behind⟩], .back⟩]
def fairC : List Cl := [⟨[⟨false, .here⟩, ⟨true, .opened⟩], .opn⟩, ⟨[⟨false, .ahead⟩], .on⟩, ⟨[⟨false, .behind⟩], .back⟩, ⟨[⟨false, .here⟩], .opn⟩]
theorem tss : (⟨false, .here⟩ : Ts).s = Str.ofString "here" ∧ (⟨false, .ahead⟩ : Ts).s = Str.ofString "ahead" ∧ (⟨false, .behind⟩ : Ts).s = Str.ofString "behind" ∧ (⟨true, .opened⟩ : Ts).s = Str.ofString "no opened" := by decide +kernel
theorem law_plain : ∀ ds S Q, spConst (ctlD plainC) ds S Q → semSs b__law_plain (endsOf Q) (startD 0 ds) S := by
  rintro ds S Q ⟨rfl, h⟩
  simp [b__law_plain, startD, sizeLine_eq]
  refine Ret.same ?_
  simpa [ctlD, plainC, Cl.d, tss, Mv.s] using h
theorem cutD_1 {x : D} {xs : List D} : cutD (x :: xs) (some 1) none = xs := by
  unfold cutD
  rw [show (1 : Int) = ((1 : Nat) : Int) from rfl, HT.sIx_nat, HT.sIx_none]
  have e : min 1 (x :: xs).length = 1 := by simp
  rw [e]
  simp
theorem law_fair : ∀ ds S Q, spConst (ctlD fairC) ds S Q → semSs (b__law_fair (spConst (ctlD plainC))) (endsOf Q) (startD 0 ds) S := by
  rintro ds S Q ⟨rfl, h⟩
  simp [b__law_fair, startD, sizeLine_eq]
  refine ⟨rfl, ?_⟩
  simp [ctlD, plainC, cutD_1, sizeLine_eq]
  refine Ret.same ?_
  simpa [ctlD, fairC, Cl.d, tss, Mv.s] using h
def spTest : Spec := spDraw 2 (fun as => as = []) (fun _ (_ : Ts) => True) fun t => .str t.s
theorem pick {r : Int} {ds : List D} {p : D → Prop} (h1 : 0 ≤ r) (h2 : r < ds.length) (hp : ∀ d ∈ ds, p d) : ∃ d, L2.atI ds r = some d ∧ p d := by
  obtain ⟨i, rfl⟩ := Int.eq_ofNat_of_zero_le h1
  have hi : i < ds.length := by omega
  exact ⟨ds[i], L2.atI_nat (List.getElem?_eq_getElem hi), hp _ (List.getElem_mem hi)⟩
theorem isWd {d : D} (h : d ∈ [.str (Str.ofString "ahead"), .str (Str.ofString "behind"), .str (Str.ofString "end"), .str (Str.ofString "here"), .str (Str.ofString "near"), .str (Str.ofString "opened"), .str (Str.ofString "up")]) : ∃ w : Wd, d = .str w.s := by
  simp only [List.mem_cons, List.not_mem_nil, or_false] at h
  rcases h with z | z | z | z | z | z | z
  · exact ⟨.ahead, z⟩
  · exact ⟨.behind, z⟩
  · exact ⟨.ed, z⟩
  · exact ⟨.here, z⟩
  · exact ⟨.near, z⟩
  · exact ⟨.opened, z⟩
  · exact ⟨.up, z⟩
theorem isNo3 {d : D} (h : d ∈ [.str (Str.ofString ""), .str (Str.ofString ""), .str (Str.ofString "no ")]) : ∃ k : Bool, d = .str (if k = true then Str.ofString "no " else Str.ofString "") := by
  simp only [List.mem_cons, List.not_mem_nil, or_false] at h
  rcases h with z | z | z
  · exact ⟨false, z⟩
  · exact ⟨false, z⟩
  · exact ⟨true, z⟩
theorem isMv {d : D} (h : d ∈ [.str (Str.ofString "back"), .str (Str.ofString "on"), .str (Str.ofString "on"), .str (Str.ofString "open"), .str (Str.ofString "open"), .str (Str.ofString "stay"), .str (Str.ofString "turn")]) : ∃ m : Mv, d = .str m.s := by
  simp only [List.mem_cons, List.not_mem_nil, or_false] at h
  rcases h with z | z | z | z | z | z | z
  · exact ⟨.back, z⟩
  · exact ⟨.on, z⟩
  · exact ⟨.on, z⟩
  · exact ⟨.opn, z⟩
  · exact ⟨.opn, z⟩
  · exact ⟨.stay, z⟩
  · exact ⟨.turn, z⟩
theorem law_test : ∀ ds S Q, spTest ds S Q → semSs (b__law_test spTake) (endsOf Q) (startD 2 ds) S := by
  rintro ds S Q ⟨b, m, l, _, rfl, rfl, hS, hm, h⟩
  simp [b__law_test, startD, sizeLine_eq]
  refine take_sp (m := m + 1) (by omega) (by omega) hS hm fun r l1 r1 r2 hm1 => ?_
  simp
  refine pick r1 (by simpa using r2) fun d hd => ?_
  obtain ⟨w, rfl⟩ := isWd hd
  refine take_sp (m := m) (by omega) (by omega) ups_at hm1 fun r l2 r1 r2 hm2 => ?_
  simp
  refine pick r1 (by simpa using r2) fun d hd => ?_
  obtain ⟨k, rfl⟩ := isNo3 hd
  have e := (Ts.ok ⟨k, w⟩).2
  have e2 : ∀ (k : Bool) (w : Wd), (if k = true then Str.ofString "no " else Str.ofString "").length + w.s.length ≤ 20 := by
    intro k w
    cases k <;> cases w <;> decide +kernel
  have := e2 k w
  simp
  refine ⟨by rw [sizeLine_eq]; omega, ?_⟩
  rw [ups_ups]
  exact Ret.same (h ⟨k, w⟩ _ trivial hm2)
def spClause : Spec := spDraw 8 (fun as => as = []) (fun _ (c : Cl) => c.ts.length ≤ 3) Cl.d
theorem bound {r : Int} {k : Int} (h : 0 ≤ r ∧ r < k) (hk : k ≤ 1000000) : -(2 ^ 62) ≤ r ∧ r < 2 ^ 62 := by omega
theorem law_clause : ∀ ds S Q, spClause ds S Q → semSs (b__law_clause spTake spTest) (endsOf Q) (startD 4 ds) S := by
  rintro ds S Q ⟨b, m, l, _, rfl, rfl, hS, hm, h⟩
  simp [b__law_clause, startD, sizeLine_eq]
  refine take_sp (m := m + 7) (by omega) (by omega) hS hm fun r l1 r1 r2 hm1 => ?_
  simp
  refine pick r1 (by simpa using r2) fun d hd => ?_
  obtain ⟨n, rfl, hn⟩ : ∃ n : Nat, d = .int n ∧ n ≤ 3 := by
    simp only [List.mem_cons, List.not_mem_nil, or_false] at hd
    rcases hd with z | z | z | z | z | z <;> subst z
    · exact ⟨0, rfl, by omega⟩
    · exact ⟨1, rfl, by omega⟩
    · exact ⟨1, rfl, by omega⟩
    · exact ⟨2, rfl, by omega⟩
    · exact ⟨2, rfl, by omega⟩
    · exact ⟨3, rfl, by omega⟩
  simp [o_lc]
  refine ⟨by omega, fun pa hpa => ?_⟩
  refine lc_draw (α := Ts) (b := b) (m := m + 1) (fun t => .str t.s) (fun ds acc => acc.length + ds.length = n) 2 hpa ups_at (fun _ => trivial) (by rw [rngD_len]; exact hm1.le (by omega)) (by rw [rngD_len, sizeLine_eq]; omega) (by simp [rngD_len]) ?_ ?_
  · intro d ds acc l m R0 R1 S1 hS1 hJ hB r0 r1
    refine ⟨_, rfl, ?_⟩
    simp [wipeD, cOf, sYes]
    exact ⟨b, m, l, _, rfl, rfl, hS1, hB, fun t l' _ hl' => r1 t l' (by simp at hJ ⊢; omega) hl'⟩
  · intro acc l2 hJ hB
    simp at hJ
    simp
    refine take_sp (m := m) (by omega) (by omega) ups_at hB fun r l3 r1 r2 hm3 => ?_
    simp
    refine pick r1 (by simpa using r2) fun d hd => ?_
    obtain ⟨mv, rfl⟩ := isMv hd
    rw [ups_ups, ups_ups]
    exact Ret.same (h ⟨acc, mv⟩ _ (by simp; omega) hm3)
/-- a controller of up to so many clauses -/
def spCtl : Spec := fun ds S Q => ∃ b m l k, ds = [.ref b, .int k] ∧ 3 ≤ k ∧ k ≤ 8 ∧ S b = some (.lst l) ∧ BagL (m + 100) l ∧ ∀ cs l', cs.length ≤ k.toNat → (∀ c ∈ cs, c.ts.length ≤ 3) → BagL m l' → Q (ctlD cs) (ups S b (.lst l'))
theorem cut_map {α : Type} (f : α → D) (xs : List α) (lo hi : Option Int) : cutD (xs.map f) lo hi = ((xs.drop (HT.sIx xs.length 0 lo)).take (HT.sIx xs.length xs.length hi - HT.sIx xs.length 0 lo)).map f := by
  unfold cutD
  simp [List.map_take, List.map_drop]
/-- a part of a list -/
def cutA {α : Type} (xs : List α) (lo hi : Option Int) : List α := (xs.drop (HT.sIx xs.length 0 lo)).take (HT.sIx xs.length xs.length hi - HT.sIx xs.length 0 lo)
theorem cut_map' {α : Type} (f : α → D) (xs : List α) (lo hi : Option Int) : cutD (xs.map f) lo hi = (cutA xs lo hi).map f := cut_map f xs lo hi
theorem cutA_to {α : Type} {xs : List α} {k : Nat} : cutA xs none (some (k : Int)) = xs.take k := by
  unfold cutA
  rw [HT.sIx_nat, HT.sIx_none]
  simp only [List.drop_zero, Nat.sub_zero]
  rw [← List.take_eq_take_min]
theorem cutA_from {α : Type} {xs : List α} {k : Nat} : cutA xs (some (k : Int)) none = xs.drop k := by
  unfold cutA
  rw [HT.sIx_nat, HT.sIx_none]
  by_cases h : k ≤ xs.length
  · rw [Nat.min_eq_left h]
    rw [List.take_of_length_le (by simp)]
  · rw [Nat.min_eq_right (by omega)]
    simp [List.drop_eq_nil_of_le (show xs.length ≤ k by omega)]
theorem law_ctl : ∀ ds S Q, spCtl ds S Q → semSs (b__law_controller spTake spClause (spConst (ctlD plainC)) (spConst (ctlD fairC))) (endsOf Q) (startD 6 ds) S := by
  rintro ds S Q ⟨b, m, l, k, rfl, hk1, hk2, hS, hm, h⟩
  simp [b__law_controller, startD, sizeLine_eq]
  refine take_sp (m := m + 99) (by omega) (by omega) hS hm fun way l1 r1 r2 hm1 => ?_
  simp
  by_cases h0 : way = 0
  · subst h0
    simp [o_lc]
    refine take_sp (m := m + 98) (by omega) (by omega) ups_at hm1 fun n l2 r3 r4 hm2 => ?_
    obtain ⟨n, rfl⟩ := Int.eq_ofNat_of_zero_le r3
    simp
    refine ⟨by omega, fun pa hpa => ?_⟩
    refine lc_draw (α := Cl) (b := b) (m := m) Cl.d (fun ds acc => acc.length + ds.length = n ∧ ∀ c ∈ acc, c.ts.length ≤ 3) 8 hpa ups_at (fun _ => trivial) (by rw [rngD_len]; exact hm2.le (by omega)) (by rw [rngD_len, sizeLine_eq]; omega) (by simp [rngD_len]) ?_ ?_
    · intro d ds acc l m R0 R1 S1 hS1 hJ hB r0 r1
      refine ⟨_, rfl, ?_⟩
      simp [wipeD, cOf, sYes]
      refine ⟨b, m, l, _, rfl, rfl, hS1, hB, fun t l' ht hl' => r1 t l' ⟨by simp at hJ ⊢; omega, fun c hc => ?_⟩ hl'⟩
      rcases List.mem_append.mp hc with z | z
      · exact hJ.2 c z
      · simp at z; subst z; exact ht
    · intro acc l2 hJ hB
      simp at hJ
      simp
      rw [ups_ups, ups_ups]
      exact Ret.same (h acc _ (by omega) hJ.2 hB)
  · have h0' : (way == 0) = false := by simpa using h0
    simp [h0', sizeLine_eq]
    refine ⟨rfl, rfl, ?_⟩
    simp
    refine take_sp (m := m + 98) (by omega) (by omega) ups_at hm1 fun n l2 r3 r4 hm2 => ?_
    simp
    refine pick r3 (by simpa using r4) fun d hd => ?_
    obtain ⟨C, rfl, hC, hC2⟩ : ∃ C : List Cl, d = ctlD C ∧ (0 < C.length ∧ C.length ≤ 4) ∧ ∀ c ∈ C, c.ts.length ≤ 3 := by
      simp only [List.mem_cons, List.not_mem_nil, or_false] at hd
      rcases hd with z | z
      · exact ⟨plainC, z, by decide, by decide⟩
      · exact ⟨fairC, z, by decide, by decide⟩
    simp [ctlD]
    refine take_sp (m := m + 97) (by omega) (by omega) ups_at hm2 fun at_ l3 r5 r6 hm3 => ?_
    obtain ⟨at_, rfl⟩ := Int.eq_ofNat_of_zero_le r5
    rw [ups_ups, ups_ups]
    have fin : ∀ (cs : List Cl) l', (∀ c ∈ cs, c.ts.length ≤ 3) → BagL m l' → Q (.tup ((cs.take k.toNat).map Cl.d)) (ups S b (.lst l')) := fun cs l' h1 h2 =>
      h (cs.take k.toNat) l' (by simp; omega) (fun c hc => h1 c (List.mem_of_mem_take hc)) h2
    obtain ⟨kn, rfl⟩ := Int.eq_ofNat_of_zero_le (show 0 ≤ k by omega)
    simp at r6
    simp only [Int.toNat_natCast] at fin
    have cut1 : ∀ cs : List Cl, cutD (cs.map Cl.d) none (some (kn : Int)) = (cs.take kn).map Cl.d := fun cs => by rw [cut_map', cutA_to]
    have cutT : ∀ n : Nat, cutD (C.map Cl.d) none (some (n : Int)) = (C.take n).map Cl.d := fun n => by rw [cut_map', cutA_to]
    have cutF : ∀ n : Nat, cutD (C.map Cl.d) (some (n : Int)) none = (C.drop n).map Cl.d := fun n => by rw [cut_map', cutA_from]
    by_cases h1 : way = 1
    · subst h1
      simp
      rw [cutT]
      refine ⟨b, m + 89, l3, _, rfl, rfl, ups_at, hm3, fun c l4 hc hm4 => ?_⟩
      simp [sizeLine_eq, -List.map_take, -List.map_drop]
      rw [cutF, ups_ups]
      refine ⟨by omega, by simp; omega, ?_⟩
      have e : (C.take at_).map Cl.d ++ Cl.d c :: (C.drop at_).map Cl.d = ((C.take at_) ++ c :: C.drop at_).map Cl.d := by simp
      rw [e, cut1]
      refine Ret.same (fin _ l4 (fun x hx => ?_) (hm4.le (by omega)))
      simp only [List.mem_append, List.mem_cons] at hx
      rcases hx with z | z | z
      · exact hC2 x (List.mem_of_mem_take z)
      · rw [z]; exact hc
      · exact hC2 x (List.mem_of_mem_drop z)
    · by_cases h2 : way = 2
      · subst h2
        simp
        rw [cutT]
        refine ⟨b, m + 89, l3, _, rfl, rfl, ups_at, hm3, fun c l4 hc hm4 => ?_⟩
        simp [sizeLine_eq, -List.map_take, -List.map_drop]
        refine take_sp (m := m + 88) (by omega) (by omega) ups_at hm4 fun r l5 r7 r8 hm5 => ?_
        obtain ⟨r, rfl⟩ := Int.eq_ofNat_of_zero_le r7
        have cutF2 : cutD (C.map Cl.d) (some ((at_ : Int) + 1)) none = (C.drop (at_ + 1)).map Cl.d := cutF (at_ + 1)
        have er : repD [Cl.d c] (r : Int) = (List.replicate r c).map Cl.d := by
          unfold repD
          simp only [Int.toNat_natCast]
          clear r8 hm5 r7
          induction r with
          | zero => rfl
          | succ r ih => rw [List.replicate_succ, List.flatten_cons, ih]; rfl
        simp [-List.map_take, -List.map_drop]
        rw [cutF2, er, ups_ups, ups_ups]
        refine ⟨by omega, by simp; rw [sizeLine_eq]; omega, by simp; rw [sizeLine_eq]; omega, ?_⟩
        have e : (C.take at_).map Cl.d ++ ((List.replicate r c).map Cl.d ++ (C.drop (at_ + 1)).map Cl.d) = (C.take at_ ++ (List.replicate r c ++ C.drop (at_ + 1))).map Cl.d := by simp
        rw [e, cut1]
        refine Ret.same (fin _ l5 (fun x hx => ?_) (hm5.le (by omega)))
        simp only [List.mem_append] at hx
        rcases hx with z | z | z
        · exact hC2 x (List.mem_of_mem_take z)
        · rw [List.eq_of_mem_replicate z]; exact hc
        · exact hC2 x (List.mem_of_mem_drop z)
      · have h1' : (way == 1) = false := by simpa using h1
        have h2' : (way == 2) = false := by simpa using h2
        simp [h1', h2']
        rw [cut1]
        exact Ret.same (fin C l3 hC2 (hm3.le (by omega)))
end Lf
set_option Elab.async false
set_option linter.all false
set_option maxRecDepth 100000
namespace Lf
open PySem PySem.Spec PyProof.Rows L2

/-! ### plans -/
/-- floors pressed: of 1..n, rising -/
def PrOk (n : Int) (p : List Int) : Prop := (∀ x ∈ p, 1 ≤ x ∧ x ≤ n) ∧ p.Pairwise (· < ·)
def intsD (p : List Int) : D := .tup (p.map D.int)
theorem rng_rise : ∀ (n : Nat) (a : Int), ∃ q : List Int, rngD a n = q.map D.int ∧ (∀ x ∈ q, a ≤ x ∧ x < a + n) ∧ q.Pairwise (· < ·)
  | 0, a => ⟨[], rfl, by simp, .nil⟩
  | n + 1, a => by
    obtain ⟨q, e, h1, h2⟩ := rng_rise n (a + 1)
    refine ⟨a :: q, by simp [rngD, e], fun x hx => ?_, List.pairwise_cons.mpr ⟨fun x hx => ?_, h2⟩⟩
    · rcases List.mem_cons.mp hx with z | z
      · subst z; omega
      · have := h1 x z; omega
    · have := h1 x hx; omega
theorem sub_ok {n : Int} {p q : List Int} (h : q.Sublist p) (k : PrOk n p) : PrOk n q := ⟨fun x hx => k.1 x (h.subset hx), k.2.sublist h⟩
theorem PrOk.len {n : Int} : ∀ {p : List Int}, PrOk n p → ∀ a : Int, (∀ x ∈ p, a < x) → a ≤ n → (p.length : Int) ≤ n - a
  | [], _, a, _, h => by simp; omega
  | x :: p, h, a, ha, hn => by
    have h1 := h.1 x (by simp)
    have h2 := ha x (by simp)
    have := PrOk.len (p := p) ⟨fun y hy => h.1 y (by simp [hy]), (List.pairwise_cons.mp h.2).2⟩ x (fun y hy => (List.pairwise_cons.mp h.2).1 y hy) h1.2
    simp; omega
theorem PrOk.le {n : Int} {p : List Int} (h : PrOk n p) (h0 : 0 ≤ n) : (p.length : Int) ≤ n := by
  have := PrOk.len h 0 (fun x hx => by have := h.1 x hx; omega) h0
  omega
/-- the floors pressed: at most n draws and one -/
def spPressed : Spec := fun ds S Q => ∃ b m l n, ds = [.ref b, .int n] ∧ 0 ≤ n ∧ n ≤ 4 ∧ S b = some (.lst l) ∧ BagL (m + 5) l ∧ ∀ p l', PrOk n p → BagL m l' → Q (intsD p) (ups S b (.lst l'))
theorem law_pressed : ∀ ds S Q, spPressed ds S Q → semSs (b__law_pressed spTake) (endsOf Q) (startD 3 ds) S := by
  rintro ds S Q ⟨b, m, l, n, rfl, h1, h2, hS, hm, h⟩
  simp [b__law_pressed, startD, sizeLine_eq]
  refine take_sp (m := m + 4) (by omega) (by omega) hS hm fun r l1 r1 r2 hm1 => ?_
  simp
  by_cases h0 : r = 0
  · simp [h0]
    exact Ret.same (h [] l1 ⟨by simp, .nil⟩ (hm1.le (by omega)))
  · have h0' : (r == 0) = false := by simpa using h0
    simp [h0', o_lc]
    refine ⟨⟨by omega, by omega⟩, fun pa hpa => ?_⟩
    obtain ⟨nn, rfl⟩ := Int.eq_ofNat_of_zero_le h1
    rw [Int.toNat_natCast]
    obtain ⟨q, eq, q1, q2⟩ := rng_rise nn 1
    refine lc_draw (α := Int) (b := b) (m := m) D.int (fun ds acc => ∃ q', ds = q'.map D.int ∧ (acc ++ q').Sublist q) 1 hpa ups_at (fun _ => trivial) (by rw [rngD_len]; exact hm1.le (by omega)) (by rw [rngD_len, sizeLine_eq]; omega) ⟨q, eq, by simp⟩ ?_ ?_
    · intro d ds acc l m R0 R1 S1 hS1 ⟨q', hq, hs⟩ hB r0 r1
      cases q' with
      | nil => cases hq
      | cons x q' =>
        simp at hq
        obtain ⟨rfl, rfl⟩ := hq
        refine ⟨_, rfl, ?_⟩
        simp [wipeD, cOf]
        refine take_sp (m := m) (by omega) (by omega) hS1 hB fun r l1 r1' r2' hm1 => ?_
        by_cases hr : r = 0
        · simp [hr]
          exact r1 x l1 ⟨q', rfl, by simpa using hs⟩ hm1
        · have hr' : (r == 0) = false := by simpa using hr
          simp [hr']
          exact r0 l1 ⟨q', rfl, ((List.sublist_cons_self x q').append_left acc).trans hs⟩ hm1
    · intro acc l2 ⟨q', hq, hs⟩ hB
      have : q' = [] := by cases q' <;> simp at hq <;> rfl
      subst this
      simp at hs
      simp
      rw [ups_ups]
      refine Ret.same (h acc l2 (sub_ok hs ⟨fun x hx => ?_, q2⟩) hB)
      have := q1 x hx
      omega
def planD (ps : List (List Int)) : D := .tup (ps.map intsD)
/-- a plan of up to so many ticks -/
def spPlan : Spec := fun ds S Q => ∃ b m l n k, ds = [.ref b, .int n, .int k] ∧ 0 ≤ n ∧ n ≤ 4 ∧ 0 ≤ k ∧ k ≤ 60 ∧ S b = some (.lst l) ∧ BagL (m + 400) l ∧ ∀ ps l', ps.length ≤ k.toNat → (∀ p ∈ ps, PrOk n p) → BagL m l' → Q (planD ps) (ups S b (.lst l'))
theorem law_plan : ∀ ds S Q, spPlan ds S Q → semSs (b__law_plan spTake spPressed) (endsOf Q) (startD 4 ds) S := by
  rintro ds S Q ⟨b, m, l, n, k, rfl, h1, h2, h3, h4, hS, hm, h⟩
  simp [b__law_plan, startD, sizeLine_eq, o_lc]
  refine take_sp (m := m + 399) (by omega) (by omega) hS hm fun r l1 r1 r2 hm1 => ?_
  obtain ⟨r, rfl⟩ := Int.eq_ofNat_of_zero_le r1
  simp
  refine ⟨by omega, fun pa hpa => ?_⟩
  refine lc_draw (α := List Int) (b := b) (m := m) intsD (fun ds acc => acc.length + ds.length = r ∧ ∀ p ∈ acc, PrOk n p) 5 hpa ups_at (fun _ => trivial) (by rw [rngD_len]; exact hm1.le (by omega)) (by rw [rngD_len, sizeLine_eq]; omega) (by simp [rngD_len]) ?_ ?_
  · intro d ds acc l m R0 R1 S1 hS1 hJ hB r0 r1
    refine ⟨_, rfl, ?_⟩
    simp [wipeD, cOf, sYes]
    refine ⟨b, m, l, n, rfl, h1, h2, hS1, hB, fun p l' hp hl' => r1 p l' ⟨by simp at hJ ⊢; omega, fun c hc => ?_⟩ hl'⟩
    rcases List.mem_append.mp hc with z | z
    · exact hJ.2 c z
    · simp at z; subst z; exact hp
  · intro acc l2 hJ hB
    simp at hJ
    simp
    rw [ups_ups]
    exact Ret.same (h acc l2 (by omega) hJ.2 hB)

/-! ### the same -/
theorem deq_self_flat {d : D} (h : flatD d = true) : deq d d = true := by
  cases d <;> simp [flatD] at h <;> simp [deq]
/-- two that are alike are the same -/
def spSame (L n : Nat) : Spec := fun ds S Q => ∃ d, ds = [d, d] ∧ gd L n d = true ∧ Q (.bl true) S
theorem zip_self : ∀ ds : List D, zipD ds ds = ds.map fun d => .tup [d, d]
  | [] => rfl
  | d :: ds => by simp [zipD, zip_self ds]
theorem all_true {α : Type} (xs : List α) : (xs.map fun _ => true).all id = true := by
  induction xs <;> simp_all
theorem law_same (L n : Nat) (hL : L ≤ 1000000) (sp : Spec) (hs : ∀ m, n = m + 1 → sp = spSame L m) : ∀ ds S Q, spSame L n ds S Q → semSs (b__law_same sp) (endsOf Q) (startD 4 ds) S := by
  rintro ds S Q ⟨d, rfl, hd, h⟩
  have seq : ∀ (es : List D) (m : Nat), n = m + 1 → gds L m es = true → es.length ≤ L → ∀ (x0 x1 : D) (R : DK) (S : Store) (g : Store → Prop), (∀ S, g S) → R (.lst ((es.map fun _ => true).map .bl)) S → ∀ pa, S pa = none →
      lcS g (.tp [.nm 2, .nm 3]) (cOf .no (semB .no).1) (semB (.call "_law_same" sp [.var 2, .var 3])).1 (wipeD [some x0, some x1, none, none] [2, 3]) pa (finL false pa R) (zipD es es) [] (ups S pa (.lst [])) := by
    intro es m hm hg hl x0 x1 R S g hgu k pa hpa
    have hsp := hs m hm
    subst hsp
    refine lc_read (α := D) (fun d => .tup [d, d]) (fun _ => true) (fun _ => .bl true) (fun _ => True) hpa (zip_self es) (fun _ => trivial) (fun _ => hgu _) (fun x hx => ?_) (by rw [sizeLine_eq]; omega) ?_
    · refine ⟨_, rfl, readsB_yes, fun _ S Q _ k => ?_⟩
      simp [wipeD]
      exact ⟨x, rfl, gds_mem hg x hx, k⟩
    · rw [List.filter_eq_self.mpr (fun _ _ => rfl)]
      rw [List.map_map] at k
      exact k
  have fe : flatD d = true → deq d d = true := deq_self_flat
  have h64 : flatD d = true → okD 64 d = true := fun _ => by
    cases d <;> simp [gd, flatD, okD] at *
    exact hd.1
  cases d with
  | non =>
    simp [b__law_same, startD, tyD, isi, tyOk, isNon, sizeLine_eq]
    exact Ret.same h
  | bl b =>
    simp [b__law_same, startD, tyD, isi, tyOk, isNon, sizeLine_eq]
    exact Ret.same h
  | int i =>
    simp [b__law_same, startD, tyD, isi, tyOk, isNon, sizeLine_eq]
    exact Ret.same h
  | str s =>
    simp [b__law_same, startD, tyD, isi, tyOk, isNon, sizeLine_eq, c_eq, rsv, deq]
    exact ⟨h64 rfl, Ret.same h⟩
  | tup es =>
    cases n with
    | zero => simp [gd] at hd
    | succ n =>
      simp [gd] at hd
      simp [b__law_same, startD, tyD, isi, tyOk, isNon, sizeLine_eq, o_lc]
      refine fun pa hpa => seq es n rfl hd.2 hd.1 _ _ _ _ _ (fun _ => trivial) ?_ pa hpa
      rw [n_all, all_true]
      exact Ret.same h
  | lst es =>
    cases n with
    | zero => simp [gd] at hd
    | succ n =>
      simp [gd] at hd
      simp [b__law_same, startD, tyD, isi, tyOk, isNon, sizeLine_eq, o_lc]
      refine fun pa hpa => seq es n rfl hd.2 hd.1 _ _ _ _ _ (fun _ => by simp) ?_ pa hpa
      rw [n_all, all_true]
      exact Ret.same h
  | _ => cases n <;> simp [gd] at hd
end Lf
set_option Elab.async false
set_option linter.all false
set_option maxRecDepth 100000
namespace Lf
open PySem PySem.Spec PyProof.Rows L2

/-! ### a value looked at -/
def spB (F : D → Bool) (L n : Nat) : Spec := fun ds S Q => ∃ d, ds = [d] ∧ gd L n d = true ∧ Q (.bl (F d)) S
def wordsL : List D := [.str (Str.ofString "ahead"), .str (Str.ofString "behind"), .str (Str.ofString "end"), .str (Str.ofString "here"), .str (Str.ofString "near"), .str (Str.ofString "opened"), .str (Str.ofString "up")]
def movesL : List D := [.str (Str.ofString "back"), .str (Str.ofString "on"), .str (Str.ofString "open"), .str (Str.ofString "stay"), .str (Str.ofString "turn")]
theorem flat_w : wordsL.all flatD = true := by decide
theorem flat_m : movesL.all flatD = true := by decide
theorem ok_no : PyData.strOk (Str.ofString "no ") = true := by decide +kernel
def testB : D → Bool
  | .str s => hasD (.str s) wordsL || ((cutS s none (some 3) == Str.ofString "no ") && hasD (.str (cutS s (some 3) none)) wordsL)
  | _ => false
theorem strOk_cut {s : Str} (lo hi : Option Int) (h : PyData.strOk s = true) : PyData.strOk (cutS s lo hi) = true := by
  unfold PyData.strOk at h ⊢
  rw [← Array.all_toList, List.all_eq_true] at h ⊢
  intro x hx
  refine h x ?_
  have hx' : x ∈ (s.cps.toList.drop (HT.sIx s.length 0 lo)).take (HT.sIx s.length s.length hi - HT.sIx s.length 0 lo) := by
    simpa [cutS] using hx
  exact List.mem_of_mem_drop (List.mem_of_mem_take hx')
theorem gW : g_WORDS = .tup wordsL := rfl
theorem gM : g_MOVES = .tup movesL := rfl
theorem law_is_test (L n : Nat) : ∀ ds S Q, spB testB L n ds S Q → semSs b_is_test (endsOf Q) (startD 1 ds) S := by
  rintro ds S Q ⟨d, rfl, hd, h⟩
  cases d with
  | str s =>
    simp [gd] at hd
    have hl : s.length ≤ sizeLine := by rw [sizeLine_eq]; omega
    simp [b_is_test, startD, tyD, isi, tyOk, hl, gW, flat_w, flatD, c_eq, rsv, okD, ok_no, strOk_cut none (some 3) hd.1, deq, -List.all_eq_true]
    exact Ret.same h
  | _ =>
    simp [gd, b_is_test, startD, tyD, isi, tyOk] at hd ⊢
    all_goals exact Ret.same h
/-- a comprehension without writing over the items themselves -/
theorem lc_items {g : Store → Prop} {tg : Tg} {tt : DB} {te : DT} {δ : DSt} {Q : DK} (p : D → Bool) (f : D → D) {S : Store} {ds : List D} {pa : Addr} (hp : S pa = none)
    (hg : ∀ S, g S) (h : ∀ x ∈ ds, ∃ δ1, tgD tg x δ = some δ1 ∧ ReadsB tt δ1 (fun _ => True) (p x) ∧ (p x = true → Reads te δ1 (fun _ => True) (f x))) (hl : ds.length ≤ sizeLine)
    (k : Q (.lst ((ds.filter p).map f)) S) : lcS g tg tt te δ pa (finL false pa Q) ds [] (ups S pa (.lst [])) :=
  lc_read id p f (fun _ => True) hp (by simp) (fun _ => trivial) (fun _ => hg _) h hl k
/-- all([f(x) for x in ds]) -/
theorem lc_all {g : Store → Prop} {tg : Tg} {te : DT} {δ : DSt} {Q : DK} (f : D → Bool) {S : Store} {ds : List D} {pa : Addr} (hp : S pa = none) (hg : ∀ S, g S) (hl : ds.length ≤ 1000)
    (h : ∀ x ∈ ds, ∃ δ1, tgD tg x δ = some δ1 ∧ Reads te δ1 (fun _ => True) (.bl (f x))) (k : Q (.bl (ds.all f)) S) : lcS g tg (cOf .no (semB .no).1) te δ pa (finL false pa fun d S1 => BI.all.sem [d] S1 Q) ds [] (ups S pa (.lst [])) := by
  refine lc_items (fun _ => true) (fun x => .bl (f x)) hp hg (fun x hx => ?_) (by rw [sizeLine_eq]; omega) ?_
  · obtain ⟨δ1, e, r⟩ := h x hx
    exact ⟨δ1, e, readsB_yes, fun _ => r⟩
  · rw [List.filter_eq_self.mpr (fun _ _ => rfl), n_all' (bs := ds.map f) (by simp)]
    have e : (ds.map f).all id = ds.all f := by induction ds <;> simp_all
    rw [e]; exact k
theorem spB_at {F : D → Bool} {L n : Nat} {x : D} {S : Store} {Q : DK} (h : gd L n x = true) (k : Q (.bl (F x)) S) : spB F L n [x] S Q := ⟨x, rfl, h, k⟩
def clauseB : D → Bool
  | .tup [.tup ts, .str m] => decide (ts.length ≤ 3) && ts.all testB && hasD (.str m) movesL
  | _ => false
theorem ne2 {n : Nat} : (((n : Int) + 1 + 1 + 1) == 2) = false := by simp; omega
theorem law_is_clause (L n : Nat) (hL : L ≤ 1000) : ∀ ds S Q, spB clauseB L (n + 2) ds S Q → semSs (b_is_clause (spB testB L n)) (endsOf Q) (startD 2 ds) S := by
  rintro ds S Q ⟨d, rfl, hd, h⟩
  cases d with
  | tup es =>
    match es, hd, h with
    | [], hd, h =>
      simp [b_is_clause, startD, tyD, isi, tyOk]
      exact Ret.same h
    | [a], hd, h =>
      simp [b_is_clause, startD, tyD, isi, tyOk]
      exact Ret.same (by cases a <;> exact h)
    | a :: b :: c :: r, hd, h =>
      simp [b_is_clause, startD, tyD, isi, tyOk, ne2]
      have e : clauseB (.tup (a :: b :: c :: r)) = false := by cases a <;> (try rfl) ; cases b <;> rfl
      rw [e] at h
      exact Ret.same h
    | [a, b], hd, h =>
      cases a with
      | tup ts =>
        simp [gd, gds] at hd
        simp [b_is_clause, startD, tyD, isi, tyOk, g_MOST_TESTS, o_lc, gM, flat_m, flatD, -List.all_eq_true]
        refine cnd_i (fun e => Ret.same ?_) (fun e pa hpa => ?_)
        · have e' : (decide (ts.length ≤ 3)) = false := by simp at e ⊢; omega
          cases b <;> simpa [clauseB, e'] using h
        have e' : (decide (ts.length ≤ 3)) = true := by simp at e ⊢; omega
        refine lc_all testB hpa (fun _ => trivial) (by omega) (fun x hx => ⟨_, rfl, fun S Q _ k => ?_⟩) ?_
        · simp [wipeD]
          exact spB_at (gds_mem hd.2.1.2 x hx) k
        simp [-List.all_eq_true]
        refine cnd_i (fun e2 => ?_) (fun e2 => Ret.same ?_)
        · cases b with
          | str m =>
            simp [tyD, isi, tyOk, flatD, flat_m, -List.all_eq_true]
            exact Ret.same (by simpa [clauseB, e', e2, -List.all_eq_true] using h)
          | _ =>
            simp [gd, tyD, isi, tyOk] at hd ⊢
            all_goals exact Ret.same h
        · cases b <;> simpa [clauseB, e', e2, -List.all_eq_true] using h
      | _ =>
        simp [b_is_clause, startD, tyD, isi, tyOk, gd, gds] at hd ⊢
        all_goals exact Ret.same h
  | _ =>
    simp [gd, b_is_clause, startD, tyD, isi, tyOk] at hd ⊢
    all_goals exact Ret.same h
end Lf
set_option Elab.async false
set_option linter.all false
set_option maxRecDepth 100000
namespace Lf
open PySem PySem.Spec PyProof.Rows L2

def ctlB : D → Bool
  | .tup cs => decide (cs.length ≤ 8) && cs.all clauseB
  | _ => false
theorem law_is_controller (L n : Nat) (hL : L ≤ 1000) : ∀ ds S Q, spB ctlB L (n + 3) ds S Q → semSs (b_is_controller (spB clauseB L (n + 2))) (endsOf Q) (startD 2 ds) S := by
  rintro ds S Q ⟨d, rfl, hd, h⟩
  cases d with
  | tup cs =>
    simp [gd] at hd
    simp [b_is_controller, startD, tyD, isi, tyOk, g_MOST_CLAUSES, o_lc, -List.all_eq_true]
    refine cnd_i (fun e => Ret.same ?_) (fun e pa hpa => ?_)
    · have e' : (decide (cs.length ≤ 8)) = false := by simp at e ⊢; omega
      simpa [ctlB, e'] using h
    have e' : (decide (cs.length ≤ 8)) = true := by simp at e ⊢; omega
    refine lc_all clauseB hpa (fun _ => trivial) (by omega) (fun x hx => ⟨_, rfl, fun S Q _ k => ?_⟩) ?_
    · simp [wipeD]
      exact spB_at (gds_mem hd.2 x hx) k
    · exact Ret.same (by simpa [ctlB, e', -List.all_eq_true] using h)
  | _ =>
    simp [gd, b_is_controller, startD, tyD, isi, tyOk] at hd ⊢
    all_goals exact Ret.same h
def wholeB : D → Bool
  | .int _ => true
  | _ => false
theorem law_is_whole (L n : Nat) : ∀ ds S Q, spB wholeB L n ds S Q → semSs b_is_whole (endsOf Q) (startD 1 ds) S := by
  rintro ds S Q ⟨d, rfl, hd, h⟩
  cases d <;> simp [b_is_whole, startD, tyD, isi, tyOk, gd] at hd ⊢
  all_goals exact Ret.same h
def withinB (lo hi : Int) : D → Bool
  | .int i => decide (lo ≤ i) && decide (i ≤ hi)
  | _ => false
def spWithin (L n : Nat) : Spec := fun ds S Q => ∃ d lo hi, ds = [d, .int lo, .int hi] ∧ gd L n d = true ∧ Q (.bl (withinB lo hi d)) S
theorem law_is_within (L n : Nat) : ∀ ds S Q, spWithin L n ds S Q → semSs (b_is_within (spB wholeB L n)) (endsOf Q) (startD 3 ds) S := by
  rintro ds S Q ⟨d, lo, hi, rfl, hd, h⟩
  simp [b_is_within, startD]
  refine spB_at hd ?_
  cases d <;> simp [wholeB]
  all_goals exact Ret.same h
/-- a number of floors, 2 to 4 -/
def spLookF : Spec := fun ds S Q => ∃ n, ds = [.int n] ∧ 2 ≤ n ∧ n ≤ 4 ∧ Q .non S
theorem law_look_f (L n : Nat) : ∀ ds S Q, spLookF ds S Q → semSs (b_look_at_floors (spWithin L n)) (endsOf Q) (startD 1 ds) S := by
  rintro ds S Q ⟨k, rfl, h1, h2, h⟩
  simp [b_look_at_floors, startD, g_MOST_CONTROLLED]
  refine ⟨.int k, 2, 4, rfl, by simp [gd], ?_⟩
  simpa [withinB, h1, h2] using h
/-- ints, each below the next -/
def riseB : List D → Bool
  | .int x :: .int y :: r => decide (x < y) && riseB (.int y :: r)
  | [.int _] => true
  | [] => true
  | _ => false
def pressedB (n : Int) : D → Bool
  | .tup ds => ds.all (withinB 1 n) && riseB ds
  | _ => false
theorem ints_of {n m : Int} : ∀ {ds : List D}, ds.all (withinB n m) = true → ∃ q : List Int, ds = q.map D.int ∧ ∀ x ∈ q, n ≤ x ∧ x ≤ m
  | [], _ => ⟨[], rfl, by simp⟩
  | d :: ds, h => by
    have h' : withinB n m d = true ∧ ds.all (withinB n m) = true := by simpa using h
    obtain ⟨q, rfl, hq⟩ := ints_of h'.2
    cases d with
    | int i =>
      have := h'.1
      simp [withinB] at this
      exact ⟨i :: q, rfl, fun x hx => by
        rcases List.mem_cons.mp hx with z | z
        · subst z; exact this
        · exact hq x z⟩
    | _ => simp [withinB] at h'
def pairs : List Int → List (Int × Int)
  | x :: y :: r => (x, y) :: pairs (y :: r)
  | _ => []
theorem zip_next : ∀ q : List Int, zipD (q.map D.int) ((q.map D.int).drop 1) = (pairs q).map fun p => .tup [.int p.1, .int p.2]
  | [] => rfl
  | [x] => rfl
  | x :: y :: r => by
    have := zip_next (y :: r)
    simp only [List.map_cons, List.drop_succ_cons, List.drop_zero] at this ⊢
    simp only [zipD, pairs, List.map_cons]
    rw [this]
theorem pairs_len : ∀ q : List Int, (pairs q).length ≤ q.length
  | [] => by simp [pairs]
  | [x] => by simp [pairs]
  | x :: y :: r => by
    have := pairs_len (y :: r)
    simp [pairs] at this ⊢
    omega
theorem pairs_rise : ∀ q : List Int, ((pairs q).all fun p => decide (p.1 < p.2)) = riseB (q.map D.int)
  | [] => rfl
  | [x] => rfl
  | x :: y :: r => by
    have := pairs_rise (y :: r)
    simp only [pairs, List.all_cons, List.map_cons, riseB] at this ⊢
    rw [this]
theorem cutD_from1 (ds : List D) : cutD ds (some 1) none = ds.drop 1 := by
  have := cutA_from (xs := ds) (k := 1)
  exact this
def spFloors (L n : Nat) : Spec := fun ds S Q => ∃ d k, ds = [.int k, d] ∧ gd L n d = true ∧ Q (.bl (pressedB k d)) S
theorem law_are_floors (L n : Nat) (hL : L ≤ 1000) : ∀ ds S Q, spFloors L (n + 1) ds S Q → semSs (b_are_floors (spWithin L n)) (endsOf Q) (startD 5 ds) S := by
  rintro ds S Q ⟨d, k, rfl, hd, h⟩
  cases d with
  | tup cs =>
    simp [gd] at hd
    simp [b_are_floors, startD, tyD, isi, tyOk, o_lc, -List.all_eq_true]
    intro pa hpa
    refine lc_all (withinB 1 k) hpa (fun _ => trivial) (by omega) (fun x hx => ⟨_, rfl, fun S Q _ q => ?_⟩) ?_
    · simp [wipeD]
      exact ⟨x, 1, k, rfl, gds_mem hd.2 x hx, q⟩
    simp [-List.all_eq_true]
    refine cnd_i (fun e pb hpb => ?_) (fun e => Ret.same (by simpa [pressedB, e, -List.all_eq_true] using h))
    obtain ⟨q, rfl, hq⟩ := ints_of e
    rw [cutD_from1, zip_next]
    simp at hd
    refine lc_read (α := Int × Int) (fun p => .tup [.int p.1, .int p.2]) (fun _ => true) (fun p => .bl (decide (p.1 < p.2))) (fun _ => True) hpb rfl (fun _ => trivial) (fun _ => trivial) (fun x hx => ⟨_, rfl, readsB_yes, fun _ S Q _ q => ?_⟩) ?_ ?_
    · simp [wipeD]
      exact q
    · have := pairs_len q
      rw [sizeLine_eq]; omega
    · rw [List.filter_eq_self.mpr (fun _ _ => rfl), n_all' (bs := (pairs q).map fun p => decide (p.1 < p.2)) (by simp)]
      have e2 : ((pairs q).map fun p => decide (p.1 < p.2)).all id = (pairs q).all fun p => decide (p.1 < p.2) := by
        rw [List.all_map]; rfl
      rw [e2, pairs_rise]
      exact Ret.same (by simpa [pressedB, e, -List.all_eq_true, -List.all_map] using h)
  | _ =>
    simp [gd, b_are_floors, startD, tyD, isi, tyOk] at hd ⊢
    all_goals exact Ret.same h
def planB (k : Int) : D → Bool
  | .tup ps => decide (ps.length ≤ 60) && ps.all (pressedB k)
  | _ => false
def spPlanB (L n : Nat) : Spec := fun ds S Q => ∃ d k, ds = [.int k, d] ∧ gd L n d = true ∧ 2 ≤ k ∧ k ≤ 4 ∧ Q (.bl (planB k d)) S
theorem law_are_ticks (L n : Nat) (hL : L ≤ 1000) : ∀ ds S Q, spPlanB L (n + 2) ds S Q → semSs (b_are_ticks (spFloors L (n + 1))) (endsOf Q) (startD 3 ds) S := by
  rintro ds S Q ⟨d, k, rfl, hd, hk1, hk2, h⟩
  cases d with
  | tup cs =>
    simp [gd] at hd
    simp [b_are_ticks, startD, tyD, isi, tyOk, g_MOST_TICKS, o_lc, -List.all_eq_true]
    refine cnd_i (fun e => Ret.same ?_) (fun e pa hpa => ?_)
    · have e' : (decide (cs.length ≤ 60)) = false := by simp at e ⊢; omega
      simpa [planB, e'] using h
    have e' : (decide (cs.length ≤ 60)) = true := by simp at e ⊢; omega
    refine lc_all (pressedB k) hpa (fun _ => trivial) (by omega) (fun x hx => ⟨_, rfl, fun S Q _ q => ?_⟩) ?_
    · simp [wipeD]
      exact ⟨x, k, rfl, gds_mem hd.2 x hx, q⟩
    · exact Ret.same (by simpa [planB, e', -List.all_eq_true] using h)
  | _ =>
    simp [gd, b_are_ticks, startD, tyD, isi, tyOk] at hd ⊢
    all_goals exact Ret.same h
theorem law_is_plan (L n : Nat) : ∀ ds S Q, spPlanB L n ds S Q → semSs (b_is_plan spLookF (spPlanB L n)) (endsOf Q) (startD 2 ds) S := by
  rintro ds S Q ⟨d, k, rfl, hd, hk1, hk2, h⟩
  simp [b_is_plan, startD]
  refine ⟨k, rfl, hk1, hk2, ?_⟩
  simp
  exact ⟨d, k, rfl, hd, hk1, hk2, Ret.same h⟩
end Lf
set_option Elab.async false
set_option linter.all false
set_option maxRecDepth 100000
namespace Lf
open PySem PySem.Spec PyProof.Rows L2

/-! ### the law's own looks -/
theorem cutS_lo (s : Str) (n : Nat) : (cutS s none (some (n : Int))).cps.toList = s.cps.toList.take n := by
  have := cutA_to (xs := s.cps.toList) (k := n)
  unfold cutA at this
  simp only [cutS, List.toList_toArray] at this ⊢
  exact this
theorem cutS_hi (s : Str) (n : Nat) : (cutS s (some (n : Int)) none).cps.toList = s.cps.toList.drop n := by
  have := cutA_from (xs := s.cps.toList) (k := n)
  unfold cutA at this
  simp only [cutS, List.toList_toArray] at this ⊢
  exact this
theorem str_ext {a b : Str} (h : a.cps.toList = b.cps.toList) : a = b := by
  cases a; cases b
  simp at h
  simp [h]
theorem str_app (a b : Str) : (a ++ b).cps.toList = a.cps.toList ++ b.cps.toList := by
  show (a.cps ++ b.cps).toList = _
  simp
theorem no_split (s w : Str) : (Str.ofString "no " ++ w == s) = ((cutS s none (some 3) == Str.ofString "no ") && (w == cutS s (some 3) none)) := by
  have hno : (Str.ofString "no ").cps.toList = [110, 111, 32] := by decide +kernel
  have h1 := cutS_lo s 3
  have h2 := cutS_hi s 3
  rw [Bool.eq_iff_iff]
  simp only [beq_iff_eq, Bool.and_eq_true]
  constructor
  · intro e
    subst e
    refine ⟨str_ext ?_, str_ext ?_⟩
    · have := cutS_lo (Str.ofString "no " ++ w) 3
      rw [str_app, hno] at this
      rw [hno]
      exact this
    · have := cutS_hi (Str.ofString "no " ++ w) 3
      rw [str_app, hno] at this
      exact this.symm
  · rintro ⟨e1, e2⟩
    refine str_ext ?_
    rw [str_app, ← e1, e2]
    have a1 : (cutS s none (some 3)).cps.toList = s.cps.toList.take 3 := h1
    have a2 : (cutS s (some 3) none).cps.toList = s.cps.toList.drop 3 := h2
    rw [a1, a2, List.take_append_drop]
def noW : List D := [.str (Str.ofString "no " ++ Str.ofString "ahead"), .str (Str.ofString "no " ++ Str.ofString "behind"), .str (Str.ofString "no " ++ Str.ofString "end"), .str (Str.ofString "no " ++ Str.ofString "here"), .str (Str.ofString "no " ++ Str.ofString "near"), .str (Str.ofString "no " ++ Str.ofString "opened"), .str (Str.ofString "no " ++ Str.ofString "up")]
def words14 : List D := wordsL ++ noW
theorem has14 (s : Str) : hasD (.str s) words14 = testB (.str s) := by
  unfold words14 hasD testB
  rw [List.any_append]
  congr 1
  simp only [noW, wordsL, List.any_cons, List.any_nil, deq, no_split, hasD, Bool.or_false]
  cases (cutS s none (some 3) == Str.ofString "no ") <;> simp
theorem ok14 : okDs 63 words14 = true := by decide +kernel
theorem ones_ne {α : Type} {p : α → Bool} {xs : List α} {S : Store} {Q : DK} : OpC.sem .ne (.lst ((xs.filter p).map fun _ => .int 1)) (.lst []) S Q = Q (.bl (xs.any p)) S := by
  have ok : ∀ ys : List α, okDs 63 (ys.map fun _ => D.int 1) = true := fun ys => by
    induction ys with
    | nil => rfl
    | cons y ys ih => simp [okDs, okD, ih]
  have e : deq (.lst ((xs.filter p).map fun _ => .int 1)) (.lst []) = !(xs.any p) := by
    induction xs with
    | nil => rfl
    | cons x xs ih =>
      cases hp : p x with
      | true => simp [hp, deq, deqs]
      | false => simpa [hp] using ih
  rw [c_ne]
  simp only [rsv, okD, okDs, ok, e, true_and, Bool.not_not]
theorem ones_eq {α : Type} {p : α → Bool} {xs : List α} {S : Store} {Q : DK} : OpC.sem .eq (.lst ((xs.filter p).map fun _ => .int 1)) (.lst []) S Q = Q (.bl (!xs.any p)) S := by
  have ok : ∀ ys : List α, okDs 63 (ys.map fun _ => D.int 1) = true := fun ys => by
    induction ys with
    | nil => rfl
    | cons y ys ih => simp [okDs, okD, ih]
  have e : deq (.lst ((xs.filter p).map fun _ => .int 1)) (.lst []) = !(xs.any p) := by
    induction xs with
    | nil => rfl
    | cons x xs ih =>
      cases hp : p x with
      | true => simp [hp, deq, deqs]
      | false => simpa [hp] using ih
  rw [c_eq]
  simp only [rsv, okD, okDs, ok, e, true_and]
/-- [1 for x in ds if p(x)] -/
theorem lc_ones {g : Store → Prop} {tg : Tg} {tt : DB} {δ : DSt} {Q : DK} (p : D → Bool) {S : Store} {ds : List D} {pa : Addr} (hp : S pa = none) (hg : ∀ S, g S) (hl : ds.length ≤ 1000)
    (h : ∀ x ∈ ds, ∃ δ1, tgD tg x δ = some δ1 ∧ ReadsB tt δ1 (fun _ => True) (p x)) (k : Q (.lst ((ds.filter p).map fun _ => .int 1)) S) : lcS g tg tt (semB (.int 1)).1 δ pa (finL false pa Q) ds [] (ups S pa (.lst [])) := by
  refine lc_items p (fun _ => .int 1) hp hg (fun x hx => ?_) (by rw [sizeLine_eq]; omega) k
  obtain ⟨δ1, e, r⟩ := h x hx
  exact ⟨δ1, e, r, fun _ S Q _ k => by simpa using k⟩
theorem any_not {f : D → Bool} (ds : List D) : ds.any (fun x => !f x) = !ds.all f := by
  induction ds <;> simp_all
theorem law_lclause (L n : Nat) (hL : L ≤ 1000) : ∀ ds S Q, spB clauseB L (n + 2) ds S Q → semSs b__law_is_clause (endsOf Q) (startD 4 ds) S := by
  rintro ds S Q ⟨d, rfl, hd, h⟩
  have hw : ∀ (δ : DSt) (R : DK), δ = [some d, some (.lst wordsL), none, none] → R (.lst words14) S → ∀ pa, S pa = none → lcS (fun _ => True) (.nm 2) (cOf .no (semB .no).1) (semB (.bin .add (.str "no ") (.var 2))).1 (wipeD δ [2]) pa
      (finL false pa fun y S2 => OpB.sem .add (.lst wordsL) y S2 R) wordsL [] (ups S pa (.lst [])) := by
    intro δ R e k pa hpa
    subst e
    refine lc_items (fun _ => true) (fun x => match x with
      | .str w => .str (Str.ofString "no " ++ w)
      | x => x) hpa (fun _ => trivial) (fun x hx => ⟨_, rfl, readsB_yes, fun _ S Q _ k => ?_⟩) (by rw [sizeLine_eq]; decide) ?_
    · obtain ⟨w, rfl⟩ := isWd hx
      simp [wipeD]
      refine ⟨?_, k⟩
      have : (Str.ofString "no ").length = 3 := by decide +kernel
      have := (Ts.ok ⟨false, w⟩).2
      have hw : w.s.length ≤ 10 := by cases w <;> decide +kernel
      rw [sizeLine_eq]; omega
    · rw [List.filter_eq_self.mpr (fun _ _ => rfl)]
      simp only [b_addL]
      exact ⟨by rw [sizeLine_eq]; decide, k⟩
  have start : ∀ R : Prop, (semSs (b__law_is_clause.drop 2) (endsOf Q) [some d, some (.lst words14), none, none] S) → semSs b__law_is_clause (endsOf Q) (startD 4 [d]) S := by
    intro R k
    simp only [b__law_is_clause, startD, p_cons, p_set, o_lst, o_cons, o_str, o_nil, o_bin, o_var]
    refine ⟨by rw [sizeLine_eq]; decide, .lst wordsL, rfl, ?_⟩
    rw [o_lc]
    simp only [w_var]
    refine ⟨.lst wordsL, rfl, ?_⟩
    simp only [v_lst]
    exact hw _ _ rfl k
  refine start True ?_
  simp only [b__law_is_clause, List.drop_succ_cons, List.drop_zero]
  cases d with
  | tup es =>
    match es, hd, h with
    | [], hd, h =>
      simp [tyD, isi, tyOk]
      exact Ret.same h
    | [a], hd, h =>
      simp [tyD, isi, tyOk]
      exact Ret.same (by cases a <;> exact h)
    | a :: b :: c :: r, hd, h =>
      simp [tyD, isi, tyOk, ne2]
      have e : clauseB (.tup (a :: b :: c :: r)) = false := by cases a <;> (try rfl) ; cases b <;> rfl
      rw [e] at h
      exact Ret.same h
    | [a, b], hd, h =>
      cases a with
      | tup ts =>
        simp [gd, gds] at hd
        simp [tyD, isi, tyOk, o_lc, flatD, -List.all_eq_true]
        refine cnd_i (fun e => Ret.same ?_) (fun e pa hpa => ?_)
        · have e' : (decide (ts.length ≤ 3)) = false := by simp at e ⊢; omega
          cases b <;> simpa [clauseB, e'] using h
        have e' : (decide (ts.length ≤ 3)) = true := by simp at e ⊢; omega
        refine lc_ones (fun x => !testB x) hpa (fun _ => trivial) (by omega) (fun x hx => ⟨_, rfl, fun S Q _ k => ?_⟩) ?_
        · have gx := gds_mem hd.2.1.2 x hx
          cases x with
          | str s =>
            simp [gd] at gx
            simp [cOf, wipeD, tyD, isi, tyOk, okD, gx.1, ok14, has14]
            exact k
          | _ =>
            simp [gd, cOf, wipeD, tyD, isi, tyOk] at gx ⊢
            all_goals exact k
        simp [ones_ne, any_not, sizeLine_eq, -List.all_eq_true]
        refine cnd_i (fun e2 => ?_) (fun e2 => Ret.same ?_)
        · cases b with
          | str m =>
            simp [gd] at hd
            have hm : hasD (.str m) [.str (Str.ofString "back"), .str (Str.ofString "on"), .str (Str.ofString "open"), .str (Str.ofString "stay"), .str (Str.ofString "turn")] = hasD (.str m) movesL := rfl
            have om : okDs 63 [.str (Str.ofString "back"), .str (Str.ofString "on"), .str (Str.ofString "open"), .str (Str.ofString "stay"), .str (Str.ofString "turn")] = true := by decide +kernel
            simp [tyD, isi, tyOk, okD, hd, om, hm, sizeLine_eq, -List.all_eq_true]
            exact Ret.same (by simpa [clauseB, e', e2, -List.all_eq_true] using h)
          | _ =>
            simp [gd, tyD, isi, tyOk] at hd ⊢
            all_goals exact Ret.same h
        · cases b <;> simpa [clauseB, e', e2, -List.all_eq_true] using h
      | _ =>
        simp [tyD, isi, tyOk, gd, gds] at hd ⊢
        all_goals exact Ret.same h
  | _ =>
    simp [gd, tyD, isi, tyOk] at hd ⊢
    all_goals exact Ret.same h
theorem law_lctl (L n : Nat) (hL : L ≤ 1000) : ∀ ds S Q, spB ctlB L (n + 3) ds S Q → semSs (b__law_is_controller (spB clauseB L (n + 2))) (endsOf Q) (startD 2 ds) S := by
  rintro ds S Q ⟨d, rfl, hd, h⟩
  cases d with
  | tup cs =>
    simp [gd] at hd
    simp [b__law_is_controller, startD, tyD, isi, tyOk, o_lc, -List.all_eq_true]
    refine cnd_i (fun e => Ret.same ?_) (fun e pa hpa => ?_)
    · have e' : (decide (cs.length ≤ 8)) = false := by simp at e ⊢; omega
      simpa [ctlB, e'] using h
    have e' : (decide (cs.length ≤ 8)) = true := by simp at e ⊢; omega
    refine lc_ones (fun x => !clauseB x) hpa (fun _ => trivial) (by omega) (fun x hx => ⟨_, rfl, fun S Q _ k => ?_⟩) ?_
    · simp [cOf, wipeD]
      exact spB_at (gds_mem hd.2 x hx) (by simpa using k)
    · simp [ones_eq, any_not, sizeLine_eq, -List.all_eq_true]
      exact Ret.same (by simpa [ctlB, e', -List.all_eq_true] using h)
  | _ =>
    simp [gd, b__law_is_controller, startD, tyD, isi, tyOk] at hd ⊢
    all_goals exact Ret.same h
/-- rising or not: told by sorting -/
theorem rise_sorted (q : List Int) : riseB (q.map D.int) = true ↔ q.Pairwise (· < ·) := by
  induction q with
  | nil => simp [riseB]
  | cons x r ih =>
    cases r with
    | nil => simp [riseB]
    | cons y r =>
      simp only [List.map_cons, riseB, Bool.and_eq_true, decide_eq_true_eq] at ih ⊢
      rw [List.pairwise_cons, ih]
      constructor
      · rintro ⟨h1, h2⟩
        refine ⟨fun z hz => ?_, h2⟩
        rcases List.mem_cons.mp hz with e | e
        · rw [e]; exact h1
        · have := (List.pairwise_cons.mp h2).1 z e
          omega
      · rintro ⟨h1, h2⟩
        exact ⟨h1 y (by simp), h2⟩
theorem deqs_ints : ∀ p q : List Int, deqs (p.map D.int) (q.map D.int) = decide (p = q)
  | [], [] => rfl
  | [], _ :: _ => rfl
  | _ :: _, [] => rfl
  | x :: p, y :: q => by
    simp only [List.map_cons, deqs, deq, deqs_ints p q]
    by_cases h : x = y <;> by_cases h2 : p = q <;> simp [h, h2]
theorem sorted_rise (q : List Int) : decide (q = sortSet q) = riseB (q.map D.int) := by
  rw [Bool.eq_iff_iff, decide_eq_true_eq, rise_sorted]
  constructor
  · intro e
    rw [e]; exact sortSet_rising q
  · intro h
    exact sortSet_eq h fun _ => Iff.rfl
theorem ok_ints (m : Nat) : ∀ q : List Int, okDs m (q.map D.int) = true
  | [] => rfl
  | x :: q => by simp [okDs, okD, ok_ints m q]
theorem ints_whole : ∀ {ds : List D}, ds.all wholeB = true → ∃ q : List Int, ds = q.map D.int
  | [], _ => ⟨[], rfl⟩
  | d :: ds, h => by
    have h' : wholeB d = true ∧ ds.all wholeB = true := by simpa using h
    obtain ⟨q, rfl⟩ := ints_whole h'.2
    cases d with
    | int i => exact ⟨i :: q, rfl⟩
    | _ => simp [wholeB] at h'
theorem within_whole {lo hi : Int} {ds : List D} (h : ds.all (withinB lo hi) = true) : ds.all wholeB = true := by
  rw [List.all_eq_true] at h ⊢
  intro x hx
  have := h x hx
  cases x <;> simp_all [withinB, wholeB]
theorem law_lpressed (L n : Nat) (hL : L < 64) : ∀ ds S Q, spFloors L (n + 1) ds S Q → semSs b__law_is_pressed (endsOf Q) (startD 3 ds) S := by
  rintro ds S Q ⟨d, k, rfl, hd, h⟩
  cases d with
  | tup cs =>
    simp [gd] at hd
    simp [b__law_is_pressed, startD, tyD, isi, tyOk, o_lc, -List.all_eq_true]
    intro pa hpa
    refine lc_ones (fun x => !wholeB x) hpa (fun _ => trivial) (by omega) (fun x hx => ⟨_, rfl, fun S Q _ q => ?_⟩) ?_
    · have gx := gds_mem hd.2 x hx
      cases x <;> simp [gd, cOf, wipeD, tyD, isi, tyOk] at gx ⊢ <;> exact q
    simp [ones_ne, any_not, sizeLine_eq, -List.all_eq_true]
    refine cnd_i (fun e pb hpb => ?_) (fun e => Ret.same ?_)
    · obtain ⟨q, rfl⟩ := ints_whole e
      refine lc_ones (fun x => !withinB 1 k x) hpb (fun _ => trivial) (by omega) (fun x hx => ⟨_, rfl, fun S Q _ q => ?_⟩) ?_
      · obtain ⟨i, _, rfl⟩ := List.mem_map.mp hx
        simp [cOf, wipeD]
        simp only [withinB] at q
        cases h1 : decide (1 ≤ i) <;> simp [h1] at q ⊢ <;> exact q
        trace_state
      simp [ones_eq, any_not, sizeLine_eq, -List.all_eq_true, -List.all_map, -List.any_map]
      refine cnd_i (fun e3 => ?_) (fun e3 => Ret.same (by simpa [pressedB, e3, -List.all_eq_true, -List.all_map] using h))
      refine ⟨q, .inl rfl, by simp at hd; omega, ?_⟩
      simp only [c_eq, rsv, okD, ok_ints, deq, deqs_ints, sorted_rise, true_and]
      refine Ret.same ?_
      simpa [pressedB, e3, -List.all_eq_true, -List.all_map] using h
    · have : (cs.all (withinB 1 k)) = false := by
        cases e3 : cs.all (withinB 1 k) with
        | false => rfl
        | true => rw [within_whole e3] at e; cases e
      simpa [pressedB, this, -List.all_eq_true] using h
  | _ =>
    simp [gd, b__law_is_pressed, startD, tyD, isi, tyOk] at hd ⊢
    all_goals exact Ret.same h
theorem law_lplan (L n : Nat) (hL : L < 64) : ∀ ds S Q, spPlanB L (n + 2) ds S Q → semSs (b__law_is_plan (spFloors L (n + 1))) (endsOf Q) (startD 3 ds) S := by
  rintro ds S Q ⟨d, k, rfl, hd, hk1, hk2, h⟩
  cases d with
  | tup cs =>
    simp [gd] at hd
    simp [b__law_is_plan, startD, tyD, isi, tyOk, o_lc, -List.all_eq_true]
    refine cnd_i (fun e => Ret.same ?_) (fun e pa hpa => ?_)
    · have e' : (decide (cs.length ≤ 60)) = false := by simp at e ⊢; omega
      simpa [planB, e'] using h
    have e' : (decide (cs.length ≤ 60)) = true := by simp at e ⊢; omega
    refine lc_ones (fun x => !pressedB k x) hpa (fun _ => trivial) (by omega) (fun x hx => ⟨_, rfl, fun S Q _ q => ?_⟩) ?_
    · simp [cOf, wipeD]
      exact ⟨x, k, rfl, gds_mem hd.2 x hx, by simpa using q⟩
    · simp [ones_eq, any_not, sizeLine_eq, -List.all_eq_true]
      exact Ret.same (by simpa [planB, e', -List.all_eq_true] using h)
  | _ =>
    simp [gd, b__law_is_plan, startD, tyD, isi, tyOk] at hd ⊢
    all_goals exact Ret.same h
end Lf
set_option Elab.async false
set_option linter.all false
set_option maxRecDepth 100000
namespace Lf
open PySem PySem.Spec PyProof.Rows L2

/-! ### one thing otherwise -/
def spOdd (L N : Nat) : Spec := fun ds S Q => ∃ b m l d, ds = [.ref b, d] ∧ gd L N d = true ∧ S b = some (.lst l) ∧ BagL (m + 3 * (N + 1)) l ∧ ∀ e l', gd (L + 1) (N + 2) e = true → BagL m l' → Q e (ups S b (.lst l'))
def oddL : List D := [.non, .bl true, .int 0, .int 1, .int 5, .int (-1), .str (Str.ofString ""), .str (Str.ofString "no"), .str (Str.ofString "no here"), .str (Str.ofString "nothere"), .str (Str.ofString "no  up"), .str (Str.ofString "No up"), .str (Str.ofString "here"), .str (Str.ofString "open"), .str (Str.ofString "opened"),
  .str (Str.ofString "shut"), .tup [], .lst [], .tup [.str (Str.ofString "here")], .tup [.tup [], .str (Str.ofString "on")], .tup [.int 1], .tup [.int 2, .int 1], .tup [.int 1, .int 1], .str (Str.ofString "no no up"), .int (10 ^ 20)]
theorem odd_gd : gds 2 2 oddL = true := by decide +kernel
theorem atN {ds : List D} {n : Nat} {p : D → Prop} (h : n < ds.length) (k : p ds[n]) : ∃ d, L2.atI ds (n : Int) = some d ∧ p d := ⟨_, L2.atI_nat (List.getElem?_eq_getElem h), k⟩
theorem cutT' (ds : List D) (n : Nat) : cutD ds none (some (n : Int)) = ds.take n := cutA_to (xs := ds) (k := n)
theorem cutF' (ds : List D) (n : Nat) : cutD ds (some (n : Int)) none = ds.drop n := cutA_from (xs := ds) (k := n)
theorem cutM' (ds : List D) (n m : Nat) : ∃ es, cutD ds (some (n : Int)) (some (m : Int)) = es ∧ (∀ d ∈ es, d ∈ ds) ∧ es.length ≤ m - n := by
  refine ⟨_, rfl, fun d hd => ?_, ?_⟩
  · exact List.mem_of_mem_drop (List.mem_of_mem_take hd)
  · unfold cutD
    rw [HT.sIx_nat, HT.sIx_nat, List.length_take, List.length_drop]
    omega
theorem odd_first (sp : Spec) {L N m : Nat} {b : Addr} {d : D} {l : List D} {S : Store} {Q : DK} {En : DEnds} (hEn : ∀ e S, Q e S → En.rt e S) (h1 : 2 ≤ L + 1) (h2 : 2 ≤ N + 2) (hS : S b = some (.lst l)) (hm : BagL (m + 1) l) (h : ∀ e l', gd (L + 1) (N + 2) e = true → BagL m l' → Q e (ups S b (.lst l'))) :
    semSs [.set (.nm 2) (.lst false [.non, .bl true, .int 0, .int 1, .int 5, .neg (.int 1), .str "", .str "no", .str "no here", .str "nothere", .str "no  up", .str "No up", .str "here", .str "open", .str "opened"]),
    .set (.nm 2) (.bin .add (.var 2) (.lst false [.str "shut", .tup [], .lst false [], .tup [.str "here"], .tup [.tup [], .str "on"], .tup [.int 1], .tup [.int 2, .int 1], .tup [.int 1, .int 1], .str "no no up", .bin .pow (.int 10) (.int 20)])),
    .ret (.ix (.var 2) (.call "_law_take" spTake [.var 0, .int 25]))] En [some (.ref b), some d, none, none, none] S := by
  simp [sizeLine_eq, sNeg]
  refine take_sp (m := m) (by omega) (by omega) hS hm fun r l1 r1 r2 hm1 => ?_
  simp
  refine pick (ds := oddL) r1 (by exact r2) fun e he => ?_
  exact Ret.same (hEn _ _ (h e l1 (gd_le h1 h2 (gds_mem odd_gd e he)) hm1))
theorem law_odd (L N : Nat) (hL : 1 ≤ L) (hL2 : L ≤ 900) (sp : Spec) (hs : ∀ k, N = k + 1 → sp = spOdd L k) : ∀ ds S Q, spOdd L N ds S Q → semSs (b__law_odd spTake sp) (endsOf Q) (startD 5 ds) S := by
  rintro ds S Q ⟨b, m, l, d, rfl, hd, hS, hm, h⟩
  have first : ∀ En : DEnds, (∀ e S, Q e S → En.rt e S) → ∀ (l1 : List D) (m1 : Nat), m ≤ m1 → BagL (m1 + 1) l1 → ∀ S1 : Store, S1 b = some (.lst l1) → (∀ l', ups S1 b (.lst l') = ups S b (.lst l')) → semSs [.set (.nm 2) (.lst false [.non, .bl true, .int 0, .int 1, .int 5, .neg (.int 1), .str "", .str "no", .str "no here", .str "nothere", .str "no  up", .str "No up", .str "here", .str "open", .str "opened"]),
    .set (.nm 2) (.bin .add (.var 2) (.lst false [.str "shut", .tup [], .lst false [], .tup [.str "here"], .tup [.tup [], .str "on"], .tup [.int 1], .tup [.int 2, .int 1], .tup [.int 1, .int 1], .str "no no up", .bin .pow (.int 10) (.int 20)])),
    .ret (.ix (.var 2) (.call "_law_take" spTake [.var 0, .int 25]))] En [some (.ref b), some d, none, none, none] S1 := by
    intro En hEn l1 m1 hm1 hb S1 hS1 hu
    refine odd_first sp (L := L) (N := N) (m := m1) (Q := Q) hEn (by omega) (by omega) hS1 hb fun e l' he hl => ?_
    rw [hu]
    exact h e l' he (hl.le hm1)
  have isT : ∀ es, d = .tup es → semSs (b__law_odd spTake sp) (endsOf Q) (startD 5 [.ref b, d]) S := by
    intro es hde
    subst hde
    cases N with
    | zero => simp [gd] at hd
    | succ k =>
      have hsp := hs k rfl
      subst hsp
      simp only [gd, Bool.and_eq_true, decide_eq_true_eq] at hd
      obtain ⟨hl, hg⟩ := hd
      unfold b__law_odd startD
      simp only [p_cons, p_ite, o_or, o_not, o_bi, o_cons, o_var, o_ty, o_nil, n_isi1, o_cmp, o_call, o_int]
      refine ⟨.tup es, rfl, "tuple", rfl, by decide, ?_⟩
      have e1 : isi "tuple" "tuple" = true := by decide
      simp only [e1, t_bl, Bool.not_true, cnd_false]
      refine ⟨.ref b, rfl, ?_⟩
      refine take_sp (m := m + 3 * (k + 1 + 1) - 1) (by omega) (by omega) hS (by rw [Nat.sub_add_cancel (by omega)]; exact hm) fun r l1 r1 r2 hm1 => ?_
      simp only [c_eqI, t_bl]
      refine cnd_i (fun _ => first _ (fun e S h => by simpa using h) l1 (m + 3 * (k + 1 + 1) - 2) (by omega) (by rw [show m + 3 * (k + 1 + 1) - 2 + 1 = m + 3 * (k + 1 + 1) - 1 by omega]; exact hm1) _ ups_at (fun l' => ups_ups)) (fun _ => ?_)
      simp [-List.map_take, -List.map_drop]
      refine take_sp (m := m + 3 * (k + 1 + 1) - 2) (by omega) (by omega) ups_at (by rw [show m + 3 * (k + 1 + 1) - 2 + 1 = m + 3 * (k + 1 + 1) - 1 by omega]; exact hm1) fun at_ l2 r3 r4 hm2 => ?_
      refine take_sp (m := m + 3 * (k + 1)) (by omega) (by omega) ups_at (hm2.le (by omega)) fun way l3 r5 r6 hm3 => ?_
      obtain ⟨at_, rfl⟩ := Int.eq_ofNat_of_zero_le r3
      have hat : at_ ≤ es.length := by omega
      simp only [ups_ups]
      have fin : ∀ es' l', es'.length ≤ L + 1 → gds (L + 1) (k + 2) es' = true → BagL m l' → Q (.tup es') (ups S b (.lst l')) := fun es' l' h1 h2 h3 =>
        h _ l' (by simp [gd, h1, h2]) h3
      have up := gds_le (M := L + 1) (m := k + 2) (show L ≤ L + 1 by omega) (show k ≤ k + 2 by omega) hg
      have sub : ∀ es' : List D, (∀ d ∈ es', d ∈ es) → gds (L + 1) (k + 2) es' = true := fun es' he => gds_of fun d hd => gds_mem up d (he d hd)
      have tk : ∀ d ∈ es.take at_, d ∈ es := fun d hd => List.mem_of_mem_take hd
      have dp : ∀ n, ∀ d ∈ es.drop n, d ∈ es := fun n d hd => List.mem_of_mem_drop hd
      have lt : (es.take at_).length = at_ := by simp; omega
      simp [-List.map_take, -List.map_drop]
      have ca := cutT' es at_
      have cb := cutF' es at_
      have cc : cutD es (some ((at_ : Int) + 1)) none = es.drop (at_ + 1) := cutF' es (at_ + 1)
      obtain ⟨es2, cd, cd2, cd3⟩ := cutM' es at_ (at_ + 1)
      have cd : cutD es (some (at_ : Int)) (some ((at_ : Int) + 1)) = es2 := cd
      simp only [ca, cb, cc, cd]
      have lt : (es.take at_).length = at_ := by simp; omega
      have ld : (es.drop at_).length = es.length - at_ := by simp
      have ld1 : (es.drop (at_ + 1)).length = es.length - (at_ + 1) := by simp
      have mem : ∀ es' : List D, (∀ d ∈ es', d ∈ es ∨ gd (L + 1) (k + 2) d = true) → gds (L + 1) (k + 2) es' = true := fun es' he => gds_of fun d hd => by
        rcases he d hd with z | z
        · exact gds_mem up d z
        · exact z
      refine cnd_i (fun _ => ?_) (fun _ => ?_)
      · refine Ret.same ?_
        refine h _ l3 ?_ (hm3.le (by omega))
        simp [gd, up]
        omega
      -- put in
      have put : ∀ (e : D) (r : List D) l4, gd (L + 1) (k + 2) e = true → BagL m l4 → (∀ d ∈ r, d ∈ es) → r.length ≤ es.length - at_ → Q (.tup (es.take at_ ++ e :: r)) (ups S b (.lst l4)) := fun e r l4 he hl4 hr hrl =>
        fin _ l4 (by simp only [List.length_append, lt, List.length_cons]; omega) (mem _ fun d hd => by
          rcases List.mem_append.mp hd with z | z
          · exact .inl (tk d z)
          · rcases List.mem_cons.mp z with y | y
            · exact .inr (by rw [y]; exact he)
            · exact .inl (hr d y)) hl4
      have goIn : ∀ (R : DK), (∀ e l4, gd (L + 1) (k + 2) e = true → BagL m l4 → R e (ups S b (.lst l4))) → ∀ x, gd L k x = true → spOdd L k [.ref b, x] (ups S b (.lst l3)) R := fun R hR x hx =>
        ⟨b, m, l3, x, rfl, hx, ups_at, hm3, fun e l' he hl' => by rw [ups_ups]; exact hR e l' he hl'⟩
      have none_ok : gd L k .non = true := by simp [gd]
      have insOk : ∀ En : DEnds, (∀ e S, Q e S → En.rt e S) → spOdd L k [.ref b, .non] (ups S b (.lst l3)) fun d S1 => 1 ≤ sizeLine ∧ (es.take at_).length + 1 ≤ sizeLine ∧ (es.take at_).length + 1 + (es.drop at_).length ≤ sizeLine ∧ Ret En (.tup (es.take at_ ++ d :: es.drop at_)) S1 := fun En hEn =>
        goIn _ (fun e l4 he hl4 => ⟨by rw [sizeLine_eq]; omega, by rw [sizeLine_eq]; omega, by rw [sizeLine_eq]; omega, Ret.same (hEn _ _ (put e _ l4 he hl4 (dp at_) (by omega)))⟩) _ none_ok
      refine cnd_i (fun _ => insOk _ fun _ _ q => by simpa using q) (fun _ => cnd_i (fun _ => insOk _ fun _ _ q => by simpa using q) (fun hne => cnd_i (fun _ => ?_) (fun _ => cnd_i (fun _ => ?_) (fun _ => ?_))))
      · refine ⟨by rw [sizeLine_eq]; omega, by rw [sizeLine_eq]; omega, Ret.same (fin _ l3 ?_ (mem _ fun d hd => .inl ?_) (hm3.le (by omega)))⟩
        · simp only [List.length_append, lt, ld]; omega
        · rcases List.mem_append.mp hd with z | z
          · exact tk d z
          · rcases List.mem_append.mp z with y | y
            · exact cd2 d y
            · exact dp _ d y
      · refine ⟨by rw [sizeLine_eq]; omega, Ret.same (fin _ l3 ?_ (mem _ fun d hd => .inl ?_) (hm3.le (by omega)))⟩
        · simp only [List.length_append, lt, ld1]; omega
        · rcases List.mem_append.mp hd with z | z
          · exact tk d z
          · exact dp _ d z
      · have hlt : at_ < es.length := by simp at hne; omega
        refine atN hlt ?_
        refine goIn _ (fun e l4 he hl4 => ⟨by rw [sizeLine_eq]; omega, by rw [sizeLine_eq]; omega, by rw [sizeLine_eq]; omega, Ret.same (put e _ l4 he hl4 (dp _) (by omega))⟩) _ (gds_mem hg _ (List.getElem_mem hlt))
  cases d with
  | tup es => exact isT es rfl
  | _ =>
    simp [gd] at hd
    all_goals
      unfold b__law_odd startD
      simp only [p_cons, p_ite, o_or, o_not, o_bi, o_cons, o_var, o_ty, o_nil, n_isi1, o_cmp, o_call, o_int]
      refine ⟨_, rfl, _, rfl, by decide, ?_⟩
      simp only [show isi "NoneType" "tuple" = false by decide, show isi "bool" "tuple" = false by decide, show isi "int" "tuple" = false by decide, show isi "str" "tuple" = false by decide, show isi "list" "tuple" = false by decide, t_bl, Bool.not_false, cnd_true]
      exact first _ (fun e S h => by simpa using h) l m (Nat.le_refl _) (hm.le (by omega)) S hS (fun _ => rfl)
end Lf
set_option Elab.async false
set_option linter.all false
set_option maxRecDepth 100000
namespace Lf
open PySem PySem.Spec PyProof.Rows L2

/-! ### the bags -/
/-- bags stand at bs -/
def BagsAt (S : Store) (m : Nat) (bs : List Addr) : Prop := bs.Nodup ∧ ∀ b ∈ bs, ∃ l, S b = some (.lst l) ∧ BagL m l
def spBags : Spec := fun ds S Q => ∃ (ns : List Int) (k : Int), ds = [.scr (ns.map D.int), .int k] ∧ 0 ≤ k ∧ ns.length ≤ 63 ∧ (∀ a, S a = none) ∧ ∀ bs S', BagsAt S' 1000000000000000 bs → Q (.lst (bs.map D.ref)) S'
theorem bags_lc {g : Store → Prop} (hg : ∀ S, g S) {x0 x1 : Option D} {pa : Addr} {Q : DK} (hQ : ∀ bs S', BagsAt S' 1000000000000000 bs → Q (.lst (bs.map D.ref)) S') : ∀ (qs : List Int) (i : Nat) (bs : List Addr) (S : Store), i + qs.length ≤ 1000 → bs.length + qs.length ≤ 1000 → S pa = some (.lst (bs.map D.ref)) → pa ∉ bs → BagsAt S 1000000000000000 bs →
    lcS g (.tp [.nm 2, .nm 3]) (cOf .no (semB .no).1) (semB (.call "_law_well" spWell [.var 3, .bin .mul (.int 977) (.var 2)])).1 (wipeD [x0, x1, none, none] [2, 3]) pa (finL false pa Q) (enumD i (qs.map D.int)) (bs.map D.ref) S
  | [], i, bs, S, hi, hl, hp, hn, hb => by
    simp only [List.map_nil, enumD, lcS, finL]
    refine ⟨hg S, hp, hQ bs _ ⟨hb.1, fun b hm => ?_⟩⟩
    obtain ⟨l, e, h⟩ := hb.2 b hm
    exact ⟨l, by unfold drp; rw [if_neg (show ¬ b = pa from fun z => hn (by rw [← z]; exact hm))]; exact e, h⟩
  | q :: qs, i, bs, S, hi, hl, hp, hn, hb => by
    simp only [List.length_cons] at hi hl
    simp only [List.map_cons, enumD, lcS]
    refine ⟨hg S, ?_⟩
    have e : tgD (.tp [.nm 2, .nm 3]) (.tup [.int i, .int q]) (wipeD [x0, x1, none, none] [2, 3]) = some [x0, x1, some (.int i), some (.int q)] := rfl
    rw [e]
    simp [cOf, sYes]
    refine ⟨.inl ⟨by omega, by omega⟩, q, 977 * i, rfl, by omega, by omega, fun p l hp0 hl0 => ?_⟩
    have hpp : pa ≠ p := fun z => by rw [z, hp0] at hp; cases hp
    have hpb : p ∉ bs := fun z => by
      obtain ⟨l, e, _⟩ := hb.2 p z
      rw [hp0] at e; cases e
    refine ⟨by rw [ups_ne hpp]; exact hp, by rw [sizeLine_eq]; omega, ?_⟩
    have e3 : bs.map D.ref ++ [D.ref p] = (bs ++ [p]).map D.ref := by simp
    rw [e3]
    refine bags_lc hg hQ qs (i + 1) (bs ++ [p]) _ (by omega) (by simp; omega) ups_at (fun z => ?_) ⟨?_, fun b hm => ?_⟩
    · rcases List.mem_append.mp z with y | y
      · exact hn y
      · simp at y; exact hpp y
    · rw [List.nodup_append]
      refine ⟨hb.1, by simp, fun a ha c hc => ?_⟩
      simp at hc
      subst hc
      exact fun z => hpb (z ▸ ha)
    · rcases List.mem_append.mp hm with y | y
      · obtain ⟨l2, e, h⟩ := hb.2 b y
        have h1 : b ≠ p := fun z => hpb (z ▸ y)
        have h2 : b ≠ pa := fun z => hn (z ▸ y)
        exact ⟨l2, by rw [ups_ne h2, ups_ne h1]; exact e, h⟩
      · simp at y
        subst y
        exact ⟨l, by rw [ups_ne (Ne.symm hpp), ups_at], hl0⟩
theorem law_bags : ∀ ds S Q, spBags ds S Q → semSs (b__law_bags spWell) (endsOf Q) (startD 4 ds) S := by
  rintro ds S Q ⟨ns, k, rfl, hk, hl, hS, h⟩
  obtain ⟨k, rfl⟩ := Int.eq_ofNat_of_zero_le hk
  simp [b__law_bags, startD, o_lc, sizeLine_eq, -List.map_take]
  have e : cutD (ns.map D.int) none (some (k : Int)) = (ns.take k).map D.int := by rw [cut_map', cutA_to]
  rw [e]
  refine ⟨by simp; omega, fun pa hpa => ?_⟩
  have e2 : (ns.take k).map D.int ++ [D.int 0] = (ns.take k ++ [0]).map D.int := by simp
  rw [e2]
  refine bags_lc (fun _ => trivial) (fun bs S' hb => Ret.same (h bs S' hb)) (ns.take k ++ [0]) 0 [] _ (by simp; omega) (by simp; omega) ups_at (by simp) ⟨.nil, by simp⟩
end Lf
set_option Elab.async false
set_option linter.all false
set_option maxRecDepth 100000
namespace Lf
open PySem PySem.Spec PyProof.Rows L2

/-! ### loops -/
/-- for bag in bags -/
theorem for_bags {g : Store → Prop} (hg : ∀ S, g S) {tb : DS} {En : DEnds} {n i M : Nat}
    (hb : ∀ (δ : DSt) (S : Store) (b : Addr) (bs : List Addr) (K : DSt → Store → Prop), δ.length = n → BagsAt S M (b :: bs) → (∀ δ' S', δ'.length = n → (∀ x ∈ bs, S' x = S x) → K δ' S') → tb { nx := K, rt := En.rt, bk := En.nx, ct := K } (δ.set i (some (.ref b))) S)
    (he : ∀ δ S, δ.length = n → En.nx δ S) : ∀ (bs : List Addr) (δ : DSt) (S : Store), BagsAt S M bs → δ.length = n → forS g (.nm i) tb En (bs.map D.ref) δ S
  | [], δ, S, _, hl => ⟨hg S, he δ S hl⟩
  | b :: bs, δ, S, hB, hl => by
    simp only [List.map_cons, forS]
    refine ⟨hg S, ?_⟩
    simp only [tgD]
    refine hb δ S b bs _ hl hB fun δ' S' hl' hS' => for_bags hg hb he bs δ' S' ⟨(List.nodup_cons.mp hB.1).2, fun x hx => ?_⟩ hl'
    rw [hS' x hx]
    exact hB.2 x (List.mem_cons_of_mem _ hx)
theorem len8 {δ : DSt} (h : δ.length = 8) : ∃ a0 a1 a2 a3 a4 a5 a6 a7, δ = [a0, a1, a2, a3, a4, a5, a6, a7] := by
  match δ, h with
  | [a0, a1, a2, a3, a4, a5, a6, a7], _ => exact ⟨a0, a1, a2, a3, a4, a5, a6, a7, rfl⟩
/-- some.append(_law_odd(bag, x)), again and again -/
theorem grow {g : Store → Prop} (hg : ∀ S, g S) {L N : Nat} {p b : Addr} (hpb : p ≠ b) {d : D} (hd : gd L N d = true) {En : DEnds} {δ : DSt} {vb vs v vt : Nat} (h1 : δ[vb]? = some (some (.ref b))) (h2 : δ[vs]? = some (some (.ref p))) (h3 : δ[v]? = some (some d)) (n1 : vt ≠ vb) (n2 : vt ≠ vs) (n3 : vt ≠ v) :
    ∀ (items : List D) (es l : List D) (m : Nat) (S : Store) (a : Option D), S p = some (.lst es) → (∀ e ∈ es, gd (L + 1) (N + 2) e = true) → es.length + items.length ≤ 900 → S b = some (.lst l) → BagL (m + 3 * (N + 1) * items.length) l →
      (∀ es' l' a' S', es'.length = es.length + items.length → (∀ e ∈ es', gd (L + 1) (N + 2) e = true) → S' p = some (.lst es') → S' b = some (.lst l') → BagL m l' → (∀ x, x ≠ p → x ≠ b → S' x = S x) → En.nx (δ.set vt a') S') →
      forS g (.nm vt) (semSs [.exp (.app (.var vs) (.call "_law_odd" (spOdd L N) [.var vb, .var v]))]) En items (δ.set vt a) S
  | [], es, l, m, S, a, hp, he, hl, hb, hB, k => ⟨hg S, k es l a S (by simp) he hp hb (by simpa using hB) fun _ _ _ => rfl⟩
  | i :: items, es, l, m, S, a, hp, he, hl, hb, hB, k => by
    simp only [forS, tgD, List.set_set]
    refine ⟨hg S, ?_⟩
    simp only [List.length_cons] at hl hB
    have hB' : BagL (m + 3 * (N + 1) * items.length + 3 * (N + 1)) l := by rw [Nat.mul_succ] at hB; simpa [Nat.add_assoc] using hB
    simp only [p_cons, p_exp, o_app, o_call, o_cons, o_var, o_nil, List.getElem?_set_ne n1, List.getElem?_set_ne n2, List.getElem?_set_ne n3, h1, h2, h3, p_nil]
    refine ⟨.ref p, rfl, ⟨p, es, rfl, hp⟩, .ref b, rfl, d, rfl, ?_⟩
    refine ⟨b, m + 3 * (N + 1) * items.length, l, d, rfl, hd, hb, hB', fun e l' he' hl' => ?_⟩
    show mApp (.ref p) [e] (ups S b (.lst l')) _
    rw [m_app (ds := es) (by rw [ups_ne hpb]; exact hp)]
    refine ⟨by rw [sizeLine_eq]; omega, ?_⟩
    refine grow hg hpb hd h1 h2 h3 n1 n2 n3 items (es ++ [e]) l' m _ _ ups_at (fun x hx => ?_) (by simp; omega) (by rw [ups_ne (Ne.symm hpb), ups_at]) hl' fun es' l2 a' S' k1 k2 k3 k4 k5 k6 => k es' l2 a' S' (by simp at k1 ⊢; omega) k2 k3 k4 k5 fun x hx hx2 => by
      rw [k6 x hx hx2, ups_ne hx, ups_ne hx2]
    rcases List.mem_append.mp hx with z | z
    · exact he x z
    · simp at z; subst z; exact he'
theorem v_ref {R : List D → (Store → Prop) → Store → Prop} {a : Addr} {ds : List D} {S : Store} (h : S a = some (.lst ds)) : itrV R (.ref a) S = R ds (lstG S (.ref a)) S :=
  by simp [itrV, asL, asD, h]
theorem v_refD {R : List D → (Store → Prop) → Store → Prop} {a : Addr} {ob : Obj} {ks vs : List D} {S : Store} (h : S a = some (.dic ob ks vs)) : itrV R (.ref a) S = R ks (dicG S (.ref a)) S := by
  refine propext ⟨fun z => ?_, fun z => .inr ⟨ks, vs, by simp only [asD, h], z⟩⟩
  rcases z with ⟨ds, e, _⟩ | ⟨ks', vs', e, z⟩
  · simp only [asL, h] at e; cases e
  · simp only [asD, h] at e; cases e; exact z
/-- [1 for x in es if <false>] -/
theorem lc_none {g : Store → Prop} {tg : Tg} {tt : DB} {te : DT} {δ : DSt} {Q : DK} {S : Store} {es : List D} {pa : Addr} (hp : S pa = none) (hg : ∀ l, g (ups S pa (.lst l))) (hl : es.length ≤ 1000)
    (h : ∀ x ∈ es, ∃ δ1, tgD tg x δ = some δ1 ∧ ReadsB tt δ1 (fun _ => True) false) (k : Q (.lst []) S) : lcS g tg tt te δ pa (finL false pa Q) es [] (ups S pa (.lst [])) := by
  refine lc_read (xs := es) id (fun _ => false) (fun _ => .non) (fun _ => True) hp (by simp) (fun _ => trivial) hg (fun x hx => ?_) (by rw [sizeLine_eq]; omega) (by
    have e : es.filter (fun _ => false) = [] := List.filter_eq_nil_iff.mpr (fun _ _ => by simp)
    rw [e]; exact k)
  obtain ⟨δ1, e, r⟩ := h x hx
  exact ⟨δ1, e, r, fun z => by cases z⟩
@[simp] theorem nil_ne {S : Store} {Q : DK} : OpC.sem .ne (.lst []) (.lst []) S Q = Q (.bl false) S := by simp [c_ne, rsv, okD, okDs, deq, deqs]
theorem rep_nil (k : Nat) : repD [D.tup []] (k : Int) = (List.replicate k ([] : List Int)).map intsD := by
  unfold repD
  simp only [Int.toNat_natCast]
  induction k with
  | zero => rfl
  | succ r ih => rw [List.replicate_succ, List.flatten_cons, ih]; rfl
theorem ints_gd {L n : Nat} (p : List Int) (h : p.length ≤ L) : gd L (n + 1) (intsD p) = true := by
  have : gds L n (p.map D.int) = true := gds_of fun d hd => by
    obtain ⟨i, _, rfl⟩ := List.mem_map.mp hd
    simp [gd]
  simp [intsD, gd, h, this]
theorem plan_gd {L n : Nat} (ps : List (List Int)) (h : ps.length ≤ L) (h2 : ∀ p ∈ ps, p.length ≤ L) : gd L (n + 2) (planD ps) = true := by
  have : gds L (n + 1) (ps.map intsD) = true := gds_of fun d hd => by
    obtain ⟨p, hp, rfl⟩ := List.mem_map.mp hd
    exact ints_gd p (h2 p hp)
  simp [planD, gd, h, this]
end Lf
set_option Elab.async false
set_option linter.all false
set_option maxRecDepth 100000
namespace Lf
open PySem PySem.Spec PyProof.Rows L2
/-- slots: 0 controller -/
def b_look_at_controller (s_is_controller : Spec) : List Sx := [
  .ite (.not (.call "is_controller" s_is_controller [.var 0])) [
    .nev] []]

/-- slots: 0 controller, 1 floors -/
def b_look_at (s_look_at_controller s_look_at_floors : Spec) : List Sx := [
  .exp (.call "look_at_controller" s_look_at_controller [.var 0]),
  .exp (.call "look_at_floors" s_look_at_floors [.var 1])]

/-- slots: 0 floors, 1 value -/
def b_is_state (s_is_within s_are_floors : Spec) : List Sx := [
  .ite (.or (.not (.bi .isi [.var 1, .ty "tuple"])) (.or (.cmp .ne (.bi .len [.var 1]) (.int 4)) (.not (.call "is_within" s_is_within [.ix (.var 1) (.int 0), .int 1, .var 0])))) [
    .ret (.bl false)] [],
  .ret (.and (.bi .isi [.ix (.var 1) (.int 1), .ty "bool"]) (.and (.bi .isi [.ix (.var 1) (.int 2), .ty "bool"]) (.call "are_floors" s_are_floors [.var 0, .ix (.var 1) (.int 3)])))]

/-- slots: 0 floors, 1 state -/
def b_look_at_state (s_is_state : Spec) : List Sx := [
  .ite (.not (.call "is_state" s_is_state [.var 0, .var 1])) [
    .nev] []]

/-- slots: 0 word, 1 floors, 2 state, 3 floor, 4 up, 5 opened, 6 lit, 7 above, 8 below, 9 ahead, 10 behind, 11 other -/
def b_holds_plainly : List Sx := [
  .set (.tp [.nm 3, .nm 4, .nm 5, .nm 6]) (.var 2),
  .set (.nm 7) (.lc false (.bin .sub (.var 11) (.var 3)) (.nm 11) (.var 6) (.cmp .gt (.var 11) (.var 3)) [("other", 11)]),
  .set (.nm 8) (.lc false (.bin .sub (.var 3) (.var 11)) (.nm 11) (.var 6) (.cmp .lt (.var 11) (.var 3)) [("other", 11)]),
  .set (.tp [.nm 9, .nm 10]) (.ite (.var 4) (.tup [.var 7, .var 8]) (.tup [.var 8, .var 7])),
  .ite (.cmp .eq (.var 0) (.str "here")) [
    .ret (.cmp .inn (.var 3) (.var 6))] [],
  .ite (.cmp .eq (.var 0) (.str "up")) [
    .ret (.var 4)] [],
  .ite (.cmp .eq (.var 0) (.str "opened")) [
    .ret (.var 5)] [],
  .ite (.cmp .eq (.var 0) (.str "end")) [
    .ret (.cmp .eq (.var 3) (.ite (.var 4) (.var 1) (.int 1)))] [],
  .ite (.cmp .eq (.var 0) (.str "ahead")) [
    .ret (.cmp .ne (.var 9) (.lst false []))] [],
  .ite (.cmp .eq (.var 0) (.str "behind")) [
    .ret (.cmp .ne (.var 10) (.lst false []))] [],
  .ret (.and (.cmp .ne (.var 9) (.lst false [])) (.or (.cmp .eq (.var 10) (.lst false [])) (.cmp .le (.bi .min1 [.var 9]) (.bi .min1 [.var 10]))))]

/-- slots: 0 test, 1 floors, 2 state -/
def b_holds (s_holds_plainly : Spec) : List Sx := [
  .ite (.cmp .eq (.sl (.var 0) .no (.int 3)) (.str "no ")) [
    .ret (.not (.call "holds_plainly" s_holds_plainly [.sl (.var 0) (.int 3) .no, .var 1, .var 2]))] [],
  .ret (.call "holds_plainly" s_holds_plainly [.var 0, .var 1, .var 2])]

/-- slots: 0 controller, 1 floors, 2 state, 3 index, 4 tests, 5 move, 6 test -/
def b_deciding (s_holds : Spec) : List Sx := [
  .forr (.tp [.nm 3, .tp [.nm 4, .nm 5]]) (.enm (.var 0)) [
    .ite (.bi .all [.lc false (.call "holds" s_holds [.var 6, .var 1, .var 2]) (.nm 6) (.var 4) .no [("test", 6)]]) [
      .ret (.var 3)] []],
  .ret .non]

/-- slots: 0 controller, 1 floors, 2 state, 3 index -/
def b_move_by (s_deciding : Spec) : List Sx := [
  .set (.nm 3) (.call "deciding" s_deciding [.var 0, .var 1, .var 2]),
  .ret (.ite (.cmp .is (.var 3) .non) (.str "stay") (.ix (.ix (.var 0) (.var 3)) (.int 1)))]

/-- slots: 0 controller, 1 floors, 2 state -/
def b_move_of (s_look_at s_look_at_state s_move_by : Spec) : List Sx := [
  .exp (.call "look_at" s_look_at [.var 0, .var 1]),
  .exp (.call "look_at_state" s_look_at_state [.var 1, .var 2]),
  .ret (.call "move_by" s_move_by [.var 0, .var 1, .var 2])]

/-- slots: 0 state, 1 front, 2 floor, 3 up, 4 opened, 5 lit, 6 other -/
def b__law_side : List Sx := [
  .set (.tp [.nm 2, .nm 3, .nm 4, .nm 5]) (.var 0),
  .ite (.cmp .eq (.var 3) (.var 1)) [
    .ret (.lc false (.bin .sub (.var 6) (.var 2)) (.nm 6) (.var 5) (.cmp .gt (.var 6) (.var 2)) [("other", 6)])] [],
  .ret (.lc false (.bin .sub (.var 2) (.var 6)) (.nm 6) (.var 5) (.cmp .lt (.var 6) (.var 2)) [("other", 6)])]

/-- slots: 0 test, 1 floors, 2 state, 3 floor, 4 up, 5 opened, 6 lit, 7 far, 8 other -/
def b__law_holds (s_law_holds s_law_side : Spec) : List Sx := [
  .ite (.cmp .eq (.sl (.var 0) .no (.int 3)) (.str "no ")) [
    .ret (.not (.call "_law_holds" s_law_holds [.sl (.var 0) (.int 3) .no, .var 1, .var 2]))] [],
  .set (.tp [.nm 3, .nm 4, .nm 5, .nm 6]) (.var 2),
  .ite (.or (.cmp .eq (.var 0) (.str "here")) (.or (.cmp .eq (.var 0) (.str "up")) (.cmp .eq (.var 0) (.str "opened")))) [
    .ret (.ite (.cmp .eq (.var 0) (.str "here")) (.cmp .inn (.var 3) (.var 6)) (.ix (.lst false [.var 4, .var 5]) (.bi .int [.cmp .eq (.var 0) (.str "opened")])))] [],
  .ite (.cmp .eq (.var 0) (.str "end")) [
    .ret (.or (.and (.var 4) (.cmp .eq (.var 3) (.var 1))) (.and (.not (.var 4)) (.cmp .eq (.var 3) (.int 1))))] [],
  .ite (.or (.cmp .eq (.var 0) (.str "ahead")) (.cmp .eq (.var 0) (.str "behind"))) [
    .ret (.cmp .ne (.call "_law_side" s_law_side [.var 2, .cmp .eq (.var 0) (.str "ahead")]) (.lst false []))] [],
  .set (.nm 7) (.call "_law_side" s_law_side [.var 2, .bl true]),
  .ret (.and (.cmp .ne (.var 7) (.lst false [])) (.cmp .eq (.lc false (.int 1) (.nm 8) (.call "_law_side" s_law_side [.var 2, .bl false]) (.cmp .lt (.var 8) (.bi .min1 [.var 7])) [("other", 8)]) (.lst false [])))]

/-- slots: 0 controller, 1 floors, 2 state, 3 tests, 4 move, 5 test -/
def b__law_move (s_law_holds : Spec) : List Sx := [
  .forr (.tp [.nm 3, .nm 4]) (.var 0) [
    .ite (.cmp .eq (.lc false (.var 5) (.nm 5) (.var 3) (.not (.call "_law_holds" s_law_holds [.var 5, .var 1, .var 2])) [("test", 5)]) (.lst false [])) [
      .ret (.var 4)] []],
  .ret (.str "stay")]

/-- slots: 0 bag, 1 floors, 2 lit, 3 floor -/
def b__law_state (s_law_take : Spec) : List Sx := [
  .set (.nm 2) (.bi .tup [.lc false (.var 3) (.nm 3) (.rng2 (.int 1) (.bin .add (.var 1) (.int 1))) (.cmp .eq (.call "_law_take" s_law_take [.var 0, .int 2]) (.int 0)) [("floor", 3)]]),
  .ret (.tup [.bin .add (.int 1) (.call "_law_take" s_law_take [.var 0, .var 1]), .cmp .eq (.call "_law_take" s_law_take [.var 0, .int 2]) (.int 0), .cmp .eq (.call "_law_take" s_law_take [.var 0, .int 2]) (.int 0), .var 2])]

end Lf
set_option Elab.async false
set_option linter.all false
set_option maxRecDepth 100000
namespace Lf
open PySem PySem.Spec PyProof.Rows L2

/-! ### states -/
structure St4 where
  fl : Int
  up : Bool
  op : Bool
  lit : List Int
  deriving DecidableEq
def St4.d (s : St4) : D := .tup [.int s.fl, .bl s.up, .bl s.op, intsD s.lit]
def StOk (n : Int) (s : St4) : Prop := 1 ≤ s.fl ∧ s.fl ≤ n ∧ PrOk n s.lit
def overs (s : St4) : List Int := (s.lit.filter fun o => decide (s.fl < o)).map fun o => o - s.fl
def unders (s : St4) : List Int := (s.lit.filter fun o => decide (o < s.fl)).map fun o => s.fl - o
/-- how far the lit floors ahead, behind are -/
def aheads (s : St4) : List Int := if s.up = true then overs s else unders s
def behinds (s : St4) : List Int := if s.up = true then unders s else overs s
def hasI (x : Int) (xs : List Int) : Bool := xs.any (· == x)
def holdsW (n : Int) (s : St4) : Wd → Bool
  | .here => hasI s.fl s.lit
  | .up => s.up
  | .opened => s.op
  | .ed => s.fl == (if s.up = true then n else 1)
  | .ahead => !(aheads s).isEmpty
  | .behind => !(behinds s).isEmpty
  | .near => !(aheads s).isEmpty && ((behinds s).isEmpty || decide (minL (aheads s) ≤ minL (behinds s)))
def holdsT (n : Int) (s : St4) (t : Ts) : Bool := t.no ^^ holdsW n s t.w
def moveC (n : Int) (s : St4) : List Cl → Mv
  | [] => .stay
  | c :: cs => if c.ts.all (holdsT n s) = true then c.mv else moveC n s cs
/-! ### words by their letters -/
theorem s_ahead : Str.ofString "ahead" = Wd.ahead.s := rfl
theorem s_behind : Str.ofString "behind" = Wd.behind.s := rfl
theorem s_end : Str.ofString "end" = Wd.ed.s := rfl
theorem s_here : Str.ofString "here" = Wd.here.s := rfl
theorem s_near : Str.ofString "near" = Wd.near.s := rfl
theorem s_opened : Str.ofString "opened" = Wd.opened.s := rfl
theorem s_up : Str.ofString "up" = Wd.up.s := rfl
theorem wd_eq (w v : Wd) : (w.s == v.s) = decide (w = v) := by cases w <;> cases v <;> decide +kernel
theorem wd_ok (w : Wd) : PyData.strOk w.s = true := (Ts.ok ⟨false, w⟩).1 |> fun h => by cases w <;> decide +kernel
theorem wd_len (w : Wd) : w.s.length ≤ 10 := by cases w <;> decide +kernel
theorem mv_eq (w v : Mv) : (w.s == v.s) = decide (w = v) := by cases w <;> cases v <;> decide +kernel
theorem mv_ok (w : Mv) : PyData.strOk w.s = true := (Mv.ok w).1
theorem ts_cut (t : Ts) : (cutS t.s none (some 3) == Str.ofString "no ") = t.no ∧ (t.no = true → cutS t.s (some 3) none = t.w.s) ∧ (t.no = false → t.s = t.w.s) := by
  obtain ⟨no, w⟩ := t
  cases no <;> cases w <;> decide +kernel
theorem ts_cut_ok (t : Ts) : PyData.strOk (cutS t.s none (some 3)) = true := strOk_cut _ _ t.ok.1
theorem testB_ts (t : Ts) : testB (.str t.s) = true := by
  refine Ts.forall (p := fun t => testB (.str t.s) = true) ?_ t
  decide +kernel
theorem clauseB_cl (c : Cl) (h : c.ts.length ≤ 3) : clauseB c.d = true := by
  have e1 : (c.ts.map fun t => D.str t.s).all testB = true := by
    rw [List.all_eq_true]
    intro x hx
    obtain ⟨t, _, rfl⟩ := List.mem_map.mp hx
    exact testB_ts t
  have e2 : ∀ m : Mv, hasD (.str m.s) movesL = true := by intro m; cases m <;> decide +kernel
  simp only [Cl.d, clauseB, List.length_map, e1, e2, h, decide_true, Bool.and_self]
def CtlOk (cs : List Cl) : Prop := cs.length ≤ 8 ∧ ∀ c ∈ cs, c.ts.length ≤ 3
theorem ctlB_ctl (cs : List Cl) (h : CtlOk cs) : ctlB (ctlD cs) = true := by
  have e1 : (cs.map Cl.d).all clauseB = true := by
    rw [List.all_eq_true]
    intro x hx
    obtain ⟨c, hc, rfl⟩ := List.mem_map.mp hx
    exact clauseB_cl c (h.2 c hc)
  simp only [ctlD, ctlB, List.length_map, e1, h.1, decide_true, Bool.and_self]
theorem pr_rise {n : Int} {p : List Int} (h : PrOk n p) : pressedB n (intsD p) = true := by
  have e1 : (p.map D.int).all (withinB 1 n) = true := by
    rw [List.all_eq_true]
    intro x hx
    obtain ⟨i, hi, rfl⟩ := List.mem_map.mp hx
    have := h.1 i hi
    simp [withinB, this]
  simp only [intsD, pressedB, e1, (rise_sorted p).mpr h.2, Bool.and_self]
@[simp] theorem w_eq {w v : Wd} {S : Store} {Q : DK} : OpC.sem .eq (.str w.s) (.str v.s) S Q = Q (.bl (decide (w = v))) S := by
  rw [c_eq]
  simp only [rsv, okD, wd_ok, deq, wd_eq, true_and]
@[simp] theorem m_eq {w v : Mv} {S : Store} {Q : DK} : OpC.sem .eq (.str w.s) (.str v.s) S Q = Q (.bl (decide (w = v))) S := by
  rw [c_eq]
  simp only [rsv, okD, mv_ok, deq, mv_eq, true_and]
@[simp] theorem m_ne {w v : Mv} {S : Store} {Q : DK} : OpC.sem .ne (.str w.s) (.str v.s) S Q = Q (.bl (!decide (w = v))) S := by
  rw [c_ne]
  simp only [rsv, okD, mv_ok, deq, mv_eq, true_and]
/-! ### looked at -/
def spLookC : Spec := fun ds S Q => ∃ cs, ds = [ctlD cs] ∧ CtlOk cs ∧ Q .non S
theorem law_look_c : ∀ ds S Q, spLookC ds S Q → semSs (b_look_at_controller (spB ctlB 61 12)) (endsOf Q) (startD 1 ds) S := by
  rintro ds S Q ⟨cs, rfl, hc, h⟩
  simp [b_look_at_controller, startD]
  refine spB_at (ctl_gd cs 61 9 (fun c hc' => by have := hc.2 c hc'; omega) (by have := hc.1; omega) (by omega)) ?_
  rw [ctlB_ctl cs hc]
  simpa using h
def spLook : Spec := fun ds S Q => ∃ cs n, ds = [ctlD cs, .int n] ∧ CtlOk cs ∧ 2 ≤ n ∧ n ≤ 4 ∧ Q .non S
theorem law_look : ∀ ds S Q, spLook ds S Q → semSs (b_look_at spLookC spLookF) (endsOf Q) (startD 2 ds) S := by
  rintro ds S Q ⟨cs, n, rfl, hc, h1, h2, h⟩
  simp [b_look_at, startD]
  exact ⟨cs, rfl, hc, n, rfl, h1, h2, h⟩
def stateB (n : Int) : D → Bool
  | .tup [a, .bl _, .bl _, l] => withinB 1 n a && pressedB n l
  | _ => false
/-- is_state: of a state that is one -/
def spIsSt : Spec := fun ds S Q => ∃ n s, ds = [.int n, s] ∧ (∃ t : St4, s = t.d ∧ StOk n t ∧ n ≤ 4) ∧ Q (.bl true) S
theorem state_gd {n : Int} {s : St4} (h : StOk n s) (hn : n ≤ 4) (L m : Nat) (hL : 4 ≤ L) : gd L (m + 2) s.d = true := by
  have h1 := h.2.2.le (by have := h.1; have := h.2.1; omega)
  have := ints_gd (L := L) (n := m) s.lit (by omega)
  simp [St4.d, gd, gds, this, hL]
theorem law_is_st : ∀ ds S Q, spIsSt ds S Q → semSs (b_is_state (spWithin 61 10) (spFloors 61 11)) (endsOf Q) (startD 2 ds) S := by
  rintro ds S Q ⟨n, _, rfl, ⟨s, rfl, hs, hn⟩, h⟩
  have hw : withinB 1 n (.int s.fl) = true := by simp [withinB, hs.1, hs.2.1]
  have h1 := hs.2.2.le (by have := hs.1; have := hs.2.1; omega)
  simp [b_is_state, startD, St4.d, tyD, isi, tyOk]
  refine ⟨_, 1, n, rfl, by simp [gd], ?_⟩
  rw [hw]
  simp
  refine ⟨_, n, rfl, ints_gd (L := 61) (n := 10) s.lit (by omega), ?_⟩
  rw [pr_rise hs.2.2]
  exact Ret.same h
def spLookS : Spec := fun ds S Q => ∃ n s, ds = [.int n, s] ∧ (∃ t : St4, s = t.d ∧ StOk n t ∧ n ≤ 4) ∧ Q .non S
theorem law_look_s : ∀ ds S Q, spLookS ds S Q → semSs (b_look_at_state spIsSt) (endsOf Q) (startD 2 ds) S := by
  rintro ds S Q ⟨n, s, rfl, hs, h⟩
  simp [b_look_at_state, startD]
  exact ⟨n, s, rfl, hs, by simpa using h⟩
/-! ### tests -/
/-- holds_plainly(word, floors, state) -/
def spPlain : Spec := fun ds S Q => ∃ (w : Wd) (n : Int) (s : St4), ds = [.str w.s, .int n, s.d] ∧ StOk n s ∧ n ≤ 4 ∧ Q (.bl (holdsW n s w)) S
theorem has_ints (x : Int) (xs : List Int) : hasD (.int x) (xs.map D.int) = hasI x xs := by
  unfold hasD hasI
  rw [List.any_map]
  rfl
theorem flat_ints (xs : List Int) : (xs.map D.int).all flatD = true := by
  induction xs <;> simp_all [flatD]
theorem deqs_nil (xs : List Int) : deqs (xs.map D.int) [] = xs.isEmpty := by cases xs <;> rfl
@[simp] theorem ints_ne {xs : List Int} {S : Store} {Q : DK} : OpC.sem .ne (.lst (xs.map D.int)) (.lst []) S Q = Q (.bl (!xs.isEmpty)) S := by
  rw [c_ne]
  simp only [rsv, okD, okDs, ok_ints, deq, deqs_nil, true_and]
@[simp] theorem ints_eq {xs : List Int} {S : Store} {Q : DK} : OpC.sem .eq (.lst (xs.map D.int)) (.lst []) S Q = Q (.bl (xs.isEmpty)) S := by
  rw [c_eq]
  simp only [rsv, okD, okDs, ok_ints, deq, deqs_nil, true_and]
theorem min_ints {xs : List Int} {S : Store} {Q : DK} (h : xs.isEmpty = false) (k : Q (.int (minL xs)) S) : BI.sem .min1 [.lst (xs.map D.int)] S Q := ⟨xs, rfl, (by intro e; rw [e] at h; cases h), k⟩
/-- [f(o) for o in ints if p(o)] -/
theorem lc_ints {g : Store → Prop} {i : Nat} {tt : DB} {te : DT} {δ : DSt} {Q : DK} (p : Int → Bool) (f : Int → Int) {S : Store} {xs : List Int} {pa : Addr} (hp : S pa = none) (hg : ∀ S, g S) (hl : xs.length ≤ 1000)
    (h : ∀ x, ReadsB tt (δ.set i (some (.int x))) (fun _ => True) (p x) ∧ Reads te (δ.set i (some (.int x))) (fun _ => True) (.int (f x))) (k : Q (.lst (((xs.filter p).map f).map D.int)) S) :
    lcS g (.nm i) tt te δ pa (finL false pa Q) (xs.map D.int) [] (ups S pa (.lst [])) := by
  refine lc_read (α := Int) D.int p (fun x => .int (f x)) (fun _ => True) hp rfl (fun _ => trivial) (fun _ => hg _) (fun x _ => ⟨_, rfl, (h x).1, fun _ => (h x).2⟩) (by rw [sizeLine_eq]; omega) ?_
  rw [List.map_map] at k
  exact k
theorem law_plainly : ∀ ds S Q, spPlain ds S Q → semSs b_holds_plainly (endsOf Q) (startD 12 ds) S := by
  rintro ds S Q ⟨w, n, s, rfl, hs, hn, h⟩
  have hl : s.lit.length ≤ 1000 := by
    have := hs.2.2.le (by have := hs.1; have := hs.2.1; omega)
    omega
  have eA : (s.lit.filter fun o => decide (s.fl < o)).map (fun o => o - s.fl) = overs s := rfl
  have eB : (s.lit.filter fun o => decide (o < s.fl)).map (fun o => s.fl - o) = unders s := rfl
  have fl1 : flatD (.int s.fl) = true := rfl
  have fl2 : ∀ x ∈ s.lit, flatD (.int x) = true := fun _ _ => rfl
  simp [b_holds_plainly, startD, St4.d, intsD, o_lc]
  intro pa hpa
  refine lc_ints (fun o => decide (s.fl < o)) (fun o => o - s.fl) hpa (fun _ => trivial) hl (fun x => ⟨fun S Q _ k => ?_, fun S Q _ k => ?_⟩) ?_
  · simpa [cOf, wipeD] using k
  · simpa [wipeD] using k
  rw [eA]
  simp
  intro pb hpb
  refine lc_ints (fun o => decide (o < s.fl)) (fun o => s.fl - o) hpb (fun _ => trivial) hl (fun x => ⟨fun S Q _ k => ?_, fun S Q _ k => ?_⟩) ?_
  · simpa [cOf, wipeD] using k
  · simpa [wipeD] using k
  rw [eB]
  have near : ∀ (A B : List Int) (R : DK), R (.bl (!A.isEmpty && (B.isEmpty || decide (minL A ≤ minL B)))) S →
      cnd A.isEmpty (R (.bl (!A.isEmpty)) S) (cnd B.isEmpty (R (.bl B.isEmpty) S) (BI.sem .min1 [.lst (A.map D.int)] S fun x S1 => BI.sem .min1 [.lst (B.map D.int)] S1 fun y S2 => OpC.sem .le x y S2 R)) := fun A B R k => by
    refine cnd_i (fun e => by simpa [e] using k) (fun e => cnd_i (fun e2 => by simpa [e, e2] using k) (fun e2 => min_ints e (min_ints e2 ?_)))
    simpa [e, e2] using k
  cases hup : s.up with
  | true =>
    simp only [cnd_true, s_here, s_up, s_opened, s_end, s_ahead, s_behind, w_eq, t_bl, has_ints]
    refine ⟨by rw [sizeLine_eq]; omega, ?_⟩
    cases w with
    | here => simp [fl1, sizeLine_eq]; exact ⟨fl2, Ret.same h⟩
    | near =>
      simp [sizeLine_eq]
      refine near (overs s) (unders s) _ (Ret.same ?_)
      simpa [holdsW, aheads, behinds, hup] using h
    | _ =>
      simp [sizeLine_eq]
      exact Ret.same (by simpa [holdsW, aheads, behinds, hup] using h)
  | false =>
    simp only [cnd_false, s_here, s_up, s_opened, s_end, s_ahead, s_behind, w_eq, t_bl, has_ints]
    refine ⟨by rw [sizeLine_eq]; omega, ?_⟩
    cases w with
    | here => simp [fl1, sizeLine_eq]; exact ⟨fl2, Ret.same h⟩
    | near =>
      simp [sizeLine_eq]
      refine near (unders s) (overs s) _ (Ret.same ?_)
      simpa [holdsW, aheads, behinds, hup] using h
    | _ =>
      simp [sizeLine_eq]
      exact Ret.same (by simpa [holdsW, aheads, behinds, hup] using h)
/-- holds(test, floors, state) -/
def spHolds : Spec := fun ds S Q => ∃ (t : Ts) (n : Int) (s : St4), ds = [.str t.s, .int n, s.d] ∧ StOk n s ∧ n ≤ 4 ∧ Q (.bl (holdsT n s t)) S
theorem law_holds : ∀ ds S Q, spHolds ds S Q → semSs (b_holds spPlain) (endsOf Q) (startD 3 ds) S := by
  rintro ds S Q ⟨t, n, s, rfl, hs, hn, h⟩
  have hl : t.s.length ≤ sizeLine := by have := t.ok.2; rw [sizeLine_eq]; omega
  obtain ⟨c1, c2, c3⟩ := ts_cut t
  simp [b_holds, startD, hl, c_eq, rsv, okD, ts_cut_ok, ok_no, deq, c1]
  refine cnd_i (fun e => ?_) (fun e => ?_)
  · rw [c2 e]
    refine ⟨t.w, n, s, rfl, hs, hn, ?_⟩
    simp
    exact Ret.same (by simpa [holdsT, e] using h)
  · rw [c3 e]
    exact ⟨t.w, n, s, rfl, hs, hn, Ret.same (by simpa [holdsT, e] using h)⟩
end Lf
set_option Elab.async false
set_option linter.all false
set_option maxRecDepth 100000
namespace Lf
open PySem PySem.Spec PyProof.Rows L2

/-! ### who decides -/
def firstC (n : Int) (s : St4) : List Cl → Nat → Option Nat
  | [], _ => none
  | c :: cs, k => if c.ts.all (holdsT n s) = true then some k else firstC n s cs (k + 1)
def optI : Option Nat → D
  | none => .non
  | some k => .int k
/-- controller, floors, state -/
def argC (cs : List Cl) (n : Int) (s : St4) : List D := [ctlD cs, .int n, s.d]
def spDecide : Spec := fun ds S Q => ∃ cs n s, ds = argC cs n s ∧ CtlOk cs ∧ StOk n s ∧ n ≤ 4 ∧ Q (optI (firstC n s cs 0)) S
/-- all([f(t) for t in tests]) -/
theorem lc_tests {g : Store → Prop} {i : Nat} {te : DT} {δ : DSt} {Q : DK} (f : Ts → Bool) {S : Store} {ts : List Ts} {pa : Addr} (hp : S pa = none) (hg : ∀ S, g S) (hl : ts.length ≤ 1000)
    (h : ∀ t ∈ ts, Reads te (δ.set i (some (.str t.s))) (fun _ => True) (.bl (f t))) (k : Q (.bl (ts.all f)) S) : lcS g (.nm i) (cOf .no (semB .no).1) te δ pa (finL false pa fun d S1 => BI.all.sem [d] S1 Q) (ts.map fun t => .str t.s) [] (ups S pa (.lst [])) := by
  refine lc_read (α := Ts) (fun t => .str t.s) (fun _ => true) (fun t => .bl (f t)) (fun _ => True) hp rfl (fun _ => trivial) (fun _ => hg _) (fun x hx => ⟨_, rfl, readsB_yes, fun _ => h x hx⟩) (by rw [sizeLine_eq]; omega) ?_
  rw [List.filter_eq_self.mpr (fun _ _ => rfl), n_all' (bs := ts.map f) (by simp)]
  have e : (ts.map f).all id = ts.all f := by rw [List.all_map]; rfl
  rw [e]; exact k
theorem law_deciding : ∀ ds S Q, spDecide ds S Q → semSs (b_deciding spHolds) (endsOf Q) (startD 7 ds) S := by
  rintro ds S Q ⟨cs, n, s, rfl, hc, hs, hn, h⟩
  simp only [b_deciding, startD, argC, p_cons, p_for]
  simp [ctlD]
  have key : ∀ (C : List Cl) (k : Nat) (δ : DSt) (a3 a4 a5 a6 : Option D), δ = [some (ctlD cs), some (.int n), some s.d, a3, a4, a5, a6] → (∀ c ∈ C, c.ts.length ≤ 3) → Q (optI (firstC n s C k)) S →
      forS (fun _ => True) (.tp [.nm 3, .tp [.nm 4, .nm 5]]) (semSs [.ite (.bi .all [.lc false (.call "holds" spHolds [.var 6, .var 1, .var 2]) (.nm 6) (.var 4) .no [("test", 6)]]) [.ret (.var 3)] []])
        { endsOf Q with nx := semSs [.ret .non] (endsOf Q) } (enumD k (C.map Cl.d)) δ S := by
    intro C
    induction C with
    | nil =>
      intro k δ a3 a4 a5 a6 e hC q
      subst e
      simp only [List.map_nil, enumD, forS]
      simp
      exact Ret.same q
    | cons c C ih =>
      intro k δ a3 a4 a5 a6 e hC q
      subst e
      simp only [List.map_cons, enumD, forS]
      refine ⟨trivial, ?_⟩
      have et : tgD (.tp [.nm 3, .tp [.nm 4, .nm 5]]) (.tup [.int k, c.d]) [some (ctlD cs), some (.int n), some s.d, a3, a4, a5, a6] = some [some (ctlD cs), some (.int n), some s.d, some (.int k), some (.tup (c.ts.map fun t => .str t.s)), some (.str c.mv.s), a6] := rfl
      rw [et]
      simp [o_lc]
      intro pa hpa
      refine lc_tests (holdsT n s) hpa (fun _ => trivial) (by have := hC c (by simp); omega) (fun t _ => fun S Q _ k => ?_) ?_
      · simp [wipeD]
        exact ⟨t, n, s, rfl, hs, hn, k⟩
      simp [-List.all_eq_true]
      refine cnd_i (fun e => ?_) (fun e => ?_)
      · rw [firstC, if_pos e] at q
        exact Ret.same q
      · rw [firstC, if_neg (by simp [e])] at q
        exact ih (k + 1) _ _ _ _ _ rfl (fun x hx => hC x (by simp [hx])) q
  exact key cs 0 _ _ _ _ _ rfl hc.2 h
theorem first_move (n : Int) (s : St4) : ∀ (cs : List Cl) (k : Nat), match firstC n s cs k with
    | none => moveC n s cs = .stay
    | some j => k ≤ j ∧ ∃ c, cs[j - k]? = some c ∧ moveC n s cs = c.mv
  | [], k => by simp [firstC, moveC]
  | c :: cs, k => by
    by_cases h : c.ts.all (holdsT n s) = true
    · simp only [firstC, moveC, if_pos h]
      exact ⟨Nat.le_refl _, c, by simp, rfl⟩
    · have ih := first_move n s cs (k + 1)
      simp only [firstC, moveC, if_neg h]
      split at ih
      · exact ih
      · rename_i j e
        obtain ⟨h1, c', h2, h3⟩ := ih
        refine ⟨by omega, c', ?_, h3⟩
        have : j - k = j - (k + 1) + 1 := by omega
        rw [this]; simpa using h2
/-- move_by and move_of: the move -/
def spMove : Spec := fun ds S Q => ∃ cs n s, ds = argC cs n s ∧ CtlOk cs ∧ StOk n s ∧ n ≤ 4 ∧ Q (.str (moveC n s cs).s) S
theorem law_move_by : ∀ ds S Q, spMove ds S Q → semSs (b_move_by spDecide) (endsOf Q) (startD 4 ds) S := by
  rintro ds S Q ⟨cs, n, s, rfl, hc, hs, hn, h⟩
  simp [b_move_by, startD, argC]
  refine ⟨cs, n, s, rfl, hc, hs, hn, ?_⟩
  have fm := first_move n s cs 0
  cases e : firstC n s cs 0 with
  | none =>
    rw [e] at fm
    simp only at fm
    rw [fm] at h
    simp [optI, isNon]
    exact Ret.same h
  | some j =>
    rw [e] at fm
    obtain ⟨_, c, h1, h2⟩ := fm
    simp at h1
    obtain ⟨hj, ej⟩ := List.getElem?_eq_some_iff.mp h1
    rw [h2] at h
    simp [optI, isNon, ctlD]
    refine atN (by simpa using hj) ?_
    have e3 : (cs.map Cl.d)[j]'(by simpa using hj) = c.d := by simp [ej]
    rw [e3]
    simp [Cl.d]
    exact Ret.same h
def spMoveOf : Spec := fun ds S Q => ∃ cs n s, ds = argC cs n s ∧ CtlOk cs ∧ StOk n s ∧ 2 ≤ n ∧ n ≤ 4 ∧ Q (.str (moveC n s cs).s) S
theorem law_move_of : ∀ ds S Q, spMoveOf ds S Q → semSs (b_move_of spLook spLookS spMove) (endsOf Q) (startD 3 ds) S := by
  rintro ds S Q ⟨cs, n, s, rfl, hc, hs, h2, hn, h⟩
  simp [b_move_of, startD, argC]
  exact ⟨cs, n, rfl, hc, h2, hn, n, s.d, rfl, ⟨s, rfl, hs, hn⟩, cs, n, s, rfl, hc, hs, hn, Ret.same h⟩
/-! ### the law's own move -/
def spSide : Spec := fun ds S Q => ∃ (s : St4) (f : Bool), ds = [s.d, .bl f] ∧ s.lit.length ≤ 1000 ∧ Q (.lst ((if s.up = f then overs s else unders s).map D.int)) S
theorem law_side : ∀ ds S Q, spSide ds S Q → semSs b__law_side (endsOf Q) (startD 7 ds) S := by
  rintro ds S Q ⟨s, f, rfl, hl, h⟩
  have eA : (s.lit.filter fun o => decide (s.fl < o)).map (fun o => o - s.fl) = overs s := rfl
  have eB : (s.lit.filter fun o => decide (o < s.fl)).map (fun o => s.fl - o) = unders s := rfl
  simp [b__law_side, startD, St4.d, intsD, o_lc]
  refine cnd_i (fun e pa hpa => ?_) (fun e pa hpa => ?_)
  · refine lc_ints (fun o => decide (s.fl < o)) (fun o => o - s.fl) hpa (fun _ => trivial) hl (fun x => ⟨fun S Q _ k => ?_, fun S Q _ k => ?_⟩) ?_
    · simpa [cOf, wipeD] using k
    · simpa [wipeD] using k
    rw [eA]
    have : s.up = f := by simpa using e
    rw [if_pos this] at h
    exact Ret.same h
  · refine lc_ints (fun o => decide (o < s.fl)) (fun o => s.fl - o) hpa (fun _ => trivial) hl (fun x => ⟨fun S Q _ k => ?_, fun S Q _ k => ?_⟩) ?_
    · simpa [cOf, wipeD] using k
    · simpa [wipeD] using k
    rw [eB]
    have : ¬ s.up = f := by simpa using e
    rw [if_neg this] at h
    exact Ret.same h
theorem side_t (s : St4) : (if s.up = true then overs s else unders s) = aheads s := rfl
theorem side_f (s : St4) : (if s.up = false then overs s else unders s) = behinds s := by
  unfold behinds
  cases s.up <;> rfl
theorem near_eq {A B : List Int} (hA : A.isEmpty = false) : (!B.any fun o => decide (o < minL A)) = (B.isEmpty || decide (minL A ≤ minL B)) := by
  cases B with
  | nil => rfl
  | cons b B =>
    rw [Bool.eq_iff_iff]
    simp only [Bool.not_eq_true', List.any_eq_false, decide_eq_true_eq, List.isEmpty_cons, Bool.false_or]
    constructor
    · intro h
      have := h _ (minL_mem (ns := b :: B) (by simp))
      omega
    · intro h x hx
      have := minL_le (ns := b :: B) x hx
      omega
/-- the law's look at a test -/
def spLHolds : Spec := fun ds S Q => ∃ (t : Ts) (n : Int) (s : St4), ds = [.str t.s, .int n, s.d] ∧ StOk n s ∧ n ≤ 4 ∧ Q (.bl (holdsT n s t)) S
def spLHolds0 : Spec := fun ds S Q => ∃ (w : Wd) (n : Int) (s : St4), ds = [.str w.s, .int n, s.d] ∧ StOk n s ∧ n ≤ 4 ∧ Q (.bl (holdsW n s w)) S
theorem ones_any {xs : List Int} {p : Int → Bool} {S : Store} {Q : DK} (h : Q (.bl (!xs.any p)) S) : OpC.sem .eq (.lst ((xs.filter p).map fun _ => .int 1)) (.lst []) S Q := by rw [ones_eq]; exact h
theorem lholds_plain (sp : Spec) (w : Wd) (n : Int) (s : St4) (hs : StOk n s) (hn : n ≤ 4) (S : Store) (Q : DK) (En : DEnds) (hEn : ∀ d S, Q d S → En.rt d S) (a3 a4 a5 a6 a7 a8 : Option D) (h : Q (.bl (holdsW n s w)) S) :
    semSs ((b__law_holds sp spSide).drop 1) En [some (.str w.s), some (.int n), some s.d, a3, a4, a5, a6, a7, a8] S := by
  have hl : s.lit.length ≤ 1000 := by
    have := hs.2.2.le (by have := hs.1; have := hs.2.1; omega)
    omega
  have fl1 : flatD (.int s.fl) = true := rfl
  have fl2 : ∀ x ∈ s.lit, flatD (.int x) = true := fun _ _ => rfl
  have hq : ∀ (E2 : DEnds), E2.rt = En.rt → ∀ b, b = holdsW n s w → Ret E2 (.bl b) S := fun E2 e b e2 => Ret.same (by rw [e, e2]; exact hEn _ _ h)
  have fold : (D.tup [.int s.fl, .bl s.up, .bl s.op, .tup (s.lit.map D.int)]) = s.d := rfl
  cases w with
  | here =>
    simp [b__law_holds, St4.d, intsD, s_here, s_up, s_opened, s_end, s_ahead, s_behind, fl1, has_ints, sizeLine_eq]
    exact ⟨fl2, hq _ rfl _ rfl⟩
  | up =>
    simp [b__law_holds, St4.d, intsD, s_here, s_up, s_opened, s_end, s_ahead, s_behind, sizeLine_eq]
    exact hq _ rfl _ rfl
  | opened =>
    simp [b__law_holds, St4.d, intsD, s_here, s_up, s_opened, s_end, s_ahead, s_behind, sizeLine_eq]
    exact hq _ rfl _ rfl
  | ed =>
    simp [b__law_holds, St4.d, intsD, s_here, s_up, s_opened, s_end, s_ahead, s_behind, sizeLine_eq]
    cases hup : s.up <;> simp [hup] <;> exact hq _ rfl _ (by simp [holdsW, hup])
  | ahead =>
    simp [b__law_holds, St4.d, intsD, s_here, s_up, s_opened, s_end, s_ahead, s_behind, sizeLine_eq]
    refine ⟨s, true, rfl, hl, ?_⟩
    rw [side_t]
    simp only [ints_ne]
    exact hq _ rfl _ rfl
  | behind =>
    simp [b__law_holds, St4.d, intsD, s_here, s_up, s_opened, s_end, s_ahead, s_behind, sizeLine_eq]
    refine ⟨s, false, rfl, hl, ?_⟩
    rw [side_f]
    simp only [ints_ne]
    exact hq _ rfl _ rfl
  | near =>
    simp [b__law_holds, St4.d, intsD, s_here, s_up, s_opened, s_end, s_ahead, s_behind, sizeLine_eq, o_lc]
    refine ⟨s, true, rfl, hl, ?_⟩
    rw [side_t]
    simp
    refine cnd_i (fun e => hq _ rfl _ (by simp [holdsW, e])) (fun e => ?_)
    refine ⟨s, false, rfl, hl, ?_⟩
    rw [side_f]
    simp
    intro pa hpa
    have hlB : (behinds s).length ≤ 1000 := by
      have h1 : (overs s).length ≤ s.lit.length := by simp [overs, List.length_filter_le]
      have h2 : (unders s).length ≤ s.lit.length := by simp [unders, List.length_filter_le]
      unfold behinds
      split <;> omega
    refine lc_read (α := Int) D.int (fun o => decide (o < minL (aheads s))) (fun _ => .int 1) (fun _ => True) hpa rfl (fun _ => trivial) (fun _ => trivial) (fun x _ => ⟨_, rfl, fun S Q _ k => ?_, fun _ S Q _ k => by simpa using k⟩) (by rw [sizeLine_eq]; omega) ?_
    · simp [cOf, wipeD]
      exact min_ints e (by simpa using k)
    · refine ones_any ?_
      refine hq _ rfl _ ?_
      rw [near_eq e]
      simp [holdsW, e]
theorem wd_cut (w : Wd) : (cutS w.s none (some 3) == Str.ofString "no ") = false := by cases w <;> decide +kernel
theorem lholds_split (sp : Spec) (w : Str) (n : Int) (s : St4) (S : Store) (En : DEnds) (hl : w.length ≤ 1000) (ok : PyData.strOk w = true) (b : Bool) (hb : (cutS w none (some 3) == Str.ofString "no ") = b)
    (h1 : b = true → sp [.str (cutS w (some 3) none), .int n, s.d] S fun d S1 => Tst S1 d fun k => Ret { En with nx := semSs ((b__law_holds sp spSide).drop 1) En } (.bl (!k)) S1)
    (h2 : b = false → semSs ((b__law_holds sp spSide).drop 1) En [some (.str w), some (.int n), some s.d, none, none, none, none, none, none] S) :
    semSs (b__law_holds sp spSide) En [some (.str w), some (.int n), some s.d, none, none, none, none, none, none] S := by
  have hl' : w.length ≤ sizeLine := by rw [sizeLine_eq]; omega
  have e : b__law_holds sp spSide = (b__law_holds sp spSide).head (by simp [b__law_holds]) :: (b__law_holds sp spSide).drop 1 := by simp [b__law_holds]
  rw [e, p_cons]
  simp only [b__law_holds, List.head_cons, p_ite, o_cmp, o_str, o_sl, o_var, o_no, o_pint]
  refine ⟨.str w, rfl, ?_⟩
  simp only [s_slS]
  refine ⟨hl', ?_⟩
  rw [c_eq]
  simp only [rsv, okD, strOk_cut _ _ ok, ok_no, deq, hb, true_and, t_bl]
  refine cnd_i (fun e => ?_) (fun e => ?_)
  · simp only [p_cons, p_ret, o_not, o_call, o_cons, o_nil, o_sl, o_var, o_no, o_pint]
    refine ⟨.str w, rfl, ?_⟩
    simp only [s_slS]
    exact ⟨hl', .int n, rfl, s.d, rfl, h1 e⟩
  · simp only [p_nil]
    exact h2 e
theorem law_lholds0 (sp : Spec) : ∀ ds S Q, spLHolds0 ds S Q → semSs (b__law_holds sp spSide) (endsOf Q) (startD 9 ds) S := by
  rintro ds S Q ⟨w, n, s, rfl, hs, hn, h⟩
  exact lholds_split sp w.s n s S (endsOf Q) (by have := wd_len w; omega) (wd_ok w) false (wd_cut w) (fun e => by cases e) fun _ => lholds_plain sp w n s hs hn S Q (endsOf Q) (fun _ _ q => q) _ _ _ _ _ _ h
theorem law_lholds : ∀ ds S Q, spLHolds ds S Q → semSs (b__law_holds spLHolds0 spSide) (endsOf Q) (startD 9 ds) S := by
  rintro ds S Q ⟨t, n, s, rfl, hs, hn, h⟩
  obtain ⟨c1, c2, c3⟩ := ts_cut t
  refine lholds_split spLHolds0 t.s n s S (endsOf Q) (by have := t.ok.2; omega) t.ok.1 t.no c1 (fun e => ?_) (fun e => ?_)
  · rw [c2 e]
    refine ⟨t.w, n, s, rfl, hs, hn, ?_⟩
    simp
    exact Ret.same (by simpa [holdsT, e] using h)
  · rw [c3 e]
    exact lholds_plain spLHolds0 t.w n s hs hn S Q (endsOf Q) (fun _ _ q => q) _ _ _ _ _ _ (by simpa [holdsT, e] using h)
def spLMove : Spec := fun ds S Q => ∃ cs n s, ds = argC cs n s ∧ CtlOk cs ∧ StOk n s ∧ n ≤ 4 ∧ Q (.str (moveC n s cs).s) S
theorem strs_none {ts : List Ts} {p : Ts → Bool} {S : Store} {Q : DK} (h : Q (.bl (ts.all p)) S) : OpC.sem .eq (.lst ((ts.filter fun t => !p t).map fun t => .str t.s)) (.lst []) S Q := by
  rw [c_eq]
  have ok : ∀ us : List Ts, okDs 63 (us.map fun t => D.str t.s) = true := fun us => by
    induction us with
    | nil => rfl
    | cons u us ih => simp [okDs, okD, ih, u.ok.1]
  have e : deq (.lst ((ts.filter fun t => !p t).map fun t => .str t.s)) (.lst []) = ts.all p := by
    induction ts with
    | nil => rfl
    | cons t ts ih =>
      cases hp : p t with
      | true => simpa [hp] using ih (by simpa [hp] using h)
      | false => simp [hp, deq, deqs]
  simp only [rsv, okD, okDs, ok, e, true_and]
  exact h
theorem law_lmove : ∀ ds S Q, spLMove ds S Q → semSs (b__law_move spLHolds) (endsOf Q) (startD 6 ds) S := by
  rintro ds S Q ⟨cs, n, s, rfl, hc, hs, hn, h⟩
  simp only [b__law_move, startD, argC, p_cons, p_for]
  simp [ctlD]
  have key : ∀ (C : List Cl) (δ : DSt) (a3 a4 a5 : Option D), δ = [some (ctlD cs), some (.int n), some s.d, a3, a4, a5] → (∀ c ∈ C, c.ts.length ≤ 3) → Q (.str (moveC n s C).s) S →
      forS (fun _ => True) (.tp [.nm 3, .nm 4]) (semSs [.ite (.cmp .eq (.lc false (.var 5) (.nm 5) (.var 3) (.not (.call "_law_holds" spLHolds [.var 5, .var 1, .var 2])) [("test", 5)]) (.lst false [])) [.ret (.var 4)] []])
        { endsOf Q with nx := semSs [.ret (.str "stay")] (endsOf Q) } (C.map Cl.d) δ S := by
    intro C
    induction C with
    | nil =>
      intro δ a3 a4 a5 e hC q
      subst e
      simp only [List.map_nil, forS]
      simp
      exact Ret.same q
    | cons c C ih =>
      intro δ a3 a4 a5 e hC q
      subst e
      simp only [List.map_cons, forS]
      refine ⟨trivial, ?_⟩
      have et : tgD (.tp [.nm 3, .nm 4]) c.d [some (ctlD cs), some (.int n), some s.d, a3, a4, a5] = some [some (ctlD cs), some (.int n), some s.d, some (.tup (c.ts.map fun t => .str t.s)), some (.str c.mv.s), a5] := rfl
      rw [et]
      simp [o_lc]
      intro pa hpa
      refine lc_read (α := Ts) (fun t => .str t.s) (fun t => !holdsT n s t) (fun t => .str t.s) (fun _ => True) hpa rfl (fun _ => trivial) (fun _ => trivial) (fun t _ => ⟨_, rfl, fun S Q _ k => ?_, fun _ S Q _ k => by simpa [wipeD] using k⟩) (by have := hC c (by simp); rw [sizeLine_eq]; omega) ?_
      · simp [cOf, wipeD]
        exact ⟨t, n, s, rfl, hs, hn, by simpa using k⟩
      try simp [sizeLine_eq]
      refine strs_none ?_
      simp [-List.all_eq_true]
      refine cnd_i (fun e => ?_) (fun e => ?_)
      · rw [moveC, if_pos e] at q
        exact Ret.same q
      · rw [moveC, if_neg (by simp [e])] at q
        exact ih _ _ _ _ rfl (fun x hx => hC x (by simp [hx])) q
  exact key cs _ _ _ _ rfl hc.2 h
/-! ### a state drawn -/
def spState : Spec := fun ds S Q => ∃ b m l n, ds = [.ref b, .int n] ∧ 2 ≤ n ∧ n ≤ 4 ∧ S b = some (.lst l) ∧ BagL (m + 7) l ∧ ∀ (s : St4) l', StOk n s → BagL m l' → Q s.d (ups S b (.lst l'))
theorem law_state : ∀ ds S Q, spState ds S Q → semSs (b__law_state spTake) (endsOf Q) (startD 4 ds) S := by
  rintro ds S Q ⟨b, m, l, n, rfl, h1, h2, hS, hm, h⟩
  simp [b__law_state, startD, sizeLine_eq, o_lc]
  refine ⟨⟨by omega, by omega⟩, fun pa hpa => ?_⟩
  obtain ⟨nn, rfl⟩ := Int.eq_ofNat_of_zero_le (show 0 ≤ n by omega)
  rw [Int.toNat_natCast]
  obtain ⟨q, eq, q1, q2⟩ := rng_rise nn 1
  refine lc_draw (α := Int) (b := b) (m := m + 3) D.int (fun ds acc => ∃ q', ds = q'.map D.int ∧ (acc ++ q').Sublist q) 1 hpa hS (fun _ => trivial) (by rw [rngD_len]; exact hm.le (by omega)) (by rw [rngD_len, sizeLine_eq]; omega) ⟨q, eq, by simp⟩ ?_ ?_
  · intro d ds acc l m R0 R1 S1 hS1 ⟨q', hq, hs⟩ hB r0 r1
    cases q' with
    | nil => cases hq
    | cons x q' =>
      simp at hq
      obtain ⟨rfl, rfl⟩ := hq
      refine ⟨_, rfl, ?_⟩
      simp [wipeD, cOf]
      refine take_sp (m := m) (by omega) (by omega) hS1 hB fun r l1 r1' r2' hm1 => ?_
      by_cases hr : r = 0
      · simp [hr]
        exact r1 x l1 ⟨q', rfl, by simpa using hs⟩ hm1
      · have hr' : (r == 0) = false := by simpa using hr
        simp [hr']
        exact r0 l1 ⟨q', rfl, ((List.sublist_cons_self x q').append_left acc).trans hs⟩ hm1
  · intro acc l2 ⟨q', hq, hs⟩ hB
    have : q' = [] := by cases q' <;> simp at hq <;> rfl
    subst this
    simp at hs
    simp
    refine take_sp (m := m + 2) (by omega) (by omega) ups_at hB fun r l3 r1 r2 hm3 => ?_
    simp
    refine take_sp (m := m + 1) (by omega) (by omega) ups_at hm3 fun r' l4 r3 r4 hm4 => ?_
    simp
    refine take_sp (m := m) (by omega) (by omega) ups_at hm4 fun r'' l5 r5 r6 hm5 => ?_
    simp
    rw [ups_ups, ups_ups, ups_ups]
    refine Ret.same (h ⟨1 + r, r' == 0, r'' == 0, acc⟩ l5 ⟨by show 1 ≤ 1 + r; omega, by show 1 + r ≤ _; omega, sub_ok hs ⟨fun x hx => ?_, q2⟩⟩ hm5)
    have := q1 x hx
    omega
end Lf
set_option Elab.async false
set_option linter.all false
set_option maxRecDepth 100000
namespace Lf
open PySem PySem.Spec PyProof.Rows L2
theorem len9 {δ : DSt} (h : δ.length = 9) : ∃ a0 a1 a2 a3 a4 a5 a6 a7 a8, δ = [a0, a1, a2, a3, a4, a5, a6, a7, a8] := by
  match δ, h with
  | [a0, a1, a2, a3, a4, a5, a6, a7, a8], _ => exact ⟨a0, a1, a2, a3, a4, a5, a6, a7, a8, rfl⟩
/-- turns that draw from the bag at b -/
theorem for_draw {g : Store → Prop} (hg : ∀ S, g S) {tb : DS} {En : DEnds} {vt t : Nat} {b : Addr} {S0 : Store} {P : DSt → Prop}
    (step : ∀ (d : D) (δ : DSt) (S : Store) (l : List D) (m : Nat) (K : DSt → Store → Prop), P δ → S b = some (.lst l) → BagL (m + t) l → (∀ x, x ≠ b → S x = S0 x) →
      (∀ δ' S' l', P δ' → S' b = some (.lst l') → BagL m l' → (∀ x, x ≠ b → S' x = S0 x) → K δ' S') → tb { nx := K, rt := En.rt, bk := En.nx, ct := K } (δ.set vt (some d)) S) :
    ∀ (items : List D) (l : List D) (m : Nat) (δ : DSt) (S : Store), P δ → S b = some (.lst l) → BagL (m + t * items.length) l → (∀ x, x ≠ b → S x = S0 x) →
      (∀ δ' S' l', P δ' → S' b = some (.lst l') → BagL m l' → (∀ x, x ≠ b → S' x = S0 x) → En.nx δ' S') → forS g (.nm vt) tb En items δ S
  | [], l, m, δ, S, p, hb, hB, hx, k => ⟨hg S, k δ S l p hb (by simpa using hB) hx⟩
  | d :: items, l, m, δ, S, p, hb, hB, hx, k => by
    simp only [forS, tgD]
    refine ⟨hg S, ?_⟩
    have hB' : BagL (m + t * items.length + t) l := by simp only [List.length_cons] at hB; rw [Nat.mul_succ] at hB; simpa [Nat.add_assoc] using hB
    exact step d δ S l (m + t * items.length) _ p hb hB' hx fun δ' S' l' p' hb' hB2 hx' => for_draw hg step items l' m δ' S' p' hb' hB2 hx' k
end Lf
set_option Elab.async false
set_option linter.all false
set_option maxRecDepth 100000
namespace Lf
open PySem PySem.Spec PyProof.Rows L2
def g_START : D := .tup [.int 1, .bl true, .bl false, .tup []]
/-- slots: 0 state, 1 pressed -/
def b_pressed_on : List Sx := [
  .ret (.bin .add (.sl (.var 0) .no (.int 3)) (.tup [.bi .tup [.sset (.bin .add (.ix (.var 0) (.int 3)) (.var 1))]]))]

/-- slots: 0 state, 1 move, 2 floors, 3 floor, 4 up, 5 opened, 6 lit, 7 other -/
def b_moved : List Sx := [
  .set (.tp [.nm 3, .nm 4, .nm 5, .nm 6]) (.var 0),
  .ite (.cmp .eq (.var 1) (.str "open")) [
    .ret (.tup [.var 3, .var 4, .bl true, .bi .tup [.lc false (.var 7) (.nm 7) (.var 6) (.cmp .ne (.var 7) (.var 3)) [("other", 7)]]])] [],
  .ite (.cmp .inn (.var 1) (.tup [.str "back", .str "turn"])) [
    .set (.nm 4) (.not (.var 4))] [],
  .ite (.cmp .inn (.var 1) (.tup [.str "on", .str "back"])) [
    .set (.nm 3) (.ite (.var 4) (.bi .min2 [.var 2, .bin .add (.var 3) (.int 1)]) (.bi .max2 [.int 1, .bin .sub (.var 3) (.int 1)]))] [],
  .ret (.tup [.var 3, .var 4, .bl false, .var 6])]

/-- slots: 0 controller, 1 floors, 2 state, 3 pressed -/
def b_tick_of (s_pressed_on s_moved s_move_by : Spec) : List Sx := [
  .set (.nm 2) (.call "pressed_on" s_pressed_on [.var 2, .var 3]),
  .ret (.call "moved" s_moved [.var 2, .call "move_by" s_move_by [.var 0, .var 1, .var 2], .var 1])]

/-- slots: 0 controller, 1 floors, 2 state, 3 plan, 4 rows, 5 pressed, 6 behind -/
def b_run_from (s_tick_of : Spec) : List Sx := [
  .set (.nm 4) (.lst true []),
  .forr (.nm 5) (.var 3) [
    .set (.nm 6) (.call "tick_of" s_tick_of [.var 0, .var 1, .var 2, .var 5]),
    .exp (.app (.var 4) (.tup [.ix (.var 2) (.int 0), .ix (.var 6) (.int 2)])),
    .set (.nm 2) (.var 6)],
  .ret (.tup [.var 2, .bi .tup [.var 4]])]

/-- slots: 0 floors, 1 plan -/
def b_look_at_plan (s_are_ticks : Spec) : List Sx := [
  .ite (.not (.call "are_ticks" s_are_ticks [.var 0, .var 1])) [
    .nev] []]

/-- slots: 0 controller, 1 floors, 2 plan -/
def b_rows_of (s_look_at s_look_at_plan s_run_from : Spec) : List Sx := [
  .exp (.call "look_at" s_look_at [.var 0, .var 1]),
  .exp (.call "look_at_plan" s_look_at_plan [.var 1, .var 2]),
  .ret (.ix (.call "run_from" s_run_from [.var 0, .var 1, .gl "START" g_START, .var 2]) (.int 1))]

/-- slots: 0 controller, 1 floors, 2 plan -/
def b_state_behind (s_look_at s_look_at_plan s_run_from : Spec) : List Sx := [
  .exp (.call "look_at" s_look_at [.var 0, .var 1]),
  .exp (.call "look_at_plan" s_look_at_plan [.var 1, .var 2]),
  .ret (.ix (.call "run_from" s_run_from [.var 0, .var 1, .gl "START" g_START, .var 2]) (.int 0))]

/-- slots: 0 controller, 1 floors, 2 state, 3 pressed, 4 floor, 5 up, 6 opened, 7 lit, 8 move, 9 other -/
def b__law_tick (s_law_move : Spec) : List Sx := [
  .set (.tp [.nm 4, .nm 5, .nm 6, .nm 7]) (.var 2),
  .set (.nm 7) (.bi .tup [.sset (.bin .add (.bi (.lst false) [.var 7]) (.bi (.lst false) [.var 3]))]),
  .set (.nm 8) (.call "_law_move" s_law_move [.var 0, .var 1, .tup [.var 4, .var 5, .var 6, .var 7]]),
  .ite (.cmp .eq (.var 8) (.str "open")) [
    .ret (.tup [.var 4, .var 5, .bl true, .bi .tup [.lc false (.var 9) (.nm 9) (.var 7) (.cmp .ne (.var 9) (.var 4)) [("other", 9)]]])] [],
  .ite (.or (.cmp .eq (.var 8) (.str "back")) (.cmp .eq (.var 8) (.str "turn"))) [
    .set (.nm 5) (.not (.var 5))] [],
  .ite (.or (.cmp .eq (.var 8) (.str "on")) (.cmp .eq (.var 8) (.str "back"))) [
    .set (.nm 4) (.bi .max2 [.int 1, .bi .min2 [.var 1, .bin .add (.var 4) (.ix (.lst false [.neg (.int 1), .int 1]) (.bi .int [.var 5]))]])] [],
  .ret (.tup [.var 4, .var 5, .bl false, .var 7])]

end Lf
set_option Elab.async false
set_option linter.all false
set_option maxRecDepth 100000
namespace Lf
open PySem PySem.Spec PyProof.Rows L2

/-! ### one tick -/
def litOf (s : St4) (p : List Int) : St4 := { s with lit := sortSet (s.lit ++ p) }
def stepS (n : Int) (s : St4) (m : Mv) : St4 := match m with
  | .opn => ⟨s.fl, s.up, true, s.lit.filter fun o => !(o == s.fl)⟩
  | .back => ⟨if s.up = true then (if 1 < s.fl - 1 then s.fl - 1 else 1) else (if s.fl + 1 < n then s.fl + 1 else n), !s.up, false, s.lit⟩
  | .turn => ⟨s.fl, !s.up, false, s.lit⟩
  | .on => ⟨if s.up = true then (if s.fl + 1 < n then s.fl + 1 else n) else (if 1 < s.fl - 1 then s.fl - 1 else 1), s.up, false, s.lit⟩
  | .stay => ⟨s.fl, s.up, false, s.lit⟩
def tickS (n : Int) (cs : List Cl) (s : St4) (p : List Int) : St4 := stepS n (litOf s p) (moveC n (litOf s p) cs)
theorem litOf_ok {n : Int} {s : St4} {p : List Int} (hs : StOk n s) (hp : PrOk n p) : StOk n (litOf s p) := by
  refine ⟨hs.1, hs.2.1, fun x hx => ?_, sortSet_rising _⟩
  rcases List.mem_append.mp (sortSet_mem.mp hx) with z | z
  · exact hs.2.2.1 x z
  · exact hp.1 x z
theorem stepS_ok {n : Int} {s : St4} (hs : StOk n s) (m : Mv) : StOk n (stepS n s m) := by
  obtain ⟨h1, h2, h3⟩ := hs
  cases m with
  | opn => exact ⟨h1, h2, sub_ok List.filter_sublist h3⟩
  | back =>
    refine ⟨?_, ?_, h3⟩ <;> simp only [stepS] <;> split <;> split <;> omega
  | turn => exact ⟨h1, h2, h3⟩
  | on =>
    refine ⟨?_, ?_, h3⟩ <;> simp only [stepS] <;> split <;> split <;> omega
  | stay => exact ⟨h1, h2, h3⟩
theorem tickS_ok {n : Int} {cs : List Cl} {s : St4} {p : List Int} (hs : StOk n s) (hp : PrOk n p) : StOk n (tickS n cs s p) := stepS_ok (litOf_ok hs hp) _
theorem sset_at {ns : List Int} {S : Store} {Q : DK} (hl : ns.length < 64) (h : Q (.lst ((sortSet ns).map D.int)) S) : cSortSet [.tup (ns.map D.int)] S Q := ⟨ns, .inl rfl, hl, h⟩
theorem sset_atL {ns : List Int} {S : Store} {Q : DK} (hl : ns.length < 64) (h : Q (.lst ((sortSet ns).map D.int)) S) : cSortSet [.lst (ns.map D.int)] S Q := ⟨ns, .inr rfl, hl, h⟩
theorem stOk_len {n : Int} {s : St4} (h : StOk n s) (hn : n ≤ 4) : s.lit.length ≤ 4 := by
  have := h.2.2.le (by have := h.1; have := h.2.1; omega)
  omega
theorem prOk_len {n : Int} {p : List Int} (h : PrOk n p) (h0 : 0 ≤ n) (hn : n ≤ 4) : p.length ≤ 4 := by
  have := h.le h0
  omega
theorem cut3 {a b c d : D} : cutD [a, b, c, d] none (some 3) = [a, b, c] := cutT' [a, b, c, d] 3
def spOn : Spec := fun ds S Q => ∃ (s : St4) (p : List Int), ds = [s.d, intsD p] ∧ s.lit.length ≤ 20 ∧ p.length ≤ 20 ∧ Q (litOf s p).d S
theorem law_on : ∀ ds S Q, spOn ds S Q → semSs b_pressed_on (endsOf Q) (startD 2 ds) S := by
  rintro ds S Q ⟨s, p, rfl, h1, h2, h⟩
  have z1 : sizeLine = 16777216 := sizeLine_eq
  simp [b_pressed_on, startD, St4.d, intsD, cut3]
  refine ⟨by omega, ?_⟩
  rw [← List.map_append]
  refine sset_at (by simp; omega) ?_
  simp
  exact ⟨by omega, by omega, Ret.same h⟩
/-- moved(state, move, floors) -/
def spMoved : Spec := fun ds S Q => ∃ (s : St4) (m : Mv) (n : Int), ds = [s.d, .str m.s, .int n] ∧ s.lit.length ≤ 1000 ∧ Q (stepS n s m).d S
theorem m_open : Str.ofString "open" = Mv.opn.s := rfl
theorem m_turn : Str.ofString "turn" = Mv.turn.s := rfl
theorem m_on : Str.ofString "on" = Mv.on.s := rfl
theorem m_back : Str.ofString "back" = Mv.back.s := rfl
theorem m_stay : Str.ofString "stay" = Mv.stay.s := rfl
theorem has_mv (m a b : Mv) : hasD (.str m.s) [.str a.s, .str b.s] = (decide (a = m) || decide (b = m)) := by
  simp [hasD, deq, mv_eq]
theorem law_moved : ∀ ds S Q, spMoved ds S Q → semSs b_moved (endsOf Q) (startD 8 ds) S := by
  rintro ds S Q ⟨s, m, n, rfl, hl, h⟩
  have z1 : sizeLine = 16777216 := sizeLine_eq
  cases m with
  | opn =>
    simp [b_moved, startD, St4.d, intsD, m_open, m_turn, m_on, m_back, o_lc]
    intro pa hpa
    refine lc_ints (fun o => !(o == s.fl)) (fun o => o) hpa (fun _ => trivial) hl (fun x => ⟨fun S Q _ k => ?_, fun S Q _ k => ?_⟩) ?_
    · simpa [cOf, wipeD] using k
    · simpa [wipeD] using k
    simp
    exact ⟨by omega, Ret.same (by simpa [stepS, St4.d, intsD] using h)⟩
  | back =>
    simp [b_moved, startD, St4.d, intsD, m_open, m_turn, m_on, m_back, o_lc, has_mv, flatD]
    cases hup : s.up
    all_goals
      simp [hup]
      exact ⟨by omega, by omega, Ret.same (by simpa [stepS, St4.d, intsD, hup] using h)⟩
  | turn =>
    simp [b_moved, startD, St4.d, intsD, m_open, m_turn, m_on, m_back, o_lc, has_mv, flatD]
    exact ⟨by omega, by omega, Ret.same (by simpa [stepS, St4.d, intsD] using h)⟩
  | on =>
    simp [b_moved, startD, St4.d, intsD, m_open, m_turn, m_on, m_back, o_lc, has_mv, flatD]
    cases hup : s.up
    all_goals
      simp [hup]
      exact ⟨by omega, by omega, Ret.same (by simpa [stepS, St4.d, intsD, hup] using h)⟩
  | stay =>
    simp [b_moved, startD, St4.d, intsD, m_open, m_turn, m_on, m_back, o_lc, has_mv, flatD]
    exact ⟨by omega, by omega, Ret.same (by simpa [stepS, St4.d, intsD] using h)⟩
def spTick : Spec := fun ds S Q => ∃ cs n s p, ds = [ctlD cs, .int n, s.d, intsD p] ∧ CtlOk cs ∧ StOk n s ∧ PrOk n p ∧ n ≤ 4 ∧ Q (tickS n cs s p).d S
theorem law_tick_of : ∀ ds S Q, spTick ds S Q → semSs (b_tick_of spOn spMoved spMove) (endsOf Q) (startD 4 ds) S := by
  rintro ds S Q ⟨cs, n, s, p, rfl, hc, hs, hp, hn, h⟩
  have h0 : 0 ≤ n := by have := hs.1; have := hs.2.1; omega
  have h1 := stOk_len hs hn
  have h2 := prOk_len hp h0 hn
  have hs' := litOf_ok hs hp
  have h3 := stOk_len hs' hn
  simp [b_tick_of, startD]
  refine ⟨s, p, rfl, by omega, by omega, ?_⟩
  refine ⟨cs, n, _, rfl, hc, hs', hn, ?_⟩
  exact ⟨litOf s p, _, n, rfl, by omega, Ret.same h⟩
theorem up1 {f n : Int} (h1 : 1 ≤ f) (h2 : f ≤ n) : (if 1 < if f + 1 < n then f + 1 else n then if f + 1 < n then f + 1 else n else 1) = if f + 1 < n then f + 1 else n := by
  by_cases h : f + 1 < n
  · simp only [if_pos h]; rw [if_pos (by omega)]
  · simp only [if_neg h]
    split <;> omega
theorem dn1 {f n : Int} (h1 : 1 ≤ f) (h2 : f ≤ n) : (if 1 < if f + -1 < n then f + -1 else n then if f + -1 < n then f + -1 else n else 1) = if 1 < f - 1 then f - 1 else 1 := by
  have h : f + -1 < n := by omega
  simp only [if_pos h]
  by_cases h3 : 1 < f - 1
  · rw [if_pos h3, if_pos (by omega)]; omega
  · rw [if_neg h3, if_neg (by omega)]
/-- the law's own tick -/
theorem law_ltick : ∀ ds S Q, spTick ds S Q → semSs (b__law_tick spLMove) (endsOf Q) (startD 10 ds) S := by
  rintro ds S Q ⟨cs, n, s, p, rfl, hc, hs, hp, hn, h⟩
  have z1 : sizeLine = 16777216 := sizeLine_eq
  have h0 : 0 ≤ n := by have := hs.1; have := hs.2.1; omega
  have h1 := stOk_len hs hn
  have h2 := prOk_len hp h0 hn
  have hs' := litOf_ok hs hp
  have h3 := stOk_len hs' hn
  have hl : (litOf s p).lit = sortSet (s.lit ++ p) := rfl
  rw [hl] at h3
  simp [b__law_tick, startD, St4.d, intsD]
  refine ⟨by omega, ?_⟩
  rw [← List.map_append]
  refine sset_atL (by simp; omega) ?_
  simp
  refine ⟨by omega, cs, n, litOf s p, rfl, hc, hs', hn, ?_⟩
  have hh : Q (stepS n (litOf s p) (moveC n (litOf s p) cs)).d S := h
  generalize moveC n (litOf s p) cs = m at hh
  have f1 := hs.1
  have f2 := hs.2.1
  cases m with
  | opn =>
    simp [m_open, m_turn, m_on, m_back, o_lc]
    intro pa hpa
    refine lc_ints (fun o => !(o == s.fl)) (fun o => o) hpa (fun _ => trivial) (by omega) (fun x => ⟨fun S Q _ k => ?_, fun S Q _ k => ?_⟩) ?_
    · simpa [cOf, wipeD] using k
    · simpa [wipeD] using k
    simp
    exact ⟨by omega, Ret.same (by simpa [stepS, St4.d, intsD, litOf] using hh)⟩
  | back =>
    simp [m_open, m_turn, m_on, m_back, sNeg]
    cases hup : s.up
    all_goals
      simp [hup]
      refine ⟨by omega, by omega, Ret.same ?_⟩
      simp [stepS, St4.d, intsD, litOf, hup] at hh
      first
        | (rw [up1 f1 f2]; exact hh)
        | (rw [dn1 f1 f2]; exact hh)
  | turn =>
    simp [m_open, m_turn, m_on, m_back]
    exact ⟨by omega, Ret.same (by simpa [stepS, St4.d, intsD, litOf] using hh)⟩
  | on =>
    simp [m_open, m_turn, m_on, m_back, sNeg]
    cases hup : s.up
    all_goals
      simp [hup]
      refine ⟨by omega, by omega, Ret.same ?_⟩
      simp [stepS, St4.d, intsD, litOf, hup] at hh
      first
        | (rw [up1 f1 f2]; exact hh)
        | (rw [dn1 f1 f2]; exact hh)
  | stay =>
    simp [m_open, m_turn, m_on, m_back]
    exact ⟨by omega, Ret.same (by simpa [stepS, St4.d, intsD, litOf] using hh)⟩
/-! ### a plan run -/
def runS (n : Int) (cs : List Cl) : St4 → List (List Int) → St4 × List (Int × Bool)
  | s, [] => (s, [])
  | s, p :: ps => ((runS n cs (tickS n cs s p) ps).1, (s.fl, (tickS n cs s p).op) :: (runS n cs (tickS n cs s p) ps).2)
def rowD (r : Int × Bool) : D := .tup [.int r.1, .bl r.2]
def rowsD (rs : List (Int × Bool)) : D := .tup (rs.map rowD)
theorem runS_snoc (n : Int) (cs : List Cl) : ∀ (s : St4) (ps : List (List Int)) (p : List Int), runS n cs s (ps ++ [p]) = (tickS n cs (runS n cs s ps).1 p, (runS n cs s ps).2 ++ [((runS n cs s ps).1.fl, (tickS n cs (runS n cs s ps).1 p).op)])
  | s, [], p => rfl
  | s, q :: ps, p => by simp [runS, runS_snoc n cs _ ps p]
theorem runS_ok {n : Int} {cs : List Cl} : ∀ {s : St4} {ps : List (List Int)}, StOk n s → (∀ p ∈ ps, PrOk n p) → StOk n (runS n cs s ps).1
  | s, [], h, _ => h
  | s, p :: ps, h, hp => runS_ok (s := tickS n cs s p) (ps := ps) (tickS_ok h (hp p (by simp))) fun q hq => hp q (by simp [hq])
theorem runS_len (n : Int) (cs : List Cl) : ∀ (s : St4) (ps : List (List Int)), (runS n cs s ps).2.length = ps.length
  | s, [] => rfl
  | s, p :: ps => by simp [runS, runS_len n cs _ ps]
theorem n_tupR {a : Addr} {ds : List D} {S : Store} {Q : DK} (h : S a = some (.lst ds)) : BI.sem .tup [.ref a] S Q = Q (.tup ds) S :=
  propext ⟨fun ⟨_, e, q⟩ => by simp only [asL, h] at e; cases e; exact q, fun q => ⟨ds, by simp only [asL, h], q⟩⟩
def spRun : Spec := fun ds S Q => ∃ cs n s ps, ds = [ctlD cs, .int n, s.d, planD ps] ∧ CtlOk cs ∧ StOk n s ∧ (∀ p ∈ ps, PrOk n p) ∧ n ≤ 4 ∧ ps.length ≤ 1000 ∧ Q (.tup [(runS n cs s ps).1.d, rowsD (runS n cs s ps).2]) S
theorem law_run : ∀ ds S Q, spRun ds S Q → semSs (b_run_from spTick) (endsOf Q) (startD 7 ds) S := by
  rintro ds S Q ⟨cs, n, s, ps, rfl, hc, hs, hp, hn, hl, h⟩
  have z1 : sizeLine = 16777216 := sizeLine_eq
  unfold b_run_from startD
  rw [p_cons]
  simp [-p_cons]
  intro a ha
  rw [p_cons, p_for]
  simp [-p_cons, planD]
  have key : ∀ (qs rs : List (List Int)) (S1 : Store) (s0 : St4) (a5 a6 : Option D), s0 = (runS n cs s rs).1 → (∀ p ∈ qs, PrOk n p) → StOk n s0 → rs.length + qs.length ≤ 1000 → (∀ x, x ≠ a → S1 x = S x) → S1 a = some (.lst ((runS n cs s rs).2.map rowD)) →
      Q (.tup [(runS n cs s (rs ++ qs)).1.d, rowsD (runS n cs s (rs ++ qs)).2]) S →
      forS (fun _ => True) (.nm 5) (semSs [.set (.nm 6) (.call "tick_of" spTick [.var 0, .var 1, .var 2, .var 5]), .exp (.app (.var 4) (.tup [.ix (.var 2) (.int 0), .ix (.var 6) (.int 2)])), .set (.nm 2) (.var 6)])
        { endsOf Q with nx := semSs [.ret (.tup [.var 2, .bi .tup [.var 4]])] (endsOf Q) } (qs.map intsD) [some (ctlD cs), some (.int n), some s0.d, some (.tup (ps.map intsD)), some (.ref a), a5, a6] S1 := by
    intro qs
    induction qs with
    | nil =>
      intro rs S1 s0 a5 a6 e hq hs0 hlen hx hS1 q
      simp only [List.map_nil, forS]
      refine ⟨trivial, ?_⟩
      simp [n_tupR hS1]
      refine ⟨by omega, Ret.less S (fun x m e => ?_) ?_⟩
      · by_cases hxa : x = a
        · rw [hxa, ha] at e; cases e
        · rw [hx x hxa]; exact e
      · rw [e]
        simpa [rowsD] using q
    | cons p qs ih =>
      intro rs S1 s0 a5 a6 e hq hs0 hlen hx hS1 q
      simp only [List.map_cons, forS, tgD]
      refine ⟨trivial, ?_⟩
      have hp' := hq p (by simp)
      simp
      refine ⟨cs, n, s0, p, rfl, hc, hs0, hp', hn, ?_⟩
      have et : ∀ t : St4, ∃ x, t.d = .tup [.int t.fl, .bl t.up, .bl t.op, x] := fun t => ⟨_, rfl⟩
      refine ⟨⟨_, hS1⟩, ?_⟩
      obtain ⟨x1, e1⟩ := et s0
      obtain ⟨x2, e2⟩ := et (tickS n cs s0 p)
      have i1 : ∀ R : DK, opIx s0.d (.int 0) S1 R = R (.int s0.fl) S1 := fun R => by rw [e1]; simp
      have i2 : ∀ R : DK, opIx (tickS n cs s0 p).d (.int 2) S1 R = R (.bl (tickS n cs s0 p).op) S1 := fun R => by rw [e2]; simp
      rw [i1]
      simp only [i2]
      have rl := runS_len n cs s rs
      have hl2 : rs.length + (qs.length + 1) ≤ 1000 := by simpa using hlen
      refine ⟨by omega, ?_⟩
      rw [m_app hS1]
      refine ⟨by simp [rl]; omega, ?_⟩
      refine ih (rs ++ [p]) _ (tickS n cs s0 p) _ _ ?_ (fun y hy => hq y (by simp [hy])) (tickS_ok hs0 hp') (by simp; omega) (fun x hxa => by rw [ups_ne hxa]; exact hx x hxa) ?_ (by simpa using q)
      · rw [runS_snoc, e]
      · rw [ups_at, runS_snoc, e]
        simp [rowD]
  refine key ps [] _ s none none rfl hp hs (by simpa using hl) (fun x hx => ups_ne hx) ups_at (by simpa using h)
end Lf
set_option Elab.async false
set_option linter.all false
set_option maxRecDepth 100000
namespace Lf
open PySem PySem.Spec PyProof.Rows L2

def startS : St4 := ⟨1, true, false, []⟩
theorem gStart : g_START = startS.d := rfl
theorem start_ok {n : Int} (h : 1 ≤ n) : StOk n startS := ⟨by decide, h, ⟨(fun x hx => nomatch hx), List.Pairwise.nil⟩⟩
theorem planB_ok {n : Int} {ps : List (List Int)} (h : ps.length ≤ 60) (hp : ∀ p ∈ ps, PrOk n p) : planB n (planD ps) = true := by
  have e1 : (ps.map intsD).all (pressedB n) = true := by
    rw [List.all_eq_true]
    intro x hx
    obtain ⟨p, hp', rfl⟩ := List.mem_map.mp hx
    exact pr_rise (hp p hp')
  simp only [planD, planB, List.length_map, e1, h, decide_true, Bool.and_self]
def spLookP : Spec := fun ds S Q => ∃ n ps, ds = [.int n, planD ps] ∧ 2 ≤ n ∧ n ≤ 4 ∧ ps.length ≤ 60 ∧ (∀ p ∈ ps, PrOk n p) ∧ Q .non S
theorem law_look_p : ∀ ds S Q, spLookP ds S Q → semSs (b_look_at_plan (spPlanB 61 12)) (endsOf Q) (startD 2 ds) S := by
  rintro ds S Q ⟨n, ps, rfl, h1, h2, hl, hp, h⟩
  simp [b_look_at_plan, startD]
  refine ⟨planD ps, n, rfl, plan_gd (n := 10) ps (by omega) (fun p h' => by have := prOk_len (hp p h') (by omega) h2; omega), h1, h2, ?_⟩
  rw [planB_ok hl hp]
  simpa using h
/-- rows_of, state_behind -/
def spPlanned (F : St4 × List (Int × Bool) → D) : Spec := fun ds S Q => ∃ cs n ps, ds = [ctlD cs, .int n, planD ps] ∧ CtlOk cs ∧ 2 ≤ n ∧ n ≤ 4 ∧ ps.length ≤ 60 ∧ (∀ p ∈ ps, PrOk n p) ∧ Q (F (runS n cs startS ps)) S
def spRows : Spec := spPlanned fun r => rowsD r.2
def spBehind : Spec := spPlanned fun r => r.1.d
theorem law_rows_of : ∀ ds S Q, spRows ds S Q → semSs (b_rows_of spLook spLookP spRun) (endsOf Q) (startD 3 ds) S := by
  rintro ds S Q ⟨cs, n, ps, rfl, hc, h1, h2, hl, hp, h⟩
  simp [b_rows_of, startD, gStart]
  refine ⟨cs, n, rfl, hc, h1, h2, n, ps, rfl, h1, h2, hl, hp, cs, n, startS, ps, rfl, hc, start_ok (by omega), hp, h2, by omega, ?_⟩
  simp
  exact Ret.same h
theorem law_behind : ∀ ds S Q, spBehind ds S Q → semSs (b_state_behind spLook spLookP spRun) (endsOf Q) (startD 3 ds) S := by
  rintro ds S Q ⟨cs, n, ps, rfl, hc, h1, h2, hl, hp, h⟩
  simp [b_state_behind, startD, gStart]
  refine ⟨cs, n, rfl, hc, h1, h2, n, ps, rfl, h1, h2, hl, hp, cs, n, startS, ps, rfl, hc, start_ok (by omega), hp, h2, by omega, ?_⟩
  simp
  exact Ret.same h
theorem rows_gd (rs : List (Int × Bool)) (L n : Nat) (h : rs.length ≤ L) (h2 : 2 ≤ L) : gd L (n + 2) (rowsD rs) = true := by
  have : gds L (n + 1) (rs.map rowD) = true := gds_of fun d hd => by
    obtain ⟨r, _, rfl⟩ := List.mem_map.mp hd
    simp [rowD, gd, gds, h2]
  simp [rowsD, gd, h, this]
theorem told_gd {n : Int} {s : St4} {rs : List (Int × Bool)} (hs : StOk n s) (hn : n ≤ 4) (h : rs.length ≤ 60) : gd 61 12 (.lst [s.d, rowsD rs]) = true := by
  have h1 := state_gd hs hn 61 9 (by omega)
  have h2 := rows_gd rs 61 9 (by omega) (by omega)
  simp [gd, gds, h1, h2]
end Lf
set_option Elab.async false
set_option linter.all false
set_option maxRecDepth 100000
namespace Lf
open PySem PySem.Spec PyProof.Rows L2
def g_MOST_CANDIDATES : D := .int 4
/-- slots: 0 floors, 1 plan, 2 value, 3 row -/
def b_are_rows (s_is_within : Spec) : List Sx := [
  .ite (.or (.not (.bi .isi [.var 2, .ty "tuple"])) (.cmp .ne (.bi .len [.var 2]) (.bi .len [.var 1]))) [
    .ret (.bl false)] [],
  .forr (.nm 3) (.var 2) [
    .ite (.or (.not (.bi .isi [.var 3, .ty "tuple"])) (.or (.cmp .ne (.bi .len [.var 3]) (.int 2)) (.not (.call "is_within" s_is_within [.ix (.var 3) (.int 0), .int 1, .var 0])))) [
      .ret (.bl false)] [],
    .ite (.not (.bi .isi [.ix (.var 3) (.int 1), .ty "bool"])) [
      .ret (.bl false)] []],
  .ret (.bl true)]

/-- slots: 0 value, 1 one -/
def b_are_candidates (s_is_controller : Spec) : List Sx := [
  .ite (.or (.not (.bi .isi [.var 0, .ty "tuple"])) (.not (.chn .le .le (.int 1) (.bi .len [.var 0]) (.gl "MOST_CANDIDATES" g_MOST_CANDIDATES)))) [
    .ret (.bl false)] [],
  .ret (.bi .all [.lc false (.call "is_controller" s_is_controller [.var 1]) (.nm 1) (.var 0) .no [("one", 1)]])]

/-- slots: 0 floors, 1 plan, 2 rows, 3 candidates -/
def b_look_at_seen (s_look_at_floors s_look_at_plan s_are_rows s_are_candidates : Spec) : List Sx := [
  .exp (.call "look_at_floors" s_look_at_floors [.var 0]),
  .exp (.call "look_at_plan" s_look_at_plan [.var 0, .var 1]),
  .ite (.not (.call "are_rows" s_are_rows [.var 0, .var 1, .var 2])) [
    .nev] [],
  .ite (.not (.call "are_candidates" s_are_candidates [.var 3])) [
    .nev] []]

/-- slots: 0 floors, 1 plan, 2 rows, 3 candidates, 4 index, 5 one -/
def b_fitting_by (s_run_from : Spec) : List Sx := [
  .ret (.lc false (.var 4) (.tp [.nm 4, .nm 5]) (.enm (.var 3)) (.cmp .eq (.ix (.call "run_from" s_run_from [.var 5, .var 0, .gl "START" g_START, .var 1]) (.int 1)) (.var 2)) [("index", 4), ("one", 5)])]

/-- slots: 0 floors, 1 plan, 2 rows, 3 candidates -/
def b_fitting (s_look_at_seen s_fitting_by : Spec) : List Sx := [
  .exp (.call "look_at_seen" s_look_at_seen [.var 0, .var 1, .var 2, .var 3]),
  .ret (.call "fitting_by" s_fitting_by [.var 0, .var 1, .var 2, .var 3])]

/-- slots: 0 controller, 1 floors, 2 state, 3 plan, 4 rows, 5 pressed, 6 behind -/
def b__law_run (s_law_tick : Spec) : List Sx := [
  .set (.nm 4) (.tup []),
  .forr (.nm 5) (.var 3) [
    .set (.nm 6) (.call "_law_tick" s_law_tick [.var 0, .var 1, .var 2, .var 5]),
    .set (.nm 4) (.bin .add (.var 4) (.tup [.tup [.ix (.var 2) (.int 0), .ix (.var 6) (.int 2)]])),
    .set (.nm 2) (.var 6)],
  .ret (.tup [.var 2, .var 4])]

/-- slots: 0 bag, 1 found, 2 k, 3 one, 4 at, 5 way -/
def b__law_candidates (s_law_controller s_law_take s_law_clause : Spec) : List Sx := [
  .set (.nm 1) (.lst true [.call "_law_controller" s_law_controller [.var 0, .int 5]]),
  .forr (.nm 2) (.rng1 (.call "_law_take" s_law_take [.var 0, .int 4])) [
    .set (.nm 3) (.ix (.var 1) (.call "_law_take" s_law_take [.var 0, .bi .len [.var 1]])),
    .set (.nm 4) (.call "_law_take" s_law_take [.var 0, .bin .add (.bi .len [.var 3]) (.int 1)]),
    .set (.nm 5) (.call "_law_take" s_law_take [.var 0, .int 5]),
    .ite (.cmp .lt (.var 5) (.int 2)) [
      .set (.nm 3) (.bin .add (.bin .add (.sl (.var 3) .no (.var 4)) (.tup [.call "_law_clause" s_law_clause [.var 0]])) (.sl (.var 3) (.bin .add (.var 4) (.var 5)) .no))] [
      .ite (.cmp .eq (.var 5) (.int 2)) [
        .set (.nm 3) (.bin .add (.sl (.var 3) .no (.var 4)) (.sl (.var 3) (.bin .add (.var 4) (.int 1)) .no))] [
        .ite (.cmp .eq (.var 5) (.int 3)) [
          .set (.nm 3) (.call "_law_controller" s_law_controller [.var 0, .int 5])] []]],
    .exp (.app (.var 1) (.sl (.var 3) .no (.int 8)))],
  .ret (.bi .tup [.var 1])]

/-- slots: 0 bag, 1 floors, 2 plan, 3 some, 4 rows, 5 at -/
def b__law_seen (s_law_run s_law_take : Spec) : List Sx := [
  .set (.nm 4) (.ix (.call "_law_run" s_law_run [.ix (.var 3) (.call "_law_take" s_law_take [.var 0, .bi .len [.var 3]]), .var 1, .tup [.int 1, .bl true, .bl false, .tup []], .var 2]) (.int 1)),
  .ite (.and (.cmp .ne (.var 4) (.tup [])) (.cmp .eq (.call "_law_take" s_law_take [.var 0, .int 4]) (.int 0))) [
    .set (.nm 5) (.call "_law_take" s_law_take [.var 0, .bi .len [.var 4]]),
    .set (.nm 4) (.bin .add (.bin .add (.sl (.var 4) .no (.var 5)) (.tup [.tup [.bin .add (.int 1) (.call "_law_take" s_law_take [.var 0, .var 1]), .cmp .eq (.call "_law_take" s_law_take [.var 0, .int 2]) (.int 0)]])) (.sl (.var 4) (.bin .add (.var 5) (.int 1)) .no))] [],
  .ret (.var 4)]

end Lf
set_option Elab.async false
set_option linter.all false
set_option maxRecDepth 100000
namespace Lf
open PySem PySem.Spec PyProof.Rows L2

/-! ### rows and candidates looked at -/
def RowsOk (n : Int) (rs : List (Int × Bool)) : Prop := ∀ r ∈ rs, 1 ≤ r.1 ∧ r.1 ≤ n
def spAreRows : Spec := fun ds S Q => ∃ n ps rs, ds = [.int n, planD ps, rowsD rs] ∧ rs.length = ps.length ∧ RowsOk n rs ∧ Q (.bl true) S
theorem law_are_rows : ∀ ds S Q, spAreRows ds S Q → semSs (b_are_rows (spWithin 61 10)) (endsOf Q) (startD 4 ds) S := by
  rintro ds S Q ⟨n, ps, rs, rfl, hl, hr, h⟩
  unfold b_are_rows startD
  rw [p_cons]
  simp [-p_cons, rowsD, planD, tyD, isi, tyOk, hl]
  rw [p_cons, p_for]
  simp [-p_cons]
  have key : ∀ (qs : List (Int × Bool)) (a3 : Option D), (∀ r ∈ qs, 1 ≤ r.1 ∧ r.1 ≤ n) → forS (fun _ => True) (.nm 3) (semSs [
      .ite (.or (.not (.bi .isi [.var 3, .ty "tuple"])) (.or (.cmp .ne (.bi .len [.var 3]) (.int 2)) (.not (.call "is_within" (spWithin 61 10) [.ix (.var 3) (.int 0), .int 1, .var 0])))) [.ret (.bl false)] [],
      .ite (.not (.bi .isi [.ix (.var 3) (.int 1), .ty "bool"])) [.ret (.bl false)] []]) { endsOf Q with nx := semSs [.ret (.bl true)] (endsOf Q) } (qs.map rowD) [some (.int n), some (.tup (ps.map intsD)), some (.tup (rs.map rowD)), a3] S := by
    intro qs
    induction qs with
    | nil =>
      intro a3 _
      simp only [List.map_nil, forS]
      simp
      exact Ret.same h
    | cons r qs ih =>
      intro a3 hq
      simp only [List.map_cons, forS, tgD]
      refine ⟨trivial, ?_⟩
      have := hq r (by simp)
      simp [rowD, tyD, isi, tyOk]
      refine ⟨_, 1, n, rfl, by simp [gd], ?_⟩
      simp [withinB, this]
      exact ih _ fun x hx => hq x (by simp [hx])
  exact key rs none hr
def candsD (css : List (List Cl)) : D := .tup (css.map ctlD)
def CandsOk (css : List (List Cl)) : Prop := (1 ≤ css.length ∧ css.length ≤ 4) ∧ ∀ cs ∈ css, CtlOk cs
def spAreCands : Spec := fun ds S Q => ∃ css, ds = [candsD css] ∧ CandsOk css ∧ Q (.bl true) S
theorem ctlOk_gd {cs : List Cl} (h : CtlOk cs) : gd 61 12 (ctlD cs) = true := ctl_gd cs 61 9 (fun c hc => by have := h.2 c hc; omega) (by have := h.1; omega) (by omega)
theorem law_are_cands : ∀ ds S Q, spAreCands ds S Q → semSs (b_are_candidates (spB ctlB 61 12)) (endsOf Q) (startD 2 ds) S := by
  rintro ds S Q ⟨css, rfl, hc, h⟩
  have h1 : (1 : Int) ≤ css.length := by have := hc.1.1; omega
  have h4 : (css.length : Int) ≤ 4 := by have := hc.1.2; omega
  have h0 : css ≠ [] := by intro e; rw [e] at h1; simp at h1
  simp [b_are_candidates, startD, candsD, tyD, isi, tyOk, g_MOST_CANDIDATES, h1, h4, h0, o_lc, -List.all_eq_true]
  intro pa hpa
  refine lc_all ctlB hpa (fun _ => trivial) (by simp; omega) (fun x hx => ⟨_, rfl, fun S Q _ k => ?_⟩) ?_
  · obtain ⟨cs, hcs, rfl⟩ := List.mem_map.mp hx
    simp [wipeD]
    exact spB_at (ctlOk_gd (hc.2 cs hcs)) k
  · have e : (css.map ctlD).all ctlB = true := by
      rw [List.all_eq_true]
      intro x hx
      obtain ⟨cs, hcs, rfl⟩ := List.mem_map.mp hx
      exact ctlB_ctl cs (hc.2 cs hcs)
    rw [e]
    exact Ret.same h
/-- floors, plan, rows, candidates -/
def spSeen4 (F : Int → List (List Int) → List (Int × Bool) → List (List Cl) → D) : Spec := fun ds S Q => ∃ n ps rs css, ds = [.int n, planD ps, rowsD rs, candsD css] ∧ 2 ≤ n ∧ n ≤ 4 ∧ ps.length ≤ 60 ∧ (∀ p ∈ ps, PrOk n p) ∧ rs.length = ps.length ∧ RowsOk n rs ∧ CandsOk css ∧ Q (F n ps rs css) S
def spLook4 : Spec := spSeen4 fun _ _ _ _ => .non
theorem law_look4 : ∀ ds S Q, spLook4 ds S Q → semSs (b_look_at_seen spLookF spLookP spAreRows spAreCands) (endsOf Q) (startD 4 ds) S := by
  rintro ds S Q ⟨n, ps, rs, css, rfl, h1, h2, hl, hp, hr1, hr2, hc, h⟩
  simp [b_look_at_seen, startD]
  refine ⟨n, rfl, h1, h2, n, ps, rfl, h1, h2, hl, hp, n, ps, rs, rfl, hr1, hr2, ?_⟩
  simp
  refine ⟨css, rfl, hc, ?_⟩
  simpa using h
/-- which of them have these rows -/
def fitI (n : Int) (ps : List (List Int)) (rs : List (Int × Bool)) : Int → List (List Cl) → List Int
  | _, [] => []
  | k, cs :: css => if (runS n cs startS ps).2 = rs then k :: fitI n ps rs (k + 1) css else fitI n ps rs (k + 1) css
def spFit : Spec := spSeen4 fun n ps rs css => .lst ((fitI n ps rs 0 css).map D.int)
def iota : Int → List (List Cl) → List (Int × List Cl)
  | _, [] => []
  | k, cs :: css => (k, cs) :: iota (k + 1) css
theorem enum_iota : ∀ (k : Int) (css : List (List Cl)), enumD k (css.map ctlD) = (iota k css).map fun p => .tup [.int p.1, ctlD p.2]
  | _, [] => rfl
  | k, cs :: css => by simp [iota, enumD, enum_iota (k + 1) css]
theorem iota_mem : ∀ (k : Int) (css : List (List Cl)) (p : Int × List Cl), p ∈ iota k css → p.2 ∈ css
  | _, [], p, h => by simp [iota] at h
  | k, cs :: css, p, h => by
    simp only [iota, List.mem_cons] at h
    rcases h with z | z
    · subst z; simp
    · exact List.mem_cons_of_mem _ (iota_mem (k + 1) css p z)
theorem iota_len : ∀ (k : Int) (css : List (List Cl)), (iota k css).length = css.length
  | _, [] => rfl
  | k, cs :: css => by simp [iota, iota_len (k + 1) css]
theorem iota_fit (n : Int) (ps : List (List Int)) (rs : List (Int × Bool)) : ∀ (k : Int) (css : List (List Cl)), ((iota k css).filter fun p => decide ((runS n p.2 startS ps).2 = rs)).map (fun p => D.int p.1) = (fitI n ps rs k css).map D.int
  | _, [] => rfl
  | k, cs :: css => by
    have ih := iota_fit n ps rs (k + 1) css
    simp only [iota, fitI]
    by_cases h : (runS n cs startS ps).2 = rs
    · simp [h, ih]
    · simp [h, ih]
theorem deq_rows : ∀ (a b : List (Int × Bool)), deqs (a.map rowD) (b.map rowD) = decide (a = b)
  | [], [] => rfl
  | [], _ :: _ => rfl
  | _ :: _, [] => rfl
  | (x, u) :: a, (y, v) :: b => by
    simp only [List.map_cons, deqs, rowD, deq, deq_rows a b]
    by_cases h1 : x = y <;> by_cases h2 : u = v <;> by_cases h3 : a = b <;> simp [h1, h2, h3]
theorem ok_rows : ∀ a : List (Int × Bool), okDs 63 (a.map rowD) = true
  | [] => rfl
  | r :: a => by simp [okDs, rowD, okD, ok_rows a]
theorem rows_eq {a b : List (Int × Bool)} {S : Store} {Q : DK} (h : Q (.bl (decide (a = b))) S) : OpC.sem .eq (rowsD a) (rowsD b) S Q := by
  rw [c_eq]
  simp only [rowsD, rsv, okD, ok_rows, deq, deq_rows, true_and]
  exact h
theorem law_fitting_by : ∀ ds S Q, spFit ds S Q → semSs (b_fitting_by spRun) (endsOf Q) (startD 6 ds) S := by
  rintro ds S Q ⟨n, ps, rs, css, rfl, h1, h2, hl, hp, hr1, hr2, hc, h⟩
  simp [b_fitting_by, startD, candsD, o_lc, enum_iota]
  intro pa hpa
  refine lc_read (α := Int × List Cl) (fun p => .tup [.int p.1, ctlD p.2]) (fun p => decide ((runS n p.2 startS ps).2 = rs)) (fun p => .int p.1) (fun _ => True) hpa rfl (fun _ => trivial) (fun _ => trivial) (fun p hp' => ⟨_, rfl, fun S Q _ k => ?_, fun _ S Q _ k => ?_⟩) ?_ ?_
  · simp [cOf, wipeD, gStart]
    refine ⟨p.2, n, startS, ps, rfl, hc.2 _ (iota_mem _ _ _ hp'), start_ok (by omega), hp, h2, by omega, ?_⟩
    simp
    exact rows_eq (by simpa using k)
  · simpa [wipeD] using k
  · have := hc.1.2
    rw [iota_len, sizeLine_eq]; omega
  · rw [iota_fit]
    exact Ret.same h
theorem law_fitting : ∀ ds S Q, spFit ds S Q → semSs (b_fitting spLook4 spFit) (endsOf Q) (startD 4 ds) S := by
  rintro ds S Q ⟨n, ps, rs, css, rfl, h1, h2, hl, hp, hr1, hr2, hc, h⟩
  simp [b_fitting, startD]
  exact ⟨n, ps, rs, css, rfl, h1, h2, hl, hp, hr1, hr2, hc, n, ps, rs, css, rfl, h1, h2, hl, hp, hr1, hr2, hc, Ret.same h⟩
end Lf
set_option Elab.async false
set_option linter.all false
set_option maxRecDepth 100000
namespace Lf
open PySem PySem.Spec PyProof.Rows L2

/-! ### the law's run -/
theorem law_lrun : ∀ ds S Q, spRun ds S Q → semSs (b__law_run spTick) (endsOf Q) (startD 7 ds) S := by
  rintro ds S Q ⟨cs, n, s, ps, rfl, hc, hs, hp, hn, hl, h⟩
  have z1 : sizeLine = 16777216 := sizeLine_eq
  unfold b__law_run startD
  rw [p_cons]
  simp [-p_cons]
  rw [p_cons, p_for]
  simp [-p_cons, planD]
  have key : ∀ (qs rs : List (List Int)) (s0 : St4) (a5 a6 : Option D), s0 = (runS n cs s rs).1 → (∀ p ∈ qs, PrOk n p) → StOk n s0 → rs.length + qs.length ≤ 1000 → Q (.tup [(runS n cs s (rs ++ qs)).1.d, rowsD (runS n cs s (rs ++ qs)).2]) S →
      forS (fun _ => True) (.nm 5) (semSs [.set (.nm 6) (.call "_law_tick" spTick [.var 0, .var 1, .var 2, .var 5]), .set (.nm 4) (.bin .add (.var 4) (.tup [.tup [.ix (.var 2) (.int 0), .ix (.var 6) (.int 2)]])), .set (.nm 2) (.var 6)])
        { endsOf Q with nx := semSs [.ret (.tup [.var 2, .var 4])] (endsOf Q) } (qs.map intsD) [some (ctlD cs), some (.int n), some s0.d, some (.tup (ps.map intsD)), some (rowsD (runS n cs s rs).2), a5, a6] S := by
    intro qs
    induction qs with
    | nil =>
      intro rs s0 a5 a6 e hq hs0 hlen q
      simp only [List.map_nil, forS]
      refine ⟨trivial, ?_⟩
      simp
      refine ⟨by omega, Ret.same ?_⟩
      rw [e]
      simpa using q
    | cons p qs ih =>
      intro rs s0 a5 a6 e hq hs0 hlen q
      simp only [List.map_cons, forS, tgD]
      refine ⟨trivial, ?_⟩
      have hp' := hq p (by simp)
      simp
      refine ⟨cs, n, s0, p, rfl, hc, hs0, hp', hn, ?_⟩
      have et : ∀ t : St4, ∃ x, t.d = .tup [.int t.fl, .bl t.up, .bl t.op, x] := fun t => ⟨_, rfl⟩
      obtain ⟨x1, e1⟩ := et s0
      obtain ⟨x2, e2⟩ := et (tickS n cs s0 p)
      have i1 : ∀ (R : DK), opIx s0.d (.int 0) S R = R (.int s0.fl) S := fun R => by rw [e1]; simp
      have i2 : ∀ (R : DK), opIx (tickS n cs s0 p).d (.int 2) S R = R (.bl (tickS n cs s0 p).op) S := fun R => by rw [e2]; simp
      dsimp only
      rw [i1]
      simp only [i2]
      have rl := runS_len n cs s rs
      have hl2 : rs.length + (qs.length + 1) ≤ 1000 := by simpa using hlen
      simp [rowsD, rl]
      refine ⟨by omega, by omega, by omega, ?_⟩
      have := ih (rs ++ [p]) (tickS n cs s0 p) (some (intsD p)) (some (tickS n cs s0 p).d) (by rw [runS_snoc, e]) (fun y hy => hq y (by simp [hy])) (tickS_ok hs0 hp') (by simp; omega) (by simpa using q)
      rw [runS_snoc, ← e] at this
      simpa [rowsD, rowD] using this
  refine key ps [] s none none rfl hp hs (by simpa using hl) (by simpa using h)
/-! ### candidates drawn -/
def spCands : Spec := fun ds S Q => ∃ b m l, ds = [.ref b] ∧ S b = some (.lst l) ∧ BagL (m + 1000) l ∧ ∀ css l', CandsOk css → BagL m l' → Q (candsD css) (ups S b (.lst l'))
theorem ctl_take {cs : List Cl} (h : ∀ c ∈ cs, c.ts.length ≤ 3) : CtlOk (cs.take 8) := ⟨by simp; omega, fun c hc => h c (List.mem_of_mem_take hc)⟩
def candB : List Sx := [
    .set (.nm 3) (.ix (.var 1) (.call "_law_take" spTake [.var 0, .bi .len [.var 1]])),
    .set (.nm 4) (.call "_law_take" spTake [.var 0, .bin .add (.bi .len [.var 3]) (.int 1)]),
    .set (.nm 5) (.call "_law_take" spTake [.var 0, .int 5]),
    .ite (.cmp .lt (.var 5) (.int 2)) [
      .set (.nm 3) (.bin .add (.bin .add (.sl (.var 3) .no (.var 4)) (.tup [.call "_law_clause" spClause [.var 0]])) (.sl (.var 3) (.bin .add (.var 4) (.var 5)) .no))] [
      .ite (.cmp .eq (.var 5) (.int 2)) [
        .set (.nm 3) (.bin .add (.sl (.var 3) .no (.var 4)) (.sl (.var 3) (.bin .add (.var 4) (.int 1)) .no))] [
        .ite (.cmp .eq (.var 5) (.int 3)) [
          .set (.nm 3) (.call "_law_controller" spCtl [.var 0, .int 5])] []]],
    .exp (.app (.var 1) (.sl (.var 3) .no (.int 8)))]
/-- one more candidate -/
theorem cand_turn (p b : Addr) (hpb : p ≠ b) (css : List (List Cl)) (hc : (1 ≤ css.length ∧ css.length ≤ 100) ∧ ∀ cs ∈ css, CtlOk cs) (En : DEnds) (S : Store) (l : List D) (m : Nat) (a2 a3 a4 a5 : Option D) (hp : S p = some (.lst (css.map ctlD))) (hb : S b = some (.lst l)) (hB : BagL (m + 200) l)
    (k : ∀ cs l' a3 a4 a5 S', CtlOk cs → BagL m l' → S' p = some (.lst ((css ++ [cs]).map ctlD)) → S' b = some (.lst l') → (∀ x, x ≠ p → x ≠ b → S' x = S x) → En.nx [some (.ref b), some (.ref p), a2, a3, a4, a5] S') :
    semSs candB En [some (.ref b), some (.ref p), a2, a3, a4, a5] S := by
  have z1 : sizeLine = 16777216 := sizeLine_eq
  unfold candB
  rw [p_cons]
  simp [-p_cons]
  rw [n_lenR hp]
  refine take_sp (m := m + 199) (by simp; omega) (by simp; omega) hb hB fun r l1 r1 r2 hm1 => ?_
  rw [i_ixR (by rw [ups_ne hpb]; exact hp)]
  refine pick r1 r2 fun d hd => ?_
  obtain ⟨one, ho, rfl⟩ := List.mem_map.mp hd
  have h1 := hc.2 one ho
  rw [p_cons]
  simp [-p_cons, ctlD]
  refine take_sp (m := m + 198) (by omega) (by have := h1.1; omega) ups_at hm1 fun at_ l2 r3 r4 hm2 => ?_
  obtain ⟨at_, rfl⟩ := Int.eq_ofNat_of_zero_le r3
  rw [p_cons]
  simp [-p_cons]
  refine take_sp (m := m + 197) (by omega) (by omega) ups_at hm2 fun way l3 r5 r6 hm3 => ?_
  obtain ⟨way, rfl⟩ := Int.eq_ofNat_of_zero_le r5
  simp only [ups_ups]
  have hat : at_ ≤ one.length := by omega
  have last : ∀ (cs : List Cl) (l' : List D) (a4 a5 : Option D), (∀ c ∈ cs, c.ts.length ≤ 3) → BagL m l' → semSs [.exp (.app (.var 1) (.sl (.var 3) .no (.int 8)))] En [some (.ref b), some (.ref p), a2, some (.tup (cs.map Cl.d)), a4, a5] (ups S b (.lst l')) := by
    intro cs l' a4 a5 h hm
    have hpp : ups S b (.lst l') p = some (.lst (css.map ctlD)) := by rw [ups_ne hpb]; exact hp
    have ec : cutD (cs.map Cl.d) none (some 8) = (cs.take 8).map Cl.d := by
      have := cutA_to (xs := cs) (k := 8)
      rw [cut_map']
      exact congrArg (List.map Cl.d) this
    simp [-List.map_take]
    refine ⟨⟨_, hpp⟩, ?_⟩
    rw [ec, m_app hpp]
    refine ⟨by have := hc.1.2; simp; omega, ?_⟩
    refine k (cs.take 8) l' _ _ _ _ (ctl_take h) hm ?_ (by rw [ups_ne (Ne.symm hpb), ups_at]) fun x h1 h2 => by rw [ups_ne h1, ups_ne h2]
    rw [ups_at]
    simp [ctlD]
  have tk : ∀ c ∈ one.take at_, c.ts.length ≤ 3 := fun c h => h1.2 c (List.mem_of_mem_take h)
  have dp : ∀ n, ∀ c ∈ one.drop n, c.ts.length ≤ 3 := fun n c h => h1.2 c (List.mem_of_mem_drop h)
  have cutT : cutD (one.map Cl.d) none (some (at_ : Int)) = (one.take at_).map Cl.d := by rw [cut_map', cutA_to]
  have cutF : ∀ n : Nat, cutD (one.map Cl.d) (some (n : Int)) none = (one.drop n).map Cl.d := fun n => by rw [cut_map', cutA_from]
  have hlen := h1.1
  rw [p_cons]
  simp [-p_cons, -List.map_take, -List.map_drop]
  refine cnd_i (fun _ => ?_) (fun _ => ?_)
  · rw [p_cons]
    simp [-p_cons, -List.map_take, -List.map_drop]
    rw [cutT]
    refine ⟨b, m, l3, [], rfl, rfl, ups_at, hm3.le (by omega), fun c l4 hcl hm4 => ?_⟩
    have cut2 : cutD (one.map Cl.d) (some ((at_ : Int) + (way : Int))) none = (one.drop (at_ + way)).map Cl.d := cutF (at_ + way)
    simp [-p_cons, -List.map_take, -List.map_drop, cut2]
    refine ⟨by omega, by omega, by omega, ?_⟩
    rw [ups_ups]
    have := last (one.take at_ ++ c :: one.drop (at_ + way)) l4 (some (.int at_)) (some (.int way)) (fun x hx => by
      simp only [List.mem_append, List.mem_cons] at hx
      rcases hx with z | z | z
      · exact tk x z
      · rw [z]; exact hcl
      · exact dp _ x z) hm4
    simpa [-p_cons, -List.map_take, -List.map_drop] using this
  rw [p_cons]
  simp [-p_cons, -List.map_take, -List.map_drop]
  refine cnd_i (fun _ => ?_) (fun _ => ?_)
  · rw [p_cons]
    have cut2 : cutD (one.map Cl.d) (some ((at_ : Int) + 1)) none = (one.drop (at_ + 1)).map Cl.d := cutF (at_ + 1)
    simp [-p_cons, -List.map_take, -List.map_drop, cutT, cut2]
    refine ⟨by omega, ?_⟩
    have := last (one.take at_ ++ one.drop (at_ + 1)) l3 (some (.int at_)) (some (.int way)) (fun x hx => by
      rcases List.mem_append.mp hx with z | z
      · exact tk x z
      · exact dp _ x z) (hm3.le (by omega))
    simpa [-p_cons, -List.map_take, -List.map_drop] using this
  rw [p_cons]
  simp [-p_cons, -List.map_take, -List.map_drop]
  refine cnd_i (fun _ => ?_) (fun _ => ?_)
  · rw [p_cons]
    simp [-p_cons]
    refine ⟨b, m, l3, 5, rfl, by omega, by omega, ups_at, hm3.le (by omega), fun cs l4 hc1 hc2 hm4 => ?_⟩
    rw [ups_ups]
    exact last cs l4 _ _ hc2 hm4
  · exact last one l3 _ _ h1.2 (hm3.le (by omega))
end Lf
set_option Elab.async false
set_option linter.all false
set_option maxRecDepth 100000
namespace Lf
open PySem PySem.Spec PyProof.Rows L2

theorem law_cands : ∀ ds S Q, spCands ds S Q → semSs (b__law_candidates spCtl spTake spClause) (endsOf Q) (startD 6 ds) S := by
  rintro ds S Q ⟨b, m, l, rfl, hS, hm, h⟩
  have z1 : sizeLine = 16777216 := sizeLine_eq
  unfold b__law_candidates startD
  rw [p_cons]
  simp [-p_cons]
  refine ⟨b, m + 900, l, 5, rfl, by omega, by omega, hS, hm, fun cs l1 hc1 hc2 hm1 => ?_⟩
  refine ⟨by omega, fun p hp => ?_⟩
  have hpb : p ≠ b := fun e => by rw [e, ups_at] at hp; cases hp
  have hSp : S p = none := by rw [ups_ne hpb] at hp; exact hp
  have hc : CtlOk cs := ⟨by have : cs.length ≤ 5 := hc1; omega, hc2⟩
  rw [p_cons, p_for]
  simp [-p_cons]
  refine take_sp (m := m + 899) (by omega) (by omega) (by rw [ups_ne (Ne.symm hpb), ups_at]) hm1 fun r l2 r1 r2 hm2 => ?_
  obtain ⟨r, rfl⟩ := Int.eq_ofNat_of_zero_le r1
  refine ⟨r, rfl, by omega, by omega, ?_⟩
  have key : ∀ (k : Nat) (a : Int) (css : List (List Cl)) (l : List D) (S1 : Store) (a2 a3 a4 a5 : Option D), css.length + k ≤ 4 → 1 ≤ css.length → (∀ cs ∈ css, CtlOk cs) → S1 p = some (.lst (css.map ctlD)) → S1 b = some (.lst l) → BagL (m + 200 * k) l → (∀ x, x ≠ p → x ≠ b → S1 x = S x) →
      forS (fun _ => True) (.nm 2) (semSs candB) { endsOf Q with nx := semSs [.ret (.bi .tup [.var 1])] (endsOf Q) } (rngD a k) [some (.ref b), some (.ref p), a2, a3, a4, a5] S1 := by
    intro k
    induction k with
    | zero =>
      intro a css l S1 a2 a3 a4 a5 hl h1 hcs hp1 hb1 hm1 hx
      simp only [rngD, forS]
      refine ⟨trivial, ?_⟩
      simp [n_tupR hp1]
      refine Ret.less (ups S b (.lst l)) (fun x mo e => ?_) (h css l ⟨⟨h1, by omega⟩, hcs⟩ (by simpa using hm1))
      by_cases hxb : x = b
      · rw [hxb, ups_at] at e; rw [hxb, hb1]; exact e
      · rw [ups_ne hxb] at e
        by_cases hxp : x = p
        · rw [hxp, hSp] at e; cases e
        · rw [hx x hxp hxb]; exact e
    | succ k ih =>
      intro a css l S1 a2 a3 a4 a5 hl h1 hcs hp1 hb1 hm1 hx
      simp only [rngD, forS, tgD]
      refine ⟨trivial, ?_⟩
      refine cand_turn p b hpb css ⟨⟨h1, by omega⟩, hcs⟩ _ S1 l (m + 200 * k) _ a3 a4 a5 hp1 hb1 (by rw [Nat.mul_succ] at hm1; simpa [Nat.add_assoc] using hm1) fun cs l' a3 a4 a5 S' hc' hm' hp' hb' hx' => ?_
      refine ih (a + 1) (css ++ [cs]) l' S' _ a3 a4 a5 (by simp; omega) (by simp) (fun y hy => ?_) hp' hb' hm' fun x h1 h2 => by rw [hx' x h1 h2]; exact hx x h1 h2
      rcases List.mem_append.mp hy with z | z
      · exact hcs y z
      · simp at z; subst z; exact hc'
  refine key r 0 [cs] l2 _ none none none none (by simp; omega) (by simp) (fun x hx => by simp at hx; subst hx; exact hc) (by rw [ups_ne hpb, ups_at]; rfl) ups_at (hm2.le (by omega)) fun x h1 h2 => by rw [ups_ne h2, ups_ne h1, ups_ne h2]
/-- what is seen: rows of the plan's length -/
def spSeen : Spec := fun ds S Q => ∃ b m l n ps css, ds = [.ref b, .int n, planD ps, candsD css] ∧ 2 ≤ n ∧ n ≤ 4 ∧ ps.length ≤ 60 ∧ (∀ p ∈ ps, PrOk n p) ∧ CandsOk css ∧ S b = some (.lst l) ∧ BagL (m + 10) l ∧ ∀ rs l', rs.length = ps.length → RowsOk n rs → BagL m l' → Q (rowsD rs) (ups S b (.lst l'))
theorem runS_rows {n : Int} {cs : List Cl} : ∀ {s : St4} {ps : List (List Int)}, StOk n s → (∀ p ∈ ps, PrOk n p) → RowsOk n (runS n cs s ps).2
  | s, [], _, _ => fun r h => by simp [runS] at h
  | s, p :: ps, h, hp => fun r hr => by
    simp only [runS, List.mem_cons] at hr
    rcases hr with z | z
    · subst z; exact ⟨h.1, h.2.1⟩
    · exact runS_rows (tickS_ok h (hp p (by simp))) (fun q hq => hp q (by simp [hq])) r z
theorem law_seen : ∀ ds S Q, spSeen ds S Q → semSs (b__law_seen spRun spTake) (endsOf Q) (startD 6 ds) S := by
  rintro ds S Q ⟨b, m, l, n, ps, css, rfl, h1, h2, hl, hp, hc, hS, hm, h⟩
  have z1 : sizeLine = 16777216 := sizeLine_eq
  unfold b__law_seen startD
  rw [p_cons]
  simp [-p_cons, candsD]
  have h4 := hc.1
  refine take_sp (m := m + 9) (by omega) (by omega) hS hm fun r l1 r1 r2 hm1 => ?_
  refine pick r1 (by simpa using r2) fun d hd => ?_
  obtain ⟨cs, hcs, rfl⟩ := List.mem_map.mp hd
  refine ⟨by omega, cs, n, startS, ps, rfl, hc.2 cs hcs, start_ok (by omega), hp, h2, by omega, ?_⟩
  have rl := runS_len n cs startS ps
  have ro := runS_rows (cs := cs) (start_ok (show 1 ≤ n by omega)) hp
  generalize (runS n cs startS ps).2 = rs at rl ro
  simp [-p_cons]
  rw [p_cons]
  simp [-p_cons, sizeLine_eq]
  have ne : ∀ R : DK, OpC.sem .ne (rowsD rs) (.tup []) (ups S b (.lst l1)) R = R (.bl (!rs.isEmpty)) (ups S b (.lst l1)) := fun R => by
    rw [c_ne]
    have e : deqs (rs.map rowD) [] = rs.isEmpty := by cases rs <;> rfl
    simp only [rowsD, rsv, okD, ok_rows, okDs, deq, e, true_and]
  simp only [ne, t_bl]
  have same : ∀ (l2 : List D), BagL m l2 → semSs [.ret (.var 4)] (endsOf Q) [some (.ref b), some (.int n), some (planD ps), some (.tup (css.map ctlD)), some (rowsD rs), none] (ups S b (.lst l2)) := fun l2 hm2 => by
    simp
    exact Ret.same (h rs l2 rl ro hm2)
  cases he : rs.isEmpty with
  | true =>
    simp only [Bool.not_true, cnd_false]
    exact same l1 (hm1.le (by omega))
  | false =>
    have h0 : 0 < rs.length := by cases rs <;> simp at he ⊢
    simp only [Bool.not_false, cnd_true]
    refine take_sp (m := m + 8) (by omega) (by omega) ups_at hm1 fun r' l2 r3 r4 hm2 => ?_
    simp only [c_eqI, t_bl, ups_ups]
    refine cnd_i (fun _ => ?_) (fun _ => same l2 (hm2.le (by omega)))
    rw [p_cons]
    simp [-p_cons, rowsD]
    refine take_sp (m := m + 7) (by omega) (by omega) ups_at hm2 fun at_ l3 r5 r6 hm3 => ?_
    obtain ⟨at_, rfl⟩ := Int.eq_ofNat_of_zero_le r5
    have cut1 : cutD (rs.map rowD) none (some (at_ : Int)) = (rs.take at_).map rowD := by rw [cut_map', cutA_to]
    have cut2 : cutD (rs.map rowD) (some ((at_ : Int) + 1)) none = (rs.drop (at_ + 1)).map rowD := by
      rw [cut_map']
      exact congrArg (List.map rowD) (cutA_from (xs := rs) (k := at_ + 1))
    rw [p_cons]
    simp [-p_cons, -List.map_take, -List.map_drop, cut1, cut2]
    refine take_sp (m := m + 6) (by omega) (by omega) ups_at hm3 fun f l4 r7 r8 hm4 => ?_
    simp [-List.map_take, -List.map_drop]
    refine take_sp (m := m) (by omega) (by omega) ups_at (hm4.le (by omega)) fun g l5 r9 r10 hm5 => ?_
    simp [-List.map_take, -List.map_drop]
    simp only [ups_ups]
    have hat : at_ < rs.length := by omega
    refine ⟨by omega, by omega, by omega, by omega, ?_⟩
    have e : (rs.take at_).map rowD ++ D.tup [.int (1 + f), .bl (g == 0)] :: (rs.drop (at_ + 1)).map rowD = (rs.take at_ ++ (1 + f, g == 0) :: rs.drop (at_ + 1)).map rowD := by simp [rowD]
    rw [e]
    refine Ret.same (h _ l5 (by simp; omega) (fun x hx => ?_) hm5)
    simp only [List.mem_append, List.mem_cons] at hx
    rcases hx with z | z | z
    · exact ro x (List.mem_of_mem_take z)
    · subst z; exact ⟨by show 1 ≤ 1 + f; omega, by show 1 + f ≤ n; omega⟩
    · exact ro x (List.mem_of_mem_drop z)
end Lf
set_option Elab.async false
set_option linter.all false
set_option maxRecDepth 100000
namespace Lf
open PySem PySem.Spec PyProof.Rows L2

/-! ### a search, step by step -/
section
variable {σ P : Type} [DecidableEq σ]
abbrev Fnd (σ P : Type) := List (σ × List P)
/-- the plan that leads to s -/
def lk (f : Fnd σ P) (s : σ) : Option (List P) := (f.find? (fun x => decide (x.1 = s))).map (·.2)
theorem lk_nil (s : σ) : lk ([] : Fnd σ P) s = none := rfl
theorem lk_cons (x : σ × List P) (f : Fnd σ P) (s : σ) : lk (x :: f) s = if x.1 = s then some x.2 else lk f s := by
  unfold lk
  by_cases h : x.1 = s
  · rw [List.find?_cons_of_pos (by simp [h]), if_pos h]; rfl
  · rw [List.find?_cons_of_neg (by simp [h]), if_neg h]
theorem lk_app (f g : Fnd σ P) (s : σ) : lk (f ++ g) s = match lk f s with
    | some pl => some pl
    | none => lk g s := by
  induction f with
  | nil => rfl
  | cons x f ih =>
    rw [List.cons_append, lk_cons, lk_cons]
    by_cases h : x.1 = s
    · simp [h]
    · simp only [if_neg h, ih]
theorem lk_mem {f : Fnd σ P} {s : σ} {pl : List P} (h : lk f s = some pl) : (s, pl) ∈ f := by
  induction f with
  | nil => cases h
  | cons x f ih =>
    rw [lk_cons] at h
    by_cases e : x.1 = s
    · rw [if_pos e] at h
      cases h
      rw [← e]; simp
    · rw [if_neg e] at h
      exact List.mem_cons_of_mem _ (ih h)
theorem lk_of_mem {f : Fnd σ P} {x : σ × List P} (nd : (f.map (·.1)).Nodup) (h : x ∈ f) : lk f x.1 = some x.2 := by
  induction f with
  | nil => cases h
  | cons y f ih =>
    rw [List.map_cons, List.nodup_cons] at nd
    rw [lk_cons]
    rcases List.mem_cons.mp h with e | e
    · subst e; rw [if_pos rfl]
    · rw [if_neg (fun z => nd.1 (List.mem_map.mpr ⟨x, e, z.symm⟩)), ih nd.2 e]
theorem lk_none {f : Fnd σ P} {s : σ} (h : lk f s = none) : s ∉ f.map (·.1) := by
  induction f with
  | nil => simp
  | cons x f ih =>
    rw [lk_cons] at h
    by_cases e : x.1 = s
    · rw [if_pos e] at h; cases h
    · rw [if_neg e] at h
      rw [List.map_cons, List.mem_cons, not_or]
      exact ⟨fun z => e z.symm, ih h⟩
variable (next : σ → P → σ) (bad : σ → P → Bool)
/-- one state more, or none -/
def addX (s : σ) (pl : List P) (p : P) (f : Fnd σ P) : Fnd σ P := if (lk f (next s p)).isSome = true then f else f ++ [(next s p, pl ++ [p])]
/-- what a state leads to -/
def expX (s : σ) (pl : List P) : List P → Fnd σ P → Fnd σ P ⊕ List P
  | [], f => .inl f
  | p :: ps, f => if bad s p = true then .inr (pl ++ [p]) else expX s pl ps (addX next s pl p f)
variable (every : List P) (st : σ)
/-- the search's k first states -/
def bx : Nat → Fnd σ P ⊕ List P
  | 0 => .inl [(st, [])]
  | k + 1 => match bx k with
    | .inr r => .inr r
    | .inl f => match f[k]? with
      | none => .inl f
      | some x => expX next bad x.1 x.2 every f
def runP (s : σ) (q : List P) : σ := q.foldl next s
theorem runP_snoc (s : σ) (q : List P) (p : P) : runP next s (q ++ [p]) = next (runP next s q) p := by simp [runP]
/-- f, whose k first are gone through -/
structure BxI (k : Nat) (f : Fnd σ P) : Prop where
  nd : (f.map (·.1)).Nodup
  hd : f[0]? = some (st, [])
  run : ∀ x ∈ f, (∀ p ∈ x.2, p ∈ every) ∧ runP next st x.2 = x.1
  cl : ∀ i, i < k → ∀ x, f[i]? = some x → ∀ p ∈ every, bad x.1 p = false ∧ ∃ pl, lk f (next x.1 p) = some pl ∧ pl.length ≤ x.2.length + 1
  up : ∀ (i j : Nat) (x y : σ × List P), i ≤ j → f[i]? = some x → f[j]? = some y → x.2.length ≤ y.2.length
  lt : ∀ (x y : σ × List P), f[k]? = some x → y ∈ f → y.2.length ≤ x.2.length + 1
  sz : ∀ x ∈ f, x.2.length ≤ k
  le : k ≤ f.length
variable {next bad every st}
/-- within the turn of the state at k -/
structure BxT (next : σ → P → σ) (bad : σ → P → Bool) (every : List P) (st : σ) (k : Nat) (s : σ) (pl : List P) (done : List P) (f : Fnd σ P) : Prop where
  nd : (f.map (·.1)).Nodup
  hd : f[0]? = some (st, [])
  at' : f[k]? = some (s, pl)
  run : ∀ x ∈ f, (∀ p ∈ x.2, p ∈ every) ∧ runP next st x.2 = x.1
  cl : ∀ i, i < k → ∀ x, f[i]? = some x → ∀ p ∈ every, bad x.1 p = false ∧ ∃ pl, lk f (next x.1 p) = some pl ∧ pl.length ≤ x.2.length + 1
  cd : ∀ p ∈ done, bad s p = false ∧ ∃ pl', lk f (next s p) = some pl' ∧ pl'.length ≤ pl.length + 1
  up : ∀ (i j : Nat) (x y : σ × List P), i ≤ j → f[i]? = some x → f[j]? = some y → x.2.length ≤ y.2.length
  lt : ∀ y ∈ f, y.2.length ≤ pl.length + 1
  sz : ∀ x ∈ f, x.2.length ≤ k + 1
  pk : pl.length ≤ k
theorem lk_old {f g : Fnd σ P} {s : σ} {pl : List P} (h : lk f s = some pl) : lk (f ++ g) s = some pl := by rw [lk_app, h]
theorem BxT.add {k : Nat} {s : σ} {pl done : List P} {f : Fnd σ P} {p : P} (h : BxT next bad every st k s pl done f) (hp : p ∈ every) (hb : bad s p = false) : BxT next bad every st k s pl (p :: done) (addX next s pl p f) := by
  unfold addX
  have hmem : (s, pl) ∈ f := List.mem_of_getElem? h.at'
  split
  · rename_i hs
    refine { h with cd := fun q hq => ?_ }
    rcases List.mem_cons.mp hq with e | e
    · subst e
      obtain ⟨pl', e⟩ := Option.isSome_iff_exists.mp hs
      exact ⟨hb, pl', e, h.lt _ (lk_mem e)⟩
    · exact h.cd q e
  · rename_i hs
    have hn : lk f (next s p) = none := by simpa using hs
    have hk := (List.getElem?_eq_some_iff.mp h.at').1
    have old : ∀ {i : Nat} {x : σ × List P}, (f ++ [(next s p, pl ++ [p])])[i]? = some x → f[i]? = some x ∨ (i = f.length ∧ x = (next s p, pl ++ [p])) := fun {i x} e => by
      by_cases hi : i < f.length
      · rw [List.getElem?_append_left hi] at e; exact .inl e
      · rw [List.getElem?_append_right (by omega)] at e
        have : i - f.length = 0 := by
          have := (List.getElem?_eq_some_iff.mp e).1
          simp at this; omega
        rw [this] at e
        simp at e
        exact .inr ⟨by omega, e.symm⟩
    have memo : ∀ {x : σ × List P}, x ∈ f ++ [(next s p, pl ++ [p])] → x ∈ f ∨ x = (next s p, pl ++ [p]) := fun {x} hx => by simpa using hx
    refine ⟨?_, ?_, ?_, fun x hx => ?_, fun i hi x e q hq => ?_, fun q hq => ?_, fun i j x y hij e1 e2 => ?_, fun y hy => ?_, fun x hx => ?_, ?_⟩
    · rw [List.map_append, List.nodup_append]
      refine ⟨h.nd, by simp, ?_⟩
      intro a ha b hb e
      simp at hb
      subst hb e
      exact lk_none hn ha
    · rw [List.getElem?_append_left (by omega)]; exact h.hd
    · rw [List.getElem?_append_left hk]; exact h.at'
    · rcases memo hx with z | z
      · exact h.run x z
      · subst z
        obtain ⟨r1, r2⟩ := h.run _ hmem
        refine ⟨fun q hq => ?_, ?_⟩
        · simp at hq
          rcases hq with q1 | q1
          · exact r1 q q1
          · subst q1; exact hp
        · rw [runP_snoc, r2]
    · rcases old e with z | ⟨z, _⟩
      · obtain ⟨b1, pl', b2, b3⟩ := h.cl i hi x z q hq
        exact ⟨b1, pl', lk_old b2, b3⟩
      · omega
    · rcases List.mem_cons.mp hq with e | e
      · subst e
        refine ⟨hb, pl ++ [q], ?_, by simp⟩
        rw [lk_app, hn]
        simp [lk_cons]
      · obtain ⟨b1, pl', b2, b3⟩ := h.cd q e
        exact ⟨b1, pl', lk_old b2, b3⟩
    · rcases old e1 with z1 | ⟨z1, w1⟩
      · rcases old e2 with z2 | ⟨z2, w2⟩
        · exact h.up i j x y hij z1 z2
        · subst w2
          have := h.lt x (List.mem_of_getElem? z1)
          simp; omega
      · rcases old e2 with z2 | ⟨z2, w2⟩
        · have := (List.getElem?_eq_some_iff.mp z2).1
          omega
        · rw [w1, w2]; exact Nat.le_refl _
    · rcases memo hy with z | z
      · exact h.lt y z
      · subst z; simp
    · rcases memo hx with z | z
      · exact h.sz x z
      · subst z
        have := h.pk
        simp; omega
    · exact h.pk
theorem BxT.all {k : Nat} {s : σ} {pl : List P} : ∀ {ps done : List P} {f f' : Fnd σ P}, BxT next bad every st k s pl done f → (∀ p ∈ ps, p ∈ every) → expX next bad s pl ps f = .inl f' → ∃ done', BxT next bad every st k s pl done' f' ∧ (∀ p ∈ done, p ∈ done') ∧ ∀ p ∈ ps, p ∈ done'
  | [], done, f, f', h, _, e => by
    simp only [expX, Sum.inl.injEq] at e
    subst e
    exact ⟨done, h, fun _ h => h, fun _ h => nomatch h⟩
  | p :: ps, done, f, f', h, hp, e => by
    simp only [expX] at e
    split at e
    · cases e
    · rename_i hb
      obtain ⟨d, h1, h2, h3⟩ := BxT.all (h.add (hp p (by simp)) (by simpa using hb)) (fun q hq => hp q (by simp [hq])) e
      refine ⟨d, h1, fun q hq => h2 q (by simp [hq]), fun q hq => ?_⟩
      rcases List.mem_cons.mp hq with z | z
      · subst z; exact h2 _ (by simp)
      · exact h3 q z
theorem BxI.turn {k : Nat} {f : Fnd σ P} {x : σ × List P} (h : BxI next bad every st k f) (e : f[k]? = some x) : BxT next bad every st k x.1 x.2 [] f where
  nd := h.nd
  hd := h.hd
  at' := e
  run := h.run
  cl := h.cl
  cd := fun _ h => nomatch h
  up := h.up
  lt := fun y hy => h.lt x y e hy
  sz := fun y hy => Nat.le_succ_of_le (h.sz y hy)
  pk := h.sz x (List.mem_of_getElem? e)
theorem BxT.done {k : Nat} {s : σ} {pl done : List P} {f : Fnd σ P} (h : BxT next bad every st k s pl done f) (hd : ∀ p ∈ every, p ∈ done) : BxI next bad every st (k + 1) f where
  nd := h.nd
  hd := h.hd
  run := h.run
  cl := fun i hi x e p hp => by
    by_cases z : i = k
    · subst z
      rw [h.at'] at e; cases e
      exact h.cd p (hd p hp)
    · exact h.cl i (by omega) x e p hp
  up := h.up
  lt := fun x y e hy => by
    have h1 := h.up k (k + 1) (s, pl) x (by omega) h.at' e
    have h2 := h.lt y hy
    simp only at h1; omega
  sz := h.sz
  le := (List.getElem?_eq_some_iff.mp h.at').1
theorem BxI.zero : BxI next bad every st 0 [(st, [])] where
  nd := by simp
  hd := rfl
  run := fun x hx => by
    simp at hx; subst hx
    refine ⟨fun p h => ?_, rfl⟩
    cases h
  cl := fun i hi => absurd hi (Nat.not_lt_zero _)
  up := fun i j x y _ e1 e2 => by
    have a := List.mem_of_getElem? e1
    have b := List.mem_of_getElem? e2
    simp at a b
    subst a b; exact Nat.le_refl _
  lt := fun x y e1 e2 => by
    have a := List.mem_of_getElem? e1
    simp at a e2
    subst a e2; simp
  sz := fun x hx => by simp at hx; subst hx; simp
  le := Nat.zero_le _
/-- where the search stands before its k-th state -/
theorem bx_inv : ∀ {k : Nat} {f : Fnd σ P}, bx next bad every st k = .inl f → ∃ j, j ≤ k ∧ BxI next bad every st j f ∧ (j = k ∨ f.length = j)
  | 0, f, e => by
    simp only [bx, Sum.inl.injEq] at e
    subst e
    exact ⟨0, Nat.le_refl _, BxI.zero, .inl rfl⟩
  | k + 1, f, e => by
    simp only [bx] at e
    split at e
    · cases e
    · rename_i f0 e0
      obtain ⟨j, hj, hi, hk⟩ := bx_inv e0
      split at e
      · rename_i en
        simp only [Sum.inl.injEq] at e
        subst e
        refine ⟨j, by omega, hi, ?_⟩
        rcases hk with z | z
        · subst z
          have := List.getElem?_eq_none_iff.mp en
          have := hi.le
          exact .inr (by omega)
        · exact .inr z
      · rename_i x ex
        have hjk : j = k := by
          rcases hk with z | z
          · exact z
          · have := (List.getElem?_eq_some_iff.mp ex).1
            omega
        subst hjk
        obtain ⟨d, h1, _, h3⟩ := BxT.all (hi.turn ex) (fun p hp => hp) e
        exact ⟨j + 1, Nat.le_refl _, h1.done h3, .inl rfl⟩
end
end Lf
set_option Elab.async false
set_option linter.all false
set_option maxRecDepth 100000
namespace Lf
open PySem PySem.Spec PyProof.Rows L2

section
variable {σ P : Type} [DecidableEq σ] {next : σ → P → σ} {bad : σ → P → Bool} {every : List P} {st : σ}
theorem nodup_le {α : Type} [DecidableEq α] : ∀ {l U : List α}, l.Nodup → (∀ x ∈ l, x ∈ U) → l.length ≤ U.length
  | [], _, _, _ => Nat.zero_le _
  | x :: l, U, nd, h => by
    rw [List.nodup_cons] at nd
    have hx := h x (by simp)
    have := nodup_le (l := l) (U := U.erase x) nd.2 fun y hy => (List.mem_erase_of_ne (fun e => nd.1 (by rw [← e]; exact hy))).mpr (h y (by simp [hy]))
    rw [List.length_erase_of_mem hx] at this
    have : 0 < U.length := List.length_pos_of_mem hx
    simp only [List.length_cons]; omega
/-- all states that come lie in U -/
structure Closed (next : σ → P → σ) (every : List P) (st : σ) (C : σ → Prop) (U : List σ) : Prop where
  st : C st
  nx : ∀ s p, C s → p ∈ every → C (next s p)
  un : ∀ s, C s → s ∈ U
theorem Closed.run {C : σ → Prop} {U : List σ} (h : Closed next every st C U) : ∀ {q : List P} {s : σ}, C s → (∀ p ∈ q, p ∈ every) → C (runP next s q)
  | [], _, hs, _ => hs
  | p :: q, s, hs, hq => Closed.run h (q := q) (h.nx s p hs (hq p (by simp))) fun r hr => hq r (by simp [hr])
theorem BxI.in {C : σ → Prop} {U : List σ} (hc : Closed next every st C U) {k : Nat} {f : Fnd σ P} (h : BxI next bad every st k f) : ∀ x ∈ f, C x.1 := fun x hx => by
  obtain ⟨r1, r2⟩ := h.run x hx
  rw [← r2]
  exact hc.run hc.st r1
theorem BxI.len {C : σ → Prop} {U : List σ} (hc : Closed next every st C U) {k : Nat} {f : Fnd σ P} (h : BxI next bad every st k f) : f.length ≤ U.length := by
  have := nodup_le (l := f.map (·.1)) (U := U) h.nd fun s hs => by
    obtain ⟨x, hx, rfl⟩ := List.mem_map.mp hs
    exact hc.un _ (h.in hc x hx)
  simpa using this
theorem bx_stop {k : Nat} {f : Fnd σ P} (h : bx next bad every st k = .inl f) (e : f[k]? = none) : ∀ j, k ≤ j → bx next bad every st j = .inl f := fun j hj => by
  induction j with
  | zero => rw [← h]; congr 1; omega
  | succ j ih =>
    by_cases z : k = j + 1
    · subst z; exact h
    · have i := ih (by omega)
      simp only [bx, i]
      rw [List.getElem?_eq_none (Nat.le_trans (List.getElem?_eq_none_iff.mp e) (by omega))]
theorem bx_out {k : Nat} {r : List P} (h : bx next bad every st k = .inr r) : ∀ j, k ≤ j → bx next bad every st j = .inr r := fun j hj => by
  induction j with
  | zero => rw [← h]; congr 1; omega
  | succ j ih =>
    by_cases z : k = j + 1
    · subst z; exact h
    · simp only [bx, ih (by omega)]
theorem bx_fin {C : σ → Prop} {U : List σ} (hc : Closed next every st C U) {N : Nat} (hN : U.length ≤ N) {f : Fnd σ P} (h : bx next bad every st N = .inl f) : BxI next bad every st f.length f := by
  obtain ⟨j, hj, hi, hk⟩ := bx_inv h
  rcases hk with z | z
  · subst z
    have l1 := hi.len hc
    have l2 := hi.le
    have : f.length = j := by omega
    rw [this]; exact hi
  · rw [z]; exact hi
/-- gone through, no plan is bad, and each state has been found by a plan that is as short -/
theorem BxI.short {k : Nat} {f : Fnd σ P} (h : BxI next bad every st k f) {m : Nat} (hm : ∀ (i : Nat) (x : σ × List P), f[i]? = some x → x.2.length < m → i < k) : ∀ (n : Nat) (q : List P), q.length = n → n ≤ m → (∀ p ∈ q, p ∈ every) → ∃ pl, lk f (runP next st q) = some pl ∧ pl.length ≤ q.length
  | 0, q, hq, _, _ => by
    have : q = [] := List.length_eq_zero_iff.mp hq
    subst this
    exact ⟨[], lk_of_mem (x := (st, [])) h.nd (List.mem_of_getElem? h.hd), Nat.le_refl _⟩
  | n + 1, q, hq, hn, he => by
    have hne : q ≠ [] := fun z => by rw [z] at hq; cases hq
    obtain ⟨q', p, rfl⟩ : ∃ q' p, q = q' ++ [p] := ⟨q.dropLast, q.getLast hne, (List.dropLast_concat_getLast hne).symm⟩
    have hl : q'.length = n := by simpa using hq
    obtain ⟨pl, e1, e2⟩ := h.short hm n q' hl (by omega) fun r hr => he r (by simp [hr])
    have hmem := lk_mem e1
    obtain ⟨i, hi⟩ := List.mem_iff_getElem?.mp hmem
    obtain ⟨_, pl', c1, c2⟩ := h.cl i (hm i _ hi (by simp only; omega)) _ hi p (he p (by simp))
    rw [runP_snoc]
    exact ⟨pl', c1, by simp at c2 ⊢; omega⟩
theorem BxI.good {k : Nat} {f : Fnd σ P} (h : BxI next bad every st k f) {m : Nat} (hm : ∀ (i : Nat) (x : σ × List P), f[i]? = some x → x.2.length < m → i < k) {q : List P} {p : P} (hq : q.length < m) (he : ∀ p ∈ q, p ∈ every) (hp : p ∈ every) : bad (runP next st q) p = false := by
  obtain ⟨pl, e1, e2⟩ := h.short hm q.length q rfl (by omega) he
  obtain ⟨i, hi⟩ := List.mem_iff_getElem?.mp (lk_mem e1)
  exact (h.cl i (hm i _ hi (by simp only; omega)) _ hi p hp).1
theorem bx_all {C : σ → Prop} {U : List σ} (hc : Closed next every st C U) {N : Nat} (hN : U.length ≤ N) {f : Fnd σ P} (h : bx next bad every st N = .inl f) {q : List P} (he : ∀ p ∈ q, p ∈ every) :
    (∃ pl, lk f (runP next st q) = some pl ∧ pl.length ≤ q.length) ∧ ∀ p ∈ every, bad (runP next st q) p = false := by
  have hi := bx_fin hc hN h
  have hm : ∀ (i : Nat) (x : σ × List P), f[i]? = some x → x.2.length < q.length + 1 → i < f.length := fun i x e _ => (List.getElem?_eq_some_iff.mp e).1
  exact ⟨hi.short hm q.length q rfl (by omega) he, fun p hp => hi.good hm (Nat.lt_succ_self _) he hp⟩
theorem expX_out {s : σ} {pl : List P} {r : List P} : ∀ {ps : List P} {f : Fnd σ P}, expX next bad s pl ps f = .inr r → ∃ p ∈ ps, bad s p = true ∧ r = pl ++ [p]
  | [], f, e => by cases e
  | p :: ps, f, e => by
    simp only [expX] at e
    split at e
    · rename_i hb
      cases e
      exact ⟨p, by simp, hb, rfl⟩
    · obtain ⟨q, h1, h2⟩ := expX_out e
      exact ⟨q, by simp [h1], h2⟩
theorem bx_bad : ∀ {k : Nat} {r : List P}, bx next bad every st k = .inr r → ∃ pl p, r = pl ++ [p] ∧ (∀ q ∈ pl, q ∈ every) ∧ p ∈ every ∧ bad (runP next st pl) p = true ∧ ∀ q p', q.length < pl.length → (∀ p ∈ q, p ∈ every) → p' ∈ every → bad (runP next st q) p' = false
  | 0, r, e => by cases e
  | k + 1, r, e => by
    simp only [bx] at e
    split at e
    · rename_i e0
      cases e
      exact bx_bad e0
    · rename_i f e0
      split at e
      · cases e
      · rename_i x ex
        obtain ⟨j, hj, hi, hk⟩ := bx_inv e0
        have hjk : j = k := by
          rcases hk with z | z
          · exact z
          · have := (List.getElem?_eq_some_iff.mp ex).1
            omega
        subst hjk
        obtain ⟨p, h1, h2, h3⟩ := expX_out e
        obtain ⟨r1, r2⟩ := hi.run x (List.mem_of_getElem? ex)
        refine ⟨x.2, p, h3, r1, h1, by rw [r2]; exact h2, fun q p' hq he hp' => ?_⟩
        refine hi.good (m := x.2.length) (fun i y ey hy => ?_) hq he hp'
        rcases Nat.lt_or_ge i j with z | z
        · exact z
        · have := hi.up j i x y z ex ey
          omega
end
/-! ### dicts of states -/
section
variable {σ P : Type} [DecidableEq σ]
structure Enc (enc : σ → D) : Prop where
  key : ∀ s, keyD (enc s) = true
  inj : ∀ a b, nk (enc a) = nk (enc b) → a = b
variable {enc : σ → D} {val : List P → D}
def ksD (enc : σ → D) (f : Fnd σ P) : List D := f.map fun x => enc x.1
def vsD (val : List P → D) (f : Fnd σ P) : List D := f.map fun x => val x.2
theorem Enc.iff (E : Enc enc) (a b : σ) : nk (enc a) = nk (enc b) ↔ a = b := ⟨E.inj a b, fun e => by rw [e]⟩
theorem find_enc (E : Enc enc) (s : σ) : ∀ f : Fnd σ P, findK (ksD enc f) (vsD val f) (enc s) = (lk f s).map val
  | [] => rfl
  | x :: f => by
    have ih := find_enc E s f
    simp only [ksD, vsD] at ih
    simp only [ksD, vsD, List.map_cons, findK, lk_cons, E.iff]
    by_cases h : x.1 = s
    · simp [h]
    · simp only [if_neg h, ih]
theorem putK_enc (E : Enc enc) (s : σ) (pl : List P) : ∀ f : Fnd σ P, lk f s = none → putK (ksD enc f) (enc s) = ksD enc (f ++ [(s, pl)])
  | [], _ => rfl
  | x :: f, h => by
    rw [lk_cons] at h
    by_cases e : x.1 = s
    · rw [if_pos e] at h; cases h
    · rw [if_neg e] at h
      have ih := putK_enc E s pl f h
      simp only [ksD] at ih
      simp only [ksD, List.map_cons, List.cons_append, putK, E.iff, if_neg e, ih]
theorem putV_enc (E : Enc enc) (s : σ) (pl : List P) : ∀ f : Fnd σ P, lk f s = none → putV (ksD enc f) (vsD val f) (enc s) (val pl) = vsD val (f ++ [(s, pl)])
  | [], _ => rfl
  | x :: f, h => by
    rw [lk_cons] at h
    by_cases e : x.1 = s
    · rw [if_pos e] at h; cases h
    · rw [if_neg e] at h
      have ih := putV_enc E s pl f h
      simp only [ksD, vsD] at ih
      simp only [ksD, vsD, List.map_cons, List.cons_append, putV, E.iff, if_neg e, ih]
theorem dOk_enc (E : Enc enc) (f : Fnd σ P) (s : σ) : dOk (ksD enc f) (enc s) = true := by
  have : (ksD enc f).all keyD = true := by
    rw [List.all_eq_true]
    intro d hd
    obtain ⟨x, _, rfl⟩ := List.mem_map.mp hd
    exact E.key _
  simp [dOk, this, E.key]
end
theorem nks_ints : ∀ xs : List Int, nks (xs.map D.int) = xs.map NestedKey.num
  | [] => rfl
  | x :: xs => by simp [nks, nk, nks_ints xs]
theorem kds_ints (n : Nat) : ∀ xs : List Int, kds n (xs.map D.int) = true
  | [] => by simp [kds]
  | x :: xs => by simp [kds, kd, kds_ints n xs]
theorem num_inj {xs ys : List Int} (h : xs.map NestedKey.num = ys.map NestedKey.num) : xs = ys := (List.map_inj_right fun a b e => by simpa using e).mp h
theorem b2_inj {a b : Bool} (h : (if a = true then (1 : Int) else 0) = if b = true then 1 else 0) : a = b := by cases a <;> cases b <;> simp at h <;> rfl
theorem enc_st : Enc St4.d where
  key := fun s => by simp [keyD, St4.d, kd, kds, intsD, kds_ints]
  inj := fun a b e => by
    simp only [St4.d, nk, nks, intsD, nks_ints] at e
    simp at e
    obtain ⟨a1, a2, a3, a4⟩ := a
    obtain ⟨b1, b2, b3, b4⟩ := b
    obtain ⟨e1, e2, e3, e4⟩ := e
    simp only at e1 e2 e3 e4
    rw [e1, b2_inj e2, b2_inj e3, num_inj e4]
/-! ### all states of up to four floors -/
def subsI : List Int → List (List Int)
  | [] => [[]]
  | x :: xs => subsI xs ++ (subsI xs).map (x :: ·)
theorem filter_subs (p : Int → Bool) : ∀ xs : List Int, xs.filter p ∈ subsI xs
  | [] => by simp [subsI]
  | x :: xs => by
    simp only [subsI, List.mem_append, List.mem_map]
    by_cases h : p x = true
    · exact .inr ⟨_, filter_subs p xs, by rw [List.filter_cons_of_pos h]⟩
    · exact .inl (by rw [List.filter_cons_of_neg h]; exact filter_subs p xs)
def allSt : List St4 := ([1, 2, 3, 4] : List Int).flatMap fun f => [true, false].flatMap fun u => [true, false].flatMap fun o => (subsI [1, 2, 3, 4]).map fun l => ⟨f, u, o, l⟩
theorem allSt_len : allSt.length = 256 := by decide +kernel
theorem lit_subs {n : Int} (hn : n ≤ 4) {l : List Int} (h : PrOk n l) : l ∈ subsI [1, 2, 3, 4] := by
  have e : l = ([1, 2, 3, 4] : List Int).filter fun x => decide (x ∈ l) := by
    refine rising_unique h.2 (List.Pairwise.filter _ (by decide)) fun k => ?_
    simp only [List.mem_filter, decide_eq_true_eq]
    refine ⟨fun hk => ⟨?_, hk⟩, fun hk => hk.2⟩
    have := h.1 k hk
    have : k = 1 ∨ k = 2 ∨ k = 3 ∨ k = 4 := by omega
    simpa using this
  rw [e]
  exact filter_subs _ _
theorem in_allSt {n : Int} (hn : n ≤ 4) {s : St4} (h : StOk n s) : s ∈ allSt := by
  obtain ⟨f, u, o, l⟩ := s
  obtain ⟨h1, h2, h3⟩ := h
  simp only at h1 h2 h3
  have hf : f = 1 ∨ f = 2 ∨ f = 3 ∨ f = 4 := by omega
  have hl := lit_subs hn h3
  simp only [allSt, List.mem_flatMap, List.mem_map]
  refine ⟨f, by simpa using hf, u, by cases u <;> simp, o, by cases o <;> simp, l, hl, rfl⟩
end Lf
set_option Elab.async false
set_option linter.all false
set_option maxRecDepth 100000
namespace Lf
open PySem PySem.Spec PyProof.Rows L2

/-- slots: 0 floors, 1 found, 2 floor, 3 rest -/
def b_pressings : List Sx := [
  .set (.nm 1) (.lst false [.tup []]),
  .forr (.nm 2) (.rngd (.var 0) (.int 0) (.neg (.int 1))) [
    .set (.nm 1) (.bin .add (.bin .add (.lst false [.tup []]) (.lc false (.bin .add (.tup [.var 2]) (.var 3)) (.nm 3) (.var 1) .no [("rest", 3)])) (.sl (.var 1) (.int 1) .no))],
  .ret (.var 1)]

/-- slots: 0 controller, 1 floors, 2 found, 3 waiting, 4 every, 5 at, 6 state, 7 pressed, 8 behind -/
def b_ways_by (s_pressings s_tick_of : Spec) : List Sx := [
  .set (.nm 2) (.dct1 (.gl "START" g_START) (.tup [])),
  .set (.nm 3) (.lst true [.gl "START" g_START]),
  .set (.nm 4) (.call "pressings" s_pressings [.var 1]),
  .set (.nm 5) (.int 0),
  .whl (.cmp .lt (.var 5) (.bi .len [.var 3])) [
    .set (.nm 6) (.ix (.var 3) (.var 5)),
    .set (.nm 5) (.bin .add (.var 5) (.int 1)),
    .forr (.nm 7) (.var 4) [
      .set (.nm 8) (.call "tick_of" s_tick_of [.var 0, .var 1, .var 6, .var 7]),
      .ite (.cmp .nin (.var 8) (.var 2)) [
        .setL (.var 2) (.var 8) (.bin .add (.ix (.var 2) (.var 6)) (.tup [.var 7])),
        .exp (.app (.var 3) (.var 8))] []]],
  .ret (.var 2)]

/-- slots: 0 controller, 1 floors -/
def b_reachable (s_look_at s_ways_by : Spec) : List Sx := [
  .exp (.call "look_at" s_look_at [.var 0, .var 1]),
  .ret (.bi .srtD [.bi (.lst false) [.call "ways_by" s_ways_by [.var 0, .var 1]]])]

/-- slots: 0 controller, 1 floors, 2 state -/
def b_way_to (s_look_at s_look_at_state s_ways_by : Spec) : List Sx := [
  .exp (.call "look_at" s_look_at [.var 0, .var 1]),
  .exp (.call "look_at_state" s_look_at_state [.var 1, .var 2]),
  .ret (.get1 (.call "ways_by" s_ways_by [.var 0, .var 1]) (.var 2))]

/-- slots: 0 floors, 1 found, 2 floor, 3 pressed -/
def b__law_pressings : List Sx := [
  .set (.nm 1) (.lst false [.tup []]),
  .forr (.nm 2) (.rng2 (.int 1) (.bin .add (.var 0) (.int 1))) [
    .set (.nm 1) (.bin .add (.var 1) (.lc false (.bin .add (.var 3) (.tup [.var 2])) (.nm 3) (.var 1) .no [("pressed", 3)]))],
  .ret (.bi .srtD [.var 1])]

/-- slots: 0 controller, 1 floors, 2 first, 3 found, 4 row, 5 at, 6 every, 7 state, 8 pressed, 9 behind -/
def b__law_reach (s_law_pressings s_law_tick : Spec) : List Sx := [
  .set (.nm 2) (.tup [.int 1, .bl true, .bl false, .tup []]),
  .set (.tp [.nm 3, .nm 4, .nm 5, .nm 6]) (.tup [.dct1 (.var 2) (.tup []), .lst true [.var 2], .int 0, .call "_law_pressings" s_law_pressings [.var 1]]),
  .whl (.cmp .lt (.var 5) (.bi .len [.var 4])) [
    .set (.nm 7) (.ix (.var 4) (.var 5)),
    .set (.nm 5) (.bin .add (.var 5) (.int 1)),
    .forr (.nm 8) (.var 6) [
      .set (.nm 9) (.call "_law_tick" s_law_tick [.var 0, .var 1, .var 7, .var 8]),
      .ite (.cmp .nin (.var 9) (.var 3)) [
        .setL (.var 3) (.var 9) (.bin .add (.ix (.var 3) (.var 7)) (.tup [.var 8])),
        .exp (.app (.var 4) (.var 9))] []]],
  .ret (.var 3)]

end Lf
set_option Elab.async false
set_option linter.all false
set_option maxRecDepth 100000
namespace Lf
open PySem PySem.Spec PyProof.Rows L2

/-! ### all that can be pressed -/
def prsStep (fl : Int) (ps : List (List Int)) : List (List Int) := [] :: (ps.map (fl :: ·) ++ ps.drop 1)
/-- all ascending rows of 1 .. n, ascending -/
def prs (n : Int) : List (List Int) := match n with
  | 2 => [[], [1], [1, 2], [2]]
  | 3 => [[], [1], [1, 2], [1, 2, 3], [1, 3], [2], [2, 3], [3]]
  | _ => [[], [1], [1, 2], [1, 2, 3], [1, 2, 3, 4], [1, 2, 4], [1, 3], [1, 3, 4], [1, 4], [2], [2, 3], [2, 3, 4], [2, 4], [3], [3, 4], [4]]
theorem prs_ok {n : Int} (h1 : 2 ≤ n) (h2 : n ≤ 4) : ∀ p ∈ prs n, PrOk n p := by
  have hn : n = 2 ∨ n = 3 ∨ n = 4 := by omega
  have : ∀ p ∈ prs n, (∀ x ∈ p, 1 ≤ x ∧ x ≤ n) ∧ p.Pairwise (· < ·) := by
    rcases hn with e | e | e <;> subst e <;> decide +kernel
  exact this
def spPrs : Spec := fun ds S Q => ∃ n, ds = [.int n] ∧ 2 ≤ n ∧ n ≤ 4 ∧ Q (.lst ((prs n).map intsD)) S
theorem cut_1 (ds : List D) : cutD ds (some 1) none = ds.drop 1 := cutA_from (xs := ds) (k := 1)
def prB : List Sx := [.set (.nm 1) (.bin .add (.bin .add (.lst false [.tup []]) (.lc false (.bin .add (.tup [.var 2]) (.var 3)) (.nm 3) (.var 1) .no [("rest", 3)])) (.sl (.var 1) (.int 1) .no))]
theorem pr_turn {S : Store} {En : DEnds} (n m : Int) (ps : List (List Int)) (a3 : Option D) (hl : ps.length ≤ 1000) (hp : ∀ p ∈ ps, p.length ≤ 1000) (q : En.nx [some (.int n), some (.lst ((prsStep m ps).map intsD)), some (.int m), a3] S) :
    semSs prB En [some (.int n), some (.lst (ps.map intsD)), some (.int m), a3] S := by
  have z1 : sizeLine = 16777216 := sizeLine_eq
  simp [prB, o_lc]
  refine ⟨by omega, ?_⟩
  intro pa hpa
  refine lc_read (α := List Int) intsD (fun _ => true) (fun p => intsD (m :: p)) (fun _ => True) hpa rfl (fun _ => trivial) (fun _ => trivial) (fun p hp' => ⟨_, rfl, readsB_yes, fun _ S Q _ k => ?_⟩) (by omega) ?_
  · have := hp p hp'
    simp [wipeD, intsD]
    exact ⟨by omega, by omega, k⟩
  · have ef : ps.filter (fun _ => true) = ps := List.filter_eq_self.mpr fun _ _ => rfl
    have e2 : D.tup [] :: ((ps.map fun p => intsD (m :: p)) ++ (ps.map intsD).tail) = (prsStep m ps).map intsD := by
      simp [prsStep, intsD, List.map_tail]
    simp [cut_1, ef]
    refine ⟨by omega, by omega, ?_⟩
    rw [e2]
    exact q
theorem law_pressings : ∀ ds S Q, spPrs ds S Q → semSs b_pressings (endsOf Q) (startD 4 ds) S := by
  rintro ds S Q ⟨n, rfl, h1, h2, h⟩
  have z1 : sizeLine = 16777216 := sizeLine_eq
  unfold b_pressings startD
  rw [p_cons]
  simp [-p_cons]
  refine ⟨by omega, ?_⟩
  rw [p_cons, p_for]
  simp [-p_cons, sNeg]
  refine ⟨⟨by omega, by omega⟩, ?_⟩
  have fin : ∀ (ps : List (List Int)) (a2 a3 : Option D), ps = prs n → semSs [.ret (.var 1)] (endsOf Q) [some (.int n), some (.lst (ps.map intsD)), a2, a3] S := fun ps a2 a3 e => by
    subst e
    simp
    exact Ret.same h
  have one : ∀ (En : DEnds) (n m : Int) (ps : List (List Int)) (a3 : Option D), ps.length ≤ 1000 → (∀ p ∈ ps, p.length ≤ 1000) → En.nx [some (.int n), some (.lst ((prsStep m ps).map intsD)), some (.int m), a3] S → semSs prB En [some (.int n), some (.lst (ps.map intsD)), some (.int m), a3] S := fun En n m ps a3 h1 h2 q => pr_turn n m ps a3 h1 h2 q
  have e0 : D.tup [] = intsD [] := rfl
  show forS (fun _ => True) (.nm 2) (semSs prB) _ _ _ _
  have hn : n = 2 ∨ n = 3 ∨ n = 4 := by omega
  rcases hn with e | e | e <;> subst e
  · refine ⟨trivial, one _ 2 2 [[]] _ (by decide) (by decide) ⟨trivial, one _ 2 1 (prsStep 2 [[]]) _ (by decide) (by decide) ⟨trivial, fin _ _ _ (by decide)⟩⟩⟩
  · refine ⟨trivial, one _ 3 3 [[]] _ (by decide) (by decide) ⟨trivial, one _ 3 2 (prsStep 3 [[]]) _ (by decide) (by decide) ⟨trivial, one _ 3 1 (prsStep 2 (prsStep 3 [[]])) _ (by decide) (by decide) ⟨trivial, fin _ _ _ (by decide)⟩⟩⟩⟩
  · refine ⟨trivial, one _ 4 4 [[]] _ (by decide) (by decide) ⟨trivial, one _ 4 3 (prsStep 4 [[]]) _ (by decide) (by decide) ⟨trivial, one _ 4 2 (prsStep 3 (prsStep 4 [[]])) _ (by decide) (by decide) ⟨trivial, one _ 4 1 (prsStep 2 (prsStep 3 (prsStep 4 [[]]))) _ (by decide) (by decide) ⟨trivial, fin _ _ _ (by decide)⟩⟩⟩⟩⟩
def lpsStep (fl : Int) (ps : List (List Int)) : List (List Int) := ps ++ ps.map (· ++ [fl])
theorem toPys_ints : ∀ xs : List Int, toPys (xs.map D.int) = xs.map PyData.int
  | [] => rfl
  | x :: xs => by simp [toPys, toPy, toPys_ints xs]
theorem toPy_ints (xs : List Int) : toPy (intsD xs) = .tuple (xs.map PyData.int) := by simp [intsD, toPy, toPys_ints]
theorem leD_ints (a b : List Int) : leD (intsD a) (intsD b) = !decide (b < a) := by
  unfold leD
  rw [toPy_ints, toPy_ints, PySem.W.dataLt_tuple]
  congr 1
  exact PySem.W.dataLt_ints b a
theorem sortD_ints (ps : List (List Int)) : sortD (ps.map intsD) = (ps.mergeSort fun a b => !decide (b < a)).map intsD := by
  unfold sortD
  exact (List.map_mergeSort (r := fun a b => !decide (b < a)) (s := leD) (f := intsD) fun a _ b _ => (leD_ints a b).symm).symm
theorem okDs_ints (n : Nat) : ∀ xs : List Int, okDs n (xs.map D.int) = true
  | [] => rfl
  | x :: xs => by simp [okDs, okD, okDs_ints n xs]
theorem sortOk_ints (r : List (List Int)) (h : r.length < 1000) : SortOk ((([] : List Int) :: r).map intsD) := by
  refine ⟨fun d hd => ?_, fun d hd e he => ?_, ?_, .inl ⟨r.map intsD, rfl, fun d hd => ?_⟩⟩
  · obtain ⟨p, _, rfl⟩ := List.mem_map.mp hd
    simp [intsD, okD, okDs_ints]
  · obtain ⟨p, _, rfl⟩ := List.mem_map.mp hd
    obtain ⟨q, _, rfl⟩ := List.mem_map.mp he
    rw [toPy_ints, toPy_ints]
    simp only [PySem.W.alike]
    exact PySem.W.alike_ints _ _
  · rw [sizeLine_eq]; simp; omega
  · obtain ⟨p, _, rfl⟩ := List.mem_map.mp hd
    exact ⟨_, rfl⟩
theorem sort_prs {ps qs : List (List Int)} (hp : ps.Perm qs) (hs : qs.Pairwise fun a b => (!decide (b < a)) = true) : ps.mergeSort (fun a b => !decide (b < a)) = qs := by
  have tr : ∀ a b c : List Int, (!decide (b < a)) = true → (!decide (c < b)) = true → (!decide (c < a)) = true := fun a b c h1 h2 => by
    simp only [Bool.not_eq_true', decide_eq_false_iff_not] at h1 h2 ⊢
    exact fun h => List.not_lt.mpr (List.le_trans (List.not_lt.mp h1) (List.not_lt.mp h2)) h
  have tt : ∀ a b : List Int, (!decide (b < a) || !decide (a < b)) = true := fun a b => by
    simp only [Bool.or_eq_true, Bool.not_eq_true', decide_eq_false_iff_not]
    rcases List.le_total a b with h | h
    · exact .inl (List.not_lt.mpr h)
    · exact .inr (List.not_lt.mpr h)
  have s1 := List.pairwise_mergeSort (le := fun a b : List Int => !decide (b < a)) tr tt ps
  refine List.Perm.eq_of_pairwise (le := fun a b => (!decide (b < a)) = true) (fun a b _ _ h1 h2 => ?_) s1 hs ((List.mergeSort_perm _ _).trans hp)
  simp only [Bool.not_eq_true', decide_eq_false_iff_not] at h1 h2
  exact List.le_antisymm (List.not_lt.mp h1) (List.not_lt.mp h2)
def lpB : List Sx := [.set (.nm 1) (.bin .add (.var 1) (.lc false (.bin .add (.var 3) (.tup [.var 2])) (.nm 3) (.var 1) .no [("pressed", 3)]))]
theorem lp_turn {S : Store} {En : DEnds} (n m : Int) (ps : List (List Int)) (a3 : Option D) (hl : ps.length ≤ 1000) (hp : ∀ p ∈ ps, p.length ≤ 1000) (q : En.nx [some (.int n), some (.lst ((lpsStep m ps).map intsD)), some (.int m), a3] S) :
    semSs lpB En [some (.int n), some (.lst (ps.map intsD)), some (.int m), a3] S := by
  have z1 : sizeLine = 16777216 := sizeLine_eq
  simp [lpB, o_lc]
  intro pa hpa
  refine lc_read (α := List Int) intsD (fun _ => true) (fun p => intsD (p ++ [m])) (fun _ => True) hpa rfl (fun _ => trivial) (fun _ => trivial) (fun p hp' => ⟨_, rfl, readsB_yes, fun _ S Q _ k => ?_⟩) (by omega) ?_
  · have := hp p hp'
    simp [wipeD, intsD]
    exact ⟨by omega, by omega, by simpa [intsD] using k⟩
  · have ef : ps.filter (fun _ => true) = ps := List.filter_eq_self.mpr fun _ _ => rfl
    have e2 : ps.map intsD ++ (ps.map fun p => intsD (p ++ [m])) = (lpsStep m ps).map intsD := by
      simp [lpsStep]
    simp [ef]
    refine ⟨by omega, ?_⟩
    rw [e2]
    exact q
theorem law_lpressings : ∀ ds S Q, spPrs ds S Q → semSs b__law_pressings (endsOf Q) (startD 4 ds) S := by
  rintro ds S Q ⟨n, rfl, h1, h2, h⟩
  have z1 : sizeLine = 16777216 := sizeLine_eq
  unfold b__law_pressings startD
  rw [p_cons]
  simp [-p_cons]
  refine ⟨by omega, ?_⟩
  rw [p_cons, p_for]
  simp [-p_cons]
  refine ⟨⟨by omega, by omega⟩, ?_⟩
  have fin : ∀ (r : List (List Int)) (a2 a3 : Option D), r.length < 1000 → ([] :: r).Perm (prs n) → (prs n).Pairwise (fun a b => (!decide (b < a)) = true) → semSs [.ret (.bi .srtD [.var 1])] (endsOf Q) [some (.int n), some (.lst ((([] : List Int) :: r).map intsD)), a2, a3] S := fun r a2 a3 hl hp hs => by
    rw [p_cons]
    simp only [p_ret, o_bi, o_cons, o_var, o_nil]
    refine ⟨_, rfl, ?_⟩
    rw [n_srtD (ds := (([] : List Int) :: r).map intsD) rfl]
    refine ⟨sortOk_ints r hl, ?_⟩
    rw [sortD_ints, sort_prs hp hs]
    exact Ret.same h
  have one : ∀ (En : DEnds) (n m : Int) (ps : List (List Int)) (a3 : Option D), ps.length ≤ 1000 → (∀ p ∈ ps, p.length ≤ 1000) → En.nx [some (.int n), some (.lst ((lpsStep m ps).map intsD)), some (.int m), a3] S → semSs lpB En [some (.int n), some (.lst (ps.map intsD)), some (.int m), a3] S := fun En n m ps a3 h1 h2 q => lp_turn n m ps a3 h1 h2 q
  show forS (fun _ => True) (.nm 2) (semSs lpB) _ _ _ _
  have hn : n = 2 ∨ n = 3 ∨ n = 4 := by omega
  rcases hn with e | e | e <;> subst e
  · exact ⟨trivial, one _ 2 1 [[]] _ (by decide) (by decide) ⟨trivial, one _ 2 2 (lpsStep 1 [[]]) _ (by decide) (by decide) ⟨trivial, fin ((lpsStep 2 (lpsStep 1 [[]])).tail) _ _ (by decide) (by decide +kernel) (by decide +kernel)⟩⟩⟩
  · exact ⟨trivial, one _ 3 1 [[]] _ (by decide) (by decide) ⟨trivial, one _ 3 2 (lpsStep 1 [[]]) _ (by decide) (by decide) ⟨trivial, one _ 3 3 (lpsStep 2 (lpsStep 1 [[]])) _ (by decide) (by decide) ⟨trivial, fin ((lpsStep 3 (lpsStep 2 (lpsStep 1 [[]]))).tail) _ _ (by decide) (by decide +kernel) (by decide +kernel)⟩⟩⟩⟩
  · exact ⟨trivial, one _ 4 1 [[]] _ (by decide) (by decide) ⟨trivial, one _ 4 2 (lpsStep 1 [[]]) _ (by decide) (by decide) ⟨trivial, one _ 4 3 (lpsStep 2 (lpsStep 1 [[]])) _ (by decide) (by decide) ⟨trivial, one _ 4 4 (lpsStep 3 (lpsStep 2 (lpsStep 1 [[]]))) _ (by decide) (by decide) ⟨trivial, fin ((lpsStep 4 (lpsStep 3 (lpsStep 2 (lpsStep 1 [[]])))).tail) _ _ (by decide) (by decide +kernel) (by decide +kernel)⟩⟩⟩⟩⟩
end Lf
set_option Elab.async false
set_option linter.all false
set_option maxRecDepth 100000
namespace Lf
open PySem PySem.Spec PyProof.Rows L2

/-! ### a search's loops -/
theorem p_whl {c : Ex} {b : List Sx} {En : DEnds} {δ : DSt} {S : Store} : semS (.whl c b) En δ S = ∃ P : Nat → DSt → Store → Prop, (∃ m, P m δ S) ∧ ∀ m δ S, P m δ S → (semB c).1 δ S fun d S1 => Tst S1 d fun k =>
    cnd k (semSs b { nx := fun δ' S' => ∃ m', m' < m ∧ P m' δ' S', rt := En.rt, bk := En.nx, ct := fun δ' S' => ∃ m', m' < m ∧ P m' δ' S' } δ S1) (En.nx δ S1) := by
  simp only [semS, sWhile, sem, sTru, Tst, cnd]
section
variable {σ P : Type} [DecidableEq σ]
/-- the dict of what is found and the list of what waits -/
def SrchI (enc : σ → D) (val : List P → D) (S : Store) (pf pw : Addr) (f : Fnd σ P) (S' : Store) : Prop :=
  (∃ ob, S' pf = some (.dic ob (ksD enc f) (vsD val f))) ∧ S' pw = some (.lst (ksD enc f)) ∧ ∀ x, x ≠ pf → x ≠ pw → S' x = S x
variable {enc : σ → D} {val : List P → D} {S : Store} {pf pw : Addr} {next : σ → P → σ} {bad : σ → P → Bool} {every : List P} {st : σ}
theorem SrchI.add (E : Enc enc) (hne : pw ≠ pf) {f : Fnd σ P} {S' : Store} (h : SrchI enc val S pf pw f S') {s : σ} {pl : List P} (hn : lk f s = none) {ob : Obj} :
    SrchI enc val S pf pw (f ++ [(s, pl)]) (ups (ups S' pf (.dic ob (putK (ksD enc f) (enc s)) (putV (ksD enc f) (vsD val f) (enc s) (val pl)))) pw (.lst (ksD enc f ++ [enc s]))) := by
  refine ⟨⟨ob, ?_⟩, ?_, fun x h1 h2 => ?_⟩
  · rw [ups_ne (Ne.symm hne), ups_at, putK_enc E s pl f hn, putV_enc E s pl f hn]
  · rw [ups_at]; simp [ksD]
  · rw [ups_ne h2, ups_ne h1]; exact h.2.2 x h1 h2
theorem SrchI.start {ob : Obj} (hne : pw ≠ pf) {S : Store} : SrchI enc val S pf pw [(st, [])] (ups (ups S pf (.dic ob [enc st] [val []])) pw (.lst [enc st])) :=
  ⟨⟨ob, by rw [ups_ne (Ne.symm hne), ups_at]; rfl⟩, by rw [ups_at]; rfl, fun x h1 h2 => by rw [ups_ne h2, ups_ne h1]⟩
/-- the turns of one state -/
theorem srch_for {g : Tg} {tb : DS} {En : DEnds} {pe : P → D} {fi : DSt → Prop} {k : Nat} {s : σ} {pl : List P} (hg : ∀ p δ, fi δ → ∃ δ1, tgD g (pe p) δ = some δ1)
    (one : ∀ p ∈ every, ∀ (δ δ1 : DSt) (S1 : Store) (f : Fnd σ P) (done : List P) (nx : DSt → Store → Prop), fi δ → tgD g (pe p) δ = some δ1 → SrchI enc val S pf pw f S1 → BxT next bad every st k s pl done f →
      (bad s p = true → Ret En (val (pl ++ [p])) S1) → (bad s p = false → ∀ δ' S2, fi δ' → SrchI enc val S pf pw (addX next s pl p f) S2 → nx δ' S2) → tb { nx := nx, rt := En.rt, bk := En.nx, ct := nx } δ1 S1) :
    ∀ (ps done : List P) (f : Fnd σ P) (δ : DSt) (S1 : Store), (∀ p ∈ ps, p ∈ every) → fi δ → SrchI enc val S pf pw f S1 → BxT next bad every st k s pl done f →
      (∀ r S2, expX next bad s pl ps f = .inr r → (∃ f', SrchI enc val S pf pw f' S2) → Ret En (val r) S2) → (∀ f' δ' S2, expX next bad s pl ps f = .inl f' → fi δ' → SrchI enc val S pf pw f' S2 → En.nx δ' S2) → forS (fun _ => True) g tb En (ps.map pe) δ S1
  | [], done, f, δ, S1, _, hd, hs, ht, _, q => by
    simp only [List.map_nil, forS]
    exact ⟨trivial, q f δ S1 rfl hd hs⟩
  | p :: ps, done, f, δ, S1, hp, hd, hs, ht, r, q => by
    simp only [List.map_cons, forS]
    refine ⟨trivial, ?_⟩
    obtain ⟨δ1, e⟩ := hg p δ hd
    rw [e]
    refine one p (hp p (by simp)) δ δ1 S1 f done _ hd e hs ht (fun hb => r _ S1 (by simp only [expX, hb, if_true]) ⟨f, hs⟩) fun hb δ' S2 h1 h2 => ?_
    have ex : expX next bad s pl (p :: ps) f = expX next bad s pl ps (addX next s pl p f) := by simp only [expX, hb, Bool.false_eq_true, if_false]
    rw [ex] at r q
    exact srch_for hg one ps (p :: done) _ δ' S2 (fun p' hp' => hp p' (by simp [hp'])) h1 h2 (ht.add (hp p (by simp)) hb) r q
/-- the whole search -/
theorem srch_loop {c : Ex} {b : List Sx} {En : DEnds} {C : σ → Prop} {U : List σ} (hC : Closed next every st C U) {N : Nat} (hN : U.length < N) {fr : Nat → DSt → Prop} {δ0 : DSt} {S0 : Store} (h0 : fr 0 δ0) (hS0 : SrchI enc val S pf pw [(st, [])] S0)
    (test : ∀ (k : Nat) (δ : DSt) (S' : Store) (f : Fnd σ P) (R : DK), fr k δ → SrchI enc val S pf pw f S' → R (.bl (decide (k < f.length))) S' → (semB c).1 δ S' R)
    (turn : ∀ (k : Nat) (δ : DSt) (S' : Store) (f : Fnd σ P) (s : σ) (pl : List P) (nx bk : DSt → Store → Prop), fr k δ → SrchI enc val S pf pw f S' → f[k]? = some (s, pl) → BxI next bad every st k f → k < N → C s →
      (∀ r S2, expX next bad s pl every f = .inr r → (∃ f', SrchI enc val S pf pw f' S2) → Ret En (val r) S2) → (∀ f' δ' S2, expX next bad s pl every f = .inl f' → fr (k + 1) δ' → SrchI enc val S pf pw f' S2 → nx δ' S2) → semSs b { nx := nx, rt := En.rt, bk := bk, ct := nx } δ S')
    (exit : ∀ (k : Nat) (δ : DSt) (S' : Store) (f : Fnd σ P), fr k δ → SrchI enc val S pf pw f S' → bx next bad every st N = .inl f → En.nx δ S')
    (out : ∀ (r : List P) (S' : Store), bx next bad every st N = .inr r → (∃ f', SrchI enc val S pf pw f' S') → Ret En (val r) S') : semS (.whl c b) En δ0 S0 := by
  rw [p_whl]
  refine ⟨fun m δ S' => ∃ k f, m = N - k ∧ bx next bad every st k = .inl f ∧ BxI next bad every st k f ∧ fr k δ ∧ SrchI enc val S pf pw f S', ⟨N, 0, _, rfl, rfl, BxI.zero, h0, hS0⟩, ?_⟩
  rintro m δ S' ⟨k, f, rfl, eb, hi, hd, hs⟩
  refine test k δ S' f _ hd hs ?_
  rw [t_bl]
  have hlen := hi.len hC
  by_cases hk : k < f.length
  · simp only [hk, decide_true, cnd_true]
    obtain ⟨⟨s, pl⟩, ex⟩ : ∃ x, f[k]? = some x := ⟨f[k], List.getElem?_eq_getElem hk⟩
    have nx1 : ∀ r, expX next bad s pl every f = r → bx next bad every st (k + 1) = r := fun r e => by simp only [bx, eb, ex]; exact e
    refine turn k δ S' f s pl _ _ hd hs ex hi (by omega) (hi.in hC _ (List.mem_of_getElem? ex)) (fun r S2 e h => out r S2 (bx_out (nx1 _ e) N (by omega)) h) fun f' δ' S2 e h1 h2 => ?_
    obtain ⟨d, t1, _, t3⟩ := BxT.all (hi.turn ex) (fun p hp => hp) e
    exact ⟨N - (k + 1), by omega, k + 1, f', rfl, nx1 _ e, t1.done t3, h1, h2⟩
  · simp only [hk, decide_false, cnd_false]
    exact exit k δ S' f hd hs (bx_stop eb (List.getElem?_eq_none (by omega)) N (by have := hi.le; omega))
end
def noBad {σ P : Type} : σ → P → Bool := fun _ _ => false
theorem expX_none {σ P : Type} [DecidableEq σ] {next : σ → P → σ} {s : σ} {pl : List P} : ∀ (ps : List P) (f : Fnd σ P), expX next noBad s pl ps f = .inl (ps.foldl (fun f p => addX next s pl p f) f)
  | [], f => rfl
  | p :: ps, f => by
    simp only [expX, noBad, List.foldl_cons]
    exact expX_none ps _
theorem bx_none {σ P : Type} [DecidableEq σ] {next : σ → P → σ} {every : List P} {st : σ} : ∀ k, ∃ f, bx next noBad every st k = .inl f
  | 0 => ⟨_, rfl⟩
  | k + 1 => by
    obtain ⟨f, e⟩ := bx_none (next := next) (every := every) (st := st) k
    simp only [bx, e]
    split
    · exact ⟨_, rfl⟩
    · exact ⟨_, expX_none _ _⟩
/-! ### all reachable states -/
theorem closed_st {n : Int} (h1 : 2 ≤ n) (h2 : n ≤ 4) (cs : List Cl) : Closed (tickS n cs) (prs n) startS (StOk n) allSt :=
  ⟨start_ok (by omega), fun s p hs hp => tickS_ok hs (prs_ok h1 h2 p hp), fun s hs => in_allSt h2 hs⟩
/-- each reachable state, with a plan -/
def waysF (n : Int) (cs : List Cl) : Fnd St4 (List Int) := match bx (tickS n cs) noBad (prs n) startS 257 with
  | .inl f => f
  | .inr _ => []
theorem ways_eq (n : Int) (cs : List Cl) : bx (tickS n cs) noBad (prs n) startS 257 = .inl (waysF n cs) := by
  obtain ⟨f, e⟩ := bx_none (next := tickS n cs) (every := prs n) (st := startS) 257
  unfold waysF
  rw [e]
theorem ways_inv {n : Int} (h1 : 2 ≤ n) (h2 : n ≤ 4) (cs : List Cl) : BxI (tickS n cs) noBad (prs n) startS (waysF n cs).length (waysF n cs) :=
  bx_fin (closed_st h1 h2 cs) (by rw [allSt_len]; omega) (ways_eq n cs)
def spWays : Spec := fun ds S Q => ∃ cs n, ds = [ctlD cs, .int n] ∧ CtlOk cs ∧ 2 ≤ n ∧ n ≤ 4 ∧ Q (.dic (ksD St4.d (waysF n cs)) (vsD planD (waysF n cs))) S
theorem keep_get {σ P : Type} [DecidableEq σ] {next : σ → P → σ} {bad : σ → P → Bool} {every : List P} {st : σ} {k : Nat} {s : σ} {pl done : List P} {f : Fnd σ P} (h : BxT next bad every st k s pl done f) : lk f s = some pl := lk_of_mem (x := (s, pl)) h.nd (List.mem_of_getElem? h.at')
theorem pl_app (pl : List (List Int)) (p : List Int) : D.tup (pl.map intsD ++ [intsD p]) = planD (pl ++ [p]) := by simp [planD]
/-- what has been found is frozen and told -/
theorem ret_dic {En : DEnds} {S S' : Store} {pf : Addr} {ob : Obj} {ks vs : List D} (h : S' pf = some (.dic ob ks vs)) (hs : ∀ a m, S a = some m → S' a = some m) (hn : S pf = none) (q : En.rt (.dic ks vs) S) : Ret En (.ref pf) S' := by
  refine ⟨_, S, hs, ?_, q⟩
  simp only [Frz]
  exact .inr ⟨pf, ob, vs, rfl, h, hn, Frzs.refl _ _ _⟩
theorem SrchI.sub {σ P : Type} [DecidableEq σ] {enc : σ → D} {val : List P → D} {S : Store} {pf pw : Addr} {f : Fnd σ P} {S' : Store} (h : SrchI enc val S pf pw f S') (h1 : S pf = none) (h2 : S pw = none) : ∀ a m, S a = some m → S' a = some m := fun a m e => by
  by_cases z1 : a = pf
  · rw [z1, h1] at e; cases e
  · by_cases z2 : a = pw
    · rw [z2, h2] at e; cases e
    · rw [h.2.2 a z1 z2]; exact e
/-- a state is kept, if it is new -/
theorem srch_put {σ P : Type} [DecidableEq σ] {enc : σ → D} {val : List P → D} {S S1 : Store} {pf pw : Addr} {b f w : Nat} {e : Ex} {δ : DSt} {En : DEnds} {f1 : Fnd σ P} {t : σ} {pl : List P} (E : Enc enc) (hne : pw ≠ pf) (hb : δ[b]? = some (some (enc t))) (hf : δ[f]? = some (some (.ref pf))) (hw : δ[w]? = some (some (.ref pw)))
    (he : ∀ R : DK, R (val pl) S1 → (semB e).1 δ S1 R) (hs : SrchI enc val S pf pw f1 S1) (hl : f1.length < 16000000) (q : ∀ S2, SrchI enc val S pf pw (if (lk f1 t).isSome = true then f1 else f1 ++ [(t, pl)]) S2 → En.nx δ S2) :
    semSs [.ite (.cmp .nin (.var b) (.var f)) [.setL (.var f) (.var b) e, .exp (.app (.var w) (.var b))] []] En δ S1 := by
  have z1 : sizeLine = 16777216 := sizeLine_eq
  obtain ⟨⟨ob, h1⟩, h2, h3⟩ := id hs
  simp only [p_cons, p_nil, p_ite, o_cmp, o_var, hb, hf, Option.some.injEq, exists_eq_left']
  rw [c_ninD (asD_ref h1) (asL_none h1) (fun _ e => nomatch e)]
  refine ⟨dOk_enc E f1 _, ?_⟩
  rw [find_enc E, Option.isSome_map, t_bl]
  cases hfd : lk f1 t with
  | some v =>
    rw [hfd] at q
    simp only [Option.isSome_some, Bool.not_true, cnd_false]
    exact q S1 hs
  | none =>
    rw [hfd] at q
    simp only [Option.isSome_none, Bool.not_false, cnd_true]
    simp only [p_cons, p_nil, p_setL, p_exp, o_app, o_var, hb, hf, hw, Option.some.injEq, exists_eq_left']
    refine he _ ?_
    rw [l_setD h1]
    refine ⟨dOk_enc E f1 _, by simp [ksD]; omega, fun ob' => ?_⟩
    refine ⟨⟨_, _, rfl, by rw [ups_ne hne]; exact h2⟩, ?_⟩
    rw [m_app (ds := ksD enc f1) (by rw [ups_ne hne]; exact h2)]
    refine ⟨by simp [ksD]; omega, ?_⟩
    exact q _ (SrchI.add E hne hs hfd)
/-- found[state] + (pressed,) -/
theorem srch_plan {σ : Type} [DecidableEq σ] {enc : σ → D} {S S1 : Store} {pf pw : Addr} {f s p : Nat} {δ : DSt} {f1 : Fnd σ (List Int)} {t : σ} {pl : List (List Int)} {pr : List Int} (E : Enc enc) (hf : δ[f]? = some (some (.ref pf))) (hs' : δ[s]? = some (some (enc t))) (hp : δ[p]? = some (some (intsD pr)))
    (hs : SrchI enc planD S pf pw f1 S1) (hk : lk f1 t = some pl) (hl : pl.length < 16000000) (R : DK) (r : R (planD (pl ++ [pr])) S1) : (semB (.bin .add (.ix (.var f) (.var s)) (.tup [.var p]))).1 δ S1 R := by
  have z1 : sizeLine = 16777216 := sizeLine_eq
  obtain ⟨⟨ob, h1⟩, h2, h3⟩ := id hs
  simp only [o_bin, o_ix, o_tup, o_cons, o_nil, o_var, hf, hs', hp, Option.some.injEq, exists_eq_left']
  rw [i_ixD (asD_ref h1) (asL_none h1) (fun _ e => nomatch e)]
  refine ⟨dOk_enc E f1 _, planD pl, by rw [find_enc E, hk]; rfl, ?_⟩
  simp [planD]
  refine ⟨by omega, by omega, ?_⟩
  rw [pl_app]
  exact r
theorem BxT.len {σ P : Type} [DecidableEq σ] {next : σ → P → σ} {bad : σ → P → Bool} {every : List P} {st : σ} {C : σ → Prop} {U : List σ} (hc : Closed next every st C U) {k : Nat} {s : σ} {pl done : List P} {f : Fnd σ P} (h : BxT next bad every st k s pl done f) : f.length ≤ U.length := by
  have := nodup_le (l := f.map (·.1)) (U := U) h.nd fun y hy => by
    obtain ⟨x, hx, rfl⟩ := List.mem_map.mp hy
    obtain ⟨r1, r2⟩ := h.run x hx
    rw [← r2]
    exact hc.un _ (hc.run hc.st r1)
  simpa using this
theorem law_ways_by : ∀ ds S Q, spWays ds S Q → semSs (b_ways_by spPrs spTick) (endsOf Q) (startD 9 ds) S := by
  rintro ds S Q ⟨cs, n, rfl, hc, h1, h2, h⟩
  have z1 : sizeLine = 16777216 := sizeLine_eq
  unfold b_ways_by startD
  rw [p_cons]
  simp [-p_cons, gStart]
  intro pf ob0 hpf
  refine ⟨ups_at, by simp [enc_st.key], fun ob1 => ?_⟩
  rw [p_cons]
  simp [-p_cons, ups_ups]
  refine ⟨by omega, fun pw hpw => ?_⟩
  have hne : pw ≠ pf := fun e => by rw [e, ups_at] at hpw; cases hpw
  have hpw0 : S pw = none := by rw [ups_ne hne] at hpw; exact hpw
  rw [p_cons]
  simp [-p_cons]
  refine ⟨n, rfl, h1, h2, ?_⟩
  show semSs (_ :: _) _ _ _
  rw [p_cons]
  simp [-p_cons]
  rw [p_cons]
  have hC := closed_st h1 h2 cs
  refine srch_loop (enc := St4.d) (val := planD) (S := S) (pf := pf) (pw := pw) (next := tickS n cs) (bad := noBad) (every := prs n) (st := startS) hC (N := 257) (by rw [allSt_len]; omega)
    (fr := fun k δ => ∃ a6 a7 a8, δ = [some (ctlD cs), some (.int n), some (.ref pf), some (.ref pw), some (.lst ((prs n).map intsD)), some (.int (k : Nat)), a6, a7, a8]) ⟨none, none, none, rfl⟩ (SrchI.start hne) ?_ ?_ ?_ ?_
  · rintro k δ S' f R ⟨a6, a7, a8, rfl⟩ hs r
    simp [n_lenR hs.2.1]
    simpa [ksD] using r
  · rintro k δ S' f s pl nx bk ⟨a6, a7, a8, rfl⟩ hs ex hi hk hst r q
    rw [p_cons]
    simp [-p_cons]
    rw [i_ixR hs.2.1]
    refine ⟨s.d, L2.atI_nat (by simp [ksD, ex]), ?_⟩
    rw [p_cons]
    simp [-p_cons]
    rw [p_cons, p_for]
    simp [-p_cons]
    refine srch_for (fi := fun δ => ∃ a7 a8, δ = [some (ctlD cs), some (.int n), some (.ref pf), some (.ref pw), some (.lst ((prs n).map intsD)), some (.int ((k : Int) + 1)), some s.d, a7, a8]) (pe := intsD) (fun p δ hd => ⟨_, rfl⟩) ?_ (prs n) [] f _ S' (fun p hp => hp) ⟨_, _, rfl⟩ hs (hi.turn ex) r ?_
    · rintro p hp δ δ1 S1 f1 done nx ⟨a7, a8, rfl⟩ e hs1 ht r1 q1
      cases e
      have hp1 := prs_ok h1 h2 p hp
      have hl1 := ht.len hC
      have hpl : pl.length ≤ k := ht.pk
      rw [allSt_len] at hl1
      rw [p_cons]
      simp [-p_cons]
      refine ⟨cs, n, s, p, rfl, hc, hst, hp1, h2, ?_⟩
      exact srch_put enc_st hne rfl rfl rfl (srch_plan (t := s) (pl := pl) enc_st rfl rfl rfl hs1 (keep_get ht) (by omega)) hs1 (by omega) fun S2 h3 => q1 rfl _ S2 ⟨_, _, rfl⟩ h3
    · rintro f' δ' S2 e ⟨a7, a8, rfl⟩ hs2
      show semSs [] _ _ _
      rw [p_nil]
      exact q f' _ S2 e ⟨_, _, _, rfl⟩ hs2
  · rintro k δ S' f ⟨a6, a7, a8, rfl⟩ hs e
    rw [ways_eq] at e
    cases e
    simp
    obtain ⟨⟨ob, hf⟩, hw, hx⟩ := id hs
    exact ret_dic hf (hs.sub hpf hpw0) hpf h
  · intro r S' e
    rw [ways_eq] at e
    cases e
theorem law_lreach : ∀ ds S Q, spWays ds S Q → semSs (b__law_reach spPrs spTick) (endsOf Q) (startD 10 ds) S := by
  rintro ds S Q ⟨cs, n, rfl, hc, h1, h2, h⟩
  have z1 : sizeLine = 16777216 := sizeLine_eq
  have es : D.tup [.int 1, .bl true, .bl false, .tup []] = startS.d := rfl
  unfold b__law_reach startD
  rw [p_cons]
  simp [-p_cons]
  refine ⟨by omega, ?_⟩
  rw [p_cons]
  simp [-p_cons, es]
  intro pf ob0 hpf
  refine ⟨ups_at, by simp [enc_st.key], fun ob1 => ?_⟩
  simp only [ups_ups]
  refine ⟨by omega, fun pw hpw => ?_⟩
  have hne : pw ≠ pf := fun e => by rw [e, ups_at] at hpw; cases hpw
  have hpw0 : S pw = none := by rw [ups_ne hne] at hpw; exact hpw
  refine ⟨n, rfl, h1, h2, ?_⟩
  dsimp only
  refine ⟨by omega, ?_⟩
  rw [p_cons]
  have hC := closed_st h1 h2 cs
  refine srch_loop (enc := St4.d) (val := planD) (S := S) (pf := pf) (pw := pw) (next := tickS n cs) (bad := noBad) (every := prs n) (st := startS) hC (N := 257) (by rw [allSt_len]; omega)
    (fr := fun k δ => ∃ a6 a7 a8, δ = [some (ctlD cs), some (.int n), some startS.d, some (.ref pf), some (.ref pw), some (.int (k : Nat)), some (.lst ((prs n).map intsD)), a6, a7, a8]) ⟨none, none, none, rfl⟩ (SrchI.start hne) ?_ ?_ ?_ ?_
  · rintro k δ S' f R ⟨a6, a7, a8, rfl⟩ hs r
    simp [n_lenR hs.2.1]
    simpa [ksD] using r
  · rintro k δ S' f s pl nx bk ⟨a6, a7, a8, rfl⟩ hs ex hi hk hst r q
    rw [p_cons]
    simp [-p_cons]
    rw [i_ixR hs.2.1]
    refine ⟨s.d, L2.atI_nat (by simp [ksD, ex]), ?_⟩
    rw [p_cons]
    simp [-p_cons]
    rw [p_cons, p_for]
    simp [-p_cons]
    refine srch_for (fi := fun δ => ∃ a7 a8, δ = [some (ctlD cs), some (.int n), some startS.d, some (.ref pf), some (.ref pw), some (.int ((k : Int) + 1)), some (.lst ((prs n).map intsD)), some s.d, a7, a8]) (pe := intsD) (fun p δ hd => ⟨_, rfl⟩) ?_ (prs n) [] f _ S' (fun p hp => hp) ⟨_, _, rfl⟩ hs (hi.turn ex) r ?_
    · rintro p hp δ δ1 S1 f1 done nx ⟨a7, a8, rfl⟩ e hs1 ht r1 q1
      cases e
      have hp1 := prs_ok h1 h2 p hp
      have hl1 := ht.len hC
      have hpl : pl.length ≤ k := ht.pk
      rw [allSt_len] at hl1
      rw [p_cons]
      simp [-p_cons]
      refine ⟨cs, n, s, p, rfl, hc, hst, hp1, h2, ?_⟩
      exact srch_put enc_st hne rfl rfl rfl (srch_plan (t := s) (pl := pl) enc_st rfl rfl rfl hs1 (keep_get ht) (by omega)) hs1 (by omega) fun S2 h3 => q1 rfl _ S2 ⟨_, _, rfl⟩ h3
    · rintro f' δ' S2 e ⟨a7, a8, rfl⟩ hs2
      show semSs [] _ _ _
      rw [p_nil]
      exact q f' _ S2 e ⟨_, _, _, rfl⟩ hs2
  · rintro k δ S' f ⟨a6, a7, a8, rfl⟩ hs e
    rw [ways_eq] at e
    cases e
    simp
    obtain ⟨⟨ob, hf⟩, hw, hx⟩ := id hs
    exact ret_dic hf (hs.sub hpf hpw0) hpf h
  · intro r S' e
    rw [ways_eq] at e
    cases e
end Lf
set_option Elab.async false
set_option linter.all false
set_option maxRecDepth 100000
namespace Lf
open PySem PySem.Spec PyProof.Rows L2

/-! ### reachable, way_to -/
def statesD (f : Fnd St4 (List Int)) : List D := sortD (ksD St4.d f)
theorem ks_len {σ P : Type} [DecidableEq σ] {enc : σ → D} (f : Fnd σ P) : (ksD enc f).length = f.length := by simp [ksD]
theorem sortD_perm (ds : List D) : (sortD ds).Perm ds := List.mergeSort_perm _ _
theorem toPy_st (s : St4) : toPy s.d = .tuple [.int s.fl, .bool s.up, .bool s.op, .tuple (s.lit.map PyData.int)] := by
  simp [St4.d, toPy, toPys, intsD, toPys_ints]
theorem okD_st (s : St4) : okD 8 s.d = true := by simp [St4.d, okD, okDs, intsD, okDs_ints]
theorem alike_st (s t : St4) : PySem.W.alike (toPy s.d) (toPy t.d) = true := by
  rw [toPy_st, toPy_st]
  simp [PySem.W.alike, PySem.W.alikeAll, PySem.W.alike_ints]
theorem sortOk_st {P : Type} (f : Fnd St4 P) (h : f.length ≤ 100000) : SortOk (ksD St4.d f) := by
  refine ⟨fun d hd => ?_, fun d hd e he => ?_, by rw [ks_len, sizeLine_eq]; omega, .inr (.inl fun d hd => ?_)⟩
  · obtain ⟨x, _, rfl⟩ := List.mem_map.mp hd
    exact okD_st _
  · obtain ⟨x, _, rfl⟩ := List.mem_map.mp hd
    obtain ⟨y, _, rfl⟩ := List.mem_map.mp he
    exact alike_st _ _
  · obtain ⟨d', hd', rfl⟩ := List.mem_map.mp hd
    obtain ⟨x, _, rfl⟩ := List.mem_map.mp hd'
    exact ⟨_, _, toPy_st _⟩
theorem ways_len {n : Int} (h1 : 2 ≤ n) (h2 : n ≤ 4) (cs : List Cl) : (waysF n cs).length ≤ 256 := by
  have := (ways_inv h1 h2 cs).len (closed_st h1 h2 cs)
  rwa [allSt_len] at this
def spReach : Spec := fun ds S Q => ∃ cs n, ds = [ctlD cs, .int n] ∧ CtlOk cs ∧ 2 ≤ n ∧ n ≤ 4 ∧ Q (.lst (statesD (waysF n cs))) S
theorem n_lstD {ks vs : List D} {S : Store} {Q : DK} : BI.sem (.lst false) [.dic ks vs] S Q = Q (.lst ks) S := by
  refine propext ⟨fun ⟨x, es, e, hx, q⟩ => ?_, fun q => ⟨_, ks, rfl, .inr (.inr (.inr ⟨vs, rfl⟩)), q⟩⟩
  cases e
  simp [asL, asD] at hx
  rw [hx]; exact q
theorem law_reachable : ∀ ds S Q, spReach ds S Q → semSs (b_reachable spLook spWays) (endsOf Q) (startD 2 ds) S := by
  rintro ds S Q ⟨cs, n, rfl, hc, h1, h2, h⟩
  simp [b_reachable, startD]
  refine ⟨cs, n, rfl, hc, h1, h2, cs, n, rfl, hc, h1, h2, ?_⟩
  dsimp only
  rw [n_lstD, n_srtD (ds := ksD St4.d (waysF n cs)) rfl]
  exact ⟨sortOk_st _ (by have := ways_len h1 h2 cs; omega), Ret.same h⟩
/-- the first shortest plan to a state, or None -/
def wayD (n : Int) (cs : List Cl) (s : St4) : D := ((lk (waysF n cs) s).map planD).getD .non
def spWayTo : Spec := fun ds S Q => ∃ cs n s, ds = [ctlD cs, .int n, s.d] ∧ CtlOk cs ∧ 2 ≤ n ∧ n ≤ 4 ∧ StOk n s ∧ Q (wayD n cs s) S
theorem law_way_to : ∀ ds S Q, spWayTo ds S Q → semSs (b_way_to spLook spLookS spWays) (endsOf Q) (startD 3 ds) S := by
  rintro ds S Q ⟨cs, n, s, rfl, hc, h1, h2, hs, h⟩
  simp [b_way_to, startD]
  refine ⟨cs, n, rfl, hc, h1, h2, n, s.d, rfl, ⟨s, rfl, hs, h2⟩, cs, n, rfl, hc, h1, h2, ?_⟩
  refine ⟨⟨_, _, rfl⟩, _, _, rfl, dOk_enc enc_st _ _, ?_⟩
  rw [find_enc enc_st]
  exact Ret.same h
theorem plan_gd' {n : Int} {pl : List (List Int)} (h0 : 0 ≤ n) (hn : n ≤ 4) (hl : pl.length ≤ 100000) (hp : ∀ p ∈ pl, PrOk n p) (m : Nat) : gd 100000 (m + 2) (planD pl) = true := by
  have : gds 100000 (m + 1) (pl.map intsD) = true := gds_of fun d hd => by
    obtain ⟨p, hp', rfl⟩ := List.mem_map.mp hd
    have := prOk_len (hp p hp') h0 hn
    exact ints_gd p (by omega)
  simp [planD, gd, this, hl]
theorem way_gd {n : Int} (h1 : 2 ≤ n) (h2 : n ≤ 4) (cs : List Cl) (s : St4) (m : Nat) : gd 100000 (m + 2) (wayD n cs s) = true := by
  unfold wayD
  cases e : lk (waysF n cs) s with
  | none => rfl
  | some pl =>
    have hi := ways_inv h1 h2 cs
    have hm := lk_mem e
    have : pl.length ≤ _ := hi.sz _ hm
    have hl := ways_len h1 h2 cs
    exact plan_gd' (pl := pl) (by omega) h2 (by omega) (fun p hp => prs_ok h1 h2 p ((hi.run _ hm).1 p hp)) m
theorem states_mem {n : Int} (h1 : 2 ≤ n) (h2 : n ≤ 4) (cs : List Cl) {d : D} (h : d ∈ statesD (waysF n cs)) : ∃ s : St4, d = s.d ∧ StOk n s := by
  have := (sortD_perm _).mem_iff.mp h
  obtain ⟨x, hx, rfl⟩ := List.mem_map.mp this
  exact ⟨x.1, rfl, (ways_inv h1 h2 cs).in (closed_st h1 h2 cs) x hx⟩
theorem states_len {n : Int} (h1 : 2 ≤ n) (h2 : n ≤ 4) (cs : List Cl) : 1 ≤ (statesD (waysF n cs)).length ∧ (statesD (waysF n cs)).length ≤ 256 := by
  unfold statesD
  rw [(sortD_perm _).length_eq, ks_len]
  refine ⟨?_, ways_len h1 h2 cs⟩
  exact (List.getElem?_eq_some_iff.mp (ways_inv h1 h2 cs).hd).1
theorem states_gd {n : Int} (h1 : 2 ≤ n) (h2 : n ≤ 4) (cs : List Cl) : gd 100000 12 (.lst (statesD (waysF n cs))) = true := by
  have hl := states_len h1 h2 cs
  have : gds 100000 11 (statesD (waysF n cs)) = true := gds_of fun d hd => by
    obtain ⟨s, rfl, hs⟩ := states_mem h1 h2 cs hd
    exact state_gd hs h2 100000 9 (by omega)
  simp [gd, this]; omega
/-- for turn, bag in enumerate(bags) -/
theorem for_bagsE {g : Store → Prop} (hg : ∀ S, g S) {tb : DS} {En : DEnds} {n i j M : Nat}
    (hb : ∀ (t : Int) (δ : DSt) (S : Store) (b : Addr) (bs : List Addr) (K : DSt → Store → Prop), δ.length = n → BagsAt S M (b :: bs) → (∀ δ' S', δ'.length = n → (∀ x ∈ bs, S' x = S x) → K δ' S') → tb { nx := K, rt := En.rt, bk := En.nx, ct := K } ((δ.set i (some (.int t))).set j (some (.ref b))) S)
    (he : ∀ δ S, δ.length = n → En.nx δ S) : ∀ (bs : List Addr) (t : Int) (δ : DSt) (S : Store), BagsAt S M bs → δ.length = n → forS g (.tp [.nm i, .nm j]) tb En (enumD t (bs.map D.ref)) δ S
  | [], t, δ, S, _, hl => ⟨hg S, he δ S hl⟩
  | b :: bs, t, δ, S, hB, hl => by
    simp only [List.map_cons, enumD, forS]
    refine ⟨hg S, ?_⟩
    have e : tgD (.tp [.nm i, .nm j]) (.tup [.int t, .ref b]) δ = some ((δ.set i (some (.int t))).set j (some (.ref b))) := rfl
    rw [e]
    refine hb t δ S b bs _ hl hB fun δ' S' hl' hS' => for_bagsE hg hb he bs (t + 1) δ' S' ⟨(List.nodup_cons.mp hB.1).2, fun x hx => ?_⟩ hl'
    rw [hS' x hx]
    exact hB.2 x (List.mem_cons_of_mem _ hx)
end Lf
set_option Elab.async false
set_option linter.all false
set_option maxRecDepth 100000
namespace Lf
namespace K11
open PySem PySem.Spec PyProof.Rows L2
/-- slots: 0 script, 1 turn, 2 bag, 3 floors, 4 controller, 5 found, 6 states, 7 k, 8 lit, 9 other, 10 state, 11 floor -/
def b_law (s_law_bags s_law_take s_law_controller s_law_reach s_law_same s_reachable s_way_to : Spec) : List Sx := [
  .forr (.tp [.nm 1, .nm 2]) (.enm (.call "_law_bags" s_law_bags [.var 0, .int 4])) [
    .par 3 4 (.bin .add (.int 2) (.call "_law_take" s_law_take [.var 2, .ite (.cmp .eq (.var 1) (.int 0)) (.int 3) (.int 2)])) (.call "_law_controller" s_law_controller [.var 2, .int 5]),
    .set (.nm 5) (.call "_law_reach" s_law_reach [.var 4, .var 3]),
    .set (.nm 6) (.bi .srtD [.bi (.lst false) [.var 5]]),
    .ite (.not (.call "_law_same" s_law_same [.call "reachable" s_reachable [.var 4, .var 3], .var 6])) [
      .ret (.bl false)] [],
    .forr (.nm 7) (.rng1 (.int 3)) [
      .set (.nm 8) (.bi .tup [.lc false (.var 11) (.nm 11) (.rng2 (.int 1) (.bin .add (.var 3) (.int 1))) (.cmp .eq (.call "_law_take" s_law_take [.var 2, .int 2]) (.int 0)) [("floor", 11)]]),
      .set (.nm 9) (.tup [.bin .add (.int 1) (.call "_law_take" s_law_take [.var 2, .var 3]), .cmp .eq (.call "_law_take" s_law_take [.var 2, .int 2]) (.int 0), .cmp .eq (.call "_law_take" s_law_take [.var 2, .int 2]) (.int 0), .var 8]),
      .forr (.nm 10) (.lst false [.ix (.var 6) (.call "_law_take" s_law_take [.var 2, .bi .len [.var 6]]), .var 9]) [
        .ite (.not (.call "_law_same" s_law_same [.call "way_to" s_way_to [.var 4, .var 3, .var 10], .get1 (.var 5) (.var 10)])) [
          .ret (.bl false)] []]]],
  .ret (.bl true)]


abbrev sp_same : Spec := spSame 100000 12
def inB : List Sx := [.ite (.not (.call "_law_same" sp_same [.call "way_to" spWayTo [.var 4, .var 3, .var 10], .get1 (.var 5) (.var 10)])) [
          .ret (.bl false)] []]
def outB : List Sx := [
      .set (.nm 8) (.bi .tup [.lc false (.var 11) (.nm 11) (.rng2 (.int 1) (.bin .add (.var 3) (.int 1))) (.cmp .eq (.call "_law_take" spTake [.var 2, .int 2]) (.int 0)) [("floor", 11)]]),
      .set (.nm 9) (.tup [.bin .add (.int 1) (.call "_law_take" spTake [.var 2, .var 3]), .cmp .eq (.call "_law_take" spTake [.var 2, .int 2]) (.int 0), .cmp .eq (.call "_law_take" spTake [.var 2, .int 2]) (.int 0), .var 8]),
      .forr (.nm 10) (.lst false [.ix (.var 6) (.call "_law_take" spTake [.var 2, .bi .len [.var 6]]), .var 9]) inB]
theorem len12 {δ : DSt} (h : δ.length = 12) : ∃ a0 a1 a2 a3 a4 a5 a6 a7 a8 a9 a10 a11, δ = [a0, a1, a2, a3, a4, a5, a6, a7, a8, a9, a10, a11] := by
  match δ, h with
  | [a0, a1, a2, a3, a4, a5, a6, a7, a8, a9, a10, a11], _ => exact ⟨a0, a1, a2, a3, a4, a5, a6, a7, a8, a9, a10, a11, rfl⟩
/-- one state asked for -/
theorem ask {n : Int} {cs : List Cl} (hc : CtlOk cs) (h1 : 2 ≤ n) (h2 : n ≤ 4) {s : St4} (hs : StOk n s) (En : DEnds) (S : Store) (a0 a1 a2 a6 a7 a8 a9 a11 : Option D)
    (k : En.nx [a0, a1, a2, some (.int n), some (ctlD cs), some (.dic (ksD St4.d (waysF n cs)) (vsD planD (waysF n cs))), a6, a7, a8, a9, some s.d, a11] S) :
    semSs inB En [a0, a1, a2, some (.int n), some (ctlD cs), some (.dic (ksD St4.d (waysF n cs)) (vsD planD (waysF n cs))), a6, a7, a8, a9, some s.d, a11] S := by
  unfold inB
  rw [p_cons]
  simp [-p_cons]
  refine ⟨cs, n, s, rfl, hc, h1, h2, hs, ?_⟩
  dsimp only
  refine ⟨⟨_, _, rfl⟩, _, _, rfl, dOk_enc enc_st _ _, ?_⟩
  rw [find_enc enc_st]
  refine ⟨_, rfl, way_gd h1 h2 cs s 10, ?_⟩
  simp
  exact k
theorem turn {n : Int} {cs : List Cl} (hc : CtlOk cs) (h1 : 2 ≤ n) (h2 : n ≤ 4) (En : DEnds) (S : Store) (l : List D) (m : Nat) (b : Addr) (a0 a1 a7 a8 a9 a10 a11 : Option D) (hS : S b = some (.lst l)) (hm : BagL (m + 20) l)
    (k : ∀ l' a8 a9 a10 a11, BagL m l' → En.nx [a0, a1, some (.ref b), some (.int n), some (ctlD cs), some (.dic (ksD St4.d (waysF n cs)) (vsD planD (waysF n cs))), some (.lst (statesD (waysF n cs))), a7, a8, a9, a10, a11] (ups S b (.lst l'))) :
    semSs outB En [a0, a1, some (.ref b), some (.int n), some (ctlD cs), some (.dic (ksD St4.d (waysF n cs)) (vsD planD (waysF n cs))), some (.lst (statesD (waysF n cs))), a7, a8, a9, a10, a11] S := by
  have z1 : sizeLine = 16777216 := sizeLine_eq
  have hl := states_len h1 h2 cs
  unfold outB
  rw [p_cons]
  simp [-p_cons, o_lc]
  refine ⟨⟨by omega, by omega⟩, fun pa hpa => ?_⟩
  obtain ⟨nn, en⟩ : ∃ nn : Nat, n = nn := Int.eq_ofNat_of_zero_le (by omega)
  have e1 : (n + 1 - 1).toNat = nn := by omega
  obtain ⟨q, eq, q1, q2⟩ := rng_rise nn 1
  simp only [e1, Int.add_sub_cancel, en, Int.toNat_natCast]
  refine lc_draw (α := Int) (b := b) (m := m + 15) D.int (fun ds acc => ∃ q', ds = q'.map D.int ∧ (acc ++ q').Sublist q) 1 hpa hS (fun _ => trivial) (by rw [rngD_len]; exact hm.le (by omega)) (by rw [rngD_len, sizeLine_eq]; omega) ⟨q, eq, by simp⟩ ?_ ?_
  · intro d ds acc l m R0 R1 S1 hS1 ⟨q', hq, hs⟩ hB r0 r1
    cases q' with
    | nil => cases hq
    | cons x q' =>
      simp at hq
      obtain ⟨rfl, rfl⟩ := hq
      refine ⟨_, rfl, ?_⟩
      simp [wipeD, cOf]
      refine take_sp (m := m) (by omega) (by omega) hS1 hB fun r l1 r1' r2' hm1 => ?_
      by_cases hr : r = 0
      · simp [hr]
        exact r1 x l1 ⟨q', rfl, by simpa using hs⟩ hm1
      · have hr' : (r == 0) = false := by simpa using hr
        simp [hr']
        exact r0 l1 ⟨q', rfl, ((List.sublist_cons_self x q').append_left acc).trans hs⟩ hm1
  · intro acc l2 ⟨q', hq, hs⟩ hB
    have : q' = [] := by cases q' <;> simp at hq <;> rfl
    subst this
    simp at hs
    have hacc : PrOk n acc := sub_ok hs ⟨fun x hx => by have := q1 x hx; omega, q2⟩
    rw [← en]
    simp [-p_cons]
    rw [p_cons]
    simp [-p_cons]
    refine take_sp (m := m + 14) (by omega) (by omega) ups_at hB fun f l3 f1 f2 hm3 => ?_
    simp [-p_cons, ups_ups]
    refine take_sp (m := m + 13) (by omega) (by omega) ups_at hm3 fun u l4 _ _ hm4 => ?_
    simp [-p_cons, ups_ups]
    refine take_sp (m := m + 12) (by omega) (by omega) ups_at hm4 fun o l5 _ _ hm5 => ?_
    simp [-p_cons, ups_ups]
    refine ⟨by omega, ?_⟩
    rw [p_cons, p_for, w_val rfl]
    simp [-p_cons]
    refine take_sp (m := m) (by omega) (by omega) ups_at (hm5.le (by omega)) fun r l6 r1 r2 hm6 => ?_
    simp [-p_cons, ups_ups]
    refine pick r1 (by simpa using r2) fun d hd => ?_
    obtain ⟨s, rfl, hs'⟩ := states_mem h1 h2 cs hd
    refine ⟨by omega, ?_⟩
    have et : D.tup [.int (1 + f), .bl (u == 0), .bl (o == 0), .tup (acc.map D.int)] = (⟨1 + f, u == 0, o == 0, acc⟩ : St4).d := rfl
    have hs2 : StOk n ⟨1 + f, u == 0, o == 0, acc⟩ := ⟨by show 1 ≤ 1 + f; omega, by show 1 + f ≤ n; omega, hacc⟩
    rw [et]
    refine ⟨trivial, ask hc h1 h2 hs' _ _ _ _ _ _ _ _ _ _ ⟨trivial, ask hc h1 h2 hs2 _ _ _ _ _ _ _ _ _ _ ⟨trivial, ?_⟩⟩⟩
    simp
    exact k l6 _ _ _ _ hm6
def restB : List Sx := [
    .set (.nm 5) (.call "_law_reach" spWays [.var 4, .var 3]),
    .set (.nm 6) (.bi .srtD [.bi (.lst false) [.var 5]]),
    .ite (.not (.call "_law_same" sp_same [.call "reachable" spReach [.var 4, .var 3], .var 6])) [
      .ret (.bl false)] [],
    .forr (.nm 7) (.rng1 (.int 3)) outB]
theorem rest_ok {n : Int} {cs : List Cl} (hc : CtlOk cs) (h1 : 2 ≤ n) (h2 : n ≤ 4) (En : DEnds) (S : Store) (l : List D) (b : Addr) (a0 a1 a5 a6 a7 a8 a9 a10 a11 : Option D) (hS : S b = some (.lst l)) (hm : BagL 100 l)
    (k : ∀ l' a5 a6 a7 a8 a9 a10 a11, En.nx [a0, a1, some (.ref b), some (.int n), some (ctlD cs), a5, a6, a7, a8, a9, a10, a11] (ups S b (.lst l'))) :
    semSs restB En [a0, a1, some (.ref b), some (.int n), some (ctlD cs), a5, a6, a7, a8, a9, a10, a11] S := by
  unfold restB
  rw [p_cons]
  simp [-p_cons]
  refine ⟨cs, n, rfl, hc, h1, h2, ?_⟩
  try dsimp only
  rw [p_cons]
  simp [-p_cons, n_lstD]
  rw [n_srtD (ds := ksD St4.d (waysF n cs)) rfl]
  refine ⟨sortOk_st _ (by have := ways_len h1 h2 cs; omega), ?_⟩
  try dsimp only
  rw [p_cons]
  simp [-p_cons]
  refine ⟨cs, n, rfl, hc, h1, h2, _, rfl, states_gd h1 h2 cs, ?_⟩
  simp [-p_cons]
  rw [p_cons, p_for]
  simp [-p_cons]
  have key : ∀ (r : Nat) (t : Int) (l : List D) (S1 : Store) (a7 a8 a9 a10 a11 : Option D), S1 b = some (.lst l) → BagL (20 * r) l → (∀ l', ups S1 b (.lst l') = ups S b (.lst l')) → 
      forS (fun _ => True) (.nm 7) (semSs outB) { nx := semSs [] En, rt := En.rt, bk := En.bk, ct := En.ct } (rngD t r) [a0, a1, some (.ref b), some (.int n), some (ctlD cs), some (.dic (ksD St4.d (waysF n cs)) (vsD planD (waysF n cs))), some (.lst (statesD (waysF n cs))), a7, a8, a9, a10, a11] S1 := by
    intro r
    induction r with
    | zero =>
      intro t l S1 a7 a8 a9 a10 a11 h1 hm he
      refine ⟨trivial, ?_⟩
      show semSs [] En _ _
      rw [p_nil]
      have : S1 = ups S b (.lst l) := by
        rw [← he l]
        funext x
        by_cases hx : x = b
        · subst hx; rw [ups_at, h1]
        · rw [ups_ne hx]
      rw [this]
      exact k l _ _ _ _ _ _ _
    | succ r ih =>
      intro t l S1 a7 a8 a9 a10 a11 h1' hm he
      refine ⟨trivial, ?_⟩
      refine turn hc h1 h2 _ S1 l (20 * r) b _ _ _ _ _ _ _ h1' (by rw [Nat.mul_succ] at hm; exact hm) fun l' a8 a9 a10 a11 hm' => ?_
      exact ih (t + 1) l' _ _ a8 a9 a10 a11 ups_at hm' fun l2 => by rw [ups_ups]; exact he l2
  exact key 3 0 l S a7 a8 a9 a10 a11 hS (hm.le (by omega)) fun l' => rfl
theorem law_ok : ∀ ds S Q, spLaw ds S Q → semSs (b_law spBags spTake spCtl spWays sp_same spReach spWayTo) (endsOf Q) (startD 12 ds) S := by
  rintro ds S Q ⟨ns, rfl, hl, _, hS, h⟩
  have z1 : sizeLine = 16777216 := sizeLine_eq
  unfold b_law startD
  simp only [p_cons, p_for, w_enm, o_call, o_cons, o_nil, o_var, o_int]
  simp
  refine ⟨ns, 4, rfl, by omega, hl, hS, fun bs S1 hB => ?_⟩
  simp
  refine for_bagsE (n := 12) (M := 1000000000000000) (fun _ => trivial) (fun t δ S b bs K hδ hB k => ?_) (fun δ S hδ => ?_) bs _ _ S1 hB rfl
  · obtain ⟨a0, a1, a2, a3, a4, a5, a6, a7, a8, a9, a10, a11, rfl⟩ := len12 hδ
    obtain ⟨l, hb, hl⟩ := hB.2 b (by simp)
    have hbs : ∀ x ∈ bs, x ≠ b := fun x hx e => (List.nodup_cons.mp hB.1).1 (e ▸ hx)
    try dsimp only
    rw [p_cons]
    simp [-p_cons]
    have fin : ∀ r l', 0 ≤ r → r < 3 → BagL 10100 l' → spCtl [D.ref b, D.int 5] (ups S b (.lst l')) fun e S2 => semSs restB { nx := K, rt := (endsOf Q).rt, bk := semSs [Sx.ret (Ex.bl true)] (endsOf Q), ct := K } [a0, some (D.int t), some (D.ref b), some (.int (2 + r)), some e, a5, a6, a7, a8, a9, a10, a11] S2 := fun r l1 r1 r2 hm1 => by
      refine ⟨b, 10000, l1, 5, rfl, by omega, by omega, ups_at, hm1, fun cs l2 hc1 hc2 hm2 => ?_⟩
      have hc : CtlOk cs := ⟨by have : cs.length ≤ 5 := hc1; omega, hc2⟩
      rw [ups_ups]
      refine rest_ok hc (by omega) (by omega) _ _ l2 b _ _ _ _ _ _ _ _ _ ups_at (hm2.le (by omega)) fun l' a5 a6 a7 a8 a9 a10 a11 => ?_
      rw [ups_ups]
      exact k _ _ rfl fun x hx => ups_ne (hbs x hx)
    refine cnd_i (fun _ => ?_) (fun _ => ?_)
    · refine take_sp (m := 10100) (by omega) (by omega) hb (hl.le (by omega)) fun r l1 r1 r2 hm1 => ?_
      simp [-p_cons]
      exact fin r l1 r1 r2 hm1
    · refine take_sp (m := 10100) (by omega) (by omega) hb (hl.le (by omega)) fun r l1 r1 r2 hm1 => ?_
      simp [-p_cons]
      exact fin r l1 r1 (by omega) hm1
  · obtain ⟨a0, a1, a2, a3, a4, a5, a6, a7, a8, a9, a10, a11, rfl⟩ := len12 hδ
    simp
    exact Ret.same (h _)
end K11
end Lf
set_option Elab.async false
set_option linter.all false
set_option maxRecDepth 100000
set_option maxHeartbeats 4000000
namespace Lf
namespace K11
open PySem PySem.Spec PyProof.Rows L2
def topS (i : Nat) : Stmt := PySem.Challenge.pw_litfloors_k11_whole_reachable_states.main.body.getD i (.Pass ⟨0, 0, 0, 0⟩)
theorem sc_is_whole : FnScope (["thing"] : List Str) ["thing"] (defScope (topS 6)) := ⟨rfl, rfl, rfl, by decide +kernel, rfl, by decide +kernel, by decide +kernel⟩
theorem ck_is_whole : chkSs (csOf (topS 6) ["thing"]) (b_is_whole) (defBody (topS 6)) = true := by kernel_rfl
theorem sc_is_within : FnScope (["thing", "low", "high"] : List Str) ["thing", "low", "high"] (defScope (topS 7)) := ⟨rfl, rfl, rfl, by decide +kernel, rfl, by decide +kernel, by decide +kernel⟩
theorem ck_is_within (s_is_whole : Spec) : chkSs (csOf (topS 7) ["thing", "low", "high"]) (b_is_within s_is_whole) (defBody (topS 7)) = true := by kernel_rfl
theorem sc_is_test : FnScope (["value"] : List Str) ["value"] (defScope (topS 14)) := ⟨rfl, rfl, rfl, by decide +kernel, rfl, by decide +kernel, by decide +kernel⟩
theorem ck_is_test : chkSs (csOf (topS 14) ["value"]) (b_is_test) (defBody (topS 14)) = true := by kernel_rfl
theorem sc_is_clause : FnScope (["value", "test"] : List Str) ["value"] (defScope (topS 15)) := ⟨rfl, rfl, rfl, by decide +kernel, rfl, by decide +kernel, by decide +kernel⟩
theorem ck_is_clause (s_is_test : Spec) : chkSs (csOf (topS 15) ["value", "test"]) (b_is_clause s_is_test) (defBody (topS 15)) = true := by kernel_rfl
theorem sc_is_controller : FnScope (["value", "clause"] : List Str) ["value"] (defScope (topS 16)) := ⟨rfl, rfl, rfl, by decide +kernel, rfl, by decide +kernel, by decide +kernel⟩
theorem ck_is_controller (s_is_clause : Spec) : chkSs (csOf (topS 16) ["value", "clause"]) (b_is_controller s_is_clause) (defBody (topS 16)) = true := by kernel_rfl
theorem sc_look_at_controller : FnScope (["controller"] : List Str) ["controller"] (defScope (topS 17)) := ⟨rfl, rfl, rfl, by decide +kernel, rfl, by decide +kernel, by decide +kernel⟩
theorem ck_look_at_controller (s_is_controller : Spec) : chkSs (csOf (topS 17) ["controller"]) (b_look_at_controller s_is_controller) (defBody (topS 17)) = true := by kernel_rfl
theorem sc_look_at_floors : FnScope (["floors"] : List Str) ["floors"] (defScope (topS 18)) := ⟨rfl, rfl, rfl, by decide +kernel, rfl, by decide +kernel, by decide +kernel⟩
theorem ck_look_at_floors (s_is_within : Spec) : chkSs (csOf (topS 18) ["floors"]) (b_look_at_floors s_is_within) (defBody (topS 18)) = true := by kernel_rfl
theorem sc_look_at : FnScope (["controller", "floors"] : List Str) ["controller", "floors"] (defScope (topS 19)) := ⟨rfl, rfl, rfl, by decide +kernel, rfl, by decide +kernel, by decide +kernel⟩
theorem ck_look_at (s_look_at_controller s_look_at_floors : Spec) : chkSs (csOf (topS 19) ["controller", "floors"]) (b_look_at s_look_at_controller s_look_at_floors) (defBody (topS 19)) = true := by kernel_rfl
theorem sc_are_floors : FnScope (["floors", "value", "floor", "one", "other"] : List Str) ["floors", "value"] (defScope (topS 20)) := ⟨rfl, rfl, rfl, by decide +kernel, rfl, by decide +kernel, by decide +kernel⟩
theorem ck_are_floors (s_is_within : Spec) : chkSs (csOf (topS 20) ["floors", "value", "floor", "one", "other"]) (b_are_floors s_is_within) (defBody (topS 20)) = true := by kernel_rfl
theorem sc_is_state : FnScope (["floors", "value"] : List Str) ["floors", "value"] (defScope (topS 21)) := ⟨rfl, rfl, rfl, by decide +kernel, rfl, by decide +kernel, by decide +kernel⟩
theorem ck_is_state (s_is_within s_are_floors : Spec) : chkSs (csOf (topS 21) ["floors", "value"]) (b_is_state s_is_within s_are_floors) (defBody (topS 21)) = true := by kernel_rfl
theorem sc_look_at_state : FnScope (["floors", "state"] : List Str) ["floors", "state"] (defScope (topS 22)) := ⟨rfl, rfl, rfl, by decide +kernel, rfl, by decide +kernel, by decide +kernel⟩
theorem ck_look_at_state (s_is_state : Spec) : chkSs (csOf (topS 22) ["floors", "state"]) (b_look_at_state s_is_state) (defBody (topS 22)) = true := by kernel_rfl
theorem sc_holds_plainly : FnScope (["word", "floors", "state", "floor", "up", "opened", "lit", "above", "below", "ahead", "behind", "other"] : List Str) ["word", "floors", "state"] (defScope (topS 23)) := ⟨rfl, rfl, rfl, by decide +kernel, rfl, by decide +kernel, by decide +kernel⟩
theorem ck_holds_plainly : chkSs (csOf (topS 23) ["word", "floors", "state", "floor", "up", "opened", "lit", "above", "below", "ahead", "behind", "other"]) (b_holds_plainly) (defBody (topS 23)) = true := by kernel_rfl
theorem sc_holds : FnScope (["test", "floors", "state"] : List Str) ["test", "floors", "state"] (defScope (topS 24)) := ⟨rfl, rfl, rfl, by decide +kernel, rfl, by decide +kernel, by decide +kernel⟩
theorem ck_holds (s_holds_plainly : Spec) : chkSs (csOf (topS 24) ["test", "floors", "state"]) (b_holds s_holds_plainly) (defBody (topS 24)) = true := by kernel_rfl
theorem sc_deciding : FnScope (["controller", "floors", "state", "index", "tests", "move", "test"] : List Str) ["controller", "floors", "state"] (defScope (topS 25)) := ⟨rfl, rfl, rfl, by decide +kernel, rfl, by decide +kernel, by decide +kernel⟩
theorem ck_deciding (s_holds : Spec) : chkSs (csOf (topS 25) ["controller", "floors", "state", "index", "tests", "move", "test"]) (b_deciding s_holds) (defBody (topS 25)) = true := by kernel_rfl
theorem sc_move_by : FnScope (["controller", "floors", "state", "index"] : List Str) ["controller", "floors", "state"] (defScope (topS 26)) := ⟨rfl, rfl, rfl, by decide +kernel, rfl, by decide +kernel, by decide +kernel⟩
theorem ck_move_by (s_deciding : Spec) : chkSs (csOf (topS 26) ["controller", "floors", "state", "index"]) (b_move_by s_deciding) (defBody (topS 26)) = true := by kernel_rfl
theorem sc_pressed_on : FnScope (["state", "pressed"] : List Str) ["state", "pressed"] (defScope (topS 30)) := ⟨rfl, rfl, rfl, by decide +kernel, rfl, by decide +kernel, by decide +kernel⟩
theorem ck_pressed_on : chkSs (csOf (topS 30) ["state", "pressed"]) (b_pressed_on) (defBody (topS 30)) = true := by kernel_rfl
theorem sc_moved : FnScope (["state", "move", "floors", "floor", "up", "opened", "lit", "other"] : List Str) ["state", "move", "floors"] (defScope (topS 31)) := ⟨rfl, rfl, rfl, by decide +kernel, rfl, by decide +kernel, by decide +kernel⟩
theorem ck_moved : chkSs (csOf (topS 31) ["state", "move", "floors", "floor", "up", "opened", "lit", "other"]) (b_moved) (defBody (topS 31)) = true := by kernel_rfl
theorem sc_tick_of : FnScope (["controller", "floors", "state", "pressed"] : List Str) ["controller", "floors", "state", "pressed"] (defScope (topS 32)) := ⟨rfl, rfl, rfl, by decide +kernel, rfl, by decide +kernel, by decide +kernel⟩
theorem ck_tick_of (s_pressed_on s_moved s_move_by : Spec) : chkSs (csOf (topS 32) ["controller", "floors", "state", "pressed"]) (b_tick_of s_pressed_on s_moved s_move_by) (defBody (topS 32)) = true := by kernel_rfl
theorem sc_pressings : FnScope (["floors", "found", "floor", "rest"] : List Str) ["floors"] (defScope (topS 29)) := ⟨rfl, rfl, rfl, by decide +kernel, rfl, by decide +kernel, by decide +kernel⟩
theorem ck_pressings : chkSs (csOf (topS 29) ["floors", "found", "floor", "rest"]) (b_pressings) (defBody (topS 29)) = true := by kernel_rfl
theorem sc_ways_by : FnScope (["controller", "floors", "found", "waiting", "every", "at", "state", "pressed", "behind"] : List Str) ["controller", "floors"] (defScope (topS 33)) := ⟨rfl, rfl, rfl, by decide +kernel, rfl, by decide +kernel, by decide +kernel⟩
theorem ck_ways_by (s_pressings s_tick_of : Spec) : chkSs (csOf (topS 33) ["controller", "floors", "found", "waiting", "every", "at", "state", "pressed", "behind"]) (b_ways_by s_pressings s_tick_of) (defBody (topS 33)) = true := by kernel_rfl
theorem sc_reachable : FnScope (["controller", "floors"] : List Str) ["controller", "floors"] (defScope (topS 34)) := ⟨rfl, rfl, rfl, by decide +kernel, rfl, by decide +kernel, by decide +kernel⟩
theorem ck_reachable (s_look_at s_ways_by : Spec) : chkSs (csOf (topS 34) ["controller", "floors"]) (b_reachable s_look_at s_ways_by) (defBody (topS 34)) = true := by kernel_rfl
theorem sc_way_to : FnScope (["controller", "floors", "state"] : List Str) ["controller", "floors", "state"] (defScope (topS 35)) := ⟨rfl, rfl, rfl, by decide +kernel, rfl, by decide +kernel, by decide +kernel⟩
theorem ck_way_to (s_look_at s_look_at_state s_ways_by : Spec) : chkSs (csOf (topS 35) ["controller", "floors", "state"]) (b_way_to s_look_at s_look_at_state s_ways_by) (defBody (topS 35)) = true := by kernel_rfl
theorem sc__law_well : FnScope (["cell", "turn"] : List Str) ["cell", "turn"] (defScope (topS 37)) := ⟨rfl, rfl, rfl, by decide +kernel, rfl, by decide +kernel, by decide +kernel⟩
theorem ck__law_well : chkSs (csOf (topS 37) ["cell", "turn"]) (b__law_well) (defBody (topS 37)) = true := by kernel_rfl
theorem sc__law_take : FnScope (["bag", "many", "found", "p", "n"] : List Str) ["bag", "many"] (defScope (topS 38)) := ⟨rfl, rfl, rfl, by decide +kernel, rfl, by decide +kernel, by decide +kernel⟩
theorem ck__law_take : chkSs (csOf (topS 38) ["bag", "many", "found", "p", "n"]) (b__law_take) (defBody (topS 38)) = true := by kernel_rfl
theorem sc__law_bags : FnScope (["script", "most", "k", "cell"] : List Str) ["script", "most"] (defScope (topS 39)) := ⟨rfl, rfl, rfl, by decide +kernel, rfl, by decide +kernel, by decide +kernel⟩
theorem ck__law_bags (s_law_well : Spec) : chkSs (csOf (topS 39) ["script", "most", "k", "cell"]) (b__law_bags s_law_well) (defBody (topS 39)) = true := by kernel_rfl
theorem sc__law_same : FnScope (["a", "b", "x", "y"] : List Str) ["a", "b"] (defScope (topS 40)) := ⟨rfl, rfl, rfl, by decide +kernel, rfl, by decide +kernel, by decide +kernel⟩
theorem ck__law_same (s_law_same : Spec) : chkSs (csOf (topS 40) ["a", "b", "x", "y"]) (b__law_same s_law_same) (defBody (topS 40)) = true := by kernel_rfl
theorem sc__law_plain : FnScope ([] : List Str) [] (defScope (topS 41)) := ⟨rfl, rfl, rfl, by decide +kernel, rfl, by decide +kernel, by decide +kernel⟩
theorem ck__law_plain : chkSs (csOf (topS 41) []) (b__law_plain) (defBody (topS 41)) = true := by kernel_rfl
theorem sc__law_fair : FnScope ([] : List Str) [] (defScope (topS 42)) := ⟨rfl, rfl, rfl, by decide +kernel, rfl, by decide +kernel, by decide +kernel⟩
theorem ck__law_fair (s_law_plain : Spec) : chkSs (csOf (topS 42) []) (b__law_fair s_law_plain) (defBody (topS 42)) = true := by kernel_rfl
theorem sc__law_test : FnScope (["bag", "word"] : List Str) ["bag"] (defScope (topS 43)) := ⟨rfl, rfl, rfl, by decide +kernel, rfl, by decide +kernel, by decide +kernel⟩
theorem ck__law_test (s_law_take : Spec) : chkSs (csOf (topS 43) ["bag", "word"]) (b__law_test s_law_take) (defBody (topS 43)) = true := by kernel_rfl
theorem sc__law_clause : FnScope (["bag", "many", "tests", "k"] : List Str) ["bag"] (defScope (topS 44)) := ⟨rfl, rfl, rfl, by decide +kernel, rfl, by decide +kernel, by decide +kernel⟩
theorem ck__law_clause (s_law_take s_law_test : Spec) : chkSs (csOf (topS 44) ["bag", "many", "tests", "k"]) (b__law_clause s_law_take s_law_test) (defBody (topS 44)) = true := by kernel_rfl
theorem sc__law_controller : FnScope (["bag", "most", "way", "found", "at", "k"] : List Str) ["bag", "most"] (defScope (topS 45)) := ⟨rfl, rfl, rfl, by decide +kernel, rfl, by decide +kernel, by decide +kernel⟩
theorem ck__law_controller (s_law_take s_law_clause s_law_plain s_law_fair : Spec) : chkSs (csOf (topS 45) ["bag", "most", "way", "found", "at", "k"]) (b__law_controller s_law_take s_law_clause s_law_plain s_law_fair) (defBody (topS 45)) = true := by kernel_rfl
theorem sc__law_side : FnScope (["state", "front", "floor", "up", "opened", "lit", "other"] : List Str) ["state", "front"] (defScope (topS 46)) := ⟨rfl, rfl, rfl, by decide +kernel, rfl, by decide +kernel, by decide +kernel⟩
theorem ck__law_side : chkSs (csOf (topS 46) ["state", "front", "floor", "up", "opened", "lit", "other"]) (b__law_side) (defBody (topS 46)) = true := by kernel_rfl
theorem sc__law_holds : FnScope (["test", "floors", "state", "floor", "up", "opened", "lit", "far", "other"] : List Str) ["test", "floors", "state"] (defScope (topS 47)) := ⟨rfl, rfl, rfl, by decide +kernel, rfl, by decide +kernel, by decide +kernel⟩
theorem ck__law_holds (s_law_holds s_law_side : Spec) : chkSs (csOf (topS 47) ["test", "floors", "state", "floor", "up", "opened", "lit", "far", "other"]) (b__law_holds s_law_holds s_law_side) (defBody (topS 47)) = true := by kernel_rfl
theorem sc__law_move : FnScope (["controller", "floors", "state", "tests", "move", "test"] : List Str) ["controller", "floors", "state"] (defScope (topS 48)) := ⟨rfl, rfl, rfl, by decide +kernel, rfl, by decide +kernel, by decide +kernel⟩
theorem ck__law_move (s_law_holds : Spec) : chkSs (csOf (topS 48) ["controller", "floors", "state", "tests", "move", "test"]) (b__law_move s_law_holds) (defBody (topS 48)) = true := by kernel_rfl
theorem sc__law_tick : FnScope (["controller", "floors", "state", "pressed", "floor", "up", "opened", "lit", "move", "other"] : List Str) ["controller", "floors", "state", "pressed"] (defScope (topS 49)) := ⟨rfl, rfl, rfl, by decide +kernel, rfl, by decide +kernel, by decide +kernel⟩
theorem ck__law_tick (s_law_move : Spec) : chkSs (csOf (topS 49) ["controller", "floors", "state", "pressed", "floor", "up", "opened", "lit", "move", "other"]) (b__law_tick s_law_move) (defBody (topS 49)) = true := by kernel_rfl
theorem sc__law_pressings : FnScope (["floors", "found", "floor", "pressed"] : List Str) ["floors"] (defScope (topS 50)) := ⟨rfl, rfl, rfl, by decide +kernel, rfl, by decide +kernel, by decide +kernel⟩
theorem ck__law_pressings : chkSs (csOf (topS 50) ["floors", "found", "floor", "pressed"]) (b__law_pressings) (defBody (topS 50)) = true := by kernel_rfl
theorem sc__law_reach : FnScope (["controller", "floors", "first", "found", "row", "at", "every", "state", "pressed", "behind"] : List Str) ["controller", "floors"] (defScope (topS 51)) := ⟨rfl, rfl, rfl, by decide +kernel, rfl, by decide +kernel, by decide +kernel⟩
theorem ck__law_reach (s_law_pressings s_law_tick : Spec) : chkSs (csOf (topS 51) ["controller", "floors", "first", "found", "row", "at", "every", "state", "pressed", "behind"]) (b__law_reach s_law_pressings s_law_tick) (defBody (topS 51)) = true := by kernel_rfl
theorem sc_law : FnScope (["script", "turn", "bag", "floors", "controller", "found", "states", "k", "lit", "other", "state", "floor"] : List Str) ["script"] (defScope (topS 52)) := ⟨rfl, rfl, rfl, by decide +kernel, rfl, by decide +kernel, by decide +kernel⟩
theorem ck_law (s_law_bags s_law_take s_law_controller s_law_reach s_law_same s_reachable s_way_to : Spec) : chkSs (csOf (topS 52) ["script", "turn", "bag", "floors", "controller", "found", "states", "k", "lit", "other", "state", "floor"]) (b_law s_law_bags s_law_take s_law_controller s_law_reach s_law_same s_reachable s_way_to) (defBody (topS 52)) = true := by kernel_rfl
structure Facts (W : KW) (mg : Str → Option Value) : Prop where
  blt : ∀ y ∈ bltN, mg (Str.ofString y) = none
  d_is_whole : DefAt W mg "is_whole" (topS 6) ["thing"]
  d_is_within : DefAt W mg "is_within" (topS 7) ["thing", "low", "high"]
  d_is_test : DefAt W mg "is_test" (topS 14) ["value"]
  d_is_clause : DefAt W mg "is_clause" (topS 15) ["value"]
  d_is_controller : DefAt W mg "is_controller" (topS 16) ["value"]
  d_look_at_controller : DefAt W mg "look_at_controller" (topS 17) ["controller"]
  d_look_at_floors : DefAt W mg "look_at_floors" (topS 18) ["floors"]
  d_look_at : DefAt W mg "look_at" (topS 19) ["controller", "floors"]
  d_are_floors : DefAt W mg "are_floors" (topS 20) ["floors", "value"]
  d_is_state : DefAt W mg "is_state" (topS 21) ["floors", "value"]
  d_look_at_state : DefAt W mg "look_at_state" (topS 22) ["floors", "state"]
  d_holds_plainly : DefAt W mg "holds_plainly" (topS 23) ["word", "floors", "state"]
  d_holds : DefAt W mg "holds" (topS 24) ["test", "floors", "state"]
  d_deciding : DefAt W mg "deciding" (topS 25) ["controller", "floors", "state"]
  d_move_by : DefAt W mg "move_by" (topS 26) ["controller", "floors", "state"]
  d_pressed_on : DefAt W mg "pressed_on" (topS 30) ["state", "pressed"]
  d_moved : DefAt W mg "moved" (topS 31) ["state", "move", "floors"]
  d_tick_of : DefAt W mg "tick_of" (topS 32) ["controller", "floors", "state", "pressed"]
  d_pressings : DefAt W mg "pressings" (topS 29) ["floors"]
  d_ways_by : DefAt W mg "ways_by" (topS 33) ["controller", "floors"]
  d_reachable : DefAt W mg "reachable" (topS 34) ["controller", "floors"]
  d_way_to : DefAt W mg "way_to" (topS 35) ["controller", "floors", "state"]
  d__law_well : DefAt W mg "_law_well" (topS 37) ["cell", "turn"]
  d__law_take : DefAt W mg "_law_take" (topS 38) ["bag", "many"]
  d__law_bags : DefAt W mg "_law_bags" (topS 39) ["script", "most"]
  d__law_same : DefAt W mg "_law_same" (topS 40) ["a", "b"]
  d__law_plain : DefAt W mg "_law_plain" (topS 41) []
  d__law_fair : DefAt W mg "_law_fair" (topS 42) []
  d__law_test : DefAt W mg "_law_test" (topS 43) ["bag"]
  d__law_clause : DefAt W mg "_law_clause" (topS 44) ["bag"]
  d__law_controller : DefAt W mg "_law_controller" (topS 45) ["bag", "most"]
  d__law_side : DefAt W mg "_law_side" (topS 46) ["state", "front"]
  d__law_holds : DefAt W mg "_law_holds" (topS 47) ["test", "floors", "state"]
  d__law_move : DefAt W mg "_law_move" (topS 48) ["controller", "floors", "state"]
  d__law_tick : DefAt W mg "_law_tick" (topS 49) ["controller", "floors", "state", "pressed"]
  d__law_pressings : DefAt W mg "_law_pressings" (topS 50) ["floors"]
  d__law_reach : DefAt W mg "_law_reach" (topS 51) ["controller", "floors"]
  d_law : DefAt W mg "law" (topS 52) ["script"]
  g_WORDS : GlG W mg "WORDS" g_WORDS
  g_MOST_TESTS : GlG W mg "MOST_TESTS" g_MOST_TESTS
  g_MOVES : GlG W mg "MOVES" g_MOVES
  g_MOST_CLAUSES : GlG W mg "MOST_CLAUSES" g_MOST_CLAUSES
  g_MOST_CONTROLLED : GlG W mg "MOST_CONTROLLED" g_MOST_CONTROLLED
  g_START : GlG W mg "START" g_START
theorem chain {W : KW} {mg : Str → Option Value} (F : Facts W mg) (base : Heap) : usesSs (tbOf W mg base 100) (b_law spBags spTake spCtl spWays sp_same spReach spWayTo) := by
  have g_WORDS := F.g_WORDS
  have g_MOST_TESTS := F.g_MOST_TESTS
  have g_MOVES := F.g_MOVES
  have g_MOST_CLAUSES := F.g_MOST_CLAUSES
  have g_MOST_CONTROLLED := F.g_MOST_CONTROLLED
  have g_START := F.g_START
  have x0 : FnG W mg base 1 "is_whole" (spB wholeB 61 10) := fn_g F.d_is_whole sc_is_whole rfl F.blt (ck_is_whole) (by unfold b_is_whole; simp only [usesSs, usesS, uses, usess, tbOf, and_true, true_and]; try (repeat' (first | assumption | exact FnG.mono (by assumption) (by decide) | apply And.intro))) (by rintro ds St Q ⟨_, rfl, _⟩; rfl) (law_is_whole 61 10)
  have x1 : FnG W mg base 2 "is_within" (spWithin 61 10) := fn_g F.d_is_within sc_is_within rfl F.blt (ck_is_within (spB wholeB 61 10)) (by unfold b_is_within; simp only [usesSs, usesS, uses, usess, tbOf, and_true, true_and]; try (repeat' (first | assumption | exact FnG.mono (by assumption) (by decide) | apply And.intro))) (by rintro ds St Q ⟨_, _, _, rfl, _⟩; rfl) (law_is_within 61 10)
  have x2 : FnG W mg base 1 "is_test" (spB testB 61 9) := fn_g F.d_is_test sc_is_test rfl F.blt (ck_is_test) (by unfold b_is_test; simp only [usesSs, usesS, uses, usess, tbOf, and_true, true_and]; try (repeat' (first | assumption | exact FnG.mono (by assumption) (by decide) | apply And.intro))) (by rintro ds St Q ⟨_, rfl, _⟩; rfl) (law_is_test 61 9)
  have x3 : FnG W mg base 2 "is_clause" (spB clauseB 61 11) := fn_g F.d_is_clause sc_is_clause rfl F.blt (ck_is_clause (spB testB 61 9)) (by unfold b_is_clause; simp only [usesSs, usesS, uses, usess, tbOf, and_true, true_and]; try (repeat' (first | assumption | exact FnG.mono (by assumption) (by decide) | apply And.intro))) (by rintro ds St Q ⟨_, rfl, _⟩; rfl) (law_is_clause 61 9 (by decide))
  have x4 : FnG W mg base 3 "is_controller" (spB ctlB 61 12) := fn_g F.d_is_controller sc_is_controller rfl F.blt (ck_is_controller (spB clauseB 61 11)) (by unfold b_is_controller; simp only [usesSs, usesS, uses, usess, tbOf, and_true, true_and]; try (repeat' (first | assumption | exact FnG.mono (by assumption) (by decide) | apply And.intro))) (by rintro ds St Q ⟨_, rfl, _⟩; rfl) (law_is_controller 61 9 (by decide))
  have x5 : FnG W mg base 4 "look_at_controller" (spLookC) := fn_g F.d_look_at_controller sc_look_at_controller rfl F.blt (ck_look_at_controller (spB ctlB 61 12)) (by unfold b_look_at_controller; simp only [usesSs, usesS, uses, usess, tbOf, and_true, true_and]; try (repeat' (first | assumption | exact FnG.mono (by assumption) (by decide) | apply And.intro))) (by rintro ds St Q ⟨_, rfl, _⟩; rfl) (law_look_c)
  have x6 : FnG W mg base 3 "look_at_floors" (spLookF) := fn_g F.d_look_at_floors sc_look_at_floors rfl F.blt (ck_look_at_floors (spWithin 61 10)) (by unfold b_look_at_floors; simp only [usesSs, usesS, uses, usess, tbOf, and_true, true_and]; try (repeat' (first | assumption | exact FnG.mono (by assumption) (by decide) | apply And.intro))) (by rintro ds St Q ⟨_, rfl, _⟩; rfl) (law_look_f 61 10)
  have x7 : FnG W mg base 5 "look_at" (spLook) := fn_g F.d_look_at sc_look_at rfl F.blt (ck_look_at spLookC spLookF) (by unfold b_look_at; simp only [usesSs, usesS, uses, usess, tbOf, and_true, true_and]; try (repeat' (first | assumption | exact FnG.mono (by assumption) (by decide) | apply And.intro))) (by rintro ds St Q ⟨_, _, rfl, _⟩; rfl) (law_look)
  have x8 : FnG W mg base 3 "are_floors" (spFloors 61 11) := fn_g F.d_are_floors sc_are_floors rfl F.blt (ck_are_floors (spWithin 61 10)) (by unfold b_are_floors; simp only [usesSs, usesS, uses, usess, tbOf, and_true, true_and]; try (repeat' (first | assumption | exact FnG.mono (by assumption) (by decide) | apply And.intro))) (by rintro ds St Q ⟨_, _, rfl, _⟩; rfl) (law_are_floors 61 10 (by decide))
  have x9 : FnG W mg base 4 "is_state" (spIsSt) := fn_g F.d_is_state sc_is_state rfl F.blt (ck_is_state (spWithin 61 10) (spFloors 61 11)) (by unfold b_is_state; simp only [usesSs, usesS, uses, usess, tbOf, and_true, true_and]; try (repeat' (first | assumption | exact FnG.mono (by assumption) (by decide) | apply And.intro))) (by rintro ds St Q ⟨_, _, rfl, _⟩; rfl) (law_is_st)
  have x10 : FnG W mg base 5 "look_at_state" (spLookS) := fn_g F.d_look_at_state sc_look_at_state rfl F.blt (ck_look_at_state spIsSt) (by unfold b_look_at_state; simp only [usesSs, usesS, uses, usess, tbOf, and_true, true_and]; try (repeat' (first | assumption | exact FnG.mono (by assumption) (by decide) | apply And.intro))) (by rintro ds St Q ⟨_, _, rfl, _⟩; rfl) (law_look_s)
  have x11 : FnG W mg base 1 "holds_plainly" (spPlain) := fn_g F.d_holds_plainly sc_holds_plainly rfl F.blt (ck_holds_plainly) (by unfold b_holds_plainly; simp only [usesSs, usesS, uses, usess, tbOf, and_true, true_and]; try (repeat' (first | assumption | exact FnG.mono (by assumption) (by decide) | apply And.intro))) (by rintro ds St Q ⟨_, _, _, rfl, _⟩; rfl) (law_plainly)
  have x12 : FnG W mg base 2 "holds" (spHolds) := fn_g F.d_holds sc_holds rfl F.blt (ck_holds spPlain) (by unfold b_holds; simp only [usesSs, usesS, uses, usess, tbOf, and_true, true_and]; try (repeat' (first | assumption | exact FnG.mono (by assumption) (by decide) | apply And.intro))) (by rintro ds St Q ⟨_, _, _, rfl, _⟩; rfl) (law_holds)
  have x13 : FnG W mg base 3 "deciding" (spDecide) := fn_g F.d_deciding sc_deciding rfl F.blt (ck_deciding spHolds) (by unfold b_deciding; simp only [usesSs, usesS, uses, usess, tbOf, and_true, true_and]; try (repeat' (first | assumption | exact FnG.mono (by assumption) (by decide) | apply And.intro))) (by rintro ds St Q ⟨_, _, _, rfl, _⟩; rfl) (law_deciding)
  have x14 : FnG W mg base 4 "move_by" (spMove) := fn_g F.d_move_by sc_move_by rfl F.blt (ck_move_by spDecide) (by unfold b_move_by; simp only [usesSs, usesS, uses, usess, tbOf, and_true, true_and]; try (repeat' (first | assumption | exact FnG.mono (by assumption) (by decide) | apply And.intro))) (by rintro ds St Q ⟨_, _, _, rfl, _⟩; rfl) (law_move_by)
  have x15 : FnG W mg base 1 "pressed_on" (spOn) := fn_g F.d_pressed_on sc_pressed_on rfl F.blt (ck_pressed_on) (by unfold b_pressed_on; simp only [usesSs, usesS, uses, usess, tbOf, and_true, true_and]; try (repeat' (first | assumption | exact FnG.mono (by assumption) (by decide) | apply And.intro))) (by rintro ds St Q ⟨_, _, rfl, _⟩; rfl) (law_on)
  have x16 : FnG W mg base 1 "moved" (spMoved) := fn_g F.d_moved sc_moved rfl F.blt (ck_moved) (by unfold b_moved; simp only [usesSs, usesS, uses, usess, tbOf, and_true, true_and]; try (repeat' (first | assumption | exact FnG.mono (by assumption) (by decide) | apply And.intro))) (by rintro ds St Q ⟨_, _, _, rfl, _⟩; rfl) (law_moved)
  have x17 : FnG W mg base 5 "tick_of" (spTick) := fn_g F.d_tick_of sc_tick_of rfl F.blt (ck_tick_of spOn spMoved spMove) (by unfold b_tick_of; simp only [usesSs, usesS, uses, usess, tbOf, and_true, true_and]; try (repeat' (first | assumption | exact FnG.mono (by assumption) (by decide) | apply And.intro))) (by rintro ds St Q ⟨_, _, _, _, rfl, _⟩; rfl) (law_tick_of)
  have x18 : FnG W mg base 1 "pressings" (spPrs) := fn_g F.d_pressings sc_pressings rfl F.blt (ck_pressings) (by unfold b_pressings; simp only [usesSs, usesS, uses, usess, tbOf, and_true, true_and]; try (repeat' (first | assumption | exact FnG.mono (by assumption) (by decide) | apply And.intro))) (by rintro ds St Q ⟨_, rfl, _⟩; rfl) (law_pressings)
  have x19 : FnG W mg base 6 "ways_by" (spWays) := fn_g F.d_ways_by sc_ways_by rfl F.blt (ck_ways_by spPrs spTick) (by unfold b_ways_by; simp only [usesSs, usesS, uses, usess, tbOf, and_true, true_and]; try (repeat' (first | assumption | exact FnG.mono (by assumption) (by decide) | apply And.intro))) (by rintro ds St Q ⟨_, _, rfl, _⟩; rfl) (law_ways_by)
  have x20 : FnG W mg base 7 "reachable" (spReach) := fn_g F.d_reachable sc_reachable rfl F.blt (ck_reachable spLook spWays) (by unfold b_reachable; simp only [usesSs, usesS, uses, usess, tbOf, and_true, true_and]; try (repeat' (first | assumption | exact FnG.mono (by assumption) (by decide) | apply And.intro))) (by rintro ds St Q ⟨_, _, rfl, _⟩; rfl) (law_reachable)
  have x21 : FnG W mg base 7 "way_to" (spWayTo) := fn_g F.d_way_to sc_way_to rfl F.blt (ck_way_to spLook spLookS spWays) (by unfold b_way_to; simp only [usesSs, usesS, uses, usess, tbOf, and_true, true_and]; try (repeat' (first | assumption | exact FnG.mono (by assumption) (by decide) | apply And.intro))) (by rintro ds St Q ⟨_, _, _, rfl, _⟩; rfl) (law_way_to)
  have x22 : FnG W mg base 1 "_law_well" (spWell) := fn_g F.d__law_well sc__law_well rfl F.blt (ck__law_well) (by unfold b__law_well; simp only [usesSs, usesS, uses, usess, tbOf, and_true, true_and]; try (repeat' (first | assumption | exact FnG.mono (by assumption) (by decide) | apply And.intro))) (by rintro ds St Q ⟨_, _, rfl, _⟩; rfl) (law_well)
  have x23 : FnG W mg base 1 "_law_take" (spTake) := fn_g F.d__law_take sc__law_take rfl F.blt (ck__law_take) (by unfold b__law_take; simp only [usesSs, usesS, uses, usess, tbOf, and_true, true_and]; try (repeat' (first | assumption | exact FnG.mono (by assumption) (by decide) | apply And.intro))) (by rintro ds St Q ⟨_, _, _, _, rfl, _⟩; rfl) (law_take)
  have x24 : FnG W mg base 2 "_law_bags" (spBags) := fn_g F.d__law_bags sc__law_bags rfl F.blt (ck__law_bags spWell) (by unfold b__law_bags; simp only [usesSs, usesS, uses, usess, tbOf, and_true, true_and]; try (repeat' (first | assumption | exact FnG.mono (by assumption) (by decide) | apply And.intro))) (by rintro ds St Q ⟨_, _, rfl, _⟩; rfl) (law_bags)
  have same : ∀ n, FnG W mg base (n + 1) "_law_same" (spSame 100000 n) := by
    intro n
    induction n with
    | zero =>
      have y : FnG W mg base 0 "_law_same" (fun _ _ _ => False) := fn_none F.d__law_same fun _ _ _ h => h
      exact fn_g F.d__law_same sc__law_same rfl F.blt (ck__law_same (fun _ _ _ => False)) (by unfold b__law_same; simp only [usesSs, usesS, uses, usess, tbOf, and_true, true_and]; try (repeat' (first | assumption | exact FnG.mono (by assumption) (by decide) | apply And.intro))) (by rintro ds St Q ⟨_, rfl, _⟩; rfl) (law_same 100000 0 (by decide) _ fun m h => by omega)
    | succ n ih => exact fn_g F.d__law_same sc__law_same rfl F.blt (ck__law_same (spSame 100000 n)) (by unfold b__law_same; simp only [usesSs, usesS, uses, usess, tbOf, and_true, true_and]; try (repeat' (first | assumption | exact FnG.mono (by assumption) (by decide) | apply And.intro))) (by rintro ds St Q ⟨_, rfl, _⟩; rfl) (law_same 100000 (n + 1) (by decide) _ fun m h => by cases h; rfl)
  have same12 := same 12
  have x25 : FnG W mg base 1 "_law_plain" (spConst (ctlD plainC)) := fn_g F.d__law_plain sc__law_plain rfl F.blt (ck__law_plain) (by unfold b__law_plain; simp only [usesSs, usesS, uses, usess, tbOf, and_true, true_and]; try (repeat' (first | assumption | exact FnG.mono (by assumption) (by decide) | apply And.intro))) (by rintro ds St Q ⟨rfl, _⟩; rfl) (law_plain)
  have x26 : FnG W mg base 2 "_law_fair" (spConst (ctlD fairC)) := fn_g F.d__law_fair sc__law_fair rfl F.blt (ck__law_fair (spConst (ctlD plainC))) (by unfold b__law_fair; simp only [usesSs, usesS, uses, usess, tbOf, and_true, true_and]; try (repeat' (first | assumption | exact FnG.mono (by assumption) (by decide) | apply And.intro))) (by rintro ds St Q ⟨rfl, _⟩; rfl) (law_fair)
  have x27 : FnG W mg base 2 "_law_test" (spTest) := fn_g F.d__law_test sc__law_test rfl F.blt (ck__law_test spTake) (by unfold b__law_test; simp only [usesSs, usesS, uses, usess, tbOf, and_true, true_and]; try (repeat' (first | assumption | exact FnG.mono (by assumption) (by decide) | apply And.intro))) (by rintro ds St Q ⟨_, _, _, _, rfl, rfl, _⟩; rfl) (law_test)
  have x28 : FnG W mg base 3 "_law_clause" (spClause) := fn_g F.d__law_clause sc__law_clause rfl F.blt (ck__law_clause spTake spTest) (by unfold b__law_clause; simp only [usesSs, usesS, uses, usess, tbOf, and_true, true_and]; try (repeat' (first | assumption | exact FnG.mono (by assumption) (by decide) | apply And.intro))) (by rintro ds St Q ⟨_, _, _, _, rfl, rfl, _⟩; rfl) (law_clause)
  have x29 : FnG W mg base 4 "_law_controller" (spCtl) := fn_g F.d__law_controller sc__law_controller rfl F.blt (ck__law_controller spTake spClause (spConst (ctlD plainC)) (spConst (ctlD fairC))) (by unfold b__law_controller; simp only [usesSs, usesS, uses, usess, tbOf, and_true, true_and]; try (repeat' (first | assumption | exact FnG.mono (by assumption) (by decide) | apply And.intro))) (by rintro ds St Q ⟨_, _, _, _, rfl, _⟩; rfl) (law_ctl)
  have x30 : FnG W mg base 1 "_law_side" (spSide) := fn_g F.d__law_side sc__law_side rfl F.blt (ck__law_side) (by unfold b__law_side; simp only [usesSs, usesS, uses, usess, tbOf, and_true, true_and]; try (repeat' (first | assumption | exact FnG.mono (by assumption) (by decide) | apply And.intro))) (by rintro ds St Q ⟨_, _, rfl, _⟩; rfl) (law_side)
  have lh0 : FnG W mg base 2 "_law_holds" spLHolds0 := by
    have y : FnG W mg base 0 "_law_holds" (fun _ _ _ => False) := fn_none F.d__law_holds fun _ _ _ h => h
    exact fn_g F.d__law_holds sc__law_holds rfl F.blt (ck__law_holds (fun _ _ _ => False) spSide) (by unfold b__law_holds; simp only [usesSs, usesS, uses, usess, tbOf, and_true, true_and]; try (repeat' (first | assumption | exact FnG.mono (by assumption) (by decide) | apply And.intro))) (by rintro ds St Q ⟨_, _, _, rfl, _⟩; rfl) (law_lholds0 _)
  have lh : FnG W mg base 3 "_law_holds" spLHolds := fn_g F.d__law_holds sc__law_holds rfl F.blt (ck__law_holds spLHolds0 spSide) (by unfold b__law_holds; simp only [usesSs, usesS, uses, usess, tbOf, and_true, true_and]; try (repeat' (first | assumption | exact FnG.mono (by assumption) (by decide) | apply And.intro))) (by rintro ds St Q ⟨_, _, _, rfl, _⟩; rfl) law_lholds
  have x31 : FnG W mg base 4 "_law_move" (spLMove) := fn_g F.d__law_move sc__law_move rfl F.blt (ck__law_move spLHolds) (by unfold b__law_move; simp only [usesSs, usesS, uses, usess, tbOf, and_true, true_and]; try (repeat' (first | assumption | exact FnG.mono (by assumption) (by decide) | apply And.intro))) (by rintro ds St Q ⟨_, _, _, rfl, _⟩; rfl) (law_lmove)
  have x32 : FnG W mg base 5 "_law_tick" (spTick) := fn_g F.d__law_tick sc__law_tick rfl F.blt (ck__law_tick spLMove) (by unfold b__law_tick; simp only [usesSs, usesS, uses, usess, tbOf, and_true, true_and]; try (repeat' (first | assumption | exact FnG.mono (by assumption) (by decide) | apply And.intro))) (by rintro ds St Q ⟨_, _, _, _, rfl, _⟩; rfl) (law_ltick)
  have x33 : FnG W mg base 1 "_law_pressings" (spPrs) := fn_g F.d__law_pressings sc__law_pressings rfl F.blt (ck__law_pressings) (by unfold b__law_pressings; simp only [usesSs, usesS, uses, usess, tbOf, and_true, true_and]; try (repeat' (first | assumption | exact FnG.mono (by assumption) (by decide) | apply And.intro))) (by rintro ds St Q ⟨_, rfl, _⟩; rfl) (law_lpressings)
  have x34 : FnG W mg base 6 "_law_reach" (spWays) := fn_g F.d__law_reach sc__law_reach rfl F.blt (ck__law_reach spPrs spTick) (by unfold b__law_reach; simp only [usesSs, usesS, uses, usess, tbOf, and_true, true_and]; try (repeat' (first | assumption | exact FnG.mono (by assumption) (by decide) | apply And.intro))) (by rintro ds St Q ⟨_, _, rfl, _⟩; rfl) (law_lreach)
  unfold b_law; simp only [usesSs, usesS, uses, usess, tbOf, and_true, true_and]; try (repeat' (first | assumption | exact FnG.mono (by assumption) (by decide) | apply And.intro))
theorem facts_mk {P : Program} {w : World} {K : PySem.W.Frag} {h : Heap} {mg : Str → Option Value} (X : K.In h) (G : h.Ns mainGlobals mg)
{f0 : Addr} {od0 an0 : Option Addr} {sl0 : Array (Option Value)} {oc0 kV0 dc0 pm0 cd0 ct0 : Value}
    (a0 : PySem.W.nsIn K mainGlobals (Str.ofString "is_whole") = some (some (.ref f0))) (l0 : K.lookup f0 = some ⟨oc0, od0, .func (PySem.W.fnOf (Str.ofString "is_whole") (Str.ofString "is_whole") (defArgs (topS 6)) (defBody (topS 6)) (defScope (topS 6)) .none kV0 dc0 pm0 an0 cd0 ct0), sl0⟩) (c0 : PySem.W.codeIn K cd0 (Str.ofString "is_whole") = true) (k0 : PySem.W.keepIn K (.ref f0) = true)
{f1 : Addr} {od1 an1 : Option Addr} {sl1 : Array (Option Value)} {oc1 kV1 dc1 pm1 cd1 ct1 : Value}
    (a1 : PySem.W.nsIn K mainGlobals (Str.ofString "is_within") = some (some (.ref f1))) (l1 : K.lookup f1 = some ⟨oc1, od1, .func (PySem.W.fnOf (Str.ofString "is_within") (Str.ofString "is_within") (defArgs (topS 7)) (defBody (topS 7)) (defScope (topS 7)) .none kV1 dc1 pm1 an1 cd1 ct1), sl1⟩) (c1 : PySem.W.codeIn K cd1 (Str.ofString "is_within") = true) (k1 : PySem.W.keepIn K (.ref f1) = true)
{f2 : Addr} {od2 an2 : Option Addr} {sl2 : Array (Option Value)} {oc2 kV2 dc2 pm2 cd2 ct2 : Value}
    (a2 : PySem.W.nsIn K mainGlobals (Str.ofString "is_test") = some (some (.ref f2))) (l2 : K.lookup f2 = some ⟨oc2, od2, .func (PySem.W.fnOf (Str.ofString "is_test") (Str.ofString "is_test") (defArgs (topS 14)) (defBody (topS 14)) (defScope (topS 14)) .none kV2 dc2 pm2 an2 cd2 ct2), sl2⟩) (c2 : PySem.W.codeIn K cd2 (Str.ofString "is_test") = true) (k2 : PySem.W.keepIn K (.ref f2) = true)
{f3 : Addr} {od3 an3 : Option Addr} {sl3 : Array (Option Value)} {oc3 kV3 dc3 pm3 cd3 ct3 : Value}
    (a3 : PySem.W.nsIn K mainGlobals (Str.ofString "is_clause") = some (some (.ref f3))) (l3 : K.lookup f3 = some ⟨oc3, od3, .func (PySem.W.fnOf (Str.ofString "is_clause") (Str.ofString "is_clause") (defArgs (topS 15)) (defBody (topS 15)) (defScope (topS 15)) .none kV3 dc3 pm3 an3 cd3 ct3), sl3⟩) (c3 : PySem.W.codeIn K cd3 (Str.ofString "is_clause") = true) (k3 : PySem.W.keepIn K (.ref f3) = true)
{f4 : Addr} {od4 an4 : Option Addr} {sl4 : Array (Option Value)} {oc4 kV4 dc4 pm4 cd4 ct4 : Value}
    (a4 : PySem.W.nsIn K mainGlobals (Str.ofString "is_controller") = some (some (.ref f4))) (l4 : K.lookup f4 = some ⟨oc4, od4, .func (PySem.W.fnOf (Str.ofString "is_controller") (Str.ofString "is_controller") (defArgs (topS 16)) (defBody (topS 16)) (defScope (topS 16)) .none kV4 dc4 pm4 an4 cd4 ct4), sl4⟩) (c4 : PySem.W.codeIn K cd4 (Str.ofString "is_controller") = true) (k4 : PySem.W.keepIn K (.ref f4) = true)
{f5 : Addr} {od5 an5 : Option Addr} {sl5 : Array (Option Value)} {oc5 kV5 dc5 pm5 cd5 ct5 : Value}
    (a5 : PySem.W.nsIn K mainGlobals (Str.ofString "look_at_controller") = some (some (.ref f5))) (l5 : K.lookup f5 = some ⟨oc5, od5, .func (PySem.W.fnOf (Str.ofString "look_at_controller") (Str.ofString "look_at_controller") (defArgs (topS 17)) (defBody (topS 17)) (defScope (topS 17)) .none kV5 dc5 pm5 an5 cd5 ct5), sl5⟩) (c5 : PySem.W.codeIn K cd5 (Str.ofString "look_at_controller") = true) (k5 : PySem.W.keepIn K (.ref f5) = true)
{f6 : Addr} {od6 an6 : Option Addr} {sl6 : Array (Option Value)} {oc6 kV6 dc6 pm6 cd6 ct6 : Value}
    (a6 : PySem.W.nsIn K mainGlobals (Str.ofString "look_at_floors") = some (some (.ref f6))) (l6 : K.lookup f6 = some ⟨oc6, od6, .func (PySem.W.fnOf (Str.ofString "look_at_floors") (Str.ofString "look_at_floors") (defArgs (topS 18)) (defBody (topS 18)) (defScope (topS 18)) .none kV6 dc6 pm6 an6 cd6 ct6), sl6⟩) (c6 : PySem.W.codeIn K cd6 (Str.ofString "look_at_floors") = true) (k6 : PySem.W.keepIn K (.ref f6) = true)
{f7 : Addr} {od7 an7 : Option Addr} {sl7 : Array (Option Value)} {oc7 kV7 dc7 pm7 cd7 ct7 : Value}
    (a7 : PySem.W.nsIn K mainGlobals (Str.ofString "look_at") = some (some (.ref f7))) (l7 : K.lookup f7 = some ⟨oc7, od7, .func (PySem.W.fnOf (Str.ofString "look_at") (Str.ofString "look_at") (defArgs (topS 19)) (defBody (topS 19)) (defScope (topS 19)) .none kV7 dc7 pm7 an7 cd7 ct7), sl7⟩) (c7 : PySem.W.codeIn K cd7 (Str.ofString "look_at") = true) (k7 : PySem.W.keepIn K (.ref f7) = true)
{f8 : Addr} {od8 an8 : Option Addr} {sl8 : Array (Option Value)} {oc8 kV8 dc8 pm8 cd8 ct8 : Value}
    (a8 : PySem.W.nsIn K mainGlobals (Str.ofString "are_floors") = some (some (.ref f8))) (l8 : K.lookup f8 = some ⟨oc8, od8, .func (PySem.W.fnOf (Str.ofString "are_floors") (Str.ofString "are_floors") (defArgs (topS 20)) (defBody (topS 20)) (defScope (topS 20)) .none kV8 dc8 pm8 an8 cd8 ct8), sl8⟩) (c8 : PySem.W.codeIn K cd8 (Str.ofString "are_floors") = true) (k8 : PySem.W.keepIn K (.ref f8) = true)
{f9 : Addr} {od9 an9 : Option Addr} {sl9 : Array (Option Value)} {oc9 kV9 dc9 pm9 cd9 ct9 : Value}
    (a9 : PySem.W.nsIn K mainGlobals (Str.ofString "is_state") = some (some (.ref f9))) (l9 : K.lookup f9 = some ⟨oc9, od9, .func (PySem.W.fnOf (Str.ofString "is_state") (Str.ofString "is_state") (defArgs (topS 21)) (defBody (topS 21)) (defScope (topS 21)) .none kV9 dc9 pm9 an9 cd9 ct9), sl9⟩) (c9 : PySem.W.codeIn K cd9 (Str.ofString "is_state") = true) (k9 : PySem.W.keepIn K (.ref f9) = true)
{f10 : Addr} {od10 an10 : Option Addr} {sl10 : Array (Option Value)} {oc10 kV10 dc10 pm10 cd10 ct10 : Value}
    (a10 : PySem.W.nsIn K mainGlobals (Str.ofString "look_at_state") = some (some (.ref f10))) (l10 : K.lookup f10 = some ⟨oc10, od10, .func (PySem.W.fnOf (Str.ofString "look_at_state") (Str.ofString "look_at_state") (defArgs (topS 22)) (defBody (topS 22)) (defScope (topS 22)) .none kV10 dc10 pm10 an10 cd10 ct10), sl10⟩) (c10 : PySem.W.codeIn K cd10 (Str.ofString "look_at_state") = true) (k10 : PySem.W.keepIn K (.ref f10) = true)
{f11 : Addr} {od11 an11 : Option Addr} {sl11 : Array (Option Value)} {oc11 kV11 dc11 pm11 cd11 ct11 : Value}
    (a11 : PySem.W.nsIn K mainGlobals (Str.ofString "holds_plainly") = some (some (.ref f11))) (l11 : K.lookup f11 = some ⟨oc11, od11, .func (PySem.W.fnOf (Str.ofString "holds_plainly") (Str.ofString "holds_plainly") (defArgs (topS 23)) (defBody (topS 23)) (defScope (topS 23)) .none kV11 dc11 pm11 an11 cd11 ct11), sl11⟩) (c11 : PySem.W.codeIn K cd11 (Str.ofString "holds_plainly") = true) (k11 : PySem.W.keepIn K (.ref f11) = true)
{f12 : Addr} {od12 an12 : Option Addr} {sl12 : Array (Option Value)} {oc12 kV12 dc12 pm12 cd12 ct12 : Value}
    (a12 : PySem.W.nsIn K mainGlobals (Str.ofString "holds") = some (some (.ref f12))) (l12 : K.lookup f12 = some ⟨oc12, od12, .func (PySem.W.fnOf (Str.ofString "holds") (Str.ofString "holds") (defArgs (topS 24)) (defBody (topS 24)) (defScope (topS 24)) .none kV12 dc12 pm12 an12 cd12 ct12), sl12⟩) (c12 : PySem.W.codeIn K cd12 (Str.ofString "holds") = true) (k12 : PySem.W.keepIn K (.ref f12) = true)
{f13 : Addr} {od13 an13 : Option Addr} {sl13 : Array (Option Value)} {oc13 kV13 dc13 pm13 cd13 ct13 : Value}
    (a13 : PySem.W.nsIn K mainGlobals (Str.ofString "deciding") = some (some (.ref f13))) (l13 : K.lookup f13 = some ⟨oc13, od13, .func (PySem.W.fnOf (Str.ofString "deciding") (Str.ofString "deciding") (defArgs (topS 25)) (defBody (topS 25)) (defScope (topS 25)) .none kV13 dc13 pm13 an13 cd13 ct13), sl13⟩) (c13 : PySem.W.codeIn K cd13 (Str.ofString "deciding") = true) (k13 : PySem.W.keepIn K (.ref f13) = true)
{f14 : Addr} {od14 an14 : Option Addr} {sl14 : Array (Option Value)} {oc14 kV14 dc14 pm14 cd14 ct14 : Value}
    (a14 : PySem.W.nsIn K mainGlobals (Str.ofString "move_by") = some (some (.ref f14))) (l14 : K.lookup f14 = some ⟨oc14, od14, .func (PySem.W.fnOf (Str.ofString "move_by") (Str.ofString "move_by") (defArgs (topS 26)) (defBody (topS 26)) (defScope (topS 26)) .none kV14 dc14 pm14 an14 cd14 ct14), sl14⟩) (c14 : PySem.W.codeIn K cd14 (Str.ofString "move_by") = true) (k14 : PySem.W.keepIn K (.ref f14) = true)
{f15 : Addr} {od15 an15 : Option Addr} {sl15 : Array (Option Value)} {oc15 kV15 dc15 pm15 cd15 ct15 : Value}
    (a15 : PySem.W.nsIn K mainGlobals (Str.ofString "pressed_on") = some (some (.ref f15))) (l15 : K.lookup f15 = some ⟨oc15, od15, .func (PySem.W.fnOf (Str.ofString "pressed_on") (Str.ofString "pressed_on") (defArgs (topS 30)) (defBody (topS 30)) (defScope (topS 30)) .none kV15 dc15 pm15 an15 cd15 ct15), sl15⟩) (c15 : PySem.W.codeIn K cd15 (Str.ofString "pressed_on") = true) (k15 : PySem.W.keepIn K (.ref f15) = true)
{f16 : Addr} {od16 an16 : Option Addr} {sl16 : Array (Option Value)} {oc16 kV16 dc16 pm16 cd16 ct16 : Value}
    (a16 : PySem.W.nsIn K mainGlobals (Str.ofString "moved") = some (some (.ref f16))) (l16 : K.lookup f16 = some ⟨oc16, od16, .func (PySem.W.fnOf (Str.ofString "moved") (Str.ofString "moved") (defArgs (topS 31)) (defBody (topS 31)) (defScope (topS 31)) .none kV16 dc16 pm16 an16 cd16 ct16), sl16⟩) (c16 : PySem.W.codeIn K cd16 (Str.ofString "moved") = true) (k16 : PySem.W.keepIn K (.ref f16) = true)
{f17 : Addr} {od17 an17 : Option Addr} {sl17 : Array (Option Value)} {oc17 kV17 dc17 pm17 cd17 ct17 : Value}
    (a17 : PySem.W.nsIn K mainGlobals (Str.ofString "tick_of") = some (some (.ref f17))) (l17 : K.lookup f17 = some ⟨oc17, od17, .func (PySem.W.fnOf (Str.ofString "tick_of") (Str.ofString "tick_of") (defArgs (topS 32)) (defBody (topS 32)) (defScope (topS 32)) .none kV17 dc17 pm17 an17 cd17 ct17), sl17⟩) (c17 : PySem.W.codeIn K cd17 (Str.ofString "tick_of") = true) (k17 : PySem.W.keepIn K (.ref f17) = true)
{f18 : Addr} {od18 an18 : Option Addr} {sl18 : Array (Option Value)} {oc18 kV18 dc18 pm18 cd18 ct18 : Value}
    (a18 : PySem.W.nsIn K mainGlobals (Str.ofString "pressings") = some (some (.ref f18))) (l18 : K.lookup f18 = some ⟨oc18, od18, .func (PySem.W.fnOf (Str.ofString "pressings") (Str.ofString "pressings") (defArgs (topS 29)) (defBody (topS 29)) (defScope (topS 29)) .none kV18 dc18 pm18 an18 cd18 ct18), sl18⟩) (c18 : PySem.W.codeIn K cd18 (Str.ofString "pressings") = true) (k18 : PySem.W.keepIn K (.ref f18) = true)
{f19 : Addr} {od19 an19 : Option Addr} {sl19 : Array (Option Value)} {oc19 kV19 dc19 pm19 cd19 ct19 : Value}
    (a19 : PySem.W.nsIn K mainGlobals (Str.ofString "ways_by") = some (some (.ref f19))) (l19 : K.lookup f19 = some ⟨oc19, od19, .func (PySem.W.fnOf (Str.ofString "ways_by") (Str.ofString "ways_by") (defArgs (topS 33)) (defBody (topS 33)) (defScope (topS 33)) .none kV19 dc19 pm19 an19 cd19 ct19), sl19⟩) (c19 : PySem.W.codeIn K cd19 (Str.ofString "ways_by") = true) (k19 : PySem.W.keepIn K (.ref f19) = true)
{f20 : Addr} {od20 an20 : Option Addr} {sl20 : Array (Option Value)} {oc20 kV20 dc20 pm20 cd20 ct20 : Value}
    (a20 : PySem.W.nsIn K mainGlobals (Str.ofString "reachable") = some (some (.ref f20))) (l20 : K.lookup f20 = some ⟨oc20, od20, .func (PySem.W.fnOf (Str.ofString "reachable") (Str.ofString "reachable") (defArgs (topS 34)) (defBody (topS 34)) (defScope (topS 34)) .none kV20 dc20 pm20 an20 cd20 ct20), sl20⟩) (c20 : PySem.W.codeIn K cd20 (Str.ofString "reachable") = true) (k20 : PySem.W.keepIn K (.ref f20) = true)
{f21 : Addr} {od21 an21 : Option Addr} {sl21 : Array (Option Value)} {oc21 kV21 dc21 pm21 cd21 ct21 : Value}
    (a21 : PySem.W.nsIn K mainGlobals (Str.ofString "way_to") = some (some (.ref f21))) (l21 : K.lookup f21 = some ⟨oc21, od21, .func (PySem.W.fnOf (Str.ofString "way_to") (Str.ofString "way_to") (defArgs (topS 35)) (defBody (topS 35)) (defScope (topS 35)) .none kV21 dc21 pm21 an21 cd21 ct21), sl21⟩) (c21 : PySem.W.codeIn K cd21 (Str.ofString "way_to") = true) (k21 : PySem.W.keepIn K (.ref f21) = true)
{f22 : Addr} {od22 an22 : Option Addr} {sl22 : Array (Option Value)} {oc22 kV22 dc22 pm22 cd22 ct22 : Value}
    (a22 : PySem.W.nsIn K mainGlobals (Str.ofString "_law_well") = some (some (.ref f22))) (l22 : K.lookup f22 = some ⟨oc22, od22, .func (PySem.W.fnOf (Str.ofString "_law_well") (Str.ofString "_law_well") (defArgs (topS 37)) (defBody (topS 37)) (defScope (topS 37)) .none kV22 dc22 pm22 an22 cd22 ct22), sl22⟩) (c22 : PySem.W.codeIn K cd22 (Str.ofString "_law_well") = true) (k22 : PySem.W.keepIn K (.ref f22) = true)
{f23 : Addr} {od23 an23 : Option Addr} {sl23 : Array (Option Value)} {oc23 kV23 dc23 pm23 cd23 ct23 : Value}
    (a23 : PySem.W.nsIn K mainGlobals (Str.ofString "_law_take") = some (some (.ref f23))) (l23 : K.lookup f23 = some ⟨oc23, od23, .func (PySem.W.fnOf (Str.ofString "_law_take") (Str.ofString "_law_take") (defArgs (topS 38)) (defBody (topS 38)) (defScope (topS 38)) .none kV23 dc23 pm23 an23 cd23 ct23), sl23⟩) (c23 : PySem.W.codeIn K cd23 (Str.ofString "_law_take") = true) (k23 : PySem.W.keepIn K (.ref f23) = true)
{f24 : Addr} {od24 an24 : Option Addr} {sl24 : Array (Option Value)} {oc24 kV24 dc24 pm24 cd24 ct24 : Value}
    (a24 : PySem.W.nsIn K mainGlobals (Str.ofString "_law_bags") = some (some (.ref f24))) (l24 : K.lookup f24 = some ⟨oc24, od24, .func (PySem.W.fnOf (Str.ofString "_law_bags") (Str.ofString "_law_bags") (defArgs (topS 39)) (defBody (topS 39)) (defScope (topS 39)) .none kV24 dc24 pm24 an24 cd24 ct24), sl24⟩) (c24 : PySem.W.codeIn K cd24 (Str.ofString "_law_bags") = true) (k24 : PySem.W.keepIn K (.ref f24) = true)
{f25 : Addr} {od25 an25 : Option Addr} {sl25 : Array (Option Value)} {oc25 kV25 dc25 pm25 cd25 ct25 : Value}
    (a25 : PySem.W.nsIn K mainGlobals (Str.ofString "_law_same") = some (some (.ref f25))) (l25 : K.lookup f25 = some ⟨oc25, od25, .func (PySem.W.fnOf (Str.ofString "_law_same") (Str.ofString "_law_same") (defArgs (topS 40)) (defBody (topS 40)) (defScope (topS 40)) .none kV25 dc25 pm25 an25 cd25 ct25), sl25⟩) (c25 : PySem.W.codeIn K cd25 (Str.ofString "_law_same") = true) (k25 : PySem.W.keepIn K (.ref f25) = true)
{f26 : Addr} {od26 an26 : Option Addr} {sl26 : Array (Option Value)} {oc26 kV26 dc26 pm26 cd26 ct26 : Value}
    (a26 : PySem.W.nsIn K mainGlobals (Str.ofString "_law_plain") = some (some (.ref f26))) (l26 : K.lookup f26 = some ⟨oc26, od26, .func (PySem.W.fnOf (Str.ofString "_law_plain") (Str.ofString "_law_plain") (defArgs (topS 41)) (defBody (topS 41)) (defScope (topS 41)) .none kV26 dc26 pm26 an26 cd26 ct26), sl26⟩) (c26 : PySem.W.codeIn K cd26 (Str.ofString "_law_plain") = true) (k26 : PySem.W.keepIn K (.ref f26) = true)
{f27 : Addr} {od27 an27 : Option Addr} {sl27 : Array (Option Value)} {oc27 kV27 dc27 pm27 cd27 ct27 : Value}
    (a27 : PySem.W.nsIn K mainGlobals (Str.ofString "_law_fair") = some (some (.ref f27))) (l27 : K.lookup f27 = some ⟨oc27, od27, .func (PySem.W.fnOf (Str.ofString "_law_fair") (Str.ofString "_law_fair") (defArgs (topS 42)) (defBody (topS 42)) (defScope (topS 42)) .none kV27 dc27 pm27 an27 cd27 ct27), sl27⟩) (c27 : PySem.W.codeIn K cd27 (Str.ofString "_law_fair") = true) (k27 : PySem.W.keepIn K (.ref f27) = true)
{f28 : Addr} {od28 an28 : Option Addr} {sl28 : Array (Option Value)} {oc28 kV28 dc28 pm28 cd28 ct28 : Value}
    (a28 : PySem.W.nsIn K mainGlobals (Str.ofString "_law_test") = some (some (.ref f28))) (l28 : K.lookup f28 = some ⟨oc28, od28, .func (PySem.W.fnOf (Str.ofString "_law_test") (Str.ofString "_law_test") (defArgs (topS 43)) (defBody (topS 43)) (defScope (topS 43)) .none kV28 dc28 pm28 an28 cd28 ct28), sl28⟩) (c28 : PySem.W.codeIn K cd28 (Str.ofString "_law_test") = true) (k28 : PySem.W.keepIn K (.ref f28) = true)
{f29 : Addr} {od29 an29 : Option Addr} {sl29 : Array (Option Value)} {oc29 kV29 dc29 pm29 cd29 ct29 : Value}
    (a29 : PySem.W.nsIn K mainGlobals (Str.ofString "_law_clause") = some (some (.ref f29))) (l29 : K.lookup f29 = some ⟨oc29, od29, .func (PySem.W.fnOf (Str.ofString "_law_clause") (Str.ofString "_law_clause") (defArgs (topS 44)) (defBody (topS 44)) (defScope (topS 44)) .none kV29 dc29 pm29 an29 cd29 ct29), sl29⟩) (c29 : PySem.W.codeIn K cd29 (Str.ofString "_law_clause") = true) (k29 : PySem.W.keepIn K (.ref f29) = true)
{f30 : Addr} {od30 an30 : Option Addr} {sl30 : Array (Option Value)} {oc30 kV30 dc30 pm30 cd30 ct30 : Value}
    (a30 : PySem.W.nsIn K mainGlobals (Str.ofString "_law_controller") = some (some (.ref f30))) (l30 : K.lookup f30 = some ⟨oc30, od30, .func (PySem.W.fnOf (Str.ofString "_law_controller") (Str.ofString "_law_controller") (defArgs (topS 45)) (defBody (topS 45)) (defScope (topS 45)) .none kV30 dc30 pm30 an30 cd30 ct30), sl30⟩) (c30 : PySem.W.codeIn K cd30 (Str.ofString "_law_controller") = true) (k30 : PySem.W.keepIn K (.ref f30) = true)
{f31 : Addr} {od31 an31 : Option Addr} {sl31 : Array (Option Value)} {oc31 kV31 dc31 pm31 cd31 ct31 : Value}
    (a31 : PySem.W.nsIn K mainGlobals (Str.ofString "_law_side") = some (some (.ref f31))) (l31 : K.lookup f31 = some ⟨oc31, od31, .func (PySem.W.fnOf (Str.ofString "_law_side") (Str.ofString "_law_side") (defArgs (topS 46)) (defBody (topS 46)) (defScope (topS 46)) .none kV31 dc31 pm31 an31 cd31 ct31), sl31⟩) (c31 : PySem.W.codeIn K cd31 (Str.ofString "_law_side") = true) (k31 : PySem.W.keepIn K (.ref f31) = true)
{f32 : Addr} {od32 an32 : Option Addr} {sl32 : Array (Option Value)} {oc32 kV32 dc32 pm32 cd32 ct32 : Value}
    (a32 : PySem.W.nsIn K mainGlobals (Str.ofString "_law_holds") = some (some (.ref f32))) (l32 : K.lookup f32 = some ⟨oc32, od32, .func (PySem.W.fnOf (Str.ofString "_law_holds") (Str.ofString "_law_holds") (defArgs (topS 47)) (defBody (topS 47)) (defScope (topS 47)) .none kV32 dc32 pm32 an32 cd32 ct32), sl32⟩) (c32 : PySem.W.codeIn K cd32 (Str.ofString "_law_holds") = true) (k32 : PySem.W.keepIn K (.ref f32) = true)
{f33 : Addr} {od33 an33 : Option Addr} {sl33 : Array (Option Value)} {oc33 kV33 dc33 pm33 cd33 ct33 : Value}
    (a33 : PySem.W.nsIn K mainGlobals (Str.ofString "_law_move") = some (some (.ref f33))) (l33 : K.lookup f33 = some ⟨oc33, od33, .func (PySem.W.fnOf (Str.ofString "_law_move") (Str.ofString "_law_move") (defArgs (topS 48)) (defBody (topS 48)) (defScope (topS 48)) .none kV33 dc33 pm33 an33 cd33 ct33), sl33⟩) (c33 : PySem.W.codeIn K cd33 (Str.ofString "_law_move") = true) (k33 : PySem.W.keepIn K (.ref f33) = true)
{f34 : Addr} {od34 an34 : Option Addr} {sl34 : Array (Option Value)} {oc34 kV34 dc34 pm34 cd34 ct34 : Value}
    (a34 : PySem.W.nsIn K mainGlobals (Str.ofString "_law_tick") = some (some (.ref f34))) (l34 : K.lookup f34 = some ⟨oc34, od34, .func (PySem.W.fnOf (Str.ofString "_law_tick") (Str.ofString "_law_tick") (defArgs (topS 49)) (defBody (topS 49)) (defScope (topS 49)) .none kV34 dc34 pm34 an34 cd34 ct34), sl34⟩) (c34 : PySem.W.codeIn K cd34 (Str.ofString "_law_tick") = true) (k34 : PySem.W.keepIn K (.ref f34) = true)
{f35 : Addr} {od35 an35 : Option Addr} {sl35 : Array (Option Value)} {oc35 kV35 dc35 pm35 cd35 ct35 : Value}
    (a35 : PySem.W.nsIn K mainGlobals (Str.ofString "_law_pressings") = some (some (.ref f35))) (l35 : K.lookup f35 = some ⟨oc35, od35, .func (PySem.W.fnOf (Str.ofString "_law_pressings") (Str.ofString "_law_pressings") (defArgs (topS 50)) (defBody (topS 50)) (defScope (topS 50)) .none kV35 dc35 pm35 an35 cd35 ct35), sl35⟩) (c35 : PySem.W.codeIn K cd35 (Str.ofString "_law_pressings") = true) (k35 : PySem.W.keepIn K (.ref f35) = true)
{f36 : Addr} {od36 an36 : Option Addr} {sl36 : Array (Option Value)} {oc36 kV36 dc36 pm36 cd36 ct36 : Value}
    (a36 : PySem.W.nsIn K mainGlobals (Str.ofString "_law_reach") = some (some (.ref f36))) (l36 : K.lookup f36 = some ⟨oc36, od36, .func (PySem.W.fnOf (Str.ofString "_law_reach") (Str.ofString "_law_reach") (defArgs (topS 51)) (defBody (topS 51)) (defScope (topS 51)) .none kV36 dc36 pm36 an36 cd36 ct36), sl36⟩) (c36 : PySem.W.codeIn K cd36 (Str.ofString "_law_reach") = true) (k36 : PySem.W.keepIn K (.ref f36) = true)
{f37 : Addr} {od37 an37 : Option Addr} {sl37 : Array (Option Value)} {oc37 kV37 dc37 pm37 cd37 ct37 : Value}
    (a37 : PySem.W.nsIn K mainGlobals (Str.ofString "law") = some (some (.ref f37))) (l37 : K.lookup f37 = some ⟨oc37, od37, .func (PySem.W.fnOf (Str.ofString "law") (Str.ofString "law") (defArgs (topS 52)) (defBody (topS 52)) (defScope (topS 52)) .none kV37 dc37 pm37 an37 cd37 ct37), sl37⟩) (c37 : PySem.W.codeIn K cd37 (Str.ofString "law") = true) (k37 : PySem.W.keepIn K (.ref f37) = true)
    (z0 : PySem.W.nsIn K mainGlobals (Str.ofString "isinstance") = some none)
    (z1 : PySem.W.nsIn K mainGlobals (Str.ofString "len") = some none)
    (z2 : PySem.W.nsIn K mainGlobals (Str.ofString "all") = some none)
    (z3 : PySem.W.nsIn K mainGlobals (Str.ofString "any") = some none)
    (z4 : PySem.W.nsIn K mainGlobals (Str.ofString "tuple") = some none)
    (z5 : PySem.W.nsIn K mainGlobals (Str.ofString "list") = some none)
    (z6 : PySem.W.nsIn K mainGlobals (Str.ofString "min") = some none)
    (z7 : PySem.W.nsIn K mainGlobals (Str.ofString "max") = some none)
    (z8 : PySem.W.nsIn K mainGlobals (Str.ofString "int") = some none)
    (z9 : PySem.W.nsIn K mainGlobals (Str.ofString "bool") = some none)
    (z10 : PySem.W.nsIn K mainGlobals (Str.ofString "range") = some none)
    (z11 : PySem.W.nsIn K mainGlobals (Str.ofString "enumerate") = some none)
    (z12 : PySem.W.nsIn K mainGlobals (Str.ofString "zip") = some none)
    (z13 : PySem.W.nsIn K mainGlobals (Str.ofString "str") = some none)
    (z14 : PySem.W.nsIn K mainGlobals (Str.ofString "sorted") = some none)
    (z15 : PySem.W.nsIn K mainGlobals (Str.ofString "set") = some none)
    (z16 : PySem.W.nsIn K mainGlobals (Str.ofString "sum") = some none)
    (z17 : PySem.W.nsIn K mainGlobals (Str.ofString "abs") = some none)
    (z18 : PySem.W.nsIn K mainGlobals (Str.ofString "dict") = some none)
    {u0 : Value} (q0 : PySem.W.nsIn K mainGlobals (Str.ofString "WORDS") = some (some u0)) (r0 : isD K g_WORDS u0 = true)
    {u1 : Value} (q1 : PySem.W.nsIn K mainGlobals (Str.ofString "MOST_TESTS") = some (some u1)) (r1 : isD K g_MOST_TESTS u1 = true)
    {u2 : Value} (q2 : PySem.W.nsIn K mainGlobals (Str.ofString "MOVES") = some (some u2)) (r2 : isD K g_MOVES u2 = true)
    {u3 : Value} (q3 : PySem.W.nsIn K mainGlobals (Str.ofString "MOST_CLAUSES") = some (some u3)) (r3 : isD K g_MOST_CLAUSES u3 = true)
    {u4 : Value} (q4 : PySem.W.nsIn K mainGlobals (Str.ofString "MOST_CONTROLLED") = some (some u4)) (r4 : isD K g_MOST_CONTROLLED u4 = true)
    {u5 : Value} (q5 : PySem.W.nsIn K mainGlobals (Str.ofString "START") = some (some u5)) (r5 : isD K g_START u5 = true) : Facts ⟨P, w, K⟩ mg where
  blt := fun y hy => by
    simp only [bltN, List.mem_cons, List.not_mem_nil, or_false] at hy
    rcases hy with e | e | e | e | e | e | e | e | e | e | e | e | e | e | e | e | e | e | e <;> subst e
    · exact PySem.W.mg_none_of X G z0
    · exact PySem.W.mg_none_of X G z1
    · exact PySem.W.mg_none_of X G z2
    · exact PySem.W.mg_none_of X G z3
    · exact PySem.W.mg_none_of X G z4
    · exact PySem.W.mg_none_of X G z5
    · exact PySem.W.mg_none_of X G z6
    · exact PySem.W.mg_none_of X G z7
    · exact PySem.W.mg_none_of X G z8
    · exact PySem.W.mg_none_of X G z9
    · exact PySem.W.mg_none_of X G z10
    · exact PySem.W.mg_none_of X G z11
    · exact PySem.W.mg_none_of X G z12
    · exact PySem.W.mg_none_of X G z13
    · exact PySem.W.mg_none_of X G z14
    · exact PySem.W.mg_none_of X G z15
    · exact PySem.W.mg_none_of X G z16
    · exact PySem.W.mg_none_of X G z17
    · exact PySem.W.mg_none_of X G z18
  d_is_whole := def_at (W := ⟨P, w, K⟩) X G a0 l0 c0 k0 fun _ _ _ _ _ _ us hl => match us, hl with | [_], _ => rfl
  d_is_within := def_at (W := ⟨P, w, K⟩) X G a1 l1 c1 k1 fun _ _ _ _ _ _ us hl => match us, hl with | [_, _, _], _ => rfl
  d_is_test := def_at (W := ⟨P, w, K⟩) X G a2 l2 c2 k2 fun _ _ _ _ _ _ us hl => match us, hl with | [_], _ => rfl
  d_is_clause := def_at (W := ⟨P, w, K⟩) X G a3 l3 c3 k3 fun _ _ _ _ _ _ us hl => match us, hl with | [_], _ => rfl
  d_is_controller := def_at (W := ⟨P, w, K⟩) X G a4 l4 c4 k4 fun _ _ _ _ _ _ us hl => match us, hl with | [_], _ => rfl
  d_look_at_controller := def_at (W := ⟨P, w, K⟩) X G a5 l5 c5 k5 fun _ _ _ _ _ _ us hl => match us, hl with | [_], _ => rfl
  d_look_at_floors := def_at (W := ⟨P, w, K⟩) X G a6 l6 c6 k6 fun _ _ _ _ _ _ us hl => match us, hl with | [_], _ => rfl
  d_look_at := def_at (W := ⟨P, w, K⟩) X G a7 l7 c7 k7 fun _ _ _ _ _ _ us hl => match us, hl with | [_, _], _ => rfl
  d_are_floors := def_at (W := ⟨P, w, K⟩) X G a8 l8 c8 k8 fun _ _ _ _ _ _ us hl => match us, hl with | [_, _], _ => rfl
  d_is_state := def_at (W := ⟨P, w, K⟩) X G a9 l9 c9 k9 fun _ _ _ _ _ _ us hl => match us, hl with | [_, _], _ => rfl
  d_look_at_state := def_at (W := ⟨P, w, K⟩) X G a10 l10 c10 k10 fun _ _ _ _ _ _ us hl => match us, hl with | [_, _], _ => rfl
  d_holds_plainly := def_at (W := ⟨P, w, K⟩) X G a11 l11 c11 k11 fun _ _ _ _ _ _ us hl => match us, hl with | [_, _, _], _ => rfl
  d_holds := def_at (W := ⟨P, w, K⟩) X G a12 l12 c12 k12 fun _ _ _ _ _ _ us hl => match us, hl with | [_, _, _], _ => rfl
  d_deciding := def_at (W := ⟨P, w, K⟩) X G a13 l13 c13 k13 fun _ _ _ _ _ _ us hl => match us, hl with | [_, _, _], _ => rfl
  d_move_by := def_at (W := ⟨P, w, K⟩) X G a14 l14 c14 k14 fun _ _ _ _ _ _ us hl => match us, hl with | [_, _, _], _ => rfl
  d_pressed_on := def_at (W := ⟨P, w, K⟩) X G a15 l15 c15 k15 fun _ _ _ _ _ _ us hl => match us, hl with | [_, _], _ => rfl
  d_moved := def_at (W := ⟨P, w, K⟩) X G a16 l16 c16 k16 fun _ _ _ _ _ _ us hl => match us, hl with | [_, _, _], _ => rfl
  d_tick_of := def_at (W := ⟨P, w, K⟩) X G a17 l17 c17 k17 fun _ _ _ _ _ _ us hl => match us, hl with | [_, _, _, _], _ => rfl
  d_pressings := def_at (W := ⟨P, w, K⟩) X G a18 l18 c18 k18 fun _ _ _ _ _ _ us hl => match us, hl with | [_], _ => rfl
  d_ways_by := def_at (W := ⟨P, w, K⟩) X G a19 l19 c19 k19 fun _ _ _ _ _ _ us hl => match us, hl with | [_, _], _ => rfl
  d_reachable := def_at (W := ⟨P, w, K⟩) X G a20 l20 c20 k20 fun _ _ _ _ _ _ us hl => match us, hl with | [_, _], _ => rfl
  d_way_to := def_at (W := ⟨P, w, K⟩) X G a21 l21 c21 k21 fun _ _ _ _ _ _ us hl => match us, hl with | [_, _, _], _ => rfl
  d__law_well := def_at (W := ⟨P, w, K⟩) X G a22 l22 c22 k22 fun _ _ _ _ _ _ us hl => match us, hl with | [_, _], _ => rfl
  d__law_take := def_at (W := ⟨P, w, K⟩) X G a23 l23 c23 k23 fun _ _ _ _ _ _ us hl => match us, hl with | [_, _], _ => rfl
  d__law_bags := def_at (W := ⟨P, w, K⟩) X G a24 l24 c24 k24 fun _ _ _ _ _ _ us hl => match us, hl with | [_, _], _ => rfl
  d__law_same := def_at (W := ⟨P, w, K⟩) X G a25 l25 c25 k25 fun _ _ _ _ _ _ us hl => match us, hl with | [_, _], _ => rfl
  d__law_plain := def_at (W := ⟨P, w, K⟩) X G a26 l26 c26 k26 fun _ _ _ _ _ _ us hl => match us, hl with | [], _ => rfl
  d__law_fair := def_at (W := ⟨P, w, K⟩) X G a27 l27 c27 k27 fun _ _ _ _ _ _ us hl => match us, hl with | [], _ => rfl
  d__law_test := def_at (W := ⟨P, w, K⟩) X G a28 l28 c28 k28 fun _ _ _ _ _ _ us hl => match us, hl with | [_], _ => rfl
  d__law_clause := def_at (W := ⟨P, w, K⟩) X G a29 l29 c29 k29 fun _ _ _ _ _ _ us hl => match us, hl with | [_], _ => rfl
  d__law_controller := def_at (W := ⟨P, w, K⟩) X G a30 l30 c30 k30 fun _ _ _ _ _ _ us hl => match us, hl with | [_, _], _ => rfl
  d__law_side := def_at (W := ⟨P, w, K⟩) X G a31 l31 c31 k31 fun _ _ _ _ _ _ us hl => match us, hl with | [_, _], _ => rfl
  d__law_holds := def_at (W := ⟨P, w, K⟩) X G a32 l32 c32 k32 fun _ _ _ _ _ _ us hl => match us, hl with | [_, _, _], _ => rfl
  d__law_move := def_at (W := ⟨P, w, K⟩) X G a33 l33 c33 k33 fun _ _ _ _ _ _ us hl => match us, hl with | [_, _, _], _ => rfl
  d__law_tick := def_at (W := ⟨P, w, K⟩) X G a34 l34 c34 k34 fun _ _ _ _ _ _ us hl => match us, hl with | [_, _, _, _], _ => rfl
  d__law_pressings := def_at (W := ⟨P, w, K⟩) X G a35 l35 c35 k35 fun _ _ _ _ _ _ us hl => match us, hl with | [_], _ => rfl
  d__law_reach := def_at (W := ⟨P, w, K⟩) X G a36 l36 c36 k36 fun _ _ _ _ _ _ us hl => match us, hl with | [_, _], _ => rfl
  d_law := def_at (W := ⟨P, w, K⟩) X G a37 l37 c37 k37 fun _ _ _ _ _ _ us hl => match us, hl with | [_], _ => rfl
  g_WORDS := gl_at (W := ⟨P, w, K⟩) X G q0 r0
  g_MOST_TESTS := gl_at (W := ⟨P, w, K⟩) X G q1 r1
  g_MOVES := gl_at (W := ⟨P, w, K⟩) X G q2 r2
  g_MOST_CLAUSES := gl_at (W := ⟨P, w, K⟩) X G q3 r3
  g_MOST_CONTROLLED := gl_at (W := ⟨P, w, K⟩) X G q4 r4
  g_START := gl_at (W := ⟨P, w, K⟩) X G q5 r5
theorem finish {W : KW} {mg : Str → Option Value} {fa : Addr} (F : Facts W mg) (hfa : mg "law" = some (.ref fa)) :
    ∃ fd : FuncData, (∀ (s : Shared) (v : Value), BindsTo s fd ⟨[v], []⟩ [("script", v)]) ∧ ∀ base : Heap, W.K.In base → base.Ns mainGlobals mg → FnOk W.P W.w W.K mg base CX0 101 fa fd ["script"] (upSp W spLaw) :=
  law_end F.d_law hfa sc_law rfl F.blt (ck_law spBags spTake spCtl spWays sp_same spReach spWayTo) (fun base => chain F base) law_ok
end K11
end Lf
open PySem PySem.W PyProof.Rows
set_option maxHeartbeats 0 in
theorem PySem.Challenge.cw_litfloors_k11_whole_reachable_states_holds : PySem.Challenge.rw_litfloors_k11_whole_reachable_states.Holds := by
  w_on; o_law; k_head; (case hw => w_witness2)
  k_fill
  refine L2.walk_ofB (l := PySem.Challenge.rw_litfloors_k11_whole_reachable_states) (n := 63) (k := 101) (x := "script") (CX := fun _ => L2.CX0) (sp := fun w => Lf.upSp ⟨PySem.Challenge.pw_litfloors_k11_whole_reachable_states, w, _⟩ Lf.spLaw) rfl (by decide) rfl ⟨rfl, by decide, by decide⟩ (fun w h Y => PySem.W.kIn_of Y) ?F (fun w H a ns hl hb hO hS => Lf.law_sp hl hb hO hS) (fun _ _ _ _ _ h => h)
  case F =>
    intro w mg fa h KX G hmg
    refine' (have FF := Lf.K11.facts_mk (P := PySem.Challenge.pw_litfloors_k11_whole_reachable_states) (w := w) KX G ?a0 ?l0 ?c0 ?k0 ?a1 ?l1 ?c1 ?k1 ?a2 ?l2 ?c2 ?k2 ?a3 ?l3 ?c3 ?k3 ?a4 ?l4 ?c4 ?k4 ?a5 ?l5 ?c5 ?k5 ?a6 ?l6 ?c6 ?k6 ?a7 ?l7 ?c7 ?k7 ?a8 ?l8 ?c8 ?k8 ?a9 ?l9 ?c9 ?k9 ?a10 ?l10 ?c10 ?k10 ?a11 ?l11 ?c11 ?k11 ?a12 ?l12 ?c12 ?k12 ?a13 ?l13 ?c13 ?k13 ?a14 ?l14 ?c14 ?k14 ?a15 ?l15 ?c15 ?k15 ?a16 ?l16 ?c16 ?k16 ?a17 ?l17 ?c17 ?k17 ?a18 ?l18 ?c18 ?k18 ?a19 ?l19 ?c19 ?k19 ?a20 ?l20 ?c20 ?k20 ?a21 ?l21 ?c21 ?k21 ?a22 ?l22 ?c22 ?k22 ?a23 ?l23 ?c23 ?k23 ?a24 ?l24 ?c24 ?k24 ?a25 ?l25 ?c25 ?k25 ?a26 ?l26 ?c26 ?k26 ?a27 ?l27 ?c27 ?k27 ?a28 ?l28 ?c28 ?k28 ?a29 ?l29 ?c29 ?k29 ?a30 ?l30 ?c30 ?k30 ?a31 ?l31 ?c31 ?k31 ?a32 ?l32 ?c32 ?k32 ?a33 ?l33 ?c33 ?k33 ?a34 ?l34 ?c34 ?k34 ?a35 ?l35 ?c35 ?k35 ?a36 ?l36 ?c36 ?k36 ?a37 ?l37 ?c37 ?k37 ?z0 ?z1 ?z2 ?z3 ?z4 ?z5 ?z6 ?z7 ?z8 ?z9 ?z10 ?z11 ?z12 ?z13 ?z14 ?z15 ?z16 ?z17 ?z18 ?q0 ?r0 ?q1 ?r1 ?q2 ?r2 ?q3 ?r3 ?q4 ?r4 ?q5 ?r5; Lf.K11.finish FF hmg)
    (case a0 => k_is)
    (case l0 => k_is)
    (case c0 => k_is)
    (case k0 => k_is)
    (case a1 => k_is)
    (case l1 => k_is)
    (case c1 => k_is)
    (case k1 => k_is)
    (case a2 => k_is)
    (case l2 => k_is)
    (case c2 => k_is)
    (case k2 => k_is)
    (case a3 => k_is)
    (case l3 => k_is)
    (case c3 => k_is)
    (case k3 => k_is)
    (case a4 => k_is)
    (case l4 => k_is)
    (case c4 => k_is)
    (case k4 => k_is)
    (case a5 => k_is)
    (case l5 => k_is)
    (case c5 => k_is)
    (case k5 => k_is)
    (case a6 => k_is)
    (case l6 => k_is)
    (case c6 => k_is)
    (case k6 => k_is)
    (case a7 => k_is)
    (case l7 => k_is)
    (case c7 => k_is)
    (case k7 => k_is)
    (case a8 => k_is)
    (case l8 => k_is)
    (case c8 => k_is)
    (case k8 => k_is)
    (case a9 => k_is)
    (case l9 => k_is)
    (case c9 => k_is)
    (case k9 => k_is)
    (case a10 => k_is)
    (case l10 => k_is)
    (case c10 => k_is)
    (case k10 => k_is)
    (case a11 => k_is)
    (case l11 => k_is)
    (case c11 => k_is)
    (case k11 => k_is)
    (case a12 => k_is)
    (case l12 => k_is)
    (case c12 => k_is)
    (case k12 => k_is)
    (case a13 => k_is)
    (case l13 => k_is)
    (case c13 => k_is)
    (case k13 => k_is)
    (case a14 => k_is)
    (case l14 => k_is)
    (case c14 => k_is)
    (case k14 => k_is)
    (case a15 => k_is)
    (case l15 => k_is)
    (case c15 => k_is)
    (case k15 => k_is)
    (case a16 => k_is)
    (case l16 => k_is)
    (case c16 => k_is)
    (case k16 => k_is)
    (case a17 => k_is)
    (case l17 => k_is)
    (case c17 => k_is)
    (case k17 => k_is)
    (case a18 => k_is)
    (case l18 => k_is)
    (case c18 => k_is)
    (case k18 => k_is)
    (case a19 => k_is)
    (case l19 => k_is)
    (case c19 => k_is)
    (case k19 => k_is)
    (case a20 => k_is)
    (case l20 => k_is)
    (case c20 => k_is)
    (case k20 => k_is)
    (case a21 => k_is)
    (case l21 => k_is)
    (case c21 => k_is)
    (case k21 => k_is)
    (case a22 => k_is)
    (case l22 => k_is)
    (case c22 => k_is)
    (case k22 => k_is)
    (case a23 => k_is)
    (case l23 => k_is)
    (case c23 => k_is)
    (case k23 => k_is)
    (case a24 => k_is)
    (case l24 => k_is)
    (case c24 => k_is)
    (case k24 => k_is)
    (case a25 => k_is)
    (case l25 => k_is)
    (case c25 => k_is)
    (case k25 => k_is)
    (case a26 => k_is)
    (case l26 => k_is)
    (case c26 => k_is)
    (case k26 => k_is)
    (case a27 => k_is)
    (case l27 => k_is)
    (case c27 => k_is)
    (case k27 => k_is)
    (case a28 => k_is)
    (case l28 => k_is)
    (case c28 => k_is)
    (case k28 => k_is)
    (case a29 => k_is)
    (case l29 => k_is)
    (case c29 => k_is)
    (case k29 => k_is)
    (case a30 => k_is)
    (case l30 => k_is)
    (case c30 => k_is)
    (case k30 => k_is)
    (case a31 => k_is)
    (case l31 => k_is)
    (case c31 => k_is)
    (case k31 => k_is)
    (case a32 => k_is)
    (case l32 => k_is)
    (case c32 => k_is)
    (case k32 => k_is)
    (case a33 => k_is)
    (case l33 => k_is)
    (case c33 => k_is)
    (case k33 => k_is)
    (case a34 => k_is)
    (case l34 => k_is)
    (case c34 => k_is)
    (case k34 => k_is)
    (case a35 => k_is)
    (case l35 => k_is)
    (case c35 => k_is)
    (case k35 => k_is)
    (case a36 => k_is)
    (case l36 => k_is)
    (case c36 => k_is)
    (case k36 => k_is)
    (case a37 => k_is)
    (case l37 => k_is)
    (case c37 => k_is)
    (case k37 => k_is)
    (case z0 => k_is)
    (case z1 => k_is)
    (case z2 => k_is)
    (case z3 => k_is)
    (case z4 => k_is)
    (case z5 => k_is)
    (case z6 => k_is)
    (case z7 => k_is)
    (case z8 => k_is)
    (case z9 => k_is)
    (case z10 => k_is)
    (case z11 => k_is)
    (case z12 => k_is)
    (case z13 => k_is)
    (case z14 => k_is)
    (case z15 => k_is)
    (case z16 => k_is)
    (case z17 => k_is)
    (case z18 => k_is)
    (case q0 => k_is)
    (case r0 => kernel_rfl)
    (case q1 => k_is)
    (case r1 => kernel_rfl)
    (case q2 => k_is)
    (case r2 => kernel_rfl)
    (case q3 => k_is)
    (case r3 => kernel_rfl)
    (case q4 => k_is)
    (case r4 => kernel_rfl)
    (case q5 => k_is)
    (case r5 => kernel_rfl)
