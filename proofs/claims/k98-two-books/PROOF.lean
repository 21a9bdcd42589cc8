import PyProof.Rows.All
import Wide.All
import OpenK.AllK
import Wide.FinOn
import HandS.ForMost
import HandS.Walk
import HandS.Zip
import HandS.WordsExc
import HandS.ExcOwn
import HandS.TryMany
import HandS.TryOnly
import HandS.ExcIs
import HandS.IsInst
import HandS.Defaults
import HandS.HeadHook2
import HandS.Wide
import HandS.TupAny
import HandS.Deep
import HandS.Style
import HandS.CallRecv
import HandS.HeadWalk
import HandS.SortInts
import HandS.RaiseMore
import HandS.SetFor
import HandS.Finally
import HandS.HeadEnd
import HandS.Small
import HandS.HeadHook4
import KE.KEqNest
import KE.KDictLaw
import HandS.Strs
import KE.KStateDown
import HandS.Head0
import HandS.Head1
import HandS.Head2
import PySem.Challenge.RW_sidebook_k98_whole_two_books_by_turns
section
set_option Elab.async false
set_option linter.all false
set_option maxRecDepth 100000
set_option autoImplicit false
/-! SB0: data as values, the store, how they stand in the hand layer's heap. -/
namespace SB
open PySem PySem.Spec L2

/-- a value as data: tuples, and lists, dicts, instances that nobody writes any more, are their content; ref: something that is owned, or unknown -/
inductive D where
  | non | bl (b : Bool) | int (i : Int) | str (x : Str)
  | tup (l : List D) | lst (l : List D) | dct (l : List (Key × D)) | ins (c : String) (fs : List (String × D))
  | scr (l : List D)
  | ref (a : Addr) | exc (c : String)
/-- what stands at an owned address; lck: a dict that a loop walks -/
inductive SO where
  | lst (l : List D) | dct (l : List (Key × D)) | ins (c : String) (fs : List (String × D)) | lck (l : List (Key × D))
abbrev Sto := Addr → Option SO
def Sto.set (S : Sto) (a : Addr) (o : SO) : Sto := fun b => if b = a then some o else S b
def Sto.del (S : Sto) (a : Addr) : Sto := fun b => if b = a then none else S b
@[simp] theorem Sto.set_same {S : Sto} {a : Addr} {o : SO} : S.set a o a = some o := by simp [Sto.set]
theorem Sto.set_ne {S : Sto} {a b : Addr} {o : SO} (h : b ≠ a) : S.set a o b = S b := by simp [Sto.set, h]
@[simp] theorem Sto.del_same {S : Sto} {a : Addr} : S.del a a = none := by simp [Sto.del]
theorem Sto.del_ne {S : Sto} {a b : Addr} (h : b ≠ a) : S.del a b = S b := by simp [Sto.del, h]
@[simp] theorem Sto.set_set {S : Sto} {a : Addr} {o u : SO} : (S.set a o).set a u = S.set a u := by
  funext b; unfold Sto.set; split <;> rfl
@[simp] theorem Sto.del_set {S : Sto} {a : Addr} {o : SO} : (S.set a o).del a = S.del a := by
  funext b; unfold Sto.set Sto.del; split
  · rfl
  · rename_i h; exact if_neg h
theorem Sto.del_none {S : Sto} {a : Addr} (h : S a = none) : S.del a = S := by
  funext b; unfold Sto.del; split
  · rename_i e; rw [e, h]
  · rfl
theorem Sto.set_id {S : Sto} {a : Addr} {o : SO} (h : S a = some o) : S.set a o = S := by
  funext b; unfold Sto.set; split
  · rename_i e; rw [e, h]
  · rfl

/-- the class of a name -/
def clA (K : PySem.W.Frag) (c : String) : Addr := He.ga K (Str.ofString c)

/-- a list of the written part -/
def KLst (K : PySem.W.Frag) (a : Addr) (xs : List V) : Prop :=
  ∃ (o : Obj) (its : Array Value) (n : Nat), K.lookup a = some o ∧ o.cls = .type "list" ∧ o.dict = none ∧ o.data = .seq its n ∧ its.size ≤ sizeLine ∧ Vals xs its.toList
/-- an own class with these attributes, none of them the class's -/
def CO (K : PySem.W.Frag) (c : String) (fs : List (String × D)) : Prop := Cls K (clA K c) ∧ (∀ p ∈ fs, NoAttr K (clA K c) (Str.ofString p.1)) ∧ fs.length ≤ 1000
section
variable (K : PySem.W.Frag) (S : Sto) (H : Hp)
mutual
inductive Rep : D → V → Prop
  | non : Rep .non .non
  | bl (b : Bool) : Rep (.bl b) (.bl b)
  | int (i : Int) : Rep (.int i) (.int i)
  | str (x : Str) : Rep (.str x) (.str x)
  | tup {a : Addr} {l : List D} {vs : List V} : SqT K H a vs → l.length ≤ sizeLine → RepL l vs → Rep (.tup l) (.ref a)
  | lst {a : Addr} {l : List D} {vs : List V} : H a = some (.lst vs) → S a = none → l.length ≤ sizeLine → RepL l vs → Rep (.lst l) (.ref a)
  | scr {a : Addr} {l : List D} {vs : List V} : Rd H a (.lst vs) → S a = none → l.length ≤ sizeLine → RepL l vs → Rep (.scr l) (.ref a)
  | scrK {a : Addr} {l : List D} {vs : List V} : KLst K a vs → l.length ≤ sizeLine → RepL l vs → Rep (.scr l) (.ref a)
  | dct {a : Addr} {l : List (Key × D)} {kvs : List (Key × V)} : Rd H a (.dK kvs) → S a = none → l.length ≤ sizeLine → RepK l kvs → Rep (.dct l) (.ref a)
  | ins {a dx : Addr} {c : String} {fs : List (String × D)} {gs : List (Str × V)} : H a = some (.ins (clA K c) dx gs) → S a = none → CO K c fs → RepF fs gs → Rep (.ins c fs) (.ref a)
  | ref (a : Addr) : Rep (.ref a) (.ref a)
inductive RepL : List D → List V → Prop
  | nil : RepL [] []
  | cons {d : D} {v : V} {l : List D} {vs : List V} : Rep d v → RepL l vs → RepL (d :: l) (v :: vs)
inductive RepK : List (Key × D) → List (Key × V) → Prop
  | nil : RepK [] []
  | cons {k : Key} {d : D} {v : V} {l : List (Key × D)} {vs : List (Key × V)} : Rep d v → RepK l vs → RepK ((k, d) :: l) ((k, v) :: vs)
inductive RepF : List (String × D) → List (Str × V) → Prop
  | nil : RepF [] []
  | cons {f : String} {d : D} {v : V} {l : List (String × D)} {vs : List (Str × V)} : Rep d v → RepF l vs → RepF ((f, d) :: l) ((Str.ofString f, v) :: vs)
end
end
/-- an owned object as it stands -/
def ORep (K : PySem.W.Frag) (S : Sto) (H : Hp) (a : Addr) : SO → Prop
  | .lst l => l.length ≤ sizeLine ∧ ∃ vs, H a = some (.lst vs) ∧ RepL K S H l vs
  | .dct l => l.length ≤ sizeLine ∧ ∃ kvs, H a = some (.dK kvs) ∧ RepK K S H l kvs
  | .ins c fs => CO K c fs ∧ ∃ dx gs, H a = some (.ins (clA K c) dx gs) ∧ RepF K S H fs gs
  | .lck l => l.length ≤ sizeLine ∧ ∃ o kvs, H a = some (.frz o (.dK kvs)) ∧ RepK K S H l kvs
/-- the store as it stands -/
def Rel (K : PySem.W.Frag) (S : Sto) (H : Hp) : Prop := ∀ a o, S a = some o → ORep K S H a o
/-- what was represented is so still -/
structure Keep (K : PySem.W.Frag) (S : Sto) (H : Hp) (S' : Sto) (H' : Hp) : Prop where
  r : ∀ x v, Rep K S H x v → Rep K S' H' x v
  z : ∀ a o u, H a = some (.frz o u) → H' a = some (.frz o u)
instance {K : PySem.W.Frag} {S : Sto} {H : Hp} {S' : Sto} {H' : Hp} : CoeFun (Keep K S H S' H') (fun _ => ∀ x v, Rep K S H x v → Rep K S' H' x v) := ⟨Keep.r⟩
theorem Keep.refl {K : PySem.W.Frag} {S : Sto} {H : Hp} : Keep K S H S H := ⟨fun _ _ h => h, fun _ _ _ h => h⟩
theorem Keep.trans {K : PySem.W.Frag} {S S1 S2 : Sto} {H H1 H2 : Hp} (a : Keep K S H S1 H1) (b : Keep K S1 H1 S2 H2) : Keep K S H S2 H2 := ⟨fun x v h => b.r x v (a.r x v h), fun c o u h => b.z c o u (a.z c o u h)⟩

section
variable {K : PySem.W.Frag} {S S' S1 : Sto} {H H' H1 : Hp}
theorem Keep.l (k : Keep K S H S' H') : ∀ {l : List D} {vs : List V}, RepL K S H l vs → RepL K S' H' l vs
  | _, _, .nil => .nil
  | _, _, .cons r t => .cons (k _ _ r) (Keep.l k t)
theorem Keep.k (k : Keep K S H S' H') : ∀ {l : List (Key × D)} {vs : List (Key × V)}, RepK K S H l vs → RepK K S' H' l vs
  | _, _, .nil => .nil
  | _, _, .cons r t => .cons (k _ _ r) (Keep.k k t)
theorem Keep.f (k : Keep K S H S' H') : ∀ {l : List (String × D)} {vs : List (Str × V)}, RepF K S H l vs → RepF K S' H' l vs
  | _, _, .nil => .nil
  | _, _, .cons r t => .cons (k _ _ r) (Keep.f k t)
theorem RepL.length : ∀ {l : List D} {vs : List V}, RepL K S H l vs → l.length = vs.length
  | _, _, .nil => rfl
  | _, _, .cons _ t => by simp [RepL.length t]
theorem RepK.length : ∀ {l : List (Key × D)} {vs : List (Key × V)}, RepK K S H l vs → l.length = vs.length
  | _, _, .nil => rfl
  | _, _, .cons _ t => by simp [RepK.length t]
theorem RepL.get : ∀ {l : List D} {vs : List V} {i : Nat} {x : D}, RepL K S H l vs → l[i]? = some x → ∃ v, vs[i]? = some v ∧ Rep K S H x v
  | _, _, _, _, .nil, e => by simp at e
  | _, _, 0, _, .cons r _, e => by simp at e; subst e; exact ⟨_, rfl, r⟩
  | _, _, i + 1, x, .cons _ t, e => by
    obtain ⟨v, h1, h2⟩ := RepL.get (i := i) t (by simpa using e)
    exact ⟨v, by simpa using h1, h2⟩
theorem RepL.get' : ∀ {l : List D} {vs : List V} {i : Nat} {v : V}, RepL K S H l vs → vs[i]? = some v → ∃ x, l[i]? = some x ∧ Rep K S H x v
  | _, _, _, _, .nil, e => by simp at e
  | _, _, 0, _, .cons r _, e => by simp at e; subst e; exact ⟨_, rfl, r⟩
  | _, _, i + 1, x, .cons _ t, e => by
    obtain ⟨v, h1, h2⟩ := RepL.get' (i := i) t (by simpa using e)
    exact ⟨v, by simpa using h1, h2⟩
theorem RepL.append : ∀ {l l' : List D} {vs vs' : List V}, RepL K S H l vs → RepL K S H l' vs' → RepL K S H (l ++ l') (vs ++ vs')
  | _, _, _, _, .nil, h => h
  | _, _, _, _, .cons r t, h => .cons r (RepL.append t h)
theorem RepL.take : ∀ {l : List D} {vs : List V} (n : Nat), RepL K S H l vs → RepL K S H (l.take n) (vs.take n)
  | _, _, 0, _ => .nil
  | _, _, _ + 1, .nil => .nil
  | _, _, n + 1, .cons r t => .cons r (RepL.take n t)
theorem RepL.drop : ∀ {l : List D} {vs : List V} (n : Nat), RepL K S H l vs → RepL K S H (l.drop n) (vs.drop n)
  | _, _, 0, r => r
  | _, _, _ + 1, .nil => .nil
  | _, _, n + 1, .cons _ t => RepL.drop n t
theorem RepL.set : ∀ {l : List D} {vs : List V} (n : Nat) {x : D} {v : V}, RepL K S H l vs → Rep K S H x v → RepL K S H (l.set n x) (vs.set n v)
  | _, _, _, _, _, .nil, _ => .nil
  | _, _, 0, _, _, .cons _ t, q => .cons q t
  | _, _, n + 1, _, _, .cons r t, q => .cons r (RepL.set n t q)
theorem RepL.eraseIdx : ∀ {l : List D} {vs : List V} (n : Nat), RepL K S H l vs → RepL K S H (l.eraseIdx n) (vs.eraseIdx n)
  | _, _, _, .nil => .nil
  | _, _, 0, .cons _ t => t
  | _, _, n + 1, .cons r t => .cons r (RepL.eraseIdx n t)
theorem RepL.reverse : ∀ {l : List D} {vs : List V}, RepL K S H l vs → RepL K S H l.reverse vs.reverse
  | _, _, .nil => .nil
  | _, _, .cons r t => by
    rw [List.reverse_cons, List.reverse_cons]
    exact (RepL.reverse t).append (.cons r .nil)
theorem RepL.flatRep {l : List D} {vs : List V} (r : RepL K S H l vs) : ∀ n : Nat, RepL K S H (List.replicate n l).flatten (List.replicate n vs).flatten
  | 0 => .nil
  | n + 1 => by
    rw [List.replicate_succ, List.replicate_succ, List.flatten_cons, List.flatten_cons]
    exact r.append (RepL.flatRep r n)

/-! what stands otherwise at addresses that do not matter -/
/-- H' has all that a value's representation leans on -/
structure Lean' (K : PySem.W.Frag) (S : Sto) (H : Hp) (S' : Sto) (H' : Hp) : Prop where
  tup : ∀ a vs, SqT K H a vs → SqT K H' a vs
  lst : ∀ a vs, H a = some (.lst vs) → S a = none → H' a = some (.lst vs) ∧ S' a = none
  scr : ∀ a vs, Rd H a (.lst vs) → S a = none → Rd H' a (.lst vs) ∧ S' a = none
  dct : ∀ a kvs, Rd H a (.dK kvs) → S a = none → Rd H' a (.dK kvs) ∧ S' a = none
  ins : ∀ a c dx gs, H a = some (.ins c dx gs) → S a = none → H' a = some (.ins c dx gs) ∧ S' a = none
mutual
theorem Rep.lean (k : Lean' K S H S' H') : ∀ {x : D} {v : V}, Rep K S H x v → Rep K S' H' x v
  | _, _, .non => .non
  | _, _, .bl b => .bl b
  | _, _, .int i => .int i
  | _, _, .str x => .str x
  | _, _, .tup h n r => .tup (k.tup _ _ h) n (RepL.lean k r)
  | _, _, .lst h e n r => .lst (k.lst _ _ h e).1 (k.lst _ _ h e).2 n (RepL.lean k r)
  | _, _, .scr h e n r => .scr (k.scr _ _ h e).1 (k.scr _ _ h e).2 n (RepL.lean k r)
  | _, _, .scrK h n r => .scrK h n (RepL.lean k r)
  | _, _, .dct h e n r => .dct (k.dct _ _ h e).1 (k.dct _ _ h e).2 n (RepK.lean k r)
  | _, _, .ins h e n r => .ins (k.ins _ _ _ _ h e).1 (k.ins _ _ _ _ h e).2 n (RepF.lean k r)
  | _, _, .ref a => .ref a
theorem RepL.lean (k : Lean' K S H S' H') : ∀ {l : List D} {vs : List V}, RepL K S H l vs → RepL K S' H' l vs
  | _, _, .nil => .nil
  | _, _, .cons r t => .cons (Rep.lean k r) (RepL.lean k t)
theorem RepK.lean (k : Lean' K S H S' H') : ∀ {l : List (Key × D)} {vs : List (Key × V)}, RepK K S H l vs → RepK K S' H' l vs
  | _, _, .nil => .nil
  | _, _, .cons r t => .cons (Rep.lean k r) (RepK.lean k t)
theorem RepF.lean (k : Lean' K S H S' H') : ∀ {l : List (String × D)} {vs : List (Str × V)}, RepF K S H l vs → RepF K S' H' l vs
  | _, _, .nil => .nil
  | _, _, .cons r t => .cons (Rep.lean k r) (RepF.lean k t)
end
theorem Lean'.keep (k : Lean' K S H S' H') (z : ∀ a o u, H a = some (.frz o u) → H' a = some (.frz o u)) : Keep K S H S' H' := ⟨fun _ _ h => Rep.lean k h, z⟩
/-- a thing of the heap that no store has: what may change elsewhere -/
theorem Lean'.of (h : ∀ b, S b = none → (∃ o, H b = some o) → H' b = H b ∧ S' b = none) (ht : ∀ b vs, Rd H b (.tup vs) → H' b = H b) : Lean' K S H S' H' where
  tup := fun a vs q => by
    rcases q with q | q
    · refine .inl ?_
      have e := ht a vs q
      rcases q with q | ⟨o, q⟩
      · exact .inl (by rw [e]; exact q)
      · exact .inr ⟨o, by rw [e]; exact q⟩
    · exact .inr q
  lst := fun a vs q n => by
    obtain ⟨e, n'⟩ := h a n ⟨_, q⟩
    exact ⟨by rw [e]; exact q, n'⟩
  scr := fun a vs q n => by
    rcases q with q | ⟨o, q⟩
    · obtain ⟨e, n'⟩ := h a n ⟨_, q⟩
      exact ⟨.inl (by rw [e]; exact q), n'⟩
    · obtain ⟨e, n'⟩ := h a n ⟨_, q⟩
      exact ⟨.inr ⟨o, by rw [e]; exact q⟩, n'⟩
  dct := fun a kvs q n => by
    rcases q with q | ⟨o, q⟩
    · obtain ⟨e, n'⟩ := h a n ⟨_, q⟩
      exact ⟨.inl (by rw [e]; exact q), n'⟩
    · obtain ⟨e, n'⟩ := h a n ⟨_, q⟩
      exact ⟨.inr ⟨o, by rw [e]; exact q⟩, n'⟩
  ins := fun a c dx gs q n => by
    obtain ⟨e, n'⟩ := h a n ⟨_, q⟩
    exact ⟨by rw [e]; exact q, n'⟩
/-- a new thing at p, which no store has -/
theorem Keep.new {p : Addr} {o : HO} (hp : H p = none) : Keep K S H S (upd H p o) := (Lean'.of (fun b n ⟨u, e⟩ => ⟨upd_ne (ne_of_none e hp), n⟩) fun b vs q => upd_ne (by
  rcases q with q | ⟨u, q⟩
  · exact ne_of_none q hp
  · exact ne_of_none q hp)).keep fun a o u e => (upd_ne (ne_of_none e hp)).trans e
/-- .. and owned -/
theorem Keep.own {p : Addr} {o : HO} {u : SO} (hp : H p = none) : Keep K S H (S.set p u) (upd H p o) := (Lean'.of (fun b n ⟨w, e⟩ => ⟨upd_ne (ne_of_none e hp), by rw [Sto.set_ne (ne_of_none e hp)]; exact n⟩) fun b vs q => upd_ne (by
  rcases q with q | ⟨u, q⟩
  · exact ne_of_none q hp
  · exact ne_of_none q hp)).keep fun a o u e => (upd_ne (ne_of_none e hp)).trans e
/-- an owned thing is written -/
theorem Keep.put {a : Addr} {o : HO} {u : SO} (hs : (S a).isSome = true) (hm : ∀ vs, ¬ Rd H a (.tup vs)) (hf : ∀ o u, H a ≠ some (.frz o u)) : Keep K S H (S.set a u) (upd H a o) := (Lean'.of (fun b n _ => by
  have h : b ≠ a := fun e => by rw [e] at n; rw [n] at hs; cases hs
  exact ⟨upd_ne h, by rw [Sto.set_ne h]; exact n⟩) fun b vs q => upd_ne fun e => hm vs (by rw [← e]; exact q)).keep fun b o u e => (upd_ne fun z => hf o u (by rw [← z]; exact e)).trans e
/-- an owned thing is left -/
theorem Keep.left (h : ∀ a, S' a = S a ∨ S' a = none) : Keep K S H S' H := (Lean'.of (fun b n _ => ⟨rfl, by rcases h b with e | e; exact e.trans n; exact e⟩) fun _ _ _ => rfl).keep fun _ _ _ e => e
theorem ORep.keep (k : Keep K S H S' H') {a : Addr} {o : SO} (e : H' a = H a) (r : ORep K S H a o) : ORep K S' H' a o := by
  cases o with
  | lst l => obtain ⟨n, vs, h, q⟩ := r; exact ⟨n, vs, by rw [e]; exact h, k.l q⟩
  | dct l => obtain ⟨n, vs, h, q⟩ := r; exact ⟨n, vs, by rw [e]; exact h, k.k q⟩
  | ins c fs => obtain ⟨n, dx, gs, h, q⟩ := r; exact ⟨n, dx, gs, by rw [e]; exact h, k.f q⟩
  | lck l => obtain ⟨n, o, vs, h, q⟩ := r; exact ⟨n, o, vs, by rw [e]; exact h, k.k q⟩
theorem ORep.there {a : Addr} {o : SO} (r : ORep K S H a o) : ∃ u, H a = some u ∧ ∀ vs, ¬ Rd H a (.tup vs) := by
  have fin : ∀ {u : HO}, H a = some u → (∀ vs, u ≠ .tup vs) → (∀ ob vs, u ≠ .frz ob (.tup vs)) → ∃ u, H a = some u ∧ ∀ vs, ¬ Rd H a (.tup vs) := fun {u} h n1 n2 => ⟨u, h, fun vs q => by
    rcases q with q | ⟨ob, q⟩
    · rw [h] at q; exact n1 vs (Option.some.inj q)
    · rw [h] at q; exact n2 ob vs (Option.some.inj q)⟩
  cases o with
  | lst l => obtain ⟨n, vs, h, q⟩ := r; exact fin h (by intro _ z; cases z) (by intro _ _ z; cases z)
  | dct l => obtain ⟨n, vs, h, q⟩ := r; exact fin h (by intro _ z; cases z) (by intro _ _ z; cases z)
  | ins c fs => obtain ⟨n, dx, gs, h, q⟩ := r; exact fin h (by intro _ z; cases z) (by intro _ _ z; cases z)
  | lck l => obtain ⟨n, o, vs, h, q⟩ := r; exact fin h (by intro _ z; cases z) (by intro _ _ z; cases z)
theorem ORep.nofrz {a : Addr} {o : SO} (r : ORep K S H a o) (hw : ∀ l, o ≠ .lck l) : ∀ ob u, H a ≠ some (.frz ob u) := fun ob u e => by
  cases o with
  | lst l => obtain ⟨n, vs, h, q⟩ := r; rw [h] at e; cases e
  | dct l => obtain ⟨n, vs, h, q⟩ := r; rw [h] at e; cases e
  | ins c fs => obtain ⟨n, dx, gs, h, q⟩ := r; rw [h] at e; cases e
  | lck l => exact hw l rfl
theorem Rel.new {p : Addr} {o : HO} (r : Rel K S H) (hp : H p = none) : Rel K S (upd H p o) := fun a u e => by
  have q := r a u e
  obtain ⟨w, hw, _⟩ := q.there
  exact q.keep (Keep.new hp) (upd_ne (ne_of_none hw hp))
theorem Rel.fresh {p : Addr} (r : Rel K S H) (hp : H p = none) : S p = none := by
  cases e : S p with
  | none => rfl
  | some o =>
    obtain ⟨w, hw, _⟩ := (r p o e).there
    rw [hp] at hw; cases hw
theorem Rel.own {p : Addr} {o : HO} {u : SO} (r : Rel K S H) (hp : H p = none) (n : ORep K (S.set p u) (upd H p o) p u) : Rel K (S.set p u) (upd H p o) := fun a w e => by
  by_cases h : a = p
  · subst h; rw [Sto.set_same] at e; cases e; exact n
  · rw [Sto.set_ne h] at e
    exact (r a w e).keep (Keep.own hp) (upd_ne h)
theorem Rel.put {a : Addr} {o : HO} {u w : SO} (r : Rel K S H) (hs : S a = some w) (n : ORep K (S.set a u) (upd H a o) a u) (hw : ∀ l, w ≠ .lck l := by intro _ z; cases z) : Rel K (S.set a u) (upd H a o) := fun b x e => by
  by_cases h : b = a
  · subst h; rw [Sto.set_same] at e; cases e; exact n
  · rw [Sto.set_ne h] at e
    obtain ⟨_, _, nt⟩ := (r a w hs).there
    exact (r b x e).keep (Keep.put (by rw [hs]; rfl) nt ((r a w hs).nofrz hw)) (upd_ne h)
theorem Keep.putR {a : Addr} {o : HO} {u w : SO} (r : Rel K S H) (hs : S a = some w) (hw : ∀ l, w ≠ .lck l := by intro _ z; cases z) : Keep K S H (S.set a u) (upd H a o) := by
  obtain ⟨_, _, nt⟩ := (r a w hs).there
  exact Keep.put (by rw [hs]; rfl) nt ((r a w hs).nofrz hw)
theorem Rel.left (r : Rel K S H) (h : ∀ a, S' a = S a ∨ S' a = none) : Rel K S' H := fun a o e => by
  rcases h a with q | q
  · exact (r a o (by rw [← q]; exact e)).keep (Keep.left h) rfl
  · rw [q] at e; cases e
end
end SB
end

section
set_option Elab.async false
set_option linter.all false
set_option maxRecDepth 100000
set_option autoImplicit false
/-! SB1: where one stands, the judgements over data, the plain expressions. -/
namespace SB
open PySem PySem.Spec L2
abbrev En := List (Option D)
structure Good (K : PySem.W.Frag) (ς : En) (S : Sto) (σ : St) (H : Hp) : Prop where
  len : ς.length = σ.length
  var : ∀ (i : Nat) (x : D), ς[i]? = some (some x) → ∃ v : V, σ[i]? = some (some v) ∧ Rep K S H x v
  rel : Rel K S H
abbrev Pd := D → Sto → Prop
abbrev Px := String → Sto → Prop
abbrev WpE := En → Sto → Pd → Px → Prop
abbrev WpA := En → Sto → (List D → Sto → Prop) → Px → Prop
abbrev WpT := En → Sto → (Bool → Sto → Prop) → Px → Prop
/-- a body's frame: what stood at its entry, what is wanted of an exception that leaves -/
structure Fr where
  S0 : Sto
  H0 : Hp
  XE : String → En → Sto → Prop
section
variable {K : PySem.W.Frag} {ς : En} {S S' : Sto} {σ : St} {H H' : Hp}
theorem Good.keep (g : Good K ς S σ H) (r : Rel K S' H') (k : Keep K S H S' H') : Good K ς S' σ H' :=
  ⟨g.len, fun i x e => by obtain ⟨v, h1, h2⟩ := g.var i x e; exact ⟨v, h1, k _ _ h2⟩, r⟩
theorem Good.set (g : Good K ς S σ H) {i : Nat} {x : D} {v : V} (r : Rep K S H x v) : Good K (ς.set i (some x)) S (σ.set i (some v)) H := by
  refine ⟨by simp [g.len], fun j y e => ?_, g.rel⟩
  by_cases h : i = j
  · subst h
    by_cases hi : i < ς.length
    · rw [List.getElem?_set_self hi] at e
      cases e
      exact ⟨v, by rw [List.getElem?_set_self (by rw [← g.len]; exact hi)], r⟩
    · rw [List.getElem?_eq_none (by simpa using hi)] at e; cases e
  · rw [List.getElem?_set_ne h] at e
    obtain ⟨u, h1, h2⟩ := g.var j y e
    exact ⟨u, by rw [List.getElem?_set_ne h]; exact h1, h2⟩
theorem Good.unset (g : Good K ς S σ H) {i : Nat} : Good K (ς.set i none) S (σ.set i none) H := by
  refine ⟨by simp [g.len], fun j y e => ?_, g.rel⟩
  by_cases h : i = j
  · subst h
    by_cases hi : i < ς.length
    · rw [List.getElem?_set_self hi] at e; cases e
    · rw [List.getElem?_eq_none (by simpa using hi)] at e; cases e
  · rw [List.getElem?_set_ne h] at e
    obtain ⟨u, h1, h2⟩ := g.var j y e
    exact ⟨u, by rw [List.getElem?_set_ne h]; exact h1, h2⟩
end
section
variable (K : PySem.W.Frag) (F : Fr)
/-- the reading of an expression -/
def tE (w : WpE) : TE := fun σ H Q => ∃ (ς : En) (S : Sto) (R : Pd), Good K ς S σ H ∧ Keep K F.S0 F.H0 S H ∧ w ς S R (fun c S' => F.XE c ς S') ∧
  ∀ x S' v H', R x S' → Rel K S' H' → Keep K S H S' H' → Rep K S' H' x v → Q v H'
def tT (w : WpT) : TT := fun σ H Q => ∃ (ς : En) (S : Sto) (R : Bool → Sto → Prop), Good K ς S σ H ∧ Keep K F.S0 F.H0 S H ∧ w ς S R (fun c S' => F.XE c ς S') ∧
  ∀ b S' H', R b S' → Rel K S' H' → Keep K S H S' H' → Q b H'
def tA (w : WpA) : TA := fun σ H Q => ∃ (ς : En) (S : Sto) (R : List D → Sto → Prop), Good K ς S σ H ∧ Keep K F.S0 F.H0 S H ∧ w ς S R (fun c S' => F.XE c ς S') ∧
  ∀ xs S' vs H', R xs S' → Rel K S' H' → Keep K S H S' H' → RepL K S' H' xs vs → Q vs H'
end
def WE (X : Cx) (F : Fr) (e : Expr) (w : WpE) : Prop := PE X e (tE X.K F w)
def WT (X : Cx) (F : Fr) (e : Expr) (w : WpT) : Prop := PT X e (tT X.K F w)
def WA (X : Cx) (F : Fr) (es : List Expr) (w : WpA) : Prop := PA X es (tA X.K F w)
section
variable {X : Cx} {F : Fr}
theorem _root_.L2.PE.imp {e : Expr} {t t' : TE} (h : PE X e t) (i : ∀ σ H Q, t' σ H Q → t σ H Q) : PE X e t' := ⟨fun pins s σ H Q I q => h.run pins s σ H Q I (i σ H Q q)⟩
theorem _root_.L2.PT.imp {e : Expr} {t t' : TT} (h : PT X e t) (i : ∀ σ H Q, t' σ H Q → t σ H Q) : PT X e t' := ⟨fun pins s σ H Q I q => h.run pins s σ H Q I (i σ H Q q)⟩
theorem _root_.L2.PW.imp {e : Expr} {t t' : TT} (h : PW X e t) (i : ∀ σ H Q, t' σ H Q → t σ H Q) : PW X e t' := ⟨fun wh pins s σ H Q I q => h.run wh pins s σ H Q I (i σ H Q q)⟩
theorem _root_.L2.PA.imp {es : List Expr} {t t' : TA} (h : PA X es t) (i : ∀ σ H Q, t' σ H Q → t σ H Q) : PA X es t' := ⟨fun pos pins s σ H Q I q => h.run pos pins s σ H Q I (i σ H Q q)⟩
theorem _root_.L2.PS.imp {st : Stmt} {t t' : TS} (h : PS X st t) (i : ∀ D σ H, t' D σ H → t D σ H) : PS X st t' := ⟨fun pins s σ H D I q => h.run pins s σ H D I (i D σ H q)⟩
theorem _root_.L2.PSs.imp {st : List Stmt} {t t' : TS} (h : PSs X st t) (i : ∀ D σ H, t' D σ H → t D σ H) : PSs X st t' := ⟨fun pins s σ H D I q => h.run pins s σ H D I (i D σ H q)⟩
theorem _root_.L2.PE.or {e : Expr} {t t' : TE} (h : PE X e t) (h' : PE X e t') : PE X e (fun σ H Q => t σ H Q ∨ t' σ H Q) := ⟨fun pins s σ H Q I q => q.elim (h.run pins s σ H Q I) (h'.run pins s σ H Q I)⟩
theorem _root_.L2.PS.or {e : Stmt} {t t' : TS} (h : PS X e t) (h' : PS X e t') : PS X e (fun D σ H => t D σ H ∨ t' D σ H) := ⟨fun pins s σ H Q I q => q.elim (h.run pins s σ H Q I) (h'.run pins s σ H Q I)⟩
/-- a reading from a wish in another form: the way all rules are used -/
theorem tE.step {w : WpE} {t : TE} (h : ∀ (ς : En) (S : Sto) (R : Pd) (σ : St) (H : Hp) (Q : VK), Good X.K ς S σ H → Keep X.K F.S0 F.H0 S H → w ς S R (fun c S' => F.XE c ς S') →
    (∀ x S' v H', R x S' → Rel X.K S' H' → Keep X.K S H S' H' → Rep X.K S' H' x v → Q v H') → t σ H Q) : ∀ σ H Q, tE X.K F w σ H Q → t σ H Q :=
  fun σ H Q ⟨ς, S, R, g, k, hw, hR⟩ => h ς S R σ H Q g k hw hR
theorem tE.mk {K : PySem.W.Frag} {w : WpE} {ς : En} {S : Sto} {R : Pd} {σ : St} {H : Hp} {Q : VK} (g : Good K ς S σ H) (k : Keep K F.S0 F.H0 S H) (hw : w ς S R (fun c S' => F.XE c ς S'))
    (hR : ∀ x S' v H', R x S' → Good K ς S' σ H' → Keep K F.S0 F.H0 S' H' → Keep K S H S' H' → Rep K S' H' x v → Q v H') : tE K F w σ H Q :=
  ⟨ς, S, R, g, k, hw, fun x S' v H' q r k' p => hR x S' v H' q (g.keep r k') (k.trans k') k' p⟩
theorem tT.mk {K : PySem.W.Frag} {w : WpT} {ς : En} {S : Sto} {R : Bool → Sto → Prop} {σ : St} {H : Hp} {Q : Bool → Hp → Prop} (g : Good K ς S σ H) (k : Keep K F.S0 F.H0 S H) (hw : w ς S R (fun c S' => F.XE c ς S'))
    (hR : ∀ x S' H', R x S' → Good K ς S' σ H' → Keep K F.S0 F.H0 S' H' → Keep K S H S' H' → Q x H') : tT K F w σ H Q :=
  ⟨ς, S, R, g, k, hw, fun x S' H' q r k' => hR x S' H' q (g.keep r k') (k.trans k') k'⟩
theorem tA.mk {K : PySem.W.Frag} {w : WpA} {ς : En} {S : Sto} {R : List D → Sto → Prop} {σ : St} {H : Hp} {Q : List V → Hp → Prop} (g : Good K ς S σ H) (k : Keep K F.S0 F.H0 S H) (hw : w ς S R (fun c S' => F.XE c ς S'))
    (hR : ∀ x S' v H', R x S' → Good K ς S' σ H' → Keep K F.S0 F.H0 S' H' → Keep K S H S' H' → RepL K S' H' x v → Q v H') : tA K F w σ H Q :=
  ⟨ς, S, R, g, k, hw, fun x S' v H' q r k' p => hR x S' v H' q (g.keep r k') (k.trans k') k' p⟩
end

/-! ### names, constants -/
def wVar (i : Nat) : WpE := fun ς S R _ => ∃ x, ς[i]? = some (some x) ∧ R x S
def wC (d : D) : WpE := fun _ S R _ => R d S
section
variable {X : Cx} {F : Fr} {pos : Pos}
theorem we_var {i : Nat} {x : Str} (hN : X.N[i]? = some x) (hv : Vis X.env.scope x) (hd : (x == ("__debug__" : Str)) = false) (hcd : (x == ("__classdict__" : Str)) = false) : WE X F (.Name x pos) (wVar i) :=
  (pe_var hN hv hd hcd).imp (tE.step fun ς S R σ H Q g k hw hR => by
    obtain ⟨x, e, q⟩ := hw
    obtain ⟨v, h1, h2⟩ := g.var i x e
    exact ⟨v, h1, hR x S v H q g.rel .refl h2⟩)
theorem we_c {e : Expr} {v : V} {d : D} (h : PE X e (tC v)) (r : ∀ S H, Rep X.K S H d v) : WE X F e (wC d) :=
  h.imp (tE.step fun ς S R σ H Q g k hw hR => hR d S v H hw g.rel .refl (r S H))
theorem we_int {i j} : WE X F (.Constant (.int i) j pos) (wC (.int i)) := we_c pe_int fun _ _ => .int i
theorem we_bl {b j} : WE X F (.Constant (.bool b) j pos) (wC (.bl b)) := we_c pe_bl fun _ _ => .bl b
theorem we_non {j} : WE X F (.Constant .none j pos) (wC .non) := we_c pe_non fun _ _ => .non
theorem we_str {x j} : WE X F (.Constant (.str x) j pos) (wC (.str x)) := we_c pe_str fun _ _ => .str x
theorem we_globI {x : Str} {i : Int} {u : Value} (hg : Gl X x) (hm : X.mg x = some u) (r : RelV (.int i) u) (hd : (x == ("__debug__" : Str)) = false) : WE X F (.Name x pos) (wC (.int i)) := we_c (pe_glob hg hm r hd) fun _ _ => .int i
theorem we_globS {x z : Str} {u : Value} (hg : Gl X x) (hm : X.mg x = some u) (r : RelV (.str z) u) (hd : (x == ("__debug__" : Str)) = false) : WE X F (.Name x pos) (wC (.str z)) := we_c (pe_glob hg hm r hd) fun _ _ => .str z
end

/-! ### operators by values -/
/-- what an operator's rule asks, from what is asked of data -/
def OpD (K : PySem.W.Frag) (r : R2) (f : D → D → Sto → Pd → Prop) : Prop :=
  ∀ x y v u S H (R : Pd) (Q : VK), Rel K S H → Rep K S H x v → Rep K S H y u → f x y S R → (∀ z S' v' H', R z S' → Rel K S' H' → Keep K S H S' H' → Rep K S' H' z v' → Q v' H') → r v u H Q
def wOp (f : D → D → Sto → Pd → Prop) (wa wb : WpE) : WpE := fun ς S R RE => wa ς S (fun x S1 => wb ς S1 (fun y S2 => f x y S2 R) RE) RE
section
variable {X : Cx} {F : Fr} {pos : Pos} {a b : Expr} {wa wb : WpE} {r : R2} {f : D → D → Sto → Pd → Prop}
theorem two_ok {K : PySem.W.Frag} (hd : OpD K r f) {σ : St} {H : Hp} {Q : VK} (h : tE K F (wOp f wa wb) σ H Q) : tOp r (tE K F wa) (tE K F wb) σ H Q := by
  obtain ⟨ς, S, R, g, k, hw, hR⟩ := h
  refine tE.mk g k hw fun x S1 v H1 h1 g1 k1 d1 r1 => tE.mk g1 k1 h1 fun y S2 u H2 h2 g2 k2 d2 r2 => ?_
  exact hd x y v u S2 H2 R Q g2.rel (d2 _ _ r1) r2 h2 fun z S3 v' H3 h3 r3 k3 p3 => hR z S3 v' H3 h3 r3 ((d1.trans d2).trans k3) p3
theorem we_op {op : Operator} (ho : OpR X (binaryOp op) r) (hd : OpD X.K r f) (ha : WE X F a wa) (hb : WE X F b wb) : WE X F (.BinOp a op b pos) (wOp f wa wb) :=
  (pe_op ho ha hb).imp fun _ _ _ h => two_ok hd h
end
/-- pure on data -/
def fP (g : D → D → Option D) : D → D → Sto → Pd → Prop := fun x y S R => ∃ z, g x y = some z ∧ R z S
/-- the list that a value is -/
def lstOf (S : Sto) : D → Option (List D)
  | .lst l => some l
  | .ref a => (match S a with
    | some (.lst l) => some l
    | _ => none)
  | _ => none
/-- a new list: one's own to write, or data -/
def mkL (own : Bool) (l : List D) (S : Sto) (R : Pd) : Prop := l.length ≤ sizeLine ∧ match own with
  | true => ∀ p, S p = none → R (.ref p) (S.set p (.lst l))
  | false => R (.lst l) S
theorem lstOf_rep {K : PySem.W.Frag} {S : Sto} {H : Hp} {x : D} {v : V} {l : List D} (r : Rep K S H x v) (q : Rel K S H) (e : lstOf S x = some l) : ∃ a vs, v = .ref a ∧ H a = some (.lst vs) ∧ RepL K S H l vs ∧ l.length ≤ sizeLine := by
  cases r with
  | lst h n z r => cases e; exact ⟨_, _, rfl, h, r, z⟩
  | ref a =>
    unfold lstOf at e
    dsimp only at e
    cases h : S a with
    | none => rw [h] at e; cases e
    | some o =>
      rw [h] at e
      cases o with
      | lst l' => cases e; obtain ⟨z, vs, h1, h2⟩ := q a _ h; exact ⟨_, _, rfl, h1, h2, z⟩
      | _ => cases e
  | _ => cases e
theorem mkL_ok {K : PySem.W.Frag} {S : Sto} {H : Hp} {own : Bool} {l : List D} {vs : List V} {R : Pd} {Q : VK} (q : Rel K S H) (h : mkL own l S R) (r : RepL K S H l vs)
    (hR : ∀ z S' v' H', R z S' → Rel K S' H' → Keep K S H S' H' → Rep K S' H' z v' → Q v' H') : vs.length ≤ sizeLine ∧ ∀ p, H p = none → Q (.ref p) (upd H p (.lst vs)) := by
  obtain ⟨z, h⟩ := h
  refine ⟨by rw [← r.length]; exact z, fun p hp => ?_⟩
  cases own with
  | true => exact hR _ _ _ _ (h p (q.fresh hp)) (q.own hp ⟨z, vs, upd_same, (Keep.own hp).l r⟩) (Keep.own hp) (.ref p)
  | false => exact hR _ _ _ _ h (q.new hp) (Keep.new hp) (.lst upd_same (q.fresh hp) z ((Keep.new hp).l r))
theorem mkT_ok {K : PySem.W.Frag} {S : Sto} {H : Hp} {l : List D} {vs : List V} {R : Pd} {Q : VK} (q : Rel K S H) (z : l.length ≤ sizeLine) (h : R (.tup l) S) (r : RepL K S H l vs)
    (hR : ∀ z S' v' H', R z S' → Rel K S' H' → Keep K S H S' H' → Rep K S' H' z v' → Q v' H') : vs.length ≤ sizeLine ∧ ∀ p, H p = none → Q (.ref p) (upd H p (.tup vs)) :=
  ⟨by rw [← r.length]; exact z, fun p hp => hR _ _ _ _ h (q.new hp) (Keep.new hp) (.tup (.of upd_same) z ((Keep.new hp).l r))⟩
end SB
end

section
set_option Elab.async false
set_option linter.all false
set_option maxRecDepth 100000
set_option autoImplicit false
/-! SB2: operators, comparisons, tests. -/
namespace SB
open PySem PySem.Spec L2

/-! ### arithmetic -/
def fAdd (own : Bool) : D → D → Sto → Pd → Prop
  | .int i, .int j, S, R => R (.int (i + j)) S
  | .str a, .str b, S, R => a.length + b.length ≤ sizeLine ∧ R (.str (a ++ b)) S
  | .tup l, .tup m, S, R => l.length + m.length ≤ sizeLine ∧ R (.tup (l ++ m)) S
  | x, y, S, R => ∃ l m, lstOf S x = some l ∧ lstOf S y = some m ∧ mkL own (l ++ m) S R
def fSub : D → D → Sto → Pd → Prop
  | .int i, .int j, S, R => R (.int (i - j)) S
  | _, _, _, _ => False
def fMul (own : Bool) : D → D → Sto → Pd → Prop
  | .int i, .int j, S, R => CMul i j ∧ R (.int (i * j)) S
  | x, .int k, S, R => ∃ l, lstOf S x = some l ∧ (-(2 ^ 63) ≤ k ∧ k < 2 ^ 63) ∧ mkL own (List.replicate k.toNat l).flatten S R
  | _, _, _, _ => False
def fDiv : D → D → Sto → Pd → Prop
  | .int i, .int j, S, R => (0 < j ∧ j.natAbs.log2 < 9000) ∧ R (.int (i / j)) S
  | _, _, _, _ => False
def fMod : D → D → Sto → Pd → Prop
  | .int i, .int j, S, R => 0 < j ∧ R (.int (i % j)) S
  | _, _, _, _ => False
def fPow : D → D → Sto → Pd → Prop
  | .int i, .int j, S, R => CPow i j ∧ R (.int (i ^ j.toNat)) S
  | _, _, _, _ => False
abbrev rAddS2 : R2 := fun x y H Q => ∃ i j, x = .str i ∧ y = .str j ∧ i.length + j.length ≤ sizeLine ∧ Q (.str (i ++ j)) H
abbrev rAddI2 : R2 := rI0 fun i j => .int (i + j)
section
variable {K : PySem.W.Frag} {S : Sto} {H : Hp}
theorem Rep.tup_inv {l : List D} {v : V} (r : Rep K S H (.tup l) v) : ∃ a vs, v = .ref a ∧ SqT K H a vs ∧ l.length ≤ sizeLine ∧ RepL K S H l vs := by
  cases r with
  | tup h n r => exact ⟨_, _, rfl, h, n, r⟩
theorem tupCat {l m : List D} {v u : V} {R : Pd} {Q : VK} (q : Rel K S H) (rx : Rep K S H (.tup l) v) (ry : Rep K S H (.tup m) u) (z : l.length + m.length ≤ sizeLine) (h : R (.tup (l ++ m)) S)
    (hR : ∀ z S' v' H', R z S' → Rel K S' H' → Keep K S H S' H' → Rep K S' H' z v' → Q v' H') : rCatA K v u H Q := by
  obtain ⟨a, vs, rfl, h1, n1, r1⟩ := rx.tup_inv
  obtain ⟨b, us, rfl, h2, n2, r2⟩ := ry.tup_inv
  have e1 := r1.length
  have e2 := r2.length
  refine ⟨a, b, vs, us, rfl, rfl, h1, h2, by omega, fun e => ?_, fun e e' => ?_, fun e e' p hp => ?_⟩
  · subst e
    have : l = [] := List.length_eq_zero_iff.mp (by simpa using e1)
    subst this
    exact hR _ S _ H h q .refl (by simpa using Rep.tup h2 n2 r2)
  · subst e'
    have : m = [] := List.length_eq_zero_iff.mp (by simpa using e2)
    subst this
    exact hR _ S _ H h q .refl (by simpa using Rep.tup h1 n1 r1)
  · exact hR _ _ _ _ h (q.new hp) (Keep.new hp) (.tup (.of upd_same) (by simpa using z) ((Keep.new hp).l (r1.append r2)))
theorem od_add {own : Bool} : OpD K (fun x y H Q => rAddI2 x y H Q ∨ rAddS2 x y H Q ∨ rCatA K x y H Q ∨ rCat x y H Q) (fAdd own) := by
  intro x y v u S H R Q q rx ry h hR
  unfold fAdd at h
  split at h
  · cases rx; cases ry
    exact .inl ⟨_, _, rfl, rfl, hR _ S _ H h q .refl (.int _)⟩
  · cases rx; cases ry
    exact .inr (.inl ⟨_, _, rfl, rfl, h.1, hR _ S _ H h.2 q .refl (.str _)⟩)
  · exact .inr (.inr (.inl (tupCat q rx ry h.1 h.2 hR)))
  · obtain ⟨l, m, e1, e2, h⟩ := h
    obtain ⟨a, vs, rfl, h1, r1, n1⟩ := lstOf_rep rx q e1
    obtain ⟨b, us, rfl, h2, r2, n2⟩ := lstOf_rep ry q e2
    obtain ⟨z, k⟩ := mkL_ok q h (r1.append r2) hR
    exact .inr (.inr (.inr ⟨a, b, vs, us, rfl, rfl, h1, h2, by simpa using z, k⟩))
theorem od_sub : OpD K (rI0 fun i j => .int (i - j)) fSub := by
  intro x y v u S H R Q q rx ry h hR
  unfold fSub at h
  split at h
  · cases rx; cases ry
    exact ⟨_, _, rfl, rfl, hR _ S _ H h q .refl (.int _)⟩
  · exact h.elim
theorem od_mul {own : Bool} : OpD K (fun x y H Q => (rI CMul fun i j => .int (i * j)) x y H Q ∨ rRep x y H Q) (fMul own) := by
  intro x y v u S H R Q q rx ry h hR
  unfold fMul at h
  split at h
  · cases rx; cases ry
    exact .inl ⟨_, _, rfl, rfl, h.1, hR _ S _ H h.2 q .refl (.int _)⟩
  · cases ry
    obtain ⟨l, e1, hk, h⟩ := h
    obtain ⟨a, vs, rfl, h1, r1, n1⟩ := lstOf_rep rx q e1
    rename_i k _
    obtain ⟨z, kk⟩ := mkL_ok q h (r1.flatRep k.toNat) hR
    refine .inr ⟨a, _, vs, rfl, rfl, h1, hk.1, hk.2, ?_, kk⟩
    simpa [Nat.mul_comm] using z
  · exact h.elim
theorem od_div : OpD K (rI CDivW fun i j => .int (i / j)) fDiv := by
  intro x y v u S H R Q q rx ry h hR
  unfold fDiv at h
  split at h
  · cases rx; cases ry
    exact ⟨_, _, rfl, rfl, h.1, hR _ S _ H h.2 q .refl (.int _)⟩
  · exact h.elim
theorem od_mod : OpD K (rI (fun _ j => 0 < j) fun i j => .int (i % j)) fMod := by
  intro x y v u S H R Q q rx ry h hR
  unfold fMod at h
  split at h
  · cases rx; cases ry
    exact ⟨_, _, rfl, rfl, h.1, hR _ S _ H h.2 q .refl (.int _)⟩
  · exact h.elim
theorem od_pow : OpD K (rI CPow fun i j => .int (i ^ j.toNat)) fPow := by
  intro x y v u S H R Q q rx ry h hR
  unfold fPow at h
  split at h
  · cases rx; cases ry
    exact ⟨_, _, rfl, rfl, h.1, hR _ S _ H h.2 q .refl (.int _)⟩
  · exact h.elim
end
section
variable {X : Cx} {F : Fr} {pos : Pos} {a b : Expr} {wa wb : WpE}
theorem we_add {own : Bool} (ha : WE X F a wa) (hb : WE X F b wb) : WE X F (.BinOp a .Add b pos) (wOp (fAdd own) wa wb) :=
  we_op (op_add.or (op_add_str.or (op_catA.or op_cat))) od_add ha hb
theorem we_sub (ha : WE X F a wa) (hb : WE X F b wb) : WE X F (.BinOp a .Sub b pos) (wOp fSub wa wb) := we_op op_sub od_sub ha hb
theorem we_mul {own : Bool} (ha : WE X F a wa) (hb : WE X F b wb) : WE X F (.BinOp a .Mult b pos) (wOp (fMul own) wa wb) := we_op (op_mul.or op_rep) od_mul ha hb
theorem we_div (ha : WE X F a wa) (hb : WE X F b wb) : WE X F (.BinOp a .FloorDiv b pos) (wOp fDiv wa wb) := we_op op_fdivW od_div ha hb
theorem we_mod (ha : WE X F a wa) (hb : WE X F b wb) : WE X F (.BinOp a .Mod b pos) (wOp fMod wa wb) := we_op op_mod od_mod ha hb
theorem we_pow (ha : WE X F a wa) (hb : WE X F b wb) : WE X F (.BinOp a .Pow b pos) (wOp fPow wa wb) := we_op op_pow od_pow ha hb
def wUn (f : D → Sto → Pd → Prop) (wa : WpE) : WpE := fun ς S R RE => wa ς S (fun x S1 => f x S1 R) RE
def fNeg : D → Sto → Pd → Prop
  | .int i, S, R => R (.int (-i)) S
  | _, _, _ => False
theorem we_neg (ha : WE X F a wa) : WE X F (.UnaryOp .USub a pos) (wUn fNeg wa) :=
  (pe_un un_neg ha).imp fun σ H Q h => by
    obtain ⟨ς, S, R, g, k, hw, hR⟩ := h
    refine tE.mk g k hw fun x S1 v H1 h1 g1 k1 d1 r1 => ?_
    unfold fNeg at h1
    split at h1
    · cases r1
      exact ⟨_, rfl, hR _ S1 _ H1 h1 g1.rel d1 (.int _)⟩
    · exact h1.elim
end

/-! ### comparisons -/
mutual
def pyD : D → PyData
  | .non => .none
  | .bl b => .bool b
  | .int i => .int i
  | .str x => .str x
  | .tup l => .tuple (pyL l)
  | .lst l => .list (pyL l)
  | .scr l => .list (pyL l)
  | .dct _ => .dict []
  | .ins _ _ => .dict []
  | .ref _ => .dict []
  | .exc _ => .dict []
def pyL : List D → List PyData
  | [] => []
  | x :: r => pyD x :: pyL r
end
/-- plain data, not too deep -/
def okD (x : D) : Bool := SeqAt.shaped (pyD x)
def dEq (x y : D) : Bool := PyData.eqv (pyD x) (pyD y)
/-- an owned list as data -/
def view (S : Sto) (x : D) : D := match x with
  | .ref a => (match S a with
    | some (.lst l) => .lst l
    | _ => .ref a)
  | x => x
theorem KLst.sq {K : PySem.W.Frag} {H : Hp} {a : Addr} {xs : List V} (h : KLst K a xs) : SqL K H a xs := .inr h
mutual
theorem rep_dp {K : PySem.W.Frag} {S : Sto} {H : Hp} : ∀ {x : D} {v : V}, Rep K S H x v → (pyD x).canLay0 = true → Dp K H v (pyD x)
  | _, _, .non, _ => .non
  | _, _, .bl b, _ => .bl b
  | _, _, .int i, _ => .int i
  | _, _, .str x, _ => .str x
  | _, _, .tup h _ r, e => .tup h (repL_dp r (by simpa [pyD, PyData.canLay0] using e))
  | _, _, .lst h _ _ r, e => .lst (.of h) (repL_dp r (by simpa [pyD, PyData.canLay0] using e))
  | _, _, .scr h _ _ r, e => .lst (.inl h) (repL_dp r (by simpa [pyD, PyData.canLay0] using e))
  | _, _, .scrK h _ r, e => .lst h.sq (repL_dp r (by simpa [pyD, PyData.canLay0] using e))
  | _, _, .dct _ _ _ _, e => by simp [pyD, PyData.canLay0] at e
  | _, _, .ins _ _ _ _, e => by simp [pyD, PyData.canLay0] at e
  | _, _, .ref _, e => by simp [pyD, PyData.canLay0] at e
theorem repL_dp {K : PySem.W.Frag} {S : Sto} {H : Hp} : ∀ {l : List D} {vs : List V}, RepL K S H l vs → PyData.canLayAll0 (pyL l) = true → DpAll K H vs (pyL l)
  | _, _, .nil, _ => .nil
  | _, _, .cons r t, e => by
    simp only [pyL, PyData.canLayAll0, Bool.and_eq_true] at e
    exact .cons (rep_dp r e.1) (repL_dp t e.2)
end
theorem view_dp {K : PySem.W.Frag} {S : Sto} {H : Hp} {x : D} {v : V} (r : Rep K S H x v) (q : Rel K S H) (e : okD (view S x) = true) : Dp K H v (pyD (view S x)) := by
  have e' := SeqAt.canLay_of_shaped e
  cases x with
  | ref a =>
    cases r
    unfold view at e' ⊢
    dsimp only at e' ⊢
    cases h : S a with
    | none => rw [h] at e'; simp [pyD, PyData.canLay0] at e'
    | some o =>
      rw [h] at e'
      cases o with
      | lst l =>
        obtain ⟨z, vs, h1, h2⟩ := q a _ h
        exact .lst (.of h1) (repL_dp h2 (by simpa [pyD, PyData.canLay0] using e'))
      | dct l => simp [pyD, PyData.canLay0] at e'
      | ins c l => simp [pyD, PyData.canLay0] at e'
      | lck l => simp [pyD, PyData.canLay0] at e'
  | _ => exact rep_dp r e'
def fEq (neg : Bool) (x y : D) (S : Sto) (R : Pd) : Prop := okD (view S x) = true ∧ okD (view S y) = true ∧ R (.bl (neg ^^ dEq (view S x) (view S y))) S
def fCmp (p : Int → Int → Bool) : D → D → Sto → Pd → Prop
  | .int i, .int j, S, R => R (.bl (p i j)) S
  | _, _, _, _ => False
def fIs (neg : Bool) : D → D → Sto → Pd → Prop
  | .ref _, .non, _, _ => False
  | .exc _, .non, _, _ => False
  | .non, .non, S, R => R (.bl (!neg)) S
  | _, .non, S, R => R (.bl neg) S
  | .bl a, .bl b, S, R => R (.bl (neg ^^ (a == b))) S
  | _, _, _, _ => False
/-- a key -/
def keyOf : D → Option Key
  | .int i => some (.inl i)
  | .str x => some (.inr x)
  | _ => none
def dctOf (S : Sto) : D → Option (List (Key × D))
  | .dct l => some l
  | .ref a => (match S a with
    | some (.dct l) => some l
    | some (.lck l) => some l
    | _ => none)
  | _ => none
/-- what is at a key -/
def lookK (k : Key) : List (Key × D) → Option D
  | [] => none
  | (j, x) :: r => if j = k then some x else lookK k r
def flatD : D → Bool
  | .non => true | .bl _ => true | .int _ => true | .str _ => true
  | _ => false
/-- what in asks: a dict's keys; a text's signs; a list's, a tuple's items -/
inductive Cont where
  | d (l : List (Key × D)) | s (z : Str) | l (l : List D) | t (l : List D) | no
def contOf (S : Sto) : D → Cont
  | .dct l => .d l
  | .str z => .s z
  | .lst l => .l l
  | .scr l => .l l
  | .tup l => .t l
  | .ref a => (match S a with
    | some (.dct l) => .d l
    | some (.lck l) => .d l
    | some (.lst l) => .l l
    | _ => .no)
  | _ => .no
def fIn (neg : Bool) (x y : D) (S : Sto) (R : Pd) : Prop := match contOf S y with
  | .d l => ∃ k, keyOf x = some k ∧ R (.bl (neg ^^ (lookK k l).isSome)) S
  | .s z => ∃ c : Nat, x = .str ⟨#[c]⟩ ∧ R (.bl (neg ^^ decide (c ∈ z.cps.toList))) S
  | .l l => okD (.lst l) = true ∧ okD x = true ∧ R (.bl (neg ^^ l.any (fun z => dEq z x))) S
  | .t l => l.all flatD = true ∧ flatD x = true ∧ R (.bl (neg ^^ l.any (fun z => dEq z x))) S
  | .no => False
theorem RepK.look {K : PySem.W.Frag} {S : Sto} {H : Hp} {k : Key} : ∀ {l : List (Key × D)} {vs : List (Key × V)}, RepK K S H l vs → match lookK k l with
    | some x => ∃ v, valV vs k = some v ∧ Rep K S H x v
    | none => valV vs k = none
  | _, _, .nil => by show valV [] k = none; rfl
  | _, _, .cons (k := j) (d := d) (v := v) (l := l) (vs := vs) r t => by
    have ih := RepK.look (k := k) t
    by_cases h : j = k
    · subst h
      have e1 : lookK j ((j, d) :: l) = some d := by simp [lookK]
      have e2 : valV ((j, v) :: vs) j = some v := by simp [valV]
      rw [e1]
      exact ⟨v, e2, r⟩
    · have e1 : lookK k ((j, d) :: l) = lookK k l := by simp [lookK, h]
      have e2 : valV ((j, v) :: vs) k = valV vs k := by simp [valV, h]
      rw [e1, e2]
      exact ih
theorem dctOf_rep {K : PySem.W.Frag} {S : Sto} {H : Hp} {x : D} {v : V} {l : List (Key × D)} (r : Rep K S H x v) (q : Rel K S H) (e : dctOf S x = some l) : ∃ a vs, v = .ref a ∧ Rd H a (.dK vs) ∧ RepK K S H l vs ∧ l.length ≤ sizeLine := by
  cases r with
  | dct h n z r => cases e; exact ⟨_, _, rfl, h, r, z⟩
  | ref a =>
    unfold dctOf at e
    dsimp only at e
    cases h : S a with
    | none => rw [h] at e; cases e
    | some o =>
      rw [h] at e
      cases o with
      | dct l' => cases e; obtain ⟨z, vs, h1, h2⟩ := q a _ h; exact ⟨_, _, rfl, .inl h1, h2, z⟩
      | lck l' => cases e; obtain ⟨z, o, vs, h1, h2⟩ := q a _ h; exact ⟨_, _, rfl, .inr ⟨o, h1⟩, h2, z⟩
      | lst l' => cases e
      | ins c l' => cases e
  | _ => cases e
theorem keyOf_rep {K : PySem.W.Frag} {S : Sto} {H : Hp} {x : D} {v : V} {k : Key} (r : Rep K S H x v) (e : keyOf x = some k) : v = kV k := by
  cases r <;> cases e <;> rfl
theorem RepK.isSome {K : PySem.W.Frag} {S : Sto} {H : Hp} {k : Key} {l : List (Key × D)} {vs : List (Key × V)} (r : RepK K S H l vs) : (valV vs k).isSome = (lookK k l).isSome := by
  have h := r.look (k := k)
  cases e : lookK k l with
  | some x => rw [e] at h; obtain ⟨v, h1, _⟩ := h; rw [h1]; rfl
  | none => rw [e] at h; rw [show valV vs k = none from h]; rfl
section
variable {X : Cx}
def rDin (neg : Bool) : R2 := fun y x H Q => ∃ a o, x = .ref a ∧ DGet H a y o ∧ Q (.bl (if neg then !o.isSome else o.isSome)) H
theorem op_din (hu : X.A.units + 1 < cLine) : OpR X (compareOp .In) (rDin false) := by
  intro pins s σ H y x u v Q I ry rx h
  obtain ⟨a, o, rfl, g, q⟩ := h
  cases rx
  exact d_in hu I g ry fun s3 I3 => ⟨.bl o.isSome, H, I3, rfl, q⟩
theorem op_dnotin (hu : X.A.units + 1 < cLine) : OpR X (compareOp .NotIn) (rDin true) := by
  intro pins s σ H y x u v Q I ry rx h
  obtain ⟨a, o, rfl, g, q⟩ := h
  cases rx
  exact d_notIn hu I g ry fun s3 I3 => ⟨.bl (!o.isSome), H, I3, rfl, q⟩
end
section
variable {K : PySem.W.Frag}
theorem od_eq : OpD K (rEqD K) (fEq false) := by
  intro x y v u S H R Q q rx ry h hR
  obtain ⟨o1, o2, h⟩ := h
  rw [Bool.false_xor] at h
  exact ⟨_, _, view_dp rx q o1, view_dp ry q o2, o1, o2, hR _ S _ H h q .refl (.bl _)⟩
theorem od_ne : OpD K (rNeD K) (fEq true) := by
  intro x y v u S H R Q q rx ry h hR
  obtain ⟨o1, o2, h⟩ := h
  rw [Bool.true_xor] at h
  exact ⟨_, _, view_dp rx q o1, view_dp ry q o2, o1, o2, hR _ S _ H h q .refl (.bl _)⟩
theorem od_cmp {p : Int → Int → Bool} : OpD K (rI0 fun i j => .bl (p i j)) (fCmp p) := by
  intro x y v u S H R Q q rx ry h hR
  unfold fCmp at h
  split at h
  · cases rx; cases ry
    exact ⟨_, _, rfl, rfl, hR _ S _ H h q .refl (.bl _)⟩
  · exact h.elim
theorem od_is : OpD K (fun x y H Q => (y = .non ∧ Q (.bl (decide (x = .non))) H) ∨ rIsB x y H Q) (fIs false) := by
  intro x y v u S H R Q q rx ry h hR
  unfold fIs at h
  split at h
  · exact h.elim
  · exact h.elim
  · cases rx; cases ry
    exact .inl ⟨rfl, hR _ S _ H h q .refl (.bl _)⟩
  · cases ry
    refine .inl ⟨rfl, ?_⟩
    have e : decide (v = V.non) = false := by
      cases rx <;> first | rfl | (exact absurd rfl (by assumption))
    rw [e]
    exact hR _ S _ H h q .refl (.bl _)
  · cases rx; cases ry
    rename_i a b
    refine .inr ⟨a, b, rfl, rfl, ?_⟩
    have e : decide (a = b) = (a == b) := by cases a <;> cases b <;> rfl
    rw [e]
    rw [Bool.false_xor] at h
    exact hR _ S _ H h q .refl (.bl _)
  · exact h.elim
theorem od_isnot : OpD K (fun x y H Q => (y = .non ∧ Q (.bl (!decide (x = .non))) H) ∨ rNotB x y H Q) (fIs true) := by
  intro x y v u S H R Q q rx ry h hR
  unfold fIs at h
  split at h
  · exact h.elim
  · exact h.elim
  · cases rx; cases ry
    exact .inl ⟨rfl, hR _ S _ H h q .refl (.bl _)⟩
  · cases ry
    refine .inl ⟨rfl, ?_⟩
    have e : decide (v = V.non) = false := by
      cases rx <;> first | rfl | (exact absurd rfl (by assumption))
    rw [e]
    exact hR _ S _ H h q .refl (.bl _)
  · cases rx; cases ry
    rename_i a b
    refine .inr ⟨a, b, rfl, rfl, ?_⟩
    have e : decide (a = b) = (a == b) := by cases a <;> cases b <;> rfl
    rw [e]
    rw [Bool.true_xor] at h
    exact hR _ S _ H h q .refl (.bl _)
  · exact h.elim
theorem flat_rep {S : Sto} {H : Hp} {x : D} {v : V} (r : Rep K S H x v) (e : flatD x = true) : flatV v = true ∧ ∀ y u, Rep K S H y u → flatD y = true → eqV v u = dEq x y := by
  cases r with
  | non => exact ⟨rfl, fun y u r e => by cases r <;> first | rfl | cases e⟩
  | bl b => exact ⟨rfl, fun y u r e => by cases r <;> first | rfl | cases e⟩
  | int b => exact ⟨rfl, fun y u r e => by cases r <;> first | rfl | cases e⟩
  | str b => exact ⟨rfl, fun y u r e => by cases r <;> first | rfl | cases e⟩
  | _ => cases e
theorem flatL_rep {S : Sto} {H : Hp} {x : D} {v : V} (rx : Rep K S H x v) (e : flatD x = true) : ∀ {l : List D} {vs : List V}, RepL K S H l vs → l.all flatD = true → vs.all flatV = true ∧ inV v vs = l.any (fun z => dEq z x)
  | _, _, .nil, _ => ⟨rfl, rfl⟩
  | _, _, .cons r t, h => by
    simp only [List.all_cons, Bool.and_eq_true] at h
    obtain ⟨i1, i2⟩ := flatL_rep rx e t h.2
    obtain ⟨j1, j2⟩ := flat_rep r h.1
    refine ⟨by simp [j1, i1], ?_⟩
    unfold inV at i2 ⊢
    rw [List.any_cons, List.any_cons, i2, j2 _ _ rx e]
theorem any_pyL (x : PyData) : ∀ l : List D, (pyL l).any (fun z => PyData.eqv z x) = l.any (fun z => PyData.eqv (pyD z) x)
  | [] => rfl
  | y :: l => by simp [pyL, any_pyL x l]
theorem listOf_rep {S : Sto} {H : Hp} {y : D} {v : V} {l : List D} (r : Rep K S H y v) (q : Rel K S H) (e : contOf S y = .l l) (ok : okD (.lst l) = true) : Dp K H v (.list (pyL l)) := by
  have e' := SeqAt.canLay_of_shaped ok
  cases r with
  | lst h n z r => cases e; exact .lst (.of h) (repL_dp r (by simpa [pyD, PyData.canLay0] using e'))
  | scr h n z r => cases e; exact .lst (.inl h) (repL_dp r (by simpa [pyD, PyData.canLay0] using e'))
  | scrK h z r => cases e; exact .lst h.sq (repL_dp r (by simpa [pyD, PyData.canLay0] using e'))
  | ref a =>
    unfold contOf at e
    dsimp only at e
    cases h : S a with
    | none => rw [h] at e; cases e
    | some o =>
      rw [h] at e
      cases o with
      | lst l' =>
        cases e
        obtain ⟨z, vs, h1, h2⟩ := q a _ h
        exact .lst (.of h1) (repL_dp h2 (by simpa [pyD, PyData.canLay0] using e'))
      | _ => cases e
  | _ => cases e
theorem dictOf_rep {S : Sto} {H : Hp} {y : D} {v : V} {l : List (Key × D)} (r : Rep K S H y v) (q : Rel K S H) (e : contOf S y = .d l) : ∃ a vs, v = .ref a ∧ Rd H a (.dK vs) ∧ RepK K S H l vs := by
  have e2 : dctOf S y = some l := by
    cases y with
    | dct l' => cases e; rfl
    | ref a =>
      unfold contOf at e
      unfold dctOf
      dsimp only at e ⊢
      cases h : S a with
      | none => rw [h] at e; cases e
      | some o => rw [h] at e; cases o <;> first | (cases e; rfl) | cases e
    | _ => cases e
  obtain ⟨a, vs, h1, h2, h3, _⟩ := dctOf_rep r q e2
  exact ⟨a, vs, h1, h2, h3⟩
abbrev rSgn (neg : Bool) : R2 := fun x y H Q => ∃ (c : Nat) (z : Str), x = .str ⟨#[c]⟩ ∧ y = .str z ∧ Q (.bl (if neg then !decide (c ∈ z.cps.toList) else decide (c ∈ z.cps.toList))) H
abbrev rInDn (K : PySem.W.Frag) (neg : Bool) : R2 := if neg then rNotInD K else rInD K
theorem od_in (neg : Bool) : OpD K (fun x y H Q => rDin neg x y H Q ∨ rSgn neg x y H Q ∨ rInDn K neg x y H Q ∨ rIn K neg x y H Q) (fIn neg) := by
  intro x y v u S H R Q q rx ry h hR
  unfold fIn at h
  split at h
  · rename_i l e
    obtain ⟨k, ek, h⟩ := h
    obtain ⟨a, vs, rfl, h1, r1⟩ := dictOf_rep ry q e
    have ev := keyOf_rep rx ek
    subst ev
    refine .inl ⟨a, valV vs k, rfl, .inl ⟨vs, k, h1, rfl, rfl⟩, ?_⟩
    rw [r1.isSome]
    have := hR _ S _ H h q .refl (.bl _)
    cases neg <;> simpa using this
  · rename_i z e
    obtain ⟨c, rfl, h⟩ := h
    cases rx
    cases ry <;> first
      | cases e
      | (exfalso; unfold contOf at e; dsimp only at e; split at e <;> cases e)
    refine .inr (.inl ⟨c, z, rfl, rfl, ?_⟩)
    have := hR _ S _ H h q .refl (.bl _)
    cases neg <;> simpa using this
  · rename_i l e
    obtain ⟨o1, o2, h⟩ := h
    refine .inr (.inr (.inl ?_))
    have d1 := listOf_rep ry q e o1
    have d2 := rep_dp rx (SeqAt.canLay_of_shaped o2)
    have := hR _ S _ H h q .refl (.bl _)
    cases neg with
    | false => exact ⟨_, _, d2, d1, o2, o1, by rw [any_pyL]; simpa [dEq] using this⟩
    | true => exact ⟨_, _, d2, d1, o2, o1, by rw [any_pyL]; simpa [dEq] using this⟩
  · rename_i l e
    obtain ⟨o1, o2, h⟩ := h
    refine .inr (.inr (.inr ?_))
    have ey : y = .tup l := by
      cases y with
      | tup l' => cases e; rfl
      | ref a => unfold contOf at e; dsimp only at e; split at e <;> cases e
      | _ => cases e
    subst ey
    obtain ⟨a, vs, rfl, h1, n1, r1⟩ := ry.tup_inv
    obtain ⟨i1, i2⟩ := flatL_rep rx o2 r1 o1
    obtain ⟨j1, _⟩ := flat_rep rx o2
    refine ⟨a, vs, rfl, .inr h1, j1, i1, ?_⟩
    rw [i2]
    have := hR _ S _ H h q .refl (.bl _)
    cases neg <;> simpa using this
  · exact h.elim
end

section
variable {X : Cx} {F : Fr} {pos : Pos} {a b c : Expr} {wa wb wc : WpE} {r r' : R2} {f f' : D → D → Sto → Pd → Prop}
/-- a value taken as a truth -/
def wB (w : WpE) : WpT := fun ς S R RE => w ς S (fun x S1 => ∃ b, x = .bl b ∧ R b S1) RE
theorem tB_ok {K : PySem.W.Frag} {w : WpE} {σ : St} {H : Hp} {Q : Bool → Hp → Prop} (h : tT K F (wB w) σ H Q) : tB (tE K F w) σ H Q := by
  obtain ⟨ς, S, R, g, k, hw, hR⟩ := h
  refine tE.mk g k hw fun x S1 v H1 h1 g1 k1 d1 r1 => ?_
  obtain ⟨b, rfl, h1⟩ := h1
  cases r1
  exact ⟨b, rfl, hR b S1 H1 h1 g1.rel d1⟩
theorem we_cmp {op : CmpOp} (ho : OpR X (compareOp op) r) (hd : OpD X.K r f) (ha : WE X F a wa) (hb : WE X F b wb) (hm : behindInMarks op b = false) : WE X F (.Compare a [op] [b] pos) (wOp f wa wb) :=
  (pe_cmpR ho ha hb hm).imp fun _ _ _ h => two_ok hd h
theorem wt_cmp {op : CmpOp} (ho : OpR X (compareOp op) r) (hd : OpD X.K r f) (ha : WE X F a wa) (hb : WE X F b wb) (hm : behindInMarks op b = false) : WT X F (.Compare a [op] [b] pos) (wB (wOp f wa wb)) :=
  (pt_cmpR ho ha hb hm).imp fun σ H Q h => by
    obtain ⟨ς, S, R, g, k, hw, hR⟩ := h
    have h2 : tE X.K F (wOp f wa wb) σ H (fun x H' => ∃ k, x = .bl k ∧ Q k H') := ⟨ς, S, _, g, k, hw, fun x S' v H' q r k' p => by
      obtain ⟨b, rfl, q⟩ := q
      cases p
      exact ⟨b, rfl, hR b S' H' q r k'⟩⟩
    exact two_ok hd h2
/-- a op b op' c -/
def wChain (f f' : D → D → Sto → Pd → Prop) (wa wb wc : WpE) : WpE := fun ς S R RE => wa ς S (fun x S1 => wb ς S1 (fun y S2 => f x y S2 fun z S3 => ∃ k, z = .bl k ∧
  (if k = true then wc ς S3 (fun u S4 => f' y u S4 R) RE else R (.bl false) S3)) RE) RE
theorem chain_ok {K : PySem.W.Frag} (hd : OpD K r f) (hd' : OpD K r' f') {σ : St} {H : Hp} {Q : VK} (h : tE K F (wChain f f' wa wb wc) σ H Q) : tChain r r' (tE K F wa) (tE K F wb) (tE K F wc) σ H Q := by
  obtain ⟨ς, S, R, g, k, hw, hR⟩ := h
  refine tE.mk g k hw fun x S1 v H1 h1 g1 k1 d1 r1 => tE.mk g1 k1 h1 fun y S2 u H2 h2 g2 k2 d2 r2 => ?_
  refine hd x y v u S2 H2 _ _ g2.rel (d2 _ _ r1) r2 h2 fun z S3 v' H3 h3 r3 k3 p3 => ?_
  obtain ⟨b, rfl, h3⟩ := h3
  cases p3
  refine ⟨b, rfl, ?_⟩
  have d3 := (d1.trans d2).trans k3
  cases b with
  | false => exact hR _ S3 _ H3 h3 r3 d3 (.bl _)
  | true =>
    refine tE.mk (g2.keep r3 k3) (k2.trans k3) h3 fun m S4 m' H4 h4 g4 k4 d4 r4 => ?_
    exact hd' y m u m' S4 H4 R Q g4.rel ((k3.trans d4) _ _ r2) r4 h4 fun z S5 v' H5 h5 r5 k5 p5 => hR z S5 v' H5 h5 r5 ((d3.trans d4).trans k5) p5
theorem we_chain {op op' : CmpOp} (ho : OpR X (compareOp op) r) (ho' : OpR X (compareOp op') r') (hd : OpD X.K r f) (hd' : OpD X.K r' f') (ha : WE X F a wa) (hb : WE X F b wb) (hc : WE X F c wc)
    (hm : lastMarks [op, op'] [b, c] = false) : WE X F (.Compare a [op, op'] [b, c] pos) (wChain f f' wa wb wc) :=
  (pe_chain ho ho' ha hb hc hm).imp fun _ _ _ h => chain_ok hd hd' h
theorem wt_chain {op op' : CmpOp} (ho : OpR X (compareOp op) r) (ho' : OpR X (compareOp op') r') (hd : OpD X.K r f) (hd' : OpD X.K r' f') (ha : WE X F a wa) (hb : WE X F b wb) (hc : WE X F c wc)
    (hm : lastMarks [op, op'] [b, c] = false) : WT X F (.Compare a [op, op'] [b, c] pos) (wB (wChain f f' wa wb wc)) :=
  (pt_chain ho ho' ha hb hc hm).imp fun σ H Q h => by
    obtain ⟨ς, S, R, g, k, hw, hR⟩ := h
    have h2 : tE X.K F (wChain f f' wa wb wc) σ H (fun x H' => ∃ k, x = .bl k ∧ Q k H') := ⟨ς, S, _, g, k, hw, fun x S' v H' q r k' p => by
      obtain ⟨b, rfl, q⟩ := q
      cases p
      exact ⟨b, rfl, hR b S' H' q r k'⟩⟩
    exact chain_ok hd hd' h2
/-- a value that is a truth, as a test -/
theorem wt_val (h : WE X F a wa) (he : ∀ whole, isTrue a X.env whole = (do let v ← whole; standAt a.pos; holding [v] (truthy v))) : WT X F a (wB wa) :=
  (pt_val h he).imp fun _ _ _ h => tB_ok h
/-! and, or, not, if else -/
def wAnd (wa wb : WpE) : WpE := fun ς S R RE => wa ς S (fun x S1 => ∃ b, x = .bl b ∧ if b = true then wb ς S1 R RE else R (.bl false) S1) RE
def wOr (wa wb : WpE) : WpE := fun ς S R RE => wa ς S (fun x S1 => ∃ b, x = .bl b ∧ if b = true then R (.bl true) S1 else wb ς S1 R RE) RE
def wNot (wa : WpE) : WpE := fun ς S R RE => wa ς S (fun x S1 => ∃ b, x = .bl b ∧ R (.bl (!b)) S1) RE
def wIte (wc wa wb : WpE) : WpE := fun ς S R RE => wc ς S (fun x S1 => ∃ b, x = .bl b ∧ if b = true then wa ς S1 R RE else wb ς S1 R RE) RE
variable {rest : List Expr}
theorem we_one {op : PySem.BoolOp} (h : WE X F a wa) : WE X F (.BoolOp op [a] pos) wa := pe_one h
theorem we_and (ha : WE X F a wa) (hb : WE X F (.BoolOp .And (b :: rest) pos) wb) : WE X F (.BoolOp .And (a :: b :: rest) pos) (wAnd wa wb) :=
  (pe_and ha hb).imp fun σ H Q h => by
    obtain ⟨ς, S, R, g, k, hw, hR⟩ := h
    refine tE.mk g k hw fun x S1 v H1 h1 g1 k1 d1 r1 => ?_
    obtain ⟨b, rfl, h1⟩ := h1
    cases r1
    refine ⟨b, rfl, ?_⟩
    cases b with
    | false => exact hR _ S1 _ H1 h1 g1.rel d1 (.bl _)
    | true => exact ⟨ς, S1, R, g1, k1, h1, fun x S' v H' q r k' p => hR x S' v H' q r (d1.trans k') p⟩
theorem we_or (ha : WE X F a wa) (hb : WE X F (.BoolOp .Or (b :: rest) pos) wb) : WE X F (.BoolOp .Or (a :: b :: rest) pos) (wOr wa wb) :=
  (pe_or ha hb).imp fun σ H Q h => by
    obtain ⟨ς, S, R, g, k, hw, hR⟩ := h
    refine tE.mk g k hw fun x S1 v H1 h1 g1 k1 d1 r1 => ?_
    obtain ⟨b, rfl, h1⟩ := h1
    cases r1
    refine ⟨b, rfl, ?_⟩
    cases b with
    | true => exact hR _ S1 _ H1 h1 g1.rel d1 (.bl _)
    | false => exact ⟨ς, S1, R, g1, k1, h1, fun x S' v H' q r k' p => hR x S' v H' q r (d1.trans k') p⟩
theorem we_not (ha : WE X F a wa) : WE X F (.UnaryOp .Not a pos) (wNot wa) :=
  (pe_not ha).imp fun σ H Q h => by
    obtain ⟨ς, S, R, g, k, hw, hR⟩ := h
    refine tE.mk g k hw fun x S1 v H1 h1 g1 k1 d1 r1 => ?_
    obtain ⟨b, rfl, h1⟩ := h1
    cases r1
    exact ⟨b, rfl, hR _ S1 _ H1 h1 g1.rel d1 (.bl _)⟩
theorem we_ite (hc : WT X F c (wB wc)) (ha : WE X F a wa) (hb : WE X F b wb) : WE X F (.IfExp c a b pos) (wIte wc wa wb) :=
  (pe_ifExp hc ha hb).imp fun σ H Q h => by
    obtain ⟨ς, S, R, g, k, hw, hR⟩ := h
    refine tT.mk (w := wB wc) (R := fun b S1 => if b = true then wa ς S1 R (fun c S' => F.XE c ς S') else wb ς S1 R (fun c S' => F.XE c ς S')) g k hw fun b S1 H1 h1 g1 k1 d1 => ?_
    cases b with
    | true => exact ⟨ς, S1, R, g1, k1, h1, fun x S' v H' q r k' p => hR x S' v H' q r (d1.trans k') p⟩
    | false => exact ⟨ς, S1, R, g1, k1, h1, fun x S' v H' q r k' p => hR x S' v H' q r (d1.trans k') p⟩
/-- .. as tests -/
def WW (X : Cx) (F : Fr) (e : Expr) (w : WpT) : Prop := PW X e (tT X.K F w)
theorem WW.wt {e : Expr} {w : WpT} (h : WW X F e w) : WT X F e w := h.pt
theorem ww_and1 (ha : WT X F a (wB wa)) : WW X F (.BoolOp .And [a] pos) (wB wa) := pw_and1 ha
theorem ww_or1 (ha : WT X F a (wB wa)) : WW X F (.BoolOp .Or [a] pos) (wB wa) := pw_or1 ha
theorem ww_and (ha : WT X F a (wB wa)) (hb : WW X F (.BoolOp .And (b :: rest) pos) (wB wb)) : WW X F (.BoolOp .And (a :: b :: rest) pos) (wB (wAnd wa wb)) :=
  (pw_and ha hb).imp fun σ H Q h => by
    obtain ⟨ς, S, R, g, k, hw, hR⟩ := h
    refine tT.mk (w := wB wa) (R := fun b S1 => if b = true then wB wb ς S1 R (fun c S' => F.XE c ς S') else R false S1) g k ?_ fun b S1 H1 h1 g1 k1 d1 => ?_
    · have e : (fun x S1 => ∃ b, x = D.bl b ∧ if b = true then wb ς S1 (fun x S1 => ∃ b, x = .bl b ∧ R b S1) (fun c S' => F.XE c ς S') else ∃ b, D.bl false = .bl b ∧ R b S1) =
        (fun x S1 => ∃ b, x = D.bl b ∧ if b = true then wB wb ς S1 R (fun c S' => F.XE c ς S') else R false S1) := by
        funext x S1
        refine propext ⟨fun ⟨b, e, h⟩ => ⟨b, e, ?_⟩, fun ⟨b, e, h⟩ => ⟨b, e, ?_⟩⟩
        · cases b with
          | true => exact h
          | false => obtain ⟨_, e, h⟩ := h; cases e; exact h
        · cases b with
          | true => exact h
          | false => exact ⟨_, rfl, h⟩
      show wa ς S _ _
      rw [← e]
      exact hw
    · cases b with
      | true => exact ⟨ς, S1, R, g1, k1, h1, fun x S' H' q r k' => hR x S' H' q r (d1.trans k')⟩
      | false => exact hR _ S1 H1 h1 g1.rel d1
theorem ww_or (ha : WT X F a (wB wa)) (hb : WW X F (.BoolOp .Or (b :: rest) pos) (wB wb)) : WW X F (.BoolOp .Or (a :: b :: rest) pos) (wB (wOr wa wb)) :=
  (pw_or ha hb).imp fun σ H Q h => by
    obtain ⟨ς, S, R, g, k, hw, hR⟩ := h
    refine tT.mk (w := wB wa) (R := fun b S1 => if b = true then R true S1 else wB wb ς S1 R (fun c S' => F.XE c ς S')) g k ?_ fun b S1 H1 h1 g1 k1 d1 => ?_
    · have e : (fun x S1 => ∃ b, x = D.bl b ∧ if b = true then ∃ b, D.bl true = .bl b ∧ R b S1 else wb ς S1 (fun x S1 => ∃ b, x = .bl b ∧ R b S1) (fun c S' => F.XE c ς S')) =
        (fun x S1 => ∃ b, x = D.bl b ∧ if b = true then R true S1 else wB wb ς S1 R (fun c S' => F.XE c ς S')) := by
        funext x S1
        refine propext ⟨fun ⟨b, e, h⟩ => ⟨b, e, ?_⟩, fun ⟨b, e, h⟩ => ⟨b, e, ?_⟩⟩
        · cases b with
          | true => obtain ⟨_, e, h⟩ := h; cases e; exact h
          | false => exact h
        · cases b with
          | true => exact ⟨_, rfl, h⟩
          | false => exact h
      show wa ς S _ _
      rw [← e]
      exact hw
    · cases b with
      | false => exact ⟨ς, S1, R, g1, k1, h1, fun x S' H' q r k' => hR x S' H' q r (d1.trans k')⟩
      | true => exact hR _ S1 H1 h1 g1.rel d1
theorem wt_not (ha : WT X F a (wB wa)) : WT X F (.UnaryOp .Not a pos) (wB (wNot wa)) :=
  (pt_not ha).imp fun σ H Q h => by
    obtain ⟨ς, S, R, g, k, hw, hR⟩ := h
    refine tT.mk (w := wB wa) (R := fun b S1 => R (!b) S1) g k ?_ fun b S1 H1 h1 g1 k1 d1 => hR _ S1 H1 h1 g1.rel d1
    have e : (fun x S1 => ∃ b, x = D.bl b ∧ ∃ b_1, D.bl (!b) = .bl b_1 ∧ R b_1 S1) = (fun x S1 => ∃ b, x = D.bl b ∧ R (!b) S1) := by
      funext x S1
      exact propext ⟨fun ⟨b, e, c, e', h⟩ => ⟨b, e, by cases e'; exact h⟩, fun ⟨b, e, h⟩ => ⟨b, e, _, rfl, h⟩⟩
    show wa ς S _ _
    rw [← e]
    exact hw
end
end SB
end

section
set_option Elab.async false
set_option linter.all false
set_option maxRecDepth 100000
set_option autoImplicit false
/-! SB3: arguments, displays, items, slices, attributes, calls. -/
namespace SB
open PySem PySem.Spec L2

/-! ### lists of expressions -/
def wNil : WpA := fun _ S R _ => R [] S
def wCons (wa : WpE) (wr : WpA) : WpA := fun ς S R RE => wa ς S (fun x S1 => wr ς S1 (fun xs S2 => R (x :: xs) S2) RE) RE
/-- not a starred one -/
def noStar : Expr → Bool
  | .Starred .. => false
  | _ => true
theorem starEach_cons {e : Expr} {es : List Expr} {env : Env} (h : noStar e = true) : starEach (e :: es) env = (false, eval e env) :: starEach es env := by
  cases e <;> first | rfl | cases h
section
variable {X : Cx} {F : Fr} {pos : Pos} {e : Expr} {es : List Expr} {we : WpE} {wa : WpA}
theorem wa_nil : WA X F [] wNil := pa_nil.imp fun σ H Q ⟨ς, S, R, g, k, hw, hR⟩ => hR [] S [] H hw g.rel .refl .nil
theorem wa_cons (he : WE X F e we) (hr : WA X F es wa) (hn : noStar e = true) : WA X F (e :: es) (wCons we wa) :=
  (pa_cons he hr (starEach_cons hn)).imp fun σ H Q ⟨ς, S, R, g, k, hw, hR⟩ => by
    refine tE.mk g k hw fun x S1 v H1 h1 g1 k1 d1 r1 => tA.mk g1 k1 h1 fun xs S2 vs H2 h2 g2 k2 d2 r2 => ?_
    exact hR _ S2 _ H2 h2 g2.rel (d1.trans d2) (.cons (d2 _ _ r1) r2)

/-! ### displays -/
def wTup (wa : WpA) : WpE := fun ς S R RE => wa ς S (fun xs S1 => xs.length ≤ sizeLine ∧ R (.tup xs) S1) RE
def wLst (own : Bool) (wa : WpA) : WpE := fun ς S R RE => wa ς S (fun xs S1 => mkL own xs S1 R) RE
theorem we_tup {x1} (h : WA X F es wa) : WE X F (.Tuple es x1 pos) (wTup wa) :=
  (pe_tup h).imp fun σ H Q ⟨ς, S, R, g, k, hw, hR⟩ => by
    refine tA.mk g k hw fun xs S1 vs H1 h1 g1 k1 d1 r1 => ?_
    exact mkT_ok g1.rel h1.1 h1.2 r1 fun z S' v' H' q r k p => hR z S' v' H' q r (d1.trans k) p
theorem we_lst {own : Bool} (h : WA X F es wa) : WE X F (.List es pos) (wLst own wa) :=
  (pe_lst h).imp fun σ H Q ⟨ς, S, R, g, k, hw, hR⟩ => by
    refine tA.mk g k hw fun xs S1 vs H1 h1 g1 k1 d1 r1 => ?_
    exact mkL_ok g1.rel h1 r1 fun z S' v' H' q r k p => hR z S' v' H' q r (d1.trans k) p
def mkD (own : Bool) (l : List (Key × D)) (S : Sto) (R : Pd) : Prop := l.length ≤ sizeLine ∧ match own with
  | true => ∀ p, S p = none → R (.ref p) (S.set p (.dct l))
  | false => R (.dct l) S
theorem mkD_ok {K : PySem.W.Frag} {S : Sto} {H : Hp} {own : Bool} {l : List (Key × D)} {vs : List (Key × V)} {R : Pd} {Q : VK} (q : Rel K S H) (h : mkD own l S R) (r : RepK K S H l vs)
    (hR : ∀ z S' v' H', R z S' → Rel K S' H' → Keep K S H S' H' → Rep K S' H' z v' → Q v' H') : ∀ p, H p = none → Q (.ref p) (upd H p (.dK vs)) := by
  obtain ⟨z, h⟩ := h
  intro p hp
  cases own with
  | true => exact hR _ _ _ _ (h p (q.fresh hp)) (q.own hp ⟨z, vs, upd_same, (Keep.own hp).k r⟩) (Keep.own hp) (.ref p)
  | false => exact hR _ _ _ _ h (q.new hp) (Keep.new hp) (.dct (.inl upd_same) (q.fresh hp) z ((Keep.new hp).k r))
def wDict0 (own : Bool) : WpE := fun _ S R _ => mkD own [] S R
theorem we_dict0 {own : Bool} : WE X F (.Dict [] [] pos) (wDict0 own) :=
  pe_dnewK.imp fun σ H Q ⟨ς, S, R, g, k, hw, hR⟩ => mkD_ok g.rel hw .nil hR
/-- a pair put in: in its place, or at the end -/
def putD (k : Key) (x : D) (l : List (Key × D)) : List (Key × D) :=
  if (l.any fun p => decide (p.1 = k)) = true then l.map (fun p => if p.1 = k then (p.1, x) else p) else l ++ [(k, x)]
def dropD (k : Key) (l : List (Key × D)) : List (Key × D) := l.filter fun p => decide (p.1 ≠ k)
def mergeD (l : List (Key × D)) : List (Key × D) → List (Key × D)
  | [] => l
  | (k, x) :: r => mergeD (putD k x l) r
/-- {k: v, ..}, the keys written: the new dict stands while the values are made -/
def wDict (own : Bool) (ks : List Key) (wa : WpA) : WpE := fun ς S R RE => ∀ p, S p = none → wa ς (S.set p (.dct [])) (fun xs S1 => S1 p = some (.dct []) ∧ xs.length = ks.length ∧ ks.length ≤ 15 ∧
  match own with
  | true => R (.ref p) (S1.set p (.dct (mergeD [] (ks.zip xs))))
  | false => R (.dct (mergeD [] (ks.zip xs))) (S1.del p)) RE
theorem RepK.any {K : PySem.W.Frag} {S : Sto} {H : Hp} (f : Key → Bool) : ∀ {l : List (Key × D)} {vs : List (Key × V)}, RepK K S H l vs → l.any (fun p => f p.1) = vs.any (fun p => f p.1)
  | _, _, .nil => rfl
  | _, _, .cons r t => by rw [List.any_cons, List.any_cons, RepK.any f t]
theorem RepK.append {K : PySem.W.Frag} {S : Sto} {H : Hp} : ∀ {l l' : List (Key × D)} {vs vs' : List (Key × V)}, RepK K S H l vs → RepK K S H l' vs' → RepK K S H (l ++ l') (vs ++ vs')
  | _, _, _, _, .nil, h => h
  | _, _, _, _, .cons r t, h => .cons r (RepK.append t h)
theorem RepK.mapPut {K : PySem.W.Frag} {S : Sto} {H : Hp} {k : Key} {x : D} {v : V} (q : Rep K S H x v) : ∀ {l : List (Key × D)} {vs : List (Key × V)}, RepK K S H l vs →
    RepK K S H (l.map fun p => if p.1 = k then (p.1, x) else p) (vs.map fun p => if p.1 = k then (p.1, v) else p)
  | _, _, .nil => .nil
  | _, _, .cons (k := j) (d := d) (v := u) (l := l) (vs := vs) r t => by
    have ih := RepK.mapPut (k := k) q t
    rw [List.map_cons, List.map_cons]
    by_cases h : j = k
    · rw [if_pos h, if_pos h]; exact .cons q ih
    · rw [if_neg h, if_neg h]; exact .cons r ih
theorem RepK.put {K : PySem.W.Frag} {S : Sto} {H : Hp} {k : Key} {x : D} {v : V} (q : Rep K S H x v) {l : List (Key × D)} {vs : List (Key × V)} (r : RepK K S H l vs) : RepK K S H (putD k x l) (putK vs k v) := by
  unfold putD putK
  rw [r.any fun j => decide (j = k)]
  split
  · exact r.mapPut q
  · exact r.append (.cons q .nil)
theorem RepK.drop {K : PySem.W.Frag} {S : Sto} {H : Hp} {k : Key} : ∀ {l : List (Key × D)} {vs : List (Key × V)}, RepK K S H l vs → RepK K S H (dropD k l) (dropK vs k)
  | _, _, .nil => .nil
  | _, _, .cons (k := j) (d := d) (v := u) (l := l) (vs := vs) r t => by
    have ih := RepK.drop (k := k) t
    unfold dropD dropK at ih ⊢
    rw [List.filter_cons, List.filter_cons]
    split
    · exact .cons r ih
    · exact ih
theorem RepK.merge {K : PySem.W.Frag} {S : Sto} {H : Hp} : ∀ {m : List (Key × D)} {ms : List (Key × V)} {l : List (Key × D)} {vs : List (Key × V)}, RepK K S H m ms → RepK K S H l vs → RepK K S H (mergeD l m) (mergeK vs ms)
  | _, _, _, _, .nil, h => h
  | _, _, _, _, .cons (k := k) r t, h => by
    have q := RepK.merge t (RepK.put (k := k) r h)
    exact q
theorem mergeD_length : ∀ (m l : List (Key × D)), (mergeD l m).length ≤ l.length + m.length
  | [], l => by show l.length ≤ l.length + 0; omega
  | (k, x) :: r, l => by
    have h := mergeD_length r (putD k x l)
    have h2 : (putD k x l).length ≤ l.length + 1 := by
      unfold putD; split
      · rw [List.length_map]; omega
      · rw [List.length_append]; simp
    show (mergeD (putD k x l) r).length ≤ _
    rw [List.length_cons]; omega
/-- a written key -/
def keyE : Key → Expr → Bool
  | .inl i, .Constant (.int j) _ _ => decide (i = j)
  | .inr x, .Constant (.str y) _ _ => decide (x = y)
  | _, _ => false
theorem keyE_ok {k : Key} {e : Expr} (h : keyE k e = true) : PE X e (tC (kV k)) := by
  unfold keyE at h
  split at h
  · have := of_decide_eq_true h; subst this; exact pe_int
  · have := of_decide_eq_true h; subst this; exact pe_str
  · cases h
def keysE : List Key → List (Option Expr) → Bool
  | [], [] => true
  | k :: ks, some e :: es => keyE k e && keysE ks es
  | _, _ => false
/-- the values of a dict display, one by one -/
inductive WVs (X : Cx) (F : Fr) : List Expr → WpA → Prop
  | nil : WVs X F [] wNil
  | cons {e : Expr} {es : List Expr} {we : WpE} {wa : WpA} : WE X F e we → WVs X F es wa → WVs X F (e :: es) (wCons we wa)
/-- the readings of the pairs -/
theorem wvs_pairs {K : PySem.W.Frag} {wa : WpA} {es : List Expr} (hK : X.K = K) (h : WVs X F es wa) : ∀ {ks : List Key} {kes : List (Option Expr)}, keysE ks kes = true → kes.length = es.length →
    ∃ trs : List (TE × TE), PPs X pos kes es trs ∧ ∀ (σ : L2.St) (H : Hp) (Q : List (V × V) → Hp → Prop) (ς : En) (S : Sto) (R : List D → Sto → Prop), Good K ς S σ H → Keep K F.S0 F.H0 S H → wa ς S R (fun c S' => F.XE c ς S') →
      (∀ xs S' vs H', R xs S' → Good K ς S' σ H' → Keep K S H S' H' → RepL K S' H' xs vs → xs.length = ks.length → Q ((ks.map kV).zip vs) H') → tPairs trs σ H Q := by
  subst hK
  induction h with
  | nil =>
    intro ks kes hk hl
    cases kes with
    | cons _ _ => cases hl
    | nil =>
      cases ks with
      | cons _ _ => cases hk
      | nil => exact ⟨[], pps_nil, fun σ H Q ς S R g k hw hR => hR [] S [] H hw g .refl .nil rfl⟩
  | @cons e es we wa h1 h2 ih =>
    intro ks kes hk hl
    cases kes with
    | nil => cases hl
    | cons ke kes =>
      cases ke with
      | none => cases ks <;> cases hk
      | some ke =>
        cases ks with
        | nil => cases hk
        | cons k ks =>
          have hk' : (keyE k ke && keysE ks kes) = true := hk
          simp only [Bool.and_eq_true] at hk'
          obtain ⟨trs, p, q⟩ := ih hk'.2 (by simpa using hl)
          refine ⟨(tC (kV k), tE X.K F we) :: trs, pps_cons (keyE_ok hk'.1) h1 p, fun σ H Q ς S R g kk hw hR => ?_⟩
          show tC (kV k) σ H fun x H1 => tE X.K F we σ H1 fun y H2 => tPairs trs σ H2 fun ps H3 => Q ((x, y) :: ps) H3
          refine tE.mk g kk hw fun x S1 v H1 h1 g1 k1 d1 r1 => q σ H1 _ ς S1 _ g1 k1 h1 fun xs S2 vs H2 h2 g2 d2 r2 z => ?_
          exact hR _ S2 (v :: vs) H2 h2 g2 (d1.trans d2) (.cons (d2 _ _ r1) r2) (by simp [z])
theorem zip_keys {K : PySem.W.Frag} {S : Sto} {H : Hp} : ∀ {ks : List Key} {xs : List D} {vs : List V}, RepL K S H xs vs → xs.length = ks.length →
    (ks.map kV).zip vs = (ks.zip vs).map (fun kv => (kV kv.1, kv.2)) ∧ RepK K S H (ks.zip xs) (ks.zip vs) ∧ (ks.zip vs).length = ks.length
  | [], _, _, .nil, _ => ⟨rfl, .nil, rfl⟩
  | [], _, _, .cons _ _, h => by cases h
  | _ :: _, _, _, .nil, h => by cases h
  | k :: ks, _, _, .cons r t, h => by
    obtain ⟨a, b, c⟩ := zip_keys (ks := ks) t (by simpa using h)
    exact ⟨by simp [a], .cons r b, by simp [c]⟩
theorem we_dict {own : Bool} {ks : List Key} {kes : List (Option Expr)} (h : WVs X F es wa) (hk : keysE ks kes = true) (hl : kes.length = es.length) (h0 : kes ≠ []) (h15 : kes.length ≤ 15) :
    WE X F (.Dict kes es pos) (wDict own ks wa) := by
  obtain ⟨trs, p, q⟩ := wvs_pairs (pos := pos) rfl h hk hl
  have hall : kes.all (·.isSome) = true := by
    clear p q hl h0 h15 h
    induction kes generalizing ks with
    | nil => rfl
    | cons ke kes ih =>
      cases ks with
      | nil => cases hk
      | cons k ks =>
        cases ke with
        | none => cases hk
        | some e =>
          have hk' : (keyE k e && keysE ks kes) = true := hk
          simp only [Bool.and_eq_true] at hk'
          simp [ih hk'.2]
  refine (pe_disp p hall hl h0 h15).imp fun σ H Q ⟨ς, S, R, g, k, hw, hR⟩ => ?_
  intro a ha
  have hw := hw a (g.rel.fresh ha)
  have K1 : Keep X.K S H (S.set a (.dct [])) (upd H a (.dK [])) := Keep.own ha
  have G1 : Good X.K ς (S.set a (.dct [])) σ (upd H a (.dK [])) := g.keep (g.rel.own ha ⟨Nat.zero_le _, [], upd_same, .nil⟩) K1
  refine q σ _ _ ς _ _ G1 (k.trans K1) hw fun xs S1 vs H1 h1 g1 d1 r1 z1 => ?_
  obtain ⟨hp, hz, h15', h1⟩ := h1
  obtain ⟨_, kvs0, e0, r0⟩ := g1.rel a _ hp
  cases r0
  obtain ⟨e1, e2, e3⟩ := zip_keys r1 hz
  have rm := e2.merge (RepK.nil)
  have zm : (mergeD [] (ks.zip xs)).length ≤ sizeLine := by
    have h := mergeD_length (ks.zip xs) []
    have h' : (ks.zip xs).length ≤ 15 := by rw [List.length_zip]; omega
    rw [sizeLine_eq]
    simp only [List.length_nil] at h
    omega
  refine ⟨e0, ks.zip vs, e1, by omega, ?_⟩
  have PK : Keep X.K S1 H1 (S1.set a (.dct (mergeD [] (ks.zip xs)))) (upd H1 a (.dK (mergeK [] (ks.zip vs)))) := Keep.putR g1.rel hp
  have PR : Rel X.K (S1.set a (.dct (mergeD [] (ks.zip xs)))) (upd H1 a (.dK (mergeK [] (ks.zip vs)))) := g1.rel.put hp ⟨zm, _, upd_same, PK.k rm⟩
  cases own with
  | true => exact hR _ _ _ _ h1 PR ((K1.trans d1).trans PK) (.ref a)
  | false =>
    have hd : ∀ b, (S1.del a) b = (S1.set a (.dct (mergeD [] (ks.zip xs)))) b ∨ (S1.del a) b = none := fun b => by
      by_cases e : b = a
      · subst e; exact .inr Sto.del_same
      · rw [Sto.del_ne e, Sto.set_ne e]; exact .inl rfl
    have LK := Keep.left (K := X.K) (H := upd H1 a (.dK (mergeK [] (ks.zip vs)))) hd
    exact hR _ _ _ _ h1 (PR.left hd) (((K1.trans d1).trans PK).trans LK) (.dct (.inl upd_same) Sto.del_same zm (LK.k (PK.k rm)))
end
end SB
end

section
set_option Elab.async false
set_option linter.all false
set_option maxRecDepth 100000
set_option autoImplicit false
/-! SB4: items, slices, attributes, calls of own defs and methods, own classes made. -/
namespace SB
open PySem PySem.Spec L2

/-! ### items -/
def fIx (x y : D) (S : Sto) (R : Pd) : Prop := match contOf S x with
  | .d l => ∃ k v, keyOf y = some k ∧ lookK k l = some v ∧ R v S
  | .s z => ∃ i c, y = .int i ∧ z.length ≤ sizeLine ∧ atI z.cps.toList i = some c ∧ R (.str ⟨#[c]⟩) S
  | .l l => ∃ i v, y = .int i ∧ atI l i = some v ∧ R v S
  | .t l => ∃ i v, y = .int i ∧ atI l i = some v ∧ R v S
  | .no => False
section
variable {K : PySem.W.Frag}
theorem lstSq_rep {S : Sto} {H : Hp} {y : D} {v : V} {l : List D} (r : Rep K S H y v) (q : Rel K S H) (e : contOf S y = .l l) : ∃ a vs, v = .ref a ∧ SqL K H a vs ∧ RepL K S H l vs ∧ l.length ≤ sizeLine := by
  cases r with
  | lst h n z r => cases e; exact ⟨_, _, rfl, .of h, r, z⟩
  | scr h n z r => cases e; exact ⟨_, _, rfl, .inl h, r, z⟩
  | scrK h z r => cases e; exact ⟨_, _, rfl, h.sq, r, z⟩
  | ref a =>
    unfold contOf at e
    dsimp only at e
    cases h : S a with
    | none => rw [h] at e; cases e
    | some o =>
      rw [h] at e
      cases o with
      | lst l' =>
        cases e
        obtain ⟨z, vs, h1, h2⟩ := q a _ h
        exact ⟨_, _, rfl, .of h1, h2, z⟩
      | _ => cases e
  | _ => cases e
theorem contT_inv {S : Sto} {y : D} {l : List D} (e : contOf S y = .t l) : y = .tup l := by
  cases y with
  | tup l' => cases e; rfl
  | ref a => unfold contOf at e; dsimp only at e; split at e <;> cases e
  | _ => cases e
theorem contS_inv {S : Sto} {y : D} {z : Str} (e : contOf S y = .s z) : y = .str z := by
  cases y with
  | str l' => cases e; rfl
  | ref a => unfold contOf at e; dsimp only at e; split at e <;> cases e
  | _ => cases e
theorem atI_rep {S : Sto} {H : Hp} {l : List D} {vs : List V} {i : Int} {x : D} (r : RepL K S H l vs) (e : atI l i = some x) : ∃ v, atI vs i = some v ∧ Rep K S H x v := by
  unfold atI at e ⊢
  rw [← r.length]
  cases h : ixN l.length i with
  | none => rw [h] at e; cases e
  | some j =>
    rw [h] at e
    obtain ⟨v, h1, h2⟩ := r.get (i := j) (x := x) (by simpa using e)
    exact ⟨v, by simpa using h1, h2⟩
def rIxDct : R2 := fun x y H Q => ∃ a v, x = .ref a ∧ DGet H a y (some v) ∧ Q v H
theorem ix_dct {X : Cx} (hu : X.A.units + 1 < cLine) : IxR X rIxDct := by
  intro value slice pins s σ H x y v u Q I rx ry h hs
  obtain ⟨a, w, rfl, g, q⟩ := h
  cases rx
  exact PyProof.Rows.tail_any (dict_typeIs I g) PySem.F.slot_dict_getitem.lookup (d_getItem hu I g ry fun w' s3 I3 rw' => ⟨w, H, I3, rw', q⟩) hs
theorem od_ix : OpD K (fun x y H Q => rIxDct x y H Q ∨ rIx K x y H Q) fIx := by
  intro x y v u S H R Q q rx ry h hR
  unfold fIx at h
  split at h
  · rename_i l e
    obtain ⟨k, d, ek, el, h⟩ := h
    obtain ⟨a, vs, rfl, h1, r1⟩ := dictOf_rep rx q e
    have ev := keyOf_rep ry ek
    subst ev
    have hl := r1.look (k := k)
    rw [el] at hl
    obtain ⟨w, hw, rw'⟩ := hl
    exact .inl ⟨a, w, rfl, .inl ⟨vs, k, h1, rfl, hw.symm⟩, hR _ S _ H h q .refl rw'⟩
  · rename_i z e
    obtain ⟨i, c, rfl, hz, hc, h⟩ := h
    cases contS_inv e
    cases rx; cases ry
    exact .inr (.inr (.inr ⟨z, i, c, rfl, rfl, hz, hc, hR _ S _ H h q .refl (.str _)⟩))
  · rename_i l e
    obtain ⟨i, d, rfl, hc, h⟩ := h
    cases ry
    obtain ⟨a, vs, rfl, h1, r1, _⟩ := lstSq_rep rx q e
    obtain ⟨w, hw, rw'⟩ := atI_rep r1 hc
    exact .inr (.inl ⟨a, vs, i, w, rfl, rfl, h1, hw, hR _ S _ H h q .refl rw'⟩)
  · rename_i l e
    obtain ⟨i, d, rfl, hc, h⟩ := h
    cases ry
    cases contT_inv e
    obtain ⟨a, vs, rfl, h1, _, r1⟩ := rx.tup_inv
    obtain ⟨w, hw, rw'⟩ := atI_rep r1 hc
    exact .inr (.inr (.inl ⟨a, vs, i, w, rfl, rfl, h1, hw, hR _ S _ H h q .refl rw'⟩))
  · exact h.elim
end
/-- what a plain index is -/
def plainIx : Expr → Bool
  | .Slice .. => false
  | .Tuple .. => false
  | _ => true
section
variable {X : Cx} {F : Fr} {pos p2 : Pos} {a b e : Expr} {wa wb we : WpE}
theorem we_ix (hu : X.A.units + 1 < cLine) (ha : WE X F a wa) (hb : WE X F b wb) (hs : PlainIx b) : WE X F (.Subscript a b pos) (wOp fIx wa wb) :=
  (pe_ix ((ix_dct hu).or ix_seq) ha hb hs).imp fun _ _ _ h => two_ok od_ix h
/-! ### slices -/
def cutD (l : List D) (lo hi : Option Int) : List D := (l.drop (HT.sIx l.length 0 lo)).take (HT.sIx l.length l.length hi - HT.sIx l.length 0 lo)
theorem cutD_rep {K : PySem.W.Frag} {S : Sto} {H : Hp} {l : List D} {vs : List V} (r : RepL K S H l vs) (lo hi : Option Int) : RepL K S H (cutD l lo hi) (cutV vs lo hi) := by
  unfold cutD cutV
  rw [r.length]
  exact (r.drop _).take _
theorem cutD_le (l : List D) (lo hi : Option Int) : (cutD l lo hi).length ≤ l.length := by
  unfold cutD
  rw [List.length_take, List.length_drop]
  omega
def fSl (own : Bool) (x : D) (lo hi : Option Int) (S : Sto) (R : Pd) : Prop := match contOf S x with
  | .t l => R (.tup (cutD l lo hi)) S
  | .s z => z.length ≤ sizeLine ∧ R (.str (cutS z lo hi)) S
  | .l l => mkL own (cutD l lo hi) S R
  | _ => False
/-- a part of a slice -/
def wPart (w : Option WpE) : En → Sto → (Option Int → Sto → Prop) → Px → Prop := fun ς S R RE => match w with
  | none => R none S
  | some w => w ς S (fun x S1 => ∃ i, x = .int i ∧ R (some i) S1) RE
def wSl (own : Bool) (we : WpE) (wl wh : Option WpE) : WpE := fun ς S R RE => we ς S (fun x S1 => wPart wl ς S1 (fun lo S2 => wPart wh ς S2 (fun hi S3 => fSl own x lo hi S3 R) RE) RE) RE
def tO (K : PySem.W.Frag) (F : Fr) (w : Option WpE) : TO := match w with
  | none => tNoPart
  | some w => tPart (tE K F w)
/-- the parts -/
inductive WO (X : Cx) (F : Fr) : Option Expr → Option WpE → Prop
  | none : WO X F none none
  | some {e : Expr} {w : WpE} : WE X F e w → WO X F (some e) (some w)
theorem WO.po {e : Option Expr} {w : Option WpE} (h : WO X F e w) : PO X e (tO X.K F w) := by
  cases h with
  | none => exact po_none
  | some h => exact po_some h
theorem tO.mk {K : PySem.W.Frag} {w : Option WpE} {ς : En} {S : Sto} {R : Option Int → Sto → Prop} {σ : L2.St} {H : Hp} {Q : Option Int → Hp → Prop} (g : Good K ς S σ H) (k : Keep K F.S0 F.H0 S H) (hw : wPart w ς S R (fun c S' => F.XE c ς S'))
    (hR : ∀ x S' H', R x S' → Good K ς S' σ H' → Keep K F.S0 F.H0 S' H' → Keep K S H S' H' → Q x H') : tO K F w σ H Q := by
  cases w with
  | none => exact hR none S H hw g k .refl
  | some w =>
    refine tE.mk g k hw fun x S1 v H1 h1 g1 k1 d1 r1 => ?_
    obtain ⟨i, rfl, h1⟩ := h1
    cases r1
    exact ⟨i, rfl, hR _ S1 H1 h1 g1 k1 d1⟩
theorem we_sl {own : Bool} {lo hi : Option Expr} {wl wh : Option WpE} (he : WE X F e we) (hl : WO X F lo wl) (hh : WO X F hi wh) : WE X F (.Subscript e (.Slice lo hi none p2) pos) (wSl own we wl wh) :=
  (pe_slice (sl_tupA.or (sl_list.or sl_str)) he hl.po hh.po).imp fun σ H Q ⟨ς, S, R, g, k, hw, hR⟩ => by
    refine tE.mk g k hw fun x S1 v H1 h1 g1 k1 d1 r1 => tO.mk g1 k1 h1 fun lo S2 H2 h2 g2 k2 d2 => tO.mk g2 k2 h2 fun hi S3 H3 h3 g3 k3 d3 => ?_
    have r3 := (d2.trans d3) _ _ r1
    have d := (d1.trans d2).trans d3
    have q := g3.rel
    have hR' : ∀ z S' v' H', R z S' → Rel X.K S' H' → Keep X.K S3 H3 S' H' → Rep X.K S' H' z v' → Q v' H' := fun z S' v' H' q r k p => hR z S' v' H' q r (d.trans k) p
    unfold fSl at h3
    split at h3
    · rename_i l e
      cases contT_inv e
      obtain ⟨a, vs, rfl, h1, n1, rl⟩ := r3.tup_inv
      refine .inl ⟨a, vs, rfl, h1, fun hz => ?_, fun _ p hp => ?_⟩
      · have e : cutD l lo hi = l := by
          unfold cutD
          have e1 := rl.length
          rw [e1, hz.1, hz.2, List.drop_zero, Nat.sub_zero, ← e1, List.take_length]
        rw [e] at h3
        exact hR' _ _ _ _ h3 q .refl r3
      · exact hR' _ _ _ _ h3 (q.new hp) (Keep.new hp) (.tup (.of upd_same) (Nat.le_trans (cutD_le _ _ _) n1) ((Keep.new hp).l (cutD_rep rl lo hi)))
    · rename_i z e
      cases contS_inv e
      cases r3
      exact .inr (.inr ⟨z, rfl, h3.1, hR' _ _ _ _ h3.2 q .refl (.str _)⟩)
    · rename_i l e
      obtain ⟨a, vs, rfl, h1, rl, _⟩ := lstSq_rep r3 q e
      exact .inr (.inl ⟨a, vs, rfl, h1, (mkL_ok q h3 (cutD_rep rl lo hi) hR').2⟩)
    · exact h3.elim
end

/-! ### attributes -/
def insOf (S : Sto) : D → Option (String × List (String × D))
  | .ins c fs => some (c, fs)
  | .ref a => (match S a with
    | some (.ins c fs) => some (c, fs)
    | _ => none)
  | _ => none
theorem insOf_rep {K : PySem.W.Frag} {S : Sto} {H : Hp} {x : D} {v : V} {c : String} {fs : List (String × D)} (r : Rep K S H x v) (q : Rel K S H) (e : insOf S x = some (c, fs)) :
    ∃ a dx gs, v = .ref a ∧ H a = some (.ins (clA K c) dx gs) ∧ CO K c fs ∧ RepF K S H fs gs := by
  cases r with
  | ins h n z r => cases e; exact ⟨_, _, _, rfl, h, z, r⟩
  | ref a =>
    unfold insOf at e
    dsimp only at e
    cases h : S a with
    | none => rw [h] at e; cases e
    | some o =>
      rw [h] at e
      cases o with
      | ins c' l' => cases e; obtain ⟨z, dx, gs, h1, h2⟩ := q a _ h; exact ⟨_, _, _, rfl, h1, z, h2⟩
      | _ => cases e
  | _ => cases e
/-- an attribute -/
def look (f : String) : List (String × D) → Option D
  | [] => none
  | (g, x) :: r => if g = f then some x else look f r
theorem ofString_inj {a b : String} (h : (Str.ofString a) = (Str.ofString b)) : a = b := by
  rw [Str.ofString_eq_toList, Str.ofString_eq_toList] at h
  injection h with h
  apply String.toList_inj.mp
  have h2 : (a.toList.map Char.toNat) = b.toList.map Char.toNat := by
    simpa using congrArg Array.toList h
  exact List.map_inj_right (fun x y e => Char.toNat_inj.mp e) |>.mp h2
theorem ofString_eq {a b : String} : Str.ofString a = Str.ofString b ↔ a = b := ⟨ofString_inj, fun e => by rw [e]⟩
theorem RepF.look {K : PySem.W.Frag} {S : Sto} {H : Hp} {f : String} : ∀ {l : List (String × D)} {vs : List (Str × V)}, RepF K S H l vs → match look f l with
    | some x => ∃ v, vs.lookup (Str.ofString f) = some v ∧ Rep K S H x v ∧ (∃ p ∈ l, p.1 = f)
    | none => vs.lookup (Str.ofString f) = none
  | _, _, .nil => by show List.lookup _ [] = none; rfl
  | _, _, .cons (f := j) (d := d) (v := v) (l := l) (vs := vs) r t => by
    have ih := RepF.look (f := f) t
    by_cases h : j = f
    · subst h
      have e1 : SB.look j ((j, d) :: l) = some d := by simp [SB.look]
      have e2 : List.lookup (Str.ofString j) ((Str.ofString j, v) :: vs) = some v := by simp [List.lookup]
      rw [e1]
      exact ⟨v, e2, r, (j, d), List.mem_cons_self, rfl⟩
    · have hb : (Str.ofString f == Str.ofString j) = false := beq_eq_false_iff_ne.mpr fun e => h (ofString_inj e).symm
      have e1 : SB.look f ((j, d) :: l) = SB.look f l := by simp [SB.look, h]
      have e2 : List.lookup (Str.ofString f) ((Str.ofString j, v) :: vs) = List.lookup (Str.ofString f) vs := by simp only [List.lookup, hb]
      rw [e1, e2]
      cases hx : SB.look f l with
      | none => rw [hx] at ih; exact ih
      | some x =>
        rw [hx] at ih
        obtain ⟨v, a, b, p, c, d⟩ := ih
        exact ⟨v, a, b, p, List.mem_cons_of_mem _ c, d⟩
end SB
end

section
set_option Elab.async false
set_option linter.all false
set_option maxRecDepth 100000
set_option autoImplicit false
/-! SB5: attributes read, calls of own defs and methods, own classes made. -/
namespace SB
open PySem PySem.Spec L2

/-! ### what the text's trees say -/
def baseOk : Expr → Bool
  | .Call (.Name id _) [] [] _ => id != ("super" : Str)
  | _ => true
theorem attrBase {o : Expr} {m : Str} {env : Env} {whole : Sem Value} (h : baseOk o = true) : attributeBase o m env whole = whole := by
  unfold baseOk at h
  split at h
  · exact abase_call h
  · rename_i hn
    unfold attributeBase
    split
    · rename_i id p pos
      exact absurd rfl (hn id p pos)
    · rfl
def noStars (es : List Expr) : Bool := es.all noStar
theorem starEach_all : ∀ {es : List Expr} {env : Env}, noStars es = true → starEach es env = es.map fun e => (false, eval e env)
  | [], _, _ => rfl
  | e :: es, env, h => by
    simp only [noStars, List.all_cons, Bool.and_eq_true] at h
    rw [starEach_cons h.1, starEach_all h.2, List.map_cons]
theorem backTo_all {es : List Expr} {env : Env} {pos : Pos} (h : noStars es = true) : backTo pos (starEach es env) = es.map fun e => (false, eval e env) := by
  rw [starEach_all h]
  unfold backTo
  rw [List.map_map]
  rfl
theorem back_any {es : List Expr} {env : Env} {pos : Pos} (h : noStars es = true) : (backTo pos (starEach es env)).any (·.1) = false := by
  rw [backTo_all h, List.any_map]
  induction es with
  | nil => rfl
  | cons e es ih =>
    simp only [noStars, List.all_cons, Bool.and_eq_true] at h
    rw [List.any_cons, ih h.2]
    rfl
theorem back_few {es : List Expr} {env : Env} {pos : Pos} (h : noStars es = true) (hl : es.length < 29) : ((backTo pos (starEach es env)).all (fun x => !x.1) && (backToKw pos (keywordEach [] env)).all (fun x => x.1.isSome)
      && decide (es.length + ([] : List Keyword).length + (if ([] : List Keyword).isEmpty then 0 else 1) < 30)) = true := by
  have e1 : (backTo pos (starEach es env)).all (fun x => !x.1) = true := by
    rw [backTo_all h, List.all_map]
    exact List.all_eq_true.mpr fun _ _ => rfl
  rw [e1]
  have e2 : decide (es.length + ([] : List Keyword).length + (if ([] : List Keyword).isEmpty then 0 else 1) < 30) = true := decide_eq_true (by
    show es.length + 0 + 0 < 30; omega)
  rw [e2]
  rfl
theorem mcall_tree {o : Expr} {m : Str} {apos pos : Pos} {es : List Expr} {env : Env} (hb : baseOk o = true) (h : noStars es = true) (hl : es.length < 29) (hline : (apos.endLine == pos.line) = true) :
    eval (.Call (.Attribute o m apos) es [] pos) env = (do
      let ov ← eval o env
      standAt apos.atName
      let (f, first) ← holding [ov] (getMethod ov m (plainOf o env))
      callWith pos f first (backTo pos (starEach es env)) (backToKw pos (keywordEach [] env))) := by
  have hf : methodCallForm (es.length + ([] : List Keyword).length) (backTo pos (starEach es env)) (backToKw pos (keywordEach [] env)) = true := back_few h hl
  exact mcall_of (attrBase hb) fun ov => mcall_line hf hline

/-! ### attributes -/
def wFld (f : String) (wa : WpE) : WpE := fun ς S R RE => wa ς S (fun x S1 => ∃ c fs v, insOf S1 x = some (c, fs) ∧ look f fs = some v ∧ R v S1) RE
theorem fld_ok {K : PySem.W.Frag} {S : Sto} {H : Hp} {x d : D} {v : V} {c f : String} {fs : List (String × D)} (r : Rep K S H x v) (q : Rel K S H) (e : insOf S x = some (c, fs)) (l : look f fs = some d) :
    ∃ a dx gs w, v = .ref a ∧ H a = some (.ins (clA K c) dx gs) ∧ Cls K (clA K c) ∧ NoAttr K (clA K c) (Str.ofString f) ∧ gs.lookup (Str.ofString f) = some w ∧ Rep K S H d w := by
  obtain ⟨a, dx, gs, rfl, h1, ⟨c1, c2, _⟩, r1⟩ := insOf_rep r q e
  have hl := r1.look (f := f)
  rw [l] at hl
  obtain ⟨w, hw, rw', p, hp, e2⟩ := hl
  subst e2
  exact ⟨a, dx, gs, w, rfl, h1, c1, c2 p hp, hw, rw'⟩
section
variable {X : Cx} {F : Fr} {pos p apos : Pos} {a e o : Expr} {es : List Expr} {wo we : WpE} {wa : WpA} {f : String}
theorem we_fld (ho : WE X F o wo) (hb : baseOk o = true) : WE X F (.Attribute o (Str.ofString f) pos) (wFld f wo) :=
  (pe_fld (f := Str.ofString f) ho (attrBase hb)).imp fun σ H Q ⟨ς, S, R, g, k, hw, hR⟩ => by
    refine tE.mk g k hw fun x S1 v H1 h1 g1 k1 d1 r1 => ?_
    obtain ⟨c, fs, d, e, l, h1⟩ := h1
    obtain ⟨a, dx, gs, w, rfl, e1, c1, c2, hw', rw'⟩ := fld_ok r1 g1.rel e l
    exact ⟨a, _, dx, gs, w, rfl, e1, c1, c2, hw', hR d S1 w H1 h1 g1.rel d1 rw'⟩
end

/-! ### what a def promises, over data -/
abbrev Spec := List D → Sto → (D → Sto → Prop) → (String → Sto → Prop) → Prop
def spOf (K : PySem.W.Frag) (φ : Spec) : Sp := fun vs H Q E => ∃ xs S R RE, RepL K S H xs vs ∧ Rel K S H ∧ φ xs S R RE ∧
  (∀ x S' v H', R x S' → Rel K S' H' → Keep K S H S' H' → Rep K S' H' x v → Q v H') ∧ (∀ c d S' H', (c ≠ "NoPot" → d = none) → RE c S' → Rel K S' H' → Keep K S H S' H' → E (.ref (clA K c)) d H')
/-- a def: its parameters' number, its promise -/
structure Fn where
  n : Nat
  φ : Spec
/-- .. where the last ones may be left out: dds the values that then stand for them -/
structure FnBd (P : Program) (w : World) (K : PySem.W.Frag) (mg : Str → Option Value) (base : Heap) (k : Nat) (f : Addr) (n : Nat) (dds : List D) (φ : Spec) : Prop where
  ok : ∃ fd ps ds dvs, FnOk P w K mg base (L2.CX P w) k f fd ps (spOf K φ) ∧ Binds K fd ps ds ∧ Vals dvs ds ∧ (∀ S H, RepL K S H dds dvs)
  kp : PySem.W.keepIn K (.ref f) = true
theorem FnBd.mono {P : Program} {w : World} {K : PySem.W.Frag} {mg : Str → Option Value} {base : Heap} {j k : Nat} {f : Addr} {n : Nat} {dds : List D} {φ : Spec} (h : FnBd P w K mg base j f n dds φ) (l : j ≤ k) : FnBd P w K mg base k f n dds φ := by
  obtain ⟨⟨fd, ps, ds, dvs, a, b, c, d⟩, kp⟩ := h
  exact ⟨⟨fd, ps, ds, dvs, a.mono l, b, c, d⟩, kp⟩
/-- what a body's frame wants of an exception -/
def wF (K : PySem.W.Frag) (F : Fr) : WX := fun cls d σ H => ∃ c ς S, cls = .ref (clA K c) ∧ (c ≠ "NoPot" → d = none) ∧ Good K ς S σ H ∧ Keep K F.S0 F.H0 S H ∧ F.XE c ς S
section
variable {X : Cx} {F : Fr} {pos p apos : Pos} {a e o : Expr} {es : List Expr} {wo we : WpE} {wa : WpA} {x : Str} {k n : Nat} {f : Addr} {φ : Spec} {dds : List D}
theorem run_fnD {CX : CXT} {fd : FuncData} {ps : List Str} {sp : Sp} {ds : List Value} {dvs : List V} {E : XK} {pins : List (Addr × Obj)} {σ : L2.St} {H : Hp} {s : Shared} {Q : VK} {us : List Value} {vs : List V}
    (F : FnOk X.prog X.w X.K X.mg X.base CX k f fd ps sp) (hr : Room k X.A) (hb : Binds X.K fd ps ds) (hd : Vals dvs ds) (hx : PassesAt CX X σ E)
    (I : Inv X pins σ H s) (r : Vals vs us) (h : sp (vs ++ dvs) H Q E) : wpAny (model X.prog X.w) X.A (call (.ref f) us) (EP X pins σ Q) X.xe s := by
  have r2 : Vals (vs ++ dvs) (us ++ ds) := r.append hd
  have hl : (us ++ ds).length = ps.length := by rw [← r2.length]; exact F.len _ _ _ _ h
  refine wpAny_call (codeAny_mono (F.run X.A X.stack s H ⟨us, []⟩ (us ++ ds) (vs ++ dvs) Q E hr I.env0 (hb s us I.kIn hl) r2 h) fun r s' hq => ?_)
  cases r with
  | error e => exact hx pins H s e s' I hq
  | ok fl =>
    cases fl with
    | ret u => exact I.after hq
    | next => exact False.elim hq
    | brk => exact False.elim hq
    | cont => exact False.elim hq
/-- a call by values: from what is asked of data -/
theorem call_ok (B : FnBd X.prog X.w X.K X.mg X.base k f n dds φ) (hr : Room k X.A) (tk : Takes X (wF X.K F)) {pins : List (Addr × Obj)} {σ : L2.St} {H : Hp} {s : Shared} {Q : VK} {us : List Value} {vs : List V} {ς : En} {S : Sto} {R : Pd} {xs : List D}
    (I : Inv X pins σ H s) (r : Vals vs us) (g : Good X.K ς S σ H) (kk : Keep X.K F.S0 F.H0 S H) (rx : RepL X.K S H xs vs) (h : φ (xs ++ dds) S R (fun c S' => F.XE c ς S'))
    (hR : ∀ x S' v H', R x S' → Rel X.K S' H' → Keep X.K S H S' H' → Rep X.K S' H' x v → Q v H') : wpAny (model X.prog X.w) X.A (call (.ref f) us) (EP X pins σ Q) X.xe s := by
  obtain ⟨fd, ps, ds, dvs, ok, hb, hd, rd⟩ := B.ok
  refine run_fnD ok hr hb hd (passAt tk σ) I r ⟨xs ++ dds, S, R, _, rx.append (rd S H), g.rel, h, hR, fun c d S' H' hd q r' k' => ?_⟩
  exact ⟨c, ς, S', rfl, hd, g.keep r' k', kk.trans k', q⟩
def wCall (φ : Spec) (dds : List D) (wa : WpA) : WpE := fun ς S R RE => wa ς S (fun xs S1 => φ (xs ++ dds) S1 R RE) RE
/-- f(..), f an own def -/
theorem we_call (B : FnBd X.prog X.w X.K X.mg X.base k f n dds φ) (hr : Room k X.A) (tk : Takes X (wF X.K F)) (hg : Gl X x) (hm : X.mg x = some (.ref f)) (ha : WA X F (e :: es) wa) (hn : noStars (e :: es) = true)
    (hdb : (x == ("__debug__" : Str)) = false) : WE X F (.Call (.Name x p) (e :: es) [] pos) (wCall φ dds wa) := by
  refine ⟨fun pins s σ H Q I h => ?_⟩
  obtain ⟨ς, S, R, g, kk, hw, hR⟩ := h
  refine wpAny_Call_Name_kw (ld_glob I hg hm ?_ hdb)
  have hn' : noStar e = true ∧ noStars es = true := by simpa [noStars] using hn
  refine PySem.W.callWith_K (h₀ := X.base) I.ok.mod.kin B.kp ?_ (starEach_cons hn'.1) (back_any hn'.2)
  refine thn (ha.run pos pins s σ H _ I (tA.mk (Q := fun vs H1 => ∃ S1 xs, Good X.K ς S1 σ H1 ∧ Keep X.K F.S0 F.H0 S1 H1 ∧ Keep X.K S H S1 H1 ∧ RepL X.K S1 H1 xs vs ∧ φ (xs ++ dds) S1 R (fun c S' => F.XE c ς S')) g kk hw fun xs S1 vs H1 h1 g1 k1 d1 r1 => ⟨S1, xs, g1, k1, d1, r1, h1⟩)) fun us s1 ⟨vs, H1, I1, r, S1, xs, g1, k1, d1, r1, h1⟩ => ⟨I1.kIn, ?_⟩
  exact call_ok B hr tk I1 r g1 k1 r1 h1 fun x S' v H' q r k p => hR x S' v H' q r (d1.trans k) p
theorem we_call0 (B : FnBd X.prog X.w X.K X.mg X.base k f n dds φ) (hr : Room k X.A) (tk : Takes X (wF X.K F)) (hg : Gl X x) (hm : X.mg x = some (.ref f)) (hdb : (x == ("__debug__" : Str)) = false) : WE X F (.Call (.Name x p) [] [] pos) (wCall φ dds wNil) := by
  refine ⟨fun pins s σ H Q I h => ?_⟩
  obtain ⟨ς, S, R, g, kk, hw, hR⟩ := h
  refine wpAny_Call_Name_kw (ld_glob I hg hm ?_ hdb)
  exact PySem.W.callWith_K0 I.kIn B.kp (call_ok (us := []) (vs := []) (xs := []) B hr tk I .nil g kk .nil hw fun x S' v H' q r k p => hR x S' v H' q r k p)
/-- a method of a class, as it is found -/
structure MtBd (P : Program) (w : World) (K : PySem.W.Frag) (mg : Str → Option Value) (base : Heap) (k : Nat) (C : Addr) (m : Str) (n : Nat) (dds : List D) (φ : Spec) : Prop where
  ex : ∃ f, Meth K C m f ∧ FnBd P w K mg base k f n dds φ
/-- o.m(..): by the class of what o is -/
def wMeth (m : String) (cs : List (String × Nat × List D × Spec)) (wo : WpE) (wa : WpA) : WpE := fun ς S R RE => wo ς S (fun x S1 => ∃ c fs nd, insOf S1 x = some (c, fs) ∧ look m fs = none ∧ cs.lookup c = some nd ∧
  wa ς S1 (fun xs S2 => nd.2.2 (x :: (xs ++ nd.2.1)) S2 R RE) RE) RE
theorem we_meth {m : String} {cs : List (String × Nat × List D × Spec)} (B : ∀ c nd, cs.lookup c = some nd → MtBd X.prog X.w X.K X.mg X.base k (clA X.K c) (Str.ofString m) nd.1 nd.2.1 nd.2.2) (hr : Room k X.A) (tk : Takes X (wF X.K F))
    (ho : WE X F o wo) (ha : WA X F (e :: es) wa) (hb : baseOk o = true) (hn : noStars (e :: es) = true) (hl : (e :: es).length < 29) (hline : (apos.endLine == pos.line) = true) :
    WE X F (.Call (.Attribute o (Str.ofString m) apos) (e :: es) [] pos) (wMeth m cs wo wa) := by
  refine ⟨fun pins s σ H Q I h => ?_⟩
  obtain ⟨ς, S, R, g, kk, hw, hR⟩ := h
  refine PySem.W.methodCall_KW (pl := plainOf o X.env) (thn (ho.run pins s σ H _ I (tE.mk (Q := fun v H1 => ∃ x S1, Good X.K ς S1 σ H1 ∧ Keep X.K F.S0 F.H0 S1 H1 ∧ Keep X.K S H S1 H1 ∧ Rep X.K S1 H1 x v ∧
    ∃ c fs nd, insOf S1 x = some (c, fs) ∧ look m fs = none ∧ cs.lookup c = some nd ∧ wa ς S1 (fun xs S2 => nd.2.2 (x :: (xs ++ nd.2.1)) S2 R (fun c S' => F.XE c ς S')) (fun c S' => F.XE c ς S')) g kk hw fun x S1 v H1 h1 g1 k1 d1 r1 => ⟨x, S1, g1, k1, d1, r1, h1⟩))
    fun u s1 ⟨v, H1, I1, rv, x, S1, g1, k1, d1, r1, c, fs, nd, e1, l1, cl, h1⟩ => ?_) (mcall_tree hb hn hl hline)
  obtain ⟨a, dx, gs, rfl, ha1, ⟨c1, c2, c3⟩, rf⟩ := insOf_rep r1 g1.rel e1
  obtain rfl : u = Value.ref a := rv
  obtain ⟨f, hm, Bf⟩ := (B c nd cl).ex
  have lk := rf.look (f := m)
  rw [l1] at lk
  refine getmeth_ok I1 ha1 c1 hm lk ?_
  have hn' : noStar e = true ∧ noStars es = true := by simpa [noStars] using hn
  refine PySem.W.callWith_K (first := [.ref a]) (h₀ := X.base) I.ok.mod.kin hm.kp (thn (ha.run pos pins s1 σ H1 _ I1 (tA.mk (Q := fun vs H2 => ∃ S2 xs, Good X.K ς S2 σ H2 ∧ Keep X.K F.S0 F.H0 S2 H2 ∧ Keep X.K S1 H1 S2 H2 ∧ RepL X.K S2 H2 xs vs ∧ nd.2.2 (x :: (xs ++ nd.2.1)) S2 R (fun c S' => F.XE c ς S'))
    g1 k1 h1 fun xs S2 vs H2 h2 g2 k2 d2 r2 => ⟨S2, xs, g2, k2, d2, r2, h2⟩)) fun us s2 ⟨vs, H2, I2, r, S2, xs, g2, k2, d2, r2, h2⟩ => ⟨I2.kIn, ?_⟩) (starEach_cons hn'.1) (back_any hn'.2)
  exact call_ok (us := .ref a :: us) (vs := .ref a :: vs) (xs := x :: xs) Bf hr tk I2 (.cons rfl r) g2 k2 (.cons (d2 _ _ r1) r2) h2 fun x S' v H' q r k p => hR x S' v H' q r ((d1.trans d2).trans k) p
theorem we_meth0 {m : String} {cs : List (String × Nat × List D × Spec)} (B : ∀ c nd, cs.lookup c = some nd → MtBd X.prog X.w X.K X.mg X.base k (clA X.K c) (Str.ofString m) nd.1 nd.2.1 nd.2.2) (hr : Room k X.A) (tk : Takes X (wF X.K F))
    (ho : WE X F o wo) (hb : baseOk o = true) (hline : (apos.endLine == pos.line) = true) :
    WE X F (.Call (.Attribute o (Str.ofString m) apos) [] [] pos) (wMeth m cs wo wNil) := by
  refine ⟨fun pins s σ H Q I h => ?_⟩
  obtain ⟨ς, S, R, g, kk, hw, hR⟩ := h
  refine PySem.W.methodCall_KW (pl := plainOf o X.env) (thn (ho.run pins s σ H _ I (tE.mk (Q := fun v H1 => ∃ x S1, Good X.K ς S1 σ H1 ∧ Keep X.K F.S0 F.H0 S1 H1 ∧ Keep X.K S H S1 H1 ∧ Rep X.K S1 H1 x v ∧
    ∃ c fs nd, insOf S1 x = some (c, fs) ∧ look m fs = none ∧ cs.lookup c = some nd ∧ wNil ς S1 (fun xs S2 => nd.2.2 (x :: (xs ++ nd.2.1)) S2 R (fun c S' => F.XE c ς S')) (fun c S' => F.XE c ς S')) g kk hw fun x S1 v H1 h1 g1 k1 d1 r1 => ⟨x, S1, g1, k1, d1, r1, h1⟩))
    fun u s1 ⟨v, H1, I1, rv, x, S1, g1, k1, d1, r1, c, fs, nd, e1, l1, cl, h1⟩ => ?_) (mcall_tree hb rfl (by decide) hline)
  obtain ⟨a, dx, gs, rfl, ha1, ⟨c1, c2, c3⟩, rf⟩ := insOf_rep r1 g1.rel e1
  obtain rfl : u = Value.ref a := rv
  obtain ⟨f, hm, Bf⟩ := (B c nd cl).ex
  have lk := rf.look (f := m)
  rw [l1] at lk
  refine getmeth_ok I1 ha1 c1 hm lk ?_
  exact PySem.W.callWith_K0 (first := [.ref a]) I1.kIn hm.kp (call_ok (us := [.ref a]) (vs := [.ref a]) (xs := [x]) Bf hr tk I1 (.cons rfl .nil) g1 k1 (.cons r1 .nil) h1 fun x S' v H' q r k p => hR x S' v H' q r (d1.trans k) p)

/-! ### own classes made -/
structure MkBd (P : Program) (w : World) (K : PySem.W.Frag) (mg : Str → Option Value) (base : Heap) (k : Nat) (c : String) (n : Nat) (dds : List D) (φ : Spec) : Prop where
  ex : ∃ f, Mk K (clA K c) f ∧ FnBd P w K mg base k f n dds φ
  cl : Cls K (clA K c)
/-- the new instance one's own, or data behind its making -/
def mkI (own : Bool) (c : String) (p : Addr) (R : Pd) (S : Sto) : Prop := match own with
  | true => R (.ref p) S
  | false => ∃ fs, S p = some (.ins c fs) ∧ R (.ins c fs) (S.del p)
/-- C(..) -/
def wMake (own : Bool) (c : String) (dds : List D) (φ : Spec) (wa : WpA) : WpE := fun ς S R RE => wa ς S (fun xs S1 => ∀ p, S1 p = none → φ (.ref p :: (xs ++ dds)) (S1.set p (.ins c [])) (fun v S2 => v = .non ∧ mkI own c p R S2) RE) RE
theorem make_ok {c : String} {own : Bool} (B : MkBd X.prog X.w X.K X.mg X.base k c n dds φ) (hr : Room (k + 1) X.A) (tk : Takes X (wF X.K F)) {pins : List (Addr × Obj)} {σ : L2.St} {H : Hp} {s : Shared} {Q : VK} {us : List Value} {vs : List V} {ς : En} {S : Sto} {R : Pd} {xs : List D}
    (I : Inv X pins σ H s) (r : Vals vs us) (g : Good X.K ς S σ H) (kk : Keep X.K F.S0 F.H0 S H) (rx : RepL X.K S H xs vs)
    (h : ∀ p, S p = none → φ (.ref p :: (xs ++ dds)) (S.set p (.ins c [])) (fun v S2 => v = .non ∧ mkI own c p R S2) (fun c S' => F.XE c ς S'))
    (hR : ∀ x S' v H', R x S' → Rel X.K S' H' → Keep X.K S H S' H' → Rep X.K S' H' x v → Q v H') : wpAny (model X.prog X.w) X.A (call (.ref (clA X.K c)) us) (EP X pins σ Q) X.xe s := by
  obtain ⟨f, M, Bf⟩ := B.ex
  obtain ⟨fd, ps, ds, dvs, ok, hb, hd, rd⟩ := Bf.ok
  have n0 : H s.heap.objs.size = none := I.hok.fresh (Nat.le_refl _)
  have n1 : H (s.heap.objs.size + 1) = none := I.hok.fresh (Nat.le_succ _)
  generalize ep : s.heap.objs.size + 1 = p at n1
  generalize ed : s.heap.objs.size = dx at n0
  have ne : dx ≠ p := by omega
  have I2 : Inv X pins σ (upd (upd H dx (.own p)) p (.ins (clA X.K c) dx [])) { s with heap := (s.heap.push PySem.W.emptyDict).push (PySem.W.instObj (clA X.K c) dx) } := by
    subst ed ep
    exact Inv.made (C := clA X.K c) I
  have hq := h p (g.rel.fresh n1)
  have n1' : (upd H dx (.own p)) p = none := by rw [upd_ne (Ne.symm ne)]; exact n1
  have K1 : Keep X.K S H S (upd H dx (.own p)) := Keep.new n0
  have K2 : Keep X.K S (upd H dx (.own p)) (S.set p (.ins c [])) (upd (upd H dx (.own p)) p (.ins (clA X.K c) dx [])) := Keep.own n1'
  have R2 : Rel X.K (S.set p (.ins c [])) (upd (upd H dx (.own p)) p (.ins (clA X.K c) dx [])) := (g.rel.new n0).own n1' ⟨⟨B.cl, (fun q hq => absurd hq List.not_mem_nil), Nat.zero_le _⟩, dx, [], upd_same, .nil⟩
  have K12 := K1.trans K2
  have r2 : Vals (V.ref p :: (vs ++ dvs)) (Value.ref p :: (us ++ ds)) := .cons rfl (r.append hd)
  have sp : spOf X.K φ (V.ref p :: (vs ++ dvs)) (upd (upd H dx (.own p)) p (.ins (clA X.K c) dx [])) (fun v H2 => v = .non ∧ Q (.ref p) H2) (L2.WE (wF X.K F) σ) := by
    refine ⟨.ref p :: (xs ++ dds), _, _, _, .cons (.ref p) ((K12.l rx).append (rd _ _)), R2, hq, fun x S' v H' q r' k' p' => ?_, fun c' d' S' H' hd q r' k' => ?_⟩
    · obtain ⟨rfl, q⟩ := q
      cases p'
      refine ⟨rfl, ?_⟩
      cases own with
      | true => exact hR _ S' _ H' q r' (K12.trans k') (.ref p)
      | false =>
        obtain ⟨fs, e, q⟩ := q
        obtain ⟨co, dx', gs, e', rf⟩ := r' p _ e
        have hd' : ∀ b, (S'.del p) b = S' b ∨ (S'.del p) b = none := fun b => by
          by_cases e : b = p
          · subst e; exact .inr Sto.del_same
          · rw [Sto.del_ne e]; exact .inl rfl
        have LK := Keep.left (K := X.K) (H := H') hd'
        exact hR _ _ _ H' q (r'.left hd') ((K12.trans k').trans LK) (.ins e' Sto.del_same co (LK.f rf))
    · exact ⟨c', ς, S', rfl, hd, g.keep r' (K12.trans k'), kk.trans (K12.trans k'), q⟩
  have hl : (Value.ref p :: us ++ ds).length = ps.length := by
    have e := r2.length
    rw [ok.len _ _ _ _ sp] at e
    exact e.symm
  have hx : PassesAt (L2.CX X.prog X.w) X σ (L2.WE (wF X.K F) σ) := passAt tk σ
  refine wpAny_call (make_map (f := f) I.kIn M.makes M.init (beq_iff_eq.mp M.fn) ?_)
  rw [ep, ed]
  refine codeAny_mono (ok.run _ X.stack _ _ ⟨Value.ref p :: us, []⟩ (Value.ref p :: (us ++ ds)) _ _ _ (hr.make (clA X.K c) us [])
    (I2.env0.make (clA X.K c) us []) (hb _ (Value.ref p :: us) I2.kIn hl) r2 sp) fun r s' hq' => ?_
  cases r with
  | error e => exact hx pins _ _ e s' I2 hq'
  | ok fl =>
    cases fl with
    | ret u =>
      obtain ⟨v, H', I3, rv, ev, q3⟩ := I2.after hq'
      subst ev
      exact ⟨rv, ⟨V.ref p, H', I3, rfl, q3⟩⟩
    | next => exact False.elim hq'
    | brk => exact False.elim hq'
    | cont => exact False.elim hq'
theorem we_make {c : String} {own : Bool} (B : MkBd X.prog X.w X.K X.mg X.base k c n dds φ) (hr : Room (k + 1) X.A) (tk : Takes X (wF X.K F)) (hg : Gl X x) (hm : X.mg x = some (.ref (clA X.K c))) (ha : WA X F (e :: es) wa) (hn : noStars (e :: es) = true)
    (hdb : (x == ("__debug__" : Str)) = false) : WE X F (.Call (.Name x p) (e :: es) [] pos) (wMake own c dds φ wa) := by
  refine ⟨fun pins s σ H Q I h => ?_⟩
  obtain ⟨ς, S, R, g, kk, hw, hR⟩ := h
  refine wpAny_Call_Name_kw (ld_glob I hg hm ?_ hdb)
  have hn' : noStar e = true ∧ noStars es = true := by simpa [noStars] using hn
  obtain ⟨f, M, Bf⟩ := B.ex
  refine PySem.W.callWith_K (h₀ := X.base) I.ok.mod.kin M.kp ?_ (starEach_cons hn'.1) (back_any hn'.2)
  refine thn (ha.run pos pins s σ H _ I (tA.mk (Q := fun vs H1 => ∃ S1 xs, Good X.K ς S1 σ H1 ∧ Keep X.K F.S0 F.H0 S1 H1 ∧ Keep X.K S H S1 H1 ∧ RepL X.K S1 H1 xs vs ∧
    ∀ p, S1 p = none → φ (.ref p :: (xs ++ dds)) (S1.set p (.ins c [])) (fun v S2 => v = .non ∧ mkI own c p R S2) (fun c S' => F.XE c ς S')) g kk hw fun xs S1 vs H1 h1 g1 k1 d1 r1 => ⟨S1, xs, g1, k1, d1, r1, h1⟩)) fun us s1 ⟨vs, H1, I1, r, S1, xs, g1, k1, d1, r1, h1⟩ => ⟨I1.kIn, ?_⟩
  exact make_ok B hr tk I1 r g1 k1 r1 h1 fun x S' v H' q r k p => hR x S' v H' q r (d1.trans k) p
theorem we_make0 {c : String} {own : Bool} (B : MkBd X.prog X.w X.K X.mg X.base k c n dds φ) (hr : Room (k + 1) X.A) (tk : Takes X (wF X.K F)) (hg : Gl X x) (hm : X.mg x = some (.ref (clA X.K c)))
    (hdb : (x == ("__debug__" : Str)) = false) : WE X F (.Call (.Name x p) [] [] pos) (wMake own c dds φ wNil) := by
  refine ⟨fun pins s σ H Q I h => ?_⟩
  obtain ⟨ς, S, R, g, kk, hw, hR⟩ := h
  refine wpAny_Call_Name_kw (ld_glob I hg hm ?_ hdb)
  obtain ⟨f, M, Bf⟩ := B.ex
  exact PySem.W.callWith_K0 I.kIn M.kp (make_ok (us := []) (vs := []) (xs := []) B hr tk I .nil g kk .nil hw fun x S' v H' q r k p => hR x S' v H' q r k p)
end
end SB
end

section
set_option Elab.async false
set_option linter.all false
set_option maxRecDepth 100000
set_option autoImplicit false
/-! SB6: built-in functions and types called, by values. -/
namespace SB
open PySem PySem.Spec L2

def CaD (K : PySem.W.Frag) (r : List V → Hp → VK → Prop) (f : List D → Sto → Pd → Prop) : Prop :=
  ∀ xs vs S H (R : Pd) (Q : VK), Rel K S H → RepL K S H xs vs → f xs S R → (∀ z S' v' H', R z S' → Rel K S' H' → Keep K S H S' H' → Rep K S' H' z v' → Q v' H') → r vs H Q
def wFun (f : List D → Sto → Pd → Prop) (wa : WpA) : WpE := fun ς S R RE => wa ς S (fun xs S1 => f xs S1 R) RE
section
variable {X : Cx} {F : Fr} {pos p : Pos} {e : Expr} {es : List Expr} {wa : WpA} {x : Str} {id T : String} {r : List V → Hp → VK → Prop} {f : List D → Sto → Pd → Prop}
theorem fun_ok {K : PySem.W.Frag} (hd : CaD K r f) {σ : L2.St} {H : Hp} {Q : VK} (h : tE K F (wFun f wa) σ H Q) : tCB r (tA K F wa) σ H Q := by
  obtain ⟨ς, S, R, g, k, hw, hR⟩ := h
  exact tA.mk g k hw fun xs S1 vs H1 h1 g1 k1 d1 r1 => hd xs vs S1 H1 R Q g1.rel r1 h1 fun z S' v' H' q r k p => hR z S' v' H' q r (d1.trans k) p
theorem we_callB (hc : CallR X (.builtin id) r) (hd : CaD X.K r f) (hg : Gl X x) (hm : X.mg x = none) (hv : bootBuiltins x = some (.builtin id)) (ha : WA X F (e :: es) wa) (hs : noStars (e :: es) = true) (hn : x ≠ "__name__") (hdb : (x == ("__debug__" : Str)) = false) :
    WE X F (.Call (.Name x p) (e :: es) [] pos) (wFun f wa) := by
  have hn' : noStar e = true ∧ noStars es = true := by simpa [noStars] using hs
  exact (pe_callB hc hg hm hv ha hn hdb (starEach_cons hn'.1) (back_any hn'.2)).imp fun _ _ _ h => fun_ok hd h
theorem we_callTy (hc : CallR X (.type T) r) (hd : CaD X.K r f) (hg : Gl X x) (hm : X.mg x = none) (hv : bootBuiltins x = some (.type T)) (ha : WA X F (e :: es) wa) (hs : noStars (e :: es) = true) (hn : x ≠ "__name__") (hdb : (x == ("__debug__" : Str)) = false) :
    WE X F (.Call (.Name x p) (e :: es) [] pos) (wFun f wa) := by
  have hn' : noStar e = true ∧ noStars es = true := by simpa [noStars] using hs
  exact (pe_callTy hc hg hm hv ha hn hdb (starEach_cons hn'.1) (back_any hn'.2)).imp fun _ _ _ h => fun_ok hd h
end
/-! ### what the lists hold -/
def intL : List D → Option (List Int)
  | [] => some []
  | .int i :: r => (intL r).map (i :: ·)
  | _ => none
def blL : List D → Option (List Bool)
  | [] => some []
  | .bl i :: r => (blL r).map (i :: ·)
  | _ => none
def strL : List D → Option (List Str)
  | [] => some []
  | .str i :: r => (strL r).map (i :: ·)
  | _ => none
@[simp] theorem intL_map : ∀ ns : List Int, intL (ns.map D.int) = some ns
  | [] => rfl
  | n :: ns => by simp [intL, intL_map ns]
@[simp] theorem blL_map : ∀ ns : List Bool, blL (ns.map D.bl) = some ns
  | [] => rfl
  | n :: ns => by simp [blL, blL_map ns]
@[simp] theorem strL_map : ∀ ns : List Str, strL (ns.map D.str) = some ns
  | [] => rfl
  | n :: ns => by simp [strL, strL_map ns]
theorem intL_eq : ∀ {l : List D} {ns : List Int}, intL l = some ns → l = ns.map D.int
  | [], ns, h => by cases h; rfl
  | x :: r, ns, h => by
    cases x with
    | int i =>
      simp only [intL, Option.map_eq_some_iff] at h
      obtain ⟨ms, h1, rfl⟩ := h
      rw [intL_eq h1]; rfl
    | _ => simp [intL] at h
theorem blL_eq : ∀ {l : List D} {ns : List Bool}, blL l = some ns → l = ns.map D.bl
  | [], ns, h => by cases h; rfl
  | x :: r, ns, h => by
    cases x with
    | bl i =>
      simp only [blL, Option.map_eq_some_iff] at h
      obtain ⟨ms, h1, rfl⟩ := h
      rw [blL_eq h1]; rfl
    | _ => simp [blL] at h
theorem strL_eq : ∀ {l : List D} {ns : List Str}, strL l = some ns → l = ns.map D.str
  | [], ns, h => by cases h; rfl
  | x :: r, ns, h => by
    cases x with
    | str i =>
      simp only [strL, Option.map_eq_some_iff] at h
      obtain ⟨ms, h1, rfl⟩ := h
      rw [strL_eq h1]; rfl
    | _ => simp [strL] at h
theorem RepL.ints {K : PySem.W.Frag} {S : Sto} {H : Hp} : ∀ {ns : List Int} {vs : List V}, RepL K S H (ns.map D.int) vs → vs = ns.map V.int
  | [], _, .nil => rfl
  | n :: ns, _, .cons r t => by cases r; rw [RepL.ints t]; rfl
theorem RepL.bls {K : PySem.W.Frag} {S : Sto} {H : Hp} : ∀ {ns : List Bool} {vs : List V}, RepL K S H (ns.map D.bl) vs → vs = ns.map V.bl
  | [], _, .nil => rfl
  | n :: ns, _, .cons r t => by cases r; rw [RepL.bls t]; rfl
theorem RepL.strs {K : PySem.W.Frag} {S : Sto} {H : Hp} : ∀ {ns : List Str} {vs : List V}, RepL K S H (ns.map D.str) vs → vs = ns.map V.str
  | [], _, .nil => rfl
  | n :: ns, _, .cons r t => by cases r; rw [RepL.strs t]; rfl
/-- the items of a list or a tuple -/
def seqOf (S : Sto) (x : D) : Option (List D) := match contOf S x with
  | .l l => some l
  | .t l => some l
  | _ => none
theorem seqOf_rep {K : PySem.W.Frag} {S : Sto} {H : Hp} {x : D} {v : V} {l : List D} (r : Rep K S H x v) (q : Rel K S H) (e : seqOf S x = some l) :
    ∃ a vs, v = .ref a ∧ (SqL K H a vs ∨ SqT K H a vs) ∧ RepL K S H l vs ∧ l.length ≤ sizeLine := by
  unfold seqOf at e
  split at e
  · rename_i l' h
    cases e
    obtain ⟨a, vs, rfl, h1, h2, h3⟩ := lstSq_rep r q h
    exact ⟨a, vs, rfl, .inl h1, h2, h3⟩
  · rename_i l' h
    cases e
    cases contT_inv h
    obtain ⟨a, vs, rfl, h1, h2, h3⟩ := r.tup_inv
    exact ⟨a, vs, rfl, .inr h1, h3, h2⟩
  · cases e
theorem RepL.one {K : PySem.W.Frag} {S : Sto} {H : Hp} {x : D} {vs : List V} (r : RepL K S H [x] vs) : ∃ v, vs = [v] ∧ Rep K S H x v := by
  cases r with
  | cons r t => cases t; exact ⟨_, rfl, r⟩
theorem RepL.two {K : PySem.W.Frag} {S : Sto} {H : Hp} {x y : D} {vs : List V} (r : RepL K S H [x, y] vs) : ∃ v u, vs = [v, u] ∧ Rep K S H x v ∧ Rep K S H y u := by
  cases r with
  | cons r t => obtain ⟨u, rfl, q⟩ := t.one; exact ⟨_, _, rfl, r, q⟩
/-! ### len -/
def fLen : List D → Sto → Pd → Prop
  | [x], S, R => (match contOf S x with
    | .d l => R (.int l.length) S
    | .s z => z.length ≤ sizeLine ∧ R (.int z.length) S
    | .l l => R (.int l.length) S
    | .t l => R (.int l.length) S
    | .no => False)
  | _, _, _ => False
def rLenD : List V → Hp → VK → Prop := fun xs H Q => ∃ a kvs, xs = [V.ref a] ∧ Rd H a (.dK kvs) ∧ Q (.int (kvs.length : Nat)) H
theorem call_lenRd {X : Cx} : CallR X (.builtin "len") rLenD := by
  intro pins s σ H xs us Q I r h
  obtain ⟨a, kvs, rfl, ha, q⟩ := h
  cases r with
  | cons r rr =>
    cases rr
    cases r
    exact d_len I ha fun t s' I' => ⟨.int kvs.length, H, I', ⟨t, rfl⟩, q⟩
theorem cd_len {K : PySem.W.Frag} : CaD K (fun xs H Q => rLenD xs H Q ∨ (∃ x n, xs = [x] ∧ LenV K x H n ∧ Q (.int n) H)) fLen := by
  intro xs vs S H R Q q r h hR
  unfold fLen at h
  split at h
  · rename_i x
    obtain ⟨v, rfl, rx⟩ := r.one
    split at h
    · rename_i l e
      obtain ⟨a, kvs, rfl, h1, r1⟩ := dictOf_rep rx q e
      exact .inl ⟨a, kvs, rfl, h1, by rw [← r1.length]; exact hR _ S _ H h q .refl (.int _)⟩
    · rename_i z e
      cases contS_inv e
      cases rx
      exact .inr ⟨_, z.length, rfl, ⟨h.1, rfl⟩, hR _ S _ H h.2 q .refl (.int _)⟩
    · rename_i l e
      obtain ⟨a, us, rfl, h1, r1, _⟩ := lstSq_rep rx q e
      exact .inr ⟨_, us.length, rfl, .inl ⟨us, h1, rfl⟩, by rw [← r1.length]; exact hR _ S _ H h q .refl (.int _)⟩
    · rename_i l e
      cases contT_inv e
      obtain ⟨a, us, rfl, h1, _, r1⟩ := rx.tup_inv
      exact .inr ⟨_, us.length, rfl, .inr ⟨us, h1, rfl⟩, by rw [← r1.length]; exact hR _ S _ H h q .refl (.int _)⟩
    · exact h.elim
  · exact h.elim
/-! ### list(x), tuple(x), dict(x) -/
def keyD : Key → D
  | .inl i => .int i
  | .inr x => .str x
theorem keyD_rep {K : PySem.W.Frag} {S : Sto} {H : Hp} (k : Key) : Rep K S H (keyD k) (kV k) := by
  cases k with
  | inl i => exact .int i
  | inr x => exact .str x
theorem RepK.keys {K : PySem.W.Frag} {S : Sto} {H : Hp} : ∀ {l : List (Key × D)} {vs : List (Key × V)}, RepK K S H l vs → RepL K S H (l.map fun p => keyD p.1) (vs.map fun kv => kV kv.1)
  | _, _, .nil => .nil
  | _, _, .cons r t => .cons (keyD_rep _) (RepK.keys t)
def fList (own : Bool) : List D → Sto → Pd → Prop
  | [x], S, R => (match contOf S x with
    | .d l => mkL own (l.map fun p => keyD p.1) S R
    | .l l => mkL own l S R
    | .t l => mkL own l S R
    | _ => False)
  | _, _, _ => False
theorem cd_list {K : PySem.W.Frag} {own : Bool} : CaD K (fun xs H Q => (∃ (a : Addr) (kvs : List (Key × V)), xs = [.ref a] ∧ Rd H a (.dK kvs) ∧ ∀ p, H p = none → Q (.ref p) (upd H p (.lst (kvs.map fun kv => kV kv.1)))) ∨
    (∃ p ys, xs = [.ref p] ∧ (SqL K H p ys ∨ SqT K H p ys) ∧ ∀ l, H l = none → Q (.ref l) (upd H l (.lst ys)))) (fList own) := by
  intro xs vs S H R Q q r h hR
  unfold fList at h
  split at h
  · rename_i x
    obtain ⟨v, rfl, rx⟩ := r.one
    split at h
    · rename_i l e
      obtain ⟨a, kvs, rfl, h1, r1⟩ := dictOf_rep rx q e
      exact .inl ⟨a, kvs, rfl, h1, (mkL_ok q h r1.keys hR).2⟩
    · rename_i l e
      obtain ⟨a, us, rfl, h1, r1, _⟩ := lstSq_rep rx q e
      exact .inr ⟨a, us, rfl, .inl h1, (mkL_ok q h r1 hR).2⟩
    · rename_i l e
      cases contT_inv e
      obtain ⟨a, us, rfl, h1, _, r1⟩ := rx.tup_inv
      exact .inr ⟨a, us, rfl, .inr h1, (mkL_ok q h r1 hR).2⟩
    · exact h.elim
  · exact h.elim
def fTuple : List D → Sto → Pd → Prop
  | [x], S, R => ∃ l, seqOf S x = some l ∧ R (.tup l) S
  | _, _, _ => False
theorem cd_tuple {K : PySem.W.Frag} : CaD K (fun xs H Q => ∃ p ys, xs = [.ref p] ∧ ((SqL K H p ys ∧ ∀ l, H l = none → Q (.ref l) (upd H l (.tup ys))) ∨ (SqT K H p ys ∧ Q (.ref p) H))) fTuple := by
  intro xs vs S H R Q q r h hR
  unfold fTuple at h
  split at h
  · rename_i x
    obtain ⟨v, rfl, rx⟩ := r.one
    obtain ⟨l, e, h⟩ := h
    obtain ⟨a, us, rfl, h1, r1, z⟩ := seqOf_rep rx q e
    rcases h1 with h1 | h1
    · exact ⟨a, us, rfl, .inl ⟨h1, (mkT_ok q z h r1 hR).2⟩⟩
    · exact ⟨a, us, rfl, .inr ⟨h1, hR _ S _ H h q .refl (.tup h1 z r1)⟩⟩
  · exact h.elim
/-- a pair's list as a dict's pairs -/
def pairL : List D → Option (List (Key × D))
  | [] => some []
  | .tup [k, x] :: r => (match keyOf k with
    | some k => (pairL r).map ((k, x) :: ·)
    | none => none)
  | _ => none
def fDict (own : Bool) : List D → Sto → Pd → Prop
  | [x], S, R => (match contOf S x with
    | .d l => mkD own l S R
    | .l l => ∃ ps, pairL l = some ps ∧ mkD own (mergeD [] ps) S R
    | _ => False)
  | _, _, _ => False
theorem pairL_rep {K : PySem.W.Frag} {S : Sto} {H : Hp} : ∀ {l : List D} {vs : List V} {ps : List (Key × D)}, RepL K S H l vs → pairL l = some ps →
    ∃ (as : List Addr) (kvs : List (Key × V)), vs = as.map V.ref ∧ Paired (fun p kv => SqT K H p [kV kv.1, kv.2]) as kvs ∧ RepK K S H ps kvs
  | [], _, ps, .nil, h => by cases h; exact ⟨[], [], rfl, .nil, .nil⟩
  | x :: l, _, ps, .cons r t, h => by
    unfold pairL at h
    split at h
    · rename_i h2
      cases h2
    · rename_i k d l' e
      injection e with e1 e2
      subst e1 e2
      split at h
      · rename_i k' ek
        rw [Option.map_eq_some_iff] at h
        obtain ⟨ps', h1, rfl⟩ := h
        obtain ⟨as, kvs, rfl, p, q⟩ := pairL_rep t h1
        obtain ⟨a, us, rfl, h3, _, rr⟩ := r.tup_inv
        obtain ⟨v1, v2, rfl, r1, r2⟩ := rr.two
        have := keyOf_rep r1 ek
        subst this
        exact ⟨a :: as, (k', v2) :: kvs, rfl, .cons h3 p, .cons r2 q⟩
      · cases h
    · cases h
theorem cd_dict {K : PySem.W.Frag} {own : Bool} : CaD K (fun xs H Q => (∃ (a : Addr) (kvs : List (Key × V)), xs = [.ref a] ∧ Rd H a (.dK kvs) ∧ ∀ p, H p = none → Q (.ref p) (upd H p (.dK kvs))) ∨
    (∃ (a : Addr) (ps : List Addr) (kvs : List (Key × V)), xs = [.ref a] ∧ SqL K H a (ps.map V.ref) ∧ Paired (fun p kv => SqT K H p [kV kv.1, kv.2]) ps kvs ∧ ∀ p, H p = none → Q (.ref p) (upd H p (.dK (mergeK [] kvs))))) (fDict own) := by
  intro xs vs S H R Q q r h hR
  unfold fDict at h
  split at h
  · rename_i x
    obtain ⟨v, rfl, rx⟩ := r.one
    split at h
    · rename_i l e
      obtain ⟨a, kvs, rfl, h1, r1⟩ := dictOf_rep rx q e
      exact .inl ⟨a, kvs, rfl, h1, mkD_ok q h r1 hR⟩
    · rename_i l e
      obtain ⟨ps, hp, h⟩ := h
      obtain ⟨a, us, rfl, h1, r1, _⟩ := lstSq_rep rx q e
      obtain ⟨as, kvs, rfl, p, r2⟩ := pairL_rep r1 hp
      exact .inr ⟨a, as, kvs, rfl, h1, p, mkD_ok q h (r2.merge .nil) hR⟩
    · exact h.elim
  · exact h.elim
/-! ### sum, all, any, sorted, min, max -/
section
variable {X : Cx} {prog : Program} {w : World} {A : Around} {E : Value → Shared → Prop} {s : Shared} {l : Addr} {its : List Value} {ns : List Int} {Q : Value → Shared → Prop}
open PyProof.Rows (IntsAre) in
theorem sum_rawT (hh : A.handled = none) (hl : s.heap.IsTuple l its.toArray) (hi : IntsAre its ns)
    (h : ∀ h' tk t', (∀ b o, s.heap.get? b = some o → h'.get? b = some o) → Q (.int ns.sum t') { s with heap := h', toks := tk }) : wpAny (model prog w) A (call (.builtin "sum") [.ref l]) Q E s := by
  obtain ⟨xs, e⟩ := hi.allInts.items
  have hn : numsOf (intItems xs).toList = ns := by rw [← e]; exact hi.numsOf
  rw [nums_intItems] at hn
  rw [e] at hl
  have hlt : l < s.heap.objs.size := by obtain ⟨_, e, _⟩ := hl; exact Heap.lt_size e
  refine call_sum_walkG (wpAny_pyIter_tuple hl ?_)
  refine ⟨s.heap.objs.size, _, _, _, _, _, numAt xs, rfl, Walks.tuple (A := A.in1) hh _ l (Nat.ne_of_lt hlt) (intItems xs), ⟨⟨_, Heap.get?_push_size _ rfl, rfl, rfl⟩, hl.push _⟩, fun b hb => ?_, (fun _ _ => intItems_at), fun h' tk t' hk => ?_⟩
  · show b < (s.heap.push _).objs.size
    rw [Heap.size_push]
    rcases List.mem_cons.mp hb with rfl | hb
    · exact Nat.lt_succ_self _
    · rcases List.mem_cons.mp hb with rfl | hb
      · exact Nat.lt_succ_of_lt hlt
      · cases hb
  · have := h h' tk t' fun b o e => hk b o (fun hm => by
      rcases List.mem_cons.mp hm with e1 | hm
      · exact absurd (e1 ▸ Heap.lt_size e) (Nat.lt_irrefl _)
      · cases hm) (Heap.get?_push_of_some _ e)
    have e2 : (intItems xs).size = xs.size := by simp [intItems]
    rw [e2, preSum_eq, List.take_of_length_le (by simp), hn]
    exact this
open PyProof.Rows (IntsAre) in
theorem min_rawT (hh : A.handled = none) (hl : s.heap.IsTuple l its.toArray) (hi : IntsAre its ns) (hne : 0 < ns.length)
    (h : ∀ h' tk M t', (∀ b o, s.heap.get? b = some o → h'.get? b = some o) → M ∈ ns → (∀ a, a ∈ ns → M ≤ a) → Q (.int M t') { s with heap := h', toks := tk }) : wpAny (model prog w) A (call (.builtin "min") [.ref l]) Q E s := by
  obtain ⟨xs, e⟩ := hi.allInts.items
  have hn : numsOf (intItems xs).toList = ns := by rw [← e]; exact hi.numsOf
  rw [nums_intItems] at hn
  subst hn
  rw [e] at hl
  have hsz : 0 < xs.size := by simpa using hne
  have hlt : l < s.heap.objs.size := by obtain ⟨_, e, _⟩ := hl; exact Heap.lt_size e
  refine call_min_walk (wpAny_pyIter_tuple hl ?_)
  refine ⟨s.heap.objs.size, _, _, _, _, _, _, rfl, Walks.tuple (A := A.in1) hh _ l (Nat.ne_of_lt hlt) (intItems xs), ⟨⟨_, Heap.get?_push_size _ rfl, rfl, rfl⟩, hl.push _⟩, fun b hb => ?_, by simpa [intItems] using hsz, CmpOf.ints_lt (numAt xs) (fun _ _ => intItems_at), fun v h' tk hP hk => ?_⟩
  · show b < (s.heap.push _).objs.size
    rw [Heap.size_push]
    rcases List.mem_cons.mp hb with rfl | hb
    · exact Nat.lt_succ_self _
    · rcases List.mem_cons.mp hb with rfl | hb
      · exact Nat.lt_succ_of_lt hlt
      · cases hb
  · have hv : (intItems xs)[argBest (fun i j => decide (numAt xs i < numAt xs j)) (xs.size - 1)]? = some v := by simpa [intItems] using hP
    obtain ⟨t, rfl⟩ := intItems_at hv
    obtain ⟨h1, h2⟩ := argBest_lt (numAt xs) (xs.size - 1)
    refine h h' tk _ t (fun b o e => hk b o (fun hm => by
      rcases List.mem_cons.mp hm with e1 | hm
      · exact absurd (e1 ▸ Heap.lt_size e) (Nat.lt_irrefl _)
      · cases hm) (Heap.get?_push_of_some _ e)) ?_ fun a ha => ?_
    · rw [numAt_eq]; exact PySem.getD_mem (by rw [List.length_map, Array.length_toList]; omega)
    · obtain ⟨j, hj, rfl⟩ := mem_getD ha
      rw [List.length_map, Array.length_toList] at hj
      rw [← numAt_eq]; exact h2 j (by omega)
end
section
variable {K : PySem.W.Frag}
def fSum : List D → Sto → Pd → Prop
  | [x], S, R => ∃ l ns, seqOf S x = some l ∧ intL l = some ns ∧ R (.int ns.sum) S
  | _, _, _ => False
def rSumT (K : PySem.W.Frag) : List V → Hp → VK → Prop := fun vs H Q => ∃ (a : Addr) (ns : List Int), vs = [V.ref a] ∧ (SqL K H a (ns.map V.int) ∨ SqT K H a (ns.map V.int)) ∧ Q (.int ns.sum) H
theorem cr_sumT {X : Cx} (hc : X.calm = true) : CallR X (.builtin "sum") (rSumT X.K) := by
  intro pins s σ H vs us Q I r h
  obtain ⟨a, ns, rfl, hs, q⟩ := h
  cases r with
  | cons r rr =>
    cases rr
    cases r
    rcases hs with hs | hs
    · obtain ⟨its, rv, hl, _⟩ := I.list hs
      exact sum_raw (I.ok.hd hc) hl.isList rv.ints fun h' tk t' hk => ⟨.int _, H, I.kept hk, ⟨_, rfl⟩, q⟩
    · obtain ⟨its, rv, hl, _⟩ := I.tuple hs
      exact sum_rawT (I.ok.hd hc) hl rv.ints fun h' tk t' hk => ⟨.int _, H, I.kept hk, ⟨_, rfl⟩, q⟩
theorem cd_sum : CaD K (rSumT K) fSum := by
  intro xs vs S H R Q q r h hR
  unfold fSum at h
  split at h
  · rename_i x
    obtain ⟨v, rfl, rx⟩ := r.one
    obtain ⟨l, ns, e, ei, h⟩ := h
    obtain ⟨a, us, rfl, h1, r1, _⟩ := seqOf_rep rx q e
    have := intL_eq ei
    subst this
    have := r1.ints
    subst this
    exact ⟨a, ns, rfl, h1, hR _ S _ H h q .refl (.int _)⟩
  · exact h.elim
def fAll : List D → Sto → Pd → Prop
  | [x], S, R => ∃ l bs, contOf S x = .l l ∧ blL l = some bs ∧ R (.bl (bs.all id)) S
  | _, _, _ => False
def fAny : List D → Sto → Pd → Prop
  | [x], S, R => ∃ l bs, contOf S x = .l l ∧ blL l = some bs ∧ R (.bl (bs.any id)) S
  | _, _, _ => False
theorem cd_all : CaD K (rAll K) fAll := by
  intro xs vs S H R Q q r h hR
  unfold fAll at h
  split at h
  · obtain ⟨v, rfl, rx⟩ := r.one
    obtain ⟨l, ns, e, ei, h⟩ := h
    obtain ⟨a, us, rfl, h1, r1, _⟩ := lstSq_rep rx q e
    have := blL_eq ei
    subst this
    have := r1.bls
    subst this
    exact ⟨a, ns, rfl, h1, hR _ S _ H h q .refl (.bl _)⟩
  · exact h.elim
theorem cd_any : CaD K (rAny K) fAny := by
  intro xs vs S H R Q q r h hR
  unfold fAny at h
  split at h
  · obtain ⟨v, rfl, rx⟩ := r.one
    obtain ⟨l, ns, e, ei, h⟩ := h
    obtain ⟨a, us, rfl, h1, r1, _⟩ := lstSq_rep rx q e
    have := blL_eq ei
    subst this
    have := r1.bls
    subst this
    exact ⟨a, ns, rfl, h1, hR _ S _ H h q .refl (.bl _)⟩
  · exact h.elim
/-- sorted of a list of ints, of a dict of ints -/
def fSorted (own : Bool) : List D → Sto → Pd → Prop
  | [x], S, R => (match contOf S x with
    | .l l => ∃ ns, intL l = some ns ∧ ∀ ns' : List Int, ns'.Perm ns → ns'.Pairwise (· ≤ ·) → mkL own (ns'.map D.int) S R
    | .d l => ∃ ns, intL (l.map fun p => keyD p.1) = some ns ∧ ns.length < 64 ∧ ∀ ns' : List Int, ns'.Perm ns → ns'.Pairwise (· ≤ ·) → mkL own (ns'.map D.int) S R
    | _ => False)
  | _, _, _ => False
theorem repL_ints {S : Sto} {H : Hp} : ∀ ns : List Int, RepL K S H (ns.map D.int) (ns.map V.int)
  | [] => .nil
  | n :: ns => .cons (.int n) (repL_ints ns)
theorem repL_strs {S : Sto} {H : Hp} : ∀ ns : List Str, RepL K S H (ns.map D.str) (ns.map V.str)
  | [] => .nil
  | n :: ns => .cons (.str n) (repL_strs ns)
theorem keys_ints : ∀ {l : List (Key × D)} {ns : List Int}, intL (l.map fun p => keyD p.1) = some ns → l.map (·.1) = ns.map Sum.inl
  | [], ns, h => by cases h; rfl
  | (k, x) :: r, ns, h => by
    cases k with
    | inr z => simp [keyD, intL] at h
    | inl i =>
      simp only [List.map_cons, keyD, intL, Option.map_eq_some_iff] at h
      obtain ⟨ms, h1, rfl⟩ := h
      rw [List.map_cons, List.map_cons, keys_ints h1]
theorem RepK.fst {S : Sto} {H : Hp} : ∀ {l : List (Key × D)} {vs : List (Key × V)}, RepK K S H l vs → l.map (·.1) = vs.map (·.1)
  | _, _, .nil => rfl
  | _, _, .cons r t => by rw [List.map_cons, List.map_cons, RepK.fst t]
theorem cd_sorted {own : Bool} : CaD K (fun xs H Q => rSortedI K xs H Q ∨ (∃ (a : Addr) (kvs : List (Key × V)) (ks : List Int), xs = [.ref a] ∧ Rd H a (.dK kvs) ∧ kvs.map (·.1) = ks.map Sum.inl ∧ ks.length < 64 ∧
    ∀ (ys : List Int) (p : Addr), ys.Perm ks → ys.Pairwise (· ≤ ·) → H p = none → Q (.ref p) (upd H p (.lst (ys.map V.int))))) (fSorted own) := by
  intro xs vs S H R Q q r h hR
  unfold fSorted at h
  split at h
  · rename_i x
    obtain ⟨v, rfl, rx⟩ := r.one
    split at h
    · rename_i l e
      obtain ⟨ns, ei, h⟩ := h
      obtain ⟨a, us, rfl, h1, r1, _⟩ := lstSq_rep rx q e
      have := intL_eq ei
      subst this
      have := r1.ints
      subst this
      exact .inl ⟨a, ns, rfl, h1, fun ns' p hp hw hn => (mkL_ok q (h ns' hp hw) (repL_ints ns') hR).2 p hn⟩
    · rename_i l e
      obtain ⟨ns, ei, hl, h⟩ := h
      obtain ⟨a, kvs, rfl, h1, r1⟩ := dictOf_rep rx q e
      exact .inr ⟨a, kvs, ns, rfl, h1, by rw [← r1.fst]; exact keys_ints ei, hl, fun ns' p hp hw hn => (mkL_ok q (h ns' hp hw) (repL_ints ns') hR).2 p hn⟩
    · exact h.elim
  · exact h.elim
def fMin : List D → Sto → Pd → Prop
  | [.int i, .int j], S, R => R (.int (if j < i then j else i)) S
  | [x], S, R => ∃ l ns, seqOf S x = some l ∧ intL l = some ns ∧ 0 < ns.length ∧ ∀ m, m ∈ ns → (∀ y, y ∈ ns → m ≤ y) → R (.int m) S
  | _, _, _ => False
def rMinT (K : PySem.W.Frag) : List V → Hp → VK → Prop := fun vs H Q => ∃ (a : Addr) (ns : List Int), vs = [V.ref a] ∧ (SqL K H a (ns.map V.int) ∨ SqT K H a (ns.map V.int)) ∧ 0 < ns.length ∧ ∀ m, m ∈ ns → (∀ y, y ∈ ns → m ≤ y) → Q (.int m) H
theorem cr_minT {X : Cx} (hc : X.calm = true) : CallR X (.builtin "min") (rMinT X.K) := by
  intro pins s σ H vs us Q I r h
  obtain ⟨a, ns, rfl, hs | hs, hne, q⟩ := h
  · obtain ⟨its, rv, hl, _⟩ := I.list hs
    rw [Vals.ref1 r]
    exact min_raw (I.ok.hd hc) hl.isList rv.ints hne fun h' tk m t' hk h1 h2 => ⟨.int _, H, I.kept hk, ⟨_, rfl⟩, q m h1 h2⟩
  · obtain ⟨its, rv, hl, _⟩ := I.tuple hs
    rw [Vals.ref1 r]
    exact min_rawT (I.ok.hd hc) hl rv.ints hne fun h' tk m t' hk h1 h2 => ⟨.int _, H, I.kept hk, ⟨_, rfl⟩, q m h1 h2⟩
def fMax : List D → Sto → Pd → Prop
  | [.int i, .int j], S, R => R (.int (if j > i then j else i)) S
  | [x], S, R => ∃ l ns, contOf S x = .l l ∧ intL l = some ns ∧ 0 < ns.length ∧ ∀ m, m ∈ ns → (∀ y, y ∈ ns → y ≤ m) → R (.int m) S
  | _, _, _ => False
theorem cd_min : CaD K (fun xs H Q => (∃ i j, xs = [.int i, .int j] ∧ Q (.int (if j < i then j else i)) H) ∨ rMinT K xs H Q) fMin := by
  intro xs vs S H R Q q r h hR
  unfold fMin at h
  split at h
  · rename_i i j
    obtain ⟨v, u, rfl, r1, r2⟩ := r.two
    cases r1; cases r2
    exact .inl ⟨i, j, rfl, hR _ S _ H h q .refl (.int _)⟩
  · obtain ⟨v, rfl, rx⟩ := r.one
    obtain ⟨l, ns, e, ei, hl, h⟩ := h
    obtain ⟨a, us, rfl, h1, r1, _⟩ := seqOf_rep rx q e
    have := intL_eq ei
    subst this
    have := r1.ints
    subst this
    exact .inr ⟨a, ns, rfl, h1, hl, fun m hm hy => hR _ S _ H (h m hm hy) q .refl (.int _)⟩
  · exact h.elim
theorem cd_max : CaD K (fun xs H Q => (∃ i j, xs = [.int i, .int j] ∧ Q (.int (if j > i then j else i)) H) ∨ rMax K xs H Q) fMax := by
  intro xs vs S H R Q q r h hR
  unfold fMax at h
  split at h
  · rename_i i j
    obtain ⟨v, u, rfl, r1, r2⟩ := r.two
    cases r1; cases r2
    exact .inl ⟨i, j, rfl, hR _ S _ H h q .refl (.int _)⟩
  · obtain ⟨v, rfl, rx⟩ := r.one
    obtain ⟨l, ns, e, ei, hl, h⟩ := h
    obtain ⟨a, us, rfl, h1, r1, _⟩ := lstSq_rep rx q e
    have := intL_eq ei
    subst this
    have := r1.ints
    subst this
    exact .inr ⟨a, ns, rfl, h1, hl, fun m hm hy => hR _ S _ H (h m hm hy) q .refl (.int _)⟩
  · exact h.elim
def b2iD (b : Bool) : Int := if b then 1 else 0
def fInt : List D → Sto → Pd → Prop
  | [.int i], S, R => R (.int i) S
  | [.bl b], S, R => R (.int (b2iD b)) S
  | [.str a], S, R => ∃ n, PySem.intText? a = some n ∧ a.length ≤ 640 ∧ R (.int n) S
  | _, _, _ => False
theorem cd_int : CaD K (fun xs H Q => ((∃ i, xs = [.int i] ∧ Q (.int i) H) ∨ ∃ k, xs = [.bl k] ∧ Q (.int (if k then 1 else 0)) H) ∨ (∃ a n, xs = [.str a] ∧ PySem.intText? a = some n ∧ a.length ≤ 640 ∧ Q (.int n) H)) fInt := by
  intro xs vs S H R Q q r h hR
  unfold fInt at h
  split at h
  · obtain ⟨v, rfl, rx⟩ := r.one; cases rx
    exact .inl (.inl ⟨_, rfl, hR _ S _ H h q .refl (.int _)⟩)
  · obtain ⟨v, rfl, rx⟩ := r.one; cases rx
    exact .inl (.inr ⟨_, rfl, hR _ S _ H h q .refl (.int _)⟩)
  · obtain ⟨v, rfl, rx⟩ := r.one; cases rx
    obtain ⟨n, h1, h2, h⟩ := h
    exact .inr ⟨_, n, rfl, h1, h2, hR _ S _ H h q .refl (.int _)⟩
  · exact h.elim
def fStr : List D → Sto → Pd → Prop
  | [.int i], S, R => i.natAbs.log2 < 1920 ∧ R (.str (toString i)) S
  | [.str a], S, R => R (.str a) S
  | _, _, _ => False
theorem cd_str : CaD K (fun xs H Q => (∃ i, xs = [.int i] ∧ i.natAbs.log2 < 1920 ∧ Q (.str (toString i)) H) ∨ (∃ a, xs = [.str a] ∧ Q (.str a) H)) fStr := by
  intro xs vs S H R Q q r h hR
  unfold fStr at h
  split at h
  · obtain ⟨v, rfl, rx⟩ := r.one; cases rx
    exact .inl ⟨_, rfl, h.1, hR _ S _ H h.2 q .refl (.str _)⟩
  · obtain ⟨v, rfl, rx⟩ := r.one; cases rx
    exact .inr ⟨_, rfl, hR _ S _ H h q .refl (.str _)⟩
  · exact h.elim
/-! ### isinstance(x, T), T a built-in type -/
def tyD (S : Sto) : D → Option String
  | .non => some "NoneType"
  | .bl _ => some "bool"
  | .int _ => some "int"
  | .str _ => some "str"
  | .tup _ => some "tuple"
  | .lst _ => some "list"
  | .dct _ => some "dict"
  | .ref a => (match S a with
    | some (.lst _) => some "list"
    | some (.dct _) => some "dict"
    | _ => none)
  | _ => none
/-- whether a built-in type is under another one -/
def tySub (a b : String) : Bool := a == b || (a == "bool" && b == "int")
def tyAs : List String := ["NoneType", "bool", "int", "str", "tuple", "list", "dict"]
def tyBs : List String := ["int", "bool", "tuple", "str", "list", "dict"]
theorem kit_all : (tyAs.all fun a => tyBs.all fun b => decide (kitB a b = some (tySub a b))) = true := by decide +kernel
def fIsTy (T : String) : List D → Sto → Pd → Prop
  | [x], S, R => ∃ t, tyD S x = some t ∧ R (.bl (tySub t T)) S
  | _, _, _ => False
theorem tyD_mem {S : Sto} {x : D} {t : String} (h : tyD S x = some t) : t ∈ tyAs := by
  unfold tyD at h
  repeat' split at h
  all_goals first | (cases h; decide) | cases h
theorem kit_tyD {K : PySem.W.Frag} {S : Sto} {x : D} {t T : String} (h : tyD S x = some t) (hT : T ∈ tyBs) : PySem.W.kitOne K (.type t) (.type T) = some (tySub t T) := by
  have q := kit_all
  rw [List.all_eq_true] at q
  have q2 := q t (tyD_mem h)
  rw [List.all_eq_true] at q2
  exact kit_ty (of_decide_eq_true (q2 T hT))
theorem tyD_rep {S : Sto} {H : Hp} {x : D} {v : V} {t : String} (r : Rep K S H x v) (q : Rel K S H) (e : tyD S x = some t) : TyX K H v (.type t) := by
  cases r with
  | non => cases e; exact .base .non
  | bl b => cases e; exact .base (.bl b)
  | int b => cases e; exact .base (.int b)
  | str b => cases e; exact .base (.str b)
  | tup h n r =>
    cases e
    rcases h with (h | ⟨o, h⟩) | ⟨o, its, n, h1, h2, _⟩
    · exact .base (.tup h)
    · exact .fTuple h
    · exact .kTuple h1 h2
  | lst h n z r => cases e; exact .base (.lst h)
  | dct h n z r =>
    cases e
    rcases h with h | ⟨o, h⟩
    · exact .base (.dK h)
    · exact .fDict h
  | ref a =>
    unfold tyD at e
    dsimp only at e
    cases h : S a with
    | none => rw [h] at e; cases e
    | some o =>
      rw [h] at e
      cases o with
      | lst l => cases e; obtain ⟨z, vs, h1, h2⟩ := q a _ h; exact .base (.lst h1)
      | dct l => cases e; obtain ⟨z, vs, h1, h2⟩ := q a _ h; exact .base (.dK h1)
      | _ => cases e
  | _ => cases e
end
section
variable {X : Cx} {F : Fr} {pos p p2 : Pos} {e : Expr} {es : List Expr} {we : WpE} {wa : WpA} {x : Str} {T : String}
def wIsTy (T : String) (we : WpE) : WpE := fun ς S R RE => we ς S (fun x S1 => ∃ t, tyD S1 x = some t ∧ R (.bl (tySub t T)) S1) RE
theorem we_isTy (hT : T ∈ tyBs) (he : WE X F e we) (hn : noStar e = true) (hg : Gl X "isinstance") (hm : X.mg "isinstance" = none) (hg2 : Gl X x) (hm2 : X.mg x = none) (hv : bootBuiltins x = some (.type T)) (hx : x ≠ "__name__") (hdb : (x == ("__debug__" : Str)) = false) :
    WE X F (.Call (.Name "isinstance" p) [e, .Name x p2] [] pos) (wIsTy T we) := by
  have hb : bootBuiltins "isinstance" = some (.builtin "isinstance") := by decide +kernel
  have pt : PE X (.Name x p2) (tC (.ty T)) := pe_bltn hg2 hm2 hv rfl hx hdb
  refine (pe_callB call_isi hg hm hb (pa_cons he (pa_cons pt pa_nil rfl) (starEach_cons hn)) (by decide) (by decide) (starEach_cons hn) rfl).imp fun σ H Q ⟨ς, S, R, g, k, hw, hR⟩ => ?_
  refine tE.mk g k hw fun x S1 v H1 h1 g1 k1 d1 r1 => ?_
  obtain ⟨t, e, h1⟩ := h1
  exact ⟨v, .ty T, .type t, .type T, tySub t T, rfl, .ty T, tyD_rep r1 g1.rel e, kit_tyD e hT, hR _ S1 _ H1 h1 g1.rel d1 (.bl _)⟩
end
end SB
end

section
set_option Elab.async false
set_option linter.all false
set_option maxRecDepth 100000
set_option autoImplicit false
/-! SB7: methods of built-in types. -/
namespace SB
open PySem PySem.Spec L2

/-- what a built-in type's method asks of its receiver -/
def tyM (T : String) (S : Sto) (x : D) : Bool := match contOf S x with
  | .d _ => T == "dict"
  | .s _ => T == "str"
  | .l _ => T == "list"
  | _ => false
def tyW (K : PySem.W.Frag) (T : String) (x : V) (H : Hp) : Prop := match x with
  | .str _ => T = "str"
  | .ref p => (T = "list" ∧ ∃ xs, SqL K H p xs) ∨ (T = "dict" ∧ ∃ kvs, Rd H p (.dK kvs))
  | _ => False
theorem tyW_is {X : Cx} {pins : List (Addr × Obj)} {σ : L2.St} {H : Hp} {s : Shared} {T : String} {x : V} {v : Value} (I : Inv X pins σ H s) (r : RelV x v) (ty : tyW X.K T x H) :
    s.TypeIs v T ∧ ∀ a, v = .ref a → ∃ ob, s.heap.get? a = some ob ∧ ob.dict = none := by
  cases x with
  | str z =>
    obtain ⟨t, rfl⟩ := r
    obtain rfl : T = "str" := ty
    exact ⟨typeIs_str s z t, fun _ e => nomatch e⟩
  | ref p =>
    cases r
    rcases ty with ⟨rfl, xs, hq⟩ | ⟨rfl, kvs, hk⟩
    · obtain ⟨its, _, pl, _⟩ := I.list hq
      refine ⟨pl.isList.typeIs, fun a e => ?_⟩
      cases e
      obtain ⟨o, n, e, c, hd, _⟩ := pl
      exact ⟨o, e, hd⟩
    · obtain ⟨_, _, _, _, o, _, _, e, ex, _⟩ := dk_rd I.hok hk
      refine ⟨⟨o, e, ex.1⟩, fun a e2 => ?_⟩
      cases e2
      exact ⟨o, e, ex.2.1⟩
  | _ => exact False.elim ty
theorem tyM_rep {K : PySem.W.Frag} {S : Sto} {H : Hp} {T : String} {x : D} {v : V} (r : Rep K S H x v) (q : Rel K S H) (e : tyM T S x = true) : tyW K T v H := by
  unfold tyM at e
  split at e
  · rename_i l h
    obtain ⟨a, vs, rfl, h1, _⟩ := dictOf_rep r q h
    exact .inr ⟨eq_of_beq e, vs, h1⟩
  · rename_i z h
    cases contS_inv h
    cases r
    exact eq_of_beq e
  · rename_i l h
    obtain ⟨a, vs, rfl, h1, _⟩ := lstSq_rep r q h
    exact .inl ⟨eq_of_beq e, vs, h1⟩
  · cases e
def MtD (K : PySem.W.Frag) (r : V → List V → Hp → VK → Prop) (f : D → List D → Sto → Pd → Prop) : Prop :=
  ∀ x xs v vs S H (R : Pd) (Q : VK), Rel K S H → Rep K S H x v → RepL K S H xs vs → f x xs S R → (∀ z S' v' H', R z S' → Rel K S' H' → Keep K S H S' H' → Rep K S' H' z v' → Q v' H') → r v vs H Q
def wMt (T : String) (f : D → List D → Sto → Pd → Prop) (wo : WpE) (wa : WpA) : WpE := fun ς S R RE => wo ς S (fun x S1 => tyM T S1 x = true ∧ wa ς S1 (fun xs S2 => f x xs S2 R) RE) RE
section
variable {X : Cx} {F : Fr} {cpos apos : Pos} {o e : Expr} {es : List Expr} {wo : WpE} {wa : WpA} {name : Str} {T id : String} {r : V → List V → Hp → VK → Prop} {f : D → List D → Sto → Pd → Prop}
def tBW (K : PySem.W.Frag) (T : String) (r : V → List V → Hp → VK → Prop) (to : TE) (t : TA) : TE := fun σ H Q => to σ H fun x H1 => tyW K T x H1 ∧ t σ H1 fun xs H2 => r x xs H2 Q
theorem pe_bw {to : TE} {t : TA} (pa : PlainAttrs T) (slot : Slot T name id) (hty : typeOf (.builtin id) = pure (.type "method_descriptor")) (hm : MtR X id r) (ho : PE X o to) (ha : PA X (e :: es) t)
    (hb : baseOk o = true) (hn : noStars (e :: es) = true) (hl : (e :: es).length < 29) (hline : (apos.endLine == cpos.line) = true) :
    PE X (.Call (.Attribute o name apos) (e :: es) [] cpos) (tBW X.K T r to t) := by
  refine ⟨fun pins s σ H Q I h => ?_⟩
  refine wpAny_Call_method_late (attrBase hb) (back_few hn hl) hline rfl (thn (ho.run pins s σ H _ I h) fun v s1 ⟨x, H1, I1, r1, ty, q1⟩ => ?_)
  obtain ⟨h1, h2⟩ := tyW_is I1 r1 ty
  refine ⟨T, id, pa, slot, hty, h1, h2, ?_⟩
  have hA := ha.run cpos pins s1 σ H1 _ I1 q1
  have hn' : noStar e = true ∧ noStars es = true := by simpa [noStars] using hn
  have hs := starEach_cons (es := es) (env := X.env) hn'.1
  rw [hs] at hA ⊢
  refine Calls.callWith_builtin (by show (false || (backTo cpos (starEach es X.env)).any (·.1)) = false; rw [back_any hn'.2] <;> rfl) (Calls.evalArgs_plain ?_)
  exact thn hA fun us s2 ⟨vs, H2, I2, r2, q2⟩ => hm pins s2 σ H2 x vs v us Q I2 r1 r2 q2
def tBW0 (K : PySem.W.Frag) (T : String) (r : V → List V → Hp → VK → Prop) (to : TE) : TE := fun σ H Q => to σ H fun x H1 => tyW K T x H1 ∧ r x [] H1 Q
theorem pe_bw0 {to : TE} (pa : PlainAttrs T) (slot : Slot T name id) (hty : typeOf (.builtin id) = pure (.type "method_descriptor")) (hm : MtR X id r) (ho : PE X o to) (hb : baseOk o = true) (hline : (apos.endLine == cpos.line) = true) :
    PE X (.Call (.Attribute o name apos) [] [] cpos) (tBW0 X.K T r to) := by
  refine ⟨fun pins s σ H Q I h => ?_⟩
  refine wpAny_Call_method0_late (attrBase hb) hline (thn (ho.run pins s σ H _ I h) fun v s1 ⟨x, H1, I1, r1, ty, q1⟩ => ?_)
  obtain ⟨h1, h2⟩ := tyW_is I1 r1 ty
  exact ⟨T, id, pa, slot, hty, h1, h2, Calls.callWith_builtin rfl (PySem.evalArgs_none (hm pins s1 σ H1 x [] v [] Q I1 r1 .nil q1))⟩
theorem we_bm (pa : PlainAttrs T) (slot : Slot T name id) (hty : typeOf (.builtin id) = pure (.type "method_descriptor")) (hm : MtR X id r) (hd : MtD X.K r f) (ho : WE X F o wo) (ha : WA X F (e :: es) wa)
    (hb : baseOk o = true) (hn : noStars (e :: es) = true) (hl : (e :: es).length < 29) (hline : (apos.endLine == cpos.line) = true) : WE X F (.Call (.Attribute o name apos) (e :: es) [] cpos) (wMt T f wo wa) :=
  (pe_bw pa slot hty hm ho ha hb hn hl hline).imp fun σ H Q ⟨ς, S, R, g, k, hw, hR⟩ => by
    refine tE.mk g k hw fun x S1 v H1 h1 g1 k1 d1 r1 => ?_
    refine ⟨tyM_rep r1 g1.rel h1.1, tA.mk g1 k1 h1.2 fun xs S2 vs H2 h2 g2 k2 d2 r2 => ?_⟩
    exact hd x xs v vs S2 H2 R Q g2.rel (d2 _ _ r1) r2 h2 fun z S' v' H' q r k p => hR z S' v' H' q r ((d1.trans d2).trans k) p
theorem we_bm0 (pa : PlainAttrs T) (slot : Slot T name id) (hty : typeOf (.builtin id) = pure (.type "method_descriptor")) (hm : MtR X id r) (hd : MtD X.K r f) (ho : WE X F o wo) (hb : baseOk o = true) (hline : (apos.endLine == cpos.line) = true) :
    WE X F (.Call (.Attribute o name apos) [] [] cpos) (wMt T f wo wNil) :=
  (pe_bw0 pa slot hty hm ho hb hline).imp fun σ H Q ⟨ς, S, R, g, k, hw, hR⟩ => by
    refine tE.mk g k hw fun x S1 v H1 h1 g1 k1 d1 r1 => ?_
    refine ⟨tyM_rep r1 g1.rel h1.1, ?_⟩
    exact hd x [] v [] S1 H1 R Q g1.rel r1 .nil h1.2 fun z S' v' H' q r k p => hR z S' v' H' q r (d1.trans k) p
end
section
variable {K : PySem.W.Frag}
/-- an owned list, changed -/
def fLst (g : List D → List D → Option (List D × D)) : D → List D → Sto → Pd → Prop := fun x xs S R => ∃ a l l' z, x = .ref a ∧ S a = some (.lst l) ∧ g l xs = some (l', z) ∧ l'.length ≤ sizeLine ∧ R z (S.set a (.lst l'))
theorem own_lst {S : Sto} {H : Hp} {a : Addr} {l : List D} (q : Rel K S H) (e : S a = some (.lst l)) : ∃ vs, H a = some (.lst vs) ∧ RepL K S H l vs ∧ l.length ≤ sizeLine := by
  obtain ⟨z, vs, h1, h2⟩ := q a _ e
  exact ⟨vs, h1, h2, z⟩
theorem put_lst {S : Sto} {H : Hp} {a : Addr} {l l' : List D} {vs' : List V} {z : D} {v : V} {R : Pd} {Q : VK} (q : Rel K S H) (e : S a = some (.lst l)) (r : RepL K S H l' vs') (rz : Rep K S H z v) (hl : l'.length ≤ sizeLine) (h : R z (S.set a (.lst l')))
    (hR : ∀ z S' v' H', R z S' → Rel K S' H' → Keep K S H S' H' → Rep K S' H' z v' → Q v' H') : Q v (upd H a (.lst vs')) := by
  have k : Keep K S H (S.set a (.lst l')) (upd H a (.lst vs')) := Keep.putR q e
  exact hR _ _ _ _ h (q.put e ⟨hl, vs', upd_same, k.l r⟩) k (k _ _ rz)
theorem put_dct {S : Sto} {H : Hp} {a : Addr} {l l' : List (Key × D)} {vs' : List (Key × V)} {z : D} {v : V} {R : Pd} {Q : VK} (q : Rel K S H) (e : S a = some (.dct l)) (r : RepK K S H l' vs') (rz : Rep K S H z v) (hl : l'.length ≤ sizeLine) (h : R z (S.set a (.dct l')))
    (hR : ∀ z S' v' H', R z S' → Rel K S' H' → Keep K S H S' H' → Rep K S' H' z v' → Q v' H') : Q v (upd H a (.dK vs')) := by
  have k : Keep K S H (S.set a (.dct l')) (upd H a (.dK vs')) := Keep.putR q e
  exact hR _ _ _ _ h (q.put e ⟨hl, vs', upd_same, k.k r⟩) k (k _ _ rz)
def fAppend (x : D) (xs : List D) (S : Sto) (R : Pd) : Prop := ∃ a l y, x = .ref a ∧ xs = [y] ∧ S a = some (.lst l) ∧ l.length + 1 ≤ sizeLine ∧ R .non (S.set a (.lst (l ++ [y])))
theorem md_append : MtD K rAppend fAppend := by
  intro x xs v vs S H R Q q r rs h hR
  obtain ⟨a, l, y, rfl, rfl, e, hl, h⟩ := h
  cases r
  obtain ⟨u, rfl, ru⟩ := rs.one
  obtain ⟨ws, h1, h2, h3⟩ := own_lst q e
  exact ⟨a, ws, u, rfl, rfl, h1, by rw [← h2.length]; omega, put_lst q e (h2.append (.cons ru .nil)) .non (by simpa using hl) h hR⟩
def fExtend (x : D) (xs : List D) (S : Sto) (R : Pd) : Prop := ∃ a l y m, x = .ref a ∧ xs = [y] ∧ S a = some (.lst l) ∧ lstOf S y = some m ∧ l.length + m.length ≤ sizeLine ∧ R .non (S.set a (.lst (l ++ m)))
theorem md_extend : MtD K rExtend fExtend := by
  intro x xs v vs S H R Q q r rs h hR
  obtain ⟨a, l, y, m, rfl, rfl, e, em, hl, h⟩ := h
  cases r
  obtain ⟨u, rfl, ru⟩ := rs.one
  obtain ⟨ws, h1, h2, h3⟩ := own_lst q e
  obtain ⟨b, us, rfl, h4, h5, _⟩ := lstOf_rep ru q em
  exact ⟨a, b, ws, us, rfl, rfl, h1, h4, by rw [← h2.length, ← h5.length]; exact hl, put_lst q e (h2.append h5) .non (by simpa using hl) h hR⟩
def fPop (x : D) (xs : List D) (S : Sto) (R : Pd) : Prop := ∃ a l i k y, x = .ref a ∧ xs = [.int i] ∧ S a = some (.lst l) ∧ ixN l.length i = some k ∧ l[k]? = some y ∧ R y (S.set a (.lst (l.eraseIdx k)))
theorem md_pop : MtD K rPopAt fPop := by
  intro x xs v vs S H R Q q r rs h hR
  obtain ⟨a, l, i, k, y, rfl, rfl, e, ei, ey, h⟩ := h
  cases r
  obtain ⟨u, rfl, ru⟩ := rs.one
  cases ru
  obtain ⟨ws, h1, h2, h3⟩ := own_lst q e
  obtain ⟨w, hw, rw'⟩ := h2.get ey
  obtain ⟨j1, j2, j3, j4⟩ := ixN_seq ei
  have hs : sizeLine = 16777216 := sizeLine_eq
  refine ⟨a, ws, i, k, w, rfl, rfl, h1, by omega, by omega, by rw [← h2.length]; exact j1, hw, put_lst q e (h2.eraseIdx k) rw' ?_ h hR⟩
  have := List.length_eraseIdx_le (l := l) (i := k)
  omega
def fInsert (x : D) (xs : List D) (S : Sto) (R : Pd) : Prop := ∃ a l i y, x = .ref a ∧ xs = [.int i, y] ∧ S a = some (.lst l) ∧ l.length + 1 ≤ sizeLine ∧ 0 ≤ i ∧ i < 2 ^ 63 ∧ R .non (S.set a (.lst (l.take i.toNat ++ [y] ++ l.drop i.toNat)))
theorem md_insert : MtD K (fun x vs H Q => ∃ (l : Addr) (xs : List V) (i : Int) (y : V), x = .ref l ∧ vs = [.int i, y] ∧ H l = some (.lst xs) ∧ xs.length < sizeLine ∧ 0 ≤ i ∧ i < 2 ^ 63 ∧ Q .non (upd H l (.lst (xs.take i.toNat ++ [y] ++ xs.drop i.toNat)))) fInsert := by
  intro x xs v vs S H R Q q r rs h hR
  obtain ⟨a, l, i, y, rfl, rfl, e, hl, h0, h9, h⟩ := h
  cases r
  obtain ⟨u, w, rfl, ru, rw'⟩ := rs.two
  cases ru
  obtain ⟨ws, h1, h2, h3⟩ := own_lst q e
  refine ⟨a, ws, i, w, rfl, rfl, h1, by rw [← h2.length]; omega, h0, h9, put_lst q e (((h2.take _).append (.cons rw' .nil)).append (h2.drop _)) .non ?_ h hR⟩
  simp only [List.length_append, List.length_take, List.length_drop, List.length_cons, List.length_nil]
  omega
def fClearL (x : D) (xs : List D) (S : Sto) (R : Pd) : Prop := ∃ a l, x = .ref a ∧ xs = [] ∧ S a = some (.lst l) ∧ R .non (S.set a (.lst []))
theorem md_clearL : MtD K rClear fClearL := by
  intro x xs v vs S H R Q q r rs h hR
  obtain ⟨a, l, rfl, rfl, e, h⟩ := h
  cases r
  cases rs
  obtain ⟨ws, h1, h2, h3⟩ := own_lst q e
  exact ⟨a, ws, rfl, rfl, h1, put_lst q e .nil .non (Nat.zero_le _) h hR⟩
/-- list.count, by == of data -/
def rCntD (K : PySem.W.Frag) : V → List V → Hp → VK → Prop := fun x xs H Q => ∃ (a : Addr) (y : V) (d : PyData) (ds : List PyData), x = V.ref a ∧ xs = [y] ∧ Dp K H (V.ref a) (.list ds) ∧ Dp K H y d ∧
  SeqAt.shaped (.list ds) = true ∧ SeqAt.shaped d = true ∧ Q (.int ((ds.countP fun z => PyData.eqv z d : Nat) : Int)) H
theorem mt_countD {X : Cx} (hu : X.A.units + 65 < cLine) : MtR X "list.count" (rCntD X.K) := by
  intro pins s σ H x xs v us Q I rx rxs h
  obtain ⟨a, y, d, ds, rfl, rfl, hl, hy, sl, sd, q⟩ := h
  cases rx
  cases rxs with
  | cons ry rt =>
    rename_i uy ut
    cases rt
    obtain ⟨bs, r1⟩ := Dp.reads I d y uy hy ry
    have hxs : PyData.canLayAll0 ds = true := SeqAt.canLay_of_shaped sl
    have hroom : X.A.units + 1 + min (PyData.depthAll ds) d.depth < cLine := by
      have h1 := SeqAt.depth_of_shaped sd
      have h2 : min (PyData.depthAll ds) d.depth ≤ d.depth := Nat.min_le_right _ _
      omega
    cases hl with
    | lst hs ha =>
      obtain ⟨its, rv, ⟨⟨cls, dd, data, sls⟩, n, ho, hc, hdn, hdt⟩, hlen⟩ := I.list hs
      simp only at hc hdt
      subst hc hdt
      obtain ⟨as, h4⟩ := Dp.readsAll I ds _ its ha rv
      have hmap : its.map (SeqAt.readOf s.heap) = ds := SeqAt.readsAll_map ds its as hxs h4
      refine call_meets PySem.F.slot_list_count ⟨_, ho, rfl⟩ PySem.F.entry_list_count (PySem.F.args_list_count_2 _ _)
        (SeqAt.list_countAt a its.toArray n dd sls uy (fun u => PyData.eqv (SeqAt.readOf s.heap u) d)) ⟨ho, SeqAt.items_eqAt (vs := its.toArray) (show ReadsAll s.heap its.toArray.toList ds as from h4) r1 hxs (SeqAt.canLay_of_shaped sd) hroom, ?_⟩
      refine ⟨.int ((ds.countP fun z => PyData.eqv z d : Nat) : Int), H, I.tok _, ⟨s.toks, ?_⟩, q⟩
      have e : its.toArray.toList.countP (fun u => PyData.eqv (SeqAt.readOf s.heap u) d) = ds.countP fun z => PyData.eqv z d := by
        rw [← hmap, List.countP_map]
        rfl
      rw [e]
def fCount (x : D) (xs : List D) (S : Sto) (R : Pd) : Prop := ∃ l y, contOf S x = .l l ∧ xs = [y] ∧ okD (.lst l) = true ∧ okD y = true ∧ R (.int ((l.countP fun z => dEq z y : Nat) : Int)) S
theorem countP_pyL (x : PyData) : ∀ l : List D, (pyL l).countP (fun z => PyData.eqv z x) = l.countP (fun z => PyData.eqv (pyD z) x)
  | [] => rfl
  | y :: l => by simp [pyL, List.countP_cons, countP_pyL x l]
theorem md_count : MtD K (rCntD K) fCount := by
  intro x xs v vs S H R Q q r rs h hR
  obtain ⟨l, y, e, rfl, o1, o2, h⟩ := h
  obtain ⟨u, rfl, ru⟩ := rs.one
  have d1 := listOf_rep r q e o1
  obtain ⟨a, ws, rfl, _⟩ := lstSq_rep r q e
  have d2 := rep_dp ru (SeqAt.canLay_of_shaped o2)
  have := hR _ S _ H h q .refl (.int _)
  exact ⟨a, u, _, _, rfl, rfl, d1, d2, o1, o2, by rw [countP_pyL]; simpa [dEq] using this⟩
def fIndex (x : D) (xs : List D) (S : Sto) (R : Pd) : Prop := ∃ l y j, contOf S x = .l l ∧ xs = [y] ∧ okD (.lst l) = true ∧ okD y = true ∧ l.findIdx? (fun z => dEq z y) = some j ∧ R (.int (j : Nat)) S
theorem pyL_get : ∀ (l : List D) (i : Nat), (pyL l)[i]? = (l[i]?).map pyD
  | [], i => by simp [pyL]
  | x :: l, 0 => by simp [pyL]
  | x :: l, i + 1 => by simp [pyL, pyL_get l i]
theorem md_index : MtD K (rIndexD K) fIndex := by
  intro x xs v vs S H R Q q r rs h hR
  obtain ⟨l, y, j, e, rfl, o1, o2, hj, h⟩ := h
  obtain ⟨u, rfl, ru⟩ := rs.one
  have d1 := listOf_rep r q e o1
  obtain ⟨a, ws, rfl, _⟩ := lstSq_rep r q e
  have d2 := rep_dp ru (SeqAt.canLay_of_shaped o2)
  rw [List.findIdx?_eq_some_iff_getElem] at hj
  obtain ⟨hj1, hj2, hj3⟩ := hj
  refine ⟨a, u, _, _, j, pyD l[j], rfl, rfl, d1, d2, o1, o2, ?_, hj2, fun m z' hm hz => ?_, hR _ S _ H h q .refl (.int _)⟩
  · rw [pyL_get, List.getElem?_eq_getElem hj1]; rfl
  · have hml : m < l.length := by omega
    rw [pyL_get, List.getElem?_eq_getElem hml] at hz
    cases hz
    have := hj3 m hm
    simpa [dEq] using this
/-! dicts -/
def fGet (x : D) (xs : List D) (S : Sto) (R : Pd) : Prop := ∃ l y z k, contOf S x = .d l ∧ xs = [y, z] ∧ keyOf y = some k ∧ R ((lookK k l).getD z) S
def rGet2 : V → List V → Hp → VK → Prop := fun x xs H Q => ∃ a y z o, x = .ref a ∧ xs = [y, z] ∧ DGet H a y o ∧ Q (o.getD z) H
theorem mt_get2 {X : Cx} (hu : X.A.units + 1 < cLine) : MtR X "dict.get" rGet2 := by
  intro pins s σ H x xs v us Q I rx rxs h
  obtain ⟨a, y, z, o, rfl, rfl, g, q⟩ := h
  cases rx
  obtain ⟨u, w, rfl, r1, r2⟩ := rxs.two
  exact d_get2 hu I g r1 r2 fun w' s' I' r' => ⟨_, H, I', r', q⟩
theorem md_get : MtD K rGet2 fGet := by
  intro x xs v vs S H R Q q r rs h hR
  obtain ⟨l, y, z, k, e, rfl, ek, h⟩ := h
  obtain ⟨a, kvs, rfl, h1, r1⟩ := dictOf_rep r q e
  obtain ⟨u, w, rfl, ru, rw'⟩ := rs.two
  have := keyOf_rep ru ek
  subst this
  refine ⟨a, _, _, valV kvs k, rfl, rfl, .inl ⟨kvs, k, h1, rfl, rfl⟩, ?_⟩
  have hl := r1.look (k := k)
  cases eq : lookK k l with
  | none => rw [eq] at hl h; rw [show valV kvs k = none from hl]; exact hR _ S _ H h q .refl rw'
  | some d => rw [eq] at hl h; obtain ⟨v, h3, h4⟩ := hl; rw [h3]; exact hR _ S _ H h q .refl h4
def fSetd (x : D) (xs : List D) (S : Sto) (R : Pd) : Prop := ∃ a l y z k, x = .ref a ∧ S a = some (.dct l) ∧ xs = [y, z] ∧ keyOf y = some k ∧
  match lookK k l with
  | some d => R d S
  | none => l.length + 1 ≤ sizeLine ∧ R z (S.set a (.dct (putD k z l)))
def rSetd2 : V → List V → Hp → VK → Prop := fun x xs H Q => ∃ a kvs k v, x = .ref a ∧ xs = [kV k, v] ∧ H a = some (.dK kvs) ∧ (∀ w, valV kvs k = some w → Q w H) ∧ (valV kvs k = none → kvs.length + 1 ≤ sizeLine ∧ Q v (upd H a (.dK (putK kvs k v))))
theorem mt_setd {X : Cx} : MtR X "dict.setdefault" rSetd2 := by
  intro pins s σ H x xs v us Q I rx rxs h
  obtain ⟨a, kvs, k, w, rfl, rfl, e, q1, q2⟩ := h
  cases rx
  obtain ⟨u, w', rfl, ry, rd⟩ := rxs.two
  obtain ⟨z, hd, vs, rel, dd⟩ := dk_of I.hok e
  refine call_meetsIn PySem.F.slot_dict_setdefault dd.typeIs PySem.F.entry_dict_setdefault (PySem.F.args_dict_setdefault_3 _ _ _) (kt_meets_setdefault (mixKind X.prog X.w) a (kV_is ry) hd w')
    ⟨vs, dd, by rw [← rel.length]; exact z, fun u hu => ?_, fun hn h' dd' hs => ?_⟩
  · have rr := rel.val k
    rw [hu] at rr
    cases hv : valV kvs k with
    | none => rw [hv] at rr; exact False.elim rr
    | some x =>
      rw [hv] at rr
      exact (⟨x, H, I.tok _, rr, q1 x hv⟩ : EP X pins σ Q u _)
  · have rr := rel.val k
    rw [hn] at rr
    cases hv : valV kvs k with
    | some x => rw [hv] at rr; exact False.elim rr
    | none =>
      obtain ⟨hl, q⟩ := q2 hv
      have hl2 : (putK kvs k w).length ≤ sizeLine := by have := length_putK kvs k w; omega
      exact (⟨w, _, d_write (t' := s.toks + 1) I (by rw [e]; exact True.intro) hs (let ⟨q, _, _, hq, _⟩ := dd'; ⟨q, hq⟩) (dk_new hl2 hd (rel.put k rd) dd'), rd, q⟩ : EP X pins σ Q _ _)
theorem putD_le (k : Key) (x : D) (l : List (Key × D)) : (putD k x l).length ≤ l.length + 1 := by
  unfold putD; split
  · rw [List.length_map]; omega
  · rw [List.length_append]; simp
theorem md_setd : MtD K rSetd2 fSetd := by
  intro x xs v vs S H R Q q r rs h hR
  obtain ⟨a, l, y, z, k, rfl, e, rfl, ek, h⟩ := h
  cases r
  obtain ⟨u, w, rfl, ru, rw'⟩ := rs.two
  have := keyOf_rep ru ek
  subst this
  obtain ⟨zz, kvs, h1, r1⟩ := q a _ e
  have hl := r1.look (k := k)
  refine ⟨a, kvs, k, w, rfl, rfl, h1, fun d hd => ?_, fun hd => ?_⟩
  · cases eq : lookK k l with
    | none => rw [eq] at hl; rw [show valV kvs k = none from hl] at hd; cases hd
    | some d' =>
      rw [eq] at hl h
      obtain ⟨v, h3, h4⟩ := hl
      rw [h3] at hd
      cases hd
      exact hR _ S _ H h q .refl h4
  · cases eq : lookK k l with
    | some d' => rw [eq] at hl; obtain ⟨v, h3, h4⟩ := hl; rw [h3] at hd; cases hd
    | none =>
      rw [eq] at h
      exact ⟨by rw [← r1.length]; exact h.1, put_dct q e (r1.put rw') rw' (Nat.le_trans (putD_le k z l) h.1) h.2 hR⟩
def fPopD (x : D) (xs : List D) (S : Sto) (R : Pd) : Prop := ∃ a l y k d, x = .ref a ∧ S a = some (.dct l) ∧ xs = [y] ∧ keyOf y = some k ∧ lookK k l = some d ∧ R d (S.set a (.dct (dropD k l)))
def rPopD : V → List V → Hp → VK → Prop := fun x xs H Q => ∃ a kvs k v, x = .ref a ∧ xs = [kV k] ∧ H a = some (.dK kvs) ∧ valV kvs k = some v ∧ Q v (upd H a (.dK (dropK kvs k)))
theorem mt_popD {X : Cx} : MtR X "dict.pop" rPopD := by
  intro pins s σ H x xs v us Q I rx rxs h
  obtain ⟨a, kvs, k, w, rfl, rfl, e, l, q⟩ := h
  cases rx
  obtain ⟨u, rfl, ry⟩ := rxs.one
  exact d_pop I e ry l (.inl rfl) fun w' s' I' r' => ⟨w, _, I', r', q⟩
theorem md_popD : MtD K rPopD fPopD := by
  intro x xs v vs S H R Q q r rs h hR
  obtain ⟨a, l, y, k, d, rfl, e, rfl, ek, el, h⟩ := h
  cases r
  obtain ⟨u, rfl, ru⟩ := rs.one
  have := keyOf_rep ru ek
  subst this
  obtain ⟨zz, kvs, h1, r1⟩ := q a _ e
  have hl := r1.look (k := k)
  rw [el] at hl
  obtain ⟨v, h3, h4⟩ := hl
  refine ⟨a, kvs, k, v, rfl, rfl, h1, h3, put_dct q e r1.drop h4 ?_ h hR⟩
  have : (dropD k l).length ≤ l.length := List.length_filter_le _ _
  omega
def fClearD (x : D) (xs : List D) (S : Sto) (R : Pd) : Prop := ∃ a l, x = .ref a ∧ xs = [] ∧ S a = some (.dct l) ∧ R .non (S.set a (.dct []))
theorem md_clearD : MtD K rDClear fClearD := by
  intro x xs v vs S H R Q q r rs h hR
  obtain ⟨a, l, rfl, rfl, e, h⟩ := h
  cases r
  cases rs
  obtain ⟨zz, kvs, h1, r1⟩ := q a _ e
  exact ⟨a, kvs, rfl, rfl, h1, put_dct q e .nil .non (Nat.zero_le _) h hR⟩
def fUpdate (x : D) (xs : List D) (S : Sto) (R : Pd) : Prop := ∃ a l y m, x = .ref a ∧ S a = some (.dct l) ∧ xs = [y] ∧ dctOf S y = some m ∧ y ≠ .ref a ∧ l.length + m.length ≤ sizeLine ∧ R .non (S.set a (.dct (mergeD l m)))
def rUpdate : V → List V → Hp → VK → Prop := fun x xs H Q => ∃ a b kvs more, x = .ref a ∧ xs = [.ref b] ∧ a ≠ b ∧ H a = some (.dK kvs) ∧ Rd H b (.dK more) ∧ kvs.length + more.length ≤ sizeLine ∧ Q .non (upd H a (.dK (mergeK kvs more)))
theorem mt_update {X : Cx} : MtR X "dict.update" rUpdate := by
  intro pins s σ H x xs v us Q I rx rxs h
  obtain ⟨a, b, kvs, more, rfl, rfl, ne, ea, eb, hl, q⟩ := h
  cases rx
  obtain ⟨u, rfl, ry⟩ := rxs.one
  cases ry
  obtain ⟨z, hd, vs, rel, dd⟩ := dk_of I.hok ea
  obtain ⟨z2, hd2, ms, rel2, dd2⟩ := dk_rd I.hok eb
  refine call_meetsIn PySem.F.slot_dict_update dd.typeIs PySem.F.entry_dict_update (PySem.F.args_dict_update_2 _ _) (meets_dict_update (mixKind X.prog X.w) a b ne hd2)
    ⟨vs, ms, dd, dd2, by rw [← rel.length, ← rel2.length]; exact hl, fun h' dd' _ hs => ?_⟩
  have hl2 : (mergeK kvs more).length ≤ sizeLine := Nat.le_trans (length_mergeK more kvs) hl
  exact (⟨.non, _, d_write (t' := s.toks) I (by rw [ea]; exact True.intro) hs (let ⟨q, _, _, hq, _⟩ := dd'; ⟨q, hq⟩) (dk_new hl2 hd (rel2.merge rel) dd'), rfl, q⟩ : EP X pins σ Q _ _)
theorem md_update : MtD K rUpdate fUpdate := by
  intro x xs v vs S H R Q q r rs h hR
  obtain ⟨a, l, y, m, rfl, e, rfl, em, ne, hl, h⟩ := h
  cases r
  obtain ⟨u, rfl, ru⟩ := rs.one
  obtain ⟨zz, kvs, h1, r1⟩ := q a _ e
  obtain ⟨b, ms, rfl, h3, h4, _⟩ := dctOf_rep ru q em
  have ne' : a ≠ b := fun e2 => by
    subst e2
    cases ru with
    | ref a => exact ne rfl
    | dct h n z r => rw [n] at e; cases e
    | _ => cases em
  refine ⟨a, b, kvs, ms, rfl, rfl, ne', h1, h3, by rw [← r1.length, ← h4.length]; exact hl, put_dct q e (h4.merge r1) .non ?_ h hR⟩
  have := mergeD_length m l
  omega
/-! texts -/
def fSplit (own : Bool) (x : D) (xs : List D) (S : Sto) (R : Pd) : Prop := ∃ a b, x = .str a ∧ xs = [.str b] ∧ (b.length == 0) = false ∧ a.length + 2 ≤ sizeLine ∧ mkL own ((Txt.split a b).map D.str) S R
theorem md_split {own : Bool} : MtD K (fun x xs H Q => ∃ a b, x = .str a ∧ xs = [.str b] ∧ (b.length == 0) = false ∧ a.length + 2 ≤ sizeLine ∧ rNewStrs (Txt.split a b) H Q) (fSplit own) := by
  intro x xs v vs S H R Q q r rs h hR
  obtain ⟨a, b, rfl, rfl, h1, h2, h⟩ := h
  cases r
  obtain ⟨u, rfl, ru⟩ := rs.one
  cases ru
  exact ⟨a, b, rfl, rfl, h1, h2, (mkL_ok q h (repL_strs _) hR).2⟩
def fJoin (x : D) (xs : List D) (S : Sto) (R : Pd) : Prop := ∃ a y l ys, x = .str a ∧ xs = [y] ∧ seqOf S y = some l ∧ strL l = some ys ∧ (ys.map (·.length)).sum + ys.length * a.length ≤ 16777216 ∧ R (.str (Txt.join a ys)) S
theorem md_join : MtD K (fun x xs H Q => ∃ a p, ∃ ys : List Str, x = .str a ∧ xs = [.ref p] ∧ (SqL K H p (ys.map V.str) ∨ SqT K H p (ys.map V.str)) ∧ (ys.map (·.length)).sum + ys.length * a.length ≤ 16777216 ∧ Q (.str (Txt.join a ys)) H) fJoin := by
  intro x xs v vs S H R Q q r rs h hR
  obtain ⟨a, y, l, ys, rfl, rfl, e, ei, hl, h⟩ := h
  cases r
  obtain ⟨u, rfl, ru⟩ := rs.one
  obtain ⟨p, ws, rfl, h1, r1, _⟩ := seqOf_rep ru q e
  have := strL_eq ei
  subst this
  have := r1.strs
  subst this
  exact ⟨a, p, ys, rfl, rfl, h1, hl, hR _ S _ H h q .refl (.str _)⟩
end
end SB
end

section
set_option Elab.async false
set_option linter.all false
set_option maxRecDepth 100000
set_option autoImplicit false
/-! SB8: targets by names, what is walked, for, list comprehensions. -/
namespace SB
open PySem PySem.Spec L2

/-! ### targets: names, tuples of such -/
mutual
inductive Tg where
  | nm (i : Nat) | tup (l : Tgs)
inductive Tgs where
  | nil | cons (t : Tg) (l : Tgs)
end
mutual
def Tg.bind : Tg → D → En → Option En
  | .nm i, d, ς => some (ς.set i (some d))
  | .tup ts, .tup l, ς => Tgs.bind ts l ς
  | .tup _, _, _ => none
def Tgs.bind : Tgs → List D → En → Option En
  | .nil, [], ς => some ς
  | .cons t ts, x :: xs, ς => match Tg.bind t x ς with
    | some ς1 => Tgs.bind ts xs ς1
    | none => none
  | _, _, _ => none
end
def Tgs.len : Tgs → Nat
  | .nil => 0
  | .cons _ l => l.len + 1
mutual
def Tg.of (K : PySem.W.Frag) : Tg → TG
  | .nm i => gName i
  | .tup ts => gTup K ts.len (Tgs.of K ts)
def Tgs.of (K : PySem.W.Frag) : Tgs → TGs
  | .nil => gNil
  | .cons t ts => gCons (Tg.of K t) (Tgs.of K ts)
end
mutual
def Tg.ixs : Tg → List Nat
  | .nm i => [i]
  | .tup ts => ts.ixs
def Tgs.ixs : Tgs → List Nat
  | .nil => []
  | .cons t ts => t.ixs ++ ts.ixs
end
def WG (X : Cx) (e : Expr) (t : Tg) : Prop := PG X e (t.of X.K)
def WGs (X : Cx) (es : List Expr) (t : Tgs) : Prop := PGs X es (t.of X.K)
theorem wipe_set {σ : St} {i : Nat} {x : Option V} : ∀ vs : List Nat, wipe (σ.set i x) vs = if i ∈ vs then wipe σ vs else (wipe σ vs).set i x
  | [] => by simp [wipe]
  | v :: vs => by
    unfold wipe
    rw [wipe_set vs]
    by_cases h : i ∈ vs
    · rw [if_pos h, if_pos (List.mem_cons_of_mem _ h)]
    · rw [if_neg h]
      by_cases e : i = v
      · subst e
        rw [if_pos List.mem_cons_self, List.set_set]
      · rw [if_neg (by simp [e, h]), List.set_comm _ _ e]
/-- the slots of a block's own names forgotten -/
def wipeE (ς : En) : List Nat → En
  | [] => ς
  | v :: vs => (wipeE ς vs).set v none
theorem Good.wipe {K : PySem.W.Frag} {ς : En} {S : Sto} {σ : St} {H : Hp} (g : Good K ς S σ H) : ∀ vs : List Nat, Good K (wipeE ς vs) S (L2.wipe σ vs) H
  | [] => g
  | v :: vs => (Good.wipe g vs).unset
theorem Tgs.bind_len : ∀ {ts : Tgs} {l : List D} {ς ς' : En}, ts.bind l ς = some ς' → l.length = ts.len
  | .nil, [], _, _, _ => rfl
  | .nil, _ :: _, _, _, h => by cases h
  | .cons t ts, [], _, _, h => by cases h
  | .cons t ts, x :: xs, ς, ς', h => by
    unfold Tgs.bind at h
    split at h
    · rename_i ς1 e1
      have := Tgs.bind_len (ts := ts) h
      simp [Tgs.len, this]
    · cases h
mutual
theorem Tg.bind_ok {K : PySem.W.Frag} : ∀ {t : Tg} {d : D} {ς ς' : En} {S : Sto} {σ : St} {H : Hp} {v : V}, t.bind d ς = some ς' → Good K ς S σ H → Rep K S H d v →
    ∃ σ', (∀ Q : St → Hp → Prop, Q σ' H → t.of K v σ H Q) ∧ Good K ς' S σ' H ∧ ∀ vs, (∀ i ∈ t.ixs, i ∈ vs) → wipe σ' vs = wipe σ vs
  | .nm i, d, ς, ς', S, σ, H, v, e, g, r => by
    unfold Tg.bind at e
    cases e
    exact ⟨σ.set i (some v), fun Q q => by unfold Tg.of; exact q, g.set r, fun vs h => by rw [wipe_set, if_pos (h i (by simp [Tg.ixs]))]⟩
  | .tup ts, d, ς, ς', S, σ, H, v, e, g, r => by
    cases d with
    | tup l =>
      unfold Tg.bind at e
      obtain ⟨a, vs, rfl, q, _, rl⟩ := Rep.tup_inv r
      obtain ⟨σ', h1, h2, h3⟩ := Tgs.bind_ok e g rl
      exact ⟨σ', fun Q z => by unfold Tg.of; exact ⟨a, vs, rfl, q, by rw [← rl.length]; exact Tgs.bind_len e, h1 Q z⟩, h2, fun us hu => h3 us (by unfold Tg.ixs at hu; exact hu)⟩
    | _ => simp [Tg.bind] at e
theorem Tgs.bind_ok {K : PySem.W.Frag} : ∀ {ts : Tgs} {l : List D} {ς ς' : En} {S : Sto} {σ : St} {H : Hp} {vs : List V}, ts.bind l ς = some ς' → Good K ς S σ H → RepL K S H l vs →
    ∃ σ', (∀ Q : St → Hp → Prop, Q σ' H → ts.of K vs σ H Q) ∧ Good K ς' S σ' H ∧ ∀ us, (∀ i ∈ ts.ixs, i ∈ us) → wipe σ' us = wipe σ us
  | .nil, l, ς, ς', S, σ, H, vs, e, g, r => by
    cases r with
    | nil => unfold Tgs.bind at e; cases e; exact ⟨σ, fun Q q => by unfold Tgs.of; exact ⟨rfl, q⟩, g, fun _ _ => rfl⟩
    | cons _ _ => cases e
  | .cons t ts, l, ς, ς', S, σ, H, vs, e, g, r => by
    cases r with
    | nil => cases e
    | cons rx rr =>
      unfold Tgs.bind at e
      split at e
      · rename_i ς1 e1
        obtain ⟨σ1, h1, g1, w1⟩ := Tg.bind_ok e1 g rx
        obtain ⟨σ2, h2, g2, w2⟩ := Tgs.bind_ok e g1 rr
        refine ⟨σ2, fun Q q => by unfold Tgs.of; exact ⟨_, _, rfl, h1 _ (h2 Q q)⟩, g2, fun us hu => ?_⟩
        rw [w2 us fun i hi => hu i (by simp [Tgs.ixs, hi]), w1 us fun i hi => hu i (by simp [Tgs.ixs, hi])]
      · cases e
end
section
variable {X : Cx} {pos : Pos}
theorem wg_nm {i : Nat} {x : Str} (hN : X.N.Nodup) (hi : X.N[i]? = some x) (hx : Loc X.env.scope x) (hf : X.fn x = true ∨ X.env.scope.names.lookup x = some .local) : WG X (.Name x pos) (.nm i) := by
  have h := pg_name (pos := pos) hN hi hx hf
  show PG X _ (Tg.of X.K (.nm i))
  unfold Tg.of
  exact h
theorem wgs_nil : WGs X [] .nil := by
  show PGs X _ (Tgs.of X.K .nil)
  unfold Tgs.of
  exact pgs_nil
theorem wgs_cons {e : Expr} {es : List Expr} {t : Tg} {ts : Tgs} (h : WG X e t) (hr : WGs X es ts) (hs : ∀ env, (assignEach (e :: es) env).map (·.2) = assign e env :: (assignEach es env).map (·.2)) : WGs X (e :: es) (.cons t ts) := by
  show PGs X _ (Tgs.of X.K (.cons t ts))
  unfold Tgs.of
  exact pgs_cons h hr (hs _)
theorem wg_tup {es : List Expr} {k : Nat} {ts : Tgs} (hc : X.calm = true) (h : WGs X es ts) (hn : ∀ env, (assignEach es env).length = ts.len) (hst : ∀ env, (assignEach es env).findIdx? (·.1) = none) : WG X (.Tuple es k pos) (.tup ts) := by
  show PG X _ (Tg.of X.K (.tup ts))
  unfold Tg.of
  exact pg_tup hc h (hn _) (hst _)
end

/-! ### what is walked -/
/-- what must stand still of the store -/
def grd (g : Option (Addr × SO)) (S : Sto) : Prop := match g with
  | none => True
  | some (a, o) => S a = some o
/-- an iterator that gives these, from where S, H stand -/
structure WalkD (K : PySem.W.Frag) (J : It) (xs : List D) (gd : Option (Addr × SO)) (S : Sto) (H : Hp) : Prop where
  goes : ∀ i S2 H2, i < xs.length → Rel K S2 H2 → Keep K S H S2 H2 → grd gd S2 → J.go i H2
  stops : ∀ S2 H2, Rel K S2 H2 → Keep K S H S2 H2 → grd gd S2 → J.stop xs.length H2
  yields : ∀ i S2 H2 v H3, i < xs.length → Rel K S2 H2 → Keep K S H S2 H2 → grd gd S2 → J.yld i H2 v H3 → ∃ d, xs[i]? = some d ∧ Rel K S2 H3 ∧ Keep K S2 H2 S2 H3 ∧ Rep K S2 H3 d v
abbrev WpI := En → Sto → (List D → Option (Addr × SO) → Sto → Prop) → Px → Prop
def tI (K : PySem.W.Frag) (F : Fr) (w : WpI) : TI := fun σ H Q => ∃ (ς : En) (S : Sto) (R : List D → Option (Addr × SO) → Sto → Prop), Good K ς S σ H ∧ Keep K F.S0 F.H0 S H ∧ w ς S R (fun c S' => F.XE c ς S') ∧
  ∀ xs gd S' H' J, R xs gd S' → Rel K S' H' → Keep K S H S' H' → WalkD K J xs gd S' H' → Q J H'
def WI (X : Cx) (F : Fr) (tg e : Expr) (w : WpI) : Prop := PI X tg e (tI X.K F w)
theorem _root_.L2.PI.imp {X : Cx} {tg e : Expr} {t t' : TI} (h : PI X tg e t) (i : ∀ σ H Q, t' σ H Q → t σ H Q) : PI X tg e t' := ⟨fun pins s σ H Q I q => h.run pins s σ H Q I (i σ H Q q)⟩
section
variable {K : PySem.W.Frag} {S : Sto} {H : Hp} {a b d : Addr} {l m : List D} {l' : List (Key × D)} {o : Obj}
/-- a value that is a list still -/
def LstAt (K : PySem.W.Frag) (gd : Option (Addr × SO)) (S : Sto) (H : Hp) (a : Addr) (l : List D) : Prop := ∀ S2 H2, Rel K S2 H2 → Keep K S H S2 H2 → grd gd S2 → ∃ vs, SqL K H2 a vs ∧ RepL K S2 H2 l vs
def TupAt (K : PySem.W.Frag) (gd : Option (Addr × SO)) (S : Sto) (H : Hp) (a : Addr) (l : List D) : Prop := ∀ S2 H2, Rel K S2 H2 → Keep K S H S2 H2 → grd gd S2 → ∃ vs, SqT K H2 a vs ∧ RepL K S2 H2 l vs
theorem rep_pair {x y : D} {v u : V} {p : Addr} (hp : H p = none) (rx : Rep K S H x v) (ry : Rep K S H y u) : Rep K S (upd H p (.tup [v, u])) (.tup [x, y]) (.ref p) :=
  .tup (.of upd_same) (by show 2 ≤ sizeLine; decide) ((Keep.new hp).l (.cons rx (.cons ry .nil)))
theorem walkd_list {gd} (h : LstAt K gd S H a l) : WalkD K (Itl K a) l gd S H where
  goes := fun i S2 H2 hi r k g => by
    obtain ⟨vs, q, rl⟩ := h S2 H2 r k g
    exact ⟨vs, vs[i]'(by rw [← rl.length]; exact hi), q, List.getElem?_eq_getElem _⟩
  stops := fun S2 H2 r k g => by
    obtain ⟨vs, q, rl⟩ := h S2 H2 r k g
    exact ⟨vs, q, by rw [rl.length]; exact Nat.le_refl _⟩
  yields := fun i S2 H2 v H3 hi r k g y => by
    obtain ⟨vs, q, rl⟩ := h S2 H2 r k g
    obtain ⟨rfl, y⟩ := y
    obtain ⟨x, e, rx⟩ := rl.get' (y vs q)
    exact ⟨x, e, r, .refl, rx⟩
theorem walkd_tup {gd} (h : TupAt K gd S H a l) : WalkD K (Itt K a) l gd S H where
  goes := fun i S2 H2 hi r k g => by
    obtain ⟨vs, q, rl⟩ := h S2 H2 r k g
    exact ⟨vs, vs[i]'(by rw [← rl.length]; exact hi), q, List.getElem?_eq_getElem _⟩
  stops := fun S2 H2 r k g => by
    obtain ⟨vs, q, rl⟩ := h S2 H2 r k g
    exact ⟨vs, q, by rw [rl.length]; exact Nat.le_refl _⟩
  yields := fun i S2 H2 v H3 hi r k g y => by
    obtain ⟨vs, q, rl⟩ := h S2 H2 r k g
    obtain ⟨rfl, y⟩ := y
    obtain ⟨x, e, rx⟩ := rl.get' (y vs q)
    exact ⟨x, e, r, .refl, rx⟩
/-- pairs of the place and the item -/
def enumD : Nat → List D → List D
  | _, [] => []
  | n, x :: xs => .tup [.int (n : Nat), x] :: enumD (n + 1) xs
theorem enumD_length : ∀ (n : Nat) (l : List D), (enumD n l).length = l.length
  | _, [] => rfl
  | n, x :: xs => by simp [enumD, enumD_length (n + 1) xs]
theorem enumD_get : ∀ (n i : Nat) (l : List D), (enumD n l)[i]? = (l[i]?).map fun x => .tup [.int ((n + i : Nat) : Int), x]
  | _, _, [] => by simp [enumD]
  | n, 0, x :: xs => by simp [enumD]
  | n, i + 1, x :: xs => by
    have := enumD_get (n + 1) i xs
    simp only [enumD, List.getElem?_cons_succ, this]
    rw [show n + 1 + i = n + (i + 1) by omega]
theorem walkd_enum {gd} (h : LstAt K gd S H a l) : WalkD K (Ite K a) (enumD 0 l) gd S H where
  goes := fun i S2 H2 hi r k g => by
    obtain ⟨vs, q, rl⟩ := h S2 H2 r k g
    rw [enumD_length] at hi
    exact ⟨vs, vs[i]'(by rw [← rl.length]; exact hi), q, List.getElem?_eq_getElem _⟩
  stops := fun S2 H2 r k g => by
    obtain ⟨vs, q, rl⟩ := h S2 H2 r k g
    rw [enumD_length]
    exact ⟨vs, q, by rw [rl.length]; exact Nat.le_refl _⟩
  yields := fun i S2 H2 v H3 hi r k g y => by
    obtain ⟨vs, q, rl⟩ := h S2 H2 r k g
    obtain ⟨T, x, rfl, hT, rfl, y⟩ := y
    obtain ⟨dx, e, rx⟩ := rl.get' (y vs q)
    refine ⟨.tup [.int (i : Nat), dx], ?_, r.new hT, Keep.new hT, rep_pair hT (.int _) rx⟩
    rw [enumD_get, e]
    simp
def zipD : List D → List D → List D
  | x :: xs, y :: ys => .tup [x, y] :: zipD xs ys
  | _, _ => []
theorem zipD_length : ∀ (l m : List D), (zipD l m).length = min l.length m.length
  | [], _ => by simp [zipD]
  | _ :: _, [] => by simp [zipD]
  | x :: xs, y :: ys => by simp [zipD, zipD_length xs ys, Nat.succ_min_succ]
theorem zipD_get : ∀ (i : Nat) (l m : List D) (x y : D), l[i]? = some x → m[i]? = some y → (zipD l m)[i]? = some (.tup [x, y])
  | _, [], _, _, _, h, _ => by simp at h
  | _, _ :: _, [], _, _, _, h => by simp at h
  | 0, x :: xs, y :: ys, _, _, h, h' => by simp at h h'; simp [zipD, h, h']
  | i + 1, x :: xs, y :: ys, _, _, h, h' => by
    simp only [zipD, List.getElem?_cons_succ] at *
    exact zipD_get i xs ys _ _ h h'
theorem walkd_zip {gd} (h : LstAt K gd S H a l) (h' : LstAt K gd S H b m) : WalkD K (Itz K a b) (zipD l m) gd S H where
  goes := fun i S2 H2 hi r k g => by
    obtain ⟨vs, q, rl⟩ := h S2 H2 r k g
    obtain ⟨us, q', rl'⟩ := h' S2 H2 r k g
    rw [zipD_length] at hi
    have e1 := rl.length
    have e2 := rl'.length
    exact ⟨vs, us, vs[i]'(by omega), us[i]'(by omega), q, q', List.getElem?_eq_getElem _, List.getElem?_eq_getElem _⟩
  stops := fun S2 H2 r k g => by
    obtain ⟨vs, q, rl⟩ := h S2 H2 r k g
    obtain ⟨us, q', rl'⟩ := h' S2 H2 r k g
    rw [zipD_length]
    have e1 := rl.length
    have e2 := rl'.length
    exact ⟨vs, us, q, q', by omega⟩
  yields := fun i S2 H2 v H3 hi r k g y => by
    obtain ⟨vs, q, rl⟩ := h S2 H2 r k g
    obtain ⟨us, q', rl'⟩ := h' S2 H2 r k g
    obtain ⟨T, x, z, rfl, hT, rfl, y, y'⟩ := y
    obtain ⟨dx, e, rx⟩ := rl.get' (y vs q)
    obtain ⟨dy, e', ry⟩ := rl'.get' (y' us q')
    exact ⟨.tup [dx, dy], zipD_get _ _ _ _ _ e e', r.new hT, Keep.new hT, rep_pair hT rx ry⟩
theorem walkd_zipT {gd} (h : TupAt K gd S H a l) (h' : TupAt K gd S H b m) : WalkD K (RZ.ItzT K a b) (zipD l m) gd S H where
  goes := fun i S2 H2 hi r k g => by
    obtain ⟨vs, q, rl⟩ := h S2 H2 r k g
    obtain ⟨us, q', rl'⟩ := h' S2 H2 r k g
    rw [zipD_length] at hi
    have e1 := rl.length
    have e2 := rl'.length
    exact ⟨vs, us, vs[i]'(by omega), us[i]'(by omega), q, q', List.getElem?_eq_getElem _, List.getElem?_eq_getElem _⟩
  stops := fun S2 H2 r k g => by
    obtain ⟨vs, q, rl⟩ := h S2 H2 r k g
    obtain ⟨us, q', rl'⟩ := h' S2 H2 r k g
    rw [zipD_length]
    have e1 := rl.length
    have e2 := rl'.length
    exact ⟨vs, us, q, q', by omega⟩
  yields := fun i S2 H2 v H3 hi r k g y => by
    obtain ⟨vs, q, rl⟩ := h S2 H2 r k g
    obtain ⟨us, q', rl'⟩ := h' S2 H2 r k g
    obtain ⟨T, x, z, rfl, hT, rfl, y, y'⟩ := y
    obtain ⟨dx, e, rx⟩ := rl.get' (y vs q)
    obtain ⟨dy, e', ry⟩ := rl'.get' (y' us q')
    exact ⟨.tup [dx, dy], zipD_get _ _ _ _ _ e e', r.new hT, Keep.new hT, rep_pair hT rx ry⟩
def rngD (lo : Int) : Nat → List D
  | 0 => []
  | n + 1 => .int lo :: rngD (lo + 1) n
theorem rngD_length : ∀ (lo : Int) (n : Nat), (rngD lo n).length = n
  | _, 0 => rfl
  | lo, n + 1 => by simp [rngD, rngD_length (lo + 1) n]
theorem rngD_get : ∀ (lo : Int) (n i : Nat), i < n → (rngD lo n)[i]? = some (.int (lo + i))
  | _, 0, _, h => absurd h (Nat.not_lt_zero _)
  | lo, n + 1, 0, _ => by simp [rngD]
  | lo, n + 1, i + 1, h => by
    simp only [rngD, List.getElem?_cons_succ]
    rw [rngD_get (lo + 1) n i (by omega)]
    congr 2
    omega
theorem walkd_range {lo : Int} {n : Nat} : WalkD K (Itr lo n) (rngD lo n) none S H where
  goes := fun i S2 H2 hi r k g => by rw [rngD_length] at hi; exact hi
  stops := fun S2 H2 r k g => by rw [rngD_length]; exact Nat.le_refl _
  yields := fun i S2 H2 v H3 hi r k g y => by
    rw [rngD_length] at hi
    obtain ⟨rfl, rfl⟩ := y
    exact ⟨_, rngD_get lo n i hi, r, .refl, .int _⟩
def chsD (x : Str) : List D := x.cps.toList.map fun c => .str ⟨#[c]⟩
theorem walkd_str {x : Str} : WalkD K (Its x) (chsD x) none S H where
  goes := fun i S2 H2 hi r k g => by show i < x.cps.size; simpa [chsD] using hi
  stops := fun S2 H2 r k g => by simp [chsD, Its]
  yields := fun i S2 H2 v H3 hi r k g y => by
    obtain ⟨rfl, c, e, rfl⟩ := y
    exact ⟨.str ⟨#[c]⟩, by simp [chsD, e], r, .refl, .str _⟩
def itemsD (l : List (Key × D)) : List D := l.map fun p => .tup [keyD p.1, p.2]
def keysD (l : List (Key × D)) : List D := l.map fun p => keyD p.1
theorem RepK.get' : ∀ {l : List (Key × D)} {vs : List (Key × V)} {i : Nat} {k : Key} {v : V}, RepK K S H l vs → vs[i]? = some (k, v) → ∃ x, l[i]? = some (k, x) ∧ Rep K S H x v
  | _, _, _, _, _, .nil, e => by simp at e
  | _, _, 0, _, _, .cons r _, e => by simp at e; obtain ⟨rfl, rfl⟩ := e; exact ⟨_, rfl, r⟩
  | _, _, i + 1, _, _, .cons _ t, e => by
    obtain ⟨x, h1, h2⟩ := RepK.get' (i := i) t (by simpa using e)
    exact ⟨x, by simpa using h1, h2⟩
/-- a locked dict as it was -/
structure DctAt (K : PySem.W.Frag) (gd : Option (Addr × SO)) (S : Sto) (H : Hp) (d : Addr) (o : Obj) (kvs : List (Key × V)) (l : List (Key × D)) : Prop where
  at_ : H d = some (.frz o (.dK kvs))
  rep : ∀ S2 H2, Rel K S2 H2 → Keep K S H S2 H2 → grd gd S2 → RepK K S2 H2 l kvs
theorem walkd_items {gd} {kvs : List (Key × V)} (h : DctAt K gd S H d o kvs l') : WalkD K (Iti d o kvs) (itemsD l') gd S H where
  goes := fun i S2 H2 hi r k g => ⟨k.z _ _ _ h.at_, by have := (h.rep S2 H2 r k g).length; simp [itemsD] at hi; omega⟩
  stops := fun S2 H2 r k g => ⟨k.z _ _ _ h.at_, by have := (h.rep S2 H2 r k g).length; simp [itemsD]; omega⟩
  yields := fun i S2 H2 v H3 hi r k g y => by
    obtain ⟨T, kk, w, e, rfl, hT, rfl⟩ := y
    obtain ⟨x, e', rx⟩ := (h.rep S2 H2 r k g).get' e
    exact ⟨.tup [keyD kk, x], by simp [itemsD, e'], r.new hT, Keep.new hT, rep_pair hT (keyD_rep kk) rx⟩
theorem walkd_keys {gd} {kvs : List (Key × V)} (h : DctAt K gd S H d o kvs l') : WalkD K (Itk d o kvs) (keysD l') gd S H where
  goes := fun i S2 H2 hi r k g => ⟨k.z _ _ _ h.at_, by have := (h.rep S2 H2 r k g).length; simp [keysD] at hi; omega⟩
  stops := fun S2 H2 r k g => ⟨k.z _ _ _ h.at_, by have := (h.rep S2 H2 r k g).length; simp [keysD]; omega⟩
  yields := fun i S2 H2 v H3 hi r k g y => by
    obtain ⟨rfl, kk, w, e, rfl⟩ := y
    obtain ⟨x, e', rx⟩ := (h.rep S2 H3 r k g).get' e
    exact ⟨keyD kk, by simp [keysD, e'], r, .refl, keyD_rep kk⟩
end
end SB
end

section
set_option Elab.async false
set_option linter.all false
set_option maxRecDepth 100000
set_option autoImplicit false
/-! SB9: the iterables; for; list comprehensions. -/
namespace SB
open PySem PySem.Spec L2

/-- what a value gives when it is walked: its items, and what must stand still -/
def srcOf (S : Sto) (x : D) : Option (List D × Option (Addr × SO)) := match x with
  | .tup l => some (l, none)
  | .lst l => some (l, none)
  | .scr l => some (l, none)
  | .str z => some (chsD z, none)
  | .dct l => some (keysD l, none)
  | .ref a => (match S a with
    | some (.lst l) => some (l, some (a, .lst l))
    | _ => none)
  | _ => none
/-- .. of lists and tuples alone -/
def srcL (S : Sto) (x : D) : Option (Bool × List D × Option (Addr × SO)) := match x with
  | .tup l => some (true, l, none)
  | .lst l => some (false, l, none)
  | .scr l => some (false, l, none)
  | .ref a => (match S a with
    | some (.lst l) => some (false, l, some (a, .lst l))
    | _ => none)
  | _ => none
section
variable {K : PySem.W.Frag} {S : Sto} {H : Hp} {x : D} {v : V} {l : List D} {gd : Option (Addr × SO)}
theorem srcL_rep {b : Bool} (r : Rep K S H x v) (q : Rel K S H) (e : srcL S x = some (b, l, gd)) : ∃ a, v = .ref a ∧ grd gd S ∧ match b with
    | true => (∃ xs, SqT K H a xs) ∧ TupAt K gd S H a l
    | false => (∃ xs, SqL K H a xs) ∧ LstAt K gd S H a l := by
  cases r with
  | tup h n rl => cases e; exact ⟨_, rfl, trivial, ⟨_, h⟩, fun S2 H2 r2 k2 g2 => by
      obtain ⟨a', vs', e', h1, h2, h3⟩ := (k2.r _ _ (.tup h n rl)).tup_inv
      cases e'; exact ⟨vs', h1, h3⟩⟩
  | lst h n z rl => cases e; exact ⟨_, rfl, trivial, ⟨_, .inl (.inl h)⟩, fun S2 H2 r2 k2 g2 => by
      cases k2.r _ _ (.lst h n z rl) with
      | lst h' n' z' rl' => exact ⟨_, .inl (.inl h'), rl'⟩⟩
  | scr h n z rl => cases e; exact ⟨_, rfl, trivial, ⟨_, (.inl h)⟩, fun S2 H2 r2 k2 g2 => by
      cases k2.r _ _ (.scr h n z rl) with
      | scr h' n' z' rl' => exact ⟨_, (.inl h'), rl'⟩
      | scrK h' z' rl' => exact ⟨_, h'.sq, rl'⟩⟩
  | scrK h z rl => cases e; exact ⟨_, rfl, trivial, ⟨_, h.sq⟩, fun S2 H2 r2 k2 g2 => by
      cases k2.r _ _ (.scrK h z rl) with
      | scr h' n' z' rl' => exact ⟨_, (.inl h'), rl'⟩
      | scrK h' z' rl' => exact ⟨_, h'.sq, rl'⟩⟩
  | ref a =>
    unfold srcL at e
    dsimp only at e
    cases h : S a with
    | none => rw [h] at e; cases e
    | some o =>
      rw [h] at e
      cases o with
      | lst l' =>
        cases e
        obtain ⟨z, vs, h1, h2⟩ := q a _ h
        exact ⟨_, rfl, h, ⟨_, .inl (.inl h1)⟩, fun S2 H2 r2 k2 g2 => by
          obtain ⟨z, vs, h1, h2⟩ := r2 a _ g2
          exact ⟨vs, .inl (.inl h1), h2⟩⟩
      | _ => cases e
  | _ => cases e
end

/-- a dict that nobody writes any more is locked for good -/
theorem lock_ok {X : Cx} {pins : List (Addr × Obj)} {σ : St} {H : Hp} {s : Shared} {S : Sto} {d : Addr} {kvs : List (Key × V)} (I : Inv X pins σ H s) (q : Rd H d (.dK kvs)) (hn : S d = none) (r : Rel X.K S H) :
    ∃ od H', Inv X pins σ H' s ∧ H' d = some (.frz od (.dK kvs)) ∧ Rel X.K S H' ∧ Keep X.K S H S H' := by
  rcases q with q | ⟨od, q⟩
  · obtain ⟨od, I'⟩ := I.lock q (u := .dK kvs) trivial
    have ne : ∀ {b : Addr} {o : HO}, H b = some o → o ≠ .dK kvs → b ≠ d := fun {b o} e n z => by rw [z, q] at e; exact n (Option.some.inj e).symm
    have k : Keep X.K S H S (upd H d (.frz od (.dK kvs))) := Lean'.keep
      { tup := fun a vs h => by
          rcases h with (h | ⟨o, h⟩) | h
          · exact .inl (.inl ((upd_ne (ne h (by intro z; cases z))).trans h))
          · exact .inl (.inr ⟨o, (upd_ne (ne h (by intro z; cases z))).trans h⟩)
          · exact .inr h
        lst := fun a vs h n => ⟨(upd_ne (ne h (by intro z; cases z))).trans h, n⟩
        scr := fun a vs h n => ⟨by
          rcases h with h | ⟨o, h⟩
          · exact .inl ((upd_ne (ne h (by intro z; cases z))).trans h)
          · exact .inr ⟨o, (upd_ne (ne h (by intro z; cases z))).trans h⟩, n⟩
        dct := fun a vs h n => ⟨by
          by_cases e : a = d
          · subst e
            rcases h with h | ⟨o, h⟩
            · rw [q] at h; cases h; exact .inr ⟨od, upd_same⟩
            · rw [q] at h; cases h
          · rcases h with h | ⟨o, h⟩
            · exact .inl ((upd_ne e).trans h)
            · exact .inr ⟨o, (upd_ne e).trans h⟩, n⟩
        ins := fun a c dx gs h n => ⟨(upd_ne (ne h (by intro z; cases z))).trans h, n⟩ } fun a o u h => (upd_ne (ne h (by intro z; cases z))).trans h
    exact ⟨od, _, I', upd_same, fun a o e => (r a o e).keep k (upd_ne fun z => by rw [z, hn] at e; cases e), k⟩
  · exact ⟨od, H, I, q, r, .refl⟩
theorem dctAt_of {K : PySem.W.Frag} {S : Sto} {H : Hp} {d : Addr} {od : Obj} {l : List (Key × D)} {kvs : List (Key × V)} (e : H d = some (.frz od (.dK kvs))) (hn : S d = none) (z : l.length ≤ sizeLine) (r : RepK K S H l kvs) : DctAt K none S H d od kvs l :=
  ⟨e, fun S2 H2 r2 k2 _ => by
    have h2 := k2.z _ _ _ e
    cases k2.r _ _ (.dct (.inr ⟨od, e⟩) hn z r) with
    | dct h n z' r' =>
      rcases h with h | ⟨o, h⟩
      · rw [h2] at h; cases h
      · rw [h2] at h; cases h; exact r'⟩
/-! ### the iterables -/
/-- E, whatever it is -/
def wSrc (we : WpE) : WpI := fun ς S R RE => we ς S (fun x S1 => ∃ l gd, srcOf S1 x = some (l, gd) ∧ R l gd S1) RE
section
variable {X : Cx} {F : Fr} {tg e e2 : Expr} {we : WpE} {wa : WpA} {p pos tpos apos cpos : Pos} {elts : List Expr} {kk : Nat}
theorem wi_src (he : WE X F e we) : WI X F tg e (wSrc we) := by
  refine ⟨fun pins s σ H Q I h => ?_⟩
  obtain ⟨ς, S, R, g, k, hw, hR⟩ := h
  refine thn (he.run pins s σ H _ I (tE.mk (Q := fun v H1 => ∃ x S1, Good X.K ς S1 σ H1 ∧ Keep X.K S H S1 H1 ∧ Rep X.K S1 H1 x v ∧ ∃ l gd, srcOf S1 x = some (l, gd) ∧ R l gd S1) g k hw fun x S1 v H1 h1 g1 k1 d1 r1 => ⟨x, S1, g1, d1, r1, h1⟩))
    fun u s1 ⟨v, H1, I1, rv, x, S1, g1, d1, r1, l, gd, e1, h1⟩ => ?_
  have lists : ∀ b, srcL S1 x = some (b, l, gd) → wpAny (model X.prog X.w) X.A (pyIter u) (PIE X pins σ tg Q) X.xe s1 := fun b e => by
    obtain ⟨a, rfl, hg, ha⟩ := srcL_rep r1 g1.rel e
    obtain rfl : u = Value.ref a := rv
    cases b with
    | true =>
      obtain ⟨⟨xs, hq⟩, at_⟩ := ha
      obtain ⟨its, rv, pp, hz⟩ := I1.tuple hq
      refine wpAny_pyIter_tuple (show s1.heap.IsTuple a its.toArray from pp) ?_
      exact pi_one (tk := s1.toks) I1 _ (turn_tuple a _) ⟨_, Heap.get?_push_size _ rfl, rfl, rfl⟩ (hR l gd S1 H1 _ h1 g1.rel d1 (walkd_tup at_))
    | false =>
      obtain ⟨⟨xs, hq⟩, at_⟩ := ha
      obtain ⟨its, rv, pp, hz⟩ := I1.list hq
      refine wpAny_pyIter_list pp.isList ?_
      exact pi_one (tk := s1.toks) I1 _ (turn_list a _) ⟨_, Heap.get?_push_size _ rfl, rfl, rfl⟩ (hR l gd S1 H1 _ h1 g1.rel d1 (walkd_list at_))
  cases x with
  | tup l' => exact lists true (by cases e1; rfl)
  | lst l' => exact lists false (by cases e1; rfl)
  | scr l' => exact lists false (by cases e1; rfl)
  | ref a =>
    unfold srcOf at e1
    dsimp only at e1
    refine lists false ?_
    unfold srcL
    dsimp only
    cases h : S1 a with
    | none => rw [h] at e1; cases e1
    | some o =>
      rw [h] at e1
      cases o with
      | lst l' => cases e1; rfl
      | _ => cases e1
  | str z =>
    cases e1
    cases r1
    obtain ⟨t, rfl⟩ := rv
    have q := hR _ none S1 H1 _ h1 g1.rel d1 (walkd_str (x := z))
    cases ha : z.cps.all (· < 128)
    · exact wpAny_pyIter_wide ha (pi_one (tk := s1.toks) I1 _ (turn_str _ z t "str_iterator" (.inr rfl)) ⟨_, Heap.get?_push_size _ rfl, rfl, rfl⟩ q)
    · exact wpAny_pyIter_ascii ha (pi_one (tk := s1.toks) I1 _ (turn_str _ z t "str_ascii_iterator" (.inl rfl)) ⟨_, Heap.get?_push_size _ rfl, rfl, rfl⟩ q)
  | dct l' =>
    cases e1
    cases r1 with
    | dct h n z rl =>
      obtain rfl : u = Value.ref _ := rv
      obtain ⟨od, H2, I2, h2, r2, k2⟩ := lock_ok I1 h n g1.rel
      obtain ⟨hs, hgd, hx, es, ep, vs, hdt, hsz, kv, hm⟩ := I2.frzK h2
      refine iter_keys hs hgd hx hdt (pi_one (tk := s1.toks) I2 _ (turn_keys _ hdt) ⟨_, Heap.get?_push_size _ rfl, rfl, ?_⟩ (hR _ none S1 H2 _ h1 r2 (d1.trans k2) (walkd_keys (dctAt_of h2 n z (k2.k rl)))))
      rw [hsz] <;> rfl
  | non => cases e1
  | bl _ => cases e1
  | int _ => cases e1
  | ins _ _ => cases e1
  | exc _ => cases e1
/-- E.items() -/
def wItems (we : WpE) : WpI := fun ς S R RE => we ς S (fun x S1 => ∃ l, x = .dct l ∧ R (itemsD l) none S1) RE
theorem wi_items (he : WE X F e we) (hb : baseOk e = true) (hline : (apos.endLine == cpos.line) = true) : WI X F (.Tuple elts kk tpos) (.Call (.Attribute e "items" apos) [] [] cpos) (wItems we) := by
  refine ⟨fun pins s σ H Q I h => ?_⟩
  obtain ⟨ς, S, R, g, k, hw, hR⟩ := h
  refine wpAny_Call_method (T := "dict") (id := "dict.items") (attrBase hb) rfl hline PySem.F.plainAttrs_dict PySem.F.slot_dict_items PySem.F.type_dict_items
    (thn (he.run pins s σ H _ I (tE.mk (Q := fun v H1 => ∃ l S1, Rel X.K S1 H1 ∧ Keep X.K S H S1 H1 ∧ Rep X.K S1 H1 (.dct l) v ∧ R (itemsD l) none S1) g k hw fun x S1 v H1 h1 g1 k1 d1 r1 => by
      obtain ⟨l, rfl, h1⟩ := h1
      exact ⟨l, S1, g1.rel, d1, r1, h1⟩)) fun u s1 ⟨v, H0, I0, rv, l, S1, g1, d1, r1, h1⟩ => ?_)
  cases r1 with
  | dct h n z rl =>
    rename_i d kvs
    obtain rfl : u = Value.ref d := rv
    obtain ⟨od, H1, I1, hd, r2, k2⟩ := lock_ok I0 h n g1
    obtain ⟨hs, hgd, hx, es, ep, vs, hdt, hsz, kv, hm⟩ := I1.frzK hd
    have hl : kvs.length = vs.length := Paired.length kv
    refine ⟨hm.dictOf.typeIs, hm.dictOf.mapOf.noDict, ?_⟩
    have I2 : Inv X pins σ H1 { s1 with heap := s1.heap.push { cls := .type "dict_items", data := .fields #[.ref d] } } := I1.kept (t' := s1.toks) fun b ob q => Heap.get?_push_of_some _ q
    have fin : wpAny (model X.prog X.w) X.A (pyIter (.ref s1.heap.objs.size)) (PIE X pins σ (.Tuple elts kk tpos) Q) X.xe { s1 with heap := s1.heap.push { cls := .type "dict_items", data := .fields #[.ref d] } } := by
      refine wpAny_pyIter_items (d := d) (knd := mixKind X.prog X.w) ⟨_, Heap.get?_push_size _ rfl, rfl, rfl⟩ (hm.push _) (pi_one (tk := s1.toks) I2 _ (turn_items _ hdt) ⟨.none, .none, ?_⟩ (hR _ none S1 H1 _ h1 r2 (d1.trans k2) (walkd_items (dctAt_of hd n z (k2.k rl)))))
      rw [hl]
      exact Heap.get?_push_size _ rfl
    show wpAny _ _ (callWith cpos (.builtin "dict.items") [.ref d] [] []) _ X.xe s1
    exact method_meetsIn PySem.F.slot_dict_items PySem.F.entry_dict_items rfl (PySem.evalArgs_none ⟨rfl, hm.dictOf.typeIs, PySem.F.args_dict_items_1 _, _, meets_dict_items (mixKind X.prog X.w) d hs, ⟨vs, hm.dictOf⟩, fin⟩)
/-- range(n), range(i, j) -/
def wRange (wa : WpA) : WpI := fun ς S R RE => wa ς S (fun xs S1 => match xs with
  | [.int j] => -(2 ^ 62) ≤ j ∧ j < 2 ^ 62 ∧ R (rngD 0 j.toNat) none S1
  | _ => False) RE
def wRange2 (wa : WpA) : WpI := fun ς S R RE => wa ς S (fun xs S1 => match xs with
  | [.int i, .int j] => -(2 ^ 62) ≤ i ∧ i < 2 ^ 62 ∧ -(2 ^ 62) ≤ j ∧ j < 2 ^ 62 ∧ R (rngD i (j - i).toNat) none S1
  | _ => False) RE
theorem wi_range1 (hg : Gl X "range") (hm : X.mg "range" = none) (ha : WA X F [e] wa) (hs : noStar e = true) : WI X F tg (.Call (.Name "range" p) [e] [] pos) (wRange wa) :=
  (pi_range1 hg hm ha (starEach_cons (es := []) hs)).imp fun σ H Q ⟨ς, S, R, g, k, hw, hR⟩ => by
    refine tA.mk g k hw fun xs S1 vs H1 h1 g1 k1 d1 r1 => ?_
    split at h1
    · cases r1 with
      | cons r t =>
        cases t; cases r
        exact ⟨_, rfl, h1.1, h1.2.1, hR _ none S1 H1 _ h1.2.2 g1.rel d1 walkd_range⟩
    · exact h1.elim
theorem wi_range2 (hg : Gl X "range") (hm : X.mg "range" = none) (ha : WA X F [e, e2] wa) (hs : noStar e = true) (hs2 : noStar e2 = true) : WI X F tg (.Call (.Name "range" p) [e, e2] [] pos) (wRange2 wa) :=
  (pi_range2 hg hm ha (by rw [starEach_cons hs, starEach_cons hs2]; rfl) (starEach_cons (es := []) hs2)).imp fun σ H Q ⟨ς, S, R, g, k, hw, hR⟩ => by
    refine tA.mk g k hw fun xs S1 vs H1 h1 g1 k1 d1 r1 => ?_
    split at h1
    · cases r1 with
      | cons r t =>
        cases t with
        | cons r' t =>
          cases t; cases r; cases r'
          exact ⟨_, _, rfl, ⟨h1.1, h1.2.1, h1.2.2.1, h1.2.2.2.1⟩, hR _ none S1 H1 _ h1.2.2.2.2 g1.rel d1 walkd_range⟩
    · exact h1.elim
/-- enumerate(list) -/
def wEnum (wa : WpA) : WpI := fun ς S R RE => wa ς S (fun xs S1 => ∃ x l gd, xs = [x] ∧ srcL S1 x = some (false, l, gd) ∧ R (enumD 0 l) gd S1) RE
theorem wi_enum (hg : Gl X "enumerate") (hm : X.mg "enumerate" = none) (ha : WA X F [e] wa) (hs : noStar e = true) : WI X F (.Tuple elts kk tpos) (.Call (.Name "enumerate" p) [e] [] pos) (wEnum wa) :=
  (pi_enum hg hm ha (starEach_cons (es := []) hs)).imp fun σ H Q ⟨ς, S, R, g, k, hw, hR⟩ => by
    refine tA.mk g k hw fun xs S1 vs H1 h1 g1 k1 d1 r1 => ?_
    obtain ⟨x, l, gd, rfl, e1, h1⟩ := h1
    obtain ⟨v, rfl, r⟩ := r1.one
    obtain ⟨a, rfl, hg, ⟨xs, hq⟩, at_⟩ := srcL_rep r g1.rel e1
    exact ⟨a, xs, rfl, hq, hR _ gd S1 H1 _ h1 g1.rel d1 (walkd_enum at_)⟩
/-- zip(a, b), both lists, or both tuples; at most one of them one's own -/
def wZip (wa : WpA) : WpI := fun ς S R RE => wa ς S (fun xs S1 => ∃ x y b l m gx gy, xs = [x, y] ∧ srcL S1 x = some (b, l, gx) ∧ srcL S1 y = some (b, m, gy) ∧ (gx = none ∨ gy = none) ∧ R (zipD l m) (gx.or gy) S1) RE
theorem LstAt.or1 {K : PySem.W.Frag} {gx gy : Option (Addr × SO)} {S : Sto} {H : Hp} {a : Addr} {l : List D} (h : LstAt K gx S H a l) (o : gx = none ∨ gy = none) : LstAt K (gx.or gy) S H a l := fun S2 H2 r k g => h S2 H2 r k (by
  cases gx with
  | none => trivial
  | some _ => exact g)
theorem LstAt.or2 {K : PySem.W.Frag} {gx gy : Option (Addr × SO)} {S : Sto} {H : Hp} {a : Addr} {l : List D} (h : LstAt K gy S H a l) (o : gx = none ∨ gy = none) : LstAt K (gx.or gy) S H a l := fun S2 H2 r k g => h S2 H2 r k (by
  cases gx with
  | none => exact g
  | some _ =>
    cases gy with
    | none => trivial
    | some _ => rcases o with o | o <;> cases o)
theorem TupAt.or1 {K : PySem.W.Frag} {gx gy : Option (Addr × SO)} {S : Sto} {H : Hp} {a : Addr} {l : List D} (h : TupAt K gx S H a l) (o : gx = none ∨ gy = none) : TupAt K (gx.or gy) S H a l := fun S2 H2 r k g => h S2 H2 r k (by
  cases gx with
  | none => trivial
  | some _ => exact g)
theorem TupAt.or2 {K : PySem.W.Frag} {gx gy : Option (Addr × SO)} {S : Sto} {H : Hp} {a : Addr} {l : List D} (h : TupAt K gy S H a l) (o : gx = none ∨ gy = none) : TupAt K (gx.or gy) S H a l := fun S2 H2 r k g => h S2 H2 r k (by
  cases gx with
  | none => exact g
  | some _ =>
    cases gy with
    | none => trivial
    | some _ => rcases o with o | o <;> cases o)
theorem wi_zip (hg : Gl X "zip") (hm : X.mg "zip" = none) (ha : WA X F [e, e2] wa) (hs : noStar e = true) (hs2 : noStar e2 = true) : WI X F (.Tuple elts kk tpos) (.Call (.Name "zip" p) [e, e2] [] pos) (wZip wa) :=
  (RZ.pi_zipA hg hm ha (starEach_cons hs) (by rw [starEach_cons hs2]; rfl)).imp fun σ H Q ⟨ς, S, R, g, k, hw, hR⟩ => by
    refine tA.mk g k hw fun xs S1 vs H1 h1 g1 k1 d1 r1 => ?_
    obtain ⟨x, y, b, l, m, gx, gy, rfl, e1, e2, o, h1⟩ := h1
    obtain ⟨v, u, rfl, r, r'⟩ := r1.two
    obtain ⟨a, rfl, hg, at1⟩ := srcL_rep r g1.rel e1
    obtain ⟨a', rfl, hg', at2⟩ := srcL_rep r' g1.rel e2
    cases b with
    | true =>
      obtain ⟨⟨xs, hq⟩, at1⟩ := at1
      obtain ⟨⟨ys, hq'⟩, at2⟩ := at2
      exact ⟨a, a', xs, ys, rfl, .inr ⟨hq, hq', hR _ _ S1 H1 _ h1 g1.rel d1 (walkd_zipT (at1.or1 o) (at2.or2 o))⟩⟩
    | false =>
      obtain ⟨⟨xs, hq⟩, at1⟩ := at1
      obtain ⟨⟨ys, hq'⟩, at2⟩ := at2
      exact ⟨a, a', xs, ys, rfl, .inl ⟨hq, hq', hR _ _ S1 H1 _ h1 g1.rel d1 (walkd_zip (at1.or1 o) (at2.or2 o))⟩⟩
end
end SB
end

section
set_option Elab.async false
set_option linter.all false
set_option maxRecDepth 100000
set_option autoImplicit false
/-! SB10: statements' judgement; for; list comprehensions. -/
namespace SB
open PySem PySem.Spec L2

structure ES where
  nx : En → Sto → Prop
  rt : D → Sto → Prop
  bk : En → Sto → Prop := fun _ _ => False
  ct : En → Sto → Prop := fun _ _ => False
abbrev PxE := String → En → Sto → Prop
abbrev WpS := En → Sto → ES → PxE → Prop
structure EOk (K : PySem.W.Frag) (S : Sto) (H : Hp) (E : ES) (D : Ends) : Prop where
  nx : ∀ ς' S' σ' H', E.nx ς' S' → Good K ς' S' σ' H' → Keep K S H S' H' → D.nx σ' H'
  rt : ∀ x S' v H', E.rt x S' → Rel K S' H' → Keep K S H S' H' → Rep K S' H' x v → D.rt v H'
  bk : ∀ ς' S' σ' H', E.bk ς' S' → Good K ς' S' σ' H' → Keep K S H S' H' → D.bk σ' H'
  ct : ∀ ς' S' σ' H', E.ct ς' S' → Good K ς' S' σ' H' → Keep K S H S' H' → D.ct σ' H'
theorem EOk.from {K : PySem.W.Frag} {S S1 : Sto} {H H1 : Hp} {E : ES} {D : Ends} (e : EOk K S H E D) (k : Keep K S H S1 H1) : EOk K S1 H1 E D :=
  ⟨fun _ _ _ _ q g k' => e.nx _ _ _ _ q g (k.trans k'), fun _ _ _ _ q g k' r => e.rt _ _ _ _ q g (k.trans k') r, fun _ _ _ _ q g k' => e.bk _ _ _ _ q g (k.trans k'), fun _ _ _ _ q g k' => e.ct _ _ _ _ q g (k.trans k')⟩
def tS (K : PySem.W.Frag) (F : Fr) (w : WpS) : TS := fun D σ H => ∃ (ς : En) (S : Sto) (E : ES), Good K ς S σ H ∧ Keep K F.S0 F.H0 S H ∧ w ς S E F.XE ∧ EOk K S H E D
def WS (X : Cx) (F : Fr) (st : Stmt) (w : WpS) : Prop := PS X st (tS X.K F w)
def WSs (X : Cx) (F : Fr) (sts : List Stmt) (w : WpS) : Prop := PSs X sts (tS X.K F w)
theorem tS.step {K : PySem.W.Frag} {F : Fr} {w : WpS} {t : TS} (h : ∀ (ς : En) (S : Sto) (E : ES) (D : Ends) (σ : St) (H : Hp), Good K ς S σ H → Keep K F.S0 F.H0 S H → w ς S E F.XE → EOk K S H E D → t D σ H) : ∀ D σ H, tS K F w D σ H → t D σ H :=
  fun D σ H ⟨ς, S, E, g, k, hw, e⟩ => h ς S E D σ H g k hw e
theorem tI.mk {K : PySem.W.Frag} {F : Fr} {w : WpI} {ς : En} {S : Sto} {R : List D → Option (Addr × SO) → Sto → Prop} {σ : St} {H : Hp} {Q : It → Hp → Prop} (g : Good K ς S σ H) (k : Keep K F.S0 F.H0 S H) (hw : w ς S R (fun c S' => F.XE c ς S'))
    (hR : ∀ xs gd S' H' J, R xs gd S' → Good K ς S' σ H' → Keep K F.S0 F.H0 S' H' → Keep K S H S' H' → WalkD K J xs gd S' H' → Q J H') : tI K F w σ H Q :=
  ⟨ς, S, R, g, k, hw, fun xs gd S' H' J q r k' p => hR xs gd S' H' J q (g.keep r k') (k.trans k') k' p⟩

/-! ### for -/
def forL (gd : Option (Addr × SO)) (t : Tg) (tb : WpS) : List D → En → Sto → ES → PxE → Prop
  | [], ς, S, E, _ => grd gd S ∧ E.nx ς S
  | x :: xs, ς, S, E, XE => grd gd S ∧ ∃ ς1, t.bind x ς = some ς1 ∧ tb ς1 S { E with nx := fun ς' S' => forL gd t tb xs ς' S' E XE, ct := fun ς' S' => forL gd t tb xs ς' S' E XE, bk := E.nx } XE
def wFor (wi : WpI) (t : Tg) (tb : WpS) : WpS := fun ς S E XE => wi ς S (fun xs gd S1 => forL gd t tb xs ς S1 E XE) (fun c S' => XE c ς S')
theorem forL_grd {gd : Option (Addr × SO)} {t : Tg} {tb : WpS} {xs : List D} {ς : En} {S : Sto} {E : ES} {XE : PxE} (h : forL gd t tb xs ς S E XE) : grd gd S := by
  cases xs with
  | nil => exact h.1
  | cons _ _ => exact h.1
theorem ws_for {X : Cx} {F : Fr} {tg iter : Expr} {body : List Stmt} {wi : WpI} {t : Tg} {tb : WpS} {pos : Pos} (hp : PassesOwn (model X.prog X.w) X.A X.env X.xe) (hc : X.calm = true) (hi : WI X F tg iter wi) (hg : WG X tg t) (hb : WSs X F body tb)
    (hs : ∀ x, foldedSetIterable iter X.env x = pure x) : WS X F (.For tg iter body [] pos) (wFor wi t tb) :=
  (ps_for hp hc hi hg hb hs).imp (tS.step fun ς S E D σ H g k hw eo => by
    refine tI.mk g k hw fun xs gd S1 H1 J h1 g1 k1 d1 wd => ?_
    refine ⟨fun i m σ' H' => m = xs.length - i ∧ i ≤ xs.length ∧ ∃ ς' S', Good X.K ς' S' σ' H' ∧ Keep X.K S1 H1 S' H' ∧ forL gd t tb (xs.drop i) ς' S' E F.XE,
      ⟨xs.length, by simp, Nat.zero_le _, ς, S1, g1, .refl, h1⟩, ?_⟩
    rintro i m σ' H' ⟨rfl, hi, ς', S', g', k', hf⟩
    by_cases hlt : i < xs.length
    · rw [List.drop_eq_getElem_cons hlt] at hf
      obtain ⟨hgd, ς1, hbd, htb⟩ := hf
      refine .inr ⟨wd.goes i S' H' hlt g'.rel k' hgd, fun σ2 H2 => ∃ ς2 S2, Good X.K ς2 S2 σ2 H2 ∧ Keep X.K S1 H1 S2 H2 ∧ forL gd t tb (xs.drop (i + 1)) ς2 S2 E F.XE, fun σ2 H2 ⟨ς2, S2, a, b, c⟩ => ⟨xs.length - (i + 1), by omega, rfl, hlt, ς2, S2, a, b, c⟩, ?_⟩
      intro v H3 y
      obtain ⟨d, e, r3, k3, rd⟩ := wd.yields i S' H' v H3 hlt g'.rel k' hgd y
      rw [List.getElem?_eq_getElem hlt] at e
      cases e
      have g3 := g'.keep r3 k3
      obtain ⟨σ2, h2, g2, _⟩ := Tg.bind_ok hbd g3 rd
      refine h2 _ ⟨ς1, S', _, g2, (k1.trans k').trans k3, htb, ?_⟩
      exact ⟨fun ς4 S4 σ4 H4 q g4 k4 => ⟨ς4, S4, g4, (k'.trans k3).trans k4, q⟩, fun x S4 v4 H4 q r4 k4 p4 => eo.rt _ _ _ _ q r4 (((d1.trans k').trans k3).trans k4) p4,
        fun ς4 S4 σ4 H4 q g4 k4 => eo.nx _ _ _ _ q g4 (((d1.trans k').trans k3).trans k4), fun ς4 S4 σ4 H4 q g4 k4 => ⟨ς4, S4, g4, (k'.trans k3).trans k4, q⟩⟩
    · obtain rfl : i = xs.length := by omega
      rw [List.drop_length] at hf
      exact .inl ⟨wd.stops S' H' g'.rel k' hf.1, eo.nx _ _ _ _ hf.2 g' (d1.trans k')⟩)

/-! ### list comprehensions -/
def Fr.calm (F : Fr) : Fr := { F with XE := fun _ _ _ => False }
/-- the items: p the new list -/
def lcL (gd : Option (Addr × SO)) (t : Tg) (wt : WpT) (we : WpE) (p : Addr) (ς : En) : List D → List D → Sto → (List D → Sto → Prop) → Prop
  | [], acc, S, R => grd gd S ∧ S p = some (.lst acc) ∧ R acc S
  | x :: xs, acc, S, R => grd gd S ∧ ∃ ς1, t.bind x ς = some ς1 ∧ wt ς1 S (fun b S1 => if b = true then we ς1 S1 (fun y S2 => S2 p = some (.lst acc) ∧ acc.length + 1 ≤ sizeLine ∧ lcL gd t wt we p ς xs (acc ++ [y]) (S2.set p (.lst (acc ++ [y]))) R) (fun _ _ => False)
      else lcL gd t wt we p ς xs acc S1 R) (fun _ _ => False)
def lcEnd (own : Bool) (p : Addr) (R : Pd) (acc : List D) (S : Sto) : Prop := match own with
  | true => R (.ref p) S
  | false => R (.lst acc) (S.del p)
def wLc (own : Bool) (wi : WpI) (t : Tg) (wt : WpT) (we : WpE) (vs : List Nat) : WpE := fun ς S R RE => wi ς S (fun xs gd S1 => ∀ p, S1 p = none → lcL gd t wt we p (wipeE ς vs) xs [] (S1.set p (.lst [])) (lcEnd own p R)) RE
def wYes : WpT := fun _ S R _ => R true S
def WTs (X : Cx) (F : Fr) (ifs : List Expr) (w : WpT) : Prop := PTs X ifs (tT X.K F w)
section
variable {X : Cx} {F : Fr}
theorem wts_nil : WTs X F [] wYes := ⟨fun pins s σ H Q I ⟨ς, S, R, g, k, hw, hR⟩ => pts_nil.run pins s σ H Q I (hR true S H hw g.rel .refl)⟩
theorem wts_one {c : Expr} {w : WpT} (h : WT X F c w) : WTs X F [c] w := pts_one h
theorem lc_ok {own : Bool} {wi : WpI} {t : Tg} {wt : WpT} {we : WpE} {vs : List Nat} (hv : ∀ i ∈ t.ixs, i ∈ vs) {ς : En} {S : Sto} {R : Pd} {σ : St} {H : Hp} {Q : VK} (g : Good X.K ς S σ H) (k : Keep X.K F.S0 F.H0 S H) (hw : wLc own wi t wt we vs ς S R (fun c S' => F.XE c ς S'))
    (hR : ∀ x S' v H', R x S' → Rel X.K S' H' → Keep X.K S H S' H' → Rep X.K S' H' x v → Q v H') : tLc (tI X.K F wi) (t.of X.K) (tT X.K F.calm wt) (tE X.K F.calm we) vs σ H Q := by
  refine tI.mk g k hw fun xs gd S1 H1 J h1 g1 k1 d1 wd => ?_
  intro p hp
  have sp := g1.rel.fresh hp
  have h1 := h1 p sp
  have R0 : Rel X.K (S1.set p (.lst [])) (upd H1 p (.lst [])) := g1.rel.own hp ⟨by show 0 ≤ sizeLine; omega, [], upd_same, .nil⟩
  have K0 : Keep X.K S1 H1 (S1.set p (.lst [])) (upd H1 p (.lst [])) := Keep.own hp
  refine ⟨fun i m H' => m = xs.length - i ∧ i ≤ xs.length ∧ ∃ S' acc, Rel X.K S' H' ∧ Keep X.K S1 H1 S' H' ∧ lcL gd t wt we p (wipeE ς vs) (xs.drop i) acc S' (lcEnd own p R),
    ⟨xs.length, by simp, Nat.zero_le _, _, [], R0, K0, h1⟩, ?_⟩
  rintro i m H' ⟨rfl, hi, S', acc, r', k', hf⟩
  by_cases hlt : i < xs.length
  · rw [List.drop_eq_getElem_cons hlt] at hf
    obtain ⟨hgd, ς1, hbd, htb⟩ := hf
    refine .inr ⟨wd.goes i S' H' hlt r' k' hgd, fun H2 => ∃ S2 acc2, Rel X.K S2 H2 ∧ Keep X.K S1 H1 S2 H2 ∧ lcL gd t wt we p (wipeE ς vs) (xs.drop (i + 1)) acc2 S2 (lcEnd own p R), fun H2 ⟨S2, acc2, a, b, c⟩ => ⟨xs.length - (i + 1), by omega, rfl, hlt, S2, acc2, a, b, c⟩, ?_⟩
    intro v H3 y
    obtain ⟨d, e, r3, k3, rd⟩ := wd.yields i S' H' v H3 hlt r' k' hgd y
    rw [List.getElem?_eq_getElem hlt] at e
    cases e
    have g3 : Good X.K (wipeE ς vs) S' (wipe σ vs) H3 := ((g1.keep r' k').keep r3 k3).wipe vs
    obtain ⟨σ2, h2, g2, hwp⟩ := Tg.bind_ok hbd g3 rd
    have ww : wipe (wipe σ vs) vs = wipe σ vs → wipe σ2 vs = wipe σ vs := fun e => (hwp vs hv).trans e
    have idem : wipe (wipe σ vs) vs = wipe σ vs := by
      have gen : ∀ us : List Nat, (∀ i ∈ us, i ∈ vs) → wipe (wipe σ us) vs = wipe σ vs := fun us => by
        induction us with
        | nil => intro _; rfl
        | cons u us ih =>
          intro h
          show wipe ((wipe σ us).set u none) vs = _
          rw [wipe_set, if_pos (h u List.mem_cons_self), ih fun i hi => h i (List.mem_cons_of_mem _ hi)]
      exact gen vs fun _ h => h
    refine h2 _ ⟨ww idem, tT.mk (F := F.calm) g2 ((k1.trans k').trans k3) htb fun b S4 H4 h4 g4 k4 d4 => ?_⟩
    split at h4
    · rename_i hb
      rw [if_pos hb]
      refine tE.mk (F := F.calm) g4 k4 h4 fun y S5 u H5 h5 g5 k5 d5 r5 => ?_
      obtain ⟨s5, z5, h5⟩ := h5
      obtain ⟨z, us, e5, ra⟩ := g5.rel p _ s5
      refine ⟨us, e5, by rw [← ra.length]; omega, S5.set p (.lst (acc ++ [y])), acc ++ [y], ?_, ?_, h5⟩
      · exact g5.rel.put s5 ⟨by simp; omega, us ++ [u], upd_same, (Keep.putR g5.rel s5).l (ra.append (.cons r5 .nil))⟩
      · exact (((k'.trans k3).trans d4).trans d5).trans (Keep.putR g5.rel s5)
    · rename_i hb
      rw [if_neg hb]
      exact ⟨S4, acc, g4.rel, (k'.trans k3).trans d4, h4⟩
  · obtain rfl : i = xs.length := by omega
    rw [List.drop_length] at hf
    obtain ⟨hgd, sp', hE⟩ := hf
    refine .inl ⟨wd.stops S' H' r' k' hgd, ?_⟩
    cases own with
    | true => exact hR _ S' _ H' hE r' (d1.trans k') (.ref p)
    | false =>
      obtain ⟨z, us, e5, ra⟩ := r' p _ sp'
      have hd' : ∀ b, (S'.del p) b = S' b ∨ (S'.del p) b = none := fun b => by
        by_cases e : b = p
        · subst e; exact .inr Sto.del_same
        · rw [Sto.del_ne e]; exact .inl rfl
      have LK := Keep.left (K := X.K) (H := H') hd'
      exact hR _ (S'.del p) _ H' hE (r'.left hd') ((d1.trans k').trans LK) (.lst e5 Sto.del_same z (LK.l ra))
variable {elt tg iter : Expr} {ifs : List Expr} {scope : Scope} {own : List (Str × Nat)} {pos spos py : Pos} {wi : WpI} {t : Tg} {wt : WpT} {we : WpE} {fr : Bool}
theorem we_lc (hc : X.calm = true) (hN : X.N.Nodup) (hi : WI X F tg iter wi) (ok : BlkOk X.N X.env.scope scope own) (hv : ∀ i ∈ t.ixs, i ∈ own.map (·.2))
    (hg : ∀ (s : Shared) (H : Hp) (C : Addr) (cl : List (Str × Addr)) (fp : List Addr), WG (X.blk s H scope (compEnvC scope cl C X.env) fp) tg t)
    (ht : ∀ (s : Shared) (H : Hp) (C : Addr) (cl : List (Str × Addr)) (fp : List Addr), WTs (X.blk s H scope (compEnvC scope cl C X.env) fp) F.calm ifs wt)
    (he : ∀ (s : Shared) (H : Hp) (C : Addr) (cl : List (Str × Addr)) (fp : List Addr), WE (X.blk s H scope (compEnvC scope cl C X.env) fp) F.calm elt we) (hs : ∀ x, foldedSetIterable iter X.env x = pure x) :
    WE X F (.ListComp elt [⟨tg, iter, ifs, 0⟩] scope pos) (wLc fr wi t wt we (own.map (·.2))) :=
  (pe_lc (g := t.of X.K) (tt := tT X.K F.calm wt) (te := tE X.K F.calm we) hc hN hi ok (fun s H C cl fp => hg s H C cl fp) (fun s H C cl fp => ht s H C cl fp) (fun s H C cl fp => he s H C cl fp) hs).imp fun σ H Q ⟨ς, S, R, g, k, hw, hR⟩ => lc_ok hv g k hw hR
/-- a statement name = value, from its expression's reading -/
def wSet (i : Nat) (we : WpE) : WpS := fun ς S E XE => we ς S (fun x S1 => E.nx (ς.set i (some x)) S1) (fun c S' => XE c ς S')
theorem set_ok {i : Nat} {te : TE} (h : ∀ (ς : En) (S : Sto) (R : Pd) (σ : St) (H : Hp) (Q : VK), Good X.K ς S σ H → Keep X.K F.S0 F.H0 S H → we ς S R (fun c S' => F.XE c ς S') → (∀ x S' v H', R x S' → Rel X.K S' H' → Keep X.K S H S' H' → Rep X.K S' H' x v → Q v H') → te σ H Q) :
    ∀ D σ H, tS X.K F (wSet i we) D σ H → tAsg te (gName i) D σ H := tS.step fun ς S E D σ H g k hw eo => by
  exact h ς S _ σ H _ g k hw fun x S' v H' q r k' p => eo.nx _ _ _ _ q ((g.keep r k').set p) k'
theorem ws_setLc {i : Nat} {y : Str} (hc : X.calm = true) (hN : X.N.Nodup) (hy : X.N[i]? = some y) (hyl : X.env.scope.names.lookup y = some .local)
    (hsw : swapsWith (.ListComp elt [⟨tg, iter, ifs, 0⟩] scope pos) (some (.Name y py)) spos.line X.env = pure true) (hi : WI X F tg iter wi) (ok : BlkOk X.N X.env.scope scope own) (hv : ∀ i ∈ t.ixs, i ∈ own.map (·.2))
    (hg : ∀ (s : Shared) (H : Hp) (C : Addr) (cl : List (Str × Addr)) (fp : List Addr), WG (X.blk s H scope (compEnvC scope cl C X.env) fp) tg t)
    (ht : ∀ (s : Shared) (H : Hp) (C : Addr) (cl : List (Str × Addr)) (fp : List Addr), WTs (X.blk s H scope (compEnvC scope cl C X.env) fp) F.calm ifs wt)
    (he : ∀ (s : Shared) (H : Hp) (C : Addr) (cl : List (Str × Addr)) (fp : List Addr), WE (X.blk s H scope (compEnvC scope cl C X.env) fp) F.calm elt we) (hs : ∀ x, foldedSetIterable iter X.env x = pure x) :
    WS X F (.Assign [.Name y py] (.ListComp elt [⟨tg, iter, ifs, 0⟩] scope pos) spos) (wSet i (wLc fr wi t wt we (own.map (·.2)))) :=
  (ps_setLc (g := t.of X.K) (tt := tT X.K F.calm wt) (te := tE X.K F.calm we) hc hN hy hyl hsw hi ok (fun s H C cl fp => hg s H C cl fp) (fun s H C cl fp => ht s H C cl fp) (fun s H C cl fp => he s H C cl fp) hs).imp (set_ok fun ς S R σ H Q g k hw hR => lc_ok hv g k hw hR)
end
end SB
end

section
set_option Elab.async false
set_option linter.all false
set_option maxRecDepth 100000
set_option autoImplicit false
/-! SB11: statements; a def's body. -/
namespace SB
open PySem PySem.Spec L2

def wNx : WpS := fun ς S E _ => E.nx ς S
def wSeq (a b : WpS) : WpS := fun ς S E XE => a ς S { E with nx := fun ς' S' => b ς' S' E XE } XE
def wExpr (we : WpE) : WpS := fun ς S E XE => we ς S (fun _ S1 => E.nx ς S1) (fun c S' => XE c ς S')
def wRet (we : WpE) : WpS := fun ς S E XE => we ς S (fun x S1 => E.rt x S1) (fun c S' => XE c ς S')
def wRetN : WpS := fun ς S E _ => E.rt .non S
def wIf (wt : WpT) (wa wb : WpS) : WpS := fun ς S E XE => wt ς S (fun b S1 => if b = true then wa ς S1 E XE else wb ς S1 E XE) (fun c S' => XE c ς S')
def wAsg (t : Tg) (we : WpE) : WpS := fun ς S E XE => we ς S (fun x S1 => ∃ ς', t.bind x ς = some ς' ∧ E.nx ς' S1) (fun c S' => XE c ς S')
def wBrk : WpS := fun ς S E _ => E.bk ς S
def wCnt : WpS := fun ς S E _ => E.ct ς S
section
variable {X : Cx} {F : Fr} {st : Stmt} {rest : List Stmt} {w u : WpS} {e : Expr} {we : WpE} {pos pos' : Pos}
theorem wss_nil : WSs X F [] wNx := pss_nil.imp fun D σ H ⟨ς, S, E, g, k, hw, eo⟩ => eo.nx _ _ _ _ hw g .refl
theorem wss_one (h : WS X F st w) : WSs X F [st] w := pss_one h
theorem wss_cons (h : WS X F st w) (hr : WSs X F rest u) : WSs X F (st :: rest) (wSeq w u) :=
  (pss_cons h hr).imp fun D σ H ⟨ς, S, E, g, k, hw, eo⟩ => ⟨ς, S, _, g, k, hw, ⟨fun ς' S' σ' H' q g' k' => ⟨ς', S', E, g', k.trans k', q, eo.from k'⟩, eo.rt, eo.bk, eo.ct⟩⟩
theorem ws_pass : WS X F (.Pass pos) wNx := ps_pass.imp fun D σ H ⟨ς, S, E, g, k, hw, eo⟩ => eo.nx _ _ _ _ hw g .refl
theorem ws_brk : WS X F (.Break pos) wBrk := ps_break.imp fun D σ H ⟨ς, S, E, g, k, hw, eo⟩ => eo.bk _ _ _ _ hw g .refl
theorem ws_cnt : WS X F (.Continue pos) wCnt := ps_continue.imp fun D σ H ⟨ς, S, E, g, k, hw, eo⟩ => eo.ct _ _ _ _ hw g .refl
theorem ws_doc {x j} : WS X F (.Expr (.Constant (.str x) j pos) pos') wNx := ps_doc.imp fun D σ H ⟨ς, S, E, g, k, hw, eo⟩ => eo.nx _ _ _ _ hw g .refl
theorem ws_expr (he : WE X F e we) (hs : swapsWith e none pos.line X.env = pure false) : WS X F (.Expr e pos) (wExpr we) :=
  (ps_expr he hs).imp fun D σ H ⟨ς, S, E, g, k, hw, eo⟩ => tE.mk g k hw fun x S' v H' q g' _ d _ => eo.nx _ _ _ _ q g' d
theorem ws_ret (he : WE X F e we) : WS X F (.Return (some e) pos) (wRet we) :=
  (ps_ret he).imp fun D σ H ⟨ς, S, E, g, k, hw, eo⟩ => tE.mk g k hw fun x S' v H' q g' _ d r => eo.rt _ _ _ _ q g'.rel d r
theorem ws_retN : WS X F (.Return none pos) wRetN := ps_retN.imp fun D σ H ⟨ς, S, E, g, k, hw, eo⟩ => eo.rt _ _ _ _ hw g.rel .refl .non
theorem ws_if {c : Expr} {a b : List Stmt} {wt : WpT} {wa wb : WpS} (hc : WT X F c wt) (ha : WSs X F a wa) (hb : WSs X F b wb) : WS X F (.If c a b pos) (wIf wt wa wb) :=
  (ps_if hc ha hb).imp fun D σ H ⟨ς, S, E, g, k, hw, eo⟩ => tT.mk g k hw fun b S' H' q g' k' d => by
    cases b with
    | true => rw [if_pos rfl] at q ⊢; exact ⟨ς, S', E, g', k', q, eo.from d⟩
    | false => rw [if_neg Bool.false_ne_true] at q ⊢; exact ⟨ς, S', E, g', k', q, eo.from d⟩
theorem ws_set {i : Nat} {x : Str} (hN : X.N.Nodup) (hi : X.N[i]? = some x) (hx : Loc X.env.scope x) (he : WE X F e we) (hs : swapsWith e (some (.Name x pos')) pos.line X.env = pure false) (hf : X.fn x = true ∨ X.env.scope.names.lookup x = some .local) :
    WS X F (.Assign [.Name x pos'] e pos) (wSet i we) :=
  (ps_set hN hi hx he hs hf).imp (set_ok fun ς S R σ H Q g k hw hR => ⟨ς, S, R, g, k, hw, hR⟩)
theorem ws_asg {tg : Expr} {t : Tg} (he : WE X F e we) (hg : WG X tg t) (hs : swapsWithSole [tg] e pos.line X.env = pure false) (hw : swappedStores [tg] e X.env = pure none)
    (h1 : (assignEach [tg] X.env).map (·.2) = [assign tg X.env]) : WS X F (.Assign [tg] e pos) (wAsg t we) :=
  (ps_asg he hg hs hw h1).imp fun D σ H ⟨ς, S, E, g, k, hw, eo⟩ => tE.mk g k hw fun x S' v H' q g' _ d r => by
    obtain ⟨ς', hb, q⟩ := q
    obtain ⟨σ', h1, g2, _⟩ := Tg.bind_ok hb g' r
    exact h1 _ (eo.nx _ _ _ _ q g2 d)

/-! ### o[i] = v -/
def fSetI (x i y : D) (S : Sto) (R : Sto → Prop) : Prop := ∃ a, x = .ref a ∧ match S a with
  | some (.lst l) => ∃ k j, i = .int k ∧ ixN l.length k = some j ∧ R (S.set a (.lst (l.set j y)))
  | some (.dct l) => ∃ k, keyOf i = some k ∧ l.length + 1 ≤ sizeLine ∧ R (S.set a (.dct (putD k y l)))
  | _ => False
def wSetI (wv wo wi : WpE) : WpS := fun ς S E XE => wv ς S (fun y S1 => wo ς S1 (fun x S2 => wi ς S2 (fun i S3 => fSetI x i y S3 fun S4 => E.nx ς S4) (fun c S' => XE c ς S')) (fun c S' => XE c ς S')) (fun c S' => XE c ς S')
def rSetLD : TSet := fun o i v H Q => rSetL o i v H Q ∨ ∃ a H', o = .ref a ∧ DPut H a i v H' ∧ Q H'
theorem set_ld (hu : X.A.units + 1 < cLine) : PSet X rSetLD := fun pins s σ H o i v ov iv u Q I r1 r2 r3 h => by
  rcases h with h | ⟨a, H', rfl, g, q⟩
  · exact set_list pins s σ H o i v ov iv u Q I r1 r2 r3 h
  · cases r1
    exact d_setItem hu I g r2 r3 fun s' I' => ⟨H', I', q⟩
theorem setI_ok {K : PySem.W.Frag} {S S' : Sto} {H : Hp} {x i y : D} {o iv v : V} {R : Sto → Prop} {Q : Hp → Prop} (q : Rel K S H) (rx : Rep K S H x o) (ri : Rep K S H i iv) (ry : Rep K S H y v) (h : fSetI x i y S R)
    (hR : ∀ S' H', R S' → Rel K S' H' → Keep K S H S' H' → Q H') : rSetLD o iv v H Q := by
  obtain ⟨a, rfl, h⟩ := h
  cases rx
  cases e : S a with
  | none => rw [e] at h; exact h.elim
  | some u =>
    rw [e] at h
    cases u with
    | lst l =>
      obtain ⟨k, j, rfl, hj, h⟩ := h
      obtain ⟨z, vs, h1, h2⟩ := q a _ e
      cases ri
      refine .inl ⟨a, vs, k, j, rfl, rfl, h1, by rw [← h2.length]; exact hj, hR _ _ h ?_ (Keep.putR q e)⟩
      exact q.put e ⟨by rw [List.length_set]; exact z, vs.set j v, upd_same, (Keep.putR q e).l (h2.set j ry)⟩
    | dct l =>
      obtain ⟨k, hk, z1, h⟩ := h
      obtain ⟨z, vs, h1, h2⟩ := q a _ e
      refine .inr ⟨a, _, rfl, .inl ⟨vs, k, h1, keyOf_rep ri hk, by rw [← h2.length]; omega, rfl⟩, hR _ _ h ?_ (Keep.putR q e)⟩
      exact q.put e ⟨Nat.le_trans (putD_le k y l) z1, putK vs k v, upd_same, (Keep.putR q e).k (h2.put ry)⟩
    | _ => exact h.elim
theorem ws_setI {o i : Expr} {wo wi : WpE} {p : Pos} (hu : X.A.units + 1 < cLine) (he : WE X F e we) (ho : WE X F o wo) (hi : WE X F i wi)
    (ha : ∀ v, assign (.Subscript o i p) X.env v = (do
      let ov ← holding [v] (eval o X.env)
      let iv ← holding [v, ov] (eval i X.env)
      standAt p
      holding [v, ov, iv] (setItem ov iv v)
      release [v, ov, iv] []))
    (hs : swapsWithSole [.Subscript o i p] e pos.line X.env = pure false) (hw : swappedStores [.Subscript o i p] e X.env = pure none) (h1 : (assignEach [.Subscript o i p] X.env).map (·.2) = [assign (.Subscript o i p) X.env]) :
    WS X F (.Assign [.Subscript o i p] e pos) (wSetI we wo wi) :=
  (ps_asg he (pg_sub ho hi (set_ld hu) ha) hs hw h1).imp fun D σ H ⟨ς, S, E, g, k, hw, eo⟩ => tE.mk g k hw fun y S1 v H1 q g1 k1 d1 r1 =>
    tE.mk g1 k1 q fun x S2 o H2 q g2 k2 d2 r2 => tE.mk g2 k2 q fun i S3 iv H3 q g3 k3 d3 r3 =>
      setI_ok (S' := S3) g3.rel (d3 _ _ r2) r3 (d3 _ _ (d2 _ _ r1)) q fun S4 H4 q r4 k4 => eo.nx _ _ _ _ q (g3.keep r4 k4) (((d1.trans d2).trans d3).trans k4)

/-! ### o.f = v -/
def putFd (f : String) (y : D) : List (String × D) → List (String × D)
  | [] => [(f, y)]
  | (g, x) :: r => if g = f then (g, y) :: r else (g, x) :: putFd f y r
theorem putFd_le (f : String) (y : D) : ∀ fs : List (String × D), (putFd f y fs).length ≤ fs.length + 1
  | [] => Nat.le_refl _
  | (g, x) :: r => by unfold putFd; split <;> simp [putFd_le f y r]
theorem putFd_mem {f : String} {y : D} : ∀ {fs : List (String × D)} {p : String × D}, p ∈ putFd f y fs → p.1 = f ∨ ∃ q ∈ fs, q.1 = p.1
  | [], p, h => by simp [putFd] at h; exact .inl (by rw [h])
  | (g, x) :: r, p, h => by
    unfold putFd at h
    split at h
    · rcases List.mem_cons.mp h with e | h
      · rename_i hg; exact .inl (by rw [e]; exact hg)
      · exact .inr ⟨p, List.mem_cons_of_mem _ h, rfl⟩
    · rcases List.mem_cons.mp h with e | h
      · exact .inr ⟨(g, x), List.mem_cons_self, by rw [e]⟩
      · rcases putFd_mem h with e | ⟨q, hq, e⟩
        · exact .inl e
        · exact .inr ⟨q, List.mem_cons_of_mem _ hq, e⟩
theorem RepF.length {K : PySem.W.Frag} {S : Sto} {H : Hp} : ∀ {fs : List (String × D)} {gs : List (Str × V)}, RepF K S H fs gs → fs.length = gs.length
  | _, _, .nil => rfl
  | _, _, .cons _ t => by simp [RepF.length t]
theorem RepF.put {K : PySem.W.Frag} {S : Sto} {H : Hp} {f : String} {y : D} {v : V} (r : Rep K S H y v) : ∀ {fs : List (String × D)} {gs : List (Str × V)}, RepF K S H fs gs → RepF K S H (putFd f y fs) (putF (Str.ofString f) v gs)
  | _, _, .nil => .cons r .nil
  | _, _, .cons (f := g) rx t => by
    unfold putFd putF
    by_cases e : g = f
    · rw [if_pos e, if_pos (by rw [e])]
      exact .cons r t
    · rw [if_neg e, if_neg fun z => e (ofString_inj z)]
      exact .cons rx (RepF.put r t)
def fSetF (cs : List String) (f : String) (x y : D) (S : Sto) (R : Sto → Prop) : Prop := ∃ a, x = .ref a ∧ match S a with
  | some (.ins c fs) => cs.contains c = true ∧ fs.length + 1 ≤ 1000 ∧ R (S.set a (.ins c (putFd f y fs)))
  | _ => False
def wSetF (cs : List String) (f : String) (wv wo : WpE) : WpS := fun ς S E XE => wv ς S (fun y S1 => wo ς S1 (fun x S2 => fSetF cs f x y S2 fun S4 => E.nx ς S4) (fun c S' => XE c ς S')) (fun c S' => XE c ς S')
theorem ws_setF {cs : List String} {f : String} {o : Expr} {wo : WpE} (hn : ∀ c ∈ cs, NoAttr X.K (clA X.K c) (Str.ofString f)) (he : WE X F e we) (ho : WE X F o wo) (hs : swapsWith e (some (.Attribute o (Str.ofString f) pos')) pos.line X.env = pure false) :
    WS X F (.Assign [.Attribute o (Str.ofString f) pos'] e pos) (wSetF cs f we wo) :=
  (ps_fld ho he hs).imp fun D σ H ⟨ς, S, E, g, k, hw, eo⟩ => tE.mk g k hw fun y S1 v H1 q g1 k1 d1 r1 => tE.mk g1 k1 q fun x S2 o H2 q g2 k2 d2 r2 => by
    obtain ⟨a, rfl, h⟩ := q
    cases r2
    cases e : S2 a with
    | none => rw [e] at h; exact h.elim
    | some u =>
      rw [e] at h
      cases u with
      | ins c fs =>
        obtain ⟨hc, hl, h⟩ := h
        obtain ⟨⟨c1, c2, c3⟩, dx, gs, h1, h2⟩ := g2.rel a _ e
        have na := hn c (by simpa using hc)
        have hlg : fs.length = gs.length := RepF.length h2
        refine ⟨a, _, dx, gs, rfl, h1, c1, na, by omega, eo.nx _ _ _ _ h (g2.keep ?_ (Keep.putR g2.rel e)) ((d1.trans d2).trans (Keep.putR g2.rel e))⟩
        refine g2.rel.put e ⟨⟨c1, fun p hp => ?_, Nat.le_trans (putFd_le f y fs) hl⟩, dx, _, upd_same, (Keep.putR g2.rel e).f (RepF.put (d2 _ _ r1) h2)⟩
        rcases putFd_mem hp with e | ⟨q, hq, e⟩
        · rw [e]; exact na
        · rw [← e]; exact c2 q hq
      | _ => exact h.elim

/-! ### exceptions -/
def wRaise (c : String) : WpS := fun ς S _ XE => XE c ς S
structure ExOk (K : PySem.W.Frag) (c : String) : Prop where
  q : PySem.W.excIn K (clA K c) He.veBase "ValueError.__new__" = true
  kp : PySem.W.keepIn K (.ref (clA K c)) = true
  s1 : PySem.W.subIn K (.ref (clA K c)) (.type "BaseException") = some true
  s2 : PySem.W.typeIn K (.ref (clA K c)) = some (.type "type")
theorem tk_calm {F : Fr} : Takes X (wF X.K F.calm) := takes_none5.imp fun _ _ _ _ ⟨_, _, _, _, _, _, _, h⟩ => h
theorem ws_raise {c : String} {x m : Str} {j : Nat} {p p2 cpos : Pos} {initId : String} (Fb : ExcBaseFacts "ValueError" "ValueError.__new__" initId He.veBase) (ex : ExOk X.K c) (hc : X.calm = true) (tk : Takes X (wF X.K F)) (gC : X.mg x = some (.ref (clA X.K c))) (hg : Gl X x)
    (hdb : (x == ("__debug__" : Str)) = false) : WS X F (.Raise (some (.Call (.Name x p) [.Constant (.str m) j p2] [] cpos)) none pos) (wRaise c) :=
  (ps_raise hc tk (pmk_own Fb ex.q gC ex.kp (raises_own ex.s1 ex.s2) hg hdb)).imp fun D σ H ⟨ς, S, E, g, k, hw, eo⟩ => ⟨c, ς, S, rfl, fun _ => rfl, g, k, hw⟩
end
end SB
end

section
set_option Elab.async false
set_option linter.all false
set_option maxRecDepth 100000
set_option autoImplicit false
/-! SB12: while, try, own classes asked, a def's body, the end. -/
namespace SB
open PySem PySem.Spec L2

/-! ### while -/
def wWhile (wt : WpT) (wb : WpS) : WpS := fun ς S E XE => ∃ W : Nat → En → Sto → Prop, (∃ m, W m ς S) ∧ ∀ m ς S, W m ς S →
  wt ς S (fun b S1 => if b = true then wb ς S1 { E with nx := fun ς' S' => ∃ m', m' < m ∧ W m' ς' S', ct := fun ς' S' => ∃ m', m' < m ∧ W m' ς' S', bk := E.nx } XE else E.nx ς S1) (fun c S' => XE c ς S')
section
variable {X : Cx} {F : Fr} {pos : Pos}
theorem ws_while {c : Expr} {body : List Stmt} {wt : WpT} {wb : WpS} (hp : PassesOwn (model X.prog X.w) X.A X.env X.xe) (hc : WT X F c wt) (hb : WSs X F body wb) : WS X F (.While c body [] pos) (wWhile wt wb) :=
  (ps_while hp hc hb).imp fun D σ H ⟨ς, S, E, g, k, ⟨W, ⟨m, w0⟩, hW⟩, eo⟩ => by
    refine ⟨fun m σ' H' => ∃ ς' S', Good X.K ς' S' σ' H' ∧ Keep X.K S H S' H' ∧ W m ς' S', ⟨m, ς, S, g, .refl, w0⟩, ?_⟩
    rintro m σ' H' ⟨ς', S', g', k', w'⟩
    refine tT.mk g' (k.trans k') (hW m ς' S' w') fun b S2 H2 q g2 k2 d2 => ?_
    have eo' := eo.from (k'.trans d2)
    cases b with
    | true =>
      rw [if_pos rfl] at q ⊢
      refine ⟨fun σ3 H3 => ∃ m', m' < m ∧ ∃ ς' S', Good X.K ς' S' σ3 H3 ∧ Keep X.K S H S' H3 ∧ W m' ς' S', fun σ3 H3 h => h, ?_⟩
      exact ⟨ς', S2, _, g2, k2, q, ⟨fun _ _ _ _ ⟨m', hm, w⟩ g3 k3 => ⟨m', hm, _, _, g3, (k'.trans d2).trans k3, w⟩, eo'.rt, eo'.nx, fun _ _ _ _ ⟨m', hm, w⟩ g3 k3 => ⟨m', hm, _, _, g3, (k'.trans d2).trans k3, w⟩⟩⟩
    | false =>
      rw [if_neg Bool.false_ne_true] at q ⊢
      exact eo'.nx _ _ _ _ q g2 .refl
end

/-! ### try -/
/-- of the own errors: is c a kind of C -/
def subB (c C : String) : Bool := c == C || C == "BookError"
structure ExcT (K : PySem.W.Frag) (cs : List String) : Prop where
  m : ∀ c ∈ cs, ∀ C ∈ cs, PySem.W.exmOne K (.ref (clA K c)) (.ref (clA K C)) = some (subB c C)
def ES.unset (E : ES) (i : Nat) : ES := ⟨fun ς S => E.nx (ς.set i none) S, E.rt, fun ς S => E.bk (ς.set i none) S, fun ς S => E.ct (ς.set i none) S⟩
def wTryAs (cs : List String) (C : String) (i : Nat) (wb : WpS) (ws : Addr → String → WpS) : WpS := fun ς S E XE => wb ς S E (fun c ς' S' => c ∈ cs ∧ if subB c C = true then ∀ a, ws a c (ς'.set i (some (.ref a))) S' (E.unset i) (fun _ _ _ => False) else XE c ς' S')
def wTryO (cs : List String) (C : String) (wb : WpS) (ws : WpS) : WpS := fun ς S E XE => wb ς S E (fun c ς' S' => c ∈ cs ∧ if subB c C = true then ws ς' S' E (fun _ _ _ => False) else XE c ς' S')
section
variable {X : Cx} {F : Fr} {x n : Str} {C : String} {i : Nat} {body suite : List Stmt} {b₀ : Stmt} {np pos pos' : Pos} {wb : WpS} {cs : List String}
theorem EOk.unset {K : PySem.W.Frag} {S : Sto} {H : Hp} {E : ES} {D : Ends} {i : Nat} (eo : EOk K S H E D) : EOk K S H (E.unset i) { nx := fun σ' H' => D.nx (σ'.set i none) H', rt := D.rt, bk := fun σ' H' => D.bk (σ'.set i none) H', ct := fun σ' H' => D.ct (σ'.set i none) H' } :=
  ⟨fun _ _ _ _ q g k => eo.nx _ _ _ _ q g.unset k, eo.rt, fun _ _ _ _ q g k => eo.bk _ _ _ _ q g.unset k, fun _ _ _ _ q g k => eo.ct _ _ _ _ q g.unset k⟩
theorem ws_try_as {ws : Addr → String → WpS} (hs : X.stack = X.env :: X.outer) (hf : X.env.frame = some X.env.locals) (hN : X.N.Nodup) (hi : X.N[i]? = some n) (hln : X.env.kindOf n = some .local) (hc : Names X x (.ref (clA X.K C))) (tk : Takes X (wF X.K F)) (ex : ExcT X.K cs) (hC : C ∈ cs)
    (hb : ∀ (F' : Fr) (pn : List (Addr × Obj)) (xe : Value → Shared → Prop), Takes (X.tr pn xe) (wF X.K F') → PassesOwn (model X.prog X.w) X.A X.env xe → WSs (X.tr pn xe) F' body wb)
    (hsu : ∀ (F' : Fr) (a : Addr) (oe : Obj) (c : String) (d : Option Addr) (pn : List (Addr × Obj)), Zc (.ref (clA X.K c)) d oe → (∃ vs, oe.data = .fields vs) → (c ≠ "NoPot" → d = none) → WSs (X.suite a ((a, oe) :: pn)) F'.calm (b₀ :: suite) (ws a c)) :
    WS X F (.Try body [.ExceptHandler (some (.Name x np)) (some n) (b₀ :: suite) pos'] [] [] pos) (wTryAs cs C i wb ws) := by
  have h := ps_try_as (X := X) (x := x) (n := n) (c := .ref (clA X.K C)) (i := i) (body := body) (suite := suite) (b₀ := b₀) (np := np) (pos := pos) (pos' := pos')
    (tb := fun W D σ H => ∃ F' : Fr, (∀ cls d σ H, wF X.K F' cls d σ H → W cls d σ H) ∧ tS X.K F' wb D σ H)
    (ts := fun a cls d D σ H => ∃ (c : String) (F' : Fr), cls = .ref (clA X.K c) ∧ (c ≠ "NoPot" → d = none) ∧ tS X.K F'.calm (ws a c) D σ H) (Wout := wF X.K F) hs hf hN hi hln hc tk
    (fun W pn xe tkW hp => ⟨fun pins s σ H D I ⟨F', hW, q⟩ => (hb F' pn xe (tkW.imp hW) hp).run pins s σ H D I q⟩)
    (fun a oe cls d pn hz hv => ⟨fun pins s σ H D I ⟨c, F', e, hd, q⟩ => (hsu F' a oe c d pn (by rw [← e]; exact hz) hv hd).run pins s σ H D I q⟩)
  refine h.imp fun D σ H ⟨ς, S, E, g, k, hw, eo⟩ => ?_
  refine ⟨⟨S, H, fun c ς' S' => c ∈ cs ∧ if subB c C = true then ∀ a, ws a c (ς'.set i (some (.ref a))) S' (E.unset i) (fun _ _ _ => False) else F.XE c ς' S'⟩, ?_, ⟨ς, S, E, g, .refl, hw, eo⟩⟩
  rintro cls d σ' H' ⟨c, ς', S', rfl, hd, g', k', hcs, q⟩
  refine ⟨subB c C, ex.m c hcs C hC, fun e a ha => ?_, fun e => ?_⟩
  · rw [if_pos e] at q
    exact ⟨c, ⟨S', H', fun _ _ _ => False⟩, rfl, hd, ς'.set i (some (.ref a)), S', E.unset i, g'.set (.ref a), .refl, q a, (eo.from k').unset⟩
  · rw [if_neg (by rw [e]; exact Bool.false_ne_true)] at q
    exact ⟨c, ς', S', rfl, hd, g', k.trans k', q⟩
theorem ws_try_only {ws : WpS} (hs : X.stack = X.env :: X.outer) (hf : X.env.frame = some X.env.locals) (hc : Names X x (.ref (clA X.K C))) (tk : Takes X (wF X.K F)) (ex : ExcT X.K cs) (hC : C ∈ cs)
    (hb : ∀ (F' : Fr) (pn : List (Addr × Obj)) (xe : Value → Shared → Prop), Takes (X.tr pn xe) (wF X.K F') → PassesOwn (model X.prog X.w) X.A X.env xe → WSs (X.tr pn xe) F' body wb)
    (hsu : ∀ (F' : Fr) (a : Addr) (oe : Obj) (pn : List (Addr × Obj)), WSs (X.suite a ((a, oe) :: pn)) F'.calm (b₀ :: suite) ws) :
    WS X F (.Try body [.ExceptHandler (some (.Name x np)) none (b₀ :: suite) pos'] [] [] pos) (wTryO cs C wb ws) := by
  have h := ps_try_only (X := X) (x := x) (c := .ref (clA X.K C)) (body := body) (suite := suite) (b₀ := b₀) (np := np) (pos := pos) (pos' := pos')
    (tb := fun W D σ H => ∃ F' : Fr, (∀ cls d σ H, wF X.K F' cls d σ H → W cls d σ H) ∧ tS X.K F' wb D σ H)
    (ts := fun a cls d D σ H => ∃ (F' : Fr), tS X.K F'.calm ws D σ H) (Wout := wF X.K F) hs hf hc tk
    (fun W pn xe tkW hp => ⟨fun pins s σ H D I ⟨F', hW, q⟩ => (hb F' pn xe (tkW.imp hW) hp).run pins s σ H D I q⟩)
    (fun a oe cls d pn hz hv => ⟨fun pins s σ H D I ⟨F', q⟩ => (hsu F' a oe pn).run pins s σ H D I q⟩)
  refine h.imp fun D σ H ⟨ς, S, E, g, k, hw, eo⟩ => ?_
  refine ⟨⟨S, H, fun c ς' S' => c ∈ cs ∧ if subB c C = true then ws ς' S' E (fun _ _ _ => False) else F.XE c ς' S'⟩, ?_, ⟨ς, S, E, g, .refl, hw, eo⟩⟩
  rintro cls d σ' H' ⟨c, ς', S', rfl, hd, g', k', hcs, q⟩
  refine ⟨subB c C, ex.m c hcs C hC, fun e a ha => ?_, fun e => ?_⟩
  · rw [if_pos e] at q
    exact ⟨⟨S', H', fun _ _ _ => False⟩, ς', S', E, g', .refl, q, eo.from k'⟩
  · rw [if_neg (by rw [e]; exact Bool.false_ne_true)] at q
    exact ⟨c, ς', S', rfl, hd, g', k.trans k', q⟩
end

/-! ### isinstance(e, C), e caught -/
structure ExcK (K : PySem.W.Frag) (cs : List String) : Prop where
  cl : ∀ c ∈ cs, ExcC K (clA K c)
  kit : ∀ c ∈ cs, ∀ C ∈ cs, PySem.W.kitOne K (.ref (clA K c)) (.ref (clA K C)) = some (subB c C)
def wIsE (a : Addr) (c C : String) (cs : List String) (we : WpE) : WpE := fun ς S R RE => we ς S (fun x S1 => x = .ref a ∧ c ∈ cs ∧ c ≠ "NoPot" ∧ R (.bl (subB c C)) S1) RE
section
variable {X : Cx} {F : Fr} {x : Str} {c C : String} {a : Addr} {oe : Obj} {d : Option Addr} {e : Expr} {we : WpE} {p p2 pos : Pos} {pn : List (Addr × Obj)} {cs : List String}
theorem we_isE (hz : Zc (.ref (clA X.K c)) d oe) (hv : ∃ vs, oe.data = .fields vs) (hd : c ≠ "NoPot" → d = none) (ex : ExcK X.K cs) (hC : C ∈ cs) (he : WE (X.suite a ((a, oe) :: pn)) F e we) (hn : noStar e = true)
    (hg : Gl X "isinstance") (hm : X.mg "isinstance" = none) (hg2 : Gl X x) (hm2 : X.mg x = some (.ref (clA X.K C))) (hdb : (x == ("__debug__" : Str)) = false) :
    WE (X.suite a ((a, oe) :: pn)) F (.Call (.Name "isinstance" p) [e, .Name x p2] [] pos) (wIsE a c C cs we) := by
  refine ⟨fun pins s σ H Q I h => ?_⟩
  obtain ⟨ς, S, R, g, k, hw, hR⟩ := h
  have ha : PA (X.suite a ((a, oe) :: pn)) [e, .Name x p2] (tCons (tE X.K F we) (tCons (tC (.ref (clA X.K C))) tNil)) := pa_cons he (pa_cons (pe_glob (X := X.suite a ((a, oe) :: pn)) hg2 hm2 rfl hdb) pa_nil (starEach_cons (es := []) rfl)) (starEach_cons hn)
  have hcall : CallR (X.suite a ((a, oe) :: pn)) (.builtin "isinstance") (fun xs H Q => (c ∈ cs ∧ c ≠ "NoPot") ∧ rIsE X.K (clA X.K c) a xs H Q) := fun pins s σ H xs us Q I r ⟨⟨hc, hnp⟩, q⟩ => by
    obtain rfl := hd hnp
    exact call_isE (X := X) (pn := pn) (ex.cl c hc) hz hv pins s σ H xs us Q I r q
  refine (pe_callB (X := X.suite a ((a, oe) :: pn)) hcall hg hm (by decide +kernel) ha (by decide) (by decide) (starEach_cons hn) (by rw [back_any (es := [.Name x p2]) rfl])).run pins s σ H Q I ?_
  refine tE.mk g k hw fun y S1 v H1 q g1 k1 d1 r1 => ?_
  obtain ⟨rfl, hc, hnp, q⟩ := q
  cases r1
  refine ⟨⟨hc, hnp⟩, .ref (clA X.K C), .ref (clA X.K C), subB c C, rfl, fun u r => r, ex.kit c hc C hC, hR _ S1 _ H1 q g1.rel d1 (.bl _)⟩
end
end SB
end

section
set_option Elab.async false
set_option linter.all false
set_option maxRecDepth 100000
set_option autoImplicit false
/-! SB13: own classes asked; a def's body; the end of a row. -/
namespace SB
open PySem PySem.Spec L2

/-! ### isinstance(x, C), own classes -/
structure ClsK (K : PySem.W.Frag) (cs : List String) (sub : String → String → Bool) : Prop where
  ha : ∀ c ∈ cs, PySem.W.findIn K (.ref (clA K c)) "__class__" = some (some (.builtin "object.__class__"))
  hn : PySem.W.specialIn K (.builtin "object.__class__") "__get__" = some (some (.builtin "getset_descriptor.__get__"))
  htk : PySem.W.takesIn K (.builtin "object.__class__") = some true
  hm : ∀ c ∈ cs, PySem.W.mroIn K (clA K c) (.type "object") = some true
  kit : ∀ c ∈ cs, ∀ C ∈ cs, PySem.W.kitOne K (.ref (clA K c)) (.ref (clA K C)) = some (sub c C)
def wIsO (cs : List String) (sub : String → String → Bool) (C : String) (we : WpE) : WpE := fun ς S R RE => we ς S (fun x S1 => ∃ c fs, insOf S1 x = some (c, fs) ∧ c ∈ cs ∧ R (.bl (sub c C)) S1) RE
section
variable {X : Cx} {F : Fr} {pos p p2 : Pos} {e : Expr} {es : List Expr} {we : WpE} {x : Str} {cs : List String} {sub : String → String → Bool} {C : String}
theorem boot_isi : bootBuiltins "isinstance" = some (.builtin "isinstance") := by decide +kernel
theorem we_isO (ck : ClsK X.K cs sub) (hC : C ∈ cs) (he : WE X F e we) (hn : noStar e = true) (hg : Gl X "isinstance") (hm : X.mg "isinstance" = none) (hg2 : Gl X x) (hm2 : X.mg x = some (.ref (clA X.K C))) (hdb : (x == ("__debug__" : Str)) = false) :
    WE X F (.Call (.Name "isinstance" p) [e, .Name x p2] [] pos) (wIsO cs sub C we) := by
  have pt : PE X (.Name x p2) (tC (.ref (clA X.K C))) := pe_glob hg2 hm2 rfl hdb
  refine (pe_callB call_isi hg hm boot_isi (pa_cons he (pa_cons pt pa_nil rfl) (starEach_cons hn)) (by decide) (by decide) (starEach_cons hn) rfl).imp fun σ H Q ⟨ς, S, R, g, k, hw, hR⟩ => ?_
  refine tE.mk g k hw fun x S1 v H1 h1 g1 k1 d1 r1 => ?_
  obtain ⟨c, fs, e, hc, h1⟩ := h1
  obtain ⟨a, dx, gs, rfl, ha1, ⟨c1, _, _⟩, _⟩ := insOf_rep r1 g1.rel e
  exact ⟨.ref a, .ref (clA X.K C), .ref (clA X.K c), .ref (clA X.K C), sub c C, rfl, .own _, .base (.ins ha1 c1 (ck.ha c hc) ck.hn ck.htk (ck.hm c hc)), ck.kit c hc C hC, hR _ S1 _ H1 h1 g1.rel d1 (.bl _)⟩
end

/-! ### what may be said of a value and a store at a def's end -/
/-- as it stands, x and S may be taken for x' and S' -/
def Frz (x : D) (S : Sto) (x' : D) (S' : Sto) : Prop := ∀ K H v, Rel K S H → Rep K S H x v → Rel K S' H ∧ Keep K S H S' H ∧ Rep K S' H x' v
theorem Frz.refl {x : D} {S : Sto} : Frz x S x S := fun _ _ _ r p => ⟨r, .refl, p⟩
theorem Frz.trans {x y z : D} {S S1 S2 : Sto} (a : Frz x S y S1) (b : Frz y S1 z S2) : Frz x S z S2 := fun K H v r p => by
  obtain ⟨r1, k1, p1⟩ := a K H v r p
  obtain ⟨r2, k2, p2⟩ := b K H v r1 p1
  exact ⟨r2, k1.trans k2, p2⟩
theorem del_le {S : Sto} {p : Addr} (b : Addr) : (S.del p) b = S b ∨ (S.del p) b = none := by
  by_cases e : b = p
  · subst e; exact .inr Sto.del_same
  · rw [Sto.del_ne e]; exact .inl rfl
theorem Frz.drop {x : D} {S S' : Sto} (h : ∀ a, S' a = S a ∨ S' a = none) : Frz x S x S' := fun K H v r p => ⟨r.left h, Keep.left h, (Keep.left h).r _ _ p⟩
theorem Frz.del {x : D} {S : Sto} {p : Addr} : Frz x S x (S.del p) := Frz.drop del_le
/-- what is owned, as data -/
def SO.data : SO → Option D
  | .lst l => some (.lst l)
  | .dct l => some (.dct l)
  | .ins c fs => some (.ins c fs)
  | .lck _ => none
theorem data_rep {K : PySem.W.Frag} {S : Sto} {H : Hp} {p : Addr} {o : SO} {d : D} (r : Rel K S H) (e : S p = some o) (hd : o.data = some d) : Rep K (S.del p) H d (.ref p) := by
  have k : Keep K S H (S.del p) H := Keep.left del_le
  cases o with
  | lst l => cases hd; obtain ⟨z, vs, h1, h2⟩ := r p _ e; exact .lst h1 Sto.del_same z (k.l h2)
  | dct l => cases hd; obtain ⟨z, vs, h1, h2⟩ := r p _ e; exact .dct (.inl h1) Sto.del_same z (k.k h2)
  | ins c fs => cases hd; obtain ⟨co, dx, gs, h1, h2⟩ := r p _ e; exact .ins h1 Sto.del_same co (k.f h2)
  | lck l => cases hd
theorem Frz.ref {S : Sto} {p : Addr} {o : SO} {d : D} (e : S p = some o) (hd : o.data = some d) : Frz (.ref p) S d (S.del p) := fun K H v r q => by
  cases q
  exact ⟨r.left del_le, Keep.left del_le, data_rep r e hd⟩
mutual
/-- d for every p -/
def sb (p : Addr) (d : D) : D → D
  | .ref a => if a = p then d else .ref a
  | .tup l => .tup (subL p d l)
  | .lst l => .lst (subL p d l)
  | .scr l => .scr (subL p d l)
  | .dct l => .dct (subK p d l)
  | .ins c fs => .ins c (subF p d fs)
  | .non => .non
  | .bl b => .bl b
  | .int i => .int i
  | .str x => .str x
  | .exc c => .exc c
termination_by x => sizeOf x
def subL (p : Addr) (d : D) : List D → List D
  | [] => []
  | x :: xs => sb p d x :: subL p d xs
termination_by x => sizeOf x
def subK (p : Addr) (d : D) : List (Key × D) → List (Key × D)
  | [] => []
  | (k, x) :: xs => (k, sb p d x) :: subK p d xs
termination_by x => sizeOf x
def subF (p : Addr) (d : D) : List (String × D) → List (String × D)
  | [] => []
  | (k, x) :: xs => (k, sb p d x) :: subF p d xs
termination_by x => sizeOf x
end
theorem subL_length (p : Addr) (d : D) : ∀ l, (subL p d l).length = l.length
  | [] => by simp [subL]
  | x :: xs => by simp [subL, subL_length p d xs]
theorem subK_length (p : Addr) (d : D) : ∀ l, (subK p d l).length = l.length
  | [] => by simp [subK]
  | (k, x) :: xs => by simp [subK, subK_length p d xs]
theorem subF_mem {p : Addr} {d : D} : ∀ {l : List (String × D)} {q}, q ∈ subF p d l → ∃ q' ∈ l, q'.1 = q.1
  | [], q, h => by simp [subF] at h
  | (k, x) :: xs, q, h => by
    rw [subF] at h
    rcases List.mem_cons.mp h with e | h
    · exact ⟨(k, x), List.mem_cons_self, by rw [e]⟩
    · obtain ⟨q', h1, h2⟩ := subF_mem h; exact ⟨q', List.mem_cons_of_mem _ h1, h2⟩
theorem subF_length (p : Addr) (d : D) : ∀ l, (subF p d l).length = l.length
  | [] => by simp [subF]
  | (k, x) :: xs => by simp [subF, subF_length p d xs]
section
variable {K : PySem.W.Frag} {S S' : Sto} {H : Hp} {p : Addr} {d : D}
mutual
theorem Rep.sub (hS : ∀ a, S a = none → S' a = none) (hd : Rep K S' H d (.ref p)) : ∀ {x : D} {v : V}, Rep K S H x v → Rep K S' H (sb p d x) v
  | _, _, .non => by rw [sb]; exact .non
  | _, _, .bl b => by rw [sb]; exact .bl b
  | _, _, .int i => by rw [sb]; exact .int i
  | _, _, .str x => by rw [sb]; exact .str x
  | _, _, .tup h n r => by rw [sb]; exact .tup h (by rw [subL_length]; exact n) (RepL.sub hS hd r)
  | _, _, .lst h e n r => by rw [sb]; exact .lst h (hS _ e) (by rw [subL_length]; exact n) (RepL.sub hS hd r)
  | _, _, .scr h e n r => by rw [sb]; exact .scr h (hS _ e) (by rw [subL_length]; exact n) (RepL.sub hS hd r)
  | _, _, .scrK h n r => by rw [sb]; exact .scrK h (by rw [subL_length]; exact n) (RepL.sub hS hd r)
  | _, _, .dct h e n r => by rw [sb]; exact .dct h (hS _ e) (by rw [subK_length]; exact n) (RepK.sub hS hd r)
  | _, _, .ins h e ⟨c1, c2, c3⟩ r => by
    rw [sb]
    exact .ins h (hS _ e) ⟨c1, fun q hq => by obtain ⟨q', h1, h2⟩ := subF_mem hq; rw [← h2]; exact c2 q' h1, by rw [subF_length]; exact c3⟩ (RepF.sub hS hd r)
  | _, _, .ref a => by
    rw [sb]
    split
    · rename_i e; rw [e]; exact hd
    · exact .ref a
theorem RepL.sub (hS : ∀ a, S a = none → S' a = none) (hd : Rep K S' H d (.ref p)) : ∀ {l : List D} {vs : List V}, RepL K S H l vs → RepL K S' H (subL p d l) vs
  | _, _, .nil => by rw [subL]; exact .nil
  | _, _, .cons r t => by rw [subL]; exact .cons (Rep.sub hS hd r) (RepL.sub hS hd t)
theorem RepK.sub (hS : ∀ a, S a = none → S' a = none) (hd : Rep K S' H d (.ref p)) : ∀ {l : List (Key × D)} {vs : List (Key × V)}, RepK K S H l vs → RepK K S' H (subK p d l) vs
  | _, _, .nil => by rw [subK]; exact .nil
  | _, _, .cons r t => by rw [subK]; exact .cons (Rep.sub hS hd r) (RepK.sub hS hd t)
theorem RepF.sub (hS : ∀ a, S a = none → S' a = none) (hd : Rep K S' H d (.ref p)) : ∀ {l : List (String × D)} {vs : List (Str × V)}, RepF K S H l vs → RepF K S' H (subF p d l) vs
  | _, _, .nil => by rw [subF]; exact .nil
  | _, _, .cons r t => by rw [subF]; exact .cons (Rep.sub hS hd r) (RepF.sub hS hd t)
end
end
/-- an owned thing that x holds becomes data -/
theorem Frz.sub {S : Sto} {p : Addr} {o : SO} {d x : D} (e : S p = some o) (hd : o.data = some d) : Frz x S (sb p d x) (S.del p) := fun K H v r q =>
  ⟨r.left del_le, Keep.left del_le, Rep.sub (fun a h => by rcases del_le (S := S) (p := p) a with z | z; exact z.trans h; exact z) (data_rep r e hd) q⟩
def Rz (R : Pd) : Pd := fun x S => ∃ x' S', Frz x S x' S' ∧ R x' S'
theorem Rz.now {R : Pd} {x : D} {S : Sto} (h : R x S) : Rz R x S := ⟨x, S, .refl, h⟩

/-! ### a def -/
def startE (N : List Str) (xs : List D) : En := xs.map some ++ List.replicate (N.length - xs.length) none
theorem start_good {K : PySem.W.Frag} {N : List Str} {xs : List D} {vs : List V} {S : Sto} {H : Hp} (r : RepL K S H xs vs) (q : Rel K S H) : Good K (startE N xs) S (L2.start N vs) H := by
  have hl := r.length
  refine ⟨by simp [startE, L2.start, hl], fun i x e => ?_, q⟩
  unfold startE at e
  unfold L2.start
  by_cases h : i < xs.length
  · rw [List.getElem?_append_left (by simpa using h)] at e
    rw [List.getElem?_append_left (by rw [List.length_map, ← hl]; exact h)]
    rw [List.getElem?_map] at e ⊢
    cases e2 : xs[i]? with
    | none => rw [e2] at e; cases e
    | some y =>
      rw [e2] at e
      cases e
      obtain ⟨v, h1, h2⟩ := r.get e2
      exact ⟨v, by rw [h1]; rfl, h2⟩
  · rw [List.getElem?_append_right (by simpa using h)] at e
    rw [List.getElem?_replicate] at e
    split at e <;> cases e
/-- what a body needs to know of its context -/
structure BC (k : Nat) (X : Cx) (F : Fr) : Prop where
  room : Room k X.A
  tk : Takes X (wF X.K F)
  pass : PassesOwn (model X.prog X.w) X.A X.env X.xe
section
variable {P : Program} {w : World} {K : PySem.W.Frag} {mg : Str → Option Value} {base : Heap} {x qual : Str} {params : Arguments} {body : List Stmt} {scope : Scope} {dvs : List V} {kws : List (Str × V)} {f : Addr} {fd : FuncData}
theorem body_ok {N ps : List Str} {k : Nat} {ws : WpS} {φ : Spec} (Fd : FunD K x qual params body scope dvs kws f fd) (Sc : FnScope N ps scope)
    (hw : ∀ (cdv : Value) (A : Around) (outer : List Env) (s : Shared) (H : Hp) (E : XK) (F : Fr), BC k (cxOf (L2.CX P w) P w K mg base N qual scope f cdv A outer s H E) F → WSs (cxOf (L2.CX P w) P w K mg base N qual scope f cdv A outer s H E) F body ws)
    (hl : ∀ xs S R RE, φ xs S R RE → xs.length = ps.length)
    (hφ : ∀ xs S R RE, φ xs S R RE → ws (startE N xs) S ⟨fun _ S' => Rz R .non S', Rz R, fun _ _ => False, fun _ _ => False⟩ (fun c _ S' => RE c S')) : FnOk P w K mg base (L2.CX P w) (k + 1) f fd ps (spOf K φ) := by
  refine Fd.ok Sc (fun vs H Q E ⟨xs, S, R, RE, r, _, h, _⟩ => by rw [← r.length]; exact hl _ _ _ _ h) fun cdv A outer s H vs Q E hr ⟨xs, S, R, RE, r, q, h, hR, hRE⟩ => ?_
  refine ⟨_, hw cdv A outer s H E ⟨S, H, fun c _ S' => RE c S'⟩ ⟨hr, ?_, passes_of rfl⟩, startE N xs, S, _, start_good r q, .refl, hφ xs S R RE h, ?_⟩
  · refine (takes_of (E := E) rfl rfl rfl rfl).imp fun cls d σ H' ⟨c, ς, S', e, hd, g, k', z⟩ => ?_
    subst e
    exact hRE c d S' H' hd z g.rel k'
  · refine ⟨fun ς' S' σ' H' ⟨x', S2, fz, z⟩ g k' => ?_, fun x S' v H' ⟨x', S2, fz, z⟩ r' k' p => ?_, fun _ _ _ _ z => z.elim, fun _ _ _ _ z => z.elim⟩
    · obtain ⟨r2, k2, p2⟩ := fz K H' .non g.rel .non
      exact hR x' S2 .non H' z r2 (k'.trans k2) p2
    · obtain ⟨r2, k2, p2⟩ := fz K H' v r' p
      exact hR x' S2 v H' z r2 (k'.trans k2) p2
/-- all parameters written -/
theorem fn_bd {ps : List Str} {k : Nat} {φ : Spec} (n : Nat) (Fd : FunD K x qual params body scope [] kws f fd) (ok : FnOk P w K mg base (L2.CX P w) k f fd ps (spOf K φ)) (b : Binds K fd ps []) : FnBd P w K mg base k f n [] φ :=
  ⟨⟨fd, ps, [], [], ok, b, .nil, fun _ _ => .nil⟩, Fd.kp⟩
theorem fn_bdD {ps : List Str} {k : Nat} {φ : Spec} (n : Nat) (dds : List D) (Fd : FunD K x qual params body scope dvs kws f fd) (ok : FnOk P w K mg base (L2.CX P w) k f fd ps (spOf K φ)) {vs : List V} (b : ∃ ds, Vals vs ds ∧ Binds K fd ps ds) (r : ∀ S H, RepL K S H dds vs) : FnBd P w K mg base k f n dds φ := by
  obtain ⟨ds, hv, hb⟩ := b
  exact ⟨⟨fd, ps, ds, vs, ok, hb, hv, r⟩, Fd.kp⟩
/-- a weaker promise -/
theorem FnBd.imp {k n : Nat} {dds : List D} {φ φ' : Spec} (b : FnBd P w K mg base k f n dds φ) (h : ∀ xs S R RE, φ' xs S R RE → φ xs S R RE) : FnBd P w K mg base k f n dds φ' := by
  obtain ⟨⟨fd, ps, ds, dvs, a, b, c, d⟩, kp⟩ := b
  exact ⟨⟨fd, ps, ds, dvs, a.imp fun vs H Q E ⟨xs, S, R, RE, r, q, z, y⟩ => ⟨xs, S, R, RE, r, q, h _ _ _ _ z, y⟩, b, c, d⟩, kp⟩
end
/-- a call that lets nothing out, whatever the program -/
def CXs : CXT := fun outer H s E u s' => ∃ P w, L2.CX P w outer H s E u s'
theorem cxs_none (H : Hp) (s : Shared) (e : Value) (s' : Shared) : CXs [] H s (fun _ _ _ => False) e s' → False := fun ⟨_, _, _, _, _, _, _, _, _, _, _, _, _, _, z⟩ => z
theorem FnOk.cxs {P : Program} {w : World} {K : PySem.W.Frag} {mg : Str → Option Value} {base : Heap} {k : Nat} {f : Addr} {fd : FuncData} {ps : List Str} {sp : Sp} (F : FnOk P w K mg base (L2.CX P w) k f fd ps sp) : FnOk P w K mg base CXs k f fd ps sp :=
  ⟨F.len, fun A outer s H args us vs Q E hr he hb hv hs => codeAny_mono (F.run A outer s H args us vs Q E hr he hb hv hs) fun r s' q => by
    cases r with
    | error e => exact ⟨P, w, q⟩
    | ok fl => cases fl <;> exact q⟩
/-- the law's own spec: whatever the script -/
def φLaw (n : Nat) : Spec := fun xs S R _ => ∃ ns : List Int, xs = [.scr (ns.map .int)] ∧ ns.length ≤ n ∧ S = (fun _ => none) ∧ ∀ S', R (.bl true) S'
theorem law_sp {K : PySem.W.Frag} {H : Hp} {a : Addr} {ns : List Int} {n : Nat} (hn : n ≤ sizeLine) (hl : ns.length ≤ n) (hS : SqL K H a (ns.map V.int)) : spOf K (φLaw n) [.ref a] H (fun v _ => v = .bl true) fun _ _ _ => False := by
  refine ⟨[.scr (ns.map .int)], fun _ => none, fun x _ => x = .bl true, fun _ _ => False, .cons ?_ .nil, fun _ _ e => (by cases e), ⟨ns, rfl, hl, rfl, fun _ => rfl⟩, fun x S' v H' e _ _ r => ?_, fun _ _ _ _ _ z => z.elim⟩
  · rcases hS with h | h
    · exact .scr h rfl (by simpa using Nat.le_trans hl hn) (repL_ints ns)
    · exact .scrK h (by simpa using Nat.le_trans hl hn) (repL_ints ns)
  · subst e; cases r; rfl
end SB
end

section
set_option Elab.async false
set_option linter.all false
set_option maxRecDepth 100000
set_option autoImplicit false
/-! SB14: the rules as the printed walks use them. -/
namespace SB
open PySem PySem.Spec L2
section
variable {X : Cx} {F : Fr} {pos p p2 q apos : Pos} {a b c e e2 o : Expr} {es rest : List Expr} {wa wb wc we wo : WpE} {was : WpA} {k : Nat} {x : Str}
theorem _root_.L2.Room.u65 {A : Around} {k : Nat} (r : Room k A) : A.units + 65 < cLine := by have := r.un; omega
theorem u64 {n : Nat} (r : n + 65 < cLine) : n + 64 < cLine := by omega
theorem u1 {n : Nat} (r : n + 65 < cLine) : n + 1 < cLine := by omega
/-! comparisons -/
abbrev cmpLt (i j : Int) : Bool := decide (i < j)
abbrev cmpLe (i j : Int) : Bool := decide (i ≤ j)
abbrev cmpGt (i j : Int) : Bool := decide (i > j)
abbrev cmpGe (i j : Int) : Bool := decide (i ≥ j)
theorem o_eq (r : X.A.units + 65 < cLine) : OpR X (compareOp .Eq) (rEqD X.K) := op_eqD (u64 r)
theorem o_ne (r : X.A.units + 65 < cLine) : OpR X (compareOp .NotEq) (rNeD X.K) := op_neD (u64 r)
theorem o_in (r : X.A.units + 65 < cLine) : OpR X (compareOp .In) (fun x y H Q => rDin false x y H Q ∨ rSgn false x y H Q ∨ rInDn X.K false x y H Q ∨ rIn X.K false x y H Q) :=
  (op_din (u1 r)).or (op_in_sign.or ((op_inD r).or op_in_seq))
theorem o_nin (r : X.A.units + 65 < cLine) : OpR X (compareOp .NotIn) (fun x y H Q => rDin true x y H Q ∨ rSgn true x y H Q ∨ rInDn X.K true x y H Q ∨ rIn X.K true x y H Q) :=
  (op_dnotin (u1 r)).or (op_notIn_sign.or ((op_notInD r).or op_notIn_seq))
theorem o_is : OpR X (compareOp .Is) (fun x y H Q => (y = .non ∧ Q (.bl (decide (x = .non))) H) ∨ rIsB x y H Q) := op_isN.or op_isBl
theorem o_isn : OpR X (compareOp .IsNot) (fun x y H Q => (y = .non ∧ Q (.bl (!decide (x = .non))) H) ∨ rNotB x y H Q) := op_notN.or op_notBl
theorem e_eq (r : X.A.units + 65 < cLine) (ha : WE X F a wa) (hb : WE X F b wb) (hm : behindInMarks .Eq b = false) : WE X F (.Compare a [.Eq] [b] pos) (wOp (fEq false) wa wb) := we_cmp (o_eq r) od_eq ha hb hm
theorem e_ne (r : X.A.units + 65 < cLine) (ha : WE X F a wa) (hb : WE X F b wb) (hm : behindInMarks .NotEq b = false) : WE X F (.Compare a [.NotEq] [b] pos) (wOp (fEq true) wa wb) := we_cmp (o_ne r) od_ne ha hb hm
theorem e_lt (ha : WE X F a wa) (hb : WE X F b wb) (hm : behindInMarks .Lt b = false) : WE X F (.Compare a [.Lt] [b] pos) (wOp (fCmp cmpLt) wa wb) := we_cmp op_lt od_cmp ha hb hm
theorem e_le (ha : WE X F a wa) (hb : WE X F b wb) (hm : behindInMarks .LtE b = false) : WE X F (.Compare a [.LtE] [b] pos) (wOp (fCmp cmpLe) wa wb) := we_cmp op_le od_cmp ha hb hm
theorem e_gt (ha : WE X F a wa) (hb : WE X F b wb) (hm : behindInMarks .Gt b = false) : WE X F (.Compare a [.Gt] [b] pos) (wOp (fCmp cmpGt) wa wb) := we_cmp op_gt od_cmp ha hb hm
theorem e_ge (ha : WE X F a wa) (hb : WE X F b wb) (hm : behindInMarks .GtE b = false) : WE X F (.Compare a [.GtE] [b] pos) (wOp (fCmp cmpGe) wa wb) := we_cmp op_ge od_cmp ha hb hm
theorem e_in (r : X.A.units + 65 < cLine) (ha : WE X F a wa) (hb : WE X F b wb) (hm : behindInMarks .In b = false) : WE X F (.Compare a [.In] [b] pos) (wOp (fIn false) wa wb) := we_cmp (o_in r) (od_in false) ha hb hm
theorem e_nin (r : X.A.units + 65 < cLine) (ha : WE X F a wa) (hb : WE X F b wb) (hm : behindInMarks .NotIn b = false) : WE X F (.Compare a [.NotIn] [b] pos) (wOp (fIn true) wa wb) := we_cmp (o_nin r) (od_in true) ha hb hm
theorem e_is (ha : WE X F a wa) (hb : WE X F b wb) (hm : behindInMarks .Is b = false) : WE X F (.Compare a [.Is] [b] pos) (wOp (fIs false) wa wb) := we_cmp o_is od_is ha hb hm
theorem e_isn (ha : WE X F a wa) (hb : WE X F b wb) (hm : behindInMarks .IsNot b = false) : WE X F (.Compare a [.IsNot] [b] pos) (wOp (fIs true) wa wb) := we_cmp o_isn od_isnot ha hb hm
theorem t_eq (r : X.A.units + 65 < cLine) (ha : WE X F a wa) (hb : WE X F b wb) (hm : behindInMarks .Eq b = false) : WT X F (.Compare a [.Eq] [b] pos) (wB (wOp (fEq false) wa wb)) := wt_cmp (o_eq r) od_eq ha hb hm
theorem t_ne (r : X.A.units + 65 < cLine) (ha : WE X F a wa) (hb : WE X F b wb) (hm : behindInMarks .NotEq b = false) : WT X F (.Compare a [.NotEq] [b] pos) (wB (wOp (fEq true) wa wb)) := wt_cmp (o_ne r) od_ne ha hb hm
theorem t_lt (ha : WE X F a wa) (hb : WE X F b wb) (hm : behindInMarks .Lt b = false) : WT X F (.Compare a [.Lt] [b] pos) (wB (wOp (fCmp cmpLt) wa wb)) := wt_cmp op_lt od_cmp ha hb hm
theorem t_le (ha : WE X F a wa) (hb : WE X F b wb) (hm : behindInMarks .LtE b = false) : WT X F (.Compare a [.LtE] [b] pos) (wB (wOp (fCmp cmpLe) wa wb)) := wt_cmp op_le od_cmp ha hb hm
theorem t_gt (ha : WE X F a wa) (hb : WE X F b wb) (hm : behindInMarks .Gt b = false) : WT X F (.Compare a [.Gt] [b] pos) (wB (wOp (fCmp cmpGt) wa wb)) := wt_cmp op_gt od_cmp ha hb hm
theorem t_ge (ha : WE X F a wa) (hb : WE X F b wb) (hm : behindInMarks .GtE b = false) : WT X F (.Compare a [.GtE] [b] pos) (wB (wOp (fCmp cmpGe) wa wb)) := wt_cmp op_ge od_cmp ha hb hm
theorem t_in (r : X.A.units + 65 < cLine) (ha : WE X F a wa) (hb : WE X F b wb) (hm : behindInMarks .In b = false) : WT X F (.Compare a [.In] [b] pos) (wB (wOp (fIn false) wa wb)) := wt_cmp (o_in r) (od_in false) ha hb hm
theorem t_nin (r : X.A.units + 65 < cLine) (ha : WE X F a wa) (hb : WE X F b wb) (hm : behindInMarks .NotIn b = false) : WT X F (.Compare a [.NotIn] [b] pos) (wB (wOp (fIn true) wa wb)) := wt_cmp (o_nin r) (od_in true) ha hb hm
theorem t_is (ha : WE X F a wa) (hb : WE X F b wb) (hm : behindInMarks .Is b = false) : WT X F (.Compare a [.Is] [b] pos) (wB (wOp (fIs false) wa wb)) := wt_cmp o_is od_is ha hb hm
theorem t_isn (ha : WE X F a wa) (hb : WE X F b wb) (hm : behindInMarks .IsNot b = false) : WT X F (.Compare a [.IsNot] [b] pos) (wB (wOp (fIs true) wa wb)) := wt_cmp o_isn od_isnot ha hb hm
/-! built-in functions -/
variable (hg : Gl X x) (hm : X.mg x = none)
theorem bt_len : bootBuiltins "len" = some (.builtin "len") := by decide +kernel
theorem bt_sum : bootBuiltins "sum" = some (.builtin "sum") := by decide +kernel
theorem bt_all : bootBuiltins "all" = some (.builtin "all") := by decide +kernel
theorem bt_any : bootBuiltins "any" = some (.builtin "any") := by decide +kernel
theorem bt_sorted : bootBuiltins "sorted" = some (.builtin "sorted") := by decide +kernel
theorem bt_min : bootBuiltins "min" = some (.builtin "min") := by decide +kernel
theorem bt_max : bootBuiltins "max" = some (.builtin "max") := by decide +kernel
theorem bt_list : bootBuiltins "list" = some (.type "list") := by decide +kernel
theorem bt_tuple : bootBuiltins "tuple" = some (.type "tuple") := by decide +kernel
theorem bt_dict : bootBuiltins "dict" = some (.type "dict") := by decide +kernel
theorem bt_int : bootBuiltins "int" = some (.type "int") := by decide +kernel
theorem bt_str : bootBuiltins "str" = some (.type "str") := by decide +kernel
theorem bt_bool : bootBuiltins "bool" = some (.type "bool") := by decide +kernel
theorem b_len (hg : Gl X "len") (hm : X.mg "len" = none) (ha : WA X F (e :: es) was) (hs : noStars (e :: es) = true) : WE X F (.Call (.Name "len" p) (e :: es) [] pos) (wFun fLen was) :=
  we_callB (call_lenRd.or call_len) cd_len hg hm bt_len ha hs (by decide) (by decide)
theorem b_sum (hc : X.calm = true) (hg : Gl X "sum") (hm : X.mg "sum" = none) (ha : WA X F (e :: es) was) (hs : noStars (e :: es) = true) : WE X F (.Call (.Name "sum" p) (e :: es) [] pos) (wFun fSum was) :=
  we_callB (cr_sumT hc) cd_sum hg hm bt_sum ha hs (by decide) (by decide)
theorem b_all (hc : X.calm = true) (hg : Gl X "all") (hm : X.mg "all" = none) (ha : WA X F (e :: es) was) (hs : noStars (e :: es) = true) : WE X F (.Call (.Name "all" p) (e :: es) [] pos) (wFun fAll was) :=
  we_callB (cr_all hc) cd_all hg hm bt_all ha hs (by decide) (by decide)
theorem b_any (hc : X.calm = true) (hg : Gl X "any") (hm : X.mg "any" = none) (ha : WA X F (e :: es) was) (hs : noStars (e :: es) = true) : WE X F (.Call (.Name "any" p) (e :: es) [] pos) (wFun fAny was) :=
  we_callB (cr_any hc) cd_any hg hm bt_any ha hs (by decide) (by decide)
theorem b_sorted {own : Bool} (hc : X.calm = true) (hg : Gl X "sorted") (hm : X.mg "sorted" = none) (ha : WA X F (e :: es) was) (hs : noStars (e :: es) = true) : WE X F (.Call (.Name "sorted" p) (e :: es) [] pos) (wFun (fSorted own) was) :=
  we_callB (cr_sortedI.or (call_sortedDI hc)) cd_sorted hg hm bt_sorted ha hs (by decide) (by decide)
theorem b_min (hc : X.calm = true) (hg : Gl X "min") (hm : X.mg "min" = none) (ha : WA X F (e :: es) was) (hs : noStars (e :: es) = true) : WE X F (.Call (.Name "min" p) (e :: es) [] pos) (wFun fMin was) :=
  we_callB ((call_min2 hc).or (cr_minT hc)) cd_min hg hm bt_min ha hs (by decide) (by decide)
theorem b_max (hc : X.calm = true) (hg : Gl X "max") (hm : X.mg "max" = none) (ha : WA X F (e :: es) was) (hs : noStars (e :: es) = true) : WE X F (.Call (.Name "max" p) (e :: es) [] pos) (wFun fMax was) :=
  we_callB ((call_max2 hc).or (cr_max hc)) cd_max hg hm bt_max ha hs (by decide) (by decide)
theorem b_list {own : Bool} (hc : X.calm = true) (hg : Gl X "list") (hm : X.mg "list" = none) (ha : WA X F (e :: es) was) (hs : noStars (e :: es) = true) : WE X F (.Call (.Name "list" p) (e :: es) [] pos) (wFun (fList own) was) :=
  we_callTy ((call_listD hc).or call_list_of) cd_list hg hm bt_list ha hs (by decide) (by decide)
theorem b_tuple (hg : Gl X "tuple") (hm : X.mg "tuple" = none) (ha : WA X F (e :: es) was) (hs : noStars (e :: es) = true) : WE X F (.Call (.Name "tuple" p) (e :: es) [] pos) (wFun fTuple was) :=
  we_callTy call_tuple_of cd_tuple hg hm bt_tuple ha hs (by decide) (by decide)
theorem b_dict {own : Bool} (hc : X.calm = true) (hg : Gl X "dict") (hm : X.mg "dict" = none) (ha : WA X F (e :: es) was) (hs : noStars (e :: es) = true) : WE X F (.Call (.Name "dict" p) (e :: es) [] pos) (wFun (fDict own) was) :=
  we_callTy (call_dictD.or (call_dictP hc)) cd_dict hg hm bt_dict ha hs (by decide) (by decide)
theorem b_int (hg : Gl X "int") (hm : X.mg "int" = none) (ha : WA X F (e :: es) was) (hs : noStars (e :: es) = true) : WE X F (.Call (.Name "int" p) (e :: es) [] pos) (wFun fInt was) :=
  we_callTy (call_int1.or call_int_str) cd_int hg hm bt_int ha hs (by decide) (by decide)
theorem b_str (hg : Gl X "str") (hm : X.mg "str" = none) (ha : WA X F (e :: es) was) (hs : noStars (e :: es) = true) : WE X F (.Call (.Name "str" p) (e :: es) [] pos) (wFun fStr was) :=
  we_callTy (call_str_int.or SkE.call_str_str) cd_str hg hm bt_str ha hs (by decide) (by decide)
theorem b_isTy {T : String} (hT : T ∈ tyBs) (he : WE X F e we) (hn : noStar e = true) (hg : Gl X "isinstance") (hm : X.mg "isinstance" = none) (hg2 : Gl X x) (hm2 : X.mg x = none) (hv : bootBuiltins x = some (.type T)) (hx : x ≠ "__name__") (hdb : (x == ("__debug__" : Str)) = false) :
    WE X F (.Call (.Name "isinstance" p) [e, .Name x p2] [] pos) (wIsTy T we) := we_isTy hT he hn hg hm hg2 hm2 hv hx hdb
/-! methods -/
variable (hb : baseOk o = true) (hl : (e :: es).length < 29) (hline : (apos.endLine == pos.line) = true)
theorem m_append (ho : WE X F o wo) (ha : WA X F (e :: es) was) (hb : baseOk o = true) (hn : noStars (e :: es) = true) (hl : (e :: es).length < 29) (hline : (apos.endLine == pos.line) = true) : WE X F (.Call (.Attribute o "append" apos) (e :: es) [] pos) (wMt "list" fAppend wo was) :=
  we_bm PySem.F.plainAttrs_list PySem.F.slot_list_append PySem.F.type_list_append mt_append md_append ho ha hb hn hl hline
theorem m_extend (ho : WE X F o wo) (ha : WA X F (e :: es) was) (hb : baseOk o = true) (hn : noStars (e :: es) = true) (hl : (e :: es).length < 29) (hline : (apos.endLine == pos.line) = true) : WE X F (.Call (.Attribute o "extend" apos) (e :: es) [] pos) (wMt "list" fExtend wo was) :=
  we_bm PySem.F.plainAttrs_list PySem.F.slot_list_extend PySem.F.type_list_extend mt_extend md_extend ho ha hb hn hl hline
theorem m_popL (ho : WE X F o wo) (ha : WA X F (e :: es) was) (hb : baseOk o = true) (hn : noStars (e :: es) = true) (hl : (e :: es).length < 29) (hline : (apos.endLine == pos.line) = true) : WE X F (.Call (.Attribute o "pop" apos) (e :: es) [] pos) (wMt "list" fPop wo was) :=
  we_bm PySem.F.plainAttrs_list PySem.F.slot_list_pop PySem.F.type_list_pop mt_popAt md_pop ho ha hb hn hl hline
theorem m_insert (ho : WE X F o wo) (ha : WA X F (e :: es) was) (hb : baseOk o = true) (hn : noStars (e :: es) = true) (hl : (e :: es).length < 29) (hline : (apos.endLine == pos.line) = true) : WE X F (.Call (.Attribute o "insert" apos) (e :: es) [] pos) (wMt "list" fInsert wo was) :=
  we_bm PySem.F.plainAttrs_list PySem.F.slot_list_insert PySem.F.type_list_insert mt_insert md_insert ho ha hb hn hl hline
theorem m_clearL (ho : WE X F o wo) (hb : baseOk o = true) (hline : (apos.endLine == pos.line) = true) : WE X F (.Call (.Attribute o "clear" apos) [] [] pos) (wMt "list" fClearL wo wNil) :=
  we_bm0 PySem.F.plainAttrs_list PySem.F.slot_list_clear PySem.F.type_list_clear mt_clear md_clearL ho hb hline
theorem m_count (r : X.A.units + 65 < cLine) (ho : WE X F o wo) (ha : WA X F (e :: es) was) (hb : baseOk o = true) (hn : noStars (e :: es) = true) (hl : (e :: es).length < 29) (hline : (apos.endLine == pos.line) = true) : WE X F (.Call (.Attribute o "count" apos) (e :: es) [] pos) (wMt "list" fCount wo was) :=
  we_bm PySem.F.plainAttrs_list PySem.F.slot_list_count PySem.F.type_list_count (mt_countD r) md_count ho ha hb hn hl hline
theorem m_index (r : X.A.units + 65 < cLine) (ho : WE X F o wo) (ha : WA X F (e :: es) was) (hb : baseOk o = true) (hn : noStars (e :: es) = true) (hl : (e :: es).length < 29) (hline : (apos.endLine == pos.line) = true) : WE X F (.Call (.Attribute o "index" apos) (e :: es) [] pos) (wMt "list" fIndex wo was) :=
  we_bm PySem.F.plainAttrs_list PySem.F.slot_list_index PySem.F.type_list_index (mt_indexD r) md_index ho ha hb hn hl hline
theorem m_get (r : X.A.units + 65 < cLine) (ho : WE X F o wo) (ha : WA X F (e :: es) was) (hb : baseOk o = true) (hn : noStars (e :: es) = true) (hl : (e :: es).length < 29) (hline : (apos.endLine == pos.line) = true) : WE X F (.Call (.Attribute o "get" apos) (e :: es) [] pos) (wMt "dict" fGet wo was) :=
  we_bm PySem.F.plainAttrs_dict PySem.F.slot_dict_get PySem.F.type_dict_get (mt_get2 (u1 r)) md_get ho ha hb hn hl hline
theorem m_setd (ho : WE X F o wo) (ha : WA X F (e :: es) was) (hb : baseOk o = true) (hn : noStars (e :: es) = true) (hl : (e :: es).length < 29) (hline : (apos.endLine == pos.line) = true) : WE X F (.Call (.Attribute o "setdefault" apos) (e :: es) [] pos) (wMt "dict" fSetd wo was) :=
  we_bm PySem.F.plainAttrs_dict PySem.F.slot_dict_setdefault PySem.F.type_dict_setdefault mt_setd md_setd ho ha hb hn hl hline
theorem m_popD (ho : WE X F o wo) (ha : WA X F (e :: es) was) (hb : baseOk o = true) (hn : noStars (e :: es) = true) (hl : (e :: es).length < 29) (hline : (apos.endLine == pos.line) = true) : WE X F (.Call (.Attribute o "pop" apos) (e :: es) [] pos) (wMt "dict" fPopD wo was) :=
  we_bm PySem.F.plainAttrs_dict PySem.F.slot_dict_pop PySem.F.type_dict_pop mt_popD md_popD ho ha hb hn hl hline
theorem m_update (ho : WE X F o wo) (ha : WA X F (e :: es) was) (hb : baseOk o = true) (hn : noStars (e :: es) = true) (hl : (e :: es).length < 29) (hline : (apos.endLine == pos.line) = true) : WE X F (.Call (.Attribute o "update" apos) (e :: es) [] pos) (wMt "dict" fUpdate wo was) :=
  we_bm PySem.F.plainAttrs_dict PySem.F.slot_dict_update PySem.F.type_dict_update mt_update md_update ho ha hb hn hl hline
theorem m_split {own : Bool} (ho : WE X F o wo) (ha : WA X F (e :: es) was) (hb : baseOk o = true) (hn : noStars (e :: es) = true) (hl : (e :: es).length < 29) (hline : (apos.endLine == pos.line) = true) : WE X F (.Call (.Attribute o "split" apos) (e :: es) [] pos) (wMt "str" (fSplit own) wo was) :=
  we_bm PySem.F.plainAttrs_str PySem.F.slot_str_split PySem.F.type_str_split mt_split md_split ho ha hb hn hl hline
theorem m_join (ho : WE X F o wo) (ha : WA X F (e :: es) was) (hb : baseOk o = true) (hn : noStars (e :: es) = true) (hl : (e :: es).length < 29) (hline : (apos.endLine == pos.line) = true) : WE X F (.Call (.Attribute o "join" apos) (e :: es) [] pos) (wMt "str" fJoin wo was) :=
  we_bm PySem.F.plainAttrs_str PySem.F.slot_str_join PySem.F.type_str_join mt_join md_join ho ha hb hn hl hline
/-- len(set(l)), l unlike numbers -/
def wLenSet (we : WpE) : WpE := fun ς S R RE => we ς S (fun x S1 => ∃ l ns, contOf S1 x = .l l ∧ intL l = some ns ∧ ns.Nodup ∧ ns.length ≤ 4000 ∧ R (.int (ns.length : Nat)) S1) RE
theorem b_lenSet (hc : X.calm = true) (hg : Gl X "len") (hm : X.mg "len" = none) (hg2 : Gl X "set") (hm2 : X.mg "set" = none) (ha : WE X F a wa) (hn : noStar a = true) : WE X F (.Call (.Name "len" p) [.Call (.Name "set" p2) [a] [] q] [] pos) (wLenSet wa) :=
  (RZ.pe_lenSetI hg hm hg2 hm2 ha hc (starEach_cons (es := []) hn)).imp fun σ H Q ⟨ς, S, R, g, k, hw, hR⟩ => by
    refine tE.mk g k hw fun x S1 v H1 h1 g1 k1 d1 r1 => ?_
    obtain ⟨l, ns, e1, e2, h2, h3, h1⟩ := h1
    obtain ⟨a, vs, rfl, hq, rl, _⟩ := lstSq_rep r1 g1.rel e1
    rw [intL_eq e2] at rl
    rw [rl.ints] at hq
    exact ⟨a, ns, rfl, hq, h2, h3, hR _ S1 _ H1 h1 g1.rel d1 (.int _)⟩
end
end SB
end

section
set_option Elab.async false
set_option linter.all false
set_option maxRecDepth 100000
set_option autoImplicit false
/-! SB15: tables of the text; the facts that the head tells. -/
namespace SB
open PySem PySem.Spec L2
/-! ### a written dict with text keys -/
def lookS (z : Str) : List (Str × He.Dv) → Option He.Dv
  | [] => none
  | (k, d) :: r => if k = z then some d else lookS z r
def entB (K : PySem.W.Frag) : List (Str × He.Dv) → List DictEntry → Bool
  | [], [] => true
  | (k, d) :: r, e :: es => (match e.key with
    | .str x _ => decide (x = k)
    | _ => false) && (He.relB (d.v K) e.val && entB K r es)
  | _, _ => false
def tabB (K : PySem.W.Frag) (x : Str) (tab : List (Str × He.Dv)) : Bool := match K.lookup (He.ga K x) with
  | some ⟨_, _, .dict es _, _⟩ => entB K tab es.toList
  | _ => false
theorem entB_ok {K : PySem.W.Frag} (z : Str) : ∀ {tab : List (Str × He.Dv)} {es : List DictEntry}, entB K tab es = true → match lookS z tab with
    | some d => ∃ e, es.find? (fun e => e.key.isStr z) = some e ∧ RelV (d.v K) e.val
    | none => es.find? (fun e => e.key.isStr z) = none ∧ es.any (·.refKey) = false
  | [], [], _ => ⟨rfl, rfl⟩
  | [], _ :: _, h => by cases h
  | _ :: _, [], h => by cases h
  | (k, d) :: r, e :: es, h => by
    simp only [entB, Bool.and_eq_true] at h
    obtain ⟨h1, h2, h3⟩ := h
    have ih := entB_ok z h3
    cases hk : e.key with
    | str x t =>
      rw [hk] at h1
      have hx : x = k := of_decide_eq_true h1
      subst hx
      unfold lookS
      by_cases hz : x = z
      · rw [if_pos hz]
        refine ⟨e, ?_, He.relB_ok h2⟩
        rw [List.find?_cons_of_pos]
        rw [hk]
        subst hz
        simp [Value.isStr]
      · rw [if_neg hz]
        have hs : (e.key.isStr z) = false := by
          rw [hk]
          simp [Value.isStr, hz]
        rw [List.find?_cons_of_neg (by rw [hs]; decide)]
        cases hl : lookS z r with
        | some d' => rw [hl] at ih; exact ih
        | none =>
          rw [hl] at ih
          refine ⟨ih.1, ?_⟩
          rw [List.any_cons, ih.2]
          simp [DictEntry.refKey, hk]
    | _ => rw [hk] at h1; cases h1
theorem tabB_ok {K : PySem.W.Frag} {x : Str} {tab : List (Str × He.Dv)} (h : tabB K x tab = true) (z : Str) : match lookS z tab with
    | some d => ∃ u, PySem.W.nsIn K (He.ga K x) z = some (some u) ∧ RelV (d.v K) u
    | none => PySem.W.nsIn K (He.ga K x) z = some none := by
  unfold tabB at h
  split at h
  · rename_i es n sl hl
    have q := entB_ok z h
    unfold PySem.W.nsIn
    rw [hl]
    dsimp only
    cases e : lookS z tab with
    | some d =>
      rw [e] at q
      obtain ⟨en, h1, h2⟩ := q
      dsimp only
      rw [h1]
      exact ⟨en.val, rfl, h2⟩
    | none =>
      rw [e] at q
      dsimp only
      rw [q.1, q.2]
      rfl
  · cases h
/-- the same, of a world: its hashes stand -/
structure KTab (K : PySem.W.Frag) (w : World) (x : Str) (tab : List (Str × He.Dv)) : Prop where
  at_ : ∃ es n, KDict K w (He.ga K x) es n
  b : tabB K x tab = true
/-- a written value that is no object -/
def dvD : He.Dv → Option D
  | .non => some .non
  | .bl b => some (.bl b)
  | .int i => some (.int i)
  | .str x => some (.str x)
  | _ => none
theorem dvD_rep {K : PySem.W.Frag} {S : Sto} {H : Hp} {v : He.Dv} {d : D} (h : dvD v = some d) : Rep K S H d (v.v K) := by
  cases v with
  | non => cases h; exact .non
  | bl b => cases h; exact .bl b
  | int i => cases h; exact .int i
  | str x => cases h; exact .str x
  | _ => cases h
/-- T.get(k, d), T such a dict -/
def wKGet (tab : List (Str × He.Dv)) (wa : WpA) : WpE := fun ς S R RE => wa ς S (fun xs S1 => ∃ z y, xs = [.str z, y] ∧ match lookS z tab with
  | some v => ∃ d, dvD v = some d ∧ R d S1
  | none => R y S1) RE
section
variable {X : Cx} {F : Fr} {pos p q apos cpos : Pos} {e e2 : Expr} {wa : WpA} {x : Str} {tab : List (Str × He.Dv)}
theorem b_kget (kt : KTab X.K X.w x tab) (hg : Gl X x) (hm : X.mg x = some (.ref (He.ga X.K x))) (hdb : (x == ("__debug__" : Str)) = false) (ha : WA X F [e, e2] wa) (hn : noStars [e, e2] = true) (hline : (apos.endLine == cpos.line) = true) :
    WE X F (.Call (.Attribute (.Name x p) "get" apos) [e, e2] [] cpos) (wKGet tab wa) := by
  refine ⟨fun pins s σ H Q I h => ?_⟩
  obtain ⟨ς, S, R, g, k, hw, hR⟩ := h
  obtain ⟨es, n, D⟩ := kt.at_
  refine wpAny_Call_method_late (attrBase rfl) (back_few hn (by show 2 < 29; decide)) hline rfl (ld_glob I hg hm ?_ hdb)
  have M := PySem.W.mapOf_K (prog := X.prog) (w := X.w) I.kIn D.at_ D.lit
  refine ⟨"dict", "dict.get", PySem.F.plainAttrs_dict, PySem.F.slot_dict_get, PySem.F.type_dict_get, M.typeIs, M.noDict, ?_⟩
  have hA := ha.run cpos pins s σ H (fun vs H1 => ∃ S1 z y u, Rel X.K S1 H1 ∧ Keep X.K S H S1 H1 ∧ vs = [.str z, u] ∧ Rep X.K S1 H1 y u ∧ match lookS z tab with
    | some v => ∃ d, dvD v = some d ∧ R d S1
    | none => R y S1) I (tA.mk g k hw fun xs S1 vs H1 h1 g1 k1 d1 r1 => by
      obtain ⟨z, y, rfl, h1⟩ := h1
      obtain ⟨v, u, rfl, r, r'⟩ := r1.two
      cases r
      exact ⟨S1, z, y, u, g1.rel, d1, rfl, r', h1⟩)
  have hn' : noStar e = true ∧ noStars [e2] = true := by simpa [noStars] using hn
  have hs := starEach_cons (es := [e2]) (env := X.env) hn'.1
  rw [hs] at hA ⊢
  refine Calls.callWith_builtin (by show (false || (backTo cpos (starEach [e2] X.env)).any (·.1)) = false; rw [back_any hn'.2] <;> rfl) (Calls.evalArgs_plain ?_)
  refine thn hA fun us s2 ⟨vs, H2, I2, r2, S1, z, y, u, rl, d1, ev, ry, h1⟩ => ?_
  subst ev
  obtain ⟨zu, yu, rfl, rz, ru⟩ := r2.two
  obtain ⟨t, rfl⟩ := rz
  have M2 := PySem.W.mapOf_K (prog := X.prog) (w := X.w) I2.kIn D.at_ D.lit
  refine call_meetsIn PySem.F.slot_dict_get M2.typeIs PySem.F.entry_dict_get (PySem.F.args_dict_get_3 _ _ _) (meets_dict_get_default (strKind X.prog X.w) (He.ga X.K x) (PySem.strKind_is X.prog X.w z t) D.low yu) ⟨_, M2, ?_⟩
  have nb := tabB_ok kt.b z
  cases hl : lookS z tab with
  | none =>
    rw [hl] at nb h1
    rw [PySem.W.find_K D.at_ nb]
    exact ⟨u, H2, I2.tok _, ru, hR _ S1 _ H2 h1 rl d1 ry⟩
  | some v =>
    rw [hl] at nb h1
    obtain ⟨w, e1, e2⟩ := nb
    obtain ⟨d, hd, h1⟩ := h1
    rw [PySem.W.find_K D.at_ e1]
    exact ⟨v.v X.K, H2, I2.tok _, e2, hR _ S1 _ H2 h1 rl d1 (dvD_rep hd)⟩
end

/-! ### the facts -/
def kitB2 (K : PySem.W.Frag) (sub : String → String → Bool) (cs : List String) : Bool := cs.all fun c => cs.all fun C => decide (PySem.W.kitOne K (.ref (clA K c)) (.ref (clA K C)) = some (sub c C))
def exmB (K : PySem.W.Frag) (cs : List String) : Bool := cs.all fun c => cs.all fun C => decide (PySem.W.exmOne K (.ref (clA K c)) (.ref (clA K C)) = some (subB c C))
def excB1 (K : PySem.W.Frag) (c : String) : Bool :=
  He.eqO (PySem.W.findIn K (.ref (clA K c)) "__getattribute__") (some (some (.builtin "BaseException.__getattribute__"))) && (He.eqO (PySem.W.findIn K (.ref (clA K c)) "__getattr__") (some none) &&
  (decide (PySem.W.subIn K (.ref (clA K c)) (.type "BaseException") = some true) && (PySem.W.hasDictIn K (clA K c) && (He.eqO (PySem.W.findIn K (.ref (clA K c)) "__class__") (some (some (.builtin "object.__class__"))) && decide (PySem.W.mroIn K (clA K c) (.type "object") = some true)))))
def getsetB (K : PySem.W.Frag) : Bool := decide (PySem.W.specialIn K (.builtin "object.__class__") "__get__" = some (some (.builtin "getset_descriptor.__get__"))) && decide (PySem.W.takesIn K (.builtin "object.__class__") = some true)
def clsB1 (K : PySem.W.Frag) (c : String) : Bool := He.eqO (PySem.W.findIn K (.ref (clA K c)) "__class__") (some (some (.builtin "object.__class__"))) && decide (PySem.W.mroIn K (clA K c) (.type "object") = some true)
theorem excT_of {K : PySem.W.Frag} {cs : List String} (h : exmB K cs = true) : ExcT K cs := ⟨fun c hc C hC => of_decide_eq_true (List.all_eq_true.mp (List.all_eq_true.mp h c hc) C hC)⟩
theorem excK_of {K : PySem.W.Frag} {cs : List String} (h : kitB2 K subB cs = true) (h1 : cs.all (excB1 K) = true) (h2 : getsetB K = true) : ExcK K cs where
  cl := fun c hc => by
    have q := List.all_eq_true.mp h1 c hc
    obtain ⟨q1, q⟩ := He.ba q
    obtain ⟨q2, q⟩ := He.ba q
    obtain ⟨q3, q⟩ := He.ba q
    obtain ⟨q4, q⟩ := He.ba q
    obtain ⟨q5, q6⟩ := He.ba q
    obtain ⟨z1, z2⟩ := He.ba h2
    exact ⟨He.eqO_ok q1, He.eqO_ok q2, of_decide_eq_true q3, q4, He.eqO_ok q5, of_decide_eq_true z1, of_decide_eq_true z2, of_decide_eq_true q6⟩
  kit := fun c hc C hC => of_decide_eq_true (List.all_eq_true.mp (List.all_eq_true.mp h c hc) C hC)
theorem clsK_of {K : PySem.W.Frag} {cs : List String} {sub : String → String → Bool} (h : kitB2 K sub cs = true) (h1 : cs.all (clsB1 K) = true) (h2 : getsetB K = true) : ClsK K cs sub where
  ha := fun c hc => He.eqO_ok (He.ba (List.all_eq_true.mp h1 c hc)).1
  hn := of_decide_eq_true (He.ba h2).1
  htk := of_decide_eq_true (He.ba h2).2
  hm := fun c hc => of_decide_eq_true (He.ba (List.all_eq_true.mp h1 c hc)).2
  kit := fun c hc C hC => of_decide_eq_true (List.all_eq_true.mp (List.all_eq_true.mp h c hc) C hC)
theorem exOk_of {K : PySem.W.Frag} {c : String} (h : (He.Fa.exc (Str.ofString c)).ok K = true) : ExOk K c := by
  obtain ⟨h1, h2, h3, h4⟩ := He.exc_ok h
  exact ⟨h1, h2, h3, h4⟩
/-! methods' tables -/
section
variable {P : Program} {w : World} {K : PySem.W.Frag} {mg : Str → Option Value} {base : Heap} {k : Nat} {m : Str}
theorem mts_nil : ∀ (c : String) (nd : Nat × List D × Spec), ([] : List (String × Nat × List D × Spec)).lookup c = some nd → MtBd P w K mg base k (clA K c) m nd.1 nd.2.1 nd.2.2 := fun c nd h => by cases h
theorem mts_cons {c0 : String} {n : Nat} {dds : List D} {φ : Spec} {cs : List (String × Nat × List D × Spec)} (h : MtBd P w K mg base k (clA K c0) m n dds φ) (r : ∀ c nd, cs.lookup c = some nd → MtBd P w K mg base k (clA K c) m nd.1 nd.2.1 nd.2.2) :
    ∀ c nd, ((c0, n, dds, φ) :: cs).lookup c = some nd → MtBd P w K mg base k (clA K c) m nd.1 nd.2.1 nd.2.2 := fun c nd e => by
  rw [List.lookup_cons] at e
  by_cases hc : c == c0
  · rw [hc] at e
    cases e
    rw [beq_iff_eq.mp hc]
    exact h
  · rw [Bool.eq_false_iff.mpr hc] at e
    exact r c nd e
end
end SB
end

section
set_option Elab.async false
set_option linter.all false
set_option maxRecDepth 100000
set_option autoImplicit false
/-! SB16: the wishes unfolded; plain data; for the laws' own part. -/
namespace SB
open PySem PySem.Spec L2
section
variable {ς : En} {S : Sto} {R : Pd} {RE : Px} {E : ES} {XE : PxE} {wa wb wc we wo wi' : WpE} {was wr : WpA} {a b u : WpS} {wt : WpT}
@[simp] theorem s_var {i : Nat} : wVar i ς S R RE = ∃ x, ς[i]? = some (some x) ∧ R x S := rfl
@[simp] theorem s_c {d : D} : wC d ς S R RE = R d S := rfl
@[simp] theorem s_op {f : D → D → Sto → Pd → Prop} : wOp f wa wb ς S R RE = wa ς S (fun x S1 => wb ς S1 (fun y S2 => f x y S2 R) RE) RE := rfl
@[simp] theorem s_un {f : D → Sto → Pd → Prop} : wUn f wa ς S R RE = wa ς S (fun x S1 => f x S1 R) RE := rfl
@[simp] theorem s_B {R : Bool → Sto → Prop} : wB we ς S R RE = we ς S (fun x S1 => ∃ b, x = .bl b ∧ R b S1) RE := rfl
@[simp] theorem s_and : wAnd wa wb ς S R RE = wa ς S (fun x S1 => ∃ b, x = .bl b ∧ if b = true then wb ς S1 R RE else R (.bl false) S1) RE := rfl
@[simp] theorem s_or : wOr wa wb ς S R RE = wa ς S (fun x S1 => ∃ b, x = .bl b ∧ if b = true then R (.bl true) S1 else wb ς S1 R RE) RE := rfl
@[simp] theorem s_not : wNot wa ς S R RE = wa ς S (fun x S1 => ∃ b, x = .bl b ∧ R (.bl (!b)) S1) RE := rfl
@[simp] theorem s_ite : wIte wc wa wb ς S R RE = wc ς S (fun x S1 => ∃ b, x = .bl b ∧ if b = true then wa ς S1 R RE else wb ς S1 R RE) RE := rfl
@[simp] theorem s_chain {f f' : D → D → Sto → Pd → Prop} : wChain f f' wa wb wc ς S R RE = wa ς S (fun x S1 => wb ς S1 (fun y S2 => f x y S2 fun z S3 => ∃ k, z = .bl k ∧ if k = true then wc ς S3 (fun v S4 => f' y v S4 R) RE else R (.bl false) S3) RE) RE := rfl
@[simp] theorem s_nil {R : List D → Sto → Prop} : wNil ς S R RE = R [] S := rfl
@[simp] theorem s_cons {R : List D → Sto → Prop} : wCons wa wr ς S R RE = wa ς S (fun x S1 => wr ς S1 (fun xs S2 => R (x :: xs) S2) RE) RE := rfl
@[simp] theorem s_tup : wTup was ς S R RE = was ς S (fun xs S1 => xs.length ≤ sizeLine ∧ R (.tup xs) S1) RE := rfl
@[simp] theorem s_lst {own : Bool} : wLst own was ς S R RE = was ς S (fun xs S1 => mkL own xs S1 R) RE := rfl
/-- an attribute's value -/
def fget (f : String) (x : D) (S : Sto) (R : Pd) : Prop := ∃ c fs v, insOf S x = some (c, fs) ∧ look f fs = some v ∧ R v S
@[simp] theorem s_fld {f : String} : wFld f wa ς S R RE = wa ς S (fun x S1 => fget f x S1 R) RE := rfl
@[simp] theorem s_call {φ : Spec} {dds : List D} : wCall φ dds was ς S R RE = was ς S (fun xs S1 => φ (xs ++ dds) S1 R RE) RE := rfl
@[simp] theorem s_fun {f : List D → Sto → Pd → Prop} : wFun f was ς S R RE = was ς S (fun xs S1 => f xs S1 R) RE := rfl
@[simp] theorem s_isTy {T : String} : wIsTy T we ς S R RE = we ς S (fun x S1 => ∃ t, tyD S1 x = some t ∧ R (.bl (tySub t T)) S1) RE := rfl
@[simp] theorem s_mt {T : String} {f : D → List D → Sto → Pd → Prop} : wMt T f wo was ς S R RE = wo ς S (fun x S1 => tyM T S1 x = true ∧ was ς S1 (fun xs S2 => f x xs S2 R) RE) RE := rfl
@[simp] theorem s_src {R : List D → Option (Addr × SO) → Sto → Prop} : wSrc we ς S R RE = we ς S (fun x S1 => ∃ l gd, srcOf S1 x = some (l, gd) ∧ R l gd S1) RE := rfl
@[simp] theorem s_yes {R : Bool → Sto → Prop} : wYes ς S R RE = R true S := rfl
@[simp] theorem s_seq : wSeq a b ς S E XE = a ς S { E with nx := fun ς' S' => b ς' S' E XE } XE := rfl
@[simp] theorem s_expr : wExpr we ς S E XE = we ς S (fun _ S1 => E.nx ς S1) (fun c S' => XE c ς S') := rfl
@[simp] theorem s_ret : wRet we ς S E XE = we ς S (fun x S1 => E.rt x S1) (fun c S' => XE c ς S') := rfl
@[simp] theorem s_nx : wNx ς S E XE = E.nx ς S := rfl
@[simp] theorem s_if : wIf wt a b ς S E XE = wt ς S (fun k S1 => if k = true then a ς S1 E XE else b ς S1 E XE) (fun c S' => XE c ς S') := rfl
@[simp] theorem s_set {i : Nat} : wSet i we ς S E XE = we ς S (fun x S1 => E.nx (ς.set i (some x)) S1) (fun c S' => XE c ς S') := rfl
@[simp] theorem s_asg {t : Tg} : wAsg t we ς S E XE = we ς S (fun x S1 => ∃ ς', t.bind x ς = some ς' ∧ E.nx ς' S1) (fun c S' => XE c ς S') := rfl
@[simp] theorem s_raise {c : String} : wRaise c ς S E XE = XE c ς S := rfl
@[simp] theorem s_lc {own : Bool} {wi : WpI} {t : Tg} {vs : List Nat} : wLc own wi t wt we vs ς S R RE = wi ς S (fun xs gd S1 => ∀ p, S1 p = none → lcL gd t wt we p (wipeE ς vs) xs [] (S1.set p (.lst [])) (lcEnd own p R)) RE := rfl
@[simp] theorem s_lenSet : wLenSet we ς S R RE = we ς S (fun x S1 => ∃ l ns, contOf S1 x = .l l ∧ intL l = some ns ∧ ns.Nodup ∧ ns.length ≤ 4000 ∧ R (.int (ns.length : Nat)) S1) RE := rfl
@[simp] theorem s_bindN {i : Nat} {d : D} : Tg.bind (.nm i) d ς = some (ς.set i (some d)) := rfl
@[simp] theorem s_bindT {ts : Tgs} {l : List D} : Tg.bind (.tup ts) (.tup l) ς = Tgs.bind ts l ς := rfl
@[simp] theorem s_bindNil : Tgs.bind .nil [] ς = some ς := rfl
@[simp] theorem s_bindCons {t : Tg} {ts : Tgs} {x : D} {xs : List D} : Tgs.bind (.cons t ts) (x :: xs) ς = match Tg.bind t x ς with
    | some ς1 => Tgs.bind ts xs ς1
    | none => none := rfl
end
section
variable {S : Sto} {R : Pd}
@[simp] theorem f_addI {own : Bool} {i j : Int} : fAdd own (.int i) (.int j) S R = R (.int (i + j)) S := rfl
@[simp] theorem f_addT {own : Bool} {l m : List D} : fAdd own (.tup l) (.tup m) S R = (l.length + m.length ≤ sizeLine ∧ R (.tup (l ++ m)) S) := rfl
@[simp] theorem f_addL {own : Bool} {l m : List D} : fAdd own (.lst l) (.lst m) S R = (mkL own (l ++ m) S R) := by
  unfold fAdd; simp [lstOf]
@[simp] theorem f_sub {i j : Int} : fSub (.int i) (.int j) S R = R (.int (i - j)) S := rfl
@[simp] theorem f_mul {own : Bool} {i j : Int} : fMul own (.int i) (.int j) S R = (L2.CMul i j ∧ R (.int (i * j)) S) := rfl
@[simp] theorem f_div {i j : Int} : fDiv (.int i) (.int j) S R = ((0 < j ∧ j.natAbs.log2 < 9000) ∧ R (.int (i / j)) S) := rfl
@[simp] theorem f_mod {i j : Int} : fMod (.int i) (.int j) S R = (0 < j ∧ R (.int (i % j)) S) := rfl
@[simp] theorem f_pow {i j : Int} : fPow (.int i) (.int j) S R = (L2.CPow i j ∧ R (.int (i ^ j.toNat)) S) := rfl
@[simp] theorem f_cmp {p : Int → Int → Bool} {i j : Int} : fCmp p (.int i) (.int j) S R = R (.bl (p i j)) S := rfl
@[simp] theorem f_mkL {l : List D} : mkL false l S R = (l.length ≤ sizeLine ∧ R (.lst l) S) := rfl
@[simp] theorem f_mkLo {l : List D} : mkL true l S R = (l.length ≤ sizeLine ∧ ∀ p, S p = none → R (.ref p) (S.set p (.lst l))) := rfl
@[simp] theorem f_mkD {l : List (Key × D)} : mkD false l S R = (l.length ≤ sizeLine ∧ R (.dct l) S) := rfl
@[simp] theorem f_mkDo {l : List (Key × D)} : mkD true l S R = (l.length ≤ sizeLine ∧ ∀ p, S p = none → R (.ref p) (S.set p (.dct l))) := rfl
end
@[simp] theorem Rz_now {R : Pd} {x : D} {S : Sto} (h : R x S) : Rz R x S := .now h
@[simp] theorem ex2 {α β : Type} {a : α} {b : β} {P : α → β → Prop} : (∃ l g, (a = l ∧ b = g) ∧ P l g) ↔ P a b := ⟨fun ⟨_, _, ⟨rfl, rfl⟩, h⟩ => h, fun h => ⟨a, b, ⟨rfl, rfl⟩, h⟩⟩
@[simp] theorem ex3 {α β γ : Type} {a : α} {b : β} {P : α → β → γ → Prop} : (∃ l g v, (a = l ∧ b = g) ∧ P l g v) ↔ ∃ v, P a b v := ⟨fun ⟨_, _, v, ⟨rfl, rfl⟩, h⟩ => ⟨v, h⟩, fun ⟨v, h⟩ => ⟨a, b, v, ⟨rfl, rfl⟩, h⟩⟩

/-! ### plain data without truths -/
mutual
def pl : D → Bool
  | .non => true
  | .int _ => true
  | .str x => PyData.strOk x
  | .tup l => plL l
  | .lst l => plL l
  | .bl _ => false
  | .scr _ => false
  | .dct _ => false
  | .ins _ _ => false
  | .ref _ => false
  | .exc _ => false
def plL : List D → Bool
  | [] => true
  | x :: r => pl x && plL r
end
mutual
def dp : D → Nat
  | .tup l => dpL l + 1
  | .lst l => dpL l + 1
  | .non => 0
  | .int _ => 0
  | .str _ => 0
  | .bl _ => 0
  | .scr _ => 0
  | .dct _ => 0
  | .ins _ _ => 0
  | .ref _ => 0
  | .exc _ => 0
def dpL : List D → Nat
  | [] => 0
  | x :: r => max (dp x) (dpL r)
end
mutual
theorem pl_lay : ∀ x : D, pl x = true → (pyD x).canLay0 = true ∧ (pyD x).depth = dp x
  | .non, _ => by simp [pyD, dp, PyData.canLay0, PyData.depth]
  | .int _, _ => by simp [pyD, dp, PyData.canLay0, PyData.depth]
  | .str _, h => by simp [pyD, dp, PyData.canLay0, PyData.depth]; exact h
  | .tup l, h => by
    rw [pl] at h
    have := plL_lay l h
    simp [pyD, dp, PyData.canLay0, PyData.depth, this]
  | .lst l, h => by
    rw [pl] at h
    have := plL_lay l h
    simp [pyD, dp, PyData.canLay0, PyData.depth, this]
  | .bl _, h => (Bool.false_ne_true h).elim
  | .scr _, h => (Bool.false_ne_true h).elim
  | .dct _, h => (Bool.false_ne_true h).elim
  | .ins _ _, h => (Bool.false_ne_true h).elim
  | .ref _, h => (Bool.false_ne_true h).elim
  | .exc _, h => (Bool.false_ne_true h).elim
theorem plL_lay : ∀ l : List D, plL l = true → PyData.canLayAll0 (pyL l) = true ∧ PyData.depthAll (pyL l) = dpL l
  | [], _ => by simp [pyL, dpL, PyData.canLayAll0, PyData.depthAll]
  | x :: r, h => by
    rw [plL, Bool.and_eq_true] at h
    have h1 := pl_lay x h.1
    have h2 := plL_lay r h.2
    simp [pyL, dpL, PyData.canLayAll0, PyData.depthAll, h1, h2]
end
theorem ok_pl {x : D} (h : pl x = true) (hd : dp x ≤ 64) : okD x = true := by
  unfold okD SeqAt.shaped
  have := pl_lay x h
  simp [this, hd]
mutual
theorem eqv_pl : ∀ x y : D, pl x = true → pl y = true → PyData.eqv (pyD x) (pyD y) = true → x = y
  | .non, .non, _, _, _ => rfl
  | .int i, .int j, _, _, h => by simp [pyD, PyData.eqv] at h; rw [h]
  | .str a, .str b, _, _, h => by simp [pyD, PyData.eqv] at h; rw [h]
  | .tup l, .tup m, h1, h2, h => by
    rw [pl] at h1 h2
    simp only [pyD, PyData.eqv] at h
    rw [eqvL_pl l m h1 h2 h]
  | .lst l, .lst m, h1, h2, h => by
    rw [pl] at h1 h2
    simp only [pyD, PyData.eqv] at h
    rw [eqvL_pl l m h1 h2 h]
  | .non, .int _, _, _, h => (Bool.false_ne_true h).elim
  | .non, .str _, _, _, h => (Bool.false_ne_true h).elim
  | .non, .tup _, _, _, h => (Bool.false_ne_true h).elim
  | .non, .lst _, _, _, h => (Bool.false_ne_true h).elim
  | .int _, .non, _, _, h => (Bool.false_ne_true h).elim
  | .int _, .str _, _, _, h => (Bool.false_ne_true h).elim
  | .int _, .tup _, _, _, h => (Bool.false_ne_true h).elim
  | .int _, .lst _, _, _, h => (Bool.false_ne_true h).elim
  | .str _, .non, _, _, h => (Bool.false_ne_true h).elim
  | .str _, .int _, _, _, h => (Bool.false_ne_true h).elim
  | .str _, .tup _, _, _, h => (Bool.false_ne_true h).elim
  | .str _, .lst _, _, _, h => (Bool.false_ne_true h).elim
  | .tup _, .non, _, _, h => (Bool.false_ne_true h).elim
  | .tup _, .int _, _, _, h => (Bool.false_ne_true h).elim
  | .tup _, .str _, _, _, h => (Bool.false_ne_true h).elim
  | .tup _, .lst _, _, _, h => (Bool.false_ne_true h).elim
  | .lst _, .non, _, _, h => (Bool.false_ne_true h).elim
  | .lst _, .int _, _, _, h => (Bool.false_ne_true h).elim
  | .lst _, .str _, _, _, h => (Bool.false_ne_true h).elim
  | .lst _, .tup _, _, _, h => (Bool.false_ne_true h).elim
  | .bl _, _, h, _, _ => (Bool.false_ne_true h).elim
  | .scr _, _, h, _, _ => (Bool.false_ne_true h).elim
  | .dct _, _, h, _, _ => (Bool.false_ne_true h).elim
  | .ins _ _, _, h, _, _ => (Bool.false_ne_true h).elim
  | .ref _, _, h, _, _ => (Bool.false_ne_true h).elim
  | .exc _, _, h, _, _ => (Bool.false_ne_true h).elim
  | _, .bl _, _, h, _ => (Bool.false_ne_true h).elim
  | _, .scr _, _, h, _ => (Bool.false_ne_true h).elim
  | _, .dct _, _, h, _ => (Bool.false_ne_true h).elim
  | _, .ins _ _, _, h, _ => (Bool.false_ne_true h).elim
  | _, .ref _, _, h, _ => (Bool.false_ne_true h).elim
  | _, .exc _, _, h, _ => (Bool.false_ne_true h).elim
theorem eqvL_pl : ∀ l m : List D, plL l = true → plL m = true → PyData.eqvAll (pyL l) (pyL m) = true → l = m
  | [], [], _, _, _ => rfl
  | [], _ :: _, _, _, h => by simp [pyL, PyData.eqvAll] at h
  | _ :: _, [], _, _, h => by simp [pyL, PyData.eqvAll] at h
  | x :: l, y :: m, h1, h2, h => by
    rw [plL, Bool.and_eq_true] at h1 h2
    simp only [pyL, PyData.eqvAll, Bool.and_eq_true] at h
    rw [eqv_pl x y h1.1 h2.1 h.1, eqvL_pl l m h1.2 h2.2 h.2]
end
theorem dEq_pl {x y : D} (hx : pl x = true) (hy : pl y = true) : dEq x y = true ↔ x = y := by
  constructor
  · exact eqv_pl x y hx hy
  · intro e; subst e; exact SeqAt.eqv_refl _ (pl_lay x hx).1
theorem dEq_no {x y : D} (hx : pl x = true) (hy : pl y = true) (h : x ≠ y) : dEq x y = false := Bool.eq_false_iff.mpr fun e => h ((dEq_pl hx hy).mp e)
theorem dEq_self {x : D} (hx : pl x = true) : dEq x x = true := (dEq_pl hx hx).mpr rfl
@[simp] theorem view_tup {S : Sto} {l : List D} : view S (.tup l) = .tup l := rfl
@[simp] theorem view_lst {S : Sto} {l : List D} : view S (.lst l) = .lst l := rfl
@[simp] theorem view_int {S : Sto} {i : Int} : view S (.int i) = .int i := rfl
@[simp] theorem view_str {S : Sto} {i : Str} : view S (.str i) = .str i := rfl
@[simp] theorem view_non {S : Sto} : view S .non = .non := rfl
@[simp] theorem view_bl {S : Sto} {i : Bool} : view S (.bl i) = .bl i := rfl
theorem okI (i : Int) : okD (.int i) = true := by simp [okD, SeqAt.shaped, pyD, PyData.canLay0, PyData.depth]
theorem okS (i : Str) (h : PyData.strOk i = true) : okD (.str i) = true := by simp [okD, SeqAt.shaped, pyD, PyData.canLay0, PyData.depth, h]
theorem okN : okD .non = true := by simp [okD, SeqAt.shaped, pyD, PyData.canLay0, PyData.depth]
theorem okB (b : Bool) : okD (.bl b) = true := by simp [okD, SeqAt.shaped, pyD, PyData.canLay0, PyData.depth]
@[simp] theorem f_eqI {neg : Bool} {i j : Int} {S : Sto} {R : Pd} : fEq neg (.int i) (.int j) S R = R (.bl (neg ^^ decide (i = j))) S := by
  have e : dEq (.int i) (.int j) = decide (i = j) := by
    by_cases h : i = j
    · subst h; simp [dEq, pyD, PyData.eqv]
    · simp [dEq, pyD, PyData.eqv, h]
  simp only [fEq, view_int, okI, true_and, e]
theorem f_eqS {neg : Bool} {i j : Str} {S : Sto} {R : Pd} (hi : PyData.strOk i = true) (hj : PyData.strOk j = true) : fEq neg (.str i) (.str j) S R = R (.bl (neg ^^ decide (i = j))) S := by
  have e : dEq (.str i) (.str j) = decide (i = j) := by
    by_cases h : i = j
    · subst h; simp [dEq, pyD, PyData.eqv]
    · simp [dEq, pyD, PyData.eqv, h]
  simp only [fEq, view_str, okS i hi, okS j hj, true_and, e]
theorem f_eqP {neg : Bool} {x y : D} {S : Sto} {R : Pd} (hx : pl x = true) (hy : pl y = true) (dx : dp x ≤ 64) (dy : dp y ≤ 64) (h : ∀ b, (b = true ↔ x = y) → R (.bl (neg ^^ b)) S) : fEq neg x y S R := by
  have vx : view S x = x := by cases x <;> first | rfl | simp [pl] at hx
  have vy : view S y = y := by cases y <;> first | rfl | simp [pl] at hy
  unfold fEq
  rw [vx, vy]
  exact ⟨ok_pl hx dx, ok_pl hy dy, h _ (dEq_pl hx hy)⟩
@[simp] theorem strOk_of (s : String) : PyData.strOk (Str.ofString s) = true := by
  rw [Str.ofString_eq_toList]
  unfold PyData.strOk
  simp only [List.all_toArray, List.all_map, List.all_eq_true, Function.comp]
  intro c _
  have := c.valid
  simp only [UInt32.isValidChar, Nat.isValidChar] at this
  show decide (c.val.toNat < 1114112) = true
  rw [decide_eq_true_iff]
  omega
@[simp] theorem ofString_eq' {a b : String} : Str.ofString a = Str.ofString b ↔ a = b := ofString_eq
@[simp] theorem f_eqSS {neg : Bool} {i j : String} {S : Sto} {R : Pd} : fEq neg (.str (Str.ofString i)) (.str (Str.ofString j)) S R = R (.bl (neg ^^ decide (i = j))) S := by
  rw [f_eqS (strOk_of i) (strOk_of j)]
  congr 3
  exact decide_eq_decide.mpr ofString_eq
section
variable {S : Sto} {R : Pd} {l : List D} {z : Str} {d : List (Key × D)}
@[simp] theorem contOf_tup : contOf S (.tup l) = .t l := rfl
@[simp] theorem contOf_lst : contOf S (.lst l) = .l l := rfl
@[simp] theorem contOf_scr : contOf S (.scr l) = .l l := rfl
@[simp] theorem contOf_str : contOf S (.str z) = .s z := rfl
@[simp] theorem contOf_dct : contOf S (.dct d) = .d d := rfl
theorem contOf_refL {a : Addr} (h : S a = some (.lst l)) : contOf S (.ref a) = .l l := by simp [contOf, h]
theorem contOf_refD {a : Addr} (h : S a = some (.dct d)) : contOf S (.ref a) = .d d := by simp [contOf, h]
@[simp] theorem srcOf_tup : srcOf S (.tup l) = some (l, none) := rfl
@[simp] theorem srcOf_lst : srcOf S (.lst l) = some (l, none) := rfl
@[simp] theorem srcOf_scr : srcOf S (.scr l) = some (l, none) := rfl
@[simp] theorem srcOf_str : srcOf S (.str z) = some (chsD z, none) := rfl
theorem srcOf_ref {a : Addr} (h : S a = some (.lst l)) : srcOf S (.ref a) = some (l, some (a, .lst l)) := by simp [srcOf, h]
@[simp] theorem tyD_tup : tyD S (.tup l) = some "tuple" := rfl
@[simp] theorem tyD_lst : tyD S (.lst l) = some "list" := rfl
@[simp] theorem tyD_dct : tyD S (.dct d) = some "dict" := rfl
@[simp] theorem tyD_str : tyD S (.str z) = some "str" := rfl
@[simp] theorem tyD_int {i : Int} : tyD S (.int i) = some "int" := rfl
@[simp] theorem tyD_bl {i : Bool} : tyD S (.bl i) = some "bool" := rfl
@[simp] theorem tyD_non : tyD S .non = some "NoneType" := rfl
@[simp] theorem insOf_ins {c : String} {fs : List (String × D)} : insOf S (.ins c fs) = some (c, fs) := rfl
@[simp] theorem seqOf_tup : seqOf S (.tup l) = some l := rfl
@[simp] theorem seqOf_lst : seqOf S (.lst l) = some l := rfl
@[simp] theorem lstOf_lst : lstOf S (.lst l) = some l := rfl
@[simp] theorem f_lenT : fLen [.tup l] S R = R (.int l.length) S := rfl
@[simp] theorem f_lenL : fLen [.lst l] S R = R (.int l.length) S := rfl
@[simp] theorem f_lenSc : fLen [.scr l] S R = R (.int l.length) S := rfl
@[simp] theorem f_ixT {i : Int} : fIx (.tup l) (.int i) S R = ∃ v, L2.atI l i = some v ∧ R v S := by simp [fIx]
@[simp] theorem f_ixL {i : Int} : fIx (.lst l) (.int i) S R = ∃ v, L2.atI l i = some v ∧ R v S := by simp [fIx]
@[simp] theorem f_ixSc {i : Int} : fIx (.scr l) (.int i) S R = ∃ v, L2.atI l i = some v ∧ R v S := by simp [fIx]
@[simp] theorem f_ixD {k : Str} : fIx (.dct d) (.str k) S R = ∃ v, lookK (.inr k) d = some v ∧ R v S := by simp [fIx, keyOf]
@[simp] theorem f_countL {y : D} : fCount (.lst l) [y] S R = (okD (.lst l) = true ∧ okD y = true ∧ R (.int ((l.countP fun z => dEq z y : Nat) : Int)) S) := by simp [fCount]
@[simp] theorem f_sumT : fSum [.tup l] S R = ∃ ns, intL l = some ns ∧ R (.int ns.sum) S := by simp [fSum]
@[simp] theorem f_sumL : fSum [.lst l] S R = ∃ ns, intL l = some ns ∧ R (.int ns.sum) S := by simp [fSum]
theorem fAll_yes (h : ∀ x ∈ l, x = .bl true) (hR : R (.bl true) S) : fAll [.lst l] S R := by
  have : ∀ l : List D, (∀ x ∈ l, x = .bl true) → blL l = some (l.map fun _ => true) := fun l => by
    induction l with
    | nil => intro _; rfl
    | cons x r ih =>
      intro h
      rw [h x List.mem_cons_self]
      simp [blL, ih fun y hy => h y (List.mem_cons_of_mem _ hy)]
  refine ⟨l, _, rfl, this l h, ?_⟩
  rw [List.all_eq_true.mpr (by intro x hx; simp at hx; simp [hx])]
  exact hR
theorem intL_mapF {α : Type} {f : α → D} {g : α → Int} : ∀ {m : List α}, (∀ x ∈ m, f x = .int (g x)) → intL (m.map f) = some (m.map g)
  | [], _ => rfl
  | x :: r, h => by
    rw [List.map_cons, h x List.mem_cons_self]
    simp [intL, intL_mapF fun y hy => h y (List.mem_cons_of_mem _ hy)]
@[simp] theorem tyM_lst : tyM "list" S (.lst l) = true := rfl
@[simp] theorem tyM_dct : tyM "dict" S (.dct d) = true := rfl
@[simp] theorem tyM_str : tyM "str" S (.str z) = true := rfl
theorem tyM_refL {a : Addr} (h : S a = some (.lst l)) : tyM "list" S (.ref a) = true := by simp [tyM, contOf, h]
theorem tyM_refD {a : Addr} (h : S a = some (.dct d)) : tyM "dict" S (.ref a) = true := by simp [tyM, contOf, h]
end
/-- a comprehension over a frozen list whose element is pure -/
theorem lc_pure {t : Tg} {we : WpE} {p : Addr} {ς : En} {S0 : Sto} (f : D → D) : ∀ {xs acc : List D} {K : List D → Sto → Prop}, xs.length + acc.length ≤ sizeLine →
    (∀ x ∈ xs, ∃ ς1, t.bind x ς = some ς1 ∧ ∀ (S : Sto) (R : Pd), R (f x) S → we ς1 S R (fun _ _ => False)) → K (acc ++ xs.map f) (S0.set p (.lst (acc ++ xs.map f))) → lcL none t wYes we p ς xs acc (S0.set p (.lst acc)) K
  | [], acc, K, _, _, h => ⟨trivial, by simp, by simpa using h⟩
  | x :: xs, acc, K, hl, hx, h => by
    obtain ⟨ς1, e1, h1⟩ := hx x List.mem_cons_self
    refine ⟨trivial, ς1, e1, ?_⟩
    simp only [s_yes, if_true]
    refine h1 _ _ ?_
    refine ⟨by simp, by simp at hl; omega, ?_⟩
    rw [Sto.set_set]
    refine lc_pure f (by simp at hl ⊢; omega) (fun y hy => hx y (List.mem_cons_of_mem _ hy)) ?_
    simpa using h
theorem lc_frozen {t : Tg} {we : WpE} {ς : En} {S : Sto} {R : Pd} {xs : List D} (f : D → D) (hl : xs.length ≤ sizeLine)
    (hx : ∀ x ∈ xs, ∃ ς1, t.bind x ς = some ς1 ∧ ∀ (S : Sto) (R : Pd), R (f x) S → we ς1 S R (fun _ _ => False)) (h : R (.lst (xs.map f)) S) (p : Addr) (hp : S p = none) : lcL none t wYes we p ς xs [] (S.set p (.lst [])) (lcEnd false p R) := by
  refine lc_pure f (by simpa using hl) hx ?_
  show R _ _
  simpa [Sto.del_none hp] using h
/-- .. over a list of things of a kind -/
theorem lc_map {α : Type} {g : α → D} {t : Tg} {we : WpE} {ς : En} {S : Sto} {R : Pd} {xs : List α} (f : α → D) (hl : xs.length ≤ sizeLine)
    (hx : ∀ x ∈ xs, ∃ ς1, t.bind (g x) ς = some ς1 ∧ ∀ (S : Sto) (R : Pd), R (f x) S → we ς1 S R (fun _ _ => False)) (h : R (.lst (xs.map f)) S) (p : Addr) (hp : S p = none) : lcL none t wYes we p ς (xs.map g) [] (S.set p (.lst [])) (lcEnd false p R) := by
  have gen : ∀ (xs : List α) (acc : List D) (K : List D → Sto → Prop), xs.length + acc.length ≤ sizeLine → (∀ x ∈ xs, ∃ ς1, t.bind (g x) ς = some ς1 ∧ ∀ (S : Sto) (R : Pd), R (f x) S → we ς1 S R (fun _ _ => False)) →
      K (acc ++ xs.map f) (S.set p (.lst (acc ++ xs.map f))) → lcL none t wYes we p ς (xs.map g) acc (S.set p (.lst acc)) K := by
    intro xs
    induction xs with
    | nil => intro acc K _ _ h; exact ⟨trivial, by simp, by simpa using h⟩
    | cons x xs ih =>
      intro acc K hl hx h
      obtain ⟨ς1, e1, h1⟩ := hx x List.mem_cons_self
      refine ⟨trivial, ς1, e1, ?_⟩
      simp only [s_yes, if_true]
      refine h1 _ _ ⟨by simp, by simp at hl; omega, ?_⟩
      rw [Sto.set_set]
      refine ih _ _ (by simp at hl ⊢; omega) (fun y hy => hx y (List.mem_cons_of_mem _ hy)) ?_
      simpa using h
  refine gen xs [] _ (by simpa using hl) hx ?_
  show R _ _
  simpa [Sto.del_none hp] using h
theorem sz1000 {n : Nat} (h : n ≤ 1000) : n ≤ sizeLine := Nat.le_trans h (by decide)
theorem plL_map {α : Type} {f : α → D} : ∀ {m : List α}, (∀ x ∈ m, pl (f x) = true) → plL (m.map f) = true
  | [], _ => rfl
  | x :: r, h => by simp [plL, h x List.mem_cons_self, plL_map fun y hy => h y (List.mem_cons_of_mem _ hy)]
theorem dpL_map {α : Type} {f : α → D} {k : Nat} : ∀ {m : List α}, (∀ x ∈ m, dp (f x) ≤ k) → dpL (m.map f) ≤ k
  | [], _ => Nat.zero_le _
  | x :: r, h => by
    have h1 := h x List.mem_cons_self
    have h2 := dpL_map (k := k) fun y (hy : y ∈ r) => h y (List.mem_cons_of_mem _ hy)
    simp only [List.map_cons, dpL]
    omega
section
variable {S : Sto} {R : Pd} {neg : Bool}
@[simp] theorem f_isT {l : List D} : fIs neg (.tup l) .non S R = R (.bl neg) S := rfl
@[simp] theorem f_isN : fIs neg .non .non S R = R (.bl (!neg)) S := rfl
@[simp] theorem f_isI {i : Int} : fIs neg (.int i) .non S R = R (.bl neg) S := rfl
@[simp] theorem f_isS {i : Str} : fIs neg (.str i) .non S R = R (.bl neg) S := rfl
@[simp] theorem f_isD {i : List (Key × D)} : fIs neg (.dct i) .non S R = R (.bl neg) S := rfl
@[simp] theorem f_isL {l : List D} : fIs neg (.lst l) .non S R = R (.bl neg) S := rfl
theorem f_eqP' {x y : D} (b : Bool) (hx : pl x = true) (hy : pl y = true) (dx : dp x ≤ 64) (dy : dp y ≤ 64) (h : b = true ↔ x = y) (hR : R (.bl (neg ^^ b)) S) : fEq neg x y S R :=
  f_eqP hx hy dx dy fun c hc => by
    have : c = b := by
      cases b <;> cases c <;> simp_all
    rw [this]; exact hR
@[simp] theorem pl_int {i : Int} : pl (.int i) = true := rfl
@[simp] theorem pl_non : pl .non = true := rfl
@[simp] theorem pl_str {s : String} : pl (.str (Str.ofString s)) = true := strOk_of s
@[simp] theorem pl_tup {l : List D} : pl (.tup l) = plL l := rfl
@[simp] theorem pl_lst {l : List D} : pl (.lst l) = plL l := rfl
@[simp] theorem plL_nil : plL [] = true := rfl
@[simp] theorem plL_cons {x : D} {l : List D} : plL (x :: l) = (pl x && plL l) := rfl
@[simp] theorem dp_int {i : Int} : dp (.int i) = 0 := rfl
@[simp] theorem dp_non : dp .non = 0 := rfl
@[simp] theorem dp_str {s : Str} : dp (.str s) = 0 := rfl
@[simp] theorem dp_tup {l : List D} : dp (.tup l) = dpL l + 1 := rfl
@[simp] theorem dp_lst {l : List D} : dp (.lst l) = dpL l + 1 := rfl
@[simp] theorem dpL_nil : dpL [] = 0 := rfl
@[simp] theorem dpL_cons {x : D} {l : List D} : dpL (x :: l) = max (dp x) (dpL l) := rfl
@[simp] theorem s_kget {tab : List (Str × He.Dv)} {wa : WpA} {ς : En} {RE : Px} : wKGet tab wa ς S R RE = wa ς S (fun xs S1 => ∃ z y, xs = [.str z, y] ∧ match lookS z tab with
  | some v => ∃ d, dvD v = some d ∧ R d S1
  | none => R y S1) RE := rfl
/-- a method as it is found -/
def mlook (m : String) (cs : List (String × Nat × List D × Spec)) (x : D) (S : Sto) (k : Nat × List D × Spec → Prop) : Prop := ∃ c fs nd, insOf S x = some (c, fs) ∧ look m fs = none ∧ cs.lookup c = some nd ∧ k nd
@[simp] theorem s_meth {m : String} {cs : List (String × Nat × List D × Spec)} {wo : WpE} {wa : WpA} {ς : En} {RE : Px} : wMeth m cs wo wa ς S R RE = wo ς S (fun x S1 => mlook m cs x S1 fun nd => wa ς S1 (fun xs S2 => nd.2.2 (x :: (xs ++ nd.2.1)) S2 R RE) RE) RE := rfl
@[simp] theorem s_make {own : Bool} {c : String} {dds : List D} {φ : Spec} {wa : WpA} {ς : En} {RE : Px} : wMake own c dds φ wa ς S R RE = wa ς S (fun xs S1 => ∀ p, S1 p = none → φ (.ref p :: (xs ++ dds)) (S1.set p (.ins c [])) (fun v S2 => v = .non ∧ mkI own c p R S2) RE) RE := rfl
end
theorem sb_pl (p : Addr) (d : D) : (∀ x, pl x = true → sb p d x = x) ∧ ∀ l, plL l = true → subL p d l = l := by
  have h : ∀ n, (∀ x, sizeOf x < n → pl x = true → sb p d x = x) ∧ ∀ l : List D, sizeOf l < n → plL l = true → subL p d l = l := by
    intro n
    induction n with
    | zero => exact ⟨fun _ h => absurd h (Nat.not_lt_zero _), fun _ h => absurd h (Nat.not_lt_zero _)⟩
    | succ n ih =>
      refine ⟨fun x hx hp => ?_, fun l hl hp => ?_⟩
      · cases x with
        | tup l => rw [sb, ih.2 l (by simp at hx; omega) hp]
        | lst l => rw [sb, ih.2 l (by simp at hx; omega) hp]
        | non => rw [sb]
        | int _ => rw [sb]
        | str _ => rw [sb]
        | _ => exact absurd hp (by simp [pl])
      · cases l with
        | nil => rw [subL]
        | cons x l =>
          simp only [plL, Bool.and_eq_true] at hp
          simp at hl
          rw [subL, ih.1 x (by omega) hp.1, ih.2 l (by omega) hp.2]
  exact ⟨fun x => (h (sizeOf x + 1)).1 x (Nat.lt_succ_self _), fun l => (h (sizeOf l + 1)).2 l (Nat.lt_succ_self _)⟩
@[simp] theorem f_setF {cs : List String} {f c : String} {p : Addr} {y : D} {S : Sto} {fs : List (String × D)} {R : Sto → Prop} : fSetF cs f (.ref p) y (S.set p (.ins c fs)) R = (cs.contains c = true ∧ fs.length + 1 ≤ 1000 ∧ R (S.set p (.ins c (putFd f y fs)))) := by
  simp [fSetF]
@[simp] theorem s_setF {cs : List String} {f : String} {wv wo : WpE} {ς : En} {S : Sto} {E : ES} {XE : PxE} : wSetF cs f wv wo ς S E XE = wv ς S (fun y S1 => wo ς S1 (fun x S2 => fSetF cs f x y S2 fun S4 => E.nx ς S4) (fun c S' => XE c ς S')) (fun c S' => XE c ς S') := rfl
@[simp] theorem s_setI {wv wo wi : WpE} {ς : En} {S : Sto} {E : ES} {XE : PxE} : wSetI wv wo wi ς S E XE = wv ς S (fun y S1 => wo ς S1 (fun x S2 => wi ς S2 (fun i S3 => fSetI x i y S3 fun S4 => E.nx ς S4) (fun c S' => XE c ς S')) (fun c S' => XE c ς S')) (fun c S' => XE c ς S') := rfl
theorem perm_sorted : ∀ {l m : List Int}, l.Perm m → l.Pairwise (· ≤ ·) → m.Pairwise (· ≤ ·) → l = m
  | [], m, h, _, _ => (List.nil_perm.mp h).symm
  | x :: l, [], h, _, _ => by simp at h
  | x :: l, y :: m, h, h1, h2 => by
    rw [List.pairwise_cons] at h1 h2
    have hx : x ∈ y :: m := h.mem_iff.mp List.mem_cons_self
    have hy : y ∈ x :: l := h.mem_iff.mpr List.mem_cons_self
    have e : x = y := by
      rcases List.mem_cons.mp hx with e | hx
      · exact e
      · rcases List.mem_cons.mp hy with e | hy
        · exact e.symm
        · exact Int.le_antisymm (h1.1 _ hy) (h2.1 _ hx)
    subst e
    rw [perm_sorted (List.perm_cons x |>.mp h) h1.2 h2.2]
theorem f_sortedI {S : Sto} {R : Pd} {ns : List Int} (hs : ns.Pairwise (· ≤ ·)) (hl : ns.length ≤ 1000) (h : R (.lst (ns.map .int)) S) : fSorted false [.lst (ns.map .int)] S R := by
  refine ⟨ns, intL_mapF (fun _ _ => rfl) |>.trans (by simp), fun ns' hp hs' => ?_⟩
  rw [perm_sorted hp hs' hs]
  exact ⟨by rw [List.length_map]; exact sz1000 hl, h⟩
/-- isinstance of an own class -/
def isO (cs : List String) (sub : String → String → Bool) (C : String) (x : D) (S : Sto) (R : Pd) : Prop := ∃ c fs, insOf S x = some (c, fs) ∧ c ∈ cs ∧ R (.bl (sub c C)) S
@[simp] theorem s_isO {cs : List String} {sub : String → String → Bool} {C : String} {we : WpE} {ς : En} {S : Sto} {R : Pd} {RE : Px} : wIsO cs sub C we ς S R RE = we ς S (fun x S1 => isO cs sub C x S1 R) RE := rfl
end SB
end

section
set_option Elab.async false
set_option linter.all false
set_option maxRecDepth 100000
set_option autoImplicit false
/-! SB17: what is never reached; two things alike to any depth, dicts too; sorted(set(l)). -/
namespace SB
open PySem PySem.Spec L2
/-! ### what is never reached -/
def wNever : WpS := fun _ _ _ _ => False
def wNeverE : WpE := fun _ _ _ _ => False
section
variable {X : Cx} {F : Fr}
theorem ws_never {st : Stmt} : WS X F st wNever := ⟨fun pins s σ H Q I h => by
  obtain ⟨ς, S, E, g, k, hw, eo⟩ := h
  exact hw.elim⟩
theorem we_never {e : Expr} : WE X F e wNeverE := ⟨fun pins s σ H Q I h => by
  obtain ⟨ς, S, R, g, k, hw, hR⟩ := h
  exact hw.elim⟩
@[simp] theorem s_never {ς : En} {S : Sto} {E : ES} {XE : PxE} : wNever ς S E XE = False := rfl
@[simp] theorem s_neverE {ς : En} {S : Sto} {R : Pd} {RE : Px} : wNeverE ς S R RE = False := rfl
end
/-! ### values alike -/
mutual
inductive SamV (K : PySem.W.Frag) (H : Hp) : Nat → V → V → Prop
  | non {n : Nat} : SamV K H n .non .non
  | bl {n : Nat} (b : Bool) : SamV K H n (.bl b) (.bl b)
  | int {n : Nat} (i : Int) : SamV K H n (.int i) (.int i)
  | str {n : Nat} (x : Str) : SamV K H n (.str x) (.str x)
  | tup {n : Nat} {a b : Addr} {vs us : List V} : SqT K H a vs → SqT K H b us → SamVL K H n vs us → SamV K H (n + 1) (.ref a) (.ref b)
  | lst {n : Nat} {a b : Addr} {vs us : List V} : SqL K H a vs → SqL K H b us → SamVL K H n vs us → SamV K H (n + 1) (.ref a) (.ref b)
  | dct {n : Nat} {a b : Addr} {vs us : List (Key × V)} : Rd H a (.dK vs) → Rd H b (.dK us) → SamVK K H n vs us → SamV K H (n + 1) (.ref a) (.ref b)
inductive SamVL (K : PySem.W.Frag) (H : Hp) : Nat → List V → List V → Prop
  | nil {n : Nat} : SamVL K H n [] []
  | cons {n : Nat} {v u : V} {vs us : List V} : SamV K H n v u → SamVL K H n vs us → SamVL K H n (v :: vs) (u :: us)
inductive SamVK (K : PySem.W.Frag) (H : Hp) : Nat → List (Key × V) → List (Key × V) → Prop
  | nil {n : Nat} : SamVK K H n [] []
  | cons {n : Nat} {k : Key} {v u : V} {vs us : List (Key × V)} : SamV K H n v u → SamVK K H n vs us → SamVK K H n ((k, v) :: vs) ((k, u) :: us)
end
/-- the trees of a list's items -/
inductive TreeL (P : Program) (w : World) (s : Shared) (n : Nat) : List Value → List Value → Prop
  | nil : TreeL P w s n [] []
  | cons {v u : Value} {vs us : List Value} : PySem.W.EqTree P w s n v u true → TreeL P w s n vs us → TreeL P w s n (v :: vs) (u :: us)
theorem TreeL.length {P : Program} {w : World} {s : Shared} {n : Nat} : ∀ {vs us : List Value}, TreeL P w s n vs us → vs.length = us.length
  | _, _, .nil => rfl
  | _, _, .cons _ t => by simp [TreeL.length t]
theorem TreeL.get {P : Program} {w : World} {s : Shared} {n : Nat} : ∀ {vs us : List Value} {i : Nat} (h1 : i < vs.length) (h2 : i < us.length), TreeL P w s n vs us → PySem.W.EqTree P w s n vs[i] us[i] true
  | _, _, 0, _, _, .cons t _ => t
  | _, _, i + 1, h1, h2, .cons _ t => TreeL.get (i := i) (by simpa using h1) (by simpa using h2) t
theorem all_true (n : Nat) : ((List.range n).all fun _ => true) = true := by simp
theorem all_min {a b : Nat} (h : a = b) : (((List.range (min a b)).all fun _ => true) && a == b) = true := by simp [h]
/-- dict entries alike -/
inductive TreeK (P : Program) (w : World) (s : Shared) (n : Nat) : List (Key × Value) → List (Key × Value) → Prop
  | nil : TreeK P w s n [] []
  | cons {k : Key} {v u : Value} {vs us : List (Key × Value)} : PySem.W.EqTree P w s n v u true → TreeK P w s n vs us → TreeK P w s n ((k, v) :: vs) ((k, u) :: us)
theorem TreeK.keys {P : Program} {w : World} {s : Shared} {n : Nat} : ∀ {vs us : List (Key × Value)}, TreeK P w s n vs us → vs.map (·.1) = us.map (·.1)
  | _, _, .nil => rfl
  | _, _, .cons _ t => by simp [TreeK.keys t]
theorem TreeK.mem {P : Program} {w : World} {s : Shared} {n : Nat} {k : Key} {v : Value} : ∀ {vs us : List (Key × Value)}, TreeK P w s n vs us → (k, v) ∈ vs → ∃ u, (k, u) ∈ us ∧ PySem.W.EqTree P w s n v u true
  | _, _, .cons t r, h => by
    rcases List.mem_cons.mp h with e | h
    · cases e; exact ⟨_, List.mem_cons_self, t⟩
    · obtain ⟨u, a, b⟩ := r.mem h
      exact ⟨u, List.mem_cons_of_mem _ a, b⟩
section
variable {X : Cx} {pins : List (Addr × Obj)} {σ : L2.St} {H : Hp} {s : Shared}
theorem leaf_tree {n : Nat} {v u : V} {vv uu : Value} {d : PyData} (I : Inv X pins σ H s) (h1 : Dp X.K H v d) (h2 : Dp X.K H u d) (r1 : RelV v vv) (r2 : RelV u uu) (hd : d.canLay0 = true) (h0 : d.depth = 0) : PySem.W.EqTree X.prog X.w s n vv uu true := by
  obtain ⟨as, q1⟩ := Dp.reads I d v vv h1 r1
  obtain ⟨bs, q2⟩ := Dp.reads I d u uu h2 r2
  refine .leaf fun A hu => ?_
  have := SeqAt.eqAt_reads d d A s vv uu as bs q1 q2 hd hd (by omega)
  rwa [SeqAt.eqv_refl _ hd] at this
theorem vals_inv {v : V} {vs : List V} {its : List Value} (h : Vals (v :: vs) its) : ∃ u us, its = u :: us ∧ RelV v u ∧ Vals vs us := by
  cases h with
  | cons a b => exact ⟨_, _, rfl, a, b⟩
mutual
theorem SamV.tree (I : Inv X pins σ H s) : ∀ {n : Nat} {v u : V} {vv uu : Value}, SamV X.K H n v u → RelV v vv → RelV u uu → PySem.W.EqTree X.prog X.w s n vv uu true
  | _, _, _, _, _, .non, r1, r2 => leaf_tree I .non .non r1 r2 rfl rfl
  | _, _, _, _, _, .bl b, r1, r2 => leaf_tree I (.bl b) (.bl b) r1 r2 rfl rfl
  | _, _, _, _, _, .int i, r1, r2 => leaf_tree I (.int i) (.int i) r1 r2 rfl rfl
  | _, _, _, _, _, .str x, r1, r2 => by
    obtain ⟨t1, rfl⟩ := r1
    obtain ⟨t2, rfl⟩ := r2
    exact .leaf fun A hu => by
      have := SeqAt.EqAt.str_str (A := A) (s := s) x t1 x t2
      simpa using this
  | _, _, _, _, _, .tup (a := a) (b := b) h1 h2 t, r1, r2 => by
    cases r1; cases r2
    by_cases e : a = b
    · subst e; exact .same
    · obtain ⟨its, rv, pt, hz⟩ := I.tuple h1
      obtain ⟨its', rv', pt', hz'⟩ := I.tuple h2
      have tl := SamVL.tree I t rv rv'
      have hl : its.toArray.size = its'.toArray.size := by simpa using tl.length
      have := PySem.W.EqTree.tuples (e := fun _ => true) e pt pt' fun j h1 h2 => by simpa using tl.get (by simpa using h1) (by simpa using h2)
      rwa [all_min hl] at this
  | _, _, _, _, _, .lst (a := a) (b := b) h1 h2 t, r1, r2 => by
    cases r1; cases r2
    by_cases e : a = b
    · subst e; exact .same
    · obtain ⟨its, rv, pt, hz⟩ := I.list h1
      obtain ⟨its', rv', pt', hz'⟩ := I.list h2
      have tl := SamVL.tree I t rv rv'
      have hl : its.toArray.size = its'.toArray.size := by simpa using tl.length
      have := PySem.W.EqTree.lists (e := fun _ => true) e pt.isList pt'.isList hl fun j h1 h2 => by simpa using tl.get (by simpa using h1) (by simpa using h2)
      rwa [all_true] at this
  | _, _, _, _, _, .dct (a := a) (b := b) h1 h2 t, r1, r2 => by
    cases r1; cases r2
    by_cases e : a = b
    · subst e; exact .same
    · obtain ⟨z, hd, ws, rel, dd⟩ := dk_rd I.hok h1
      obtain ⟨z', hd', ws', rel', dd'⟩ := dk_rd I.hok h2
      have tk := SamVK.tree I t rel rel'
      have ek := tk.keys
      have := PySem.W.EqTree.dicts (e := fun _ => true) e hd hd' dd dd' fun k v y hm hy => by
        obtain ⟨u, hu, t⟩ := tk.mem hm
        have hn : (ws'.map (·.1)).Nodup := by
          obtain ⟨_, _, _, _, _, _, _, _, hn⟩ := dd'
          exact hn
        rw [PySem.valueAt_of_mem hn hu] at hy
        cases hy
        exact t
      have hl : ws.length = ws'.length := by simpa using congrArg List.length ek
      have ha : (ws.all fun p => (valueAt ws' p.1).isSome && true) = true := by
        rw [List.all_eq_true]
        intro p hp
        have : p.1 ∈ ws'.map (·.1) := ek ▸ List.mem_map_of_mem hp
        simp [PySem.valueAt_isSome.mpr this]
      rw [ha, hl] at this
      simpa using this
theorem SamVL.tree (I : Inv X pins σ H s) : ∀ {n : Nat} {vs us : List V} {its its' : List Value}, SamVL X.K H n vs us → Vals vs its → Vals us its' → TreeL X.prog X.w s n its its'
  | _, _, _, _, _, .nil, r1, r2 => by
    cases r1; cases r2
    exact .nil
  | _, _, _, _, _, .cons t tl, r1, r2 => by
    obtain ⟨u, us, rfl, a1, b1⟩ := vals_inv r1
    obtain ⟨u', us', rfl, a2, b2⟩ := vals_inv r2
    exact .cons (SamV.tree I t a1 a2) (SamVL.tree I tl b1 b2)
theorem SamVK.tree (I : Inv X pins σ H s) : ∀ {n : Nat} {vs us : List (Key × V)} {its its' : List (Key × Value)}, SamVK X.K H n vs us → KV vs its → KV us its' → TreeK X.prog X.w s n its its'
  | _, _, _, _, _, .nil, r1, r2 => by
    cases r1; cases r2
    exact .nil
  | _, _, _, _, _, .cons t tl, r1, r2 => by
    cases r1 with
    | cons a1 b1 =>
      cases r2 with
      | cons a2 b2 =>
        rename_i q _ q' _
        obtain ⟨k1, v1⟩ := q
        obtain ⟨k2, v2⟩ := q'
        obtain ⟨e1, a1⟩ := a1
        obtain ⟨e2, a2⟩ := a2
        simp only at e1 e2 a1 a2
        subst e1 e2
        exact .cons (SamV.tree I t a1 a2) (SamVK.tree I tl b1 b2)
end
/-! a == b, a != b of two lists alike -/
section
open PySem.SeqAt
theorem alike_loop {P : Program} {w : World} {lo hi : Addr} {xs ys : Array Value} {n1 n2 : Nat} {q1 q2 : Option Addr} {z1 z2 : Array (Option Value)} (same : xs.size = ys.size) (m : Nat) :
    ∀ j : Nat, xs.size - j = m → MeetsIn P w (Builtin.«list.__eq__.loop» ⟨[.ref lo, .ref hi, rawInt j, rawInt 3], []⟩)
      (fun A R t => t.heap.get? lo = some { cls := .type "list", dict := q1, data := .seq xs n1, slots := z1 } ∧ t.heap.get? hi = some { cls := .type "list", dict := q2, data := .seq ys n2, slots := z2 } ∧
        (∀ k (g1 : k < xs.size) (g2 : k < ys.size), EqIn P w A.in1 t xs[k] ys[k] true) ∧ R (.ok (.ret (.bool false))) t) := by
  induction m with
  | zero =>
    intro j hj A R t hyp
    obtain ⟨hp, gg, dr, tk, os⟩ := t; obtain ⟨a1, a2, alike, fin⟩ := hyp
    wp_walk using AutoSeq1.wpAny_loadPart' a1, AutoSeq1.wpAny_loadPart' a2
    have o1 : xs[((j : Nat) : Int).toNat]? = none := by simp; omega
    have o2 : ys[((j : Nat) : Int).toNat]? = none := by simp; omega
    rw [o1, o2]
    wp_walk using AutoSeq1.wpAny_loadPart' a1, AutoSeq1.wpAny_loadPart' a2
    show R (.ok (.ret (.bool (xs.size != ys.size)))) _
    rw [same]
    simpa using fin
  | succ m ih =>
    intro j hj A R t hyp
    obtain ⟨hp, gg, dr, tk, os⟩ := t; obtain ⟨a1, a2, alike, fin⟩ := hyp
    wp_walk using AutoSeq1.wpAny_loadPart' a1, AutoSeq1.wpAny_loadPart' a2
    have b1 : j < xs.size := by omega
    have b2 : j < ys.size := by omega
    have o1 : xs[((j : Nat) : Int).toNat]? = some xs[j] := by simp [b1]
    have o2 : ys[((j : Nat) : Int).toNat]? = some ys[j] := by simp [b2]
    have next : ((j : Int) + 1) = ((j + 1 : Nat) : Int) := by push_cast; rfl
    rw [o1, o2]
    refine wpAny_bind (alike j b1 b2 _ _ ?_)
    wp_walk
    rw [next]
    exact ⟨plainId_quiet MeetsSeq3.plain_eq_loop _, codeAny_builtin MeetsSeq3.entry_eq_loop (by
      rw [Around.under_plainId MeetsSeq3.plain_eq_loop _]
      exact ih (j + 1) (by omega) A R _ ⟨a1, a2, alike, fin⟩)⟩
theorem alike_ne {P : Program} {w : World} {lo hi : Addr} {xs ys : Array Value} {n1 n2 : Nat} {q1 q2 : Option Addr} {z1 z2 : Array (Option Value)} (same : xs.size = ys.size) :
    MeetsIn P w (Builtin.«list.__ne__» ⟨[.ref lo, .ref hi], []⟩)
      (fun A R t => t.heap.get? lo = some { cls := .type "list", dict := q1, data := .seq xs n1, slots := z1 } ∧ t.heap.get? hi = some { cls := .type "list", dict := q2, data := .seq ys n2, slots := z2 } ∧
        (∀ k (g1 : k < xs.size) (g2 : k < ys.size), EqIn P w A.in1 t xs[k] ys[k] true) ∧ R (.ok (.ret (.bool false))) t) := by
  intro A R t hyp
  obtain ⟨hp, gg, dr, tk, os⟩ := t; obtain ⟨a1, a2, alike, fin⟩ := hyp
  have sub1 := AutoSeq1.sub_list_list
  have same' : ¬ (xs.size != ys.size) = true := by simp [same]
  wp_walk using AutoSeq1.wpAny_loadPart' a1, AutoSeq1.wpAny_loadPart' a2
  exact ⟨plainId_quiet MeetsSeq3.plain_eq_loop _, codeAny_builtin MeetsSeq3.entry_eq_loop (by
    rw [Around.under_plainId MeetsSeq3.plain_eq_loop _]
    exact alike_loop same _ 0 rfl A R _ ⟨a1, a2, alike, fin⟩)⟩
theorem ne_alike {P : Program} {w : World} {A : Around} {E : Value → Shared → Prop} {t : Shared} {lo hi : Addr} {xs ys : Array Value} {Q : Value → Shared → Prop} (h1 : t.heap.IsList lo xs) (h2 : t.heap.IsList hi ys) (same : xs.size = ys.size)
    (hu : A.units < cLine) (alike : ∀ k (g1 : k < xs.size) (g2 : k < ys.size), EqIn P w A.in1 t xs[k] ys[k] true) (fin : Q (.bool false) t) : wpAny (model P w) A (richCompare .NotEq (.ref lo) (.ref hi)) Q E t := by
  obtain ⟨⟨c1, q1, e1, z1⟩, o1, y1, n1, d1⟩ := id h1
  obtain ⟨⟨c2, q2, e2, z2⟩, o2, y2, n2, d2⟩ := id h2
  simp only at y1 d1 y2 d2
  subst y1 d1 y2 d2
  exact wpAny_richCompare_same_room (T := "list") (op := .NotEq) ⟨_, o1, rfl⟩ ⟨_, o2, rfl⟩ F.slot_list_ne (call_meetsIn F.slot_list_ne ⟨_, o1, rfl⟩ F.entry_list_ne (F.args_list_ne_2 _ _) (alike_ne same)
    ⟨o1, o2, alike, show Value.bool false ≠ Value.notImplemented ∧ Q (.bool false) t from ⟨(fun x => nomatch x), fin⟩⟩) hu
end
/-- two lists alike: the wish's answer -/
def rSamL (K : PySem.W.Frag) (r : Bool) : R2 := fun x y H Q => ∃ n a b vs us, x = .ref a ∧ y = .ref b ∧ SqL K H a vs ∧ SqL K H b us ∧ n ≤ 60 ∧ SamVL K H n vs us ∧ Q (.bl r) H
theorem trees_at {P : Program} {w : World} {A : Around} {s : Shared} {n : Nat} {its its' : List Value} (hu : A.units + 64 < cLine) (hn : n ≤ 60) (tl : TreeL P w s n its its') (k : Nat) (g1 : k < its.toArray.size) (g2 : k < its'.toArray.size) :
    PySem.SeqAt.EqIn P w A.in1 s its.toArray[k] its'.toArray[k] true := by
  have t := tl.get (i := k) (by simpa using g1) (by simpa using g2)
  have e := t.at A.in1 (by show A.units + 1 + n < cLine; omega)
  simpa using e
theorem op_samEq {X : Cx} (hu : X.A.units + 64 < cLine) : OpR X (compareOp .Eq) (rSamL X.K true) := by
  intro pins s σ H x y v u Q I rx ry h
  obtain ⟨n, a, b, vs, us, rfl, rfl, h1, h2, hn, t, q⟩ := h
  cases rx; cases ry
  obtain ⟨its, rv, pt, hz⟩ := I.list h1
  obtain ⟨its', rv', pt', hz'⟩ := I.list h2
  have tl := SamVL.tree I t rv rv'
  have hl : its.toArray.size = its'.toArray.size := by simpa using tl.length
  refine PySem.SeqAt.rcIn_lists (e := fun _ => true) pt.isList pt'.isList hl (by omega) (fun k g1 g2 => trees_at hu hn tl k g1 g2) ?_
  rw [all_true]
  exact ⟨.bl true, H, I, rfl, q⟩
theorem op_samNe {X : Cx} (hu : X.A.units + 64 < cLine) : OpR X (compareOp .NotEq) (rSamL X.K false) := by
  intro pins s σ H x y v u Q I rx ry h
  obtain ⟨n, a, b, vs, us, rfl, rfl, h1, h2, hn, t, q⟩ := h
  cases rx; cases ry
  obtain ⟨its, rv, pt, hz⟩ := I.list h1
  obtain ⟨its', rv', pt', hz'⟩ := I.list h2
  have tl := SamVL.tree I t rv rv'
  have hl : its.toArray.size = its'.toArray.size := by simpa using tl.length
  exact ne_alike pt.isList pt'.isList hl (by omega) (fun k g1 g2 => trees_at hu hn tl k g1 g2) ⟨.bl false, H, I, rfl, q⟩
end
/-! ### data alike -/
def lstC (S : Sto) (x : D) : Option (List D) := match x with
  | .lst l => some l
  | .scr l => some l
  | .ref a => (match S a with
    | some (.lst l) => some l
    | _ => none)
  | _ => none
def dctC (S : Sto) (x : D) : Option (List (Key × D)) := match x with
  | .dct l => some l
  | .ref a => (match S a with
    | some (.dct l) => some l
    | _ => none)
  | _ => none
mutual
inductive Sam (S : Sto) : Nat → D → D → Prop
  | non {n : Nat} : Sam S n .non .non
  | bl {n : Nat} (b : Bool) : Sam S n (.bl b) (.bl b)
  | int {n : Nat} (i : Int) : Sam S n (.int i) (.int i)
  | str {n : Nat} (x : Str) : Sam S n (.str x) (.str x)
  | tup {n : Nat} {l m : List D} : SamL S n l m → Sam S (n + 1) (.tup l) (.tup m)
  | lst {n : Nat} {x y : D} {l m : List D} : lstC S x = some l → lstC S y = some m → SamL S n l m → Sam S (n + 1) x y
  | dct {n : Nat} {x y : D} {l m : List (Key × D)} : dctC S x = some l → dctC S y = some m → SamK S n l m → Sam S (n + 1) x y
inductive SamL (S : Sto) : Nat → List D → List D → Prop
  | nil {n : Nat} : SamL S n [] []
  | cons {n : Nat} {x y : D} {l m : List D} : Sam S n x y → SamL S n l m → SamL S n (x :: l) (y :: m)
inductive SamK (S : Sto) : Nat → List (Key × D) → List (Key × D) → Prop
  | nil {n : Nat} : SamK S n [] []
  | cons {n : Nat} {k : Key} {x y : D} {l m : List (Key × D)} : Sam S n x y → SamK S n l m → SamK S n ((k, x) :: l) ((k, y) :: m)
end
section
variable {K : PySem.W.Frag} {S : Sto} {H : Hp}
theorem lstC_rep {x : D} {v : V} {l : List D} (r : Rep K S H x v) (q : Rel K S H) (e : lstC S x = some l) : ∃ a vs, v = .ref a ∧ SqL K H a vs ∧ RepL K S H l vs := by
  cases r with
  | lst h n z r => cases e; exact ⟨_, _, rfl, .of h, r⟩
  | scr h n z r => cases e; exact ⟨_, _, rfl, .inl h, r⟩
  | scrK h z r => cases e; exact ⟨_, _, rfl, h.sq, r⟩
  | ref a =>
    cases h : S a with
    | none => simp [lstC, h] at e
    | some o =>
      cases o with
      | lst m =>
        simp [lstC, h] at e
        subst e
        obtain ⟨_, vs, h1, h2⟩ := q a _ h
        exact ⟨a, vs, rfl, .of h1, h2⟩
      | _ => simp [lstC, h] at e
  | _ => exact nomatch e
theorem dctC_rep {x : D} {v : V} {l : List (Key × D)} (r : Rep K S H x v) (q : Rel K S H) (e : dctC S x = some l) : ∃ a vs, v = .ref a ∧ Rd H a (.dK vs) ∧ RepK K S H l vs := by
  cases r with
  | dct h n z r => cases e; exact ⟨_, _, rfl, h, r⟩
  | ref a =>
    cases h : S a with
    | none => simp [dctC, h] at e
    | some o =>
      cases o with
      | dct m =>
        simp [dctC, h] at e
        subst e
        obtain ⟨_, vs, h1, h2⟩ := q a _ h
        exact ⟨a, vs, rfl, .of h1, h2⟩
      | _ => simp [dctC, h] at e
  | _ => exact nomatch e
mutual
theorem Sam.val (q : Rel K S H) : ∀ {n : Nat} {x y : D} {v u : V}, Sam S n x y → Rep K S H x v → Rep K S H y u → SamV K H n v u
  | _, _, _, _, _, .non, r1, r2 => by cases r1; cases r2; exact .non
  | _, _, _, _, _, .bl b, r1, r2 => by cases r1; cases r2; exact .bl b
  | _, _, _, _, _, .int i, r1, r2 => by cases r1; cases r2; exact .int i
  | _, _, _, _, _, .str x, r1, r2 => by cases r1; cases r2; exact .str x
  | _, _, _, _, _, .tup t, r1, r2 => by
    obtain ⟨a, vs, rfl, h1, _, l1⟩ := r1.tup_inv
    obtain ⟨b, us, rfl, h2, _, l2⟩ := r2.tup_inv
    exact .tup h1 h2 (SamL.val q t l1 l2)
  | _, _, _, _, _, .lst e1 e2 t, r1, r2 => by
    obtain ⟨a, vs, rfl, h1, l1⟩ := lstC_rep r1 q e1
    obtain ⟨b, us, rfl, h2, l2⟩ := lstC_rep r2 q e2
    exact .lst h1 h2 (SamL.val q t l1 l2)
  | _, _, _, _, _, .dct e1 e2 t, r1, r2 => by
    obtain ⟨a, vs, rfl, h1, l1⟩ := dctC_rep r1 q e1
    obtain ⟨b, us, rfl, h2, l2⟩ := dctC_rep r2 q e2
    exact .dct h1 h2 (SamK.val q t l1 l2)
theorem SamL.val (q : Rel K S H) : ∀ {n : Nat} {l m : List D} {vs us : List V}, SamL S n l m → RepL K S H l vs → RepL K S H m us → SamVL K H n vs us
  | _, _, _, _, _, .nil, .nil, .nil => .nil
  | _, _, _, _, _, .cons a t, .cons b1 c1, .cons b2 c2 => .cons (Sam.val q a b1 b2) (SamL.val q t c1 c2)
theorem SamK.val (q : Rel K S H) : ∀ {n : Nat} {l m : List (Key × D)} {vs us : List (Key × V)}, SamK S n l m → RepK K S H l vs → RepK K S H m us → SamVK K H n vs us
  | _, _, _, _, _, .nil, .nil, .nil => .nil
  | _, _, _, _, _, .cons a t, .cons b1 c1, .cons b2 c2 => .cons (Sam.val q a b1 b2) (SamK.val q t c1 c2)
end
/-- == (!=) of two lists that are alike to any depth -/
def fSam (neg : Bool) (x y : D) (S : Sto) (R : Pd) : Prop := ∃ n l m, lstC S x = some l ∧ lstC S y = some m ∧ n ≤ 60 ∧ SamL S n l m ∧ R (.bl (!neg)) S
theorem od_sam {neg : Bool} : OpD K (rSamL K (!neg)) (fSam neg) := by
  intro x y v u S H R Q q rx ry h hR
  obtain ⟨n, l, m, e1, e2, hn, t, h⟩ := h
  obtain ⟨a, vs, rfl, h1, l1⟩ := lstC_rep rx q e1
  obtain ⟨b, us, rfl, h2, l2⟩ := lstC_rep ry q e2
  exact ⟨n, a, b, vs, us, rfl, rfl, h1, h2, hn, SamL.val q t l1 l2, hR _ S _ H h q .refl (.bl _)⟩
end
section
variable {X : Cx} {F : Fr} {pos : Pos} {a b : Expr} {wa wb : WpE}
theorem e_same (r : X.A.units + 65 < cLine) (ha : WE X F a wa) (hb : WE X F b wb) (hm : behindInMarks .Eq b = false) : WE X F (.Compare a [.Eq] [b] pos) (wOp (fSam false) wa wb) := we_cmp (op_samEq (u64 r)) od_sam ha hb hm
theorem e_samne (r : X.A.units + 65 < cLine) (ha : WE X F a wa) (hb : WE X F b wb) (hm : behindInMarks .NotEq b = false) : WE X F (.Compare a [.NotEq] [b] pos) (wOp (fSam true) wa wb) := we_cmp (op_samNe (u64 r)) od_sam ha hb hm
theorem t_same (r : X.A.units + 65 < cLine) (ha : WE X F a wa) (hb : WE X F b wb) (hm : behindInMarks .Eq b = false) : WT X F (.Compare a [.Eq] [b] pos) (wB (wOp (fSam false) wa wb)) := wt_cmp (op_samEq (u64 r)) od_sam ha hb hm
theorem t_samne (r : X.A.units + 65 < cLine) (ha : WE X F a wa) (hb : WE X F b wb) (hm : behindInMarks .NotEq b = false) : WT X F (.Compare a [.NotEq] [b] pos) (wB (wOp (fSam true) wa wb)) := wt_cmp (op_samNe (u64 r)) od_sam ha hb hm
theorem m_clearD {o : Expr} {wo : WpE} {apos : Pos} (ho : WE X F o wo) (hb : baseOk o = true) (hline : (apos.endLine == pos.line) = true) : WE X F (.Call (.Attribute o "clear" apos) [] [] pos) (wMt "dict" fClearD wo wNil) :=
  we_bm0 PySem.F.plainAttrs_dict PySem.F.slot_dict_clear PySem.F.type_dict_clear mtd_clear md_clearD ho hb hline
end
end SB
end

section
set_option Elab.async false
set_option linter.all false
set_option maxRecDepth 100000
/-! SB18: sorted(set(l)) of a list of ints. -/
namespace SB
open PySem PySem.Spec L2 PyProof.Rows
abbrev emptyS (w : World) : Obj := { cls := .type "set", dict := none, data := .set #[] 0 (.fresh 0 0 (!w.params.followText "set-order")) }
section
variable {P : Program} {w : World} {A : Around} {E : Value → Shared → Prop} {s : Shared}
set_option maxRecDepth 100000 in
set_option maxHeartbeats 3200000 in
theorem call_set_lstI {l : Addr} {xs : Array Value} (ks : List Int) {Q : Value → Shared → Prop} (calm0 : A.handled = none) (isl : s.heap.IsList l xs) (ints0 : IntsAre xs.toList ks) (few : ks.length + 1 < scanBound)
    (h : ∀ (hp' : Heap) (tk c0 : Nat), SetR w hp' s.heap.objs.size (fun j => decide (j ∈ ks)) c0 → c0 ≤ ks.length → (∀ b o, s.heap.get? b = some o → hp'.get? b = some o) → Q (.ref s.heap.objs.size) { s with heap := hp', toks := tk }) :
    wpAny (model P w) A (call (.type "set") [.ref l]) Q E s := by
  have szq : xs.size = ks.length := by
    have q := IntsAre.length ints0
    rw [Array.length_toList] at q
    exact q
  obtain ⟨c0, tl0, mro1⟩ := PySem.F.called_set.mro
  have made1 := PySem.F.called_set.made
  have sub1 := PySem.F.called_set.sub
  refine wpAny_call (codeAny_of_tree ?_)
  show wpAny _ _ (callAny (.type "set") _) _ _ _
  refine wpAny_pure ⟨Code.quiet_builtin _ (by decide +kernel), codeAny_builtin F.entry_type_call ?_⟩
  rw [Around.under_plain (weight_type_call_type "set" [.ref l] []) rfl]
  have nt1 := PySem.F.called_set.notType
  have cc1 := PySem.F.called_set.canCreate
  have tc1 := F.typeCall_set_1 (.ref l)
  repeat any_goals first | assumption | wp_step

  refine codeAny_mono (code_set_led1 (.ref l) (E := E) (Q₁ := fun ob t1 => ob = .ref s.heap.objs.size ∧ t1 = { s with heap := s.heap.push (emptyS w) }) ⟨rfl, rfl⟩) fun r t1 q1 => ?_
  cases r with
  | error e => exact q1
  | ok f1 =>
    cases f1 with
    | ret ob =>
      obtain ⟨rfl, rfl⟩ := q1
      have atS : (s.heap.push (emptyS w)).get? s.heap.objs.size = some (emptyS w) := Heap.get?_push_size _ rfl
      have tyS : Shared.TypeIs { s with heap := s.heap.push (emptyS w) } (.ref s.heap.objs.size) "set" := ⟨_, atS, rfl⟩
      have li1 := PySem.F.called_set.init.lookup
      have bi1 := PySem.F.called_set.init.bind (.ref s.heap.objs.size)
      repeat any_goals first | assumption | wp_step

      refine codeAny_mono (codeAny_call_builtin (R := wants (fun r t2 => r = .none ∧ ∃ hp' tk c0, t2 = { s with heap := hp', toks := tk } ∧ SetR w hp' s.heap.objs.size (fun j => decide (j ∈ ks)) c0 ∧ c0 ≤ ks.length ∧
          (∀ b o, s.heap.get? b = some o → hp'.get? b = some o)) E) PySem.F.called_set.init.plain F.entry_set_init (check_set_init_1 tyS ?_)) fun r2 t2 q2 => ?_
      · obtain ⟨ob0, at0, cl0, n0, dt0⟩ := isl
        obtain ⟨k0, k1, k2, k3⟩ := ob0
        simp only at cl0 dt0
        subst cl0; subst dt0
        have at1 : (s.heap.push (emptyS w)).get? l = some { cls := .type "list", dict := k1, data := .seq xs n0, slots := k3 } := Heap.get?_push_of_some _ at0
        have ss1 := PySem.F.sub_list_set
        have ss2 := PySem.F.sub_list_frozenset
        have nd1 : (Value.type "list" == Value.type "dict") = false := by decide
        have isl1 : (s.heap.push (emptyS w)).IsList l xs := ⟨_, at1, rfl, n0, rfl⟩
        unfold Builtin.«set.__init__» noKeywords Builtin.Frozenset.updateFrom
        generalize pI : pyIter = ITER
        wp_walk
        subst pI

        refine wpAny_pyIter_list isl1 ?_
        refine wpAny_bind (wpAny_runValue ?_)
        have lt0 : l < s.heap.objs.size := Heap.lt_size at0
        have calm3 : A.in1.in1.in1.handled = none := by simp [calm0]
        have sz1 : (s.heap.push (emptyS w)).objs.size = s.heap.objs.size + 1 := Heap.size_push ..
        have ne1 : l ≠ (s.heap.push (emptyS w)).objs.size := by
          rw [Heap.size_push]; exact Nat.ne_of_lt (Nat.lt_succ_of_lt lt0)
        have nf1 : s.heap.objs.size ∉ [(s.heap.push (emptyS w)).objs.size, l] := by
          rw [Heap.size_push]; simp only [List.mem_cons, List.mem_singleton, List.not_mem_nil, or_false, not_or]
          exact ⟨Nat.ne_of_lt (Nat.lt_succ_self _), Nat.ne_of_gt lt0⟩
        have val1 : ∀ (i : Nat) (v : Value), xs[i]? = some v → ∃ k t, ks[i]? = some k ∧ v = .int k t := fun i v hv => by
          have i0 : i < ks.length := by rw [← szq]; exact (Array.getElem?_eq_some_iff.mp hv).1
          obtain ⟨t, e⟩ := PyProof.Rows.IntsAre.int_at ints0 i v (by rw [Array.getElem?_toList]; exact hv)
          refine ⟨ks[i], t, List.getElem?_eq_getElem i0, ?_⟩
          rw [e, List.getD_eq_getElem?_getD, List.getElem?_eq_getElem i0] <;> rfl
        refine set_update_ints ((Walks.list calm3 _ l ne1 xs).toS) s.heap.objs.size
          nf1 ks szq few val1 (xs.size - 0) 0 _ (by omega) (Nat.zero_le _)
          ⟨⟨_, Heap.get?_push_size _ rfl, rfl, rfl⟩, (isl1.push _)⟩ ?hS0 ?hR
        case hS0 =>
          have get1 : ((s.heap.push (emptyS w)).push { cls := .type "list_iterator", data := .fields #[.ref l, .int 0 0] }).get? s.heap.objs.size
              = some (emptyS w) := Heap.get?_push_of_some _ atS
          exact ⟨0, Nat.le_refl 0, setR_new_at get1⟩
        case hR =>
          intro s' c' mv1 le1 set1
          obtain ⟨hp', gg, dd', tk1, os1⟩ := s'
          have e1 : gg = s.gens := mv1.gens
          have e2 : dd' = s.drawn := mv1.drawn
          have e3 : os1 = s.os := mv1.os
          subst e1; subst e2; subst e3
          show wpAny _ _ _ _ _ _
          refine wpAny_pure ?_
          show wpAny _ _ (ret Value.none) _ _ _
          rw [szq] at le1
          refine wpAny_pure ⟨rfl, hp', tk1, c', rfl, set1, le1, fun b o e => ?_⟩
          have b0 : b < s.heap.objs.size := Heap.lt_size e
          have b1 : b ≠ s.heap.objs.size := Nat.ne_of_lt b0
          have b2 : b ≠ (s.heap.push (emptyS w)).objs.size := by
            rw [Heap.size_push]; exact Nat.ne_of_lt (Nat.lt_succ_of_lt b0)
          exact mv1.heap b o (by simp only [List.mem_cons, List.mem_singleton, List.not_mem_nil, or_false, not_or]; exact ⟨b1, b2⟩) (Heap.get?_push_of_some _ (Heap.get?_push_of_some _ e))

      · cases r2 with
        | error e => exact q2
        | ok f2 =>
          cases f2 with
          | ret r =>
            obtain ⟨rfl, hp', tk, c', rfl, set1, le1, kp1⟩ := q2
            repeat any_goals first | assumption | wp_step
            exact h _ _ _ set1 le1 kp1
          | _ => exact q2.elim
    | _ => exact q1.elim
end
def rSetL (K : PySem.W.Frag) (w : World) : List V → Hp → VK → Prop := fun xs H Q => ∃ (a : Addr) (ks : List Int), xs = [V.ref a] ∧ SqL K H a (ks.map V.int) ∧ ks.length < 64 ∧
  ∀ (p : Addr) (c : Nat), H p = none → c ≤ ks.length → Q (.ref p) (upd H p (SetO w p (fun j => decide (j ∈ ks)) c))
theorem cr_setL {X : Cx} (hc : X.calm = true) : CallR X (.type "set") (rSetL X.K X.w) := by
  intro pins s σ H vs us Q I r h
  obtain ⟨a, ks, rfl, hs, hn, q⟩ := h
  obtain ⟨its, rv, hl, _⟩ := I.list hs
  rw [Vals.ref1 r]
  have hi : IntsAre its.toArray.toList ks := by simpa using rv.ints
  refine call_set_lstI ks (I.ok.hd hc) hl.isList hi (by unfold scanBound; omega) fun hp' tk c R hle keep => ?_
  have hn : H s.heap.objs.size = none := I.hok.fresh (Nat.le_refl _)
  exact ⟨.ref s.heap.objs.size, _, I.call (ch := []) (Un.laid keep (Nat.le_refl _) hn) (I.hok.laid keep (Nat.le_refl _) (setO_new R)) I.bare (fun _ z => nomatch z), rfl, q _ c hn hle⟩
def wSortSet (own : Bool) (we : WpE) : WpE := fun ς S R RE => we ς S (fun x S1 => ∃ l ks, contOf S1 x = .l l ∧ intL l = some ks ∧ ks.length < 64 ∧ ∀ ms : List Int, ms.Pairwise (· < ·) → (∀ k, k ∈ ms ↔ k ∈ ks) → mkL own (ms.map .int) S1 R) RE
theorem ints_rep {K : PySem.W.Frag} {S : Sto} {H : Hp} : ∀ ms : List Int, RepL K S H (ms.map .int) (ms.map V.int)
  | [] => .nil
  | i :: r => .cons (.int i) (ints_rep r)
@[simp] theorem s_sortSet {own : Bool} {we : WpE} {ς : En} {S : Sto} {R : Pd} {RE : Px} : wSortSet own we ς S R RE = we ς S (fun x S1 => ∃ l ks, contOf S1 x = .l l ∧ intL l = some ks ∧ ks.length < 64 ∧ ∀ ms : List Int, ms.Pairwise (· < ·) → (∀ k, k ∈ ms ↔ k ∈ ks) → mkL own (ms.map .int) S1 R) RE := rfl
theorem bt_set : bootBuiltins "set" = some (.type "set") := by decide +kernel
theorem b_sortSet {X : Cx} {F : Fr} {a : Expr} {wa : WpE} {p p2 q pos : Pos} {own : Bool} (hc : X.calm = true) (hg : Gl X "sorted") (hm : X.mg "sorted" = none) (hg2 : Gl X "set") (hm2 : X.mg "set" = none) (ha : WE X F a wa) (hn : noStar a = true) :
    WE X F (.Call (.Name "sorted" p) [.Call (.Name "set" p2) [a] [] q] [] pos) (wSortSet own wa) :=
  (pe_callB (cr_sortedSet hc) hg hm bt_sorted (pa_cons (pe_callTy (cr_setL hc) hg2 hm2 bt_set (pa_cons ha pa_nil (starEach_cons (es := []) hn)) (by decide) (by decide) (starEach_cons (es := []) hn) rfl) pa_nil (by rfl)) (by decide) (by decide) (by rfl) rfl).imp fun σ H Q ⟨ς, S, R, g, k, hw, hR⟩ => by
    refine tE.mk g k hw fun x S1 v H1 h1 g1 k1 d1 r1 => ?_
    obtain ⟨l, ks, e1, e2, h2, h1⟩ := h1
    obtain ⟨a, vs, rfl, hq, rl, _⟩ := lstSq_rep r1 g1.rel e1
    rw [intL_eq e2] at rl
    rw [rl.ints] at hq
    refine ⟨a, ks, rfl, hq, h2, fun p c hp hc => ?_⟩
    refine ⟨p, _, c, rfl, upd_same, by omega, fun ms t m1 m2 _ ht => ?_⟩
    have q2 : Rel X.K S1 (upd H1 p (SetO X.w p (fun j => decide (j ∈ ks)) c)) := g1.rel.new hp
    exact (mkL_ok q2 (h1 ms m1 fun k => by rw [m2 k]; simp) (ints_rep ms) fun z S' v' H' q r k p => hR z S' v' H' q r (d1.trans ((Keep.new hp).trans k)) p).2 t ht
end SB
end

section
set_option Elab.async false
set_option linter.all false
set_option maxRecDepth 100000
set_option autoImplicit false
/-! SB19: for the laws' own part: frames, statements one by one, comprehensions and loops by an invariant. -/
namespace SB
open PySem PySem.Spec L2
@[simp] theorem sz_0 : 0 ≤ sizeLine := by decide
@[simp] theorem sz_1 : 1 ≤ sizeLine := by decide
@[simp] theorem sz_2 : 2 ≤ sizeLine := by decide
@[simp] theorem sz_3 : 3 ≤ sizeLine := by decide
@[simp] theorem sz_4 : 4 ≤ sizeLine := by decide
@[simp] theorem sz_5 : 5 ≤ sizeLine := by decide
@[simp] theorem sz_6 : 6 ≤ sizeLine := by decide
@[simp] theorem sz_7 : 7 ≤ sizeLine := by decide
@[simp] theorem sz_8 : 8 ≤ sizeLine := by decide
theorem sz1001 {n : Nat} (h : n ≤ 1000) : n + 1 ≤ sizeLine := Nat.le_trans (Nat.succ_le_succ h) (by decide)
/-- what comes behind a statement, left as it is -/
def later (b : WpS) : WpS := b
theorem later_of {b : WpS} {ς : En} {S : Sto} {E : ES} {XE : PxE} (h : b ς S E XE) : later b ς S E XE := h
theorem s_seqL {p q : WpS} {ς : En} {S : Sto} {E : ES} {XE : PxE} : wSeq p q ς S E XE = p ς S { E with nx := fun ς' S' => later q ς' S' E XE } XE := rfl
theorem dEqI {i j : Int} : dEq (.int i) (.int j) = decide (i = j) := by
  by_cases h : i = j
  · subst h; simp [dEq, pyD, PyData.eqv]
  · simp [dEq, pyD, PyData.eqv, h]
theorem intL2 {i j : Int} : intL [.int i, .int j] = some [i, j] := rfl
/-- what stood still stands, but for these -/
def Fm (A : List Addr) (S S' : Sto) : Prop := ∀ b, b ∉ A → S b ≠ none → S' b = S b
theorem Fm.refl {A : List Addr} {S : Sto} : Fm A S S := fun _ _ _ => rfl
theorem Fm.trans {A : List Addr} {S S1 S2 : Sto} (h : Fm A S S1) (k : Fm A S1 S2) : Fm A S S2 := fun b hb n => by
  have e := h b hb n
  rw [k b hb (by rw [e]; exact n), e]
theorem Fm.set {A : List Addr} {S : Sto} {a : Addr} {o : SO} (h : a ∈ A) : Fm A S (S.set a o) := fun b hb _ => Sto.set_ne (fun e => hb (e ▸ h))
theorem Fm.new {A : List Addr} {S : Sto} {a : Addr} {o : SO} (h : S a = none) : Fm A S (S.set a o) := fun b _ n => Sto.set_ne (fun e => n (e ▸ h))
theorem Fm.mono {A B : List Addr} {S S' : Sto} (f : Fm A S S') (h : ∀ b ∈ A, b ∈ B) : Fm B S S' := fun b hb n => f b (fun z => hb (h b z)) n
theorem Fm.at {A : List Addr} {S S' : Sto} {a : Addr} {o : SO} (f : Fm A S S') (e : S a = some o) (h : a ∉ A) : S' a = some o := by
  rw [f a h (by rw [e]; simp)]; exact e
theorem Fm.ne {A : List Addr} {S S' : Sto} {a b : Addr} {o : SO} (f : Fm A S S') (e : S a = some o) (h : a ∉ A) (n : S' b = none) : a ≠ b := fun z => by
  rw [z] at e h
  rw [f.at e h] at n
  cases n
theorem ne_of_S {S : Sto} {a b : Addr} {o : SO} (e : S a = some o) (n : S b = none) : a ≠ b := fun z => by
  rw [z, n] at e; cases e
section
variable {ς : En} {S : Sto} {R : Pd} {RE : Px} {wa we : WpE} {was : WpA} {ks : List Key}
theorem f_ixR {a : Addr} {l : List D} {i : Int} (h : S a = some (.lst l)) : fIx (.ref a) (.int i) S R = ∃ v, L2.atI l i = some v ∧ R v S := by
  simp [fIx, contOf_refL h]
theorem f_ixRD {a : Addr} {l : List (Key × D)} {k : Str} (h : S a = some (.dct l)) : fIx (.ref a) (.str k) S R = ∃ v, lookK (.inr k) l = some v ∧ R v S := by
  simp [fIx, contOf_refD h, keyOf]
theorem f_ixRI {a : Addr} {l : List (Key × D)} {k : Int} (h : S a = some (.dct l)) : fIx (.ref a) (.int k) S R = ∃ v, lookK (.inl k) l = some v ∧ R v S := by
  simp [fIx, contOf_refD h, keyOf]
theorem f_setIL {a : Addr} {l : List D} {i : Int} {y : D} {R : Sto → Prop} (h : S a = some (.lst l)) : fSetI (.ref a) (.int i) y S R = ∃ j, L2.ixN l.length i = some j ∧ R (S.set a (.lst (l.set j y))) := by
  simp [fSetI, h]
theorem f_setID {a : Addr} {l : List (Key × D)} {k : Str} {y : D} {R : Sto → Prop} (h : S a = some (.dct l)) : fSetI (.ref a) (.str k) y S R = (l.length + 1 ≤ sizeLine ∧ R (S.set a (.dct (putD (.inr k) y l)))) := by
  simp [fSetI, h, keyOf]
theorem f_lenR {a : Addr} {l : List D} (h : S a = some (.lst l)) : fLen [.ref a] S R = R (.int l.length) S := by simp [fLen, contOf_refL h]
theorem s_dictF : wDict false ks was ς S R RE = ∀ p, S p = none → was ς (S.set p (.dct [])) (fun xs S1 => S1 p = some (.dct []) ∧ xs.length = ks.length ∧ ks.length ≤ 15 ∧ R (.dct (mergeD [] (ks.zip xs))) (S1.del p)) RE := rfl
theorem s_dictO : wDict true ks was ς S R RE = ∀ p, S p = none → was ς (S.set p (.dct [])) (fun xs S1 => S1 p = some (.dct []) ∧ xs.length = ks.length ∧ ks.length ≤ 15 ∧ R (.ref p) (S1.set p (.dct (mergeD [] (ks.zip xs))))) RE := rfl
@[simp] theorem s_sl {own : Bool} {wl wh : Option WpE} : wSl own we wl wh ς S R RE = we ς S (fun x S1 => wPart wl ς S1 (fun lo S2 => wPart wh ς S2 (fun hi S3 => fSl own x lo hi S3 R) RE) RE) RE := rfl
@[simp] theorem s_partN {R : Option Int → Sto → Prop} : wPart none ς S R RE = R none S := rfl
@[simp] theorem s_partS {R : Option Int → Sto → Prop} : wPart (some we) ς S R RE = we ς S (fun x S1 => ∃ i, x = .int i ∧ R (some i) S1) RE := rfl
@[simp] theorem f_slT {own : Bool} {l : List D} {lo hi : Option Int} : fSl own (.tup l) lo hi S R = R (.tup (cutD l lo hi)) S := rfl
@[simp] theorem f_slL {l : List D} {lo hi : Option Int} : fSl false (.lst l) lo hi S R = ((cutD l lo hi).length ≤ sizeLine ∧ R (.lst (cutD l lo hi)) S) := rfl
theorem f_update {a : Addr} {l m : List (Key × D)} (h : S a = some (.dct l)) (hl : l.length + m.length ≤ 1000) (hR : R .non (S.set a (.dct (mergeD l m)))) : fUpdate (.ref a) [.dct m] S R :=
  ⟨a, l, _, m, rfl, h, rfl, rfl, (fun z => by cases z), sz1000 hl, hR⟩
theorem f_minI {i j : Int} : fMin [.int i, .int j] S R = R (.int (if j < i then j else i)) S := rfl
theorem f_maxI {i j : Int} : fMax [.int i, .int j] S R = R (.int (if j > i then j else i)) S := rfl
theorem f_intB {b : Bool} : fInt [.bl b] S R = R (.int (b2iD b)) S := rfl
@[simp] theorem s_isE {ad : Addr} {c C : String} {cs : List String} : wIsE ad c C cs we ς S R RE = we ς S (fun x S1 => x = .ref ad ∧ c ∈ cs ∧ c ≠ "NoPot" ∧ R (.bl (subB c C)) S1) RE := rfl
theorem s_tryAs {cs : List String} {C : String} {i : Nat} {wb : WpS} {ws : Addr → String → WpS} {E : ES} {XE : PxE} : wTryAs cs C i wb ws ς S E XE = wb ς S E (fun c ς' S' => c ∈ cs ∧ if subB c C = true then ∀ a, ws a c (ς'.set i (some (.ref a))) S' (E.unset i) (fun _ _ _ => False) else XE c ς' S') := rfl
theorem f_eqT1 {x y z : Bool} (h : R (.int ((([x, y].countP fun b => b == z) : Nat) : Int)) S) : fCount (.lst [.bl x, .bl y]) [.bl z] S R := by
  rw [f_countL]
  refine ⟨by cases x <;> cases y <;> decide, by cases z <;> decide, ?_⟩
  have e : ([D.bl x, D.bl y].countP fun b => dEq b (.bl z)) = [x, y].countP fun b => b == z := by cases x <;> cases y <;> cases z <;> decide
  rw [e]
  exact h
theorem f_idx0 {y : Bool} (h : R (.int 0) S) : fIndex (.lst [.bl true, .bl y]) [.bl true] S R :=
  ⟨_, _, 0, rfl, rfl, by cases y <;> decide, by decide, by cases y <;> decide, h⟩
theorem f_idx1 (h : R (.int 1) S) : fIndex (.lst [.bl false, .bl true]) [.bl true] S R :=
  ⟨_, _, 1, rfl, rfl, by decide, by decide, by decide, h⟩
theorem ret_pair {p : Addr} {l : List (Key × D)} {L : D} (hp : S p = none) (hL : pl L = true) (h : R (.tup [.dct l, L]) S) : Rz R (.tup [.ref p, L]) (S.set p (.dct l)) := by
  refine ⟨sb p (.dct l) (.tup [.ref p, L]), (S.set p (.dct l)).del p, Frz.sub (o := .dct l) (by simp) rfl, ?_⟩
  rw [sb, subL, subL, subL, sb, if_pos rfl, (sb_pl p _).1 L hL, Sto.del_set, Sto.del_none hp]
  exact h
@[simp] theorem s_for {wi : WpI} {t : Tg} {tb : WpS} {E : ES} {XE : PxE} : wFor wi t tb ς S E XE = wi ς S (fun xs gd S1 => forL gd t tb xs ς S1 E XE) (fun c S' => XE c ς S') := rfl
@[simp] theorem s_range {R : List D → Option (Addr × SO) → Sto → Prop} : wRange was ς S R RE = was ς S (fun xs S1 => ∃ j : Int, xs = [.int j] ∧ -(2 ^ 62) ≤ j ∧ j < 2 ^ 62 ∧ R (rngD 0 j.toNat) none S1) RE := by
  unfold wRange
  congr 1
  funext xs S1
  match xs with
  | [.int j] => simp
  | [] => simp
  | [.non] => simp
  | [.bl _] => simp
  | [.str _] => simp
  | [.tup _] => simp
  | [.lst _] => simp
  | [.dct _] => simp
  | [.ins _ _] => simp
  | [.scr _] => simp
  | [.ref _] => simp
  | [.exc _] => simp
  | _ :: _ :: _ => simp
@[simp] theorem s_enum {R : List D → Option (Addr × SO) → Sto → Prop} : wEnum was ς S R RE = was ς S (fun xs S1 => ∃ x l gd, xs = [x] ∧ srcL S1 x = some (false, l, gd) ∧ R (enumD 0 l) gd S1) RE := rfl
theorem f_dictR {own : Bool} {a : Addr} {l : List (Key × D)} (h : S a = some (.dct l)) : fDict own [.ref a] S R = mkD own l S R := by
  show (match contOf S (.ref a) with | .d l => mkD own l S R | .l l => ∃ ps, pairL l = some ps ∧ mkD own (mergeD [] ps) S R | _ => False) = _
  rw [contOf_refD h]
theorem f_listR {own : Bool} {a : Addr} {l : List D} (h : S a = some (.lst l)) : fList own [.ref a] S R = mkL own l S R := by
  show (match contOf S (.ref a) with | .d l => mkL own (l.map fun p : Key × D => keyD p.1) S R | .l l => mkL own l S R | .t l => mkL own l S R | _ => False) = _
  rw [contOf_refL h]
theorem f_listRD {own : Bool} {a : Addr} {l : List (Key × D)} (h : S a = some (.dct l)) : fList own [.ref a] S R = mkL own (l.map fun p => keyD p.1) S R := by
  show (match contOf S (.ref a) with | .d l => mkL own (l.map fun p : Key × D => keyD p.1) S R | .l l => mkL own l S R | .t l => mkL own l S R | _ => False) = _
  rw [contOf_refD h]
theorem ret_drop {p : Addr} {o : SO} {x : D} (hp : S p = none) (h : R x S) : Rz R x (S.set p o) := ⟨x, _, Frz.del (p := p), by rw [Sto.del_set, Sto.del_none hp]; exact h⟩
/-- an own list handed out is one that nobody owns -/
theorem ret_lst {p : Addr} {l : List D} (hp : S p = none) (h : R (.lst l) S) : Rz R (.ref p) (S.set p (.lst l)) := by
  refine ⟨sb p (.lst l) (.ref p), (S.set p (.lst l)).del p, Frz.sub (o := .lst l) (by simp) rfl, ?_⟩
  rw [sb, if_pos rfl, Sto.del_set, Sto.del_none hp]
  exact h
theorem at_map {α : Type} {g : α → D} {l : List α} {d : Int} (d0 : 0 ≤ d) (d1 : d < l.length) : ∃ x ∈ l, L2.atI (l.map g) d = some (g x) := by
  have h : d.toNat < l.length := by omega
  refine ⟨l[d.toNat], List.getElem_mem h, ?_⟩
  unfold L2.atI L2.ixN
  rw [if_pos d0, if_pos (by rw [List.length_map]; exact d1)]
  simp [h]
theorem atN {l : List D} {i : Nat} {x : D} (h : l[i]? = some x) : L2.atI l (i : Int) = some x := by
  have hl : i < l.length := (List.getElem?_eq_some_iff.mp h).1
  unfold L2.atI L2.ixN
  rw [if_pos (by omega), if_pos (by omega)]
  simpa using h
theorem ixnN {n i : Nat} (h : i < n) : L2.ixN n (i : Int) = some i := by
  unfold L2.ixN
  rw [if_pos (by omega), if_pos (by omega)]
  simp
theorem rngD_eq : ∀ (m : Nat) (lo : Nat), rngD (lo : Int) m = (List.range' lo m).map fun i => .int (i : Int)
  | 0, lo => rfl
  | m + 1, lo => by
    rw [List.range'_succ, List.map_cons, ← rngD_eq m (lo + 1)]
    rfl
theorem rngD_range (m : Nat) : rngD 0 m = (List.range m).map fun i => .int (i : Int) := by
  rw [List.range_eq_range']
  exact rngD_eq m 0
theorem map_range_get {α β : Type} (l : List α) (x0 : α) (f : α → β) : (List.range l.length).map (fun i => f (l.getD i x0)) = l.map f := by
  apply List.ext_getElem
  · simp
  · intro i h1 h2
    simp at h1 h2
    simp [List.getD_eq_getElem?_getD, h2]
theorem ixL_of {S : Sto} {R : Pd} {l : List D} {x : D} {i : Nat} (h : l[i]? = some x) : fIx (.lst l) (.int (i : Int)) S R = R x S := by
  rw [f_ixL, atN h]; simp
theorem ixT_of {S : Sto} {R : Pd} {l : List D} {x : D} {i : Nat} (h : l[i]? = some x) : fIx (.tup l) (.int (i : Int)) S R = R x S := by
  rw [f_ixT, atN h]; simp
theorem ixR_of {S : Sto} {R : Pd} {a : Addr} {l : List D} {x : D} {i : Nat} (hS : S a = some (.lst l)) (h : l[i]? = some x) : fIx (.ref a) (.int (i : Int)) S R = R x S := by
  rw [f_ixR hS, atN h]; simp
theorem get_map {α : Type} {g : α → D} {l : List α} {i : Nat} {x : α} (h : l[i]? = some x) : (l.map g)[i]? = some (g x) := by simp [h]
theorem lt_of {α : Type} {l : List α} {i : Nat} {x : α} (h : l[i]? = some x) : i < l.length := (List.getElem?_eq_some_iff.mp h).1
theorem get_ex {α : Type} {l : List α} {i : Nat} (x0 : α) (h : i < l.length) : l[i]? = some (l.getD i x0) := by
  rw [List.getD_eq_getElem?_getD, List.getElem?_eq_getElem h]; rfl
/-- where a walk of 0, 1, .. n - 1 stands -/
theorem range_at {n j : Nat} {done rest : List Nat} (e : List.range n = done ++ j :: rest) : done = List.range done.length ∧ j = done.length ∧ j < n := by
  have e3 := congrArg (List.take done.length) e
  rw [List.take_left' rfl, List.take_range] at e3
  have hlen := congrArg List.length e
  simp at hlen
  have e4 : (List.range n)[done.length]? = some j := by rw [e]; simp
  have hlt : done.length < n := by omega
  rw [List.getElem?_range hlt] at e4
  cases e4
  refine ⟨?_, rfl, hlt⟩
  rw [← e3, List.length_range, Nat.min_eq_left (by omega)]
/-! comprehensions -/
/-- each element pure, as the store stands -/
theorem lc_mapS {α : Type} {gd : Option (Addr × SO)} {g : α → D} {t : Tg} {p : Addr} {xs : List α} {K : List D → Sto → Prop} (f : α → D) (hgd : ∀ o, grd gd (S.set p o)) (hl : xs.length ≤ 1000)
    (hx : ∀ x ∈ xs, ∃ ς1, t.bind (g x) ς = some ς1 ∧ ∀ (o : SO) (R : Pd), R (f x) (S.set p o) → we ς1 (S.set p o) R (fun _ _ => False)) (h : K (xs.map f) (S.set p (.lst (xs.map f)))) : lcL gd t wYes we p ς (xs.map g) [] (S.set p (.lst [])) K := by
  have gen : ∀ (xs : List α) (acc : List D), xs.length + acc.length ≤ 1000 → (∀ x ∈ xs, ∃ ς1, t.bind (g x) ς = some ς1 ∧ ∀ (o : SO) (R : Pd), R (f x) (S.set p o) → we ς1 (S.set p o) R (fun _ _ => False)) →
      K (acc ++ xs.map f) (S.set p (.lst (acc ++ xs.map f))) → lcL gd t wYes we p ς (xs.map g) acc (S.set p (.lst acc)) K := by
    intro xs
    induction xs with
    | nil => intro acc _ _ h; exact ⟨hgd _, by simp, by simpa using h⟩
    | cons x xs ih =>
      intro acc hl hx h
      obtain ⟨ς1, e1, h1⟩ := hx x List.mem_cons_self
      refine ⟨hgd _, ς1, e1, ?_⟩
      simp only [s_yes, if_true]
      refine h1 _ _ ⟨by simp, sz1001 (by simp at hl; omega), ?_⟩
      rw [Sto.set_set]
      refine ih _ (by simp at hl ⊢; omega) (fun y hy => hx y (List.mem_cons_of_mem _ hy)) ?_
      simpa using h
  exact gen xs [] (by simpa using hl) hx (by simpa using h)
/-- .. and some of them alone -/
theorem lc_filterS {α : Type} {gd : Option (Addr × SO)} {g : α → D} {t : Tg} {wt : WpT} {p : Addr} {xs : List α} {K : List D → Sto → Prop} (c : α → Bool) (f : α → D) (hgd : ∀ o, grd gd (S.set p o)) (hl : xs.length ≤ 1000)
    (hx : ∀ x ∈ xs, ∃ ς1, t.bind (g x) ς = some ς1 ∧ (∀ (o : SO) (Rb : Bool → Sto → Prop), Rb (c x) (S.set p o) → wt ς1 (S.set p o) Rb (fun _ _ => False)) ∧ (∀ (o : SO) (R : Pd), R (f x) (S.set p o) → we ς1 (S.set p o) R (fun _ _ => False)))
    (h : K ((xs.filter c).map f) (S.set p (.lst ((xs.filter c).map f)))) : lcL gd t wt we p ς (xs.map g) [] (S.set p (.lst [])) K := by
  have gen : ∀ (xs : List α) (acc : List D), xs.length + acc.length ≤ 1000 → (∀ x ∈ xs, ∃ ς1, t.bind (g x) ς = some ς1 ∧ (∀ (o : SO) (Rb : Bool → Sto → Prop), Rb (c x) (S.set p o) → wt ς1 (S.set p o) Rb (fun _ _ => False)) ∧ (∀ (o : SO) (R : Pd), R (f x) (S.set p o) → we ς1 (S.set p o) R (fun _ _ => False))) →
      K (acc ++ (xs.filter c).map f) (S.set p (.lst (acc ++ (xs.filter c).map f))) → lcL gd t wt we p ς (xs.map g) acc (S.set p (.lst acc)) K := by
    intro xs
    induction xs with
    | nil => intro acc _ _ h; exact ⟨hgd _, by simp, by simpa using h⟩
    | cons x xs ih =>
      intro acc hl hx h
      obtain ⟨ς1, e1, h0, h1⟩ := hx x List.mem_cons_self
      refine ⟨hgd _, ς1, e1, ?_⟩
      refine h0 _ _ ?_
      by_cases hc : c x = true
      · rw [if_pos hc]
        refine h1 _ _ ⟨by simp, sz1001 (by simp at hl; omega), ?_⟩
        rw [Sto.set_set]
        refine ih _ (by simp at hl ⊢; omega) (fun y hy => hx y (List.mem_cons_of_mem _ hy)) ?_
        rw [List.filter_cons_of_pos hc] at h
        simpa using h
      · rw [if_neg hc]
        refine ih _ (by simp at hl ⊢; omega) (fun y hy => hx y (List.mem_cons_of_mem _ hy)) ?_
        rw [List.filter_cons_of_neg hc] at h
        exact h
  exact gen xs [] (by simpa using hl) hx (by simpa using h)
/-- each element changes the store -/
theorem lc_eff {α : Type} {gd : Option (Addr × SO)} {g : α → D} {t : Tg} {p : Addr} {xs : List α} {K : List D → Sto → Prop} (I : List α → List D → Sto → Prop) (hl : xs.length ≤ 1000)
    (hgd : ∀ done acc S, I done acc S → grd gd S) (hp : ∀ done acc S, I done acc S → S p = some (.lst acc))
    (step : ∀ done x rest acc S, xs = done ++ x :: rest → I done acc S → ∃ ς1, t.bind (g x) ς = some ς1 ∧ ∀ R : Pd, (∀ y S2, S2 p = some (.lst acc) → I (done ++ [x]) (acc ++ [y]) (S2.set p (.lst (acc ++ [y]))) → R y S2) → we ς1 S R (fun _ _ => False))
    (start : I [] [] S) (fin : ∀ acc S, I xs acc S → K acc S) : lcL gd t wYes we p ς (xs.map g) [] S K := by
  have gen : ∀ (rest done : List α) (acc : List D) (S : Sto), xs = done ++ rest → acc.length = done.length → I done acc S → lcL gd t wYes we p ς (rest.map g) acc S K := by
    intro rest
    induction rest with
    | nil =>
      intro done acc S e ha h
      rw [List.append_nil] at e
      subst e
      exact ⟨hgd _ _ _ h, hp _ _ _ h, fin _ _ h⟩
    | cons x rest ih =>
      intro done acc S e ha h
      obtain ⟨ς1, e1, h1⟩ := step done x rest acc S e h
      refine ⟨hgd _ _ _ h, ς1, e1, ?_⟩
      simp only [s_yes, if_true]
      refine h1 _ fun y S2 h2 h3 => ⟨h2, sz1001 (by rw [e] at hl; simp at hl; omega), ?_⟩
      exact ih (done ++ [x]) (acc ++ [y]) _ (by rw [e]; simp) (by simp [ha]) h3
  exact gen xs [] [] S rfl rfl start
/-- a loop by its invariant -/
theorem for_inv {α : Type} {gd : Option (Addr × SO)} {g : α → D} {t : Tg} {tb : WpS} {E : ES} {XE : PxE} {xs : List α} (I : List α → En → Sto → Prop) (hgd : ∀ done ς S, I done ς S → grd gd S)
    (step : ∀ done x rest ς S, xs = done ++ x :: rest → I done ς S → ∃ ς1, t.bind (g x) ς = some ς1 ∧ ∀ K : En → Sto → Prop, (∀ ς' S', I (done ++ [x]) ς' S' → K ς' S') → tb ς1 S { E with nx := K, ct := K, bk := E.nx } XE)
    (start : I [] ς S) (fin : ∀ ς S, I xs ς S → E.nx ς S) : forL gd t tb (xs.map g) ς S E XE := by
  have gen : ∀ (rest done : List α) (ς : En) (S : Sto), xs = done ++ rest → I done ς S → forL gd t tb (rest.map g) ς S E XE := by
    intro rest
    induction rest with
    | nil =>
      intro done ς S e h
      rw [List.append_nil] at e
      subst e
      exact ⟨hgd _ _ _ h, fin _ _ h⟩
    | cons x rest ih =>
      intro done ς S e h
      obtain ⟨ς1, e1, h1⟩ := step done x rest ς S e h
      exact ⟨hgd _ _ _ h, ς1, e1, h1 _ fun ς' S' h' => ih (done ++ [x]) ς' S' (by rw [e]; simp) h'⟩
  exact gen xs [] ς S rfl start
end
end SB
end

section
set_option Elab.async false
set_option linter.all false
set_option maxRecDepth 100000
set_option maxHeartbeats 0
namespace L98
open SB PySem PySem.Spec L2
def top (i : Nat) : Stmt := PySem.Challenge.pw_sidebook_k98_whole_two_books_by_turns.main.body.getD i (.Pass ⟨0, 0, 0, 0⟩)
def inClass (s : Stmt) (j : Nat) : Stmt := match s with
  | .ClassDef _ _ _ body _ _ _ _ _ _ _ => body.getD j (.Pass ⟨0, 0, 0, 0⟩)
  | s => s
def mkDD (at_ : Str × Option Str) (name qual : Str) (st : Stmt) (dfl : List He.Dv) : He.DefD := ⟨at_, name, qual, defArgs st, defBody st, defScope st, dfl, []⟩
def excs : List String := ["BookError", "NoStand", "NoDeed"]
def owncs : List String := ["Claim", "Held", "Laid", "Taken", "Book"]
def subs : List (String × String) := [("Claim", "Claim"), ("Held", "Held"), ("Held", "Claim"), ("Laid", "Laid"), ("Laid", "Claim"), ("Taken", "Taken"), ("Taken", "Claim"), ("Book", "Book")]
def ownsub (c C : String) : Bool := subs.contains (c, C)
def fn : List He.DefD := [
  mkDD (("in_bounds" : Str), none) "in_bounds" "in_bounds" (top 11) [],
  mkDD (("is_tie" : Str), none) "is_tie" "is_tie" (top 12) [],
  mkDD (("are_shares" : Str), none) "are_shares" "are_shares" (top 13) [],
  mkDD (("are_ties" : Str), none) "are_ties" "are_ties" (top 14) [],
  mkDD (("is_stand" : Str), none) "is_stand" "is_stand" (top 15) [],
  mkDD (("stand" : Str), none) "stand" "stand" (top 16) [.non],
  mkDD (("first" : Str), none) "first" "first" (top 17) [],
  mkDD (("deals" : Str), none) "deals" "deals" (top 18) [],
  mkDD (("is_made" : Str), none) "is_made" "is_made" (top 21) [],
  mkDD (("is_thing" : Str), none) "is_thing" "is_thing" (top 22) [],
  mkDD (("is_pot" : Str), none) "is_pot" "is_pot" (top 32) [],
  mkDD (("_law_cell_at" : Str), none) "_law_cell_at" "_law_cell_at" (top 35) [],
  mkDD (("_law_well_of" : Str), none) "_law_well_of" "_law_well_of" (top 36) [],
  mkDD (("_law_draw" : Str), none) "_law_draw" "_law_draw" (top 37) [],
  mkDD (("_law_deal" : Str), none) "_law_deal" "_law_deal" (top 38) [],
  mkDD (("_law_due_of" : Str), none) "_law_due_of" "_law_due_of" (top 39) [],
  mkDD (("_law_all_due" : Str), none) "_law_all_due" "_law_all_due" (top 40) [],
  mkDD (("_law_all_told" : Str), none) "_law_all_told" "_law_all_told" (top 41) [],
  mkDD (("_law_alike" : Str), none) "_law_alike" "_law_alike" (top 42) [],
  mkDD (("_law_deed_of" : Str), none) "_law_deed_of" "_law_deed_of" (top 43) [],
  mkDD (("_law_wanted" : Str), none) "_law_wanted" "_law_wanted" (top 44) [],
  mkDD (("_law_done" : Str), none) "_law_done" "_law_done" (top 45) [],
  mkDD (("law" : Str), none) "law" "law" (top 46) [],
  mkDD (("Claim" : Str), some ("told" : Str)) "told" "Claim.told" (inClass (top 24) 0) [],
  mkDD (("Claim" : Str), some ("comes" : Str)) "comes" "Claim.comes" (inClass (top 24) 1) [],
  mkDD (("Claim" : Str), some ("may_strike" : Str)) "may_strike" "Claim.may_strike" (inClass (top 24) 2) [],
  mkDD (("Held" : Str), some ("told" : Str)) "told" "Held.told" (inClass (top 25) 1) [],
  mkDD (("Held" : Str), some ("comes" : Str)) "comes" "Held.comes" (inClass (top 25) 2) [],
  mkDD (("Held" : Str), some ("may_strike" : Str)) "may_strike" "Claim.may_strike" (inClass (top 24) 2) [],
  mkDD (("Held" : Str), some ("__init__" : Str)) "__init__" "Held.__init__" (inClass (top 25) 0) [],
  mkDD (("Laid" : Str), some ("told" : Str)) "told" "Laid.told" (inClass (top 26) 1) [],
  mkDD (("Laid" : Str), some ("comes" : Str)) "comes" "Laid.comes" (inClass (top 26) 2) [],
  mkDD (("Laid" : Str), some ("may_strike" : Str)) "may_strike" "Laid.may_strike" (inClass (top 26) 3) [],
  mkDD (("Laid" : Str), some ("__init__" : Str)) "__init__" "Laid.__init__" (inClass (top 26) 0) [],
  mkDD (("Taken" : Str), some ("told" : Str)) "told" "Taken.told" (inClass (top 27) 1) [],
  mkDD (("Taken" : Str), some ("comes" : Str)) "comes" "Taken.comes" (inClass (top 27) 2) [],
  mkDD (("Taken" : Str), some ("may_strike" : Str)) "may_strike" "Claim.may_strike" (inClass (top 24) 2) [],
  mkDD (("Taken" : Str), some ("__init__" : Str)) "__init__" "Taken.__init__" (inClass (top 27) 0) [],
  mkDD (("Book" : Str), some ("__init__" : Str)) "__init__" "Book.__init__" (inClass (top 33) 0) [],
  mkDD (("Book" : Str), some ("made_of" : Str)) "made_of" "Book.made_of" (inClass (top 33) 1) [],
  mkDD (("Book" : Str), some ("today" : Str)) "today" "Book.today" (inClass (top 33) 2) [],
  mkDD (("Book" : Str), some ("next_day" : Str)) "next_day" "Book.next_day" (inClass (top 33) 3) [],
  mkDD (("Book" : Str), some ("look_for" : Str)) "look_for" "Book.look_for" (inClass (top 33) 4) [.int 0],
  mkDD (("Book" : Str), some ("show" : Str)) "show" "Book.show" (inClass (top 33) 5) [],
  mkDD (("Book" : Str), some ("agreed" : Str)) "agreed" "Book.agreed" (inClass (top 33) 6) [],
  mkDD (("Book" : Str), some ("lay" : Str)) "lay" "Book.lay" (inClass (top 33) 7) [.non],
  mkDD (("Book" : Str), some ("strike" : Str)) "strike" "Book.strike" (inClass (top 33) 8) [],
  mkDD (("Book" : Str), some ("told" : Str)) "told" "Book.told" (inClass (top 33) 9) [],
  mkDD (("Book" : Str), some ("shown_for" : Str)) "shown_for" "Book.shown_for" (inClass (top 33) 10) [],
  mkDD (("Book" : Str), some ("due_of" : Str)) "due_of" "Book.due_of" (inClass (top 33) 11) [],
  mkDD (("Book" : Str), some ("coin_of" : Str)) "coin_of" "Book.coin_of" (inClass (top 33) 12) [],
  mkDD (("Book" : Str), some ("is_over" : Str)) "is_over" "Book.is_over" (inClass (top 33) 13) [],
  mkDD (("Book" : Str), some ("all_shown" : Str)) "all_shown" "Book.all_shown" (inClass (top 33) 14) []]
def fa : List He.Fa := [.glo "Book", .glo "BookError", .glo "Held", .glo "Laid", .glo "NoDeed", .glo "NoStand", .glo "Taken", .glo "_law_alike", .glo "_law_all_due", .glo "_law_all_told", .glo "_law_cell_at", .glo "_law_deal", .glo "_law_deed_of", .glo "_law_done", .glo "_law_draw", .glo "_law_due_of", .glo "_law_wanted", .glo "_law_well_of", .glo "are_shares", .glo "are_ties", .glo "deals", .glo "first", .glo "in_bounds", .glo "is_made", .glo "is_pot", .glo "is_stand", .glo "is_thing", .glo "is_tie", .glo "stand", .free "all", .free "any", .free "bool", .free "dict", .free "enumerate", .free "int", .free "isinstance", .free "len", .free "list", .free "min", .free "range"] ++ [.free "set", .free "sorted", .free "sum", .free "tuple", .int "MOST_COIN" 1000000000000, .int "MOST_DAY" 1000000, .int "MOST_HAND" 3, .int "MOST_NUMBER" 1000000, .int "MOST_POT" 2, .int "MOST_POTS" 3, .int "MOST_TIES" 6, .int "MOST_WAIT" 100, .int "MOST_WORD" 59, .noat "Book" "claims", .noat "Book" "kept", .noat "Book" "now", .noat "Book" "shows", .noat "Held" "whole", .noat "Laid" "begun", .noat "Laid" "layer", .noat "Laid" "lying", .noat "Laid" "patience", .noat "Laid" "whole", .noat "Taken" "taker", .noat "Taken" "whole", .mkr "Book", .cls "Book", .mkr "Held", .cls "Held", .mkr "Laid", .cls "Laid", .mkr "Taken", .cls "Taken", .meth "Book" "agreed", .meth "Book" "all_shown", .meth "Book" "coin_of", .meth "Claim" "comes", .meth "Held" "comes", .meth "Laid" "comes", .meth "Taken" "comes"] ++ [.meth "Book" "due_of", .meth "Book" "is_over", .meth "Book" "lay", .meth "Book" "look_for", .meth "Book" "made_of", .meth "Claim" "may_strike", .meth "Held" "may_strike", .meth "Laid" "may_strike", .meth "Taken" "may_strike", .meth "Book" "next_day", .meth "Book" "show", .meth "Book" "shown_for", .meth "Book" "strike", .meth "Book" "today", .meth "Book" "told", .meth "Claim" "told", .meth "Held" "told", .meth "Laid" "told", .meth "Taken" "told", .exc "BookError", .exc "NoStand", .exc "NoDeed", .glo "law"]
def ts : List He.Tab := []
def exl (K : PySem.W.Frag) : List Bool := [exmB K excs, kitB2 K subB excs && (excs.all (excB1 K) && getsetB K)]
def ex (K : PySem.W.Frag) : Bool := (exl K).all id
def names : List PySem.Str := (["BookError", "NoStand", "NoDeed", "NoPot", "MOST_NUMBER", "MOST_COIN", "MOST_TIES", "MOST_WORD", "MOST_DAY", "in_bounds", "is_tie", "are_shares", "are_ties", "is_stand", "stand", "first", "deals", "MOST_POT", "is_made", "is_thing", "Claim", "Held", "Laid", "Taken", "MOST_POTS", "MOST_HAND", "MOST_WAIT", "is_pot", "Book", "_law_cell_at"] : List PySem.Str) ++ (["_law_well_of", "_law_draw", "_law_deal", "_law_due_of", "_law_all_due", "_law_all_told", "_law_alike", "_law_deed_of", "_law_wanted", "_law_done"] : List PySem.Str)
abbrev R : PySem.W.OpenRow := PySem.W.OpenLaw.row PySem.Challenge.rw_sidebook_k98_whole_two_books_by_turns
abbrev hk : PySem.W.Hook := He.hookX 4 fa fn ts [] ex
def ob (s : PySem.W.SharedT) : He.AlX := He.obsX 4 fa fn ts [] ex (HandSHeadRun.getT s)
theorem ob_eq (s : PySem.W.SharedT) : ob s = hk.obs s.abs := He.obsX_eq (HandSHeadRun.getT_eq s)
structure Hd (w : World) (K : PySem.W.Frag) (mg : Str → Option Value) : Prop where
  ex : ∃ h, K.In h ∧ h.Ns mainGlobals mg ∧ He.SaysX fa fn ts [] ex w h K
section
variable {w : World} {K : PySem.W.Frag} {mg : Str → Option Value}
noncomputable def Hd.h (hd : Hd w K mg) : Heap := Classical.choose hd.ex
theorem Hd.X (hd : Hd w K mg) : K.In hd.h := (Classical.choose_spec hd.ex).1
theorem Hd.G (hd : Hd w K mg) : hd.h.Ns mainGlobals mg := (Classical.choose_spec hd.ex).2.1
theorem Hd.c (hd : Hd w K mg) : He.SaysX fa fn ts [] _root_.L98.ex w hd.h K := (Classical.choose_spec hd.ex).2.2
theorem exf (hd : Hd w K mg) {b : Bool} (h : b ∈ exl K) : b = true := List.all_eq_true.mp (show ((exl K).all id) = true from hd.c.more) b h
end
end L98
end

section
set_option Elab.async false
set_option linter.all false
set_option maxRecDepth 100000
set_option maxHeartbeats 0
namespace L98
open SB PySem PySem.Spec L2
theorem run1 (w : World) : True := trivial
theorem run : ∀ w, HandSHeadRun.RunEq R (PySem.W.view R.prog [46]) hk ob 6000 names w := PySem.W.byRow2 "special-get-raises" (fun w => by intro os; kernel_rfl) (fun w => by intro os; kernel_rfl)
end L98
end

section
set_option Elab.async false
set_option linter.all false
set_option maxRecDepth 100000
set_option maxHeartbeats 0
namespace L98
open SB PySem PySem.Spec L2
theorem we_globI' {X : Cx} {F : Fr} {pos : Pos} {x : Str} {i : Int} (h : ∃ t, X.mg x = some (.int i t)) (hg : Gl X x) (hd : (x == ("__debug__" : Str)) = false) : WE X F (.Name x pos) (wC (.int i)) := by
  obtain ⟨t, h⟩ := h
  exact we_globI hg h ⟨t, rfl⟩ hd
theorem _root_.SB.MkBd.mono' {P : Program} {w : World} {K : PySem.W.Frag} {mg : Str → Option Value} {base : Heap} {j k : Nat} {c : String} {n : Nat} {dds : List D} {φ : SB.Spec} (h : MkBd P w K mg base j c n dds φ) (l : j ≤ k) : MkBd P w K mg base k c n dds φ := by
  obtain ⟨⟨f, a, b⟩, c⟩ := h
  exact ⟨⟨f, a, b.mono l⟩, c⟩
theorem _root_.SB.MtBd.mono {P : Program} {w : World} {K : PySem.W.Frag} {mg : Str → Option Value} {base : Heap} {j k : Nat} {C : Addr} {m : Str} {n : Nat} {dds : List D} {φ : SB.Spec} (h : MtBd P w K mg base j C m n dds φ) (l : j ≤ k) : MtBd P w K mg base k C m n dds φ := by
  obtain ⟨f, a, b⟩ := h
  exact ⟨f, a, b.mono l⟩

theorem nd_Book : (("Book" : Str) == ("__debug__" : Str)) = false := by decide
theorem nc_Book : (("Book" : Str) == ("__classdict__" : Str)) = false := by decide
theorem nd_BookError : (("BookError" : Str) == ("__debug__" : Str)) = false := by decide
theorem nc_BookError : (("BookError" : Str) == ("__classdict__" : Str)) = false := by decide
theorem nd_Held : (("Held" : Str) == ("__debug__" : Str)) = false := by decide
theorem nc_Held : (("Held" : Str) == ("__classdict__" : Str)) = false := by decide
theorem nd_Laid : (("Laid" : Str) == ("__debug__" : Str)) = false := by decide
theorem nc_Laid : (("Laid" : Str) == ("__classdict__" : Str)) = false := by decide
theorem nd_MOST_COIN : (("MOST_COIN" : Str) == ("__debug__" : Str)) = false := by decide
theorem nc_MOST_COIN : (("MOST_COIN" : Str) == ("__classdict__" : Str)) = false := by decide
theorem nd_MOST_DAY : (("MOST_DAY" : Str) == ("__debug__" : Str)) = false := by decide
theorem nc_MOST_DAY : (("MOST_DAY" : Str) == ("__classdict__" : Str)) = false := by decide
theorem nd_MOST_HAND : (("MOST_HAND" : Str) == ("__debug__" : Str)) = false := by decide
theorem nc_MOST_HAND : (("MOST_HAND" : Str) == ("__classdict__" : Str)) = false := by decide
theorem nd_MOST_NUMBER : (("MOST_NUMBER" : Str) == ("__debug__" : Str)) = false := by decide
theorem nc_MOST_NUMBER : (("MOST_NUMBER" : Str) == ("__classdict__" : Str)) = false := by decide
theorem nd_MOST_POT : (("MOST_POT" : Str) == ("__debug__" : Str)) = false := by decide
theorem nc_MOST_POT : (("MOST_POT" : Str) == ("__classdict__" : Str)) = false := by decide
theorem nd_MOST_POTS : (("MOST_POTS" : Str) == ("__debug__" : Str)) = false := by decide
theorem nc_MOST_POTS : (("MOST_POTS" : Str) == ("__classdict__" : Str)) = false := by decide
theorem nd_MOST_TIES : (("MOST_TIES" : Str) == ("__debug__" : Str)) = false := by decide
theorem nc_MOST_TIES : (("MOST_TIES" : Str) == ("__classdict__" : Str)) = false := by decide
theorem nd_MOST_WAIT : (("MOST_WAIT" : Str) == ("__debug__" : Str)) = false := by decide
theorem nc_MOST_WAIT : (("MOST_WAIT" : Str) == ("__classdict__" : Str)) = false := by decide
theorem nd_MOST_WORD : (("MOST_WORD" : Str) == ("__debug__" : Str)) = false := by decide
theorem nc_MOST_WORD : (("MOST_WORD" : Str) == ("__classdict__" : Str)) = false := by decide
theorem nd_NoDeed : (("NoDeed" : Str) == ("__debug__" : Str)) = false := by decide
theorem nc_NoDeed : (("NoDeed" : Str) == ("__classdict__" : Str)) = false := by decide
theorem nd_NoStand : (("NoStand" : Str) == ("__debug__" : Str)) = false := by decide
theorem nc_NoStand : (("NoStand" : Str) == ("__classdict__" : Str)) = false := by decide
theorem nd_Taken : (("Taken" : Str) == ("__debug__" : Str)) = false := by decide
theorem nc_Taken : (("Taken" : Str) == ("__classdict__" : Str)) = false := by decide
theorem nd__law_alike : (("_law_alike" : Str) == ("__debug__" : Str)) = false := by decide
theorem nc__law_alike : (("_law_alike" : Str) == ("__classdict__" : Str)) = false := by decide
theorem nd__law_all_due : (("_law_all_due" : Str) == ("__debug__" : Str)) = false := by decide
theorem nc__law_all_due : (("_law_all_due" : Str) == ("__classdict__" : Str)) = false := by decide
theorem nd__law_all_told : (("_law_all_told" : Str) == ("__debug__" : Str)) = false := by decide
theorem nc__law_all_told : (("_law_all_told" : Str) == ("__classdict__" : Str)) = false := by decide
theorem nd__law_cell_at : (("_law_cell_at" : Str) == ("__debug__" : Str)) = false := by decide
theorem nc__law_cell_at : (("_law_cell_at" : Str) == ("__classdict__" : Str)) = false := by decide
theorem nd__law_deal : (("_law_deal" : Str) == ("__debug__" : Str)) = false := by decide
theorem nc__law_deal : (("_law_deal" : Str) == ("__classdict__" : Str)) = false := by decide
theorem nd__law_deed_of : (("_law_deed_of" : Str) == ("__debug__" : Str)) = false := by decide
theorem nc__law_deed_of : (("_law_deed_of" : Str) == ("__classdict__" : Str)) = false := by decide
theorem nd__law_done : (("_law_done" : Str) == ("__debug__" : Str)) = false := by decide
theorem nc__law_done : (("_law_done" : Str) == ("__classdict__" : Str)) = false := by decide
theorem nd__law_draw : (("_law_draw" : Str) == ("__debug__" : Str)) = false := by decide
theorem nc__law_draw : (("_law_draw" : Str) == ("__classdict__" : Str)) = false := by decide
theorem nd__law_due_of : (("_law_due_of" : Str) == ("__debug__" : Str)) = false := by decide
theorem nc__law_due_of : (("_law_due_of" : Str) == ("__classdict__" : Str)) = false := by decide
theorem nd__law_wanted : (("_law_wanted" : Str) == ("__debug__" : Str)) = false := by decide
theorem nc__law_wanted : (("_law_wanted" : Str) == ("__classdict__" : Str)) = false := by decide
theorem nd__law_well_of : (("_law_well_of" : Str) == ("__debug__" : Str)) = false := by decide
theorem nc__law_well_of : (("_law_well_of" : Str) == ("__classdict__" : Str)) = false := by decide
theorem nd_agree : (("agree" : Str) == ("__debug__" : Str)) = false := by decide
theorem nc_agree : (("agree" : Str) == ("__classdict__" : Str)) = false := by decide
theorem nd_agreed : (("agreed" : Str) == ("__debug__" : Str)) = false := by decide
theorem nc_agreed : (("agreed" : Str) == ("__classdict__" : Str)) = false := by decide
theorem nd_agreement : (("agreement" : Str) == ("__debug__" : Str)) = false := by decide
theorem nc_agreement : (("agreement" : Str) == ("__classdict__" : Str)) = false := by decide
theorem nd_amount : (("amount" : Str) == ("__debug__" : Str)) = false := by decide
theorem nc_amount : (("amount" : Str) == ("__classdict__" : Str)) = false := by decide
theorem nd_are_shares : (("are_shares" : Str) == ("__debug__" : Str)) = false := by decide
theorem nc_are_shares : (("are_shares" : Str) == ("__classdict__" : Str)) = false := by decide
theorem nd_are_ties : (("are_ties" : Str) == ("__debug__" : Str)) = false := by decide
theorem nc_are_ties : (("are_ties" : Str) == ("__classdict__" : Str)) = false := by decide
theorem nd_base : (("base" : Str) == ("__debug__" : Str)) = false := by decide
theorem nc_base : (("base" : Str) == ("__classdict__" : Str)) = false := by decide
theorem nd_book : (("book" : Str) == ("__debug__" : Str)) = false := by decide
theorem nc_book : (("book" : Str) == ("__classdict__" : Str)) = false := by decide
theorem nd_books : (("books" : Str) == ("__debug__" : Str)) = false := by decide
theorem nc_books : (("books" : Str) == ("__classdict__" : Str)) = false := by decide
theorem nd_bool : (("bool" : Str) == ("__debug__" : Str)) = false := by decide
theorem nc_bool : (("bool" : Str) == ("__classdict__" : Str)) = false := by decide
theorem nd_cell : (("cell" : Str) == ("__debug__" : Str)) = false := by decide
theorem nc_cell : (("cell" : Str) == ("__classdict__" : Str)) = false := by decide
theorem nd_claim : (("claim" : Str) == ("__debug__" : Str)) = false := by decide
theorem nc_claim : (("claim" : Str) == ("__classdict__" : Str)) = false := by decide
theorem nd_coins : (("coins" : Str) == ("__debug__" : Str)) = false := by decide
theorem nc_coins : (("coins" : Str) == ("__classdict__" : Str)) = false := by decide
theorem nd_day : (("day" : Str) == ("__debug__" : Str)) = false := by decide
theorem nc_day : (("day" : Str) == ("__classdict__" : Str)) = false := by decide
theorem nd_deals : (("deals" : Str) == ("__debug__" : Str)) = false := by decide
theorem nc_deals : (("deals" : Str) == ("__classdict__" : Str)) = false := by decide
theorem nd_deed : (("deed" : Str) == ("__debug__" : Str)) = false := by decide
theorem nc_deed : (("deed" : Str) == ("__classdict__" : Str)) = false := by decide
theorem nd_digit : (("digit" : Str) == ("__debug__" : Str)) = false := by decide
theorem nc_digit : (("digit" : Str) == ("__classdict__" : Str)) = false := by decide
theorem nd_due : (("due" : Str) == ("__debug__" : Str)) = false := by decide
theorem nc_due : (("due" : Str) == ("__classdict__" : Str)) = false := by decide
theorem nd_dues : (("dues" : Str) == ("__debug__" : Str)) = false := by decide
theorem nc_dues : (("dues" : Str) == ("__classdict__" : Str)) = false := by decide
theorem nd_e : (("e" : Str) == ("__debug__" : Str)) = false := by decide
theorem nc_e : (("e" : Str) == ("__classdict__" : Str)) = false := by decide
theorem nd_first : (("first" : Str) == ("__debug__" : Str)) = false := by decide
theorem nc_first : (("first" : Str) == ("__classdict__" : Str)) = false := by decide
theorem nd_found : (("found" : Str) == ("__debug__" : Str)) = false := by decide
theorem nc_found : (("found" : Str) == ("__classdict__" : Str)) = false := by decide
theorem nd_hand : (("hand" : Str) == ("__debug__" : Str)) = false := by decide
theorem nc_hand : (("hand" : Str) == ("__classdict__" : Str)) = false := by decide
theorem nd_handed : (("handed" : Str) == ("__debug__" : Str)) = false := by decide
theorem nc_handed : (("handed" : Str) == ("__classdict__" : Str)) = false := by decide
theorem nd_hands : (("hands" : Str) == ("__debug__" : Str)) = false := by decide
theorem nc_hands : (("hands" : Str) == ("__classdict__" : Str)) = false := by decide
theorem nd_here : (("here" : Str) == ("__debug__" : Str)) = false := by decide
theorem nc_here : (("here" : Str) == ("__classdict__" : Str)) = false := by decide
theorem nd_in_bounds : (("in_bounds" : Str) == ("__debug__" : Str)) = false := by decide
theorem nc_in_bounds : (("in_bounds" : Str) == ("__classdict__" : Str)) = false := by decide
theorem nd_int : (("int" : Str) == ("__debug__" : Str)) = false := by decide
theorem nc_int : (("int" : Str) == ("__classdict__" : Str)) = false := by decide
theorem nd_is_made : (("is_made" : Str) == ("__debug__" : Str)) = false := by decide
theorem nc_is_made : (("is_made" : Str) == ("__classdict__" : Str)) = false := by decide
theorem nd_is_pot : (("is_pot" : Str) == ("__debug__" : Str)) = false := by decide
theorem nc_is_pot : (("is_pot" : Str) == ("__classdict__" : Str)) = false := by decide
theorem nd_is_stand : (("is_stand" : Str) == ("__debug__" : Str)) = false := by decide
theorem nc_is_stand : (("is_stand" : Str) == ("__classdict__" : Str)) = false := by decide
theorem nd_is_thing : (("is_thing" : Str) == ("__debug__" : Str)) = false := by decide
theorem nc_is_thing : (("is_thing" : Str) == ("__classdict__" : Str)) = false := by decide
theorem nd_is_tie : (("is_tie" : Str) == ("__debug__" : Str)) = false := by decide
theorem nc_is_tie : (("is_tie" : Str) == ("__classdict__" : Str)) = false := by decide
theorem nd_k : (("k" : Str) == ("__debug__" : Str)) = false := by decide
theorem nc_k : (("k" : Str) == ("__classdict__" : Str)) = false := by decide
theorem nd_kinds : (("kinds" : Str) == ("__debug__" : Str)) = false := by decide
theorem nc_kinds : (("kinds" : Str) == ("__classdict__" : Str)) = false := by decide
theorem nd_last : (("last" : Str) == ("__debug__" : Str)) = false := by decide
theorem nc_last : (("last" : Str) == ("__classdict__" : Str)) = false := by decide
theorem nd_left : (("left" : Str) == ("__debug__" : Str)) = false := by decide
theorem nc_left : (("left" : Str) == ("__classdict__" : Str)) = false := by decide
theorem nd_made : (("made" : Str) == ("__debug__" : Str)) = false := by decide
theorem nc_made : (("made" : Str) == ("__classdict__" : Str)) = false := by decide
theorem nd_many : (("many" : Str) == ("__debug__" : Str)) = false := by decide
theorem nc_many : (("many" : Str) == ("__classdict__" : Str)) = false := by decide
theorem nd_most : (("most" : Str) == ("__debug__" : Str)) = false := by decide
theorem nc_most : (("most" : Str) == ("__classdict__" : Str)) = false := by decide
theorem nd_number : (("number" : Str) == ("__debug__" : Str)) = false := by decide
theorem nc_number : (("number" : Str) == ("__classdict__" : Str)) = false := by decide
theorem nd_odd : (("odd" : Str) == ("__debug__" : Str)) = false := by decide
theorem nc_odd : (("odd" : Str) == ("__classdict__" : Str)) = false := by decide
theorem nd_one : (("one" : Str) == ("__debug__" : Str)) = false := by decide
theorem nc_one : (("one" : Str) == ("__classdict__" : Str)) = false := by decide
theorem nd_other : (("other" : Str) == ("__debug__" : Str)) = false := by decide
theorem nc_other : (("other" : Str) == ("__classdict__" : Str)) = false := by decide
theorem nd_payer : (("payer" : Str) == ("__debug__" : Str)) = false := by decide
theorem nc_payer : (("payer" : Str) == ("__classdict__" : Str)) = false := by decide
theorem nd_place : (("place" : Str) == ("__debug__" : Str)) = false := by decide
theorem nc_place : (("place" : Str) == ("__classdict__" : Str)) = false := by decide
theorem nd_pot : (("pot" : Str) == ("__debug__" : Str)) = false := by decide
theorem nc_pot : (("pot" : Str) == ("__classdict__" : Str)) = false := by decide
theorem nd_pots : (("pots" : Str) == ("__debug__" : Str)) = false := by decide
theorem nc_pots : (("pots" : Str) == ("__classdict__" : Str)) = false := by decide
theorem nd_primes : (("primes" : Str) == ("__debug__" : Str)) = false := by decide
theorem nc_primes : (("primes" : Str) == ("__classdict__" : Str)) = false := by decide
theorem nd_right : (("right" : Str) == ("__debug__" : Str)) = false := by decide
theorem nc_right : (("right" : Str) == ("__classdict__" : Str)) = false := by decide
theorem nd_script : (("script" : Str) == ("__debug__" : Str)) = false := by decide
theorem nc_script : (("script" : Str) == ("__classdict__" : Str)) = false := by decide
theorem nd_self : (("self" : Str) == ("__debug__" : Str)) = false := by decide
theorem nc_self : (("self" : Str) == ("__classdict__" : Str)) = false := by decide
theorem nd_share : (("share" : Str) == ("__debug__" : Str)) = false := by decide
theorem nc_share : (("share" : Str) == ("__classdict__" : Str)) = false := by decide
theorem nd_shares : (("shares" : Str) == ("__debug__" : Str)) = false := by decide
theorem nc_shares : (("shares" : Str) == ("__classdict__" : Str)) = false := by decide
theorem nd_shown : (("shown" : Str) == ("__debug__" : Str)) = false := by decide
theorem nc_shown : (("shown" : Str) == ("__classdict__" : Str)) = false := by decide
theorem nd_side : (("side" : Str) == ("__debug__" : Str)) = false := by decide
theorem nc_side : (("side" : Str) == ("__classdict__" : Str)) = false := by decide
theorem nd_sides : (("sides" : Str) == ("__debug__" : Str)) = false := by decide
theorem nc_sides : (("sides" : Str) == ("__classdict__" : Str)) = false := by decide
theorem nd_stand : (("stand" : Str) == ("__debug__" : Str)) = false := by decide
theorem nc_stand : (("stand" : Str) == ("__classdict__" : Str)) = false := by decide
theorem nd_thing : (("thing" : Str) == ("__debug__" : Str)) = false := by decide
theorem nc_thing : (("thing" : Str) == ("__classdict__" : Str)) = false := by decide
theorem nd_tie : (("tie" : Str) == ("__debug__" : Str)) = false := by decide
theorem nc_tie : (("tie" : Str) == ("__classdict__" : Str)) = false := by decide
theorem nd_ties : (("ties" : Str) == ("__debug__" : Str)) = false := by decide
theorem nc_ties : (("ties" : Str) == ("__classdict__" : Str)) = false := by decide
theorem nd_total : (("total" : Str) == ("__debug__" : Str)) = false := by decide
theorem nc_total : (("total" : Str) == ("__classdict__" : Str)) = false := by decide
theorem nd_tuple : (("tuple" : Str) == ("__debug__" : Str)) = false := by decide
theorem nc_tuple : (("tuple" : Str) == ("__classdict__" : Str)) = false := by decide
theorem nd_wait : (("wait" : Str) == ("__debug__" : Str)) = false := by decide
theorem nc_wait : (("wait" : Str) == ("__classdict__" : Str)) = false := by decide
theorem nd_way : (("way" : Str) == ("__debug__" : Str)) = false := by decide
theorem nc_way : (("way" : Str) == ("__classdict__" : Str)) = false := by decide
theorem nd_well : (("well" : Str) == ("__debug__" : Str)) = false := by decide
theorem nc_well : (("well" : Str) == ("__classdict__" : Str)) = false := by decide
theorem nd_who : (("who" : Str) == ("__debug__" : Str)) = false := by decide
theorem nc_who : (("who" : Str) == ("__classdict__" : Str)) = false := by decide
theorem nd_whole : (("whole" : Str) == ("__debug__" : Str)) = false := by decide
theorem nc_whole : (("whole" : Str) == ("__classdict__" : Str)) = false := by decide
theorem nd_word : (("word" : Str) == ("__debug__" : Str)) = false := by decide
theorem nc_word : (("word" : Str) == ("__classdict__" : Str)) = false := by decide
theorem nd_words : (("words" : Str) == ("__debug__" : Str)) = false := by decide
theorem nc_words : (("words" : Str) == ("__classdict__" : Str)) = false := by decide
section
variable {P : Program} {w : World} {K : PySem.W.Frag} {mg : Str → Option Value} {base : Heap}
theorem g_Book (hd : Hd w K mg) : mg "Book" = some (.ref (He.ga K "Book")) := He.glo_ok hd.X hd.G (hd.c.t.d.fact 0 rfl)
theorem g_BookError (hd : Hd w K mg) : mg "BookError" = some (.ref (He.ga K "BookError")) := He.glo_ok hd.X hd.G (hd.c.t.d.fact 1 rfl)
theorem g_Held (hd : Hd w K mg) : mg "Held" = some (.ref (He.ga K "Held")) := He.glo_ok hd.X hd.G (hd.c.t.d.fact 2 rfl)
theorem g_Laid (hd : Hd w K mg) : mg "Laid" = some (.ref (He.ga K "Laid")) := He.glo_ok hd.X hd.G (hd.c.t.d.fact 3 rfl)
theorem g_NoDeed (hd : Hd w K mg) : mg "NoDeed" = some (.ref (He.ga K "NoDeed")) := He.glo_ok hd.X hd.G (hd.c.t.d.fact 4 rfl)
theorem g_NoStand (hd : Hd w K mg) : mg "NoStand" = some (.ref (He.ga K "NoStand")) := He.glo_ok hd.X hd.G (hd.c.t.d.fact 5 rfl)
theorem g_Taken (hd : Hd w K mg) : mg "Taken" = some (.ref (He.ga K "Taken")) := He.glo_ok hd.X hd.G (hd.c.t.d.fact 6 rfl)
theorem g__law_alike (hd : Hd w K mg) : mg "_law_alike" = some (.ref (He.ga K "_law_alike")) := He.glo_ok hd.X hd.G (hd.c.t.d.fact 7 rfl)
theorem g__law_all_due (hd : Hd w K mg) : mg "_law_all_due" = some (.ref (He.ga K "_law_all_due")) := He.glo_ok hd.X hd.G (hd.c.t.d.fact 8 rfl)
theorem g__law_all_told (hd : Hd w K mg) : mg "_law_all_told" = some (.ref (He.ga K "_law_all_told")) := He.glo_ok hd.X hd.G (hd.c.t.d.fact 9 rfl)
theorem g__law_cell_at (hd : Hd w K mg) : mg "_law_cell_at" = some (.ref (He.ga K "_law_cell_at")) := He.glo_ok hd.X hd.G (hd.c.t.d.fact 10 rfl)
theorem g__law_deal (hd : Hd w K mg) : mg "_law_deal" = some (.ref (He.ga K "_law_deal")) := He.glo_ok hd.X hd.G (hd.c.t.d.fact 11 rfl)
theorem g__law_deed_of (hd : Hd w K mg) : mg "_law_deed_of" = some (.ref (He.ga K "_law_deed_of")) := He.glo_ok hd.X hd.G (hd.c.t.d.fact 12 rfl)
theorem g__law_done (hd : Hd w K mg) : mg "_law_done" = some (.ref (He.ga K "_law_done")) := He.glo_ok hd.X hd.G (hd.c.t.d.fact 13 rfl)
theorem g__law_draw (hd : Hd w K mg) : mg "_law_draw" = some (.ref (He.ga K "_law_draw")) := He.glo_ok hd.X hd.G (hd.c.t.d.fact 14 rfl)
theorem g__law_due_of (hd : Hd w K mg) : mg "_law_due_of" = some (.ref (He.ga K "_law_due_of")) := He.glo_ok hd.X hd.G (hd.c.t.d.fact 15 rfl)
theorem g__law_wanted (hd : Hd w K mg) : mg "_law_wanted" = some (.ref (He.ga K "_law_wanted")) := He.glo_ok hd.X hd.G (hd.c.t.d.fact 16 rfl)
theorem g__law_well_of (hd : Hd w K mg) : mg "_law_well_of" = some (.ref (He.ga K "_law_well_of")) := He.glo_ok hd.X hd.G (hd.c.t.d.fact 17 rfl)
theorem g_are_shares (hd : Hd w K mg) : mg "are_shares" = some (.ref (He.ga K "are_shares")) := He.glo_ok hd.X hd.G (hd.c.t.d.fact 18 rfl)
theorem g_are_ties (hd : Hd w K mg) : mg "are_ties" = some (.ref (He.ga K "are_ties")) := He.glo_ok hd.X hd.G (hd.c.t.d.fact 19 rfl)
theorem g_deals (hd : Hd w K mg) : mg "deals" = some (.ref (He.ga K "deals")) := He.glo_ok hd.X hd.G (hd.c.t.d.fact 20 rfl)
theorem g_first (hd : Hd w K mg) : mg "first" = some (.ref (He.ga K "first")) := He.glo_ok hd.X hd.G (hd.c.t.d.fact 21 rfl)
theorem g_in_bounds (hd : Hd w K mg) : mg "in_bounds" = some (.ref (He.ga K "in_bounds")) := He.glo_ok hd.X hd.G (hd.c.t.d.fact 22 rfl)
theorem g_is_made (hd : Hd w K mg) : mg "is_made" = some (.ref (He.ga K "is_made")) := He.glo_ok hd.X hd.G (hd.c.t.d.fact 23 rfl)
theorem g_is_pot (hd : Hd w K mg) : mg "is_pot" = some (.ref (He.ga K "is_pot")) := He.glo_ok hd.X hd.G (hd.c.t.d.fact 24 rfl)
theorem g_is_stand (hd : Hd w K mg) : mg "is_stand" = some (.ref (He.ga K "is_stand")) := He.glo_ok hd.X hd.G (hd.c.t.d.fact 25 rfl)
theorem g_is_thing (hd : Hd w K mg) : mg "is_thing" = some (.ref (He.ga K "is_thing")) := He.glo_ok hd.X hd.G (hd.c.t.d.fact 26 rfl)
theorem g_is_tie (hd : Hd w K mg) : mg "is_tie" = some (.ref (He.ga K "is_tie")) := He.glo_ok hd.X hd.G (hd.c.t.d.fact 27 rfl)
theorem g_stand (hd : Hd w K mg) : mg "stand" = some (.ref (He.ga K "stand")) := He.glo_ok hd.X hd.G (hd.c.t.d.fact 28 rfl)
theorem n_all (hd : Hd w K mg) : mg "all" = none := He.free_ok hd.X hd.G (hd.c.t.d.fact 29 rfl)
theorem n_any (hd : Hd w K mg) : mg "any" = none := He.free_ok hd.X hd.G (hd.c.t.d.fact 30 rfl)
theorem n_bool (hd : Hd w K mg) : mg "bool" = none := He.free_ok hd.X hd.G (hd.c.t.d.fact 31 rfl)
theorem n_dict (hd : Hd w K mg) : mg "dict" = none := He.free_ok hd.X hd.G (hd.c.t.d.fact 32 rfl)
theorem n_enumerate (hd : Hd w K mg) : mg "enumerate" = none := He.free_ok hd.X hd.G (hd.c.t.d.fact 33 rfl)
theorem n_int (hd : Hd w K mg) : mg "int" = none := He.free_ok hd.X hd.G (hd.c.t.d.fact 34 rfl)
theorem n_isinstance (hd : Hd w K mg) : mg "isinstance" = none := He.free_ok hd.X hd.G (hd.c.t.d.fact 35 rfl)
theorem n_len (hd : Hd w K mg) : mg "len" = none := He.free_ok hd.X hd.G (hd.c.t.d.fact 36 rfl)
theorem n_list (hd : Hd w K mg) : mg "list" = none := He.free_ok hd.X hd.G (hd.c.t.d.fact 37 rfl)
theorem n_min (hd : Hd w K mg) : mg "min" = none := He.free_ok hd.X hd.G (hd.c.t.d.fact 38 rfl)
theorem n_range (hd : Hd w K mg) : mg "range" = none := He.free_ok hd.X hd.G (hd.c.t.d.fact 39 rfl)
theorem n_set (hd : Hd w K mg) : mg "set" = none := He.free_ok hd.X hd.G (hd.c.t.d.fact 40 rfl)
theorem n_sorted (hd : Hd w K mg) : mg "sorted" = none := He.free_ok hd.X hd.G (hd.c.t.d.fact 41 rfl)
theorem n_sum (hd : Hd w K mg) : mg "sum" = none := He.free_ok hd.X hd.G (hd.c.t.d.fact 42 rfl)
theorem n_tuple (hd : Hd w K mg) : mg "tuple" = none := He.free_ok hd.X hd.G (hd.c.t.d.fact 43 rfl)
theorem i_MOST_COIN (hd : Hd w K mg) : ∃ t, mg "MOST_COIN" = some (.int 1000000000000 t) := He.int_ok hd.X hd.G (hd.c.t.d.fact 44 rfl)
theorem i_MOST_DAY (hd : Hd w K mg) : ∃ t, mg "MOST_DAY" = some (.int 1000000 t) := He.int_ok hd.X hd.G (hd.c.t.d.fact 45 rfl)
theorem i_MOST_HAND (hd : Hd w K mg) : ∃ t, mg "MOST_HAND" = some (.int 3 t) := He.int_ok hd.X hd.G (hd.c.t.d.fact 46 rfl)
theorem i_MOST_NUMBER (hd : Hd w K mg) : ∃ t, mg "MOST_NUMBER" = some (.int 1000000 t) := He.int_ok hd.X hd.G (hd.c.t.d.fact 47 rfl)
theorem i_MOST_POT (hd : Hd w K mg) : ∃ t, mg "MOST_POT" = some (.int 2 t) := He.int_ok hd.X hd.G (hd.c.t.d.fact 48 rfl)
theorem i_MOST_POTS (hd : Hd w K mg) : ∃ t, mg "MOST_POTS" = some (.int 3 t) := He.int_ok hd.X hd.G (hd.c.t.d.fact 49 rfl)
theorem i_MOST_TIES (hd : Hd w K mg) : ∃ t, mg "MOST_TIES" = some (.int 6 t) := He.int_ok hd.X hd.G (hd.c.t.d.fact 50 rfl)
theorem i_MOST_WAIT (hd : Hd w K mg) : ∃ t, mg "MOST_WAIT" = some (.int 100 t) := He.int_ok hd.X hd.G (hd.c.t.d.fact 51 rfl)
theorem i_MOST_WORD (hd : Hd w K mg) : ∃ t, mg "MOST_WORD" = some (.int 59 t) := He.int_ok hd.X hd.G (hd.c.t.d.fact 52 rfl)
theorem na_Book_claims (hd : Hd w K mg) : ∀ c ∈ (["Book"] : List String), NoAttr K (clA K c) (Str.ofString "claims") := by
  intro c hc
  simp only [List.mem_cons, List.not_mem_nil, or_false] at hc
  subst hc
  · exact He.noat_ok (hd.c.t.d.fact 53 rfl)
theorem na_Book_kept (hd : Hd w K mg) : ∀ c ∈ (["Book"] : List String), NoAttr K (clA K c) (Str.ofString "kept") := by
  intro c hc
  simp only [List.mem_cons, List.not_mem_nil, or_false] at hc
  subst hc
  · exact He.noat_ok (hd.c.t.d.fact 54 rfl)
theorem na_Book_now (hd : Hd w K mg) : ∀ c ∈ (["Book"] : List String), NoAttr K (clA K c) (Str.ofString "now") := by
  intro c hc
  simp only [List.mem_cons, List.not_mem_nil, or_false] at hc
  subst hc
  · exact He.noat_ok (hd.c.t.d.fact 55 rfl)
theorem na_Book_shows (hd : Hd w K mg) : ∀ c ∈ (["Book"] : List String), NoAttr K (clA K c) (Str.ofString "shows") := by
  intro c hc
  simp only [List.mem_cons, List.not_mem_nil, or_false] at hc
  subst hc
  · exact He.noat_ok (hd.c.t.d.fact 56 rfl)
theorem na_Held_Laid_Taken_whole (hd : Hd w K mg) : ∀ c ∈ (["Held", "Laid", "Taken"] : List String), NoAttr K (clA K c) (Str.ofString "whole") := by
  intro c hc
  simp only [List.mem_cons, List.not_mem_nil, or_false] at hc
  rcases hc with rfl | rfl | rfl
  · exact He.noat_ok (hd.c.t.d.fact 57 rfl)
  · exact He.noat_ok (hd.c.t.d.fact 62 rfl)
  · exact He.noat_ok (hd.c.t.d.fact 64 rfl)
theorem na_Laid_begun (hd : Hd w K mg) : ∀ c ∈ (["Laid"] : List String), NoAttr K (clA K c) (Str.ofString "begun") := by
  intro c hc
  simp only [List.mem_cons, List.not_mem_nil, or_false] at hc
  subst hc
  · exact He.noat_ok (hd.c.t.d.fact 58 rfl)
theorem na_Laid_layer (hd : Hd w K mg) : ∀ c ∈ (["Laid"] : List String), NoAttr K (clA K c) (Str.ofString "layer") := by
  intro c hc
  simp only [List.mem_cons, List.not_mem_nil, or_false] at hc
  subst hc
  · exact He.noat_ok (hd.c.t.d.fact 59 rfl)
theorem na_Laid_lying (hd : Hd w K mg) : ∀ c ∈ (["Laid"] : List String), NoAttr K (clA K c) (Str.ofString "lying") := by
  intro c hc
  simp only [List.mem_cons, List.not_mem_nil, or_false] at hc
  subst hc
  · exact He.noat_ok (hd.c.t.d.fact 60 rfl)
theorem na_Laid_patience (hd : Hd w K mg) : ∀ c ∈ (["Laid"] : List String), NoAttr K (clA K c) (Str.ofString "patience") := by
  intro c hc
  simp only [List.mem_cons, List.not_mem_nil, or_false] at hc
  subst hc
  · exact He.noat_ok (hd.c.t.d.fact 61 rfl)
theorem na_Taken_taker (hd : Hd w K mg) : ∀ c ∈ (["Taken"] : List String), NoAttr K (clA K c) (Str.ofString "taker") := by
  intro c hc
  simp only [List.mem_cons, List.not_mem_nil, or_false] at hc
  subst hc
  · exact He.noat_ok (hd.c.t.d.fact 63 rfl)
theorem mkr_Book (hd : Hd w K mg) : Mk K (clA K "Book") (He.ma K (clA K "Book") "__init__") := He.mkr_ok (hd.c.t.d.fact 65 rfl)
theorem cl_Book (hd : Hd w K mg) : Cls K (clA K "Book") := He.cls_ok (hd.c.t.d.fact 66 rfl)
theorem mkr_Held (hd : Hd w K mg) : Mk K (clA K "Held") (He.ma K (clA K "Held") "__init__") := He.mkr_ok (hd.c.t.d.fact 67 rfl)
theorem cl_Held (hd : Hd w K mg) : Cls K (clA K "Held") := He.cls_ok (hd.c.t.d.fact 68 rfl)
theorem mkr_Laid (hd : Hd w K mg) : Mk K (clA K "Laid") (He.ma K (clA K "Laid") "__init__") := He.mkr_ok (hd.c.t.d.fact 69 rfl)
theorem cl_Laid (hd : Hd w K mg) : Cls K (clA K "Laid") := He.cls_ok (hd.c.t.d.fact 70 rfl)
theorem mkr_Taken (hd : Hd w K mg) : Mk K (clA K "Taken") (He.ma K (clA K "Taken") "__init__") := He.mkr_ok (hd.c.t.d.fact 71 rfl)
theorem cl_Taken (hd : Hd w K mg) : Cls K (clA K "Taken") := He.cls_ok (hd.c.t.d.fact 72 rfl)
theorem me_Book_agreed (hd : Hd w K mg) : Meth K (clA K "Book") "agreed" (He.ma K (clA K "Book") "agreed") := He.meth_ok (hd.c.t.d.fact 73 rfl)
theorem me_Book_all_shown (hd : Hd w K mg) : Meth K (clA K "Book") "all_shown" (He.ma K (clA K "Book") "all_shown") := He.meth_ok (hd.c.t.d.fact 74 rfl)
theorem me_Book_coin_of (hd : Hd w K mg) : Meth K (clA K "Book") "coin_of" (He.ma K (clA K "Book") "coin_of") := He.meth_ok (hd.c.t.d.fact 75 rfl)
theorem me_Claim_comes (hd : Hd w K mg) : Meth K (clA K "Claim") "comes" (He.ma K (clA K "Claim") "comes") := He.meth_ok (hd.c.t.d.fact 76 rfl)
theorem me_Held_comes (hd : Hd w K mg) : Meth K (clA K "Held") "comes" (He.ma K (clA K "Held") "comes") := He.meth_ok (hd.c.t.d.fact 77 rfl)
theorem me_Laid_comes (hd : Hd w K mg) : Meth K (clA K "Laid") "comes" (He.ma K (clA K "Laid") "comes") := He.meth_ok (hd.c.t.d.fact 78 rfl)
theorem me_Taken_comes (hd : Hd w K mg) : Meth K (clA K "Taken") "comes" (He.ma K (clA K "Taken") "comes") := He.meth_ok (hd.c.t.d.fact 79 rfl)
theorem me_Book_due_of (hd : Hd w K mg) : Meth K (clA K "Book") "due_of" (He.ma K (clA K "Book") "due_of") := He.meth_ok (hd.c.t.d.fact 80 rfl)
theorem me_Book_is_over (hd : Hd w K mg) : Meth K (clA K "Book") "is_over" (He.ma K (clA K "Book") "is_over") := He.meth_ok (hd.c.t.d.fact 81 rfl)
theorem me_Book_lay (hd : Hd w K mg) : Meth K (clA K "Book") "lay" (He.ma K (clA K "Book") "lay") := He.meth_ok (hd.c.t.d.fact 82 rfl)
theorem me_Book_look_for (hd : Hd w K mg) : Meth K (clA K "Book") "look_for" (He.ma K (clA K "Book") "look_for") := He.meth_ok (hd.c.t.d.fact 83 rfl)
theorem me_Book_made_of (hd : Hd w K mg) : Meth K (clA K "Book") "made_of" (He.ma K (clA K "Book") "made_of") := He.meth_ok (hd.c.t.d.fact 84 rfl)
theorem me_Claim_may_strike (hd : Hd w K mg) : Meth K (clA K "Claim") "may_strike" (He.ma K (clA K "Claim") "may_strike") := He.meth_ok (hd.c.t.d.fact 85 rfl)
theorem me_Held_may_strike (hd : Hd w K mg) : Meth K (clA K "Held") "may_strike" (He.ma K (clA K "Held") "may_strike") := He.meth_ok (hd.c.t.d.fact 86 rfl)
theorem me_Laid_may_strike (hd : Hd w K mg) : Meth K (clA K "Laid") "may_strike" (He.ma K (clA K "Laid") "may_strike") := He.meth_ok (hd.c.t.d.fact 87 rfl)
theorem me_Taken_may_strike (hd : Hd w K mg) : Meth K (clA K "Taken") "may_strike" (He.ma K (clA K "Taken") "may_strike") := He.meth_ok (hd.c.t.d.fact 88 rfl)
theorem me_Book_next_day (hd : Hd w K mg) : Meth K (clA K "Book") "next_day" (He.ma K (clA K "Book") "next_day") := He.meth_ok (hd.c.t.d.fact 89 rfl)
theorem me_Book_show (hd : Hd w K mg) : Meth K (clA K "Book") "show" (He.ma K (clA K "Book") "show") := He.meth_ok (hd.c.t.d.fact 90 rfl)
theorem me_Book_shown_for (hd : Hd w K mg) : Meth K (clA K "Book") "shown_for" (He.ma K (clA K "Book") "shown_for") := He.meth_ok (hd.c.t.d.fact 91 rfl)
theorem me_Book_strike (hd : Hd w K mg) : Meth K (clA K "Book") "strike" (He.ma K (clA K "Book") "strike") := He.meth_ok (hd.c.t.d.fact 92 rfl)
theorem me_Book_today (hd : Hd w K mg) : Meth K (clA K "Book") "today" (He.ma K (clA K "Book") "today") := He.meth_ok (hd.c.t.d.fact 93 rfl)
theorem me_Book_told (hd : Hd w K mg) : Meth K (clA K "Book") "told" (He.ma K (clA K "Book") "told") := He.meth_ok (hd.c.t.d.fact 94 rfl)
theorem me_Claim_told (hd : Hd w K mg) : Meth K (clA K "Claim") "told" (He.ma K (clA K "Claim") "told") := He.meth_ok (hd.c.t.d.fact 95 rfl)
theorem me_Held_told (hd : Hd w K mg) : Meth K (clA K "Held") "told" (He.ma K (clA K "Held") "told") := He.meth_ok (hd.c.t.d.fact 96 rfl)
theorem me_Laid_told (hd : Hd w K mg) : Meth K (clA K "Laid") "told" (He.ma K (clA K "Laid") "told") := He.meth_ok (hd.c.t.d.fact 97 rfl)
theorem me_Taken_told (hd : Hd w K mg) : Meth K (clA K "Taken") "told" (He.ma K (clA K "Taken") "told") := He.meth_ok (hd.c.t.d.fact 98 rfl)
theorem ex_BookError (hd : Hd w K mg) : ExOk K "BookError" := exOk_of (hd.c.t.d.fact 99 rfl)
theorem ex_NoStand (hd : Hd w K mg) : ExOk K "NoStand" := exOk_of (hd.c.t.d.fact 100 rfl)
theorem ex_NoDeed (hd : Hd w K mg) : ExOk K "NoDeed" := exOk_of (hd.c.t.d.fact 101 rfl)
theorem ext (hd : Hd w K mg) : ExcT K excs := excT_of (exf hd (.head _))
theorem exk (hd : Hd w K mg) : ExcK K excs := by
  have h := exf hd (.tail _ (.head _))
  obtain ⟨h1, h⟩ := He.ba h
  obtain ⟨h2, h3⟩ := He.ba h
  exact excK_of h1 h2 h3
/-! in_bounds -/
def N_in_bounds : List Str := ["thing", "most"]
theorem sc_in_bounds : FnScope N_in_bounds ["thing", "most"] (defScope (top 11)) := ⟨rfl, rfl, rfl, by decide +kernel, rfl, by decide +kernel, by decide +kernel⟩
def w_in_bounds : WpS := (wRet (wAnd (wIsTy "int" (wVar 0)) (wAnd (wNot (wIsTy "bool" (wVar 0))) (wChain (fCmp cmpLe) (fCmp cmpLe) (wC (.int 0)) (wVar 0) (wVar 1)))))
def φ_in_bounds : SB.Spec := fun xs S R RE => xs.length = 2 ∧ w_in_bounds (startE N_in_bounds xs) S ⟨fun _ S' => Rz R .non S', Rz R, fun _ _ => False, fun _ _ => False⟩ (fun c _ S' => RE c S')
theorem k_in_bounds (hd : Hd w K mg) {q nm : Str} {dvs : List V} {kws : List (Str × V)} {f : Addr} {fd : FuncData} (Fd : FunD K nm q (defArgs (top 11)) (defBody (top 11)) (defScope (top 11)) dvs kws f fd) : FnOk P w K mg base (L2.CX P w) 1 f fd ["thing", "most"] (spOf K φ_in_bounds) :=
  body_ok (N := N_in_bounds) (ws := w_in_bounds) Fd sc_in_bounds (fun cdv A outer s H E F bc =>
  (wss_one (ws_ret (we_and (b_isTy (T := "int") (by decide) (we_var (i := 0) rfl (.inl rfl) nd_thing nc_thing) rfl rfl (n_isinstance hd) rfl (n_int hd) bt_int (by decide) nd_int) (we_and (we_not (b_isTy (T := "bool") (by decide) (we_var (i := 0) rfl (.inl rfl) nd_thing nc_thing) rfl rfl (n_isinstance hd) rfl (n_bool hd) bt_bool (by decide) nd_bool)) (we_one (we_chain op_le op_le od_cmp od_cmp we_int (we_var (i := 0) rfl (.inl rfl) nd_thing nc_thing) (we_var (i := 1) rfl (.inl rfl) nd_most nc_most) rfl))))))) (fun _ _ _ _ h => h.1) (fun _ _ _ _ h => h.2)
theorem B_in_bounds (hd : Hd w K mg) : FnBd P w K mg base 1 (He.ga K "in_bounds") 2 [] φ_in_bounds := by
  obtain ⟨fd, Fd⟩ := hd.c.t.d.def_ 0 (d := mkDD (("in_bounds" : Str), none) "in_bounds" "in_bounds" (top 11) []) rfl
  exact fn_bd _ Fd (k_in_bounds hd Fd) (FunD.bindsN Fd fun _ _ _ _ _ _ us hl => match us, hl with | [_, _], _ => rfl)
/-! is_tie -/
def N_is_tie : List Str := ["thing", "payer", "amount", "word", "day"]
theorem sc_is_tie : FnScope N_is_tie ["thing"] (defScope (top 12)) := ⟨rfl, rfl, rfl, by decide +kernel, rfl, by decide +kernel, by decide +kernel⟩
def w_is_tie : WpS := (wSeq (wIf (wB (wOr (wNot (wIsTy "tuple" (wVar 0))) (wOp (fEq true) (wFun fLen (wCons (wVar 0) wNil)) (wC (.int 4))))) (wRet (wC (.bl false))) wNx)
  (wSeq (wAsg (.tup (.cons (.nm 1) (.cons (.nm 2) (.cons (.nm 3) (.cons (.nm 4) .nil))))) (wVar 0))
  (wSeq (wIf (wB (wOr (wNot (wCall φ_in_bounds [] (wCons (wVar 1) (wCons (wC (.int 1)) wNil)))) (wOr (wNot (wCall φ_in_bounds [] (wCons (wVar 2) (wCons (wC (.int 1000000000000)) wNil)))) (wOp (fCmp cmpLt) (wVar 2) (wC (.int 1)))))) (wRet (wC (.bl false))) wNx)
  (wRet (wAnd (wCall φ_in_bounds [] (wCons (wVar 3) (wCons (wC (.int 59)) wNil))) (wCall φ_in_bounds [] (wCons (wVar 4) (wCons (wC (.int 1000000)) wNil))))))))
def φ_is_tie : SB.Spec := fun xs S R RE => xs.length = 1 ∧ w_is_tie (startE N_is_tie xs) S ⟨fun _ S' => Rz R .non S', Rz R, fun _ _ => False, fun _ _ => False⟩ (fun c _ S' => RE c S')
theorem k_is_tie (hd : Hd w K mg) {q nm : Str} {dvs : List V} {kws : List (Str × V)} {f : Addr} {fd : FuncData} (Fd : FunD K nm q (defArgs (top 12)) (defBody (top 12)) (defScope (top 12)) dvs kws f fd) : FnOk P w K mg base (L2.CX P w) 2 f fd ["thing"] (spOf K φ_is_tie) :=
  body_ok (N := N_is_tie) (ws := w_is_tie) Fd sc_is_tie (fun cdv A outer s H E F bc =>
  (wss_cons (ws_if (WW.wt (ww_or (wt_not (wt_val (b_isTy (T := "tuple") (by decide) (we_var (i := 0) rfl (.inl rfl) nd_thing nc_thing) rfl rfl (n_isinstance hd) rfl (n_tuple hd) bt_tuple (by decide) nd_tuple) (fun _ => rfl))) (ww_or1 (t_ne bc.room.u65 (b_len rfl (n_len hd) (wa_cons (we_var (i := 0) rfl (.inl rfl) nd_thing nc_thing) wa_nil rfl) rfl) we_int rfl)))) (wss_one (ws_ret we_bl)) wss_nil)
  (wss_cons (ws_asg (we_var (i := 0) rfl (.inl rfl) nd_thing nc_thing) (wg_tup rfl (wgs_cons (wg_nm sc_is_tie.nd rfl (.inl rfl) (.inl rfl)) (wgs_cons (wg_nm sc_is_tie.nd rfl (.inl rfl) (.inl rfl)) (wgs_cons (wg_nm sc_is_tie.nd rfl (.inl rfl) (.inl rfl)) (wgs_cons (wg_nm sc_is_tie.nd rfl (.inl rfl) (.inl rfl)) wgs_nil (fun _ => rfl)) (fun _ => rfl)) (fun _ => rfl)) (fun _ => rfl)) (fun _ => rfl) (fun _ => rfl)) rfl rfl rfl)
  (wss_cons (ws_if (WW.wt (ww_or (wt_not (wt_val (we_call ((B_in_bounds hd).mono (by decide)) bc.room bc.tk rfl (g_in_bounds hd) (wa_cons (we_var (i := 1) rfl (.inl rfl) nd_payer nc_payer) (wa_cons we_int wa_nil rfl) rfl) rfl nd_in_bounds) (fun _ => rfl))) (ww_or (wt_not (wt_val (we_call ((B_in_bounds hd).mono (by decide)) bc.room bc.tk rfl (g_in_bounds hd) (wa_cons (we_var (i := 2) rfl (.inl rfl) nd_amount nc_amount) (wa_cons (we_globI' (i_MOST_COIN hd) rfl nd_MOST_COIN) wa_nil rfl) rfl) rfl nd_in_bounds) (fun _ => rfl))) (ww_or1 (t_lt (we_var (i := 2) rfl (.inl rfl) nd_amount nc_amount) we_int rfl))))) (wss_one (ws_ret we_bl)) wss_nil)
  (wss_one (ws_ret (we_and (we_call ((B_in_bounds hd).mono (by decide)) bc.room bc.tk rfl (g_in_bounds hd) (wa_cons (we_var (i := 3) rfl (.inl rfl) nd_word nc_word) (wa_cons (we_globI' (i_MOST_WORD hd) rfl nd_MOST_WORD) wa_nil rfl) rfl) rfl nd_in_bounds) (we_one (we_call ((B_in_bounds hd).mono (by decide)) bc.room bc.tk rfl (g_in_bounds hd) (wa_cons (we_var (i := 4) rfl (.inl rfl) nd_day nc_day) (wa_cons (we_globI' (i_MOST_DAY hd) rfl nd_MOST_DAY) wa_nil rfl) rfl) rfl nd_in_bounds))))))))) (fun _ _ _ _ h => h.1) (fun _ _ _ _ h => h.2)
theorem B_is_tie (hd : Hd w K mg) : FnBd P w K mg base 2 (He.ga K "is_tie") 1 [] φ_is_tie := by
  obtain ⟨fd, Fd⟩ := hd.c.t.d.def_ 1 (d := mkDD (("is_tie" : Str), none) "is_tie" "is_tie" (top 12) []) rfl
  exact fn_bd _ Fd (k_is_tie hd Fd) (FunD.bindsN Fd fun _ _ _ _ _ _ us hl => match us, hl with | [_], _ => rfl)
/-! are_shares -/
def N_are_shares : List Str := ["thing", "share"]
theorem sc_are_shares : FnScope N_are_shares ["thing"] (defScope (top 13)) := ⟨rfl, rfl, rfl, by decide +kernel, rfl, by decide +kernel, by decide +kernel⟩
def w_are_shares : WpS := (wSeq (wIf (wB (wOr (wNot (wIsTy "tuple" (wVar 0))) (wOp (fEq true) (wFun fLen (wCons (wVar 0) wNil)) (wC (.int 2))))) (wRet (wC (.bl false))) wNx)
  (wRet (wFun fAll (wCons (wLc false (wSrc (wVar 0)) (.nm 1) wYes (wCall φ_in_bounds [] (wCons (wVar 1) (wCons (wOp (fMul false) (wC (.int 2)) (wC (.int 1000000000000))) wNil))) [1]) wNil))))
def φ_are_shares : SB.Spec := fun xs S R RE => xs.length = 1 ∧ w_are_shares (startE N_are_shares xs) S ⟨fun _ S' => Rz R .non S', Rz R, fun _ _ => False, fun _ _ => False⟩ (fun c _ S' => RE c S')
theorem k_are_shares (hd : Hd w K mg) {q nm : Str} {dvs : List V} {kws : List (Str × V)} {f : Addr} {fd : FuncData} (Fd : FunD K nm q (defArgs (top 13)) (defBody (top 13)) (defScope (top 13)) dvs kws f fd) : FnOk P w K mg base (L2.CX P w) 2 f fd ["thing"] (spOf K φ_are_shares) :=
  body_ok (N := N_are_shares) (ws := w_are_shares) Fd sc_are_shares (fun cdv A outer s H E F bc =>
  (wss_cons (ws_if (WW.wt (ww_or (wt_not (wt_val (b_isTy (T := "tuple") (by decide) (we_var (i := 0) rfl (.inl rfl) nd_thing nc_thing) rfl rfl (n_isinstance hd) rfl (n_tuple hd) bt_tuple (by decide) nd_tuple) (fun _ => rfl))) (ww_or1 (t_ne bc.room.u65 (b_len rfl (n_len hd) (wa_cons (we_var (i := 0) rfl (.inl rfl) nd_thing nc_thing) wa_nil rfl) rfl) we_int rfl)))) (wss_one (ws_ret we_bl)) wss_nil)
  (wss_one (ws_ret (b_all rfl rfl (n_all hd) (wa_cons (we_lc (fr := false) (own := [(("share" : Str), 1)]) (t := (.nm 1)) rfl sc_are_shares.nd (wi_src (we_var (i := 0) rfl (.inl rfl) nd_thing nc_thing)) (show BlkOk N_are_shares (defScope (top 13)) _ [(("share" : Str), 1)] from blkOk_by (by decide +kernel)) (by decide) (fun _ _ _ _ _ => (wg_nm sc_are_shares.nd rfl (.inl rfl) (.inr rfl))) (fun _ _ _ _ _ => wts_nil) (fun _ _ _ _ _ => (we_call ((B_in_bounds hd).mono (by decide)) bc.room tk_calm rfl (g_in_bounds hd) (wa_cons (we_var (i := 1) rfl (.inl rfl) nd_share nc_share) (wa_cons (we_mul (own := false) we_int (we_globI' (i_MOST_COIN hd) rfl nd_MOST_COIN)) wa_nil rfl) rfl) rfl nd_in_bounds)) (fun _ => rfl)) wa_nil rfl) rfl))))) (fun _ _ _ _ h => h.1) (fun _ _ _ _ h => h.2)
theorem B_are_shares (hd : Hd w K mg) : FnBd P w K mg base 2 (He.ga K "are_shares") 1 [] φ_are_shares := by
  obtain ⟨fd, Fd⟩ := hd.c.t.d.def_ 2 (d := mkDD (("are_shares" : Str), none) "are_shares" "are_shares" (top 13) []) rfl
  exact fn_bd _ Fd (k_are_shares hd Fd) (FunD.bindsN Fd fun _ _ _ _ _ _ us hl => match us, hl with | [_], _ => rfl)
/-! are_ties -/
def N_are_ties : List Str := ["thing", "words", "tie", "word"]
theorem sc_are_ties : FnScope N_are_ties ["thing"] (defScope (top 14)) := ⟨rfl, rfl, rfl, by decide +kernel, rfl, by decide +kernel, by decide +kernel⟩
def w_are_ties : WpS := (wSeq (wIf (wB (wOr (wNot (wIsTy "tuple" (wVar 0))) (wOr (wOp (fCmp cmpGt) (wFun fLen (wCons (wVar 0) wNil)) (wC (.int 6))) (wNot (wFun fAll (wCons (wLc false (wSrc (wVar 0)) (.nm 2) wYes (wCall φ_is_tie [] (wCons (wVar 2) wNil)) [2]) wNil)))))) (wRet (wC (.bl false))) wNx)
  (wSeq (wSet 1 (wLc false (wSrc (wVar 0)) (.nm 2) wYes (wOp fIx (wVar 2) (wC (.int 2))) [2]))
  (wRet (wFun fAll (wCons (wLc false (wSrc (wVar 1)) (.nm 3) wYes (wOp (fEq false) (wMt "list" fCount (wVar 1) (wCons (wVar 3) wNil)) (wC (.int 1))) [3]) wNil)))))
def φ_are_ties : SB.Spec := fun xs S R RE => xs.length = 1 ∧ w_are_ties (startE N_are_ties xs) S ⟨fun _ S' => Rz R .non S', Rz R, fun _ _ => False, fun _ _ => False⟩ (fun c _ S' => RE c S')
theorem k_are_ties (hd : Hd w K mg) {q nm : Str} {dvs : List V} {kws : List (Str × V)} {f : Addr} {fd : FuncData} (Fd : FunD K nm q (defArgs (top 14)) (defBody (top 14)) (defScope (top 14)) dvs kws f fd) : FnOk P w K mg base (L2.CX P w) 3 f fd ["thing"] (spOf K φ_are_ties) :=
  body_ok (N := N_are_ties) (ws := w_are_ties) Fd sc_are_ties (fun cdv A outer s H E F bc =>
  (wss_cons (ws_if (WW.wt (ww_or (wt_not (wt_val (b_isTy (T := "tuple") (by decide) (we_var (i := 0) rfl (.inl rfl) nd_thing nc_thing) rfl rfl (n_isinstance hd) rfl (n_tuple hd) bt_tuple (by decide) nd_tuple) (fun _ => rfl))) (ww_or (t_gt (b_len rfl (n_len hd) (wa_cons (we_var (i := 0) rfl (.inl rfl) nd_thing nc_thing) wa_nil rfl) rfl) (we_globI' (i_MOST_TIES hd) rfl nd_MOST_TIES) rfl) (ww_or1 (wt_not (wt_val (b_all rfl rfl (n_all hd) (wa_cons (we_lc (fr := false) (own := [(("tie" : Str), 2)]) (t := (.nm 2)) rfl sc_are_ties.nd (wi_src (we_var (i := 0) rfl (.inl rfl) nd_thing nc_thing)) (show BlkOk N_are_ties (defScope (top 14)) _ [(("tie" : Str), 2)] from blkOk_by (by decide +kernel)) (by decide) (fun _ _ _ _ _ => (wg_nm sc_are_ties.nd rfl (.inl rfl) (.inr rfl))) (fun _ _ _ _ _ => wts_nil) (fun _ _ _ _ _ => (we_call ((B_is_tie hd).mono (by decide)) bc.room tk_calm rfl (g_is_tie hd) (wa_cons (we_var (i := 2) rfl (.inl rfl) nd_tie nc_tie) wa_nil rfl) rfl nd_is_tie)) (fun _ => rfl)) wa_nil rfl) rfl) (fun _ => rfl))))))) (wss_one (ws_ret we_bl)) wss_nil)
  (wss_cons (ws_set (i := 1) sc_are_ties.nd rfl (.inr rfl) (we_lc (fr := false) (own := [(("tie" : Str), 2)]) (t := (.nm 2)) rfl sc_are_ties.nd (wi_src (we_var (i := 0) rfl (.inl rfl) nd_thing nc_thing)) (show BlkOk N_are_ties (defScope (top 14)) _ [(("tie" : Str), 2)] from blkOk_by (by decide +kernel)) (by decide) (fun _ _ _ _ _ => (wg_nm sc_are_ties.nd rfl (.inl rfl) (.inr rfl))) (fun _ _ _ _ _ => wts_nil) (fun _ _ _ _ _ => (we_ix (u1 bc.room.u65) (we_var (i := 2) rfl (.inl rfl) nd_tie nc_tie) we_int (fun _ _ => rfl))) (fun _ => rfl)) rfl (.inl rfl))
  (wss_one (ws_ret (b_all rfl rfl (n_all hd) (wa_cons (we_lc (fr := false) (own := [(("word" : Str), 3)]) (t := (.nm 3)) rfl sc_are_ties.nd (wi_src (we_var (i := 1) rfl (.inr (.inl rfl)) nd_words nc_words)) (show BlkOk N_are_ties (defScope (top 14)) _ [(("word" : Str), 3)] from blkOk_by (by decide +kernel)) (by decide) (fun _ _ _ _ _ => (wg_nm sc_are_ties.nd rfl (.inl rfl) (.inr rfl))) (fun _ _ _ _ _ => wts_nil) (fun _ _ _ _ _ => (e_eq bc.room.u65 (m_count bc.room.u65 (we_var (i := 1) rfl (.inr (.inl rfl)) nd_words nc_words) (wa_cons (we_var (i := 3) rfl (.inl rfl) nd_word nc_word) wa_nil rfl) rfl rfl (by decide) rfl) we_int rfl)) (fun _ => rfl)) wa_nil rfl) rfl)))))) (fun _ _ _ _ h => h.1) (fun _ _ _ _ h => h.2)
theorem B_are_ties (hd : Hd w K mg) : FnBd P w K mg base 3 (He.ga K "are_ties") 1 [] φ_are_ties := by
  obtain ⟨fd, Fd⟩ := hd.c.t.d.def_ 3 (d := mkDD (("are_ties" : Str), none) "are_ties" "are_ties" (top 14) []) rfl
  exact fn_bd _ Fd (k_are_ties hd Fd) (FunD.bindsN Fd fun _ _ _ _ _ _ us hl => match us, hl with | [_], _ => rfl)
/-! is_stand -/
def N_is_stand : List Str := ["thing"]
theorem sc_is_stand : FnScope N_is_stand ["thing"] (defScope (top 15)) := ⟨rfl, rfl, rfl, by decide +kernel, rfl, by decide +kernel, by decide +kernel⟩
def w_is_stand : WpS := (wSeq (wIf (wB (wOr (wNot (wIsTy "tuple" (wVar 0))) (wOp (fEq true) (wFun fLen (wCons (wVar 0) wNil)) (wC (.int 3))))) (wRet (wC (.bl false))) wNx)
  (wRet (wAnd (wCall φ_in_bounds [] (wCons (wOp fIx (wVar 0) (wC (.int 0))) (wCons (wC (.int 1000000)) wNil))) (wAnd (wCall φ_are_shares [] (wCons (wOp fIx (wVar 0) (wC (.int 1))) wNil)) (wCall φ_are_ties [] (wCons (wOp fIx (wVar 0) (wC (.int 2))) wNil))))))
def φ_is_stand : SB.Spec := fun xs S R RE => xs.length = 1 ∧ w_is_stand (startE N_is_stand xs) S ⟨fun _ S' => Rz R .non S', Rz R, fun _ _ => False, fun _ _ => False⟩ (fun c _ S' => RE c S')
theorem k_is_stand (hd : Hd w K mg) {q nm : Str} {dvs : List V} {kws : List (Str × V)} {f : Addr} {fd : FuncData} (Fd : FunD K nm q (defArgs (top 15)) (defBody (top 15)) (defScope (top 15)) dvs kws f fd) : FnOk P w K mg base (L2.CX P w) 4 f fd ["thing"] (spOf K φ_is_stand) :=
  body_ok (N := N_is_stand) (ws := w_is_stand) Fd sc_is_stand (fun cdv A outer s H E F bc =>
  (wss_cons (ws_if (WW.wt (ww_or (wt_not (wt_val (b_isTy (T := "tuple") (by decide) (we_var (i := 0) rfl (.inl rfl) nd_thing nc_thing) rfl rfl (n_isinstance hd) rfl (n_tuple hd) bt_tuple (by decide) nd_tuple) (fun _ => rfl))) (ww_or1 (t_ne bc.room.u65 (b_len rfl (n_len hd) (wa_cons (we_var (i := 0) rfl (.inl rfl) nd_thing nc_thing) wa_nil rfl) rfl) we_int rfl)))) (wss_one (ws_ret we_bl)) wss_nil)
  (wss_one (ws_ret (we_and (we_call ((B_in_bounds hd).mono (by decide)) bc.room bc.tk rfl (g_in_bounds hd) (wa_cons (we_ix (u1 bc.room.u65) (we_var (i := 0) rfl (.inl rfl) nd_thing nc_thing) we_int (fun _ _ => rfl)) (wa_cons (we_globI' (i_MOST_NUMBER hd) rfl nd_MOST_NUMBER) wa_nil rfl) rfl) rfl nd_in_bounds) (we_and (we_call ((B_are_shares hd).mono (by decide)) bc.room bc.tk rfl (g_are_shares hd) (wa_cons (we_ix (u1 bc.room.u65) (we_var (i := 0) rfl (.inl rfl) nd_thing nc_thing) we_int (fun _ _ => rfl)) wa_nil rfl) rfl nd_are_shares) (we_one (we_call ((B_are_ties hd).mono (by decide)) bc.room bc.tk rfl (g_are_ties hd) (wa_cons (we_ix (u1 bc.room.u65) (we_var (i := 0) rfl (.inl rfl) nd_thing nc_thing) we_int (fun _ _ => rfl)) wa_nil rfl) rfl nd_are_ties)))))))) (fun _ _ _ _ h => h.1) (fun _ _ _ _ h => h.2)
theorem B_is_stand (hd : Hd w K mg) : FnBd P w K mg base 4 (He.ga K "is_stand") 1 [] φ_is_stand := by
  obtain ⟨fd, Fd⟩ := hd.c.t.d.def_ 4 (d := mkDD (("is_stand" : Str), none) "is_stand" "is_stand" (top 15) []) rfl
  exact fn_bd _ Fd (k_is_stand hd Fd) (FunD.bindsN Fd fun _ _ _ _ _ _ us hl => match us, hl with | [_], _ => rfl)
/-! stand -/
def N_stand : List Str := ["number", "shares", "ties", "made"]
theorem sc_stand : FnScope N_stand ["number", "shares", "ties"] (defScope (top 16)) := ⟨rfl, rfl, rfl, by decide +kernel, rfl, by decide +kernel, by decide +kernel⟩
def w_stand : WpS := (wSeq (wSet 3 (wTup (wCons (wVar 0) (wCons (wVar 1) (wCons (wIte (wOp (fIs false) (wVar 2) (wC .non)) (wTup wNil) (wVar 2)) wNil)))))
  (wSeq (wIf (wB (wNot (wCall φ_is_stand [] (wCons (wVar 3) wNil)))) (wRaise "NoStand") wNx)
  (wRet (wVar 3))))
def φ_stand : SB.Spec := fun xs S R RE => xs.length = 3 ∧ w_stand (startE N_stand xs) S ⟨fun _ S' => Rz R .non S', Rz R, fun _ _ => False, fun _ _ => False⟩ (fun c _ S' => RE c S')
theorem k_stand (hd : Hd w K mg) {q nm : Str} {dvs : List V} {kws : List (Str × V)} {f : Addr} {fd : FuncData} (Fd : FunD K nm q (defArgs (top 16)) (defBody (top 16)) (defScope (top 16)) dvs kws f fd) : FnOk P w K mg base (L2.CX P w) 5 f fd ["number", "shares", "ties"] (spOf K φ_stand) :=
  body_ok (N := N_stand) (ws := w_stand) Fd sc_stand (fun cdv A outer s H E F bc =>
  (wss_cons (ws_set (i := 3) sc_stand.nd rfl (.inl rfl) (we_tup (wa_cons (we_var (i := 0) rfl (.inl rfl) nd_number nc_number) (wa_cons (we_var (i := 1) rfl (.inl rfl) nd_shares nc_shares) (wa_cons (we_ite (t_is (we_var (i := 2) rfl (.inl rfl) nd_ties nc_ties) we_non rfl) (we_tup wa_nil) (we_var (i := 2) rfl (.inl rfl) nd_ties nc_ties)) wa_nil rfl) rfl) rfl)) rfl (.inl rfl))
  (wss_cons (ws_if (wt_not (wt_val (we_call ((B_is_stand hd).mono (by decide)) bc.room bc.tk rfl (g_is_stand hd) (wa_cons (we_var (i := 3) rfl (.inl rfl) nd_made nc_made) wa_nil rfl) rfl nd_is_stand) (fun _ => rfl))) (wss_one (ws_raise (c := "NoStand") PySem.F.excBase_ValueError (ex_NoStand hd) rfl bc.tk (g_NoStand hd) rfl nd_NoStand)) wss_nil)
  (wss_one (ws_ret (we_var (i := 3) rfl (.inl rfl) nd_made nc_made)))))) (fun _ _ _ _ h => h.1) (fun _ _ _ _ h => h.2)
theorem B_stand_2 (hd : Hd w K mg) : FnBd P w K mg base 5 (He.ga K "stand") 3 [.non] φ_stand := by
  obtain ⟨fd, Fd⟩ := hd.c.t.d.def_ 5 (d := mkDD (("stand" : Str), none) "stand" "stand" (top 16) [.non]) rfl
  exact fn_bdD _ [.non] Fd (k_stand hd Fd) (FunD.binds1 Fd 2 0 (by intro z; cases z) rfl (fun T kV doc pm an cdv ct us its h1 h2 => match us, its, h1, h2 with | [_, _], [_], _, _ => ⟨_, rfl, rfl⟩)) (fun S H => (.cons .non .nil))
/-! first -/
def N_first : List Str := ["left", "right"]
theorem sc_first : FnScope N_first ["left", "right"] (defScope (top 17)) := ⟨rfl, rfl, rfl, by decide +kernel, rfl, by decide +kernel, by decide +kernel⟩
def w_first : WpS := (wRet (wCall φ_stand [.non] (wCons (wC (.int 0)) (wCons (wTup (wCons (wVar 0) (wCons (wVar 1) wNil))) wNil))))
def φ_first : SB.Spec := fun xs S R RE => xs.length = 2 ∧ w_first (startE N_first xs) S ⟨fun _ S' => Rz R .non S', Rz R, fun _ _ => False, fun _ _ => False⟩ (fun c _ S' => RE c S')
theorem k_first (hd : Hd w K mg) {q nm : Str} {dvs : List V} {kws : List (Str × V)} {f : Addr} {fd : FuncData} (Fd : FunD K nm q (defArgs (top 17)) (defBody (top 17)) (defScope (top 17)) dvs kws f fd) : FnOk P w K mg base (L2.CX P w) 6 f fd ["left", "right"] (spOf K φ_first) :=
  body_ok (N := N_first) (ws := w_first) Fd sc_first (fun cdv A outer s H E F bc =>
  (wss_one (ws_ret (we_call ((B_stand_2 hd).mono (by decide)) bc.room bc.tk rfl (g_stand hd) (wa_cons we_int (wa_cons (we_tup (wa_cons (we_var (i := 0) rfl (.inl rfl) nd_left nc_left) (wa_cons (we_var (i := 1) rfl (.inl rfl) nd_right nc_right) wa_nil rfl) rfl)) wa_nil rfl) rfl) rfl nd_stand)))) (fun _ _ _ _ h => h.1) (fun _ _ _ _ h => h.2)
theorem B_first (hd : Hd w K mg) : FnBd P w K mg base 6 (He.ga K "first") 2 [] φ_first := by
  obtain ⟨fd, Fd⟩ := hd.c.t.d.def_ 6 (d := mkDD (("first" : Str), none) "first" "first" (top 17) []) rfl
  exact fn_bd _ Fd (k_first hd Fd) (FunD.bindsN Fd fun _ _ _ _ _ _ us hl => match us, hl with | [_, _], _ => rfl)
/-! deals -/
def N_deals : List Str := ["one", "tie"]
theorem sc_deals : FnScope N_deals ["one"] (defScope (top 18)) := ⟨rfl, rfl, rfl, by decide +kernel, rfl, by decide +kernel, by decide +kernel⟩
def w_deals : WpS := (wRet (wOp (fAdd false) (wFun fSum (wCons (wOp fIx (wVar 0) (wC (.int 1))) wNil)) (wFun fSum (wCons (wLc false (wSrc (wOp fIx (wVar 0) (wC (.int 2)))) (.nm 1) wYes (wOp fIx (wVar 1) (wC (.int 1))) [1]) wNil))))
def φ_deals : SB.Spec := fun xs S R RE => xs.length = 1 ∧ w_deals (startE N_deals xs) S ⟨fun _ S' => Rz R .non S', Rz R, fun _ _ => False, fun _ _ => False⟩ (fun c _ S' => RE c S')
theorem k_deals (hd : Hd w K mg) {q nm : Str} {dvs : List V} {kws : List (Str × V)} {f : Addr} {fd : FuncData} (Fd : FunD K nm q (defArgs (top 18)) (defBody (top 18)) (defScope (top 18)) dvs kws f fd) : FnOk P w K mg base (L2.CX P w) 1 f fd ["one"] (spOf K φ_deals) :=
  body_ok (N := N_deals) (ws := w_deals) Fd sc_deals (fun cdv A outer s H E F bc =>
  (wss_one (ws_ret (we_add (own := false) (b_sum rfl rfl (n_sum hd) (wa_cons (we_ix (u1 bc.room.u65) (we_var (i := 0) rfl (.inl rfl) nd_one nc_one) we_int (fun _ _ => rfl)) wa_nil rfl) rfl) (b_sum rfl rfl (n_sum hd) (wa_cons (we_lc (fr := false) (own := [(("tie" : Str), 1)]) (t := (.nm 1)) rfl sc_deals.nd (wi_src (we_ix (u1 bc.room.u65) (we_var (i := 0) rfl (.inl rfl) nd_one nc_one) we_int (fun _ _ => rfl))) (show BlkOk N_deals (defScope (top 18)) _ [(("tie" : Str), 1)] from blkOk_by (by decide +kernel)) (by decide) (fun _ _ _ _ _ => (wg_nm sc_deals.nd rfl (.inl rfl) (.inr rfl))) (fun _ _ _ _ _ => wts_nil) (fun _ _ _ _ _ => (we_ix (u1 bc.room.u65) (we_var (i := 1) rfl (.inl rfl) nd_tie nc_tie) we_int (fun _ _ => rfl))) (fun _ => rfl)) wa_nil rfl) rfl))))) (fun _ _ _ _ h => h.1) (fun _ _ _ _ h => h.2)
theorem B_deals (hd : Hd w K mg) : FnBd P w K mg base 1 (He.ga K "deals") 1 [] φ_deals := by
  obtain ⟨fd, Fd⟩ := hd.c.t.d.def_ 7 (d := mkDD (("deals" : Str), none) "deals" "deals" (top 18) []) rfl
  exact fn_bd _ Fd (k_deals hd Fd) (FunD.bindsN Fd fun _ _ _ _ _ _ us hl => match us, hl with | [_], _ => rfl)
/-! is_made -/
def N_is_made : List Str := ["thing"]
theorem sc_is_made : FnScope N_is_made ["thing"] (defScope (top 21)) := ⟨rfl, rfl, rfl, by decide +kernel, rfl, by decide +kernel, by decide +kernel⟩
def w_is_made : WpS := (wSeq (wIf (wB (wOr (wNot (wIsTy "tuple" (wVar 0))) (wOp (fEq true) (wFun fLen (wCons (wVar 0) wNil)) (wC (.int 4))))) (wRet (wC (.bl false))) wNx)
  (wSeq (wIf (wB (wOr (wNot (wCall φ_in_bounds [] (wCons (wOp fIx (wVar 0) (wC (.int 1))) (wCons (wC (.int 2)) wNil)))) (wNot (wCall φ_in_bounds [] (wCons (wOp fIx (wVar 0) (wC (.int 2))) (wCons (wC (.int 1)) wNil)))))) (wRet (wC (.bl false))) wNx)
  (wSeq (wIf (wB (wOp (fEq false) (wOp fIx (wVar 0) (wC (.int 0))) (wC (.str ("strike" : Str))))) (wRet (wCall φ_in_bounds [] (wCons (wOp fIx (wVar 0) (wC (.int 3))) (wCons (wC (.int 1000000)) wNil)))) wNx)
  (wRet (wAnd (wOp (fEq false) (wOp fIx (wVar 0) (wC (.int 0))) (wC (.str ("agree" : Str)))) (wCall φ_is_stand [] (wCons (wOp fIx (wVar 0) (wC (.int 3))) wNil)))))))
def φ_is_made : SB.Spec := fun xs S R RE => xs.length = 1 ∧ w_is_made (startE N_is_made xs) S ⟨fun _ S' => Rz R .non S', Rz R, fun _ _ => False, fun _ _ => False⟩ (fun c _ S' => RE c S')
theorem k_is_made (hd : Hd w K mg) {q nm : Str} {dvs : List V} {kws : List (Str × V)} {f : Addr} {fd : FuncData} (Fd : FunD K nm q (defArgs (top 21)) (defBody (top 21)) (defScope (top 21)) dvs kws f fd) : FnOk P w K mg base (L2.CX P w) 5 f fd ["thing"] (spOf K φ_is_made) :=
  body_ok (N := N_is_made) (ws := w_is_made) Fd sc_is_made (fun cdv A outer s H E F bc =>
  (wss_cons (ws_if (WW.wt (ww_or (wt_not (wt_val (b_isTy (T := "tuple") (by decide) (we_var (i := 0) rfl (.inl rfl) nd_thing nc_thing) rfl rfl (n_isinstance hd) rfl (n_tuple hd) bt_tuple (by decide) nd_tuple) (fun _ => rfl))) (ww_or1 (t_ne bc.room.u65 (b_len rfl (n_len hd) (wa_cons (we_var (i := 0) rfl (.inl rfl) nd_thing nc_thing) wa_nil rfl) rfl) we_int rfl)))) (wss_one (ws_ret we_bl)) wss_nil)
  (wss_cons (ws_if (WW.wt (ww_or (wt_not (wt_val (we_call ((B_in_bounds hd).mono (by decide)) bc.room bc.tk rfl (g_in_bounds hd) (wa_cons (we_ix (u1 bc.room.u65) (we_var (i := 0) rfl (.inl rfl) nd_thing nc_thing) we_int (fun _ _ => rfl)) (wa_cons (we_globI' (i_MOST_POT hd) rfl nd_MOST_POT) wa_nil rfl) rfl) rfl nd_in_bounds) (fun _ => rfl))) (ww_or1 (wt_not (wt_val (we_call ((B_in_bounds hd).mono (by decide)) bc.room bc.tk rfl (g_in_bounds hd) (wa_cons (we_ix (u1 bc.room.u65) (we_var (i := 0) rfl (.inl rfl) nd_thing nc_thing) we_int (fun _ _ => rfl)) (wa_cons we_int wa_nil rfl) rfl) rfl nd_in_bounds) (fun _ => rfl)))))) (wss_one (ws_ret we_bl)) wss_nil)
  (wss_cons (ws_if (t_eq bc.room.u65 (we_ix (u1 bc.room.u65) (we_var (i := 0) rfl (.inl rfl) nd_thing nc_thing) we_int (fun _ _ => rfl)) we_str rfl) (wss_one (ws_ret (we_call ((B_in_bounds hd).mono (by decide)) bc.room bc.tk rfl (g_in_bounds hd) (wa_cons (we_ix (u1 bc.room.u65) (we_var (i := 0) rfl (.inl rfl) nd_thing nc_thing) we_int (fun _ _ => rfl)) (wa_cons (we_globI' (i_MOST_NUMBER hd) rfl nd_MOST_NUMBER) wa_nil rfl) rfl) rfl nd_in_bounds))) wss_nil)
  (wss_one (ws_ret (we_and (e_eq bc.room.u65 (we_ix (u1 bc.room.u65) (we_var (i := 0) rfl (.inl rfl) nd_thing nc_thing) we_int (fun _ _ => rfl)) we_str rfl) (we_one (we_call ((B_is_stand hd).mono (by decide)) bc.room bc.tk rfl (g_is_stand hd) (wa_cons (we_ix (u1 bc.room.u65) (we_var (i := 0) rfl (.inl rfl) nd_thing nc_thing) we_int (fun _ _ => rfl)) wa_nil rfl) rfl nd_is_stand))))))))) (fun _ _ _ _ h => h.1) (fun _ _ _ _ h => h.2)
theorem B_is_made (hd : Hd w K mg) : FnBd P w K mg base 5 (He.ga K "is_made") 1 [] φ_is_made := by
  obtain ⟨fd, Fd⟩ := hd.c.t.d.def_ 8 (d := mkDD (("is_made" : Str), none) "is_made" "is_made" (top 21) []) rfl
  exact fn_bd _ Fd (k_is_made hd Fd) (FunD.bindsN Fd fun _ _ _ _ _ _ us hl => match us, hl with | [_], _ => rfl)
/-! is_thing -/
def N_is_thing : List Str := ["thing"]
theorem sc_is_thing : FnScope N_is_thing ["thing"] (defScope (top 22)) := ⟨rfl, rfl, rfl, by decide +kernel, rfl, by decide +kernel, by decide +kernel⟩
def w_is_thing : WpS := (wSeq (wIf (wB (wAnd (wIsTy "tuple" (wVar 0)) (wAnd (wOp (fEq false) (wFun fLen (wCons (wVar 0) wNil)) (wC (.int 2))) (wOp (fEq false) (wOp fIx (wVar 0) (wC (.int 0))) (wC (.str ("word" : Str))))))) (wRet (wCall φ_in_bounds [] (wCons (wOp fIx (wVar 0) (wC (.int 1))) (wCons (wC (.int 59)) wNil)))) wNx)
  (wRet (wCall φ_is_made [] (wCons (wVar 0) wNil))))
def φ_is_thing : SB.Spec := fun xs S R RE => xs.length = 1 ∧ w_is_thing (startE N_is_thing xs) S ⟨fun _ S' => Rz R .non S', Rz R, fun _ _ => False, fun _ _ => False⟩ (fun c _ S' => RE c S')
theorem k_is_thing (hd : Hd w K mg) {q nm : Str} {dvs : List V} {kws : List (Str × V)} {f : Addr} {fd : FuncData} (Fd : FunD K nm q (defArgs (top 22)) (defBody (top 22)) (defScope (top 22)) dvs kws f fd) : FnOk P w K mg base (L2.CX P w) 6 f fd ["thing"] (spOf K φ_is_thing) :=
  body_ok (N := N_is_thing) (ws := w_is_thing) Fd sc_is_thing (fun cdv A outer s H E F bc =>
  (wss_cons (ws_if (WW.wt (ww_and (wt_val (b_isTy (T := "tuple") (by decide) (we_var (i := 0) rfl (.inl rfl) nd_thing nc_thing) rfl rfl (n_isinstance hd) rfl (n_tuple hd) bt_tuple (by decide) nd_tuple) (fun _ => rfl)) (ww_and (t_eq bc.room.u65 (b_len rfl (n_len hd) (wa_cons (we_var (i := 0) rfl (.inl rfl) nd_thing nc_thing) wa_nil rfl) rfl) we_int rfl) (ww_and1 (t_eq bc.room.u65 (we_ix (u1 bc.room.u65) (we_var (i := 0) rfl (.inl rfl) nd_thing nc_thing) we_int (fun _ _ => rfl)) we_str rfl))))) (wss_one (ws_ret (we_call ((B_in_bounds hd).mono (by decide)) bc.room bc.tk rfl (g_in_bounds hd) (wa_cons (we_ix (u1 bc.room.u65) (we_var (i := 0) rfl (.inl rfl) nd_thing nc_thing) we_int (fun _ _ => rfl)) (wa_cons (we_globI' (i_MOST_WORD hd) rfl nd_MOST_WORD) wa_nil rfl) rfl) rfl nd_in_bounds))) wss_nil)
  (wss_one (ws_ret (we_call ((B_is_made hd).mono (by decide)) bc.room bc.tk rfl (g_is_made hd) (wa_cons (we_var (i := 0) rfl (.inl rfl) nd_thing nc_thing) wa_nil rfl) rfl nd_is_made))))) (fun _ _ _ _ h => h.1) (fun _ _ _ _ h => h.2)
theorem B_is_thing (hd : Hd w K mg) : FnBd P w K mg base 6 (He.ga K "is_thing") 1 [] φ_is_thing := by
  obtain ⟨fd, Fd⟩ := hd.c.t.d.def_ 9 (d := mkDD (("is_thing" : Str), none) "is_thing" "is_thing" (top 22) []) rfl
  exact fn_bd _ Fd (k_is_thing hd Fd) (FunD.bindsN Fd fun _ _ _ _ _ _ us hl => match us, hl with | [_], _ => rfl)
/-! is_pot -/
def N_is_pot : List Str := ["thing", "left", "right", "one", "other", "wait"]
theorem sc_is_pot : FnScope N_is_pot ["thing"] (defScope (top 32)) := ⟨rfl, rfl, rfl, by decide +kernel, rfl, by decide +kernel, by decide +kernel⟩
def w_is_pot : WpS := (wSeq (wIf (wB (wOr (wNot (wIsTy "tuple" (wVar 0))) (wOp (fEq true) (wFun fLen (wCons (wVar 0) wNil)) (wC (.int 5))))) (wRet (wC (.bl false))) wNx)
  (wSeq (wAsg (.tup (.cons (.nm 1) (.cons (.nm 2) (.cons (.nm 3) (.cons (.nm 4) (.cons (.nm 5) .nil)))))) (wVar 0))
  (wSeq (wIf (wB (wOr (wNot (wCall φ_in_bounds [] (wCons (wVar 1) (wCons (wC (.int 3)) wNil)))) (wOr (wNot (wCall φ_in_bounds [] (wCons (wVar 2) (wCons (wC (.int 3)) wNil)))) (wOp (fEq false) (wVar 1) (wVar 2))))) (wRet (wC (.bl false))) wNx)
  (wSeq (wIf (wB (wOr (wNot (wCall φ_in_bounds [] (wCons (wVar 3) (wCons (wC (.int 1000000000000)) wNil)))) (wNot (wCall φ_in_bounds [] (wCons (wVar 4) (wCons (wC (.int 1000000000000)) wNil)))))) (wRet (wC (.bl false))) wNx)
  (wRet (wAnd (wCall φ_in_bounds [] (wCons (wVar 5) (wCons (wC (.int 100)) wNil))) (wOp (fCmp cmpGt) (wVar 5) (wC (.int 0)))))))))
def φ_is_pot : SB.Spec := fun xs S R RE => xs.length = 1 ∧ w_is_pot (startE N_is_pot xs) S ⟨fun _ S' => Rz R .non S', Rz R, fun _ _ => False, fun _ _ => False⟩ (fun c _ S' => RE c S')
theorem k_is_pot (hd : Hd w K mg) {q nm : Str} {dvs : List V} {kws : List (Str × V)} {f : Addr} {fd : FuncData} (Fd : FunD K nm q (defArgs (top 32)) (defBody (top 32)) (defScope (top 32)) dvs kws f fd) : FnOk P w K mg base (L2.CX P w) 2 f fd ["thing"] (spOf K φ_is_pot) :=
  body_ok (N := N_is_pot) (ws := w_is_pot) Fd sc_is_pot (fun cdv A outer s H E F bc =>
  (wss_cons (ws_if (WW.wt (ww_or (wt_not (wt_val (b_isTy (T := "tuple") (by decide) (we_var (i := 0) rfl (.inl rfl) nd_thing nc_thing) rfl rfl (n_isinstance hd) rfl (n_tuple hd) bt_tuple (by decide) nd_tuple) (fun _ => rfl))) (ww_or1 (t_ne bc.room.u65 (b_len rfl (n_len hd) (wa_cons (we_var (i := 0) rfl (.inl rfl) nd_thing nc_thing) wa_nil rfl) rfl) we_int rfl)))) (wss_one (ws_ret we_bl)) wss_nil)
  (wss_cons (ws_asg (we_var (i := 0) rfl (.inl rfl) nd_thing nc_thing) (wg_tup rfl (wgs_cons (wg_nm sc_is_pot.nd rfl (.inl rfl) (.inl rfl)) (wgs_cons (wg_nm sc_is_pot.nd rfl (.inl rfl) (.inl rfl)) (wgs_cons (wg_nm sc_is_pot.nd rfl (.inl rfl) (.inl rfl)) (wgs_cons (wg_nm sc_is_pot.nd rfl (.inl rfl) (.inl rfl)) (wgs_cons (wg_nm sc_is_pot.nd rfl (.inl rfl) (.inl rfl)) wgs_nil (fun _ => rfl)) (fun _ => rfl)) (fun _ => rfl)) (fun _ => rfl)) (fun _ => rfl)) (fun _ => rfl) (fun _ => rfl)) rfl rfl rfl)
  (wss_cons (ws_if (WW.wt (ww_or (wt_not (wt_val (we_call ((B_in_bounds hd).mono (by decide)) bc.room bc.tk rfl (g_in_bounds hd) (wa_cons (we_var (i := 1) rfl (.inl rfl) nd_left nc_left) (wa_cons (we_globI' (i_MOST_HAND hd) rfl nd_MOST_HAND) wa_nil rfl) rfl) rfl nd_in_bounds) (fun _ => rfl))) (ww_or (wt_not (wt_val (we_call ((B_in_bounds hd).mono (by decide)) bc.room bc.tk rfl (g_in_bounds hd) (wa_cons (we_var (i := 2) rfl (.inl rfl) nd_right nc_right) (wa_cons (we_globI' (i_MOST_HAND hd) rfl nd_MOST_HAND) wa_nil rfl) rfl) rfl nd_in_bounds) (fun _ => rfl))) (ww_or1 (t_eq bc.room.u65 (we_var (i := 1) rfl (.inl rfl) nd_left nc_left) (we_var (i := 2) rfl (.inl rfl) nd_right nc_right) rfl))))) (wss_one (ws_ret we_bl)) wss_nil)
  (wss_cons (ws_if (WW.wt (ww_or (wt_not (wt_val (we_call ((B_in_bounds hd).mono (by decide)) bc.room bc.tk rfl (g_in_bounds hd) (wa_cons (we_var (i := 3) rfl (.inl rfl) nd_one nc_one) (wa_cons (we_globI' (i_MOST_COIN hd) rfl nd_MOST_COIN) wa_nil rfl) rfl) rfl nd_in_bounds) (fun _ => rfl))) (ww_or1 (wt_not (wt_val (we_call ((B_in_bounds hd).mono (by decide)) bc.room bc.tk rfl (g_in_bounds hd) (wa_cons (we_var (i := 4) rfl (.inl rfl) nd_other nc_other) (wa_cons (we_globI' (i_MOST_COIN hd) rfl nd_MOST_COIN) wa_nil rfl) rfl) rfl nd_in_bounds) (fun _ => rfl)))))) (wss_one (ws_ret we_bl)) wss_nil)
  (wss_one (ws_ret (we_and (we_call ((B_in_bounds hd).mono (by decide)) bc.room bc.tk rfl (g_in_bounds hd) (wa_cons (we_var (i := 5) rfl (.inl rfl) nd_wait nc_wait) (wa_cons (we_globI' (i_MOST_WAIT hd) rfl nd_MOST_WAIT) wa_nil rfl) rfl) rfl nd_in_bounds) (we_one (e_gt (we_var (i := 5) rfl (.inl rfl) nd_wait nc_wait) we_int rfl)))))))))) (fun _ _ _ _ h => h.1) (fun _ _ _ _ h => h.2)
theorem B_is_pot (hd : Hd w K mg) : FnBd P w K mg base 2 (He.ga K "is_pot") 1 [] φ_is_pot := by
  obtain ⟨fd, Fd⟩ := hd.c.t.d.def_ 10 (d := mkDD (("is_pot" : Str), none) "is_pot" "is_pot" (top 32) []) rfl
  exact fn_bd _ Fd (k_is_pot hd Fd) (FunD.bindsN Fd fun _ _ _ _ _ _ us hl => match us, hl with | [_], _ => rfl)
/-! _law_cell_at -/
def N__law_cell_at : List Str := ["script", "k"]
theorem sc__law_cell_at : FnScope N__law_cell_at ["script", "k"] (defScope (top 35)) := ⟨rfl, rfl, rfl, by decide +kernel, rfl, by decide +kernel, by decide +kernel⟩
def w__law_cell_at : WpS := (wSeq (wIf (wB (wOp (fCmp cmpLt) (wVar 1) (wFun fLen (wCons (wVar 0) wNil)))) (wRet (wOp fIx (wVar 0) (wVar 1))) wNx)
  (wRet (wC (.int 0))))
def φ__law_cell_at : SB.Spec := fun xs S R RE => xs.length = 2 ∧ w__law_cell_at (startE N__law_cell_at xs) S ⟨fun _ S' => Rz R .non S', Rz R, fun _ _ => False, fun _ _ => False⟩ (fun c _ S' => RE c S')
theorem k__law_cell_at (hd : Hd w K mg) {q nm : Str} {dvs : List V} {kws : List (Str × V)} {f : Addr} {fd : FuncData} (Fd : FunD K nm q (defArgs (top 35)) (defBody (top 35)) (defScope (top 35)) dvs kws f fd) : FnOk P w K mg base (L2.CX P w) 1 f fd ["script", "k"] (spOf K φ__law_cell_at) :=
  body_ok (N := N__law_cell_at) (ws := w__law_cell_at) Fd sc__law_cell_at (fun cdv A outer s H E F bc =>
  (wss_cons (ws_if (t_lt (we_var (i := 1) rfl (.inl rfl) nd_k nc_k) (b_len rfl (n_len hd) (wa_cons (we_var (i := 0) rfl (.inl rfl) nd_script nc_script) wa_nil rfl) rfl) rfl) (wss_one (ws_ret (we_ix (u1 bc.room.u65) (we_var (i := 0) rfl (.inl rfl) nd_script nc_script) (we_var (i := 1) rfl (.inl rfl) nd_k nc_k) (fun _ _ => rfl)))) wss_nil)
  (wss_one (ws_ret we_int)))) (fun _ _ _ _ h => h.1) (fun _ _ _ _ h => h.2)
theorem B__law_cell_at (hd : Hd w K mg) : FnBd P w K mg base 1 (He.ga K "_law_cell_at") 2 [] φ__law_cell_at := by
  obtain ⟨fd, Fd⟩ := hd.c.t.d.def_ 11 (d := mkDD (("_law_cell_at" : Str), none) "_law_cell_at" "_law_cell_at" (top 35) []) rfl
  exact fn_bd _ Fd (k__law_cell_at hd Fd) (FunD.bindsN Fd fun _ _ _ _ _ _ us hl => match us, hl with | [_, _], _ => rfl)
/-! _law_well_of -/
def N__law_well_of : List Str := ["cell"]
theorem sc__law_well_of : FnScope N__law_well_of ["cell"] (defScope (top 36)) := ⟨rfl, rfl, rfl, by decide +kernel, rfl, by decide +kernel, by decide +kernel⟩
def w__law_well_of : WpS := (wRet (wLst true (wCons (wOp fIx (wLst false (wCons (wC (.int 0)) (wCons (wVar 0) wNil))) (wFun fInt (wCons (wOp (fCmp cmpGe) (wVar 0) (wOp fPow (wC (.int 10)) (wC (.int 18)))) wNil))) (wCons (wOp fMod (wVar 0) (wC (.int 2147483629))) (wCons (wC (.int 0)) wNil)))))
def φ__law_well_of : SB.Spec := fun xs S R RE => xs.length = 1 ∧ w__law_well_of (startE N__law_well_of xs) S ⟨fun _ S' => Rz R .non S', Rz R, fun _ _ => False, fun _ _ => False⟩ (fun c _ S' => RE c S')
theorem k__law_well_of (hd : Hd w K mg) {q nm : Str} {dvs : List V} {kws : List (Str × V)} {f : Addr} {fd : FuncData} (Fd : FunD K nm q (defArgs (top 36)) (defBody (top 36)) (defScope (top 36)) dvs kws f fd) : FnOk P w K mg base (L2.CX P w) 1 f fd ["cell"] (spOf K φ__law_well_of) :=
  body_ok (N := N__law_well_of) (ws := w__law_well_of) Fd sc__law_well_of (fun cdv A outer s H E F bc =>
  (wss_one (ws_ret (we_lst (own := true) (wa_cons (we_ix (u1 bc.room.u65) (we_lst (own := false) (wa_cons we_int (wa_cons (we_var (i := 0) rfl (.inl rfl) nd_cell nc_cell) wa_nil rfl) rfl)) (b_int rfl (n_int hd) (wa_cons (e_ge (we_var (i := 0) rfl (.inl rfl) nd_cell nc_cell) (we_pow we_int we_int) rfl) wa_nil rfl) rfl) (fun _ _ => rfl)) (wa_cons (we_mod (we_var (i := 0) rfl (.inl rfl) nd_cell nc_cell) we_int) (wa_cons we_int wa_nil rfl) rfl) rfl))))) (fun _ _ _ _ h => h.1) (fun _ _ _ _ h => h.2)
theorem B__law_well_of (hd : Hd w K mg) : FnBd P w K mg base 1 (He.ga K "_law_well_of") 1 [] φ__law_well_of := by
  obtain ⟨fd, Fd⟩ := hd.c.t.d.def_ 12 (d := mkDD (("_law_well_of" : Str), none) "_law_well_of" "_law_well_of" (top 36) []) rfl
  exact fn_bd _ Fd (k__law_well_of hd Fd) (FunD.bindsN Fd fun _ _ _ _ _ _ us hl => match us, hl with | [_], _ => rfl)
/-! _law_draw -/
def N__law_draw : List Str := ["well", "base", "digit", "primes", "number"]
theorem sc__law_draw : FnScope N__law_draw ["well", "base"] (defScope (top 37)) := ⟨rfl, rfl, rfl, by decide +kernel, rfl, by decide +kernel, by decide +kernel⟩
def w__law_draw : WpS := (wSeq (wIf (wB (wOp (fCmp cmpGt) (wOp fIx (wVar 0) (wC (.int 0))) (wC (.int 0)))) (wSeq (wSet 2 (wOp fMod (wOp fIx (wVar 0) (wC (.int 0))) (wVar 1)))
  (wSeq (wSetI (wOp fDiv (wOp fIx (wVar 0) (wC (.int 0))) (wVar 1)) (wVar 0) (wC (.int 0)))
  (wRet (wVar 2)))) wNx)
  (wSeq (wSetI (wOp (fAdd false) (wOp fIx (wVar 0) (wC (.int 2))) (wC (.int 1))) (wVar 0) (wC (.int 2)))
  (wSeq (wSet 3 (wLst false (wCons (wC (.int 2147483629)) (wCons (wC (.int 2147483587)) (wCons (wC (.int 2147483579)) (wCons (wC (.int 2147483563)) (wCons (wC (.int 2147483549)) wNil)))))))
  (wSeq (wSet 4 (wOp fMod (wOp fPow (wOp (fAdd false) (wOp fIx (wVar 0) (wC (.int 1))) (wOp (fMul false) (wC (.int 7919)) (wOp fIx (wVar 0) (wC (.int 2))))) (wC (.int 5))) (wC (.int 2147483647))))
  (wSeq (wSet 4 (wOp fMod (wOp (fMul false) (wVar 4) (wOp (fAdd false) (wOp (fAdd false) (wOp fDiv (wVar 4) (wC (.int 1009))) (wC (.int 69621))) (wOp fIx (wVar 0) (wC (.int 2))))) (wOp fIx (wVar 3) (wOp fMod (wOp fIx (wVar 0) (wC (.int 2))) (wC (.int 5))))))
  (wRet (wOp fMod (wOp fDiv (wVar 4) (wC (.int 7))) (wVar 1))))))))
def φ__law_draw : SB.Spec := fun xs S R RE => xs.length = 2 ∧ w__law_draw (startE N__law_draw xs) S ⟨fun _ S' => Rz R .non S', Rz R, fun _ _ => False, fun _ _ => False⟩ (fun c _ S' => RE c S')
theorem k__law_draw (hd : Hd w K mg) {q nm : Str} {dvs : List V} {kws : List (Str × V)} {f : Addr} {fd : FuncData} (Fd : FunD K nm q (defArgs (top 37)) (defBody (top 37)) (defScope (top 37)) dvs kws f fd) : FnOk P w K mg base (L2.CX P w) 1 f fd ["well", "base"] (spOf K φ__law_draw) :=
  body_ok (N := N__law_draw) (ws := w__law_draw) Fd sc__law_draw (fun cdv A outer s H E F bc =>
  (wss_cons (ws_if (t_gt (we_ix (u1 bc.room.u65) (we_var (i := 0) rfl (.inl rfl) nd_well nc_well) we_int (fun _ _ => rfl)) we_int rfl) (wss_cons (ws_set (i := 2) sc__law_draw.nd rfl (.inl rfl) (we_mod (we_ix (u1 bc.room.u65) (we_var (i := 0) rfl (.inl rfl) nd_well nc_well) we_int (fun _ _ => rfl)) (we_var (i := 1) rfl (.inl rfl) nd_base nc_base)) rfl (.inl rfl))
  (wss_cons (ws_setI (u1 bc.room.u65) (we_div (we_ix (u1 bc.room.u65) (we_var (i := 0) rfl (.inl rfl) nd_well nc_well) we_int (fun _ _ => rfl)) (we_var (i := 1) rfl (.inl rfl) nd_base nc_base)) (we_var (i := 0) rfl (.inl rfl) nd_well nc_well) we_int (fun _ => rfl) rfl rfl rfl)
  (wss_one (ws_ret (we_var (i := 2) rfl (.inl rfl) nd_digit nc_digit))))) wss_nil)
  (wss_cons (ws_setI (u1 bc.room.u65) (we_add (own := false) (we_ix (u1 bc.room.u65) (we_var (i := 0) rfl (.inl rfl) nd_well nc_well) we_int (fun _ _ => rfl)) we_int) (we_var (i := 0) rfl (.inl rfl) nd_well nc_well) we_int (fun _ => rfl) rfl rfl rfl)
  (wss_cons (ws_set (i := 3) sc__law_draw.nd rfl (.inl rfl) (we_lst (own := false) (wa_cons we_int (wa_cons we_int (wa_cons we_int (wa_cons we_int (wa_cons we_int wa_nil rfl) rfl) rfl) rfl) rfl)) rfl (.inl rfl))
  (wss_cons (ws_set (i := 4) sc__law_draw.nd rfl (.inl rfl) (we_mod (we_pow (we_add (own := false) (we_ix (u1 bc.room.u65) (we_var (i := 0) rfl (.inl rfl) nd_well nc_well) we_int (fun _ _ => rfl)) (we_mul (own := false) we_int (we_ix (u1 bc.room.u65) (we_var (i := 0) rfl (.inl rfl) nd_well nc_well) we_int (fun _ _ => rfl)))) we_int) we_int) rfl (.inl rfl))
  (wss_cons (ws_set (i := 4) sc__law_draw.nd rfl (.inl rfl) (we_mod (we_mul (own := false) (we_var (i := 4) rfl (.inl rfl) nd_number nc_number) (we_add (own := false) (we_add (own := false) (we_div (we_var (i := 4) rfl (.inl rfl) nd_number nc_number) we_int) we_int) (we_ix (u1 bc.room.u65) (we_var (i := 0) rfl (.inl rfl) nd_well nc_well) we_int (fun _ _ => rfl)))) (we_ix (u1 bc.room.u65) (we_var (i := 3) rfl (.inl rfl) nd_primes nc_primes) (we_mod (we_ix (u1 bc.room.u65) (we_var (i := 0) rfl (.inl rfl) nd_well nc_well) we_int (fun _ _ => rfl)) we_int) (fun _ _ => rfl))) rfl (.inl rfl))
  (wss_one (ws_ret (we_mod (we_div (we_var (i := 4) rfl (.inl rfl) nd_number nc_number) we_int) (we_var (i := 1) rfl (.inl rfl) nd_base nc_base)))))))))) (fun _ _ _ _ h => h.1) (fun _ _ _ _ h => h.2)
theorem B__law_draw (hd : Hd w K mg) : FnBd P w K mg base 1 (He.ga K "_law_draw") 2 [] φ__law_draw := by
  obtain ⟨fd, Fd⟩ := hd.c.t.d.def_ 13 (d := mkDD (("_law_draw" : Str), none) "_law_draw" "_law_draw" (top 37) []) rfl
  exact fn_bd _ Fd (k__law_draw hd Fd) (FunD.bindsN Fd fun _ _ _ _ _ _ us hl => match us, hl with | [_, _], _ => rfl)
/-! _law_deal -/
def N__law_deal : List Str := ["well", "number", "whole", "left", "ties", "words", "k", "word", "amount", "tie", "share"]
theorem sc__law_deal : FnScope N__law_deal ["well", "number", "whole"] (defScope (top 38)) := ⟨rfl, rfl, rfl, by decide +kernel, rfl, by decide +kernel, by decide +kernel⟩
def w__law_deal : WpS := (wSeq (wSet 3 (wVar 2))
  (wSeq (wSet 4 (wTup wNil))
  (wSeq (wSet 5 (wLst true wNil))
  (wSeq (wFor (wRange (wCons (wCall φ__law_draw [] (wCons (wVar 0) (wCons (wC (.int 4)) wNil))) wNil)) (.nm 6) (wSeq (wSet 7 (wOp fIx (wLst false (wCons (wC (.int 3)) (wCons (wC (.int 8)) (wCons (wC (.int 17)) (wCons (wC (.int 25)) (wCons (wC (.int 41)) (wCons (wC (.int 59)) wNil))))))) (wCall φ__law_draw [] (wCons (wVar 0) (wCons (wC (.int 6)) wNil)))))
  (wSeq (wSet 8 (wFun fMin (wCons (wVar 3) (wCons (wOp (fAdd false) (wC (.int 1)) (wCall φ__law_draw [] (wCons (wVar 0) (wCons (wC (.int 9)) wNil)))) wNil))))
  (wSeq (wSet 9 (wTup (wCons (wCall φ__law_draw [] (wCons (wVar 0) (wCons (wC (.int 2)) wNil))) (wCons (wVar 8) (wCons (wVar 7) (wCons (wCall φ__law_draw [] (wCons (wVar 0) (wCons (wC (.int 16)) wNil))) wNil))))))
  (wIf (wB (wAnd (wOp (fCmp cmpGt) (wVar 8) (wC (.int 0))) (wOp (fIn true) (wVar 7) (wVar 5)))) (wSeq (wExpr (wMt "list" fAppend (wVar 5) (wCons (wVar 7) wNil)))
  (wSeq (wSet 3 (wOp fSub (wVar 3) (wVar 8)))
  (wSet 4 (wOp (fAdd false) (wVar 4) (wTup (wCons (wVar 9) wNil)))))) wNx)))))
  (wSeq (wSet 10 (wCall φ__law_draw [] (wCons (wVar 0) (wCons (wOp (fAdd false) (wVar 3) (wC (.int 1))) wNil))))
  (wRet (wTup (wCons (wVar 1) (wCons (wTup (wCons (wVar 10) (wCons (wOp fSub (wVar 3) (wVar 10)) wNil))) (wCons (wVar 4) wNil))))))))))
def φ__law_deal : SB.Spec := fun xs S R RE => xs.length = 3 ∧ w__law_deal (startE N__law_deal xs) S ⟨fun _ S' => Rz R .non S', Rz R, fun _ _ => False, fun _ _ => False⟩ (fun c _ S' => RE c S')
theorem k__law_deal (hd : Hd w K mg) {q nm : Str} {dvs : List V} {kws : List (Str × V)} {f : Addr} {fd : FuncData} (Fd : FunD K nm q (defArgs (top 38)) (defBody (top 38)) (defScope (top 38)) dvs kws f fd) : FnOk P w K mg base (L2.CX P w) 2 f fd ["well", "number", "whole"] (spOf K φ__law_deal) :=
  body_ok (N := N__law_deal) (ws := w__law_deal) Fd sc__law_deal (fun cdv A outer s H E F bc =>
  (wss_cons (ws_set (i := 3) sc__law_deal.nd rfl (.inl rfl) (we_var (i := 2) rfl (.inl rfl) nd_whole nc_whole) rfl (.inl rfl))
  (wss_cons (ws_set (i := 4) sc__law_deal.nd rfl (.inl rfl) (we_tup wa_nil) rfl (.inl rfl))
  (wss_cons (ws_set (i := 5) sc__law_deal.nd rfl (.inl rfl) (we_lst (own := true) wa_nil) rfl (.inl rfl))
  (wss_cons (ws_for bc.pass rfl (wi_range1 rfl (n_range hd) (wa_cons (we_call ((B__law_draw hd).mono (by decide)) bc.room bc.tk rfl (g__law_draw hd) (wa_cons (we_var (i := 0) rfl (.inl rfl) nd_well nc_well) (wa_cons we_int wa_nil rfl) rfl) rfl nd__law_draw) wa_nil rfl) rfl) (wg_nm sc__law_deal.nd rfl (.inl rfl) (.inl rfl)) (wss_cons (ws_set (i := 7) sc__law_deal.nd rfl (.inl rfl) (we_ix (u1 bc.room.u65) (we_lst (own := false) (wa_cons we_int (wa_cons we_int (wa_cons we_int (wa_cons we_int (wa_cons we_int (wa_cons we_int wa_nil rfl) rfl) rfl) rfl) rfl) rfl)) (we_call ((B__law_draw hd).mono (by decide)) bc.room bc.tk rfl (g__law_draw hd) (wa_cons (we_var (i := 0) rfl (.inl rfl) nd_well nc_well) (wa_cons we_int wa_nil rfl) rfl) rfl nd__law_draw) (fun _ _ => rfl)) rfl (.inl rfl))
  (wss_cons (ws_set (i := 8) sc__law_deal.nd rfl (.inl rfl) (b_min rfl rfl (n_min hd) (wa_cons (we_var (i := 3) rfl (.inl rfl) nd_left nc_left) (wa_cons (we_add (own := false) we_int (we_call ((B__law_draw hd).mono (by decide)) bc.room bc.tk rfl (g__law_draw hd) (wa_cons (we_var (i := 0) rfl (.inl rfl) nd_well nc_well) (wa_cons we_int wa_nil rfl) rfl) rfl nd__law_draw)) wa_nil rfl) rfl) rfl) rfl (.inl rfl))
  (wss_cons (ws_set (i := 9) sc__law_deal.nd rfl (.inl rfl) (we_tup (wa_cons (we_call ((B__law_draw hd).mono (by decide)) bc.room bc.tk rfl (g__law_draw hd) (wa_cons (we_var (i := 0) rfl (.inl rfl) nd_well nc_well) (wa_cons we_int wa_nil rfl) rfl) rfl nd__law_draw) (wa_cons (we_var (i := 8) rfl (.inl rfl) nd_amount nc_amount) (wa_cons (we_var (i := 7) rfl (.inl rfl) nd_word nc_word) (wa_cons (we_call ((B__law_draw hd).mono (by decide)) bc.room bc.tk rfl (g__law_draw hd) (wa_cons (we_var (i := 0) rfl (.inl rfl) nd_well nc_well) (wa_cons we_int wa_nil rfl) rfl) rfl nd__law_draw) wa_nil rfl) rfl) rfl) rfl)) rfl (.inl rfl))
  (wss_one (ws_if (WW.wt (ww_and (t_gt (we_var (i := 8) rfl (.inl rfl) nd_amount nc_amount) we_int rfl) (ww_and1 (t_nin bc.room.u65 (we_var (i := 7) rfl (.inl rfl) nd_word nc_word) (we_var (i := 5) rfl (.inl rfl) nd_words nc_words) rfl)))) (wss_cons (ws_expr (m_append (we_var (i := 5) rfl (.inl rfl) nd_words nc_words) (wa_cons (we_var (i := 7) rfl (.inl rfl) nd_word nc_word) wa_nil rfl) rfl rfl (by decide) rfl) rfl)
  (wss_cons (ws_set (i := 3) sc__law_deal.nd rfl (.inl rfl) (we_sub (we_var (i := 3) rfl (.inl rfl) nd_left nc_left) (we_var (i := 8) rfl (.inl rfl) nd_amount nc_amount)) rfl (.inl rfl))
  (wss_one (ws_set (i := 4) sc__law_deal.nd rfl (.inl rfl) (we_add (own := false) (we_var (i := 4) rfl (.inl rfl) nd_ties nc_ties) (we_tup (wa_cons (we_var (i := 9) rfl (.inl rfl) nd_tie nc_tie) wa_nil rfl))) rfl (.inl rfl))))) wss_nil))))) (fun _ => rfl))
  (wss_cons (ws_set (i := 10) sc__law_deal.nd rfl (.inl rfl) (we_call ((B__law_draw hd).mono (by decide)) bc.room bc.tk rfl (g__law_draw hd) (wa_cons (we_var (i := 0) rfl (.inl rfl) nd_well nc_well) (wa_cons (we_add (own := false) (we_var (i := 3) rfl (.inl rfl) nd_left nc_left) we_int) wa_nil rfl) rfl) rfl nd__law_draw) rfl (.inl rfl))
  (wss_one (ws_ret (we_tup (wa_cons (we_var (i := 1) rfl (.inl rfl) nd_number nc_number) (wa_cons (we_tup (wa_cons (we_var (i := 10) rfl (.inl rfl) nd_share nc_share) (wa_cons (we_sub (we_var (i := 3) rfl (.inl rfl) nd_left nc_left) (we_var (i := 10) rfl (.inl rfl) nd_share nc_share)) wa_nil rfl) rfl)) (wa_cons (we_var (i := 4) rfl (.inl rfl) nd_ties nc_ties) wa_nil rfl) rfl) rfl)))))))))) (fun _ _ _ _ h => h.1) (fun _ _ _ _ h => h.2)
theorem B__law_deal (hd : Hd w K mg) : FnBd P w K mg base 2 (He.ga K "_law_deal") 3 [] φ__law_deal := by
  obtain ⟨fd, Fd⟩ := hd.c.t.d.def_ 14 (d := mkDD (("_law_deal" : Str), none) "_law_deal" "_law_deal" (top 38) []) rfl
  exact fn_bd _ Fd (k__law_deal hd Fd) (FunD.bindsN Fd fun _ _ _ _ _ _ us hl => match us, hl with | [_, _, _], _ => rfl)
/-! _law_due_of -/
def N__law_due_of : List Str := ["side", "pot", "left", "right", "one", "other", "wait", "claim", "found", "payer", "amount", "word", "last"]
theorem sc__law_due_of : FnScope N__law_due_of ["side", "pot"] (defScope (top 39)) := ⟨rfl, rfl, rfl, by decide +kernel, rfl, by decide +kernel, by decide +kernel⟩
def w__law_due_of : WpS := (wSeq (wAsg (.tup (.cons (.nm 2) (.cons (.nm 3) (.cons (.nm 4) (.cons (.nm 5) (.cons (.nm 6) .nil)))))) (wOp fIx (wOp fIx (wVar 0) (wC (.str ("pots" : Str)))) (wVar 1)))
  (wSeq (wSet 7 (wOp fIx (wOp fIx (wVar 0) (wC (.str ("claims" : Str)))) (wVar 1)))
  (wSeq (wIf (wB (wOp (fEq false) (wOp fIx (wVar 7) (wC (.int 0))) (wC (.str ("taken" : Str))))) (wRet (wTup (wCons (wOp (fMul false) (wOp (fAdd false) (wVar 4) (wVar 5)) (wOp fSub (wC (.int 1)) (wOp fIx (wVar 7) (wC (.int 1))))) (wCons (wOp (fMul false) (wOp (fAdd false) (wVar 4) (wVar 5)) (wOp fIx (wVar 7) (wC (.int 1)))) (wCons (wC (.int 0)) wNil))))) wNx)
  (wSeq (wIf (wB (wOr (wOp (fEq false) (wOp fIx (wVar 7) (wC (.int 0))) (wC (.str ("held" : Str)))) (wOp (fCmp cmpLt) (wOp fIx (wVar 0) (wC (.str ("day" : Str)))) (wOp (fAdd false) (wOp fIx (wVar 7) (wC (.int 3))) (wVar 6))))) (wRet (wTup (wCons (wC (.int 0)) (wCons (wC (.int 0)) (wCons (wOp (fAdd false) (wVar 4) (wVar 5)) wNil))))) wNx)
  (wSeq (wSet 8 (wOp (fAdd true) (wFun (fList false) (wCons (wOp fIx (wOp fIx (wVar 7) (wC (.int 2))) (wC (.int 1))) wNil)) (wLst false (wCons (wC (.int 0)) wNil))))
  (wSeq (wFor (wSrc (wOp fIx (wOp fIx (wVar 7) (wC (.int 2))) (wC (.int 2)))) (.tup (.cons (.nm 9) (.cons (.nm 10) (.cons (.nm 11) (.cons (.nm 12) .nil))))) (wIf (wB (wOp (fCmp cmpLt) (wMt "dict" fGet (wOp fIx (wOp fIx (wVar 0) (wC (.str ("shown" : Str)))) (wVar 1)) (wCons (wVar 11) (wCons (wVar 12) wNil))) (wVar 12))) (wSetI (wOp (fAdd false) (wOp fIx (wVar 8) (wOp fSub (wC (.int 1)) (wVar 9))) (wVar 10)) (wVar 8) (wOp fSub (wC (.int 1)) (wVar 9))) (wIf (wB (wOp (fCmp cmpLt) (wOp fIx (wVar 0) (wC (.str ("day" : Str)))) (wVar 12))) (wSetI (wOp (fAdd false) (wOp fIx (wVar 8) (wC (.int 2))) (wVar 10)) (wVar 8) (wC (.int 2))) (wSetI (wOp (fAdd false) (wOp fIx (wVar 8) (wVar 9)) (wVar 10)) (wVar 8) (wVar 9)))))
  (wRet (wFun fTuple (wCons (wVar 8) wNil)))))))))
def φ__law_due_of : SB.Spec := fun xs S R RE => xs.length = 2 ∧ w__law_due_of (startE N__law_due_of xs) S ⟨fun _ S' => Rz R .non S', Rz R, fun _ _ => False, fun _ _ => False⟩ (fun c _ S' => RE c S')
theorem k__law_due_of (hd : Hd w K mg) {q nm : Str} {dvs : List V} {kws : List (Str × V)} {f : Addr} {fd : FuncData} (Fd : FunD K nm q (defArgs (top 39)) (defBody (top 39)) (defScope (top 39)) dvs kws f fd) : FnOk P w K mg base (L2.CX P w) 1 f fd ["side", "pot"] (spOf K φ__law_due_of) :=
  body_ok (N := N__law_due_of) (ws := w__law_due_of) Fd sc__law_due_of (fun cdv A outer s H E F bc =>
  (wss_cons (ws_asg (we_ix (u1 bc.room.u65) (we_ix (u1 bc.room.u65) (we_var (i := 0) rfl (.inl rfl) nd_side nc_side) we_str (fun _ _ => rfl)) (we_var (i := 1) rfl (.inl rfl) nd_pot nc_pot) (fun _ _ => rfl)) (wg_tup rfl (wgs_cons (wg_nm sc__law_due_of.nd rfl (.inl rfl) (.inl rfl)) (wgs_cons (wg_nm sc__law_due_of.nd rfl (.inl rfl) (.inl rfl)) (wgs_cons (wg_nm sc__law_due_of.nd rfl (.inl rfl) (.inl rfl)) (wgs_cons (wg_nm sc__law_due_of.nd rfl (.inl rfl) (.inl rfl)) (wgs_cons (wg_nm sc__law_due_of.nd rfl (.inl rfl) (.inl rfl)) wgs_nil (fun _ => rfl)) (fun _ => rfl)) (fun _ => rfl)) (fun _ => rfl)) (fun _ => rfl)) (fun _ => rfl) (fun _ => rfl)) rfl rfl rfl)
  (wss_cons (ws_set (i := 7) sc__law_due_of.nd rfl (.inl rfl) (we_ix (u1 bc.room.u65) (we_ix (u1 bc.room.u65) (we_var (i := 0) rfl (.inl rfl) nd_side nc_side) we_str (fun _ _ => rfl)) (we_var (i := 1) rfl (.inl rfl) nd_pot nc_pot) (fun _ _ => rfl)) rfl (.inl rfl))
  (wss_cons (ws_if (t_eq bc.room.u65 (we_ix (u1 bc.room.u65) (we_var (i := 7) rfl (.inl rfl) nd_claim nc_claim) we_int (fun _ _ => rfl)) we_str rfl) (wss_one (ws_ret (we_tup (wa_cons (we_mul (own := false) (we_add (own := false) (we_var (i := 4) rfl (.inl rfl) nd_one nc_one) (we_var (i := 5) rfl (.inl rfl) nd_other nc_other)) (we_sub we_int (we_ix (u1 bc.room.u65) (we_var (i := 7) rfl (.inl rfl) nd_claim nc_claim) we_int (fun _ _ => rfl)))) (wa_cons (we_mul (own := false) (we_add (own := false) (we_var (i := 4) rfl (.inl rfl) nd_one nc_one) (we_var (i := 5) rfl (.inl rfl) nd_other nc_other)) (we_ix (u1 bc.room.u65) (we_var (i := 7) rfl (.inl rfl) nd_claim nc_claim) we_int (fun _ _ => rfl))) (wa_cons we_int wa_nil rfl) rfl) rfl)))) wss_nil)
  (wss_cons (ws_if (WW.wt (ww_or (t_eq bc.room.u65 (we_ix (u1 bc.room.u65) (we_var (i := 7) rfl (.inl rfl) nd_claim nc_claim) we_int (fun _ _ => rfl)) we_str rfl) (ww_or1 (t_lt (we_ix (u1 bc.room.u65) (we_var (i := 0) rfl (.inl rfl) nd_side nc_side) we_str (fun _ _ => rfl)) (we_add (own := false) (we_ix (u1 bc.room.u65) (we_var (i := 7) rfl (.inl rfl) nd_claim nc_claim) we_int (fun _ _ => rfl)) (we_var (i := 6) rfl (.inl rfl) nd_wait nc_wait)) rfl)))) (wss_one (ws_ret (we_tup (wa_cons we_int (wa_cons we_int (wa_cons (we_add (own := false) (we_var (i := 4) rfl (.inl rfl) nd_one nc_one) (we_var (i := 5) rfl (.inl rfl) nd_other nc_other)) wa_nil rfl) rfl) rfl)))) wss_nil)
  (wss_cons (ws_set (i := 8) sc__law_due_of.nd rfl (.inl rfl) (we_add (own := true) (b_list (own := false) rfl rfl (n_list hd) (wa_cons (we_ix (u1 bc.room.u65) (we_ix (u1 bc.room.u65) (we_var (i := 7) rfl (.inl rfl) nd_claim nc_claim) we_int (fun _ _ => rfl)) we_int (fun _ _ => rfl)) wa_nil rfl) rfl) (we_lst (own := false) (wa_cons we_int wa_nil rfl))) rfl (.inl rfl))
  (wss_cons (ws_for bc.pass rfl (wi_src (we_ix (u1 bc.room.u65) (we_ix (u1 bc.room.u65) (we_var (i := 7) rfl (.inl rfl) nd_claim nc_claim) we_int (fun _ _ => rfl)) we_int (fun _ _ => rfl))) (wg_tup rfl (wgs_cons (wg_nm sc__law_due_of.nd rfl (.inl rfl) (.inl rfl)) (wgs_cons (wg_nm sc__law_due_of.nd rfl (.inl rfl) (.inl rfl)) (wgs_cons (wg_nm sc__law_due_of.nd rfl (.inl rfl) (.inl rfl)) (wgs_cons (wg_nm sc__law_due_of.nd rfl (.inl rfl) (.inl rfl)) wgs_nil (fun _ => rfl)) (fun _ => rfl)) (fun _ => rfl)) (fun _ => rfl)) (fun _ => rfl) (fun _ => rfl)) (wss_one (ws_if (t_lt (m_get bc.room.u65 (we_ix (u1 bc.room.u65) (we_ix (u1 bc.room.u65) (we_var (i := 0) rfl (.inl rfl) nd_side nc_side) we_str (fun _ _ => rfl)) (we_var (i := 1) rfl (.inl rfl) nd_pot nc_pot) (fun _ _ => rfl)) (wa_cons (we_var (i := 11) rfl (.inl rfl) nd_word nc_word) (wa_cons (we_var (i := 12) rfl (.inl rfl) nd_last nc_last) wa_nil rfl) rfl) rfl rfl (by decide) rfl) (we_var (i := 12) rfl (.inl rfl) nd_last nc_last) rfl) (wss_one (ws_setI (u1 bc.room.u65) (we_add (own := false) (we_ix (u1 bc.room.u65) (we_var (i := 8) rfl (.inl rfl) nd_found nc_found) (we_sub we_int (we_var (i := 9) rfl (.inl rfl) nd_payer nc_payer)) (fun _ _ => rfl)) (we_var (i := 10) rfl (.inl rfl) nd_amount nc_amount)) (we_var (i := 8) rfl (.inl rfl) nd_found nc_found) (we_sub we_int (we_var (i := 9) rfl (.inl rfl) nd_payer nc_payer)) (fun _ => rfl) rfl rfl rfl)) (wss_one (ws_if (t_lt (we_ix (u1 bc.room.u65) (we_var (i := 0) rfl (.inl rfl) nd_side nc_side) we_str (fun _ _ => rfl)) (we_var (i := 12) rfl (.inl rfl) nd_last nc_last) rfl) (wss_one (ws_setI (u1 bc.room.u65) (we_add (own := false) (we_ix (u1 bc.room.u65) (we_var (i := 8) rfl (.inl rfl) nd_found nc_found) we_int (fun _ _ => rfl)) (we_var (i := 10) rfl (.inl rfl) nd_amount nc_amount)) (we_var (i := 8) rfl (.inl rfl) nd_found nc_found) we_int (fun _ => rfl) rfl rfl rfl)) (wss_one (ws_setI (u1 bc.room.u65) (we_add (own := false) (we_ix (u1 bc.room.u65) (we_var (i := 8) rfl (.inl rfl) nd_found nc_found) (we_var (i := 9) rfl (.inl rfl) nd_payer nc_payer) (fun _ _ => rfl)) (we_var (i := 10) rfl (.inl rfl) nd_amount nc_amount)) (we_var (i := 8) rfl (.inl rfl) nd_found nc_found) (we_var (i := 9) rfl (.inl rfl) nd_payer nc_payer) (fun _ => rfl) rfl rfl rfl)))))) (fun _ => rfl))
  (wss_one (ws_ret (b_tuple rfl (n_tuple hd) (wa_cons (we_var (i := 8) rfl (.inl rfl) nd_found nc_found) wa_nil rfl) rfl)))))))))) (fun _ _ _ _ h => h.1) (fun _ _ _ _ h => h.2)
theorem B__law_due_of (hd : Hd w K mg) : FnBd P w K mg base 1 (He.ga K "_law_due_of") 2 [] φ__law_due_of := by
  obtain ⟨fd, Fd⟩ := hd.c.t.d.def_ 15 (d := mkDD (("_law_due_of" : Str), none) "_law_due_of" "_law_due_of" (top 39) []) rfl
  exact fn_bd _ Fd (k__law_due_of hd Fd) (FunD.bindsN Fd fun _ _ _ _ _ _ us hl => match us, hl with | [_, _], _ => rfl)
/-! _law_all_due -/
def N__law_all_due : List Str := ["side", "dues", "coins", "words", "pot", "found", "shown", "due"]
theorem sc__law_all_due : FnScope N__law_all_due ["side"] (defScope (top 40)) := ⟨rfl, rfl, rfl, by decide +kernel, rfl, by decide +kernel, by decide +kernel⟩
def w__law_all_due : WpS := (wSeq (wSet 1 (wLc false (wRange (wCons (wFun fLen (wCons (wOp fIx (wVar 0) (wC (.str ("pots" : Str)))) wNil)) wNil)) (.nm 4) wYes (wCall φ__law_due_of [] (wCons (wVar 0) (wCons (wVar 4) wNil))) [4]))
  (wSeq (wSet 2 (wLst true (wCons (wC (.int 0)) (wCons (wC (.int 0)) (wCons (wC (.int 0)) (wCons (wC (.int 0)) wNil))))))
  (wSeq (wSet 3 (wLst false wNil))
  (wSeq (wFor (wRange (wCons (wFun fLen (wCons (wOp fIx (wVar 0) (wC (.str ("pots" : Str)))) wNil)) wNil)) (.nm 4) (wSeq (wSetI (wOp (fAdd false) (wOp fIx (wVar 2) (wOp fIx (wOp fIx (wOp fIx (wVar 0) (wC (.str ("pots" : Str)))) (wVar 4)) (wC (.int 0)))) (wOp fIx (wOp fIx (wVar 1) (wVar 4)) (wC (.int 0)))) (wVar 2) (wOp fIx (wOp fIx (wOp fIx (wVar 0) (wC (.str ("pots" : Str)))) (wVar 4)) (wC (.int 0))))
  (wSeq (wSetI (wOp (fAdd false) (wOp fIx (wVar 2) (wOp fIx (wOp fIx (wOp fIx (wVar 0) (wC (.str ("pots" : Str)))) (wVar 4)) (wC (.int 1)))) (wOp fIx (wOp fIx (wVar 1) (wVar 4)) (wC (.int 1)))) (wVar 2) (wOp fIx (wOp fIx (wOp fIx (wVar 0) (wC (.str ("pots" : Str)))) (wVar 4)) (wC (.int 1))))
  (wSet 3 (wOp (fAdd false) (wVar 3) (wFun (fList false) (wCons (wOp fIx (wOp fIx (wVar 0) (wC (.str ("shown" : Str)))) (wVar 4)) wNil)))))))
  (wSeq (wSet 5 (wLst false (wCons (wOp fIx (wVar 0) (wC (.str ("day" : Str)))) (wCons (wFun (fList false) (wCons (wOp fIx (wVar 0) (wC (.str ("claims" : Str)))) wNil)) (wCons (wLc false (wSrc (wOp fIx (wVar 0) (wC (.str ("shown" : Str))))) (.nm 6) wYes (wFun (fDict false) (wCons (wVar 6) wNil)) [6]) (wCons (wSortSet false (wVar 3)) (wCons (wVar 1) wNil)))))))
  (wRet (wOp (fAdd false) (wVar 5) (wLst false (wCons (wVar 2) (wCons (wOp (fEq false) (wLc false (wSrc (wVar 1)) (.nm 7) (wB (wOp (fCmp cmpGt) (wOp fIx (wVar 7) (wC (.int 2))) (wC (.int 0)))) (wVar 7) [7]) (wLst false wNil)) (wCons (wFun (fList false) (wCons (wOp fIx (wVar 0) (wC (.str ("pots" : Str)))) wNil)) wNil)))))))))))
def φ__law_all_due : SB.Spec := fun xs S R RE => xs.length = 1 ∧ w__law_all_due (startE N__law_all_due xs) S ⟨fun _ S' => Rz R .non S', Rz R, fun _ _ => False, fun _ _ => False⟩ (fun c _ S' => RE c S')
theorem k__law_all_due (hd : Hd w K mg) {q nm : Str} {dvs : List V} {kws : List (Str × V)} {f : Addr} {fd : FuncData} (Fd : FunD K nm q (defArgs (top 40)) (defBody (top 40)) (defScope (top 40)) dvs kws f fd) : FnOk P w K mg base (L2.CX P w) 2 f fd ["side"] (spOf K φ__law_all_due) :=
  body_ok (N := N__law_all_due) (ws := w__law_all_due) Fd sc__law_all_due (fun cdv A outer s H E F bc =>
  (wss_cons (ws_setLc (i := 1) (fr := false) (own := [(("pot" : Str), 4)]) (t := (.nm 4)) rfl sc__law_all_due.nd rfl rfl rfl (wi_range1 rfl (n_range hd) (wa_cons (b_len rfl (n_len hd) (wa_cons (we_ix (u1 bc.room.u65) (we_var (i := 0) rfl (.inr (.inl rfl)) nd_side nc_side) we_str (fun _ _ => rfl)) wa_nil rfl) rfl) wa_nil rfl) rfl) (show BlkOk N__law_all_due (defScope (top 40)) _ [(("pot" : Str), 4)] from blkOk_by (by decide +kernel)) (by decide) (fun _ _ _ _ _ => (wg_nm sc__law_all_due.nd rfl (.inl rfl) (.inr rfl))) (fun _ _ _ _ _ => wts_nil) (fun _ _ _ _ _ => (we_call ((B__law_due_of hd).mono (by decide)) bc.room tk_calm rfl (g__law_due_of hd) (wa_cons (we_var (i := 0) rfl (.inr (.inl rfl)) nd_side nc_side) (wa_cons (we_var (i := 4) rfl (.inl rfl) nd_pot nc_pot) wa_nil rfl) rfl) rfl nd__law_due_of)) (fun _ => rfl))
  (wss_cons (ws_set (i := 2) sc__law_all_due.nd rfl (.inl rfl) (we_lst (own := true) (wa_cons we_int (wa_cons we_int (wa_cons we_int (wa_cons we_int wa_nil rfl) rfl) rfl) rfl)) rfl (.inl rfl))
  (wss_cons (ws_set (i := 3) sc__law_all_due.nd rfl (.inl rfl) (we_lst (own := false) wa_nil) rfl (.inl rfl))
  (wss_cons (ws_for bc.pass rfl (wi_range1 rfl (n_range hd) (wa_cons (b_len rfl (n_len hd) (wa_cons (we_ix (u1 bc.room.u65) (we_var (i := 0) rfl (.inr (.inl rfl)) nd_side nc_side) we_str (fun _ _ => rfl)) wa_nil rfl) rfl) wa_nil rfl) rfl) (wg_nm sc__law_all_due.nd rfl (.inl rfl) (.inl rfl)) (wss_cons (ws_setI (u1 bc.room.u65) (we_add (own := false) (we_ix (u1 bc.room.u65) (we_var (i := 2) rfl (.inl rfl) nd_coins nc_coins) (we_ix (u1 bc.room.u65) (we_ix (u1 bc.room.u65) (we_ix (u1 bc.room.u65) (we_var (i := 0) rfl (.inr (.inl rfl)) nd_side nc_side) we_str (fun _ _ => rfl)) (we_var (i := 4) rfl (.inl rfl) nd_pot nc_pot) (fun _ _ => rfl)) we_int (fun _ _ => rfl)) (fun _ _ => rfl)) (we_ix (u1 bc.room.u65) (we_ix (u1 bc.room.u65) (we_var (i := 1) rfl (.inl rfl) nd_dues nc_dues) (we_var (i := 4) rfl (.inl rfl) nd_pot nc_pot) (fun _ _ => rfl)) we_int (fun _ _ => rfl))) (we_var (i := 2) rfl (.inl rfl) nd_coins nc_coins) (we_ix (u1 bc.room.u65) (we_ix (u1 bc.room.u65) (we_ix (u1 bc.room.u65) (we_var (i := 0) rfl (.inr (.inl rfl)) nd_side nc_side) we_str (fun _ _ => rfl)) (we_var (i := 4) rfl (.inl rfl) nd_pot nc_pot) (fun _ _ => rfl)) we_int (fun _ _ => rfl)) (fun _ => rfl) rfl rfl rfl)
  (wss_cons (ws_setI (u1 bc.room.u65) (we_add (own := false) (we_ix (u1 bc.room.u65) (we_var (i := 2) rfl (.inl rfl) nd_coins nc_coins) (we_ix (u1 bc.room.u65) (we_ix (u1 bc.room.u65) (we_ix (u1 bc.room.u65) (we_var (i := 0) rfl (.inr (.inl rfl)) nd_side nc_side) we_str (fun _ _ => rfl)) (we_var (i := 4) rfl (.inl rfl) nd_pot nc_pot) (fun _ _ => rfl)) we_int (fun _ _ => rfl)) (fun _ _ => rfl)) (we_ix (u1 bc.room.u65) (we_ix (u1 bc.room.u65) (we_var (i := 1) rfl (.inl rfl) nd_dues nc_dues) (we_var (i := 4) rfl (.inl rfl) nd_pot nc_pot) (fun _ _ => rfl)) we_int (fun _ _ => rfl))) (we_var (i := 2) rfl (.inl rfl) nd_coins nc_coins) (we_ix (u1 bc.room.u65) (we_ix (u1 bc.room.u65) (we_ix (u1 bc.room.u65) (we_var (i := 0) rfl (.inr (.inl rfl)) nd_side nc_side) we_str (fun _ _ => rfl)) (we_var (i := 4) rfl (.inl rfl) nd_pot nc_pot) (fun _ _ => rfl)) we_int (fun _ _ => rfl)) (fun _ => rfl) rfl rfl rfl)
  (wss_one (ws_set (i := 3) sc__law_all_due.nd rfl (.inl rfl) (we_add (own := false) (we_var (i := 3) rfl (.inl rfl) nd_words nc_words) (b_list (own := false) rfl rfl (n_list hd) (wa_cons (we_ix (u1 bc.room.u65) (we_ix (u1 bc.room.u65) (we_var (i := 0) rfl (.inr (.inl rfl)) nd_side nc_side) we_str (fun _ _ => rfl)) (we_var (i := 4) rfl (.inl rfl) nd_pot nc_pot) (fun _ _ => rfl)) wa_nil rfl) rfl)) rfl (.inl rfl))))) (fun _ => rfl))
  (wss_cons (ws_set (i := 5) sc__law_all_due.nd rfl (.inl rfl) (we_lst (own := false) (wa_cons (we_ix (u1 bc.room.u65) (we_var (i := 0) rfl (.inr (.inl rfl)) nd_side nc_side) we_str (fun _ _ => rfl)) (wa_cons (b_list (own := false) rfl rfl (n_list hd) (wa_cons (we_ix (u1 bc.room.u65) (we_var (i := 0) rfl (.inr (.inl rfl)) nd_side nc_side) we_str (fun _ _ => rfl)) wa_nil rfl) rfl) (wa_cons (we_lc (fr := false) (own := [(("shown" : Str), 6)]) (t := (.nm 6)) rfl sc__law_all_due.nd (wi_src (we_ix (u1 bc.room.u65) (we_var (i := 0) rfl (.inr (.inl rfl)) nd_side nc_side) we_str (fun _ _ => rfl))) (show BlkOk N__law_all_due (defScope (top 40)) _ [(("shown" : Str), 6)] from blkOk_by (by decide +kernel)) (by decide) (fun _ _ _ _ _ => (wg_nm sc__law_all_due.nd rfl (.inl rfl) (.inr rfl))) (fun _ _ _ _ _ => wts_nil) (fun _ _ _ _ _ => (b_dict (own := false) rfl rfl (n_dict hd) (wa_cons (we_var (i := 6) rfl (.inl rfl) nd_shown nc_shown) wa_nil rfl) rfl)) (fun _ => rfl)) (wa_cons (b_sortSet (own := false) rfl rfl (n_sorted hd) rfl (n_set hd) (we_var (i := 3) rfl (.inl rfl) nd_words nc_words) rfl) (wa_cons (we_var (i := 1) rfl (.inl rfl) nd_dues nc_dues) wa_nil rfl) rfl) rfl) rfl) rfl)) rfl (.inl rfl))
  (wss_one (ws_ret (we_add (own := false) (we_var (i := 5) rfl (.inl rfl) nd_found nc_found) (we_lst (own := false) (wa_cons (we_var (i := 2) rfl (.inl rfl) nd_coins nc_coins) (wa_cons (e_eq bc.room.u65 (we_lc (fr := false) (own := [(("due" : Str), 7)]) (t := (.nm 7)) rfl sc__law_all_due.nd (wi_src (we_var (i := 1) rfl (.inl rfl) nd_dues nc_dues)) (show BlkOk N__law_all_due (defScope (top 40)) _ [(("due" : Str), 7)] from blkOk_by (by decide +kernel)) (by decide) (fun _ _ _ _ _ => (wg_nm sc__law_all_due.nd rfl (.inl rfl) (.inr rfl))) (fun _ _ _ _ _ => (wts_one (t_gt (we_ix (u1 bc.room.u65) (we_var (i := 7) rfl (.inl rfl) nd_due nc_due) we_int (fun _ _ => rfl)) we_int rfl))) (fun _ _ _ _ _ => (we_var (i := 7) rfl (.inl rfl) nd_due nc_due)) (fun _ => rfl)) (we_lst (own := false) wa_nil) rfl) (wa_cons (b_list (own := false) rfl rfl (n_list hd) (wa_cons (we_ix (u1 bc.room.u65) (we_var (i := 0) rfl (.inr (.inl rfl)) nd_side nc_side) we_str (fun _ _ => rfl)) wa_nil rfl) rfl) wa_nil rfl) rfl) rfl))))))))))) (fun _ _ _ _ h => h.1) (fun _ _ _ _ h => h.2)
theorem B__law_all_due (hd : Hd w K mg) : FnBd P w K mg base 2 (He.ga K "_law_all_due") 1 [] φ__law_all_due := by
  obtain ⟨fd, Fd⟩ := hd.c.t.d.def_ 16 (d := mkDD (("_law_all_due" : Str), none) "_law_all_due" "_law_all_due" (top 40) []) rfl
  exact fn_bd _ Fd (k__law_all_due hd Fd) (FunD.bindsN Fd fun _ _ _ _ _ _ us hl => match us, hl with | [_], _ => rfl)
/-! Book_look_for -/
def N_Book_look_for : List Str := ["self", "pot", "side"]
theorem sc_Book_look_for : FnScope N_Book_look_for ["self", "pot", "side"] (defScope (inClass (top 33) 4)) := ⟨rfl, rfl, rfl, by decide +kernel, rfl, by decide +kernel, by decide +kernel⟩
def w_Book_look_for : WpS := (wIf (wB (wOr (wNot (wCall φ_in_bounds [] (wCons (wVar 1) (wCons (wOp fSub (wFun fLen (wCons (wFld "kept" (wVar 0)) wNil)) (wC (.int 1))) wNil)))) (wNot (wCall φ_in_bounds [] (wCons (wVar 2) (wCons (wC (.int 1)) wNil)))))) (wRaise "NoDeed") wNx)
def φ_Book_look_for : SB.Spec := fun xs S R RE => xs.length = 3 ∧ w_Book_look_for (startE N_Book_look_for xs) S ⟨fun _ S' => Rz R .non S', Rz R, fun _ _ => False, fun _ _ => False⟩ (fun c _ S' => RE c S')
theorem k_Book_look_for (hd : Hd w K mg) {q nm : Str} {dvs : List V} {kws : List (Str × V)} {f : Addr} {fd : FuncData} (Fd : FunD K nm q (defArgs (inClass (top 33) 4)) (defBody (inClass (top 33) 4)) (defScope (inClass (top 33) 4)) dvs kws f fd) : FnOk P w K mg base (L2.CX P w) 2 f fd ["self", "pot", "side"] (spOf K φ_Book_look_for) :=
  body_ok (N := N_Book_look_for) (ws := w_Book_look_for) Fd sc_Book_look_for (fun cdv A outer s H E F bc =>
  (wss_one (ws_if (WW.wt (ww_or (wt_not (wt_val (we_call ((B_in_bounds hd).mono (by decide)) bc.room bc.tk rfl (g_in_bounds hd) (wa_cons (we_var (i := 1) rfl (.inl rfl) nd_pot nc_pot) (wa_cons (we_sub (b_len rfl (n_len hd) (wa_cons (we_fld (f := "kept") (we_var (i := 0) rfl (.inl rfl) nd_self nc_self) rfl) wa_nil rfl) rfl) we_int) wa_nil rfl) rfl) rfl nd_in_bounds) (fun _ => rfl))) (ww_or1 (wt_not (wt_val (we_call ((B_in_bounds hd).mono (by decide)) bc.room bc.tk rfl (g_in_bounds hd) (wa_cons (we_var (i := 2) rfl (.inl rfl) nd_side nc_side) (wa_cons we_int wa_nil rfl) rfl) rfl nd_in_bounds) (fun _ => rfl)))))) (wss_one (ws_raise (c := "NoDeed") PySem.F.excBase_ValueError (ex_NoDeed hd) rfl bc.tk (g_NoDeed hd) rfl nd_NoDeed)) wss_nil))) (fun _ _ _ _ h => h.1) (fun _ _ _ _ h => h.2)
theorem B_Book_look_for_2 (hd : Hd w K mg) {q nm : Str} {f : Addr} (Fd : ∃ fd, FunD K nm q (defArgs (inClass (top 33) 4)) (defBody (inClass (top 33) 4)) (defScope (inClass (top 33) 4)) [.int 0] [] f fd) : FnBd P w K mg base 2 f 3 [.int 0] φ_Book_look_for := by
  obtain ⟨fd, Fd⟩ := Fd
  exact fn_bdD _ [.int 0] Fd (k_Book_look_for hd Fd) (FunD.binds1 Fd 2 0 (by intro z; cases z) rfl (fun T kV doc pm an cdv ct us its h1 h2 => match us, its, h1, h2 with | [_, _], [_], _, _ => ⟨_, rfl, rfl⟩)) (fun S H => (.cons (.int _) .nil))
theorem B_Book_look_for (hd : Hd w K mg) {q nm : Str} {f : Addr} (Fd : ∃ fd, FunD K nm q (defArgs (inClass (top 33) 4)) (defBody (inClass (top 33) 4)) (defScope (inClass (top 33) 4)) [.int 0] [] f fd) : FnBd P w K mg base 2 f 3 [] φ_Book_look_for := by
  obtain ⟨fd, Fd⟩ := Fd
  exact fn_bdD _ [] Fd (k_Book_look_for hd Fd) (FunD.binds1 Fd 3 1 (by intro z; cases z) rfl (fun T kV doc pm an cdv ct us its h1 h2 => match us, its, h1, h2 with | [_, _, _], [_], _, _ => ⟨_, rfl, rfl⟩)) (fun S H => .nil)
def cs_look_for : List (String × Nat × List D × SB.Spec) := [("Book", 3, [.int 0], φ_Book_look_for)]
theorem mt_look_for {k : Nat} (hd : Hd w K mg) (hk : 2 ≤ k) : ∀ c nd, cs_look_for.lookup c = some nd → MtBd P w K mg base k (clA K c) "look_for" nd.1 nd.2.1 nd.2.2 := (mts_cons ⟨_, me_Book_look_for hd, (B_Book_look_for_2 hd (hd.c.t.d.def_ 42 rfl)).mono (Nat.le_trans (by decide) hk)⟩ mts_nil)
/-! Book_shown_for -/
def N_Book_shown_for : List Str := ["self", "pot"]
theorem sc_Book_shown_for : FnScope N_Book_shown_for ["self", "pot"] (defScope (inClass (top 33) 10)) := ⟨rfl, rfl, rfl, by decide +kernel, rfl, by decide +kernel, by decide +kernel⟩
def w_Book_shown_for : WpS := (wSeq (wExpr (wMeth "look_for" cs_look_for (wVar 0) (wCons (wVar 1) wNil)))
  (wRet (wFun (fDict true) (wCons (wOp fIx (wFld "shows" (wVar 0)) (wVar 1)) wNil))))
def φ_Book_shown_for : SB.Spec := fun xs S R RE => xs.length = 2 ∧ w_Book_shown_for (startE N_Book_shown_for xs) S ⟨fun _ S' => Rz R .non S', Rz R, fun _ _ => False, fun _ _ => False⟩ (fun c _ S' => RE c S')
theorem k_Book_shown_for (hd : Hd w K mg) {q nm : Str} {dvs : List V} {kws : List (Str × V)} {f : Addr} {fd : FuncData} (Fd : FunD K nm q (defArgs (inClass (top 33) 10)) (defBody (inClass (top 33) 10)) (defScope (inClass (top 33) 10)) dvs kws f fd) : FnOk P w K mg base (L2.CX P w) 3 f fd ["self", "pot"] (spOf K φ_Book_shown_for) :=
  body_ok (N := N_Book_shown_for) (ws := w_Book_shown_for) Fd sc_Book_shown_for (fun cdv A outer s H E F bc =>
  (wss_cons (ws_expr (we_meth (m := "look_for") (cs := cs_look_for) (mt_look_for hd (by decide)) bc.room bc.tk (we_var (i := 0) rfl (.inl rfl) nd_self nc_self) (wa_cons (we_var (i := 1) rfl (.inl rfl) nd_pot nc_pot) wa_nil rfl) rfl rfl (by decide) rfl) rfl)
  (wss_one (ws_ret (b_dict (own := true) rfl rfl (n_dict hd) (wa_cons (we_ix (u1 bc.room.u65) (we_fld (f := "shows") (we_var (i := 0) rfl (.inl rfl) nd_self nc_self) rfl) (we_var (i := 1) rfl (.inl rfl) nd_pot nc_pot) (fun _ _ => rfl)) wa_nil rfl) rfl))))) (fun _ _ _ _ h => h.1) (fun _ _ _ _ h => h.2)
theorem B_Book_shown_for (hd : Hd w K mg) {q nm : Str} {f : Addr} (Fd : ∃ fd, FunD K nm q (defArgs (inClass (top 33) 10)) (defBody (inClass (top 33) 10)) (defScope (inClass (top 33) 10)) [] [] f fd) : FnBd P w K mg base 3 f 2 [] φ_Book_shown_for := by
  obtain ⟨fd, Fd⟩ := Fd
  exact fn_bd _ Fd (k_Book_shown_for hd Fd) (FunD.bindsN Fd fun _ _ _ _ _ _ us hl => match us, hl with | [_, _], _ => rfl)
/-! Claim_told -/
def N_Claim_told : List Str := ["self"]
theorem sc_Claim_told : FnScope N_Claim_told ["self"] (defScope (inClass (top 24) 0)) := ⟨rfl, rfl, rfl, by decide +kernel, rfl, by decide +kernel, by decide +kernel⟩
def w_Claim_told : WpS := (wRet (wTup wNil))
def φ_Claim_told : SB.Spec := fun xs S R RE => xs.length = 1 ∧ w_Claim_told (startE N_Claim_told xs) S ⟨fun _ S' => Rz R .non S', Rz R, fun _ _ => False, fun _ _ => False⟩ (fun c _ S' => RE c S')
theorem k_Claim_told (hd : Hd w K mg) {q nm : Str} {dvs : List V} {kws : List (Str × V)} {f : Addr} {fd : FuncData} (Fd : FunD K nm q (defArgs (inClass (top 24) 0)) (defBody (inClass (top 24) 0)) (defScope (inClass (top 24) 0)) dvs kws f fd) : FnOk P w K mg base (L2.CX P w) 1 f fd ["self"] (spOf K φ_Claim_told) :=
  body_ok (N := N_Claim_told) (ws := w_Claim_told) Fd sc_Claim_told (fun cdv A outer s H E F bc =>
  (wss_one (ws_ret (we_tup wa_nil)))) (fun _ _ _ _ h => h.1) (fun _ _ _ _ h => h.2)
theorem B_Claim_told (hd : Hd w K mg) {q nm : Str} {f : Addr} (Fd : ∃ fd, FunD K nm q (defArgs (inClass (top 24) 0)) (defBody (inClass (top 24) 0)) (defScope (inClass (top 24) 0)) [] [] f fd) : FnBd P w K mg base 1 f 1 [] φ_Claim_told := by
  obtain ⟨fd, Fd⟩ := Fd
  exact fn_bd _ Fd (k_Claim_told hd Fd) (FunD.bindsN Fd fun _ _ _ _ _ _ us hl => match us, hl with | [_], _ => rfl)
/-! Held_told -/
def N_Held_told : List Str := ["self"]
theorem sc_Held_told : FnScope N_Held_told ["self"] (defScope (inClass (top 25) 1)) := ⟨rfl, rfl, rfl, by decide +kernel, rfl, by decide +kernel, by decide +kernel⟩
def w_Held_told : WpS := (wRet (wTup (wCons (wC (.str ("held" : Str))) wNil)))
def φ_Held_told : SB.Spec := fun xs S R RE => xs.length = 1 ∧ w_Held_told (startE N_Held_told xs) S ⟨fun _ S' => Rz R .non S', Rz R, fun _ _ => False, fun _ _ => False⟩ (fun c _ S' => RE c S')
theorem k_Held_told (hd : Hd w K mg) {q nm : Str} {dvs : List V} {kws : List (Str × V)} {f : Addr} {fd : FuncData} (Fd : FunD K nm q (defArgs (inClass (top 25) 1)) (defBody (inClass (top 25) 1)) (defScope (inClass (top 25) 1)) dvs kws f fd) : FnOk P w K mg base (L2.CX P w) 1 f fd ["self"] (spOf K φ_Held_told) :=
  body_ok (N := N_Held_told) (ws := w_Held_told) Fd sc_Held_told (fun cdv A outer s H E F bc =>
  (wss_one (ws_ret (we_tup (wa_cons we_str wa_nil rfl))))) (fun _ _ _ _ h => h.1) (fun _ _ _ _ h => h.2)
theorem B_Held_told (hd : Hd w K mg) {q nm : Str} {f : Addr} (Fd : ∃ fd, FunD K nm q (defArgs (inClass (top 25) 1)) (defBody (inClass (top 25) 1)) (defScope (inClass (top 25) 1)) [] [] f fd) : FnBd P w K mg base 1 f 1 [] φ_Held_told := by
  obtain ⟨fd, Fd⟩ := Fd
  exact fn_bd _ Fd (k_Held_told hd Fd) (FunD.bindsN Fd fun _ _ _ _ _ _ us hl => match us, hl with | [_], _ => rfl)
/-! Laid_told -/
def N_Laid_told : List Str := ["self"]
theorem sc_Laid_told : FnScope N_Laid_told ["self"] (defScope (inClass (top 26) 1)) := ⟨rfl, rfl, rfl, by decide +kernel, rfl, by decide +kernel, by decide +kernel⟩
def w_Laid_told : WpS := (wRet (wTup (wCons (wC (.str ("laid" : Str))) (wCons (wFld "layer" (wVar 0)) (wCons (wFld "lying" (wVar 0)) (wCons (wFld "begun" (wVar 0)) wNil))))))
def φ_Laid_told : SB.Spec := fun xs S R RE => xs.length = 1 ∧ w_Laid_told (startE N_Laid_told xs) S ⟨fun _ S' => Rz R .non S', Rz R, fun _ _ => False, fun _ _ => False⟩ (fun c _ S' => RE c S')
theorem k_Laid_told (hd : Hd w K mg) {q nm : Str} {dvs : List V} {kws : List (Str × V)} {f : Addr} {fd : FuncData} (Fd : FunD K nm q (defArgs (inClass (top 26) 1)) (defBody (inClass (top 26) 1)) (defScope (inClass (top 26) 1)) dvs kws f fd) : FnOk P w K mg base (L2.CX P w) 1 f fd ["self"] (spOf K φ_Laid_told) :=
  body_ok (N := N_Laid_told) (ws := w_Laid_told) Fd sc_Laid_told (fun cdv A outer s H E F bc =>
  (wss_one (ws_ret (we_tup (wa_cons we_str (wa_cons (we_fld (f := "layer") (we_var (i := 0) rfl (.inl rfl) nd_self nc_self) rfl) (wa_cons (we_fld (f := "lying") (we_var (i := 0) rfl (.inl rfl) nd_self nc_self) rfl) (wa_cons (we_fld (f := "begun") (we_var (i := 0) rfl (.inl rfl) nd_self nc_self) rfl) wa_nil rfl) rfl) rfl) rfl))))) (fun _ _ _ _ h => h.1) (fun _ _ _ _ h => h.2)
theorem B_Laid_told (hd : Hd w K mg) {q nm : Str} {f : Addr} (Fd : ∃ fd, FunD K nm q (defArgs (inClass (top 26) 1)) (defBody (inClass (top 26) 1)) (defScope (inClass (top 26) 1)) [] [] f fd) : FnBd P w K mg base 1 f 1 [] φ_Laid_told := by
  obtain ⟨fd, Fd⟩ := Fd
  exact fn_bd _ Fd (k_Laid_told hd Fd) (FunD.bindsN Fd fun _ _ _ _ _ _ us hl => match us, hl with | [_], _ => rfl)
/-! Taken_told -/
def N_Taken_told : List Str := ["self"]
theorem sc_Taken_told : FnScope N_Taken_told ["self"] (defScope (inClass (top 27) 1)) := ⟨rfl, rfl, rfl, by decide +kernel, rfl, by decide +kernel, by decide +kernel⟩
def w_Taken_told : WpS := (wRet (wTup (wCons (wC (.str ("taken" : Str))) (wCons (wFld "taker" (wVar 0)) wNil))))
def φ_Taken_told : SB.Spec := fun xs S R RE => xs.length = 1 ∧ w_Taken_told (startE N_Taken_told xs) S ⟨fun _ S' => Rz R .non S', Rz R, fun _ _ => False, fun _ _ => False⟩ (fun c _ S' => RE c S')
theorem k_Taken_told (hd : Hd w K mg) {q nm : Str} {dvs : List V} {kws : List (Str × V)} {f : Addr} {fd : FuncData} (Fd : FunD K nm q (defArgs (inClass (top 27) 1)) (defBody (inClass (top 27) 1)) (defScope (inClass (top 27) 1)) dvs kws f fd) : FnOk P w K mg base (L2.CX P w) 1 f fd ["self"] (spOf K φ_Taken_told) :=
  body_ok (N := N_Taken_told) (ws := w_Taken_told) Fd sc_Taken_told (fun cdv A outer s H E F bc =>
  (wss_one (ws_ret (we_tup (wa_cons we_str (wa_cons (we_fld (f := "taker") (we_var (i := 0) rfl (.inl rfl) nd_self nc_self) rfl) wa_nil rfl) rfl))))) (fun _ _ _ _ h => h.1) (fun _ _ _ _ h => h.2)
theorem B_Taken_told (hd : Hd w K mg) {q nm : Str} {f : Addr} (Fd : ∃ fd, FunD K nm q (defArgs (inClass (top 27) 1)) (defBody (inClass (top 27) 1)) (defScope (inClass (top 27) 1)) [] [] f fd) : FnBd P w K mg base 1 f 1 [] φ_Taken_told := by
  obtain ⟨fd, Fd⟩ := Fd
  exact fn_bd _ Fd (k_Taken_told hd Fd) (FunD.bindsN Fd fun _ _ _ _ _ _ us hl => match us, hl with | [_], _ => rfl)
def cs_told_1 : List (String × Nat × List D × SB.Spec) := [("Claim", 1, [], φ_Claim_told), ("Held", 1, [], φ_Held_told), ("Laid", 1, [], φ_Laid_told), ("Taken", 1, [], φ_Taken_told)]
theorem mt_told_1 {k : Nat} (hd : Hd w K mg) (hk : 1 ≤ k) : ∀ c nd, cs_told_1.lookup c = some nd → MtBd P w K mg base k (clA K c) "told" nd.1 nd.2.1 nd.2.2 := (mts_cons ⟨_, me_Claim_told hd, (B_Claim_told hd (hd.c.t.d.def_ 23 rfl)).mono (Nat.le_trans (by decide) hk)⟩ (mts_cons ⟨_, me_Held_told hd, (B_Held_told hd (hd.c.t.d.def_ 26 rfl)).mono (Nat.le_trans (by decide) hk)⟩ (mts_cons ⟨_, me_Laid_told hd, (B_Laid_told hd (hd.c.t.d.def_ 30 rfl)).mono (Nat.le_trans (by decide) hk)⟩ (mts_cons ⟨_, me_Taken_told hd, (B_Taken_told hd (hd.c.t.d.def_ 34 rfl)).mono (Nat.le_trans (by decide) hk)⟩ mts_nil))))
/-! Book_told -/
def N_Book_told : List Str := ["self", "pot"]
theorem sc_Book_told : FnScope N_Book_told ["self", "pot"] (defScope (inClass (top 33) 9)) := ⟨rfl, rfl, rfl, by decide +kernel, rfl, by decide +kernel, by decide +kernel⟩
def w_Book_told : WpS := (wSeq (wExpr (wMeth "look_for" cs_look_for (wVar 0) (wCons (wVar 1) wNil)))
  (wRet (wMeth "told" cs_told_1 (wOp fIx (wFld "claims" (wVar 0)) (wVar 1)) wNil)))
def φ_Book_told : SB.Spec := fun xs S R RE => xs.length = 2 ∧ w_Book_told (startE N_Book_told xs) S ⟨fun _ S' => Rz R .non S', Rz R, fun _ _ => False, fun _ _ => False⟩ (fun c _ S' => RE c S')
theorem k_Book_told (hd : Hd w K mg) {q nm : Str} {dvs : List V} {kws : List (Str × V)} {f : Addr} {fd : FuncData} (Fd : FunD K nm q (defArgs (inClass (top 33) 9)) (defBody (inClass (top 33) 9)) (defScope (inClass (top 33) 9)) dvs kws f fd) : FnOk P w K mg base (L2.CX P w) 3 f fd ["self", "pot"] (spOf K φ_Book_told) :=
  body_ok (N := N_Book_told) (ws := w_Book_told) Fd sc_Book_told (fun cdv A outer s H E F bc =>
  (wss_cons (ws_expr (we_meth (m := "look_for") (cs := cs_look_for) (mt_look_for hd (by decide)) bc.room bc.tk (we_var (i := 0) rfl (.inl rfl) nd_self nc_self) (wa_cons (we_var (i := 1) rfl (.inl rfl) nd_pot nc_pot) wa_nil rfl) rfl rfl (by decide) rfl) rfl)
  (wss_one (ws_ret (we_meth0 (m := "told") (cs := cs_told_1) (mt_told_1 hd (by decide)) bc.room bc.tk (we_ix (u1 bc.room.u65) (we_fld (f := "claims") (we_var (i := 0) rfl (.inl rfl) nd_self nc_self) rfl) (we_var (i := 1) rfl (.inl rfl) nd_pot nc_pot) (fun _ _ => rfl)) rfl rfl))))) (fun _ _ _ _ h => h.1) (fun _ _ _ _ h => h.2)
theorem B_Book_told (hd : Hd w K mg) {q nm : Str} {f : Addr} (Fd : ∃ fd, FunD K nm q (defArgs (inClass (top 33) 9)) (defBody (inClass (top 33) 9)) (defScope (inClass (top 33) 9)) [] [] f fd) : FnBd P w K mg base 3 f 2 [] φ_Book_told := by
  obtain ⟨fd, Fd⟩ := Fd
  exact fn_bd _ Fd (k_Book_told hd Fd) (FunD.bindsN Fd fun _ _ _ _ _ _ us hl => match us, hl with | [_, _], _ => rfl)
/-! Book_today -/
def N_Book_today : List Str := ["self"]
theorem sc_Book_today : FnScope N_Book_today ["self"] (defScope (inClass (top 33) 2)) := ⟨rfl, rfl, rfl, by decide +kernel, rfl, by decide +kernel, by decide +kernel⟩
def w_Book_today : WpS := (wRet (wFld "now" (wVar 0)))
def φ_Book_today : SB.Spec := fun xs S R RE => xs.length = 1 ∧ w_Book_today (startE N_Book_today xs) S ⟨fun _ S' => Rz R .non S', Rz R, fun _ _ => False, fun _ _ => False⟩ (fun c _ S' => RE c S')
theorem k_Book_today (hd : Hd w K mg) {q nm : Str} {dvs : List V} {kws : List (Str × V)} {f : Addr} {fd : FuncData} (Fd : FunD K nm q (defArgs (inClass (top 33) 2)) (defBody (inClass (top 33) 2)) (defScope (inClass (top 33) 2)) dvs kws f fd) : FnOk P w K mg base (L2.CX P w) 1 f fd ["self"] (spOf K φ_Book_today) :=
  body_ok (N := N_Book_today) (ws := w_Book_today) Fd sc_Book_today (fun cdv A outer s H E F bc =>
  (wss_one (ws_ret (we_fld (f := "now") (we_var (i := 0) rfl (.inl rfl) nd_self nc_self) rfl)))) (fun _ _ _ _ h => h.1) (fun _ _ _ _ h => h.2)
theorem B_Book_today (hd : Hd w K mg) {q nm : Str} {f : Addr} (Fd : ∃ fd, FunD K nm q (defArgs (inClass (top 33) 2)) (defBody (inClass (top 33) 2)) (defScope (inClass (top 33) 2)) [] [] f fd) : FnBd P w K mg base 1 f 1 [] φ_Book_today := by
  obtain ⟨fd, Fd⟩ := Fd
  exact fn_bd _ Fd (k_Book_today hd Fd) (FunD.bindsN Fd fun _ _ _ _ _ _ us hl => match us, hl with | [_], _ => rfl)
/-! Claim_comes -/
def N_Claim_comes : List Str := ["self", "day", "shown"]
theorem sc_Claim_comes : FnScope N_Claim_comes ["self", "day", "shown"] (defScope (inClass (top 24) 1)) := ⟨rfl, rfl, rfl, by decide +kernel, rfl, by decide +kernel, by decide +kernel⟩
def w_Claim_comes : WpS := (wRet (wTup (wCons (wC (.int 0)) (wCons (wC (.int 0)) (wCons (wC (.int 0)) wNil)))))
def φ_Claim_comes : SB.Spec := fun xs S R RE => xs.length = 3 ∧ w_Claim_comes (startE N_Claim_comes xs) S ⟨fun _ S' => Rz R .non S', Rz R, fun _ _ => False, fun _ _ => False⟩ (fun c _ S' => RE c S')
theorem k_Claim_comes (hd : Hd w K mg) {q nm : Str} {dvs : List V} {kws : List (Str × V)} {f : Addr} {fd : FuncData} (Fd : FunD K nm q (defArgs (inClass (top 24) 1)) (defBody (inClass (top 24) 1)) (defScope (inClass (top 24) 1)) dvs kws f fd) : FnOk P w K mg base (L2.CX P w) 1 f fd ["self", "day", "shown"] (spOf K φ_Claim_comes) :=
  body_ok (N := N_Claim_comes) (ws := w_Claim_comes) Fd sc_Claim_comes (fun cdv A outer s H E F bc =>
  (wss_one (ws_ret (we_tup (wa_cons we_int (wa_cons we_int (wa_cons we_int wa_nil rfl) rfl) rfl))))) (fun _ _ _ _ h => h.1) (fun _ _ _ _ h => h.2)
theorem B_Claim_comes (hd : Hd w K mg) {q nm : Str} {f : Addr} (Fd : ∃ fd, FunD K nm q (defArgs (inClass (top 24) 1)) (defBody (inClass (top 24) 1)) (defScope (inClass (top 24) 1)) [] [] f fd) : FnBd P w K mg base 1 f 3 [] φ_Claim_comes := by
  obtain ⟨fd, Fd⟩ := Fd
  exact fn_bd _ Fd (k_Claim_comes hd Fd) (FunD.bindsN Fd fun _ _ _ _ _ _ us hl => match us, hl with | [_, _, _], _ => rfl)
/-! Held_comes -/
def N_Held_comes : List Str := ["self", "day", "shown"]
theorem sc_Held_comes : FnScope N_Held_comes ["self", "day", "shown"] (defScope (inClass (top 25) 2)) := ⟨rfl, rfl, rfl, by decide +kernel, rfl, by decide +kernel, by decide +kernel⟩
def w_Held_comes : WpS := (wRet (wTup (wCons (wC (.int 0)) (wCons (wC (.int 0)) (wCons (wFld "whole" (wVar 0)) wNil)))))
def φ_Held_comes : SB.Spec := fun xs S R RE => xs.length = 3 ∧ w_Held_comes (startE N_Held_comes xs) S ⟨fun _ S' => Rz R .non S', Rz R, fun _ _ => False, fun _ _ => False⟩ (fun c _ S' => RE c S')
theorem k_Held_comes (hd : Hd w K mg) {q nm : Str} {dvs : List V} {kws : List (Str × V)} {f : Addr} {fd : FuncData} (Fd : FunD K nm q (defArgs (inClass (top 25) 2)) (defBody (inClass (top 25) 2)) (defScope (inClass (top 25) 2)) dvs kws f fd) : FnOk P w K mg base (L2.CX P w) 1 f fd ["self", "day", "shown"] (spOf K φ_Held_comes) :=
  body_ok (N := N_Held_comes) (ws := w_Held_comes) Fd sc_Held_comes (fun cdv A outer s H E F bc =>
  (wss_one (ws_ret (we_tup (wa_cons we_int (wa_cons we_int (wa_cons (we_fld (f := "whole") (we_var (i := 0) rfl (.inl rfl) nd_self nc_self) rfl) wa_nil rfl) rfl) rfl))))) (fun _ _ _ _ h => h.1) (fun _ _ _ _ h => h.2)
theorem B_Held_comes (hd : Hd w K mg) {q nm : Str} {f : Addr} (Fd : ∃ fd, FunD K nm q (defArgs (inClass (top 25) 2)) (defBody (inClass (top 25) 2)) (defScope (inClass (top 25) 2)) [] [] f fd) : FnBd P w K mg base 1 f 3 [] φ_Held_comes := by
  obtain ⟨fd, Fd⟩ := Fd
  exact fn_bd _ Fd (k_Held_comes hd Fd) (FunD.bindsN Fd fun _ _ _ _ _ _ us hl => match us, hl with | [_, _, _], _ => rfl)
/-! Laid_comes -/
def N_Laid_comes : List Str := ["self", "day", "shown", "dues", "payer", "amount", "word", "last"]
theorem sc_Laid_comes : FnScope N_Laid_comes ["self", "day", "shown"] (defScope (inClass (top 26) 2)) := ⟨rfl, rfl, rfl, by decide +kernel, rfl, by decide +kernel, by decide +kernel⟩
def w_Laid_comes : WpS := (wSeq (wIf (wB (wOp (fCmp cmpLt) (wVar 1) (wOp (fAdd false) (wFld "begun" (wVar 0)) (wFld "patience" (wVar 0))))) (wRet (wTup (wCons (wC (.int 0)) (wCons (wC (.int 0)) (wCons (wFld "whole" (wVar 0)) wNil))))) wNx)
  (wSeq (wSet 3 (wOp (fAdd true) (wFun (fList false) (wCons (wOp fIx (wFld "lying" (wVar 0)) (wC (.int 1))) wNil)) (wLst false (wCons (wC (.int 0)) wNil))))
  (wSeq (wFor (wSrc (wOp fIx (wFld "lying" (wVar 0)) (wC (.int 2)))) (.tup (.cons (.nm 4) (.cons (.nm 5) (.cons (.nm 6) (.cons (.nm 7) .nil))))) (wIf (wB (wAnd (wOp (fIn false) (wVar 6) (wVar 2)) (wOp (fCmp cmpLt) (wOp fIx (wVar 2) (wVar 6)) (wVar 7)))) (wSetI (wOp (fAdd false) (wOp fIx (wVar 3) (wOp fSub (wC (.int 1)) (wVar 4))) (wVar 5)) (wVar 3) (wOp fSub (wC (.int 1)) (wVar 4))) (wIf (wB (wOp (fCmp cmpGe) (wVar 1) (wVar 7))) (wSetI (wOp (fAdd false) (wOp fIx (wVar 3) (wVar 4)) (wVar 5)) (wVar 3) (wVar 4)) (wSetI (wOp (fAdd false) (wOp fIx (wVar 3) (wC (.int 2))) (wVar 5)) (wVar 3) (wC (.int 2))))))
  (wRet (wTup (wCons (wOp fIx (wVar 3) (wC (.int 0))) (wCons (wOp fIx (wVar 3) (wC (.int 1))) (wCons (wOp fIx (wVar 3) (wC (.int 2))) wNil))))))))
def φ_Laid_comes : SB.Spec := fun xs S R RE => xs.length = 3 ∧ w_Laid_comes (startE N_Laid_comes xs) S ⟨fun _ S' => Rz R .non S', Rz R, fun _ _ => False, fun _ _ => False⟩ (fun c _ S' => RE c S')
theorem k_Laid_comes (hd : Hd w K mg) {q nm : Str} {dvs : List V} {kws : List (Str × V)} {f : Addr} {fd : FuncData} (Fd : FunD K nm q (defArgs (inClass (top 26) 2)) (defBody (inClass (top 26) 2)) (defScope (inClass (top 26) 2)) dvs kws f fd) : FnOk P w K mg base (L2.CX P w) 1 f fd ["self", "day", "shown"] (spOf K φ_Laid_comes) :=
  body_ok (N := N_Laid_comes) (ws := w_Laid_comes) Fd sc_Laid_comes (fun cdv A outer s H E F bc =>
  (wss_cons (ws_if (t_lt (we_var (i := 1) rfl (.inl rfl) nd_day nc_day) (we_add (own := false) (we_fld (f := "begun") (we_var (i := 0) rfl (.inl rfl) nd_self nc_self) rfl) (we_fld (f := "patience") (we_var (i := 0) rfl (.inl rfl) nd_self nc_self) rfl)) rfl) (wss_one (ws_ret (we_tup (wa_cons we_int (wa_cons we_int (wa_cons (we_fld (f := "whole") (we_var (i := 0) rfl (.inl rfl) nd_self nc_self) rfl) wa_nil rfl) rfl) rfl)))) wss_nil)
  (wss_cons (ws_set (i := 3) sc_Laid_comes.nd rfl (.inl rfl) (we_add (own := true) (b_list (own := false) rfl rfl (n_list hd) (wa_cons (we_ix (u1 bc.room.u65) (we_fld (f := "lying") (we_var (i := 0) rfl (.inl rfl) nd_self nc_self) rfl) we_int (fun _ _ => rfl)) wa_nil rfl) rfl) (we_lst (own := false) (wa_cons we_int wa_nil rfl))) rfl (.inl rfl))
  (wss_cons (ws_for bc.pass rfl (wi_src (we_ix (u1 bc.room.u65) (we_fld (f := "lying") (we_var (i := 0) rfl (.inl rfl) nd_self nc_self) rfl) we_int (fun _ _ => rfl))) (wg_tup rfl (wgs_cons (wg_nm sc_Laid_comes.nd rfl (.inl rfl) (.inl rfl)) (wgs_cons (wg_nm sc_Laid_comes.nd rfl (.inl rfl) (.inl rfl)) (wgs_cons (wg_nm sc_Laid_comes.nd rfl (.inl rfl) (.inl rfl)) (wgs_cons (wg_nm sc_Laid_comes.nd rfl (.inl rfl) (.inl rfl)) wgs_nil (fun _ => rfl)) (fun _ => rfl)) (fun _ => rfl)) (fun _ => rfl)) (fun _ => rfl) (fun _ => rfl)) (wss_one (ws_if (WW.wt (ww_and (t_in bc.room.u65 (we_var (i := 6) rfl (.inl rfl) nd_word nc_word) (we_var (i := 2) rfl (.inl rfl) nd_shown nc_shown) rfl) (ww_and1 (t_lt (we_ix (u1 bc.room.u65) (we_var (i := 2) rfl (.inl rfl) nd_shown nc_shown) (we_var (i := 6) rfl (.inl rfl) nd_word nc_word) (fun _ _ => rfl)) (we_var (i := 7) rfl (.inl rfl) nd_last nc_last) rfl)))) (wss_one (ws_setI (u1 bc.room.u65) (we_add (own := false) (we_ix (u1 bc.room.u65) (we_var (i := 3) rfl (.inl rfl) nd_dues nc_dues) (we_sub we_int (we_var (i := 4) rfl (.inl rfl) nd_payer nc_payer)) (fun _ _ => rfl)) (we_var (i := 5) rfl (.inl rfl) nd_amount nc_amount)) (we_var (i := 3) rfl (.inl rfl) nd_dues nc_dues) (we_sub we_int (we_var (i := 4) rfl (.inl rfl) nd_payer nc_payer)) (fun _ => rfl) rfl rfl rfl)) (wss_one (ws_if (t_ge (we_var (i := 1) rfl (.inl rfl) nd_day nc_day) (we_var (i := 7) rfl (.inl rfl) nd_last nc_last) rfl) (wss_one (ws_setI (u1 bc.room.u65) (we_add (own := false) (we_ix (u1 bc.room.u65) (we_var (i := 3) rfl (.inl rfl) nd_dues nc_dues) (we_var (i := 4) rfl (.inl rfl) nd_payer nc_payer) (fun _ _ => rfl)) (we_var (i := 5) rfl (.inl rfl) nd_amount nc_amount)) (we_var (i := 3) rfl (.inl rfl) nd_dues nc_dues) (we_var (i := 4) rfl (.inl rfl) nd_payer nc_payer) (fun _ => rfl) rfl rfl rfl)) (wss_one (ws_setI (u1 bc.room.u65) (we_add (own := false) (we_ix (u1 bc.room.u65) (we_var (i := 3) rfl (.inl rfl) nd_dues nc_dues) we_int (fun _ _ => rfl)) (we_var (i := 5) rfl (.inl rfl) nd_amount nc_amount)) (we_var (i := 3) rfl (.inl rfl) nd_dues nc_dues) we_int (fun _ => rfl) rfl rfl rfl)))))) (fun _ => rfl))
  (wss_one (ws_ret (we_tup (wa_cons (we_ix (u1 bc.room.u65) (we_var (i := 3) rfl (.inl rfl) nd_dues nc_dues) we_int (fun _ _ => rfl)) (wa_cons (we_ix (u1 bc.room.u65) (we_var (i := 3) rfl (.inl rfl) nd_dues nc_dues) we_int (fun _ _ => rfl)) (wa_cons (we_ix (u1 bc.room.u65) (we_var (i := 3) rfl (.inl rfl) nd_dues nc_dues) we_int (fun _ _ => rfl)) wa_nil rfl) rfl) rfl)))))))) (fun _ _ _ _ h => h.1) (fun _ _ _ _ h => h.2)
theorem B_Laid_comes (hd : Hd w K mg) {q nm : Str} {f : Addr} (Fd : ∃ fd, FunD K nm q (defArgs (inClass (top 26) 2)) (defBody (inClass (top 26) 2)) (defScope (inClass (top 26) 2)) [] [] f fd) : FnBd P w K mg base 1 f 3 [] φ_Laid_comes := by
  obtain ⟨fd, Fd⟩ := Fd
  exact fn_bd _ Fd (k_Laid_comes hd Fd) (FunD.bindsN Fd fun _ _ _ _ _ _ us hl => match us, hl with | [_, _, _], _ => rfl)
/-! Taken_comes -/
def N_Taken_comes : List Str := ["self", "day", "shown"]
theorem sc_Taken_comes : FnScope N_Taken_comes ["self", "day", "shown"] (defScope (inClass (top 27) 2)) := ⟨rfl, rfl, rfl, by decide +kernel, rfl, by decide +kernel, by decide +kernel⟩
def w_Taken_comes : WpS := (wSeq (wIf (wB (wOp (fEq false) (wFld "taker" (wVar 0)) (wC (.int 0)))) (wRet (wTup (wCons (wFld "whole" (wVar 0)) (wCons (wC (.int 0)) (wCons (wC (.int 0)) wNil))))) wNx)
  (wRet (wTup (wCons (wC (.int 0)) (wCons (wFld "whole" (wVar 0)) (wCons (wC (.int 0)) wNil))))))
def φ_Taken_comes : SB.Spec := fun xs S R RE => xs.length = 3 ∧ w_Taken_comes (startE N_Taken_comes xs) S ⟨fun _ S' => Rz R .non S', Rz R, fun _ _ => False, fun _ _ => False⟩ (fun c _ S' => RE c S')
theorem k_Taken_comes (hd : Hd w K mg) {q nm : Str} {dvs : List V} {kws : List (Str × V)} {f : Addr} {fd : FuncData} (Fd : FunD K nm q (defArgs (inClass (top 27) 2)) (defBody (inClass (top 27) 2)) (defScope (inClass (top 27) 2)) dvs kws f fd) : FnOk P w K mg base (L2.CX P w) 1 f fd ["self", "day", "shown"] (spOf K φ_Taken_comes) :=
  body_ok (N := N_Taken_comes) (ws := w_Taken_comes) Fd sc_Taken_comes (fun cdv A outer s H E F bc =>
  (wss_cons (ws_if (t_eq bc.room.u65 (we_fld (f := "taker") (we_var (i := 0) rfl (.inl rfl) nd_self nc_self) rfl) we_int rfl) (wss_one (ws_ret (we_tup (wa_cons (we_fld (f := "whole") (we_var (i := 0) rfl (.inl rfl) nd_self nc_self) rfl) (wa_cons we_int (wa_cons we_int wa_nil rfl) rfl) rfl)))) wss_nil)
  (wss_one (ws_ret (we_tup (wa_cons we_int (wa_cons (we_fld (f := "whole") (we_var (i := 0) rfl (.inl rfl) nd_self nc_self) rfl) (wa_cons we_int wa_nil rfl) rfl) rfl)))))) (fun _ _ _ _ h => h.1) (fun _ _ _ _ h => h.2)
theorem B_Taken_comes (hd : Hd w K mg) {q nm : Str} {f : Addr} (Fd : ∃ fd, FunD K nm q (defArgs (inClass (top 27) 2)) (defBody (inClass (top 27) 2)) (defScope (inClass (top 27) 2)) [] [] f fd) : FnBd P w K mg base 1 f 3 [] φ_Taken_comes := by
  obtain ⟨fd, Fd⟩ := Fd
  exact fn_bd _ Fd (k_Taken_comes hd Fd) (FunD.bindsN Fd fun _ _ _ _ _ _ us hl => match us, hl with | [_, _, _], _ => rfl)
def cs_comes : List (String × Nat × List D × SB.Spec) := [("Claim", 3, [], φ_Claim_comes), ("Held", 3, [], φ_Held_comes), ("Laid", 3, [], φ_Laid_comes), ("Taken", 3, [], φ_Taken_comes)]
theorem mt_comes {k : Nat} (hd : Hd w K mg) (hk : 1 ≤ k) : ∀ c nd, cs_comes.lookup c = some nd → MtBd P w K mg base k (clA K c) "comes" nd.1 nd.2.1 nd.2.2 := (mts_cons ⟨_, me_Claim_comes hd, (B_Claim_comes hd (hd.c.t.d.def_ 24 rfl)).mono (Nat.le_trans (by decide) hk)⟩ (mts_cons ⟨_, me_Held_comes hd, (B_Held_comes hd (hd.c.t.d.def_ 27 rfl)).mono (Nat.le_trans (by decide) hk)⟩ (mts_cons ⟨_, me_Laid_comes hd, (B_Laid_comes hd (hd.c.t.d.def_ 31 rfl)).mono (Nat.le_trans (by decide) hk)⟩ (mts_cons ⟨_, me_Taken_comes hd, (B_Taken_comes hd (hd.c.t.d.def_ 35 rfl)).mono (Nat.le_trans (by decide) hk)⟩ mts_nil))))
/-! Book_due_of -/
def N_Book_due_of : List Str := ["self", "pot"]
theorem sc_Book_due_of : FnScope N_Book_due_of ["self", "pot"] (defScope (inClass (top 33) 11)) := ⟨rfl, rfl, rfl, by decide +kernel, rfl, by decide +kernel, by decide +kernel⟩
def w_Book_due_of : WpS := (wSeq (wExpr (wMeth "look_for" cs_look_for (wVar 0) (wCons (wVar 1) wNil)))
  (wRet (wMeth "comes" cs_comes (wOp fIx (wFld "claims" (wVar 0)) (wVar 1)) (wCons (wFld "now" (wVar 0)) (wCons (wOp fIx (wFld "shows" (wVar 0)) (wVar 1)) wNil)))))
def φ_Book_due_of : SB.Spec := fun xs S R RE => xs.length = 2 ∧ w_Book_due_of (startE N_Book_due_of xs) S ⟨fun _ S' => Rz R .non S', Rz R, fun _ _ => False, fun _ _ => False⟩ (fun c _ S' => RE c S')
theorem k_Book_due_of (hd : Hd w K mg) {q nm : Str} {dvs : List V} {kws : List (Str × V)} {f : Addr} {fd : FuncData} (Fd : FunD K nm q (defArgs (inClass (top 33) 11)) (defBody (inClass (top 33) 11)) (defScope (inClass (top 33) 11)) dvs kws f fd) : FnOk P w K mg base (L2.CX P w) 3 f fd ["self", "pot"] (spOf K φ_Book_due_of) :=
  body_ok (N := N_Book_due_of) (ws := w_Book_due_of) Fd sc_Book_due_of (fun cdv A outer s H E F bc =>
  (wss_cons (ws_expr (we_meth (m := "look_for") (cs := cs_look_for) (mt_look_for hd (by decide)) bc.room bc.tk (we_var (i := 0) rfl (.inl rfl) nd_self nc_self) (wa_cons (we_var (i := 1) rfl (.inl rfl) nd_pot nc_pot) wa_nil rfl) rfl rfl (by decide) rfl) rfl)
  (wss_one (ws_ret (we_meth (m := "comes") (cs := cs_comes) (mt_comes hd (by decide)) bc.room bc.tk (we_ix (u1 bc.room.u65) (we_fld (f := "claims") (we_var (i := 0) rfl (.inl rfl) nd_self nc_self) rfl) (we_var (i := 1) rfl (.inl rfl) nd_pot nc_pot) (fun _ _ => rfl)) (wa_cons (we_fld (f := "now") (we_var (i := 0) rfl (.inl rfl) nd_self nc_self) rfl) (wa_cons (we_ix (u1 bc.room.u65) (we_fld (f := "shows") (we_var (i := 0) rfl (.inl rfl) nd_self nc_self) rfl) (we_var (i := 1) rfl (.inl rfl) nd_pot nc_pot) (fun _ _ => rfl)) wa_nil rfl) rfl) rfl rfl (by decide) rfl))))) (fun _ _ _ _ h => h.1) (fun _ _ _ _ h => h.2)
theorem B_Book_due_of (hd : Hd w K mg) {q nm : Str} {f : Addr} (Fd : ∃ fd, FunD K nm q (defArgs (inClass (top 33) 11)) (defBody (inClass (top 33) 11)) (defScope (inClass (top 33) 11)) [] [] f fd) : FnBd P w K mg base 3 f 2 [] φ_Book_due_of := by
  obtain ⟨fd, Fd⟩ := Fd
  exact fn_bd _ Fd (k_Book_due_of hd Fd) (FunD.bindsN Fd fun _ _ _ _ _ _ us hl => match us, hl with | [_, _], _ => rfl)
/-! Book_all_shown -/
def N_Book_all_shown : List Str := ["self", "word", "shown"]
theorem sc_Book_all_shown : FnScope N_Book_all_shown ["self"] (defScope (inClass (top 33) 14)) := ⟨rfl, rfl, rfl, by decide +kernel, rfl, by decide +kernel, by decide +kernel⟩
def w_Book_all_shown : WpS := (wRet (wLc true (wRange (wCons (wOp (fAdd false) (wC (.int 59)) (wC (.int 1))) wNil)) (.nm 1) (wB (wFun fAny (wCons (wLc false (wSrc (wFld "shows" (wVar 0))) (.nm 2) wYes (wOp (fIn false) (wVar 1) (wVar 2)) [2]) wNil))) (wVar 1) [1]))
def φ_Book_all_shown : SB.Spec := fun xs S R RE => xs.length = 1 ∧ w_Book_all_shown (startE N_Book_all_shown xs) S ⟨fun _ S' => Rz R .non S', Rz R, fun _ _ => False, fun _ _ => False⟩ (fun c _ S' => RE c S')
theorem k_Book_all_shown (hd : Hd w K mg) {q nm : Str} {dvs : List V} {kws : List (Str × V)} {f : Addr} {fd : FuncData} (Fd : FunD K nm q (defArgs (inClass (top 33) 14)) (defBody (inClass (top 33) 14)) (defScope (inClass (top 33) 14)) dvs kws f fd) : FnOk P w K mg base (L2.CX P w) 1 f fd ["self"] (spOf K φ_Book_all_shown) :=
  body_ok (N := N_Book_all_shown) (ws := w_Book_all_shown) Fd sc_Book_all_shown (fun cdv A outer s H E F bc =>
  (wss_one (ws_ret (we_lc (fr := true) (own := [(("word" : Str), 1)]) (t := (.nm 1)) rfl sc_Book_all_shown.nd (wi_range1 rfl (n_range hd) (wa_cons (we_add (own := false) (we_globI' (i_MOST_WORD hd) rfl nd_MOST_WORD) we_int) wa_nil rfl) rfl) (show BlkOk N_Book_all_shown (defScope (inClass (top 33) 14)) _ [(("word" : Str), 1)] from blkOk_by (by decide +kernel)) (by decide) (fun _ _ _ _ _ => (wg_nm sc_Book_all_shown.nd rfl (.inr rfl) (.inl rfl))) (fun _ _ _ _ _ => (wts_one (wt_val (b_any rfl rfl (n_any hd) (wa_cons (we_lc (fr := false) (own := [(("shown" : Str), 2)]) (t := (.nm 2)) rfl sc_Book_all_shown.nd (wi_src (we_fld (f := "shows") (we_var (i := 0) rfl (.inr (.inl rfl)) nd_self nc_self) rfl)) (show BlkOk N_Book_all_shown _ _ [(("shown" : Str), 2)] from blkOk_by (by kernel_rfl)) (by decide) (fun _ _ _ _ _ => (wg_nm sc_Book_all_shown.nd rfl (.inl rfl) (.inr rfl))) (fun _ _ _ _ _ => wts_nil) (fun _ _ _ _ _ => (e_in bc.room.u65 (we_var (i := 1) rfl (by first | exact .inr (.inl rfl) | exact .inr (.inr rfl)) nd_word nc_word) (we_var (i := 2) rfl (.inl rfl) nd_shown nc_shown) rfl)) (fun _ => rfl)) wa_nil rfl) rfl) (fun _ => rfl)))) (fun _ _ _ _ _ => (we_var (i := 1) rfl (.inr (.inl rfl)) nd_word nc_word)) (fun _ => rfl))))) (fun _ _ _ _ h => h.1) (fun _ _ _ _ h => h.2)
theorem B_Book_all_shown (hd : Hd w K mg) {q nm : Str} {f : Addr} (Fd : ∃ fd, FunD K nm q (defArgs (inClass (top 33) 14)) (defBody (inClass (top 33) 14)) (defScope (inClass (top 33) 14)) [] [] f fd) : FnBd P w K mg base 1 f 1 [] φ_Book_all_shown := by
  obtain ⟨fd, Fd⟩ := Fd
  exact fn_bd _ Fd (k_Book_all_shown hd Fd) (FunD.bindsN Fd fun _ _ _ _ _ _ us hl => match us, hl with | [_], _ => rfl)
/-! Book_made_of -/
def N_Book_made_of : List Str := ["self"]
theorem sc_Book_made_of : FnScope N_Book_made_of ["self"] (defScope (inClass (top 33) 1)) := ⟨rfl, rfl, rfl, by decide +kernel, rfl, by decide +kernel, by decide +kernel⟩
def w_Book_made_of : WpS := (wRet (wFun (fList true) (wCons (wFld "kept" (wVar 0)) wNil)))
def φ_Book_made_of : SB.Spec := fun xs S R RE => xs.length = 1 ∧ w_Book_made_of (startE N_Book_made_of xs) S ⟨fun _ S' => Rz R .non S', Rz R, fun _ _ => False, fun _ _ => False⟩ (fun c _ S' => RE c S')
theorem k_Book_made_of (hd : Hd w K mg) {q nm : Str} {dvs : List V} {kws : List (Str × V)} {f : Addr} {fd : FuncData} (Fd : FunD K nm q (defArgs (inClass (top 33) 1)) (defBody (inClass (top 33) 1)) (defScope (inClass (top 33) 1)) dvs kws f fd) : FnOk P w K mg base (L2.CX P w) 1 f fd ["self"] (spOf K φ_Book_made_of) :=
  body_ok (N := N_Book_made_of) (ws := w_Book_made_of) Fd sc_Book_made_of (fun cdv A outer s H E F bc =>
  (wss_one (ws_ret (b_list (own := true) rfl rfl (n_list hd) (wa_cons (we_fld (f := "kept") (we_var (i := 0) rfl (.inl rfl) nd_self nc_self) rfl) wa_nil rfl) rfl)))) (fun _ _ _ _ h => h.1) (fun _ _ _ _ h => h.2)
theorem B_Book_made_of (hd : Hd w K mg) {q nm : Str} {f : Addr} (Fd : ∃ fd, FunD K nm q (defArgs (inClass (top 33) 1)) (defBody (inClass (top 33) 1)) (defScope (inClass (top 33) 1)) [] [] f fd) : FnBd P w K mg base 1 f 1 [] φ_Book_made_of := by
  obtain ⟨fd, Fd⟩ := Fd
  exact fn_bd _ Fd (k_Book_made_of hd Fd) (FunD.bindsN Fd fun _ _ _ _ _ _ us hl => match us, hl with | [_], _ => rfl)
def cs_due_of : List (String × Nat × List D × SB.Spec) := [("Book", 2, [], φ_Book_due_of)]
theorem mt_due_of {k : Nat} (hd : Hd w K mg) (hk : 3 ≤ k) : ∀ c nd, cs_due_of.lookup c = some nd → MtBd P w K mg base k (clA K c) "due_of" nd.1 nd.2.1 nd.2.2 := (mts_cons ⟨_, me_Book_due_of hd, (B_Book_due_of hd (hd.c.t.d.def_ 49 rfl)).mono (Nat.le_trans (by decide) hk)⟩ mts_nil)
/-! Book_is_over -/
def N_Book_is_over : List Str := ["self", "pot"]
theorem sc_Book_is_over : FnScope N_Book_is_over ["self"] (defScope (inClass (top 33) 13)) := ⟨rfl, rfl, rfl, by decide +kernel, rfl, by decide +kernel, by decide +kernel⟩
def w_Book_is_over : WpS := (wRet (wFun fAll (wCons (wLc false (wRange (wCons (wFun fLen (wCons (wFld "kept" (wVar 0)) wNil)) wNil)) (.nm 1) wYes (wOp (fEq false) (wOp fIx (wMeth "due_of" cs_due_of (wVar 0) (wCons (wVar 1) wNil)) (wC (.int 2))) (wC (.int 0))) [1]) wNil)))
def φ_Book_is_over : SB.Spec := fun xs S R RE => xs.length = 1 ∧ w_Book_is_over (startE N_Book_is_over xs) S ⟨fun _ S' => Rz R .non S', Rz R, fun _ _ => False, fun _ _ => False⟩ (fun c _ S' => RE c S')
theorem k_Book_is_over (hd : Hd w K mg) {q nm : Str} {dvs : List V} {kws : List (Str × V)} {f : Addr} {fd : FuncData} (Fd : FunD K nm q (defArgs (inClass (top 33) 13)) (defBody (inClass (top 33) 13)) (defScope (inClass (top 33) 13)) dvs kws f fd) : FnOk P w K mg base (L2.CX P w) 4 f fd ["self"] (spOf K φ_Book_is_over) :=
  body_ok (N := N_Book_is_over) (ws := w_Book_is_over) Fd sc_Book_is_over (fun cdv A outer s H E F bc =>
  (wss_one (ws_ret (b_all rfl rfl (n_all hd) (wa_cons (we_lc (fr := false) (own := [(("pot" : Str), 1)]) (t := (.nm 1)) rfl sc_Book_is_over.nd (wi_range1 rfl (n_range hd) (wa_cons (b_len rfl (n_len hd) (wa_cons (we_fld (f := "kept") (we_var (i := 0) rfl (.inr (.inl rfl)) nd_self nc_self) rfl) wa_nil rfl) rfl) wa_nil rfl) rfl) (show BlkOk N_Book_is_over (defScope (inClass (top 33) 13)) _ [(("pot" : Str), 1)] from blkOk_by (by decide +kernel)) (by decide) (fun _ _ _ _ _ => (wg_nm sc_Book_is_over.nd rfl (.inl rfl) (.inr rfl))) (fun _ _ _ _ _ => wts_nil) (fun _ _ _ _ _ => (e_eq bc.room.u65 (we_ix (u1 bc.room.u65) (we_meth (m := "due_of") (cs := cs_due_of) (mt_due_of hd (by decide)) bc.room tk_calm (we_var (i := 0) rfl (.inr (.inl rfl)) nd_self nc_self) (wa_cons (we_var (i := 1) rfl (.inl rfl) nd_pot nc_pot) wa_nil rfl) rfl rfl (by decide) rfl) we_int (fun _ _ => rfl)) we_int rfl)) (fun _ => rfl)) wa_nil rfl) rfl)))) (fun _ _ _ _ h => h.1) (fun _ _ _ _ h => h.2)
theorem B_Book_is_over (hd : Hd w K mg) {q nm : Str} {f : Addr} (Fd : ∃ fd, FunD K nm q (defArgs (inClass (top 33) 13)) (defBody (inClass (top 33) 13)) (defScope (inClass (top 33) 13)) [] [] f fd) : FnBd P w K mg base 4 f 1 [] φ_Book_is_over := by
  obtain ⟨fd, Fd⟩ := Fd
  exact fn_bd _ Fd (k_Book_is_over hd Fd) (FunD.bindsN Fd fun _ _ _ _ _ _ us hl => match us, hl with | [_], _ => rfl)
/-! Book_coin_of -/
def N_Book_coin_of : List Str := ["self", "hand", "total", "pot", "dues", "side"]
theorem sc_Book_coin_of : FnScope N_Book_coin_of ["self", "hand"] (defScope (inClass (top 33) 12)) := ⟨rfl, rfl, rfl, by decide +kernel, rfl, by decide +kernel, by decide +kernel⟩
def w_Book_coin_of : WpS := (wSeq (wIf (wB (wNot (wCall φ_in_bounds [] (wCons (wVar 1) (wCons (wC (.int 3)) wNil))))) (wRaise "NoDeed") wNx)
  (wSeq (wSet 2 (wC (.int 0)))
  (wSeq (wFor (wRange (wCons (wFun fLen (wCons (wFld "kept" (wVar 0)) wNil)) wNil)) (.nm 3) (wSeq (wSet 4 (wMeth "due_of" cs_due_of (wVar 0) (wCons (wVar 3) wNil)))
  (wFor (wRange (wCons (wC (.int 2)) wNil)) (.nm 5) (wIf (wB (wOp (fEq false) (wOp fIx (wOp fIx (wFld "kept" (wVar 0)) (wVar 3)) (wVar 5)) (wVar 1))) (wSet 2 (wOp (fAdd false) (wVar 2) (wOp fIx (wVar 4) (wVar 5)))) wNx))))
  (wRet (wVar 2)))))
def φ_Book_coin_of : SB.Spec := fun xs S R RE => xs.length = 2 ∧ w_Book_coin_of (startE N_Book_coin_of xs) S ⟨fun _ S' => Rz R .non S', Rz R, fun _ _ => False, fun _ _ => False⟩ (fun c _ S' => RE c S')
theorem k_Book_coin_of (hd : Hd w K mg) {q nm : Str} {dvs : List V} {kws : List (Str × V)} {f : Addr} {fd : FuncData} (Fd : FunD K nm q (defArgs (inClass (top 33) 12)) (defBody (inClass (top 33) 12)) (defScope (inClass (top 33) 12)) dvs kws f fd) : FnOk P w K mg base (L2.CX P w) 4 f fd ["self", "hand"] (spOf K φ_Book_coin_of) :=
  body_ok (N := N_Book_coin_of) (ws := w_Book_coin_of) Fd sc_Book_coin_of (fun cdv A outer s H E F bc =>
  (wss_cons (ws_if (wt_not (wt_val (we_call ((B_in_bounds hd).mono (by decide)) bc.room bc.tk rfl (g_in_bounds hd) (wa_cons (we_var (i := 1) rfl (.inl rfl) nd_hand nc_hand) (wa_cons (we_globI' (i_MOST_HAND hd) rfl nd_MOST_HAND) wa_nil rfl) rfl) rfl nd_in_bounds) (fun _ => rfl))) (wss_one (ws_raise (c := "NoDeed") PySem.F.excBase_ValueError (ex_NoDeed hd) rfl bc.tk (g_NoDeed hd) rfl nd_NoDeed)) wss_nil)
  (wss_cons (ws_set (i := 2) sc_Book_coin_of.nd rfl (.inl rfl) we_int rfl (.inl rfl))
  (wss_cons (ws_for bc.pass rfl (wi_range1 rfl (n_range hd) (wa_cons (b_len rfl (n_len hd) (wa_cons (we_fld (f := "kept") (we_var (i := 0) rfl (.inl rfl) nd_self nc_self) rfl) wa_nil rfl) rfl) wa_nil rfl) rfl) (wg_nm sc_Book_coin_of.nd rfl (.inl rfl) (.inl rfl)) (wss_cons (ws_set (i := 4) sc_Book_coin_of.nd rfl (.inl rfl) (we_meth (m := "due_of") (cs := cs_due_of) (mt_due_of hd (by decide)) bc.room bc.tk (we_var (i := 0) rfl (.inl rfl) nd_self nc_self) (wa_cons (we_var (i := 3) rfl (.inl rfl) nd_pot nc_pot) wa_nil rfl) rfl rfl (by decide) rfl) rfl (.inl rfl))
  (wss_one (ws_for bc.pass rfl (wi_range1 rfl (n_range hd) (wa_cons we_int wa_nil rfl) rfl) (wg_nm sc_Book_coin_of.nd rfl (.inl rfl) (.inl rfl)) (wss_one (ws_if (t_eq bc.room.u65 (we_ix (u1 bc.room.u65) (we_ix (u1 bc.room.u65) (we_fld (f := "kept") (we_var (i := 0) rfl (.inl rfl) nd_self nc_self) rfl) (we_var (i := 3) rfl (.inl rfl) nd_pot nc_pot) (fun _ _ => rfl)) (we_var (i := 5) rfl (.inl rfl) nd_side nc_side) (fun _ _ => rfl)) (we_var (i := 1) rfl (.inl rfl) nd_hand nc_hand) rfl) (wss_one (ws_set (i := 2) sc_Book_coin_of.nd rfl (.inl rfl) (we_add (own := false) (we_var (i := 2) rfl (.inl rfl) nd_total nc_total) (we_ix (u1 bc.room.u65) (we_var (i := 4) rfl (.inl rfl) nd_dues nc_dues) (we_var (i := 5) rfl (.inl rfl) nd_side nc_side) (fun _ _ => rfl))) rfl (.inl rfl))) wss_nil)) (fun _ => rfl)))) (fun _ => rfl))
  (wss_one (ws_ret (we_var (i := 2) rfl (.inl rfl) nd_total nc_total))))))) (fun _ _ _ _ h => h.1) (fun _ _ _ _ h => h.2)
theorem B_Book_coin_of (hd : Hd w K mg) {q nm : Str} {f : Addr} (Fd : ∃ fd, FunD K nm q (defArgs (inClass (top 33) 12)) (defBody (inClass (top 33) 12)) (defScope (inClass (top 33) 12)) [] [] f fd) : FnBd P w K mg base 4 f 2 [] φ_Book_coin_of := by
  obtain ⟨fd, Fd⟩ := Fd
  exact fn_bd _ Fd (k_Book_coin_of hd Fd) (FunD.bindsN Fd fun _ _ _ _ _ _ us hl => match us, hl with | [_, _], _ => rfl)
def cs_shown_for : List (String × Nat × List D × SB.Spec) := [("Book", 2, [], φ_Book_shown_for)]
theorem mt_shown_for {k : Nat} (hd : Hd w K mg) (hk : 3 ≤ k) : ∀ c nd, cs_shown_for.lookup c = some nd → MtBd P w K mg base k (clA K c) "shown_for" nd.1 nd.2.1 nd.2.2 := (mts_cons ⟨_, me_Book_shown_for hd, (B_Book_shown_for hd (hd.c.t.d.def_ 48 rfl)).mono (Nat.le_trans (by decide) hk)⟩ mts_nil)
def cs_told : List (String × Nat × List D × SB.Spec) := [("Book", 2, [], φ_Book_told)]
theorem mt_told {k : Nat} (hd : Hd w K mg) (hk : 3 ≤ k) : ∀ c nd, cs_told.lookup c = some nd → MtBd P w K mg base k (clA K c) "told" nd.1 nd.2.1 nd.2.2 := (mts_cons ⟨_, me_Book_told hd, (B_Book_told hd (hd.c.t.d.def_ 47 rfl)).mono (Nat.le_trans (by decide) hk)⟩ mts_nil)
def cs_today : List (String × Nat × List D × SB.Spec) := [("Book", 1, [], φ_Book_today)]
theorem mt_today {k : Nat} (hd : Hd w K mg) (hk : 1 ≤ k) : ∀ c nd, cs_today.lookup c = some nd → MtBd P w K mg base k (clA K c) "today" nd.1 nd.2.1 nd.2.2 := (mts_cons ⟨_, me_Book_today hd, (B_Book_today hd (hd.c.t.d.def_ 40 rfl)).mono (Nat.le_trans (by decide) hk)⟩ mts_nil)
def cs_all_shown : List (String × Nat × List D × SB.Spec) := [("Book", 1, [], φ_Book_all_shown)]
theorem mt_all_shown {k : Nat} (hd : Hd w K mg) (hk : 1 ≤ k) : ∀ c nd, cs_all_shown.lookup c = some nd → MtBd P w K mg base k (clA K c) "all_shown" nd.1 nd.2.1 nd.2.2 := (mts_cons ⟨_, me_Book_all_shown hd, (B_Book_all_shown hd (hd.c.t.d.def_ 52 rfl)).mono (Nat.le_trans (by decide) hk)⟩ mts_nil)
def cs_made_of : List (String × Nat × List D × SB.Spec) := [("Book", 1, [], φ_Book_made_of)]
theorem mt_made_of {k : Nat} (hd : Hd w K mg) (hk : 1 ≤ k) : ∀ c nd, cs_made_of.lookup c = some nd → MtBd P w K mg base k (clA K c) "made_of" nd.1 nd.2.1 nd.2.2 := (mts_cons ⟨_, me_Book_made_of hd, (B_Book_made_of hd (hd.c.t.d.def_ 39 rfl)).mono (Nat.le_trans (by decide) hk)⟩ mts_nil)
def cs_is_over : List (String × Nat × List D × SB.Spec) := [("Book", 1, [], φ_Book_is_over)]
theorem mt_is_over {k : Nat} (hd : Hd w K mg) (hk : 4 ≤ k) : ∀ c nd, cs_is_over.lookup c = some nd → MtBd P w K mg base k (clA K c) "is_over" nd.1 nd.2.1 nd.2.2 := (mts_cons ⟨_, me_Book_is_over hd, (B_Book_is_over hd (hd.c.t.d.def_ 51 rfl)).mono (Nat.le_trans (by decide) hk)⟩ mts_nil)
def cs_coin_of : List (String × Nat × List D × SB.Spec) := [("Book", 2, [], φ_Book_coin_of)]
theorem mt_coin_of {k : Nat} (hd : Hd w K mg) (hk : 4 ≤ k) : ∀ c nd, cs_coin_of.lookup c = some nd → MtBd P w K mg base k (clA K c) "coin_of" nd.1 nd.2.1 nd.2.2 := (mts_cons ⟨_, me_Book_coin_of hd, (B_Book_coin_of hd (hd.c.t.d.def_ 50 rfl)).mono (Nat.le_trans (by decide) hk)⟩ mts_nil)
/-! _law_all_told -/
def N__law_all_told : List Str := ["book", "many", "found", "pot", "hand"]
theorem sc__law_all_told : FnScope N__law_all_told ["book", "many"] (defScope (top 41)) := ⟨rfl, rfl, rfl, by decide +kernel, rfl, by decide +kernel, by decide +kernel⟩
def w__law_all_told : WpS := (wSeq (wSet 2 (wLst false (wCons (wMeth "today" cs_today (wVar 0) wNil) (wCons (wLc false (wRange (wCons (wVar 1) wNil)) (.nm 3) wYes (wMeth "told" cs_told (wVar 0) (wCons (wVar 3) wNil)) [3]) (wCons (wLc false (wRange (wCons (wVar 1) wNil)) (.nm 3) wYes (wMeth "shown_for" cs_shown_for (wVar 0) (wCons (wVar 3) wNil)) [3]) wNil)))))
  (wSeq (wSet 2 (wOp (fAdd false) (wVar 2) (wLst false (wCons (wMeth "all_shown" cs_all_shown (wVar 0) wNil) (wCons (wLc false (wRange (wCons (wVar 1) wNil)) (.nm 3) wYes (wMeth "due_of" cs_due_of (wVar 0) (wCons (wVar 3) wNil)) [3]) wNil)))))
  (wRet (wOp (fAdd false) (wVar 2) (wLst false (wCons (wLc false (wRange (wCons (wC (.int 4)) wNil)) (.nm 4) wYes (wMeth "coin_of" cs_coin_of (wVar 0) (wCons (wVar 4) wNil)) [4]) (wCons (wMeth "is_over" cs_is_over (wVar 0) wNil) (wCons (wMeth "made_of" cs_made_of (wVar 0) wNil) wNil))))))))
def φ__law_all_told : SB.Spec := fun xs S R RE => xs.length = 2 ∧ w__law_all_told (startE N__law_all_told xs) S ⟨fun _ S' => Rz R .non S', Rz R, fun _ _ => False, fun _ _ => False⟩ (fun c _ S' => RE c S')
theorem k__law_all_told (hd : Hd w K mg) {q nm : Str} {dvs : List V} {kws : List (Str × V)} {f : Addr} {fd : FuncData} (Fd : FunD K nm q (defArgs (top 41)) (defBody (top 41)) (defScope (top 41)) dvs kws f fd) : FnOk P w K mg base (L2.CX P w) 5 f fd ["book", "many"] (spOf K φ__law_all_told) :=
  body_ok (N := N__law_all_told) (ws := w__law_all_told) Fd sc__law_all_told (fun cdv A outer s H E F bc =>
  (wss_cons (ws_set (i := 2) sc__law_all_told.nd rfl (.inl rfl) (we_lst (own := false) (wa_cons (we_meth0 (m := "today") (cs := cs_today) (mt_today hd (by decide)) bc.room bc.tk (we_var (i := 0) rfl (.inr (.inl rfl)) nd_book nc_book) rfl rfl) (wa_cons (we_lc (fr := false) (own := [(("pot" : Str), 3)]) (t := (.nm 3)) rfl sc__law_all_told.nd (wi_range1 rfl (n_range hd) (wa_cons (we_var (i := 1) rfl (.inl rfl) nd_many nc_many) wa_nil rfl) rfl) (show BlkOk N__law_all_told (defScope (top 41)) _ [(("pot" : Str), 3)] from blkOk_by (by decide +kernel)) (by decide) (fun _ _ _ _ _ => (wg_nm sc__law_all_told.nd rfl (.inl rfl) (.inr rfl))) (fun _ _ _ _ _ => wts_nil) (fun _ _ _ _ _ => (we_meth (m := "told") (cs := cs_told) (mt_told hd (by decide)) bc.room tk_calm (we_var (i := 0) rfl (.inr (.inl rfl)) nd_book nc_book) (wa_cons (we_var (i := 3) rfl (.inl rfl) nd_pot nc_pot) wa_nil rfl) rfl rfl (by decide) rfl)) (fun _ => rfl)) (wa_cons (we_lc (fr := false) (own := [(("pot" : Str), 3)]) (t := (.nm 3)) rfl sc__law_all_told.nd (wi_range1 rfl (n_range hd) (wa_cons (we_var (i := 1) rfl (.inl rfl) nd_many nc_many) wa_nil rfl) rfl) (show BlkOk N__law_all_told (defScope (top 41)) _ [(("pot" : Str), 3)] from blkOk_by (by decide +kernel)) (by decide) (fun _ _ _ _ _ => (wg_nm sc__law_all_told.nd rfl (.inl rfl) (.inr rfl))) (fun _ _ _ _ _ => wts_nil) (fun _ _ _ _ _ => (we_meth (m := "shown_for") (cs := cs_shown_for) (mt_shown_for hd (by decide)) bc.room tk_calm (we_var (i := 0) rfl (.inr (.inl rfl)) nd_book nc_book) (wa_cons (we_var (i := 3) rfl (.inl rfl) nd_pot nc_pot) wa_nil rfl) rfl rfl (by decide) rfl)) (fun _ => rfl)) wa_nil rfl) rfl) rfl)) rfl (.inl rfl))
  (wss_cons (ws_set (i := 2) sc__law_all_told.nd rfl (.inl rfl) (we_add (own := false) (we_var (i := 2) rfl (.inl rfl) nd_found nc_found) (we_lst (own := false) (wa_cons (we_meth0 (m := "all_shown") (cs := cs_all_shown) (mt_all_shown hd (by decide)) bc.room bc.tk (we_var (i := 0) rfl (.inr (.inl rfl)) nd_book nc_book) rfl rfl) (wa_cons (we_lc (fr := false) (own := [(("pot" : Str), 3)]) (t := (.nm 3)) rfl sc__law_all_told.nd (wi_range1 rfl (n_range hd) (wa_cons (we_var (i := 1) rfl (.inl rfl) nd_many nc_many) wa_nil rfl) rfl) (show BlkOk N__law_all_told (defScope (top 41)) _ [(("pot" : Str), 3)] from blkOk_by (by decide +kernel)) (by decide) (fun _ _ _ _ _ => (wg_nm sc__law_all_told.nd rfl (.inl rfl) (.inr rfl))) (fun _ _ _ _ _ => wts_nil) (fun _ _ _ _ _ => (we_meth (m := "due_of") (cs := cs_due_of) (mt_due_of hd (by decide)) bc.room tk_calm (we_var (i := 0) rfl (.inr (.inl rfl)) nd_book nc_book) (wa_cons (we_var (i := 3) rfl (.inl rfl) nd_pot nc_pot) wa_nil rfl) rfl rfl (by decide) rfl)) (fun _ => rfl)) wa_nil rfl) rfl))) rfl (.inl rfl))
  (wss_one (ws_ret (we_add (own := false) (we_var (i := 2) rfl (.inl rfl) nd_found nc_found) (we_lst (own := false) (wa_cons (we_lc (fr := false) (own := [(("hand" : Str), 4)]) (t := (.nm 4)) rfl sc__law_all_told.nd (wi_range1 rfl (n_range hd) (wa_cons we_int wa_nil rfl) rfl) (show BlkOk N__law_all_told (defScope (top 41)) _ [(("hand" : Str), 4)] from blkOk_by (by decide +kernel)) (by decide) (fun _ _ _ _ _ => (wg_nm sc__law_all_told.nd rfl (.inl rfl) (.inr rfl))) (fun _ _ _ _ _ => wts_nil) (fun _ _ _ _ _ => (we_meth (m := "coin_of") (cs := cs_coin_of) (mt_coin_of hd (by decide)) bc.room tk_calm (we_var (i := 0) rfl (.inr (.inl rfl)) nd_book nc_book) (wa_cons (we_var (i := 4) rfl (.inl rfl) nd_hand nc_hand) wa_nil rfl) rfl rfl (by decide) rfl)) (fun _ => rfl)) (wa_cons (we_meth0 (m := "is_over") (cs := cs_is_over) (mt_is_over hd (by decide)) bc.room bc.tk (we_var (i := 0) rfl (.inr (.inl rfl)) nd_book nc_book) rfl rfl) (wa_cons (we_meth0 (m := "made_of") (cs := cs_made_of) (mt_made_of hd (by decide)) bc.room bc.tk (we_var (i := 0) rfl (.inr (.inl rfl)) nd_book nc_book) rfl rfl) wa_nil rfl) rfl) rfl)))))))) (fun _ _ _ _ h => h.1) (fun _ _ _ _ h => h.2)
theorem B__law_all_told (hd : Hd w K mg) : FnBd P w K mg base 5 (He.ga K "_law_all_told") 2 [] φ__law_all_told := by
  obtain ⟨fd, Fd⟩ := hd.c.t.d.def_ 17 (d := mkDD (("_law_all_told" : Str), none) "_law_all_told" "_law_all_told" (top 41) []) rfl
  exact fn_bd _ Fd (k__law_all_told hd Fd) (FunD.bindsN Fd fun _ _ _ _ _ _ us hl => match us, hl with | [_, _], _ => rfl)
/-! _law_alike -/
def N__law_alike : List Str := ["book", "side", "found", "shown"]
theorem sc__law_alike : FnScope N__law_alike ["book", "side"] (defScope (top 42)) := ⟨rfl, rfl, rfl, by decide +kernel, rfl, by decide +kernel, by decide +kernel⟩
def w__law_alike : WpS := (wSeq (wSet 2 (wCall φ__law_all_told [] (wCons (wVar 0) (wCons (wFun fLen (wCons (wOp fIx (wVar 1) (wC (.str ("pots" : Str)))) wNil)) wNil))))
  (wSeq (wIf (wB (wOp (fSam true) (wVar 2) (wCall φ__law_all_due [] (wCons (wVar 1) wNil)))) (wRet (wC (.bl false))) wNx)
  (wSeq (wFor (wSrc (wOp fIx (wVar 2) (wC (.int 2)))) (.nm 3) (wExpr (wMt "dict" fClearD (wVar 3) wNil)))
  (wSeq (wExpr (wMt "list" fAppend (wOp fIx (wVar 2) (wC (.int 3))) (wCons (wC (.int 60)) wNil)))
  (wSeq (wExpr (wMt "list" fClearL (wOp fIx (wVar 2) (wC (.int 7))) wNil))
  (wRet (wC (.bl true))))))))
def φ__law_alike : SB.Spec := fun xs S R RE => xs.length = 2 ∧ w__law_alike (startE N__law_alike xs) S ⟨fun _ S' => Rz R .non S', Rz R, fun _ _ => False, fun _ _ => False⟩ (fun c _ S' => RE c S')
theorem k__law_alike (hd : Hd w K mg) {q nm : Str} {dvs : List V} {kws : List (Str × V)} {f : Addr} {fd : FuncData} (Fd : FunD K nm q (defArgs (top 42)) (defBody (top 42)) (defScope (top 42)) dvs kws f fd) : FnOk P w K mg base (L2.CX P w) 6 f fd ["book", "side"] (spOf K φ__law_alike) :=
  body_ok (N := N__law_alike) (ws := w__law_alike) Fd sc__law_alike (fun cdv A outer s H E F bc =>
  (wss_cons (ws_set (i := 2) sc__law_alike.nd rfl (.inl rfl) (we_call ((B__law_all_told hd).mono (by decide)) bc.room bc.tk rfl (g__law_all_told hd) (wa_cons (we_var (i := 0) rfl (.inl rfl) nd_book nc_book) (wa_cons (b_len rfl (n_len hd) (wa_cons (we_ix (u1 bc.room.u65) (we_var (i := 1) rfl (.inl rfl) nd_side nc_side) we_str (fun _ _ => rfl)) wa_nil rfl) rfl) wa_nil rfl) rfl) rfl nd__law_all_told) rfl (.inl rfl))
  (wss_cons (ws_if (t_samne bc.room.u65 (we_var (i := 2) rfl (.inl rfl) nd_found nc_found) (we_call ((B__law_all_due hd).mono (by decide)) bc.room bc.tk rfl (g__law_all_due hd) (wa_cons (we_var (i := 1) rfl (.inl rfl) nd_side nc_side) wa_nil rfl) rfl nd__law_all_due) rfl) (wss_one (ws_ret we_bl)) wss_nil)
  (wss_cons (ws_for bc.pass rfl (wi_src (we_ix (u1 bc.room.u65) (we_var (i := 2) rfl (.inl rfl) nd_found nc_found) we_int (fun _ _ => rfl))) (wg_nm sc__law_alike.nd rfl (.inl rfl) (.inl rfl)) (wss_one (ws_expr (m_clearD (we_var (i := 3) rfl (.inl rfl) nd_shown nc_shown) rfl rfl) rfl)) (fun _ => rfl))
  (wss_cons (ws_expr (m_append (we_ix (u1 bc.room.u65) (we_var (i := 2) rfl (.inl rfl) nd_found nc_found) we_int (fun _ _ => rfl)) (wa_cons we_int wa_nil rfl) rfl rfl (by decide) rfl) rfl)
  (wss_cons (ws_expr (m_clearL (we_ix (u1 bc.room.u65) (we_var (i := 2) rfl (.inl rfl) nd_found nc_found) we_int (fun _ _ => rfl)) rfl rfl) rfl)
  (wss_one (ws_ret we_bl)))))))) (fun _ _ _ _ h => h.1) (fun _ _ _ _ h => h.2)
theorem B__law_alike (hd : Hd w K mg) : FnBd P w K mg base 6 (He.ga K "_law_alike") 2 [] φ__law_alike := by
  obtain ⟨fd, Fd⟩ := hd.c.t.d.def_ 18 (d := mkDD (("_law_alike" : Str), none) "_law_alike" "_law_alike" (top 42) []) rfl
  exact fn_bd _ Fd (k__law_alike hd Fd) (FunD.bindsN Fd fun _ _ _ _ _ _ us hl => match us, hl with | [_, _], _ => rfl)
/-! _law_deed_of -/
def N__law_deed_of : List Str := ["well", "side", "way", "many", "pot", "who", "here", "whole", "claim", "one", "odd", "agree", "right"]
theorem sc__law_deed_of : FnScope N__law_deed_of ["well", "side"] (defScope (top 43)) := ⟨rfl, rfl, rfl, by decide +kernel, rfl, by decide +kernel, by decide +kernel⟩
def w__law_deed_of : WpS := (wSeq (wSet 2 (wCall φ__law_draw [] (wCons (wVar 0) (wCons (wC (.int 12)) wNil))))
  (wSeq (wSet 3 (wFun fLen (wCons (wOp fIx (wVar 1) (wC (.str ("pots" : Str)))) wNil)))
  (wSeq (wSet 4 (wCall φ__law_draw [] (wCons (wVar 0) (wCons (wVar 3) wNil))))
  (wSeq (wSet 5 (wCall φ__law_draw [] (wCons (wVar 0) (wCons (wC (.int 2)) wNil))))
  (wSeq (wIf (wB (wOp (fEq false) (wCall φ__law_draw [] (wCons (wVar 0) (wCons (wC (.int 14)) wNil))) (wC (.int 0)))) (wSet 4 (wOp fIx (wLst false (wCons (wVar 3) (wCons (wUn fNeg (wC (.int 1))) (wCons (wC (.int 7)) wNil)))) (wCall φ__law_draw [] (wCons (wVar 0) (wCons (wC (.int 3)) wNil))))) (wIf (wB (wAnd (wOp (fCmp cmpGt) (wVar 2) (wC (.int 4))) (wOp (fEq false) (wCall φ__law_draw [] (wCons (wVar 0) (wCons (wC (.int 20)) wNil))) (wC (.int 0))))) (wSet 5 (wOp fIx (wLst false (wCons (wC (.int 2)) (wCons (wUn fNeg (wC (.int 1))) wNil))) (wCall φ__law_draw [] (wCons (wVar 0) (wCons (wC (.int 2)) wNil))))) wNx))
  (wSeq (wIf (wB (wOp (fCmp cmpLt) (wVar 2) (wC (.int 3)))) (wRet (wTup (wCons (wC (.str ("day" : Str))) wNil))) wNx)
  (wSeq (wIf (wB (wOp (fCmp cmpLt) (wVar 2) (wC (.int 5)))) (wRet (wTup (wCons (wC (.str ("show" : Str))) (wCons (wVar 4) (wCons (wOp fIx (wLst false (wCons (wC (.int 3)) (wCons (wC (.int 8)) (wCons (wC (.int 17)) (wCons (wC (.int 25)) (wCons (wC (.int 41)) (wCons (wC (.int 59)) (wCons (wC (.int 60)) (wCons (wUn fNeg (wC (.int 1))) wNil))))))))) (wOp fDiv (wCall φ__law_draw [] (wCons (wVar 0) (wCons (wC (.int 50)) wNil))) (wC (.int 7)))) wNil))))) wNx)
  (wSeq (wSet 6 (wOp fMod (wVar 4) (wVar 3)))
  (wSeq (wSet 7 (wOp (fAdd false) (wOp fIx (wOp fIx (wOp fIx (wVar 1) (wC (.str ("pots" : Str)))) (wVar 6)) (wC (.int 2))) (wOp fIx (wOp fIx (wOp fIx (wVar 1) (wC (.str ("pots" : Str)))) (wVar 6)) (wC (.int 3)))))
  (wSeq (wSet 8 (wOp fIx (wOp fIx (wVar 1) (wC (.str ("claims" : Str)))) (wVar 6)))
  (wSeq (wIf (wB (wOr (wOp (fCmp cmpLt) (wVar 2) (wC (.int 9))) (wOp (fEq true) (wOp fIx (wVar 8) (wC (.int 0))) (wC (.str ("laid" : Str)))))) (wSeq (wSet 9 (wCall φ__law_deal [] (wCons (wVar 0) (wCons (wCall φ__law_draw [] (wCons (wVar 0) (wCons (wC (.int 4)) wNil))) (wCons (wOp (fAdd false) (wVar 7) (wOp fDiv (wCall φ__law_draw [] (wCons (wVar 0) (wCons (wC (.int 9)) wNil))) (wC (.int 8)))) wNil)))))
  (wSeq (wIf (wB (wOp (fEq false) (wCall φ__law_draw [] (wCons (wVar 0) (wCons (wC (.int 6)) wNil))) (wC (.int 0)))) (wSet 9 (wTup (wCons (wC (.int 0)) (wCons (wTup (wCons (wOp fIx (wOp fIx (wOp fIx (wVar 1) (wC (.str ("pots" : Str)))) (wVar 6)) (wC (.int 2))) (wCons (wOp fIx (wOp fIx (wOp fIx (wVar 1) (wC (.str ("pots" : Str)))) (wVar 6)) (wC (.int 3))) wNil))) (wCons (wTup wNil) wNil))))) wNx)
  (wSeq (wSet 10 (wLst false (wCons (wC .non) (wCons (wTup (wCons (wC (.str ("agree" : Str))) (wCons (wVar 4) (wCons (wVar 5) (wCons (wVar 9) wNil))))) (wCons (wTup (wCons (wC (.str ("agree" : Str))) (wCons (wVar 4) (wCons (wOp fSub (wC (.int 1)) (wVar 5)) (wCons (wCall φ__law_deal [] (wCons (wVar 0) (wCons (wC (.int 1)) (wCons (wVar 7) wNil)))) wNil))))) (wCons (wFun (fList false) (wCons (wVar 9) wNil)) wNil))))))
  (wSeq (wSet 11 (wOp fIx (wOp (fAdd false) (wOp (fMul false) (wLst false (wCons (wTup (wCons (wC (.str ("agree" : Str))) (wCons (wVar 4) (wCons (wOp fSub (wC (.int 1)) (wVar 5)) (wCons (wVar 9) wNil))))) wNil)) (wC (.int 8))) (wVar 10)) (wCall φ__law_draw [] (wCons (wVar 0) (wCons (wC (.int 12)) wNil)))))
  (wRet (wTup (wCons (wC (.str ("lay" : Str))) (wCons (wVar 4) (wCons (wVar 5) (wCons (wVar 9) (wCons (wVar 11) wNil))))))))))) wNx)
  (wSeq (wSet 12 (wTup (wCons (wC (.str ("strike" : Str))) (wCons (wVar 4) (wCons (wOp fIx (wVar 8) (wC (.int 1))) (wCons (wOp fIx (wOp fIx (wVar 8) (wC (.int 2))) (wC (.int 0))) wNil))))))
  (wSeq (wSet 10 (wLst false (wCons (wTup (wCons (wC (.str ("strike" : Str))) (wCons (wVar 4) (wCons (wOp fIx (wVar 8) (wC (.int 1))) (wCons (wOp (fAdd false) (wOp fIx (wOp fIx (wVar 8) (wC (.int 2))) (wC (.int 0))) (wC (.int 1))) wNil))))) (wCons (wTup (wCons (wC (.str ("strike" : Str))) (wCons (wOp fMod (wOp (fAdd false) (wVar 4) (wC (.int 1))) (wC (.int 3))) (wCons (wOp fIx (wVar 8) (wC (.int 1))) (wCons (wOp fIx (wOp fIx (wVar 8) (wC (.int 2))) (wC (.int 0))) wNil))))) (wCons (wC .non) wNil)))))
  (wRet (wTup (wCons (wC (.str ("strike" : Str))) (wCons (wVar 4) (wCons (wOp fIx (wLst false (wCons (wOp fSub (wC (.int 1)) (wOp fIx (wVar 8) (wC (.int 1)))) (wCons (wVar 5) wNil))) (wOp fDiv (wCall φ__law_draw [] (wCons (wVar 0) (wCons (wC (.int 4)) wNil))) (wC (.int 3)))) (wCons (wOp fIx (wOp (fAdd false) (wOp (fMul false) (wLst false (wCons (wVar 12) wNil)) (wC (.int 6))) (wVar 10)) (wCall φ__law_draw [] (wCons (wVar 0) (wCons (wC (.int 9)) wNil)))) wNil)))))))))))))))))))
def φ__law_deed_of : SB.Spec := fun xs S R RE => xs.length = 2 ∧ w__law_deed_of (startE N__law_deed_of xs) S ⟨fun _ S' => Rz R .non S', Rz R, fun _ _ => False, fun _ _ => False⟩ (fun c _ S' => RE c S')
theorem k__law_deed_of (hd : Hd w K mg) {q nm : Str} {dvs : List V} {kws : List (Str × V)} {f : Addr} {fd : FuncData} (Fd : FunD K nm q (defArgs (top 43)) (defBody (top 43)) (defScope (top 43)) dvs kws f fd) : FnOk P w K mg base (L2.CX P w) 3 f fd ["well", "side"] (spOf K φ__law_deed_of) :=
  body_ok (N := N__law_deed_of) (ws := w__law_deed_of) Fd sc__law_deed_of (fun cdv A outer s H E F bc =>
  (wss_cons (ws_set (i := 2) sc__law_deed_of.nd rfl (.inl rfl) (we_call ((B__law_draw hd).mono (by decide)) bc.room bc.tk rfl (g__law_draw hd) (wa_cons (we_var (i := 0) rfl (.inl rfl) nd_well nc_well) (wa_cons we_int wa_nil rfl) rfl) rfl nd__law_draw) rfl (.inl rfl))
  (wss_cons (ws_set (i := 3) sc__law_deed_of.nd rfl (.inl rfl) (b_len rfl (n_len hd) (wa_cons (we_ix (u1 bc.room.u65) (we_var (i := 1) rfl (.inl rfl) nd_side nc_side) we_str (fun _ _ => rfl)) wa_nil rfl) rfl) rfl (.inl rfl))
  (wss_cons (ws_set (i := 4) sc__law_deed_of.nd rfl (.inl rfl) (we_call ((B__law_draw hd).mono (by decide)) bc.room bc.tk rfl (g__law_draw hd) (wa_cons (we_var (i := 0) rfl (.inl rfl) nd_well nc_well) (wa_cons (we_var (i := 3) rfl (.inl rfl) nd_many nc_many) wa_nil rfl) rfl) rfl nd__law_draw) rfl (.inl rfl))
  (wss_cons (ws_set (i := 5) sc__law_deed_of.nd rfl (.inl rfl) (we_call ((B__law_draw hd).mono (by decide)) bc.room bc.tk rfl (g__law_draw hd) (wa_cons (we_var (i := 0) rfl (.inl rfl) nd_well nc_well) (wa_cons we_int wa_nil rfl) rfl) rfl nd__law_draw) rfl (.inl rfl))
  (wss_cons (ws_if (t_eq bc.room.u65 (we_call ((B__law_draw hd).mono (by decide)) bc.room bc.tk rfl (g__law_draw hd) (wa_cons (we_var (i := 0) rfl (.inl rfl) nd_well nc_well) (wa_cons we_int wa_nil rfl) rfl) rfl nd__law_draw) we_int rfl) (wss_one (ws_set (i := 4) sc__law_deed_of.nd rfl (.inl rfl) (we_ix (u1 bc.room.u65) (we_lst (own := false) (wa_cons (we_var (i := 3) rfl (.inl rfl) nd_many nc_many) (wa_cons (we_neg we_int) (wa_cons we_int wa_nil rfl) rfl) rfl)) (we_call ((B__law_draw hd).mono (by decide)) bc.room bc.tk rfl (g__law_draw hd) (wa_cons (we_var (i := 0) rfl (.inl rfl) nd_well nc_well) (wa_cons we_int wa_nil rfl) rfl) rfl nd__law_draw) (fun _ _ => rfl)) rfl (.inl rfl))) (wss_one (ws_if (WW.wt (ww_and (t_gt (we_var (i := 2) rfl (.inl rfl) nd_way nc_way) we_int rfl) (ww_and1 (t_eq bc.room.u65 (we_call ((B__law_draw hd).mono (by decide)) bc.room bc.tk rfl (g__law_draw hd) (wa_cons (we_var (i := 0) rfl (.inl rfl) nd_well nc_well) (wa_cons we_int wa_nil rfl) rfl) rfl nd__law_draw) we_int rfl)))) (wss_one (ws_set (i := 5) sc__law_deed_of.nd rfl (.inl rfl) (we_ix (u1 bc.room.u65) (we_lst (own := false) (wa_cons we_int (wa_cons (we_neg we_int) wa_nil rfl) rfl)) (we_call ((B__law_draw hd).mono (by decide)) bc.room bc.tk rfl (g__law_draw hd) (wa_cons (we_var (i := 0) rfl (.inl rfl) nd_well nc_well) (wa_cons we_int wa_nil rfl) rfl) rfl nd__law_draw) (fun _ _ => rfl)) rfl (.inl rfl))) wss_nil)))
  (wss_cons (ws_if (t_lt (we_var (i := 2) rfl (.inl rfl) nd_way nc_way) we_int rfl) (wss_one (ws_ret (we_tup (wa_cons we_str wa_nil rfl)))) wss_nil)
  (wss_cons (ws_if (t_lt (we_var (i := 2) rfl (.inl rfl) nd_way nc_way) we_int rfl) (wss_one (ws_ret (we_tup (wa_cons we_str (wa_cons (we_var (i := 4) rfl (.inl rfl) nd_pot nc_pot) (wa_cons (we_ix (u1 bc.room.u65) (we_lst (own := false) (wa_cons we_int (wa_cons we_int (wa_cons we_int (wa_cons we_int (wa_cons we_int (wa_cons we_int (wa_cons we_int (wa_cons (we_neg we_int) wa_nil rfl) rfl) rfl) rfl) rfl) rfl) rfl) rfl)) (we_div (we_call ((B__law_draw hd).mono (by decide)) bc.room bc.tk rfl (g__law_draw hd) (wa_cons (we_var (i := 0) rfl (.inl rfl) nd_well nc_well) (wa_cons we_int wa_nil rfl) rfl) rfl nd__law_draw) we_int) (fun _ _ => rfl)) wa_nil rfl) rfl) rfl)))) wss_nil)
  (wss_cons (ws_set (i := 6) sc__law_deed_of.nd rfl (.inl rfl) (we_mod (we_var (i := 4) rfl (.inl rfl) nd_pot nc_pot) (we_var (i := 3) rfl (.inl rfl) nd_many nc_many)) rfl (.inl rfl))
  (wss_cons (ws_set (i := 7) sc__law_deed_of.nd rfl (.inl rfl) (we_add (own := false) (we_ix (u1 bc.room.u65) (we_ix (u1 bc.room.u65) (we_ix (u1 bc.room.u65) (we_var (i := 1) rfl (.inl rfl) nd_side nc_side) we_str (fun _ _ => rfl)) (we_var (i := 6) rfl (.inl rfl) nd_here nc_here) (fun _ _ => rfl)) we_int (fun _ _ => rfl)) (we_ix (u1 bc.room.u65) (we_ix (u1 bc.room.u65) (we_ix (u1 bc.room.u65) (we_var (i := 1) rfl (.inl rfl) nd_side nc_side) we_str (fun _ _ => rfl)) (we_var (i := 6) rfl (.inl rfl) nd_here nc_here) (fun _ _ => rfl)) we_int (fun _ _ => rfl))) rfl (.inl rfl))
  (wss_cons (ws_set (i := 8) sc__law_deed_of.nd rfl (.inl rfl) (we_ix (u1 bc.room.u65) (we_ix (u1 bc.room.u65) (we_var (i := 1) rfl (.inl rfl) nd_side nc_side) we_str (fun _ _ => rfl)) (we_var (i := 6) rfl (.inl rfl) nd_here nc_here) (fun _ _ => rfl)) rfl (.inl rfl))
  (wss_cons (ws_if (WW.wt (ww_or (t_lt (we_var (i := 2) rfl (.inl rfl) nd_way nc_way) we_int rfl) (ww_or1 (t_ne bc.room.u65 (we_ix (u1 bc.room.u65) (we_var (i := 8) rfl (.inl rfl) nd_claim nc_claim) we_int (fun _ _ => rfl)) we_str rfl)))) (wss_cons (ws_set (i := 9) sc__law_deed_of.nd rfl (.inl rfl) (we_call ((B__law_deal hd).mono (by decide)) bc.room bc.tk rfl (g__law_deal hd) (wa_cons (we_var (i := 0) rfl (.inl rfl) nd_well nc_well) (wa_cons (we_call ((B__law_draw hd).mono (by decide)) bc.room bc.tk rfl (g__law_draw hd) (wa_cons (we_var (i := 0) rfl (.inl rfl) nd_well nc_well) (wa_cons we_int wa_nil rfl) rfl) rfl nd__law_draw) (wa_cons (we_add (own := false) (we_var (i := 7) rfl (.inl rfl) nd_whole nc_whole) (we_div (we_call ((B__law_draw hd).mono (by decide)) bc.room bc.tk rfl (g__law_draw hd) (wa_cons (we_var (i := 0) rfl (.inl rfl) nd_well nc_well) (wa_cons we_int wa_nil rfl) rfl) rfl nd__law_draw) we_int)) wa_nil rfl) rfl) rfl) rfl nd__law_deal) rfl (.inl rfl))
  (wss_cons (ws_if (t_eq bc.room.u65 (we_call ((B__law_draw hd).mono (by decide)) bc.room bc.tk rfl (g__law_draw hd) (wa_cons (we_var (i := 0) rfl (.inl rfl) nd_well nc_well) (wa_cons we_int wa_nil rfl) rfl) rfl nd__law_draw) we_int rfl) (wss_one (ws_set (i := 9) sc__law_deed_of.nd rfl (.inl rfl) (we_tup (wa_cons we_int (wa_cons (we_tup (wa_cons (we_ix (u1 bc.room.u65) (we_ix (u1 bc.room.u65) (we_ix (u1 bc.room.u65) (we_var (i := 1) rfl (.inl rfl) nd_side nc_side) we_str (fun _ _ => rfl)) (we_var (i := 6) rfl (.inl rfl) nd_here nc_here) (fun _ _ => rfl)) we_int (fun _ _ => rfl)) (wa_cons (we_ix (u1 bc.room.u65) (we_ix (u1 bc.room.u65) (we_ix (u1 bc.room.u65) (we_var (i := 1) rfl (.inl rfl) nd_side nc_side) we_str (fun _ _ => rfl)) (we_var (i := 6) rfl (.inl rfl) nd_here nc_here) (fun _ _ => rfl)) we_int (fun _ _ => rfl)) wa_nil rfl) rfl)) (wa_cons (we_tup wa_nil) wa_nil rfl) rfl) rfl)) rfl (.inl rfl))) wss_nil)
  (wss_cons (ws_set (i := 10) sc__law_deed_of.nd rfl (.inl rfl) (we_lst (own := false) (wa_cons we_non (wa_cons (we_tup (wa_cons we_str (wa_cons (we_var (i := 4) rfl (.inl rfl) nd_pot nc_pot) (wa_cons (we_var (i := 5) rfl (.inl rfl) nd_who nc_who) (wa_cons (we_var (i := 9) rfl (.inl rfl) nd_one nc_one) wa_nil rfl) rfl) rfl) rfl)) (wa_cons (we_tup (wa_cons we_str (wa_cons (we_var (i := 4) rfl (.inl rfl) nd_pot nc_pot) (wa_cons (we_sub we_int (we_var (i := 5) rfl (.inl rfl) nd_who nc_who)) (wa_cons (we_call ((B__law_deal hd).mono (by decide)) bc.room bc.tk rfl (g__law_deal hd) (wa_cons (we_var (i := 0) rfl (.inl rfl) nd_well nc_well) (wa_cons we_int (wa_cons (we_var (i := 7) rfl (.inl rfl) nd_whole nc_whole) wa_nil rfl) rfl) rfl) rfl nd__law_deal) wa_nil rfl) rfl) rfl) rfl)) (wa_cons (b_list (own := false) rfl rfl (n_list hd) (wa_cons (we_var (i := 9) rfl (.inl rfl) nd_one nc_one) wa_nil rfl) rfl) wa_nil rfl) rfl) rfl) rfl)) rfl (.inl rfl))
  (wss_cons (ws_set (i := 11) sc__law_deed_of.nd rfl (.inl rfl) (we_ix (u1 bc.room.u65) (we_add (own := false) (we_mul (own := false) (we_lst (own := false) (wa_cons (we_tup (wa_cons we_str (wa_cons (we_var (i := 4) rfl (.inl rfl) nd_pot nc_pot) (wa_cons (we_sub we_int (we_var (i := 5) rfl (.inl rfl) nd_who nc_who)) (wa_cons (we_var (i := 9) rfl (.inl rfl) nd_one nc_one) wa_nil rfl) rfl) rfl) rfl)) wa_nil rfl)) we_int) (we_var (i := 10) rfl (.inl rfl) nd_odd nc_odd)) (we_call ((B__law_draw hd).mono (by decide)) bc.room bc.tk rfl (g__law_draw hd) (wa_cons (we_var (i := 0) rfl (.inl rfl) nd_well nc_well) (wa_cons we_int wa_nil rfl) rfl) rfl nd__law_draw) (fun _ _ => rfl)) rfl (.inl rfl))
  (wss_one (ws_ret (we_tup (wa_cons we_str (wa_cons (we_var (i := 4) rfl (.inl rfl) nd_pot nc_pot) (wa_cons (we_var (i := 5) rfl (.inl rfl) nd_who nc_who) (wa_cons (we_var (i := 9) rfl (.inl rfl) nd_one nc_one) (wa_cons (we_var (i := 11) rfl (.inl rfl) nd_agree nc_agree) wa_nil rfl) rfl) rfl) rfl) rfl)))))))) wss_nil)
  (wss_cons (ws_set (i := 12) sc__law_deed_of.nd rfl (.inl rfl) (we_tup (wa_cons we_str (wa_cons (we_var (i := 4) rfl (.inl rfl) nd_pot nc_pot) (wa_cons (we_ix (u1 bc.room.u65) (we_var (i := 8) rfl (.inl rfl) nd_claim nc_claim) we_int (fun _ _ => rfl)) (wa_cons (we_ix (u1 bc.room.u65) (we_ix (u1 bc.room.u65) (we_var (i := 8) rfl (.inl rfl) nd_claim nc_claim) we_int (fun _ _ => rfl)) we_int (fun _ _ => rfl)) wa_nil rfl) rfl) rfl) rfl)) rfl (.inl rfl))
  (wss_cons (ws_set (i := 10) sc__law_deed_of.nd rfl (.inl rfl) (we_lst (own := false) (wa_cons (we_tup (wa_cons we_str (wa_cons (we_var (i := 4) rfl (.inl rfl) nd_pot nc_pot) (wa_cons (we_ix (u1 bc.room.u65) (we_var (i := 8) rfl (.inl rfl) nd_claim nc_claim) we_int (fun _ _ => rfl)) (wa_cons (we_add (own := false) (we_ix (u1 bc.room.u65) (we_ix (u1 bc.room.u65) (we_var (i := 8) rfl (.inl rfl) nd_claim nc_claim) we_int (fun _ _ => rfl)) we_int (fun _ _ => rfl)) we_int) wa_nil rfl) rfl) rfl) rfl)) (wa_cons (we_tup (wa_cons we_str (wa_cons (we_mod (we_add (own := false) (we_var (i := 4) rfl (.inl rfl) nd_pot nc_pot) we_int) we_int) (wa_cons (we_ix (u1 bc.room.u65) (we_var (i := 8) rfl (.inl rfl) nd_claim nc_claim) we_int (fun _ _ => rfl)) (wa_cons (we_ix (u1 bc.room.u65) (we_ix (u1 bc.room.u65) (we_var (i := 8) rfl (.inl rfl) nd_claim nc_claim) we_int (fun _ _ => rfl)) we_int (fun _ _ => rfl)) wa_nil rfl) rfl) rfl) rfl)) (wa_cons we_non wa_nil rfl) rfl) rfl)) rfl (.inl rfl))
  (wss_one (ws_ret (we_tup (wa_cons we_str (wa_cons (we_var (i := 4) rfl (.inl rfl) nd_pot nc_pot) (wa_cons (we_ix (u1 bc.room.u65) (we_lst (own := false) (wa_cons (we_sub we_int (we_ix (u1 bc.room.u65) (we_var (i := 8) rfl (.inl rfl) nd_claim nc_claim) we_int (fun _ _ => rfl))) (wa_cons (we_var (i := 5) rfl (.inl rfl) nd_who nc_who) wa_nil rfl) rfl)) (we_div (we_call ((B__law_draw hd).mono (by decide)) bc.room bc.tk rfl (g__law_draw hd) (wa_cons (we_var (i := 0) rfl (.inl rfl) nd_well nc_well) (wa_cons we_int wa_nil rfl) rfl) rfl nd__law_draw) we_int) (fun _ _ => rfl)) (wa_cons (we_ix (u1 bc.room.u65) (we_add (own := false) (we_mul (own := false) (we_lst (own := false) (wa_cons (we_var (i := 12) rfl (.inl rfl) nd_right nc_right) wa_nil rfl)) we_int) (we_var (i := 10) rfl (.inl rfl) nd_odd nc_odd)) (we_call ((B__law_draw hd).mono (by decide)) bc.room bc.tk rfl (g__law_draw hd) (wa_cons (we_var (i := 0) rfl (.inl rfl) nd_well nc_well) (wa_cons we_int wa_nil rfl) rfl) rfl nd__law_draw) (fun _ _ => rfl)) wa_nil rfl) rfl) rfl) rfl)))))))))))))))))) (fun _ _ _ _ h => h.1) (fun _ _ _ _ h => h.2)
theorem B__law_deed_of (hd : Hd w K mg) : FnBd P w K mg base 3 (He.ga K "_law_deed_of") 2 [] φ__law_deed_of := by
  obtain ⟨fd, Fd⟩ := hd.c.t.d.def_ 19 (d := mkDD (("_law_deed_of" : Str), none) "_law_deed_of" "_law_deed_of" (top 43) []) rfl
  exact fn_bd _ Fd (k__law_deed_of hd Fd) (FunD.bindsN Fd fun _ _ _ _ _ _ us hl => match us, hl with | [_, _], _ => rfl)
/-! _law_wanted -/
def N__law_wanted : List Str := ["side", "deed", "pot", "left", "right", "one", "other", "wait", "claim", "agreed", "tie"]
theorem sc__law_wanted : FnScope N__law_wanted ["side", "deed"] (defScope (top 44)) := ⟨rfl, rfl, rfl, by decide +kernel, rfl, by decide +kernel, by decide +kernel⟩
def w__law_wanted : WpS := (wSeq (wIf (wB (wOp (fEq false) (wOp fIx (wVar 1) (wC (.int 0))) (wC (.str ("day" : Str))))) (wSeq (wSetI (wOp (fAdd false) (wOp fIx (wVar 0) (wC (.str ("day" : Str)))) (wC (.int 1))) (wVar 0) (wC (.str ("day" : Str))))
  (wRet (wC (.str ("done" : Str))))) wNx)
  (wSeq (wIf (wB (wNot (wChain (fCmp cmpLe) (fCmp cmpLt) (wC (.int 0)) (wOp fIx (wVar 1) (wC (.int 1))) (wFun fLen (wCons (wOp fIx (wVar 0) (wC (.str ("pots" : Str)))) wNil))))) (wRet (wC (.str ("deed" : Str)))) wNx)
  (wSeq (wSet 2 (wOp fIx (wVar 1) (wC (.int 1))))
  (wSeq (wAsg (.tup (.cons (.nm 3) (.cons (.nm 4) (.cons (.nm 5) (.cons (.nm 6) (.cons (.nm 7) .nil)))))) (wOp fIx (wOp fIx (wVar 0) (wC (.str ("pots" : Str)))) (wVar 2)))
  (wSeq (wSet 8 (wOp fIx (wOp fIx (wVar 0) (wC (.str ("claims" : Str)))) (wVar 2)))
  (wSeq (wIf (wB (wOp (fEq false) (wOp fIx (wVar 1) (wC (.int 0))) (wC (.str ("show" : Str))))) (wSeq (wIf (wB (wNot (wChain (fCmp cmpLe) (fCmp cmpLt) (wC (.int 0)) (wOp fIx (wVar 1) (wC (.int 2))) (wC (.int 60))))) (wRet (wC (.str ("deed" : Str)))) wNx)
  (wSeq (wExpr (wMt "dict" fSetd (wOp fIx (wOp fIx (wVar 0) (wC (.str ("shown" : Str)))) (wVar 2)) (wCons (wOp fIx (wVar 1) (wC (.int 2))) (wCons (wOp fIx (wVar 0) (wC (.str ("day" : Str)))) wNil))))
  (wRet (wC (.str ("done" : Str)))))) wNx)
  (wSeq (wIf (wB (wOp (fIn true) (wOp fIx (wVar 1) (wC (.int 2))) (wTup (wCons (wC (.int 0)) (wCons (wC (.int 1)) wNil))))) (wRet (wC (.str ("deed" : Str)))) wNx)
  (wSeq (wIf (wB (wOp (fEq false) (wOp fIx (wVar 1) (wC (.int 0))) (wC (.str ("strike" : Str))))) (wSeq (wIf (wB (wOr (wOp (fEq true) (wOp fIx (wVar 8) (wC (.int 0))) (wC (.str ("laid" : Str)))) (wOr (wOp (fEq false) (wOp fIx (wVar 8) (wC (.int 1))) (wOp fIx (wVar 1) (wC (.int 2)))) (wOp (fCmp cmpGe) (wOp fIx (wVar 0) (wC (.str ("day" : Str)))) (wOp (fAdd false) (wOp fIx (wVar 8) (wC (.int 3))) (wVar 7)))))) (wRet (wC (.str ("deed" : Str)))) wNx)
  (wSeq (wIf (wB (wOp (fEq true) (wOp fIx (wVar 1) (wC (.int 3))) (wTup (wCons (wC (.str ("strike" : Str))) (wCons (wVar 2) (wCons (wOp fIx (wVar 8) (wC (.int 1))) (wCons (wOp fIx (wOp fIx (wVar 8) (wC (.int 2))) (wC (.int 0))) wNil))))))) (wRet (wC (.str ("deed" : Str)))) wNx)
  (wSeq (wSetI (wTup (wCons (wC (.str ("taken" : Str))) (wCons (wOp fIx (wVar 1) (wC (.int 2))) wNil))) (wOp fIx (wVar 0) (wC (.str ("claims" : Str)))) (wVar 2))
  (wRet (wC (.str ("done" : Str))))))) wNx)
  (wSeq (wIf (wB (wOp (fEq true) (wOp (fAdd false) (wFun fSum (wCons (wOp fIx (wOp fIx (wVar 1) (wC (.int 3))) (wC (.int 1))) wNil)) (wFun fSum (wCons (wLc false (wSrc (wOp fIx (wOp fIx (wVar 1) (wC (.int 3))) (wC (.int 2)))) (.nm 10) wYes (wOp fIx (wVar 10) (wC (.int 1))) [10]) wNil))) (wOp (fAdd false) (wVar 5) (wVar 6)))) (wRet (wC (.str ("stand" : Str)))) wNx)
  (wSeq (wSet 9 (wOr (wOp (fEq false) (wOp fIx (wVar 1) (wC (.int 3))) (wTup (wCons (wC (.int 0)) (wCons (wTup (wCons (wVar 5) (wCons (wVar 6) wNil))) (wCons (wTup wNil) wNil))))) (wOp (fEq false) (wOp fIx (wVar 1) (wC (.int 4))) (wTup (wCons (wC (.str ("agree" : Str))) (wCons (wVar 2) (wCons (wOp fSub (wC (.int 1)) (wOp fIx (wVar 1) (wC (.int 2)))) (wCons (wOp fIx (wVar 1) (wC (.int 3))) wNil))))))))
  (wSeq (wIf (wB (wOr (wOp (fEq true) (wVar 8) (wTup (wCons (wC (.str ("held" : Str))) wNil))) (wNot (wVar 9)))) (wRet (wC (.str ("deed" : Str)))) wNx)
  (wSeq (wSetI (wTup (wCons (wC (.str ("laid" : Str))) (wCons (wOp fIx (wVar 1) (wC (.int 2))) (wCons (wOp fIx (wVar 1) (wC (.int 3))) (wCons (wOp fIx (wVar 0) (wC (.str ("day" : Str)))) wNil))))) (wOp fIx (wVar 0) (wC (.str ("claims" : Str)))) (wVar 2))
  (wRet (wC (.str ("done" : Str))))))))))))))))
def φ__law_wanted : SB.Spec := fun xs S R RE => xs.length = 2 ∧ w__law_wanted (startE N__law_wanted xs) S ⟨fun _ S' => Rz R .non S', Rz R, fun _ _ => False, fun _ _ => False⟩ (fun c _ S' => RE c S')
theorem k__law_wanted (hd : Hd w K mg) {q nm : Str} {dvs : List V} {kws : List (Str × V)} {f : Addr} {fd : FuncData} (Fd : FunD K nm q (defArgs (top 44)) (defBody (top 44)) (defScope (top 44)) dvs kws f fd) : FnOk P w K mg base (L2.CX P w) 1 f fd ["side", "deed"] (spOf K φ__law_wanted) :=
  body_ok (N := N__law_wanted) (ws := w__law_wanted) Fd sc__law_wanted (fun cdv A outer s H E F bc =>
  (wss_cons (ws_if (t_eq bc.room.u65 (we_ix (u1 bc.room.u65) (we_var (i := 1) rfl (.inl rfl) nd_deed nc_deed) we_int (fun _ _ => rfl)) we_str rfl) (wss_cons (ws_setI (u1 bc.room.u65) (we_add (own := false) (we_ix (u1 bc.room.u65) (we_var (i := 0) rfl (.inl rfl) nd_side nc_side) we_str (fun _ _ => rfl)) we_int) (we_var (i := 0) rfl (.inl rfl) nd_side nc_side) we_str (fun _ => rfl) rfl rfl rfl)
  (wss_one (ws_ret we_str))) wss_nil)
  (wss_cons (ws_if (wt_not (wt_chain op_le op_lt od_cmp od_cmp we_int (we_ix (u1 bc.room.u65) (we_var (i := 1) rfl (.inl rfl) nd_deed nc_deed) we_int (fun _ _ => rfl)) (b_len rfl (n_len hd) (wa_cons (we_ix (u1 bc.room.u65) (we_var (i := 0) rfl (.inl rfl) nd_side nc_side) we_str (fun _ _ => rfl)) wa_nil rfl) rfl) rfl)) (wss_one (ws_ret we_str)) wss_nil)
  (wss_cons (ws_set (i := 2) sc__law_wanted.nd rfl (.inl rfl) (we_ix (u1 bc.room.u65) (we_var (i := 1) rfl (.inl rfl) nd_deed nc_deed) we_int (fun _ _ => rfl)) rfl (.inl rfl))
  (wss_cons (ws_asg (we_ix (u1 bc.room.u65) (we_ix (u1 bc.room.u65) (we_var (i := 0) rfl (.inl rfl) nd_side nc_side) we_str (fun _ _ => rfl)) (we_var (i := 2) rfl (.inl rfl) nd_pot nc_pot) (fun _ _ => rfl)) (wg_tup rfl (wgs_cons (wg_nm sc__law_wanted.nd rfl (.inl rfl) (.inl rfl)) (wgs_cons (wg_nm sc__law_wanted.nd rfl (.inl rfl) (.inl rfl)) (wgs_cons (wg_nm sc__law_wanted.nd rfl (.inl rfl) (.inl rfl)) (wgs_cons (wg_nm sc__law_wanted.nd rfl (.inl rfl) (.inl rfl)) (wgs_cons (wg_nm sc__law_wanted.nd rfl (.inl rfl) (.inl rfl)) wgs_nil (fun _ => rfl)) (fun _ => rfl)) (fun _ => rfl)) (fun _ => rfl)) (fun _ => rfl)) (fun _ => rfl) (fun _ => rfl)) rfl rfl rfl)
  (wss_cons (ws_set (i := 8) sc__law_wanted.nd rfl (.inl rfl) (we_ix (u1 bc.room.u65) (we_ix (u1 bc.room.u65) (we_var (i := 0) rfl (.inl rfl) nd_side nc_side) we_str (fun _ _ => rfl)) (we_var (i := 2) rfl (.inl rfl) nd_pot nc_pot) (fun _ _ => rfl)) rfl (.inl rfl))
  (wss_cons (ws_if (t_eq bc.room.u65 (we_ix (u1 bc.room.u65) (we_var (i := 1) rfl (.inl rfl) nd_deed nc_deed) we_int (fun _ _ => rfl)) we_str rfl) (wss_cons (ws_if (wt_not (wt_chain op_le op_lt od_cmp od_cmp we_int (we_ix (u1 bc.room.u65) (we_var (i := 1) rfl (.inl rfl) nd_deed nc_deed) we_int (fun _ _ => rfl)) we_int rfl)) (wss_one (ws_ret we_str)) wss_nil)
  (wss_cons (ws_expr (m_setd (we_ix (u1 bc.room.u65) (we_ix (u1 bc.room.u65) (we_var (i := 0) rfl (.inl rfl) nd_side nc_side) we_str (fun _ _ => rfl)) (we_var (i := 2) rfl (.inl rfl) nd_pot nc_pot) (fun _ _ => rfl)) (wa_cons (we_ix (u1 bc.room.u65) (we_var (i := 1) rfl (.inl rfl) nd_deed nc_deed) we_int (fun _ _ => rfl)) (wa_cons (we_ix (u1 bc.room.u65) (we_var (i := 0) rfl (.inl rfl) nd_side nc_side) we_str (fun _ _ => rfl)) wa_nil rfl) rfl) rfl rfl (by decide) rfl) rfl)
  (wss_one (ws_ret we_str)))) wss_nil)
  (wss_cons (ws_if (t_nin bc.room.u65 (we_ix (u1 bc.room.u65) (we_var (i := 1) rfl (.inl rfl) nd_deed nc_deed) we_int (fun _ _ => rfl)) (we_tup (wa_cons we_int (wa_cons we_int wa_nil rfl) rfl)) rfl) (wss_one (ws_ret we_str)) wss_nil)
  (wss_cons (ws_if (t_eq bc.room.u65 (we_ix (u1 bc.room.u65) (we_var (i := 1) rfl (.inl rfl) nd_deed nc_deed) we_int (fun _ _ => rfl)) we_str rfl) (wss_cons (ws_if (WW.wt (ww_or (t_ne bc.room.u65 (we_ix (u1 bc.room.u65) (we_var (i := 8) rfl (.inl rfl) nd_claim nc_claim) we_int (fun _ _ => rfl)) we_str rfl) (ww_or (t_eq bc.room.u65 (we_ix (u1 bc.room.u65) (we_var (i := 8) rfl (.inl rfl) nd_claim nc_claim) we_int (fun _ _ => rfl)) (we_ix (u1 bc.room.u65) (we_var (i := 1) rfl (.inl rfl) nd_deed nc_deed) we_int (fun _ _ => rfl)) rfl) (ww_or1 (t_ge (we_ix (u1 bc.room.u65) (we_var (i := 0) rfl (.inl rfl) nd_side nc_side) we_str (fun _ _ => rfl)) (we_add (own := false) (we_ix (u1 bc.room.u65) (we_var (i := 8) rfl (.inl rfl) nd_claim nc_claim) we_int (fun _ _ => rfl)) (we_var (i := 7) rfl (.inl rfl) nd_wait nc_wait)) rfl))))) (wss_one (ws_ret we_str)) wss_nil)
  (wss_cons (ws_if (t_ne bc.room.u65 (we_ix (u1 bc.room.u65) (we_var (i := 1) rfl (.inl rfl) nd_deed nc_deed) we_int (fun _ _ => rfl)) (we_tup (wa_cons we_str (wa_cons (we_var (i := 2) rfl (.inl rfl) nd_pot nc_pot) (wa_cons (we_ix (u1 bc.room.u65) (we_var (i := 8) rfl (.inl rfl) nd_claim nc_claim) we_int (fun _ _ => rfl)) (wa_cons (we_ix (u1 bc.room.u65) (we_ix (u1 bc.room.u65) (we_var (i := 8) rfl (.inl rfl) nd_claim nc_claim) we_int (fun _ _ => rfl)) we_int (fun _ _ => rfl)) wa_nil rfl) rfl) rfl) rfl)) rfl) (wss_one (ws_ret we_str)) wss_nil)
  (wss_cons (ws_setI (u1 bc.room.u65) (we_tup (wa_cons we_str (wa_cons (we_ix (u1 bc.room.u65) (we_var (i := 1) rfl (.inl rfl) nd_deed nc_deed) we_int (fun _ _ => rfl)) wa_nil rfl) rfl)) (we_ix (u1 bc.room.u65) (we_var (i := 0) rfl (.inl rfl) nd_side nc_side) we_str (fun _ _ => rfl)) (we_var (i := 2) rfl (.inl rfl) nd_pot nc_pot) (fun _ => rfl) rfl rfl rfl)
  (wss_one (ws_ret we_str))))) wss_nil)
  (wss_cons (ws_if (t_ne bc.room.u65 (we_add (own := false) (b_sum rfl rfl (n_sum hd) (wa_cons (we_ix (u1 bc.room.u65) (we_ix (u1 bc.room.u65) (we_var (i := 1) rfl (.inl rfl) nd_deed nc_deed) we_int (fun _ _ => rfl)) we_int (fun _ _ => rfl)) wa_nil rfl) rfl) (b_sum rfl rfl (n_sum hd) (wa_cons (we_lc (fr := false) (own := [(("tie" : Str), 10)]) (t := (.nm 10)) rfl sc__law_wanted.nd (wi_src (we_ix (u1 bc.room.u65) (we_ix (u1 bc.room.u65) (we_var (i := 1) rfl (.inl rfl) nd_deed nc_deed) we_int (fun _ _ => rfl)) we_int (fun _ _ => rfl))) (show BlkOk N__law_wanted (defScope (top 44)) _ [(("tie" : Str), 10)] from blkOk_by (by decide +kernel)) (by decide) (fun _ _ _ _ _ => (wg_nm sc__law_wanted.nd rfl (.inl rfl) (.inr rfl))) (fun _ _ _ _ _ => wts_nil) (fun _ _ _ _ _ => (we_ix (u1 bc.room.u65) (we_var (i := 10) rfl (.inl rfl) nd_tie nc_tie) we_int (fun _ _ => rfl))) (fun _ => rfl)) wa_nil rfl) rfl)) (we_add (own := false) (we_var (i := 5) rfl (.inl rfl) nd_one nc_one) (we_var (i := 6) rfl (.inl rfl) nd_other nc_other)) rfl) (wss_one (ws_ret we_str)) wss_nil)
  (wss_cons (ws_set (i := 9) sc__law_wanted.nd rfl (.inl rfl) (we_or (e_eq bc.room.u65 (we_ix (u1 bc.room.u65) (we_var (i := 1) rfl (.inl rfl) nd_deed nc_deed) we_int (fun _ _ => rfl)) (we_tup (wa_cons we_int (wa_cons (we_tup (wa_cons (we_var (i := 5) rfl (.inl rfl) nd_one nc_one) (wa_cons (we_var (i := 6) rfl (.inl rfl) nd_other nc_other) wa_nil rfl) rfl)) (wa_cons (we_tup wa_nil) wa_nil rfl) rfl) rfl)) rfl) (we_one (e_eq bc.room.u65 (we_ix (u1 bc.room.u65) (we_var (i := 1) rfl (.inl rfl) nd_deed nc_deed) we_int (fun _ _ => rfl)) (we_tup (wa_cons we_str (wa_cons (we_var (i := 2) rfl (.inl rfl) nd_pot nc_pot) (wa_cons (we_sub we_int (we_ix (u1 bc.room.u65) (we_var (i := 1) rfl (.inl rfl) nd_deed nc_deed) we_int (fun _ _ => rfl))) (wa_cons (we_ix (u1 bc.room.u65) (we_var (i := 1) rfl (.inl rfl) nd_deed nc_deed) we_int (fun _ _ => rfl)) wa_nil rfl) rfl) rfl) rfl)) rfl))) rfl (.inl rfl))
  (wss_cons (ws_if (WW.wt (ww_or (t_ne bc.room.u65 (we_var (i := 8) rfl (.inl rfl) nd_claim nc_claim) (we_tup (wa_cons we_str wa_nil rfl)) rfl) (ww_or1 (wt_not (wt_val (we_var (i := 9) rfl (.inl rfl) nd_agreed nc_agreed) (fun _ => rfl)))))) (wss_one (ws_ret we_str)) wss_nil)
  (wss_cons (ws_setI (u1 bc.room.u65) (we_tup (wa_cons we_str (wa_cons (we_ix (u1 bc.room.u65) (we_var (i := 1) rfl (.inl rfl) nd_deed nc_deed) we_int (fun _ _ => rfl)) (wa_cons (we_ix (u1 bc.room.u65) (we_var (i := 1) rfl (.inl rfl) nd_deed nc_deed) we_int (fun _ _ => rfl)) (wa_cons (we_ix (u1 bc.room.u65) (we_var (i := 0) rfl (.inl rfl) nd_side nc_side) we_str (fun _ _ => rfl)) wa_nil rfl) rfl) rfl) rfl)) (we_ix (u1 bc.room.u65) (we_var (i := 0) rfl (.inl rfl) nd_side nc_side) we_str (fun _ _ => rfl)) (we_var (i := 2) rfl (.inl rfl) nd_pot nc_pot) (fun _ => rfl) rfl rfl rfl)
  (wss_one (ws_ret we_str))))))))))))))) (fun _ _ _ _ h => h.1) (fun _ _ _ _ h => h.2)
theorem B__law_wanted (hd : Hd w K mg) : FnBd P w K mg base 1 (He.ga K "_law_wanted") 2 [] φ__law_wanted := by
  obtain ⟨fd, Fd⟩ := hd.c.t.d.def_ 20 (d := mkDD (("_law_wanted" : Str), none) "_law_wanted" "_law_wanted" (top 44) []) rfl
  exact fn_bd _ Fd (k__law_wanted hd Fd) (FunD.bindsN Fd fun _ _ _ _ _ _ us hl => match us, hl with | [_, _], _ => rfl)
/-! Book_next_day -/
def N_Book_next_day : List Str := ["self"]
theorem sc_Book_next_day : FnScope N_Book_next_day ["self"] (defScope (inClass (top 33) 3)) := ⟨rfl, rfl, rfl, by decide +kernel, rfl, by decide +kernel, by decide +kernel⟩
def w_Book_next_day : WpS := (wSetF ["Book"] "now" (wOp (fAdd false) (wFld "now" (wVar 0)) (wC (.int 1))) (wVar 0))
def φ_Book_next_day : SB.Spec := fun xs S R RE => xs.length = 1 ∧ w_Book_next_day (startE N_Book_next_day xs) S ⟨fun _ S' => Rz R .non S', Rz R, fun _ _ => False, fun _ _ => False⟩ (fun c _ S' => RE c S')
theorem k_Book_next_day (hd : Hd w K mg) {q nm : Str} {dvs : List V} {kws : List (Str × V)} {f : Addr} {fd : FuncData} (Fd : FunD K nm q (defArgs (inClass (top 33) 3)) (defBody (inClass (top 33) 3)) (defScope (inClass (top 33) 3)) dvs kws f fd) : FnOk P w K mg base (L2.CX P w) 1 f fd ["self"] (spOf K φ_Book_next_day) :=
  body_ok (N := N_Book_next_day) (ws := w_Book_next_day) Fd sc_Book_next_day (fun cdv A outer s H E F bc =>
  (wss_one (ws_setF (cs := ["Book"]) (f := "now") (na_Book_now hd) (we_add (own := false) (we_fld (f := "now") (we_var (i := 0) rfl (.inl rfl) nd_self nc_self) rfl) we_int) (we_var (i := 0) rfl (.inl rfl) nd_self nc_self) rfl))) (fun _ _ _ _ h => h.1) (fun _ _ _ _ h => h.2)
theorem B_Book_next_day (hd : Hd w K mg) {q nm : Str} {f : Addr} (Fd : ∃ fd, FunD K nm q (defArgs (inClass (top 33) 3)) (defBody (inClass (top 33) 3)) (defScope (inClass (top 33) 3)) [] [] f fd) : FnBd P w K mg base 1 f 1 [] φ_Book_next_day := by
  obtain ⟨fd, Fd⟩ := Fd
  exact fn_bd _ Fd (k_Book_next_day hd Fd) (FunD.bindsN Fd fun _ _ _ _ _ _ us hl => match us, hl with | [_], _ => rfl)
/-! Book_show -/
def N_Book_show : List Str := ["self", "pot", "word"]
theorem sc_Book_show : FnScope N_Book_show ["self", "pot", "word"] (defScope (inClass (top 33) 5)) := ⟨rfl, rfl, rfl, by decide +kernel, rfl, by decide +kernel, by decide +kernel⟩
def w_Book_show : WpS := (wSeq (wExpr (wMeth "look_for" cs_look_for (wVar 0) (wCons (wVar 1) wNil)))
  (wSeq (wIf (wB (wNot (wCall φ_in_bounds [] (wCons (wVar 2) (wCons (wC (.int 59)) wNil))))) (wRaise "NoDeed") wNx)
  (wExpr (wMt "dict" fSetd (wOp fIx (wFld "shows" (wVar 0)) (wVar 1)) (wCons (wVar 2) (wCons (wFld "now" (wVar 0)) wNil))))))
def φ_Book_show : SB.Spec := fun xs S R RE => xs.length = 3 ∧ w_Book_show (startE N_Book_show xs) S ⟨fun _ S' => Rz R .non S', Rz R, fun _ _ => False, fun _ _ => False⟩ (fun c _ S' => RE c S')
theorem k_Book_show (hd : Hd w K mg) {q nm : Str} {dvs : List V} {kws : List (Str × V)} {f : Addr} {fd : FuncData} (Fd : FunD K nm q (defArgs (inClass (top 33) 5)) (defBody (inClass (top 33) 5)) (defScope (inClass (top 33) 5)) dvs kws f fd) : FnOk P w K mg base (L2.CX P w) 3 f fd ["self", "pot", "word"] (spOf K φ_Book_show) :=
  body_ok (N := N_Book_show) (ws := w_Book_show) Fd sc_Book_show (fun cdv A outer s H E F bc =>
  (wss_cons (ws_expr (we_meth (m := "look_for") (cs := cs_look_for) (mt_look_for hd (by decide)) bc.room bc.tk (we_var (i := 0) rfl (.inl rfl) nd_self nc_self) (wa_cons (we_var (i := 1) rfl (.inl rfl) nd_pot nc_pot) wa_nil rfl) rfl rfl (by decide) rfl) rfl)
  (wss_cons (ws_if (wt_not (wt_val (we_call ((B_in_bounds hd).mono (by decide)) bc.room bc.tk rfl (g_in_bounds hd) (wa_cons (we_var (i := 2) rfl (.inl rfl) nd_word nc_word) (wa_cons (we_globI' (i_MOST_WORD hd) rfl nd_MOST_WORD) wa_nil rfl) rfl) rfl nd_in_bounds) (fun _ => rfl))) (wss_one (ws_raise (c := "NoDeed") PySem.F.excBase_ValueError (ex_NoDeed hd) rfl bc.tk (g_NoDeed hd) rfl nd_NoDeed)) wss_nil)
  (wss_one (ws_expr (m_setd (we_ix (u1 bc.room.u65) (we_fld (f := "shows") (we_var (i := 0) rfl (.inl rfl) nd_self nc_self) rfl) (we_var (i := 1) rfl (.inl rfl) nd_pot nc_pot) (fun _ _ => rfl)) (wa_cons (we_var (i := 2) rfl (.inl rfl) nd_word nc_word) (wa_cons (we_fld (f := "now") (we_var (i := 0) rfl (.inl rfl) nd_self nc_self) rfl) wa_nil rfl) rfl) rfl rfl (by decide) rfl) rfl))))) (fun _ _ _ _ h => h.1) (fun _ _ _ _ h => h.2)
theorem B_Book_show (hd : Hd w K mg) {q nm : Str} {f : Addr} (Fd : ∃ fd, FunD K nm q (defArgs (inClass (top 33) 5)) (defBody (inClass (top 33) 5)) (defScope (inClass (top 33) 5)) [] [] f fd) : FnBd P w K mg base 3 f 3 [] φ_Book_show := by
  obtain ⟨fd, Fd⟩ := Fd
  exact fn_bd _ Fd (k_Book_show hd Fd) (FunD.bindsN Fd fun _ _ _ _ _ _ us hl => match us, hl with | [_, _, _], _ => rfl)
/-! Claim_may_strike -/
def N_Claim_may_strike : List Str := ["self", "pot", "side", "day", "thing"]
theorem sc_Claim_may_strike : FnScope N_Claim_may_strike ["self", "pot", "side", "day", "thing"] (defScope (inClass (top 24) 2)) := ⟨rfl, rfl, rfl, by decide +kernel, rfl, by decide +kernel, by decide +kernel⟩
def w_Claim_may_strike : WpS := (wRet (wC (.bl false)))
def φ_Claim_may_strike : SB.Spec := fun xs S R RE => xs.length = 5 ∧ w_Claim_may_strike (startE N_Claim_may_strike xs) S ⟨fun _ S' => Rz R .non S', Rz R, fun _ _ => False, fun _ _ => False⟩ (fun c _ S' => RE c S')
theorem k_Claim_may_strike (hd : Hd w K mg) {q nm : Str} {dvs : List V} {kws : List (Str × V)} {f : Addr} {fd : FuncData} (Fd : FunD K nm q (defArgs (inClass (top 24) 2)) (defBody (inClass (top 24) 2)) (defScope (inClass (top 24) 2)) dvs kws f fd) : FnOk P w K mg base (L2.CX P w) 1 f fd ["self", "pot", "side", "day", "thing"] (spOf K φ_Claim_may_strike) :=
  body_ok (N := N_Claim_may_strike) (ws := w_Claim_may_strike) Fd sc_Claim_may_strike (fun cdv A outer s H E F bc =>
  (wss_one (ws_ret we_bl))) (fun _ _ _ _ h => h.1) (fun _ _ _ _ h => h.2)
theorem B_Claim_may_strike (hd : Hd w K mg) {q nm : Str} {f : Addr} (Fd : ∃ fd, FunD K nm q (defArgs (inClass (top 24) 2)) (defBody (inClass (top 24) 2)) (defScope (inClass (top 24) 2)) [] [] f fd) : FnBd P w K mg base 1 f 5 [] φ_Claim_may_strike := by
  obtain ⟨fd, Fd⟩ := Fd
  exact fn_bd _ Fd (k_Claim_may_strike hd Fd) (FunD.bindsN Fd fun _ _ _ _ _ _ us hl => match us, hl with | [_, _, _, _, _], _ => rfl)
/-! Laid_may_strike -/
def N_Laid_may_strike : List Str := ["self", "pot", "side", "day", "thing"]
theorem sc_Laid_may_strike : FnScope N_Laid_may_strike ["self", "pot", "side", "day", "thing"] (defScope (inClass (top 26) 3)) := ⟨rfl, rfl, rfl, by decide +kernel, rfl, by decide +kernel, by decide +kernel⟩
def w_Laid_may_strike : WpS := (wSeq (wIf (wB (wOr (wOp (fEq false) (wVar 2) (wFld "layer" (wVar 0))) (wOp (fCmp cmpGe) (wVar 3) (wOp (fAdd false) (wFld "begun" (wVar 0)) (wFld "patience" (wVar 0)))))) (wRet (wC (.bl false))) wNx)
  (wRet (wAnd (wCall φ_is_thing [] (wCons (wVar 4) wNil)) (wOp (fEq false) (wVar 4) (wTup (wCons (wC (.str ("strike" : Str))) (wCons (wVar 1) (wCons (wFld "layer" (wVar 0)) (wCons (wOp fIx (wFld "lying" (wVar 0)) (wC (.int 0))) wNil)))))))))
def φ_Laid_may_strike : SB.Spec := fun xs S R RE => xs.length = 5 ∧ w_Laid_may_strike (startE N_Laid_may_strike xs) S ⟨fun _ S' => Rz R .non S', Rz R, fun _ _ => False, fun _ _ => False⟩ (fun c _ S' => RE c S')
theorem k_Laid_may_strike (hd : Hd w K mg) {q nm : Str} {dvs : List V} {kws : List (Str × V)} {f : Addr} {fd : FuncData} (Fd : FunD K nm q (defArgs (inClass (top 26) 3)) (defBody (inClass (top 26) 3)) (defScope (inClass (top 26) 3)) dvs kws f fd) : FnOk P w K mg base (L2.CX P w) 7 f fd ["self", "pot", "side", "day", "thing"] (spOf K φ_Laid_may_strike) :=
  body_ok (N := N_Laid_may_strike) (ws := w_Laid_may_strike) Fd sc_Laid_may_strike (fun cdv A outer s H E F bc =>
  (wss_cons (ws_if (WW.wt (ww_or (t_eq bc.room.u65 (we_var (i := 2) rfl (.inl rfl) nd_side nc_side) (we_fld (f := "layer") (we_var (i := 0) rfl (.inl rfl) nd_self nc_self) rfl) rfl) (ww_or1 (t_ge (we_var (i := 3) rfl (.inl rfl) nd_day nc_day) (we_add (own := false) (we_fld (f := "begun") (we_var (i := 0) rfl (.inl rfl) nd_self nc_self) rfl) (we_fld (f := "patience") (we_var (i := 0) rfl (.inl rfl) nd_self nc_self) rfl)) rfl)))) (wss_one (ws_ret we_bl)) wss_nil)
  (wss_one (ws_ret (we_and (we_call ((B_is_thing hd).mono (by decide)) bc.room bc.tk rfl (g_is_thing hd) (wa_cons (we_var (i := 4) rfl (.inl rfl) nd_thing nc_thing) wa_nil rfl) rfl nd_is_thing) (we_one (e_eq bc.room.u65 (we_var (i := 4) rfl (.inl rfl) nd_thing nc_thing) (we_tup (wa_cons we_str (wa_cons (we_var (i := 1) rfl (.inl rfl) nd_pot nc_pot) (wa_cons (we_fld (f := "layer") (we_var (i := 0) rfl (.inl rfl) nd_self nc_self) rfl) (wa_cons (we_ix (u1 bc.room.u65) (we_fld (f := "lying") (we_var (i := 0) rfl (.inl rfl) nd_self nc_self) rfl) we_int (fun _ _ => rfl)) wa_nil rfl) rfl) rfl) rfl)) rfl))))))) (fun _ _ _ _ h => h.1) (fun _ _ _ _ h => h.2)
theorem B_Laid_may_strike (hd : Hd w K mg) {q nm : Str} {f : Addr} (Fd : ∃ fd, FunD K nm q (defArgs (inClass (top 26) 3)) (defBody (inClass (top 26) 3)) (defScope (inClass (top 26) 3)) [] [] f fd) : FnBd P w K mg base 7 f 5 [] φ_Laid_may_strike := by
  obtain ⟨fd, Fd⟩ := Fd
  exact fn_bd _ Fd (k_Laid_may_strike hd Fd) (FunD.bindsN Fd fun _ _ _ _ _ _ us hl => match us, hl with | [_, _, _, _, _], _ => rfl)
/-! Taken___init__ -/
def N_Taken___init__ : List Str := ["self", "whole", "side"]
theorem sc_Taken___init__ : FnScope N_Taken___init__ ["self", "whole", "side"] (defScope (inClass (top 27) 0)) := ⟨rfl, rfl, rfl, by decide +kernel, rfl, by decide +kernel, by decide +kernel⟩
def w_Taken___init__ : WpS := (wSeq (wSetF ["Held", "Laid", "Taken"] "whole" (wVar 1) (wVar 0))
  (wSetF ["Taken"] "taker" (wVar 2) (wVar 0)))
def φ_Taken___init__ : SB.Spec := fun xs S R RE => xs.length = 3 ∧ w_Taken___init__ (startE N_Taken___init__ xs) S ⟨fun _ S' => Rz R .non S', Rz R, fun _ _ => False, fun _ _ => False⟩ (fun c _ S' => RE c S')
theorem k_Taken___init__ (hd : Hd w K mg) {q nm : Str} {dvs : List V} {kws : List (Str × V)} {f : Addr} {fd : FuncData} (Fd : FunD K nm q (defArgs (inClass (top 27) 0)) (defBody (inClass (top 27) 0)) (defScope (inClass (top 27) 0)) dvs kws f fd) : FnOk P w K mg base (L2.CX P w) 1 f fd ["self", "whole", "side"] (spOf K φ_Taken___init__) :=
  body_ok (N := N_Taken___init__) (ws := w_Taken___init__) Fd sc_Taken___init__ (fun cdv A outer s H E F bc =>
  (wss_cons (ws_setF (cs := ["Held", "Laid", "Taken"]) (f := "whole") (na_Held_Laid_Taken_whole hd) (we_var (i := 1) rfl (.inl rfl) nd_whole nc_whole) (we_var (i := 0) rfl (.inl rfl) nd_self nc_self) rfl)
  (wss_one (ws_setF (cs := ["Taken"]) (f := "taker") (na_Taken_taker hd) (we_var (i := 2) rfl (.inl rfl) nd_side nc_side) (we_var (i := 0) rfl (.inl rfl) nd_self nc_self) rfl)))) (fun _ _ _ _ h => h.1) (fun _ _ _ _ h => h.2)
theorem B_Taken___init__ (hd : Hd w K mg) {q nm : Str} {f : Addr} (Fd : ∃ fd, FunD K nm q (defArgs (inClass (top 27) 0)) (defBody (inClass (top 27) 0)) (defScope (inClass (top 27) 0)) [] [] f fd) : FnBd P w K mg base 1 f 3 [] φ_Taken___init__ := by
  obtain ⟨fd, Fd⟩ := Fd
  exact fn_bd _ Fd (k_Taken___init__ hd Fd) (FunD.bindsN Fd fun _ _ _ _ _ _ us hl => match us, hl with | [_, _, _], _ => rfl)
def cs_look_for_1 : List (String × Nat × List D × SB.Spec) := [("Book", 3, [], φ_Book_look_for)]
theorem mt_look_for_1 {k : Nat} (hd : Hd w K mg) (hk : 2 ≤ k) : ∀ c nd, cs_look_for_1.lookup c = some nd → MtBd P w K mg base k (clA K c) "look_for" nd.1 nd.2.1 nd.2.2 := (mts_cons ⟨_, me_Book_look_for hd, (B_Book_look_for hd (hd.c.t.d.def_ 42 rfl)).mono (Nat.le_trans (by decide) hk)⟩ mts_nil)
def cs_may_strike : List (String × Nat × List D × SB.Spec) := [("Claim", 5, [], φ_Claim_may_strike), ("Held", 5, [], φ_Claim_may_strike), ("Laid", 5, [], φ_Laid_may_strike), ("Taken", 5, [], φ_Claim_may_strike)]
theorem mt_may_strike {k : Nat} (hd : Hd w K mg) (hk : 7 ≤ k) : ∀ c nd, cs_may_strike.lookup c = some nd → MtBd P w K mg base k (clA K c) "may_strike" nd.1 nd.2.1 nd.2.2 := (mts_cons ⟨_, me_Claim_may_strike hd, (B_Claim_may_strike hd (hd.c.t.d.def_ 25 rfl)).mono (Nat.le_trans (by decide) hk)⟩ (mts_cons ⟨_, me_Held_may_strike hd, (B_Claim_may_strike hd (hd.c.t.d.def_ 28 rfl)).mono (Nat.le_trans (by decide) hk)⟩ (mts_cons ⟨_, me_Laid_may_strike hd, (B_Laid_may_strike hd (hd.c.t.d.def_ 32 rfl)).mono (Nat.le_trans (by decide) hk)⟩ (mts_cons ⟨_, me_Taken_may_strike hd, (B_Claim_may_strike hd (hd.c.t.d.def_ 36 rfl)).mono (Nat.le_trans (by decide) hk)⟩ mts_nil))))
theorem Mk_Taken (hd : Hd w K mg) : MkBd P w K mg base 1 "Taken" 3 [] φ_Taken___init__ := ⟨⟨_, mkr_Taken hd, B_Taken___init__ hd (hd.c.t.d.def_ 37 rfl)⟩, cl_Taken hd⟩
/-! Book_strike -/
def N_Book_strike : List Str := ["self", "pot", "side", "thing"]
theorem sc_Book_strike : FnScope N_Book_strike ["self", "pot", "side", "thing"] (defScope (inClass (top 33) 8)) := ⟨rfl, rfl, rfl, by decide +kernel, rfl, by decide +kernel, by decide +kernel⟩
def w_Book_strike : WpS := (wSeq (wExpr (wMeth "look_for" cs_look_for_1 (wVar 0) (wCons (wVar 1) (wCons (wVar 2) wNil))))
  (wSeq (wIf (wB (wNot (wMeth "may_strike" cs_may_strike (wOp fIx (wFld "claims" (wVar 0)) (wVar 1)) (wCons (wVar 1) (wCons (wVar 2) (wCons (wFld "now" (wVar 0)) (wCons (wVar 3) wNil))))))) (wRaise "NoDeed") wNx)
  (wSetI (wMake false "Taken" [] φ_Taken___init__ (wCons (wFld "whole" (wOp fIx (wFld "claims" (wVar 0)) (wVar 1))) (wCons (wVar 2) wNil))) (wFld "claims" (wVar 0)) (wVar 1))))
def φ_Book_strike : SB.Spec := fun xs S R RE => xs.length = 4 ∧ w_Book_strike (startE N_Book_strike xs) S ⟨fun _ S' => Rz R .non S', Rz R, fun _ _ => False, fun _ _ => False⟩ (fun c _ S' => RE c S')
theorem k_Book_strike (hd : Hd w K mg) {q nm : Str} {dvs : List V} {kws : List (Str × V)} {f : Addr} {fd : FuncData} (Fd : FunD K nm q (defArgs (inClass (top 33) 8)) (defBody (inClass (top 33) 8)) (defScope (inClass (top 33) 8)) dvs kws f fd) : FnOk P w K mg base (L2.CX P w) 8 f fd ["self", "pot", "side", "thing"] (spOf K φ_Book_strike) :=
  body_ok (N := N_Book_strike) (ws := w_Book_strike) Fd sc_Book_strike (fun cdv A outer s H E F bc =>
  (wss_cons (ws_expr (we_meth (m := "look_for") (cs := cs_look_for_1) (mt_look_for_1 hd (by decide)) bc.room bc.tk (we_var (i := 0) rfl (.inl rfl) nd_self nc_self) (wa_cons (we_var (i := 1) rfl (.inl rfl) nd_pot nc_pot) (wa_cons (we_var (i := 2) rfl (.inl rfl) nd_side nc_side) wa_nil rfl) rfl) rfl rfl (by decide) rfl) rfl)
  (wss_cons (ws_if (wt_not (wt_val (we_meth (m := "may_strike") (cs := cs_may_strike) (mt_may_strike hd (by decide)) bc.room bc.tk (we_ix (u1 bc.room.u65) (we_fld (f := "claims") (we_var (i := 0) rfl (.inl rfl) nd_self nc_self) rfl) (we_var (i := 1) rfl (.inl rfl) nd_pot nc_pot) (fun _ _ => rfl)) (wa_cons (we_var (i := 1) rfl (.inl rfl) nd_pot nc_pot) (wa_cons (we_var (i := 2) rfl (.inl rfl) nd_side nc_side) (wa_cons (we_fld (f := "now") (we_var (i := 0) rfl (.inl rfl) nd_self nc_self) rfl) (wa_cons (we_var (i := 3) rfl (.inl rfl) nd_thing nc_thing) wa_nil rfl) rfl) rfl) rfl) rfl rfl (by decide) rfl) (fun _ => rfl))) (wss_one (ws_raise (c := "NoDeed") PySem.F.excBase_ValueError (ex_NoDeed hd) rfl bc.tk (g_NoDeed hd) rfl nd_NoDeed)) wss_nil)
  (wss_one (ws_setI (u1 bc.room.u65) (we_make (own := false) (k := 6) ((Mk_Taken hd).mono' (by decide)) bc.room bc.tk rfl (g_Taken hd) (wa_cons (we_fld (f := "whole") (we_ix (u1 bc.room.u65) (we_fld (f := "claims") (we_var (i := 0) rfl (.inl rfl) nd_self nc_self) rfl) (we_var (i := 1) rfl (.inl rfl) nd_pot nc_pot) (fun _ _ => rfl)) rfl) (wa_cons (we_var (i := 2) rfl (.inl rfl) nd_side nc_side) wa_nil rfl) rfl) rfl nd_Taken) (we_fld (f := "claims") (we_var (i := 0) rfl (.inl rfl) nd_self nc_self) rfl) (we_var (i := 1) rfl (.inl rfl) nd_pot nc_pot) (fun _ => rfl) rfl rfl rfl))))) (fun _ _ _ _ h => h.1) (fun _ _ _ _ h => h.2)
theorem B_Book_strike (hd : Hd w K mg) {q nm : Str} {f : Addr} (Fd : ∃ fd, FunD K nm q (defArgs (inClass (top 33) 8)) (defBody (inClass (top 33) 8)) (defScope (inClass (top 33) 8)) [] [] f fd) : FnBd P w K mg base 8 f 4 [] φ_Book_strike := by
  obtain ⟨fd, Fd⟩ := Fd
  exact fn_bd _ Fd (k_Book_strike hd Fd) (FunD.bindsN Fd fun _ _ _ _ _ _ us hl => match us, hl with | [_, _, _, _], _ => rfl)
/-! Book_agreed -/
def N_Book_agreed : List Str := ["self", "pot", "side", "stand", "agreement"]
theorem sc_Book_agreed : FnScope N_Book_agreed ["self", "pot", "side", "stand", "agreement"] (defScope (inClass (top 33) 6)) := ⟨rfl, rfl, rfl, by decide +kernel, rfl, by decide +kernel, by decide +kernel⟩
def w_Book_agreed : WpS := (wSeq (wIf (wB (wOp (fEq false) (wVar 3) (wCall φ_first [] (wCons (wOp fIx (wOp fIx (wFld "kept" (wVar 0)) (wVar 1)) (wC (.int 2))) (wCons (wOp fIx (wOp fIx (wFld "kept" (wVar 0)) (wVar 1)) (wC (.int 3))) wNil))))) (wRet (wC (.bl true))) wNx)
  (wRet (wAnd (wCall φ_is_thing [] (wCons (wVar 4) wNil)) (wOp (fEq false) (wVar 4) (wTup (wCons (wC (.str ("agree" : Str))) (wCons (wVar 1) (wCons (wOp fSub (wC (.int 1)) (wVar 2)) (wCons (wVar 3) wNil)))))))))
def φ_Book_agreed : SB.Spec := fun xs S R RE => xs.length = 5 ∧ w_Book_agreed (startE N_Book_agreed xs) S ⟨fun _ S' => Rz R .non S', Rz R, fun _ _ => False, fun _ _ => False⟩ (fun c _ S' => RE c S')
theorem k_Book_agreed (hd : Hd w K mg) {q nm : Str} {dvs : List V} {kws : List (Str × V)} {f : Addr} {fd : FuncData} (Fd : FunD K nm q (defArgs (inClass (top 33) 6)) (defBody (inClass (top 33) 6)) (defScope (inClass (top 33) 6)) dvs kws f fd) : FnOk P w K mg base (L2.CX P w) 7 f fd ["self", "pot", "side", "stand", "agreement"] (spOf K φ_Book_agreed) :=
  body_ok (N := N_Book_agreed) (ws := w_Book_agreed) Fd sc_Book_agreed (fun cdv A outer s H E F bc =>
  (wss_cons (ws_if (t_eq bc.room.u65 (we_var (i := 3) rfl (.inl rfl) nd_stand nc_stand) (we_call ((B_first hd).mono (by decide)) bc.room bc.tk rfl (g_first hd) (wa_cons (we_ix (u1 bc.room.u65) (we_ix (u1 bc.room.u65) (we_fld (f := "kept") (we_var (i := 0) rfl (.inl rfl) nd_self nc_self) rfl) (we_var (i := 1) rfl (.inl rfl) nd_pot nc_pot) (fun _ _ => rfl)) we_int (fun _ _ => rfl)) (wa_cons (we_ix (u1 bc.room.u65) (we_ix (u1 bc.room.u65) (we_fld (f := "kept") (we_var (i := 0) rfl (.inl rfl) nd_self nc_self) rfl) (we_var (i := 1) rfl (.inl rfl) nd_pot nc_pot) (fun _ _ => rfl)) we_int (fun _ _ => rfl)) wa_nil rfl) rfl) rfl nd_first) rfl) (wss_one (ws_ret we_bl)) wss_nil)
  (wss_one (ws_ret (we_and (we_call ((B_is_thing hd).mono (by decide)) bc.room bc.tk rfl (g_is_thing hd) (wa_cons (we_var (i := 4) rfl (.inl rfl) nd_agreement nc_agreement) wa_nil rfl) rfl nd_is_thing) (we_one (e_eq bc.room.u65 (we_var (i := 4) rfl (.inl rfl) nd_agreement nc_agreement) (we_tup (wa_cons we_str (wa_cons (we_var (i := 1) rfl (.inl rfl) nd_pot nc_pot) (wa_cons (we_sub we_int (we_var (i := 2) rfl (.inl rfl) nd_side nc_side)) (wa_cons (we_var (i := 3) rfl (.inl rfl) nd_stand nc_stand) wa_nil rfl) rfl) rfl) rfl)) rfl))))))) (fun _ _ _ _ h => h.1) (fun _ _ _ _ h => h.2)
theorem B_Book_agreed (hd : Hd w K mg) {q nm : Str} {f : Addr} (Fd : ∃ fd, FunD K nm q (defArgs (inClass (top 33) 6)) (defBody (inClass (top 33) 6)) (defScope (inClass (top 33) 6)) [] [] f fd) : FnBd P w K mg base 7 f 5 [] φ_Book_agreed := by
  obtain ⟨fd, Fd⟩ := Fd
  exact fn_bd _ Fd (k_Book_agreed hd Fd) (FunD.bindsN Fd fun _ _ _ _ _ _ us hl => match us, hl with | [_, _, _, _, _], _ => rfl)
/-! Laid___init__ -/
def N_Laid___init__ : List Str := ["self", "whole", "side", "stand", "day", "wait"]
theorem sc_Laid___init__ : FnScope N_Laid___init__ ["self", "whole", "side", "stand", "day", "wait"] (defScope (inClass (top 26) 0)) := ⟨rfl, rfl, rfl, by decide +kernel, rfl, by decide +kernel, by decide +kernel⟩
def w_Laid___init__ : WpS := (wSeq (wSetF ["Held", "Laid", "Taken"] "whole" (wVar 1) (wVar 0))
  (wSeq (wSetF ["Laid"] "layer" (wVar 2) (wVar 0))
  (wSeq (wSetF ["Laid"] "lying" (wVar 3) (wVar 0))
  (wSeq (wSetF ["Laid"] "begun" (wVar 4) (wVar 0))
  (wSetF ["Laid"] "patience" (wVar 5) (wVar 0))))))
def φ_Laid___init__ : SB.Spec := fun xs S R RE => xs.length = 6 ∧ w_Laid___init__ (startE N_Laid___init__ xs) S ⟨fun _ S' => Rz R .non S', Rz R, fun _ _ => False, fun _ _ => False⟩ (fun c _ S' => RE c S')
theorem k_Laid___init__ (hd : Hd w K mg) {q nm : Str} {dvs : List V} {kws : List (Str × V)} {f : Addr} {fd : FuncData} (Fd : FunD K nm q (defArgs (inClass (top 26) 0)) (defBody (inClass (top 26) 0)) (defScope (inClass (top 26) 0)) dvs kws f fd) : FnOk P w K mg base (L2.CX P w) 1 f fd ["self", "whole", "side", "stand", "day", "wait"] (spOf K φ_Laid___init__) :=
  body_ok (N := N_Laid___init__) (ws := w_Laid___init__) Fd sc_Laid___init__ (fun cdv A outer s H E F bc =>
  (wss_cons (ws_setF (cs := ["Held", "Laid", "Taken"]) (f := "whole") (na_Held_Laid_Taken_whole hd) (we_var (i := 1) rfl (.inl rfl) nd_whole nc_whole) (we_var (i := 0) rfl (.inl rfl) nd_self nc_self) rfl)
  (wss_cons (ws_setF (cs := ["Laid"]) (f := "layer") (na_Laid_layer hd) (we_var (i := 2) rfl (.inl rfl) nd_side nc_side) (we_var (i := 0) rfl (.inl rfl) nd_self nc_self) rfl)
  (wss_cons (ws_setF (cs := ["Laid"]) (f := "lying") (na_Laid_lying hd) (we_var (i := 3) rfl (.inl rfl) nd_stand nc_stand) (we_var (i := 0) rfl (.inl rfl) nd_self nc_self) rfl)
  (wss_cons (ws_setF (cs := ["Laid"]) (f := "begun") (na_Laid_begun hd) (we_var (i := 4) rfl (.inl rfl) nd_day nc_day) (we_var (i := 0) rfl (.inl rfl) nd_self nc_self) rfl)
  (wss_one (ws_setF (cs := ["Laid"]) (f := "patience") (na_Laid_patience hd) (we_var (i := 5) rfl (.inl rfl) nd_wait nc_wait) (we_var (i := 0) rfl (.inl rfl) nd_self nc_self) rfl))))))) (fun _ _ _ _ h => h.1) (fun _ _ _ _ h => h.2)
theorem B_Laid___init__ (hd : Hd w K mg) {q nm : Str} {f : Addr} (Fd : ∃ fd, FunD K nm q (defArgs (inClass (top 26) 0)) (defBody (inClass (top 26) 0)) (defScope (inClass (top 26) 0)) [] [] f fd) : FnBd P w K mg base 1 f 6 [] φ_Laid___init__ := by
  obtain ⟨fd, Fd⟩ := Fd
  exact fn_bd _ Fd (k_Laid___init__ hd Fd) (FunD.bindsN Fd fun _ _ _ _ _ _ us hl => match us, hl with | [_, _, _, _, _, _], _ => rfl)
def cs_agreed : List (String × Nat × List D × SB.Spec) := [("Book", 5, [], φ_Book_agreed)]
theorem mt_agreed {k : Nat} (hd : Hd w K mg) (hk : 7 ≤ k) : ∀ c nd, cs_agreed.lookup c = some nd → MtBd P w K mg base k (clA K c) "agreed" nd.1 nd.2.1 nd.2.2 := (mts_cons ⟨_, me_Book_agreed hd, (B_Book_agreed hd (hd.c.t.d.def_ 44 rfl)).mono (Nat.le_trans (by decide) hk)⟩ mts_nil)
theorem Mk_Laid (hd : Hd w K mg) : MkBd P w K mg base 1 "Laid" 6 [] φ_Laid___init__ := ⟨⟨_, mkr_Laid hd, B_Laid___init__ hd (hd.c.t.d.def_ 33 rfl)⟩, cl_Laid hd⟩
/-! Book_lay -/
def N_Book_lay : List Str := ["self", "pot", "side", "stand", "agreement"]
theorem sc_Book_lay : FnScope N_Book_lay ["self", "pot", "side", "stand", "agreement"] (defScope (inClass (top 33) 7)) := ⟨rfl, rfl, rfl, by decide +kernel, rfl, by decide +kernel, by decide +kernel⟩
def w_Book_lay : WpS := (wSeq (wExpr (wMeth "look_for" cs_look_for_1 (wVar 0) (wCons (wVar 1) (wCons (wVar 2) wNil))))
  (wSeq (wIf (wB (wOr (wNot (wCall φ_is_stand [] (wCons (wVar 3) wNil))) (wOp (fEq true) (wCall φ_deals [] (wCons (wVar 3) wNil)) (wFld "whole" (wOp fIx (wFld "claims" (wVar 0)) (wVar 1)))))) (wRaise "NoStand") wNx)
  (wSeq (wIf (wB (wOr (wOp (fEq true) (wMeth "told" cs_told (wVar 0) (wCons (wVar 1) wNil)) (wTup (wCons (wC (.str ("held" : Str))) wNil))) (wNot (wMeth "agreed" cs_agreed (wVar 0) (wCons (wVar 1) (wCons (wVar 2) (wCons (wVar 3) (wCons (wVar 4) wNil)))))))) (wRaise "NoDeed") wNx)
  (wSetI (wMake false "Laid" [] φ_Laid___init__ (wCons (wFld "whole" (wOp fIx (wFld "claims" (wVar 0)) (wVar 1))) (wCons (wVar 2) (wCons (wVar 3) (wCons (wFld "now" (wVar 0)) (wCons (wOp fIx (wOp fIx (wFld "kept" (wVar 0)) (wVar 1)) (wC (.int 4))) wNil)))))) (wFld "claims" (wVar 0)) (wVar 1)))))
def φ_Book_lay : SB.Spec := fun xs S R RE => xs.length = 5 ∧ w_Book_lay (startE N_Book_lay xs) S ⟨fun _ S' => Rz R .non S', Rz R, fun _ _ => False, fun _ _ => False⟩ (fun c _ S' => RE c S')
theorem k_Book_lay (hd : Hd w K mg) {q nm : Str} {dvs : List V} {kws : List (Str × V)} {f : Addr} {fd : FuncData} (Fd : FunD K nm q (defArgs (inClass (top 33) 7)) (defBody (inClass (top 33) 7)) (defScope (inClass (top 33) 7)) dvs kws f fd) : FnOk P w K mg base (L2.CX P w) 8 f fd ["self", "pot", "side", "stand", "agreement"] (spOf K φ_Book_lay) :=
  body_ok (N := N_Book_lay) (ws := w_Book_lay) Fd sc_Book_lay (fun cdv A outer s H E F bc =>
  (wss_cons (ws_expr (we_meth (m := "look_for") (cs := cs_look_for_1) (mt_look_for_1 hd (by decide)) bc.room bc.tk (we_var (i := 0) rfl (.inl rfl) nd_self nc_self) (wa_cons (we_var (i := 1) rfl (.inl rfl) nd_pot nc_pot) (wa_cons (we_var (i := 2) rfl (.inl rfl) nd_side nc_side) wa_nil rfl) rfl) rfl rfl (by decide) rfl) rfl)
  (wss_cons (ws_if (WW.wt (ww_or (wt_not (wt_val (we_call ((B_is_stand hd).mono (by decide)) bc.room bc.tk rfl (g_is_stand hd) (wa_cons (we_var (i := 3) rfl (.inl rfl) nd_stand nc_stand) wa_nil rfl) rfl nd_is_stand) (fun _ => rfl))) (ww_or1 (t_ne bc.room.u65 (we_call ((B_deals hd).mono (by decide)) bc.room bc.tk rfl (g_deals hd) (wa_cons (we_var (i := 3) rfl (.inl rfl) nd_stand nc_stand) wa_nil rfl) rfl nd_deals) (we_fld (f := "whole") (we_ix (u1 bc.room.u65) (we_fld (f := "claims") (we_var (i := 0) rfl (.inl rfl) nd_self nc_self) rfl) (we_var (i := 1) rfl (.inl rfl) nd_pot nc_pot) (fun _ _ => rfl)) rfl) rfl)))) (wss_one (ws_raise (c := "NoStand") PySem.F.excBase_ValueError (ex_NoStand hd) rfl bc.tk (g_NoStand hd) rfl nd_NoStand)) wss_nil)
  (wss_cons (ws_if (WW.wt (ww_or (t_ne bc.room.u65 (we_meth (m := "told") (cs := cs_told) (mt_told hd (by decide)) bc.room bc.tk (we_var (i := 0) rfl (.inl rfl) nd_self nc_self) (wa_cons (we_var (i := 1) rfl (.inl rfl) nd_pot nc_pot) wa_nil rfl) rfl rfl (by decide) rfl) (we_tup (wa_cons we_str wa_nil rfl)) rfl) (ww_or1 (wt_not (wt_val (we_meth (m := "agreed") (cs := cs_agreed) (mt_agreed hd (by decide)) bc.room bc.tk (we_var (i := 0) rfl (.inl rfl) nd_self nc_self) (wa_cons (we_var (i := 1) rfl (.inl rfl) nd_pot nc_pot) (wa_cons (we_var (i := 2) rfl (.inl rfl) nd_side nc_side) (wa_cons (we_var (i := 3) rfl (.inl rfl) nd_stand nc_stand) (wa_cons (we_var (i := 4) rfl (.inl rfl) nd_agreement nc_agreement) wa_nil rfl) rfl) rfl) rfl) rfl rfl (by decide) rfl) (fun _ => rfl)))))) (wss_one (ws_raise (c := "NoDeed") PySem.F.excBase_ValueError (ex_NoDeed hd) rfl bc.tk (g_NoDeed hd) rfl nd_NoDeed)) wss_nil)
  (wss_one (ws_setI (u1 bc.room.u65) (we_make (own := false) (k := 6) ((Mk_Laid hd).mono' (by decide)) bc.room bc.tk rfl (g_Laid hd) (wa_cons (we_fld (f := "whole") (we_ix (u1 bc.room.u65) (we_fld (f := "claims") (we_var (i := 0) rfl (.inl rfl) nd_self nc_self) rfl) (we_var (i := 1) rfl (.inl rfl) nd_pot nc_pot) (fun _ _ => rfl)) rfl) (wa_cons (we_var (i := 2) rfl (.inl rfl) nd_side nc_side) (wa_cons (we_var (i := 3) rfl (.inl rfl) nd_stand nc_stand) (wa_cons (we_fld (f := "now") (we_var (i := 0) rfl (.inl rfl) nd_self nc_self) rfl) (wa_cons (we_ix (u1 bc.room.u65) (we_ix (u1 bc.room.u65) (we_fld (f := "kept") (we_var (i := 0) rfl (.inl rfl) nd_self nc_self) rfl) (we_var (i := 1) rfl (.inl rfl) nd_pot nc_pot) (fun _ _ => rfl)) we_int (fun _ _ => rfl)) wa_nil rfl) rfl) rfl) rfl) rfl) rfl nd_Laid) (we_fld (f := "claims") (we_var (i := 0) rfl (.inl rfl) nd_self nc_self) rfl) (we_var (i := 1) rfl (.inl rfl) nd_pot nc_pot) (fun _ => rfl) rfl rfl rfl)))))) (fun _ _ _ _ h => h.1) (fun _ _ _ _ h => h.2)
theorem B_Book_lay (hd : Hd w K mg) {q nm : Str} {f : Addr} (Fd : ∃ fd, FunD K nm q (defArgs (inClass (top 33) 7)) (defBody (inClass (top 33) 7)) (defScope (inClass (top 33) 7)) [.non] [] f fd) : FnBd P w K mg base 8 f 5 [] φ_Book_lay := by
  obtain ⟨fd, Fd⟩ := Fd
  exact fn_bdD _ [] Fd (k_Book_lay hd Fd) (FunD.binds1 Fd 5 1 (by intro z; cases z) rfl (fun T kV doc pm an cdv ct us its h1 h2 => match us, its, h1, h2 with | [_, _, _, _, _], [_], _, _ => ⟨_, rfl, rfl⟩)) (fun S H => .nil)
def cs_next_day : List (String × Nat × List D × SB.Spec) := [("Book", 1, [], φ_Book_next_day)]
theorem mt_next_day {k : Nat} (hd : Hd w K mg) (hk : 1 ≤ k) : ∀ c nd, cs_next_day.lookup c = some nd → MtBd P w K mg base k (clA K c) "next_day" nd.1 nd.2.1 nd.2.2 := (mts_cons ⟨_, me_Book_next_day hd, (B_Book_next_day hd (hd.c.t.d.def_ 41 rfl)).mono (Nat.le_trans (by decide) hk)⟩ mts_nil)
def cs_show : List (String × Nat × List D × SB.Spec) := [("Book", 3, [], φ_Book_show)]
theorem mt_show {k : Nat} (hd : Hd w K mg) (hk : 3 ≤ k) : ∀ c nd, cs_show.lookup c = some nd → MtBd P w K mg base k (clA K c) "show" nd.1 nd.2.1 nd.2.2 := (mts_cons ⟨_, me_Book_show hd, (B_Book_show hd (hd.c.t.d.def_ 43 rfl)).mono (Nat.le_trans (by decide) hk)⟩ mts_nil)
def cs_strike : List (String × Nat × List D × SB.Spec) := [("Book", 4, [], φ_Book_strike)]
theorem mt_strike {k : Nat} (hd : Hd w K mg) (hk : 8 ≤ k) : ∀ c nd, cs_strike.lookup c = some nd → MtBd P w K mg base k (clA K c) "strike" nd.1 nd.2.1 nd.2.2 := (mts_cons ⟨_, me_Book_strike hd, (B_Book_strike hd (hd.c.t.d.def_ 46 rfl)).mono (Nat.le_trans (by decide) hk)⟩ mts_nil)
def cs_lay : List (String × Nat × List D × SB.Spec) := [("Book", 5, [], φ_Book_lay)]
theorem mt_lay {k : Nat} (hd : Hd w K mg) (hk : 8 ≤ k) : ∀ c nd, cs_lay.lookup c = some nd → MtBd P w K mg base k (clA K c) "lay" nd.1 nd.2.1 nd.2.2 := (mts_cons ⟨_, me_Book_lay hd, (B_Book_lay hd (hd.c.t.d.def_ 45 rfl)).mono (Nat.le_trans (by decide) hk)⟩ mts_nil)
/-! _law_done -/
def N__law_done : List Str := ["book", "deed", "word", "e", "kinds"]
theorem sc__law_done : FnScope N__law_done ["book", "deed"] (defScope (top 45)) := ⟨rfl, rfl, rfl, by decide +kernel, rfl, by decide +kernel, by decide +kernel⟩
def w__law_done : WpS := (wSeq (wSet 2 (wC (.str ("done" : Str))))
  (wSeq (wTryAs ["BookError", "NoStand", "NoDeed"] "BookError" 3 (wIf (wB (wOp (fEq false) (wOp fIx (wVar 1) (wC (.int 0))) (wC (.str ("day" : Str))))) (wExpr (wMeth "next_day" cs_next_day (wVar 0) wNil)) (wIf (wB (wOp (fEq false) (wOp fIx (wVar 1) (wC (.int 0))) (wC (.str ("show" : Str))))) (wExpr (wMeth "show" cs_show (wVar 0) (wCons (wOp fIx (wVar 1) (wC (.int 1))) (wCons (wOp fIx (wVar 1) (wC (.int 2))) wNil)))) (wIf (wB (wOp (fEq false) (wOp fIx (wVar 1) (wC (.int 0))) (wC (.str ("strike" : Str))))) (wExpr (wMeth "strike" cs_strike (wVar 0) (wCons (wOp fIx (wVar 1) (wC (.int 1))) (wCons (wOp fIx (wVar 1) (wC (.int 2))) (wCons (wOp fIx (wVar 1) (wC (.int 3))) wNil))))) (wExpr (wMeth "lay" cs_lay (wVar 0) (wCons (wOp fIx (wVar 1) (wC (.int 1))) (wCons (wOp fIx (wVar 1) (wC (.int 2))) (wCons (wOp fIx (wVar 1) (wC (.int 3))) (wCons (wOp fIx (wVar 1) (wC (.int 4))) wNil))))))))) (fun a c => (wSeq (wSet 4 (wLst false (wCons (wIsE a c "NoDeed" ["BookError", "NoStand", "NoDeed"] (wVar 3)) (wCons (wIsE a c "NoStand" ["BookError", "NoStand", "NoDeed"] (wVar 3)) wNil))))
  (wSeq (wSet 2 (wC (.str ("other" : Str))))
  (wIf (wB (wOp (fEq false) (wMt "list" fCount (wVar 4) (wCons (wC (.bl true)) wNil)) (wC (.int 1)))) (wSet 2 (wOp fIx (wLst false (wCons (wC (.str ("deed" : Str))) (wCons (wC (.str ("stand" : Str))) wNil))) (wMt "list" fIndex (wVar 4) (wCons (wC (.bl true)) wNil)))) wNx)))))
  (wRet (wVar 2))))
def φ__law_done : SB.Spec := fun xs S R RE => xs.length = 2 ∧ w__law_done (startE N__law_done xs) S ⟨fun _ S' => Rz R .non S', Rz R, fun _ _ => False, fun _ _ => False⟩ (fun c _ S' => RE c S')
theorem k__law_done (hd : Hd w K mg) {q nm : Str} {dvs : List V} {kws : List (Str × V)} {f : Addr} {fd : FuncData} (Fd : FunD K nm q (defArgs (top 45)) (defBody (top 45)) (defScope (top 45)) dvs kws f fd) : FnOk P w K mg base (L2.CX P w) 9 f fd ["book", "deed"] (spOf K φ__law_done) :=
  body_ok (N := N__law_done) (ws := w__law_done) Fd sc__law_done (fun cdv A outer s H E F bc =>
  (wss_cons (ws_set (i := 2) sc__law_done.nd rfl (.inl rfl) we_str rfl (.inl rfl))
  (wss_cons (ws_try_as (i := 3) (C := "BookError") rfl rfl sc__law_done.nd rfl rfl ⟨rfl, nd_BookError, .inl (g_BookError hd)⟩ bc.tk (ext hd) (by decide) (fun F2 pn xe tk2 hp2 => (wss_one (ws_if (t_eq bc.room.u65 (we_ix (u1 bc.room.u65) (we_var (i := 1) rfl (.inl rfl) nd_deed nc_deed) we_int (fun _ _ => rfl)) we_str rfl) (wss_one (ws_expr (we_meth0 (m := "next_day") (cs := cs_next_day) (mt_next_day hd (by decide)) bc.room tk2 (we_var (i := 0) rfl (.inl rfl) nd_book nc_book) rfl rfl) rfl)) (wss_one (ws_if (t_eq bc.room.u65 (we_ix (u1 bc.room.u65) (we_var (i := 1) rfl (.inl rfl) nd_deed nc_deed) we_int (fun _ _ => rfl)) we_str rfl) (wss_one (ws_expr (we_meth (m := "show") (cs := cs_show) (mt_show hd (by decide)) bc.room tk2 (we_var (i := 0) rfl (.inl rfl) nd_book nc_book) (wa_cons (we_ix (u1 bc.room.u65) (we_var (i := 1) rfl (.inl rfl) nd_deed nc_deed) we_int (fun _ _ => rfl)) (wa_cons (we_ix (u1 bc.room.u65) (we_var (i := 1) rfl (.inl rfl) nd_deed nc_deed) we_int (fun _ _ => rfl)) wa_nil rfl) rfl) rfl rfl (by decide) rfl) rfl)) (wss_one (ws_if (t_eq bc.room.u65 (we_ix (u1 bc.room.u65) (we_var (i := 1) rfl (.inl rfl) nd_deed nc_deed) we_int (fun _ _ => rfl)) we_str rfl) (wss_one (ws_expr (we_meth (m := "strike") (cs := cs_strike) (mt_strike hd (by decide)) bc.room tk2 (we_var (i := 0) rfl (.inl rfl) nd_book nc_book) (wa_cons (we_ix (u1 bc.room.u65) (we_var (i := 1) rfl (.inl rfl) nd_deed nc_deed) we_int (fun _ _ => rfl)) (wa_cons (we_ix (u1 bc.room.u65) (we_var (i := 1) rfl (.inl rfl) nd_deed nc_deed) we_int (fun _ _ => rfl)) (wa_cons (we_ix (u1 bc.room.u65) (we_var (i := 1) rfl (.inl rfl) nd_deed nc_deed) we_int (fun _ _ => rfl)) wa_nil rfl) rfl) rfl) rfl rfl (by decide) rfl) rfl)) (wss_one (ws_expr (we_meth (m := "lay") (cs := cs_lay) (mt_lay hd (by decide)) bc.room tk2 (we_var (i := 0) rfl (.inl rfl) nd_book nc_book) (wa_cons (we_ix (u1 bc.room.u65) (we_var (i := 1) rfl (.inl rfl) nd_deed nc_deed) we_int (fun _ _ => rfl)) (wa_cons (we_ix (u1 bc.room.u65) (we_var (i := 1) rfl (.inl rfl) nd_deed nc_deed) we_int (fun _ _ => rfl)) (wa_cons (we_ix (u1 bc.room.u65) (we_var (i := 1) rfl (.inl rfl) nd_deed nc_deed) we_int (fun _ _ => rfl)) (wa_cons (we_ix (u1 bc.room.u65) (we_var (i := 1) rfl (.inl rfl) nd_deed nc_deed) we_int (fun _ _ => rfl)) wa_nil rfl) rfl) rfl) rfl) rfl rfl (by decide) rfl) rfl))))))))) (fun F2 a oe c d pn hz hv hdn => (wss_cons (ws_set (i := 4) sc__law_done.nd rfl (.inl rfl) (we_lst (own := false) (wa_cons (we_isE (C := "NoDeed") hz hv hdn (exk hd) (by decide) (we_var (i := 3) rfl (.inl rfl) nd_e nc_e) rfl rfl (n_isinstance hd) rfl (g_NoDeed hd) nd_NoDeed) (wa_cons (we_isE (C := "NoStand") hz hv hdn (exk hd) (by decide) (we_var (i := 3) rfl (.inl rfl) nd_e nc_e) rfl rfl (n_isinstance hd) rfl (g_NoStand hd) nd_NoStand) wa_nil rfl) rfl)) rfl (.inl rfl))
  (wss_cons (ws_set (i := 2) sc__law_done.nd rfl (.inl rfl) we_str rfl (.inl rfl))
  (wss_one (ws_if (t_eq bc.room.u65 (m_count bc.room.u65 (we_var (i := 4) rfl (.inl rfl) nd_kinds nc_kinds) (wa_cons we_bl wa_nil rfl) rfl rfl (by decide) rfl) we_int rfl) (wss_one (ws_set (i := 2) sc__law_done.nd rfl (.inl rfl) (we_ix (u1 bc.room.u65) (we_lst (own := false) (wa_cons we_str (wa_cons we_str wa_nil rfl) rfl)) (m_index bc.room.u65 (we_var (i := 4) rfl (.inl rfl) nd_kinds nc_kinds) (wa_cons we_bl wa_nil rfl) rfl rfl (by decide) rfl) (fun _ _ => rfl)) rfl (.inl rfl))) wss_nil))))))
  (wss_one (ws_ret (we_var (i := 2) rfl (.inl rfl) nd_word nc_word)))))) (fun _ _ _ _ h => h.1) (fun _ _ _ _ h => h.2)
theorem B__law_done (hd : Hd w K mg) : FnBd P w K mg base 9 (He.ga K "_law_done") 2 [] φ__law_done := by
  obtain ⟨fd, Fd⟩ := hd.c.t.d.def_ 21 (d := mkDD (("_law_done" : Str), none) "_law_done" "_law_done" (top 45) []) rfl
  exact fn_bd _ Fd (k__law_done hd Fd) (FunD.bindsN Fd fun _ _ _ _ _ _ us hl => match us, hl with | [_, _], _ => rfl)
/-! Held___init__ -/
def N_Held___init__ : List Str := ["self", "whole"]
theorem sc_Held___init__ : FnScope N_Held___init__ ["self", "whole"] (defScope (inClass (top 25) 0)) := ⟨rfl, rfl, rfl, by decide +kernel, rfl, by decide +kernel, by decide +kernel⟩
def w_Held___init__ : WpS := (wSetF ["Held", "Laid", "Taken"] "whole" (wVar 1) (wVar 0))
def φ_Held___init__ : SB.Spec := fun xs S R RE => xs.length = 2 ∧ w_Held___init__ (startE N_Held___init__ xs) S ⟨fun _ S' => Rz R .non S', Rz R, fun _ _ => False, fun _ _ => False⟩ (fun c _ S' => RE c S')
theorem k_Held___init__ (hd : Hd w K mg) {q nm : Str} {dvs : List V} {kws : List (Str × V)} {f : Addr} {fd : FuncData} (Fd : FunD K nm q (defArgs (inClass (top 25) 0)) (defBody (inClass (top 25) 0)) (defScope (inClass (top 25) 0)) dvs kws f fd) : FnOk P w K mg base (L2.CX P w) 1 f fd ["self", "whole"] (spOf K φ_Held___init__) :=
  body_ok (N := N_Held___init__) (ws := w_Held___init__) Fd sc_Held___init__ (fun cdv A outer s H E F bc =>
  (wss_one (ws_setF (cs := ["Held", "Laid", "Taken"]) (f := "whole") (na_Held_Laid_Taken_whole hd) (we_var (i := 1) rfl (.inl rfl) nd_whole nc_whole) (we_var (i := 0) rfl (.inl rfl) nd_self nc_self) rfl))) (fun _ _ _ _ h => h.1) (fun _ _ _ _ h => h.2)
theorem B_Held___init__ (hd : Hd w K mg) {q nm : Str} {f : Addr} (Fd : ∃ fd, FunD K nm q (defArgs (inClass (top 25) 0)) (defBody (inClass (top 25) 0)) (defScope (inClass (top 25) 0)) [] [] f fd) : FnBd P w K mg base 1 f 2 [] φ_Held___init__ := by
  obtain ⟨fd, Fd⟩ := Fd
  exact fn_bd _ Fd (k_Held___init__ hd Fd) (FunD.bindsN Fd fun _ _ _ _ _ _ us hl => match us, hl with | [_, _], _ => rfl)
theorem Mk_Held (hd : Hd w K mg) : MkBd P w K mg base 1 "Held" 2 [] φ_Held___init__ := ⟨⟨_, mkr_Held hd, B_Held___init__ hd (hd.c.t.d.def_ 29 rfl)⟩, cl_Held hd⟩
/-! Book___init__ -/
def N_Book___init__ : List Str := ["self", "pots", "place", "pot"]
theorem sc_Book___init__ : FnScope N_Book___init__ ["self", "pots"] (defScope (inClass (top 33) 0)) := ⟨rfl, rfl, rfl, by decide +kernel, rfl, by decide +kernel, by decide +kernel⟩
def w_Book___init__ : WpS := (wSeq (wFor (wEnum (wCons (wVar 1) wNil)) (.tup (.cons (.nm 2) (.cons (.nm 3) .nil))) (wIf (wB (wOr (wOp (fCmp cmpGe) (wVar 2) (wC (.int 3))) (wNot (wCall φ_is_pot [] (wCons (wVar 3) wNil))))) wNever wNx))
  (wSeq (wSetF ["Book"] "kept" (wFun (fList false) (wCons (wVar 1) wNil)) (wVar 0))
  (wSeq (wSetF ["Book"] "now" (wC (.int 0)) (wVar 0))
  (wSeq (wSetF ["Book"] "claims" (wLc true (wSrc (wVar 1)) (.nm 3) wYes (wMake false "Held" [] φ_Held___init__ (wCons (wOp (fAdd false) (wOp fIx (wVar 3) (wC (.int 2))) (wOp fIx (wVar 3) (wC (.int 3)))) wNil)) [3]) (wVar 0))
  (wSetF ["Book"] "shows" (wLc true (wSrc (wVar 1)) (.nm 3) wYes (wDict0 true) [3]) (wVar 0))))))
def φ_Book___init__ : SB.Spec := fun xs S R RE => xs.length = 2 ∧ w_Book___init__ (startE N_Book___init__ xs) S ⟨fun _ S' => Rz R .non S', Rz R, fun _ _ => False, fun _ _ => False⟩ (fun c _ S' => RE c S')
theorem k_Book___init__ (hd : Hd w K mg) {q nm : Str} {dvs : List V} {kws : List (Str × V)} {f : Addr} {fd : FuncData} (Fd : FunD K nm q (defArgs (inClass (top 33) 0)) (defBody (inClass (top 33) 0)) (defScope (inClass (top 33) 0)) dvs kws f fd) : FnOk P w K mg base (L2.CX P w) 3 f fd ["self", "pots"] (spOf K φ_Book___init__) :=
  body_ok (N := N_Book___init__) (ws := w_Book___init__) Fd sc_Book___init__ (fun cdv A outer s H E F bc =>
  (wss_cons (ws_for bc.pass rfl (wi_enum rfl (n_enumerate hd) (wa_cons (we_var (i := 1) rfl (.inl rfl) nd_pots nc_pots) wa_nil rfl) rfl) (wg_tup rfl (wgs_cons (wg_nm sc_Book___init__.nd rfl (.inl rfl) (.inl rfl)) (wgs_cons (wg_nm sc_Book___init__.nd rfl (.inl rfl) (.inl rfl)) wgs_nil (fun _ => rfl)) (fun _ => rfl)) (fun _ => rfl) (fun _ => rfl)) (wss_one (ws_if (WW.wt (ww_or (t_ge (we_var (i := 2) rfl (.inl rfl) nd_place nc_place) (we_globI' (i_MOST_POTS hd) rfl nd_MOST_POTS) rfl) (ww_or1 (wt_not (wt_val (we_call ((B_is_pot hd).mono (by decide)) bc.room bc.tk rfl (g_is_pot hd) (wa_cons (we_var (i := 3) rfl (.inl rfl) nd_pot nc_pot) wa_nil rfl) rfl nd_is_pot) (fun _ => rfl)))))) (wss_one ws_never) wss_nil)) (fun _ => rfl))
  (wss_cons (ws_setF (cs := ["Book"]) (f := "kept") (na_Book_kept hd) (b_list (own := false) rfl rfl (n_list hd) (wa_cons (we_var (i := 1) rfl (.inl rfl) nd_pots nc_pots) wa_nil rfl) rfl) (we_var (i := 0) rfl (.inl rfl) nd_self nc_self) rfl)
  (wss_cons (ws_setF (cs := ["Book"]) (f := "now") (na_Book_now hd) we_int (we_var (i := 0) rfl (.inl rfl) nd_self nc_self) rfl)
  (wss_cons (ws_setF (cs := ["Book"]) (f := "claims") (na_Book_claims hd) (we_lc (fr := true) (own := [(("pot" : Str), 3)]) (t := (.nm 3)) rfl sc_Book___init__.nd (wi_src (we_var (i := 1) rfl (.inl rfl) nd_pots nc_pots)) (show BlkOk N_Book___init__ (defScope (inClass (top 33) 0)) _ [(("pot" : Str), 3)] from blkOk_by (by decide +kernel)) (by decide) (fun _ _ _ _ _ => (wg_nm sc_Book___init__.nd rfl (.inl rfl) (.inr rfl))) (fun _ _ _ _ _ => wts_nil) (fun _ _ _ _ _ => (we_make (own := false) (k := 1) ((Mk_Held hd).mono' (by decide)) bc.room tk_calm rfl (g_Held hd) (wa_cons (we_add (own := false) (we_ix (u1 bc.room.u65) (we_var (i := 3) rfl (.inl rfl) nd_pot nc_pot) we_int (fun _ _ => rfl)) (we_ix (u1 bc.room.u65) (we_var (i := 3) rfl (.inl rfl) nd_pot nc_pot) we_int (fun _ _ => rfl))) wa_nil rfl) rfl nd_Held)) (fun _ => rfl)) (we_var (i := 0) rfl (.inl rfl) nd_self nc_self) rfl)
  (wss_one (ws_setF (cs := ["Book"]) (f := "shows") (na_Book_shows hd) (we_lc (fr := true) (own := [(("pot" : Str), 3)]) (t := (.nm 3)) rfl sc_Book___init__.nd (wi_src (we_var (i := 1) rfl (.inl rfl) nd_pots nc_pots)) (show BlkOk N_Book___init__ (defScope (inClass (top 33) 0)) _ [(("pot" : Str), 3)] from blkOk_by (by decide +kernel)) (by decide) (fun _ _ _ _ _ => (wg_nm sc_Book___init__.nd rfl (.inl rfl) (.inr rfl))) (fun _ _ _ _ _ => wts_nil) (fun _ _ _ _ _ => (we_dict0 (own := true))) (fun _ => rfl)) (we_var (i := 0) rfl (.inl rfl) nd_self nc_self) rfl))))))) (fun _ _ _ _ h => h.1) (fun _ _ _ _ h => h.2)
theorem B_Book___init__ (hd : Hd w K mg) {q nm : Str} {f : Addr} (Fd : ∃ fd, FunD K nm q (defArgs (inClass (top 33) 0)) (defBody (inClass (top 33) 0)) (defScope (inClass (top 33) 0)) [] [] f fd) : FnBd P w K mg base 3 f 2 [] φ_Book___init__ := by
  obtain ⟨fd, Fd⟩ := Fd
  exact fn_bd _ Fd (k_Book___init__ hd Fd) (FunD.bindsN Fd fun _ _ _ _ _ _ us hl => match us, hl with | [_, _], _ => rfl)
theorem Mk_Book (hd : Hd w K mg) : MkBd P w K mg base 3 "Book" 2 [] φ_Book___init__ := ⟨⟨_, mkr_Book hd, B_Book___init__ hd (hd.c.t.d.def_ 38 rfl)⟩, cl_Book hd⟩
/-! law -/
def N_law : List Str := ["script", "well", "pots", "k", "left", "hands", "handed", "books", "sides", "side", "cell", "deed", "pot"]
theorem sc_law : FnScope N_law ["script"] (defScope (top 46)) := ⟨rfl, rfl, rfl, by decide +kernel, rfl, by decide +kernel, by decide +kernel⟩
def w_law : WpS := (wSeq (wSet 1 (wCall φ__law_well_of [] (wCons (wCall φ__law_cell_at [] (wCons (wVar 0) (wCons (wC (.int 0)) wNil))) wNil)))
  (wSeq (wSet 2 (wLst true wNil))
  (wSeq (wFor (wRange (wCons (wOp (fAdd false) (wC (.int 1)) (wCall φ__law_draw [] (wCons (wVar 1) (wCons (wC (.int 3)) wNil)))) wNil)) (.nm 3) (wSeq (wSet 4 (wCall φ__law_draw [] (wCons (wVar 1) (wCons (wC (.int 4)) wNil))))
  (wSeq (wSet 5 (wTup (wCons (wVar 4) (wCons (wOp fMod (wOp (fAdd false) (wOp (fAdd false) (wVar 4) (wC (.int 1))) (wCall φ__law_draw [] (wCons (wVar 1) (wCons (wC (.int 3)) wNil)))) (wC (.int 4))) wNil))))
  (wExpr (wMt "list" fAppend (wVar 2) (wCons (wOp (fAdd false) (wVar 5) (wTup (wCons (wCall φ__law_draw [] (wCons (wVar 1) (wCons (wC (.int 21)) wNil))) (wCons (wCall φ__law_draw [] (wCons (wVar 1) (wCons (wC (.int 21)) wNil))) (wCons (wOp (fAdd false) (wC (.int 1)) (wCall φ__law_draw [] (wCons (wVar 1) (wCons (wC (.int 5)) wNil)))) wNil))))) wNil))))))
  (wSeq (wIf (wB (wOp (fEq false) (wCall φ__law_draw [] (wCons (wVar 1) (wCons (wC (.int 4)) wNil))) (wC (.int 0)))) (wSet 2 (wOp (fMul true) (wSl false (wVar 2) none (some (wC (.int 1)))) (wFun fLen (wCons (wVar 2) wNil)))) wNx)
  (wSeq (wSet 6 (wFun (fList true) (wCons (wVar 2) wNil)))
  (wSeq (wSet 7 (wLst false (wCons (wMake true "Book" [] φ_Book___init__ (wCons (wVar 6) wNil)) (wCons (wMake true "Book" [] φ_Book___init__ (wCons (wVar 6) wNil)) wNil))))
  (wSeq (wExpr (wMt "list" fClearL (wVar 6) wNil))
  (wSeq (wSet 8 (wLst true wNil))
  (wSeq (wFor (wRange (wCons (wC (.int 2)) wNil)) (.nm 3) (wSeq (wSet 9 (wDict true [.inr ("pots" : Str), .inr ("day" : Str), .inr ("claims" : Str), .inr ("shown" : Str)] (wCons (wVar 2) (wCons (wC (.int 0)) (wCons (wLc true (wSrc (wVar 2)) (.nm 12) wYes (wTup (wCons (wC (.str ("held" : Str))) wNil)) [12]) (wCons (wLc true (wSrc (wVar 2)) (.nm 12) wYes (wDict0 true) [12]) wNil))))))
  (wExpr (wMt "list" fAppend (wVar 8) (wCons (wVar 9) wNil)))))
  (wSeq (wFor (wSrc (wOp (fAdd false) (wLst false (wCons (wC (.int 4)) (wCons (wC (.int 9)) (wCons (wC (.int 15)) (wCons (wC (.int 22)) wNil))))) (wSl false (wVar 0) (some (wC (.int 1))) (some (wC (.int 31)))))) (.nm 10) (wSeq (wSet 1 (wCall φ__law_well_of [] (wCons (wVar 10) wNil)))
  (wSeq (wSet 3 (wCall φ__law_draw [] (wCons (wVar 1) (wCons (wC (.int 2)) wNil))))
  (wSeq (wSet 11 (wCall φ__law_deed_of [] (wCons (wVar 1) (wCons (wOp fIx (wVar 8) (wVar 3)) wNil))))
  (wSeq (wIf (wB (wOp (fEq true) (wCall φ__law_done [] (wCons (wOp fIx (wVar 7) (wVar 3)) (wCons (wVar 11) wNil))) (wCall φ__law_wanted [] (wCons (wOp fIx (wVar 8) (wVar 3)) (wCons (wVar 11) wNil))))) (wRet (wC (.bl false))) wNx)
  (wIf (wB (wOr (wNot (wCall φ__law_alike [] (wCons (wOp fIx (wVar 7) (wC (.int 0))) (wCons (wOp fIx (wVar 8) (wC (.int 0))) wNil)))) (wNot (wCall φ__law_alike [] (wCons (wOp fIx (wVar 7) (wC (.int 1))) (wCons (wOp fIx (wVar 8) (wC (.int 1))) wNil)))))) (wRet (wC (.bl false))) wNx))))))
  (wRet (wC (.bl true)))))))))))))
def φ_law : SB.Spec := fun xs S R RE => xs.length = 1 ∧ w_law (startE N_law xs) S ⟨fun _ S' => Rz R .non S', Rz R, fun _ _ => False, fun _ _ => False⟩ (fun c _ S' => RE c S')
theorem k_law (hd : Hd w K mg) {q nm : Str} {dvs : List V} {kws : List (Str × V)} {f : Addr} {fd : FuncData} (Fd : FunD K nm q (defArgs (top 46)) (defBody (top 46)) (defScope (top 46)) dvs kws f fd) : FnOk P w K mg base (L2.CX P w) 10 f fd ["script"] (spOf K φ_law) :=
  body_ok (N := N_law) (ws := w_law) Fd sc_law (fun cdv A outer s H E F bc =>
  (wss_cons (ws_set (i := 1) sc_law.nd rfl (.inl rfl) (we_call ((B__law_well_of hd).mono (by decide)) bc.room bc.tk rfl (g__law_well_of hd) (wa_cons (we_call ((B__law_cell_at hd).mono (by decide)) bc.room bc.tk rfl (g__law_cell_at hd) (wa_cons (we_var (i := 0) rfl (.inl rfl) nd_script nc_script) (wa_cons we_int wa_nil rfl) rfl) rfl nd__law_cell_at) wa_nil rfl) rfl nd__law_well_of) rfl (.inl rfl))
  (wss_cons (ws_set (i := 2) sc_law.nd rfl (.inl rfl) (we_lst (own := true) wa_nil) rfl (.inl rfl))
  (wss_cons (ws_for bc.pass rfl (wi_range1 rfl (n_range hd) (wa_cons (we_add (own := false) we_int (we_call ((B__law_draw hd).mono (by decide)) bc.room bc.tk rfl (g__law_draw hd) (wa_cons (we_var (i := 1) rfl (.inl rfl) nd_well nc_well) (wa_cons we_int wa_nil rfl) rfl) rfl nd__law_draw)) wa_nil rfl) rfl) (wg_nm sc_law.nd rfl (.inl rfl) (.inl rfl)) (wss_cons (ws_set (i := 4) sc_law.nd rfl (.inl rfl) (we_call ((B__law_draw hd).mono (by decide)) bc.room bc.tk rfl (g__law_draw hd) (wa_cons (we_var (i := 1) rfl (.inl rfl) nd_well nc_well) (wa_cons we_int wa_nil rfl) rfl) rfl nd__law_draw) rfl (.inl rfl))
  (wss_cons (ws_set (i := 5) sc_law.nd rfl (.inl rfl) (we_tup (wa_cons (we_var (i := 4) rfl (.inl rfl) nd_left nc_left) (wa_cons (we_mod (we_add (own := false) (we_add (own := false) (we_var (i := 4) rfl (.inl rfl) nd_left nc_left) we_int) (we_call ((B__law_draw hd).mono (by decide)) bc.room bc.tk rfl (g__law_draw hd) (wa_cons (we_var (i := 1) rfl (.inl rfl) nd_well nc_well) (wa_cons we_int wa_nil rfl) rfl) rfl nd__law_draw)) we_int) wa_nil rfl) rfl)) rfl (.inl rfl))
  (wss_one (ws_expr (m_append (we_var (i := 2) rfl (.inl rfl) nd_pots nc_pots) (wa_cons (we_add (own := false) (we_var (i := 5) rfl (.inl rfl) nd_hands nc_hands) (we_tup (wa_cons (we_call ((B__law_draw hd).mono (by decide)) bc.room bc.tk rfl (g__law_draw hd) (wa_cons (we_var (i := 1) rfl (.inl rfl) nd_well nc_well) (wa_cons we_int wa_nil rfl) rfl) rfl nd__law_draw) (wa_cons (we_call ((B__law_draw hd).mono (by decide)) bc.room bc.tk rfl (g__law_draw hd) (wa_cons (we_var (i := 1) rfl (.inl rfl) nd_well nc_well) (wa_cons we_int wa_nil rfl) rfl) rfl nd__law_draw) (wa_cons (we_add (own := false) we_int (we_call ((B__law_draw hd).mono (by decide)) bc.room bc.tk rfl (g__law_draw hd) (wa_cons (we_var (i := 1) rfl (.inl rfl) nd_well nc_well) (wa_cons we_int wa_nil rfl) rfl) rfl nd__law_draw)) wa_nil rfl) rfl) rfl))) wa_nil rfl) rfl rfl (by decide) rfl) rfl)))) (fun _ => rfl))
  (wss_cons (ws_if (t_eq bc.room.u65 (we_call ((B__law_draw hd).mono (by decide)) bc.room bc.tk rfl (g__law_draw hd) (wa_cons (we_var (i := 1) rfl (.inl rfl) nd_well nc_well) (wa_cons we_int wa_nil rfl) rfl) rfl nd__law_draw) we_int rfl) (wss_one (ws_set (i := 2) sc_law.nd rfl (.inl rfl) (we_mul (own := true) (we_sl (own := false) (we_var (i := 2) rfl (.inl rfl) nd_pots nc_pots) .none (.some we_int)) (b_len rfl (n_len hd) (wa_cons (we_var (i := 2) rfl (.inl rfl) nd_pots nc_pots) wa_nil rfl) rfl)) rfl (.inl rfl))) wss_nil)
  (wss_cons (ws_set (i := 6) sc_law.nd rfl (.inl rfl) (b_list (own := true) rfl rfl (n_list hd) (wa_cons (we_var (i := 2) rfl (.inl rfl) nd_pots nc_pots) wa_nil rfl) rfl) rfl (.inl rfl))
  (wss_cons (ws_set (i := 7) sc_law.nd rfl (.inl rfl) (we_lst (own := false) (wa_cons (we_make (own := true) (k := 8) ((Mk_Book hd).mono' (by decide)) bc.room bc.tk rfl (g_Book hd) (wa_cons (we_var (i := 6) rfl (.inl rfl) nd_handed nc_handed) wa_nil rfl) rfl nd_Book) (wa_cons (we_make (own := true) (k := 8) ((Mk_Book hd).mono' (by decide)) bc.room bc.tk rfl (g_Book hd) (wa_cons (we_var (i := 6) rfl (.inl rfl) nd_handed nc_handed) wa_nil rfl) rfl nd_Book) wa_nil rfl) rfl)) rfl (.inl rfl))
  (wss_cons (ws_expr (m_clearL (we_var (i := 6) rfl (.inl rfl) nd_handed nc_handed) rfl rfl) rfl)
  (wss_cons (ws_set (i := 8) sc_law.nd rfl (.inl rfl) (we_lst (own := true) wa_nil) rfl (.inl rfl))
  (wss_cons (ws_for bc.pass rfl (wi_range1 rfl (n_range hd) (wa_cons we_int wa_nil rfl) rfl) (wg_nm sc_law.nd rfl (.inl rfl) (.inl rfl)) (wss_cons (ws_set (i := 9) sc_law.nd rfl (.inl rfl) (we_dict (own := true) (ks := [.inr ("pots" : Str), .inr ("day" : Str), .inr ("claims" : Str), .inr ("shown" : Str)]) (.cons (we_var (i := 2) rfl (.inl rfl) nd_pots nc_pots) (.cons we_int (.cons (we_lc (fr := true) (own := [(("pot" : Str), 12)]) (t := (.nm 12)) rfl sc_law.nd (wi_src (we_var (i := 2) rfl (.inl rfl) nd_pots nc_pots)) (show BlkOk N_law (defScope (top 46)) _ [(("pot" : Str), 12)] from blkOk_by (by decide +kernel)) (by decide) (fun _ _ _ _ _ => (wg_nm sc_law.nd rfl (.inl rfl) (.inr rfl))) (fun _ _ _ _ _ => wts_nil) (fun _ _ _ _ _ => (we_tup (wa_cons we_str wa_nil rfl))) (fun _ => rfl)) (.cons (we_lc (fr := true) (own := [(("pot" : Str), 12)]) (t := (.nm 12)) rfl sc_law.nd (wi_src (we_var (i := 2) rfl (.inl rfl) nd_pots nc_pots)) (show BlkOk N_law (defScope (top 46)) _ [(("pot" : Str), 12)] from blkOk_by (by decide +kernel)) (by decide) (fun _ _ _ _ _ => (wg_nm sc_law.nd rfl (.inl rfl) (.inr rfl))) (fun _ _ _ _ _ => wts_nil) (fun _ _ _ _ _ => (we_dict0 (own := true))) (fun _ => rfl)) .nil)))) rfl rfl (by decide) (by decide)) rfl (.inl rfl))
  (wss_one (ws_expr (m_append (we_var (i := 8) rfl (.inl rfl) nd_sides nc_sides) (wa_cons (we_var (i := 9) rfl (.inl rfl) nd_side nc_side) wa_nil rfl) rfl rfl (by decide) rfl) rfl))) (fun _ => rfl))
  (wss_cons (ws_for bc.pass rfl (wi_src (we_add (own := false) (we_lst (own := false) (wa_cons we_int (wa_cons we_int (wa_cons we_int (wa_cons we_int wa_nil rfl) rfl) rfl) rfl)) (we_sl (own := false) (we_var (i := 0) rfl (.inl rfl) nd_script nc_script) (.some we_int) (.some we_int)))) (wg_nm sc_law.nd rfl (.inl rfl) (.inl rfl)) (wss_cons (ws_set (i := 1) sc_law.nd rfl (.inl rfl) (we_call ((B__law_well_of hd).mono (by decide)) bc.room bc.tk rfl (g__law_well_of hd) (wa_cons (we_var (i := 10) rfl (.inl rfl) nd_cell nc_cell) wa_nil rfl) rfl nd__law_well_of) rfl (.inl rfl))
  (wss_cons (ws_set (i := 3) sc_law.nd rfl (.inl rfl) (we_call ((B__law_draw hd).mono (by decide)) bc.room bc.tk rfl (g__law_draw hd) (wa_cons (we_var (i := 1) rfl (.inl rfl) nd_well nc_well) (wa_cons we_int wa_nil rfl) rfl) rfl nd__law_draw) rfl (.inl rfl))
  (wss_cons (ws_set (i := 11) sc_law.nd rfl (.inl rfl) (we_call ((B__law_deed_of hd).mono (by decide)) bc.room bc.tk rfl (g__law_deed_of hd) (wa_cons (we_var (i := 1) rfl (.inl rfl) nd_well nc_well) (wa_cons (we_ix (u1 bc.room.u65) (we_var (i := 8) rfl (.inl rfl) nd_sides nc_sides) (we_var (i := 3) rfl (.inl rfl) nd_k nc_k) (fun _ _ => rfl)) wa_nil rfl) rfl) rfl nd__law_deed_of) rfl (.inl rfl))
  (wss_cons (ws_if (t_ne bc.room.u65 (we_call ((B__law_done hd).mono (by decide)) bc.room bc.tk rfl (g__law_done hd) (wa_cons (we_ix (u1 bc.room.u65) (we_var (i := 7) rfl (.inl rfl) nd_books nc_books) (we_var (i := 3) rfl (.inl rfl) nd_k nc_k) (fun _ _ => rfl)) (wa_cons (we_var (i := 11) rfl (.inl rfl) nd_deed nc_deed) wa_nil rfl) rfl) rfl nd__law_done) (we_call ((B__law_wanted hd).mono (by decide)) bc.room bc.tk rfl (g__law_wanted hd) (wa_cons (we_ix (u1 bc.room.u65) (we_var (i := 8) rfl (.inl rfl) nd_sides nc_sides) (we_var (i := 3) rfl (.inl rfl) nd_k nc_k) (fun _ _ => rfl)) (wa_cons (we_var (i := 11) rfl (.inl rfl) nd_deed nc_deed) wa_nil rfl) rfl) rfl nd__law_wanted) rfl) (wss_one (ws_ret we_bl)) wss_nil)
  (wss_one (ws_if (WW.wt (ww_or (wt_not (wt_val (we_call ((B__law_alike hd).mono (by decide)) bc.room bc.tk rfl (g__law_alike hd) (wa_cons (we_ix (u1 bc.room.u65) (we_var (i := 7) rfl (.inl rfl) nd_books nc_books) we_int (fun _ _ => rfl)) (wa_cons (we_ix (u1 bc.room.u65) (we_var (i := 8) rfl (.inl rfl) nd_sides nc_sides) we_int (fun _ _ => rfl)) wa_nil rfl) rfl) rfl nd__law_alike) (fun _ => rfl))) (ww_or1 (wt_not (wt_val (we_call ((B__law_alike hd).mono (by decide)) bc.room bc.tk rfl (g__law_alike hd) (wa_cons (we_ix (u1 bc.room.u65) (we_var (i := 7) rfl (.inl rfl) nd_books nc_books) we_int (fun _ _ => rfl)) (wa_cons (we_ix (u1 bc.room.u65) (we_var (i := 8) rfl (.inl rfl) nd_sides nc_sides) we_int (fun _ _ => rfl)) wa_nil rfl) rfl) rfl nd__law_alike) (fun _ => rfl)))))) (wss_one (ws_ret we_bl)) wss_nil)))))) (fun _ => rfl))
  (wss_one (ws_ret we_bl))))))))))))) (fun _ _ _ _ h => h.1) (fun _ _ _ _ h => h.2)
theorem B_law (hd : Hd w K mg) : FnBd P w K mg base 10 (He.ga K "law") 1 [] φ_law := by
  obtain ⟨fd, Fd⟩ := hd.c.t.d.def_ 22 (d := mkDD (("law" : Str), none) "law" "law" (top 46) []) rfl
  exact fn_bd _ Fd (k_law hd Fd) (FunD.bindsN Fd fun _ _ _ _ _ _ us hl => match us, hl with | [_], _ => rfl)
end
end L98
end

section
set_option Elab.async false
set_option linter.all false
set_option maxRecDepth 100000
set_option autoImplicit false
namespace L98
open SB PySem PySem.Spec L2
structure Tie where
  p : Int
  a : Int
  w : Int
  d : Int
deriving DecidableEq
def tieD (t : Tie) : D := .tup [.int t.p, .int t.a, .int t.w, .int t.d]
structure TieOk (t : Tie) : Prop where
  p0 : 0 ≤ t.p
  p1 : t.p ≤ 1
  a0 : 1 ≤ t.a
  a1 : t.a ≤ 9
  w0 : 0 ≤ t.w
  w1 : t.w ≤ 59
  d0 : 0 ≤ t.d
  d1 : t.d ≤ 15
structure Stn where
  n : Int
  l : Int
  r : Int
  ts : List Tie
deriving DecidableEq
def shD (s : Stn) : D := .tup [.int s.l, .int s.r]
def tsD (s : Stn) : D := .tup (s.ts.map tieD)
def stnD (s : Stn) : D := .tup [.int s.n, shD s, tsD s]
structure StnOk (s : Stn) : Prop where
  n0 : 0 ≤ s.n
  n1 : s.n ≤ 1000
  l0 : 0 ≤ s.l
  l1 : s.l ≤ 1000
  r0 : 0 ≤ s.r
  r1 : s.r ≤ 1000
  len : s.ts.length ≤ 3
  ok : ∀ t ∈ s.ts, TieOk t
  nd : (s.ts.map Tie.w).Nodup
def Stn.sum (s : Stn) : Int := s.l + s.r + (s.ts.map Tie.a).sum
section
variable {ς : En} {S : Sto} {R : Pd} {RE : Px}
theorem p_in_bounds {i m : Int} (h : R (.bl (decide (0 ≤ i) && decide (i ≤ m))) S) : φ_in_bounds [.int i, .int m] S R RE := by
  refine ⟨rfl, ?_⟩
  simp [-Bool.exists_bool, w_in_bounds, startE, N_in_bounds, tyD, tySub]
  by_cases h0 : 0 ≤ i
  · simp_all [Rz_now, cmpLe]
  · simp_all [Rz_now, cmpLe]
    intro z; omega
theorem p_in {i m : Int} (h0 : 0 ≤ i) (h1 : i ≤ m) (h : R (.bl true) S) : φ_in_bounds [.int i, .int m] S R RE := p_in_bounds (by simpa [h0, h1] using h)
theorem p_is_tie {t : Tie} (ok : TieOk t) (h : R (.bl true) S) : φ_is_tie [tieD t] S R RE := by
  refine ⟨rfl, ?_⟩
  obtain ⟨p0, p1, a0, a1, w0, w1, d0, d1⟩ := ok
  simp [-Bool.exists_bool, w_is_tie, startE, N_is_tie, tySub, tieD]
  refine p_in p0 p1 ?_
  simp [-Bool.exists_bool]
  refine p_in (by omega) (by omega) ?_
  simp [-Bool.exists_bool, cmpLt]
  rw [if_neg (by omega)]
  refine p_in w0 (by omega) ?_
  simp [-Bool.exists_bool]
  exact p_in d0 (by omega) (.now h)
theorem p_are_shares {s : Stn} (ok : StnOk s) (h : R (.bl true) S) : φ_are_shares [shD s] S R RE := by
  refine ⟨rfl, ?_⟩
  simp [-Bool.exists_bool, w_are_shares, startE, N_are_shares, tySub, shD]
  intro p hp
  refine lc_frozen (fun _ => .bl true) (by show 2 ≤ sizeLine; decide) (fun x hx => ?_) ?_ p hp
  · refine ⟨_, rfl, fun S R h => ?_⟩
    have : ∃ i, x = .int i ∧ 0 ≤ i ∧ i ≤ 1000 := by
      simp at hx
      rcases hx with rfl | rfl
      · exact ⟨_, rfl, ok.l0, ok.l1⟩
      · exact ⟨_, rfl, ok.r0, ok.r1⟩
    obtain ⟨i, rfl, h0, h1⟩ := this
    simp [wipeE, L2.CMul]
    exact p_in h0 (by omega) h
  · exact fAll_yes (by simp) (.now h)
theorem nodup_count : ∀ {l : List Int} {x : Int}, l.Nodup → x ∈ l → l.count x = 1
  | [], _, _, h => by cases h
  | y :: l, x, hn, hx => by
    rw [List.nodup_cons] at hn
    rw [List.count_cons]
    by_cases e : y = x
    · subst e
      rw [List.count_eq_zero.mpr hn.1]
      simp
    · have hx' : x ∈ l := by
        rcases List.mem_cons.mp hx with h | h
        · exact absurd h.symm e
        · exact h
      rw [nodup_count hn.2 hx']
      simp [e]
theorem p_are_ties {s : Stn} (ok : StnOk s) (h : R (.bl true) S) : φ_are_ties [tsD s] S R RE := by
  have hlen := ok.len
  refine ⟨rfl, ?_⟩
  simp [-Bool.exists_bool, w_are_ties, startE, N_are_ties, tySub, tsD, cmpGt]
  rw [if_neg (by omega)]
  intro p hp
  refine lc_map (fun _ => .bl true) (sz1000 (by omega)) (fun t ht => ⟨_, rfl, fun S R h => ?_⟩) ?_ p hp
  · simp [wipeE]
    exact p_is_tie (ok.ok t ht) h
  refine fAll_yes (by simp) ?_
  simp
  intro p hp
  refine lc_map (fun t => .int t.w) (sz1000 (by omega)) (fun t ht => ⟨_, rfl, fun S R h => ?_⟩) ?_ p hp
  · simp [wipeE, tieD, L2.atI, L2.ixN]
    exact h
  simp
  intro p hp
  refine lc_map (fun _ => .bl true) (sz1000 (by omega)) (fun t ht => ⟨_, rfl, fun S R h => ?_⟩) ?_ p hp
  · simp [wipeE]
    refine ⟨ok_pl ?_ ?_, okI _, ?_⟩
    · exact plL_map fun _ _ => rfl
    · show dpL _ + 1 ≤ 64
      have := dpL_map (f := fun t : Tie => D.int t.w) (k := 0) (m := s.ts) fun _ _ => Nat.le_refl _
      omega
    · have : (decide ((List.countP ((fun z => dEq z (.int t.w)) ∘ fun t => D.int t.w) s.ts : Int) = 1)) = true := by
        have e : List.countP ((fun z => dEq z (.int t.w)) ∘ fun t => D.int t.w) s.ts = (s.ts.map Tie.w).count t.w := by
          rw [List.count, List.countP_map]
          congr 1
        rw [e, nodup_count ok.nd (List.mem_map_of_mem ht)]
        rfl
      rw [this]; exact h
  refine fAll_yes (by simp) ?_
  exact .now h
theorem p_is_stand {s : Stn} (ok : StnOk s) (h : R (.bl true) S) : φ_is_stand [stnD s] S R RE := by
  refine ⟨rfl, ?_⟩
  simp [-Bool.exists_bool, w_is_stand, startE, N_is_stand, tySub, stnD, L2.atI, L2.ixN]
  refine p_in ok.n0 (by have := ok.n1; omega) ?_
  simp [-Bool.exists_bool]
  refine p_are_shares ok ?_
  simp [-Bool.exists_bool]
  exact p_are_ties ok (.now h)
theorem p_stand {n : Int} {s : Stn} (ok : StnOk { s with n := n }) (h : R (stnD { s with n := n }) S) : φ_stand [.int n, shD s, tsD s] S R RE := by
  refine ⟨rfl, ?_⟩
  simp [-Bool.exists_bool, w_stand, startE, N_stand]
  have e : ∀ R' : Pd, fIs false (tsD s) .non S R' = R' (.bl false) S := fun _ => rfl
  rw [e]
  simp [-Bool.exists_bool]
  refine p_is_stand (s := { s with n := n }) ok ?_
  simp [-Bool.exists_bool]
  exact .now h
theorem p_stand0 {l r : Int} (ok : StnOk ⟨0, l, r, []⟩) (h : R (stnD ⟨0, l, r, []⟩) S) : φ_stand [.int 0, .tup [.int l, .int r], .non] S R RE := by
  refine ⟨rfl, ?_⟩
  simp [-Bool.exists_bool, w_stand, startE, N_stand]
  refine p_is_stand (s := ⟨0, l, r, []⟩) ok ?_
  simp [-Bool.exists_bool]
  exact .now h
theorem p_first {l r : Int} (ok : StnOk ⟨0, l, r, []⟩) (h : R (stnD ⟨0, l, r, []⟩) S) : φ_first [.int l, .int r] S R RE := by
  refine ⟨rfl, ?_⟩
  simp [-Bool.exists_bool, w_first, startE, N_first]
  exact p_stand0 ok (.now h)
theorem p_deals {s : Stn} (ok : StnOk s) (h : R (.int s.sum) S) : φ_deals [stnD s] S R RE := by
  refine ⟨rfl, ?_⟩
  simp [-Bool.exists_bool, w_deals, startE, N_deals, stnD, L2.atI, L2.ixN, shD, tsD, intL2]
  intro p hp
  refine lc_map (fun t => .int t.a) (sz1000 (by have := ok.len; omega)) (fun t ht => ⟨_, rfl, fun S R h => ?_⟩) ?_ p hp
  · simp [wipeE, tieD, L2.atI, L2.ixN]
    exact h
  simp [intL_mapF (f := fun t : Tie => D.int t.a) (g := Tie.a) (fun _ _ => rfl)]
  refine .now ?_
  have : s.l + s.r + (s.ts.map Tie.a).sum = s.sum := rfl
  simpa [this] using h
def agD (p s : Int) (st : Stn) : D := .tup [.str "agree", .int p, .int s, stnD st]
def skD (p s n : Int) : D := .tup [.str "strike", .int p, .int s, .int n]
theorem p_is_made_a {p s : Int} {st : Stn} (p0 : 0 ≤ p) (p2 : p ≤ 2) (s0 : 0 ≤ s) (s1 : s ≤ 1) (ok : StnOk st) (h : R (.bl true) S) : φ_is_made [agD p s st] S R RE := by
  refine ⟨rfl, ?_⟩
  simp [-Bool.exists_bool, w_is_made, startE, N_is_made, tySub, agD, L2.atI, L2.ixN]
  refine p_in p0 p2 ?_
  simp [-Bool.exists_bool]
  refine p_in s0 s1 ?_
  simp [-Bool.exists_bool]
  exact p_is_stand ok (.now h)
theorem p_is_made_s {p s n : Int} (p0 : 0 ≤ p) (p2 : p ≤ 2) (s0 : 0 ≤ s) (s1 : s ≤ 1) (n0 : 0 ≤ n) (n1 : n ≤ 1000000) (h : R (.bl true) S) : φ_is_made [skD p s n] S R RE := by
  refine ⟨rfl, ?_⟩
  simp [-Bool.exists_bool, w_is_made, startE, N_is_made, tySub, skD, L2.atI, L2.ixN]
  refine p_in p0 p2 ?_
  simp [-Bool.exists_bool]
  refine p_in s0 s1 ?_
  simp [-Bool.exists_bool]
  exact p_in n0 n1 (.now h)
theorem p_is_thing_a {p s : Int} {st : Stn} (p0 : 0 ≤ p) (p2 : p ≤ 2) (s0 : 0 ≤ s) (s1 : s ≤ 1) (ok : StnOk st) (h : R (.bl true) S) : φ_is_thing [agD p s st] S R RE := by
  refine ⟨rfl, ?_⟩
  have := p_is_made_a (RE := RE) (R := Rz R) p0 p2 s0 s1 ok (.now h)
  simp [-Bool.exists_bool, w_is_thing, startE, N_is_thing, tySub, agD, L2.atI, L2.ixN]
  exact this
theorem p_is_thing_s {p s n : Int} (p0 : 0 ≤ p) (p2 : p ≤ 2) (s0 : 0 ≤ s) (s1 : s ≤ 1) (n0 : 0 ≤ n) (n1 : n ≤ 1000000) (h : R (.bl true) S) : φ_is_thing [skD p s n] S R RE := by
  refine ⟨rfl, ?_⟩
  have := p_is_made_s (RE := RE) (R := Rz R) p0 p2 s0 s1 n0 n1 (.now h)
  simp [-Bool.exists_bool, w_is_thing, startE, N_is_thing, tySub, skD, L2.atI, L2.ixN]
  exact this
theorem p_is_thing_w {n : Int} (n0 : 0 ≤ n) (n1 : n ≤ 59) (h : R (.bl true) S) : φ_is_thing [.tup [.str "word", .int n]] S R RE := by
  refine ⟨rfl, ?_⟩
  simp [-Bool.exists_bool, w_is_thing, startE, N_is_thing, tySub, L2.atI, L2.ixN]
  exact p_in n0 n1 (.now h)
@[simp] theorem pl_tie (t : Tie) : pl (tieD t) = true := rfl
@[simp] theorem pl_ts (s : Stn) : pl (tsD s) = true := plL_map fun _ _ => rfl
@[simp] theorem pl_sh (s : Stn) : pl (shD s) = true := rfl
@[simp] theorem pl_stn (s : Stn) : pl (stnD s) = true := by simp [stnD]
@[simp] theorem pl_ag (p s : Int) (st : Stn) : pl (agD p s st) = true := by simp [agD]
@[simp] theorem pl_sk (p s n : Int) : pl (skD p s n) = true := by simp [skD]
theorem dp_ts (s : Stn) : dp (tsD s) ≤ 2 := by
  have := dpL_map (f := tieD) (k := 1) (m := s.ts) fun _ _ => by simp [tieD]
  simp [tsD]; omega
theorem dp_stn (s : Stn) : dp (stnD s) ≤ 3 := by
  have := dp_ts s
  simp [stnD, shD]; omega
theorem dp_ag (p s : Int) (st : Stn) : dp (agD p s st) ≤ 4 := by
  have := dp_stn st
  simp [agD]; omega
theorem dp_sk (p s n : Int) : dp (skD p s n) ≤ 1 := by simp [skD]
@[simp] theorem i_st0 {s : Stn} : fIx (stnD s) (.int 0) S R = R (.int s.n) S := by simp [stnD, L2.atI, L2.ixN]
@[simp] theorem i_st1 {s : Stn} : fIx (stnD s) (.int 1) S R = R (shD s) S := by simp [stnD, L2.atI, L2.ixN]
@[simp] theorem i_st2 {s : Stn} : fIx (stnD s) (.int 2) S R = R (tsD s) S := by simp [stnD, L2.atI, L2.ixN]
@[simp] theorem i_ag0 {p s : Int} {st : Stn} : fIx (agD p s st) (.int 0) S R = R (.str "agree") S := by simp [agD, L2.atI, L2.ixN]
@[simp] theorem i_ag1 {p s : Int} {st : Stn} : fIx (agD p s st) (.int 1) S R = R (.int p) S := by simp [agD, L2.atI, L2.ixN]
@[simp] theorem i_ag2 {p s : Int} {st : Stn} : fIx (agD p s st) (.int 2) S R = R (.int s) S := by simp [agD, L2.atI, L2.ixN]
@[simp] theorem i_ag3 {p s : Int} {st : Stn} : fIx (agD p s st) (.int 3) S R = R (stnD st) S := by simp [agD, L2.atI, L2.ixN]
def Wel (S : Sto) (wl : Addr) (c : Int) : Prop := ∃ x y z, S wl = some (.lst [.int x, .int y, .int z]) ∧ 0 ≤ y ∧ y < 2147483629 ∧ 0 ≤ z ∧ z ≤ c
theorem p_draw {wl : Addr} {c base : Int} (w : Wel S wl c) (hc : c ≤ 1000000) (h0 : 0 < base) (h1 : base ≤ 1000000) (h : ∀ d S', 0 ≤ d → d < base → Fm [wl] S S' → Wel S' wl (c + 1) → R (.int d) S') : φ__law_draw [.ref wl, .int base] S R RE := by
  obtain ⟨x, y, z, e, y0, y1, z0, z1⟩ := w
  refine ⟨rfl, ?_⟩
  have hb : base.natAbs.log2 < 9000 := by
    have h2 : base.natAbs ≤ 1000000 := by omega
    have h3 : base.natAbs ≠ 0 := by omega
    have := (Nat.log2_lt h3 (k := 20)).mpr (by omega)
    omega
  have e2 : ∀ (R : Pd) (i : Int), fIx (.ref wl) (.int i) S R = ∃ v, L2.atI [.int x, .int y, .int z] i = some v ∧ R v S := fun R i => f_ixR e
  simp [-Bool.exists_bool, -s_seq, s_seqL, w__law_draw, startE, N__law_draw, e2, L2.atI, L2.ixN, cmpGt]
  by_cases hx : 0 < x
  · simp [-Bool.exists_bool, -s_seq, s_seqL, hx, e2, L2.atI, L2.ixN]
    refine ⟨h0, later_of ?_⟩
    simp [-Bool.exists_bool, -s_seq, s_seqL, e2, L2.atI, L2.ixN, f_setIL e]
    refine ⟨⟨h0, hb⟩, later_of ?_⟩
    simp
    refine .now (h _ _ (Int.emod_nonneg _ (by omega)) (Int.emod_lt_of_pos _ h0) (.set (by simp)) ?_)
    exact ⟨x / base, y, z, by simp, y0, y1, z0, by omega⟩
  · simp [-Bool.exists_bool, -s_seq, s_seqL, hx]
    refine later_of ?_
    simp [-Bool.exists_bool, -s_seq, s_seqL, e2, L2.atI, L2.ixN, f_setIL e]
    have e3 : (S.set wl (.lst [.int x, .int y, .int (z + 1)])) wl = some (.lst [.int x, .int y, .int (z + 1)]) := by simp
    have fm : Fm [wl] S (S.set wl (.lst [.int x, .int y, .int (z + 1)])) := .set (by simp)
    have wl' : Wel (S.set wl (.lst [.int x, .int y, .int (z + 1)])) wl (c + 1) := ⟨x, y, z + 1, e3, y0, y1, by omega, by omega⟩
    generalize S.set wl (.lst [.int x, .int y, .int (z + 1)]) = S' at e3 fm wl' ⊢
    have e4 : ∀ (R : Pd) (i : Int), fIx (.ref wl) (.int i) S' R = ∃ v, L2.atI [.int x, .int y, .int (z + 1)] i = some v ∧ R v S' := fun R i => f_ixR e3
    refine later_of (And.intro sz_5 ?_)
    simp only [s_seqL]
    simp [-Bool.exists_bool, -s_seq, e4, L2.atI, L2.ixN]
    refine ⟨.inl ⟨by omega, by omega⟩, ⟨by omega, by omega, by omega⟩, later_of ?_⟩
    have hm0 := Int.emod_nonneg ((y + 7919 * (z + 1)) ^ 5) (b := 2147483647) (by omega)
    have hm1 := Int.emod_lt_of_pos ((y + 7919 * (z + 1)) ^ 5) (b := 2147483647) (by omega)
    generalize (y + 7919 * (z + 1)) ^ 5 % 2147483647 = m at hm0 hm1 ⊢
    have hq : ∃ p : Int, 0 < p ∧ L2.atI [D.int 2147483629, D.int 2147483587, D.int 2147483579, D.int 2147483563, D.int 2147483549] ((z + 1) % 5) = some (.int p) := by
      have a0 := Int.emod_nonneg (z + 1) (b := 5) (by omega)
      have a1 := Int.emod_lt_of_pos (z + 1) (b := 5) (by omega)
      generalize (z + 1) % 5 = t at a0 a1
      have : t = 0 ∨ t = 1 ∨ t = 2 ∨ t = 3 ∨ t = 4 := by omega
      rcases this with rfl | rfl | rfl | rfl | rfl <;> exact ⟨_, by decide, rfl⟩
    generalize [D.int 2147483629, D.int 2147483587, D.int 2147483579, D.int 2147483563, D.int 2147483549] = ps at hq ⊢
    obtain ⟨q, q0, hq⟩ := hq
    have e5 : ∀ (R : Pd) (i : Int), fIx (.ref wl) (.int i) S' R = ∃ v, L2.atI [.int x, .int y, .int (z + 1)] i = some v ∧ R v S' := e4
    have e6 : ∀ (R : Pd), fIx (.ref wl) (.int 2) S' R = R (.int (z + 1)) S' := fun R => by rw [e5]; simp [L2.atI, L2.ixN]
    simp [-Bool.exists_bool, -s_seq, s_seqL, e6, hq]
    refine ⟨by decide +kernel, .inl ⟨by omega, by omega⟩, q0, later_of ?_⟩
    simp [-Bool.exists_bool]
    exact ⟨by decide +kernel, h0, .now (h _ _ (Int.emod_nonneg _ (by omega)) (Int.emod_lt_of_pos _ h0) fm wl')⟩
theorem p_cell_at {ns : List Int} (h : ∀ i, R (.int i) S) : φ__law_cell_at [.scr (ns.map .int), .int 0] S R RE := by
  refine ⟨rfl, ?_⟩
  simp [-Bool.exists_bool, -s_seq, s_seqL, w__law_cell_at, startE, N__law_cell_at, cmpLt]
  cases ns with
  | nil =>
    simp
    refine later_of ?_
    simp
    exact .now (h 0)
  | cons n r =>
    simp
    exact ⟨.int n, by
      have e : L2.ixN (D.int n :: r.map D.int).length 0 = some 0 := by
        unfold L2.ixN
        rw [if_pos (by omega), if_pos (by simp)]
        rfl
      unfold L2.atI
      rw [e]
      rfl, .now (h n)⟩
theorem p_well_of {cell : Int} (h : ∀ wl S', S wl = none → Fm [] S S' → Wel S' wl 0 → R (.ref wl) S') : φ__law_well_of [.int cell] S R RE := by
  refine ⟨rfl, ?_⟩
  simp [-Bool.exists_bool, w__law_well_of, startE, N__law_well_of, L2.CPow, cmpGe]
  have hv : ∀ b : Bool, ∃ x : Int, L2.atI [D.int 0, D.int cell] (if b = true then 1 else 0) = some (.int x) := fun b => by
    cases b <;> exact ⟨_, rfl⟩
  obtain ⟨x, hx⟩ := hv (decide (1000000000000000000 ≤ cell))
  have hm0 := Int.emod_nonneg cell (b := 2147483629) (by omega)
  have hm1 := Int.emod_lt_of_pos cell (b := 2147483629) (by omega)
  have e : ∀ (b : Bool) (R' : Pd), fInt [.bl b] S R' = R' (.int (b2iD b)) S := fun _ _ => rfl
  rw [e, f_ixL]
  refine ⟨.int x, hx, fun p hp => .now (h p _ hp (.new hp) ⟨x, _, 0, by simp, hm0, hm1, by omega, by omega⟩)⟩
def dealB : WpS := (wSeq (wSet 7 (wOp fIx (wLst false (wCons (wC (.int 3)) (wCons (wC (.int 8)) (wCons (wC (.int 17)) (wCons (wC (.int 25)) (wCons (wC (.int 41)) (wCons (wC (.int 59)) wNil))))))) (wCall φ__law_draw [] (wCons (wVar 0) (wCons (wC (.int 6)) wNil)))))
  (wSeq (wSet 8 (wFun fMin (wCons (wVar 3) (wCons (wOp (fAdd false) (wC (.int 1)) (wCall φ__law_draw [] (wCons (wVar 0) (wCons (wC (.int 9)) wNil)))) wNil))))
  (wSeq (wSet 9 (wTup (wCons (wCall φ__law_draw [] (wCons (wVar 0) (wCons (wC (.int 2)) wNil))) (wCons (wVar 8) (wCons (wVar 7) (wCons (wCall φ__law_draw [] (wCons (wVar 0) (wCons (wC (.int 16)) wNil))) wNil))))))
  (wIf (wB (wAnd (wOp (fCmp cmpGt) (wVar 8) (wC (.int 0))) (wOp (fIn true) (wVar 7) (wVar 5)))) (wSeq (wExpr (wMt "list" fAppend (wVar 5) (wCons (wVar 7) wNil)))
  (wSeq (wSet 3 (wOp fSub (wVar 3) (wVar 8)))
  (wSet 4 (wOp (fAdd false) (wVar 4) (wTup (wCons (wVar 9) wNil)))))) wNx))))
theorem Wel.le {S : Sto} {wl : Addr} {c c' : Int} (h : Wel S wl c) (l : c ≤ c') : Wel S wl c' := by
  obtain ⟨x, y, z, e, a, b, d, f⟩ := h
  exact ⟨x, y, z, e, a, b, d, by omega⟩
theorem Wel.fm {S S' : Sto} {A : List Addr} {wl : Addr} {c : Int} (h : Wel S wl c) (f : Fm A S S') (n : wl ∉ A) : Wel S' wl c := by
  obtain ⟨x, y, z, e, a⟩ := h
  exact ⟨x, y, z, by rw [f wl n (by rw [e]; simp)]; exact e, a⟩
structure DealOk (whole left : Int) (ts : List Tie) : Prop where
  l0 : 0 ≤ left
  lw : left ≤ whole
  ok : ∀ t ∈ ts, TieOk t
  nd : (ts.map Tie.w).Nodup
theorem word_at {d : Int} (d0 : 0 ≤ d) (d6 : d < 6) : ∃ w : Int, L2.atI [D.int 3, D.int 8, D.int 17, D.int 25, D.int 41, D.int 59] d = some (.int w) ∧ 0 ≤ w ∧ w ≤ 59 := by
  have : d = 0 ∨ d = 1 ∨ d = 2 ∨ d = 3 ∨ d = 4 ∨ d = 5 := by omega
  rcases this with rfl | rfl | rfl | rfl | rfl | rfl <;> exact ⟨_, rfl, by decide, by decide⟩
theorem deal_turn {wl p : Addr} {n whole left c : Int} {ts : List Tie} {x6 x7 x8 x9 : Option D} {E : ES} {XE : PxE} (hwp : wl ≠ p) (w : Wel S wl c) (hc : c ≤ 900000) (ok : DealOk whole left ts) (hlen : ts.length ≤ 2) (hp : S p = some (.lst (ts.map fun t => .int t.w)))
    (h : ∀ left' ts' S' x7 x8 x9, DealOk whole left' ts' → ts'.length ≤ ts.length + 1 → Fm [wl, p] S S' → Wel S' wl (c + 4) → S' p = some (.lst (ts'.map fun t => .int t.w)) → E.nx [some (.ref wl), some (.int n), some (.int whole), some (.int left'), some (.tup (ts'.map tieD)), some (.ref p), x6, x7, x8, x9, none] S') :
    dealB [some (.ref wl), some (.int n), some (.int whole), some (.int left), some (.tup (ts.map tieD)), some (.ref p), x6, x7, x8, x9, none] S E XE := by
  refine And.intro sz_6 ⟨_, rfl, ?_⟩
  refine p_draw w (by omega) (by decide) (by decide) fun d1 S1 d10 d11 f1 w1 => ?_
  obtain ⟨wd, hw, w0, w59⟩ := word_at d10 d11
  refine (show fIx (.lst [D.int 3, D.int 8, D.int 17, D.int 25, D.int 41, D.int 59]) (.int d1) S1 _ from ?_)
  rw [f_ixL]
  refine ⟨_, hw, ?_⟩
  clear hw
  simp only [s_seqL]
  simp [-Bool.exists_bool, -s_seq]
  refine p_draw w1 (by omega) (by decide) (by decide) fun d2 S2 d20 d21 f2 w2 => ?_
  simp only [f_addI, f_minI]
  refine later_of ?_
  simp [-Bool.exists_bool, -s_seq, s_seqL]
  refine p_draw w2 (by omega) (by decide) (by decide) fun d3 S3 d30 d31 f3 w3 => ?_
  refine p_draw w3 (by omega) (by decide) (by decide) fun d4 S4 d40 d41 f4 w4 => ?_
  have fm : Fm [wl] S S4 := ((f1.trans f2).trans f3).trans f4
  have fm2 : Fm [wl, p] S S4 := fun b hb n => fm b (by simp at hb ⊢; exact hb.1) n
  have hp4 : S4 p = some (.lst (ts.map fun t => .int t.w)) := by rw [fm p (by simp; exact fun e => hwp e.symm) (by rw [hp]; simp)]; exact hp
  have w4' : Wel S4 wl (c + 4) := w4.le (by omega)
  have hin : ∀ R' : Pd, R' (.bl (!decide (wd ∈ ts.map Tie.w))) S4 → fIn true (.int wd) (.ref p) S4 R' := fun R' hR => by
    unfold fIn
    rw [contOf_refL hp4]
    refine ⟨ok_pl (plL_map fun _ _ => rfl) ?_, okI _, ?_⟩
    · have := dpL_map (f := fun t : Tie => D.int t.w) (k := 0) (m := ts) fun _ _ => Nat.le_refl _
      simp only [dp_lst]; omega
    · have e : ((ts.map fun t => D.int t.w).any fun z => dEq z (.int wd)) = decide (wd ∈ ts.map Tie.w) := by
        rw [Bool.eq_iff_iff]
        simp [dEqI]
      rw [e, Bool.true_xor]
      exact hR
  generalize ham : (if 1 + d2 < left then 1 + d2 else left) = amt
  have am9 : amt ≤ 9 := by rw [← ham]; split <;> omega
  have aml : amt ≤ left := by rw [← ham]; split <;> omega
  have al0 := ok.l0
  have alw := ok.lw
  refine later_of ?_
  by_cases ha : 0 < amt
  · by_cases hi : wd ∈ ts.map Tie.w
    · simp [-Bool.exists_bool, -s_seq, s_seqL, cmpGt, ha]
      refine hin _ ?_
      rw [decide_eq_true hi]
      simp [-Bool.exists_bool]
      exact h left ts S4 _ _ _ ok (Nat.le_succ _) fm2 w4' hp4
    · simp [-Bool.exists_bool, -s_seq, s_seqL, cmpGt, ha]
      refine hin _ ?_
      rw [decide_eq_false hi]
      simp [-Bool.exists_bool, -s_seq, s_seqL]
      refine ⟨tyM_refL hp4, p, _, .int wd, rfl, rfl, hp4, by simp; exact Nat.le_trans (Nat.succ_le_succ hlen) (by decide), later_of ?_⟩
      simp [-Bool.exists_bool, -s_seq, s_seqL]
      refine later_of ?_
      simp
      refine ⟨Nat.le_trans (Nat.succ_le_succ hlen) (by decide), ?_⟩
      have q := h (left - amt) (ts ++ [⟨d3, amt, wd, d4⟩]) (S4.set p (.lst ((ts.map fun t => .int t.w) ++ [.int wd]))) (some (.int wd)) (some (.int amt)) (some (.tup [.int d3, .int amt, .int wd, .int d4]))
        ⟨by omega, by omega, ?_, ?_⟩ (by simp) (fm2.trans (.set (by simp))) (w4'.fm (.set (A := [p]) (by simp)) (by simpa using hwp)) (by simp)
      · simpa [tieD] using q
      · intro t ht
        rcases List.mem_append.mp ht with ht | ht
        · exact ok.ok t ht
        · simp at ht; subst ht; exact ⟨d30, (by show d3 ≤ 1; omega), (by show 1 ≤ amt; omega), am9, w0, w59, d40, (by show d4 ≤ 15; omega)⟩
      · rw [List.map_append, List.nodup_append]
        refine ⟨ok.nd, by simp, ?_⟩
        intro x hx y hy e
        simp at hy
        subst hy
        exact hi (e ▸ hx)
  · simp [-Bool.exists_bool, -s_seq, s_seqL, cmpGt, ha]
    exact h left ts S4 _ _ _ ok (Nat.le_succ _) fm2 w4' hp4
end
section
variable {R : Pd} {RE : Px}
theorem deal_loop {wl p : Addr} {n whole : Int} {E : ES} {XE : PxE} (hwp : wl ≠ p) : ∀ (m : Nat) (lo left c : Int) (ts : List Tie) (S : Sto) (x6 x7 x8 x9 : Option D), Wel S wl c → c + 4 * m ≤ 900000 → DealOk whole left ts → ts.length + m ≤ 3 →
    S p = some (.lst (ts.map fun t => .int t.w)) →
    (∀ left' ts' S' x6 x7 x8 x9, DealOk whole left' ts' → ts'.length ≤ 3 → Fm [wl, p] S S' → Wel S' wl (c + 4 * m) → E.nx [some (.ref wl), some (.int n), some (.int whole), some (.int left'), some (.tup (ts'.map tieD)), some (.ref p), x6, x7, x8, x9, none] S') →
    forL none (.nm 6) dealB (rngD lo m) [some (.ref wl), some (.int n), some (.int whole), some (.int left), some (.tup (ts.map tieD)), some (.ref p), x6, x7, x8, x9, none] S E XE
  | 0, lo, left, c, ts, S, x6, x7, x8, x9, w, hc, ok, hl, hp, h => ⟨trivial, h left ts S _ _ _ _ ok (by omega) .refl (w.le (by omega))⟩
  | m + 1, lo, left, c, ts, S, x6, x7, x8, x9, w, hc, ok, hl, hp, h => by
    refine ⟨trivial, _, rfl, ?_⟩
    refine deal_turn (x6 := some (.int lo)) hwp w (by omega) ok (by omega) hp fun left' ts' S' x7 x8 x9 ok' hl' f' w' hp' => ?_
    refine deal_loop hwp m (lo + 1) left' (c + 4) ts' S' _ _ _ _ w' (by omega) ok' (by omega) hp' fun left2 ts2 S2 y6 y7 y8 y9 ok2 hl2 f2 w2 => ?_
    exact h left2 ts2 S2 _ _ _ _ ok2 hl2 (f'.trans f2) (w2.le (by omega))
theorem p_deal {S : Sto} {wl : Addr} {n whole c : Int} (w : Wel S wl c) (hc : c ≤ 800000) (n0 : 0 ≤ n) (n1 : n ≤ 1000) (h0 : 0 ≤ whole) (h1 : whole ≤ 1000) (h : ∀ st S', StnOk st → st.n = n → Fm [wl] S S' → Wel S' wl (c + 20) → R (stnD st) S') : φ__law_deal [.ref wl, .int n, .int whole] S R RE := by
  refine ⟨rfl, ?_⟩
  simp [-Bool.exists_bool, -s_seq, s_seqL, w__law_deal, startE, N__law_deal]
  refine later_of ?_
  simp [-Bool.exists_bool, -s_seq, s_seqL]
  refine later_of ?_
  simp [-Bool.exists_bool, -s_seq, s_seqL]
  intro p hp
  have hwp : wl ≠ p := fun e => by
    obtain ⟨_, _, _, e1, _⟩ := w
    rw [e, hp] at e1; cases e1
  refine later_of ?_
  have w' : Wel (S.set p (.lst [])) wl c := w.fm (.set (A := [p]) (by simp)) (by simpa using hwp)
  have f0 : Fm [wl] S (S.set p (.lst [])) := .new hp
  have hp0 : (S.set p (.lst [])) p = some (.lst []) := by simp
  generalize S.set p (.lst []) = S0 at w' f0 hp0
  simp only [s_seqL]
  refine Exists.intro _ (And.intro rfl ?_)
  refine p_draw w' (by omega) (by decide) (by decide) fun d S1 d0 d4 f1 w1 => ?_
  refine And.intro (by omega) (And.intro (by omega) ?_)
  have hp1 : S1 p = some (.lst (([] : List Tie).map fun t => .int t.w)) := by rw [f1 p (by simp; exact fun e => hwp e.symm) (by rw [hp0]; simp)]; exact hp0
  refine deal_loop hwp d.toNat 0 whole (c + 1) [] S1 none none none none w1 (by omega) ⟨h0, Int.le_refl _, (fun t ht => (by cases ht)), List.nodup_nil⟩ (by simp; omega) hp1 fun left ts S2 x6 x7 x8 x9 ok hl f2 w2 => ?_
  dsimp only
  refine later_of ?_
  have l0 := ok.l0
  have lw := ok.lw
  simp [-Bool.exists_bool, -s_seq, s_seqL]
  refine p_draw (w2.le (c' := c + 15) (by omega)) (by omega) (by omega) (by omega) fun e S3 e0 e1 f3 w3 => ?_
  refine later_of ?_
  simp
  have fin := h ⟨n, e, left - e, ts⟩ S3 ⟨n0, n1, e0, (by show e ≤ 1000; omega), (by show 0 ≤ left - e; omega), (by show left - e ≤ 1000; omega), hl, ok.ok, ok.nd⟩ rfl ?_ (w3.le (by omega))
  · exact .now fin
  · have g1 : Fm [wl, p] S S2 := fun b hb n => by
      have e1 := (f0.trans f1) b (by simp at hb ⊢; exact hb.1) n
      rw [f2 b hb (by rw [e1]; exact n), e1]
    intro b hb n
    by_cases hbp : b = p
    · subst hbp; exact absurd hp n
    · have e2 := g1 b (by simp at hb ⊢; exact ⟨hb, hbp⟩) n
      rw [f3 b hb (by rw [e2]; exact n), e2]
end
end L98
end

section
set_option Elab.async false
set_option linter.all false
set_option maxRecDepth 100000
set_option autoImplicit false
namespace L98
open SB PySem PySem.Spec L2
/-! pots, claims, what was shown -/
structure Pt where
  l : Int
  r : Int
  o : Int
  q : Int
  w : Int
def Pt.whole (p : Pt) : Int := p.o + p.q
def potD (p : Pt) : D := .tup [.int p.l, .int p.r, .int p.o, .int p.q, .int p.w]
structure PtOk (p : Pt) : Prop where
  l0 : 0 ≤ p.l
  l3 : p.l ≤ 3
  r0 : 0 ≤ p.r
  r3 : p.r ≤ 3
  ne : p.l ≠ p.r
  o0 : 0 ≤ p.o
  o1 : p.o ≤ 20
  q0 : 0 ≤ p.q
  q1 : p.q ≤ 20
  w0 : 1 ≤ p.w
  w1 : p.w ≤ 5
inductive Clm where
  | held | laid (s : Int) (st : Stn) (d : Int) | taken (s : Int)
def clD : Clm → D
  | .held => .tup [.str "held"]
  | .laid s st d => .tup [.str "laid", .int s, stnD st, .int d]
  | .taken s => .tup [.str "taken", .int s]
def clF (p : Pt) : Clm → List (String × D)
  | .held => [("whole", .int p.whole)]
  | .laid s st d => [("whole", .int p.whole), ("layer", .int s), ("lying", stnD st), ("begun", .int d), ("patience", .int p.w)]
  | .taken s => [("whole", .int p.whole), ("taker", .int s)]
def Clm.cls : Clm → String
  | .held => "Held"
  | .laid .. => "Laid"
  | .taken _ => "Taken"
def clB (p : Pt) (c : Clm) : D := .ins c.cls (clF p c)
def sOk (s : Int) : Prop := s = 0 ∨ s = 1
def ClOk : Clm → Prop
  | .held => True
  | .laid s st _ => sOk s ∧ StnOk st
  | .taken s => sOk s
abbrev Shn := List (Int × Int)
def shK (m : Shn) : List (Key × D) := m.map fun x => ((.inl x.1 : Key), .int x.2)
theorem look_sh {w : Int} : ∀ m : Shn, lookK (.inl w) (shK m) = (m.lookup w).map .int
  | [] => rfl
  | (v, d) :: m => by
    have ih := look_sh (w := w) m
    unfold shK at ih ⊢
    rw [List.map_cons, lookK, List.lookup_cons]
    by_cases h : v = w
    · subst h; simp
    · have h1 : ¬ ((.inl v : Key) = .inl w) := fun e => h (by cases e; rfl)
      have h2 : (w == v) = false := by simpa using fun e => h e.symm
      rw [if_neg h1, h2, ih]
def shownIn (m : Shn) (w d : Int) : Bool := match m.lookup w with
  | some x => decide (x < d)
  | none => false
/-- what a tie adds to the dues -/
def tieAdd (m : Shn) (day : Int) (v : Int × Int × Int) (t : Tie) : Int × Int × Int :=
  if shownIn m t.w t.d = true then (if t.p = 0 then (v.1, v.2.1 + t.a, v.2.2) else (v.1 + t.a, v.2.1, v.2.2))
  else if day < t.d then (v.1, v.2.1, v.2.2 + t.a)
  else if t.p = 0 then (v.1 + t.a, v.2.1, v.2.2) else (v.1, v.2.1 + t.a, v.2.2)
def dueC (p : Pt) (c : Clm) (day : Int) (m : Shn) : Int × Int × Int := match c with
  | .held => (0, 0, p.whole)
  | .taken s => if s = 0 then (p.whole, 0, 0) else (0, p.whole, 0)
  | .laid _ st d => if day < d + p.w then (0, 0, p.whole) else st.ts.foldl (tieAdd m day) (st.l, st.r, 0)
def dueT (v : Int × Int × Int) : D := .tup [.int v.1, .int v.2.1, .int v.2.2]
def dueL (v : Int × Int × Int) : List D := [.int v.1, .int v.2.1, .int v.2.2]
/-- a book as it stands -/
structure Bk where
  day : Int
  cl : List Clm
  sh : List Shn
def clsB (ps : List Pt) (cl : List Clm) : List D := List.zipWith clB ps cl
def bkF (c s : Addr) (ps : List Pt) (day : Int) : List (String × D) := [("kept", .lst (ps.map potD)), ("now", .int day), ("claims", .ref c), ("shows", .ref s)]
structure Bst (S : Sto) (b c s : Addr) (ds : List Addr) (ps : List Pt) (k : Bk) : Prop where
  hb : S b = some (.ins "Book" (bkF c s ps k.day))
  hc : S c = some (.lst (clsB ps k.cl))
  hs : S s = some (.lst (ds.map .ref))
  hd : ∀ (i : Nat) d m, ds[i]? = some d → k.sh[i]? = some m → S d = some (.dct (shK m))
  l1 : ds.length = ps.length
  l2 : k.cl.length = ps.length
  l3 : k.sh.length = ps.length
  l4 : 1 ≤ ps.length ∧ ps.length ≤ 3
  nd : (b :: c :: s :: ds).Nodup
  ok : ∀ p ∈ ps, PtOk p
  cok : ∀ x ∈ k.cl, ClOk x
  sok : ∀ m ∈ k.sh, ∀ x ∈ m, 0 ≤ x.1 ∧ x.1 ≤ 59
/-- the law's own of it -/
def sdF (pa c s : Addr) (day : Int) : List (Key × D) := [(.inr "pots", .ref pa), (.inr "day", .int day), (.inr "claims", .ref c), (.inr "shown", .ref s)]
structure Tst (S : Sto) (a pa c s : Addr) (ds : List Addr) (ps : List Pt) (k : Bk) : Prop where
  ha : S a = some (.dct (sdF pa c s k.day))
  hp : S pa = some (.lst (ps.map potD))
  hc : S c = some (.lst (k.cl.map clD))
  hs : S s = some (.lst (ds.map .ref))
  hd : ∀ (i : Nat) d m, ds[i]? = some d → k.sh[i]? = some m → S d = some (.dct (shK m))
  l1 : ds.length = ps.length
  nd : (a :: pa :: c :: s :: ds).Nodup
theorem Bst.fm {S S' : Sto} {b c s : Addr} {ds : List Addr} {ps : List Pt} {k : Bk} {A : List Addr} (B : Bst S b c s ds ps k) (f : Fm A S S') (h : ∀ x ∈ b :: c :: s :: ds, x ∉ A) : Bst S' b c s ds ps k :=
  { B with
    hb := f.at B.hb (h _ (by simp))
    hc := f.at B.hc (h _ (by simp))
    hs := f.at B.hs (h _ (by simp))
    hd := fun i d m e1 e2 => f.at (B.hd i d m e1 e2) (h _ (by have := List.mem_of_getElem? e1; simp [this])) }
theorem Tst.fm {S S' : Sto} {a pa c s : Addr} {ds : List Addr} {ps : List Pt} {k : Bk} {A : List Addr} (T : Tst S a pa c s ds ps k) (f : Fm A S S') (h : ∀ x ∈ a :: pa :: c :: s :: ds, x ∉ A) : Tst S' a pa c s ds ps k :=
  { T with
    ha := f.at T.ha (h _ (by simp))
    hp := f.at T.hp (h _ (by simp))
    hc := f.at T.hc (h _ (by simp))
    hs := f.at T.hs (h _ (by simp))
    hd := fun i d m e1 e2 => f.at (T.hd i d m e1 e2) (h _ (by have := List.mem_of_getElem? e1; simp [this])) }
theorem Bst.new {S : Sto} {b c s p : Addr} {ds : List Addr} {ps : List Pt} {k : Bk} (B : Bst S b c s ds ps k) (hp : S p = none) (o : SO) : Bst (S.set p o) b c s ds ps k := B.fm (A := []) (.new hp) (fun _ _ => by simp)
theorem Tst.new {S : Sto} {a pa c s p : Addr} {ds : List Addr} {ps : List Pt} {k : Bk} (T : Tst S a pa c s ds ps k) (hp : S p = none) (o : SO) : Tst (S.set p o) a pa c s ds ps k := T.fm (A := []) (.new hp) (fun _ _ => by simp)
section
variable {ς : En} {S : Sto} {R : Pd} {RE : Px}
theorem get_zip {ps : List Pt} {cl : List Clm} {i : Nat} {p : Pt} {c : Clm} (h : ps[i]? = some p) (h' : cl[i]? = some c) : (clsB ps cl)[i]? = some (clB p c) := by
  simp [clsB, List.getElem?_zipWith, h, h']
@[simp] theorem i_pt0 {p : Pt} : fIx (potD p) (.int 0) S R = R (.int p.l) S := by simp [potD, L2.atI, L2.ixN]
@[simp] theorem i_pt1 {p : Pt} : fIx (potD p) (.int 1) S R = R (.int p.r) S := by simp [potD, L2.atI, L2.ixN]
@[simp] theorem i_pt2 {p : Pt} : fIx (potD p) (.int 2) S R = R (.int p.o) S := by simp [potD, L2.atI, L2.ixN]
@[simp] theorem i_pt3 {p : Pt} : fIx (potD p) (.int 3) S R = R (.int p.q) S := by simp [potD, L2.atI, L2.ixN]
@[simp] theorem i_pt4 {p : Pt} : fIx (potD p) (.int 4) S R = R (.int p.w) S := by simp [potD, L2.atI, L2.ixN]
@[simp] theorem i_du0 {v : Int × Int × Int} : fIx (dueT v) (.int 0) S R = R (.int v.1) S := by simp [dueT, L2.atI, L2.ixN]
@[simp] theorem i_du1 {v : Int × Int × Int} : fIx (dueT v) (.int 1) S R = R (.int v.2.1) S := by simp [dueT, L2.atI, L2.ixN]
@[simp] theorem i_du2 {v : Int × Int × Int} : fIx (dueT v) (.int 2) S R = R (.int v.2.2) S := by simp [dueT, L2.atI, L2.ixN]
variable {b c s : Addr} {ds : List Addr} {ps : List Pt} {k : Bk}
theorem g_kept (B : Bst S b c s ds ps k) : fget "kept" (.ref b) S R = R (.lst (ps.map potD)) S := by simp [fget, insOf, B.hb, bkF, look]
theorem g_now (B : Bst S b c s ds ps k) : fget "now" (.ref b) S R = R (.int k.day) S := by simp [fget, insOf, B.hb, bkF, look]
theorem g_claims (B : Bst S b c s ds ps k) : fget "claims" (.ref b) S R = R (.ref c) S := by simp [fget, insOf, B.hb, bkF, look]
theorem g_shows (B : Bst S b c s ds ps k) : fget "shows" (.ref b) S R = R (.ref s) S := by simp [fget, insOf, B.hb, bkF, look]
@[simp] theorem g_whole {p : Pt} {x : Clm} : fget "whole" (clB p x) S R = R (.int p.whole) S := by cases x <;> simp [fget, clB, clF, look]
/-- a method of the book -/
theorem m_book {m : String} {nd : Nat × List D × SB.Spec} {cs : List (String × Nat × List D × SB.Spec)} {K : Nat × List D × SB.Spec → Prop} (B : Bst S b c s ds ps k) (h1 : ∀ x ∈ ["kept", "now", "claims", "shows"], x ≠ m) (h2 : cs.lookup "Book" = some nd) (h : K nd) : mlook m cs (.ref b) S K := by
  refine ⟨"Book", bkF c s ps k.day, nd, by simp [insOf, B.hb], ?_, h2, h⟩
  simp at h1
  simp [bkF, look, h1]
end
end L98
end

section
set_option Elab.async false
set_option linter.all false
set_option maxRecDepth 100000
set_option autoImplicit false
namespace L98
open SB PySem PySem.Spec L2
section
variable {ς : En} {S : Sto} {R : Pd} {RE : Px} {p : Pt} {x : Clm} {K : Nat × List D × SB.Spec → Prop}
theorem m_cl {m : String} {nd : Nat × List D × SB.Spec} {cs : List (String × Nat × List D × SB.Spec)} (h1 : ∀ y ∈ ["whole", "layer", "lying", "begun", "patience", "taker"], y ≠ m) (h2 : cs.lookup x.cls = some nd) (h : K nd) : mlook m cs (clB p x) S K := by
  refine ⟨x.cls, clF p x, nd, rfl, ?_, h2, h⟩
  simp at h1
  cases x <;> simp [clF, look, h1]
theorem p_cl_told (h : ∀ nd, nd.2.1 = [] → (∀ (S : Sto) (R : Pd) (RE : Px), R (clD x) S → nd.2.2 [clB p x] S R RE) → K nd) : mlook "told" cs_told_1 (clB p x) S K := by
  cases x with
  | held => exact m_cl (nd := (1, [], φ_Held_told)) (by decide) rfl (h _ rfl fun S R RE h => ⟨rfl, by simp [w_Held_told, startE, N_Held_told]; exact .now h⟩)
  | laid s st d => exact m_cl (nd := (1, [], φ_Laid_told)) (by decide) rfl (h _ rfl fun S R RE h => ⟨rfl, by simp [-Bool.exists_bool, w_Laid_told, startE, N_Laid_told, clB, clF, fget, look]; exact .now h⟩)
  | taken s => exact m_cl (nd := (1, [], φ_Taken_told)) (by decide) rfl (h _ rfl fun S R RE h => ⟨rfl, by simp [-Bool.exists_bool, w_Taken_told, startE, N_Taken_told, clB, clF, fget, look]; exact .now h⟩)
theorem f_inSh {d : Addr} {m : Shn} {w : Int} (hd : S d = some (.dct (shK m))) : fIn false (.int w) (.ref d) S R = R (.bl (m.lookup w).isSome) S := by
  unfold fIn
  rw [contOf_refD hd]
  simp [SB.keyOf, look_sh]
theorem laid_tie {q d : Addr} {m : Shn} {day : Int} {v : Int × Int × Int} {t : Tie} {x0 : D} {x4 x5 x6 x7 : Option D} {E : ES} {XE : PxE} (ot : TieOk t) (hq : S q = some (.lst (dueL v))) (hd : S d = some (.dct (shK m)))
    (h : E.nx [some x0, some (.int day), some (.ref d), some (.ref q), some (.int t.p), some (.int t.a), some (.int t.w), some (.int t.d)] (S.set q (.lst (dueL (tieAdd m day v t))))) :
    (wIf (wB (wAnd (wOp (fIn false) (wVar 6) (wVar 2)) (wOp (fCmp cmpLt) (wOp fIx (wVar 2) (wVar 6)) (wVar 7)))) (wSetI (wOp (fAdd false) (wOp fIx (wVar 3) (wOp fSub (wC (.int 1)) (wVar 4))) (wVar 5)) (wVar 3) (wOp fSub (wC (.int 1)) (wVar 4))) (wIf (wB (wOp (fCmp cmpGe) (wVar 1) (wVar 7))) (wSetI (wOp (fAdd false) (wOp fIx (wVar 3) (wVar 4)) (wVar 5)) (wVar 3) (wVar 4)) (wSetI (wOp (fAdd false) (wOp fIx (wVar 3) (wC (.int 2))) (wVar 5)) (wVar 3) (wC (.int 2)))))
      [some x0, some (.int day), some (.ref d), some (.ref q), some (.int t.p), some (.int t.a), some (.int t.w), some (.int t.d)] S E XE := by
  have hs : tieAdd m day v t = tieAdd m day v t := rfl
  have p0 := ot.p0
  have p1 := ot.p1
  have hp : t.p = 0 ∨ t.p = 1 := by omega
  simp [-Bool.exists_bool, f_inSh hd]
  unfold tieAdd shownIn at h
  have go : ∀ (i : Int) (v' : Int × Int × Int), (∃ z j, L2.atI (dueL v) i = some (.int z) ∧ L2.ixN 3 i = some j ∧ (dueL v).set j (.int (z + t.a)) = dueL v') → ∀ K : Sto → Prop, K (S.set q (.lst (dueL v'))) → fIx (.ref q) (.int i) S (fun y S1 => fAdd false y (.int t.a) S1 (fun y S2 => fSetI (.ref q) (.int i) y S2 K)) := fun i v' ⟨z, j, e1, e2, e3⟩ K hK => by
    rw [f_ixR hq]
    refine ⟨_, e1, ?_⟩
    simp only [f_addI, f_setIL hq]
    exact ⟨j, e2, by rw [e3]; exact hK⟩
  cases hl : m.lookup t.w with
  | none =>
    rw [hl] at h
    simp only [Bool.false_eq_true, if_false] at h
    simp [-Bool.exists_bool, cmpGe]
    by_cases hdt : day < t.d
    · rw [if_pos hdt] at h
      rw [if_neg (by omega)]
      exact go 2 (v.1, v.2.1, v.2.2 + t.a) ⟨v.2.2, 2, rfl, rfl, rfl⟩ _ h
    · rw [if_neg hdt] at h
      rw [if_pos (by omega)]
      rcases hp with e | e
      · rw [e] at h ⊢
        rw [if_pos rfl] at h
        exact go 0 (v.1 + t.a, v.2.1, v.2.2) ⟨v.1, 0, rfl, rfl, rfl⟩ _ h
      · rw [e] at h ⊢
        rw [if_neg (by decide)] at h
        exact go 1 (v.1, v.2.1 + t.a, v.2.2) ⟨v.2.1, 1, rfl, rfl, rfl⟩ _ h
  | some z =>
    rw [hl] at h
    simp [-Bool.exists_bool, f_ixRI hd, look_sh, hl, cmpLt, cmpGe]
    by_cases hz : z < t.d
    · simp only [decide_eq_true hz, if_true] at h
      rw [if_pos hz]
      rcases hp with e | e
      · rw [e] at h ⊢
        rw [if_pos rfl] at h
        exact go 1 (v.1, v.2.1 + t.a, v.2.2) ⟨v.2.1, 1, rfl, rfl, rfl⟩ _ h
      · rw [e] at h ⊢
        rw [if_neg (by decide)] at h
        exact go 0 (v.1 + t.a, v.2.1, v.2.2) ⟨v.1, 0, rfl, rfl, rfl⟩ _ h
    · simp only [decide_eq_false hz, Bool.false_eq_true, if_false] at h
      rw [if_neg hz]
      by_cases hdt : day < t.d
      · rw [if_pos hdt] at h
        rw [if_neg (by omega)]
        exact go 2 (v.1, v.2.1, v.2.2 + t.a) ⟨v.2.2, 2, rfl, rfl, rfl⟩ _ h
      · rw [if_neg hdt] at h
        rw [if_pos (by omega)]
        rcases hp with e | e
        · rw [e] at h ⊢
          rw [if_pos rfl] at h
          exact go 0 (v.1 + t.a, v.2.1, v.2.2) ⟨v.1, 0, rfl, rfl, rfl⟩ _ h
        · rw [e] at h ⊢
          rw [if_neg (by decide)] at h
          exact go 1 (v.1, v.2.1 + t.a, v.2.2) ⟨v.2.1, 1, rfl, rfl, rfl⟩ _ h
theorem p_laid_comes {d : Addr} {m : Shn} {s day dd : Int} {st : Stn} (os : StnOk st) (hd : S d = some (.dct (shK m))) (h : R (dueT (dueC p (.laid s st dd) day m)) S) : φ_Laid_comes [clB p (.laid s st dd), .int day, .ref d] S R RE := by
  refine ⟨rfl, ?_⟩
  have gb : ∀ (S : Sto) (R : Pd), fget "begun" (clB p (.laid s st dd)) S R = R (.int dd) S := fun S R => by simp [fget, clB, clF, look]
  have gp : ∀ (S : Sto) (R : Pd), fget "patience" (clB p (.laid s st dd)) S R = R (.int p.w) S := fun S R => by simp [fget, clB, clF, look]
  have gl : ∀ (S : Sto) (R : Pd), fget "lying" (clB p (.laid s st dd)) S R = R (stnD st) S := fun S R => by simp [fget, clB, clF, look]
  simp [-Bool.exists_bool, -s_seq, s_seqL, w_Laid_comes, startE, N_Laid_comes, gb, gp, cmpLt]
  unfold dueC at h
  dsimp only at h
  by_cases hday : day < dd + p.w
  · rw [if_pos hday] at h ⊢
    exact .now h
  · rw [if_neg hday] at h ⊢
    refine later_of ?_
    simp [-Bool.exists_bool, -s_seq, s_seqL, gl, shD, fList]
    intro q hq
    refine later_of ?_
    simp only [s_seqL]
    unfold wFor
    simp [-Bool.exists_bool, gl, tsD]
    have e0 : [D.int st.l, D.int st.r, D.int 0] = dueL (st.l, st.r, 0) := rfl
    rw [e0]
    refine for_inv (fun done ς S' => ∃ x4 x5 x6 x7, ς = [some (clB p (.laid s st dd)), some (.int day), some (.ref d), some (.ref q), x4, x5, x6, x7] ∧ S' = S.set q (.lst (dueL (done.foldl (tieAdd m day) (st.l, st.r, 0)))))
      (fun _ _ _ _ => trivial) (fun done t rest ς S' e ⟨x4, x5, x6, x7, e1, e2⟩ => ?_) ⟨none, none, none, none, rfl, rfl⟩ (fun ς S' ⟨x4, x5, x6, x7, e1, e2⟩ => ?_)
    · subst e1 e2
      refine ⟨_, rfl, fun K hK => ?_⟩
      refine laid_tie (v := done.foldl (tieAdd m day) (st.l, st.r, 0)) (m := m) (x4 := none) (x5 := none) (x6 := none) (x7 := none) (os.ok t (by rw [e]; simp)) (by simp) (by rw [Sto.set_ne (ne_of_S hd hq)]; exact hd) ?_
      rw [Sto.set_set]
      exact hK _ _ ⟨_, _, _, _, rfl, by rw [List.foldl_append]; rfl⟩
    · subst e1 e2
      dsimp only
      refine later_of ?_
      have q0 : ∀ (v : Int × Int × Int) (R : Pd), fIx (.ref q) (.int 0) (S.set q (.lst (dueL v))) R = R (.int v.1) (S.set q (.lst (dueL v))) := fun v R => by rw [f_ixR Sto.set_same]; simp [dueL, L2.atI, L2.ixN]
      have q1 : ∀ (v : Int × Int × Int) (R : Pd), fIx (.ref q) (.int 1) (S.set q (.lst (dueL v))) R = R (.int v.2.1) (S.set q (.lst (dueL v))) := fun v R => by rw [f_ixR Sto.set_same]; simp [dueL, L2.atI, L2.ixN]
      have q2 : ∀ (v : Int × Int × Int) (R : Pd), fIx (.ref q) (.int 2) (S.set q (.lst (dueL v))) R = R (.int v.2.2) (S.set q (.lst (dueL v))) := fun v R => by rw [f_ixR Sto.set_same]; simp [dueL, L2.atI, L2.ixN]
      simp [-Bool.exists_bool, q0, q1, q2]
      exact ret_drop hq h
theorem p_cl_comes {d : Addr} {m : Shn} (ox : ClOk x) (h : ∀ nd, nd.2.1 = [] → (∀ (S : Sto) (R : Pd) (RE : Px) (day : Int), S d = some (.dct (shK m)) → R (dueT (dueC p x day m)) S → nd.2.2 [clB p x, .int day, .ref d] S R RE) → K nd) : mlook "comes" cs_comes (clB p x) S K := by
  cases x with
  | held => exact m_cl (nd := (3, [], φ_Held_comes)) (by decide) rfl (h _ rfl fun S R RE day hd h => ⟨rfl, by simp [w_Held_comes, startE, N_Held_comes]; exact .now h⟩)
  | laid s st dd => exact m_cl (nd := (3, [], φ_Laid_comes)) (by decide) rfl (h _ rfl fun S R RE day hd h => p_laid_comes ox.2 hd h)
  | taken s =>
    refine m_cl (nd := (3, [], φ_Taken_comes)) (by decide) rfl (h _ rfl fun S R RE day hd h => ⟨rfl, ?_⟩)
    have gt : ∀ (S : Sto) (R : Pd), fget "taker" (clB p (.taken s)) S R = R (.int s) S := fun S R => by simp [fget, clB, clF, look]
    simp [-Bool.exists_bool, w_Taken_comes, startE, N_Taken_comes, gt]
    unfold dueC at h
    dsimp only at h
    by_cases e : s = 0
    · simp only [e, if_true] at h ⊢
      exact .now h
    · simp only [e, if_false] at h ⊢
      exact .now h
end
end L98
end

section
set_option Elab.async false
set_option linter.all false
set_option maxRecDepth 100000
set_option autoImplicit false
namespace L98
open SB PySem PySem.Spec L2
section
variable {ς : En} {S : Sto} {R : Pd} {RE : Px} {b c s : Addr} {ds : List Addr} {ps : List Pt} {k : Bk}
theorem p_look {i sd : Int} (B : Bst S b c s ds ps k) (h1 : 0 ≤ i → i < ps.length → 0 ≤ sd → sd ≤ 1 → R .non S) (h2 : ¬ ((0 ≤ i ∧ i < ps.length) ∧ (0 ≤ sd ∧ sd ≤ 1)) → RE "NoDeed" S) : φ_Book_look_for [.ref b, .int i, .int sd] S R RE := by
  refine ⟨rfl, ?_⟩
  simp [-Bool.exists_bool, w_Book_look_for, startE, N_Book_look_for, g_kept B]
  refine p_in_bounds ?_
  by_cases c1 : 0 ≤ i ∧ i < ps.length
  · have e1 : (decide (0 ≤ i) && decide (i ≤ (ps.length : Int) - 1)) = true := by simp; omega
    rw [e1]
    simp [-Bool.exists_bool]
    refine p_in_bounds ?_
    by_cases c2 : 0 ≤ sd ∧ sd ≤ 1
    · have e2 : (decide (0 ≤ sd) && decide (sd ≤ 1)) = true := by simp; omega
      rw [e2]
      simp
      exact .now (h1 c1.1 c1.2 c2.1 c2.2)
    · have e2 : (decide (0 ≤ sd) && decide (sd ≤ 1)) = false := by simp; omega
      rw [e2]
      simp [wRaise]
      exact h2 fun z => c2 z.2
  · have e1 : (decide (0 ≤ i) && decide (i ≤ (ps.length : Int) - 1)) = false := by simp; omega
    rw [e1]
    simp [wRaise]
    exact h2 fun z => c1 z.1
theorem p_lookN {i : Nat} (B : Bst S b c s ds ps k) (hi : i < ps.length) (h : R .non S) : φ_Book_look_for [.ref b, .int (i : Int), .int 0] S R RE :=
  p_look B (fun _ _ _ _ => h) fun z => absurd ⟨⟨by omega, by omega⟩, by decide, by decide⟩ z
variable {i : Nat} {p : Pt} {x : Clm} {m : Shn}
theorem p_told (B : Bst S b c s ds ps k) (hp : ps[i]? = some p) (hx : k.cl[i]? = some x) (h : R (clD x) S) : φ_Book_told [.ref b, .int (i : Int)] S R RE := by
  refine ⟨rfl, ?_⟩
  simp [-Bool.exists_bool, -s_seq, s_seqL, w_Book_told, startE, N_Book_told]
  refine m_book B (by decide) rfl ?_
  simp [-Bool.exists_bool]
  refine p_lookN B (lt_of hp) (later_of ?_)
  simp [-Bool.exists_bool, g_claims B]
  rw [ixR_of B.hc (get_zip hp hx)]
  refine p_cl_told fun nd e hnd => ?_
  rw [e]
  exact hnd _ _ _ (.now h)
theorem p_due_of {d : Addr} (B : Bst S b c s ds ps k) (hp : ps[i]? = some p) (hx : k.cl[i]? = some x) (hd : ds[i]? = some d) (hm : k.sh[i]? = some m) (h : R (dueT (dueC p x k.day m)) S) : φ_Book_due_of [.ref b, .int (i : Int)] S R RE := by
  refine ⟨rfl, ?_⟩
  simp [-Bool.exists_bool, -s_seq, s_seqL, w_Book_due_of, startE, N_Book_due_of]
  refine m_book B (by decide) rfl ?_
  simp [-Bool.exists_bool]
  refine p_lookN B (lt_of hp) (later_of ?_)
  simp [-Bool.exists_bool, g_claims B, g_now B, g_shows B]
  rw [ixR_of B.hc (get_zip hp hx)]
  refine p_cl_comes (m := m) (d := d) (B.cok x (List.mem_of_getElem? hx)) fun nd e hnd => ?_
  rw [e]
  simp only [g_now B, g_shows B, ixR_of B.hs (get_map (g := D.ref) hd)]
  exact hnd _ _ _ _ (B.hd i d m hd hm) (.now h)
theorem p_shown_for {d : Addr} (B : Bst S b c s ds ps k) (hp : ps[i]? = some p) (hd : ds[i]? = some d) (hm : k.sh[i]? = some m) (hl : m.length ≤ 1000) (h : ∀ q, S q = none → R (.ref q) (S.set q (.dct (shK m)))) : φ_Book_shown_for [.ref b, .int (i : Int)] S R RE := by
  refine ⟨rfl, ?_⟩
  simp [-Bool.exists_bool, -s_seq, s_seqL, w_Book_shown_for, startE, N_Book_shown_for]
  refine m_book B (by decide) rfl ?_
  simp [-Bool.exists_bool]
  refine p_lookN B (lt_of hp) (later_of ?_)
  simp [-Bool.exists_bool, g_shows B]
  rw [ixR_of B.hs (get_map (g := D.ref) hd)]
  have e := B.hd i d m hd hm
  rw [f_dictR e]
  exact ⟨sz1000 (by simpa [shK] using hl), fun q hq => .now (h q hq)⟩
theorem p_made_of (B : Bst S b c s ds ps k) (h : ∀ q, S q = none → R (.ref q) (S.set q (.lst (ps.map potD)))) : φ_Book_made_of [.ref b] S R RE := by
  refine ⟨rfl, ?_⟩
  have := B.l4
  simp [-Bool.exists_bool, w_Book_made_of, startE, N_Book_made_of, g_kept B, fList]
  exact ⟨sz1000 (by omega), fun q hq => .now (h q hq)⟩
theorem p_today (B : Bst S b c s ds ps k) (h : R (.int k.day) S) : φ_Book_today [.ref b] S R RE := by
  refine ⟨rfl, ?_⟩
  simp [-Bool.exists_bool, w_Book_today, startE, N_Book_today, g_now B]
  exact .now h
/-- the dues of a pot -/
def dueAt (ps : List Pt) (k : Bk) (i : Nat) : Int × Int × Int := dueC (ps.getD i ⟨0, 0, 0, 0, 0⟩) (k.cl.getD i .held) k.day (k.sh.getD i [])
theorem p_due (B : Bst S b c s ds ps k) (hi : i < ps.length) (h : R (dueT (dueAt ps k i)) S) : φ_Book_due_of [.ref b, .int (i : Int)] S R RE :=
  p_due_of B (get_ex _ hi) (get_ex _ (by rw [B.l2]; exact hi)) (get_ex 0 (by rw [B.l1]; exact hi)) (get_ex _ (by rw [B.l3]; exact hi)) h
/-- a hand's coin: the first n pots -/
def coinUp (ps : List Pt) (k : Bk) (hand : Int) : Nat → Int
  | 0 => 0
  | n + 1 => coinUp ps k hand n + (if (ps.getD n ⟨0, 0, 0, 0, 0⟩).l = hand then (dueAt ps k n).1 else 0) + (if (ps.getD n ⟨0, 0, 0, 0, 0⟩).r = hand then (dueAt ps k n).2.1 else 0)
theorem p_coin_of {hand : Int} (B : Bst S b c s ds ps k) (h0 : 0 ≤ hand) (h3 : hand ≤ 3) (h : R (.int (coinUp ps k hand ps.length)) S) : φ_Book_coin_of [.ref b, .int hand] S R RE := by
  have hl := B.l4
  refine ⟨rfl, ?_⟩
  simp [-Bool.exists_bool, -s_seq, s_seqL, w_Book_coin_of, startE, N_Book_coin_of]
  refine p_in h0 h3 ?_
  simp [-Bool.exists_bool, -s_seq, s_seqL]
  refine later_of ?_
  simp only [s_seqL, s_set, s_c]
  refine later_of ?_
  simp [-Bool.exists_bool, -s_seq, s_seqL, g_kept B]
  refine ⟨by omega, ?_⟩
  rw [rngD_range]
  refine for_inv (gd := none) (fun done ς S' => S' = S ∧ (done = List.range done.length → ∃ x3 x4 x5, ς = [some (.ref b), some (.int hand), some (.int (coinUp ps k hand done.length)), x3, x4, x5]))
    (fun _ _ _ _ => trivial) (fun done j rest ς S' e ⟨e1, e2⟩ => ?_) ⟨rfl, fun _ => ⟨none, none, none, rfl⟩⟩ (fun ς S' ⟨e1, e2⟩ => ?_)
  · subst e1
    obtain ⟨hd1, rfl, hlt⟩ := range_at e
    obtain ⟨x3, x4, x5, rfl⟩ := e2 hd1
    refine ⟨_, rfl, fun K hK => ?_⟩
    simp [-Bool.exists_bool, -s_seq, s_seqL]
    refine m_book B (by decide) rfl ?_
    simp [-Bool.exists_bool]
    refine p_due B hlt (later_of ?_)
    simp [-Bool.exists_bool]
    have hgp := get_ex (⟨0, 0, 0, 0, 0⟩ : Pt) hlt
    have kk : ∀ (R : Pd), fIx (.lst (ps.map potD)) (.int (done.length : Int)) S' R = R (potD (ps.getD done.length ⟨0, 0, 0, 0, 0⟩)) S' := fun R => ixL_of (get_map hgp)
    have r2 : rngD 0 2 = [.int 0, .int 1] := rfl
    rw [r2]
    have fin : ∀ y x5, y = coinUp ps k hand (done.length + 1) → K [some (.ref b), some (.int hand), some (.int y), some (.int (done.length : Int)), some (dueT (dueAt ps k done.length)), x5] S' := fun y x5 e => by
      subst e
      exact hK _ _ ⟨rfl, fun _ => ⟨some (.int (done.length : Int)), some (dueT (dueAt ps k done.length)), x5, by simp⟩⟩
    generalize hP : ps.getD done.length ⟨0, 0, 0, 0, 0⟩ = P at kk hgp
    have cu : coinUp ps k hand (done.length + 1) = coinUp ps k hand done.length + (if P.l = hand then (dueAt ps k done.length).1 else 0) + (if P.r = hand then (dueAt ps k done.length).2.1 else 0) := by rw [← hP]; rfl
    rw [cu] at fin
    generalize coinUp ps k hand done.length = y0 at fin
    generalize dueAt ps k done.length = v at fin
    refine ⟨trivial, _, rfl, ?_⟩
    simp [-Bool.exists_bool, g_kept B, kk]
    by_cases c1 : P.l = hand
    · simp only [c1, if_true] at fin ⊢
      refine ⟨trivial, _, rfl, ?_⟩
      simp [-Bool.exists_bool, g_kept B, kk]
      by_cases c2 : P.r = hand
      · simp only [c2, if_true] at fin ⊢
        exact ⟨trivial, fin _ _ rfl⟩
      · simp only [c2, if_false] at fin ⊢
        exact ⟨trivial, fin _ _ (by omega)⟩
    · simp only [c1, if_false] at fin ⊢
      refine ⟨trivial, _, rfl, ?_⟩
      simp [-Bool.exists_bool, g_kept B, kk]
      by_cases c2 : P.r = hand
      · simp only [c2, if_true] at fin ⊢
        exact ⟨trivial, fin _ _ (by omega)⟩
      · simp only [c2, if_false] at fin ⊢
        exact ⟨trivial, fin _ _ (by omega)⟩
  · subst e1
    obtain ⟨x3, x4, x5, rfl⟩ := e2 (by simp)
    dsimp only
    refine later_of ?_
    simp at h ⊢
    exact .now h
end
end L98
end

section
set_option Elab.async false
set_option linter.all false
set_option maxRecDepth 100000
set_option autoImplicit false
namespace L98
open SB PySem PySem.Spec L2
theorem blL_map {α : Type} {g : α → Bool} : ∀ {m : List α}, blL (m.map fun x => .bl (g x)) = some (m.map g)
  | [] => rfl
  | x :: r => by simp [blL, blL_map (g := g) (m := r)]
theorem sorted_ext : ∀ {l m : List Int}, l.Pairwise (· < ·) → m.Pairwise (· < ·) → (∀ k, k ∈ l ↔ k ∈ m) → l = m
  | [], [], _, _, _ => rfl
  | [], y :: m, _, _, h => by have := (h y).mpr List.mem_cons_self; cases this
  | x :: l, [], _, _, h => by have := (h x).mp List.mem_cons_self; cases this
  | x :: l, y :: m, h1, h2, h => by
    rw [List.pairwise_cons] at h1 h2
    have hx := (h x).mp List.mem_cons_self
    have hy := (h y).mpr List.mem_cons_self
    have e : x = y := by
      rcases List.mem_cons.mp hx with e | hx
      · exact e
      · rcases List.mem_cons.mp hy with e | hy
        · exact e.symm
        · have := h1.1 _ hy; have := h2.1 _ hx; omega
    subst e
    rw [sorted_ext h1.2 h2.2 fun k => ?_]
    constructor
    · intro hk
      have := h1.1 _ hk
      rcases List.mem_cons.mp ((h k).mp (List.mem_cons_of_mem _ hk)) with e | e
      · omega
      · exact e
    · intro hk
      have := h2.1 _ hk
      rcases List.mem_cons.mp ((h k).mpr (List.mem_cons_of_mem _ hk)) with e | e
      · omega
      · exact e
section
variable {ς : En} {S : Sto} {R : Pd} {RE : Px} {b c s : Addr} {ds : List Addr} {ps : List Pt} {k : Bk}
def overB (ps : List Pt) (k : Bk) : Bool := (List.range ps.length).all fun i => decide ((dueAt ps k i).2.2 = 0)
theorem p_is_over (B : Bst S b c s ds ps k) (h : R (.bl (overB ps k)) S) : φ_Book_is_over [.ref b] S R RE := by
  have hl := B.l4
  refine ⟨rfl, ?_⟩
  simp [-Bool.exists_bool, w_Book_is_over, startE, N_Book_is_over, g_kept B]
  refine ⟨by omega, fun q hq => ?_⟩
  rw [rngD_range]
  refine lc_mapS (fun i => .bl (decide ((dueAt ps k i).2.2 = 0))) (fun _ => trivial) (by simp; omega) (fun i hi => ⟨_, rfl, fun o R hR => ?_⟩) ?_
  · have Bq := B.new hq o
    simp [-Bool.exists_bool, wipeE]
    refine m_book Bq (by decide) rfl ?_
    simp [-Bool.exists_bool]
    refine p_due Bq (by simpa using hi) ?_
    simp [-Bool.exists_bool]
    exact hR
  · simp only [lcEnd, Sto.del_set, Sto.del_none hq]
    refine ⟨_, _, rfl, blL_map, ?_⟩
    refine .now ?_
    have e : ((List.range ps.length).map fun i => decide ((dueAt ps k i).2.2 = 0)).all id = overB ps k := by
      unfold overB
      rw [List.all_map]
      rfl
    rw [e]; exact h
/-- a word that was shown for some pot -/
def shownB (k : Bk) (w : Int) : Bool := k.sh.any fun m => (m.lookup w).isSome
def wordsL (k : Bk) : List Int := ((List.range 60).filter fun i : Nat => shownB k (i : Int)).map fun i : Nat => (i : Int)
theorem zip_ref {ds : List Addr} {sh : List Shn} (h : ds.length = sh.length) : ds.map D.ref = (ds.zip sh).map fun x => D.ref x.1 := by
  apply List.ext_getElem
  · simp [h]
  · intro i h1 h2; simp
theorem zip_at {ds : List Addr} {sh : List Shn} {P : Addr → Shn → Prop} (h : ∀ (i : Nat) d m, ds[i]? = some d → sh[i]? = some m → P d m) : ∀ x ∈ ds.zip sh, P x.1 x.2 := fun x hx => by
  obtain ⟨i, hi, e⟩ := List.mem_iff_getElem.mp hx
  simp at hi
  rw [List.getElem_zip] at e
  rw [← e]
  exact h i _ _ (List.getElem?_eq_getElem (by omega)) (List.getElem?_eq_getElem (by omega))
theorem zip_any {ds : List Addr} {sh : List Shn} (h : ds.length = sh.length) (f : Shn → Bool) : ((ds.zip sh).any fun x => f x.2) = sh.any f := by
  have e : (ds.zip sh).map (·.2) = sh := by
    rw [List.map_snd_zip]
    omega
  rw [← e, List.any_map]
  simp [e]
  rfl
theorem p_all_shown (B : Bst S b c s ds ps k) (h : ∀ q, S q = none → R (.ref q) (S.set q (.lst ((wordsL k).map .int)))) : φ_Book_all_shown [.ref b] S R RE := by
  have hl := B.l4
  have hds : ds.length = k.sh.length := by rw [B.l1, B.l3]
  refine ⟨rfl, ?_⟩
  simp [-Bool.exists_bool, w_Book_all_shown, startE, N_Book_all_shown]
  intro q hq
  rw [rngD_range]
  refine lc_filterS (fun i : Nat => shownB k (i : Int)) (fun i => .int (i : Int)) (fun _ => trivial) (by simp) (fun i hi => ⟨_, rfl, fun o Rb hR => ?_, fun o R hR => ?_⟩) ?_
  · have Bq := B.new hq o
    simp [-Bool.exists_bool, wipeE, g_shows Bq, srcOf_ref Bq.hs]
    intro z hz
    rw [zip_ref hds]
    have hsz : s ≠ z := ne_of_S Bq.hs hz
    refine lc_mapS (fun x => .bl ((x.2.lookup (i : Int)).isSome)) (fun o' => ?_) (by have := B.l1; simp; omega) (fun x hx => ⟨_, rfl, fun o' R hR => ?_⟩) ?_
    · show ((S.set q o).set z o') s = _
      rw [Sto.set_ne hsz, Bq.hs, zip_ref hds]
    · have hx2 := zip_at (P := fun d m => ((S.set q o).set z o') d = some (.dct (shK m))) (fun i d m e1 e2 => (Bq.new hz o').hd i d m e1 e2) x hx
      simp [-Bool.exists_bool, wipeE, f_inSh hx2]
      exact hR
    · simp only [lcEnd, Sto.del_set, Sto.del_none hz]
      refine ⟨_, _, rfl, blL_map, ?_⟩
      have e : ((ds.zip k.sh).map fun x => (x.2.lookup (i : Int)).isSome).all id = true ∨ True := .inr trivial
      have e2 : (((ds.zip k.sh).map fun x => (x.2.lookup (i : Int)).isSome).any id) = shownB k (i : Int) := by
        rw [List.any_map]
        exact zip_any hds fun m => (m.lookup (i : Int)).isSome
      rw [e2]
      exact ⟨_, rfl, hR⟩
  · simp [-Bool.exists_bool, wipeE]
    exact hR
  · simp only [lcEnd]
    refine .now ?_
    have e : ((List.range 60).filter fun i : Nat => shownB k (i : Int)).map (fun i : Nat => D.int (i : Int)) = (wordsL k).map .int := by simp [wordsL]
    rw [e]
    exact h q hq
end
end L98
end

section
set_option Elab.async false
set_option linter.all false
set_option maxRecDepth 100000
set_option autoImplicit false
namespace L98
open SB PySem PySem.Spec L2
section
variable {ς : En} {S : Sto} {R : Pd} {RE : Px} {a pa c s : Addr} {ds : List Addr} {ps : List Pt} {k : Bk}
theorem x_pots (T : Tst S a pa c s ds ps k) : fIx (.ref a) (.str "pots") S R = R (.ref pa) S := by
  rw [f_ixRD T.ha]; simp [sdF, lookK]
theorem x_day (T : Tst S a pa c s ds ps k) : fIx (.ref a) (.str "day") S R = R (.int k.day) S := by
  rw [f_ixRD T.ha]; simp [sdF, lookK]
theorem x_claims (T : Tst S a pa c s ds ps k) : fIx (.ref a) (.str "claims") S R = R (.ref c) S := by
  rw [f_ixRD T.ha]; simp [sdF, lookK]
theorem x_shown (T : Tst S a pa c s ds ps k) : fIx (.ref a) (.str "shown") S R = R (.ref s) S := by
  rw [f_ixRD T.ha]; simp [sdF, lookK]
theorem f_getSh {d : Addr} {m : Shn} {w l : Int} (hd : S d = some (.dct (shK m))) (h : R (.int ((m.lookup w).getD l)) S) : fGet (.ref d) [.int w, .int l] S R := by
  refine ⟨shK m, .int w, .int l, .inl w, contOf_refD hd, rfl, rfl, ?_⟩
  rw [look_sh]
  cases e : m.lookup w with
  | none => rw [e] at h; exact h
  | some z => rw [e] at h; exact h
def tieB : WpS := (wIf (wB (wOp (fCmp cmpLt) (wMt "dict" fGet (wOp fIx (wOp fIx (wVar 0) (wC (.str ("shown" : Str)))) (wVar 1)) (wCons (wVar 11) (wCons (wVar 12) wNil))) (wVar 12))) (wSetI (wOp (fAdd false) (wOp fIx (wVar 8) (wOp fSub (wC (.int 1)) (wVar 9))) (wVar 10)) (wVar 8) (wOp fSub (wC (.int 1)) (wVar 9))) (wIf (wB (wOp (fCmp cmpLt) (wOp fIx (wVar 0) (wC (.str ("day" : Str)))) (wVar 12))) (wSetI (wOp (fAdd false) (wOp fIx (wVar 8) (wC (.int 2))) (wVar 10)) (wVar 8) (wC (.int 2))) (wSetI (wOp (fAdd false) (wOp fIx (wVar 8) (wVar 9)) (wVar 10)) (wVar 8) (wVar 9))))
theorem law_tie {q d : Addr} {m : Shn} {i : Nat} {v : Int × Int × Int} {t : Tie} {x2 x3 x4 x5 x6 x7 : Option D} {E : ES} {XE : PxE} (T : Tst S a pa c s ds ps k) (ot : TieOk t) (hq : S q = some (.lst (dueL v))) (hd : ds[i]? = some d) (hm : k.sh[i]? = some m)
    (h : E.nx [some (.ref a), some (.int (i : Int)), x2, x3, x4, x5, x6, x7, some (.ref q), some (.int t.p), some (.int t.a), some (.int t.w), some (.int t.d)] (S.set q (.lst (dueL (tieAdd m k.day v t))))) :
    tieB [some (.ref a), some (.int (i : Int)), x2, x3, x4, x5, x6, x7, some (.ref q), some (.int t.p), some (.int t.a), some (.int t.w), some (.int t.d)] S E XE := by
  have p0 := ot.p0
  have p1 := ot.p1
  have hp : t.p = 0 ∨ t.p = 1 := by omega
  have hdd := T.hd i d m hd hm
  unfold tieB
  simp [-Bool.exists_bool, x_shown T, x_day T, ixR_of T.hs (get_map (g := D.ref) hd)]
  refine ⟨tyM_refD hdd, f_getSh hdd ?_⟩
  unfold tieAdd shownIn at h
  have go : ∀ (i : Int) (v' : Int × Int × Int), (∃ z j, L2.atI (dueL v) i = some (.int z) ∧ L2.ixN 3 i = some j ∧ (dueL v).set j (.int (z + t.a)) = dueL v') → ∀ K : Sto → Prop, K (S.set q (.lst (dueL v'))) → fIx (.ref q) (.int i) S (fun y S1 => fAdd false y (.int t.a) S1 (fun y S2 => fSetI (.ref q) (.int i) y S2 K)) := fun i v' ⟨z, j, e1, e2, e3⟩ K hK => by
    rw [f_ixR hq]
    refine ⟨_, e1, ?_⟩
    simp only [f_addI, f_setIL hq]
    exact ⟨j, e2, by rw [e3]; exact hK⟩
  have rest : (if k.day < t.d then E.nx [some (.ref a), some (.int (i : Int)), x2, x3, x4, x5, x6, x7, some (.ref q), some (.int t.p), some (.int t.a), some (.int t.w), some (.int t.d)] (S.set q (.lst (dueL (v.1, v.2.1, v.2.2 + t.a))))
      else E.nx [some (.ref a), some (.int (i : Int)), x2, x3, x4, x5, x6, x7, some (.ref q), some (.int t.p), some (.int t.a), some (.int t.w), some (.int t.d)] (S.set q (.lst (dueL (if t.p = 0 then (v.1 + t.a, v.2.1, v.2.2) else (v.1, v.2.1 + t.a, v.2.2)))))) →
      (if k.day < t.d then fIx (.ref q) (.int 2) S fun x S1 => fAdd false x (.int t.a) S1 fun x S1 => fSetI (.ref q) (.int 2) x S1 fun S4 => E.nx [some (.ref a), some (.int (i : Int)), x2, x3, x4, x5, x6, x7, some (.ref q), some (.int t.p), some (.int t.a), some (.int t.w), some (.int t.d)] S4
       else fIx (.ref q) (.int t.p) S fun x S1 => fAdd false x (.int t.a) S1 fun x S1 => fSetI (.ref q) (.int t.p) x S1 fun S4 => E.nx [some (.ref a), some (.int (i : Int)), x2, x3, x4, x5, x6, x7, some (.ref q), some (.int t.p), some (.int t.a), some (.int t.w), some (.int t.d)] S4) := fun h => by
    by_cases hdt : k.day < t.d
    · rw [if_pos hdt] at h ⊢
      exact go 2 _ ⟨v.2.2, 2, rfl, rfl, rfl⟩ _ h
    · rw [if_neg hdt] at h ⊢
      rcases hp with e | e
      · rw [e] at h ⊢
        rw [if_pos rfl] at h
        exact go 0 _ ⟨v.1, 0, rfl, rfl, rfl⟩ _ h
      · rw [e] at h ⊢
        rw [if_neg (by decide)] at h
        exact go 1 _ ⟨v.2.1, 1, rfl, rfl, rfl⟩ _ h
  cases hl : m.lookup t.w with
  | none =>
    rw [hl] at h
    simp only [Bool.false_eq_true, if_false] at h
    simp [-Bool.exists_bool, cmpLt, x_day T]
    refine rest ?_
    by_cases hdt : k.day < t.d
    · rw [if_pos hdt] at h ⊢; exact h
    · rw [if_neg hdt] at h ⊢; exact h
  | some z =>
    rw [hl] at h
    simp [-Bool.exists_bool, cmpLt, x_day T]
    by_cases hz : z < t.d
    · simp only [decide_eq_true hz, if_true] at h
      rw [if_pos hz]
      rcases hp with e | e
      · rw [e] at h ⊢
        rw [if_pos rfl] at h
        exact go 1 _ ⟨v.2.1, 1, rfl, rfl, rfl⟩ _ h
      · rw [e] at h ⊢
        rw [if_neg (by decide)] at h
        exact go 0 _ ⟨v.1, 0, rfl, rfl, rfl⟩ _ h
    · simp only [decide_eq_false hz, Bool.false_eq_true, if_false] at h
      rw [if_neg hz]
      refine rest ?_
      by_cases hdt : k.day < t.d
      · rw [if_pos hdt] at h ⊢; exact h
      · rw [if_neg hdt] at h ⊢; exact h
variable {i : Nat} {p : Pt} {x : Clm} {m : Shn}
theorem p__law_due_of {d : Addr} (T : Tst S a pa c s ds ps k) (op : PtOk p) (ox : ClOk x) (hp : ps[i]? = some p) (hx : k.cl[i]? = some x) (hd : ds[i]? = some d) (hm : k.sh[i]? = some m) (h : R (dueT (dueC p x k.day m)) S) : φ__law_due_of [.ref a, .int (i : Int)] S R RE := by
  refine ⟨rfl, ?_⟩
  have bd : ∀ ς : En, Tg.bind (.tup (.cons (.nm 2) (.cons (.nm 3) (.cons (.nm 4) (.cons (.nm 5) (.cons (.nm 6) .nil)))))) (potD p) ς = some (((((ς.set 2 (some (.int p.l))).set 3 (some (.int p.r))).set 4 (some (.int p.o))).set 5 (some (.int p.q))).set 6 (some (.int p.w))) := fun ς => rfl
  simp only [w__law_due_of, startE, N__law_due_of, s_seqL]
  simp [-Bool.exists_bool, -s_seq, x_pots T, ixR_of T.hp (get_map hp), bd]
  refine later_of ?_
  simp [-Bool.exists_bool, -s_seq, s_seqL, x_claims T, ixR_of T.hc (get_map hx)]
  refine later_of ?_
  have hw : p.whole = p.o + p.q := rfl
  have oo := op.o0
  have oq := op.q0
  have o1 := op.o1
  have q1 := op.q1
  cases x with
  | held =>
    simp [-Bool.exists_bool, -s_seq, s_seqL, clD, L2.atI, L2.ixN]
    refine later_of ?_
    simp [-Bool.exists_bool, -s_seq, s_seqL, L2.atI, L2.ixN]
    exact .now h
  | taken z =>
    unfold dueC at h
    dsimp only at h
    simp [-Bool.exists_bool, -s_seq, s_seqL, clD, L2.atI, L2.ixN]
    rcases ox with rfl | rfl
    · rw [if_pos rfl] at h
      refine ⟨.inl ⟨by omega, by omega⟩, .inl ⟨by omega, by omega⟩, ?_⟩
      refine .now ?_
      simpa [dueT, hw] using h
    · rw [if_neg (by decide)] at h
      refine ⟨.inl ⟨by omega, by omega⟩, .inl ⟨by omega, by omega⟩, ?_⟩
      refine .now ?_
      simpa [dueT, hw] using h
  | laid z st dd =>
    have os := ox.2
    unfold dueC at h
    dsimp only at h
    simp [-Bool.exists_bool, -s_seq, s_seqL, clD, L2.atI, L2.ixN]
    refine later_of ?_
    simp [-Bool.exists_bool, -s_seq, s_seqL, L2.atI, L2.ixN, x_day T, cmpLt]
    by_cases hday : k.day < dd + p.w
    · rw [if_pos hday] at h ⊢
      exact .now h
    · rw [if_neg hday] at h ⊢
      refine later_of ?_
      simp [-Bool.exists_bool, -s_seq, s_seqL, shD, fList, L2.atI, L2.ixN]
      intro q hq
      refine later_of ?_
      simp [-Bool.exists_bool, -s_seq, s_seqL, L2.atI, L2.ixN, tsD]
      have e0 : [D.int st.l, D.int st.r, D.int 0] = dueL (st.l, st.r, 0) := rfl
      rw [e0]
      refine for_inv (gd := none) (tb := tieB) (fun done ς S' => ∃ x9 x10 x11 x12, ς = [some (.ref a), some (.int (i : Int)), some (.int p.l), some (.int p.r), some (.int p.o), some (.int p.q), some (.int p.w), some (.tup [.str "laid", .int z, stnD st, .int dd]), some (.ref q), x9, x10, x11, x12] ∧ S' = S.set q (.lst (dueL (done.foldl (tieAdd m k.day) (st.l, st.r, 0)))))
        (fun _ _ _ _ => trivial) (fun done t rest ς S' e ⟨x4, x5, x6, x7, e1, e2⟩ => ?_) ⟨none, none, none, none, rfl, rfl⟩ (fun ς S' ⟨x4, x5, x6, x7, e1, e2⟩ => ?_)
      · subst e1 e2
        refine ⟨_, rfl, fun K hK => ?_⟩
        refine law_tie (v := done.foldl (tieAdd m k.day) (st.l, st.r, 0)) (T.new hq _) (os.ok t (by rw [e]; simp)) (by simp) hd hm ?_
        rw [Sto.set_set]
        exact hK _ _ ⟨_, _, _, _, rfl, by rw [List.foldl_append]; rfl⟩
      · subst e1 e2
        dsimp only
        refine later_of ?_
        simp only [s_ret, s_fun, s_cons, s_nil, s_var]
        refine ⟨.ref q, rfl, dueL (st.ts.foldl (tieAdd m k.day) (st.l, st.r, 0)), (by simp [seqOf, contOf_refL (Sto.set_same)] : seqOf (S.set q (.lst (dueL (st.ts.foldl (tieAdd m k.day) (st.l, st.r, 0))))) (.ref q) = some (dueL (st.ts.foldl (tieAdd m k.day) (st.l, st.r, 0)))), ?_⟩
        exact ret_drop hq h
theorem p_ldue (T : Tst S a pa c s ds ps k) (ok : ∀ p ∈ ps, PtOk p) (cok : ∀ x ∈ k.cl, ClOk x) (l2 : k.cl.length = ps.length) (l3 : k.sh.length = ps.length) (hi : i < ps.length) (h : R (dueT (dueAt ps k i)) S) : φ__law_due_of [.ref a, .int (i : Int)] S R RE := by
  have h1 := get_ex (⟨0, 0, 0, 0, 0⟩ : Pt) hi
  have h2 := get_ex Clm.held (show i < k.cl.length by rw [l2]; exact hi)
  have h3 := get_ex (0 : Addr) (show i < ds.length by rw [T.l1]; exact hi)
  have h4 := get_ex ([] : Shn) (show i < k.sh.length by rw [l3]; exact hi)
  exact p__law_due_of T (ok _ (List.mem_of_getElem? h1)) (cok _ (List.mem_of_getElem? h2)) h1 h2 h3 h4 h
end
end L98
end

section
set_option Elab.async false
set_option linter.all false
set_option maxRecDepth 100000
set_option autoImplicit false
namespace L98
open SB PySem PySem.Spec L2
theorem tie_nn {m : Shn} {day : Int} : ∀ {ts : List Tie} {v : Int × Int × Int}, (∀ t ∈ ts, TieOk t) → 0 ≤ v.2.2 → 0 ≤ (ts.foldl (tieAdd m day) v).2.2
  | [], v, _, h => h
  | t :: ts, v, ok, h => by
    rw [List.foldl_cons]
    refine tie_nn (fun x hx => ok x (List.mem_cons_of_mem _ hx)) ?_
    have := (ok t List.mem_cons_self).a0
    unfold tieAdd
    (repeat' split) <;> (dsimp only; omega)
theorem due_nn {p : Pt} {x : Clm} {day : Int} {m : Shn} (op : PtOk p) (ox : ClOk x) : 0 ≤ (dueC p x day m).2.2 := by
  have h0 := op.o0
  have h1 := op.q0
  unfold dueC
  cases x with
  | held => show 0 ≤ p.o + p.q; omega
  | taken s => dsimp only; split <;> exact Int.le_refl _
  | laid s st d =>
    dsimp only
    split
    · show 0 ≤ p.o + p.q; omega
    · exact tie_nn ox.2.ok (Int.le_refl _)
def coL (f : Int → Int) : List D := [.int (f 0), .int (f 1), .int (f 2), .int (f 3)]
theorem co_at {f : Int → Int} {l x : Int} (h0 : 0 ≤ l) (h3 : l ≤ 3) : L2.atI (coL f) l = some (.int (f l)) ∧ ∃ j, L2.ixN 4 l = some j ∧ (coL f).set j (.int (f l + x)) = coL (fun h => if h = l then f h + x else f h) := by
  have : l = 0 ∨ l = 1 ∨ l = 2 ∨ l = 3 := by omega
  rcases this with rfl | rfl | rfl | rfl
  · exact ⟨rfl, 0, rfl, by simp [coL]⟩
  · exact ⟨rfl, 1, rfl, by simp [coL]⟩
  · exact ⟨rfl, 2, rfl, by simp [coL]⟩
  · exact ⟨rfl, 3, rfl, by simp [coL]⟩
def wordsUp (k : Bk) (j : Nat) : List Int := ((k.sh.take j).map fun m : Shn => m.map (·.1)).flatten
theorem wordsUp_succ {k : Bk} {j : Nat} {m : Shn} (h : k.sh[j]? = some m) : wordsUp k (j + 1) = wordsUp k j ++ m.map (·.1) := by
  unfold wordsUp
  have e : k.sh.take (j + 1) = k.sh.take j ++ [m] := by rw [List.take_add_one, h]; rfl
  rw [e]; simp
def cnt (k : Bk) : Nat := (k.sh.map List.length).sum
theorem wordsUp_len {k : Bk} : ∀ j, (wordsUp k j).length ≤ cnt k := fun j => by
  have h : ∀ (l : List Shn) (j : Nat), (((l.take j).map fun m : Shn => m.map (·.1)).flatten).length ≤ (l.map List.length).sum := by
    intro l
    induction l with
    | nil => intro j; simp
    | cons m l ih =>
      intro j
      cases j with
      | zero => simp
      | succ j => have := ih j; simp at this ⊢; omega
  exact h k.sh j
theorem le_cnt {k : Bk} {m : Shn} (h : m ∈ k.sh) : m.length ≤ cnt k := by
  unfold cnt
  have g : ∀ l : List Shn, m ∈ l → m.length ≤ (l.map List.length).sum := by
    intro l
    induction l with
    | nil => intro h; cases h
    | cons x l ih =>
      intro h
      rcases List.mem_cons.mp h with rfl | h
      · simp
      · have := ih h; simp; omega
  exact g _ h
theorem zip_map {ds : List Addr} {sh : List Shn} (h : ds.length = sh.length) (f : Shn → D) : ((ds.zip sh).map fun x => f x.2) = sh.map f := by
  have e : (ds.zip sh).map (·.2) = sh := by
    rw [List.map_snd_zip]
    omega
  have e2 := congrArg (List.map f) e
  rw [List.map_map] at e2
  exact e2
theorem mem_words {k : Bk} {w : Int} (sok : ∀ m ∈ k.sh, ∀ x ∈ m, 0 ≤ x.1 ∧ x.1 ≤ 59) : w ∈ wordsL k ↔ w ∈ wordsUp k k.sh.length := by
  have hl : ∀ m : Shn, (m.lookup w).isSome = true ↔ w ∈ m.map (·.1) := by
    intro m
    induction m with
    | nil => simp
    | cons x m ih =>
      obtain ⟨v, d⟩ := x
      rw [List.lookup_cons]
      by_cases h : w = v
      · subst h; simp
      · have : (w == v) = false := by simpa using h
        rw [this]
        simp only [List.map_cons, List.mem_cons]
        rw [ih]
        simp [h]
  unfold wordsL wordsUp shownB
  rw [List.take_length]
  simp only [List.mem_map, List.mem_filter, List.mem_range, List.any_eq_true, List.mem_flatten]
  constructor
  · rintro ⟨i, ⟨hi, m, hm, h⟩, rfl⟩
    exact ⟨m.map (·.1), ⟨m, hm, rfl⟩, (hl m).mp h⟩
  · rintro ⟨l, ⟨m, hm, rfl⟩, h⟩
    obtain ⟨x, hx, rfl⟩ := List.mem_map.mp h
    have h2 := sok m hm x hx
    refine ⟨x.1.toNat, ⟨by omega, m, hm, ?_⟩, by omega⟩
    have e : ((x.1.toNat : Nat) : Int) = x.1 := by omega
    rw [e]
    exact (hl m).mpr (List.mem_map_of_mem hx)
theorem words_sorted (k : Bk) : (wordsL k).Pairwise (· < ·) := by
  unfold wordsL
  rw [List.pairwise_map]
  exact (List.pairwise_lt_range.filter _).imp fun h => by omega
section
variable {ς : En} {S : Sto} {R : Pd} {RE : Px} {a pa c s : Addr} {ds : List Addr} {ps : List Pt} {k : Bk}
def shLs (k : Bk) : List D := k.sh.map fun m => .dct (shK m)
def duesL (ps : List Pt) (k : Bk) : List D := (List.range ps.length).map fun i => dueT (dueAt ps k i)
def allL (ps : List Pt) (k : Bk) (z : D) : List D := [.int k.day, .lst (k.cl.map clD), .lst (shLs k), .lst ((wordsL k).map .int), .lst (duesL ps k), z, .bl (overB ps k), .lst (ps.map potD)]
theorem pl_due (l : List (Int × Int × Int)) : pl (.lst (l.map dueT)) = true := plL_map fun _ _ => rfl
theorem p_all_due (T : Tst S a pa c s ds ps k) (l4 : 1 ≤ ps.length ∧ ps.length ≤ 3) (ok : ∀ p ∈ ps, PtOk p) (cok : ∀ x ∈ k.cl, ClOk x) (sok : ∀ m ∈ k.sh, ∀ x ∈ m, 0 ≤ x.1 ∧ x.1 ≤ 59) (l2 : k.cl.length = ps.length) (l3 : k.sh.length = ps.length) (hc : cnt k < 64)
    (h : ∀ q, S q = none → R (.lst (allL ps k (.ref q))) (S.set q (.lst (coL fun hand => coinUp ps k hand ps.length)))) : φ__law_all_due [.ref a] S R RE := by
  have hds : ds.length = k.sh.length := by rw [T.l1, l3]
  refine ⟨rfl, ?_⟩
  simp only [w__law_all_due, startE, N__law_all_due, s_seqL]
  simp [-Bool.exists_bool, -s_seq, x_pots T, f_lenR T.hp]
  refine ⟨by omega, fun q hq => ?_⟩
  rw [rngD_range]
  refine lc_mapS (fun i => dueT (dueAt ps k i)) (fun _ => trivial) (by simp; omega) (fun i hi => ⟨_, rfl, fun o R hR => ?_⟩) ?_
  · have Tq := T.new hq o
    simp [-Bool.exists_bool, wipeE]
    exact p_ldue Tq ok cok l2 l3 (by simpa using hi) hR
  simp only [lcEnd, Sto.del_set, Sto.del_none hq]
  refine later_of ?_
  clear hq q
  have e0 : (List.range ps.length).map (fun i => dueT (dueAt ps k i)) = duesL ps k := rfl
  rw [e0]
  simp [-Bool.exists_bool, -s_seq, s_seqL]
  intro q hq
  have Tq := fun o => T.new hq o
  have ez : [D.int 0, D.int 0, D.int 0, D.int 0] = coL fun hand => coinUp ps k hand 0 := rfl
  rw [ez]
  refine later_of ?_
  simp [-Bool.exists_bool, -s_seq, s_seqL]
  refine later_of ?_
  simp [-Bool.exists_bool, -s_seq, s_seqL, x_pots (Tq _), f_lenR (Tq _).hp]
  refine ⟨by omega, ?_⟩
  rw [rngD_range]
  refine for_inv (gd := none) (fun done ς S' => done = List.range done.length → S' = S.set q (.lst (coL fun hand => coinUp ps k hand done.length)) ∧ ∃ x4, ς = [some (.ref a), some (.lst (duesL ps k)), some (.ref q), some (.lst ((wordsUp k done.length).map .int)), x4, none, none, none])
    (fun _ _ _ _ => trivial) (fun done j rest ς S' e I => ?_) (fun _ => ⟨rfl, none, rfl⟩) (fun ς S' I => ?_)
  · obtain ⟨hd1, rfl, hlt⟩ := range_at e
    obtain ⟨rfl, x4, rfl⟩ := I hd1
    refine ⟨_, rfl, fun K hK => ?_⟩
    have hp := get_ex (⟨0, 0, 0, 0, 0⟩ : Pt) hlt
    have op := ok _ (List.mem_of_getElem? hp)
    have hm := get_ex ([] : Shn) (show done.length < k.sh.length by rw [l3]; exact hlt)
    have hd := get_ex (0 : Addr) (show done.length < ds.length by rw [T.l1]; exact hlt)
    have hdu : (duesL ps k)[done.length]? = some (dueT (dueAt ps k done.length)) := get_map (by simp [hlt])
    have cu : ∀ hand, coinUp ps k hand (done.length + 1) = coinUp ps k hand done.length + (if (ps.getD done.length ⟨0, 0, 0, 0, 0⟩).l = hand then (dueAt ps k done.length).1 else 0) + (if (ps.getD done.length ⟨0, 0, 0, 0, 0⟩).r = hand then (dueAt ps k done.length).2.1 else 0) := fun _ => rfl
    have hK' := hK [some (.ref a), some (.lst (duesL ps k)), some (.ref q), some (.lst ((wordsUp k (done.length + 1)).map .int)), some (.int (done.length : Int)), none, none, none] (S.set q (.lst (coL fun hand => coinUp ps k hand (done.length + 1)))) (fun _ => by simp)
    have w1 := wordsUp_succ hm
    have wl := wordsUp_len (k := k) (done.length + 1)
    generalize ps.getD done.length ⟨0, 0, 0, 0, 0⟩ = P at hp op cu
    generalize dueAt ps k done.length = v at hdu cu
    generalize k.sh.getD done.length [] = m at hm w1
    generalize ds.getD done.length 0 = d at hd
    rw [w1] at hK' wl
    rw [List.map_append] at hK'
    rw [List.length_append, List.length_map] at wl
    generalize wordsUp k done.length = ws at hK' wl ⊢
    obtain ⟨f, hf⟩ : ∃ f : Int → Int, f = fun hand => coinUp ps k hand done.length := ⟨_, rfl⟩
    rw [← hf]
    have kx : ∀ (o : SO) (R : Pd), fIx (.ref pa) (.int (done.length : Int)) (S.set q o) R = R (potD P) (S.set q o) := fun o R => ixR_of (Tq o).hp (get_map hp)
    have ka : ∀ (o : SO) (R : Pd), fIx (.ref a) (.str "pots") (S.set q o) R = R (.ref pa) (S.set q o) := fun o R => x_pots (Tq o)
    have kd : ∀ (o : SO) (R : Pd), fIx (.lst (duesL ps k)) (.int (done.length : Int)) (S.set q o) R = R (dueT v) (S.set q o) := fun o R => ixL_of hdu
    simp [-Bool.exists_bool, -s_seq, s_seqL, -f_ixL, ka, kx, kd]
    obtain ⟨e1, j, e2, e3⟩ := co_at (f := f) (l := P.l) (x := v.1) op.l0 op.l3
    rw [f_ixR Sto.set_same]
    refine ⟨_, e1, ?_⟩
    simp only [kd, i_du0, f_addI, ka, kx, i_pt0, f_setIL Sto.set_same]
    refine ⟨j, e2, ?_⟩
    rw [e3, Sto.set_set]
    refine later_of ?_
    generalize hg : (fun h => if h = P.l then f h + v.1 else f h) = g
    simp [-Bool.exists_bool, -s_seq, s_seqL, -f_ixL, ka, kx, kd]
    obtain ⟨e4, j', e5, e6⟩ := co_at (f := g) (l := P.r) (x := v.2.1) op.r0 op.r3
    rw [f_ixR Sto.set_same]
    refine ⟨_, e4, ?_⟩
    simp only [kd, i_du1, f_addI, ka, kx, i_pt1, f_setIL Sto.set_same]
    refine ⟨j', e5, ?_⟩
    rw [e6, Sto.set_set]
    refine later_of ?_
    have hgf : (fun h => if h = P.r then g h + v.2.1 else g h) = fun hand => f hand + (if P.l = hand then v.1 else 0) + (if P.r = hand then v.2.1 else 0) := by
      funext h
      rw [← hg]
      dsimp only
      by_cases c1 : h = P.l
      · by_cases c2 : h = P.r
        · rw [if_pos c2, if_pos c1, if_pos c1.symm, if_pos c2.symm]
        · rw [if_neg c2, if_pos c1, if_pos c1.symm, if_neg (fun e => c2 e.symm)]; omega
      · by_cases c2 : h = P.r
        · rw [if_pos c2, if_neg c1, if_neg (fun e => c1 e.symm), if_pos c2.symm]; omega
        · rw [if_neg c2, if_neg c1, if_neg (fun e => c1 e.symm), if_neg (fun e => c2 e.symm)]; omega
    have hfin : (fun hand => coinUp ps k hand (done.length + 1)) = fun h => if h = P.r then g h + v.2.1 else g h := by
      rw [hgf]
      funext hand
      rw [cu hand, hf]
    rw [hfin] at hK'
    generalize coL (fun h => if h = P.r then g h + v.2.1 else g h) = cl at hK' ⊢
    have hmd := (Tq (.lst cl)).hd _ _ _ hd hm
    have e7 : ((shK m).map fun p : Key × D => keyD p.1) = (m.map (·.1)).map .int := by simp [shK, keyD]
    simp only [s_set, s_op, s_var, s_fun, s_cons, s_nil, s_c]
    refine ⟨_, rfl, .ref a, rfl, ?_⟩
    rw [x_shown (Tq _)]
    refine ⟨_, rfl, ?_⟩
    rw [ixR_of (Tq _).hs (get_map (g := D.ref) hd), f_listRD hmd, e7, f_mkL]
    refine ⟨sz1000 (by simp; omega), ?_⟩
    rw [f_addL, f_mkL]
    refine ⟨sz1000 (by simp; omega), hK'⟩
  · obtain ⟨rfl, x4, rfl⟩ := I (by simp)
    dsimp only
    rw [List.length_range]
    refine later_of ?_
    simp [-Bool.exists_bool, -s_seq, s_seqL, x_day (Tq _), x_claims (Tq _), f_listR (Tq _).hc, x_shown (Tq _), srcOf_ref (Tq _).hs]
    refine ⟨sz1000 (by omega), fun z hz => ?_⟩
    have wl := wordsUp_len (k := k) ps.length
    have hwm : ∀ w, w ∈ wordsL k ↔ w ∈ wordsUp k ps.length := fun w => by rw [mem_words sok, l3]
    generalize coL (fun hand => coinUp ps k hand ps.length) = cl at hz ⊢ h
    have Tz := fun o => (Tq (.lst cl)).new hz o
    rw [zip_ref hds]
    have hsz : s ≠ z := ne_of_S (Tq (.lst cl)).hs hz
    refine lc_mapS (fun x => .dct (shK x.2)) (fun o' => ?_) (by simp; omega) (fun x hx => ⟨_, rfl, fun o' R hR => ?_⟩) ?_
    · show ((S.set q (.lst cl)).set z o') s = _
      rw [(Tz o').hs, zip_ref hds]
    · have hx2 := zip_at (P := fun d m => ((S.set q (.lst cl)).set z o') d = some (.dct (shK m)) ∧ m ∈ k.sh) (fun i d m e1 e2 => ⟨(Tz o').hd i d m e1 e2, List.mem_of_getElem? e2⟩) x hx
      simp [-Bool.exists_bool, wipeE, f_dictR hx2.1]
      have := le_cnt hx2.2
      refine ⟨sz1000 (by simp [shK]; omega), hR⟩
    · rw [zip_map hds fun m => .dct (shK m)]
      simp only [lcEnd, Sto.del_set, Sto.del_none hz]
      refine ⟨by omega, fun ms m1 m2 => ⟨sz1000 ?_, later_of ?_⟩⟩
      · have e := sorted_ext m1 (words_sorted k) fun w => by rw [m2, hwm]
        rw [e]
        unfold wordsL
        rw [List.length_map]
        exact Nat.le_trans (List.length_filter_le _ _) (by simp)
      · have e := sorted_ext m1 (words_sorted k) fun w => by rw [m2, hwm]
        subst e
        simp [-Bool.exists_bool, -s_seq, s_seqL]
        intro y hy
        unfold duesL
        refine lc_filterS (fun i => decide (0 < (dueAt ps k i).2.2)) (fun i => dueT (dueAt ps k i)) (fun _ => trivial) (by simp; omega) (fun i hi => ⟨_, rfl, fun o Rb hR => ?_, fun o R hR => ?_⟩) ?_
        · simp [-Bool.exists_bool, wipeE, cmpGt]
          exact hR
        · simp [-Bool.exists_bool, wipeE]
          exact hR
        · simp only [lcEnd, Sto.del_set, Sto.del_none hy]
          have hov : (overB ps k = true ↔ D.lst (((List.range ps.length).filter fun i => decide (0 < (dueAt ps k i).2.2)).map fun i => dueT (dueAt ps k i)) = D.lst []) := by
            unfold overB
            rw [List.all_eq_true]
            simp only [D.lst.injEq, List.map_eq_nil_iff, List.filter_eq_nil_iff, decide_eq_true_eq]
            constructor
            · intro h i hi; have := h i hi; omega
            · intro h i hi
              have h1 := h i hi
              have hi' : i < ps.length := by simpa using hi
              have h2 := due_nn (day := k.day) (m := k.sh.getD i []) (ok _ (List.mem_of_getElem? (get_ex (⟨0, 0, 0, 0, 0⟩ : Pt) hi'))) (cok _ (List.mem_of_getElem? (get_ex Clm.held (show i < k.cl.length by rw [l2]; exact hi'))))
              have h3 : dueAt ps k i = dueC (ps.getD i ⟨0, 0, 0, 0, 0⟩) (k.cl.getD i .held) k.day (k.sh.getD i []) := rfl
              rw [← h3] at h2
              omega
          refine f_eqP' (overB ps k) (plL_map fun _ _ => rfl) rfl ?_ (by decide) hov ?_
          · have := dpL_map (f := fun i => dueT (dueAt ps k i)) (k := 1) (m := (List.range ps.length).filter fun i => decide (0 < (dueAt ps k i).2.2)) fun _ _ => by simp [dueT]
            rw [dp_lst]
            omega
          · rw [Bool.false_xor, x_pots (Tq _), f_listR (Tq _).hp, f_mkL]
            refine ⟨sz1000 (by simp; omega), .now ?_⟩
            exact h q hq
end
end L98
end

section
set_option Elab.async false
set_option linter.all false
set_option maxRecDepth 100000
set_option autoImplicit false
namespace L98
open SB PySem PySem.Spec L2
section
variable {S : Sto}
mutual
theorem sam_pl : ∀ (x : D) (n : Nat), pl x = true → dp x ≤ n → Sam S n x x
  | .non, _, _, _ => .non
  | .int i, _, _, _ => .int i
  | .str x, _, _, _ => .str x
  | .tup l, 0, _, hd => by simp at hd
  | .tup l, n + 1, h, hd => .tup (samL_pl l n (by simpa using h) (by simpa using hd))
  | .lst l, 0, _, hd => by simp at hd
  | .lst l, n + 1, h, hd => .lst rfl rfl (samL_pl l n (by simpa using h) (by simpa using hd))
  | .bl _, _, h, _ => (Bool.false_ne_true h).elim
  | .scr _, _, h, _ => (Bool.false_ne_true h).elim
  | .dct _, _, h, _ => (Bool.false_ne_true h).elim
  | .ins _ _, _, h, _ => (Bool.false_ne_true h).elim
  | .ref _, _, h, _ => (Bool.false_ne_true h).elim
  | .exc _, _, h, _ => (Bool.false_ne_true h).elim
theorem samL_pl : ∀ (l : List D) (n : Nat), plL l = true → dpL l ≤ n → SamL S n l l
  | [], _, _, _ => .nil
  | x :: r, n, h, hd => by
    rw [plL, Bool.and_eq_true] at h
    rw [dpL] at hd
    exact .cons (sam_pl x n h.1 (by omega)) (samL_pl r n h.2 (by omega))
end
theorem samL_of {n : Nat} : ∀ {l m : List D}, l.length = m.length → (∀ (i : Nat) x y, l[i]? = some x → m[i]? = some y → Sam S n x y) → SamL S n l m
  | [], [], _, _ => .nil
  | [], _ :: _, h, _ => by simp at h
  | _ :: _, [], h, _ => by simp at h
  | x :: l, y :: m, h, k => .cons (k 0 x y rfl rfl) (samL_of (by simpa using h) fun i x y e1 e2 => k (i + 1) x y (by simpa using e1) (by simpa using e2))
theorem samK_ints {n : Nat} : ∀ m : Shn, SamK S n (shK m) (shK m)
  | [] => .nil
  | x :: m => .cons (.int _) (samK_ints m)
end
section
variable {ς : En} {S : Sto} {R : Pd} {RE : Px} {b c s : Addr} {ds : List Addr} {ps : List Pt} {k : Bk}
def toldL (ps : List Pt) (k : Bk) (qs : List Addr) (w z : Addr) : List D := [.int k.day, .lst (k.cl.map clD), .lst (qs.map .ref), .ref w, .lst (duesL ps k), .lst (coL fun hand => coinUp ps k hand ps.length), .bl (overB ps k), .ref z]
theorem _root_.SB.Fm.none {A : List Addr} {S S' : Sto} {q : Addr} (f : Fm A S S') (h : q ∉ A) (n : S' q = none) : S q = none := by
  cases e : S q with
  | none => rfl
  | some o => rw [f.at e h] at n; cases n
theorem p_all_told (B : Bst S b c s ds ps k) (hc : cnt k < 64)
    (h : ∀ (qs : List Addr) (w z : Addr) (S' : Sto), qs.length = ps.length → Fm [] S S' → (∀ (i : Nat) q, qs[i]? = some q → S q = none ∧ S' q = some (.dct (shK (k.sh.getD i [])))) → S w = none → S' w = some (.lst ((wordsL k).map .int)) → S z = none → S' z = some (.lst (ps.map potD)) → R (.lst (toldL ps k qs w z)) S') :
    φ__law_all_told [.ref b, .int (ps.length : Int)] S R RE := by
  have l4 := B.l4
  have l2 := B.l2
  have l3 := B.l3
  refine ⟨rfl, ?_⟩
  simp only [w__law_all_told, startE, N__law_all_told, s_seqL]
  simp [-Bool.exists_bool, -s_seq]
  refine m_book B (by decide) rfl ?_
  simp [-Bool.exists_bool, -s_seq]
  refine p_today B ⟨by omega, fun q hq => ?_⟩
  rw [rngD_range]
  refine lc_mapS (fun i => clD (k.cl.getD i .held)) (fun _ => trivial) (by simp; omega) (fun i hi => ⟨_, rfl, fun o R hR => ?_⟩) ?_
  · have Bq := B.new hq o
    have hi' : i < ps.length := by simpa using hi
    simp [-Bool.exists_bool, wipeE]
    refine m_book Bq (by decide) rfl ?_
    simp [-Bool.exists_bool]
    exact p_told Bq (get_ex (⟨0, 0, 0, 0, 0⟩ : Pt) hi') (get_ex Clm.held (by rw [l2]; exact hi')) hR
  have e1 : (List.range ps.length).map (fun i => clD (k.cl.getD i .held)) = k.cl.map clD := by rw [← l2]; exact map_range_get _ _ _
  rw [e1]
  simp only [lcEnd, Sto.del_set, Sto.del_none hq]
  clear hq q
  refine ⟨by omega, fun p hp => ?_⟩
  refine lc_eff (fun done acc S' => S' p = some (.lst acc) ∧ (done = List.range done.length → ∃ qs : List Addr, acc = qs.map .ref ∧ qs.length = done.length ∧ Fm [] S S' ∧ ∀ (i : Nat) q, qs[i]? = some q → S q = none ∧ q ≠ p ∧ S' q = some (.dct (shK (k.sh.getD i [])))))
    (by simp; omega) (fun _ _ _ _ => trivial) (fun _ _ _ I => I.1) (fun done i rest acc S' e I => ⟨_, rfl, fun R hR => ?_⟩) ⟨by simp, fun _ => ⟨[], rfl, rfl, .new hp, fun i q e => by simp at e⟩⟩ (fun acc S' I => ?_)
  · obtain ⟨hd1, rfl, hlt⟩ := range_at e
    obtain ⟨qs, rfl, hl, fm, hq⟩ := I.2 hd1
    have Bq := B.fm fm (fun _ _ => by simp)
    simp [-Bool.exists_bool, wipeE]
    refine m_book Bq (by decide) rfl ?_
    simp [-Bool.exists_bool]
    have hm := get_ex ([] : Shn) (show done.length < k.sh.length by rw [l3]; exact hlt)
    have hml := le_cnt (List.mem_of_getElem? hm)
    refine p_shown_for Bq (get_ex (⟨0, 0, 0, 0, 0⟩ : Pt) hlt) (get_ex 0 (by rw [B.l1]; exact hlt)) hm (by omega) fun q hq1 => ?_
    have hpq : p ≠ q := ne_of_S I.1 hq1
    refine hR _ _ (by rw [Sto.set_ne hpq]; exact I.1) ⟨by simp, fun _ => ⟨qs ++ [q], by simp, by simp [hl], ?_, fun i q' e' => ?_⟩⟩
    · intro b hb n
      have n1 : b ≠ p := fun z => n (by rw [z]; exact hp)
      have n2 : b ≠ q := fun z => n (by rw [z]; exact fm.none (by simp) hq1)
      rw [Sto.set_ne n1, Sto.set_ne n2]
      exact fm b hb n
    · by_cases hi : i < qs.length
      · rw [List.getElem?_append_left hi] at e'
        obtain ⟨a1, a2, a3⟩ := hq i q' e'
        have n2 : q' ≠ q := ne_of_S a3 hq1
        exact ⟨a1, a2, by rw [Sto.set_ne a2, Sto.set_ne n2]; exact a3⟩
      · have hil : i = qs.length := by
          have := lt_of e'
          simp at this
          omega
        subst hil
        simp at e'
        subst e'
        exact ⟨fm.none (by simp) hq1, hpq.symm, by rw [Sto.set_ne hpq.symm, hl]; exact Sto.set_same⟩
  · obtain ⟨I1, I2⟩ := I
    obtain ⟨qs, rfl, hl, fm, hq⟩ := I2 (by simp)
    simp only [lcEnd]
    have fm2 : Fm [] S (S'.del p) := fun b hb n => by
      have n1 : b ≠ p := fun z => n (by rw [z]; exact hp)
      rw [Sto.del_ne n1]
      exact fm b hb n
    have hq2 : ∀ (i : Nat) q, qs[i]? = some q → S q = none ∧ (S'.del p) q = some (.dct (shK (k.sh.getD i []))) := fun i q e => by
      obtain ⟨a1, a2, a3⟩ := hq i q e
      exact ⟨a1, by rw [Sto.del_ne a2]; exact a3⟩
    generalize S'.del p = S2 at fm2 hq2
    clear I1 I2 hq fm hp
    rw [List.length_range] at hl
    have B2 := B.fm fm2 (fun _ _ => by simp)
    refine later_of ?_
    simp [-Bool.exists_bool, -s_seq, s_seqL]
    refine m_book B2 (by decide) rfl ?_
    simp [-Bool.exists_bool]
    refine p_all_shown B2 fun w hw => ?_
    have B3 := B2.new hw (.lst ((wordsL k).map .int))
    have f3 : Fm [] S (S2.set w (.lst ((wordsL k).map .int))) := fm2.trans (.new hw)
    have w0 : S w = none := fm2.none (by simp) hw
    have hq3 : ∀ (i : Nat) q, qs[i]? = some q → S q = none ∧ (S2.set w (.lst ((wordsL k).map .int))) q = some (.dct (shK (k.sh.getD i []))) := fun i q e => by
      obtain ⟨a1, a3⟩ := hq2 i q e
      exact ⟨a1, by rw [Sto.set_ne (ne_of_S a3 hw)]; exact a3⟩
    have w3 : (S2.set w (.lst ((wordsL k).map .int))) w = some (.lst ((wordsL k).map .int)) := Sto.set_same
    generalize S2.set w (.lst ((wordsL k).map .int)) = S3 at B3 f3 hq3 w3
    refine ⟨by omega, fun q hq => ?_⟩
    rw [rngD_range]
    refine lc_mapS (fun i => dueT (dueAt ps k i)) (fun _ => trivial) (by simp; omega) (fun i hi => ⟨_, rfl, fun o R hR => ?_⟩) ?_
    · have Bq := B3.new hq o
      simp [-Bool.exists_bool, wipeE]
      refine m_book Bq (by decide) rfl ?_
      simp [-Bool.exists_bool]
      exact p_due Bq (by simpa using hi) hR
    simp only [lcEnd, Sto.del_set, Sto.del_none hq]
    clear hq q
    refine later_of ?_
    simp [-Bool.exists_bool, -s_seq, s_seqL]
    intro q hq
    have r4 : rngD 0 4 = (List.range 4).map fun i => .int (i : Int) := rngD_range 4
    rw [r4]
    refine lc_mapS (fun i => .int (coinUp ps k (i : Int) ps.length)) (fun _ => trivial) (by simp) (fun i hi => ⟨_, rfl, fun o R hR => ?_⟩) ?_
    · have Bq := B3.new hq o
      simp [-Bool.exists_bool, wipeE]
      refine m_book Bq (by decide) rfl ?_
      simp [-Bool.exists_bool]
      simp at hi
      exact p_coin_of Bq (by omega) (by omega) hR
    simp only [lcEnd, Sto.del_set, Sto.del_none hq]
    refine m_book B3 (by decide) rfl ?_
    simp [-Bool.exists_bool]
    refine p_is_over B3 ?_
    refine m_book B3 (by decide) rfl ?_
    simp [-Bool.exists_bool]
    refine p_made_of B3 fun z hz => ?_
    refine .now ?_
    refine h qs w z _ hl (f3.trans (.new hz)) (fun i q e => ?_) w0 ?_ (f3.none (by simp) hz) Sto.set_same
    · obtain ⟨a1, a3⟩ := hq3 i q e
      exact ⟨a1, by rw [Sto.set_ne (ne_of_S a3 hz)]; exact a3⟩
    · rw [Sto.set_ne (ne_of_S w3 hz)]; exact w3
end
end L98
end

section
set_option Elab.async false
set_option linter.all false
set_option maxRecDepth 100000
set_option autoImplicit false
namespace L98
open SB PySem PySem.Spec L2
@[simp] theorem pl_cl (x : Clm) : pl (clD x) = true := by cases x <;> simp [clD]
theorem dp_cl (x : Clm) : dp (clD x) ≤ 4 := by
  cases x with
  | held => simp [clD]
  | laid s st d => have := dp_stn st; simp [clD]; omega
  | taken s => simp [clD]
section
variable {ς : En} {S : Sto} {R : Pd} {RE : Px} {b c s a pa c' s' : Addr} {ds ds' : List Addr} {ps : List Pt} {k : Bk}
theorem lstC_ref {a : Addr} {l : List D} (h : S a = some (.lst l)) : lstC S (.ref a) = some l := by simp [lstC, h]
theorem dctC_ref {a : Addr} {l : List (Key × D)} (h : S a = some (.dct l)) : dctC S (.ref a) = some l := by simp [dctC, h]
theorem alike_sam {qs : List Addr} {w z co : Addr} (hl : qs.length = ps.length) (l3 : k.sh.length = ps.length) (hq : ∀ (i : Nat) q, qs[i]? = some q → S q = some (.dct (shK (k.sh.getD i [])))) (hw : S w = some (.lst ((wordsL k).map .int)))
    (hz : S z = some (.lst (ps.map potD))) (hco : S co = some (.lst (coL fun hand => coinUp ps k hand ps.length))) : SamL S 9 (toldL ps k qs w z) (allL ps k (.ref co)) := by
  refine .cons (.int _) (.cons ?_ (.cons ?_ (.cons ?_ (.cons ?_ (.cons ?_ (.cons (.bl _) (.cons ?_ .nil)))))))
  · refine sam_pl _ _ (plL_map fun x _ => pl_cl x) ?_
    have := dpL_map (f := clD) (k := 4) (m := k.cl) fun x _ => dp_cl x
    rw [dp_lst]; omega
  · refine .lst rfl rfl (samL_of (by simp [shLs, hl, l3]) fun i x y e1 e2 => ?_)
    simp only [List.getElem?_map, Option.map_eq_some_iff, shLs] at e1 e2
    obtain ⟨q, e1, rfl⟩ := e1
    obtain ⟨m, e2, rfl⟩ := e2
    have e3 := hq i q e1
    rw [List.getD_eq_getElem?_getD, e2] at e3
    exact .dct (dctC_ref e3) rfl (samK_ints m)
  · refine .lst (lstC_ref hw) rfl (samL_pl _ _ (plL_map fun _ _ => rfl) ?_)
    have := dpL_map (f := D.int) (k := 0) (m := wordsL k) fun x _ => Nat.le_refl _
    omega
  · refine sam_pl _ _ (plL_map fun _ _ => rfl) ?_
    have := dpL_map (f := fun i => dueT (dueAt ps k i)) (k := 1) (m := List.range ps.length) fun _ _ => by simp [dueT]
    unfold duesL
    rw [dp_lst]; omega
  · exact .lst rfl (lstC_ref hco) (samL_pl _ _ rfl (by simp [coL]))
  · refine .lst (lstC_ref hz) rfl (samL_pl _ _ (plL_map fun _ _ => rfl) ?_)
    have := dpL_map (f := potD) (k := 1) (m := ps) fun x _ => by simp [potD]
    omega
theorem p_alike (B : Bst S b c s ds ps k) (T : Tst S a pa c' s' ds' ps k) (hc : cnt k < 64) (h : ∀ S', Fm [] S S' → R (.bl true) S') : φ__law_alike [.ref b, .ref a] S R RE := by
  have l4 := B.l4
  refine ⟨rfl, ?_⟩
  simp only [w__law_alike, startE, N__law_alike, s_seqL]
  simp [-Bool.exists_bool, -s_seq, x_pots T, f_lenR T.hp]
  refine p_all_told B hc fun qs w z S1 hl f1 hq w0 hw z0 hz => ?_
  have T1 := T.fm f1 (fun _ _ => by simp)
  refine later_of ?_
  simp [-Bool.exists_bool, -s_seq, s_seqL]
  refine p_all_due T1 l4 B.ok B.cok B.sok B.l2 B.l3 hc fun co hco => ?_
  have hq2 : ∀ (i : Nat) q, qs[i]? = some q → (S1.set co (.lst (coL fun hand => coinUp ps k hand ps.length))) q = some (.dct (shK (k.sh.getD i []))) := fun i q e => by
    obtain ⟨_, a3⟩ := hq i q e
    rw [Sto.set_ne (ne_of_S a3 hco)]; exact a3
  have hw2 : (S1.set co (.lst (coL fun hand => coinUp ps k hand ps.length))) w = some (.lst ((wordsL k).map .int)) := by rw [Sto.set_ne (ne_of_S hw hco)]; exact hw
  have hz2 : (S1.set co (.lst (coL fun hand => coinUp ps k hand ps.length))) z = some (.lst (ps.map potD)) := by rw [Sto.set_ne (ne_of_S hz hco)]; exact hz
  refine ⟨9, _, _, rfl, rfl, by omega, alike_sam hl B.l3 hq2 hw2 hz2 Sto.set_same, ?_⟩
  have f2 : Fm [] S (S1.set co (.lst (coL fun hand => coinUp ps k hand ps.length))) := f1.trans (.new hco)
  have hq0 : ∀ q ∈ qs, S q = none ∧ ∃ l, (S1.set co (.lst (coL fun hand => coinUp ps k hand ps.length))) q = some (.dct l) := fun q hm => by
    obtain ⟨i, hi⟩ := List.mem_iff_getElem?.mp hm
    exact ⟨(hq i q hi).1, _, hq2 i q hi⟩
  generalize S1.set co (.lst (coL fun hand => coinUp ps k hand ps.length)) = S2 at f2 hq0 hw2 hz2
  have n1 : ¬ (!true) = true := by decide
  simp [-Bool.exists_bool, -s_seq, s_seqL]
  refine later_of ?_
  simp [-Bool.exists_bool, -s_seq, s_seqL, toldL, L2.atI, L2.ixN]
  refine for_inv (gd := none) (fun done ς S' => ∃ x3, ς = [some (.ref b), some (.ref a), some (.lst (toldL ps k qs w z)), x3] ∧ Fm [] S S' ∧ (∀ q ∈ qs, ∃ l, S' q = some (.dct l)) ∧ S' w = some (.lst ((wordsL k).map .int)) ∧ S' z = some (.lst (ps.map potD)))
    (fun _ _ _ _ => trivial) (fun done q rest ς S' e I => ?_) ⟨none, rfl, f2, fun q hm => (hq0 q hm).2, hw2, hz2⟩ (fun ς S' I => ?_)
  · obtain ⟨x3, rfl, f, hd, hw3, hz3⟩ := I
    have hm : q ∈ qs := by rw [e]; simp
    obtain ⟨l, hql⟩ := hd q hm
    refine ⟨_, rfl, fun K hK => ?_⟩
    simp [-Bool.exists_bool]
    refine ⟨tyM_refD hql, q, l, rfl, rfl, hql, ?_⟩
    refine hK _ _ ⟨_, rfl, ?_, fun q' hm' => ?_, ?_, ?_⟩
    · intro x hx n
      have : x ≠ q := fun z => n (by rw [z]; exact (hq0 q hm).1)
      rw [Sto.set_ne this]; exact f x hx n
    · by_cases hqq : q' = q
      · subst hqq; exact ⟨[], Sto.set_same⟩
      · rw [Sto.set_ne hqq]; exact hd q' hm'
    · have : w ≠ q := fun z => by rw [z, hql] at hw3; cases hw3
      rw [Sto.set_ne this]; exact hw3
    · have : z ≠ q := fun z => by rw [z, hql] at hz3; cases hz3
      rw [Sto.set_ne this]; exact hz3
  · obtain ⟨x3, rfl, f, hd, hw3, hz3⟩ := I
    dsimp only
    refine later_of ?_
    simp [-Bool.exists_bool, -s_seq, s_seqL, toldL, L2.atI, L2.ixN]
    refine ⟨tyM_refL hw3, w, _, _, rfl, rfl, hw3, sz1001 ?_, later_of ?_⟩
    · rw [List.length_map]
      unfold wordsL
      rw [List.length_map]
      exact Nat.le_trans (List.length_filter_le _ _) (by simp)
    have f4 : Fm [] S (S'.set w (.lst ((wordsL k).map .int ++ [.int 60]))) := fun x hx n => by
      have : x ≠ w := fun z => n (by rw [z]; exact w0)
      rw [Sto.set_ne this]; exact f x hx n
    have hz4 : ∃ l, (S'.set w (.lst ((wordsL k).map .int ++ [.int 60]))) z = some (.lst l) := by
      by_cases hzw : z = w
      · subst hzw; exact ⟨_, Sto.set_same⟩
      · rw [Sto.set_ne hzw]; exact ⟨_, hz3⟩
    generalize S'.set w (.lst ((wordsL k).map .int ++ [.int 60])) = S4 at f4 hz4
    obtain ⟨l, hz4⟩ := hz4
    simp [-Bool.exists_bool, -s_seq, s_seqL, toldL, L2.atI, L2.ixN]
    refine ⟨tyM_refL hz4, z, l, rfl, rfl, hz4, later_of ?_⟩
    simp
    refine .now (h _ fun x hx n => ?_)
    have : x ≠ z := fun y => n (by rw [y]; exact z0)
    rw [Sto.set_ne this]; exact f4 x hx n
end
end L98
end

section
set_option Elab.async false
set_option linter.all false
set_option maxRecDepth 100000
set_option autoImplicit false
namespace L98
open SB PySem PySem.Spec L2
def clset (k : Bk) (i : Nat) (x : Clm) : Bk := { k with cl := k.cl.set i x }
def shset (k : Bk) (i : Nat) (m : Shn) : Bk := { k with sh := k.sh.set i m }
def setd (m : Shn) (w d : Int) : Shn := if (m.lookup w).isSome = true then m else m ++ [(w, d)]
theorem put_sh {m : Shn} {w d : Int} (h : m.lookup w = none) : putD (.inl w) (.int d) (shK m) = shK (m ++ [(w, d)]) := by
  unfold putD
  have hn : ¬ ((shK m).any fun p => decide (p.1 = (.inl w : Key))) = true := by
    intro e
    have h2 : lookK (.inl w) (shK m) = none := by rw [look_sh, h]; rfl
    have g : ∀ l : List (Key × D), lookK (.inl w) l = none → (l.any fun p => decide (p.1 = (.inl w : Key))) = false := by
      intro l
      induction l with
      | nil => intro _; rfl
      | cons p l ih =>
        intro e
        obtain ⟨q, y⟩ := p
        rw [lookK] at e
        by_cases hq : q = .inl w
        · rw [if_pos hq] at e; cases e
        · rw [if_neg hq] at e
          simp [hq, ih e]
    rw [g _ h2] at e
    cases e
  rw [if_neg hn]
  simp [shK]
section
variable {S : Sto} {b c s a pa c' s' : Addr} {ds : List Addr} {ps : List Pt} {k : Bk} {i : Nat} {p : Pt} {x : Clm}
theorem cls_set (hp : ps[i]? = some p) : (clsB ps k.cl).set i (clB p x) = clsB ps (k.cl.set i x) := by
  unfold clsB
  apply List.ext_getElem?
  intro j
  rw [List.getElem?_set, List.getElem?_zipWith, List.getElem?_zipWith, List.getElem?_set]
  by_cases h : i = j
  · subst h
    simp only [if_true, hp]
    simp only [List.length_zipWith]
    by_cases h2 : i < k.cl.length
    · have h3 := lt_of hp
      rw [if_pos (by omega), if_pos h2]
    · rw [if_neg (by omega), if_neg h2]
  · rw [if_neg h, if_neg h]
theorem cok_set (B : ∀ x ∈ k.cl, ClOk x) (ox : ClOk x) : ∀ y ∈ k.cl.set i x, ClOk y := fun y hy => by
  rcases List.mem_or_eq_of_mem_set hy with h | h
  · exact B y h
  · rw [h]; exact ox
theorem Bst.setC (B : Bst S b c s ds ps k) (hp : ps[i]? = some p) (ox : ClOk x) : Bst (S.set c (.lst ((clsB ps k.cl).set i (clB p x)))) b c s ds ps (clset k i x) := by
  have nd := B.nd
  simp only [List.nodup_cons, List.mem_cons, not_or] at nd
  exact { B with
    hb := by rw [Sto.set_ne nd.1.1]; exact B.hb
    hc := by rw [Sto.set_same, cls_set hp]; rfl
    hs := by rw [Sto.set_ne (fun e => nd.2.1.1 e.symm)]; exact B.hs
    hd := fun i d m e1 e2 => by
      rw [Sto.set_ne (fun e => nd.2.1.2 (by rw [← e]; exact List.mem_of_getElem? e1))]
      exact B.hd i d m e1 e2
    l2 := by show (k.cl.set i x).length = _; rw [List.length_set]; exact B.l2
    cok := cok_set B.cok ox }
theorem set_at {α : Type} {l : List α} {i j : Nat} {x y : α} (h : (l.set i x)[j]? = some y) : (i = j ∧ y = x) ∨ (i ≠ j ∧ l[j]? = some y) := by
  rw [List.getElem?_set] at h
  by_cases e : i = j
  · rw [if_pos e] at h
    split at h
    · cases h; exact .inl ⟨e, rfl⟩
    · cases h
  · rw [if_neg e] at h; exact .inr ⟨e, h⟩
theorem nd_at {ds : List Addr} {i j : Nat} {d e : Addr} (nd : ds.Nodup) (h1 : ds[i]? = some d) (h2 : ds[j]? = some e) (h : i ≠ j) : e ≠ d := fun z => by
  subst z
  obtain ⟨a1, a2⟩ := List.getElem?_eq_some_iff.mp h1
  obtain ⟨b1, b2⟩ := List.getElem?_eq_some_iff.mp h2
  have g := List.pairwise_iff_getElem.mp nd
  rcases Nat.lt_or_gt_of_ne h with z | z
  · exact g i j a1 b1 z (a2.trans b2.symm)
  · exact g j i b1 a1 z (b2.trans a2.symm)
theorem Bst.setSh {d : Addr} {m : Shn} (B : Bst S b c s ds ps k) (hd : ds[i]? = some d) (ok : ∀ x ∈ m, 0 ≤ x.1 ∧ x.1 ≤ 59) : Bst (S.set d (.dct (shK m))) b c s ds ps (shset k i m) := by
  have nd := B.nd
  simp only [List.nodup_cons, List.mem_cons, not_or] at nd
  have hm := List.mem_of_getElem? hd
  exact { B with
    hb := by rw [Sto.set_ne (fun e => nd.1.2.2 (by rw [e]; exact hm))]; exact B.hb
    hc := by rw [Sto.set_ne (fun e => nd.2.1.2 (by rw [e]; exact hm))]; exact B.hc
    hs := by rw [Sto.set_ne (fun e => nd.2.2.1 (by rw [e]; exact hm))]; exact B.hs
    hd := fun j e m' e1 e2 => by
      rcases set_at e2 with ⟨h, rfl⟩ | ⟨h, e3⟩
      · subst h
        rw [hd] at e1; cases e1
        exact Sto.set_same
      · rw [Sto.set_ne (nd_at nd.2.2.2 hd e1 h)]
        exact B.hd j e m' e1 e3
    l3 := by show (k.sh.set i m).length = _; rw [List.length_set]; exact B.l3
    sok := fun m' hm' => by
      rcases List.mem_or_eq_of_mem_set hm' with h | h
      · exact B.sok m' h
      · rw [h]; exact ok }
theorem Bst.setDay {d : Int} (B : Bst S b c s ds ps k) : Bst (S.set b (.ins "Book" (bkF c s ps d))) b c s ds ps { k with day := d } := by
  have nd := B.nd
  simp only [List.nodup_cons, List.mem_cons, not_or] at nd
  exact { B with
    hb := Sto.set_same
    hc := by rw [Sto.set_ne (fun e => nd.1.1 e.symm)]; exact B.hc
    hs := by rw [Sto.set_ne (fun e => nd.1.2.1 e.symm)]; exact B.hs
    hd := fun i d m e1 e2 => by
      rw [Sto.set_ne (fun e => nd.1.2.2 (by rw [← e]; exact List.mem_of_getElem? e1))]
      exact B.hd i d m e1 e2 }
theorem Tst.setC (T : Tst S a pa c' s' ds ps k) : Tst (S.set c' (.lst ((k.cl.map clD).set i (clD x)))) a pa c' s' ds ps (clset k i x) := by
  have nd := T.nd
  simp only [List.nodup_cons, List.mem_cons, not_or] at nd
  exact { T with
    ha := by rw [Sto.set_ne nd.1.2.1]; exact T.ha
    hp := by rw [Sto.set_ne nd.2.1.1]; exact T.hp
    hc := by rw [Sto.set_same, ← List.map_set]; rfl
    hs := by rw [Sto.set_ne (fun e => nd.2.2.1.1 e.symm)]; exact T.hs
    hd := fun i d m e1 e2 => by
      rw [Sto.set_ne (fun e => nd.2.2.1.2 (by rw [← e]; exact List.mem_of_getElem? e1))]
      exact T.hd i d m e1 e2 }
theorem Tst.setSh {d : Addr} {m : Shn} (T : Tst S a pa c' s' ds ps k) (hd : ds[i]? = some d) : Tst (S.set d (.dct (shK m))) a pa c' s' ds ps (shset k i m) := by
  have nd := T.nd
  simp only [List.nodup_cons, List.mem_cons, not_or] at nd
  have hm := List.mem_of_getElem? hd
  exact { T with
    ha := by rw [Sto.set_ne (fun e => nd.1.2.2.2 (by rw [e]; exact hm))]; exact T.ha
    hp := by rw [Sto.set_ne (fun e => nd.2.1.2.2 (by rw [e]; exact hm))]; exact T.hp
    hc := by rw [Sto.set_ne (fun e => nd.2.2.1.2 (by rw [e]; exact hm))]; exact T.hc
    hs := by rw [Sto.set_ne (fun e => nd.2.2.2.1 (by rw [e]; exact hm))]; exact T.hs
    hd := fun j e m' e1 e2 => by
      rcases set_at e2 with ⟨h, rfl⟩ | ⟨h, e3⟩
      · subst h
        rw [hd] at e1; cases e1
        exact Sto.set_same
      · rw [Sto.set_ne (nd_at nd.2.2.2.2 hd e1 h)]
        exact T.hd j e m' e1 e3 }
theorem Tst.setDay {d : Int} (T : Tst S a pa c' s' ds ps k) : Tst (S.set a (.dct (sdF pa c' s' d))) a pa c' s' ds ps { k with day := d } := by
  have nd := T.nd
  simp only [List.nodup_cons, List.mem_cons, not_or] at nd
  exact { T with
    ha := Sto.set_same
    hp := by rw [Sto.set_ne (fun e => nd.1.1 e.symm)]; exact T.hp
    hc := by rw [Sto.set_ne (fun e => nd.1.2.1 e.symm)]; exact T.hc
    hs := by rw [Sto.set_ne (fun e => nd.1.2.2.1 e.symm)]; exact T.hs
    hd := fun i d m e1 e2 => by
      rw [Sto.set_ne (fun e => nd.1.2.2.2 (by rw [← e]; exact List.mem_of_getElem? e1))]
      exact T.hd i d m e1 e2 }
end
/-! deeds -/
inductive Ag where
  | non | ag (p s : Int) (st : Stn) | lst (st : Stn)
def Ag.dat : Ag → D
  | .non => .non
  | .ag p s st => agD p s st
  | .lst st => .lst [.int st.n, shD st, tsD st]
inductive Th where
  | non | sk (p s n : Int)
def Th.dat : Th → D
  | .non => .non
  | .sk p s n => skD p s n
inductive Dd where
  | day | show (p w : Int) | lay (p who : Int) (one : Stn) (ag : Ag) | strike (p who : Int) (th : Th)
def ddD : Dd → D
  | .day => .tup [.str "day"]
  | .show p w => .tup [.str "show", .int p, .int w]
  | .lay p who one ag => .tup [.str "lay", .int p, .int who, stnD one, ag.dat]
  | .strike p who th => .tup [.str "strike", .int p, .int who, th.dat]
def AgOk (p who : Int) : Ag → Prop
  | .non => True
  | .ag p' s st => p' = p ∧ (s = who ∨ s = 1 - who) ∧ StnOk st
  | .lst st => StnOk st
def ThOk (p : Int) : Th → Prop
  | .non => True
  | .sk p' s n => (p' = p ∨ (0 ≤ p' ∧ p' ≤ 2)) ∧ sOk s ∧ 0 ≤ n ∧ n ≤ 1001
def DdOk : Dd → Prop
  | .day => True
  | .show _ _ => True
  | .lay p who one ag => StnOk one ∧ AgOk p who ag
  | .strike p _ th => ThOk p th
def inR (ps : List Pt) (p : Int) : Prop := 0 ≤ p ∧ p < ps.length
def ptAt (ps : List Pt) (i : Nat) : Pt := ps.getD i ⟨0, 0, 0, 0, 0⟩
def canLay (ps : List Pt) (k : Bk) (p who : Int) (one : Stn) (ag : Ag) : Prop := k.cl.getD p.toNat .held = .held ∧ (one = ⟨0, (ptAt ps p.toNat).o, (ptAt ps p.toNat).q, []⟩ ∨ ag = .ag p (1 - who) one)
def canStrike (ps : List Pt) (k : Bk) (p who : Int) (th : Th) : Prop := ∃ s st d, k.cl.getD p.toNat .held = .laid s st d ∧ s ≠ who ∧ k.day < d + (ptAt ps p.toNat).w ∧ th = .sk p s st.n
open Classical in
noncomputable def stepB (ps : List Pt) (k : Bk) : Dd → String × Bk
  | .day => ("done", { k with day := k.day + 1 })
  | .show p w => if inR ps p ∧ 0 ≤ w ∧ w ≤ 59 then ("done", shset k p.toNat (setd (k.sh.getD p.toNat []) w k.day)) else ("deed", k)
  | .strike p who th => if (inR ps p ∧ sOk who) ∧ canStrike ps k p who th then ("done", clset k p.toNat (.taken who)) else ("deed", k)
  | .lay p who one ag => if inR ps p ∧ sOk who then (if one.sum = (ptAt ps p.toNat).whole then (if canLay ps k p who one ag then ("done", clset k p.toNat (.laid who one k.day)) else ("deed", k)) else ("stand", k)) else ("deed", k)
end L98
end

section
set_option Elab.async false
set_option linter.all false
set_option maxRecDepth 100000
set_option autoImplicit false
namespace L98
open SB PySem PySem.Spec L2
theorem tie_inj : ∀ {l m : List Tie}, l.map tieD = m.map tieD → l = m
  | [], [], _ => rfl
  | [], _ :: _, h => by simp at h
  | _ :: _, [], h => by simp at h
  | a :: l, b :: m, h => by
    simp only [List.map_cons, List.cons.injEq] at h
    obtain ⟨h1, h2⟩ := h
    rw [tie_inj h2]
    cases a; cases b
    simp [tieD] at h1
    simp [h1]
theorem stn_inj {s t : Stn} : stnD s = stnD t ↔ s = t := by
  constructor
  · intro h
    cases s; cases t
    simp [stnD, shD, tsD] at h
    obtain ⟨rfl, ⟨rfl, rfl⟩, h⟩ := h
    have := tie_inj h
    subst this
    rfl
  · intro h; rw [h]
section
variable {ς : En} {S : Sto} {R : Pd} {RE : Px} {b c s : Addr} {ds : List Addr} {ps : List Pt} {k : Bk} {p : Pt} {x : Clm} {K : Nat × List D × SB.Spec → Prop}
theorem p_is_thing_n (h : R (.bl false) S) : φ_is_thing [.non] S R RE := by
  refine ⟨rfl, ?_⟩
  simp [-Bool.exists_bool, w_is_thing, startE, N_is_thing, tySub]
  refine ⟨rfl, ?_⟩
  simp [-Bool.exists_bool, w_is_made, startE, N_is_made, tySub]
  exact .now (.now h)
theorem p_is_thing_l {l : List D} (h : R (.bl false) S) : φ_is_thing [.lst l] S R RE := by
  refine ⟨rfl, ?_⟩
  simp [-Bool.exists_bool, w_is_thing, startE, N_is_thing, tySub]
  refine ⟨rfl, ?_⟩
  simp [-Bool.exists_bool, w_is_made, startE, N_is_made, tySub]
  exact .now (.now h)
open Classical in
noncomputable def stkB (p : Pt) (x : Clm) (pot who day : Int) (th : Th) : Bool := decide (∃ s st d, x = .laid s st d ∧ s ≠ who ∧ day < d + p.w ∧ th = .sk pot s st.n)
theorem p_cl_strike {pot who : Int} {th : Th} (ox : ClOk x) (p0 : 0 ≤ pot) (p2 : pot ≤ 2) (ot : ThOk pot th) (h : ∀ nd, nd.2.1 = [] → (∀ (S : Sto) (R : Pd) (RE : Px) (day : Int), R (.bl (stkB p x pot who day th)) S → nd.2.2 [clB p x, .int pot, .int who, .int day, th.dat] S R RE) → K nd) : mlook "may_strike" cs_may_strike (clB p x) S K := by
  cases x with
  | held =>
    refine m_cl (nd := (5, [], φ_Claim_may_strike)) (by decide) rfl (h _ rfl fun S R RE day h => ⟨rfl, ?_⟩)
    have e : stkB p .held pot who day th = false := by simp [stkB]
    rw [e] at h
    simp [w_Claim_may_strike]; exact .now h
  | taken z =>
    refine m_cl (nd := (5, [], φ_Claim_may_strike)) (by decide) rfl (h _ rfl fun S R RE day h => ⟨rfl, ?_⟩)
    have e : stkB p (.taken z) pot who day th = false := by simp [stkB]
    rw [e] at h
    simp [w_Claim_may_strike]; exact .now h
  | laid z st dd =>
    refine m_cl (nd := (5, [], φ_Laid_may_strike)) (by decide) rfl (h _ rfl fun S R RE day h => ⟨rfl, ?_⟩)
    have gb : ∀ (S : Sto) (R : Pd), fget "begun" (clB p (.laid z st dd)) S R = R (.int dd) S := fun S R => by simp [fget, clB, clF, look]
    have gp : ∀ (S : Sto) (R : Pd), fget "patience" (clB p (.laid z st dd)) S R = R (.int p.w) S := fun S R => by simp [fget, clB, clF, look]
    have gl : ∀ (S : Sto) (R : Pd), fget "lying" (clB p (.laid z st dd)) S R = R (stnD st) S := fun S R => by simp [fget, clB, clF, look]
    have gy : ∀ (S : Sto) (R : Pd), fget "layer" (clB p (.laid z st dd)) S R = R (.int z) S := fun S R => by simp [fget, clB, clF, look]
    have e : ∀ q : Bool, (q = true ↔ (z ≠ who ∧ day < dd + p.w ∧ th = .sk pot z st.n)) → stkB p (.laid z st dd) pot who day th = q := fun q hq => by
      unfold stkB
      rw [Bool.eq_iff_iff, hq]
      simp only [decide_eq_true_eq]
      constructor
      · rintro ⟨s, st', d, e, h⟩
        cases e; exact h
      · intro h; exact ⟨_, _, _, rfl, h⟩
    simp [-Bool.exists_bool, -s_seq, s_seqL, w_Laid_may_strike, startE, N_Laid_may_strike, gy, gb, gp, cmpGe]
    by_cases h1 : who = z
    · rw [e false (by simp; intro z; exact absurd h1.symm z)] at h
      simp [-Bool.exists_bool, h1]
      exact .now h
    · by_cases h2 : dd + p.w ≤ day
      · rw [e false (by simp; intros; omega)] at h
        simp [-Bool.exists_bool, h1, h2]
        exact .now h
      · simp [-Bool.exists_bool, h1, h2]
        refine later_of ?_
        cases th with
        | non =>
          rw [e false (by simp)] at h
          simp [-Bool.exists_bool, Th.dat]
          refine p_is_thing_n ?_
          simp
          exact .now h
        | sk q y n =>
          obtain ⟨hq, hy, n0, n1⟩ := ot
          have hq2 : 0 ≤ q ∧ q ≤ 2 := by
            rcases hq with rfl | hq
            · exact ⟨p0, p2⟩
            · exact hq
          have hy2 : 0 ≤ y ∧ y ≤ 1 := by rcases hy with rfl | rfl <;> decide
          rw [e (decide (q = pot ∧ y = z ∧ n = st.n)) (by
            simp
            constructor
            · rintro ⟨rfl, rfl, rfl⟩; exact ⟨fun e => h1 e.symm, by omega, rfl, rfl, rfl⟩
            · rintro ⟨_, _, rfl, rfl, rfl⟩; exact ⟨rfl, rfl, rfl⟩)] at h
          simp [-Bool.exists_bool, Th.dat]
          refine p_is_thing_s hq2.1 hq2.2 hy2.1 hy2.2 n0 (by omega) ?_
          simp [-Bool.exists_bool, gy, gl]
          refine f_eqP' (decide (q = pot ∧ y = z ∧ n = st.n)) (pl_sk _ _ _) (pl_sk pot z st.n) (by have := dp_sk q y n; omega) (by have := dp_sk pot z st.n; show dp (skD pot z st.n) ≤ 64; omega) (by simp [skD]) ?_
          rw [Bool.false_xor]
          exact .now h
/-! making claims -/
theorem mk_held {q : Addr} (hq : S q = none) (h : R (clB p .held) S) : φ_Held___init__ [.ref q, .int p.whole] (S.set q (.ins "Held" [])) (fun v S2 => v = .non ∧ mkI false "Held" q R S2) RE := by
  refine ⟨rfl, ?_⟩
  simp [-Bool.exists_bool, w_Held___init__, startE, N_Held___init__, putFd]
  exact .now ⟨rfl, _, Sto.set_same, by rw [Sto.del_set, Sto.del_none hq]; exact h⟩
theorem mk_taken {q : Addr} {z : Int} (hq : S q = none) (h : R (clB p (.taken z)) S) : φ_Taken___init__ [.ref q, .int p.whole, .int z] (S.set q (.ins "Taken" [])) (fun v S2 => v = .non ∧ mkI false "Taken" q R S2) RE := by
  refine ⟨rfl, ?_⟩
  simp [-Bool.exists_bool, w_Taken___init__, startE, N_Taken___init__, putFd]
  exact .now ⟨rfl, _, Sto.set_same, by rw [Sto.del_set, Sto.del_none hq]; exact h⟩
theorem mk_laid {q : Addr} {z dd : Int} {st : Stn} (hq : S q = none) (h : R (clB p (.laid z st dd)) S) : φ_Laid___init__ [.ref q, .int p.whole, .int z, stnD st, .int dd, .int p.w] (S.set q (.ins "Laid" [])) (fun v S2 => v = .non ∧ mkI false "Laid" q R S2) RE := by
  refine ⟨rfl, ?_⟩
  simp [-Bool.exists_bool, w_Laid___init__, startE, N_Laid___init__, putFd]
  exact .now ⟨rfl, _, Sto.set_same, by rw [Sto.del_set, Sto.del_none hq]; exact h⟩
/-! deeds of the book -/
def fpB (b c s : Addr) (ds : List Addr) : List Addr := b :: c :: s :: ds
theorem p_next_day (B : Bst S b c s ds ps k) (h : ∀ S', Bst S' b c s ds ps { k with day := k.day + 1 } → Fm (fpB b c s ds) S S' → R .non S') : φ_Book_next_day [.ref b] S R RE := by
  refine ⟨rfl, ?_⟩
  simp [-Bool.exists_bool, w_Book_next_day, startE, N_Book_next_day, g_now B]
  refine ⟨b, rfl, ?_⟩
  rw [B.hb]
  refine ⟨by decide, by simp [bkF], ?_⟩
  have e : putFd "now" (.int (k.day + 1)) (bkF c s ps k.day) = bkF c s ps (k.day + 1) := by simp [putFd, bkF]
  rw [e]
  exact .now (h _ B.setDay (.set (by simp [fpB])))
theorem p_show {pot w : Int} (B : Bst S b c s ds ps k) (hc : cnt k ≤ 900) (h1 : inR ps pot ∧ 0 ≤ w ∧ w ≤ 59 → ∀ S', Bst S' b c s ds ps (shset k pot.toNat (setd (k.sh.getD pot.toNat []) w k.day)) → Fm (fpB b c s ds) S S' → R .non S')
    (h2 : ¬ (inR ps pot ∧ 0 ≤ w ∧ w ≤ 59) → RE "NoDeed" S) : φ_Book_show [.ref b, .int pot, .int w] S R RE := by
  refine ⟨rfl, ?_⟩
  simp [-Bool.exists_bool, -s_seq, s_seqL, w_Book_show, startE, N_Book_show]
  refine m_book B (by decide) rfl ?_
  simp [-Bool.exists_bool]
  refine p_look B (fun p0 p1 _ _ => ?_) fun z => h2 fun y => z ⟨y.1, by decide, by decide⟩
  refine later_of ?_
  simp [-Bool.exists_bool, -s_seq, s_seqL]
  refine p_in_bounds ?_
  by_cases c1 : 0 ≤ w ∧ w ≤ 59
  · have e1 : (decide (0 ≤ w) && decide (w ≤ 59)) = true := by simp; omega
    rw [e1]
    simp [-Bool.exists_bool]
    refine later_of ?_
    obtain ⟨i, rfl⟩ := Int.eq_ofNat_of_zero_le p0
    have hi : i < ps.length := by omega
    have hd := get_ex (0 : Addr) (show i < ds.length by rw [B.l1]; exact hi)
    have hm := get_ex ([] : Shn) (show i < k.sh.length by rw [B.l3]; exact hi)
    have hh := h1 ⟨⟨p0, p1⟩, c1⟩
    rw [Int.toNat_natCast] at hh
    generalize ds.getD i 0 = d at hd
    generalize k.sh.getD i [] = m at hm hh
    have hdm := B.hd i d m hd hm
    have hmem := List.mem_of_getElem? hd
    have hml := le_cnt (List.mem_of_getElem? hm)
    simp [-Bool.exists_bool, g_shows B, g_now B, ixR_of B.hs (get_map (g := D.ref) hd)]
    refine ⟨tyM_refD hdm, d, shK m, .int w, .int k.day, .inl w, rfl, hdm, rfl, rfl, ?_⟩
    rw [look_sh]
    unfold setd at hh
    have fin : ∀ m', (∀ x ∈ m', 0 ≤ x.1 ∧ x.1 ≤ 59) → Fm (fpB b c s ds) S (S.set d (.dct (shK m'))) ∧ Bst (S.set d (.dct (shK m'))) b c s ds ps (shset k i m') := fun m' ok => ⟨.set (by simp [fpB, hmem]), B.setSh hd ok⟩
    cases e : m.lookup w with
    | some z =>
      rw [e] at hh
      simp only [Option.isSome_some, if_true] at hh
      have := fin m (B.sok m (List.mem_of_getElem? hm))
      have es : S.set d (.dct (shK m)) = S := Sto.set_id hdm
      rw [es] at this
      exact .now (hh _ this.2 this.1)
    | none =>
      rw [e] at hh
      simp only [Option.isSome_none, Bool.false_eq_true, if_false] at hh
      have := fin (m ++ [(w, k.day)]) (fun x hx => by
        rcases List.mem_append.mp hx with hx | hx
        · exact B.sok m (List.mem_of_getElem? hm) x hx
        · simp at hx; subst hx; exact c1)
      refine ⟨sz1001 (by simp [shK]; omega), ?_⟩
      rw [put_sh e]
      exact .now (hh _ this.2 this.1)
  · have e1 : (decide (0 ≤ w) && decide (w ≤ 59)) = false := by simp; omega
    rw [e1]
    simp [wRaise]
    exact h2 fun y => c1 y.2
end
end L98
end

section
set_option Elab.async false
set_option linter.all false
set_option maxRecDepth 100000
set_option autoImplicit false
namespace L98
open SB PySem PySem.Spec L2
section
variable {ς : En} {S : Sto} {R : Pd} {RE : Px} {b c s : Addr} {ds : List Addr} {ps : List Pt} {k : Bk} {p : Pt} {x : Clm} {K : Nat × List D × SB.Spec → Prop}
theorem sOk_iff {w : Int} : sOk w ↔ 0 ≤ w ∧ w ≤ 1 := by unfold sOk; omega
theorem len_cls (B : Bst S b c s ds ps k) : (clsB ps k.cl).length = ps.length := by
  unfold clsB
  rw [List.length_zipWith, B.l2]
  omega
theorem p_strike {pot who : Int} {th : Th} (B : Bst S b c s ds ps k) (ot : ThOk pot th) (h1 : (inR ps pot ∧ sOk who) ∧ canStrike ps k pot who th → ∀ S', Bst S' b c s ds ps (clset k pot.toNat (.taken who)) → Fm (fpB b c s ds) S S' → R .non S')
    (h2 : ¬ ((inR ps pot ∧ sOk who) ∧ canStrike ps k pot who th) → RE "NoDeed" S) : φ_Book_strike [.ref b, .int pot, .int who, th.dat] S R RE := by
  have l4 := B.l4
  refine ⟨rfl, ?_⟩
  simp [-Bool.exists_bool, -s_seq, s_seqL, w_Book_strike, startE, N_Book_strike]
  refine m_book B (by decide) rfl ?_
  simp [-Bool.exists_bool]
  refine p_look B (fun p0 p1 s0 s1 => ?_) fun z => h2 fun y => z ⟨y.1.1, sOk_iff.mp y.1.2⟩
  refine later_of ?_
  obtain ⟨i, rfl⟩ := Int.eq_ofNat_of_zero_le p0
  have hi : i < ps.length := by omega
  have hp := get_ex (⟨0, 0, 0, 0, 0⟩ : Pt) hi
  have hx := get_ex Clm.held (show i < k.cl.length by rw [B.l2]; exact hi)
  have hh : (canStrike ps k i who th) → ∀ S', Bst S' b c s ds ps (clset k i (.taken who)) → Fm (fpB b c s ds) S S' → R .non S' := fun z => by
    have := h1 ⟨⟨⟨p0, p1⟩, sOk_iff.mpr ⟨s0, s1⟩⟩, z⟩
    rwa [Int.toNat_natCast] at this
  have hn : ¬ (canStrike ps k i who th) → RE "NoDeed" S := fun z => h2 fun y => z y.2
  unfold canStrike ptAt at hh hn
  rw [Int.toNat_natCast] at hh hn
  generalize k.cl.getD i .held = x at hx hh hn
  generalize ps.getD i ⟨0, 0, 0, 0, 0⟩ = p at hp hh hn
  have ox := B.cok x (List.mem_of_getElem? hx)
  simp [-Bool.exists_bool, -s_seq, s_seqL, g_claims B, g_now B, ixR_of B.hc (get_zip hp hx)]
  refine p_cl_strike (who := who) ox p0 (by omega) ot fun nd e hnd => ?_
  rw [e]
  refine hnd _ _ _ _ ?_
  by_cases ck : ∃ s st d, x = .laid s st d ∧ s ≠ who ∧ k.day < d + p.w ∧ th = .sk i s st.n
  · have e1 : stkB p x i who k.day th = true := by unfold stkB; simp only [decide_eq_true_eq]; exact ck
    rw [e1]
    simp [-Bool.exists_bool, g_claims B, ixR_of B.hc (get_zip hp hx)]
    refine later_of ?_
    simp [-Bool.exists_bool, g_claims B, ixR_of B.hc (get_zip hp hx)]
    intro q hq
    refine mk_taken hq ?_
    simp only [g_claims B]
    rw [f_setIL B.hc]
    refine ⟨i, ixnN (by rw [len_cls B]; exact hi), ?_⟩
    exact .now (hh ck _ (B.setC hp (sOk_iff.mpr ⟨s0, s1⟩)) (.set (by simp [fpB])))
  · have e1 : stkB p x i who k.day th = false := by
      rw [Bool.eq_false_iff]
      unfold stkB
      simp only [ne_eq, decide_eq_true_eq]
      exact ck
    rw [e1]
    simp [wRaise]
    exact hn ck
theorem p_agreed {i : Nat} {who : Int} {one : Stn} {ag : Ag} (B : Bst S b c s ds ps k) (hp : ps[i]? = some p) (hi : i ≤ 2) (os : StnOk one) (w0 : sOk who) (oa : AgOk i who ag) (h : ∀ q : Bool, (q = true ↔ (one = ⟨0, p.o, p.q, []⟩ ∨ ag = .ag i (1 - who) one)) → R (.bl q) S) :
    φ_Book_agreed [.ref b, .int (i : Int), .int who, stnD one, ag.dat] S R RE := by
  have op := B.ok p (List.mem_of_getElem? hp)
  have o0 := op.o0
  have o1 := op.o1
  have q0 := op.q0
  have q1 := op.q1
  have of : StnOk ⟨0, p.o, p.q, []⟩ := ⟨Int.le_refl _, by show (0 : Int) ≤ 1000; decide, o0, by show p.o ≤ 1000; omega, q0, by show p.q ≤ 1000; omega, Nat.zero_le _, (fun t ht => by cases ht), List.nodup_nil⟩
  refine ⟨rfl, ?_⟩
  simp [-Bool.exists_bool, -s_seq, s_seqL, w_Book_agreed, startE, N_Book_agreed, g_kept B, ixL_of (get_map (g := potD) hp)]
  refine p_first of ?_
  by_cases c1 : one = ⟨0, p.o, p.q, []⟩
  · refine f_eqP' true (pl_stn _) (pl_stn _) (by have := dp_stn one; omega) (by have := dp_stn ⟨0, p.o, p.q, []⟩; omega) (by rw [stn_inj]; simp [c1]) ?_
    simp [-Bool.exists_bool]
    exact .now (h true (by simp [c1]))
  · refine f_eqP' false (pl_stn _) (pl_stn _) (by have := dp_stn one; omega) (by have := dp_stn ⟨0, p.o, p.q, []⟩; omega) (by rw [stn_inj]; simp [c1]) ?_
    simp [-Bool.exists_bool]
    refine later_of ?_
    cases ag with
    | non =>
      simp [-Bool.exists_bool, Ag.dat]
      refine p_is_thing_n ?_
      simp
      exact .now (h false (by simp [c1]))
    | lst st =>
      simp [-Bool.exists_bool, Ag.dat]
      refine p_is_thing_l ?_
      simp
      exact .now (h false (by simp [c1]))
    | ag p' s' st =>
      obtain ⟨rfl, hs, ost⟩ := oa
      have hs2 : 0 ≤ s' ∧ s' ≤ 1 := by
        rcases w0 with rfl | rfl <;> rcases hs with rfl | rfl <;> decide
      simp [-Bool.exists_bool, Ag.dat]
      refine p_is_thing_a (by omega) (by omega) hs2.1 hs2.2 ost ?_
      simp [-Bool.exists_bool]
      have e2 : (D.tup [.str "agree", .int (i : Int), .int (1 - who), stnD one]) = agD i (1 - who) one := rfl
      rw [e2]
      refine f_eqP' (decide (s' = 1 - who ∧ st = one)) (pl_ag _ _ _) (pl_ag _ _ _) (by have := dp_ag (i : Int) s' st; omega) (by have := dp_ag (i : Int) (1 - who) one; omega) (by simp [agD, stn_inj]) ?_
      rw [Bool.false_xor]
      exact .now (h _ (by simp [c1]))
theorem p_lay {pot who : Int} {one : Stn} {ag : Ag} (B : Bst S b c s ds ps k) (os : StnOk one) (oa : AgOk pot who ag)
    (h1 : inR ps pot ∧ sOk who → one.sum = (ptAt ps pot.toNat).whole → canLay ps k pot who one ag → ∀ S', Bst S' b c s ds ps (clset k pot.toNat (.laid who one k.day)) → Fm (fpB b c s ds) S S' → R .non S')
    (h2 : inR ps pot ∧ sOk who → one.sum = (ptAt ps pot.toNat).whole → ¬ canLay ps k pot who one ag → RE "NoDeed" S)
    (h3 : inR ps pot ∧ sOk who → one.sum ≠ (ptAt ps pot.toNat).whole → RE "NoStand" S) (h4 : ¬ (inR ps pot ∧ sOk who) → RE "NoDeed" S) : φ_Book_lay [.ref b, .int pot, .int who, stnD one, ag.dat] S R RE := by
  have l4 := B.l4
  refine ⟨rfl, ?_⟩
  simp [-Bool.exists_bool, -s_seq, s_seqL, w_Book_lay, startE, N_Book_lay]
  refine m_book B (by decide) rfl ?_
  simp [-Bool.exists_bool]
  refine p_look B (fun p0 p1 s0 s1 => ?_) fun z => h4 fun y => z ⟨y.1, sOk_iff.mp y.2⟩
  refine later_of ?_
  have hw := sOk_iff.mpr ⟨s0, s1⟩
  have g1 := h1 ⟨⟨p0, p1⟩, hw⟩
  have g2 := h2 ⟨⟨p0, p1⟩, hw⟩
  have g3 := h3 ⟨⟨p0, p1⟩, hw⟩
  clear h1 h2 h3 h4
  obtain ⟨i, rfl⟩ := Int.eq_ofNat_of_zero_le p0
  have hi : i < ps.length := by omega
  have hp := get_ex (⟨0, 0, 0, 0, 0⟩ : Pt) hi
  have hx := get_ex Clm.held (show i < k.cl.length by rw [B.l2]; exact hi)
  unfold canLay ptAt at g1 g2
  unfold ptAt at g3
  rw [Int.toNat_natCast] at g1 g2 g3
  generalize k.cl.getD i .held = x at hx g1 g2
  generalize ps.getD i ⟨0, 0, 0, 0, 0⟩ = p at hp g1 g2 g3
  simp [-Bool.exists_bool, -s_seq, s_seqL, g_claims B]
  refine p_is_stand os ?_
  simp [-Bool.exists_bool, -s_seq, s_seqL, g_claims B]
  refine p_deals os ?_
  simp only [ixR_of B.hc (get_zip hp hx), g_whole, f_eqI, g_claims B]
  by_cases c1 : one.sum = p.whole
  · have g1 := g1 c1
    have g2 := g2 c1
    simp [-Bool.exists_bool, c1]
    refine later_of ?_
    simp [-Bool.exists_bool, -s_seq, s_seqL]
    refine m_book B (by decide) rfl ?_
    simp [-Bool.exists_bool]
    refine p_told B hp hx ?_
    by_cases c2 : x = .held
    · subst c2
      refine f_eqP' true (pl_cl _) (by simp) (by decide) (by decide) (by simp [clD]) ?_
      simp [-Bool.exists_bool]
      refine m_book B (by decide) rfl ?_
      simp [-Bool.exists_bool]
      refine p_agreed B hp (by omega) os hw oa fun q hq => ?_
      cases q with
      | false =>
        simp [-Bool.exists_bool, wRaise]
        refine g2 fun z => ?_
        have := hq.mpr z.2
        cases this
      | true =>
        simp [-Bool.exists_bool]
        refine later_of ?_
        simp [-Bool.exists_bool, g_claims B, ixR_of B.hc (get_zip hp hx), g_now B, g_kept B, ixL_of (get_map (g := potD) hp)]
        intro q hq2
        refine mk_laid hq2 ?_
        simp only [g_claims B]
        rw [f_setIL B.hc]
        refine ⟨i, ixnN (by rw [len_cls B]; exact hi), ?_⟩
        exact .now (g1 ⟨rfl, hq.mp rfl⟩ _ (B.setC hp ⟨hw, os⟩) (.set (by simp [fpB])))
    · refine f_eqP' false (pl_cl _) (by simp) (by have := dp_cl x; omega) (by decide) (by cases x <;> simp_all [clD]) ?_
      simp [-Bool.exists_bool, wRaise]
      exact g2 fun z => c2 z.1
  · simp [-Bool.exists_bool, c1, wRaise]
    exact g3 c1
end
end L98
end

section
set_option Elab.async false
set_option linter.all false
set_option maxRecDepth 100000
set_option autoImplicit false
namespace L98
open SB PySem PySem.Spec L2
theorem pl_agd (ag : Ag) : pl ag.dat = true := by cases ag <;> simp [Ag.dat]
theorem dp_agd (ag : Ag) : dp ag.dat ≤ 4 := by
  cases ag with
  | non => simp [Ag.dat]
  | ag p s st => exact dp_ag p s st
  | lst st => have := dp_stn st; simp [Ag.dat, stnD] at this ⊢; omega
theorem pl_thd (th : Th) : pl th.dat = true := by cases th <;> simp [Th.dat]
theorem dp_thd (th : Th) : dp th.dat ≤ 1 := by
  cases th with
  | non => simp [Th.dat]
  | sk p s n => exact dp_sk p s n
theorem agd_eq {ag : Ag} {p s : Int} {st : Stn} : ag.dat = agD p s st ↔ ag = .ag p s st := by
  cases ag with
  | non => simp [Ag.dat, agD]
  | ag p' s' st' => simp [Ag.dat, agD, stn_inj]
  | lst st' => simp [Ag.dat, agD]
theorem thd_eq {th : Th} {p s n : Int} : th.dat = skD p s n ↔ th = .sk p s n := by
  cases th with
  | non => simp [Th.dat, skD]
  | sk p' s' n' => simp [Th.dat, skD]
section
variable {ς : En} {S : Sto} {R : Pd} {RE : Px} {a pa c s : Addr} {ds : List Addr} {ps : List Pt} {k : Bk} {p : Pt} {x : Clm}
def fpT (a c s : Addr) (ds : List Addr) : List Addr := a :: c :: s :: ds
theorem f_in01 {w : Int} (h : R (.bl (!decide (w = 0 ∨ w = 1))) S) : fIn true (.int w) (.tup [.int 0, .int 1]) S R := by
  unfold fIn
  refine ⟨rfl, rfl, ?_⟩
  have e : ([D.int 0, D.int 1].any fun z => dEq z (.int w)) = decide (w = 0 ∨ w = 1) := by
    rw [Bool.eq_iff_iff]
    simp [dEqI]
    omega
  rw [e, Bool.true_xor]
  exact h
theorem bd5 {p : Pt} (ς : En) : Tg.bind (.tup (.cons (.nm 3) (.cons (.nm 4) (.cons (.nm 5) (.cons (.nm 6) (.cons (.nm 7) .nil)))))) (potD p) ς = some (((((ς.set 3 (some (.int p.l))).set 4 (some (.int p.r))).set 5 (some (.int p.o))).set 6 (some (.int p.q))).set 7 (some (.int p.w))) := rfl
open Classical in
theorem p_wanted {d : Dd} (T : Tst S a pa c s ds ps k) (l4 : 1 ≤ ps.length ∧ ps.length ≤ 3) (l2 : k.cl.length = ps.length) (l3 : k.sh.length = ps.length) (hc : cnt k ≤ 900) (od : DdOk d)
    (h : ∀ S', Tst S' a pa c s ds ps (stepB ps k d).2 → Fm (fpT a c s ds) S S' → R (.str (Str.ofString (stepB ps k d).1)) S') : φ__law_wanted [.ref a, ddD d] S R RE := by
  refine ⟨rfl, ?_⟩
  have stay : ∀ z, stepB ps k d = (z, k) → R (.str (Str.ofString z)) S := fun z e => by
    have := h S (by rw [e]; exact T) .refl
    rwa [e] at this
  have go : ∀ z k' S', stepB ps k d = (z, k') → Tst S' a pa c s ds ps k' → Fm (fpT a c s ds) S S' → R (.str (Str.ofString z)) S' := fun z k' S' e T' f => by
    have := h S' (by rw [e]; exact T') f
    rwa [e] at this
  clear h
  simp only [w__law_wanted, startE, N__law_wanted, s_seqL]
  cases d with
  | day =>
    simp [-Bool.exists_bool, -s_seq, s_seqL, ddD, L2.atI, L2.ixN, x_day T]
    rw [f_setID T.ha]
    refine ⟨by simp [sdF], later_of ?_⟩
    have e : putD (.inr (Str.ofString "day")) (.int (k.day + 1)) (sdF pa c s k.day) = sdF pa c s (k.day + 1) := by simp [putD, sdF]
    rw [e]
    simp
    exact .now (go "done" _ _ rfl T.setDay (.set (by simp [fpT])))
  | «show» pot w =>
    simp [-Bool.exists_bool, -s_seq, s_seqL, ddD, L2.atI, L2.ixN]
    refine later_of ?_
    simp [-Bool.exists_bool, -s_seq, s_seqL, ddD, L2.atI, L2.ixN, cmpLe, x_pots T, f_lenR T.hp, cmpLt]
    by_cases c1 : inR ps pot
    · obtain ⟨p0, p1⟩ := c1
      rw [if_pos p0]
      simp [-Bool.exists_bool, -s_seq, s_seqL, p1]
      refine later_of ?_
      simp [-Bool.exists_bool, -s_seq, s_seqL, L2.atI, L2.ixN]
      refine later_of ?_
      obtain ⟨i, rfl⟩ := Int.eq_ofNat_of_zero_le p0
      have hi : i < ps.length := by omega
      have hp := get_ex (⟨0, 0, 0, 0, 0⟩ : Pt) hi
      have hx := get_ex Clm.held (show i < k.cl.length by rw [l2]; exact hi)
      have hd := get_ex (0 : Addr) (show i < ds.length by rw [T.l1]; exact hi)
      have hm := get_ex ([] : Shn) (show i < k.sh.length by rw [l3]; exact hi)
      simp [-Bool.exists_bool, -s_seq, s_seqL, -List.getD_eq_getElem?_getD, x_pots T, ixR_of T.hp (get_map (g := potD) hp), bd5]
      refine later_of ?_
      simp [-Bool.exists_bool, -s_seq, s_seqL, -List.getD_eq_getElem?_getD, x_claims T, ixR_of T.hc (get_map (g := clD) hx)]
      refine later_of ?_
      simp [-Bool.exists_bool, -s_seq, s_seqL, -List.getD_eq_getElem?_getD, L2.atI, L2.ixN, cmpLe, cmpLt]
      by_cases c2 : 0 ≤ w ∧ w ≤ 59
      · rw [if_pos c2.1]
        have hw : w < 60 := by omega
        have est : stepB ps k (.show i w) = ("done", shset k i (setd (k.sh.getD i []) w k.day)) := by
          unfold stepB
          dsimp only
          rw [if_pos ⟨⟨p0, p1⟩, c2⟩, Int.toNat_natCast]
        generalize ds.getD i 0 = d at hd
        generalize k.sh.getD i [] = m at hm est
        have hdm := T.hd i d m hd hm
        have hmem := List.mem_of_getElem? hd
        have hml := le_cnt (List.mem_of_getElem? hm)
        simp [-Bool.exists_bool, -s_seq, s_seqL, -List.getD_eq_getElem?_getD, hw]
        refine later_of ?_
        simp [-Bool.exists_bool, -s_seq, s_seqL, -List.getD_eq_getElem?_getD, x_shown T, x_day T, ixR_of T.hs (get_map (g := D.ref) hd), L2.atI, L2.ixN]
        refine ⟨tyM_refD hdm, d, shK m, .int w, .int k.day, .inl w, rfl, hdm, rfl, rfl, ?_⟩
        rw [look_sh]
        unfold setd at est
        cases e : m.lookup w with
        | some z =>
          rw [e] at est
          simp only [Option.isSome_some, if_true] at est
          have T2 : Tst (S.set d (.dct (shK m))) a pa c s ds ps (shset k i m) := T.setSh hd
          rw [Sto.set_id hdm] at T2
          refine later_of ?_
          simp
          exact .now (go "done" _ _ est T2 .refl)
        | none =>
          rw [e] at est
          simp only [Option.isSome_none, Bool.false_eq_true, if_false] at est
          refine ⟨sz1001 (by simp [shK]; omega), later_of ?_⟩
          simp only [s_ret, s_c]
          rw [put_sh e]
          exact .now (go "done" _ _ est (T.setSh hd) (.set (by simp [fpT, hmem])))
      · have est : stepB ps k (.show i w) = ("deed", k) := by
          unfold stepB
          dsimp only
          rw [if_neg fun z => c2 z.2]
        by_cases c3 : 0 ≤ w
        · have hw : ¬ w < 60 := by omega
          simp [-Bool.exists_bool, c3, hw]
          exact .now (stay _ est)
        · simp [-Bool.exists_bool, c3]
          exact .now (stay _ est)
    · have est : stepB ps k (.show pot w) = ("deed", k) := by
        unfold stepB
        dsimp only
        rw [if_neg fun z => c1 z.1]
      by_cases c3 : 0 ≤ pot
      · have hw : ¬ pot < ps.length := fun z => c1 ⟨c3, z⟩
        simp [-Bool.exists_bool, c3, hw]
        exact .now (stay _ est)
      · simp [-Bool.exists_bool, c3]
        exact .now (stay _ est)
  | strike pot who th =>
    simp [-Bool.exists_bool, -s_seq, s_seqL, ddD, L2.atI, L2.ixN]
    refine later_of ?_
    simp [-Bool.exists_bool, -s_seq, s_seqL, ddD, L2.atI, L2.ixN, cmpLe, x_pots T, f_lenR T.hp, cmpLt]
    by_cases c1 : inR ps pot
    · obtain ⟨p0, p1⟩ := c1
      rw [if_pos p0]
      simp [-Bool.exists_bool, -s_seq, s_seqL, p1]
      refine later_of ?_
      simp [-Bool.exists_bool, -s_seq, s_seqL, L2.atI, L2.ixN]
      refine later_of ?_
      obtain ⟨i, rfl⟩ := Int.eq_ofNat_of_zero_le p0
      have hi : i < ps.length := by omega
      have hp := get_ex (⟨0, 0, 0, 0, 0⟩ : Pt) hi
      have hx := get_ex Clm.held (show i < k.cl.length by rw [l2]; exact hi)
      have hr : inR ps (i : Int) := ⟨p0, p1⟩
      have est : stepB ps k (.strike i who th) = if (inR ps i ∧ sOk who) ∧ canStrike ps k i who th then ("done", clset k i (.taken who)) else ("deed", k) := by
        unfold stepB
        dsimp only
        rw [Int.toNat_natCast]
      have hcan : canStrike ps k i who th ↔ ∃ s st d, k.cl.getD i .held = .laid s st d ∧ s ≠ who ∧ k.day < d + (ps.getD i ⟨0, 0, 0, 0, 0⟩).w ∧ th = .sk i s st.n := by
        unfold canStrike ptAt
        rw [Int.toNat_natCast]
      generalize hpe : ps.getD i ⟨0, 0, 0, 0, 0⟩ = p at hp
      generalize hxe : k.cl.getD i .held = x at hx
      simp [-Bool.exists_bool, -s_seq, s_seqL, x_pots T, ixR_of T.hp (get_map (g := potD) hp), bd5]
      refine later_of ?_
      simp [-Bool.exists_bool, -s_seq, s_seqL, x_claims T, ixR_of T.hc (get_map (g := clD) hx)]
      refine later_of ?_
      simp [-Bool.exists_bool, -s_seq, s_seqL, L2.atI, L2.ixN]
      refine later_of ?_
      simp [-Bool.exists_bool, -s_seq, s_seqL, L2.atI, L2.ixN]
      refine f_in01 ?_
      by_cases c2 : sOk who
      · have e2 : decide (who = 0 ∨ who = 1) = true := decide_eq_true c2
        rw [e2]
        simp [-Bool.exists_bool, -s_seq, s_seqL]
        refine later_of ?_
        simp [-Bool.exists_bool, -s_seq, s_seqL, L2.atI, L2.ixN]
        rw [hpe, hxe] at hcan
        have no : (¬ ∃ s st d, x = .laid s st d ∧ s ≠ who ∧ k.day < d + p.w ∧ th = .sk i s st.n) → Rz R (.str "deed") S := fun z => .now (stay "deed" (by rw [est, if_neg fun y => z (hcan.mp y.2)]))
        cases x with
        | held =>
          simp [-Bool.exists_bool, -s_seq, s_seqL, clD, L2.atI, L2.ixN]
          exact no (by simp)
        | taken z =>
          simp [-Bool.exists_bool, -s_seq, s_seqL, clD, L2.atI, L2.ixN]
          exact no (by simp)
        | laid z st dd =>
          simp [-Bool.exists_bool, -s_seq, s_seqL, clD, L2.atI, L2.ixN, x_day T, cmpGe]
          by_cases c4 : z = who
          · simp [-Bool.exists_bool, c4]
            refine no ?_
            rintro ⟨_, _, _, e, h, _⟩
            cases e; exact h c4
          · simp [-Bool.exists_bool, c4]
            by_cases c5 : dd + p.w ≤ k.day
            · simp [-Bool.exists_bool, c5]
              refine no ?_
              rintro ⟨_, _, _, e, _, h, _⟩
              cases e; omega
            · simp [-Bool.exists_bool, c5]
              refine later_of ?_
              simp [-Bool.exists_bool, -s_seq, s_seqL, L2.atI, L2.ixN]
              have et : (D.tup [.str "strike", .int (i : Int), .int z, .int st.n]) = skD i z st.n := rfl
              rw [et]
              by_cases c6 : th = .sk i z st.n
              · refine f_eqP' true (pl_thd th) (pl_sk _ _ _) (by have := dp_thd th; omega) (by have := dp_sk (i : Int) z st.n; omega) (by rw [thd_eq]; simp [c6]) ?_
                simp [-Bool.exists_bool, -s_seq, s_seqL]
                refine later_of ?_
                have est2 := est.trans (if_pos ⟨⟨hr, c2⟩, hcan.mpr ⟨z, st, dd, rfl, c4, by omega, c6⟩⟩)
                simp [-Bool.exists_bool, -s_seq, s_seqL, L2.atI, L2.ixN, x_claims T]
                rw [f_setIL T.hc]
                refine ⟨i, ixnN (by rw [List.length_map, l2]; exact hi), later_of ?_⟩
                simp only [s_ret, s_c]
                exact .now (go "done" _ _ est2 (T.setC (x := .taken who)) (.set (by simp [fpT])))
              · refine f_eqP' false (pl_thd th) (pl_sk _ _ _) (by have := dp_thd th; omega) (by have := dp_sk (i : Int) z st.n; omega) (by rw [thd_eq]; simp [c6]) ?_
                simp [-Bool.exists_bool, -s_seq, s_seqL]
                refine no ?_
                rintro ⟨_, _, _, e, _, _, h⟩
                cases e; exact c6 h
      · have e2 : decide (who = 0 ∨ who = 1) = false := decide_eq_false c2
        rw [e2]
        simp [-Bool.exists_bool, -s_seq, s_seqL]
        exact .now (stay "deed" (by rw [est, if_neg (fun z => c2 z.1.2)]))
    · have est : stepB ps k (.strike pot who th) = ("deed", k) := by
        unfold stepB
        dsimp only
        rw [if_neg fun z => c1 z.1.1]
      by_cases c3 : 0 ≤ pot
      · have hw : ¬ pot < ps.length := fun z => c1 ⟨c3, z⟩
        simp [-Bool.exists_bool, c3, hw]
        exact .now (stay _ est)
      · simp [-Bool.exists_bool, c3]
        exact .now (stay _ est)
  | lay pot who one ag =>
    simp [-Bool.exists_bool, -s_seq, s_seqL, ddD, L2.atI, L2.ixN]
    refine later_of ?_
    simp [-Bool.exists_bool, -s_seq, s_seqL, ddD, L2.atI, L2.ixN, cmpLe, x_pots T, f_lenR T.hp, cmpLt]
    by_cases c1 : inR ps pot
    · obtain ⟨p0, p1⟩ := c1
      rw [if_pos p0]
      simp [-Bool.exists_bool, -s_seq, s_seqL, p1]
      refine later_of ?_
      simp [-Bool.exists_bool, -s_seq, s_seqL, L2.atI, L2.ixN]
      refine later_of ?_
      obtain ⟨i, rfl⟩ := Int.eq_ofNat_of_zero_le p0
      have hi : i < ps.length := by omega
      have hp := get_ex (⟨0, 0, 0, 0, 0⟩ : Pt) hi
      have hx := get_ex Clm.held (show i < k.cl.length by rw [l2]; exact hi)
      have hr : inR ps (i : Int) := ⟨p0, p1⟩
      have est : stepB ps k (.lay i who one ag) = if inR ps i ∧ sOk who then (if one.sum = (ptAt ps i).whole then (if canLay ps k i who one ag then ("done", clset k i (.laid who one k.day)) else ("deed", k)) else ("stand", k)) else ("deed", k) := by
        unfold stepB
        dsimp only
        rw [Int.toNat_natCast]
      have hcan : canLay ps k i who one ag ↔ (k.cl.getD i .held = .held ∧ (one = ⟨0, (ps.getD i ⟨0, 0, 0, 0, 0⟩).o, (ps.getD i ⟨0, 0, 0, 0, 0⟩).q, []⟩ ∨ ag = .ag i (1 - who) one)) := by
        unfold canLay ptAt
        rw [Int.toNat_natCast]
      have hpt : ptAt ps i = ps.getD i ⟨0, 0, 0, 0, 0⟩ := rfl
      rw [hpt] at est
      generalize hpe : ps.getD i ⟨0, 0, 0, 0, 0⟩ = p at hp
      generalize hxe : k.cl.getD i .held = x at hx
      simp [-Bool.exists_bool, -s_seq, s_seqL, x_pots T, ixR_of T.hp (get_map (g := potD) hp), bd5]
      refine later_of ?_
      simp [-Bool.exists_bool, -s_seq, s_seqL, x_claims T, ixR_of T.hc (get_map (g := clD) hx)]
      refine later_of ?_
      simp [-Bool.exists_bool, -s_seq, s_seqL, L2.atI, L2.ixN]
      refine later_of ?_
      simp [-Bool.exists_bool, -s_seq, s_seqL, L2.atI, L2.ixN]
      refine f_in01 ?_
      by_cases c2 : sOk who
      · have e2 : decide (who = 0 ∨ who = 1) = true := decide_eq_true c2
        rw [e2]
        simp [-Bool.exists_bool, -s_seq, s_seqL]
        refine later_of ?_
        simp [-Bool.exists_bool, -s_seq, s_seqL, L2.atI, L2.ixN]
        rw [hpe, hxe] at hcan
        rw [if_pos ⟨hr, c2⟩, hpe] at est
        obtain ⟨os, oa⟩ := od
        refine later_of ?_
        simp only [s_seqL]
        have i3 : ∀ (R : Pd), fIx (.tup [.str "lay", .int (i : Int), .int who, stnD one, ag.dat]) (.int 3) S R = R (stnD one) S := fun R => by simp [L2.atI, L2.ixN]
        have i4 : ∀ (R : Pd), fIx (.tup [.str "lay", .int (i : Int), .int who, stnD one, ag.dat]) (.int 4) S R = R ag.dat S := fun R => by simp [L2.atI, L2.ixN]
        simp [-Bool.exists_bool, -s_seq, i3, shD, intL2, L2.atI, L2.ixN]
        have ets : srcOf S (tsD one) = some (one.ts.map tieD, none) := rfl
        refine ⟨_, _, ets, fun q hq => ?_⟩
        refine lc_map (fun t => .int t.a) (sz1000 (by have := os.len; omega)) (fun t ht => ⟨_, rfl, fun S R h => ?_⟩) ?_ q hq
        · simp [wipeE, tieD, L2.atI, L2.ixN]
          exact h
        rw [f_sumL]
        refine ⟨_, intL_mapF (f := fun t : Tie => D.int t.a) (g := Tie.a) (fun _ _ => rfl), ?_⟩
        have esum : one.l + one.r + (one.ts.map Tie.a).sum = one.sum := rfl
        simp only [f_addI, f_eqI]
        rw [esum]
        have ewh : p.o + p.q = p.whole := rfl
        rw [ewh]
        by_cases c4 : one.sum = p.whole
        · rw [if_pos c4] at est
          simp [-Bool.exists_bool, c4]
          refine later_of ?_
          simp only [s_seqL]
          have e3 : (D.tup [.int 0, .tup [.int p.o, .int p.q], .tup []]) = stnD ⟨0, p.o, p.q, []⟩ := rfl
          have e5 : (D.tup [.str "agree", .int (i : Int), .int (1 - who), stnD one]) = agD i (1 - who) one := rfl
          have i2 : ∀ (R : Pd), fIx (.tup [.str "lay", .int (i : Int), .int who, stnD one, ag.dat]) (.int 2) S R = R (.int who) S := fun R => by simp [L2.atI, L2.ixN]
          simp [-Bool.exists_bool, -s_seq, -f_ixT, i3, i4, i2, e3, e5]
          have rest : ∀ b : Bool, (b = true ↔ (one = ⟨0, p.o, p.q, []⟩ ∨ ag = .ag i (1 - who) one)) →
              (later (wSeq (wIf (wB (wOr (wOp (fEq true) (wVar 8) (wTup (wCons (wC (.str "held")) wNil))) (wNot (wVar 9)))) (wRet (wC (.str "deed"))) wNx)
                (wSeq (wSetI (wTup (wCons (wC (.str "laid")) (wCons (wOp fIx (wVar 1) (wC (.int 2))) (wCons (wOp fIx (wVar 1) (wC (.int 3))) (wCons (wOp fIx (wVar 0) (wC (.str "day"))) wNil))))) (wOp fIx (wVar 0) (wC (.str "claims"))) (wVar 2))
                (wRet (wC (.str "done"))))))
                [some (.ref a), some (.tup [.str "lay", .int (i : Int), .int who, stnD one, ag.dat]), some (.int (i : Int)), some (.int p.l), some (.int p.r), some (.int p.o), some (.int p.q), some (.int p.w), some (clD x), some (.bl b), none]
                S ⟨fun _ S' => Rz R .non S', Rz R, fun _ _ => False, fun _ _ => False⟩ (fun c _ S' => RE c S') := fun b hb => by
            refine later_of ?_
            simp [-Bool.exists_bool, -s_seq, s_seqL]
            have eh : (D.tup [.str "held"]) = clD .held := rfl
            rw [eh]
            by_cases c5 : x = .held
            · refine f_eqP' true (pl_cl _) (pl_cl _) (by have := dp_cl x; omega) (by decide) (by simp [c5]) ?_
              cases b with
              | false =>
                simp [-Bool.exists_bool, -s_seq, s_seqL]
                refine .now (stay "deed" (est.trans (if_neg fun z => ?_)))
                have := hb.mpr (hcan.mp z).2
                cases this
              | true =>
                simp [-Bool.exists_bool, -s_seq, s_seqL]
                refine later_of ?_
                simp [-Bool.exists_bool, -s_seq, s_seqL, -f_ixT, i2, i3, x_day T, x_claims T]
                rw [f_setIL T.hc]
                refine ⟨i, ixnN (by rw [List.length_map, l2]; exact hi), later_of ?_⟩
                simp only [s_ret, s_c]
                have est2 := est.trans (if_pos (hcan.mpr ⟨c5, hb.mp rfl⟩))
                exact .now (go "done" _ _ est2 (T.setC (x := .laid who one k.day)) (.set (by simp [fpT])))
            · refine f_eqP' false (pl_cl _) (pl_cl _) (by have := dp_cl x; omega) (by decide) (by cases x <;> simp_all [clD]) ?_
              simp [-Bool.exists_bool, -s_seq, s_seqL]
              exact .now (stay "deed" (est.trans (if_neg fun z => c5 (hcan.mp z).1)))
          by_cases c6 : one = ⟨0, p.o, p.q, []⟩
          · refine f_eqP' true (pl_stn _) (pl_stn _) (by have := dp_stn one; omega) (by have := dp_stn ⟨0, p.o, p.q, []⟩; omega) (by rw [stn_inj]; simp [c6]) ?_
            simp [-Bool.exists_bool, -s_seq, s_seqL]
            exact rest true (by simp [c6])
          · refine f_eqP' false (pl_stn _) (pl_stn _) (by have := dp_stn one; omega) (by have := dp_stn ⟨0, p.o, p.q, []⟩; omega) (by rw [stn_inj]; simp [c6]) ?_
            simp [-Bool.exists_bool, -s_seq, s_seqL, -f_ixT, i3, i4, i2, e3, e5]
            by_cases c7 : ag = .ag i (1 - who) one
            · refine f_eqP' true (pl_agd _) (pl_ag _ _ _) (by have := dp_agd ag; omega) (by have := dp_ag (i : Int) (1 - who) one; omega) (by rw [agd_eq]; simp [c7]) ?_
              exact rest true (by simp [c7])
            · refine f_eqP' false (pl_agd _) (pl_ag _ _ _) (by have := dp_agd ag; omega) (by have := dp_ag (i : Int) (1 - who) one; omega) (by rw [agd_eq]; simp [c7]) ?_
              exact rest false (by simp [c6, c7])
        · rw [if_neg c4] at est
          simp [-Bool.exists_bool, c4]
          exact .now (stay _ est)
      · have e2 : decide (who = 0 ∨ who = 1) = false := decide_eq_false c2
        rw [e2]
        simp [-Bool.exists_bool, -s_seq, s_seqL]
        exact .now (stay "deed" (by rw [est, if_neg (fun z => c2 z.2)]))
    · have est : stepB ps k (.lay pot who one ag) = ("deed", k) := by
        unfold stepB
        dsimp only
        rw [if_neg fun z => c1 z.1]
      by_cases c3 : 0 ≤ pot
      · have hw : ¬ pot < ps.length := fun z => c1 ⟨c3, z⟩
        simp [-Bool.exists_bool, c3, hw]
        exact .now (stay _ est)
      · simp [-Bool.exists_bool, c3]
        exact .now (stay _ est)
end
end L98
end

section
set_option Elab.async false
set_option linter.all false
set_option maxRecDepth 100000
set_option autoImplicit false
namespace L98
open SB PySem PySem.Spec L2
section
variable {S : Sto} {R : Pd} {RE : Px} {b c s : Addr} {ds : List Addr} {ps : List Pt} {k : Bk}
def doB : WpS := (wIf (wB (wOp (fEq false) (wOp fIx (wVar 1) (wC (.int 0))) (wC (.str ("day" : Str))))) (wExpr (wMeth "next_day" cs_next_day (wVar 0) wNil)) (wIf (wB (wOp (fEq false) (wOp fIx (wVar 1) (wC (.int 0))) (wC (.str ("show" : Str))))) (wExpr (wMeth "show" cs_show (wVar 0) (wCons (wOp fIx (wVar 1) (wC (.int 1))) (wCons (wOp fIx (wVar 1) (wC (.int 2))) wNil)))) (wIf (wB (wOp (fEq false) (wOp fIx (wVar 1) (wC (.int 0))) (wC (.str ("strike" : Str))))) (wExpr (wMeth "strike" cs_strike (wVar 0) (wCons (wOp fIx (wVar 1) (wC (.int 1))) (wCons (wOp fIx (wVar 1) (wC (.int 2))) (wCons (wOp fIx (wVar 1) (wC (.int 3))) wNil))))) (wExpr (wMeth "lay" cs_lay (wVar 0) (wCons (wOp fIx (wVar 1) (wC (.int 1))) (wCons (wOp fIx (wVar 1) (wC (.int 2))) (wCons (wOp fIx (wVar 1) (wC (.int 3))) (wCons (wOp fIx (wVar 1) (wC (.int 4))) wNil)))))))))
open Classical in
theorem do_ok {d : Dd} {E : ES} {XE : PxE} {x2 x3 x4 : Option D} (B : Bst S b c s ds ps k) (hc : cnt k ≤ 900) (od : DdOk d)
    (hE : ∀ k' S', stepB ps k d = ("done", k') → Bst S' b c s ds ps k' → Fm (fpB b c s ds) S S' → E.nx [some (.ref b), some (ddD d), x2, x3, x4] S')
    (h1 : stepB ps k d = ("deed", k) → XE "NoDeed" [some (.ref b), some (ddD d), x2, x3, x4] S) (h2 : stepB ps k d = ("stand", k) → XE "NoStand" [some (.ref b), some (ddD d), x2, x3, x4] S) :
    doB [some (.ref b), some (ddD d), x2, x3, x4] S E XE := by
  unfold doB
  cases d with
  | day =>
    simp [-Bool.exists_bool, ddD, L2.atI, L2.ixN]
    refine m_book B (by decide) rfl ?_
    simp [-Bool.exists_bool]
    exact p_next_day B fun S' B' f => hE _ S' rfl B' f
  | «show» pot w =>
    simp [-Bool.exists_bool, ddD, L2.atI, L2.ixN]
    refine m_book B (by decide) rfl ?_
    simp [-Bool.exists_bool]
    refine p_show B hc (fun z S' B' f => hE _ S' (if_pos z) B' f) fun z => h1 (if_neg z)
  | strike pot who th =>
    simp [-Bool.exists_bool, ddD, L2.atI, L2.ixN]
    refine m_book B (by decide) rfl ?_
    simp [-Bool.exists_bool]
    exact p_strike B od (fun z S' B' f => hE _ S' (if_pos z) B' f) fun z => h1 (if_neg z)
  | lay pot who one ag =>
    simp [-Bool.exists_bool, ddD, L2.atI, L2.ixN]
    refine m_book B (by decide) rfl ?_
    simp [-Bool.exists_bool]
    refine p_lay B od.1 od.2 (fun z1 z2 z3 S' B' f => hE _ S' ?_ B' f) (fun z1 z2 z3 => h1 ?_) (fun z1 z2 => h2 ?_) fun z => h1 (if_neg z)
    · exact (if_pos z1).trans ((if_pos z2).trans (if_pos z3))
    · exact (if_pos z1).trans ((if_pos z2).trans (if_neg z3))
    · exact (if_pos z1).trans (if_neg z2)
theorem p_done {d : Dd} (B : Bst S b c s ds ps k) (hc : cnt k ≤ 900) (od : DdOk d) (h : ∀ S', Bst S' b c s ds ps (stepB ps k d).2 → Fm (fpB b c s ds) S S' → R (.str (Str.ofString (stepB ps k d).1)) S') : φ__law_done [.ref b, ddD d] S R RE := by
  refine ⟨rfl, ?_⟩
  simp only [w__law_done, startE, N__law_done, s_seqL]
  simp [-Bool.exists_bool, -s_seq, s_seqL]
  refine later_of ?_
  simp only [s_seqL, s_tryAs]
  refine do_ok B hc od (fun k' S' e B' f => ?_) (fun e => ?_) (fun e => ?_)
  · rw [e] at h
    dsimp only at h ⊢
    refine later_of ?_
    simp
    exact .now (h S' B' f)
  · rw [e] at h
    dsimp only at h ⊢
    refine ⟨by decide, ?_⟩
    rw [if_pos (by decide)]
    intro ad
    simp [-Bool.exists_bool, -s_seq, s_seqL]
    have e1 : subB "NoDeed" "NoDeed" = true := by decide
    have e2 : subB "NoDeed" "NoStand" = false := by decide
    rw [e1, e2]
    refine later_of ?_
    simp [-Bool.exists_bool, -s_seq, s_seqL]
    refine later_of ?_
    simp [-Bool.exists_bool, -s_seq, s_seqL]
    refine ⟨by decide, by decide, ?_⟩
    rw [if_pos (by decide)]
    refine f_idx0 ?_
    simp [-Bool.exists_bool, L2.atI, L2.ixN, ES.unset]
    refine later_of ?_
    simp
    exact .now (h S B .refl)
  · rw [e] at h
    dsimp only at h ⊢
    refine ⟨by decide, ?_⟩
    rw [if_pos (by decide)]
    intro ad
    simp [-Bool.exists_bool, -s_seq, s_seqL]
    have e1 : subB "NoStand" "NoDeed" = false := by decide
    have e2 : subB "NoStand" "NoStand" = true := by decide
    rw [e1, e2]
    refine later_of ?_
    simp [-Bool.exists_bool, -s_seq, s_seqL]
    refine later_of ?_
    simp [-Bool.exists_bool, -s_seq, s_seqL]
    refine ⟨by decide, by decide, ?_⟩
    rw [if_pos (by decide)]
    refine f_idx1 ?_
    simp [-Bool.exists_bool, L2.atI, L2.ixN, ES.unset]
    refine later_of ?_
    simp
    exact .now (h S B .refl)
end
end L98
end

section
set_option Elab.async false
set_option linter.all false
set_option maxRecDepth 100000
set_option autoImplicit false
namespace L98
open SB PySem PySem.Spec L2
section
variable {S : Sto} {R : Pd} {RE : Px} {a pa c s : Addr} {ds : List Addr} {ps : List Pt} {k : Bk}
theorem pot_at {n d : Int} (d0 : 0 ≤ d) (d3 : d < 3) : ∃ z : Int, L2.atI [D.int n, D.int (-1), D.int 7] d = some (.int z) := by
  have : d = 0 ∨ d = 1 ∨ d = 2 := by omega
  rcases this with rfl | rfl | rfl <;> exact ⟨_, rfl⟩
theorem who_at {x y d : Int} (d0 : 0 ≤ d) (d3 : d < 2) : ∃ z : Int, L2.atI [D.int x, D.int y] d = some (.int z) := by
  have : d = 0 ∨ d = 1 := by omega
  rcases this with rfl | rfl <;> exact ⟨_, rfl⟩
theorem show_at {d : Int} (d0 : 0 ≤ d) (d3 : d < 8) : ∃ z : Int, L2.atI [D.int 3, D.int 8, D.int 17, D.int 25, D.int 41, D.int 59, D.int 60, D.int (-1)] d = some (.int z) := by
  have : d = 0 ∨ d = 1 ∨ d = 2 ∨ d = 3 ∨ d = 4 ∨ d = 5 ∨ d = 6 ∨ d = 7 := by omega
  rcases this with rfl | rfl | rfl | rfl | rfl | rfl | rfl | rfl <;> exact ⟨_, rfl⟩
theorem ag_at {pot who d : Int} {one st : Stn} (d0 : 0 ≤ d) (d3 : d < 12) (o1 : StnOk one) (o2 : StnOk st) : ∃ ag : Ag, AgOk pot who ag ∧ L2.atI ((List.replicate 8 [agD pot (1 - who) one]).flatten ++ [D.non, agD pot who one, agD pot (1 - who) st, .lst [.int one.n, shD one, tsD one]]) d = some ag.dat := by
  have : d = 0 ∨ d = 1 ∨ d = 2 ∨ d = 3 ∨ d = 4 ∨ d = 5 ∨ d = 6 ∨ d = 7 ∨ d = 8 ∨ d = 9 ∨ d = 10 ∨ d = 11 := by omega
  have f : AgOk pot who (.ag pot (1 - who) one) := ⟨rfl, .inr rfl, o1⟩
  rcases this with rfl | rfl | rfl | rfl | rfl | rfl | rfl | rfl | rfl | rfl | rfl | rfl
  · exact ⟨_, f, rfl⟩
  · exact ⟨_, f, rfl⟩
  · exact ⟨_, f, rfl⟩
  · exact ⟨_, f, rfl⟩
  · exact ⟨_, f, rfl⟩
  · exact ⟨_, f, rfl⟩
  · exact ⟨_, f, rfl⟩
  · exact ⟨_, f, rfl⟩
  · exact ⟨.non, trivial, rfl⟩
  · exact ⟨.ag pot who one, ⟨rfl, .inl rfl, o1⟩, rfl⟩
  · exact ⟨.ag pot (1 - who) st, ⟨rfl, .inr rfl, o2⟩, rfl⟩
  · exact ⟨.lst one, o1, rfl⟩
theorem th_at {pot z n d : Int} (d0 : 0 ≤ d) (d3 : d < 9) (oz : sOk z) (n0 : 0 ≤ n) (n1 : n ≤ 1000) : ∃ th : Th, ThOk pot th ∧ L2.atI ((List.replicate 6 [skD pot z n]).flatten ++ [skD pot z (n + 1), skD ((pot + 1) % 3) z n, D.non]) d = some th.dat := by
  have : d = 0 ∨ d = 1 ∨ d = 2 ∨ d = 3 ∨ d = 4 ∨ d = 5 ∨ d = 6 ∨ d = 7 ∨ d = 8 := by omega
  have f : ThOk pot (.sk pot z n) := ⟨.inl rfl, oz, n0, by omega⟩
  rcases this with rfl | rfl | rfl | rfl | rfl | rfl | rfl | rfl | rfl
  · exact ⟨_, f, rfl⟩
  · exact ⟨_, f, rfl⟩
  · exact ⟨_, f, rfl⟩
  · exact ⟨_, f, rfl⟩
  · exact ⟨_, f, rfl⟩
  · exact ⟨_, f, rfl⟩
  · exact ⟨.sk pot z (n + 1), ⟨.inl rfl, oz, by omega, by omega⟩, rfl⟩
  · exact ⟨.sk ((pot + 1) % 3) z n, ⟨.inr ⟨by omega, by omega⟩, oz, n0, by omega⟩, rfl⟩
  · exact ⟨.non, trivial, rfl⟩
theorem Tst.out {wl : Addr} (T : Tst S a pa c s ds ps k) (l3 : k.sh.length = ps.length) (h : S wl = none) : ∀ x ∈ a :: pa :: c :: s :: ds, x ∉ [wl] := fun x hx => by
  simp only [List.mem_cons, List.not_mem_nil, or_false] at hx ⊢
  rcases hx with rfl | rfl | rfl | rfl | hx
  · exact ne_of_S T.ha h
  · exact ne_of_S T.hp h
  · exact ne_of_S T.hc h
  · exact ne_of_S T.hs h
  · obtain ⟨i, hi⟩ := List.mem_iff_getElem?.mp hx
    have hl : i < k.sh.length := by rw [l3, ← T.l1]; exact lt_of hi
    exact ne_of_S (T.hd i x _ hi (List.getElem?_eq_getElem hl)) h
def layB : WpS := (wSeq (wSet 9 (wCall φ__law_deal [] (wCons (wVar 0) (wCons (wCall φ__law_draw [] (wCons (wVar 0) (wCons (wC (.int 4)) wNil))) (wCons (wOp (fAdd false) (wVar 7) (wOp fDiv (wCall φ__law_draw [] (wCons (wVar 0) (wCons (wC (.int 9)) wNil))) (wC (.int 8)))) wNil)))))
  (wSeq (wIf (wB (wOp (fEq false) (wCall φ__law_draw [] (wCons (wVar 0) (wCons (wC (.int 6)) wNil))) (wC (.int 0)))) (wSet 9 (wTup (wCons (wC (.int 0)) (wCons (wTup (wCons (wOp fIx (wOp fIx (wOp fIx (wVar 1) (wC (.str ("pots" : Str)))) (wVar 6)) (wC (.int 2))) (wCons (wOp fIx (wOp fIx (wOp fIx (wVar 1) (wC (.str ("pots" : Str)))) (wVar 6)) (wC (.int 3))) wNil))) (wCons (wTup wNil) wNil))))) wNx)
  (wSeq (wSet 10 (wLst false (wCons (wC .non) (wCons (wTup (wCons (wC (.str ("agree" : Str))) (wCons (wVar 4) (wCons (wVar 5) (wCons (wVar 9) wNil))))) (wCons (wTup (wCons (wC (.str ("agree" : Str))) (wCons (wVar 4) (wCons (wOp fSub (wC (.int 1)) (wVar 5)) (wCons (wCall φ__law_deal [] (wCons (wVar 0) (wCons (wC (.int 1)) (wCons (wVar 7) wNil)))) wNil))))) (wCons (wFun (fList false) (wCons (wVar 9) wNil)) wNil))))))
  (wSeq (wSet 11 (wOp fIx (wOp (fAdd false) (wOp (fMul false) (wLst false (wCons (wTup (wCons (wC (.str ("agree" : Str))) (wCons (wVar 4) (wCons (wOp fSub (wC (.int 1)) (wVar 5)) (wCons (wVar 9) wNil))))) wNil)) (wC (.int 8))) (wVar 10)) (wCall φ__law_draw [] (wCons (wVar 0) (wCons (wC (.int 12)) wNil)))))
  (wRet (wTup (wCons (wC (.str ("lay" : Str))) (wCons (wVar 4) (wCons (wVar 5) (wCons (wVar 9) (wCons (wVar 11) wNil)))))))))))
theorem lay_ok {wl : Addr} {way pot who cc : Int} {i : Nat} {p : Pt} {x8 : Option D} {x3 : Option D} {E : ES} {XE : PxE} (T : ∀ S', Fm [wl] S S' → Tst S' a pa c s ds ps k) (hp : ps[i]? = some p) (op : PtOk p)
    (w : Wel S wl cc) (hcc : cc ≤ 1000) (h : ∀ d S', DdOk d → Fm [wl] S S' → E.rt (ddD d) S') :
    layB [some (.ref wl), some (.ref a), some (.int way), x3, some (.int pot), some (.int who), some (.int (i : Int)), some (.int (p.o + p.q)), x8, none, none, none, none] S E XE := by
  have o0 := op.o0
  have o1 := op.o1
  have q0 := op.q0
  have q1 := op.q1
  unfold layB
  simp only [s_seqL]
  simp [-Bool.exists_bool, -s_seq]
  refine p_draw w (by omega) (by decide) (by decide) fun d1 S1 d10 d11 f1 w1 => ?_
  refine p_draw w1 (by omega) (by decide) (by decide) fun d2 S2 d20 d21 f2 w2 => ?_
  simp only [f_div, f_addI]
  refine ⟨⟨by decide, by decide +kernel⟩, ?_⟩
  refine p_deal w2 (by omega) d10 (by omega) (by omega) (by omega) fun one S3 o1s on f3 w3 => ?_
  have f13 := (f1.trans f2).trans f3
  refine later_of ?_
  simp [-Bool.exists_bool, -s_seq, s_seqL]
  refine p_draw w3 (by omega) (by decide) (by decide) fun d3 S4 d30 d31 f4 w4 => ?_
  have f14 := f13.trans f4
  have T4 := T S4 f14
  have tail : ∀ one : Stn, StnOk one → later (wSeq (wSet 10 (wLst false (wCons (wC .non) (wCons (wTup (wCons (wC (.str ("agree" : Str))) (wCons (wVar 4) (wCons (wVar 5) (wCons (wVar 9) wNil))))) (wCons (wTup (wCons (wC (.str ("agree" : Str))) (wCons (wVar 4) (wCons (wOp fSub (wC (.int 1)) (wVar 5)) (wCons (wCall φ__law_deal [] (wCons (wVar 0) (wCons (wC (.int 1)) (wCons (wVar 7) wNil)))) wNil))))) (wCons (wFun (fList false) (wCons (wVar 9) wNil)) wNil))))))
  (wSeq (wSet 11 (wOp fIx (wOp (fAdd false) (wOp (fMul false) (wLst false (wCons (wTup (wCons (wC (.str ("agree" : Str))) (wCons (wVar 4) (wCons (wOp fSub (wC (.int 1)) (wVar 5)) (wCons (wVar 9) wNil))))) wNil)) (wC (.int 8))) (wVar 10)) (wCall φ__law_draw [] (wCons (wVar 0) (wCons (wC (.int 12)) wNil)))))
  (wRet (wTup (wCons (wC (.str ("lay" : Str))) (wCons (wVar 4) (wCons (wVar 5) (wCons (wVar 9) (wCons (wVar 11) wNil)))))))))
      [some (.ref wl), some (.ref a), some (.int way), x3, some (.int pot), some (.int who), some (.int (i : Int)), some (.int (p.o + p.q)), x8, some (stnD one), none, none, none] S4 E XE := fun one os => by
    refine later_of ?_
    simp [-Bool.exists_bool, -s_seq, s_seqL]
    refine p_deal w4 (by omega) (by decide) (by decide) (by omega) (by omega) fun st S5 ost sn f5 w5 => ?_
    have el : ∀ (S : Sto) (R : Pd), fList false [stnD one] S R = R (.lst [.int one.n, shD one, tsD one]) S := fun S R => by
      show mkL false [.int one.n, shD one, tsD one] S R = _
      rw [f_mkL]
      simp
    rw [el]
    refine later_of ?_
    simp only [s_seqL]
    have eq1 : ∀ s st, D.tup [.str "agree", .int pot, .int s, stnD st] = agD pot s st := fun _ _ => rfl
    have hr : (List.replicate (Int.toNat 8) [agD pot (1 - who) one]).flatten.length = 8 := by simp
    have em : ∀ (S : Sto) (R : Pd), fMul false (.lst [agD pot (1 - who) one]) (.int 8) S R = R (.lst (List.replicate 8 [agD pot (1 - who) one]).flatten) S := fun S R => by
      show (∃ l, lstOf S (.lst [agD pot (1 - who) one]) = some l ∧ (-(2 ^ 63) ≤ (8 : Int) ∧ (8 : Int) < 2 ^ 63) ∧ mkL false (List.replicate (Int.toNat 8) l).flatten S R) = _
      simp
    simp [-Bool.exists_bool, -s_seq, -f_mul, eq1, em]
    refine ⟨sz1000 (by simp), ?_⟩
    refine p_draw w5 (by omega) (by decide) (by decide) fun d6 S6 d60 d61 f6 w6 => ?_
    obtain ⟨ag, oag, hag⟩ := ag_at (pot := pot) (who := who) (d := d6) d60 d61 os ost
    have hag2 : L2.atI ((List.replicate 8 [agD pot (1 - who) one]).flatten ++ [D.non, agD pot who one, agD pot (1 - who) st, .lst [.int one.n, shD one, tsD one]]) d6 = some ag.dat := hag
    simp only [List.append_assoc, List.flatten_replicate_singleton] at hag2 ⊢
    rw [f_ixL]
    refine ⟨_, by simpa using hag2, later_of ?_⟩
    simp
    exact h (.lay pot who one ag) S6 ⟨os, oag⟩ ((f14.trans f5).trans f6)
  by_cases c1 : d3 = 0
  · simp [-Bool.exists_bool, -s_seq, s_seqL, c1, x_pots T4, ixR_of T4.hp (get_map (g := potD) hp)]
    exact tail ⟨0, p.o, p.q, []⟩ ⟨Int.le_refl _, by show (0 : Int) ≤ 1000; decide, o0, by show p.o ≤ 1000; omega, q0, by show p.q ≤ 1000; omega, Nat.zero_le _, (fun t ht => by cases ht), List.nodup_nil⟩
  · simp [-Bool.exists_bool, -s_seq, s_seqL, c1]
    exact tail one o1s
def strikeB : WpS := (wSeq (wSet 12 (wTup (wCons (wC (.str ("strike" : Str))) (wCons (wVar 4) (wCons (wOp fIx (wVar 8) (wC (.int 1))) (wCons (wOp fIx (wOp fIx (wVar 8) (wC (.int 2))) (wC (.int 0))) wNil))))))
  (wSeq (wSet 10 (wLst false (wCons (wTup (wCons (wC (.str ("strike" : Str))) (wCons (wVar 4) (wCons (wOp fIx (wVar 8) (wC (.int 1))) (wCons (wOp (fAdd false) (wOp fIx (wOp fIx (wVar 8) (wC (.int 2))) (wC (.int 0))) (wC (.int 1))) wNil))))) (wCons (wTup (wCons (wC (.str ("strike" : Str))) (wCons (wOp fMod (wOp (fAdd false) (wVar 4) (wC (.int 1))) (wC (.int 3))) (wCons (wOp fIx (wVar 8) (wC (.int 1))) (wCons (wOp fIx (wOp fIx (wVar 8) (wC (.int 2))) (wC (.int 0))) wNil))))) (wCons (wC .non) wNil)))))
  (wRet (wTup (wCons (wC (.str ("strike" : Str))) (wCons (wVar 4) (wCons (wOp fIx (wLst false (wCons (wOp fSub (wC (.int 1)) (wOp fIx (wVar 8) (wC (.int 1)))) (wCons (wVar 5) wNil))) (wOp fDiv (wCall φ__law_draw [] (wCons (wVar 0) (wCons (wC (.int 4)) wNil))) (wC (.int 3)))) (wCons (wOp fIx (wOp (fAdd false) (wOp (fMul false) (wLst false (wCons (wVar 12) wNil)) (wC (.int 6))) (wVar 10)) (wCall φ__law_draw [] (wCons (wVar 0) (wCons (wC (.int 9)) wNil)))) wNil))))))))
theorem strike_ok {wl : Addr} {way pot who cc : Int} {z dd : Int} {st : Stn} {x3 x6 x7 : Option D} {E : ES} {XE : PxE} (oz : sOk z) (os : StnOk st)
    (w : Wel S wl cc) (hcc : cc ≤ 1000) (h : ∀ d S', DdOk d → Fm [wl] S S' → E.rt (ddD d) S') :
    strikeB [some (.ref wl), some (.ref a), some (.int way), x3, some (.int pot), some (.int who), x6, x7, some (clD (.laid z st dd)), none, none, none, none] S E XE := by
  have n0 := os.n0
  have n1 := os.n1
  unfold strikeB
  have i1 : ∀ (S : Sto) (R : Pd), fIx (clD (.laid z st dd)) (.int 1) S R = R (.int z) S := fun S R => by simp [clD, L2.atI, L2.ixN]
  have i2 : ∀ (S : Sto) (R : Pd), fIx (clD (.laid z st dd)) (.int 2) S R = R (stnD st) S := fun S R => by simp [clD, L2.atI, L2.ixN]
  have ek : ∀ q n : Int, D.tup [.str "strike", .int q, .int z, .int n] = skD q z n := fun _ _ => rfl
  simp only [s_seqL]
  simp [-Bool.exists_bool, -s_seq, i1, i2, ek]
  refine later_of ?_
  simp [-Bool.exists_bool, -s_seq, s_seqL, i1, i2, ek]
  refine later_of ?_
  have em : ∀ (S : Sto) (R : Pd), fMul false (.lst [skD pot z st.n]) (.int 6) S R = R (.lst (List.replicate 6 [skD pot z st.n]).flatten) S := fun S R => by
    show (∃ l, lstOf S (.lst [skD pot z st.n]) = some l ∧ (-(2 ^ 63) ≤ (6 : Int) ∧ (6 : Int) < 2 ^ 63) ∧ mkL false (List.replicate (Int.toNat 6) l).flatten S R) = _
    simp
  simp [-Bool.exists_bool, -s_seq, -f_mul, -f_ixL, i1, i2, ek]
  refine p_draw w (by omega) (by decide) (by decide) fun d1 S1 d10 d11 f1 w1 => ?_
  simp only [f_div]
  refine ⟨⟨by decide, by decide +kernel⟩, ?_⟩
  obtain ⟨y, hy⟩ := who_at (x := 1 - z) (y := who) (d := d1 / 3) (by omega) (by omega)
  rw [f_ixL]
  refine ⟨_, hy, ?_⟩
  simp only [em, f_addL, f_mkL]
  refine ⟨sz1000 (by simp), ?_⟩
  refine p_draw w1 (by omega) (by decide) (by decide) fun d2 S2 d20 d21 f2 w2 => ?_
  obtain ⟨th, oth, hth⟩ := th_at (pot := pot) (z := z) (n := st.n) (d := d2) d20 d21 oz n0 n1
  rw [f_ixL]
  exact ⟨_, hth, h (.strike pot y th) S2 oth (f1.trans f2)⟩
def deedTail : WpS := (wSeq (wIf (wB (wOp (fCmp cmpLt) (wVar 2) (wC (.int 3)))) (wRet (wTup (wCons (wC (.str ("day" : Str))) wNil))) wNx)
  (wSeq (wIf (wB (wOp (fCmp cmpLt) (wVar 2) (wC (.int 5)))) (wRet (wTup (wCons (wC (.str ("show" : Str))) (wCons (wVar 4) (wCons (wOp fIx (wLst false (wCons (wC (.int 3)) (wCons (wC (.int 8)) (wCons (wC (.int 17)) (wCons (wC (.int 25)) (wCons (wC (.int 41)) (wCons (wC (.int 59)) (wCons (wC (.int 60)) (wCons (wUn fNeg (wC (.int 1))) wNil))))))))) (wOp fDiv (wCall φ__law_draw [] (wCons (wVar 0) (wCons (wC (.int 50)) wNil))) (wC (.int 7)))) wNil))))) wNx)
  (wSeq (wSet 6 (wOp fMod (wVar 4) (wVar 3)))
  (wSeq (wSet 7 (wOp (fAdd false) (wOp fIx (wOp fIx (wOp fIx (wVar 1) (wC (.str ("pots" : Str)))) (wVar 6)) (wC (.int 2))) (wOp fIx (wOp fIx (wOp fIx (wVar 1) (wC (.str ("pots" : Str)))) (wVar 6)) (wC (.int 3)))))
  (wSeq (wSet 8 (wOp fIx (wOp fIx (wVar 1) (wC (.str ("claims" : Str)))) (wVar 6)))
  (wSeq (wIf (wB (wOr (wOp (fCmp cmpLt) (wVar 2) (wC (.int 9))) (wOp (fEq true) (wOp fIx (wVar 8) (wC (.int 0))) (wC (.str ("laid" : Str)))))) (wSeq (wSet 9 (wCall φ__law_deal [] (wCons (wVar 0) (wCons (wCall φ__law_draw [] (wCons (wVar 0) (wCons (wC (.int 4)) wNil))) (wCons (wOp (fAdd false) (wVar 7) (wOp fDiv (wCall φ__law_draw [] (wCons (wVar 0) (wCons (wC (.int 9)) wNil))) (wC (.int 8)))) wNil)))))
  (wSeq (wIf (wB (wOp (fEq false) (wCall φ__law_draw [] (wCons (wVar 0) (wCons (wC (.int 6)) wNil))) (wC (.int 0)))) (wSet 9 (wTup (wCons (wC (.int 0)) (wCons (wTup (wCons (wOp fIx (wOp fIx (wOp fIx (wVar 1) (wC (.str ("pots" : Str)))) (wVar 6)) (wC (.int 2))) (wCons (wOp fIx (wOp fIx (wOp fIx (wVar 1) (wC (.str ("pots" : Str)))) (wVar 6)) (wC (.int 3))) wNil))) (wCons (wTup wNil) wNil))))) wNx)
  (wSeq (wSet 10 (wLst false (wCons (wC .non) (wCons (wTup (wCons (wC (.str ("agree" : Str))) (wCons (wVar 4) (wCons (wVar 5) (wCons (wVar 9) wNil))))) (wCons (wTup (wCons (wC (.str ("agree" : Str))) (wCons (wVar 4) (wCons (wOp fSub (wC (.int 1)) (wVar 5)) (wCons (wCall φ__law_deal [] (wCons (wVar 0) (wCons (wC (.int 1)) (wCons (wVar 7) wNil)))) wNil))))) (wCons (wFun (fList false) (wCons (wVar 9) wNil)) wNil))))))
  (wSeq (wSet 11 (wOp fIx (wOp (fAdd false) (wOp (fMul false) (wLst false (wCons (wTup (wCons (wC (.str ("agree" : Str))) (wCons (wVar 4) (wCons (wOp fSub (wC (.int 1)) (wVar 5)) (wCons (wVar 9) wNil))))) wNil)) (wC (.int 8))) (wVar 10)) (wCall φ__law_draw [] (wCons (wVar 0) (wCons (wC (.int 12)) wNil)))))
  (wRet (wTup (wCons (wC (.str ("lay" : Str))) (wCons (wVar 4) (wCons (wVar 5) (wCons (wVar 9) (wCons (wVar 11) wNil))))))))))) wNx)
  (wSeq (wSet 12 (wTup (wCons (wC (.str ("strike" : Str))) (wCons (wVar 4) (wCons (wOp fIx (wVar 8) (wC (.int 1))) (wCons (wOp fIx (wOp fIx (wVar 8) (wC (.int 2))) (wC (.int 0))) wNil))))))
  (wSeq (wSet 10 (wLst false (wCons (wTup (wCons (wC (.str ("strike" : Str))) (wCons (wVar 4) (wCons (wOp fIx (wVar 8) (wC (.int 1))) (wCons (wOp (fAdd false) (wOp fIx (wOp fIx (wVar 8) (wC (.int 2))) (wC (.int 0))) (wC (.int 1))) wNil))))) (wCons (wTup (wCons (wC (.str ("strike" : Str))) (wCons (wOp fMod (wOp (fAdd false) (wVar 4) (wC (.int 1))) (wC (.int 3))) (wCons (wOp fIx (wVar 8) (wC (.int 1))) (wCons (wOp fIx (wOp fIx (wVar 8) (wC (.int 2))) (wC (.int 0))) wNil))))) (wCons (wC .non) wNil)))))
  (wRet (wTup (wCons (wC (.str ("strike" : Str))) (wCons (wVar 4) (wCons (wOp fIx (wLst false (wCons (wOp fSub (wC (.int 1)) (wOp fIx (wVar 8) (wC (.int 1)))) (wCons (wVar 5) wNil))) (wOp fDiv (wCall φ__law_draw [] (wCons (wVar 0) (wCons (wC (.int 4)) wNil))) (wC (.int 3)))) (wCons (wOp fIx (wOp (fAdd false) (wOp (fMul false) (wLst false (wCons (wVar 12) wNil)) (wC (.int 6))) (wVar 10)) (wCall φ__law_draw [] (wCons (wVar 0) (wCons (wC (.int 9)) wNil)))) wNil))))))))))))))
theorem deed_tail {wl : Addr} {way pot who cc : Int} {E : ES} {XE : PxE} (T : ∀ S', Fm [wl] S S' → Tst S' a pa c s ds ps k) (l4 : 1 ≤ ps.length ∧ ps.length ≤ 3) (ok : ∀ p ∈ ps, PtOk p) (cok : ∀ x ∈ k.cl, ClOk x) (l2 : k.cl.length = ps.length)
    (w : Wel S wl cc) (hcc : cc ≤ 1000) (h : ∀ d S', DdOk d → Fm [wl] S S' → E.rt (ddD d) S') :
    deedTail [some (.ref wl), some (.ref a), some (.int way), some (.int (ps.length : Int)), some (.int pot), some (.int who), none, none, none, none, none, none, none] S E XE := by
  have T0 := T S .refl
  unfold deedTail
  simp only [s_seqL]
  simp [-Bool.exists_bool, -s_seq, cmpLt]
  by_cases c1 : way < 3
  · rw [if_pos c1]
    exact h .day S trivial .refl
  rw [if_neg c1]
  refine later_of ?_
  simp [-Bool.exists_bool, -s_seq, s_seqL, cmpLt]
  by_cases c2 : way < 5
  · rw [if_pos c2]
    refine p_draw w (by omega) (by decide) (by decide) fun d1 S1 d10 d11 f1 w1 => ?_
    obtain ⟨z, hz⟩ := show_at (d := d1 / 7) (by omega) (by omega)
    simp only [f_div]
    refine ⟨⟨by decide, by decide +kernel⟩, ?_⟩
    rw [f_ixL]
    exact ⟨_, hz, h (.show pot z) S1 trivial f1⟩
  rw [if_neg c2]
  refine later_of ?_
  simp [-Bool.exists_bool, -s_seq, s_seqL]
  refine ⟨by omega, later_of ?_⟩
  have h0 := Int.emod_nonneg pot (b := (ps.length : Int)) (by omega)
  have h1 := Int.emod_lt_of_pos pot (b := (ps.length : Int)) (by omega)
  obtain ⟨i, hi⟩ := Int.eq_ofNat_of_zero_le h0
  rw [hi] at h1 ⊢
  have hi' : i < ps.length := by omega
  have hp := get_ex (⟨0, 0, 0, 0, 0⟩ : Pt) hi'
  have hx := get_ex Clm.held (show i < k.cl.length by rw [l2]; exact hi')
  generalize ps.getD i ⟨0, 0, 0, 0, 0⟩ = p at hp
  generalize k.cl.getD i .held = x at hx
  have op := ok p (List.mem_of_getElem? hp)
  have ox := cok x (List.mem_of_getElem? hx)
  simp [-Bool.exists_bool, -s_seq, s_seqL, x_pots T0, ixR_of T0.hp (get_map (g := potD) hp)]
  refine later_of ?_
  simp [-Bool.exists_bool, -s_seq, s_seqL, x_claims T0, ixR_of T0.hc (get_map (g := clD) hx)]
  refine later_of ?_
  simp only [s_seqL]
  refine (show wIf _ layB wNx _ _ _ _ from ?_)
  simp [-Bool.exists_bool, -s_seq, cmpLt]
  by_cases c3 : way < 9
  · simp [-Bool.exists_bool, -s_seq, c3]
    exact lay_ok T hp op w hcc h
  · cases x with
    | held =>
      simp [-Bool.exists_bool, -s_seq, c3, clD, L2.atI, L2.ixN]
      exact lay_ok T hp op w hcc h
    | taken z =>
      simp [-Bool.exists_bool, -s_seq, c3, clD, L2.atI, L2.ixN]
      exact lay_ok T hp op w hcc h
    | laid z st dd =>
      have i0 : ∀ (S : Sto) (R : Pd), fIx (clD (.laid z st dd)) (.int 0) S R = R (.str "laid") S := fun S R => by simp [clD, L2.atI, L2.ixN]
      simp [-Bool.exists_bool, -s_seq, c3, i0]
      exact later_of (strike_ok ox.1 ox.2 w hcc h)
end
end L98
end

section
set_option Elab.async false
set_option linter.all false
set_option maxRecDepth 100000
set_option autoImplicit false
namespace L98
open SB PySem PySem.Spec L2
section
variable {S : Sto} {R : Pd} {RE : Px} {a pa c s : Addr} {ds : List Addr} {ps : List Pt} {k : Bk}
theorem p_deed_of {wl : Addr} {cc : Int} (T : ∀ S', Fm [wl] S S' → Tst S' a pa c s ds ps k) (l4 : 1 ≤ ps.length ∧ ps.length ≤ 3) (ok : ∀ p ∈ ps, PtOk p) (cok : ∀ x ∈ k.cl, ClOk x) (l2 : k.cl.length = ps.length)
    (w : Wel S wl cc) (hcc : cc ≤ 900) (h : ∀ d S', DdOk d → Fm [wl] S S' → R (ddD d) S') : φ__law_deed_of [.ref wl, .ref a] S R RE := by
  refine ⟨rfl, ?_⟩
  simp only [w__law_deed_of, startE, N__law_deed_of, s_seqL]
  simp [-Bool.exists_bool, -s_seq]
  refine p_draw w (by omega) (by decide) (by decide) fun way S1 y0 y1 f1 w1 => later_of ?_
  have T1 := T S1 f1
  simp [-Bool.exists_bool, -s_seq, s_seqL, x_pots T1, f_lenR T1.hp]
  refine later_of ?_
  simp [-Bool.exists_bool, -s_seq, s_seqL]
  refine p_draw w1 (by omega) (by omega) (by omega) fun pot S2 p0 p1 f2 w2 => later_of ?_
  simp [-Bool.exists_bool, -s_seq, s_seqL]
  refine p_draw w2 (by omega) (by decide) (by decide) fun who S3 v0 v1 f3 w3 => later_of ?_
  have f13 := (f1.trans f2).trans f3
  simp [-Bool.exists_bool, -s_seq, s_seqL]
  refine p_draw w3 (by omega) (by decide) (by decide) fun d4 S4 d40 d41 f4 w4 => ?_
  have tail : ∀ (pot who cc : Int) (S5 : Sto), Fm [wl] S S5 → Wel S5 wl cc → cc ≤ 1000 → later deedTail [some (.ref wl), some (.ref a), some (.int way), some (.int (ps.length : Int)), some (.int pot), some (.int who), none, none, none, none, none, none, none] S5 ⟨fun _ S' => Rz R .non S', Rz R, fun _ _ => False, fun _ _ => False⟩ (fun c _ S' => RE c S') := fun pot who cc S5 f5 w5 hcc => by
    refine later_of ?_
    exact deed_tail (fun S' f' => T S' (f5.trans f')) l4 ok cok l2 w5 hcc fun d S' od f' => .now (h d S' od (f5.trans f'))
  by_cases c1 : d4 = 0
  · simp [-Bool.exists_bool, -s_seq, s_seqL, c1, fNeg]
    refine p_draw w4 (by omega) (by decide) (by decide) fun d5 S5 d50 d51 f5 w5 => ?_
    obtain ⟨z, hz⟩ := pot_at (n := (ps.length : Int)) d50 d51
    rw [f_ixL]
    refine ⟨_, hz, ?_⟩
    exact tail z who _ S5 ((f13.trans f4).trans f5) w5 (by omega)
  · simp [-Bool.exists_bool, -s_seq, s_seqL, c1, cmpGt]
    by_cases c2 : 4 < way
    · simp [-Bool.exists_bool, -s_seq, s_seqL, c2]
      refine p_draw w4 (by omega) (by decide) (by decide) fun d5 S5 d50 d51 f5 w5 => ?_
      by_cases c3 : d5 = 0
      · simp [-Bool.exists_bool, -s_seq, s_seqL, c3, fNeg]
        refine p_draw w5 (by omega) (by decide) (by decide) fun d6 S6 d60 d61 f6 w6 => ?_
        obtain ⟨z, hz⟩ := who_at (x := 2) (y := -1) d60 d61
        rw [f_ixL]
        refine ⟨_, hz, ?_⟩
        exact tail pot z _ S6 (((f13.trans f4).trans f5).trans f6) w6 (by omega)
      · simp [-Bool.exists_bool, -s_seq, s_seqL, c3]
        exact tail pot who _ S5 ((f13.trans f4).trans f5) w5 (by omega)
    · simp [-Bool.exists_bool, -s_seq, s_seqL, c2]
      exact tail pot who _ S4 (f13.trans f4) w4 (by omega)
/-! making the books -/
theorem p_is_pot {p : Pt} (op : PtOk p) (h : R (.bl true) S) : φ_is_pot [potD p] S R RE := by
  obtain ⟨l0, l3, r0, r3, ne, o0, o1, q0, q1, w0, w1⟩ := op
  have bd : ∀ ς : En, Tg.bind (.tup (.cons (.nm 1) (.cons (.nm 2) (.cons (.nm 3) (.cons (.nm 4) (.cons (.nm 5) .nil)))))) (potD p) ς = some (((((ς.set 1 (some (.int p.l))).set 2 (some (.int p.r))).set 3 (some (.int p.o))).set 4 (some (.int p.q))).set 5 (some (.int p.w))) := fun ς => rfl
  have ty : ∀ S : Sto, tyD S (potD p) = some "tuple" := fun _ => rfl
  have ln : ∀ (S : Sto) (R : Pd), fLen [potD p] S R = R (.int 5) S := fun _ _ => rfl
  refine ⟨rfl, ?_⟩
  simp [-Bool.exists_bool, w_is_pot, startE, N_is_pot, tySub, ty, ln, bd]
  refine p_in l0 l3 ?_
  simp [-Bool.exists_bool]
  refine p_in r0 r3 ?_
  simp [-Bool.exists_bool, ne]
  refine p_in o0 (by omega) ?_
  simp [-Bool.exists_bool]
  refine p_in q0 (by omega) ?_
  simp [-Bool.exists_bool]
  refine p_in (by omega) (by omega) ?_
  have : decide (p.w > 0) = true := by simp; omega
  simp [-Bool.exists_bool, cmpGt]
  refine .now ?_
  rw [decide_eq_true (by omega : 0 < p.w)]
  exact h
end
end L98
end

section
set_option Elab.async false
set_option linter.all false
set_option maxRecDepth 100000
set_option autoImplicit false
namespace L98
open SB PySem PySem.Spec L2
section
variable {ς : En} {S : Sto} {R : Pd} {RE : Px}
/-- [{} for ..], one's own -/
theorem lc_dicts {α : Type} {gd : Option (Addr × SO)} {g : α → D} {i : Nat} {p : Addr} {xs : List α} {K : List D → Sto → Prop} (hp : S p = none) (hl : xs.length ≤ 1000) (hgd : ∀ S', Fm [] S S' → grd gd S')
    (h : ∀ (ds : List Addr) (S' : Sto), ds.length = xs.length → S' p = some (.lst (ds.map .ref)) → Fm [] S S' → (∀ d ∈ ds, S d = none ∧ S' d = some (.dct [])) → (p :: ds).Nodup → K (ds.map .ref) S') :
    lcL gd (.nm i) wYes (wDict0 true) p ς (xs.map g) [] (S.set p (.lst [])) K := by
  refine lc_eff (fun done acc S' => S' p = some (.lst acc) ∧ Fm [] S S' ∧ ∃ ds : List Addr, acc = ds.map .ref ∧ ds.length = done.length ∧ (∀ d ∈ ds, S d = none ∧ S' d = some (.dct [])) ∧ (p :: ds).Nodup) hl
    (fun _ _ _ I => hgd _ I.2.1) (fun _ _ _ I => I.1) (fun done x rest acc S' e I => ⟨_, rfl, fun R hR => ?_⟩) ⟨by simp, .new hp, [], rfl, rfl, (fun d hd => by cases hd), by simp⟩ (fun acc S' I => ?_)
  · obtain ⟨I1, f, ds, rfl, hl, hd, nd⟩ := I
    refine ⟨sz_0, fun q hq => ?_⟩
    have hpq : p ≠ q := ne_of_S I1 hq
    have q0 : S q = none := f.none (by simp) hq
    refine hR _ _ (by rw [Sto.set_ne hpq]; exact I1) ⟨by simp, ?_, ds ++ [q], by simp, by simp [hl], fun d hd' => ?_, ?_⟩
    · intro b hb n
      have n1 : b ≠ p := fun z => n (by rw [z]; exact hp)
      have n2 : b ≠ q := fun z => n (by rw [z]; exact q0)
      rw [Sto.set_ne n1, Sto.set_ne n2]
      exact f b hb n
    · rcases List.mem_append.mp hd' with z | z
      · obtain ⟨a1, a2⟩ := hd d z
        have n1 : d ≠ p := fun y => by rw [List.nodup_cons] at nd; exact nd.1 (y ▸ z)
        have n2 : d ≠ q := ne_of_S a2 hq
        exact ⟨a1, by rw [Sto.set_ne n1, Sto.set_ne n2]; exact a2⟩
      · simp at z
        subst z
        exact ⟨q0, by rw [Sto.set_ne hpq.symm]; exact Sto.set_same⟩
    · have hnq : q ∉ ds := fun z => by
        obtain ⟨_, a2⟩ := hd q z
        rw [hq] at a2; cases a2
      rw [List.nodup_cons] at nd ⊢
      refine ⟨?_, ?_⟩
      · simp only [List.mem_append, List.mem_singleton, not_or]
        exact ⟨nd.1, hpq⟩
      · rw [List.nodup_append]
        refine ⟨nd.2, by simp, fun a ha b hb => ?_⟩
        simp at hb
        subst hb
        exact fun z => hnq (z ▸ ha)
  · obtain ⟨I1, f, ds, rfl, hl, hd, nd⟩ := I
    exact h ds S' hl I1 f hd nd
theorem f_setFR {cs : List String} {f cl : String} {b : Addr} {y : D} {fs : List (String × D)} {K : Sto → Prop} (h : S b = some (.ins cl fs)) : fSetF cs f (.ref b) y S K = (cs.contains cl = true ∧ fs.length + 1 ≤ 1000 ∧ K (S.set b (.ins cl (putFd f y fs)))) := by
  simp [fSetF, h]
theorem init_loop {ps' : List D} {b hp : Addr} {E : ES} {XE : PxE} (hS : S hp = some (.lst ps')) : ∀ (ps : List Pt) (n : Nat) (x2 x3 : Option D), (∀ p ∈ ps, PtOk p) → n + ps.length ≤ 3 → (∀ x2 x3, E.nx [some (.ref b), some (.ref hp), x2, x3] S) →
    forL (some (hp, .lst ps')) (.tup (.cons (.nm 2) (.cons (.nm 3) .nil))) (wIf (wB (wOr (wOp (fCmp cmpGe) (wVar 2) (wC (.int 3))) (wNot (wCall φ_is_pot [] (wCons (wVar 3) wNil))))) wNever wNx) (enumD n (ps.map potD)) [some (.ref b), some (.ref hp), x2, x3] S E XE
  | [], n, x2, x3, _, _, h => ⟨hS, h x2 x3⟩
  | p :: ps, n, x2, x3, ok, hn, h => by
    refine ⟨hS, _, rfl, ?_⟩
    have hlt : ¬ (3 : Int) ≤ (n : Int) := by simp at hn; omega
    simp [-Bool.exists_bool, cmpGe, hlt]
    refine p_is_pot (ok p List.mem_cons_self) ?_
    simp [-Bool.exists_bool]
    exact init_loop hS ps (n + 1) _ _ (fun q hq => ok q (List.mem_cons_of_mem _ hq)) (by simp at hn; omega) h
def bk0 (ps : List Pt) : Bk := ⟨0, ps.map fun _ => .held, ps.map fun _ => []⟩
theorem p_init {b hp : Addr} {ps : List Pt} (hb : S b = none) (hS : S hp = some (.lst (ps.map potD))) (l4 : 1 ≤ ps.length ∧ ps.length ≤ 3) (ok : ∀ p ∈ ps, PtOk p)
    (h : ∀ c s ds S', Bst S' b c s ds ps (bk0 ps) → Fm [] S S' → (∀ x ∈ c :: s :: ds, S x = none) → R .non S') : φ_Book___init__ [.ref b, .ref hp] (S.set b (.ins "Book" [])) R RE := by
  have hbp : hp ≠ b := ne_of_S hS hb
  have hS1 : ∀ o, (S.set b o) hp = some (.lst (ps.map potD)) := fun o => by rw [Sto.set_ne hbp]; exact hS
  refine ⟨rfl, ?_⟩
  simp only [w_Book___init__, startE, N_Book___init__, s_seqL]
  simp [-Bool.exists_bool, -s_seq]
  have es : srcL (S.set b (.ins "Book" [])) (.ref hp) = some (false, ps.map potD, some (hp, .lst (ps.map potD))) := by simp [srcL, hS1]
  refine ⟨_, _, es, ?_⟩
  refine init_loop (hS1 _) ps 0 none none ok (by omega) fun x2 x3 => ?_
  dsimp only
  refine later_of ?_
  simp only [s_seqL]
  simp [-Bool.exists_bool, -s_seq, f_listR (hS1 _), putFd]
  refine ⟨sz1000 (by omega), later_of ?_⟩
  simp [-Bool.exists_bool, -s_seq, s_seqL, putFd]
  refine later_of ?_
  simp only [s_seqL]
  simp [-Bool.exists_bool, -s_seq, srcOf_ref (hS1 _)]
  intro c hc
  have hb1 : (S.set b (.ins "Book" [("kept", .lst (ps.map potD)), ("now", .int 0)])) b = some (.ins "Book" [("kept", .lst (ps.map potD)), ("now", .int 0)]) := Sto.set_same
  have hS2 := hS1 (.ins "Book" [("kept", .lst (ps.map potD)), ("now", .int 0)])
  have f1 : Fm [] S (S.set b (.ins "Book" [("kept", .lst (ps.map potD)), ("now", .int 0)])) := .new hb
  generalize S.set b (.ins "Book" [("kept", .lst (ps.map potD)), ("now", .int 0)]) = S1 at hc hb1 hS2 f1
  have c0 : S c = none := f1.none (by simp) hc
  have hbc : b ≠ c := ne_of_S hb1 hc
  have hpc : hp ≠ c := ne_of_S hS2 hc
  refine lc_mapS (fun p => clB p .held) (fun o => by show (S1.set c o) hp = _; rw [Sto.set_ne hpc]; exact hS2) (by omega) (fun p hp' => ⟨_, rfl, fun o R hR => ?_⟩) ?_
  · simp [-Bool.exists_bool, wipeE]
    intro q hq
    exact mk_held (p := p) hq hR
  simp only [lcEnd]
  have hb2 : ∀ o, (S1.set c o) b = some (.ins "Book" [("kept", .lst (ps.map potD)), ("now", .int 0)]) := fun o => by rw [Sto.set_ne hbc]; exact hb1
  rw [f_setFR (hb2 _)]
  have e3 : putFd "claims" (.ref c) [("kept", .lst (ps.map potD)), ("now", .int 0)] = [("kept", .lst (ps.map potD)), ("now", .int 0), ("claims", .ref c)] := by simp [putFd]
  rw [e3]
  refine ⟨by decide, by simp, later_of ?_⟩
  have hb3 : ((S1.set c (.lst (ps.map fun p => clB p .held))).set b (.ins "Book" [("kept", .lst (ps.map potD)), ("now", .int 0), ("claims", .ref c)])) b = some (.ins "Book" [("kept", .lst (ps.map potD)), ("now", .int 0), ("claims", .ref c)]) := Sto.set_same
  have hc3 : ((S1.set c (.lst (ps.map fun p => clB p .held))).set b (.ins "Book" [("kept", .lst (ps.map potD)), ("now", .int 0), ("claims", .ref c)])) c = some (.lst (ps.map fun p => clB p .held)) := by rw [Sto.set_ne hbc.symm]; exact Sto.set_same
  have hS3 : ((S1.set c (.lst (ps.map fun p => clB p .held))).set b (.ins "Book" [("kept", .lst (ps.map potD)), ("now", .int 0), ("claims", .ref c)])) hp = some (.lst (ps.map potD)) := by rw [Sto.set_ne hbp, Sto.set_ne hpc]; exact hS2
  have f3 : Fm [] S ((S1.set c (.lst (ps.map fun p => clB p .held))).set b (.ins "Book" [("kept", .lst (ps.map potD)), ("now", .int 0), ("claims", .ref c)])) := fun x hx n => by
    have n1 : x ≠ b := fun z => n (by rw [z]; exact hb)
    have n2 : x ≠ c := fun z => n (by rw [z]; exact c0)
    rw [Sto.set_ne n1, Sto.set_ne n2]
    exact f1 x hx n
  generalize (S1.set c (.lst (ps.map fun p => clB p .held))).set b (.ins "Book" [("kept", .lst (ps.map potD)), ("now", .int 0), ("claims", .ref c)]) = S3 at hb3 hc3 hS3 f3
  simp [-Bool.exists_bool, srcOf_ref hS3]
  intro s hs
  have s0 : S s = none := f3.none (by simp) hs
  refine lc_dicts hs (by omega) (fun S' f => f.at hS3 (by simp)) fun ds S4 hl hs4 f4 hd nd => ?_
  simp only [lcEnd]
  have hb4 := f4.at hb3 (by simp)
  have hc4 := f4.at hc3 (by simp)
  rw [f_setFR hb4]
  have e4 : putFd "shows" (.ref s) [("kept", .lst (ps.map potD)), ("now", .int 0), ("claims", .ref c)] = bkF c s ps 0 := by simp [putFd, bkF]
  rw [e4]
  refine ⟨by decide, by simp, ?_⟩
  have hbs : b ≠ s := ne_of_S hb3 hs
  have hcs : c ≠ s := ne_of_S hc3 hs
  have hbd : b ∉ ds := fun z => by
    have := (hd b z).1
    rw [hb3] at this; cases this
  have hcd : c ∉ ds := fun z => by
    have := (hd c z).1
    rw [hc3] at this; cases this
  refine .now (h c s ds _ ?_ ?_ ?_)
  · exact {
      hb := Sto.set_same
      hc := by
        rw [Sto.set_ne hbc.symm, hc4]
        congr 2
        simp [clsB, bk0, List.zipWith_map_right, List.zipWith_self]
      hs := by rw [Sto.set_ne hbs.symm]; exact hs4
      hd := fun i d m e1 e2 => by
        have hm := List.mem_of_getElem? e1
        rw [Sto.set_ne (fun z => hbd (by rw [← z]; exact hm)), (hd d hm).2]
        have : m = [] := by
          have := List.mem_of_getElem? e2
          simp [bk0] at this
          exact this.2
        rw [this]; rfl
      l1 := hl
      l2 := by simp [bk0]
      l3 := by simp [bk0]
      l4 := l4
      nd := by
        rw [List.nodup_cons] at nd
        simp only [List.nodup_cons, List.mem_cons, not_or]
        exact ⟨⟨hbc, hbs, hbd⟩, ⟨hcs, hcd⟩, nd.1, nd.2⟩
      ok := ok
      cok := fun x hx => by
        simp [bk0] at hx
        rw [← hx.2]; trivial
      sok := fun m hm => by
        simp [bk0] at hm
        rw [hm.2]
        exact fun x hx => nomatch hx }
  · intro x hx n
    have n1 : x ≠ b := fun z => n (by rw [z]; exact hb)
    rw [Sto.set_ne n1]
    exact (f3.trans f4) x hx n
  · intro x hx
    simp only [List.mem_cons] at hx
    rcases hx with rfl | rfl | hx
    · exact c0
    · exact s0
    · exact f3.none (by simp) (hd x hx).1
end
end L98
end

section
set_option Elab.async false
set_option linter.all false
set_option maxRecDepth 100000
set_option autoImplicit false
namespace L98
open SB PySem PySem.Spec L2
theorem setd_len (m : Shn) (w d : Int) : (setd m w d).length ≤ m.length + 1 := by
  unfold setd
  split <;> simp
theorem sum_set : ∀ (l : List Shn) (i : Nat) (m : Shn), m.length ≤ (l.getD i []).length + 1 → ((l.set i m).map List.length).sum ≤ (l.map List.length).sum + 1
  | [], i, m, h => by simp
  | x :: l, 0, m, h => by simp at h ⊢; omega
  | x :: l, i + 1, m, h => by
    have := sum_set l i m (by simpa using h)
    simp at this ⊢; omega
open Classical in
theorem cnt_step (ps : List Pt) (k : Bk) (d : Dd) : cnt (stepB ps k d).2 ≤ cnt k + 1 := by
  cases d with
  | day => exact Nat.le_succ _
  | «show» p w =>
    unfold stepB
    dsimp only
    split
    · exact sum_set _ _ _ (setd_len _ _ _)
    · exact Nat.le_succ _
  | strike p who th =>
    unfold stepB
    dsimp only
    split
    · exact Nat.le_succ _
    · exact Nat.le_succ _
  | lay p who one ag =>
    unfold stepB
    dsimp only
    split
    · split
      · split
        · exact Nat.le_succ _
        · exact Nat.le_succ _
      · exact Nat.le_succ _
    · exact Nat.le_succ _
/-! both books -/
structure BA where
  b : Addr
  c : Addr
  s : Addr
  ds : List Addr
def BA.fp (x : BA) : List Addr := fpB x.b x.c x.s x.ds
structure TA where
  a : Addr
  c : Addr
  s : Addr
  ds : List Addr
def TA.fp (x : TA) : List Addr := fpT x.a x.c x.s x.ds
def Dj (l m : List Addr) : Prop := ∀ x ∈ l, x ∉ m
theorem Dj.symm {l m : List Addr} (h : Dj l m) : Dj m l := fun x hx z => h x z hx
structure All (S : Sto) (pa : Addr) (ps : List Pt) (x1 x2 : BA) (y1 y2 : TA) (k1 k2 : Bk) : Prop where
  b1 : Bst S x1.b x1.c x1.s x1.ds ps k1
  b2 : Bst S x2.b x2.c x2.s x2.ds ps k2
  t1 : Tst S y1.a pa y1.c y1.s y1.ds ps k1
  t2 : Tst S y2.a pa y2.c y2.s y2.ds ps k2
  d1 : Dj x1.fp x2.fp
  d2 : Dj x1.fp y1.fp
  d3 : Dj x1.fp y2.fp
  d4 : Dj x2.fp y1.fp
  d5 : Dj x2.fp y2.fp
  d6 : Dj y1.fp y2.fp
  p1 : pa ∉ x1.fp
  p2 : pa ∉ x2.fp
  p3 : pa ∉ y1.fp
  p4 : pa ∉ y2.fp
variable {S S' : Sto} {pa : Addr} {ps : List Pt} {x1 x2 : BA} {y1 y2 : TA} {k1 k2 : Bk}
theorem All.swap (A : All S pa ps x1 x2 y1 y2 k1 k2) : All S pa ps x2 x1 y2 y1 k2 k1 :=
  ⟨A.b2, A.b1, A.t2, A.t1, A.d1.symm, A.d5, A.d4, A.d3, A.d2, A.d6.symm, A.p2, A.p1, A.p4, A.p3⟩
theorem fpT_in {y : TA} {pa : Addr} {A : List Addr} (h : Dj y.fp A) (hp : pa ∉ A) : ∀ x ∈ y.a :: pa :: y.c :: y.s :: y.ds, x ∉ A := fun x hx => by
  simp only [List.mem_cons] at hx
  rcases hx with e | e | hx
  · exact h x (by rw [e]; exact List.mem_cons_self)
  · rw [e]; exact hp
  · exact h x (List.mem_cons_of_mem _ (by simpa using hx))
theorem All.fm (A : All S pa ps x1 x2 y1 y2 k1 k2) (f : Fm [] S S') : All S' pa ps x1 x2 y1 y2 k1 k2 :=
  { A with
    b1 := A.b1.fm f (fun _ _ => by simp)
    b2 := A.b2.fm f (fun _ _ => by simp)
    t1 := A.t1.fm f (fun _ _ => by simp)
    t2 := A.t2.fm f (fun _ _ => by simp) }
/-- the first pair has moved on -/
theorem All.move {k1' : Bk} (A : All S pa ps x1 x2 y1 y2 k1 k2) (B : Bst S' x1.b x1.c x1.s x1.ds ps k1') (T : Tst S' y1.a pa y1.c y1.s y1.ds ps k1') (f : Fm (x1.fp ++ y1.fp) S S') : All S' pa ps x1 x2 y1 y2 k1' k2 :=
  { A with
    b1 := B
    t1 := T
    b2 := A.b2.fm f fun x hx => by
      have h1 : x ∈ x2.fp := hx
      rw [List.mem_append]
      rintro (z | z)
      · exact A.d1 x z h1
      · exact A.d4 x h1 z
    t2 := A.t2.fm f (fpT_in (fun x hx z => by
      rw [List.mem_append] at z
      rcases z with z | z
      · exact A.d3 x z hx
      · exact A.d6 x z hx) (by rw [List.mem_append]; rintro (z | z); exact A.p1 z; exact A.p3 z)) }
section
variable {R : Pd} {RE : Px}
/-- a deed done by the book, and by the law -/
theorem p_both {d : Dd} {sd : Addr} {j : Int} (A : All S pa ps x1 x2 y1 y2 k1 k2) (hc : cnt k1 ≤ 900) (od : DdOk d) (hix : ∀ S1 (R : Pd), Fm x1.fp S S1 → R (.ref y1.a) S1 → fIx (.ref sd) (.int j) S1 R)
    (h : ∀ S', All S' pa ps x1 x2 y1 y2 (stepB ps k1 d).2 k2 → Fm (x1.fp ++ y1.fp) S S' → R (.bl false) S') :
    φ__law_done [.ref x1.b, ddD d] S (fun v S1 => fIx (.ref sd) (.int j) S1 fun z S1 => φ__law_wanted [z, ddD d] S1 (fun u S2 => fEq true v u S2 R) RE) RE := by
  refine p_done A.b1 hc od fun S2 B2 f2 => hix S2 _ f2 ?_
  have T2 := A.t1.fm f2 (fpT_in (A.d2.symm) A.p1)
  refine p_wanted T2 A.b1.l4 A.b1.l2 A.b1.l3 hc od fun S3 T3 f3 => ?_
  have B3 := B2.fm f3 (fun x hx z => A.d2 x hx z)
  have f13 : Fm (x1.fp ++ y1.fp) S S3 := (f2.mono fun x hx => by rw [List.mem_append]; exact .inl hx).trans (f3.mono fun x hx => by rw [List.mem_append]; exact .inr hx)
  simp
  exact h S3 (A.move B3 T3 f13) f13
end
end L98
end

section
set_option Elab.async false
set_option linter.all false
set_option maxRecDepth 100000
set_option autoImplicit false
namespace L98
open SB PySem PySem.Spec L2
section
variable {S : Sto} {R : Pd} {RE : Px}
def sideE : WpE := (wDict true [.inr ("pots" : Str), .inr ("day" : Str), .inr ("claims" : Str), .inr ("shown" : Str)] (wCons (wVar 2) (wCons (wC (.int 0)) (wCons (wLc true (wSrc (wVar 2)) (.nm 12) wYes (wTup (wCons (wC (.str ("held" : Str))) wNil)) [12]) (wCons (wLc true (wSrc (wVar 2)) (.nm 12) wYes (wDict0 true) [12]) wNil)))))
theorem mk_side {ς : En} {pa : Addr} {ps : List Pt} (h2 : ς[2]? = some (some (.ref pa))) (hS : S pa = some (.lst (ps.map potD))) (l4 : 1 ≤ ps.length ∧ ps.length ≤ 3)
    (h : ∀ (y : TA) S', Tst S' y.a pa y.c y.s y.ds ps (bk0 ps) → Fm [] S S' → (∀ x ∈ y.fp, S x = none) → R (.ref y.a) S') : sideE ς S R RE := by
  unfold sideE
  rw [s_dictO]
  intro a ha
  have hpa : pa ≠ a := ne_of_S hS ha
  have hS1 : (S.set a (.dct [])) pa = some (.lst (ps.map potD)) := by rw [Sto.set_ne hpa]; exact hS
  have ha1 : (S.set a (.dct [])) a = some (.dct []) := Sto.set_same
  have f1 : Fm [] S (S.set a (.dct [])) := .new ha
  generalize S.set a (.dct []) = S1 at hS1 ha1 f1
  simp only [s_cons, s_var, s_c, s_nil, s_lc, s_src]
  refine ⟨_, h2, _, h2, _, _, srcOf_ref hS1, fun c hc => ?_⟩
  have hac : a ≠ c := ne_of_S ha1 hc
  have hpc : pa ≠ c := ne_of_S hS1 hc
  have c0 : S c = none := f1.none (by simp) hc
  refine lc_mapS (fun _ => clD .held) (fun o => by show (S1.set c o) pa = _; rw [Sto.set_ne hpc]; exact hS1) (by omega) (fun p hp' => ⟨_, rfl, fun o R hR => ?_⟩) ?_
  · simp [-Bool.exists_bool]
    exact hR
  simp only [lcEnd]
  have hS2 : (S1.set c (.lst (ps.map fun _ => clD .held))) pa = some (.lst (ps.map potD)) := by rw [Sto.set_ne hpc]; exact hS1
  have ha2 : (S1.set c (.lst (ps.map fun _ => clD .held))) a = some (.dct []) := by rw [Sto.set_ne hac]; exact ha1
  have hc2 : (S1.set c (.lst (ps.map fun _ => clD .held))) c = some (.lst (ps.map fun _ => clD .held)) := Sto.set_same
  have f2 : Fm [] S (S1.set c (.lst (ps.map fun _ => clD .held))) := f1.trans (.new hc)
  generalize S1.set c (.lst (ps.map fun _ => clD .held)) = S2 at hS2 ha2 hc2 f2
  refine ⟨_, h2, _, _, srcOf_ref hS2, fun s hs => ?_⟩
  refine lc_dicts hs (by omega) (fun S' f => f.at hS2 (by simp)) fun ds S4 hl hs4 f4 hd nd => ?_
  simp only [lcEnd]
  have ha4 := f4.at ha2 (by simp)
  have hc4 := f4.at hc2 (by simp)
  have hp4 := f4.at hS2 (by simp)
  refine ⟨ha4, rfl, by decide, ?_⟩
  have e : (mergeD [] ([(.inr ("pots" : Str) : Key), .inr ("day" : Str), .inr ("claims" : Str), .inr ("shown" : Str)].zip [D.ref pa, .int 0, .ref c, .ref s])) = sdF pa c s 0 := by simp [mergeD, putD, sdF]
  rw [e]
  have has : a ≠ s := ne_of_S ha2 hs
  have hcs : c ≠ s := ne_of_S hc2 hs
  have hps : pa ≠ s := ne_of_S hS2 hs
  have s0 : S s = none := f2.none (by simp) hs
  have hn : ∀ x, S2 x ≠ none → x ∉ ds := fun x n z => n (hd x z).1
  have had := hn a (by rw [ha2]; simp)
  have hcd := hn c (by rw [hc2]; simp)
  have hpd := hn pa (by rw [hS2]; simp)
  refine h ⟨a, c, s, ds⟩ _ ?_ ?_ ?_
  · exact {
      ha := Sto.set_same
      hp := by rw [Sto.set_ne hpa]; exact hp4
      hc := by
        rw [Sto.set_ne hac.symm, hc4]
        simp [bk0]
      hs := by rw [Sto.set_ne has.symm]; exact hs4
      hd := fun i d m e1 e2 => by
        have hm := List.mem_of_getElem? e1
        rw [Sto.set_ne (fun z => had (by rw [← z]; exact hm)), (hd d hm).2]
        have : m = [] := by
          have := List.mem_of_getElem? e2
          simp [bk0] at this
          exact this.2
        rw [this]; rfl
      l1 := hl
      nd := by
        rw [List.nodup_cons] at nd
        simp only [List.nodup_cons, List.mem_cons, not_or]
        exact ⟨⟨hpa.symm, hac, has, had⟩, ⟨hpc, hps, hpd⟩, ⟨hcs, hcd⟩, nd.1, nd.2⟩ }
  · intro x hx n
    have n1 : x ≠ a := fun z => n (by rw [z]; exact ha)
    rw [Sto.set_ne n1]
    exact (f2.trans f4) x hx n
  · intro x hx
    simp only [TA.fp, fpT, List.mem_cons] at hx
    rcases hx with rfl | rfl | rfl | hx
    · exact ha
    · exact c0
    · exact s0
    · exact f2.none (by simp) (hd x hx).1
/-! what stands is not free -/
theorem Bst.live {b c s : Addr} {ds : List Addr} {ps : List Pt} {k : Bk} (B : Bst S b c s ds ps k) : ∀ x ∈ fpB b c s ds, S x ≠ none := fun x hx => by
  simp only [fpB, List.mem_cons] at hx
  rcases hx with rfl | rfl | rfl | hx
  · rw [B.hb]; simp
  · rw [B.hc]; simp
  · rw [B.hs]; simp
  · obtain ⟨i, hi⟩ := List.mem_iff_getElem?.mp hx
    have hl : i < k.sh.length := by rw [B.l3, ← B.l1]; exact lt_of hi
    rw [B.hd i x _ hi (List.getElem?_eq_getElem hl)]; simp
theorem Tst.live {a pa c s : Addr} {ds : List Addr} {ps : List Pt} {k : Bk} (T : Tst S a pa c s ds ps k) (l3 : k.sh.length = ps.length) : ∀ x ∈ fpT a c s ds, S x ≠ none := fun x hx => by
  simp only [fpT, List.mem_cons] at hx
  rcases hx with rfl | rfl | rfl | hx
  · rw [T.ha]; simp
  · rw [T.hc]; simp
  · rw [T.hs]; simp
  · obtain ⟨i, hi⟩ := List.mem_iff_getElem?.mp hx
    have hl : i < k.sh.length := by rw [l3, ← T.l1]; exact lt_of hi
    rw [T.hd i x _ hi (List.getElem?_eq_getElem hl)]; simp
theorem dj_new {l m : List Addr} (h1 : ∀ x ∈ l, S x ≠ none) (h2 : ∀ x ∈ m, S x = none) : Dj l m := fun x hx z => h1 x hx (h2 x z)
def cellB : WpS := (wSeq (wSet 1 (wCall φ__law_well_of [] (wCons (wVar 10) wNil)))
  (wSeq (wSet 3 (wCall φ__law_draw [] (wCons (wVar 1) (wCons (wC (.int 2)) wNil))))
  (wSeq (wSet 11 (wCall φ__law_deed_of [] (wCons (wVar 1) (wCons (wOp fIx (wVar 8) (wVar 3)) wNil))))
  (wSeq (wIf (wB (wOp (fEq true) (wCall φ__law_done [] (wCons (wOp fIx (wVar 7) (wVar 3)) (wCons (wVar 11) wNil))) (wCall φ__law_wanted [] (wCons (wOp fIx (wVar 8) (wVar 3)) (wCons (wVar 11) wNil))))) (wRet (wC (.bl false))) wNx)
  (wIf (wB (wOr (wNot (wCall φ__law_alike [] (wCons (wOp fIx (wVar 7) (wC (.int 0))) (wCons (wOp fIx (wVar 8) (wC (.int 0))) wNil)))) (wNot (wCall φ__law_alike [] (wCons (wOp fIx (wVar 7) (wC (.int 1))) (wCons (wOp fIx (wVar 8) (wC (.int 1))) wNil)))))) (wRet (wC (.bl false))) wNx)))))
theorem cell_ok {pa sd : Addr} {ps : List Pt} {x1 x2 : BA} {y1 y2 : TA} {k1 k2 : Bk} {cell : Int} {c0 c1 c2 c3 c4 c5 c6 c9 c11 c12 : Option D} {E : ES} {XE : PxE} (A : All S pa ps x1 x2 y1 y2 k1 k2) (hsd : S sd = some (.lst [.ref y1.a, .ref y2.a]))
    (s1 : sd ∉ x1.fp ++ y1.fp) (s2 : sd ∉ x2.fp ++ y2.fp) (h1 : cnt k1 + 1 < 64) (h2 : cnt k2 + 1 < 64)
    (h : ∀ k1' k2' S' c1 c3 c11, All S' pa ps x1 x2 y1 y2 k1' k2' → S' sd = some (.lst [.ref y1.a, .ref y2.a]) → cnt k1' ≤ cnt k1 + 1 → cnt k2' ≤ cnt k2 + 1 →
      E.nx [c0, c1, c2, c3, c4, c5, c6, some (.lst [.ref x1.b, .ref x2.b]), some (.ref sd), c9, some (.int cell), c11, c12] S') :
    cellB [c0, c1, c2, c3, c4, c5, c6, some (.lst [.ref x1.b, .ref x2.b]), some (.ref sd), c9, some (.int cell), c11, c12] S E XE := by
  unfold cellB
  simp only [s_seqL]
  simp [-Bool.exists_bool, -s_seq]
  refine p_well_of fun wl S1 e1 f1 w1 => later_of ?_
  have A1 := A.fm f1
  have hsd1 := f1.at hsd (by simp)
  have out1 := Tst.out A.t1 A.b1.l3 e1
  have out2 := Tst.out A.t2 A.b2.l3 e1
  have ob1 : ∀ x ∈ x1.b :: x1.c :: x1.s :: x1.ds, x ∉ [wl] := fun x hx z => A.b1.live x hx (by simp at z; rw [z]; exact e1)
  have ob2 : ∀ x ∈ x2.b :: x2.c :: x2.s :: x2.ds, x ∉ [wl] := fun x hx z => A.b2.live x hx (by simp at z; rw [z]; exact e1)
  have fmA : ∀ {S S' : Sto}, All S pa ps x1 x2 y1 y2 k1 k2 → Fm [wl] S S' → All S' pa ps x1 x2 y1 y2 k1 k2 := fun A f => { A with
    b1 := A.b1.fm f ob1
    b2 := A.b2.fm f ob2
    t1 := A.t1.fm f out1
    t2 := A.t2.fm f out2 }
  have sdw : sd ∉ [wl] := by
    have := ne_of_S hsd e1
    simp [this]
  simp [-Bool.exists_bool, -s_seq, s_seqL]
  refine p_draw w1 (by omega) (by decide) (by decide) fun kk S2 k0 k2' f2 w2 => later_of ?_
  have A2 := fmA A1 f2
  have hsd2 := f2.at hsd1 sdw
  simp [-Bool.exists_bool, -s_seq, s_seqL]
  have tail : ∀ {k1' k2' : Bk} {S5 : Sto} (ς11 : Option D), All S5 pa ps x1 x2 y1 y2 k1' k2' → S5 sd = some (.lst [.ref y1.a, .ref y2.a]) → cnt k1' ≤ cnt k1 + 1 → cnt k2' ≤ cnt k2 + 1 →
      later (wIf (wB (wOr (wNot (wCall φ__law_alike [] (wCons (wOp fIx (wVar 7) (wC (.int 0))) (wCons (wOp fIx (wVar 8) (wC (.int 0))) wNil)))) (wNot (wCall φ__law_alike [] (wCons (wOp fIx (wVar 7) (wC (.int 1))) (wCons (wOp fIx (wVar 8) (wC (.int 1))) wNil)))))) (wRet (wC (.bl false))) wNx)
        [c0, some (.ref wl), c2, some (.int kk), c4, c5, c6, some (.lst [.ref x1.b, .ref x2.b]), some (.ref sd), c9, some (.int cell), ς11, c12] S5 E XE := fun ς11 A5 hs5 n1 n2 => by
    refine later_of ?_
    simp [-Bool.exists_bool, f_ixR hs5, L2.atI, L2.ixN]
    refine p_alike A5.b1 A5.t1 (by omega) fun S6 f6 => ?_
    have A6 := A5.fm f6
    have hs6 := f6.at hs5 (by simp)
    simp [-Bool.exists_bool, f_ixR hs6, L2.atI, L2.ixN]
    refine p_alike A6.b2 A6.t2 (by omega) fun S7 f7 => ?_
    simp [-Bool.exists_bool]
    exact h _ _ S7 _ _ _ (A6.fm f7) (f7.at hs6 (by simp)) n1 n2
  have hk : kk = 0 ∨ kk = 1 := by omega
  have l4 := A.b1.l4
  rcases hk with rfl | rfl
  · rw [f_ixR hsd2]
    refine ⟨.ref y1.a, rfl, ?_⟩
    refine p_deed_of (fun S' f => (fmA A2 f).t1) l4 A.b1.ok A.b1.cok A.b1.l2 w2 (by omega) fun d S3 od f3 => later_of ?_
    have A3 := fmA A2 f3
    have hsd3 := f3.at hsd2 sdw
    simp only [s_seqL]
    simp [-Bool.exists_bool, -s_seq, L2.atI, L2.ixN]
    refine p_both (j := 0) A3 (by omega) od (fun S4 R f4 hR => ?_) fun S4 A4 f4 => ?_
    · have := f4.at hsd3 (fun z => s1 (by rw [List.mem_append]; exact .inl z))
      rw [f_ixR this]
      exact ⟨_, rfl, hR⟩
    · simp [-Bool.exists_bool]
      have hsd4 := f4.at hsd3 s1
      exact tail _ A4 hsd4 (cnt_step ps k1 d) (by omega)
  · rw [f_ixR hsd2]
    refine ⟨.ref y2.a, rfl, ?_⟩
    refine p_deed_of (fun S' f => (fmA A2 f).t2) l4 A.b2.ok A.b2.cok A.b2.l2 w2 (by omega) fun d S3 od f3 => later_of ?_
    have A3 := fmA A2 f3
    have hsd3 := f3.at hsd2 sdw
    simp only [s_seqL]
    simp [-Bool.exists_bool, -s_seq, L2.atI, L2.ixN]
    refine p_both (j := 1) A3.swap (by omega) od (fun S4 R f4 hR => ?_) fun S4 A4 f4 => ?_
    · have := f4.at hsd3 (fun z => s2 (by rw [List.mem_append]; exact .inl z))
      rw [f_ixR this]
      exact ⟨_, rfl, hR⟩
    · simp [-Bool.exists_bool]
      have hsd4 := f4.at hsd3 s2
      exact tail _ A4.swap hsd4 (by omega) (cnt_step ps k2 d)
end
end L98
end

section
set_option Elab.async false
set_option linter.all false
set_option maxRecDepth 100000
set_option autoImplicit false
namespace L98
open SB PySem PySem.Spec L2
section
variable {S : Sto} {R : Pd} {RE : Px}
theorem cnt0 (ps : List Pt) : cnt (bk0 ps) = 0 := by
  unfold cnt bk0
  induction ps with
  | nil => rfl
  | cons p ps ih => simpa using ih
theorem cells {pa sd : Addr} {ps : List Pt} {x1 x2 : BA} {y1 y2 : TA} {c0 c2 c4 c5 c6 c9 c12 : Option D} {E : ES} {XE : PxE} (s1 : sd ∉ x1.fp ++ y1.fp) (s2 : sd ∉ x2.fp ++ y2.fp) (h : ∀ ς S, E.nx ς S) : ∀ (cs : List Int) (k1 k2 : Bk) (S : Sto) (c1 c3 c10 c11 : Option D),
    All S pa ps x1 x2 y1 y2 k1 k2 → S sd = some (.lst [.ref y1.a, .ref y2.a]) → cnt k1 + cs.length < 64 → cnt k2 + cs.length < 64 →
    forL none (.nm 10) cellB (cs.map .int) [c0, c1, c2, c3, c4, c5, c6, some (.lst [.ref x1.b, .ref x2.b]), some (.ref sd), c9, c10, c11, c12] S E XE
  | [], k1, k2, S, c1, c3, c10, c11, A, hs, n1, n2 => ⟨trivial, h _ _⟩
  | x :: cs, k1, k2, S, c1, c3, c10, c11, A, hs, n1, n2 => by
    simp only [List.length_cons] at n1 n2
    refine ⟨trivial, _, rfl, ?_⟩
    refine cell_ok A hs s1 s2 (by omega) (by omega) fun k1' k2' S' c1 c3 c11 A' hs' m1 m2 => ?_
    exact cells s1 s2 h cs k1' k2' S' c1 c3 _ c11 A' hs' (by omega) (by omega)
def potsB : WpS := (wSeq (wSet 4 (wCall φ__law_draw [] (wCons (wVar 1) (wCons (wC (.int 4)) wNil))))
  (wSeq (wSet 5 (wTup (wCons (wVar 4) (wCons (wOp fMod (wOp (fAdd false) (wOp (fAdd false) (wVar 4) (wC (.int 1))) (wCall φ__law_draw [] (wCons (wVar 1) (wCons (wC (.int 3)) wNil)))) (wC (.int 4))) wNil))))
  (wExpr (wMt "list" fAppend (wVar 2) (wCons (wOp (fAdd false) (wVar 5) (wTup (wCons (wCall φ__law_draw [] (wCons (wVar 1) (wCons (wC (.int 21)) wNil))) (wCons (wCall φ__law_draw [] (wCons (wVar 1) (wCons (wC (.int 21)) wNil))) (wCons (wOp (fAdd false) (wC (.int 1)) (wCall φ__law_draw [] (wCons (wVar 1) (wCons (wC (.int 5)) wNil)))) wNil))))) wNil)))))
theorem pots_loop {wl pa : Addr} {c0 : Option D} {E : ES} {XE : PxE} (hne : wl ≠ pa) : ∀ (m : Nat) (lo : Int) (ps : List Pt) (cc : Int) (S : Sto) (c3 c4 c5 : Option D), Wel S wl cc → cc + 6 * m ≤ 1000 → S pa = some (.lst (ps.map potD)) → (∀ p ∈ ps, PtOk p) → ps.length + m ≤ 3 →
    (∀ (ps' : List Pt) S' c3 c4 c5, ps'.length = ps.length + m → (∀ p ∈ ps', PtOk p) → S' pa = some (.lst (ps'.map potD)) → Wel S' wl (cc + 6 * m) → E.nx [c0, some (.ref wl), some (.ref pa), c3, c4, c5, none, none, none, none, none, none, none] S') →
    forL none (.nm 3) potsB (rngD lo m) [c0, some (.ref wl), some (.ref pa), c3, c4, c5, none, none, none, none, none, none, none] S E XE
  | 0, lo, ps, cc, S, c3, c4, c5, w, hc, hS, ok, hl, h => ⟨trivial, h ps S c3 c4 c5 rfl ok hS (w.le (by omega))⟩
  | m + 1, lo, ps, cc, S, c3, c4, c5, w, hc, hS, ok, hl, h => by
    refine ⟨trivial, _, rfl, ?_⟩
    have hout : pa ∉ [wl] := by simpa using hne.symm
    unfold potsB
    simp only [s_seqL]
    simp [-Bool.exists_bool, -s_seq]
    refine p_draw w (by omega) (by decide) (by decide) fun l S1 l0 l1 f1 w1 => later_of ?_
    simp [-Bool.exists_bool, -s_seq, s_seqL]
    refine p_draw w1 (by omega) (by decide) (by decide) fun d S2 d0 d1 f2 w2 => ?_
    simp only [f_addI, f_mod]
    refine ⟨by decide, later_of ?_⟩
    simp [-Bool.exists_bool, -s_seq, s_seqL]
    have hS2 := (f1.trans f2).at hS hout
    refine ⟨tyM_refL hS2, ?_⟩
    refine p_draw w2 (by omega) (by decide) (by decide) fun o S3 o0 o1 f3 w3 => ?_
    refine p_draw w3 (by omega) (by decide) (by decide) fun q S4 q0 q1 f4 w4 => ?_
    refine p_draw w4 (by omega) (by decide) (by decide) fun z S5 z0 z1 f5 w5 => ?_
    simp only [f_addI, f_addT]
    have hS5 := ((f3.trans f4).trans f5).at hS2 hout
    refine ⟨pa, _, _, rfl, rfl, hS5, sz1001 (by simp; omega), ?_⟩
    have e : (ps.map potD ++ [D.tup [.int l, .int ((l + 1 + d) % 4), .int o, .int q, .int (1 + z)]]) = (ps ++ [Pt.mk l ((l + 1 + d) % 4) o q (1 + z)]).map potD := by simp [potD]
    rw [e]
    dsimp only
    refine pots_loop hne m (lo + 1) _ (cc + 6) _ _ _ _ ((w5.le (c' := cc + 6) (by omega)).fm (A := [pa]) (.set (by simp)) (by simpa using hne)) (by omega) Sto.set_same (fun p hp => ?_) (by simp; omega) fun ps' S' c3 c4 c5 e1 e2 e3 e4 => ?_
    · rcases List.mem_append.mp hp with hp | hp
      · exact ok p hp
      · simp at hp
        subst hp
        have r0 := Int.emod_nonneg (l + 1 + d) (b := 4) (by omega)
        have r1 := Int.emod_lt_of_pos (l + 1 + d) (b := 4) (by omega)
        exact ⟨l0, (by show l ≤ 3; omega), r0, (by show (l + 1 + d) % 4 ≤ 3; omega), (by show l ≠ (l + 1 + d) % 4; omega), o0, (by show o ≤ 20; omega), q0, (by show q ≤ 20; omega), (by show 1 ≤ 1 + z; omega), (by show 1 + z ≤ 5; omega)⟩
    · refine h ps' S' c3 c4 c5 (by rw [e1]; simp; omega) e2 e3 (e4.le (by omega))
def restB : WpS := (wSeq (wSet 6 (wFun (fList true) (wCons (wVar 2) wNil)))
  (wSeq (wSet 7 (wLst false (wCons (wMake true "Book" [] φ_Book___init__ (wCons (wVar 6) wNil)) (wCons (wMake true "Book" [] φ_Book___init__ (wCons (wVar 6) wNil)) wNil))))
  (wSeq (wExpr (wMt "list" fClearL (wVar 6) wNil))
  (wSeq (wSet 8 (wLst true wNil))
  (wSeq (wFor (wRange (wCons (wC (.int 2)) wNil)) (.nm 3) (wSeq (wSet 9 (wDict true [.inr ("pots" : Str), .inr ("day" : Str), .inr ("claims" : Str), .inr ("shown" : Str)] (wCons (wVar 2) (wCons (wC (.int 0)) (wCons (wLc true (wSrc (wVar 2)) (.nm 12) wYes (wTup (wCons (wC (.str ("held" : Str))) wNil)) [12]) (wCons (wLc true (wSrc (wVar 2)) (.nm 12) wYes (wDict0 true) [12]) wNil))))))
  (wExpr (wMt "list" fAppend (wVar 8) (wCons (wVar 9) wNil)))))
  (wSeq (wFor (wSrc (wOp (fAdd false) (wLst false (wCons (wC (.int 4)) (wCons (wC (.int 9)) (wCons (wC (.int 15)) (wCons (wC (.int 22)) wNil))))) (wSl false (wVar 0) (some (wC (.int 1))) (some (wC (.int 31)))))) (.nm 10) (wSeq (wSet 1 (wCall φ__law_well_of [] (wCons (wVar 10) wNil)))
  (wSeq (wSet 3 (wCall φ__law_draw [] (wCons (wVar 1) (wCons (wC (.int 2)) wNil))))
  (wSeq (wSet 11 (wCall φ__law_deed_of [] (wCons (wVar 1) (wCons (wOp fIx (wVar 8) (wVar 3)) wNil))))
  (wSeq (wIf (wB (wOp (fEq true) (wCall φ__law_done [] (wCons (wOp fIx (wVar 7) (wVar 3)) (wCons (wVar 11) wNil))) (wCall φ__law_wanted [] (wCons (wOp fIx (wVar 8) (wVar 3)) (wCons (wVar 11) wNil))))) (wRet (wC (.bl false))) wNx)
  (wIf (wB (wOr (wNot (wCall φ__law_alike [] (wCons (wOp fIx (wVar 7) (wC (.int 0))) (wCons (wOp fIx (wVar 8) (wC (.int 0))) wNil)))) (wNot (wCall φ__law_alike [] (wCons (wOp fIx (wVar 7) (wC (.int 1))) (wCons (wOp fIx (wVar 8) (wC (.int 1))) wNil)))))) (wRet (wC (.bl false))) wNx))))))
  (wRet (wC (.bl true)))))))))
theorem rest_ok {wl pa : Addr} {ps : List Pt} {ns : List Int} {c3 c4 c5 : Option D} {E : ES} {XE : PxE} (hn : ns.length ≤ 63) (hS : S pa = some (.lst (ps.map potD))) (l4 : 1 ≤ ps.length ∧ ps.length ≤ 3) (ok : ∀ p ∈ ps, PtOk p) (h : ∀ S', E.rt (.bl true) S') :
    restB [some (.scr (ns.map .int)), some (.ref wl), some (.ref pa), c3, c4, c5, none, none, none, none, none, none, none] S E XE := by
  unfold restB
  simp only [s_seqL]
  simp [-Bool.exists_bool, -s_seq, f_listR hS]
  refine ⟨sz1000 (by omega), fun hp hhp => later_of ?_⟩
  have hpp : pa ≠ hp := ne_of_S hS hhp
  have hS1 : (S.set hp (.lst (ps.map potD))) pa = some (.lst (ps.map potD)) := by rw [Sto.set_ne hpp]; exact hS
  have hh1 : (S.set hp (.lst (ps.map potD))) hp = some (.lst (ps.map potD)) := Sto.set_same
  generalize S.set hp (.lst (ps.map potD)) = S1 at hS1 hh1
  simp [-Bool.exists_bool, -s_seq, s_seqL]
  intro b1 hb1
  refine p_init hb1 hh1 l4 ok fun c1 s1 d1 S2 B1 f2 n1 => ⟨rfl, ?_⟩
  have hp2 := f2.at hS1 (by simp)
  have hh2 := f2.at hh1 (by simp)
  have m1 : ∀ x ∈ fpB b1 c1 s1 d1, S1 x = none := fun x hx => by
    simp only [fpB, List.mem_cons] at hx
    rcases hx with rfl | hx
    · exact hb1
    · exact n1 x (by simpa using hx)
  have pa1 : pa ∉ fpB b1 c1 s1 d1 := fun z => by have := m1 _ z; rw [hS1] at this; cases this
  have hp1 : hp ∉ fpB b1 c1 s1 d1 := fun z => by have := m1 _ z; rw [hh1] at this; cases this
  clear hS1 hh1 f2 n1 m1 hb1
  dsimp only [mkI]
  intro b2 hb2
  refine p_init hb2 hh2 l4 ok fun c2 s2 d2 S3 B2 f3 n2 => ⟨rfl, ?_⟩
  have hp3 := f3.at hp2 (by simp)
  have hh3 := f3.at hh2 (by simp)
  have m2 : ∀ x ∈ fpB b2 c2 s2 d2, S2 x = none := fun x hx => by
    simp only [fpB, List.mem_cons] at hx
    rcases hx with rfl | hx
    · exact hb2
    · exact n2 x (by simpa using hx)
  have pa2 : pa ∉ fpB b2 c2 s2 d2 := fun z => by have := m2 _ z; rw [hp2] at this; cases this
  have hh2' : hp ∉ fpB b2 c2 s2 d2 := fun z => by have := m2 _ z; rw [hh2] at this; cases this
  have dj12 : Dj (fpB b1 c1 s1 d1) (fpB b2 c2 s2 d2) := dj_new B1.live m2
  have B1 := B1.fm f3 (fun _ _ => by simp)
  clear hp2 hh2 f3 n2 m2 hb2
  refine later_of ?_
  simp [-Bool.exists_bool, -s_seq, s_seqL]
  refine ⟨tyM_refL hh3, hp, _, rfl, rfl, hh3, later_of ?_⟩
  have f4 : Fm [hp] S3 (S3.set hp (.lst [])) := .set (by simp)
  have hp4 := f4.at hp3 (by simp [hpp])
  have B1 := B1.fm f4 (fun x hx z => hp1 (by simp at z; rw [← z]; exact hx))
  have B2 := B2.fm f4 (fun x hx z => hh2' (by simp at z; rw [← z]; exact hx))
  generalize S3.set hp (.lst []) = S4 at f4 hp4 B1 B2
  clear hh3 hp3 f4
  simp [-Bool.exists_bool, -s_seq, s_seqL]
  intro sd hsd
  have sd1 : sd ∉ fpB b1 c1 s1 d1 := fun z => B1.live _ z hsd
  have sd2 : sd ∉ fpB b2 c2 s2 d2 := fun z => B2.live _ z hsd
  have sdp : pa ≠ sd := ne_of_S hp4 hsd
  have f5 : Fm [] S4 (S4.set sd (.lst [])) := .new hsd
  have hs5 : (S4.set sd (.lst [])) sd = some (.lst []) := Sto.set_same
  generalize S4.set sd (.lst []) = S5 at f5 hs5
  have hp5 := f5.at hp4 (by simp)
  have B1 := B1.fm f5 (fun _ _ => by simp)
  have B2 := B2.fm f5 (fun _ _ => by simp)
  refine later_of ?_
  simp only [s_seqL, s_for, s_range, s_cons, s_c, s_nil]
  refine ⟨2, rfl, by decide, by decide, ?_⟩
  refine (show forL none (.nm 3) (wSeq (wSet 9 sideE) (wExpr (wMt "list" fAppend (wVar 8) (wCons (wVar 9) wNil)))) [.int 0, .int 1] _ _ _ _ from ?_)
  refine ⟨trivial, _, rfl, ?_⟩
  simp only [s_seqL, s_set]
  refine mk_side rfl hp5 l4 fun y1 S6 T1 f6 m6 => later_of ?_
  have hs6 := f6.at hs5 (by simp)
  have dy1 : Dj (fpB b1 c1 s1 d1) y1.fp := dj_new B1.live m6
  have dy2 : Dj (fpB b2 c2 s2 d2) y1.fp := dj_new B2.live m6
  have sdy1 : sd ∉ y1.fp := fun z => by have := m6 _ z; rw [hs5] at this; cases this
  have pay1 : pa ∉ y1.fp := fun z => by have := m6 _ z; rw [hp5] at this; cases this
  have B1 := B1.fm f6 (fun _ _ => by simp)
  have B2 := B2.fm f6 (fun _ _ => by simp)
  have hp6 := f6.at hp5 (by simp)
  simp [-Bool.exists_bool, -s_seq]
  refine ⟨tyM_refL hs6, sd, _, _, rfl, rfl, hs6, by decide, ?_⟩
  have f7 : Fm [sd] S6 (S6.set sd (.lst ([] ++ [.ref y1.a]))) := .set (by simp)
  have hs7 : (S6.set sd (.lst ([] ++ [.ref y1.a]))) sd = some (.lst [.ref y1.a]) := by simp
  have hp7 := f7.at hp6 (by simp [sdp])
  have B1 := B1.fm f7 (fun x hx z => sd1 (by simp at z; rw [← z]; exact hx))
  have B2 := B2.fm f7 (fun x hx z => sd2 (by simp at z; rw [← z]; exact hx))
  have T1 := T1.fm f7 (fpT_in (A := [sd]) (y := y1) (pa := pa) (fun x hx z => sdy1 (by simp at z; rw [← z]; exact hx)) (by simp [sdp]))
  generalize S6.set sd (.lst ([] ++ [.ref y1.a])) = S7 at f7 hs7 hp7 B1 B2 T1
  refine ⟨trivial, _, rfl, ?_⟩
  simp only [s_seqL, s_set]
  refine mk_side rfl hp7 l4 fun y2 S8 T2 f8 m8 => later_of ?_
  have hs8 := f8.at hs7 (by simp)
  have dz1 : Dj (fpB b1 c1 s1 d1) y2.fp := dj_new B1.live m8
  have dz2 : Dj (fpB b2 c2 s2 d2) y2.fp := dj_new B2.live m8
  have dyy : Dj y1.fp y2.fp := dj_new (T1.live B1.l3) m8
  have sdy2 : sd ∉ y2.fp := fun z => by have := m8 _ z; rw [hs7] at this; cases this
  have pay2 : pa ∉ y2.fp := fun z => by have := m8 _ z; rw [hp7] at this; cases this
  have B1 := B1.fm f8 (fun _ _ => by simp)
  have B2 := B2.fm f8 (fun _ _ => by simp)
  have T1 := T1.fm f8 (fun _ _ => by simp)
  simp [-Bool.exists_bool, -s_seq]
  refine ⟨tyM_refL hs8, sd, _, _, rfl, rfl, hs8, by show 1 + 1 ≤ sizeLine; decide, ?_⟩
  have f9 : Fm [sd] S8 (S8.set sd (.lst ([.ref y1.a] ++ [.ref y2.a]))) := .set (by simp)
  have hs9 : (S8.set sd (.lst ([.ref y1.a] ++ [.ref y2.a]))) sd = some (.lst [.ref y1.a, .ref y2.a]) := by simp
  have B1 := B1.fm f9 (fun x hx z => sd1 (by simp at z; rw [← z]; exact hx))
  have B2 := B2.fm f9 (fun x hx z => sd2 (by simp at z; rw [← z]; exact hx))
  have T1 := T1.fm f9 (fpT_in (A := [sd]) (y := y1) (pa := pa) (fun x hx z => sdy1 (by simp at z; rw [← z]; exact hx)) (by simp [sdp]))
  have T2 := T2.fm f9 (fpT_in (A := [sd]) (y := y2) (pa := pa) (fun x hx z => sdy2 (by simp at z; rw [← z]; exact hx)) (by simp [sdp]))
  generalize S8.set sd (.lst ([.ref y1.a] ++ [.ref y2.a])) = S9 at f9 hs9 B1 B2 T1 T2
  refine ⟨trivial, ?_⟩
  dsimp only
  refine later_of ?_
  have hall : All S9 pa ps ⟨b1, c1, s1, d1⟩ ⟨b2, c2, s2, d2⟩ y1 y2 (bk0 ps) (bk0 ps) := ⟨B1, B2, T1, T2, dj12, dy1, dz1, dy2, dz2, dyy, pa1, pa2, pay1, pay2⟩
  have ec : cutD (ns.map D.int) (some 1) (some 31) = ((ns.drop (HT.sIx ns.length 0 (some 1))).take (HT.sIx ns.length ns.length (some 31) - HT.sIx ns.length 0 (some 1))).map D.int := by
    unfold cutD
    rw [List.length_map, List.map_take, List.map_drop]
  have hlc : ((ns.drop (HT.sIx ns.length 0 (some 1))).take (HT.sIx ns.length ns.length (some 31) - HT.sIx ns.length 0 (some 1))).length ≤ 30 := by
    rw [List.length_take, List.length_drop]
    have h1 : HT.sIx ns.length 0 (some 1) = min 1 ns.length := by simp [HT.sIx]
    have h2 : HT.sIx ns.length ns.length (some 31) ≤ 31 := by simp [HT.sIx]; omega
    omega
  generalize ((ns.drop (HT.sIx ns.length 0 (some 1))).take (HT.sIx ns.length ns.length (some 31) - HT.sIx ns.length 0 (some 1))) = cs at ec hlc
  have c0 : cnt (bk0 ps) = 0 := cnt0 ps
  simp only [s_seqL]
  simp [-Bool.exists_bool, -s_seq, fSl, ec]
  refine ⟨sz1000 (by omega), sz1000 (by omega), ?_⟩
  refine cells (E := _) (x1 := ⟨b1, c1, s1, d1⟩) (x2 := ⟨b2, c2, s2, d2⟩) (by rw [List.mem_append]; rintro (z | z); exact sd1 z; exact sdy1 z) (by rw [List.mem_append]; rintro (z | z); exact sd2 z; exact sdy2 z) (fun ς S => ?_) (4 :: 9 :: 15 :: 22 :: cs) _ _ S9 _ _ none none hall hs9 (by simp; omega) (by simp; omega)
  dsimp only
  refine later_of ?_
  simp
  exact h S
theorem pure_law (xs : List D) (S : Sto) (R : Pd) (RE : Px) (hh : φLaw 63 xs S R RE) : φ_law xs S R RE := by
  obtain ⟨ns, rfl, hn, rfl, hR⟩ := hh
  refine ⟨rfl, ?_⟩
  simp only [w_law, startE, N_law, s_seqL]
  simp [-Bool.exists_bool, -s_seq]
  refine p_cell_at fun i => p_well_of fun wl S1 e1 f1 w1 => later_of ?_
  simp [-Bool.exists_bool, -s_seq, s_seqL]
  intro pa hpa
  have hne : wl ≠ pa := by
    obtain ⟨x, y, z, e, _⟩ := w1
    exact ne_of_S e hpa
  refine later_of ?_
  have w2 : Wel (S1.set pa (.lst [])) wl 0 := w1.fm (A := []) (.new hpa) (by simp)
  have hS2 : (S1.set pa (.lst [])) pa = some (.lst (([] : List Pt).map potD)) := by simp
  generalize S1.set pa (.lst []) = S2 at w2 hS2
  simp only [s_seqL, s_for, s_range, s_cons, s_c, s_nil, s_op, s_call, s_var]
  refine ⟨_, rfl, ?_⟩
  refine p_draw w2 (by decide) (by decide) (by decide) fun n S3 n0 n1 f3 w3 => ?_
  have hS3 := f3.at hS2 (by simpa using hne.symm)
  simp only [f_addI]
  refine ⟨_, rfl, by omega, by omega, ?_⟩
  refine (show forL none (.nm 3) potsB _ _ _ _ _ from ?_)
  refine pots_loop hne (1 + n).toNat 0 [] (0 + 1) S3 none none none w3 (by omega) hS3 (fun p hp => nomatch hp) (by simp; omega) fun ps S4 c3 c4 c5 hl ok hS4 w4 => ?_
  dsimp only
  refine later_of ?_
  simp only [s_seqL]
  simp only [List.length_nil, Nat.zero_add] at hl
  have l4 : 1 ≤ ps.length ∧ ps.length ≤ 3 := by omega
  refine (show wIf _ (wSet 2 (wOp (fMul true) (wSl false (wVar 2) none (some (wC (.int 1)))) (wFun fLen (wCons (wVar 2) wNil)))) wNx _ _ _ _ from ?_)
  have rest : ∀ (pa : Addr) (ps : List Pt) (S : Sto), S pa = some (.lst (ps.map potD)) → 1 ≤ ps.length ∧ ps.length ≤ 3 → (∀ p ∈ ps, PtOk p) → later restB [some (.scr (ns.map .int)), some (.ref wl), some (.ref pa), c3, c4, c5, none, none, none, none, none, none, none] S ⟨fun _ S' => Rz R .non S', Rz R, fun _ _ => False, fun _ _ => False⟩ (fun c _ S' => RE c S') := fun pa ps S hS l4 ok =>
    later_of (rest_ok hn hS l4 ok fun S' => .now (hR S'))
  simp [-Bool.exists_bool, -s_seq]
  refine p_draw w4 (by omega) (by decide) (by decide) fun d S5 d0 d1 f5 w5 => ?_
  have hS5 := f5.at hS4 (by simpa using hne.symm)
  by_cases c1 : d = 0
  · simp [-Bool.exists_bool, -s_seq, c1]
    obtain ⟨p, r, rfl⟩ : ∃ p r, ps = p :: r := by
      cases ps with
      | nil => simp at l4
      | cons p r => exact ⟨p, r, rfl⟩
    have ec : cutD ((p :: r).map potD) none (some 1) = [potD p] := by
      unfold cutD
      simp [HT.sIx]
    have es : ∀ R : Pd, fSl false (.ref pa) none (some 1) S5 R = R (.lst [potD p]) S5 := fun R => by
      unfold fSl
      rw [contOf_refL hS5]
      show mkL false (cutD ((p :: r).map potD) none (some 1)) S5 R = _
      rw [ec, f_mkL]
      simp
    rw [es, f_lenR hS5]
    have em : ((List.replicate (((p :: r).map potD).length : Int).toNat [potD p]).flatten : List D) = (List.replicate (p :: r).length p).map potD := by simp
    refine ⟨[potD p], rfl, ⟨by omega, by simp; simp at l4; omega⟩, ?_⟩
    rw [em]
    refine ⟨sz1000 (by simp at l4 ⊢; omega), fun pb hpb => ?_⟩
    exact rest pb _ _ Sto.set_same (by simpa using l4) (fun q hq => by rw [List.eq_of_mem_replicate hq]; exact ok p List.mem_cons_self)
  · simp [-Bool.exists_bool, -s_seq, c1]
    exact rest pa ps S5 hS5 l4 ok
end
end L98
end

section
set_option Elab.async false
set_option linter.all false
set_option maxRecDepth 100000
set_option maxHeartbeats 0
section
open SB PySem PySem.Spec L2 L98
theorem L98.facts {P : Program} {w : World} {K : PySem.W.Frag} {h : Heap} {mg : Str → Option Value} {f : Addr} (X : K.In h) (G : h.Ns mainGlobals mg) (hfa : mg ("law" : Str) = some (.ref f)) (c : He.SaysX fa fn ts [] ex w h K) :
    ∃ fd : FuncData, (∀ (s : Shared) (v : Value), BindsTo s fd ⟨[v], []⟩ [("script", v)]) ∧ ∀ base : Heap, K.In base → base.Ns mainGlobals mg → FnOk P w K mg base CXs 10 f fd ["script"] (spOf K (φLaw 63)) := by
  have hd : Hd w K mg := ⟨h, X, G, c⟩
  obtain ⟨fd, F⟩ := c.t.d.def_ 22 (d := mkDD (("law" : Str), none) "law" "law" (top 46) []) rfl
  have e := hfa.symm.trans (He.glo_ok X G (c.t.d.fact 102 (f := .glo "law") rfl))
  cases e
  have b := FunD.bindsA (ps := ["script"]) F fun _ _ _ _ _ _ us hl => match us, hl with | [_], _ => rfl
  refine ⟨fd, fun s v => b s [v] rfl, fun base _ _ => ?_⟩
  exact SB.FnOk.cxs ((k_law hd F).imp fun vs H Q E ⟨xs, S, R, RE, r, q, z, y⟩ => ⟨xs, S, R, RE, r, q, pure_law _ _ _ _ z, y⟩)
end
open PySem PySem.W PySem.Calls PyProof.Rows in
theorem PySem.Challenge.cw_sidebook_k98_whole_two_books_by_turns_holds : PySem.Challenge.rw_sidebook_k98_whole_two_books_by_turns.Holds := by
  w_on; o_law
  refine HandSHeadRun.head_any (r := OpenLaw.row PySem.Challenge.rw_sidebook_k98_whole_two_books_by_turns) (q := view (OpenLaw.row PySem.Challenge.rw_sidebook_k98_whole_two_books_by_turns).prog [46]) (H := L98.hk) (ob := L98.ob) (M := 6000) (loose := L98.names) (d := HandSHeadRun.topDef (OpenLaw.row PySem.Challenge.rw_sidebook_k98_whole_two_books_by_turns).prog 46) (kwd := []) L98.ob_eq
    (by kernel_rfl) (fun s => by kernel_rfl) L98.run (by kernel_rfl) (by kernel_rfl) (by kernel_rfl) (by rfl) (by first | assumption | decide +kernel) (by decide +kernel) ⟨rfl, rfl, rfl, rfl, rfl, by decide +kernel⟩ ?hw ?hc
  case hw => w_witness2
  case hc =>
    refine L2.walk_ofE (l := PySem.Challenge.rw_sidebook_k98_whole_two_books_by_turns) (n := 63) (k := 10) (x := "script") (CX := SB.CXs) rfl (by decide) (by kernel_rfl) ⟨rfl, by decide, by decide⟩ ?F (fun H s e s' z => SB.cxs_none H s e s' z)
    intro w mg fa h Y G hmg0
    obtain ⟨K, KX, c⟩ := Y
    have hmg : mg ("law" : PySem.Str) = some (.ref fa) := by
      have e : (HandSHeadRun.topDef (OpenLaw.row PySem.Challenge.rw_sidebook_k98_whole_two_books_by_turns).prog 46).name = ("law" : PySem.Str) := by kernel_rfl
      rw [← e]
      exact hmg0
    obtain ⟨fd, hb, hF⟩ := L98.facts (P := (PySem.Challenge.rw_sidebook_k98_whole_two_books_by_turns).prog) (w := w) KX G hmg c
    exact ⟨K, fd, SB.spOf K (SB.φLaw 63), KX, hb, fun H a ns hl _ hS => SB.law_sp (by decide) hl hS, hF⟩
end
