import PyProof.Rows.All
import Wide.All
import OpenK.AllK
import Wide.FinOn
import HandS.ForMost
import HandS.Walk
import HandS.Zip
import HandS.WordsExc
import HandS.ExcOwn
import HandS.TryMany
import HandS.TryOnly
import HandS.ExcIs
import HandS.IsInst
import HandS.Defaults
import HandS.HeadHook2
import HandS.Wide
import HandS.TupAny
import HandS.Deep
import HandS.Style
import HandS.CallRecv
import HandS.HeadWalk
import HandS.SortInts
import HandS.RaiseMore
import HandS.SetFor
import HandS.Finally
import HandS.HeadEnd
import HandS.Small
import HandS.HeadHook4
import KE.KEqNest
import KE.KDictLaw
import HandS.Strs
import PyProof.ReprReads
import KE.KStateDown
import HandS.Head0
import HandS.Head1
import HandS.Head2
import PySem.Challenge.RW_sidebook_k35_papers_asked_again
section
set_option Elab.async false
set_option linter.all false
set_option maxRecDepth 100000
set_option autoImplicit false
/-! SB0: data as values, the store, how they stand in the hand layer's heap. -/
namespace SB
open PySem PySem.Spec L2

/-- a value as data: tuples, and lists, dicts, instances that nobody writes any more, are their content; ref: something that is owned, or unknown -/
inductive D where
  | non | bl (b : Bool) | int (i : Int) | str (x : Str)
  | tup (l : List D) | lst (l : List D) | dct (l : List (Key × D)) | ins (c : String) (fs : List (String × D))
  | scr (l : List D)
  | ref (a : Addr) | exc (c : String)
/-- what stands at an owned address; lck: a dict that a loop walks -/
inductive SO where
  | lst (l : List D) | dct (l : List (Key × D)) | ins (c : String) (fs : List (String × D)) | lck (l : List (Key × D))
abbrev Sto := Addr → Option SO
def Sto.set (S : Sto) (a : Addr) (o : SO) : Sto := fun b => if b = a then some o else S b
def Sto.del (S : Sto) (a : Addr) : Sto := fun b => if b = a then none else S b
@[simp] theorem Sto.set_same {S : Sto} {a : Addr} {o : SO} : S.set a o a = some o := by simp [Sto.set]
theorem Sto.set_ne {S : Sto} {a b : Addr} {o : SO} (h : b ≠ a) : S.set a o b = S b := by simp [Sto.set, h]
@[simp] theorem Sto.del_same {S : Sto} {a : Addr} : S.del a a = none := by simp [Sto.del]
theorem Sto.del_ne {S : Sto} {a b : Addr} (h : b ≠ a) : S.del a b = S b := by simp [Sto.del, h]
@[simp] theorem Sto.set_set {S : Sto} {a : Addr} {o u : SO} : (S.set a o).set a u = S.set a u := by
  funext b; unfold Sto.set; split <;> rfl
@[simp] theorem Sto.del_set {S : Sto} {a : Addr} {o : SO} : (S.set a o).del a = S.del a := by
  funext b; unfold Sto.set Sto.del; split
  · rfl
  · rename_i h; exact if_neg h
theorem Sto.del_none {S : Sto} {a : Addr} (h : S a = none) : S.del a = S := by
  funext b; unfold Sto.del; split
  · rename_i e; rw [e, h]
  · rfl
theorem Sto.set_id {S : Sto} {a : Addr} {o : SO} (h : S a = some o) : S.set a o = S := by
  funext b; unfold Sto.set; split
  · rename_i e; rw [e, h]
  · rfl

/-- the class of a name -/
def clA (K : PySem.W.Frag) (c : String) : Addr := He.ga K (Str.ofString c)

/-- a list of the written part -/
def KLst (K : PySem.W.Frag) (a : Addr) (xs : List V) : Prop :=
  ∃ (o : Obj) (its : Array Value) (n : Nat), K.lookup a = some o ∧ o.cls = .type "list" ∧ o.dict = none ∧ o.data = .seq its n ∧ its.size ≤ sizeLine ∧ Vals xs its.toList
/-- an own class with these attributes, none of them the class's -/
def CO (K : PySem.W.Frag) (c : String) (fs : List (String × D)) : Prop := Cls K (clA K c) ∧ (∀ p ∈ fs, NoAttr K (clA K c) (Str.ofString p.1)) ∧ fs.length ≤ 1000
section
variable (K : PySem.W.Frag) (S : Sto) (H : Hp)
mutual
inductive Rep : D → V → Prop
  | non : Rep .non .non
  | bl (b : Bool) : Rep (.bl b) (.bl b)
  | int (i : Int) : Rep (.int i) (.int i)
  | str (x : Str) : Rep (.str x) (.str x)
  | tup {a : Addr} {l : List D} {vs : List V} : SqT K H a vs → l.length ≤ sizeLine → RepL l vs → Rep (.tup l) (.ref a)
  | lst {a : Addr} {l : List D} {vs : List V} : H a = some (.lst vs) → S a = none → l.length ≤ sizeLine → RepL l vs → Rep (.lst l) (.ref a)
  | scr {a : Addr} {l : List D} {vs : List V} : Rd H a (.lst vs) → S a = none → l.length ≤ sizeLine → RepL l vs → Rep (.scr l) (.ref a)
  | scrK {a : Addr} {l : List D} {vs : List V} : KLst K a vs → l.length ≤ sizeLine → RepL l vs → Rep (.scr l) (.ref a)
  | dct {a : Addr} {l : List (Key × D)} {kvs : List (Key × V)} : Rd H a (.dK kvs) → S a = none → l.length ≤ sizeLine → RepK l kvs → Rep (.dct l) (.ref a)
  | ins {a dx : Addr} {c : String} {fs : List (String × D)} {gs : List (Str × V)} : H a = some (.ins (clA K c) dx gs) → S a = none → CO K c fs → RepF fs gs → Rep (.ins c fs) (.ref a)
  | ref (a : Addr) : Rep (.ref a) (.ref a)
inductive RepL : List D → List V → Prop
  | nil : RepL [] []
  | cons {d : D} {v : V} {l : List D} {vs : List V} : Rep d v → RepL l vs → RepL (d :: l) (v :: vs)
inductive RepK : List (Key × D) → List (Key × V) → Prop
  | nil : RepK [] []
  | cons {k : Key} {d : D} {v : V} {l : List (Key × D)} {vs : List (Key × V)} : Rep d v → RepK l vs → RepK ((k, d) :: l) ((k, v) :: vs)
inductive RepF : List (String × D) → List (Str × V) → Prop
  | nil : RepF [] []
  | cons {f : String} {d : D} {v : V} {l : List (String × D)} {vs : List (Str × V)} : Rep d v → RepF l vs → RepF ((f, d) :: l) ((Str.ofString f, v) :: vs)
end
end
/-- an owned object as it stands -/
def ORep (K : PySem.W.Frag) (S : Sto) (H : Hp) (a : Addr) : SO → Prop
  | .lst l => l.length ≤ sizeLine ∧ ∃ vs, H a = some (.lst vs) ∧ RepL K S H l vs
  | .dct l => l.length ≤ sizeLine ∧ ∃ kvs, H a = some (.dK kvs) ∧ RepK K S H l kvs
  | .ins c fs => CO K c fs ∧ ∃ dx gs, H a = some (.ins (clA K c) dx gs) ∧ RepF K S H fs gs
  | .lck l => l.length ≤ sizeLine ∧ ∃ o kvs, H a = some (.frz o (.dK kvs)) ∧ RepK K S H l kvs
/-- the store as it stands -/
def Rel (K : PySem.W.Frag) (S : Sto) (H : Hp) : Prop := ∀ a o, S a = some o → ORep K S H a o
/-- what was represented is so still -/
structure Keep (K : PySem.W.Frag) (S : Sto) (H : Hp) (S' : Sto) (H' : Hp) : Prop where
  r : ∀ x v, Rep K S H x v → Rep K S' H' x v
  z : ∀ a o u, H a = some (.frz o u) → H' a = some (.frz o u)
instance {K : PySem.W.Frag} {S : Sto} {H : Hp} {S' : Sto} {H' : Hp} : CoeFun (Keep K S H S' H') (fun _ => ∀ x v, Rep K S H x v → Rep K S' H' x v) := ⟨Keep.r⟩
theorem Keep.refl {K : PySem.W.Frag} {S : Sto} {H : Hp} : Keep K S H S H := ⟨fun _ _ h => h, fun _ _ _ h => h⟩
theorem Keep.trans {K : PySem.W.Frag} {S S1 S2 : Sto} {H H1 H2 : Hp} (a : Keep K S H S1 H1) (b : Keep K S1 H1 S2 H2) : Keep K S H S2 H2 := ⟨fun x v h => b.r x v (a.r x v h), fun c o u h => b.z c o u (a.z c o u h)⟩

section
variable {K : PySem.W.Frag} {S S' S1 : Sto} {H H' H1 : Hp}
theorem Keep.l (k : Keep K S H S' H') : ∀ {l : List D} {vs : List V}, RepL K S H l vs → RepL K S' H' l vs
  | _, _, .nil => .nil
  | _, _, .cons r t => .cons (k _ _ r) (Keep.l k t)
theorem Keep.k (k : Keep K S H S' H') : ∀ {l : List (Key × D)} {vs : List (Key × V)}, RepK K S H l vs → RepK K S' H' l vs
  | _, _, .nil => .nil
  | _, _, .cons r t => .cons (k _ _ r) (Keep.k k t)
theorem Keep.f (k : Keep K S H S' H') : ∀ {l : List (String × D)} {vs : List (Str × V)}, RepF K S H l vs → RepF K S' H' l vs
  | _, _, .nil => .nil
  | _, _, .cons r t => .cons (k _ _ r) (Keep.f k t)
theorem RepL.length : ∀ {l : List D} {vs : List V}, RepL K S H l vs → l.length = vs.length
  | _, _, .nil => rfl
  | _, _, .cons _ t => by simp [RepL.length t]
theorem RepK.length : ∀ {l : List (Key × D)} {vs : List (Key × V)}, RepK K S H l vs → l.length = vs.length
  | _, _, .nil => rfl
  | _, _, .cons _ t => by simp [RepK.length t]
theorem RepL.get : ∀ {l : List D} {vs : List V} {i : Nat} {x : D}, RepL K S H l vs → l[i]? = some x → ∃ v, vs[i]? = some v ∧ Rep K S H x v
  | _, _, _, _, .nil, e => by simp at e
  | _, _, 0, _, .cons r _, e => by simp at e; subst e; exact ⟨_, rfl, r⟩
  | _, _, i + 1, x, .cons _ t, e => by
    obtain ⟨v, h1, h2⟩ := RepL.get (i := i) t (by simpa using e)
    exact ⟨v, by simpa using h1, h2⟩
theorem RepL.get' : ∀ {l : List D} {vs : List V} {i : Nat} {v : V}, RepL K S H l vs → vs[i]? = some v → ∃ x, l[i]? = some x ∧ Rep K S H x v
  | _, _, _, _, .nil, e => by simp at e
  | _, _, 0, _, .cons r _, e => by simp at e; subst e; exact ⟨_, rfl, r⟩
  | _, _, i + 1, x, .cons _ t, e => by
    obtain ⟨v, h1, h2⟩ := RepL.get' (i := i) t (by simpa using e)
    exact ⟨v, by simpa using h1, h2⟩
theorem RepL.append : ∀ {l l' : List D} {vs vs' : List V}, RepL K S H l vs → RepL K S H l' vs' → RepL K S H (l ++ l') (vs ++ vs')
  | _, _, _, _, .nil, h => h
  | _, _, _, _, .cons r t, h => .cons r (RepL.append t h)
theorem RepL.take : ∀ {l : List D} {vs : List V} (n : Nat), RepL K S H l vs → RepL K S H (l.take n) (vs.take n)
  | _, _, 0, _ => .nil
  | _, _, _ + 1, .nil => .nil
  | _, _, n + 1, .cons r t => .cons r (RepL.take n t)
theorem RepL.drop : ∀ {l : List D} {vs : List V} (n : Nat), RepL K S H l vs → RepL K S H (l.drop n) (vs.drop n)
  | _, _, 0, r => r
  | _, _, _ + 1, .nil => .nil
  | _, _, n + 1, .cons _ t => RepL.drop n t
theorem RepL.set : ∀ {l : List D} {vs : List V} (n : Nat) {x : D} {v : V}, RepL K S H l vs → Rep K S H x v → RepL K S H (l.set n x) (vs.set n v)
  | _, _, _, _, _, .nil, _ => .nil
  | _, _, 0, _, _, .cons _ t, q => .cons q t
  | _, _, n + 1, _, _, .cons r t, q => .cons r (RepL.set n t q)
theorem RepL.eraseIdx : ∀ {l : List D} {vs : List V} (n : Nat), RepL K S H l vs → RepL K S H (l.eraseIdx n) (vs.eraseIdx n)
  | _, _, _, .nil => .nil
  | _, _, 0, .cons _ t => t
  | _, _, n + 1, .cons r t => .cons r (RepL.eraseIdx n t)
theorem RepL.reverse : ∀ {l : List D} {vs : List V}, RepL K S H l vs → RepL K S H l.reverse vs.reverse
  | _, _, .nil => .nil
  | _, _, .cons r t => by
    rw [List.reverse_cons, List.reverse_cons]
    exact (RepL.reverse t).append (.cons r .nil)
theorem RepL.flatRep {l : List D} {vs : List V} (r : RepL K S H l vs) : ∀ n : Nat, RepL K S H (List.replicate n l).flatten (List.replicate n vs).flatten
  | 0 => .nil
  | n + 1 => by
    rw [List.replicate_succ, List.replicate_succ, List.flatten_cons, List.flatten_cons]
    exact r.append (RepL.flatRep r n)

/-! what stands otherwise at addresses that do not matter -/
/-- H' has all that a value's representation leans on -/
structure Lean' (K : PySem.W.Frag) (S : Sto) (H : Hp) (S' : Sto) (H' : Hp) : Prop where
  tup : ∀ a vs, SqT K H a vs → SqT K H' a vs
  lst : ∀ a vs, H a = some (.lst vs) → S a = none → H' a = some (.lst vs) ∧ S' a = none
  scr : ∀ a vs, Rd H a (.lst vs) → S a = none → Rd H' a (.lst vs) ∧ S' a = none
  dct : ∀ a kvs, Rd H a (.dK kvs) → S a = none → Rd H' a (.dK kvs) ∧ S' a = none
  ins : ∀ a c dx gs, H a = some (.ins c dx gs) → S a = none → H' a = some (.ins c dx gs) ∧ S' a = none
mutual
theorem Rep.lean (k : Lean' K S H S' H') : ∀ {x : D} {v : V}, Rep K S H x v → Rep K S' H' x v
  | _, _, .non => .non
  | _, _, .bl b => .bl b
  | _, _, .int i => .int i
  | _, _, .str x => .str x
  | _, _, .tup h n r => .tup (k.tup _ _ h) n (RepL.lean k r)
  | _, _, .lst h e n r => .lst (k.lst _ _ h e).1 (k.lst _ _ h e).2 n (RepL.lean k r)
  | _, _, .scr h e n r => .scr (k.scr _ _ h e).1 (k.scr _ _ h e).2 n (RepL.lean k r)
  | _, _, .scrK h n r => .scrK h n (RepL.lean k r)
  | _, _, .dct h e n r => .dct (k.dct _ _ h e).1 (k.dct _ _ h e).2 n (RepK.lean k r)
  | _, _, .ins h e n r => .ins (k.ins _ _ _ _ h e).1 (k.ins _ _ _ _ h e).2 n (RepF.lean k r)
  | _, _, .ref a => .ref a
theorem RepL.lean (k : Lean' K S H S' H') : ∀ {l : List D} {vs : List V}, RepL K S H l vs → RepL K S' H' l vs
  | _, _, .nil => .nil
  | _, _, .cons r t => .cons (Rep.lean k r) (RepL.lean k t)
theorem RepK.lean (k : Lean' K S H S' H') : ∀ {l : List (Key × D)} {vs : List (Key × V)}, RepK K S H l vs → RepK K S' H' l vs
  | _, _, .nil => .nil
  | _, _, .cons r t => .cons (Rep.lean k r) (RepK.lean k t)
theorem RepF.lean (k : Lean' K S H S' H') : ∀ {l : List (String × D)} {vs : List (Str × V)}, RepF K S H l vs → RepF K S' H' l vs
  | _, _, .nil => .nil
  | _, _, .cons r t => .cons (Rep.lean k r) (RepF.lean k t)
end
theorem Lean'.keep (k : Lean' K S H S' H') (z : ∀ a o u, H a = some (.frz o u) → H' a = some (.frz o u)) : Keep K S H S' H' := ⟨fun _ _ h => Rep.lean k h, z⟩
/-- a thing of the heap that no store has: what may change elsewhere -/
theorem Lean'.of (h : ∀ b, S b = none → (∃ o, H b = some o) → H' b = H b ∧ S' b = none) (ht : ∀ b vs, Rd H b (.tup vs) → H' b = H b) : Lean' K S H S' H' where
  tup := fun a vs q => by
    rcases q with q | q
    · refine .inl ?_
      have e := ht a vs q
      rcases q with q | ⟨o, q⟩
      · exact .inl (by rw [e]; exact q)
      · exact .inr ⟨o, by rw [e]; exact q⟩
    · exact .inr q
  lst := fun a vs q n => by
    obtain ⟨e, n'⟩ := h a n ⟨_, q⟩
    exact ⟨by rw [e]; exact q, n'⟩
  scr := fun a vs q n => by
    rcases q with q | ⟨o, q⟩
    · obtain ⟨e, n'⟩ := h a n ⟨_, q⟩
      exact ⟨.inl (by rw [e]; exact q), n'⟩
    · obtain ⟨e, n'⟩ := h a n ⟨_, q⟩
      exact ⟨.inr ⟨o, by rw [e]; exact q⟩, n'⟩
  dct := fun a kvs q n => by
    rcases q with q | ⟨o, q⟩
    · obtain ⟨e, n'⟩ := h a n ⟨_, q⟩
      exact ⟨.inl (by rw [e]; exact q), n'⟩
    · obtain ⟨e, n'⟩ := h a n ⟨_, q⟩
      exact ⟨.inr ⟨o, by rw [e]; exact q⟩, n'⟩
  ins := fun a c dx gs q n => by
    obtain ⟨e, n'⟩ := h a n ⟨_, q⟩
    exact ⟨by rw [e]; exact q, n'⟩
/-- a new thing at p, which no store has -/
theorem Keep.new {p : Addr} {o : HO} (hp : H p = none) : Keep K S H S (upd H p o) := (Lean'.of (fun b n ⟨u, e⟩ => ⟨upd_ne (ne_of_none e hp), n⟩) fun b vs q => upd_ne (by
  rcases q with q | ⟨u, q⟩
  · exact ne_of_none q hp
  · exact ne_of_none q hp)).keep fun a o u e => (upd_ne (ne_of_none e hp)).trans e
/-- .. and owned -/
theorem Keep.own {p : Addr} {o : HO} {u : SO} (hp : H p = none) : Keep K S H (S.set p u) (upd H p o) := (Lean'.of (fun b n ⟨w, e⟩ => ⟨upd_ne (ne_of_none e hp), by rw [Sto.set_ne (ne_of_none e hp)]; exact n⟩) fun b vs q => upd_ne (by
  rcases q with q | ⟨u, q⟩
  · exact ne_of_none q hp
  · exact ne_of_none q hp)).keep fun a o u e => (upd_ne (ne_of_none e hp)).trans e
/-- an owned thing is written -/
theorem Keep.put {a : Addr} {o : HO} {u : SO} (hs : (S a).isSome = true) (hm : ∀ vs, ¬ Rd H a (.tup vs)) (hf : ∀ o u, H a ≠ some (.frz o u)) : Keep K S H (S.set a u) (upd H a o) := (Lean'.of (fun b n _ => by
  have h : b ≠ a := fun e => by rw [e] at n; rw [n] at hs; cases hs
  exact ⟨upd_ne h, by rw [Sto.set_ne h]; exact n⟩) fun b vs q => upd_ne fun e => hm vs (by rw [← e]; exact q)).keep fun b o u e => (upd_ne fun z => hf o u (by rw [← z]; exact e)).trans e
/-- an owned thing is left -/
theorem Keep.left (h : ∀ a, S' a = S a ∨ S' a = none) : Keep K S H S' H := (Lean'.of (fun b n _ => ⟨rfl, by rcases h b with e | e; exact e.trans n; exact e⟩) fun _ _ _ => rfl).keep fun _ _ _ e => e
theorem ORep.keep (k : Keep K S H S' H') {a : Addr} {o : SO} (e : H' a = H a) (r : ORep K S H a o) : ORep K S' H' a o := by
  cases o with
  | lst l => obtain ⟨n, vs, h, q⟩ := r; exact ⟨n, vs, by rw [e]; exact h, k.l q⟩
  | dct l => obtain ⟨n, vs, h, q⟩ := r; exact ⟨n, vs, by rw [e]; exact h, k.k q⟩
  | ins c fs => obtain ⟨n, dx, gs, h, q⟩ := r; exact ⟨n, dx, gs, by rw [e]; exact h, k.f q⟩
  | lck l => obtain ⟨n, o, vs, h, q⟩ := r; exact ⟨n, o, vs, by rw [e]; exact h, k.k q⟩
theorem ORep.there {a : Addr} {o : SO} (r : ORep K S H a o) : ∃ u, H a = some u ∧ ∀ vs, ¬ Rd H a (.tup vs) := by
  have fin : ∀ {u : HO}, H a = some u → (∀ vs, u ≠ .tup vs) → (∀ ob vs, u ≠ .frz ob (.tup vs)) → ∃ u, H a = some u ∧ ∀ vs, ¬ Rd H a (.tup vs) := fun {u} h n1 n2 => ⟨u, h, fun vs q => by
    rcases q with q | ⟨ob, q⟩
    · rw [h] at q; exact n1 vs (Option.some.inj q)
    · rw [h] at q; exact n2 ob vs (Option.some.inj q)⟩
  cases o with
  | lst l => obtain ⟨n, vs, h, q⟩ := r; exact fin h (by intro _ z; cases z) (by intro _ _ z; cases z)
  | dct l => obtain ⟨n, vs, h, q⟩ := r; exact fin h (by intro _ z; cases z) (by intro _ _ z; cases z)
  | ins c fs => obtain ⟨n, dx, gs, h, q⟩ := r; exact fin h (by intro _ z; cases z) (by intro _ _ z; cases z)
  | lck l => obtain ⟨n, o, vs, h, q⟩ := r; exact fin h (by intro _ z; cases z) (by intro _ _ z; cases z)
theorem ORep.nofrz {a : Addr} {o : SO} (r : ORep K S H a o) (hw : ∀ l, o ≠ .lck l) : ∀ ob u, H a ≠ some (.frz ob u) := fun ob u e => by
  cases o with
  | lst l => obtain ⟨n, vs, h, q⟩ := r; rw [h] at e; cases e
  | dct l => obtain ⟨n, vs, h, q⟩ := r; rw [h] at e; cases e
  | ins c fs => obtain ⟨n, dx, gs, h, q⟩ := r; rw [h] at e; cases e
  | lck l => exact hw l rfl
theorem Rel.new {p : Addr} {o : HO} (r : Rel K S H) (hp : H p = none) : Rel K S (upd H p o) := fun a u e => by
  have q := r a u e
  obtain ⟨w, hw, _⟩ := q.there
  exact q.keep (Keep.new hp) (upd_ne (ne_of_none hw hp))
theorem Rel.fresh {p : Addr} (r : Rel K S H) (hp : H p = none) : S p = none := by
  cases e : S p with
  | none => rfl
  | some o =>
    obtain ⟨w, hw, _⟩ := (r p o e).there
    rw [hp] at hw; cases hw
theorem Rel.own {p : Addr} {o : HO} {u : SO} (r : Rel K S H) (hp : H p = none) (n : ORep K (S.set p u) (upd H p o) p u) : Rel K (S.set p u) (upd H p o) := fun a w e => by
  by_cases h : a = p
  · subst h; rw [Sto.set_same] at e; cases e; exact n
  · rw [Sto.set_ne h] at e
    exact (r a w e).keep (Keep.own hp) (upd_ne h)
theorem Rel.put {a : Addr} {o : HO} {u w : SO} (r : Rel K S H) (hs : S a = some w) (n : ORep K (S.set a u) (upd H a o) a u) (hw : ∀ l, w ≠ .lck l := by intro _ z; cases z) : Rel K (S.set a u) (upd H a o) := fun b x e => by
  by_cases h : b = a
  · subst h; rw [Sto.set_same] at e; cases e; exact n
  · rw [Sto.set_ne h] at e
    obtain ⟨_, _, nt⟩ := (r a w hs).there
    exact (r b x e).keep (Keep.put (by rw [hs]; rfl) nt ((r a w hs).nofrz hw)) (upd_ne h)
theorem Keep.putR {a : Addr} {o : HO} {u w : SO} (r : Rel K S H) (hs : S a = some w) (hw : ∀ l, w ≠ .lck l := by intro _ z; cases z) : Keep K S H (S.set a u) (upd H a o) := by
  obtain ⟨_, _, nt⟩ := (r a w hs).there
  exact Keep.put (by rw [hs]; rfl) nt ((r a w hs).nofrz hw)
theorem Rel.left (r : Rel K S H) (h : ∀ a, S' a = S a ∨ S' a = none) : Rel K S' H := fun a o e => by
  rcases h a with q | q
  · exact (r a o (by rw [← q]; exact e)).keep (Keep.left h) rfl
  · rw [q] at e; cases e
end
end SB
end

section
set_option Elab.async false
set_option linter.all false
set_option maxRecDepth 100000
set_option autoImplicit false
/-! SB1: where one stands, the judgements over data, the plain expressions. -/
namespace SB
open PySem PySem.Spec L2
abbrev En := List (Option D)
structure Good (K : PySem.W.Frag) (ς : En) (S : Sto) (σ : St) (H : Hp) : Prop where
  len : ς.length = σ.length
  var : ∀ (i : Nat) (x : D), ς[i]? = some (some x) → ∃ v : V, σ[i]? = some (some v) ∧ Rep K S H x v
  rel : Rel K S H
abbrev Pd := D → Sto → Prop
abbrev Px := String → Sto → Prop
abbrev WpE := En → Sto → Pd → Px → Prop
abbrev WpA := En → Sto → (List D → Sto → Prop) → Px → Prop
abbrev WpT := En → Sto → (Bool → Sto → Prop) → Px → Prop
/-- a body's frame: what stood at its entry, what is wanted of an exception that leaves -/
structure Fr where
  S0 : Sto
  H0 : Hp
  XE : String → En → Sto → Prop
section
variable {K : PySem.W.Frag} {ς : En} {S S' : Sto} {σ : St} {H H' : Hp}
theorem Good.keep (g : Good K ς S σ H) (r : Rel K S' H') (k : Keep K S H S' H') : Good K ς S' σ H' :=
  ⟨g.len, fun i x e => by obtain ⟨v, h1, h2⟩ := g.var i x e; exact ⟨v, h1, k _ _ h2⟩, r⟩
theorem Good.set (g : Good K ς S σ H) {i : Nat} {x : D} {v : V} (r : Rep K S H x v) : Good K (ς.set i (some x)) S (σ.set i (some v)) H := by
  refine ⟨by simp [g.len], fun j y e => ?_, g.rel⟩
  by_cases h : i = j
  · subst h
    by_cases hi : i < ς.length
    · rw [List.getElem?_set_self hi] at e
      cases e
      exact ⟨v, by rw [List.getElem?_set_self (by rw [← g.len]; exact hi)], r⟩
    · rw [List.getElem?_eq_none (by simpa using hi)] at e; cases e
  · rw [List.getElem?_set_ne h] at e
    obtain ⟨u, h1, h2⟩ := g.var j y e
    exact ⟨u, by rw [List.getElem?_set_ne h]; exact h1, h2⟩
theorem Good.unset (g : Good K ς S σ H) {i : Nat} : Good K (ς.set i none) S (σ.set i none) H := by
  refine ⟨by simp [g.len], fun j y e => ?_, g.rel⟩
  by_cases h : i = j
  · subst h
    by_cases hi : i < ς.length
    · rw [List.getElem?_set_self hi] at e; cases e
    · rw [List.getElem?_eq_none (by simpa using hi)] at e; cases e
  · rw [List.getElem?_set_ne h] at e
    obtain ⟨u, h1, h2⟩ := g.var j y e
    exact ⟨u, by rw [List.getElem?_set_ne h]; exact h1, h2⟩
end
section
variable (K : PySem.W.Frag) (F : Fr)
/-- the reading of an expression -/
def tE (w : WpE) : TE := fun σ H Q => ∃ (ς : En) (S : Sto) (R : Pd), Good K ς S σ H ∧ Keep K F.S0 F.H0 S H ∧ w ς S R (fun c S' => F.XE c ς S') ∧
  ∀ x S' v H', R x S' → Rel K S' H' → Keep K S H S' H' → Rep K S' H' x v → Q v H'
def tT (w : WpT) : TT := fun σ H Q => ∃ (ς : En) (S : Sto) (R : Bool → Sto → Prop), Good K ς S σ H ∧ Keep K F.S0 F.H0 S H ∧ w ς S R (fun c S' => F.XE c ς S') ∧
  ∀ b S' H', R b S' → Rel K S' H' → Keep K S H S' H' → Q b H'
def tA (w : WpA) : TA := fun σ H Q => ∃ (ς : En) (S : Sto) (R : List D → Sto → Prop), Good K ς S σ H ∧ Keep K F.S0 F.H0 S H ∧ w ς S R (fun c S' => F.XE c ς S') ∧
  ∀ xs S' vs H', R xs S' → Rel K S' H' → Keep K S H S' H' → RepL K S' H' xs vs → Q vs H'
end
def WE (X : Cx) (F : Fr) (e : Expr) (w : WpE) : Prop := PE X e (tE X.K F w)
def WT (X : Cx) (F : Fr) (e : Expr) (w : WpT) : Prop := PT X e (tT X.K F w)
def WA (X : Cx) (F : Fr) (es : List Expr) (w : WpA) : Prop := PA X es (tA X.K F w)
section
variable {X : Cx} {F : Fr}
theorem _root_.L2.PE.imp {e : Expr} {t t' : TE} (h : PE X e t) (i : ∀ σ H Q, t' σ H Q → t σ H Q) : PE X e t' := ⟨fun pins s σ H Q I q => h.run pins s σ H Q I (i σ H Q q)⟩
theorem _root_.L2.PT.imp {e : Expr} {t t' : TT} (h : PT X e t) (i : ∀ σ H Q, t' σ H Q → t σ H Q) : PT X e t' := ⟨fun pins s σ H Q I q => h.run pins s σ H Q I (i σ H Q q)⟩
theorem _root_.L2.PW.imp {e : Expr} {t t' : TT} (h : PW X e t) (i : ∀ σ H Q, t' σ H Q → t σ H Q) : PW X e t' := ⟨fun wh pins s σ H Q I q => h.run wh pins s σ H Q I (i σ H Q q)⟩
theorem _root_.L2.PA.imp {es : List Expr} {t t' : TA} (h : PA X es t) (i : ∀ σ H Q, t' σ H Q → t σ H Q) : PA X es t' := ⟨fun pos pins s σ H Q I q => h.run pos pins s σ H Q I (i σ H Q q)⟩
theorem _root_.L2.PS.imp {st : Stmt} {t t' : TS} (h : PS X st t) (i : ∀ D σ H, t' D σ H → t D σ H) : PS X st t' := ⟨fun pins s σ H D I q => h.run pins s σ H D I (i D σ H q)⟩
theorem _root_.L2.PSs.imp {st : List Stmt} {t t' : TS} (h : PSs X st t) (i : ∀ D σ H, t' D σ H → t D σ H) : PSs X st t' := ⟨fun pins s σ H D I q => h.run pins s σ H D I (i D σ H q)⟩
theorem _root_.L2.PE.or {e : Expr} {t t' : TE} (h : PE X e t) (h' : PE X e t') : PE X e (fun σ H Q => t σ H Q ∨ t' σ H Q) := ⟨fun pins s σ H Q I q => q.elim (h.run pins s σ H Q I) (h'.run pins s σ H Q I)⟩
theorem _root_.L2.PS.or {e : Stmt} {t t' : TS} (h : PS X e t) (h' : PS X e t') : PS X e (fun D σ H => t D σ H ∨ t' D σ H) := ⟨fun pins s σ H Q I q => q.elim (h.run pins s σ H Q I) (h'.run pins s σ H Q I)⟩
/-- a reading from a wish in another form: the way all rules are used -/
theorem tE.step {w : WpE} {t : TE} (h : ∀ (ς : En) (S : Sto) (R : Pd) (σ : St) (H : Hp) (Q : VK), Good X.K ς S σ H → Keep X.K F.S0 F.H0 S H → w ς S R (fun c S' => F.XE c ς S') →
    (∀ x S' v H', R x S' → Rel X.K S' H' → Keep X.K S H S' H' → Rep X.K S' H' x v → Q v H') → t σ H Q) : ∀ σ H Q, tE X.K F w σ H Q → t σ H Q :=
  fun σ H Q ⟨ς, S, R, g, k, hw, hR⟩ => h ς S R σ H Q g k hw hR
theorem tE.mk {K : PySem.W.Frag} {w : WpE} {ς : En} {S : Sto} {R : Pd} {σ : St} {H : Hp} {Q : VK} (g : Good K ς S σ H) (k : Keep K F.S0 F.H0 S H) (hw : w ς S R (fun c S' => F.XE c ς S'))
    (hR : ∀ x S' v H', R x S' → Good K ς S' σ H' → Keep K F.S0 F.H0 S' H' → Keep K S H S' H' → Rep K S' H' x v → Q v H') : tE K F w σ H Q :=
  ⟨ς, S, R, g, k, hw, fun x S' v H' q r k' p => hR x S' v H' q (g.keep r k') (k.trans k') k' p⟩
theorem tT.mk {K : PySem.W.Frag} {w : WpT} {ς : En} {S : Sto} {R : Bool → Sto → Prop} {σ : St} {H : Hp} {Q : Bool → Hp → Prop} (g : Good K ς S σ H) (k : Keep K F.S0 F.H0 S H) (hw : w ς S R (fun c S' => F.XE c ς S'))
    (hR : ∀ x S' H', R x S' → Good K ς S' σ H' → Keep K F.S0 F.H0 S' H' → Keep K S H S' H' → Q x H') : tT K F w σ H Q :=
  ⟨ς, S, R, g, k, hw, fun x S' H' q r k' => hR x S' H' q (g.keep r k') (k.trans k') k'⟩
theorem tA.mk {K : PySem.W.Frag} {w : WpA} {ς : En} {S : Sto} {R : List D → Sto → Prop} {σ : St} {H : Hp} {Q : List V → Hp → Prop} (g : Good K ς S σ H) (k : Keep K F.S0 F.H0 S H) (hw : w ς S R (fun c S' => F.XE c ς S'))
    (hR : ∀ x S' v H', R x S' → Good K ς S' σ H' → Keep K F.S0 F.H0 S' H' → Keep K S H S' H' → RepL K S' H' x v → Q v H') : tA K F w σ H Q :=
  ⟨ς, S, R, g, k, hw, fun x S' v H' q r k' p => hR x S' v H' q (g.keep r k') (k.trans k') k' p⟩
end

/-! ### names, constants -/
def wVar (i : Nat) : WpE := fun ς S R _ => ∃ x, ς[i]? = some (some x) ∧ R x S
def wC (d : D) : WpE := fun _ S R _ => R d S
section
variable {X : Cx} {F : Fr} {pos : Pos}
theorem we_var {i : Nat} {x : Str} (hN : X.N[i]? = some x) (hv : Vis X.env.scope x) (hd : (x == ("__debug__" : Str)) = false) (hcd : (x == ("__classdict__" : Str)) = false) : WE X F (.Name x pos) (wVar i) :=
  (pe_var hN hv hd hcd).imp (tE.step fun ς S R σ H Q g k hw hR => by
    obtain ⟨x, e, q⟩ := hw
    obtain ⟨v, h1, h2⟩ := g.var i x e
    exact ⟨v, h1, hR x S v H q g.rel .refl h2⟩)
theorem we_c {e : Expr} {v : V} {d : D} (h : PE X e (tC v)) (r : ∀ S H, Rep X.K S H d v) : WE X F e (wC d) :=
  h.imp (tE.step fun ς S R σ H Q g k hw hR => hR d S v H hw g.rel .refl (r S H))
theorem we_int {i j} : WE X F (.Constant (.int i) j pos) (wC (.int i)) := we_c pe_int fun _ _ => .int i
theorem we_bl {b j} : WE X F (.Constant (.bool b) j pos) (wC (.bl b)) := we_c pe_bl fun _ _ => .bl b
theorem we_non {j} : WE X F (.Constant .none j pos) (wC .non) := we_c pe_non fun _ _ => .non
theorem we_str {x j} : WE X F (.Constant (.str x) j pos) (wC (.str x)) := we_c pe_str fun _ _ => .str x
theorem we_globI {x : Str} {i : Int} {u : Value} (hg : Gl X x) (hm : X.mg x = some u) (r : RelV (.int i) u) (hd : (x == ("__debug__" : Str)) = false) : WE X F (.Name x pos) (wC (.int i)) := we_c (pe_glob hg hm r hd) fun _ _ => .int i
theorem we_globS {x z : Str} {u : Value} (hg : Gl X x) (hm : X.mg x = some u) (r : RelV (.str z) u) (hd : (x == ("__debug__" : Str)) = false) : WE X F (.Name x pos) (wC (.str z)) := we_c (pe_glob hg hm r hd) fun _ _ => .str z
end

/-! ### operators by values -/
/-- what an operator's rule asks, from what is asked of data -/
def OpD (K : PySem.W.Frag) (r : R2) (f : D → D → Sto → Pd → Prop) : Prop :=
  ∀ x y v u S H (R : Pd) (Q : VK), Rel K S H → Rep K S H x v → Rep K S H y u → f x y S R → (∀ z S' v' H', R z S' → Rel K S' H' → Keep K S H S' H' → Rep K S' H' z v' → Q v' H') → r v u H Q
def wOp (f : D → D → Sto → Pd → Prop) (wa wb : WpE) : WpE := fun ς S R RE => wa ς S (fun x S1 => wb ς S1 (fun y S2 => f x y S2 R) RE) RE
section
variable {X : Cx} {F : Fr} {pos : Pos} {a b : Expr} {wa wb : WpE} {r : R2} {f : D → D → Sto → Pd → Prop}
theorem two_ok {K : PySem.W.Frag} (hd : OpD K r f) {σ : St} {H : Hp} {Q : VK} (h : tE K F (wOp f wa wb) σ H Q) : tOp r (tE K F wa) (tE K F wb) σ H Q := by
  obtain ⟨ς, S, R, g, k, hw, hR⟩ := h
  refine tE.mk g k hw fun x S1 v H1 h1 g1 k1 d1 r1 => tE.mk g1 k1 h1 fun y S2 u H2 h2 g2 k2 d2 r2 => ?_
  exact hd x y v u S2 H2 R Q g2.rel (d2 _ _ r1) r2 h2 fun z S3 v' H3 h3 r3 k3 p3 => hR z S3 v' H3 h3 r3 ((d1.trans d2).trans k3) p3
theorem we_op {op : Operator} (ho : OpR X (binaryOp op) r) (hd : OpD X.K r f) (ha : WE X F a wa) (hb : WE X F b wb) : WE X F (.BinOp a op b pos) (wOp f wa wb) :=
  (pe_op ho ha hb).imp fun _ _ _ h => two_ok hd h
end
/-- pure on data -/
def fP (g : D → D → Option D) : D → D → Sto → Pd → Prop := fun x y S R => ∃ z, g x y = some z ∧ R z S
/-- the list that a value is -/
def lstOf (S : Sto) : D → Option (List D)
  | .lst l => some l
  | .ref a => (match S a with
    | some (.lst l) => some l
    | _ => none)
  | _ => none
/-- a new list: one's own to write, or data -/
def mkL (own : Bool) (l : List D) (S : Sto) (R : Pd) : Prop := l.length ≤ sizeLine ∧ match own with
  | true => ∀ p, S p = none → R (.ref p) (S.set p (.lst l))
  | false => R (.lst l) S
theorem lstOf_rep {K : PySem.W.Frag} {S : Sto} {H : Hp} {x : D} {v : V} {l : List D} (r : Rep K S H x v) (q : Rel K S H) (e : lstOf S x = some l) : ∃ a vs, v = .ref a ∧ H a = some (.lst vs) ∧ RepL K S H l vs ∧ l.length ≤ sizeLine := by
  cases r with
  | lst h n z r => cases e; exact ⟨_, _, rfl, h, r, z⟩
  | ref a =>
    unfold lstOf at e
    dsimp only at e
    cases h : S a with
    | none => rw [h] at e; cases e
    | some o =>
      rw [h] at e
      cases o with
      | lst l' => cases e; obtain ⟨z, vs, h1, h2⟩ := q a _ h; exact ⟨_, _, rfl, h1, h2, z⟩
      | _ => cases e
  | _ => cases e
theorem mkL_ok {K : PySem.W.Frag} {S : Sto} {H : Hp} {own : Bool} {l : List D} {vs : List V} {R : Pd} {Q : VK} (q : Rel K S H) (h : mkL own l S R) (r : RepL K S H l vs)
    (hR : ∀ z S' v' H', R z S' → Rel K S' H' → Keep K S H S' H' → Rep K S' H' z v' → Q v' H') : vs.length ≤ sizeLine ∧ ∀ p, H p = none → Q (.ref p) (upd H p (.lst vs)) := by
  obtain ⟨z, h⟩ := h
  refine ⟨by rw [← r.length]; exact z, fun p hp => ?_⟩
  cases own with
  | true => exact hR _ _ _ _ (h p (q.fresh hp)) (q.own hp ⟨z, vs, upd_same, (Keep.own hp).l r⟩) (Keep.own hp) (.ref p)
  | false => exact hR _ _ _ _ h (q.new hp) (Keep.new hp) (.lst upd_same (q.fresh hp) z ((Keep.new hp).l r))
theorem mkT_ok {K : PySem.W.Frag} {S : Sto} {H : Hp} {l : List D} {vs : List V} {R : Pd} {Q : VK} (q : Rel K S H) (z : l.length ≤ sizeLine) (h : R (.tup l) S) (r : RepL K S H l vs)
    (hR : ∀ z S' v' H', R z S' → Rel K S' H' → Keep K S H S' H' → Rep K S' H' z v' → Q v' H') : vs.length ≤ sizeLine ∧ ∀ p, H p = none → Q (.ref p) (upd H p (.tup vs)) :=
  ⟨by rw [← r.length]; exact z, fun p hp => hR _ _ _ _ h (q.new hp) (Keep.new hp) (.tup (.of upd_same) z ((Keep.new hp).l r))⟩
end SB
end

section
set_option Elab.async false
set_option linter.all false
set_option maxRecDepth 100000
set_option autoImplicit false
/-! SB2: operators, comparisons, tests. -/
namespace SB
open PySem PySem.Spec L2

/-! ### arithmetic -/
def fAdd (own : Bool) : D → D → Sto → Pd → Prop
  | .int i, .int j, S, R => R (.int (i + j)) S
  | .str a, .str b, S, R => a.length + b.length ≤ sizeLine ∧ R (.str (a ++ b)) S
  | .tup l, .tup m, S, R => l.length + m.length ≤ sizeLine ∧ R (.tup (l ++ m)) S
  | x, y, S, R => ∃ l m, lstOf S x = some l ∧ lstOf S y = some m ∧ mkL own (l ++ m) S R
def fSub : D → D → Sto → Pd → Prop
  | .int i, .int j, S, R => R (.int (i - j)) S
  | _, _, _, _ => False
def fMul (own : Bool) : D → D → Sto → Pd → Prop
  | .int i, .int j, S, R => CMul i j ∧ R (.int (i * j)) S
  | x, .int k, S, R => ∃ l, lstOf S x = some l ∧ (-(2 ^ 63) ≤ k ∧ k < 2 ^ 63) ∧ mkL own (List.replicate k.toNat l).flatten S R
  | _, _, _, _ => False
def fDiv : D → D → Sto → Pd → Prop
  | .int i, .int j, S, R => (0 < j ∧ j.natAbs.log2 < 9000) ∧ R (.int (i / j)) S
  | _, _, _, _ => False
def fMod : D → D → Sto → Pd → Prop
  | .int i, .int j, S, R => 0 < j ∧ R (.int (i % j)) S
  | _, _, _, _ => False
def fPow : D → D → Sto → Pd → Prop
  | .int i, .int j, S, R => CPow i j ∧ R (.int (i ^ j.toNat)) S
  | _, _, _, _ => False
abbrev rAddS2 : R2 := fun x y H Q => ∃ i j, x = .str i ∧ y = .str j ∧ i.length + j.length ≤ sizeLine ∧ Q (.str (i ++ j)) H
abbrev rAddI2 : R2 := rI0 fun i j => .int (i + j)
section
variable {K : PySem.W.Frag} {S : Sto} {H : Hp}
theorem Rep.tup_inv {l : List D} {v : V} (r : Rep K S H (.tup l) v) : ∃ a vs, v = .ref a ∧ SqT K H a vs ∧ l.length ≤ sizeLine ∧ RepL K S H l vs := by
  cases r with
  | tup h n r => exact ⟨_, _, rfl, h, n, r⟩
theorem tupCat {l m : List D} {v u : V} {R : Pd} {Q : VK} (q : Rel K S H) (rx : Rep K S H (.tup l) v) (ry : Rep K S H (.tup m) u) (z : l.length + m.length ≤ sizeLine) (h : R (.tup (l ++ m)) S)
    (hR : ∀ z S' v' H', R z S' → Rel K S' H' → Keep K S H S' H' → Rep K S' H' z v' → Q v' H') : rCatA K v u H Q := by
  obtain ⟨a, vs, rfl, h1, n1, r1⟩ := rx.tup_inv
  obtain ⟨b, us, rfl, h2, n2, r2⟩ := ry.tup_inv
  have e1 := r1.length
  have e2 := r2.length
  refine ⟨a, b, vs, us, rfl, rfl, h1, h2, by omega, fun e => ?_, fun e e' => ?_, fun e e' p hp => ?_⟩
  · subst e
    have : l = [] := List.length_eq_zero_iff.mp (by simpa using e1)
    subst this
    exact hR _ S _ H h q .refl (by simpa using Rep.tup h2 n2 r2)
  · subst e'
    have : m = [] := List.length_eq_zero_iff.mp (by simpa using e2)
    subst this
    exact hR _ S _ H h q .refl (by simpa using Rep.tup h1 n1 r1)
  · exact hR _ _ _ _ h (q.new hp) (Keep.new hp) (.tup (.of upd_same) (by simpa using z) ((Keep.new hp).l (r1.append r2)))
theorem od_add {own : Bool} : OpD K (fun x y H Q => rAddI2 x y H Q ∨ rAddS2 x y H Q ∨ rCatA K x y H Q ∨ rCat x y H Q) (fAdd own) := by
  intro x y v u S H R Q q rx ry h hR
  unfold fAdd at h
  split at h
  · cases rx; cases ry
    exact .inl ⟨_, _, rfl, rfl, hR _ S _ H h q .refl (.int _)⟩
  · cases rx; cases ry
    exact .inr (.inl ⟨_, _, rfl, rfl, h.1, hR _ S _ H h.2 q .refl (.str _)⟩)
  · exact .inr (.inr (.inl (tupCat q rx ry h.1 h.2 hR)))
  · obtain ⟨l, m, e1, e2, h⟩ := h
    obtain ⟨a, vs, rfl, h1, r1, n1⟩ := lstOf_rep rx q e1
    obtain ⟨b, us, rfl, h2, r2, n2⟩ := lstOf_rep ry q e2
    obtain ⟨z, k⟩ := mkL_ok q h (r1.append r2) hR
    exact .inr (.inr (.inr ⟨a, b, vs, us, rfl, rfl, h1, h2, by simpa using z, k⟩))
theorem od_sub : OpD K (rI0 fun i j => .int (i - j)) fSub := by
  intro x y v u S H R Q q rx ry h hR
  unfold fSub at h
  split at h
  · cases rx; cases ry
    exact ⟨_, _, rfl, rfl, hR _ S _ H h q .refl (.int _)⟩
  · exact h.elim
theorem od_mul {own : Bool} : OpD K (fun x y H Q => (rI CMul fun i j => .int (i * j)) x y H Q ∨ rRep x y H Q) (fMul own) := by
  intro x y v u S H R Q q rx ry h hR
  unfold fMul at h
  split at h
  · cases rx; cases ry
    exact .inl ⟨_, _, rfl, rfl, h.1, hR _ S _ H h.2 q .refl (.int _)⟩
  · cases ry
    obtain ⟨l, e1, hk, h⟩ := h
    obtain ⟨a, vs, rfl, h1, r1, n1⟩ := lstOf_rep rx q e1
    rename_i k _
    obtain ⟨z, kk⟩ := mkL_ok q h (r1.flatRep k.toNat) hR
    refine .inr ⟨a, _, vs, rfl, rfl, h1, hk.1, hk.2, ?_, kk⟩
    simpa [Nat.mul_comm] using z
  · exact h.elim
theorem od_div : OpD K (rI CDivW fun i j => .int (i / j)) fDiv := by
  intro x y v u S H R Q q rx ry h hR
  unfold fDiv at h
  split at h
  · cases rx; cases ry
    exact ⟨_, _, rfl, rfl, h.1, hR _ S _ H h.2 q .refl (.int _)⟩
  · exact h.elim
theorem od_mod : OpD K (rI (fun _ j => 0 < j) fun i j => .int (i % j)) fMod := by
  intro x y v u S H R Q q rx ry h hR
  unfold fMod at h
  split at h
  · cases rx; cases ry
    exact ⟨_, _, rfl, rfl, h.1, hR _ S _ H h.2 q .refl (.int _)⟩
  · exact h.elim
theorem od_pow : OpD K (rI CPow fun i j => .int (i ^ j.toNat)) fPow := by
  intro x y v u S H R Q q rx ry h hR
  unfold fPow at h
  split at h
  · cases rx; cases ry
    exact ⟨_, _, rfl, rfl, h.1, hR _ S _ H h.2 q .refl (.int _)⟩
  · exact h.elim
end
section
variable {X : Cx} {F : Fr} {pos : Pos} {a b : Expr} {wa wb : WpE}
theorem we_add {own : Bool} (ha : WE X F a wa) (hb : WE X F b wb) : WE X F (.BinOp a .Add b pos) (wOp (fAdd own) wa wb) :=
  we_op (op_add.or (op_add_str.or (op_catA.or op_cat))) od_add ha hb
theorem we_sub (ha : WE X F a wa) (hb : WE X F b wb) : WE X F (.BinOp a .Sub b pos) (wOp fSub wa wb) := we_op op_sub od_sub ha hb
theorem we_mul {own : Bool} (ha : WE X F a wa) (hb : WE X F b wb) : WE X F (.BinOp a .Mult b pos) (wOp (fMul own) wa wb) := we_op (op_mul.or op_rep) od_mul ha hb
theorem we_div (ha : WE X F a wa) (hb : WE X F b wb) : WE X F (.BinOp a .FloorDiv b pos) (wOp fDiv wa wb) := we_op op_fdivW od_div ha hb
theorem we_mod (ha : WE X F a wa) (hb : WE X F b wb) : WE X F (.BinOp a .Mod b pos) (wOp fMod wa wb) := we_op op_mod od_mod ha hb
theorem we_pow (ha : WE X F a wa) (hb : WE X F b wb) : WE X F (.BinOp a .Pow b pos) (wOp fPow wa wb) := we_op op_pow od_pow ha hb
def wUn (f : D → Sto → Pd → Prop) (wa : WpE) : WpE := fun ς S R RE => wa ς S (fun x S1 => f x S1 R) RE
def fNeg : D → Sto → Pd → Prop
  | .int i, S, R => R (.int (-i)) S
  | _, _, _ => False
theorem we_neg (ha : WE X F a wa) : WE X F (.UnaryOp .USub a pos) (wUn fNeg wa) :=
  (pe_un un_neg ha).imp fun σ H Q h => by
    obtain ⟨ς, S, R, g, k, hw, hR⟩ := h
    refine tE.mk g k hw fun x S1 v H1 h1 g1 k1 d1 r1 => ?_
    unfold fNeg at h1
    split at h1
    · cases r1
      exact ⟨_, rfl, hR _ S1 _ H1 h1 g1.rel d1 (.int _)⟩
    · exact h1.elim
end

/-! ### comparisons -/
mutual
def pyD : D → PyData
  | .non => .none
  | .bl b => .bool b
  | .int i => .int i
  | .str x => .str x
  | .tup l => .tuple (pyL l)
  | .lst l => .list (pyL l)
  | .scr l => .list (pyL l)
  | .dct _ => .dict []
  | .ins _ _ => .dict []
  | .ref _ => .dict []
  | .exc _ => .dict []
def pyL : List D → List PyData
  | [] => []
  | x :: r => pyD x :: pyL r
end
/-- plain data, not too deep -/
def okD (x : D) : Bool := SeqAt.shaped (pyD x)
def dEq (x y : D) : Bool := PyData.eqv (pyD x) (pyD y)
/-- an owned list as data -/
def view (S : Sto) (x : D) : D := match x with
  | .ref a => (match S a with
    | some (.lst l) => .lst l
    | _ => .ref a)
  | x => x
theorem KLst.sq {K : PySem.W.Frag} {H : Hp} {a : Addr} {xs : List V} (h : KLst K a xs) : SqL K H a xs := .inr h
mutual
theorem rep_dp {K : PySem.W.Frag} {S : Sto} {H : Hp} : ∀ {x : D} {v : V}, Rep K S H x v → (pyD x).canLay0 = true → Dp K H v (pyD x)
  | _, _, .non, _ => .non
  | _, _, .bl b, _ => .bl b
  | _, _, .int i, _ => .int i
  | _, _, .str x, _ => .str x
  | _, _, .tup h _ r, e => .tup h (repL_dp r (by simpa [pyD, PyData.canLay0] using e))
  | _, _, .lst h _ _ r, e => .lst (.of h) (repL_dp r (by simpa [pyD, PyData.canLay0] using e))
  | _, _, .scr h _ _ r, e => .lst (.inl h) (repL_dp r (by simpa [pyD, PyData.canLay0] using e))
  | _, _, .scrK h _ r, e => .lst h.sq (repL_dp r (by simpa [pyD, PyData.canLay0] using e))
  | _, _, .dct _ _ _ _, e => by simp [pyD, PyData.canLay0] at e
  | _, _, .ins _ _ _ _, e => by simp [pyD, PyData.canLay0] at e
  | _, _, .ref _, e => by simp [pyD, PyData.canLay0] at e
theorem repL_dp {K : PySem.W.Frag} {S : Sto} {H : Hp} : ∀ {l : List D} {vs : List V}, RepL K S H l vs → PyData.canLayAll0 (pyL l) = true → DpAll K H vs (pyL l)
  | _, _, .nil, _ => .nil
  | _, _, .cons r t, e => by
    simp only [pyL, PyData.canLayAll0, Bool.and_eq_true] at e
    exact .cons (rep_dp r e.1) (repL_dp t e.2)
end
theorem view_dp {K : PySem.W.Frag} {S : Sto} {H : Hp} {x : D} {v : V} (r : Rep K S H x v) (q : Rel K S H) (e : okD (view S x) = true) : Dp K H v (pyD (view S x)) := by
  have e' := SeqAt.canLay_of_shaped e
  cases x with
  | ref a =>
    cases r
    unfold view at e' ⊢
    dsimp only at e' ⊢
    cases h : S a with
    | none => rw [h] at e'; simp [pyD, PyData.canLay0] at e'
    | some o =>
      rw [h] at e'
      cases o with
      | lst l =>
        obtain ⟨z, vs, h1, h2⟩ := q a _ h
        exact .lst (.of h1) (repL_dp h2 (by simpa [pyD, PyData.canLay0] using e'))
      | dct l => simp [pyD, PyData.canLay0] at e'
      | ins c l => simp [pyD, PyData.canLay0] at e'
      | lck l => simp [pyD, PyData.canLay0] at e'
  | _ => exact rep_dp r e'
def fEq (neg : Bool) (x y : D) (S : Sto) (R : Pd) : Prop := okD (view S x) = true ∧ okD (view S y) = true ∧ R (.bl (neg ^^ dEq (view S x) (view S y))) S
def fCmp (p : Int → Int → Bool) : D → D → Sto → Pd → Prop
  | .int i, .int j, S, R => R (.bl (p i j)) S
  | _, _, _, _ => False
def fIs (neg : Bool) : D → D → Sto → Pd → Prop
  | .ref _, .non, _, _ => False
  | .exc _, .non, _, _ => False
  | .non, .non, S, R => R (.bl (!neg)) S
  | _, .non, S, R => R (.bl neg) S
  | .bl a, .bl b, S, R => R (.bl (neg ^^ (a == b))) S
  | _, _, _, _ => False
/-- a key -/
def keyOf : D → Option Key
  | .int i => some (.inl i)
  | .str x => some (.inr x)
  | _ => none
def dctOf (S : Sto) : D → Option (List (Key × D))
  | .dct l => some l
  | .ref a => (match S a with
    | some (.dct l) => some l
    | some (.lck l) => some l
    | _ => none)
  | _ => none
/-- what is at a key -/
def lookK (k : Key) : List (Key × D) → Option D
  | [] => none
  | (j, x) :: r => if j = k then some x else lookK k r
def flatD : D → Bool
  | .non => true | .bl _ => true | .int _ => true | .str _ => true
  | _ => false
/-- what in asks: a dict's keys; a text's signs; a list's, a tuple's items -/
inductive Cont where
  | d (l : List (Key × D)) | s (z : Str) | l (l : List D) | t (l : List D) | no
def contOf (S : Sto) : D → Cont
  | .dct l => .d l
  | .str z => .s z
  | .lst l => .l l
  | .scr l => .l l
  | .tup l => .t l
  | .ref a => (match S a with
    | some (.dct l) => .d l
    | some (.lck l) => .d l
    | some (.lst l) => .l l
    | _ => .no)
  | _ => .no
def fIn (neg : Bool) (x y : D) (S : Sto) (R : Pd) : Prop := match contOf S y with
  | .d l => ∃ k, keyOf x = some k ∧ R (.bl (neg ^^ (lookK k l).isSome)) S
  | .s z => ∃ c : Nat, x = .str ⟨#[c]⟩ ∧ R (.bl (neg ^^ decide (c ∈ z.cps.toList))) S
  | .l l => okD (.lst l) = true ∧ okD x = true ∧ R (.bl (neg ^^ l.any (fun z => dEq z x))) S
  | .t l => l.all flatD = true ∧ flatD x = true ∧ R (.bl (neg ^^ l.any (fun z => dEq z x))) S
  | .no => False
theorem RepK.look {K : PySem.W.Frag} {S : Sto} {H : Hp} {k : Key} : ∀ {l : List (Key × D)} {vs : List (Key × V)}, RepK K S H l vs → match lookK k l with
    | some x => ∃ v, valV vs k = some v ∧ Rep K S H x v
    | none => valV vs k = none
  | _, _, .nil => by show valV [] k = none; rfl
  | _, _, .cons (k := j) (d := d) (v := v) (l := l) (vs := vs) r t => by
    have ih := RepK.look (k := k) t
    by_cases h : j = k
    · subst h
      have e1 : lookK j ((j, d) :: l) = some d := by simp [lookK]
      have e2 : valV ((j, v) :: vs) j = some v := by simp [valV]
      rw [e1]
      exact ⟨v, e2, r⟩
    · have e1 : lookK k ((j, d) :: l) = lookK k l := by simp [lookK, h]
      have e2 : valV ((j, v) :: vs) k = valV vs k := by simp [valV, h]
      rw [e1, e2]
      exact ih
theorem dctOf_rep {K : PySem.W.Frag} {S : Sto} {H : Hp} {x : D} {v : V} {l : List (Key × D)} (r : Rep K S H x v) (q : Rel K S H) (e : dctOf S x = some l) : ∃ a vs, v = .ref a ∧ Rd H a (.dK vs) ∧ RepK K S H l vs ∧ l.length ≤ sizeLine := by
  cases r with
  | dct h n z r => cases e; exact ⟨_, _, rfl, h, r, z⟩
  | ref a =>
    unfold dctOf at e
    dsimp only at e
    cases h : S a with
    | none => rw [h] at e; cases e
    | some o =>
      rw [h] at e
      cases o with
      | dct l' => cases e; obtain ⟨z, vs, h1, h2⟩ := q a _ h; exact ⟨_, _, rfl, .inl h1, h2, z⟩
      | lck l' => cases e; obtain ⟨z, o, vs, h1, h2⟩ := q a _ h; exact ⟨_, _, rfl, .inr ⟨o, h1⟩, h2, z⟩
      | lst l' => cases e
      | ins c l' => cases e
  | _ => cases e
theorem keyOf_rep {K : PySem.W.Frag} {S : Sto} {H : Hp} {x : D} {v : V} {k : Key} (r : Rep K S H x v) (e : keyOf x = some k) : v = kV k := by
  cases r <;> cases e <;> rfl
theorem RepK.isSome {K : PySem.W.Frag} {S : Sto} {H : Hp} {k : Key} {l : List (Key × D)} {vs : List (Key × V)} (r : RepK K S H l vs) : (valV vs k).isSome = (lookK k l).isSome := by
  have h := r.look (k := k)
  cases e : lookK k l with
  | some x => rw [e] at h; obtain ⟨v, h1, _⟩ := h; rw [h1]; rfl
  | none => rw [e] at h; rw [show valV vs k = none from h]; rfl
section
variable {X : Cx}
def rDin (neg : Bool) : R2 := fun y x H Q => ∃ a o, x = .ref a ∧ DGet H a y o ∧ Q (.bl (if neg then !o.isSome else o.isSome)) H
theorem op_din (hu : X.A.units + 1 < cLine) : OpR X (compareOp .In) (rDin false) := by
  intro pins s σ H y x u v Q I ry rx h
  obtain ⟨a, o, rfl, g, q⟩ := h
  cases rx
  exact d_in hu I g ry fun s3 I3 => ⟨.bl o.isSome, H, I3, rfl, q⟩
theorem op_dnotin (hu : X.A.units + 1 < cLine) : OpR X (compareOp .NotIn) (rDin true) := by
  intro pins s σ H y x u v Q I ry rx h
  obtain ⟨a, o, rfl, g, q⟩ := h
  cases rx
  exact d_notIn hu I g ry fun s3 I3 => ⟨.bl (!o.isSome), H, I3, rfl, q⟩
end
section
variable {K : PySem.W.Frag}
theorem od_eq : OpD K (rEqD K) (fEq false) := by
  intro x y v u S H R Q q rx ry h hR
  obtain ⟨o1, o2, h⟩ := h
  rw [Bool.false_xor] at h
  exact ⟨_, _, view_dp rx q o1, view_dp ry q o2, o1, o2, hR _ S _ H h q .refl (.bl _)⟩
theorem od_ne : OpD K (rNeD K) (fEq true) := by
  intro x y v u S H R Q q rx ry h hR
  obtain ⟨o1, o2, h⟩ := h
  rw [Bool.true_xor] at h
  exact ⟨_, _, view_dp rx q o1, view_dp ry q o2, o1, o2, hR _ S _ H h q .refl (.bl _)⟩
theorem od_cmp {p : Int → Int → Bool} : OpD K (rI0 fun i j => .bl (p i j)) (fCmp p) := by
  intro x y v u S H R Q q rx ry h hR
  unfold fCmp at h
  split at h
  · cases rx; cases ry
    exact ⟨_, _, rfl, rfl, hR _ S _ H h q .refl (.bl _)⟩
  · exact h.elim
theorem od_is : OpD K (fun x y H Q => (y = .non ∧ Q (.bl (decide (x = .non))) H) ∨ rIsB x y H Q) (fIs false) := by
  intro x y v u S H R Q q rx ry h hR
  unfold fIs at h
  split at h
  · exact h.elim
  · exact h.elim
  · cases rx; cases ry
    exact .inl ⟨rfl, hR _ S _ H h q .refl (.bl _)⟩
  · cases ry
    refine .inl ⟨rfl, ?_⟩
    have e : decide (v = V.non) = false := by
      cases rx <;> first | rfl | (exact absurd rfl (by assumption))
    rw [e]
    exact hR _ S _ H h q .refl (.bl _)
  · cases rx; cases ry
    rename_i a b
    refine .inr ⟨a, b, rfl, rfl, ?_⟩
    have e : decide (a = b) = (a == b) := by cases a <;> cases b <;> rfl
    rw [e]
    rw [Bool.false_xor] at h
    exact hR _ S _ H h q .refl (.bl _)
  · exact h.elim
theorem od_isnot : OpD K (fun x y H Q => (y = .non ∧ Q (.bl (!decide (x = .non))) H) ∨ rNotB x y H Q) (fIs true) := by
  intro x y v u S H R Q q rx ry h hR
  unfold fIs at h
  split at h
  · exact h.elim
  · exact h.elim
  · cases rx; cases ry
    exact .inl ⟨rfl, hR _ S _ H h q .refl (.bl _)⟩
  · cases ry
    refine .inl ⟨rfl, ?_⟩
    have e : decide (v = V.non) = false := by
      cases rx <;> first | rfl | (exact absurd rfl (by assumption))
    rw [e]
    exact hR _ S _ H h q .refl (.bl _)
  · cases rx; cases ry
    rename_i a b
    refine .inr ⟨a, b, rfl, rfl, ?_⟩
    have e : decide (a = b) = (a == b) := by cases a <;> cases b <;> rfl
    rw [e]
    rw [Bool.true_xor] at h
    exact hR _ S _ H h q .refl (.bl _)
  · exact h.elim
theorem flat_rep {S : Sto} {H : Hp} {x : D} {v : V} (r : Rep K S H x v) (e : flatD x = true) : flatV v = true ∧ ∀ y u, Rep K S H y u → flatD y = true → eqV v u = dEq x y := by
  cases r with
  | non => exact ⟨rfl, fun y u r e => by cases r <;> first | rfl | cases e⟩
  | bl b => exact ⟨rfl, fun y u r e => by cases r <;> first | rfl | cases e⟩
  | int b => exact ⟨rfl, fun y u r e => by cases r <;> first | rfl | cases e⟩
  | str b => exact ⟨rfl, fun y u r e => by cases r <;> first | rfl | cases e⟩
  | _ => cases e
theorem flatL_rep {S : Sto} {H : Hp} {x : D} {v : V} (rx : Rep K S H x v) (e : flatD x = true) : ∀ {l : List D} {vs : List V}, RepL K S H l vs → l.all flatD = true → vs.all flatV = true ∧ inV v vs = l.any (fun z => dEq z x)
  | _, _, .nil, _ => ⟨rfl, rfl⟩
  | _, _, .cons r t, h => by
    simp only [List.all_cons, Bool.and_eq_true] at h
    obtain ⟨i1, i2⟩ := flatL_rep rx e t h.2
    obtain ⟨j1, j2⟩ := flat_rep r h.1
    refine ⟨by simp [j1, i1], ?_⟩
    unfold inV at i2 ⊢
    rw [List.any_cons, List.any_cons, i2, j2 _ _ rx e]
theorem any_pyL (x : PyData) : ∀ l : List D, (pyL l).any (fun z => PyData.eqv z x) = l.any (fun z => PyData.eqv (pyD z) x)
  | [] => rfl
  | y :: l => by simp [pyL, any_pyL x l]
theorem listOf_rep {S : Sto} {H : Hp} {y : D} {v : V} {l : List D} (r : Rep K S H y v) (q : Rel K S H) (e : contOf S y = .l l) (ok : okD (.lst l) = true) : Dp K H v (.list (pyL l)) := by
  have e' := SeqAt.canLay_of_shaped ok
  cases r with
  | lst h n z r => cases e; exact .lst (.of h) (repL_dp r (by simpa [pyD, PyData.canLay0] using e'))
  | scr h n z r => cases e; exact .lst (.inl h) (repL_dp r (by simpa [pyD, PyData.canLay0] using e'))
  | scrK h z r => cases e; exact .lst h.sq (repL_dp r (by simpa [pyD, PyData.canLay0] using e'))
  | ref a =>
    unfold contOf at e
    dsimp only at e
    cases h : S a with
    | none => rw [h] at e; cases e
    | some o =>
      rw [h] at e
      cases o with
      | lst l' =>
        cases e
        obtain ⟨z, vs, h1, h2⟩ := q a _ h
        exact .lst (.of h1) (repL_dp h2 (by simpa [pyD, PyData.canLay0] using e'))
      | _ => cases e
  | _ => cases e
theorem dictOf_rep {S : Sto} {H : Hp} {y : D} {v : V} {l : List (Key × D)} (r : Rep K S H y v) (q : Rel K S H) (e : contOf S y = .d l) : ∃ a vs, v = .ref a ∧ Rd H a (.dK vs) ∧ RepK K S H l vs := by
  have e2 : dctOf S y = some l := by
    cases y with
    | dct l' => cases e; rfl
    | ref a =>
      unfold contOf at e
      unfold dctOf
      dsimp only at e ⊢
      cases h : S a with
      | none => rw [h] at e; cases e
      | some o => rw [h] at e; cases o <;> first | (cases e; rfl) | cases e
    | _ => cases e
  obtain ⟨a, vs, h1, h2, h3, _⟩ := dctOf_rep r q e2
  exact ⟨a, vs, h1, h2, h3⟩
abbrev rSgn (neg : Bool) : R2 := fun x y H Q => ∃ (c : Nat) (z : Str), x = .str ⟨#[c]⟩ ∧ y = .str z ∧ Q (.bl (if neg then !decide (c ∈ z.cps.toList) else decide (c ∈ z.cps.toList))) H
abbrev rInDn (K : PySem.W.Frag) (neg : Bool) : R2 := if neg then rNotInD K else rInD K
theorem od_in (neg : Bool) : OpD K (fun x y H Q => rDin neg x y H Q ∨ rSgn neg x y H Q ∨ rInDn K neg x y H Q ∨ rIn K neg x y H Q) (fIn neg) := by
  intro x y v u S H R Q q rx ry h hR
  unfold fIn at h
  split at h
  · rename_i l e
    obtain ⟨k, ek, h⟩ := h
    obtain ⟨a, vs, rfl, h1, r1⟩ := dictOf_rep ry q e
    have ev := keyOf_rep rx ek
    subst ev
    refine .inl ⟨a, valV vs k, rfl, .inl ⟨vs, k, h1, rfl, rfl⟩, ?_⟩
    rw [r1.isSome]
    have := hR _ S _ H h q .refl (.bl _)
    cases neg <;> simpa using this
  · rename_i z e
    obtain ⟨c, rfl, h⟩ := h
    cases rx
    cases ry <;> first
      | cases e
      | (exfalso; unfold contOf at e; dsimp only at e; split at e <;> cases e)
    refine .inr (.inl ⟨c, z, rfl, rfl, ?_⟩)
    have := hR _ S _ H h q .refl (.bl _)
    cases neg <;> simpa using this
  · rename_i l e
    obtain ⟨o1, o2, h⟩ := h
    refine .inr (.inr (.inl ?_))
    have d1 := listOf_rep ry q e o1
    have d2 := rep_dp rx (SeqAt.canLay_of_shaped o2)
    have := hR _ S _ H h q .refl (.bl _)
    cases neg with
    | false => exact ⟨_, _, d2, d1, o2, o1, by rw [any_pyL]; simpa [dEq] using this⟩
    | true => exact ⟨_, _, d2, d1, o2, o1, by rw [any_pyL]; simpa [dEq] using this⟩
  · rename_i l e
    obtain ⟨o1, o2, h⟩ := h
    refine .inr (.inr (.inr ?_))
    have ey : y = .tup l := by
      cases y with
      | tup l' => cases e; rfl
      | ref a => unfold contOf at e; dsimp only at e; split at e <;> cases e
      | _ => cases e
    subst ey
    obtain ⟨a, vs, rfl, h1, n1, r1⟩ := ry.tup_inv
    obtain ⟨i1, i2⟩ := flatL_rep rx o2 r1 o1
    obtain ⟨j1, _⟩ := flat_rep rx o2
    refine ⟨a, vs, rfl, .inr h1, j1, i1, ?_⟩
    rw [i2]
    have := hR _ S _ H h q .refl (.bl _)
    cases neg <;> simpa using this
  · exact h.elim
end

section
variable {X : Cx} {F : Fr} {pos : Pos} {a b c : Expr} {wa wb wc : WpE} {r r' : R2} {f f' : D → D → Sto → Pd → Prop}
/-- a value taken as a truth -/
def wB (w : WpE) : WpT := fun ς S R RE => w ς S (fun x S1 => ∃ b, x = .bl b ∧ R b S1) RE
theorem tB_ok {K : PySem.W.Frag} {w : WpE} {σ : St} {H : Hp} {Q : Bool → Hp → Prop} (h : tT K F (wB w) σ H Q) : tB (tE K F w) σ H Q := by
  obtain ⟨ς, S, R, g, k, hw, hR⟩ := h
  refine tE.mk g k hw fun x S1 v H1 h1 g1 k1 d1 r1 => ?_
  obtain ⟨b, rfl, h1⟩ := h1
  cases r1
  exact ⟨b, rfl, hR b S1 H1 h1 g1.rel d1⟩
theorem we_cmp {op : CmpOp} (ho : OpR X (compareOp op) r) (hd : OpD X.K r f) (ha : WE X F a wa) (hb : WE X F b wb) (hm : behindInMarks op b = false) : WE X F (.Compare a [op] [b] pos) (wOp f wa wb) :=
  (pe_cmpR ho ha hb hm).imp fun _ _ _ h => two_ok hd h
theorem wt_cmp {op : CmpOp} (ho : OpR X (compareOp op) r) (hd : OpD X.K r f) (ha : WE X F a wa) (hb : WE X F b wb) (hm : behindInMarks op b = false) : WT X F (.Compare a [op] [b] pos) (wB (wOp f wa wb)) :=
  (pt_cmpR ho ha hb hm).imp fun σ H Q h => by
    obtain ⟨ς, S, R, g, k, hw, hR⟩ := h
    have h2 : tE X.K F (wOp f wa wb) σ H (fun x H' => ∃ k, x = .bl k ∧ Q k H') := ⟨ς, S, _, g, k, hw, fun x S' v H' q r k' p => by
      obtain ⟨b, rfl, q⟩ := q
      cases p
      exact ⟨b, rfl, hR b S' H' q r k'⟩⟩
    exact two_ok hd h2
/-- a op b op' c -/
def wChain (f f' : D → D → Sto → Pd → Prop) (wa wb wc : WpE) : WpE := fun ς S R RE => wa ς S (fun x S1 => wb ς S1 (fun y S2 => f x y S2 fun z S3 => ∃ k, z = .bl k ∧
  (if k = true then wc ς S3 (fun u S4 => f' y u S4 R) RE else R (.bl false) S3)) RE) RE
theorem chain_ok {K : PySem.W.Frag} (hd : OpD K r f) (hd' : OpD K r' f') {σ : St} {H : Hp} {Q : VK} (h : tE K F (wChain f f' wa wb wc) σ H Q) : tChain r r' (tE K F wa) (tE K F wb) (tE K F wc) σ H Q := by
  obtain ⟨ς, S, R, g, k, hw, hR⟩ := h
  refine tE.mk g k hw fun x S1 v H1 h1 g1 k1 d1 r1 => tE.mk g1 k1 h1 fun y S2 u H2 h2 g2 k2 d2 r2 => ?_
  refine hd x y v u S2 H2 _ _ g2.rel (d2 _ _ r1) r2 h2 fun z S3 v' H3 h3 r3 k3 p3 => ?_
  obtain ⟨b, rfl, h3⟩ := h3
  cases p3
  refine ⟨b, rfl, ?_⟩
  have d3 := (d1.trans d2).trans k3
  cases b with
  | false => exact hR _ S3 _ H3 h3 r3 d3 (.bl _)
  | true =>
    refine tE.mk (g2.keep r3 k3) (k2.trans k3) h3 fun m S4 m' H4 h4 g4 k4 d4 r4 => ?_
    exact hd' y m u m' S4 H4 R Q g4.rel ((k3.trans d4) _ _ r2) r4 h4 fun z S5 v' H5 h5 r5 k5 p5 => hR z S5 v' H5 h5 r5 ((d3.trans d4).trans k5) p5
theorem we_chain {op op' : CmpOp} (ho : OpR X (compareOp op) r) (ho' : OpR X (compareOp op') r') (hd : OpD X.K r f) (hd' : OpD X.K r' f') (ha : WE X F a wa) (hb : WE X F b wb) (hc : WE X F c wc)
    (hm : lastMarks [op, op'] [b, c] = false) : WE X F (.Compare a [op, op'] [b, c] pos) (wChain f f' wa wb wc) :=
  (pe_chain ho ho' ha hb hc hm).imp fun _ _ _ h => chain_ok hd hd' h
theorem wt_chain {op op' : CmpOp} (ho : OpR X (compareOp op) r) (ho' : OpR X (compareOp op') r') (hd : OpD X.K r f) (hd' : OpD X.K r' f') (ha : WE X F a wa) (hb : WE X F b wb) (hc : WE X F c wc)
    (hm : lastMarks [op, op'] [b, c] = false) : WT X F (.Compare a [op, op'] [b, c] pos) (wB (wChain f f' wa wb wc)) :=
  (pt_chain ho ho' ha hb hc hm).imp fun σ H Q h => by
    obtain ⟨ς, S, R, g, k, hw, hR⟩ := h
    have h2 : tE X.K F (wChain f f' wa wb wc) σ H (fun x H' => ∃ k, x = .bl k ∧ Q k H') := ⟨ς, S, _, g, k, hw, fun x S' v H' q r k' p => by
      obtain ⟨b, rfl, q⟩ := q
      cases p
      exact ⟨b, rfl, hR b S' H' q r k'⟩⟩
    exact chain_ok hd hd' h2
/-- a value that is a truth, as a test -/
theorem wt_val (h : WE X F a wa) (he : ∀ whole, isTrue a X.env whole = (do let v ← whole; standAt a.pos; holding [v] (truthy v))) : WT X F a (wB wa) :=
  (pt_val h he).imp fun _ _ _ h => tB_ok h
/-! and, or, not, if else -/
def wAnd (wa wb : WpE) : WpE := fun ς S R RE => wa ς S (fun x S1 => ∃ b, x = .bl b ∧ if b = true then wb ς S1 R RE else R (.bl false) S1) RE
def wOr (wa wb : WpE) : WpE := fun ς S R RE => wa ς S (fun x S1 => ∃ b, x = .bl b ∧ if b = true then R (.bl true) S1 else wb ς S1 R RE) RE
def wNot (wa : WpE) : WpE := fun ς S R RE => wa ς S (fun x S1 => ∃ b, x = .bl b ∧ R (.bl (!b)) S1) RE
def wIte (wc wa wb : WpE) : WpE := fun ς S R RE => wc ς S (fun x S1 => ∃ b, x = .bl b ∧ if b = true then wa ς S1 R RE else wb ς S1 R RE) RE
variable {rest : List Expr}
theorem we_one {op : PySem.BoolOp} (h : WE X F a wa) : WE X F (.BoolOp op [a] pos) wa := pe_one h
theorem we_and (ha : WE X F a wa) (hb : WE X F (.BoolOp .And (b :: rest) pos) wb) : WE X F (.BoolOp .And (a :: b :: rest) pos) (wAnd wa wb) :=
  (pe_and ha hb).imp fun σ H Q h => by
    obtain ⟨ς, S, R, g, k, hw, hR⟩ := h
    refine tE.mk g k hw fun x S1 v H1 h1 g1 k1 d1 r1 => ?_
    obtain ⟨b, rfl, h1⟩ := h1
    cases r1
    refine ⟨b, rfl, ?_⟩
    cases b with
    | false => exact hR _ S1 _ H1 h1 g1.rel d1 (.bl _)
    | true => exact ⟨ς, S1, R, g1, k1, h1, fun x S' v H' q r k' p => hR x S' v H' q r (d1.trans k') p⟩
theorem we_or (ha : WE X F a wa) (hb : WE X F (.BoolOp .Or (b :: rest) pos) wb) : WE X F (.BoolOp .Or (a :: b :: rest) pos) (wOr wa wb) :=
  (pe_or ha hb).imp fun σ H Q h => by
    obtain ⟨ς, S, R, g, k, hw, hR⟩ := h
    refine tE.mk g k hw fun x S1 v H1 h1 g1 k1 d1 r1 => ?_
    obtain ⟨b, rfl, h1⟩ := h1
    cases r1
    refine ⟨b, rfl, ?_⟩
    cases b with
    | true => exact hR _ S1 _ H1 h1 g1.rel d1 (.bl _)
    | false => exact ⟨ς, S1, R, g1, k1, h1, fun x S' v H' q r k' p => hR x S' v H' q r (d1.trans k') p⟩
theorem we_not (ha : WE X F a wa) : WE X F (.UnaryOp .Not a pos) (wNot wa) :=
  (pe_not ha).imp fun σ H Q h => by
    obtain ⟨ς, S, R, g, k, hw, hR⟩ := h
    refine tE.mk g k hw fun x S1 v H1 h1 g1 k1 d1 r1 => ?_
    obtain ⟨b, rfl, h1⟩ := h1
    cases r1
    exact ⟨b, rfl, hR _ S1 _ H1 h1 g1.rel d1 (.bl _)⟩
theorem we_ite (hc : WT X F c (wB wc)) (ha : WE X F a wa) (hb : WE X F b wb) : WE X F (.IfExp c a b pos) (wIte wc wa wb) :=
  (pe_ifExp hc ha hb).imp fun σ H Q h => by
    obtain ⟨ς, S, R, g, k, hw, hR⟩ := h
    refine tT.mk (w := wB wc) (R := fun b S1 => if b = true then wa ς S1 R (fun c S' => F.XE c ς S') else wb ς S1 R (fun c S' => F.XE c ς S')) g k hw fun b S1 H1 h1 g1 k1 d1 => ?_
    cases b with
    | true => exact ⟨ς, S1, R, g1, k1, h1, fun x S' v H' q r k' p => hR x S' v H' q r (d1.trans k') p⟩
    | false => exact ⟨ς, S1, R, g1, k1, h1, fun x S' v H' q r k' p => hR x S' v H' q r (d1.trans k') p⟩
/-- .. as tests -/
def WW (X : Cx) (F : Fr) (e : Expr) (w : WpT) : Prop := PW X e (tT X.K F w)
theorem WW.wt {e : Expr} {w : WpT} (h : WW X F e w) : WT X F e w := h.pt
theorem ww_and1 (ha : WT X F a (wB wa)) : WW X F (.BoolOp .And [a] pos) (wB wa) := pw_and1 ha
theorem ww_or1 (ha : WT X F a (wB wa)) : WW X F (.BoolOp .Or [a] pos) (wB wa) := pw_or1 ha
theorem ww_and (ha : WT X F a (wB wa)) (hb : WW X F (.BoolOp .And (b :: rest) pos) (wB wb)) : WW X F (.BoolOp .And (a :: b :: rest) pos) (wB (wAnd wa wb)) :=
  (pw_and ha hb).imp fun σ H Q h => by
    obtain ⟨ς, S, R, g, k, hw, hR⟩ := h
    refine tT.mk (w := wB wa) (R := fun b S1 => if b = true then wB wb ς S1 R (fun c S' => F.XE c ς S') else R false S1) g k ?_ fun b S1 H1 h1 g1 k1 d1 => ?_
    · have e : (fun x S1 => ∃ b, x = D.bl b ∧ if b = true then wb ς S1 (fun x S1 => ∃ b, x = .bl b ∧ R b S1) (fun c S' => F.XE c ς S') else ∃ b, D.bl false = .bl b ∧ R b S1) =
        (fun x S1 => ∃ b, x = D.bl b ∧ if b = true then wB wb ς S1 R (fun c S' => F.XE c ς S') else R false S1) := by
        funext x S1
        refine propext ⟨fun ⟨b, e, h⟩ => ⟨b, e, ?_⟩, fun ⟨b, e, h⟩ => ⟨b, e, ?_⟩⟩
        · cases b with
          | true => exact h
          | false => obtain ⟨_, e, h⟩ := h; cases e; exact h
        · cases b with
          | true => exact h
          | false => exact ⟨_, rfl, h⟩
      show wa ς S _ _
      rw [← e]
      exact hw
    · cases b with
      | true => exact ⟨ς, S1, R, g1, k1, h1, fun x S' H' q r k' => hR x S' H' q r (d1.trans k')⟩
      | false => exact hR _ S1 H1 h1 g1.rel d1
theorem ww_or (ha : WT X F a (wB wa)) (hb : WW X F (.BoolOp .Or (b :: rest) pos) (wB wb)) : WW X F (.BoolOp .Or (a :: b :: rest) pos) (wB (wOr wa wb)) :=
  (pw_or ha hb).imp fun σ H Q h => by
    obtain ⟨ς, S, R, g, k, hw, hR⟩ := h
    refine tT.mk (w := wB wa) (R := fun b S1 => if b = true then R true S1 else wB wb ς S1 R (fun c S' => F.XE c ς S')) g k ?_ fun b S1 H1 h1 g1 k1 d1 => ?_
    · have e : (fun x S1 => ∃ b, x = D.bl b ∧ if b = true then ∃ b, D.bl true = .bl b ∧ R b S1 else wb ς S1 (fun x S1 => ∃ b, x = .bl b ∧ R b S1) (fun c S' => F.XE c ς S')) =
        (fun x S1 => ∃ b, x = D.bl b ∧ if b = true then R true S1 else wB wb ς S1 R (fun c S' => F.XE c ς S')) := by
        funext x S1
        refine propext ⟨fun ⟨b, e, h⟩ => ⟨b, e, ?_⟩, fun ⟨b, e, h⟩ => ⟨b, e, ?_⟩⟩
        · cases b with
          | true => obtain ⟨_, e, h⟩ := h; cases e; exact h
          | false => exact h
        · cases b with
          | true => exact ⟨_, rfl, h⟩
          | false => exact h
      show wa ς S _ _
      rw [← e]
      exact hw
    · cases b with
      | false => exact ⟨ς, S1, R, g1, k1, h1, fun x S' H' q r k' => hR x S' H' q r (d1.trans k')⟩
      | true => exact hR _ S1 H1 h1 g1.rel d1
theorem wt_not (ha : WT X F a (wB wa)) : WT X F (.UnaryOp .Not a pos) (wB (wNot wa)) :=
  (pt_not ha).imp fun σ H Q h => by
    obtain ⟨ς, S, R, g, k, hw, hR⟩ := h
    refine tT.mk (w := wB wa) (R := fun b S1 => R (!b) S1) g k ?_ fun b S1 H1 h1 g1 k1 d1 => hR _ S1 H1 h1 g1.rel d1
    have e : (fun x S1 => ∃ b, x = D.bl b ∧ ∃ b_1, D.bl (!b) = .bl b_1 ∧ R b_1 S1) = (fun x S1 => ∃ b, x = D.bl b ∧ R (!b) S1) := by
      funext x S1
      exact propext ⟨fun ⟨b, e, c, e', h⟩ => ⟨b, e, by cases e'; exact h⟩, fun ⟨b, e, h⟩ => ⟨b, e, _, rfl, h⟩⟩
    show wa ς S _ _
    rw [← e]
    exact hw
end
end SB
end

section
set_option Elab.async false
set_option linter.all false
set_option maxRecDepth 100000
set_option autoImplicit false
/-! SB3: arguments, displays, items, slices, attributes, calls. -/
namespace SB
open PySem PySem.Spec L2

/-! ### lists of expressions -/
def wNil : WpA := fun _ S R _ => R [] S
def wCons (wa : WpE) (wr : WpA) : WpA := fun ς S R RE => wa ς S (fun x S1 => wr ς S1 (fun xs S2 => R (x :: xs) S2) RE) RE
/-- not a starred one -/
def noStar : Expr → Bool
  | .Starred .. => false
  | _ => true
theorem starEach_cons {e : Expr} {es : List Expr} {env : Env} (h : noStar e = true) : starEach (e :: es) env = (false, eval e env) :: starEach es env := by
  cases e <;> first | rfl | cases h
section
variable {X : Cx} {F : Fr} {pos : Pos} {e : Expr} {es : List Expr} {we : WpE} {wa : WpA}
theorem wa_nil : WA X F [] wNil := pa_nil.imp fun σ H Q ⟨ς, S, R, g, k, hw, hR⟩ => hR [] S [] H hw g.rel .refl .nil
theorem wa_cons (he : WE X F e we) (hr : WA X F es wa) (hn : noStar e = true) : WA X F (e :: es) (wCons we wa) :=
  (pa_cons he hr (starEach_cons hn)).imp fun σ H Q ⟨ς, S, R, g, k, hw, hR⟩ => by
    refine tE.mk g k hw fun x S1 v H1 h1 g1 k1 d1 r1 => tA.mk g1 k1 h1 fun xs S2 vs H2 h2 g2 k2 d2 r2 => ?_
    exact hR _ S2 _ H2 h2 g2.rel (d1.trans d2) (.cons (d2 _ _ r1) r2)

/-! ### displays -/
def wTup (wa : WpA) : WpE := fun ς S R RE => wa ς S (fun xs S1 => xs.length ≤ sizeLine ∧ R (.tup xs) S1) RE
def wLst (own : Bool) (wa : WpA) : WpE := fun ς S R RE => wa ς S (fun xs S1 => mkL own xs S1 R) RE
theorem we_tup {x1} (h : WA X F es wa) : WE X F (.Tuple es x1 pos) (wTup wa) :=
  (pe_tup h).imp fun σ H Q ⟨ς, S, R, g, k, hw, hR⟩ => by
    refine tA.mk g k hw fun xs S1 vs H1 h1 g1 k1 d1 r1 => ?_
    exact mkT_ok g1.rel h1.1 h1.2 r1 fun z S' v' H' q r k p => hR z S' v' H' q r (d1.trans k) p
theorem we_lst {own : Bool} (h : WA X F es wa) : WE X F (.List es pos) (wLst own wa) :=
  (pe_lst h).imp fun σ H Q ⟨ς, S, R, g, k, hw, hR⟩ => by
    refine tA.mk g k hw fun xs S1 vs H1 h1 g1 k1 d1 r1 => ?_
    exact mkL_ok g1.rel h1 r1 fun z S' v' H' q r k p => hR z S' v' H' q r (d1.trans k) p
def mkD (own : Bool) (l : List (Key × D)) (S : Sto) (R : Pd) : Prop := l.length ≤ sizeLine ∧ match own with
  | true => ∀ p, S p = none → R (.ref p) (S.set p (.dct l))
  | false => R (.dct l) S
theorem mkD_ok {K : PySem.W.Frag} {S : Sto} {H : Hp} {own : Bool} {l : List (Key × D)} {vs : List (Key × V)} {R : Pd} {Q : VK} (q : Rel K S H) (h : mkD own l S R) (r : RepK K S H l vs)
    (hR : ∀ z S' v' H', R z S' → Rel K S' H' → Keep K S H S' H' → Rep K S' H' z v' → Q v' H') : ∀ p, H p = none → Q (.ref p) (upd H p (.dK vs)) := by
  obtain ⟨z, h⟩ := h
  intro p hp
  cases own with
  | true => exact hR _ _ _ _ (h p (q.fresh hp)) (q.own hp ⟨z, vs, upd_same, (Keep.own hp).k r⟩) (Keep.own hp) (.ref p)
  | false => exact hR _ _ _ _ h (q.new hp) (Keep.new hp) (.dct (.inl upd_same) (q.fresh hp) z ((Keep.new hp).k r))
def wDict0 (own : Bool) : WpE := fun _ S R _ => mkD own [] S R
theorem we_dict0 {own : Bool} : WE X F (.Dict [] [] pos) (wDict0 own) :=
  pe_dnewK.imp fun σ H Q ⟨ς, S, R, g, k, hw, hR⟩ => mkD_ok g.rel hw .nil hR
/-- a pair put in: in its place, or at the end -/
def putD (k : Key) (x : D) (l : List (Key × D)) : List (Key × D) :=
  if (l.any fun p => decide (p.1 = k)) = true then l.map (fun p => if p.1 = k then (p.1, x) else p) else l ++ [(k, x)]
def dropD (k : Key) (l : List (Key × D)) : List (Key × D) := l.filter fun p => decide (p.1 ≠ k)
def mergeD (l : List (Key × D)) : List (Key × D) → List (Key × D)
  | [] => l
  | (k, x) :: r => mergeD (putD k x l) r
/-- {k: v, ..}, the keys written: the new dict stands while the values are made -/
def wDict (own : Bool) (ks : List Key) (wa : WpA) : WpE := fun ς S R RE => ∀ p, S p = none → wa ς (S.set p (.dct [])) (fun xs S1 => S1 p = some (.dct []) ∧ xs.length = ks.length ∧ ks.length ≤ 15 ∧
  match own with
  | true => R (.ref p) (S1.set p (.dct (mergeD [] (ks.zip xs))))
  | false => R (.dct (mergeD [] (ks.zip xs))) (S1.del p)) RE
theorem RepK.any {K : PySem.W.Frag} {S : Sto} {H : Hp} (f : Key → Bool) : ∀ {l : List (Key × D)} {vs : List (Key × V)}, RepK K S H l vs → l.any (fun p => f p.1) = vs.any (fun p => f p.1)
  | _, _, .nil => rfl
  | _, _, .cons r t => by rw [List.any_cons, List.any_cons, RepK.any f t]
theorem RepK.append {K : PySem.W.Frag} {S : Sto} {H : Hp} : ∀ {l l' : List (Key × D)} {vs vs' : List (Key × V)}, RepK K S H l vs → RepK K S H l' vs' → RepK K S H (l ++ l') (vs ++ vs')
  | _, _, _, _, .nil, h => h
  | _, _, _, _, .cons r t, h => .cons r (RepK.append t h)
theorem RepK.mapPut {K : PySem.W.Frag} {S : Sto} {H : Hp} {k : Key} {x : D} {v : V} (q : Rep K S H x v) : ∀ {l : List (Key × D)} {vs : List (Key × V)}, RepK K S H l vs →
    RepK K S H (l.map fun p => if p.1 = k then (p.1, x) else p) (vs.map fun p => if p.1 = k then (p.1, v) else p)
  | _, _, .nil => .nil
  | _, _, .cons (k := j) (d := d) (v := u) (l := l) (vs := vs) r t => by
    have ih := RepK.mapPut (k := k) q t
    rw [List.map_cons, List.map_cons]
    by_cases h : j = k
    · rw [if_pos h, if_pos h]; exact .cons q ih
    · rw [if_neg h, if_neg h]; exact .cons r ih
theorem RepK.put {K : PySem.W.Frag} {S : Sto} {H : Hp} {k : Key} {x : D} {v : V} (q : Rep K S H x v) {l : List (Key × D)} {vs : List (Key × V)} (r : RepK K S H l vs) : RepK K S H (putD k x l) (putK vs k v) := by
  unfold putD putK
  rw [r.any fun j => decide (j = k)]
  split
  · exact r.mapPut q
  · exact r.append (.cons q .nil)
theorem RepK.drop {K : PySem.W.Frag} {S : Sto} {H : Hp} {k : Key} : ∀ {l : List (Key × D)} {vs : List (Key × V)}, RepK K S H l vs → RepK K S H (dropD k l) (dropK vs k)
  | _, _, .nil => .nil
  | _, _, .cons (k := j) (d := d) (v := u) (l := l) (vs := vs) r t => by
    have ih := RepK.drop (k := k) t
    unfold dropD dropK at ih ⊢
    rw [List.filter_cons, List.filter_cons]
    split
    · exact .cons r ih
    · exact ih
theorem RepK.merge {K : PySem.W.Frag} {S : Sto} {H : Hp} : ∀ {m : List (Key × D)} {ms : List (Key × V)} {l : List (Key × D)} {vs : List (Key × V)}, RepK K S H m ms → RepK K S H l vs → RepK K S H (mergeD l m) (mergeK vs ms)
  | _, _, _, _, .nil, h => h
  | _, _, _, _, .cons (k := k) r t, h => by
    have q := RepK.merge t (RepK.put (k := k) r h)
    exact q
theorem mergeD_length : ∀ (m l : List (Key × D)), (mergeD l m).length ≤ l.length + m.length
  | [], l => by show l.length ≤ l.length + 0; omega
  | (k, x) :: r, l => by
    have h := mergeD_length r (putD k x l)
    have h2 : (putD k x l).length ≤ l.length + 1 := by
      unfold putD; split
      · rw [List.length_map]; omega
      · rw [List.length_append]; simp
    show (mergeD (putD k x l) r).length ≤ _
    rw [List.length_cons]; omega
/-- a written key -/
def keyE : Key → Expr → Bool
  | .inl i, .Constant (.int j) _ _ => decide (i = j)
  | .inr x, .Constant (.str y) _ _ => decide (x = y)
  | _, _ => false
theorem keyE_ok {k : Key} {e : Expr} (h : keyE k e = true) : PE X e (tC (kV k)) := by
  unfold keyE at h
  split at h
  · have := of_decide_eq_true h; subst this; exact pe_int
  · have := of_decide_eq_true h; subst this; exact pe_str
  · cases h
def keysE : List Key → List (Option Expr) → Bool
  | [], [] => true
  | k :: ks, some e :: es => keyE k e && keysE ks es
  | _, _ => false
/-- the values of a dict display, one by one -/
inductive WVs (X : Cx) (F : Fr) : List Expr → WpA → Prop
  | nil : WVs X F [] wNil
  | cons {e : Expr} {es : List Expr} {we : WpE} {wa : WpA} : WE X F e we → WVs X F es wa → WVs X F (e :: es) (wCons we wa)
/-- the readings of the pairs -/
theorem wvs_pairs {K : PySem.W.Frag} {wa : WpA} {es : List Expr} (hK : X.K = K) (h : WVs X F es wa) : ∀ {ks : List Key} {kes : List (Option Expr)}, keysE ks kes = true → kes.length = es.length →
    ∃ trs : List (TE × TE), PPs X pos kes es trs ∧ ∀ (σ : L2.St) (H : Hp) (Q : List (V × V) → Hp → Prop) (ς : En) (S : Sto) (R : List D → Sto → Prop), Good K ς S σ H → Keep K F.S0 F.H0 S H → wa ς S R (fun c S' => F.XE c ς S') →
      (∀ xs S' vs H', R xs S' → Good K ς S' σ H' → Keep K S H S' H' → RepL K S' H' xs vs → xs.length = ks.length → Q ((ks.map kV).zip vs) H') → tPairs trs σ H Q := by
  subst hK
  induction h with
  | nil =>
    intro ks kes hk hl
    cases kes with
    | cons _ _ => cases hl
    | nil =>
      cases ks with
      | cons _ _ => cases hk
      | nil => exact ⟨[], pps_nil, fun σ H Q ς S R g k hw hR => hR [] S [] H hw g .refl .nil rfl⟩
  | @cons e es we wa h1 h2 ih =>
    intro ks kes hk hl
    cases kes with
    | nil => cases hl
    | cons ke kes =>
      cases ke with
      | none => cases ks <;> cases hk
      | some ke =>
        cases ks with
        | nil => cases hk
        | cons k ks =>
          have hk' : (keyE k ke && keysE ks kes) = true := hk
          simp only [Bool.and_eq_true] at hk'
          obtain ⟨trs, p, q⟩ := ih hk'.2 (by simpa using hl)
          refine ⟨(tC (kV k), tE X.K F we) :: trs, pps_cons (keyE_ok hk'.1) h1 p, fun σ H Q ς S R g kk hw hR => ?_⟩
          show tC (kV k) σ H fun x H1 => tE X.K F we σ H1 fun y H2 => tPairs trs σ H2 fun ps H3 => Q ((x, y) :: ps) H3
          refine tE.mk g kk hw fun x S1 v H1 h1 g1 k1 d1 r1 => q σ H1 _ ς S1 _ g1 k1 h1 fun xs S2 vs H2 h2 g2 d2 r2 z => ?_
          exact hR _ S2 (v :: vs) H2 h2 g2 (d1.trans d2) (.cons (d2 _ _ r1) r2) (by simp [z])
theorem zip_keys {K : PySem.W.Frag} {S : Sto} {H : Hp} : ∀ {ks : List Key} {xs : List D} {vs : List V}, RepL K S H xs vs → xs.length = ks.length →
    (ks.map kV).zip vs = (ks.zip vs).map (fun kv => (kV kv.1, kv.2)) ∧ RepK K S H (ks.zip xs) (ks.zip vs) ∧ (ks.zip vs).length = ks.length
  | [], _, _, .nil, _ => ⟨rfl, .nil, rfl⟩
  | [], _, _, .cons _ _, h => by cases h
  | _ :: _, _, _, .nil, h => by cases h
  | k :: ks, _, _, .cons r t, h => by
    obtain ⟨a, b, c⟩ := zip_keys (ks := ks) t (by simpa using h)
    exact ⟨by simp [a], .cons r b, by simp [c]⟩
theorem we_dict {own : Bool} {ks : List Key} {kes : List (Option Expr)} (h : WVs X F es wa) (hk : keysE ks kes = true) (hl : kes.length = es.length) (h0 : kes ≠ []) (h15 : kes.length ≤ 15) :
    WE X F (.Dict kes es pos) (wDict own ks wa) := by
  obtain ⟨trs, p, q⟩ := wvs_pairs (pos := pos) rfl h hk hl
  have hall : kes.all (·.isSome) = true := by
    clear p q hl h0 h15 h
    induction kes generalizing ks with
    | nil => rfl
    | cons ke kes ih =>
      cases ks with
      | nil => cases hk
      | cons k ks =>
        cases ke with
        | none => cases hk
        | some e =>
          have hk' : (keyE k e && keysE ks kes) = true := hk
          simp only [Bool.and_eq_true] at hk'
          simp [ih hk'.2]
  refine (pe_disp p hall hl h0 h15).imp fun σ H Q ⟨ς, S, R, g, k, hw, hR⟩ => ?_
  intro a ha
  have hw := hw a (g.rel.fresh ha)
  have K1 : Keep X.K S H (S.set a (.dct [])) (upd H a (.dK [])) := Keep.own ha
  have G1 : Good X.K ς (S.set a (.dct [])) σ (upd H a (.dK [])) := g.keep (g.rel.own ha ⟨Nat.zero_le _, [], upd_same, .nil⟩) K1
  refine q σ _ _ ς _ _ G1 (k.trans K1) hw fun xs S1 vs H1 h1 g1 d1 r1 z1 => ?_
  obtain ⟨hp, hz, h15', h1⟩ := h1
  obtain ⟨_, kvs0, e0, r0⟩ := g1.rel a _ hp
  cases r0
  obtain ⟨e1, e2, e3⟩ := zip_keys r1 hz
  have rm := e2.merge (RepK.nil)
  have zm : (mergeD [] (ks.zip xs)).length ≤ sizeLine := by
    have h := mergeD_length (ks.zip xs) []
    have h' : (ks.zip xs).length ≤ 15 := by rw [List.length_zip]; omega
    rw [sizeLine_eq]
    simp only [List.length_nil] at h
    omega
  refine ⟨e0, ks.zip vs, e1, by omega, ?_⟩
  have PK : Keep X.K S1 H1 (S1.set a (.dct (mergeD [] (ks.zip xs)))) (upd H1 a (.dK (mergeK [] (ks.zip vs)))) := Keep.putR g1.rel hp
  have PR : Rel X.K (S1.set a (.dct (mergeD [] (ks.zip xs)))) (upd H1 a (.dK (mergeK [] (ks.zip vs)))) := g1.rel.put hp ⟨zm, _, upd_same, PK.k rm⟩
  cases own with
  | true => exact hR _ _ _ _ h1 PR ((K1.trans d1).trans PK) (.ref a)
  | false =>
    have hd : ∀ b, (S1.del a) b = (S1.set a (.dct (mergeD [] (ks.zip xs)))) b ∨ (S1.del a) b = none := fun b => by
      by_cases e : b = a
      · subst e; exact .inr Sto.del_same
      · rw [Sto.del_ne e, Sto.set_ne e]; exact .inl rfl
    have LK := Keep.left (K := X.K) (H := upd H1 a (.dK (mergeK [] (ks.zip vs)))) hd
    exact hR _ _ _ _ h1 (PR.left hd) (((K1.trans d1).trans PK).trans LK) (.dct (.inl upd_same) Sto.del_same zm (LK.k (PK.k rm)))
end
end SB
end

section
set_option Elab.async false
set_option linter.all false
set_option maxRecDepth 100000
set_option autoImplicit false
/-! SB4: items, slices, attributes, calls of own defs and methods, own classes made. -/
namespace SB
open PySem PySem.Spec L2

/-! ### items -/
def fIx (x y : D) (S : Sto) (R : Pd) : Prop := match contOf S x with
  | .d l => ∃ k v, keyOf y = some k ∧ lookK k l = some v ∧ R v S
  | .s z => ∃ i c, y = .int i ∧ z.length ≤ sizeLine ∧ atI z.cps.toList i = some c ∧ R (.str ⟨#[c]⟩) S
  | .l l => ∃ i v, y = .int i ∧ atI l i = some v ∧ R v S
  | .t l => ∃ i v, y = .int i ∧ atI l i = some v ∧ R v S
  | .no => False
section
variable {K : PySem.W.Frag}
theorem lstSq_rep {S : Sto} {H : Hp} {y : D} {v : V} {l : List D} (r : Rep K S H y v) (q : Rel K S H) (e : contOf S y = .l l) : ∃ a vs, v = .ref a ∧ SqL K H a vs ∧ RepL K S H l vs ∧ l.length ≤ sizeLine := by
  cases r with
  | lst h n z r => cases e; exact ⟨_, _, rfl, .of h, r, z⟩
  | scr h n z r => cases e; exact ⟨_, _, rfl, .inl h, r, z⟩
  | scrK h z r => cases e; exact ⟨_, _, rfl, h.sq, r, z⟩
  | ref a =>
    unfold contOf at e
    dsimp only at e
    cases h : S a with
    | none => rw [h] at e; cases e
    | some o =>
      rw [h] at e
      cases o with
      | lst l' =>
        cases e
        obtain ⟨z, vs, h1, h2⟩ := q a _ h
        exact ⟨_, _, rfl, .of h1, h2, z⟩
      | _ => cases e
  | _ => cases e
theorem contT_inv {S : Sto} {y : D} {l : List D} (e : contOf S y = .t l) : y = .tup l := by
  cases y with
  | tup l' => cases e; rfl
  | ref a => unfold contOf at e; dsimp only at e; split at e <;> cases e
  | _ => cases e
theorem contS_inv {S : Sto} {y : D} {z : Str} (e : contOf S y = .s z) : y = .str z := by
  cases y with
  | str l' => cases e; rfl
  | ref a => unfold contOf at e; dsimp only at e; split at e <;> cases e
  | _ => cases e
theorem atI_rep {S : Sto} {H : Hp} {l : List D} {vs : List V} {i : Int} {x : D} (r : RepL K S H l vs) (e : atI l i = some x) : ∃ v, atI vs i = some v ∧ Rep K S H x v := by
  unfold atI at e ⊢
  rw [← r.length]
  cases h : ixN l.length i with
  | none => rw [h] at e; cases e
  | some j =>
    rw [h] at e
    obtain ⟨v, h1, h2⟩ := r.get (i := j) (x := x) (by simpa using e)
    exact ⟨v, by simpa using h1, h2⟩
def rIxDct : R2 := fun x y H Q => ∃ a v, x = .ref a ∧ DGet H a y (some v) ∧ Q v H
theorem ix_dct {X : Cx} (hu : X.A.units + 1 < cLine) : IxR X rIxDct := by
  intro value slice pins s σ H x y v u Q I rx ry h hs
  obtain ⟨a, w, rfl, g, q⟩ := h
  cases rx
  exact PyProof.Rows.tail_any (dict_typeIs I g) PySem.F.slot_dict_getitem.lookup (d_getItem hu I g ry fun w' s3 I3 rw' => ⟨w, H, I3, rw', q⟩) hs
theorem od_ix : OpD K (fun x y H Q => rIxDct x y H Q ∨ rIx K x y H Q) fIx := by
  intro x y v u S H R Q q rx ry h hR
  unfold fIx at h
  split at h
  · rename_i l e
    obtain ⟨k, d, ek, el, h⟩ := h
    obtain ⟨a, vs, rfl, h1, r1⟩ := dictOf_rep rx q e
    have ev := keyOf_rep ry ek
    subst ev
    have hl := r1.look (k := k)
    rw [el] at hl
    obtain ⟨w, hw, rw'⟩ := hl
    exact .inl ⟨a, w, rfl, .inl ⟨vs, k, h1, rfl, hw.symm⟩, hR _ S _ H h q .refl rw'⟩
  · rename_i z e
    obtain ⟨i, c, rfl, hz, hc, h⟩ := h
    cases contS_inv e
    cases rx; cases ry
    exact .inr (.inr (.inr ⟨z, i, c, rfl, rfl, hz, hc, hR _ S _ H h q .refl (.str _)⟩))
  · rename_i l e
    obtain ⟨i, d, rfl, hc, h⟩ := h
    cases ry
    obtain ⟨a, vs, rfl, h1, r1, _⟩ := lstSq_rep rx q e
    obtain ⟨w, hw, rw'⟩ := atI_rep r1 hc
    exact .inr (.inl ⟨a, vs, i, w, rfl, rfl, h1, hw, hR _ S _ H h q .refl rw'⟩)
  · rename_i l e
    obtain ⟨i, d, rfl, hc, h⟩ := h
    cases ry
    cases contT_inv e
    obtain ⟨a, vs, rfl, h1, _, r1⟩ := rx.tup_inv
    obtain ⟨w, hw, rw'⟩ := atI_rep r1 hc
    exact .inr (.inr (.inl ⟨a, vs, i, w, rfl, rfl, h1, hw, hR _ S _ H h q .refl rw'⟩))
  · exact h.elim
end
/-- what a plain index is -/
def plainIx : Expr → Bool
  | .Slice .. => false
  | .Tuple .. => false
  | _ => true
section
variable {X : Cx} {F : Fr} {pos p2 : Pos} {a b e : Expr} {wa wb we : WpE}
theorem we_ix (hu : X.A.units + 1 < cLine) (ha : WE X F a wa) (hb : WE X F b wb) (hs : PlainIx b) : WE X F (.Subscript a b pos) (wOp fIx wa wb) :=
  (pe_ix ((ix_dct hu).or ix_seq) ha hb hs).imp fun _ _ _ h => two_ok od_ix h
/-! ### slices -/
def cutD (l : List D) (lo hi : Option Int) : List D := (l.drop (HT.sIx l.length 0 lo)).take (HT.sIx l.length l.length hi - HT.sIx l.length 0 lo)
theorem cutD_rep {K : PySem.W.Frag} {S : Sto} {H : Hp} {l : List D} {vs : List V} (r : RepL K S H l vs) (lo hi : Option Int) : RepL K S H (cutD l lo hi) (cutV vs lo hi) := by
  unfold cutD cutV
  rw [r.length]
  exact (r.drop _).take _
theorem cutD_le (l : List D) (lo hi : Option Int) : (cutD l lo hi).length ≤ l.length := by
  unfold cutD
  rw [List.length_take, List.length_drop]
  omega
def fSl (own : Bool) (x : D) (lo hi : Option Int) (S : Sto) (R : Pd) : Prop := match contOf S x with
  | .t l => R (.tup (cutD l lo hi)) S
  | .s z => z.length ≤ sizeLine ∧ R (.str (cutS z lo hi)) S
  | .l l => mkL own (cutD l lo hi) S R
  | _ => False
/-- a part of a slice -/
def wPart (w : Option WpE) : En → Sto → (Option Int → Sto → Prop) → Px → Prop := fun ς S R RE => match w with
  | none => R none S
  | some w => w ς S (fun x S1 => ∃ i, x = .int i ∧ R (some i) S1) RE
def wSl (own : Bool) (we : WpE) (wl wh : Option WpE) : WpE := fun ς S R RE => we ς S (fun x S1 => wPart wl ς S1 (fun lo S2 => wPart wh ς S2 (fun hi S3 => fSl own x lo hi S3 R) RE) RE) RE
def tO (K : PySem.W.Frag) (F : Fr) (w : Option WpE) : TO := match w with
  | none => tNoPart
  | some w => tPart (tE K F w)
/-- the parts -/
inductive WO (X : Cx) (F : Fr) : Option Expr → Option WpE → Prop
  | none : WO X F none none
  | some {e : Expr} {w : WpE} : WE X F e w → WO X F (some e) (some w)
theorem WO.po {e : Option Expr} {w : Option WpE} (h : WO X F e w) : PO X e (tO X.K F w) := by
  cases h with
  | none => exact po_none
  | some h => exact po_some h
theorem tO.mk {K : PySem.W.Frag} {w : Option WpE} {ς : En} {S : Sto} {R : Option Int → Sto → Prop} {σ : L2.St} {H : Hp} {Q : Option Int → Hp → Prop} (g : Good K ς S σ H) (k : Keep K F.S0 F.H0 S H) (hw : wPart w ς S R (fun c S' => F.XE c ς S'))
    (hR : ∀ x S' H', R x S' → Good K ς S' σ H' → Keep K F.S0 F.H0 S' H' → Keep K S H S' H' → Q x H') : tO K F w σ H Q := by
  cases w with
  | none => exact hR none S H hw g k .refl
  | some w =>
    refine tE.mk g k hw fun x S1 v H1 h1 g1 k1 d1 r1 => ?_
    obtain ⟨i, rfl, h1⟩ := h1
    cases r1
    exact ⟨i, rfl, hR _ S1 H1 h1 g1 k1 d1⟩
theorem we_sl {own : Bool} {lo hi : Option Expr} {wl wh : Option WpE} (he : WE X F e we) (hl : WO X F lo wl) (hh : WO X F hi wh) : WE X F (.Subscript e (.Slice lo hi none p2) pos) (wSl own we wl wh) :=
  (pe_slice (sl_tupA.or (sl_list.or sl_str)) he hl.po hh.po).imp fun σ H Q ⟨ς, S, R, g, k, hw, hR⟩ => by
    refine tE.mk g k hw fun x S1 v H1 h1 g1 k1 d1 r1 => tO.mk g1 k1 h1 fun lo S2 H2 h2 g2 k2 d2 => tO.mk g2 k2 h2 fun hi S3 H3 h3 g3 k3 d3 => ?_
    have r3 := (d2.trans d3) _ _ r1
    have d := (d1.trans d2).trans d3
    have q := g3.rel
    have hR' : ∀ z S' v' H', R z S' → Rel X.K S' H' → Keep X.K S3 H3 S' H' → Rep X.K S' H' z v' → Q v' H' := fun z S' v' H' q r k p => hR z S' v' H' q r (d.trans k) p
    unfold fSl at h3
    split at h3
    · rename_i l e
      cases contT_inv e
      obtain ⟨a, vs, rfl, h1, n1, rl⟩ := r3.tup_inv
      refine .inl ⟨a, vs, rfl, h1, fun hz => ?_, fun _ p hp => ?_⟩
      · have e : cutD l lo hi = l := by
          unfold cutD
          have e1 := rl.length
          rw [e1, hz.1, hz.2, List.drop_zero, Nat.sub_zero, ← e1, List.take_length]
        rw [e] at h3
        exact hR' _ _ _ _ h3 q .refl r3
      · exact hR' _ _ _ _ h3 (q.new hp) (Keep.new hp) (.tup (.of upd_same) (Nat.le_trans (cutD_le _ _ _) n1) ((Keep.new hp).l (cutD_rep rl lo hi)))
    · rename_i z e
      cases contS_inv e
      cases r3
      exact .inr (.inr ⟨z, rfl, h3.1, hR' _ _ _ _ h3.2 q .refl (.str _)⟩)
    · rename_i l e
      obtain ⟨a, vs, rfl, h1, rl, _⟩ := lstSq_rep r3 q e
      exact .inr (.inl ⟨a, vs, rfl, h1, (mkL_ok q h3 (cutD_rep rl lo hi) hR').2⟩)
    · exact h3.elim
end

/-! ### attributes -/
def insOf (S : Sto) : D → Option (String × List (String × D))
  | .ins c fs => some (c, fs)
  | .ref a => (match S a with
    | some (.ins c fs) => some (c, fs)
    | _ => none)
  | _ => none
theorem insOf_rep {K : PySem.W.Frag} {S : Sto} {H : Hp} {x : D} {v : V} {c : String} {fs : List (String × D)} (r : Rep K S H x v) (q : Rel K S H) (e : insOf S x = some (c, fs)) :
    ∃ a dx gs, v = .ref a ∧ H a = some (.ins (clA K c) dx gs) ∧ CO K c fs ∧ RepF K S H fs gs := by
  cases r with
  | ins h n z r => cases e; exact ⟨_, _, _, rfl, h, z, r⟩
  | ref a =>
    unfold insOf at e
    dsimp only at e
    cases h : S a with
    | none => rw [h] at e; cases e
    | some o =>
      rw [h] at e
      cases o with
      | ins c' l' => cases e; obtain ⟨z, dx, gs, h1, h2⟩ := q a _ h; exact ⟨_, _, _, rfl, h1, z, h2⟩
      | _ => cases e
  | _ => cases e
/-- an attribute -/
def look (f : String) : List (String × D) → Option D
  | [] => none
  | (g, x) :: r => if g = f then some x else look f r
theorem ofString_inj {a b : String} (h : (Str.ofString a) = (Str.ofString b)) : a = b := by
  rw [Str.ofString_eq_toList, Str.ofString_eq_toList] at h
  injection h with h
  apply String.toList_inj.mp
  have h2 : (a.toList.map Char.toNat) = b.toList.map Char.toNat := by
    simpa using congrArg Array.toList h
  exact List.map_inj_right (fun x y e => Char.toNat_inj.mp e) |>.mp h2
theorem ofString_eq {a b : String} : Str.ofString a = Str.ofString b ↔ a = b := ⟨ofString_inj, fun e => by rw [e]⟩
theorem RepF.look {K : PySem.W.Frag} {S : Sto} {H : Hp} {f : String} : ∀ {l : List (String × D)} {vs : List (Str × V)}, RepF K S H l vs → match look f l with
    | some x => ∃ v, vs.lookup (Str.ofString f) = some v ∧ Rep K S H x v ∧ (∃ p ∈ l, p.1 = f)
    | none => vs.lookup (Str.ofString f) = none
  | _, _, .nil => by show List.lookup _ [] = none; rfl
  | _, _, .cons (f := j) (d := d) (v := v) (l := l) (vs := vs) r t => by
    have ih := RepF.look (f := f) t
    by_cases h : j = f
    · subst h
      have e1 : SB.look j ((j, d) :: l) = some d := by simp [SB.look]
      have e2 : List.lookup (Str.ofString j) ((Str.ofString j, v) :: vs) = some v := by simp [List.lookup]
      rw [e1]
      exact ⟨v, e2, r, (j, d), List.mem_cons_self, rfl⟩
    · have hb : (Str.ofString f == Str.ofString j) = false := beq_eq_false_iff_ne.mpr fun e => h (ofString_inj e).symm
      have e1 : SB.look f ((j, d) :: l) = SB.look f l := by simp [SB.look, h]
      have e2 : List.lookup (Str.ofString f) ((Str.ofString j, v) :: vs) = List.lookup (Str.ofString f) vs := by simp only [List.lookup, hb]
      rw [e1, e2]
      cases hx : SB.look f l with
      | none => rw [hx] at ih; exact ih
      | some x =>
        rw [hx] at ih
        obtain ⟨v, a, b, p, c, d⟩ := ih
        exact ⟨v, a, b, p, List.mem_cons_of_mem _ c, d⟩
end SB
end

section
set_option Elab.async false
set_option linter.all false
set_option maxRecDepth 100000
set_option autoImplicit false
/-! SB5: attributes read, calls of own defs and methods, own classes made. -/
namespace SB
open PySem PySem.Spec L2

/-! ### what the text's trees say -/
def baseOk : Expr → Bool
  | .Call (.Name id _) [] [] _ => id != ("super" : Str)
  | _ => true
theorem attrBase {o : Expr} {m : Str} {env : Env} {whole : Sem Value} (h : baseOk o = true) : attributeBase o m env whole = whole := by
  unfold baseOk at h
  split at h
  · exact abase_call h
  · rename_i hn
    unfold attributeBase
    split
    · rename_i id p pos
      exact absurd rfl (hn id p pos)
    · rfl
def noStars (es : List Expr) : Bool := es.all noStar
theorem starEach_all : ∀ {es : List Expr} {env : Env}, noStars es = true → starEach es env = es.map fun e => (false, eval e env)
  | [], _, _ => rfl
  | e :: es, env, h => by
    simp only [noStars, List.all_cons, Bool.and_eq_true] at h
    rw [starEach_cons h.1, starEach_all h.2, List.map_cons]
theorem backTo_all {es : List Expr} {env : Env} {pos : Pos} (h : noStars es = true) : backTo pos (starEach es env) = es.map fun e => (false, eval e env) := by
  rw [starEach_all h]
  unfold backTo
  rw [List.map_map]
  rfl
theorem back_any {es : List Expr} {env : Env} {pos : Pos} (h : noStars es = true) : (backTo pos (starEach es env)).any (·.1) = false := by
  rw [backTo_all h, List.any_map]
  induction es with
  | nil => rfl
  | cons e es ih =>
    simp only [noStars, List.all_cons, Bool.and_eq_true] at h
    rw [List.any_cons, ih h.2]
    rfl
theorem back_few {es : List Expr} {env : Env} {pos : Pos} (h : noStars es = true) (hl : es.length < 29) : ((backTo pos (starEach es env)).all (fun x => !x.1) && (backToKw pos (keywordEach [] env)).all (fun x => x.1.isSome)
      && decide (es.length + ([] : List Keyword).length + (if ([] : List Keyword).isEmpty then 0 else 1) < 30)) = true := by
  have e1 : (backTo pos (starEach es env)).all (fun x => !x.1) = true := by
    rw [backTo_all h, List.all_map]
    exact List.all_eq_true.mpr fun _ _ => rfl
  rw [e1]
  have e2 : decide (es.length + ([] : List Keyword).length + (if ([] : List Keyword).isEmpty then 0 else 1) < 30) = true := decide_eq_true (by
    show es.length + 0 + 0 < 30; omega)
  rw [e2]
  rfl
theorem mcall_tree {o : Expr} {m : Str} {apos pos : Pos} {es : List Expr} {env : Env} (hb : baseOk o = true) (h : noStars es = true) (hl : es.length < 29) (hline : (apos.endLine == pos.line) = true) :
    eval (.Call (.Attribute o m apos) es [] pos) env = (do
      let ov ← eval o env
      standAt apos.atName
      let (f, first) ← holding [ov] (getMethod ov m (plainOf o env))
      callWith pos f first (backTo pos (starEach es env)) (backToKw pos (keywordEach [] env))) := by
  have hf : methodCallForm (es.length + ([] : List Keyword).length) (backTo pos (starEach es env)) (backToKw pos (keywordEach [] env)) = true := back_few h hl
  exact mcall_of (attrBase hb) fun ov => mcall_line hf hline

/-! ### attributes -/
def wFld (f : String) (wa : WpE) : WpE := fun ς S R RE => wa ς S (fun x S1 => ∃ c fs v, insOf S1 x = some (c, fs) ∧ look f fs = some v ∧ R v S1) RE
theorem fld_ok {K : PySem.W.Frag} {S : Sto} {H : Hp} {x d : D} {v : V} {c f : String} {fs : List (String × D)} (r : Rep K S H x v) (q : Rel K S H) (e : insOf S x = some (c, fs)) (l : look f fs = some d) :
    ∃ a dx gs w, v = .ref a ∧ H a = some (.ins (clA K c) dx gs) ∧ Cls K (clA K c) ∧ NoAttr K (clA K c) (Str.ofString f) ∧ gs.lookup (Str.ofString f) = some w ∧ Rep K S H d w := by
  obtain ⟨a, dx, gs, rfl, h1, ⟨c1, c2, _⟩, r1⟩ := insOf_rep r q e
  have hl := r1.look (f := f)
  rw [l] at hl
  obtain ⟨w, hw, rw', p, hp, e2⟩ := hl
  subst e2
  exact ⟨a, dx, gs, w, rfl, h1, c1, c2 p hp, hw, rw'⟩
section
variable {X : Cx} {F : Fr} {pos p apos : Pos} {a e o : Expr} {es : List Expr} {wo we : WpE} {wa : WpA} {f : String}
theorem we_fld (ho : WE X F o wo) (hb : baseOk o = true) : WE X F (.Attribute o (Str.ofString f) pos) (wFld f wo) :=
  (pe_fld (f := Str.ofString f) ho (attrBase hb)).imp fun σ H Q ⟨ς, S, R, g, k, hw, hR⟩ => by
    refine tE.mk g k hw fun x S1 v H1 h1 g1 k1 d1 r1 => ?_
    obtain ⟨c, fs, d, e, l, h1⟩ := h1
    obtain ⟨a, dx, gs, w, rfl, e1, c1, c2, hw', rw'⟩ := fld_ok r1 g1.rel e l
    exact ⟨a, _, dx, gs, w, rfl, e1, c1, c2, hw', hR d S1 w H1 h1 g1.rel d1 rw'⟩
end

/-! ### what a def promises, over data -/
abbrev Spec := List D → Sto → (D → Sto → Prop) → (String → Sto → Prop) → Prop
def spOf (K : PySem.W.Frag) (φ : Spec) : Sp := fun vs H Q E => ∃ xs S R RE, RepL K S H xs vs ∧ Rel K S H ∧ φ xs S R RE ∧
  (∀ x S' v H', R x S' → Rel K S' H' → Keep K S H S' H' → Rep K S' H' x v → Q v H') ∧ (∀ c d S' H', (c ≠ "NoPot" → d = none) → RE c S' → Rel K S' H' → Keep K S H S' H' → E (.ref (clA K c)) d H')
/-- a def: its parameters' number, its promise -/
structure Fn where
  n : Nat
  φ : Spec
/-- .. where the last ones may be left out: dds the values that then stand for them -/
structure FnBd (P : Program) (w : World) (K : PySem.W.Frag) (mg : Str → Option Value) (base : Heap) (k : Nat) (f : Addr) (n : Nat) (dds : List D) (φ : Spec) : Prop where
  ok : ∃ fd ps ds dvs, FnOk P w K mg base (L2.CX P w) k f fd ps (spOf K φ) ∧ Binds K fd ps ds ∧ Vals dvs ds ∧ (∀ S H, RepL K S H dds dvs)
  kp : PySem.W.keepIn K (.ref f) = true
theorem FnBd.mono {P : Program} {w : World} {K : PySem.W.Frag} {mg : Str → Option Value} {base : Heap} {j k : Nat} {f : Addr} {n : Nat} {dds : List D} {φ : Spec} (h : FnBd P w K mg base j f n dds φ) (l : j ≤ k) : FnBd P w K mg base k f n dds φ := by
  obtain ⟨⟨fd, ps, ds, dvs, a, b, c, d⟩, kp⟩ := h
  exact ⟨⟨fd, ps, ds, dvs, a.mono l, b, c, d⟩, kp⟩
/-- what a body's frame wants of an exception -/
def wF (K : PySem.W.Frag) (F : Fr) : WX := fun cls d σ H => ∃ c ς S, cls = .ref (clA K c) ∧ (c ≠ "NoPot" → d = none) ∧ Good K ς S σ H ∧ Keep K F.S0 F.H0 S H ∧ F.XE c ς S
section
variable {X : Cx} {F : Fr} {pos p apos : Pos} {a e o : Expr} {es : List Expr} {wo we : WpE} {wa : WpA} {x : Str} {k n : Nat} {f : Addr} {φ : Spec} {dds : List D}
theorem run_fnD {CX : CXT} {fd : FuncData} {ps : List Str} {sp : Sp} {ds : List Value} {dvs : List V} {E : XK} {pins : List (Addr × Obj)} {σ : L2.St} {H : Hp} {s : Shared} {Q : VK} {us : List Value} {vs : List V}
    (F : FnOk X.prog X.w X.K X.mg X.base CX k f fd ps sp) (hr : Room k X.A) (hb : Binds X.K fd ps ds) (hd : Vals dvs ds) (hx : PassesAt CX X σ E)
    (I : Inv X pins σ H s) (r : Vals vs us) (h : sp (vs ++ dvs) H Q E) : wpAny (model X.prog X.w) X.A (call (.ref f) us) (EP X pins σ Q) X.xe s := by
  have r2 : Vals (vs ++ dvs) (us ++ ds) := r.append hd
  have hl : (us ++ ds).length = ps.length := by rw [← r2.length]; exact F.len _ _ _ _ h
  refine wpAny_call (codeAny_mono (F.run X.A X.stack s H ⟨us, []⟩ (us ++ ds) (vs ++ dvs) Q E hr I.env0 (hb s us I.kIn hl) r2 h) fun r s' hq => ?_)
  cases r with
  | error e => exact hx pins H s e s' I hq
  | ok fl =>
    cases fl with
    | ret u => exact I.after hq
    | next => exact False.elim hq
    | brk => exact False.elim hq
    | cont => exact False.elim hq
/-- a call by values: from what is asked of data -/
theorem call_ok (B : FnBd X.prog X.w X.K X.mg X.base k f n dds φ) (hr : Room k X.A) (tk : Takes X (wF X.K F)) {pins : List (Addr × Obj)} {σ : L2.St} {H : Hp} {s : Shared} {Q : VK} {us : List Value} {vs : List V} {ς : En} {S : Sto} {R : Pd} {xs : List D}
    (I : Inv X pins σ H s) (r : Vals vs us) (g : Good X.K ς S σ H) (kk : Keep X.K F.S0 F.H0 S H) (rx : RepL X.K S H xs vs) (h : φ (xs ++ dds) S R (fun c S' => F.XE c ς S'))
    (hR : ∀ x S' v H', R x S' → Rel X.K S' H' → Keep X.K S H S' H' → Rep X.K S' H' x v → Q v H') : wpAny (model X.prog X.w) X.A (call (.ref f) us) (EP X pins σ Q) X.xe s := by
  obtain ⟨fd, ps, ds, dvs, ok, hb, hd, rd⟩ := B.ok
  refine run_fnD ok hr hb hd (passAt tk σ) I r ⟨xs ++ dds, S, R, _, rx.append (rd S H), g.rel, h, hR, fun c d S' H' hd q r' k' => ?_⟩
  exact ⟨c, ς, S', rfl, hd, g.keep r' k', kk.trans k', q⟩
def wCall (φ : Spec) (dds : List D) (wa : WpA) : WpE := fun ς S R RE => wa ς S (fun xs S1 => φ (xs ++ dds) S1 R RE) RE
/-- f(..), f an own def -/
theorem we_call (B : FnBd X.prog X.w X.K X.mg X.base k f n dds φ) (hr : Room k X.A) (tk : Takes X (wF X.K F)) (hg : Gl X x) (hm : X.mg x = some (.ref f)) (ha : WA X F (e :: es) wa) (hn : noStars (e :: es) = true)
    (hdb : (x == ("__debug__" : Str)) = false) : WE X F (.Call (.Name x p) (e :: es) [] pos) (wCall φ dds wa) := by
  refine ⟨fun pins s σ H Q I h => ?_⟩
  obtain ⟨ς, S, R, g, kk, hw, hR⟩ := h
  refine wpAny_Call_Name_kw (ld_glob I hg hm ?_ hdb)
  have hn' : noStar e = true ∧ noStars es = true := by simpa [noStars] using hn
  refine PySem.W.callWith_K (h₀ := X.base) I.ok.mod.kin B.kp ?_ (starEach_cons hn'.1) (back_any hn'.2)
  refine thn (ha.run pos pins s σ H _ I (tA.mk (Q := fun vs H1 => ∃ S1 xs, Good X.K ς S1 σ H1 ∧ Keep X.K F.S0 F.H0 S1 H1 ∧ Keep X.K S H S1 H1 ∧ RepL X.K S1 H1 xs vs ∧ φ (xs ++ dds) S1 R (fun c S' => F.XE c ς S')) g kk hw fun xs S1 vs H1 h1 g1 k1 d1 r1 => ⟨S1, xs, g1, k1, d1, r1, h1⟩)) fun us s1 ⟨vs, H1, I1, r, S1, xs, g1, k1, d1, r1, h1⟩ => ⟨I1.kIn, ?_⟩
  exact call_ok B hr tk I1 r g1 k1 r1 h1 fun x S' v H' q r k p => hR x S' v H' q r (d1.trans k) p
theorem we_call0 (B : FnBd X.prog X.w X.K X.mg X.base k f n dds φ) (hr : Room k X.A) (tk : Takes X (wF X.K F)) (hg : Gl X x) (hm : X.mg x = some (.ref f)) (hdb : (x == ("__debug__" : Str)) = false) : WE X F (.Call (.Name x p) [] [] pos) (wCall φ dds wNil) := by
  refine ⟨fun pins s σ H Q I h => ?_⟩
  obtain ⟨ς, S, R, g, kk, hw, hR⟩ := h
  refine wpAny_Call_Name_kw (ld_glob I hg hm ?_ hdb)
  exact PySem.W.callWith_K0 I.kIn B.kp (call_ok (us := []) (vs := []) (xs := []) B hr tk I .nil g kk .nil hw fun x S' v H' q r k p => hR x S' v H' q r k p)
/-- a method of a class, as it is found -/
structure MtBd (P : Program) (w : World) (K : PySem.W.Frag) (mg : Str → Option Value) (base : Heap) (k : Nat) (C : Addr) (m : Str) (n : Nat) (dds : List D) (φ : Spec) : Prop where
  ex : ∃ f, Meth K C m f ∧ FnBd P w K mg base k f n dds φ
/-- o.m(..): by the class of what o is -/
def wMeth (m : String) (cs : List (String × Nat × List D × Spec)) (wo : WpE) (wa : WpA) : WpE := fun ς S R RE => wo ς S (fun x S1 => ∃ c fs nd, insOf S1 x = some (c, fs) ∧ look m fs = none ∧ cs.lookup c = some nd ∧
  wa ς S1 (fun xs S2 => nd.2.2 (x :: (xs ++ nd.2.1)) S2 R RE) RE) RE
theorem we_meth {m : String} {cs : List (String × Nat × List D × Spec)} (B : ∀ c nd, cs.lookup c = some nd → MtBd X.prog X.w X.K X.mg X.base k (clA X.K c) (Str.ofString m) nd.1 nd.2.1 nd.2.2) (hr : Room k X.A) (tk : Takes X (wF X.K F))
    (ho : WE X F o wo) (ha : WA X F (e :: es) wa) (hb : baseOk o = true) (hn : noStars (e :: es) = true) (hl : (e :: es).length < 29) (hline : (apos.endLine == pos.line) = true) :
    WE X F (.Call (.Attribute o (Str.ofString m) apos) (e :: es) [] pos) (wMeth m cs wo wa) := by
  refine ⟨fun pins s σ H Q I h => ?_⟩
  obtain ⟨ς, S, R, g, kk, hw, hR⟩ := h
  refine PySem.W.methodCall_KW (pl := plainOf o X.env) (thn (ho.run pins s σ H _ I (tE.mk (Q := fun v H1 => ∃ x S1, Good X.K ς S1 σ H1 ∧ Keep X.K F.S0 F.H0 S1 H1 ∧ Keep X.K S H S1 H1 ∧ Rep X.K S1 H1 x v ∧
    ∃ c fs nd, insOf S1 x = some (c, fs) ∧ look m fs = none ∧ cs.lookup c = some nd ∧ wa ς S1 (fun xs S2 => nd.2.2 (x :: (xs ++ nd.2.1)) S2 R (fun c S' => F.XE c ς S')) (fun c S' => F.XE c ς S')) g kk hw fun x S1 v H1 h1 g1 k1 d1 r1 => ⟨x, S1, g1, k1, d1, r1, h1⟩))
    fun u s1 ⟨v, H1, I1, rv, x, S1, g1, k1, d1, r1, c, fs, nd, e1, l1, cl, h1⟩ => ?_) (mcall_tree hb hn hl hline)
  obtain ⟨a, dx, gs, rfl, ha1, ⟨c1, c2, c3⟩, rf⟩ := insOf_rep r1 g1.rel e1
  obtain rfl : u = Value.ref a := rv
  obtain ⟨f, hm, Bf⟩ := (B c nd cl).ex
  have lk := rf.look (f := m)
  rw [l1] at lk
  refine getmeth_ok I1 ha1 c1 hm lk ?_
  have hn' : noStar e = true ∧ noStars es = true := by simpa [noStars] using hn
  refine PySem.W.callWith_K (first := [.ref a]) (h₀ := X.base) I.ok.mod.kin hm.kp (thn (ha.run pos pins s1 σ H1 _ I1 (tA.mk (Q := fun vs H2 => ∃ S2 xs, Good X.K ς S2 σ H2 ∧ Keep X.K F.S0 F.H0 S2 H2 ∧ Keep X.K S1 H1 S2 H2 ∧ RepL X.K S2 H2 xs vs ∧ nd.2.2 (x :: (xs ++ nd.2.1)) S2 R (fun c S' => F.XE c ς S'))
    g1 k1 h1 fun xs S2 vs H2 h2 g2 k2 d2 r2 => ⟨S2, xs, g2, k2, d2, r2, h2⟩)) fun us s2 ⟨vs, H2, I2, r, S2, xs, g2, k2, d2, r2, h2⟩ => ⟨I2.kIn, ?_⟩) (starEach_cons hn'.1) (back_any hn'.2)
  exact call_ok (us := .ref a :: us) (vs := .ref a :: vs) (xs := x :: xs) Bf hr tk I2 (.cons rfl r) g2 k2 (.cons (d2 _ _ r1) r2) h2 fun x S' v H' q r k p => hR x S' v H' q r ((d1.trans d2).trans k) p
theorem we_meth0 {m : String} {cs : List (String × Nat × List D × Spec)} (B : ∀ c nd, cs.lookup c = some nd → MtBd X.prog X.w X.K X.mg X.base k (clA X.K c) (Str.ofString m) nd.1 nd.2.1 nd.2.2) (hr : Room k X.A) (tk : Takes X (wF X.K F))
    (ho : WE X F o wo) (hb : baseOk o = true) (hline : (apos.endLine == pos.line) = true) :
    WE X F (.Call (.Attribute o (Str.ofString m) apos) [] [] pos) (wMeth m cs wo wNil) := by
  refine ⟨fun pins s σ H Q I h => ?_⟩
  obtain ⟨ς, S, R, g, kk, hw, hR⟩ := h
  refine PySem.W.methodCall_KW (pl := plainOf o X.env) (thn (ho.run pins s σ H _ I (tE.mk (Q := fun v H1 => ∃ x S1, Good X.K ς S1 σ H1 ∧ Keep X.K F.S0 F.H0 S1 H1 ∧ Keep X.K S H S1 H1 ∧ Rep X.K S1 H1 x v ∧
    ∃ c fs nd, insOf S1 x = some (c, fs) ∧ look m fs = none ∧ cs.lookup c = some nd ∧ wNil ς S1 (fun xs S2 => nd.2.2 (x :: (xs ++ nd.2.1)) S2 R (fun c S' => F.XE c ς S')) (fun c S' => F.XE c ς S')) g kk hw fun x S1 v H1 h1 g1 k1 d1 r1 => ⟨x, S1, g1, k1, d1, r1, h1⟩))
    fun u s1 ⟨v, H1, I1, rv, x, S1, g1, k1, d1, r1, c, fs, nd, e1, l1, cl, h1⟩ => ?_) (mcall_tree hb rfl (by decide) hline)
  obtain ⟨a, dx, gs, rfl, ha1, ⟨c1, c2, c3⟩, rf⟩ := insOf_rep r1 g1.rel e1
  obtain rfl : u = Value.ref a := rv
  obtain ⟨f, hm, Bf⟩ := (B c nd cl).ex
  have lk := rf.look (f := m)
  rw [l1] at lk
  refine getmeth_ok I1 ha1 c1 hm lk ?_
  exact PySem.W.callWith_K0 (first := [.ref a]) I1.kIn hm.kp (call_ok (us := [.ref a]) (vs := [.ref a]) (xs := [x]) Bf hr tk I1 (.cons rfl .nil) g1 k1 (.cons r1 .nil) h1 fun x S' v H' q r k p => hR x S' v H' q r (d1.trans k) p)

/-! ### own classes made -/
structure MkBd (P : Program) (w : World) (K : PySem.W.Frag) (mg : Str → Option Value) (base : Heap) (k : Nat) (c : String) (n : Nat) (dds : List D) (φ : Spec) : Prop where
  ex : ∃ f, Mk K (clA K c) f ∧ FnBd P w K mg base k f n dds φ
  cl : Cls K (clA K c)
/-- the new instance one's own, or data behind its making -/
def mkI (own : Bool) (c : String) (p : Addr) (R : Pd) (S : Sto) : Prop := match own with
  | true => R (.ref p) S
  | false => ∃ fs, S p = some (.ins c fs) ∧ R (.ins c fs) (S.del p)
/-- C(..) -/
def wMake (own : Bool) (c : String) (dds : List D) (φ : Spec) (wa : WpA) : WpE := fun ς S R RE => wa ς S (fun xs S1 => ∀ p, S1 p = none → φ (.ref p :: (xs ++ dds)) (S1.set p (.ins c [])) (fun v S2 => v = .non ∧ mkI own c p R S2) RE) RE
theorem make_ok {c : String} {own : Bool} (B : MkBd X.prog X.w X.K X.mg X.base k c n dds φ) (hr : Room (k + 1) X.A) (tk : Takes X (wF X.K F)) {pins : List (Addr × Obj)} {σ : L2.St} {H : Hp} {s : Shared} {Q : VK} {us : List Value} {vs : List V} {ς : En} {S : Sto} {R : Pd} {xs : List D}
    (I : Inv X pins σ H s) (r : Vals vs us) (g : Good X.K ς S σ H) (kk : Keep X.K F.S0 F.H0 S H) (rx : RepL X.K S H xs vs)
    (h : ∀ p, S p = none → φ (.ref p :: (xs ++ dds)) (S.set p (.ins c [])) (fun v S2 => v = .non ∧ mkI own c p R S2) (fun c S' => F.XE c ς S'))
    (hR : ∀ x S' v H', R x S' → Rel X.K S' H' → Keep X.K S H S' H' → Rep X.K S' H' x v → Q v H') : wpAny (model X.prog X.w) X.A (call (.ref (clA X.K c)) us) (EP X pins σ Q) X.xe s := by
  obtain ⟨f, M, Bf⟩ := B.ex
  obtain ⟨fd, ps, ds, dvs, ok, hb, hd, rd⟩ := Bf.ok
  have n0 : H s.heap.objs.size = none := I.hok.fresh (Nat.le_refl _)
  have n1 : H (s.heap.objs.size + 1) = none := I.hok.fresh (Nat.le_succ _)
  generalize ep : s.heap.objs.size + 1 = p at n1
  generalize ed : s.heap.objs.size = dx at n0
  have ne : dx ≠ p := by omega
  have I2 : Inv X pins σ (upd (upd H dx (.own p)) p (.ins (clA X.K c) dx [])) { s with heap := (s.heap.push PySem.W.emptyDict).push (PySem.W.instObj (clA X.K c) dx) } := by
    subst ed ep
    exact Inv.made (C := clA X.K c) I
  have hq := h p (g.rel.fresh n1)
  have n1' : (upd H dx (.own p)) p = none := by rw [upd_ne (Ne.symm ne)]; exact n1
  have K1 : Keep X.K S H S (upd H dx (.own p)) := Keep.new n0
  have K2 : Keep X.K S (upd H dx (.own p)) (S.set p (.ins c [])) (upd (upd H dx (.own p)) p (.ins (clA X.K c) dx [])) := Keep.own n1'
  have R2 : Rel X.K (S.set p (.ins c [])) (upd (upd H dx (.own p)) p (.ins (clA X.K c) dx [])) := (g.rel.new n0).own n1' ⟨⟨B.cl, (fun q hq => absurd hq List.not_mem_nil), Nat.zero_le _⟩, dx, [], upd_same, .nil⟩
  have K12 := K1.trans K2
  have r2 : Vals (V.ref p :: (vs ++ dvs)) (Value.ref p :: (us ++ ds)) := .cons rfl (r.append hd)
  have sp : spOf X.K φ (V.ref p :: (vs ++ dvs)) (upd (upd H dx (.own p)) p (.ins (clA X.K c) dx [])) (fun v H2 => v = .non ∧ Q (.ref p) H2) (L2.WE (wF X.K F) σ) := by
    refine ⟨.ref p :: (xs ++ dds), _, _, _, .cons (.ref p) ((K12.l rx).append (rd _ _)), R2, hq, fun x S' v H' q r' k' p' => ?_, fun c' d' S' H' hd q r' k' => ?_⟩
    · obtain ⟨rfl, q⟩ := q
      cases p'
      refine ⟨rfl, ?_⟩
      cases own with
      | true => exact hR _ S' _ H' q r' (K12.trans k') (.ref p)
      | false =>
        obtain ⟨fs, e, q⟩ := q
        obtain ⟨co, dx', gs, e', rf⟩ := r' p _ e
        have hd' : ∀ b, (S'.del p) b = S' b ∨ (S'.del p) b = none := fun b => by
          by_cases e : b = p
          · subst e; exact .inr Sto.del_same
          · rw [Sto.del_ne e]; exact .inl rfl
        have LK := Keep.left (K := X.K) (H := H') hd'
        exact hR _ _ _ H' q (r'.left hd') ((K12.trans k').trans LK) (.ins e' Sto.del_same co (LK.f rf))
    · exact ⟨c', ς, S', rfl, hd, g.keep r' (K12.trans k'), kk.trans (K12.trans k'), q⟩
  have hl : (Value.ref p :: us ++ ds).length = ps.length := by
    have e := r2.length
    rw [ok.len _ _ _ _ sp] at e
    exact e.symm
  have hx : PassesAt (L2.CX X.prog X.w) X σ (L2.WE (wF X.K F) σ) := passAt tk σ
  refine wpAny_call (make_map (f := f) I.kIn M.makes M.init (beq_iff_eq.mp M.fn) ?_)
  rw [ep, ed]
  refine codeAny_mono (ok.run _ X.stack _ _ ⟨Value.ref p :: us, []⟩ (Value.ref p :: (us ++ ds)) _ _ _ (hr.make (clA X.K c) us [])
    (I2.env0.make (clA X.K c) us []) (hb _ (Value.ref p :: us) I2.kIn hl) r2 sp) fun r s' hq' => ?_
  cases r with
  | error e => exact hx pins _ _ e s' I2 hq'
  | ok fl =>
    cases fl with
    | ret u =>
      obtain ⟨v, H', I3, rv, ev, q3⟩ := I2.after hq'
      subst ev
      exact ⟨rv, ⟨V.ref p, H', I3, rfl, q3⟩⟩
    | next => exact False.elim hq'
    | brk => exact False.elim hq'
    | cont => exact False.elim hq'
theorem we_make {c : String} {own : Bool} (B : MkBd X.prog X.w X.K X.mg X.base k c n dds φ) (hr : Room (k + 1) X.A) (tk : Takes X (wF X.K F)) (hg : Gl X x) (hm : X.mg x = some (.ref (clA X.K c))) (ha : WA X F (e :: es) wa) (hn : noStars (e :: es) = true)
    (hdb : (x == ("__debug__" : Str)) = false) : WE X F (.Call (.Name x p) (e :: es) [] pos) (wMake own c dds φ wa) := by
  refine ⟨fun pins s σ H Q I h => ?_⟩
  obtain ⟨ς, S, R, g, kk, hw, hR⟩ := h
  refine wpAny_Call_Name_kw (ld_glob I hg hm ?_ hdb)
  have hn' : noStar e = true ∧ noStars es = true := by simpa [noStars] using hn
  obtain ⟨f, M, Bf⟩ := B.ex
  refine PySem.W.callWith_K (h₀ := X.base) I.ok.mod.kin M.kp ?_ (starEach_cons hn'.1) (back_any hn'.2)
  refine thn (ha.run pos pins s σ H _ I (tA.mk (Q := fun vs H1 => ∃ S1 xs, Good X.K ς S1 σ H1 ∧ Keep X.K F.S0 F.H0 S1 H1 ∧ Keep X.K S H S1 H1 ∧ RepL X.K S1 H1 xs vs ∧
    ∀ p, S1 p = none → φ (.ref p :: (xs ++ dds)) (S1.set p (.ins c [])) (fun v S2 => v = .non ∧ mkI own c p R S2) (fun c S' => F.XE c ς S')) g kk hw fun xs S1 vs H1 h1 g1 k1 d1 r1 => ⟨S1, xs, g1, k1, d1, r1, h1⟩)) fun us s1 ⟨vs, H1, I1, r, S1, xs, g1, k1, d1, r1, h1⟩ => ⟨I1.kIn, ?_⟩
  exact make_ok B hr tk I1 r g1 k1 r1 h1 fun x S' v H' q r k p => hR x S' v H' q r (d1.trans k) p
theorem we_make0 {c : String} {own : Bool} (B : MkBd X.prog X.w X.K X.mg X.base k c n dds φ) (hr : Room (k + 1) X.A) (tk : Takes X (wF X.K F)) (hg : Gl X x) (hm : X.mg x = some (.ref (clA X.K c)))
    (hdb : (x == ("__debug__" : Str)) = false) : WE X F (.Call (.Name x p) [] [] pos) (wMake own c dds φ wNil) := by
  refine ⟨fun pins s σ H Q I h => ?_⟩
  obtain ⟨ς, S, R, g, kk, hw, hR⟩ := h
  refine wpAny_Call_Name_kw (ld_glob I hg hm ?_ hdb)
  obtain ⟨f, M, Bf⟩ := B.ex
  exact PySem.W.callWith_K0 I.kIn M.kp (make_ok (us := []) (vs := []) (xs := []) B hr tk I .nil g kk .nil hw fun x S' v H' q r k p => hR x S' v H' q r k p)
end
end SB
end

section
set_option Elab.async false
set_option linter.all false
set_option maxRecDepth 100000
set_option autoImplicit false
/-! SB6: built-in functions and types called, by values. -/
namespace SB
open PySem PySem.Spec L2

def CaD (K : PySem.W.Frag) (r : List V → Hp → VK → Prop) (f : List D → Sto → Pd → Prop) : Prop :=
  ∀ xs vs S H (R : Pd) (Q : VK), Rel K S H → RepL K S H xs vs → f xs S R → (∀ z S' v' H', R z S' → Rel K S' H' → Keep K S H S' H' → Rep K S' H' z v' → Q v' H') → r vs H Q
def wFun (f : List D → Sto → Pd → Prop) (wa : WpA) : WpE := fun ς S R RE => wa ς S (fun xs S1 => f xs S1 R) RE
section
variable {X : Cx} {F : Fr} {pos p : Pos} {e : Expr} {es : List Expr} {wa : WpA} {x : Str} {id T : String} {r : List V → Hp → VK → Prop} {f : List D → Sto → Pd → Prop}
theorem fun_ok {K : PySem.W.Frag} (hd : CaD K r f) {σ : L2.St} {H : Hp} {Q : VK} (h : tE K F (wFun f wa) σ H Q) : tCB r (tA K F wa) σ H Q := by
  obtain ⟨ς, S, R, g, k, hw, hR⟩ := h
  exact tA.mk g k hw fun xs S1 vs H1 h1 g1 k1 d1 r1 => hd xs vs S1 H1 R Q g1.rel r1 h1 fun z S' v' H' q r k p => hR z S' v' H' q r (d1.trans k) p
theorem we_callB (hc : CallR X (.builtin id) r) (hd : CaD X.K r f) (hg : Gl X x) (hm : X.mg x = none) (hv : bootBuiltins x = some (.builtin id)) (ha : WA X F (e :: es) wa) (hs : noStars (e :: es) = true) (hn : x ≠ "__name__") (hdb : (x == ("__debug__" : Str)) = false) :
    WE X F (.Call (.Name x p) (e :: es) [] pos) (wFun f wa) := by
  have hn' : noStar e = true ∧ noStars es = true := by simpa [noStars] using hs
  exact (pe_callB hc hg hm hv ha hn hdb (starEach_cons hn'.1) (back_any hn'.2)).imp fun _ _ _ h => fun_ok hd h
theorem we_callTy (hc : CallR X (.type T) r) (hd : CaD X.K r f) (hg : Gl X x) (hm : X.mg x = none) (hv : bootBuiltins x = some (.type T)) (ha : WA X F (e :: es) wa) (hs : noStars (e :: es) = true) (hn : x ≠ "__name__") (hdb : (x == ("__debug__" : Str)) = false) :
    WE X F (.Call (.Name x p) (e :: es) [] pos) (wFun f wa) := by
  have hn' : noStar e = true ∧ noStars es = true := by simpa [noStars] using hs
  exact (pe_callTy hc hg hm hv ha hn hdb (starEach_cons hn'.1) (back_any hn'.2)).imp fun _ _ _ h => fun_ok hd h
end
/-! ### what the lists hold -/
def intL : List D → Option (List Int)
  | [] => some []
  | .int i :: r => (intL r).map (i :: ·)
  | _ => none
def blL : List D → Option (List Bool)
  | [] => some []
  | .bl i :: r => (blL r).map (i :: ·)
  | _ => none
def strL : List D → Option (List Str)
  | [] => some []
  | .str i :: r => (strL r).map (i :: ·)
  | _ => none
@[simp] theorem intL_map : ∀ ns : List Int, intL (ns.map D.int) = some ns
  | [] => rfl
  | n :: ns => by simp [intL, intL_map ns]
@[simp] theorem blL_map : ∀ ns : List Bool, blL (ns.map D.bl) = some ns
  | [] => rfl
  | n :: ns => by simp [blL, blL_map ns]
@[simp] theorem strL_map : ∀ ns : List Str, strL (ns.map D.str) = some ns
  | [] => rfl
  | n :: ns => by simp [strL, strL_map ns]
theorem intL_eq : ∀ {l : List D} {ns : List Int}, intL l = some ns → l = ns.map D.int
  | [], ns, h => by cases h; rfl
  | x :: r, ns, h => by
    cases x with
    | int i =>
      simp only [intL, Option.map_eq_some_iff] at h
      obtain ⟨ms, h1, rfl⟩ := h
      rw [intL_eq h1]; rfl
    | _ => simp [intL] at h
theorem blL_eq : ∀ {l : List D} {ns : List Bool}, blL l = some ns → l = ns.map D.bl
  | [], ns, h => by cases h; rfl
  | x :: r, ns, h => by
    cases x with
    | bl i =>
      simp only [blL, Option.map_eq_some_iff] at h
      obtain ⟨ms, h1, rfl⟩ := h
      rw [blL_eq h1]; rfl
    | _ => simp [blL] at h
theorem strL_eq : ∀ {l : List D} {ns : List Str}, strL l = some ns → l = ns.map D.str
  | [], ns, h => by cases h; rfl
  | x :: r, ns, h => by
    cases x with
    | str i =>
      simp only [strL, Option.map_eq_some_iff] at h
      obtain ⟨ms, h1, rfl⟩ := h
      rw [strL_eq h1]; rfl
    | _ => simp [strL] at h
theorem RepL.ints {K : PySem.W.Frag} {S : Sto} {H : Hp} : ∀ {ns : List Int} {vs : List V}, RepL K S H (ns.map D.int) vs → vs = ns.map V.int
  | [], _, .nil => rfl
  | n :: ns, _, .cons r t => by cases r; rw [RepL.ints t]; rfl
theorem RepL.bls {K : PySem.W.Frag} {S : Sto} {H : Hp} : ∀ {ns : List Bool} {vs : List V}, RepL K S H (ns.map D.bl) vs → vs = ns.map V.bl
  | [], _, .nil => rfl
  | n :: ns, _, .cons r t => by cases r; rw [RepL.bls t]; rfl
theorem RepL.strs {K : PySem.W.Frag} {S : Sto} {H : Hp} : ∀ {ns : List Str} {vs : List V}, RepL K S H (ns.map D.str) vs → vs = ns.map V.str
  | [], _, .nil => rfl
  | n :: ns, _, .cons r t => by cases r; rw [RepL.strs t]; rfl
/-- the items of a list or a tuple -/
def seqOf (S : Sto) (x : D) : Option (List D) := match contOf S x with
  | .l l => some l
  | .t l => some l
  | _ => none
theorem seqOf_rep {K : PySem.W.Frag} {S : Sto} {H : Hp} {x : D} {v : V} {l : List D} (r : Rep K S H x v) (q : Rel K S H) (e : seqOf S x = some l) :
    ∃ a vs, v = .ref a ∧ (SqL K H a vs ∨ SqT K H a vs) ∧ RepL K S H l vs ∧ l.length ≤ sizeLine := by
  unfold seqOf at e
  split at e
  · rename_i l' h
    cases e
    obtain ⟨a, vs, rfl, h1, h2, h3⟩ := lstSq_rep r q h
    exact ⟨a, vs, rfl, .inl h1, h2, h3⟩
  · rename_i l' h
    cases e
    cases contT_inv h
    obtain ⟨a, vs, rfl, h1, h2, h3⟩ := r.tup_inv
    exact ⟨a, vs, rfl, .inr h1, h3, h2⟩
  · cases e
theorem RepL.one {K : PySem.W.Frag} {S : Sto} {H : Hp} {x : D} {vs : List V} (r : RepL K S H [x] vs) : ∃ v, vs = [v] ∧ Rep K S H x v := by
  cases r with
  | cons r t => cases t; exact ⟨_, rfl, r⟩
theorem RepL.two {K : PySem.W.Frag} {S : Sto} {H : Hp} {x y : D} {vs : List V} (r : RepL K S H [x, y] vs) : ∃ v u, vs = [v, u] ∧ Rep K S H x v ∧ Rep K S H y u := by
  cases r with
  | cons r t => obtain ⟨u, rfl, q⟩ := t.one; exact ⟨_, _, rfl, r, q⟩
/-! ### len -/
def fLen : List D → Sto → Pd → Prop
  | [x], S, R => (match contOf S x with
    | .d l => R (.int l.length) S
    | .s z => z.length ≤ sizeLine ∧ R (.int z.length) S
    | .l l => R (.int l.length) S
    | .t l => R (.int l.length) S
    | .no => False)
  | _, _, _ => False
def rLenD : List V → Hp → VK → Prop := fun xs H Q => ∃ a kvs, xs = [V.ref a] ∧ Rd H a (.dK kvs) ∧ Q (.int (kvs.length : Nat)) H
theorem call_lenRd {X : Cx} : CallR X (.builtin "len") rLenD := by
  intro pins s σ H xs us Q I r h
  obtain ⟨a, kvs, rfl, ha, q⟩ := h
  cases r with
  | cons r rr =>
    cases rr
    cases r
    exact d_len I ha fun t s' I' => ⟨.int kvs.length, H, I', ⟨t, rfl⟩, q⟩
theorem cd_len {K : PySem.W.Frag} : CaD K (fun xs H Q => rLenD xs H Q ∨ (∃ x n, xs = [x] ∧ LenV K x H n ∧ Q (.int n) H)) fLen := by
  intro xs vs S H R Q q r h hR
  unfold fLen at h
  split at h
  · rename_i x
    obtain ⟨v, rfl, rx⟩ := r.one
    split at h
    · rename_i l e
      obtain ⟨a, kvs, rfl, h1, r1⟩ := dictOf_rep rx q e
      exact .inl ⟨a, kvs, rfl, h1, by rw [← r1.length]; exact hR _ S _ H h q .refl (.int _)⟩
    · rename_i z e
      cases contS_inv e
      cases rx
      exact .inr ⟨_, z.length, rfl, ⟨h.1, rfl⟩, hR _ S _ H h.2 q .refl (.int _)⟩
    · rename_i l e
      obtain ⟨a, us, rfl, h1, r1, _⟩ := lstSq_rep rx q e
      exact .inr ⟨_, us.length, rfl, .inl ⟨us, h1, rfl⟩, by rw [← r1.length]; exact hR _ S _ H h q .refl (.int _)⟩
    · rename_i l e
      cases contT_inv e
      obtain ⟨a, us, rfl, h1, _, r1⟩ := rx.tup_inv
      exact .inr ⟨_, us.length, rfl, .inr ⟨us, h1, rfl⟩, by rw [← r1.length]; exact hR _ S _ H h q .refl (.int _)⟩
    · exact h.elim
  · exact h.elim
/-! ### list(x), tuple(x), dict(x) -/
def keyD : Key → D
  | .inl i => .int i
  | .inr x => .str x
theorem keyD_rep {K : PySem.W.Frag} {S : Sto} {H : Hp} (k : Key) : Rep K S H (keyD k) (kV k) := by
  cases k with
  | inl i => exact .int i
  | inr x => exact .str x
theorem RepK.keys {K : PySem.W.Frag} {S : Sto} {H : Hp} : ∀ {l : List (Key × D)} {vs : List (Key × V)}, RepK K S H l vs → RepL K S H (l.map fun p => keyD p.1) (vs.map fun kv => kV kv.1)
  | _, _, .nil => .nil
  | _, _, .cons r t => .cons (keyD_rep _) (RepK.keys t)
def fList (own : Bool) : List D → Sto → Pd → Prop
  | [x], S, R => (match contOf S x with
    | .d l => mkL own (l.map fun p => keyD p.1) S R
    | .l l => mkL own l S R
    | .t l => mkL own l S R
    | _ => False)
  | _, _, _ => False
theorem cd_list {K : PySem.W.Frag} {own : Bool} : CaD K (fun xs H Q => (∃ (a : Addr) (kvs : List (Key × V)), xs = [.ref a] ∧ Rd H a (.dK kvs) ∧ ∀ p, H p = none → Q (.ref p) (upd H p (.lst (kvs.map fun kv => kV kv.1)))) ∨
    (∃ p ys, xs = [.ref p] ∧ (SqL K H p ys ∨ SqT K H p ys) ∧ ∀ l, H l = none → Q (.ref l) (upd H l (.lst ys)))) (fList own) := by
  intro xs vs S H R Q q r h hR
  unfold fList at h
  split at h
  · rename_i x
    obtain ⟨v, rfl, rx⟩ := r.one
    split at h
    · rename_i l e
      obtain ⟨a, kvs, rfl, h1, r1⟩ := dictOf_rep rx q e
      exact .inl ⟨a, kvs, rfl, h1, (mkL_ok q h r1.keys hR).2⟩
    · rename_i l e
      obtain ⟨a, us, rfl, h1, r1, _⟩ := lstSq_rep rx q e
      exact .inr ⟨a, us, rfl, .inl h1, (mkL_ok q h r1 hR).2⟩
    · rename_i l e
      cases contT_inv e
      obtain ⟨a, us, rfl, h1, _, r1⟩ := rx.tup_inv
      exact .inr ⟨a, us, rfl, .inr h1, (mkL_ok q h r1 hR).2⟩
    · exact h.elim
  · exact h.elim
def fTuple : List D → Sto → Pd → Prop
  | [x], S, R => ∃ l, seqOf S x = some l ∧ R (.tup l) S
  | _, _, _ => False
theorem cd_tuple {K : PySem.W.Frag} : CaD K (fun xs H Q => ∃ p ys, xs = [.ref p] ∧ ((SqL K H p ys ∧ ∀ l, H l = none → Q (.ref l) (upd H l (.tup ys))) ∨ (SqT K H p ys ∧ Q (.ref p) H))) fTuple := by
  intro xs vs S H R Q q r h hR
  unfold fTuple at h
  split at h
  · rename_i x
    obtain ⟨v, rfl, rx⟩ := r.one
    obtain ⟨l, e, h⟩ := h
    obtain ⟨a, us, rfl, h1, r1, z⟩ := seqOf_rep rx q e
    rcases h1 with h1 | h1
    · exact ⟨a, us, rfl, .inl ⟨h1, (mkT_ok q z h r1 hR).2⟩⟩
    · exact ⟨a, us, rfl, .inr ⟨h1, hR _ S _ H h q .refl (.tup h1 z r1)⟩⟩
  · exact h.elim
/-- a pair's list as a dict's pairs -/
def pairL : List D → Option (List (Key × D))
  | [] => some []
  | .tup [k, x] :: r => (match keyOf k with
    | some k => (pairL r).map ((k, x) :: ·)
    | none => none)
  | _ => none
def fDict (own : Bool) : List D → Sto → Pd → Prop
  | [x], S, R => (match contOf S x with
    | .d l => mkD own l S R
    | .l l => ∃ ps, pairL l = some ps ∧ mkD own (mergeD [] ps) S R
    | _ => False)
  | _, _, _ => False
theorem pairL_rep {K : PySem.W.Frag} {S : Sto} {H : Hp} : ∀ {l : List D} {vs : List V} {ps : List (Key × D)}, RepL K S H l vs → pairL l = some ps →
    ∃ (as : List Addr) (kvs : List (Key × V)), vs = as.map V.ref ∧ Paired (fun p kv => SqT K H p [kV kv.1, kv.2]) as kvs ∧ RepK K S H ps kvs
  | [], _, ps, .nil, h => by cases h; exact ⟨[], [], rfl, .nil, .nil⟩
  | x :: l, _, ps, .cons r t, h => by
    unfold pairL at h
    split at h
    · rename_i h2
      cases h2
    · rename_i k d l' e
      injection e with e1 e2
      subst e1 e2
      split at h
      · rename_i k' ek
        rw [Option.map_eq_some_iff] at h
        obtain ⟨ps', h1, rfl⟩ := h
        obtain ⟨as, kvs, rfl, p, q⟩ := pairL_rep t h1
        obtain ⟨a, us, rfl, h3, _, rr⟩ := r.tup_inv
        obtain ⟨v1, v2, rfl, r1, r2⟩ := rr.two
        have := keyOf_rep r1 ek
        subst this
        exact ⟨a :: as, (k', v2) :: kvs, rfl, .cons h3 p, .cons r2 q⟩
      · cases h
    · cases h
theorem cd_dict {K : PySem.W.Frag} {own : Bool} : CaD K (fun xs H Q => (∃ (a : Addr) (kvs : List (Key × V)), xs = [.ref a] ∧ Rd H a (.dK kvs) ∧ ∀ p, H p = none → Q (.ref p) (upd H p (.dK kvs))) ∨
    (∃ (a : Addr) (ps : List Addr) (kvs : List (Key × V)), xs = [.ref a] ∧ SqL K H a (ps.map V.ref) ∧ Paired (fun p kv => SqT K H p [kV kv.1, kv.2]) ps kvs ∧ ∀ p, H p = none → Q (.ref p) (upd H p (.dK (mergeK [] kvs))))) (fDict own) := by
  intro xs vs S H R Q q r h hR
  unfold fDict at h
  split at h
  · rename_i x
    obtain ⟨v, rfl, rx⟩ := r.one
    split at h
    · rename_i l e
      obtain ⟨a, kvs, rfl, h1, r1⟩ := dictOf_rep rx q e
      exact .inl ⟨a, kvs, rfl, h1, mkD_ok q h r1 hR⟩
    · rename_i l e
      obtain ⟨ps, hp, h⟩ := h
      obtain ⟨a, us, rfl, h1, r1, _⟩ := lstSq_rep rx q e
      obtain ⟨as, kvs, rfl, p, r2⟩ := pairL_rep r1 hp
      exact .inr ⟨a, as, kvs, rfl, h1, p, mkD_ok q h (r2.merge .nil) hR⟩
    · exact h.elim
  · exact h.elim
/-! ### sum, all, any, sorted, min, max -/
section
variable {X : Cx} {prog : Program} {w : World} {A : Around} {E : Value → Shared → Prop} {s : Shared} {l : Addr} {its : List Value} {ns : List Int} {Q : Value → Shared → Prop}
open PyProof.Rows (IntsAre) in
theorem sum_rawT (hh : A.handled = none) (hl : s.heap.IsTuple l its.toArray) (hi : IntsAre its ns)
    (h : ∀ h' tk t', (∀ b o, s.heap.get? b = some o → h'.get? b = some o) → Q (.int ns.sum t') { s with heap := h', toks := tk }) : wpAny (model prog w) A (call (.builtin "sum") [.ref l]) Q E s := by
  obtain ⟨xs, e⟩ := hi.allInts.items
  have hn : numsOf (intItems xs).toList = ns := by rw [← e]; exact hi.numsOf
  rw [nums_intItems] at hn
  rw [e] at hl
  have hlt : l < s.heap.objs.size := by obtain ⟨_, e, _⟩ := hl; exact Heap.lt_size e
  refine call_sum_walkG (wpAny_pyIter_tuple hl ?_)
  refine ⟨s.heap.objs.size, _, _, _, _, _, numAt xs, rfl, Walks.tuple (A := A.in1) hh _ l (Nat.ne_of_lt hlt) (intItems xs), ⟨⟨_, Heap.get?_push_size _ rfl, rfl, rfl⟩, hl.push _⟩, fun b hb => ?_, (fun _ _ => intItems_at), fun h' tk t' hk => ?_⟩
  · show b < (s.heap.push _).objs.size
    rw [Heap.size_push]
    rcases List.mem_cons.mp hb with rfl | hb
    · exact Nat.lt_succ_self _
    · rcases List.mem_cons.mp hb with rfl | hb
      · exact Nat.lt_succ_of_lt hlt
      · cases hb
  · have := h h' tk t' fun b o e => hk b o (fun hm => by
      rcases List.mem_cons.mp hm with e1 | hm
      · exact absurd (e1 ▸ Heap.lt_size e) (Nat.lt_irrefl _)
      · cases hm) (Heap.get?_push_of_some _ e)
    have e2 : (intItems xs).size = xs.size := by simp [intItems]
    rw [e2, preSum_eq, List.take_of_length_le (by simp), hn]
    exact this
open PyProof.Rows (IntsAre) in
theorem min_rawT (hh : A.handled = none) (hl : s.heap.IsTuple l its.toArray) (hi : IntsAre its ns) (hne : 0 < ns.length)
    (h : ∀ h' tk M t', (∀ b o, s.heap.get? b = some o → h'.get? b = some o) → M ∈ ns → (∀ a, a ∈ ns → M ≤ a) → Q (.int M t') { s with heap := h', toks := tk }) : wpAny (model prog w) A (call (.builtin "min") [.ref l]) Q E s := by
  obtain ⟨xs, e⟩ := hi.allInts.items
  have hn : numsOf (intItems xs).toList = ns := by rw [← e]; exact hi.numsOf
  rw [nums_intItems] at hn
  subst hn
  rw [e] at hl
  have hsz : 0 < xs.size := by simpa using hne
  have hlt : l < s.heap.objs.size := by obtain ⟨_, e, _⟩ := hl; exact Heap.lt_size e
  refine call_min_walk (wpAny_pyIter_tuple hl ?_)
  refine ⟨s.heap.objs.size, _, _, _, _, _, _, rfl, Walks.tuple (A := A.in1) hh _ l (Nat.ne_of_lt hlt) (intItems xs), ⟨⟨_, Heap.get?_push_size _ rfl, rfl, rfl⟩, hl.push _⟩, fun b hb => ?_, by simpa [intItems] using hsz, CmpOf.ints_lt (numAt xs) (fun _ _ => intItems_at), fun v h' tk hP hk => ?_⟩
  · show b < (s.heap.push _).objs.size
    rw [Heap.size_push]
    rcases List.mem_cons.mp hb with rfl | hb
    · exact Nat.lt_succ_self _
    · rcases List.mem_cons.mp hb with rfl | hb
      · exact Nat.lt_succ_of_lt hlt
      · cases hb
  · have hv : (intItems xs)[argBest (fun i j => decide (numAt xs i < numAt xs j)) (xs.size - 1)]? = some v := by simpa [intItems] using hP
    obtain ⟨t, rfl⟩ := intItems_at hv
    obtain ⟨h1, h2⟩ := argBest_lt (numAt xs) (xs.size - 1)
    refine h h' tk _ t (fun b o e => hk b o (fun hm => by
      rcases List.mem_cons.mp hm with e1 | hm
      · exact absurd (e1 ▸ Heap.lt_size e) (Nat.lt_irrefl _)
      · cases hm) (Heap.get?_push_of_some _ e)) ?_ fun a ha => ?_
    · rw [numAt_eq]; exact PySem.getD_mem (by rw [List.length_map, Array.length_toList]; omega)
    · obtain ⟨j, hj, rfl⟩ := mem_getD ha
      rw [List.length_map, Array.length_toList] at hj
      rw [← numAt_eq]; exact h2 j (by omega)
end
section
variable {K : PySem.W.Frag}
def fSum : List D → Sto → Pd → Prop
  | [x], S, R => ∃ l ns, seqOf S x = some l ∧ intL l = some ns ∧ R (.int ns.sum) S
  | _, _, _ => False
def rSumT (K : PySem.W.Frag) : List V → Hp → VK → Prop := fun vs H Q => ∃ (a : Addr) (ns : List Int), vs = [V.ref a] ∧ (SqL K H a (ns.map V.int) ∨ SqT K H a (ns.map V.int)) ∧ Q (.int ns.sum) H
theorem cr_sumT {X : Cx} (hc : X.calm = true) : CallR X (.builtin "sum") (rSumT X.K) := by
  intro pins s σ H vs us Q I r h
  obtain ⟨a, ns, rfl, hs, q⟩ := h
  cases r with
  | cons r rr =>
    cases rr
    cases r
    rcases hs with hs | hs
    · obtain ⟨its, rv, hl, _⟩ := I.list hs
      exact sum_raw (I.ok.hd hc) hl.isList rv.ints fun h' tk t' hk => ⟨.int _, H, I.kept hk, ⟨_, rfl⟩, q⟩
    · obtain ⟨its, rv, hl, _⟩ := I.tuple hs
      exact sum_rawT (I.ok.hd hc) hl rv.ints fun h' tk t' hk => ⟨.int _, H, I.kept hk, ⟨_, rfl⟩, q⟩
theorem cd_sum : CaD K (rSumT K) fSum := by
  intro xs vs S H R Q q r h hR
  unfold fSum at h
  split at h
  · rename_i x
    obtain ⟨v, rfl, rx⟩ := r.one
    obtain ⟨l, ns, e, ei, h⟩ := h
    obtain ⟨a, us, rfl, h1, r1, _⟩ := seqOf_rep rx q e
    have := intL_eq ei
    subst this
    have := r1.ints
    subst this
    exact ⟨a, ns, rfl, h1, hR _ S _ H h q .refl (.int _)⟩
  · exact h.elim
def fAll : List D → Sto → Pd → Prop
  | [x], S, R => ∃ l bs, contOf S x = .l l ∧ blL l = some bs ∧ R (.bl (bs.all id)) S
  | _, _, _ => False
def fAny : List D → Sto → Pd → Prop
  | [x], S, R => ∃ l bs, contOf S x = .l l ∧ blL l = some bs ∧ R (.bl (bs.any id)) S
  | _, _, _ => False
theorem cd_all : CaD K (rAll K) fAll := by
  intro xs vs S H R Q q r h hR
  unfold fAll at h
  split at h
  · obtain ⟨v, rfl, rx⟩ := r.one
    obtain ⟨l, ns, e, ei, h⟩ := h
    obtain ⟨a, us, rfl, h1, r1, _⟩ := lstSq_rep rx q e
    have := blL_eq ei
    subst this
    have := r1.bls
    subst this
    exact ⟨a, ns, rfl, h1, hR _ S _ H h q .refl (.bl _)⟩
  · exact h.elim
theorem cd_any : CaD K (rAny K) fAny := by
  intro xs vs S H R Q q r h hR
  unfold fAny at h
  split at h
  · obtain ⟨v, rfl, rx⟩ := r.one
    obtain ⟨l, ns, e, ei, h⟩ := h
    obtain ⟨a, us, rfl, h1, r1, _⟩ := lstSq_rep rx q e
    have := blL_eq ei
    subst this
    have := r1.bls
    subst this
    exact ⟨a, ns, rfl, h1, hR _ S _ H h q .refl (.bl _)⟩
  · exact h.elim
/-- sorted of a list of ints, of a dict of ints -/
def fSorted (own : Bool) : List D → Sto → Pd → Prop
  | [x], S, R => (match contOf S x with
    | .l l => ∃ ns, intL l = some ns ∧ ∀ ns' : List Int, ns'.Perm ns → ns'.Pairwise (· ≤ ·) → mkL own (ns'.map D.int) S R
    | .d l => ∃ ns, intL (l.map fun p => keyD p.1) = some ns ∧ ns.length < 64 ∧ ∀ ns' : List Int, ns'.Perm ns → ns'.Pairwise (· ≤ ·) → mkL own (ns'.map D.int) S R
    | _ => False)
  | _, _, _ => False
theorem repL_ints {S : Sto} {H : Hp} : ∀ ns : List Int, RepL K S H (ns.map D.int) (ns.map V.int)
  | [] => .nil
  | n :: ns => .cons (.int n) (repL_ints ns)
theorem repL_strs {S : Sto} {H : Hp} : ∀ ns : List Str, RepL K S H (ns.map D.str) (ns.map V.str)
  | [] => .nil
  | n :: ns => .cons (.str n) (repL_strs ns)
theorem keys_ints : ∀ {l : List (Key × D)} {ns : List Int}, intL (l.map fun p => keyD p.1) = some ns → l.map (·.1) = ns.map Sum.inl
  | [], ns, h => by cases h; rfl
  | (k, x) :: r, ns, h => by
    cases k with
    | inr z => simp [keyD, intL] at h
    | inl i =>
      simp only [List.map_cons, keyD, intL, Option.map_eq_some_iff] at h
      obtain ⟨ms, h1, rfl⟩ := h
      rw [List.map_cons, List.map_cons, keys_ints h1]
theorem RepK.fst {S : Sto} {H : Hp} : ∀ {l : List (Key × D)} {vs : List (Key × V)}, RepK K S H l vs → l.map (·.1) = vs.map (·.1)
  | _, _, .nil => rfl
  | _, _, .cons r t => by rw [List.map_cons, List.map_cons, RepK.fst t]
theorem cd_sorted {own : Bool} : CaD K (fun xs H Q => rSortedI K xs H Q ∨ (∃ (a : Addr) (kvs : List (Key × V)) (ks : List Int), xs = [.ref a] ∧ Rd H a (.dK kvs) ∧ kvs.map (·.1) = ks.map Sum.inl ∧ ks.length < 64 ∧
    ∀ (ys : List Int) (p : Addr), ys.Perm ks → ys.Pairwise (· ≤ ·) → H p = none → Q (.ref p) (upd H p (.lst (ys.map V.int))))) (fSorted own) := by
  intro xs vs S H R Q q r h hR
  unfold fSorted at h
  split at h
  · rename_i x
    obtain ⟨v, rfl, rx⟩ := r.one
    split at h
    · rename_i l e
      obtain ⟨ns, ei, h⟩ := h
      obtain ⟨a, us, rfl, h1, r1, _⟩ := lstSq_rep rx q e
      have := intL_eq ei
      subst this
      have := r1.ints
      subst this
      exact .inl ⟨a, ns, rfl, h1, fun ns' p hp hw hn => (mkL_ok q (h ns' hp hw) (repL_ints ns') hR).2 p hn⟩
    · rename_i l e
      obtain ⟨ns, ei, hl, h⟩ := h
      obtain ⟨a, kvs, rfl, h1, r1⟩ := dictOf_rep rx q e
      exact .inr ⟨a, kvs, ns, rfl, h1, by rw [← r1.fst]; exact keys_ints ei, hl, fun ns' p hp hw hn => (mkL_ok q (h ns' hp hw) (repL_ints ns') hR).2 p hn⟩
    · exact h.elim
  · exact h.elim
def fMin : List D → Sto → Pd → Prop
  | [.int i, .int j], S, R => R (.int (if j < i then j else i)) S
  | [x], S, R => ∃ l ns, seqOf S x = some l ∧ intL l = some ns ∧ 0 < ns.length ∧ ∀ m, m ∈ ns → (∀ y, y ∈ ns → m ≤ y) → R (.int m) S
  | _, _, _ => False
def rMinT (K : PySem.W.Frag) : List V → Hp → VK → Prop := fun vs H Q => ∃ (a : Addr) (ns : List Int), vs = [V.ref a] ∧ (SqL K H a (ns.map V.int) ∨ SqT K H a (ns.map V.int)) ∧ 0 < ns.length ∧ ∀ m, m ∈ ns → (∀ y, y ∈ ns → m ≤ y) → Q (.int m) H
theorem cr_minT {X : Cx} (hc : X.calm = true) : CallR X (.builtin "min") (rMinT X.K) := by
  intro pins s σ H vs us Q I r h
  obtain ⟨a, ns, rfl, hs | hs, hne, q⟩ := h
  · obtain ⟨its, rv, hl, _⟩ := I.list hs
    rw [Vals.ref1 r]
    exact min_raw (I.ok.hd hc) hl.isList rv.ints hne fun h' tk m t' hk h1 h2 => ⟨.int _, H, I.kept hk, ⟨_, rfl⟩, q m h1 h2⟩
  · obtain ⟨its, rv, hl, _⟩ := I.tuple hs
    rw [Vals.ref1 r]
    exact min_rawT (I.ok.hd hc) hl rv.ints hne fun h' tk m t' hk h1 h2 => ⟨.int _, H, I.kept hk, ⟨_, rfl⟩, q m h1 h2⟩
def fMax : List D → Sto → Pd → Prop
  | [.int i, .int j], S, R => R (.int (if j > i then j else i)) S
  | [x], S, R => ∃ l ns, contOf S x = .l l ∧ intL l = some ns ∧ 0 < ns.length ∧ ∀ m, m ∈ ns → (∀ y, y ∈ ns → y ≤ m) → R (.int m) S
  | _, _, _ => False
theorem cd_min : CaD K (fun xs H Q => (∃ i j, xs = [.int i, .int j] ∧ Q (.int (if j < i then j else i)) H) ∨ rMinT K xs H Q) fMin := by
  intro xs vs S H R Q q r h hR
  unfold fMin at h
  split at h
  · rename_i i j
    obtain ⟨v, u, rfl, r1, r2⟩ := r.two
    cases r1; cases r2
    exact .inl ⟨i, j, rfl, hR _ S _ H h q .refl (.int _)⟩
  · obtain ⟨v, rfl, rx⟩ := r.one
    obtain ⟨l, ns, e, ei, hl, h⟩ := h
    obtain ⟨a, us, rfl, h1, r1, _⟩ := seqOf_rep rx q e
    have := intL_eq ei
    subst this
    have := r1.ints
    subst this
    exact .inr ⟨a, ns, rfl, h1, hl, fun m hm hy => hR _ S _ H (h m hm hy) q .refl (.int _)⟩
  · exact h.elim
theorem cd_max : CaD K (fun xs H Q => (∃ i j, xs = [.int i, .int j] ∧ Q (.int (if j > i then j else i)) H) ∨ rMax K xs H Q) fMax := by
  intro xs vs S H R Q q r h hR
  unfold fMax at h
  split at h
  · rename_i i j
    obtain ⟨v, u, rfl, r1, r2⟩ := r.two
    cases r1; cases r2
    exact .inl ⟨i, j, rfl, hR _ S _ H h q .refl (.int _)⟩
  · obtain ⟨v, rfl, rx⟩ := r.one
    obtain ⟨l, ns, e, ei, hl, h⟩ := h
    obtain ⟨a, us, rfl, h1, r1, _⟩ := lstSq_rep rx q e
    have := intL_eq ei
    subst this
    have := r1.ints
    subst this
    exact .inr ⟨a, ns, rfl, h1, hl, fun m hm hy => hR _ S _ H (h m hm hy) q .refl (.int _)⟩
  · exact h.elim
def b2iD (b : Bool) : Int := if b then 1 else 0
def fInt : List D → Sto → Pd → Prop
  | [.int i], S, R => R (.int i) S
  | [.bl b], S, R => R (.int (b2iD b)) S
  | [.str a], S, R => ∃ n, PySem.intText? a = some n ∧ a.length ≤ 640 ∧ R (.int n) S
  | _, _, _ => False
theorem cd_int : CaD K (fun xs H Q => ((∃ i, xs = [.int i] ∧ Q (.int i) H) ∨ ∃ k, xs = [.bl k] ∧ Q (.int (if k then 1 else 0)) H) ∨ (∃ a n, xs = [.str a] ∧ PySem.intText? a = some n ∧ a.length ≤ 640 ∧ Q (.int n) H)) fInt := by
  intro xs vs S H R Q q r h hR
  unfold fInt at h
  split at h
  · obtain ⟨v, rfl, rx⟩ := r.one; cases rx
    exact .inl (.inl ⟨_, rfl, hR _ S _ H h q .refl (.int _)⟩)
  · obtain ⟨v, rfl, rx⟩ := r.one; cases rx
    exact .inl (.inr ⟨_, rfl, hR _ S _ H h q .refl (.int _)⟩)
  · obtain ⟨v, rfl, rx⟩ := r.one; cases rx
    obtain ⟨n, h1, h2, h⟩ := h
    exact .inr ⟨_, n, rfl, h1, h2, hR _ S _ H h q .refl (.int _)⟩
  · exact h.elim
def fStr : List D → Sto → Pd → Prop
  | [.int i], S, R => i.natAbs.log2 < 1920 ∧ R (.str (toString i)) S
  | [.str a], S, R => R (.str a) S
  | _, _, _ => False
theorem cd_str : CaD K (fun xs H Q => (∃ i, xs = [.int i] ∧ i.natAbs.log2 < 1920 ∧ Q (.str (toString i)) H) ∨ (∃ a, xs = [.str a] ∧ Q (.str a) H)) fStr := by
  intro xs vs S H R Q q r h hR
  unfold fStr at h
  split at h
  · obtain ⟨v, rfl, rx⟩ := r.one; cases rx
    exact .inl ⟨_, rfl, h.1, hR _ S _ H h.2 q .refl (.str _)⟩
  · obtain ⟨v, rfl, rx⟩ := r.one; cases rx
    exact .inr ⟨_, rfl, hR _ S _ H h q .refl (.str _)⟩
  · exact h.elim
/-! ### isinstance(x, T), T a built-in type -/
def tyD (S : Sto) : D → Option String
  | .non => some "NoneType"
  | .bl _ => some "bool"
  | .int _ => some "int"
  | .str _ => some "str"
  | .tup _ => some "tuple"
  | .lst _ => some "list"
  | .dct _ => some "dict"
  | .ref a => (match S a with
    | some (.lst _) => some "list"
    | some (.dct _) => some "dict"
    | _ => none)
  | _ => none
/-- whether a built-in type is under another one -/
def tySub (a b : String) : Bool := a == b || (a == "bool" && b == "int")
def tyAs : List String := ["NoneType", "bool", "int", "str", "tuple", "list", "dict"]
def tyBs : List String := ["int", "bool", "tuple", "str", "list", "dict"]
theorem kit_all : (tyAs.all fun a => tyBs.all fun b => decide (kitB a b = some (tySub a b))) = true := by decide +kernel
def fIsTy (T : String) : List D → Sto → Pd → Prop
  | [x], S, R => ∃ t, tyD S x = some t ∧ R (.bl (tySub t T)) S
  | _, _, _ => False
theorem tyD_mem {S : Sto} {x : D} {t : String} (h : tyD S x = some t) : t ∈ tyAs := by
  unfold tyD at h
  repeat' split at h
  all_goals first | (cases h; decide) | cases h
theorem kit_tyD {K : PySem.W.Frag} {S : Sto} {x : D} {t T : String} (h : tyD S x = some t) (hT : T ∈ tyBs) : PySem.W.kitOne K (.type t) (.type T) = some (tySub t T) := by
  have q := kit_all
  rw [List.all_eq_true] at q
  have q2 := q t (tyD_mem h)
  rw [List.all_eq_true] at q2
  exact kit_ty (of_decide_eq_true (q2 T hT))
theorem tyD_rep {S : Sto} {H : Hp} {x : D} {v : V} {t : String} (r : Rep K S H x v) (q : Rel K S H) (e : tyD S x = some t) : TyX K H v (.type t) := by
  cases r with
  | non => cases e; exact .base .non
  | bl b => cases e; exact .base (.bl b)
  | int b => cases e; exact .base (.int b)
  | str b => cases e; exact .base (.str b)
  | tup h n r =>
    cases e
    rcases h with (h | ⟨o, h⟩) | ⟨o, its, n, h1, h2, _⟩
    · exact .base (.tup h)
    · exact .fTuple h
    · exact .kTuple h1 h2
  | lst h n z r => cases e; exact .base (.lst h)
  | dct h n z r =>
    cases e
    rcases h with h | ⟨o, h⟩
    · exact .base (.dK h)
    · exact .fDict h
  | ref a =>
    unfold tyD at e
    dsimp only at e
    cases h : S a with
    | none => rw [h] at e; cases e
    | some o =>
      rw [h] at e
      cases o with
      | lst l => cases e; obtain ⟨z, vs, h1, h2⟩ := q a _ h; exact .base (.lst h1)
      | dct l => cases e; obtain ⟨z, vs, h1, h2⟩ := q a _ h; exact .base (.dK h1)
      | _ => cases e
  | _ => cases e
end
section
variable {X : Cx} {F : Fr} {pos p p2 : Pos} {e : Expr} {es : List Expr} {we : WpE} {wa : WpA} {x : Str} {T : String}
def wIsTy (T : String) (we : WpE) : WpE := fun ς S R RE => we ς S (fun x S1 => ∃ t, tyD S1 x = some t ∧ R (.bl (tySub t T)) S1) RE
theorem we_isTy (hT : T ∈ tyBs) (he : WE X F e we) (hn : noStar e = true) (hg : Gl X "isinstance") (hm : X.mg "isinstance" = none) (hg2 : Gl X x) (hm2 : X.mg x = none) (hv : bootBuiltins x = some (.type T)) (hx : x ≠ "__name__") (hdb : (x == ("__debug__" : Str)) = false) :
    WE X F (.Call (.Name "isinstance" p) [e, .Name x p2] [] pos) (wIsTy T we) := by
  have hb : bootBuiltins "isinstance" = some (.builtin "isinstance") := by decide +kernel
  have pt : PE X (.Name x p2) (tC (.ty T)) := pe_bltn hg2 hm2 hv rfl hx hdb
  refine (pe_callB call_isi hg hm hb (pa_cons he (pa_cons pt pa_nil rfl) (starEach_cons hn)) (by decide) (by decide) (starEach_cons hn) rfl).imp fun σ H Q ⟨ς, S, R, g, k, hw, hR⟩ => ?_
  refine tE.mk g k hw fun x S1 v H1 h1 g1 k1 d1 r1 => ?_
  obtain ⟨t, e, h1⟩ := h1
  exact ⟨v, .ty T, .type t, .type T, tySub t T, rfl, .ty T, tyD_rep r1 g1.rel e, kit_tyD e hT, hR _ S1 _ H1 h1 g1.rel d1 (.bl _)⟩
end
end SB
end

section
set_option Elab.async false
set_option linter.all false
set_option maxRecDepth 100000
set_option autoImplicit false
/-! SB7: methods of built-in types. -/
namespace SB
open PySem PySem.Spec L2

/-- what a built-in type's method asks of its receiver -/
def tyM (T : String) (S : Sto) (x : D) : Bool := match contOf S x with
  | .d _ => T == "dict"
  | .s _ => T == "str"
  | .l _ => T == "list"
  | _ => false
def tyW (K : PySem.W.Frag) (T : String) (x : V) (H : Hp) : Prop := match x with
  | .str _ => T = "str"
  | .ref p => (T = "list" ∧ ∃ xs, SqL K H p xs) ∨ (T = "dict" ∧ ∃ kvs, Rd H p (.dK kvs))
  | _ => False
theorem tyW_is {X : Cx} {pins : List (Addr × Obj)} {σ : L2.St} {H : Hp} {s : Shared} {T : String} {x : V} {v : Value} (I : Inv X pins σ H s) (r : RelV x v) (ty : tyW X.K T x H) :
    s.TypeIs v T ∧ ∀ a, v = .ref a → ∃ ob, s.heap.get? a = some ob ∧ ob.dict = none := by
  cases x with
  | str z =>
    obtain ⟨t, rfl⟩ := r
    obtain rfl : T = "str" := ty
    exact ⟨typeIs_str s z t, fun _ e => nomatch e⟩
  | ref p =>
    cases r
    rcases ty with ⟨rfl, xs, hq⟩ | ⟨rfl, kvs, hk⟩
    · obtain ⟨its, _, pl, _⟩ := I.list hq
      refine ⟨pl.isList.typeIs, fun a e => ?_⟩
      cases e
      obtain ⟨o, n, e, c, hd, _⟩ := pl
      exact ⟨o, e, hd⟩
    · obtain ⟨_, _, _, _, o, _, _, e, ex, _⟩ := dk_rd I.hok hk
      refine ⟨⟨o, e, ex.1⟩, fun a e2 => ?_⟩
      cases e2
      exact ⟨o, e, ex.2.1⟩
  | _ => exact False.elim ty
theorem tyM_rep {K : PySem.W.Frag} {S : Sto} {H : Hp} {T : String} {x : D} {v : V} (r : Rep K S H x v) (q : Rel K S H) (e : tyM T S x = true) : tyW K T v H := by
  unfold tyM at e
  split at e
  · rename_i l h
    obtain ⟨a, vs, rfl, h1, _⟩ := dictOf_rep r q h
    exact .inr ⟨eq_of_beq e, vs, h1⟩
  · rename_i z h
    cases contS_inv h
    cases r
    exact eq_of_beq e
  · rename_i l h
    obtain ⟨a, vs, rfl, h1, _⟩ := lstSq_rep r q h
    exact .inl ⟨eq_of_beq e, vs, h1⟩
  · cases e
def MtD (K : PySem.W.Frag) (r : V → List V → Hp → VK → Prop) (f : D → List D → Sto → Pd → Prop) : Prop :=
  ∀ x xs v vs S H (R : Pd) (Q : VK), Rel K S H → Rep K S H x v → RepL K S H xs vs → f x xs S R → (∀ z S' v' H', R z S' → Rel K S' H' → Keep K S H S' H' → Rep K S' H' z v' → Q v' H') → r v vs H Q
def wMt (T : String) (f : D → List D → Sto → Pd → Prop) (wo : WpE) (wa : WpA) : WpE := fun ς S R RE => wo ς S (fun x S1 => tyM T S1 x = true ∧ wa ς S1 (fun xs S2 => f x xs S2 R) RE) RE
section
variable {X : Cx} {F : Fr} {cpos apos : Pos} {o e : Expr} {es : List Expr} {wo : WpE} {wa : WpA} {name : Str} {T id : String} {r : V → List V → Hp → VK → Prop} {f : D → List D → Sto → Pd → Prop}
def tBW (K : PySem.W.Frag) (T : String) (r : V → List V → Hp → VK → Prop) (to : TE) (t : TA) : TE := fun σ H Q => to σ H fun x H1 => tyW K T x H1 ∧ t σ H1 fun xs H2 => r x xs H2 Q
theorem pe_bw {to : TE} {t : TA} (pa : PlainAttrs T) (slot : Slot T name id) (hty : typeOf (.builtin id) = pure (.type "method_descriptor")) (hm : MtR X id r) (ho : PE X o to) (ha : PA X (e :: es) t)
    (hb : baseOk o = true) (hn : noStars (e :: es) = true) (hl : (e :: es).length < 29) (hline : (apos.endLine == cpos.line) = true) :
    PE X (.Call (.Attribute o name apos) (e :: es) [] cpos) (tBW X.K T r to t) := by
  refine ⟨fun pins s σ H Q I h => ?_⟩
  refine wpAny_Call_method_late (attrBase hb) (back_few hn hl) hline rfl (thn (ho.run pins s σ H _ I h) fun v s1 ⟨x, H1, I1, r1, ty, q1⟩ => ?_)
  obtain ⟨h1, h2⟩ := tyW_is I1 r1 ty
  refine ⟨T, id, pa, slot, hty, h1, h2, ?_⟩
  have hA := ha.run cpos pins s1 σ H1 _ I1 q1
  have hn' : noStar e = true ∧ noStars es = true := by simpa [noStars] using hn
  have hs := starEach_cons (es := es) (env := X.env) hn'.1
  rw [hs] at hA ⊢
  refine Calls.callWith_builtin (by show (false || (backTo cpos (starEach es X.env)).any (·.1)) = false; rw [back_any hn'.2] <;> rfl) (Calls.evalArgs_plain ?_)
  exact thn hA fun us s2 ⟨vs, H2, I2, r2, q2⟩ => hm pins s2 σ H2 x vs v us Q I2 r1 r2 q2
def tBW0 (K : PySem.W.Frag) (T : String) (r : V → List V → Hp → VK → Prop) (to : TE) : TE := fun σ H Q => to σ H fun x H1 => tyW K T x H1 ∧ r x [] H1 Q
theorem pe_bw0 {to : TE} (pa : PlainAttrs T) (slot : Slot T name id) (hty : typeOf (.builtin id) = pure (.type "method_descriptor")) (hm : MtR X id r) (ho : PE X o to) (hb : baseOk o = true) (hline : (apos.endLine == cpos.line) = true) :
    PE X (.Call (.Attribute o name apos) [] [] cpos) (tBW0 X.K T r to) := by
  refine ⟨fun pins s σ H Q I h => ?_⟩
  refine wpAny_Call_method0_late (attrBase hb) hline (thn (ho.run pins s σ H _ I h) fun v s1 ⟨x, H1, I1, r1, ty, q1⟩ => ?_)
  obtain ⟨h1, h2⟩ := tyW_is I1 r1 ty
  exact ⟨T, id, pa, slot, hty, h1, h2, Calls.callWith_builtin rfl (PySem.evalArgs_none (hm pins s1 σ H1 x [] v [] Q I1 r1 .nil q1))⟩
theorem we_bm (pa : PlainAttrs T) (slot : Slot T name id) (hty : typeOf (.builtin id) = pure (.type "method_descriptor")) (hm : MtR X id r) (hd : MtD X.K r f) (ho : WE X F o wo) (ha : WA X F (e :: es) wa)
    (hb : baseOk o = true) (hn : noStars (e :: es) = true) (hl : (e :: es).length < 29) (hline : (apos.endLine == cpos.line) = true) : WE X F (.Call (.Attribute o name apos) (e :: es) [] cpos) (wMt T f wo wa) :=
  (pe_bw pa slot hty hm ho ha hb hn hl hline).imp fun σ H Q ⟨ς, S, R, g, k, hw, hR⟩ => by
    refine tE.mk g k hw fun x S1 v H1 h1 g1 k1 d1 r1 => ?_
    refine ⟨tyM_rep r1 g1.rel h1.1, tA.mk g1 k1 h1.2 fun xs S2 vs H2 h2 g2 k2 d2 r2 => ?_⟩
    exact hd x xs v vs S2 H2 R Q g2.rel (d2 _ _ r1) r2 h2 fun z S' v' H' q r k p => hR z S' v' H' q r ((d1.trans d2).trans k) p
theorem we_bm0 (pa : PlainAttrs T) (slot : Slot T name id) (hty : typeOf (.builtin id) = pure (.type "method_descriptor")) (hm : MtR X id r) (hd : MtD X.K r f) (ho : WE X F o wo) (hb : baseOk o = true) (hline : (apos.endLine == cpos.line) = true) :
    WE X F (.Call (.Attribute o name apos) [] [] cpos) (wMt T f wo wNil) :=
  (pe_bw0 pa slot hty hm ho hb hline).imp fun σ H Q ⟨ς, S, R, g, k, hw, hR⟩ => by
    refine tE.mk g k hw fun x S1 v H1 h1 g1 k1 d1 r1 => ?_
    refine ⟨tyM_rep r1 g1.rel h1.1, ?_⟩
    exact hd x [] v [] S1 H1 R Q g1.rel r1 .nil h1.2 fun z S' v' H' q r k p => hR z S' v' H' q r (d1.trans k) p
end
section
variable {K : PySem.W.Frag}
/-- an owned list, changed -/
def fLst (g : List D → List D → Option (List D × D)) : D → List D → Sto → Pd → Prop := fun x xs S R => ∃ a l l' z, x = .ref a ∧ S a = some (.lst l) ∧ g l xs = some (l', z) ∧ l'.length ≤ sizeLine ∧ R z (S.set a (.lst l'))
theorem own_lst {S : Sto} {H : Hp} {a : Addr} {l : List D} (q : Rel K S H) (e : S a = some (.lst l)) : ∃ vs, H a = some (.lst vs) ∧ RepL K S H l vs ∧ l.length ≤ sizeLine := by
  obtain ⟨z, vs, h1, h2⟩ := q a _ e
  exact ⟨vs, h1, h2, z⟩
theorem put_lst {S : Sto} {H : Hp} {a : Addr} {l l' : List D} {vs' : List V} {z : D} {v : V} {R : Pd} {Q : VK} (q : Rel K S H) (e : S a = some (.lst l)) (r : RepL K S H l' vs') (rz : Rep K S H z v) (hl : l'.length ≤ sizeLine) (h : R z (S.set a (.lst l')))
    (hR : ∀ z S' v' H', R z S' → Rel K S' H' → Keep K S H S' H' → Rep K S' H' z v' → Q v' H') : Q v (upd H a (.lst vs')) := by
  have k : Keep K S H (S.set a (.lst l')) (upd H a (.lst vs')) := Keep.putR q e
  exact hR _ _ _ _ h (q.put e ⟨hl, vs', upd_same, k.l r⟩) k (k _ _ rz)
theorem put_dct {S : Sto} {H : Hp} {a : Addr} {l l' : List (Key × D)} {vs' : List (Key × V)} {z : D} {v : V} {R : Pd} {Q : VK} (q : Rel K S H) (e : S a = some (.dct l)) (r : RepK K S H l' vs') (rz : Rep K S H z v) (hl : l'.length ≤ sizeLine) (h : R z (S.set a (.dct l')))
    (hR : ∀ z S' v' H', R z S' → Rel K S' H' → Keep K S H S' H' → Rep K S' H' z v' → Q v' H') : Q v (upd H a (.dK vs')) := by
  have k : Keep K S H (S.set a (.dct l')) (upd H a (.dK vs')) := Keep.putR q e
  exact hR _ _ _ _ h (q.put e ⟨hl, vs', upd_same, k.k r⟩) k (k _ _ rz)
def fAppend (x : D) (xs : List D) (S : Sto) (R : Pd) : Prop := ∃ a l y, x = .ref a ∧ xs = [y] ∧ S a = some (.lst l) ∧ l.length + 1 ≤ sizeLine ∧ R .non (S.set a (.lst (l ++ [y])))
theorem md_append : MtD K rAppend fAppend := by
  intro x xs v vs S H R Q q r rs h hR
  obtain ⟨a, l, y, rfl, rfl, e, hl, h⟩ := h
  cases r
  obtain ⟨u, rfl, ru⟩ := rs.one
  obtain ⟨ws, h1, h2, h3⟩ := own_lst q e
  exact ⟨a, ws, u, rfl, rfl, h1, by rw [← h2.length]; omega, put_lst q e (h2.append (.cons ru .nil)) .non (by simpa using hl) h hR⟩
def fExtend (x : D) (xs : List D) (S : Sto) (R : Pd) : Prop := ∃ a l y m, x = .ref a ∧ xs = [y] ∧ S a = some (.lst l) ∧ lstOf S y = some m ∧ l.length + m.length ≤ sizeLine ∧ R .non (S.set a (.lst (l ++ m)))
theorem md_extend : MtD K rExtend fExtend := by
  intro x xs v vs S H R Q q r rs h hR
  obtain ⟨a, l, y, m, rfl, rfl, e, em, hl, h⟩ := h
  cases r
  obtain ⟨u, rfl, ru⟩ := rs.one
  obtain ⟨ws, h1, h2, h3⟩ := own_lst q e
  obtain ⟨b, us, rfl, h4, h5, _⟩ := lstOf_rep ru q em
  exact ⟨a, b, ws, us, rfl, rfl, h1, h4, by rw [← h2.length, ← h5.length]; exact hl, put_lst q e (h2.append h5) .non (by simpa using hl) h hR⟩
def fPop (x : D) (xs : List D) (S : Sto) (R : Pd) : Prop := ∃ a l i k y, x = .ref a ∧ xs = [.int i] ∧ S a = some (.lst l) ∧ ixN l.length i = some k ∧ l[k]? = some y ∧ R y (S.set a (.lst (l.eraseIdx k)))
theorem md_pop : MtD K rPopAt fPop := by
  intro x xs v vs S H R Q q r rs h hR
  obtain ⟨a, l, i, k, y, rfl, rfl, e, ei, ey, h⟩ := h
  cases r
  obtain ⟨u, rfl, ru⟩ := rs.one
  cases ru
  obtain ⟨ws, h1, h2, h3⟩ := own_lst q e
  obtain ⟨w, hw, rw'⟩ := h2.get ey
  obtain ⟨j1, j2, j3, j4⟩ := ixN_seq ei
  have hs : sizeLine = 16777216 := sizeLine_eq
  refine ⟨a, ws, i, k, w, rfl, rfl, h1, by omega, by omega, by rw [← h2.length]; exact j1, hw, put_lst q e (h2.eraseIdx k) rw' ?_ h hR⟩
  have := List.length_eraseIdx_le (l := l) (i := k)
  omega
def fInsert (x : D) (xs : List D) (S : Sto) (R : Pd) : Prop := ∃ a l i y, x = .ref a ∧ xs = [.int i, y] ∧ S a = some (.lst l) ∧ l.length + 1 ≤ sizeLine ∧ 0 ≤ i ∧ i < 2 ^ 63 ∧ R .non (S.set a (.lst (l.take i.toNat ++ [y] ++ l.drop i.toNat)))
theorem md_insert : MtD K (fun x vs H Q => ∃ (l : Addr) (xs : List V) (i : Int) (y : V), x = .ref l ∧ vs = [.int i, y] ∧ H l = some (.lst xs) ∧ xs.length < sizeLine ∧ 0 ≤ i ∧ i < 2 ^ 63 ∧ Q .non (upd H l (.lst (xs.take i.toNat ++ [y] ++ xs.drop i.toNat)))) fInsert := by
  intro x xs v vs S H R Q q r rs h hR
  obtain ⟨a, l, i, y, rfl, rfl, e, hl, h0, h9, h⟩ := h
  cases r
  obtain ⟨u, w, rfl, ru, rw'⟩ := rs.two
  cases ru
  obtain ⟨ws, h1, h2, h3⟩ := own_lst q e
  refine ⟨a, ws, i, w, rfl, rfl, h1, by rw [← h2.length]; omega, h0, h9, put_lst q e (((h2.take _).append (.cons rw' .nil)).append (h2.drop _)) .non ?_ h hR⟩
  simp only [List.length_append, List.length_take, List.length_drop, List.length_cons, List.length_nil]
  omega
def fClearL (x : D) (xs : List D) (S : Sto) (R : Pd) : Prop := ∃ a l, x = .ref a ∧ xs = [] ∧ S a = some (.lst l) ∧ R .non (S.set a (.lst []))
theorem md_clearL : MtD K rClear fClearL := by
  intro x xs v vs S H R Q q r rs h hR
  obtain ⟨a, l, rfl, rfl, e, h⟩ := h
  cases r
  cases rs
  obtain ⟨ws, h1, h2, h3⟩ := own_lst q e
  exact ⟨a, ws, rfl, rfl, h1, put_lst q e .nil .non (Nat.zero_le _) h hR⟩
/-- list.count, by == of data -/
def rCntD (K : PySem.W.Frag) : V → List V → Hp → VK → Prop := fun x xs H Q => ∃ (a : Addr) (y : V) (d : PyData) (ds : List PyData), x = V.ref a ∧ xs = [y] ∧ Dp K H (V.ref a) (.list ds) ∧ Dp K H y d ∧
  SeqAt.shaped (.list ds) = true ∧ SeqAt.shaped d = true ∧ Q (.int ((ds.countP fun z => PyData.eqv z d : Nat) : Int)) H
theorem mt_countD {X : Cx} (hu : X.A.units + 65 < cLine) : MtR X "list.count" (rCntD X.K) := by
  intro pins s σ H x xs v us Q I rx rxs h
  obtain ⟨a, y, d, ds, rfl, rfl, hl, hy, sl, sd, q⟩ := h
  cases rx
  cases rxs with
  | cons ry rt =>
    rename_i uy ut
    cases rt
    obtain ⟨bs, r1⟩ := Dp.reads I d y uy hy ry
    have hxs : PyData.canLayAll0 ds = true := SeqAt.canLay_of_shaped sl
    have hroom : X.A.units + 1 + min (PyData.depthAll ds) d.depth < cLine := by
      have h1 := SeqAt.depth_of_shaped sd
      have h2 : min (PyData.depthAll ds) d.depth ≤ d.depth := Nat.min_le_right _ _
      omega
    cases hl with
    | lst hs ha =>
      obtain ⟨its, rv, ⟨⟨cls, dd, data, sls⟩, n, ho, hc, hdn, hdt⟩, hlen⟩ := I.list hs
      simp only at hc hdt
      subst hc hdt
      obtain ⟨as, h4⟩ := Dp.readsAll I ds _ its ha rv
      have hmap : its.map (SeqAt.readOf s.heap) = ds := SeqAt.readsAll_map ds its as hxs h4
      refine call_meets PySem.F.slot_list_count ⟨_, ho, rfl⟩ PySem.F.entry_list_count (PySem.F.args_list_count_2 _ _)
        (SeqAt.list_countAt a its.toArray n dd sls uy (fun u => PyData.eqv (SeqAt.readOf s.heap u) d)) ⟨ho, SeqAt.items_eqAt (vs := its.toArray) (show ReadsAll s.heap its.toArray.toList ds as from h4) r1 hxs (SeqAt.canLay_of_shaped sd) hroom, ?_⟩
      refine ⟨.int ((ds.countP fun z => PyData.eqv z d : Nat) : Int), H, I.tok _, ⟨s.toks, ?_⟩, q⟩
      have e : its.toArray.toList.countP (fun u => PyData.eqv (SeqAt.readOf s.heap u) d) = ds.countP fun z => PyData.eqv z d := by
        rw [← hmap, List.countP_map]
        rfl
      rw [e]
def fCount (x : D) (xs : List D) (S : Sto) (R : Pd) : Prop := ∃ l y, contOf S x = .l l ∧ xs = [y] ∧ okD (.lst l) = true ∧ okD y = true ∧ R (.int ((l.countP fun z => dEq z y : Nat) : Int)) S
theorem countP_pyL (x : PyData) : ∀ l : List D, (pyL l).countP (fun z => PyData.eqv z x) = l.countP (fun z => PyData.eqv (pyD z) x)
  | [] => rfl
  | y :: l => by simp [pyL, List.countP_cons, countP_pyL x l]
theorem md_count : MtD K (rCntD K) fCount := by
  intro x xs v vs S H R Q q r rs h hR
  obtain ⟨l, y, e, rfl, o1, o2, h⟩ := h
  obtain ⟨u, rfl, ru⟩ := rs.one
  have d1 := listOf_rep r q e o1
  obtain ⟨a, ws, rfl, _⟩ := lstSq_rep r q e
  have d2 := rep_dp ru (SeqAt.canLay_of_shaped o2)
  have := hR _ S _ H h q .refl (.int _)
  exact ⟨a, u, _, _, rfl, rfl, d1, d2, o1, o2, by rw [countP_pyL]; simpa [dEq] using this⟩
def fIndex (x : D) (xs : List D) (S : Sto) (R : Pd) : Prop := ∃ l y j, contOf S x = .l l ∧ xs = [y] ∧ okD (.lst l) = true ∧ okD y = true ∧ l.findIdx? (fun z => dEq z y) = some j ∧ R (.int (j : Nat)) S
theorem pyL_get : ∀ (l : List D) (i : Nat), (pyL l)[i]? = (l[i]?).map pyD
  | [], i => by simp [pyL]
  | x :: l, 0 => by simp [pyL]
  | x :: l, i + 1 => by simp [pyL, pyL_get l i]
theorem md_index : MtD K (rIndexD K) fIndex := by
  intro x xs v vs S H R Q q r rs h hR
  obtain ⟨l, y, j, e, rfl, o1, o2, hj, h⟩ := h
  obtain ⟨u, rfl, ru⟩ := rs.one
  have d1 := listOf_rep r q e o1
  obtain ⟨a, ws, rfl, _⟩ := lstSq_rep r q e
  have d2 := rep_dp ru (SeqAt.canLay_of_shaped o2)
  rw [List.findIdx?_eq_some_iff_getElem] at hj
  obtain ⟨hj1, hj2, hj3⟩ := hj
  refine ⟨a, u, _, _, j, pyD l[j], rfl, rfl, d1, d2, o1, o2, ?_, hj2, fun m z' hm hz => ?_, hR _ S _ H h q .refl (.int _)⟩
  · rw [pyL_get, List.getElem?_eq_getElem hj1]; rfl
  · have hml : m < l.length := by omega
    rw [pyL_get, List.getElem?_eq_getElem hml] at hz
    cases hz
    have := hj3 m hm
    simpa [dEq] using this
/-! dicts -/
def fGet (x : D) (xs : List D) (S : Sto) (R : Pd) : Prop := ∃ l y z k, contOf S x = .d l ∧ xs = [y, z] ∧ keyOf y = some k ∧ R ((lookK k l).getD z) S
def rGet2 : V → List V → Hp → VK → Prop := fun x xs H Q => ∃ a y z o, x = .ref a ∧ xs = [y, z] ∧ DGet H a y o ∧ Q (o.getD z) H
theorem mt_get2 {X : Cx} (hu : X.A.units + 1 < cLine) : MtR X "dict.get" rGet2 := by
  intro pins s σ H x xs v us Q I rx rxs h
  obtain ⟨a, y, z, o, rfl, rfl, g, q⟩ := h
  cases rx
  obtain ⟨u, w, rfl, r1, r2⟩ := rxs.two
  exact d_get2 hu I g r1 r2 fun w' s' I' r' => ⟨_, H, I', r', q⟩
theorem md_get : MtD K rGet2 fGet := by
  intro x xs v vs S H R Q q r rs h hR
  obtain ⟨l, y, z, k, e, rfl, ek, h⟩ := h
  obtain ⟨a, kvs, rfl, h1, r1⟩ := dictOf_rep r q e
  obtain ⟨u, w, rfl, ru, rw'⟩ := rs.two
  have := keyOf_rep ru ek
  subst this
  refine ⟨a, _, _, valV kvs k, rfl, rfl, .inl ⟨kvs, k, h1, rfl, rfl⟩, ?_⟩
  have hl := r1.look (k := k)
  cases eq : lookK k l with
  | none => rw [eq] at hl h; rw [show valV kvs k = none from hl]; exact hR _ S _ H h q .refl rw'
  | some d => rw [eq] at hl h; obtain ⟨v, h3, h4⟩ := hl; rw [h3]; exact hR _ S _ H h q .refl h4
def fSetd (x : D) (xs : List D) (S : Sto) (R : Pd) : Prop := ∃ a l y z k, x = .ref a ∧ S a = some (.dct l) ∧ xs = [y, z] ∧ keyOf y = some k ∧
  match lookK k l with
  | some d => R d S
  | none => l.length + 1 ≤ sizeLine ∧ R z (S.set a (.dct (putD k z l)))
def rSetd2 : V → List V → Hp → VK → Prop := fun x xs H Q => ∃ a kvs k v, x = .ref a ∧ xs = [kV k, v] ∧ H a = some (.dK kvs) ∧ (∀ w, valV kvs k = some w → Q w H) ∧ (valV kvs k = none → kvs.length + 1 ≤ sizeLine ∧ Q v (upd H a (.dK (putK kvs k v))))
theorem mt_setd {X : Cx} : MtR X "dict.setdefault" rSetd2 := by
  intro pins s σ H x xs v us Q I rx rxs h
  obtain ⟨a, kvs, k, w, rfl, rfl, e, q1, q2⟩ := h
  cases rx
  obtain ⟨u, w', rfl, ry, rd⟩ := rxs.two
  obtain ⟨z, hd, vs, rel, dd⟩ := dk_of I.hok e
  refine call_meetsIn PySem.F.slot_dict_setdefault dd.typeIs PySem.F.entry_dict_setdefault (PySem.F.args_dict_setdefault_3 _ _ _) (kt_meets_setdefault (mixKind X.prog X.w) a (kV_is ry) hd w')
    ⟨vs, dd, by rw [← rel.length]; exact z, fun u hu => ?_, fun hn h' dd' hs => ?_⟩
  · have rr := rel.val k
    rw [hu] at rr
    cases hv : valV kvs k with
    | none => rw [hv] at rr; exact False.elim rr
    | some x =>
      rw [hv] at rr
      exact (⟨x, H, I.tok _, rr, q1 x hv⟩ : EP X pins σ Q u _)
  · have rr := rel.val k
    rw [hn] at rr
    cases hv : valV kvs k with
    | some x => rw [hv] at rr; exact False.elim rr
    | none =>
      obtain ⟨hl, q⟩ := q2 hv
      have hl2 : (putK kvs k w).length ≤ sizeLine := by have := length_putK kvs k w; omega
      exact (⟨w, _, d_write (t' := s.toks + 1) I (by rw [e]; exact True.intro) hs (let ⟨q, _, _, hq, _⟩ := dd'; ⟨q, hq⟩) (dk_new hl2 hd (rel.put k rd) dd'), rd, q⟩ : EP X pins σ Q _ _)
theorem putD_le (k : Key) (x : D) (l : List (Key × D)) : (putD k x l).length ≤ l.length + 1 := by
  unfold putD; split
  · rw [List.length_map]; omega
  · rw [List.length_append]; simp
theorem md_setd : MtD K rSetd2 fSetd := by
  intro x xs v vs S H R Q q r rs h hR
  obtain ⟨a, l, y, z, k, rfl, e, rfl, ek, h⟩ := h
  cases r
  obtain ⟨u, w, rfl, ru, rw'⟩ := rs.two
  have := keyOf_rep ru ek
  subst this
  obtain ⟨zz, kvs, h1, r1⟩ := q a _ e
  have hl := r1.look (k := k)
  refine ⟨a, kvs, k, w, rfl, rfl, h1, fun d hd => ?_, fun hd => ?_⟩
  · cases eq : lookK k l with
    | none => rw [eq] at hl; rw [show valV kvs k = none from hl] at hd; cases hd
    | some d' =>
      rw [eq] at hl h
      obtain ⟨v, h3, h4⟩ := hl
      rw [h3] at hd
      cases hd
      exact hR _ S _ H h q .refl h4
  · cases eq : lookK k l with
    | some d' => rw [eq] at hl; obtain ⟨v, h3, h4⟩ := hl; rw [h3] at hd; cases hd
    | none =>
      rw [eq] at h
      exact ⟨by rw [← r1.length]; exact h.1, put_dct q e (r1.put rw') rw' (Nat.le_trans (putD_le k z l) h.1) h.2 hR⟩
def fPopD (x : D) (xs : List D) (S : Sto) (R : Pd) : Prop := ∃ a l y k d, x = .ref a ∧ S a = some (.dct l) ∧ xs = [y] ∧ keyOf y = some k ∧ lookK k l = some d ∧ R d (S.set a (.dct (dropD k l)))
def rPopD : V → List V → Hp → VK → Prop := fun x xs H Q => ∃ a kvs k v, x = .ref a ∧ xs = [kV k] ∧ H a = some (.dK kvs) ∧ valV kvs k = some v ∧ Q v (upd H a (.dK (dropK kvs k)))
theorem mt_popD {X : Cx} : MtR X "dict.pop" rPopD := by
  intro pins s σ H x xs v us Q I rx rxs h
  obtain ⟨a, kvs, k, w, rfl, rfl, e, l, q⟩ := h
  cases rx
  obtain ⟨u, rfl, ry⟩ := rxs.one
  exact d_pop I e ry l (.inl rfl) fun w' s' I' r' => ⟨w, _, I', r', q⟩
theorem md_popD : MtD K rPopD fPopD := by
  intro x xs v vs S H R Q q r rs h hR
  obtain ⟨a, l, y, k, d, rfl, e, rfl, ek, el, h⟩ := h
  cases r
  obtain ⟨u, rfl, ru⟩ := rs.one
  have := keyOf_rep ru ek
  subst this
  obtain ⟨zz, kvs, h1, r1⟩ := q a _ e
  have hl := r1.look (k := k)
  rw [el] at hl
  obtain ⟨v, h3, h4⟩ := hl
  refine ⟨a, kvs, k, v, rfl, rfl, h1, h3, put_dct q e r1.drop h4 ?_ h hR⟩
  have : (dropD k l).length ≤ l.length := List.length_filter_le _ _
  omega
def fClearD (x : D) (xs : List D) (S : Sto) (R : Pd) : Prop := ∃ a l, x = .ref a ∧ xs = [] ∧ S a = some (.dct l) ∧ R .non (S.set a (.dct []))
theorem md_clearD : MtD K rDClear fClearD := by
  intro x xs v vs S H R Q q r rs h hR
  obtain ⟨a, l, rfl, rfl, e, h⟩ := h
  cases r
  cases rs
  obtain ⟨zz, kvs, h1, r1⟩ := q a _ e
  exact ⟨a, kvs, rfl, rfl, h1, put_dct q e .nil .non (Nat.zero_le _) h hR⟩
def fUpdate (x : D) (xs : List D) (S : Sto) (R : Pd) : Prop := ∃ a l y m, x = .ref a ∧ S a = some (.dct l) ∧ xs = [y] ∧ dctOf S y = some m ∧ y ≠ .ref a ∧ l.length + m.length ≤ sizeLine ∧ R .non (S.set a (.dct (mergeD l m)))
def rUpdate : V → List V → Hp → VK → Prop := fun x xs H Q => ∃ a b kvs more, x = .ref a ∧ xs = [.ref b] ∧ a ≠ b ∧ H a = some (.dK kvs) ∧ Rd H b (.dK more) ∧ kvs.length + more.length ≤ sizeLine ∧ Q .non (upd H a (.dK (mergeK kvs more)))
theorem mt_update {X : Cx} : MtR X "dict.update" rUpdate := by
  intro pins s σ H x xs v us Q I rx rxs h
  obtain ⟨a, b, kvs, more, rfl, rfl, ne, ea, eb, hl, q⟩ := h
  cases rx
  obtain ⟨u, rfl, ry⟩ := rxs.one
  cases ry
  obtain ⟨z, hd, vs, rel, dd⟩ := dk_of I.hok ea
  obtain ⟨z2, hd2, ms, rel2, dd2⟩ := dk_rd I.hok eb
  refine call_meetsIn PySem.F.slot_dict_update dd.typeIs PySem.F.entry_dict_update (PySem.F.args_dict_update_2 _ _) (meets_dict_update (mixKind X.prog X.w) a b ne hd2)
    ⟨vs, ms, dd, dd2, by rw [← rel.length, ← rel2.length]; exact hl, fun h' dd' _ hs => ?_⟩
  have hl2 : (mergeK kvs more).length ≤ sizeLine := Nat.le_trans (length_mergeK more kvs) hl
  exact (⟨.non, _, d_write (t' := s.toks) I (by rw [ea]; exact True.intro) hs (let ⟨q, _, _, hq, _⟩ := dd'; ⟨q, hq⟩) (dk_new hl2 hd (rel2.merge rel) dd'), rfl, q⟩ : EP X pins σ Q _ _)
theorem md_update : MtD K rUpdate fUpdate := by
  intro x xs v vs S H R Q q r rs h hR
  obtain ⟨a, l, y, m, rfl, e, rfl, em, ne, hl, h⟩ := h
  cases r
  obtain ⟨u, rfl, ru⟩ := rs.one
  obtain ⟨zz, kvs, h1, r1⟩ := q a _ e
  obtain ⟨b, ms, rfl, h3, h4, _⟩ := dctOf_rep ru q em
  have ne' : a ≠ b := fun e2 => by
    subst e2
    cases ru with
    | ref a => exact ne rfl
    | dct h n z r => rw [n] at e; cases e
    | _ => cases em
  refine ⟨a, b, kvs, ms, rfl, rfl, ne', h1, h3, by rw [← r1.length, ← h4.length]; exact hl, put_dct q e (h4.merge r1) .non ?_ h hR⟩
  have := mergeD_length m l
  omega
/-! texts -/
def fSplit (own : Bool) (x : D) (xs : List D) (S : Sto) (R : Pd) : Prop := ∃ a b, x = .str a ∧ xs = [.str b] ∧ (b.length == 0) = false ∧ a.length + 2 ≤ sizeLine ∧ mkL own ((Txt.split a b).map D.str) S R
theorem md_split {own : Bool} : MtD K (fun x xs H Q => ∃ a b, x = .str a ∧ xs = [.str b] ∧ (b.length == 0) = false ∧ a.length + 2 ≤ sizeLine ∧ rNewStrs (Txt.split a b) H Q) (fSplit own) := by
  intro x xs v vs S H R Q q r rs h hR
  obtain ⟨a, b, rfl, rfl, h1, h2, h⟩ := h
  cases r
  obtain ⟨u, rfl, ru⟩ := rs.one
  cases ru
  exact ⟨a, b, rfl, rfl, h1, h2, (mkL_ok q h (repL_strs _) hR).2⟩
def fJoin (x : D) (xs : List D) (S : Sto) (R : Pd) : Prop := ∃ a y l ys, x = .str a ∧ xs = [y] ∧ seqOf S y = some l ∧ strL l = some ys ∧ (ys.map (·.length)).sum + ys.length * a.length ≤ 16777216 ∧ R (.str (Txt.join a ys)) S
theorem md_join : MtD K (fun x xs H Q => ∃ a p, ∃ ys : List Str, x = .str a ∧ xs = [.ref p] ∧ (SqL K H p (ys.map V.str) ∨ SqT K H p (ys.map V.str)) ∧ (ys.map (·.length)).sum + ys.length * a.length ≤ 16777216 ∧ Q (.str (Txt.join a ys)) H) fJoin := by
  intro x xs v vs S H R Q q r rs h hR
  obtain ⟨a, y, l, ys, rfl, rfl, e, ei, hl, h⟩ := h
  cases r
  obtain ⟨u, rfl, ru⟩ := rs.one
  obtain ⟨p, ws, rfl, h1, r1, _⟩ := seqOf_rep ru q e
  have := strL_eq ei
  subst this
  have := r1.strs
  subst this
  exact ⟨a, p, ys, rfl, rfl, h1, hl, hR _ S _ H h q .refl (.str _)⟩
end
end SB
end

section
set_option Elab.async false
set_option linter.all false
set_option maxRecDepth 100000
set_option autoImplicit false
/-! SB8: targets by names, what is walked, for, list comprehensions. -/
namespace SB
open PySem PySem.Spec L2

/-! ### targets: names, tuples of such -/
mutual
inductive Tg where
  | nm (i : Nat) | tup (l : Tgs)
inductive Tgs where
  | nil | cons (t : Tg) (l : Tgs)
end
mutual
def Tg.bind : Tg → D → En → Option En
  | .nm i, d, ς => some (ς.set i (some d))
  | .tup ts, .tup l, ς => Tgs.bind ts l ς
  | .tup _, _, _ => none
def Tgs.bind : Tgs → List D → En → Option En
  | .nil, [], ς => some ς
  | .cons t ts, x :: xs, ς => match Tg.bind t x ς with
    | some ς1 => Tgs.bind ts xs ς1
    | none => none
  | _, _, _ => none
end
def Tgs.len : Tgs → Nat
  | .nil => 0
  | .cons _ l => l.len + 1
mutual
def Tg.of (K : PySem.W.Frag) : Tg → TG
  | .nm i => gName i
  | .tup ts => gTup K ts.len (Tgs.of K ts)
def Tgs.of (K : PySem.W.Frag) : Tgs → TGs
  | .nil => gNil
  | .cons t ts => gCons (Tg.of K t) (Tgs.of K ts)
end
mutual
def Tg.ixs : Tg → List Nat
  | .nm i => [i]
  | .tup ts => ts.ixs
def Tgs.ixs : Tgs → List Nat
  | .nil => []
  | .cons t ts => t.ixs ++ ts.ixs
end
def WG (X : Cx) (e : Expr) (t : Tg) : Prop := PG X e (t.of X.K)
def WGs (X : Cx) (es : List Expr) (t : Tgs) : Prop := PGs X es (t.of X.K)
theorem wipe_set {σ : St} {i : Nat} {x : Option V} : ∀ vs : List Nat, wipe (σ.set i x) vs = if i ∈ vs then wipe σ vs else (wipe σ vs).set i x
  | [] => by simp [wipe]
  | v :: vs => by
    unfold wipe
    rw [wipe_set vs]
    by_cases h : i ∈ vs
    · rw [if_pos h, if_pos (List.mem_cons_of_mem _ h)]
    · rw [if_neg h]
      by_cases e : i = v
      · subst e
        rw [if_pos List.mem_cons_self, List.set_set]
      · rw [if_neg (by simp [e, h]), List.set_comm _ _ e]
/-- the slots of a block's own names forgotten -/
def wipeE (ς : En) : List Nat → En
  | [] => ς
  | v :: vs => (wipeE ς vs).set v none
theorem Good.wipe {K : PySem.W.Frag} {ς : En} {S : Sto} {σ : St} {H : Hp} (g : Good K ς S σ H) : ∀ vs : List Nat, Good K (wipeE ς vs) S (L2.wipe σ vs) H
  | [] => g
  | v :: vs => (Good.wipe g vs).unset
theorem Tgs.bind_len : ∀ {ts : Tgs} {l : List D} {ς ς' : En}, ts.bind l ς = some ς' → l.length = ts.len
  | .nil, [], _, _, _ => rfl
  | .nil, _ :: _, _, _, h => by cases h
  | .cons t ts, [], _, _, h => by cases h
  | .cons t ts, x :: xs, ς, ς', h => by
    unfold Tgs.bind at h
    split at h
    · rename_i ς1 e1
      have := Tgs.bind_len (ts := ts) h
      simp [Tgs.len, this]
    · cases h
mutual
theorem Tg.bind_ok {K : PySem.W.Frag} : ∀ {t : Tg} {d : D} {ς ς' : En} {S : Sto} {σ : St} {H : Hp} {v : V}, t.bind d ς = some ς' → Good K ς S σ H → Rep K S H d v →
    ∃ σ', (∀ Q : St → Hp → Prop, Q σ' H → t.of K v σ H Q) ∧ Good K ς' S σ' H ∧ ∀ vs, (∀ i ∈ t.ixs, i ∈ vs) → wipe σ' vs = wipe σ vs
  | .nm i, d, ς, ς', S, σ, H, v, e, g, r => by
    unfold Tg.bind at e
    cases e
    exact ⟨σ.set i (some v), fun Q q => by unfold Tg.of; exact q, g.set r, fun vs h => by rw [wipe_set, if_pos (h i (by simp [Tg.ixs]))]⟩
  | .tup ts, d, ς, ς', S, σ, H, v, e, g, r => by
    cases d with
    | tup l =>
      unfold Tg.bind at e
      obtain ⟨a, vs, rfl, q, _, rl⟩ := Rep.tup_inv r
      obtain ⟨σ', h1, h2, h3⟩ := Tgs.bind_ok e g rl
      exact ⟨σ', fun Q z => by unfold Tg.of; exact ⟨a, vs, rfl, q, by rw [← rl.length]; exact Tgs.bind_len e, h1 Q z⟩, h2, fun us hu => h3 us (by unfold Tg.ixs at hu; exact hu)⟩
    | _ => simp [Tg.bind] at e
theorem Tgs.bind_ok {K : PySem.W.Frag} : ∀ {ts : Tgs} {l : List D} {ς ς' : En} {S : Sto} {σ : St} {H : Hp} {vs : List V}, ts.bind l ς = some ς' → Good K ς S σ H → RepL K S H l vs →
    ∃ σ', (∀ Q : St → Hp → Prop, Q σ' H → ts.of K vs σ H Q) ∧ Good K ς' S σ' H ∧ ∀ us, (∀ i ∈ ts.ixs, i ∈ us) → wipe σ' us = wipe σ us
  | .nil, l, ς, ς', S, σ, H, vs, e, g, r => by
    cases r with
    | nil => unfold Tgs.bind at e; cases e; exact ⟨σ, fun Q q => by unfold Tgs.of; exact ⟨rfl, q⟩, g, fun _ _ => rfl⟩
    | cons _ _ => cases e
  | .cons t ts, l, ς, ς', S, σ, H, vs, e, g, r => by
    cases r with
    | nil => cases e
    | cons rx rr =>
      unfold Tgs.bind at e
      split at e
      · rename_i ς1 e1
        obtain ⟨σ1, h1, g1, w1⟩ := Tg.bind_ok e1 g rx
        obtain ⟨σ2, h2, g2, w2⟩ := Tgs.bind_ok e g1 rr
        refine ⟨σ2, fun Q q => by unfold Tgs.of; exact ⟨_, _, rfl, h1 _ (h2 Q q)⟩, g2, fun us hu => ?_⟩
        rw [w2 us fun i hi => hu i (by simp [Tgs.ixs, hi]), w1 us fun i hi => hu i (by simp [Tgs.ixs, hi])]
      · cases e
end
section
variable {X : Cx} {pos : Pos}
theorem wg_nm {i : Nat} {x : Str} (hN : X.N.Nodup) (hi : X.N[i]? = some x) (hx : Loc X.env.scope x) (hf : X.fn x = true ∨ X.env.scope.names.lookup x = some .local) : WG X (.Name x pos) (.nm i) := by
  have h := pg_name (pos := pos) hN hi hx hf
  show PG X _ (Tg.of X.K (.nm i))
  unfold Tg.of
  exact h
theorem wgs_nil : WGs X [] .nil := by
  show PGs X _ (Tgs.of X.K .nil)
  unfold Tgs.of
  exact pgs_nil
theorem wgs_cons {e : Expr} {es : List Expr} {t : Tg} {ts : Tgs} (h : WG X e t) (hr : WGs X es ts) (hs : ∀ env, (assignEach (e :: es) env).map (·.2) = assign e env :: (assignEach es env).map (·.2)) : WGs X (e :: es) (.cons t ts) := by
  show PGs X _ (Tgs.of X.K (.cons t ts))
  unfold Tgs.of
  exact pgs_cons h hr (hs _)
theorem wg_tup {es : List Expr} {k : Nat} {ts : Tgs} (hc : X.calm = true) (h : WGs X es ts) (hn : ∀ env, (assignEach es env).length = ts.len) (hst : ∀ env, (assignEach es env).findIdx? (·.1) = none) : WG X (.Tuple es k pos) (.tup ts) := by
  show PG X _ (Tg.of X.K (.tup ts))
  unfold Tg.of
  exact pg_tup hc h (hn _) (hst _)
end

/-! ### what is walked -/
/-- what must stand still of the store -/
def grd (g : Option (Addr × SO)) (S : Sto) : Prop := match g with
  | none => True
  | some (a, o) => S a = some o
/-- an iterator that gives these, from where S, H stand -/
structure WalkD (K : PySem.W.Frag) (J : It) (xs : List D) (gd : Option (Addr × SO)) (S : Sto) (H : Hp) : Prop where
  goes : ∀ i S2 H2, i < xs.length → Rel K S2 H2 → Keep K S H S2 H2 → grd gd S2 → J.go i H2
  stops : ∀ S2 H2, Rel K S2 H2 → Keep K S H S2 H2 → grd gd S2 → J.stop xs.length H2
  yields : ∀ i S2 H2 v H3, i < xs.length → Rel K S2 H2 → Keep K S H S2 H2 → grd gd S2 → J.yld i H2 v H3 → ∃ d, xs[i]? = some d ∧ Rel K S2 H3 ∧ Keep K S2 H2 S2 H3 ∧ Rep K S2 H3 d v
abbrev WpI := En → Sto → (List D → Option (Addr × SO) → Sto → Prop) → Px → Prop
def tI (K : PySem.W.Frag) (F : Fr) (w : WpI) : TI := fun σ H Q => ∃ (ς : En) (S : Sto) (R : List D → Option (Addr × SO) → Sto → Prop), Good K ς S σ H ∧ Keep K F.S0 F.H0 S H ∧ w ς S R (fun c S' => F.XE c ς S') ∧
  ∀ xs gd S' H' J, R xs gd S' → Rel K S' H' → Keep K S H S' H' → WalkD K J xs gd S' H' → Q J H'
def WI (X : Cx) (F : Fr) (tg e : Expr) (w : WpI) : Prop := PI X tg e (tI X.K F w)
theorem _root_.L2.PI.imp {X : Cx} {tg e : Expr} {t t' : TI} (h : PI X tg e t) (i : ∀ σ H Q, t' σ H Q → t σ H Q) : PI X tg e t' := ⟨fun pins s σ H Q I q => h.run pins s σ H Q I (i σ H Q q)⟩
section
variable {K : PySem.W.Frag} {S : Sto} {H : Hp} {a b d : Addr} {l m : List D} {l' : List (Key × D)} {o : Obj}
/-- a value that is a list still -/
def LstAt (K : PySem.W.Frag) (gd : Option (Addr × SO)) (S : Sto) (H : Hp) (a : Addr) (l : List D) : Prop := ∀ S2 H2, Rel K S2 H2 → Keep K S H S2 H2 → grd gd S2 → ∃ vs, SqL K H2 a vs ∧ RepL K S2 H2 l vs
def TupAt (K : PySem.W.Frag) (gd : Option (Addr × SO)) (S : Sto) (H : Hp) (a : Addr) (l : List D) : Prop := ∀ S2 H2, Rel K S2 H2 → Keep K S H S2 H2 → grd gd S2 → ∃ vs, SqT K H2 a vs ∧ RepL K S2 H2 l vs
theorem rep_pair {x y : D} {v u : V} {p : Addr} (hp : H p = none) (rx : Rep K S H x v) (ry : Rep K S H y u) : Rep K S (upd H p (.tup [v, u])) (.tup [x, y]) (.ref p) :=
  .tup (.of upd_same) (by show 2 ≤ sizeLine; decide) ((Keep.new hp).l (.cons rx (.cons ry .nil)))
theorem walkd_list {gd} (h : LstAt K gd S H a l) : WalkD K (Itl K a) l gd S H where
  goes := fun i S2 H2 hi r k g => by
    obtain ⟨vs, q, rl⟩ := h S2 H2 r k g
    exact ⟨vs, vs[i]'(by rw [← rl.length]; exact hi), q, List.getElem?_eq_getElem _⟩
  stops := fun S2 H2 r k g => by
    obtain ⟨vs, q, rl⟩ := h S2 H2 r k g
    exact ⟨vs, q, by rw [rl.length]; exact Nat.le_refl _⟩
  yields := fun i S2 H2 v H3 hi r k g y => by
    obtain ⟨vs, q, rl⟩ := h S2 H2 r k g
    obtain ⟨rfl, y⟩ := y
    obtain ⟨x, e, rx⟩ := rl.get' (y vs q)
    exact ⟨x, e, r, .refl, rx⟩
theorem walkd_tup {gd} (h : TupAt K gd S H a l) : WalkD K (Itt K a) l gd S H where
  goes := fun i S2 H2 hi r k g => by
    obtain ⟨vs, q, rl⟩ := h S2 H2 r k g
    exact ⟨vs, vs[i]'(by rw [← rl.length]; exact hi), q, List.getElem?_eq_getElem _⟩
  stops := fun S2 H2 r k g => by
    obtain ⟨vs, q, rl⟩ := h S2 H2 r k g
    exact ⟨vs, q, by rw [rl.length]; exact Nat.le_refl _⟩
  yields := fun i S2 H2 v H3 hi r k g y => by
    obtain ⟨vs, q, rl⟩ := h S2 H2 r k g
    obtain ⟨rfl, y⟩ := y
    obtain ⟨x, e, rx⟩ := rl.get' (y vs q)
    exact ⟨x, e, r, .refl, rx⟩
/-- pairs of the place and the item -/
def enumD : Nat → List D → List D
  | _, [] => []
  | n, x :: xs => .tup [.int (n : Nat), x] :: enumD (n + 1) xs
theorem enumD_length : ∀ (n : Nat) (l : List D), (enumD n l).length = l.length
  | _, [] => rfl
  | n, x :: xs => by simp [enumD, enumD_length (n + 1) xs]
theorem enumD_get : ∀ (n i : Nat) (l : List D), (enumD n l)[i]? = (l[i]?).map fun x => .tup [.int ((n + i : Nat) : Int), x]
  | _, _, [] => by simp [enumD]
  | n, 0, x :: xs => by simp [enumD]
  | n, i + 1, x :: xs => by
    have := enumD_get (n + 1) i xs
    simp only [enumD, List.getElem?_cons_succ, this]
    rw [show n + 1 + i = n + (i + 1) by omega]
theorem walkd_enum {gd} (h : LstAt K gd S H a l) : WalkD K (Ite K a) (enumD 0 l) gd S H where
  goes := fun i S2 H2 hi r k g => by
    obtain ⟨vs, q, rl⟩ := h S2 H2 r k g
    rw [enumD_length] at hi
    exact ⟨vs, vs[i]'(by rw [← rl.length]; exact hi), q, List.getElem?_eq_getElem _⟩
  stops := fun S2 H2 r k g => by
    obtain ⟨vs, q, rl⟩ := h S2 H2 r k g
    rw [enumD_length]
    exact ⟨vs, q, by rw [rl.length]; exact Nat.le_refl _⟩
  yields := fun i S2 H2 v H3 hi r k g y => by
    obtain ⟨vs, q, rl⟩ := h S2 H2 r k g
    obtain ⟨T, x, rfl, hT, rfl, y⟩ := y
    obtain ⟨dx, e, rx⟩ := rl.get' (y vs q)
    refine ⟨.tup [.int (i : Nat), dx], ?_, r.new hT, Keep.new hT, rep_pair hT (.int _) rx⟩
    rw [enumD_get, e]
    simp
def zipD : List D → List D → List D
  | x :: xs, y :: ys => .tup [x, y] :: zipD xs ys
  | _, _ => []
theorem zipD_length : ∀ (l m : List D), (zipD l m).length = min l.length m.length
  | [], _ => by simp [zipD]
  | _ :: _, [] => by simp [zipD]
  | x :: xs, y :: ys => by simp [zipD, zipD_length xs ys, Nat.succ_min_succ]
theorem zipD_get : ∀ (i : Nat) (l m : List D) (x y : D), l[i]? = some x → m[i]? = some y → (zipD l m)[i]? = some (.tup [x, y])
  | _, [], _, _, _, h, _ => by simp at h
  | _, _ :: _, [], _, _, _, h => by simp at h
  | 0, x :: xs, y :: ys, _, _, h, h' => by simp at h h'; simp [zipD, h, h']
  | i + 1, x :: xs, y :: ys, _, _, h, h' => by
    simp only [zipD, List.getElem?_cons_succ] at *
    exact zipD_get i xs ys _ _ h h'
theorem walkd_zip {gd} (h : LstAt K gd S H a l) (h' : LstAt K gd S H b m) : WalkD K (Itz K a b) (zipD l m) gd S H where
  goes := fun i S2 H2 hi r k g => by
    obtain ⟨vs, q, rl⟩ := h S2 H2 r k g
    obtain ⟨us, q', rl'⟩ := h' S2 H2 r k g
    rw [zipD_length] at hi
    have e1 := rl.length
    have e2 := rl'.length
    exact ⟨vs, us, vs[i]'(by omega), us[i]'(by omega), q, q', List.getElem?_eq_getElem _, List.getElem?_eq_getElem _⟩
  stops := fun S2 H2 r k g => by
    obtain ⟨vs, q, rl⟩ := h S2 H2 r k g
    obtain ⟨us, q', rl'⟩ := h' S2 H2 r k g
    rw [zipD_length]
    have e1 := rl.length
    have e2 := rl'.length
    exact ⟨vs, us, q, q', by omega⟩
  yields := fun i S2 H2 v H3 hi r k g y => by
    obtain ⟨vs, q, rl⟩ := h S2 H2 r k g
    obtain ⟨us, q', rl'⟩ := h' S2 H2 r k g
    obtain ⟨T, x, z, rfl, hT, rfl, y, y'⟩ := y
    obtain ⟨dx, e, rx⟩ := rl.get' (y vs q)
    obtain ⟨dy, e', ry⟩ := rl'.get' (y' us q')
    exact ⟨.tup [dx, dy], zipD_get _ _ _ _ _ e e', r.new hT, Keep.new hT, rep_pair hT rx ry⟩
theorem walkd_zipT {gd} (h : TupAt K gd S H a l) (h' : TupAt K gd S H b m) : WalkD K (RZ.ItzT K a b) (zipD l m) gd S H where
  goes := fun i S2 H2 hi r k g => by
    obtain ⟨vs, q, rl⟩ := h S2 H2 r k g
    obtain ⟨us, q', rl'⟩ := h' S2 H2 r k g
    rw [zipD_length] at hi
    have e1 := rl.length
    have e2 := rl'.length
    exact ⟨vs, us, vs[i]'(by omega), us[i]'(by omega), q, q', List.getElem?_eq_getElem _, List.getElem?_eq_getElem _⟩
  stops := fun S2 H2 r k g => by
    obtain ⟨vs, q, rl⟩ := h S2 H2 r k g
    obtain ⟨us, q', rl'⟩ := h' S2 H2 r k g
    rw [zipD_length]
    have e1 := rl.length
    have e2 := rl'.length
    exact ⟨vs, us, q, q', by omega⟩
  yields := fun i S2 H2 v H3 hi r k g y => by
    obtain ⟨vs, q, rl⟩ := h S2 H2 r k g
    obtain ⟨us, q', rl'⟩ := h' S2 H2 r k g
    obtain ⟨T, x, z, rfl, hT, rfl, y, y'⟩ := y
    obtain ⟨dx, e, rx⟩ := rl.get' (y vs q)
    obtain ⟨dy, e', ry⟩ := rl'.get' (y' us q')
    exact ⟨.tup [dx, dy], zipD_get _ _ _ _ _ e e', r.new hT, Keep.new hT, rep_pair hT rx ry⟩
def rngD (lo : Int) : Nat → List D
  | 0 => []
  | n + 1 => .int lo :: rngD (lo + 1) n
theorem rngD_length : ∀ (lo : Int) (n : Nat), (rngD lo n).length = n
  | _, 0 => rfl
  | lo, n + 1 => by simp [rngD, rngD_length (lo + 1) n]
theorem rngD_get : ∀ (lo : Int) (n i : Nat), i < n → (rngD lo n)[i]? = some (.int (lo + i))
  | _, 0, _, h => absurd h (Nat.not_lt_zero _)
  | lo, n + 1, 0, _ => by simp [rngD]
  | lo, n + 1, i + 1, h => by
    simp only [rngD, List.getElem?_cons_succ]
    rw [rngD_get (lo + 1) n i (by omega)]
    congr 2
    omega
theorem walkd_range {lo : Int} {n : Nat} : WalkD K (Itr lo n) (rngD lo n) none S H where
  goes := fun i S2 H2 hi r k g => by rw [rngD_length] at hi; exact hi
  stops := fun S2 H2 r k g => by rw [rngD_length]; exact Nat.le_refl _
  yields := fun i S2 H2 v H3 hi r k g y => by
    rw [rngD_length] at hi
    obtain ⟨rfl, rfl⟩ := y
    exact ⟨_, rngD_get lo n i hi, r, .refl, .int _⟩
def chsD (x : Str) : List D := x.cps.toList.map fun c => .str ⟨#[c]⟩
theorem walkd_str {x : Str} : WalkD K (Its x) (chsD x) none S H where
  goes := fun i S2 H2 hi r k g => by show i < x.cps.size; simpa [chsD] using hi
  stops := fun S2 H2 r k g => by simp [chsD, Its]
  yields := fun i S2 H2 v H3 hi r k g y => by
    obtain ⟨rfl, c, e, rfl⟩ := y
    exact ⟨.str ⟨#[c]⟩, by simp [chsD, e], r, .refl, .str _⟩
def itemsD (l : List (Key × D)) : List D := l.map fun p => .tup [keyD p.1, p.2]
def keysD (l : List (Key × D)) : List D := l.map fun p => keyD p.1
theorem RepK.get' : ∀ {l : List (Key × D)} {vs : List (Key × V)} {i : Nat} {k : Key} {v : V}, RepK K S H l vs → vs[i]? = some (k, v) → ∃ x, l[i]? = some (k, x) ∧ Rep K S H x v
  | _, _, _, _, _, .nil, e => by simp at e
  | _, _, 0, _, _, .cons r _, e => by simp at e; obtain ⟨rfl, rfl⟩ := e; exact ⟨_, rfl, r⟩
  | _, _, i + 1, _, _, .cons _ t, e => by
    obtain ⟨x, h1, h2⟩ := RepK.get' (i := i) t (by simpa using e)
    exact ⟨x, by simpa using h1, h2⟩
/-- a locked dict as it was -/
structure DctAt (K : PySem.W.Frag) (gd : Option (Addr × SO)) (S : Sto) (H : Hp) (d : Addr) (o : Obj) (kvs : List (Key × V)) (l : List (Key × D)) : Prop where
  at_ : H d = some (.frz o (.dK kvs))
  rep : ∀ S2 H2, Rel K S2 H2 → Keep K S H S2 H2 → grd gd S2 → RepK K S2 H2 l kvs
theorem walkd_items {gd} {kvs : List (Key × V)} (h : DctAt K gd S H d o kvs l') : WalkD K (Iti d o kvs) (itemsD l') gd S H where
  goes := fun i S2 H2 hi r k g => ⟨k.z _ _ _ h.at_, by have := (h.rep S2 H2 r k g).length; simp [itemsD] at hi; omega⟩
  stops := fun S2 H2 r k g => ⟨k.z _ _ _ h.at_, by have := (h.rep S2 H2 r k g).length; simp [itemsD]; omega⟩
  yields := fun i S2 H2 v H3 hi r k g y => by
    obtain ⟨T, kk, w, e, rfl, hT, rfl⟩ := y
    obtain ⟨x, e', rx⟩ := (h.rep S2 H2 r k g).get' e
    exact ⟨.tup [keyD kk, x], by simp [itemsD, e'], r.new hT, Keep.new hT, rep_pair hT (keyD_rep kk) rx⟩
theorem walkd_keys {gd} {kvs : List (Key × V)} (h : DctAt K gd S H d o kvs l') : WalkD K (Itk d o kvs) (keysD l') gd S H where
  goes := fun i S2 H2 hi r k g => ⟨k.z _ _ _ h.at_, by have := (h.rep S2 H2 r k g).length; simp [keysD] at hi; omega⟩
  stops := fun S2 H2 r k g => ⟨k.z _ _ _ h.at_, by have := (h.rep S2 H2 r k g).length; simp [keysD]; omega⟩
  yields := fun i S2 H2 v H3 hi r k g y => by
    obtain ⟨rfl, kk, w, e, rfl⟩ := y
    obtain ⟨x, e', rx⟩ := (h.rep S2 H3 r k g).get' e
    exact ⟨keyD kk, by simp [keysD, e'], r, .refl, keyD_rep kk⟩
end
end SB
end

section
set_option Elab.async false
set_option linter.all false
set_option maxRecDepth 100000
set_option autoImplicit false
/-! SB9: the iterables; for; list comprehensions. -/
namespace SB
open PySem PySem.Spec L2

/-- what a value gives when it is walked: its items, and what must stand still -/
def srcOf (S : Sto) (x : D) : Option (List D × Option (Addr × SO)) := match x with
  | .tup l => some (l, none)
  | .lst l => some (l, none)
  | .scr l => some (l, none)
  | .str z => some (chsD z, none)
  | .dct l => some (keysD l, none)
  | .ref a => (match S a with
    | some (.lst l) => some (l, some (a, .lst l))
    | _ => none)
  | _ => none
/-- .. of lists and tuples alone -/
def srcL (S : Sto) (x : D) : Option (Bool × List D × Option (Addr × SO)) := match x with
  | .tup l => some (true, l, none)
  | .lst l => some (false, l, none)
  | .scr l => some (false, l, none)
  | .ref a => (match S a with
    | some (.lst l) => some (false, l, some (a, .lst l))
    | _ => none)
  | _ => none
section
variable {K : PySem.W.Frag} {S : Sto} {H : Hp} {x : D} {v : V} {l : List D} {gd : Option (Addr × SO)}
theorem srcL_rep {b : Bool} (r : Rep K S H x v) (q : Rel K S H) (e : srcL S x = some (b, l, gd)) : ∃ a, v = .ref a ∧ grd gd S ∧ match b with
    | true => (∃ xs, SqT K H a xs) ∧ TupAt K gd S H a l
    | false => (∃ xs, SqL K H a xs) ∧ LstAt K gd S H a l := by
  cases r with
  | tup h n rl => cases e; exact ⟨_, rfl, trivial, ⟨_, h⟩, fun S2 H2 r2 k2 g2 => by
      obtain ⟨a', vs', e', h1, h2, h3⟩ := (k2.r _ _ (.tup h n rl)).tup_inv
      cases e'; exact ⟨vs', h1, h3⟩⟩
  | lst h n z rl => cases e; exact ⟨_, rfl, trivial, ⟨_, .inl (.inl h)⟩, fun S2 H2 r2 k2 g2 => by
      cases k2.r _ _ (.lst h n z rl) with
      | lst h' n' z' rl' => exact ⟨_, .inl (.inl h'), rl'⟩⟩
  | scr h n z rl => cases e; exact ⟨_, rfl, trivial, ⟨_, (.inl h)⟩, fun S2 H2 r2 k2 g2 => by
      cases k2.r _ _ (.scr h n z rl) with
      | scr h' n' z' rl' => exact ⟨_, (.inl h'), rl'⟩
      | scrK h' z' rl' => exact ⟨_, h'.sq, rl'⟩⟩
  | scrK h z rl => cases e; exact ⟨_, rfl, trivial, ⟨_, h.sq⟩, fun S2 H2 r2 k2 g2 => by
      cases k2.r _ _ (.scrK h z rl) with
      | scr h' n' z' rl' => exact ⟨_, (.inl h'), rl'⟩
      | scrK h' z' rl' => exact ⟨_, h'.sq, rl'⟩⟩
  | ref a =>
    unfold srcL at e
    dsimp only at e
    cases h : S a with
    | none => rw [h] at e; cases e
    | some o =>
      rw [h] at e
      cases o with
      | lst l' =>
        cases e
        obtain ⟨z, vs, h1, h2⟩ := q a _ h
        exact ⟨_, rfl, h, ⟨_, .inl (.inl h1)⟩, fun S2 H2 r2 k2 g2 => by
          obtain ⟨z, vs, h1, h2⟩ := r2 a _ g2
          exact ⟨vs, .inl (.inl h1), h2⟩⟩
      | _ => cases e
  | _ => cases e
end

/-- a dict that nobody writes any more is locked for good -/
theorem lock_ok {X : Cx} {pins : List (Addr × Obj)} {σ : St} {H : Hp} {s : Shared} {S : Sto} {d : Addr} {kvs : List (Key × V)} (I : Inv X pins σ H s) (q : Rd H d (.dK kvs)) (hn : S d = none) (r : Rel X.K S H) :
    ∃ od H', Inv X pins σ H' s ∧ H' d = some (.frz od (.dK kvs)) ∧ Rel X.K S H' ∧ Keep X.K S H S H' := by
  rcases q with q | ⟨od, q⟩
  · obtain ⟨od, I'⟩ := I.lock q (u := .dK kvs) trivial
    have ne : ∀ {b : Addr} {o : HO}, H b = some o → o ≠ .dK kvs → b ≠ d := fun {b o} e n z => by rw [z, q] at e; exact n (Option.some.inj e).symm
    have k : Keep X.K S H S (upd H d (.frz od (.dK kvs))) := Lean'.keep
      { tup := fun a vs h => by
          rcases h with (h | ⟨o, h⟩) | h
          · exact .inl (.inl ((upd_ne (ne h (by intro z; cases z))).trans h))
          · exact .inl (.inr ⟨o, (upd_ne (ne h (by intro z; cases z))).trans h⟩)
          · exact .inr h
        lst := fun a vs h n => ⟨(upd_ne (ne h (by intro z; cases z))).trans h, n⟩
        scr := fun a vs h n => ⟨by
          rcases h with h | ⟨o, h⟩
          · exact .inl ((upd_ne (ne h (by intro z; cases z))).trans h)
          · exact .inr ⟨o, (upd_ne (ne h (by intro z; cases z))).trans h⟩, n⟩
        dct := fun a vs h n => ⟨by
          by_cases e : a = d
          · subst e
            rcases h with h | ⟨o, h⟩
            · rw [q] at h; cases h; exact .inr ⟨od, upd_same⟩
            · rw [q] at h; cases h
          · rcases h with h | ⟨o, h⟩
            · exact .inl ((upd_ne e).trans h)
            · exact .inr ⟨o, (upd_ne e).trans h⟩, n⟩
        ins := fun a c dx gs h n => ⟨(upd_ne (ne h (by intro z; cases z))).trans h, n⟩ } fun a o u h => (upd_ne (ne h (by intro z; cases z))).trans h
    exact ⟨od, _, I', upd_same, fun a o e => (r a o e).keep k (upd_ne fun z => by rw [z, hn] at e; cases e), k⟩
  · exact ⟨od, H, I, q, r, .refl⟩
theorem dctAt_of {K : PySem.W.Frag} {S : Sto} {H : Hp} {d : Addr} {od : Obj} {l : List (Key × D)} {kvs : List (Key × V)} (e : H d = some (.frz od (.dK kvs))) (hn : S d = none) (z : l.length ≤ sizeLine) (r : RepK K S H l kvs) : DctAt K none S H d od kvs l :=
  ⟨e, fun S2 H2 r2 k2 _ => by
    have h2 := k2.z _ _ _ e
    cases k2.r _ _ (.dct (.inr ⟨od, e⟩) hn z r) with
    | dct h n z' r' =>
      rcases h with h | ⟨o, h⟩
      · rw [h2] at h; cases h
      · rw [h2] at h; cases h; exact r'⟩
/-! ### the iterables -/
/-- E, whatever it is -/
def wSrc (we : WpE) : WpI := fun ς S R RE => we ς S (fun x S1 => ∃ l gd, srcOf S1 x = some (l, gd) ∧ R l gd S1) RE
section
variable {X : Cx} {F : Fr} {tg e e2 : Expr} {we : WpE} {wa : WpA} {p pos tpos apos cpos : Pos} {elts : List Expr} {kk : Nat}
theorem wi_src (he : WE X F e we) : WI X F tg e (wSrc we) := by
  refine ⟨fun pins s σ H Q I h => ?_⟩
  obtain ⟨ς, S, R, g, k, hw, hR⟩ := h
  refine thn (he.run pins s σ H _ I (tE.mk (Q := fun v H1 => ∃ x S1, Good X.K ς S1 σ H1 ∧ Keep X.K S H S1 H1 ∧ Rep X.K S1 H1 x v ∧ ∃ l gd, srcOf S1 x = some (l, gd) ∧ R l gd S1) g k hw fun x S1 v H1 h1 g1 k1 d1 r1 => ⟨x, S1, g1, d1, r1, h1⟩))
    fun u s1 ⟨v, H1, I1, rv, x, S1, g1, d1, r1, l, gd, e1, h1⟩ => ?_
  have lists : ∀ b, srcL S1 x = some (b, l, gd) → wpAny (model X.prog X.w) X.A (pyIter u) (PIE X pins σ tg Q) X.xe s1 := fun b e => by
    obtain ⟨a, rfl, hg, ha⟩ := srcL_rep r1 g1.rel e
    obtain rfl : u = Value.ref a := rv
    cases b with
    | true =>
      obtain ⟨⟨xs, hq⟩, at_⟩ := ha
      obtain ⟨its, rv, pp, hz⟩ := I1.tuple hq
      refine wpAny_pyIter_tuple (show s1.heap.IsTuple a its.toArray from pp) ?_
      exact pi_one (tk := s1.toks) I1 _ (turn_tuple a _) ⟨_, Heap.get?_push_size _ rfl, rfl, rfl⟩ (hR l gd S1 H1 _ h1 g1.rel d1 (walkd_tup at_))
    | false =>
      obtain ⟨⟨xs, hq⟩, at_⟩ := ha
      obtain ⟨its, rv, pp, hz⟩ := I1.list hq
      refine wpAny_pyIter_list pp.isList ?_
      exact pi_one (tk := s1.toks) I1 _ (turn_list a _) ⟨_, Heap.get?_push_size _ rfl, rfl, rfl⟩ (hR l gd S1 H1 _ h1 g1.rel d1 (walkd_list at_))
  cases x with
  | tup l' => exact lists true (by cases e1; rfl)
  | lst l' => exact lists false (by cases e1; rfl)
  | scr l' => exact lists false (by cases e1; rfl)
  | ref a =>
    unfold srcOf at e1
    dsimp only at e1
    refine lists false ?_
    unfold srcL
    dsimp only
    cases h : S1 a with
    | none => rw [h] at e1; cases e1
    | some o =>
      rw [h] at e1
      cases o with
      | lst l' => cases e1; rfl
      | _ => cases e1
  | str z =>
    cases e1
    cases r1
    obtain ⟨t, rfl⟩ := rv
    have q := hR _ none S1 H1 _ h1 g1.rel d1 (walkd_str (x := z))
    cases ha : z.cps.all (· < 128)
    · exact wpAny_pyIter_wide ha (pi_one (tk := s1.toks) I1 _ (turn_str _ z t "str_iterator" (.inr rfl)) ⟨_, Heap.get?_push_size _ rfl, rfl, rfl⟩ q)
    · exact wpAny_pyIter_ascii ha (pi_one (tk := s1.toks) I1 _ (turn_str _ z t "str_ascii_iterator" (.inl rfl)) ⟨_, Heap.get?_push_size _ rfl, rfl, rfl⟩ q)
  | dct l' =>
    cases e1
    cases r1 with
    | dct h n z rl =>
      obtain rfl : u = Value.ref _ := rv
      obtain ⟨od, H2, I2, h2, r2, k2⟩ := lock_ok I1 h n g1.rel
      obtain ⟨hs, hgd, hx, es, ep, vs, hdt, hsz, kv, hm⟩ := I2.frzK h2
      refine iter_keys hs hgd hx hdt (pi_one (tk := s1.toks) I2 _ (turn_keys _ hdt) ⟨_, Heap.get?_push_size _ rfl, rfl, ?_⟩ (hR _ none S1 H2 _ h1 r2 (d1.trans k2) (walkd_keys (dctAt_of h2 n z (k2.k rl)))))
      rw [hsz] <;> rfl
  | non => cases e1
  | bl _ => cases e1
  | int _ => cases e1
  | ins _ _ => cases e1
  | exc _ => cases e1
/-- E.items() -/
def wItems (we : WpE) : WpI := fun ς S R RE => we ς S (fun x S1 => ∃ l, x = .dct l ∧ R (itemsD l) none S1) RE
theorem wi_items (he : WE X F e we) (hb : baseOk e = true) (hline : (apos.endLine == cpos.line) = true) : WI X F (.Tuple elts kk tpos) (.Call (.Attribute e "items" apos) [] [] cpos) (wItems we) := by
  refine ⟨fun pins s σ H Q I h => ?_⟩
  obtain ⟨ς, S, R, g, k, hw, hR⟩ := h
  refine wpAny_Call_method (T := "dict") (id := "dict.items") (attrBase hb) rfl hline PySem.F.plainAttrs_dict PySem.F.slot_dict_items PySem.F.type_dict_items
    (thn (he.run pins s σ H _ I (tE.mk (Q := fun v H1 => ∃ l S1, Rel X.K S1 H1 ∧ Keep X.K S H S1 H1 ∧ Rep X.K S1 H1 (.dct l) v ∧ R (itemsD l) none S1) g k hw fun x S1 v H1 h1 g1 k1 d1 r1 => by
      obtain ⟨l, rfl, h1⟩ := h1
      exact ⟨l, S1, g1.rel, d1, r1, h1⟩)) fun u s1 ⟨v, H0, I0, rv, l, S1, g1, d1, r1, h1⟩ => ?_)
  cases r1 with
  | dct h n z rl =>
    rename_i d kvs
    obtain rfl : u = Value.ref d := rv
    obtain ⟨od, H1, I1, hd, r2, k2⟩ := lock_ok I0 h n g1
    obtain ⟨hs, hgd, hx, es, ep, vs, hdt, hsz, kv, hm⟩ := I1.frzK hd
    have hl : kvs.length = vs.length := Paired.length kv
    refine ⟨hm.dictOf.typeIs, hm.dictOf.mapOf.noDict, ?_⟩
    have I2 : Inv X pins σ H1 { s1 with heap := s1.heap.push { cls := .type "dict_items", data := .fields #[.ref d] } } := I1.kept (t' := s1.toks) fun b ob q => Heap.get?_push_of_some _ q
    have fin : wpAny (model X.prog X.w) X.A (pyIter (.ref s1.heap.objs.size)) (PIE X pins σ (.Tuple elts kk tpos) Q) X.xe { s1 with heap := s1.heap.push { cls := .type "dict_items", data := .fields #[.ref d] } } := by
      refine wpAny_pyIter_items (d := d) (knd := mixKind X.prog X.w) ⟨_, Heap.get?_push_size _ rfl, rfl, rfl⟩ (hm.push _) (pi_one (tk := s1.toks) I2 _ (turn_items _ hdt) ⟨.none, .none, ?_⟩ (hR _ none S1 H1 _ h1 r2 (d1.trans k2) (walkd_items (dctAt_of hd n z (k2.k rl)))))
      rw [hl]
      exact Heap.get?_push_size _ rfl
    show wpAny _ _ (callWith cpos (.builtin "dict.items") [.ref d] [] []) _ X.xe s1
    exact method_meetsIn PySem.F.slot_dict_items PySem.F.entry_dict_items rfl (PySem.evalArgs_none ⟨rfl, hm.dictOf.typeIs, PySem.F.args_dict_items_1 _, _, meets_dict_items (mixKind X.prog X.w) d hs, ⟨vs, hm.dictOf⟩, fin⟩)
/-- range(n), range(i, j) -/
def wRange (wa : WpA) : WpI := fun ς S R RE => wa ς S (fun xs S1 => match xs with
  | [.int j] => -(2 ^ 62) ≤ j ∧ j < 2 ^ 62 ∧ R (rngD 0 j.toNat) none S1
  | _ => False) RE
def wRange2 (wa : WpA) : WpI := fun ς S R RE => wa ς S (fun xs S1 => match xs with
  | [.int i, .int j] => -(2 ^ 62) ≤ i ∧ i < 2 ^ 62 ∧ -(2 ^ 62) ≤ j ∧ j < 2 ^ 62 ∧ R (rngD i (j - i).toNat) none S1
  | _ => False) RE
theorem wi_range1 (hg : Gl X "range") (hm : X.mg "range" = none) (ha : WA X F [e] wa) (hs : noStar e = true) : WI X F tg (.Call (.Name "range" p) [e] [] pos) (wRange wa) :=
  (pi_range1 hg hm ha (starEach_cons (es := []) hs)).imp fun σ H Q ⟨ς, S, R, g, k, hw, hR⟩ => by
    refine tA.mk g k hw fun xs S1 vs H1 h1 g1 k1 d1 r1 => ?_
    split at h1
    · cases r1 with
      | cons r t =>
        cases t; cases r
        exact ⟨_, rfl, h1.1, h1.2.1, hR _ none S1 H1 _ h1.2.2 g1.rel d1 walkd_range⟩
    · exact h1.elim
theorem wi_range2 (hg : Gl X "range") (hm : X.mg "range" = none) (ha : WA X F [e, e2] wa) (hs : noStar e = true) (hs2 : noStar e2 = true) : WI X F tg (.Call (.Name "range" p) [e, e2] [] pos) (wRange2 wa) :=
  (pi_range2 hg hm ha (by rw [starEach_cons hs, starEach_cons hs2]; rfl) (starEach_cons (es := []) hs2)).imp fun σ H Q ⟨ς, S, R, g, k, hw, hR⟩ => by
    refine tA.mk g k hw fun xs S1 vs H1 h1 g1 k1 d1 r1 => ?_
    split at h1
    · cases r1 with
      | cons r t =>
        cases t with
        | cons r' t =>
          cases t; cases r; cases r'
          exact ⟨_, _, rfl, ⟨h1.1, h1.2.1, h1.2.2.1, h1.2.2.2.1⟩, hR _ none S1 H1 _ h1.2.2.2.2 g1.rel d1 walkd_range⟩
    · exact h1.elim
/-- enumerate(list) -/
def wEnum (wa : WpA) : WpI := fun ς S R RE => wa ς S (fun xs S1 => ∃ x l gd, xs = [x] ∧ srcL S1 x = some (false, l, gd) ∧ R (enumD 0 l) gd S1) RE
theorem wi_enum (hg : Gl X "enumerate") (hm : X.mg "enumerate" = none) (ha : WA X F [e] wa) (hs : noStar e = true) : WI X F (.Tuple elts kk tpos) (.Call (.Name "enumerate" p) [e] [] pos) (wEnum wa) :=
  (pi_enum hg hm ha (starEach_cons (es := []) hs)).imp fun σ H Q ⟨ς, S, R, g, k, hw, hR⟩ => by
    refine tA.mk g k hw fun xs S1 vs H1 h1 g1 k1 d1 r1 => ?_
    obtain ⟨x, l, gd, rfl, e1, h1⟩ := h1
    obtain ⟨v, rfl, r⟩ := r1.one
    obtain ⟨a, rfl, hg, ⟨xs, hq⟩, at_⟩ := srcL_rep r g1.rel e1
    exact ⟨a, xs, rfl, hq, hR _ gd S1 H1 _ h1 g1.rel d1 (walkd_enum at_)⟩
/-- zip(a, b), both lists, or both tuples; at most one of them one's own -/
def wZip (wa : WpA) : WpI := fun ς S R RE => wa ς S (fun xs S1 => ∃ x y b l m gx gy, xs = [x, y] ∧ srcL S1 x = some (b, l, gx) ∧ srcL S1 y = some (b, m, gy) ∧ (gx = none ∨ gy = none) ∧ R (zipD l m) (gx.or gy) S1) RE
theorem LstAt.or1 {K : PySem.W.Frag} {gx gy : Option (Addr × SO)} {S : Sto} {H : Hp} {a : Addr} {l : List D} (h : LstAt K gx S H a l) (o : gx = none ∨ gy = none) : LstAt K (gx.or gy) S H a l := fun S2 H2 r k g => h S2 H2 r k (by
  cases gx with
  | none => trivial
  | some _ => exact g)
theorem LstAt.or2 {K : PySem.W.Frag} {gx gy : Option (Addr × SO)} {S : Sto} {H : Hp} {a : Addr} {l : List D} (h : LstAt K gy S H a l) (o : gx = none ∨ gy = none) : LstAt K (gx.or gy) S H a l := fun S2 H2 r k g => h S2 H2 r k (by
  cases gx with
  | none => exact g
  | some _ =>
    cases gy with
    | none => trivial
    | some _ => rcases o with o | o <;> cases o)
theorem TupAt.or1 {K : PySem.W.Frag} {gx gy : Option (Addr × SO)} {S : Sto} {H : Hp} {a : Addr} {l : List D} (h : TupAt K gx S H a l) (o : gx = none ∨ gy = none) : TupAt K (gx.or gy) S H a l := fun S2 H2 r k g => h S2 H2 r k (by
  cases gx with
  | none => trivial
  | some _ => exact g)
theorem TupAt.or2 {K : PySem.W.Frag} {gx gy : Option (Addr × SO)} {S : Sto} {H : Hp} {a : Addr} {l : List D} (h : TupAt K gy S H a l) (o : gx = none ∨ gy = none) : TupAt K (gx.or gy) S H a l := fun S2 H2 r k g => h S2 H2 r k (by
  cases gx with
  | none => exact g
  | some _ =>
    cases gy with
    | none => trivial
    | some _ => rcases o with o | o <;> cases o)
theorem wi_zip (hg : Gl X "zip") (hm : X.mg "zip" = none) (ha : WA X F [e, e2] wa) (hs : noStar e = true) (hs2 : noStar e2 = true) : WI X F (.Tuple elts kk tpos) (.Call (.Name "zip" p) [e, e2] [] pos) (wZip wa) :=
  (RZ.pi_zipA hg hm ha (starEach_cons hs) (by rw [starEach_cons hs2]; rfl)).imp fun σ H Q ⟨ς, S, R, g, k, hw, hR⟩ => by
    refine tA.mk g k hw fun xs S1 vs H1 h1 g1 k1 d1 r1 => ?_
    obtain ⟨x, y, b, l, m, gx, gy, rfl, e1, e2, o, h1⟩ := h1
    obtain ⟨v, u, rfl, r, r'⟩ := r1.two
    obtain ⟨a, rfl, hg, at1⟩ := srcL_rep r g1.rel e1
    obtain ⟨a', rfl, hg', at2⟩ := srcL_rep r' g1.rel e2
    cases b with
    | true =>
      obtain ⟨⟨xs, hq⟩, at1⟩ := at1
      obtain ⟨⟨ys, hq'⟩, at2⟩ := at2
      exact ⟨a, a', xs, ys, rfl, .inr ⟨hq, hq', hR _ _ S1 H1 _ h1 g1.rel d1 (walkd_zipT (at1.or1 o) (at2.or2 o))⟩⟩
    | false =>
      obtain ⟨⟨xs, hq⟩, at1⟩ := at1
      obtain ⟨⟨ys, hq'⟩, at2⟩ := at2
      exact ⟨a, a', xs, ys, rfl, .inl ⟨hq, hq', hR _ _ S1 H1 _ h1 g1.rel d1 (walkd_zip (at1.or1 o) (at2.or2 o))⟩⟩
end
end SB
end

section
set_option Elab.async false
set_option linter.all false
set_option maxRecDepth 100000
set_option autoImplicit false
/-! SB10: statements' judgement; for; list comprehensions. -/
namespace SB
open PySem PySem.Spec L2

structure ES where
  nx : En → Sto → Prop
  rt : D → Sto → Prop
  bk : En → Sto → Prop := fun _ _ => False
  ct : En → Sto → Prop := fun _ _ => False
abbrev PxE := String → En → Sto → Prop
abbrev WpS := En → Sto → ES → PxE → Prop
structure EOk (K : PySem.W.Frag) (S : Sto) (H : Hp) (E : ES) (D : Ends) : Prop where
  nx : ∀ ς' S' σ' H', E.nx ς' S' → Good K ς' S' σ' H' → Keep K S H S' H' → D.nx σ' H'
  rt : ∀ x S' v H', E.rt x S' → Rel K S' H' → Keep K S H S' H' → Rep K S' H' x v → D.rt v H'
  bk : ∀ ς' S' σ' H', E.bk ς' S' → Good K ς' S' σ' H' → Keep K S H S' H' → D.bk σ' H'
  ct : ∀ ς' S' σ' H', E.ct ς' S' → Good K ς' S' σ' H' → Keep K S H S' H' → D.ct σ' H'
theorem EOk.from {K : PySem.W.Frag} {S S1 : Sto} {H H1 : Hp} {E : ES} {D : Ends} (e : EOk K S H E D) (k : Keep K S H S1 H1) : EOk K S1 H1 E D :=
  ⟨fun _ _ _ _ q g k' => e.nx _ _ _ _ q g (k.trans k'), fun _ _ _ _ q g k' r => e.rt _ _ _ _ q g (k.trans k') r, fun _ _ _ _ q g k' => e.bk _ _ _ _ q g (k.trans k'), fun _ _ _ _ q g k' => e.ct _ _ _ _ q g (k.trans k')⟩
def tS (K : PySem.W.Frag) (F : Fr) (w : WpS) : TS := fun D σ H => ∃ (ς : En) (S : Sto) (E : ES), Good K ς S σ H ∧ Keep K F.S0 F.H0 S H ∧ w ς S E F.XE ∧ EOk K S H E D
def WS (X : Cx) (F : Fr) (st : Stmt) (w : WpS) : Prop := PS X st (tS X.K F w)
def WSs (X : Cx) (F : Fr) (sts : List Stmt) (w : WpS) : Prop := PSs X sts (tS X.K F w)
theorem tS.step {K : PySem.W.Frag} {F : Fr} {w : WpS} {t : TS} (h : ∀ (ς : En) (S : Sto) (E : ES) (D : Ends) (σ : St) (H : Hp), Good K ς S σ H → Keep K F.S0 F.H0 S H → w ς S E F.XE → EOk K S H E D → t D σ H) : ∀ D σ H, tS K F w D σ H → t D σ H :=
  fun D σ H ⟨ς, S, E, g, k, hw, e⟩ => h ς S E D σ H g k hw e
theorem tI.mk {K : PySem.W.Frag} {F : Fr} {w : WpI} {ς : En} {S : Sto} {R : List D → Option (Addr × SO) → Sto → Prop} {σ : St} {H : Hp} {Q : It → Hp → Prop} (g : Good K ς S σ H) (k : Keep K F.S0 F.H0 S H) (hw : w ς S R (fun c S' => F.XE c ς S'))
    (hR : ∀ xs gd S' H' J, R xs gd S' → Good K ς S' σ H' → Keep K F.S0 F.H0 S' H' → Keep K S H S' H' → WalkD K J xs gd S' H' → Q J H') : tI K F w σ H Q :=
  ⟨ς, S, R, g, k, hw, fun xs gd S' H' J q r k' p => hR xs gd S' H' J q (g.keep r k') (k.trans k') k' p⟩

/-! ### for -/
def forL (gd : Option (Addr × SO)) (t : Tg) (tb : WpS) : List D → En → Sto → ES → PxE → Prop
  | [], ς, S, E, _ => grd gd S ∧ E.nx ς S
  | x :: xs, ς, S, E, XE => grd gd S ∧ ∃ ς1, t.bind x ς = some ς1 ∧ tb ς1 S { E with nx := fun ς' S' => forL gd t tb xs ς' S' E XE, ct := fun ς' S' => forL gd t tb xs ς' S' E XE, bk := E.nx } XE
def wFor (wi : WpI) (t : Tg) (tb : WpS) : WpS := fun ς S E XE => wi ς S (fun xs gd S1 => forL gd t tb xs ς S1 E XE) (fun c S' => XE c ς S')
theorem forL_grd {gd : Option (Addr × SO)} {t : Tg} {tb : WpS} {xs : List D} {ς : En} {S : Sto} {E : ES} {XE : PxE} (h : forL gd t tb xs ς S E XE) : grd gd S := by
  cases xs with
  | nil => exact h.1
  | cons _ _ => exact h.1
theorem ws_for {X : Cx} {F : Fr} {tg iter : Expr} {body : List Stmt} {wi : WpI} {t : Tg} {tb : WpS} {pos : Pos} (hp : PassesOwn (model X.prog X.w) X.A X.env X.xe) (hc : X.calm = true) (hi : WI X F tg iter wi) (hg : WG X tg t) (hb : WSs X F body tb)
    (hs : ∀ x, foldedSetIterable iter X.env x = pure x) : WS X F (.For tg iter body [] pos) (wFor wi t tb) :=
  (ps_for hp hc hi hg hb hs).imp (tS.step fun ς S E D σ H g k hw eo => by
    refine tI.mk g k hw fun xs gd S1 H1 J h1 g1 k1 d1 wd => ?_
    refine ⟨fun i m σ' H' => m = xs.length - i ∧ i ≤ xs.length ∧ ∃ ς' S', Good X.K ς' S' σ' H' ∧ Keep X.K S1 H1 S' H' ∧ forL gd t tb (xs.drop i) ς' S' E F.XE,
      ⟨xs.length, by simp, Nat.zero_le _, ς, S1, g1, .refl, h1⟩, ?_⟩
    rintro i m σ' H' ⟨rfl, hi, ς', S', g', k', hf⟩
    by_cases hlt : i < xs.length
    · rw [List.drop_eq_getElem_cons hlt] at hf
      obtain ⟨hgd, ς1, hbd, htb⟩ := hf
      refine .inr ⟨wd.goes i S' H' hlt g'.rel k' hgd, fun σ2 H2 => ∃ ς2 S2, Good X.K ς2 S2 σ2 H2 ∧ Keep X.K S1 H1 S2 H2 ∧ forL gd t tb (xs.drop (i + 1)) ς2 S2 E F.XE, fun σ2 H2 ⟨ς2, S2, a, b, c⟩ => ⟨xs.length - (i + 1), by omega, rfl, hlt, ς2, S2, a, b, c⟩, ?_⟩
      intro v H3 y
      obtain ⟨d, e, r3, k3, rd⟩ := wd.yields i S' H' v H3 hlt g'.rel k' hgd y
      rw [List.getElem?_eq_getElem hlt] at e
      cases e
      have g3 := g'.keep r3 k3
      obtain ⟨σ2, h2, g2, _⟩ := Tg.bind_ok hbd g3 rd
      refine h2 _ ⟨ς1, S', _, g2, (k1.trans k').trans k3, htb, ?_⟩
      exact ⟨fun ς4 S4 σ4 H4 q g4 k4 => ⟨ς4, S4, g4, (k'.trans k3).trans k4, q⟩, fun x S4 v4 H4 q r4 k4 p4 => eo.rt _ _ _ _ q r4 (((d1.trans k').trans k3).trans k4) p4,
        fun ς4 S4 σ4 H4 q g4 k4 => eo.nx _ _ _ _ q g4 (((d1.trans k').trans k3).trans k4), fun ς4 S4 σ4 H4 q g4 k4 => ⟨ς4, S4, g4, (k'.trans k3).trans k4, q⟩⟩
    · obtain rfl : i = xs.length := by omega
      rw [List.drop_length] at hf
      exact .inl ⟨wd.stops S' H' g'.rel k' hf.1, eo.nx _ _ _ _ hf.2 g' (d1.trans k')⟩)

/-! ### list comprehensions -/
def Fr.calm (F : Fr) : Fr := { F with XE := fun _ _ _ => False }
/-- the items: p the new list -/
def lcL (gd : Option (Addr × SO)) (t : Tg) (wt : WpT) (we : WpE) (p : Addr) (ς : En) : List D → List D → Sto → (List D → Sto → Prop) → Prop
  | [], acc, S, R => grd gd S ∧ S p = some (.lst acc) ∧ R acc S
  | x :: xs, acc, S, R => grd gd S ∧ ∃ ς1, t.bind x ς = some ς1 ∧ wt ς1 S (fun b S1 => if b = true then we ς1 S1 (fun y S2 => S2 p = some (.lst acc) ∧ acc.length + 1 ≤ sizeLine ∧ lcL gd t wt we p ς xs (acc ++ [y]) (S2.set p (.lst (acc ++ [y]))) R) (fun _ _ => False)
      else lcL gd t wt we p ς xs acc S1 R) (fun _ _ => False)
def lcEnd (own : Bool) (p : Addr) (R : Pd) (acc : List D) (S : Sto) : Prop := match own with
  | true => R (.ref p) S
  | false => R (.lst acc) (S.del p)
def wLc (own : Bool) (wi : WpI) (t : Tg) (wt : WpT) (we : WpE) (vs : List Nat) : WpE := fun ς S R RE => wi ς S (fun xs gd S1 => ∀ p, S1 p = none → lcL gd t wt we p (wipeE ς vs) xs [] (S1.set p (.lst [])) (lcEnd own p R)) RE
def wYes : WpT := fun _ S R _ => R true S
def WTs (X : Cx) (F : Fr) (ifs : List Expr) (w : WpT) : Prop := PTs X ifs (tT X.K F w)
section
variable {X : Cx} {F : Fr}
theorem wts_nil : WTs X F [] wYes := ⟨fun pins s σ H Q I ⟨ς, S, R, g, k, hw, hR⟩ => pts_nil.run pins s σ H Q I (hR true S H hw g.rel .refl)⟩
theorem wts_one {c : Expr} {w : WpT} (h : WT X F c w) : WTs X F [c] w := pts_one h
theorem lc_ok {own : Bool} {wi : WpI} {t : Tg} {wt : WpT} {we : WpE} {vs : List Nat} (hv : ∀ i ∈ t.ixs, i ∈ vs) {ς : En} {S : Sto} {R : Pd} {σ : St} {H : Hp} {Q : VK} (g : Good X.K ς S σ H) (k : Keep X.K F.S0 F.H0 S H) (hw : wLc own wi t wt we vs ς S R (fun c S' => F.XE c ς S'))
    (hR : ∀ x S' v H', R x S' → Rel X.K S' H' → Keep X.K S H S' H' → Rep X.K S' H' x v → Q v H') : tLc (tI X.K F wi) (t.of X.K) (tT X.K F.calm wt) (tE X.K F.calm we) vs σ H Q := by
  refine tI.mk g k hw fun xs gd S1 H1 J h1 g1 k1 d1 wd => ?_
  intro p hp
  have sp := g1.rel.fresh hp
  have h1 := h1 p sp
  have R0 : Rel X.K (S1.set p (.lst [])) (upd H1 p (.lst [])) := g1.rel.own hp ⟨by show 0 ≤ sizeLine; omega, [], upd_same, .nil⟩
  have K0 : Keep X.K S1 H1 (S1.set p (.lst [])) (upd H1 p (.lst [])) := Keep.own hp
  refine ⟨fun i m H' => m = xs.length - i ∧ i ≤ xs.length ∧ ∃ S' acc, Rel X.K S' H' ∧ Keep X.K S1 H1 S' H' ∧ lcL gd t wt we p (wipeE ς vs) (xs.drop i) acc S' (lcEnd own p R),
    ⟨xs.length, by simp, Nat.zero_le _, _, [], R0, K0, h1⟩, ?_⟩
  rintro i m H' ⟨rfl, hi, S', acc, r', k', hf⟩
  by_cases hlt : i < xs.length
  · rw [List.drop_eq_getElem_cons hlt] at hf
    obtain ⟨hgd, ς1, hbd, htb⟩ := hf
    refine .inr ⟨wd.goes i S' H' hlt r' k' hgd, fun H2 => ∃ S2 acc2, Rel X.K S2 H2 ∧ Keep X.K S1 H1 S2 H2 ∧ lcL gd t wt we p (wipeE ς vs) (xs.drop (i + 1)) acc2 S2 (lcEnd own p R), fun H2 ⟨S2, acc2, a, b, c⟩ => ⟨xs.length - (i + 1), by omega, rfl, hlt, S2, acc2, a, b, c⟩, ?_⟩
    intro v H3 y
    obtain ⟨d, e, r3, k3, rd⟩ := wd.yields i S' H' v H3 hlt r' k' hgd y
    rw [List.getElem?_eq_getElem hlt] at e
    cases e
    have g3 : Good X.K (wipeE ς vs) S' (wipe σ vs) H3 := ((g1.keep r' k').keep r3 k3).wipe vs
    obtain ⟨σ2, h2, g2, hwp⟩ := Tg.bind_ok hbd g3 rd
    have ww : wipe (wipe σ vs) vs = wipe σ vs → wipe σ2 vs = wipe σ vs := fun e => (hwp vs hv).trans e
    have idem : wipe (wipe σ vs) vs = wipe σ vs := by
      have gen : ∀ us : List Nat, (∀ i ∈ us, i ∈ vs) → wipe (wipe σ us) vs = wipe σ vs := fun us => by
        induction us with
        | nil => intro _; rfl
        | cons u us ih =>
          intro h
          show wipe ((wipe σ us).set u none) vs = _
          rw [wipe_set, if_pos (h u List.mem_cons_self), ih fun i hi => h i (List.mem_cons_of_mem _ hi)]
      exact gen vs fun _ h => h
    refine h2 _ ⟨ww idem, tT.mk (F := F.calm) g2 ((k1.trans k').trans k3) htb fun b S4 H4 h4 g4 k4 d4 => ?_⟩
    split at h4
    · rename_i hb
      rw [if_pos hb]
      refine tE.mk (F := F.calm) g4 k4 h4 fun y S5 u H5 h5 g5 k5 d5 r5 => ?_
      obtain ⟨s5, z5, h5⟩ := h5
      obtain ⟨z, us, e5, ra⟩ := g5.rel p _ s5
      refine ⟨us, e5, by rw [← ra.length]; omega, S5.set p (.lst (acc ++ [y])), acc ++ [y], ?_, ?_, h5⟩
      · exact g5.rel.put s5 ⟨by simp; omega, us ++ [u], upd_same, (Keep.putR g5.rel s5).l (ra.append (.cons r5 .nil))⟩
      · exact (((k'.trans k3).trans d4).trans d5).trans (Keep.putR g5.rel s5)
    · rename_i hb
      rw [if_neg hb]
      exact ⟨S4, acc, g4.rel, (k'.trans k3).trans d4, h4⟩
  · obtain rfl : i = xs.length := by omega
    rw [List.drop_length] at hf
    obtain ⟨hgd, sp', hE⟩ := hf
    refine .inl ⟨wd.stops S' H' r' k' hgd, ?_⟩
    cases own with
    | true => exact hR _ S' _ H' hE r' (d1.trans k') (.ref p)
    | false =>
      obtain ⟨z, us, e5, ra⟩ := r' p _ sp'
      have hd' : ∀ b, (S'.del p) b = S' b ∨ (S'.del p) b = none := fun b => by
        by_cases e : b = p
        · subst e; exact .inr Sto.del_same
        · rw [Sto.del_ne e]; exact .inl rfl
      have LK := Keep.left (K := X.K) (H := H') hd'
      exact hR _ (S'.del p) _ H' hE (r'.left hd') ((d1.trans k').trans LK) (.lst e5 Sto.del_same z (LK.l ra))
variable {elt tg iter : Expr} {ifs : List Expr} {scope : Scope} {own : List (Str × Nat)} {pos spos py : Pos} {wi : WpI} {t : Tg} {wt : WpT} {we : WpE} {fr : Bool}
theorem we_lc (hc : X.calm = true) (hN : X.N.Nodup) (hi : WI X F tg iter wi) (ok : BlkOk X.N X.env.scope scope own) (hv : ∀ i ∈ t.ixs, i ∈ own.map (·.2))
    (hg : ∀ (s : Shared) (H : Hp) (C : Addr) (cl : List (Str × Addr)) (fp : List Addr), WG (X.blk s H scope (compEnvC scope cl C X.env) fp) tg t)
    (ht : ∀ (s : Shared) (H : Hp) (C : Addr) (cl : List (Str × Addr)) (fp : List Addr), WTs (X.blk s H scope (compEnvC scope cl C X.env) fp) F.calm ifs wt)
    (he : ∀ (s : Shared) (H : Hp) (C : Addr) (cl : List (Str × Addr)) (fp : List Addr), WE (X.blk s H scope (compEnvC scope cl C X.env) fp) F.calm elt we) (hs : ∀ x, foldedSetIterable iter X.env x = pure x) :
    WE X F (.ListComp elt [⟨tg, iter, ifs, 0⟩] scope pos) (wLc fr wi t wt we (own.map (·.2))) :=
  (pe_lc (g := t.of X.K) (tt := tT X.K F.calm wt) (te := tE X.K F.calm we) hc hN hi ok (fun s H C cl fp => hg s H C cl fp) (fun s H C cl fp => ht s H C cl fp) (fun s H C cl fp => he s H C cl fp) hs).imp fun σ H Q ⟨ς, S, R, g, k, hw, hR⟩ => lc_ok hv g k hw hR
/-- a statement name = value, from its expression's reading -/
def wSet (i : Nat) (we : WpE) : WpS := fun ς S E XE => we ς S (fun x S1 => E.nx (ς.set i (some x)) S1) (fun c S' => XE c ς S')
theorem set_ok {i : Nat} {te : TE} (h : ∀ (ς : En) (S : Sto) (R : Pd) (σ : St) (H : Hp) (Q : VK), Good X.K ς S σ H → Keep X.K F.S0 F.H0 S H → we ς S R (fun c S' => F.XE c ς S') → (∀ x S' v H', R x S' → Rel X.K S' H' → Keep X.K S H S' H' → Rep X.K S' H' x v → Q v H') → te σ H Q) :
    ∀ D σ H, tS X.K F (wSet i we) D σ H → tAsg te (gName i) D σ H := tS.step fun ς S E D σ H g k hw eo => by
  exact h ς S _ σ H _ g k hw fun x S' v H' q r k' p => eo.nx _ _ _ _ q ((g.keep r k').set p) k'
theorem ws_setLc {i : Nat} {y : Str} (hc : X.calm = true) (hN : X.N.Nodup) (hy : X.N[i]? = some y) (hyl : X.env.scope.names.lookup y = some .local)
    (hsw : swapsWith (.ListComp elt [⟨tg, iter, ifs, 0⟩] scope pos) (some (.Name y py)) spos.line X.env = pure true) (hi : WI X F tg iter wi) (ok : BlkOk X.N X.env.scope scope own) (hv : ∀ i ∈ t.ixs, i ∈ own.map (·.2))
    (hg : ∀ (s : Shared) (H : Hp) (C : Addr) (cl : List (Str × Addr)) (fp : List Addr), WG (X.blk s H scope (compEnvC scope cl C X.env) fp) tg t)
    (ht : ∀ (s : Shared) (H : Hp) (C : Addr) (cl : List (Str × Addr)) (fp : List Addr), WTs (X.blk s H scope (compEnvC scope cl C X.env) fp) F.calm ifs wt)
    (he : ∀ (s : Shared) (H : Hp) (C : Addr) (cl : List (Str × Addr)) (fp : List Addr), WE (X.blk s H scope (compEnvC scope cl C X.env) fp) F.calm elt we) (hs : ∀ x, foldedSetIterable iter X.env x = pure x) :
    WS X F (.Assign [.Name y py] (.ListComp elt [⟨tg, iter, ifs, 0⟩] scope pos) spos) (wSet i (wLc fr wi t wt we (own.map (·.2)))) :=
  (ps_setLc (g := t.of X.K) (tt := tT X.K F.calm wt) (te := tE X.K F.calm we) hc hN hy hyl hsw hi ok (fun s H C cl fp => hg s H C cl fp) (fun s H C cl fp => ht s H C cl fp) (fun s H C cl fp => he s H C cl fp) hs).imp (set_ok fun ς S R σ H Q g k hw hR => lc_ok hv g k hw hR)
end
end SB
end

section
set_option Elab.async false
set_option linter.all false
set_option maxRecDepth 100000
set_option autoImplicit false
/-! SB11: statements; a def's body. -/
namespace SB
open PySem PySem.Spec L2

def wNx : WpS := fun ς S E _ => E.nx ς S
def wSeq (a b : WpS) : WpS := fun ς S E XE => a ς S { E with nx := fun ς' S' => b ς' S' E XE } XE
def wExpr (we : WpE) : WpS := fun ς S E XE => we ς S (fun _ S1 => E.nx ς S1) (fun c S' => XE c ς S')
def wRet (we : WpE) : WpS := fun ς S E XE => we ς S (fun x S1 => E.rt x S1) (fun c S' => XE c ς S')
def wRetN : WpS := fun ς S E _ => E.rt .non S
def wIf (wt : WpT) (wa wb : WpS) : WpS := fun ς S E XE => wt ς S (fun b S1 => if b = true then wa ς S1 E XE else wb ς S1 E XE) (fun c S' => XE c ς S')
def wAsg (t : Tg) (we : WpE) : WpS := fun ς S E XE => we ς S (fun x S1 => ∃ ς', t.bind x ς = some ς' ∧ E.nx ς' S1) (fun c S' => XE c ς S')
def wBrk : WpS := fun ς S E _ => E.bk ς S
def wCnt : WpS := fun ς S E _ => E.ct ς S
section
variable {X : Cx} {F : Fr} {st : Stmt} {rest : List Stmt} {w u : WpS} {e : Expr} {we : WpE} {pos pos' : Pos}
theorem wss_nil : WSs X F [] wNx := pss_nil.imp fun D σ H ⟨ς, S, E, g, k, hw, eo⟩ => eo.nx _ _ _ _ hw g .refl
theorem wss_one (h : WS X F st w) : WSs X F [st] w := pss_one h
theorem wss_cons (h : WS X F st w) (hr : WSs X F rest u) : WSs X F (st :: rest) (wSeq w u) :=
  (pss_cons h hr).imp fun D σ H ⟨ς, S, E, g, k, hw, eo⟩ => ⟨ς, S, _, g, k, hw, ⟨fun ς' S' σ' H' q g' k' => ⟨ς', S', E, g', k.trans k', q, eo.from k'⟩, eo.rt, eo.bk, eo.ct⟩⟩
theorem ws_pass : WS X F (.Pass pos) wNx := ps_pass.imp fun D σ H ⟨ς, S, E, g, k, hw, eo⟩ => eo.nx _ _ _ _ hw g .refl
theorem ws_brk : WS X F (.Break pos) wBrk := ps_break.imp fun D σ H ⟨ς, S, E, g, k, hw, eo⟩ => eo.bk _ _ _ _ hw g .refl
theorem ws_cnt : WS X F (.Continue pos) wCnt := ps_continue.imp fun D σ H ⟨ς, S, E, g, k, hw, eo⟩ => eo.ct _ _ _ _ hw g .refl
theorem ws_doc {x j} : WS X F (.Expr (.Constant (.str x) j pos) pos') wNx := ps_doc.imp fun D σ H ⟨ς, S, E, g, k, hw, eo⟩ => eo.nx _ _ _ _ hw g .refl
theorem ws_expr (he : WE X F e we) (hs : swapsWith e none pos.line X.env = pure false) : WS X F (.Expr e pos) (wExpr we) :=
  (ps_expr he hs).imp fun D σ H ⟨ς, S, E, g, k, hw, eo⟩ => tE.mk g k hw fun x S' v H' q g' _ d _ => eo.nx _ _ _ _ q g' d
theorem ws_ret (he : WE X F e we) : WS X F (.Return (some e) pos) (wRet we) :=
  (ps_ret he).imp fun D σ H ⟨ς, S, E, g, k, hw, eo⟩ => tE.mk g k hw fun x S' v H' q g' _ d r => eo.rt _ _ _ _ q g'.rel d r
theorem ws_retN : WS X F (.Return none pos) wRetN := ps_retN.imp fun D σ H ⟨ς, S, E, g, k, hw, eo⟩ => eo.rt _ _ _ _ hw g.rel .refl .non
theorem ws_if {c : Expr} {a b : List Stmt} {wt : WpT} {wa wb : WpS} (hc : WT X F c wt) (ha : WSs X F a wa) (hb : WSs X F b wb) : WS X F (.If c a b pos) (wIf wt wa wb) :=
  (ps_if hc ha hb).imp fun D σ H ⟨ς, S, E, g, k, hw, eo⟩ => tT.mk g k hw fun b S' H' q g' k' d => by
    cases b with
    | true => rw [if_pos rfl] at q ⊢; exact ⟨ς, S', E, g', k', q, eo.from d⟩
    | false => rw [if_neg Bool.false_ne_true] at q ⊢; exact ⟨ς, S', E, g', k', q, eo.from d⟩
theorem ws_set {i : Nat} {x : Str} (hN : X.N.Nodup) (hi : X.N[i]? = some x) (hx : Loc X.env.scope x) (he : WE X F e we) (hs : swapsWith e (some (.Name x pos')) pos.line X.env = pure false) (hf : X.fn x = true ∨ X.env.scope.names.lookup x = some .local) :
    WS X F (.Assign [.Name x pos'] e pos) (wSet i we) :=
  (ps_set hN hi hx he hs hf).imp (set_ok fun ς S R σ H Q g k hw hR => ⟨ς, S, R, g, k, hw, hR⟩)
theorem ws_asg {tg : Expr} {t : Tg} (he : WE X F e we) (hg : WG X tg t) (hs : swapsWithSole [tg] e pos.line X.env = pure false) (hw : swappedStores [tg] e X.env = pure none)
    (h1 : (assignEach [tg] X.env).map (·.2) = [assign tg X.env]) : WS X F (.Assign [tg] e pos) (wAsg t we) :=
  (ps_asg he hg hs hw h1).imp fun D σ H ⟨ς, S, E, g, k, hw, eo⟩ => tE.mk g k hw fun x S' v H' q g' _ d r => by
    obtain ⟨ς', hb, q⟩ := q
    obtain ⟨σ', h1, g2, _⟩ := Tg.bind_ok hb g' r
    exact h1 _ (eo.nx _ _ _ _ q g2 d)

/-! ### o[i] = v -/
def fSetI (x i y : D) (S : Sto) (R : Sto → Prop) : Prop := ∃ a, x = .ref a ∧ match S a with
  | some (.lst l) => ∃ k j, i = .int k ∧ ixN l.length k = some j ∧ R (S.set a (.lst (l.set j y)))
  | some (.dct l) => ∃ k, keyOf i = some k ∧ l.length + 1 ≤ sizeLine ∧ R (S.set a (.dct (putD k y l)))
  | _ => False
def wSetI (wv wo wi : WpE) : WpS := fun ς S E XE => wv ς S (fun y S1 => wo ς S1 (fun x S2 => wi ς S2 (fun i S3 => fSetI x i y S3 fun S4 => E.nx ς S4) (fun c S' => XE c ς S')) (fun c S' => XE c ς S')) (fun c S' => XE c ς S')
def rSetLD : TSet := fun o i v H Q => rSetL o i v H Q ∨ ∃ a H', o = .ref a ∧ DPut H a i v H' ∧ Q H'
theorem set_ld (hu : X.A.units + 1 < cLine) : PSet X rSetLD := fun pins s σ H o i v ov iv u Q I r1 r2 r3 h => by
  rcases h with h | ⟨a, H', rfl, g, q⟩
  · exact set_list pins s σ H o i v ov iv u Q I r1 r2 r3 h
  · cases r1
    exact d_setItem hu I g r2 r3 fun s' I' => ⟨H', I', q⟩
theorem setI_ok {K : PySem.W.Frag} {S S' : Sto} {H : Hp} {x i y : D} {o iv v : V} {R : Sto → Prop} {Q : Hp → Prop} (q : Rel K S H) (rx : Rep K S H x o) (ri : Rep K S H i iv) (ry : Rep K S H y v) (h : fSetI x i y S R)
    (hR : ∀ S' H', R S' → Rel K S' H' → Keep K S H S' H' → Q H') : rSetLD o iv v H Q := by
  obtain ⟨a, rfl, h⟩ := h
  cases rx
  cases e : S a with
  | none => rw [e] at h; exact h.elim
  | some u =>
    rw [e] at h
    cases u with
    | lst l =>
      obtain ⟨k, j, rfl, hj, h⟩ := h
      obtain ⟨z, vs, h1, h2⟩ := q a _ e
      cases ri
      refine .inl ⟨a, vs, k, j, rfl, rfl, h1, by rw [← h2.length]; exact hj, hR _ _ h ?_ (Keep.putR q e)⟩
      exact q.put e ⟨by rw [List.length_set]; exact z, vs.set j v, upd_same, (Keep.putR q e).l (h2.set j ry)⟩
    | dct l =>
      obtain ⟨k, hk, z1, h⟩ := h
      obtain ⟨z, vs, h1, h2⟩ := q a _ e
      refine .inr ⟨a, _, rfl, .inl ⟨vs, k, h1, keyOf_rep ri hk, by rw [← h2.length]; omega, rfl⟩, hR _ _ h ?_ (Keep.putR q e)⟩
      exact q.put e ⟨Nat.le_trans (putD_le k y l) z1, putK vs k v, upd_same, (Keep.putR q e).k (h2.put ry)⟩
    | _ => exact h.elim
theorem ws_setI {o i : Expr} {wo wi : WpE} {p : Pos} (hu : X.A.units + 1 < cLine) (he : WE X F e we) (ho : WE X F o wo) (hi : WE X F i wi)
    (ha : ∀ v, assign (.Subscript o i p) X.env v = (do
      let ov ← holding [v] (eval o X.env)
      let iv ← holding [v, ov] (eval i X.env)
      standAt p
      holding [v, ov, iv] (setItem ov iv v)
      release [v, ov, iv] []))
    (hs : swapsWithSole [.Subscript o i p] e pos.line X.env = pure false) (hw : swappedStores [.Subscript o i p] e X.env = pure none) (h1 : (assignEach [.Subscript o i p] X.env).map (·.2) = [assign (.Subscript o i p) X.env]) :
    WS X F (.Assign [.Subscript o i p] e pos) (wSetI we wo wi) :=
  (ps_asg he (pg_sub ho hi (set_ld hu) ha) hs hw h1).imp fun D σ H ⟨ς, S, E, g, k, hw, eo⟩ => tE.mk g k hw fun y S1 v H1 q g1 k1 d1 r1 =>
    tE.mk g1 k1 q fun x S2 o H2 q g2 k2 d2 r2 => tE.mk g2 k2 q fun i S3 iv H3 q g3 k3 d3 r3 =>
      setI_ok (S' := S3) g3.rel (d3 _ _ r2) r3 (d3 _ _ (d2 _ _ r1)) q fun S4 H4 q r4 k4 => eo.nx _ _ _ _ q (g3.keep r4 k4) (((d1.trans d2).trans d3).trans k4)

/-! ### o.f = v -/
def putFd (f : String) (y : D) : List (String × D) → List (String × D)
  | [] => [(f, y)]
  | (g, x) :: r => if g = f then (g, y) :: r else (g, x) :: putFd f y r
theorem putFd_le (f : String) (y : D) : ∀ fs : List (String × D), (putFd f y fs).length ≤ fs.length + 1
  | [] => Nat.le_refl _
  | (g, x) :: r => by unfold putFd; split <;> simp [putFd_le f y r]
theorem putFd_mem {f : String} {y : D} : ∀ {fs : List (String × D)} {p : String × D}, p ∈ putFd f y fs → p.1 = f ∨ ∃ q ∈ fs, q.1 = p.1
  | [], p, h => by simp [putFd] at h; exact .inl (by rw [h])
  | (g, x) :: r, p, h => by
    unfold putFd at h
    split at h
    · rcases List.mem_cons.mp h with e | h
      · rename_i hg; exact .inl (by rw [e]; exact hg)
      · exact .inr ⟨p, List.mem_cons_of_mem _ h, rfl⟩
    · rcases List.mem_cons.mp h with e | h
      · exact .inr ⟨(g, x), List.mem_cons_self, by rw [e]⟩
      · rcases putFd_mem h with e | ⟨q, hq, e⟩
        · exact .inl e
        · exact .inr ⟨q, List.mem_cons_of_mem _ hq, e⟩
theorem RepF.length {K : PySem.W.Frag} {S : Sto} {H : Hp} : ∀ {fs : List (String × D)} {gs : List (Str × V)}, RepF K S H fs gs → fs.length = gs.length
  | _, _, .nil => rfl
  | _, _, .cons _ t => by simp [RepF.length t]
theorem RepF.put {K : PySem.W.Frag} {S : Sto} {H : Hp} {f : String} {y : D} {v : V} (r : Rep K S H y v) : ∀ {fs : List (String × D)} {gs : List (Str × V)}, RepF K S H fs gs → RepF K S H (putFd f y fs) (putF (Str.ofString f) v gs)
  | _, _, .nil => .cons r .nil
  | _, _, .cons (f := g) rx t => by
    unfold putFd putF
    by_cases e : g = f
    · rw [if_pos e, if_pos (by rw [e])]
      exact .cons r t
    · rw [if_neg e, if_neg fun z => e (ofString_inj z)]
      exact .cons rx (RepF.put r t)
def fSetF (cs : List String) (f : String) (x y : D) (S : Sto) (R : Sto → Prop) : Prop := ∃ a, x = .ref a ∧ match S a with
  | some (.ins c fs) => cs.contains c = true ∧ fs.length + 1 ≤ 1000 ∧ R (S.set a (.ins c (putFd f y fs)))
  | _ => False
def wSetF (cs : List String) (f : String) (wv wo : WpE) : WpS := fun ς S E XE => wv ς S (fun y S1 => wo ς S1 (fun x S2 => fSetF cs f x y S2 fun S4 => E.nx ς S4) (fun c S' => XE c ς S')) (fun c S' => XE c ς S')
theorem ws_setF {cs : List String} {f : String} {o : Expr} {wo : WpE} (hn : ∀ c ∈ cs, NoAttr X.K (clA X.K c) (Str.ofString f)) (he : WE X F e we) (ho : WE X F o wo) (hs : swapsWith e (some (.Attribute o (Str.ofString f) pos')) pos.line X.env = pure false) :
    WS X F (.Assign [.Attribute o (Str.ofString f) pos'] e pos) (wSetF cs f we wo) :=
  (ps_fld ho he hs).imp fun D σ H ⟨ς, S, E, g, k, hw, eo⟩ => tE.mk g k hw fun y S1 v H1 q g1 k1 d1 r1 => tE.mk g1 k1 q fun x S2 o H2 q g2 k2 d2 r2 => by
    obtain ⟨a, rfl, h⟩ := q
    cases r2
    cases e : S2 a with
    | none => rw [e] at h; exact h.elim
    | some u =>
      rw [e] at h
      cases u with
      | ins c fs =>
        obtain ⟨hc, hl, h⟩ := h
        obtain ⟨⟨c1, c2, c3⟩, dx, gs, h1, h2⟩ := g2.rel a _ e
        have na := hn c (by simpa using hc)
        have hlg : fs.length = gs.length := RepF.length h2
        refine ⟨a, _, dx, gs, rfl, h1, c1, na, by omega, eo.nx _ _ _ _ h (g2.keep ?_ (Keep.putR g2.rel e)) ((d1.trans d2).trans (Keep.putR g2.rel e))⟩
        refine g2.rel.put e ⟨⟨c1, fun p hp => ?_, Nat.le_trans (putFd_le f y fs) hl⟩, dx, _, upd_same, (Keep.putR g2.rel e).f (RepF.put (d2 _ _ r1) h2)⟩
        rcases putFd_mem hp with e | ⟨q, hq, e⟩
        · rw [e]; exact na
        · rw [← e]; exact c2 q hq
      | _ => exact h.elim

/-! ### exceptions -/
def wRaise (c : String) : WpS := fun ς S _ XE => XE c ς S
structure ExOk (K : PySem.W.Frag) (c : String) : Prop where
  q : PySem.W.excIn K (clA K c) He.veBase "ValueError.__new__" = true
  kp : PySem.W.keepIn K (.ref (clA K c)) = true
  s1 : PySem.W.subIn K (.ref (clA K c)) (.type "BaseException") = some true
  s2 : PySem.W.typeIn K (.ref (clA K c)) = some (.type "type")
theorem tk_calm {F : Fr} : Takes X (wF X.K F.calm) := takes_none5.imp fun _ _ _ _ ⟨_, _, _, _, _, _, _, h⟩ => h
theorem ws_raise {c : String} {x m : Str} {j : Nat} {p p2 cpos : Pos} {initId : String} (Fb : ExcBaseFacts "ValueError" "ValueError.__new__" initId He.veBase) (ex : ExOk X.K c) (hc : X.calm = true) (tk : Takes X (wF X.K F)) (gC : X.mg x = some (.ref (clA X.K c))) (hg : Gl X x)
    (hdb : (x == ("__debug__" : Str)) = false) : WS X F (.Raise (some (.Call (.Name x p) [.Constant (.str m) j p2] [] cpos)) none pos) (wRaise c) :=
  (ps_raise hc tk (pmk_own Fb ex.q gC ex.kp (raises_own ex.s1 ex.s2) hg hdb)).imp fun D σ H ⟨ς, S, E, g, k, hw, eo⟩ => ⟨c, ς, S, rfl, fun _ => rfl, g, k, hw⟩
end
end SB
end

section
set_option Elab.async false
set_option linter.all false
set_option maxRecDepth 100000
set_option autoImplicit false
/-! SB12: while, try, own classes asked, a def's body, the end. -/
namespace SB
open PySem PySem.Spec L2

/-! ### while -/
def wWhile (wt : WpT) (wb : WpS) : WpS := fun ς S E XE => ∃ W : Nat → En → Sto → Prop, (∃ m, W m ς S) ∧ ∀ m ς S, W m ς S →
  wt ς S (fun b S1 => if b = true then wb ς S1 { E with nx := fun ς' S' => ∃ m', m' < m ∧ W m' ς' S', ct := fun ς' S' => ∃ m', m' < m ∧ W m' ς' S', bk := E.nx } XE else E.nx ς S1) (fun c S' => XE c ς S')
section
variable {X : Cx} {F : Fr} {pos : Pos}
theorem ws_while {c : Expr} {body : List Stmt} {wt : WpT} {wb : WpS} (hp : PassesOwn (model X.prog X.w) X.A X.env X.xe) (hc : WT X F c wt) (hb : WSs X F body wb) : WS X F (.While c body [] pos) (wWhile wt wb) :=
  (ps_while hp hc hb).imp fun D σ H ⟨ς, S, E, g, k, ⟨W, ⟨m, w0⟩, hW⟩, eo⟩ => by
    refine ⟨fun m σ' H' => ∃ ς' S', Good X.K ς' S' σ' H' ∧ Keep X.K S H S' H' ∧ W m ς' S', ⟨m, ς, S, g, .refl, w0⟩, ?_⟩
    rintro m σ' H' ⟨ς', S', g', k', w'⟩
    refine tT.mk g' (k.trans k') (hW m ς' S' w') fun b S2 H2 q g2 k2 d2 => ?_
    have eo' := eo.from (k'.trans d2)
    cases b with
    | true =>
      rw [if_pos rfl] at q ⊢
      refine ⟨fun σ3 H3 => ∃ m', m' < m ∧ ∃ ς' S', Good X.K ς' S' σ3 H3 ∧ Keep X.K S H S' H3 ∧ W m' ς' S', fun σ3 H3 h => h, ?_⟩
      exact ⟨ς', S2, _, g2, k2, q, ⟨fun _ _ _ _ ⟨m', hm, w⟩ g3 k3 => ⟨m', hm, _, _, g3, (k'.trans d2).trans k3, w⟩, eo'.rt, eo'.nx, fun _ _ _ _ ⟨m', hm, w⟩ g3 k3 => ⟨m', hm, _, _, g3, (k'.trans d2).trans k3, w⟩⟩⟩
    | false =>
      rw [if_neg Bool.false_ne_true] at q ⊢
      exact eo'.nx _ _ _ _ q g2 .refl
end

/-! ### try -/
/-- of the own errors: is c a kind of C -/
def subB (c C : String) : Bool := c == C || C == "BookError"
structure ExcT (K : PySem.W.Frag) (cs : List String) : Prop where
  m : ∀ c ∈ cs, ∀ C ∈ cs, PySem.W.exmOne K (.ref (clA K c)) (.ref (clA K C)) = some (subB c C)
def ES.unset (E : ES) (i : Nat) : ES := ⟨fun ς S => E.nx (ς.set i none) S, E.rt, fun ς S => E.bk (ς.set i none) S, fun ς S => E.ct (ς.set i none) S⟩
def wTryAs (cs : List String) (C : String) (i : Nat) (wb : WpS) (ws : Addr → String → WpS) : WpS := fun ς S E XE => wb ς S E (fun c ς' S' => c ∈ cs ∧ if subB c C = true then ∀ a, ws a c (ς'.set i (some (.ref a))) S' (E.unset i) (fun _ _ _ => False) else XE c ς' S')
def wTryO (cs : List String) (C : String) (wb : WpS) (ws : WpS) : WpS := fun ς S E XE => wb ς S E (fun c ς' S' => c ∈ cs ∧ if subB c C = true then ws ς' S' E (fun _ _ _ => False) else XE c ς' S')
section
variable {X : Cx} {F : Fr} {x n : Str} {C : String} {i : Nat} {body suite : List Stmt} {b₀ : Stmt} {np pos pos' : Pos} {wb : WpS} {cs : List String}
theorem EOk.unset {K : PySem.W.Frag} {S : Sto} {H : Hp} {E : ES} {D : Ends} {i : Nat} (eo : EOk K S H E D) : EOk K S H (E.unset i) { nx := fun σ' H' => D.nx (σ'.set i none) H', rt := D.rt, bk := fun σ' H' => D.bk (σ'.set i none) H', ct := fun σ' H' => D.ct (σ'.set i none) H' } :=
  ⟨fun _ _ _ _ q g k => eo.nx _ _ _ _ q g.unset k, eo.rt, fun _ _ _ _ q g k => eo.bk _ _ _ _ q g.unset k, fun _ _ _ _ q g k => eo.ct _ _ _ _ q g.unset k⟩
theorem ws_try_as {ws : Addr → String → WpS} (hs : X.stack = X.env :: X.outer) (hf : X.env.frame = some X.env.locals) (hN : X.N.Nodup) (hi : X.N[i]? = some n) (hln : X.env.kindOf n = some .local) (hc : Names X x (.ref (clA X.K C))) (tk : Takes X (wF X.K F)) (ex : ExcT X.K cs) (hC : C ∈ cs)
    (hb : ∀ (F' : Fr) (pn : List (Addr × Obj)) (xe : Value → Shared → Prop), Takes (X.tr pn xe) (wF X.K F') → PassesOwn (model X.prog X.w) X.A X.env xe → WSs (X.tr pn xe) F' body wb)
    (hsu : ∀ (F' : Fr) (a : Addr) (oe : Obj) (c : String) (d : Option Addr) (pn : List (Addr × Obj)), Zc (.ref (clA X.K c)) d oe → (∃ vs, oe.data = .fields vs) → (c ≠ "NoPot" → d = none) → WSs (X.suite a ((a, oe) :: pn)) F'.calm (b₀ :: suite) (ws a c)) :
    WS X F (.Try body [.ExceptHandler (some (.Name x np)) (some n) (b₀ :: suite) pos'] [] [] pos) (wTryAs cs C i wb ws) := by
  have h := ps_try_as (X := X) (x := x) (n := n) (c := .ref (clA X.K C)) (i := i) (body := body) (suite := suite) (b₀ := b₀) (np := np) (pos := pos) (pos' := pos')
    (tb := fun W D σ H => ∃ F' : Fr, (∀ cls d σ H, wF X.K F' cls d σ H → W cls d σ H) ∧ tS X.K F' wb D σ H)
    (ts := fun a cls d D σ H => ∃ (c : String) (F' : Fr), cls = .ref (clA X.K c) ∧ (c ≠ "NoPot" → d = none) ∧ tS X.K F'.calm (ws a c) D σ H) (Wout := wF X.K F) hs hf hN hi hln hc tk
    (fun W pn xe tkW hp => ⟨fun pins s σ H D I ⟨F', hW, q⟩ => (hb F' pn xe (tkW.imp hW) hp).run pins s σ H D I q⟩)
    (fun a oe cls d pn hz hv => ⟨fun pins s σ H D I ⟨c, F', e, hd, q⟩ => (hsu F' a oe c d pn (by rw [← e]; exact hz) hv hd).run pins s σ H D I q⟩)
  refine h.imp fun D σ H ⟨ς, S, E, g, k, hw, eo⟩ => ?_
  refine ⟨⟨S, H, fun c ς' S' => c ∈ cs ∧ if subB c C = true then ∀ a, ws a c (ς'.set i (some (.ref a))) S' (E.unset i) (fun _ _ _ => False) else F.XE c ς' S'⟩, ?_, ⟨ς, S, E, g, .refl, hw, eo⟩⟩
  rintro cls d σ' H' ⟨c, ς', S', rfl, hd, g', k', hcs, q⟩
  refine ⟨subB c C, ex.m c hcs C hC, fun e a ha => ?_, fun e => ?_⟩
  · rw [if_pos e] at q
    exact ⟨c, ⟨S', H', fun _ _ _ => False⟩, rfl, hd, ς'.set i (some (.ref a)), S', E.unset i, g'.set (.ref a), .refl, q a, (eo.from k').unset⟩
  · rw [if_neg (by rw [e]; exact Bool.false_ne_true)] at q
    exact ⟨c, ς', S', rfl, hd, g', k.trans k', q⟩
theorem ws_try_only {ws : WpS} (hs : X.stack = X.env :: X.outer) (hf : X.env.frame = some X.env.locals) (hc : Names X x (.ref (clA X.K C))) (tk : Takes X (wF X.K F)) (ex : ExcT X.K cs) (hC : C ∈ cs)
    (hb : ∀ (F' : Fr) (pn : List (Addr × Obj)) (xe : Value → Shared → Prop), Takes (X.tr pn xe) (wF X.K F') → PassesOwn (model X.prog X.w) X.A X.env xe → WSs (X.tr pn xe) F' body wb)
    (hsu : ∀ (F' : Fr) (a : Addr) (oe : Obj) (pn : List (Addr × Obj)), WSs (X.suite a ((a, oe) :: pn)) F'.calm (b₀ :: suite) ws) :
    WS X F (.Try body [.ExceptHandler (some (.Name x np)) none (b₀ :: suite) pos'] [] [] pos) (wTryO cs C wb ws) := by
  have h := ps_try_only (X := X) (x := x) (c := .ref (clA X.K C)) (body := body) (suite := suite) (b₀ := b₀) (np := np) (pos := pos) (pos' := pos')
    (tb := fun W D σ H => ∃ F' : Fr, (∀ cls d σ H, wF X.K F' cls d σ H → W cls d σ H) ∧ tS X.K F' wb D σ H)
    (ts := fun a cls d D σ H => ∃ (F' : Fr), tS X.K F'.calm ws D σ H) (Wout := wF X.K F) hs hf hc tk
    (fun W pn xe tkW hp => ⟨fun pins s σ H D I ⟨F', hW, q⟩ => (hb F' pn xe (tkW.imp hW) hp).run pins s σ H D I q⟩)
    (fun a oe cls d pn hz hv => ⟨fun pins s σ H D I ⟨F', q⟩ => (hsu F' a oe pn).run pins s σ H D I q⟩)
  refine h.imp fun D σ H ⟨ς, S, E, g, k, hw, eo⟩ => ?_
  refine ⟨⟨S, H, fun c ς' S' => c ∈ cs ∧ if subB c C = true then ws ς' S' E (fun _ _ _ => False) else F.XE c ς' S'⟩, ?_, ⟨ς, S, E, g, .refl, hw, eo⟩⟩
  rintro cls d σ' H' ⟨c, ς', S', rfl, hd, g', k', hcs, q⟩
  refine ⟨subB c C, ex.m c hcs C hC, fun e a ha => ?_, fun e => ?_⟩
  · rw [if_pos e] at q
    exact ⟨⟨S', H', fun _ _ _ => False⟩, ς', S', E, g', .refl, q, eo.from k'⟩
  · rw [if_neg (by rw [e]; exact Bool.false_ne_true)] at q
    exact ⟨c, ς', S', rfl, hd, g', k.trans k', q⟩
end

/-! ### isinstance(e, C), e caught -/
structure ExcK (K : PySem.W.Frag) (cs : List String) : Prop where
  cl : ∀ c ∈ cs, ExcC K (clA K c)
  kit : ∀ c ∈ cs, ∀ C ∈ cs, PySem.W.kitOne K (.ref (clA K c)) (.ref (clA K C)) = some (subB c C)
def wIsE (a : Addr) (c C : String) (cs : List String) (we : WpE) : WpE := fun ς S R RE => we ς S (fun x S1 => x = .ref a ∧ c ∈ cs ∧ c ≠ "NoPot" ∧ R (.bl (subB c C)) S1) RE
section
variable {X : Cx} {F : Fr} {x : Str} {c C : String} {a : Addr} {oe : Obj} {d : Option Addr} {e : Expr} {we : WpE} {p p2 pos : Pos} {pn : List (Addr × Obj)} {cs : List String}
theorem we_isE (hz : Zc (.ref (clA X.K c)) d oe) (hv : ∃ vs, oe.data = .fields vs) (hd : c ≠ "NoPot" → d = none) (ex : ExcK X.K cs) (hC : C ∈ cs) (he : WE (X.suite a ((a, oe) :: pn)) F e we) (hn : noStar e = true)
    (hg : Gl X "isinstance") (hm : X.mg "isinstance" = none) (hg2 : Gl X x) (hm2 : X.mg x = some (.ref (clA X.K C))) (hdb : (x == ("__debug__" : Str)) = false) :
    WE (X.suite a ((a, oe) :: pn)) F (.Call (.Name "isinstance" p) [e, .Name x p2] [] pos) (wIsE a c C cs we) := by
  refine ⟨fun pins s σ H Q I h => ?_⟩
  obtain ⟨ς, S, R, g, k, hw, hR⟩ := h
  have ha : PA (X.suite a ((a, oe) :: pn)) [e, .Name x p2] (tCons (tE X.K F we) (tCons (tC (.ref (clA X.K C))) tNil)) := pa_cons he (pa_cons (pe_glob (X := X.suite a ((a, oe) :: pn)) hg2 hm2 rfl hdb) pa_nil (starEach_cons (es := []) rfl)) (starEach_cons hn)
  have hcall : CallR (X.suite a ((a, oe) :: pn)) (.builtin "isinstance") (fun xs H Q => (c ∈ cs ∧ c ≠ "NoPot") ∧ rIsE X.K (clA X.K c) a xs H Q) := fun pins s σ H xs us Q I r ⟨⟨hc, hnp⟩, q⟩ => by
    obtain rfl := hd hnp
    exact call_isE (X := X) (pn := pn) (ex.cl c hc) hz hv pins s σ H xs us Q I r q
  refine (pe_callB (X := X.suite a ((a, oe) :: pn)) hcall hg hm (by decide +kernel) ha (by decide) (by decide) (starEach_cons hn) (by rw [back_any (es := [.Name x p2]) rfl])).run pins s σ H Q I ?_
  refine tE.mk g k hw fun y S1 v H1 q g1 k1 d1 r1 => ?_
  obtain ⟨rfl, hc, hnp, q⟩ := q
  cases r1
  refine ⟨⟨hc, hnp⟩, .ref (clA X.K C), .ref (clA X.K C), subB c C, rfl, fun u r => r, ex.kit c hc C hC, hR _ S1 _ H1 q g1.rel d1 (.bl _)⟩
end
end SB
end

section
set_option Elab.async false
set_option linter.all false
set_option maxRecDepth 100000
set_option autoImplicit false
/-! SB13: own classes asked; a def's body; the end of a row. -/
namespace SB
open PySem PySem.Spec L2

/-! ### isinstance(x, C), own classes -/
structure ClsK (K : PySem.W.Frag) (cs : List String) (sub : String → String → Bool) : Prop where
  ha : ∀ c ∈ cs, PySem.W.findIn K (.ref (clA K c)) "__class__" = some (some (.builtin "object.__class__"))
  hn : PySem.W.specialIn K (.builtin "object.__class__") "__get__" = some (some (.builtin "getset_descriptor.__get__"))
  htk : PySem.W.takesIn K (.builtin "object.__class__") = some true
  hm : ∀ c ∈ cs, PySem.W.mroIn K (clA K c) (.type "object") = some true
  kit : ∀ c ∈ cs, ∀ C ∈ cs, PySem.W.kitOne K (.ref (clA K c)) (.ref (clA K C)) = some (sub c C)
def wIsO (cs : List String) (sub : String → String → Bool) (C : String) (we : WpE) : WpE := fun ς S R RE => we ς S (fun x S1 => ∃ c fs, insOf S1 x = some (c, fs) ∧ c ∈ cs ∧ R (.bl (sub c C)) S1) RE
section
variable {X : Cx} {F : Fr} {pos p p2 : Pos} {e : Expr} {es : List Expr} {we : WpE} {x : Str} {cs : List String} {sub : String → String → Bool} {C : String}
theorem boot_isi : bootBuiltins "isinstance" = some (.builtin "isinstance") := by decide +kernel
theorem we_isO (ck : ClsK X.K cs sub) (hC : C ∈ cs) (he : WE X F e we) (hn : noStar e = true) (hg : Gl X "isinstance") (hm : X.mg "isinstance" = none) (hg2 : Gl X x) (hm2 : X.mg x = some (.ref (clA X.K C))) (hdb : (x == ("__debug__" : Str)) = false) :
    WE X F (.Call (.Name "isinstance" p) [e, .Name x p2] [] pos) (wIsO cs sub C we) := by
  have pt : PE X (.Name x p2) (tC (.ref (clA X.K C))) := pe_glob hg2 hm2 rfl hdb
  refine (pe_callB call_isi hg hm boot_isi (pa_cons he (pa_cons pt pa_nil rfl) (starEach_cons hn)) (by decide) (by decide) (starEach_cons hn) rfl).imp fun σ H Q ⟨ς, S, R, g, k, hw, hR⟩ => ?_
  refine tE.mk g k hw fun x S1 v H1 h1 g1 k1 d1 r1 => ?_
  obtain ⟨c, fs, e, hc, h1⟩ := h1
  obtain ⟨a, dx, gs, rfl, ha1, ⟨c1, _, _⟩, _⟩ := insOf_rep r1 g1.rel e
  exact ⟨.ref a, .ref (clA X.K C), .ref (clA X.K c), .ref (clA X.K C), sub c C, rfl, .own _, .base (.ins ha1 c1 (ck.ha c hc) ck.hn ck.htk (ck.hm c hc)), ck.kit c hc C hC, hR _ S1 _ H1 h1 g1.rel d1 (.bl _)⟩
end

/-! ### what may be said of a value and a store at a def's end -/
/-- as it stands, x and S may be taken for x' and S' -/
def Frz (x : D) (S : Sto) (x' : D) (S' : Sto) : Prop := ∀ K H v, Rel K S H → Rep K S H x v → Rel K S' H ∧ Keep K S H S' H ∧ Rep K S' H x' v
theorem Frz.refl {x : D} {S : Sto} : Frz x S x S := fun _ _ _ r p => ⟨r, .refl, p⟩
theorem Frz.trans {x y z : D} {S S1 S2 : Sto} (a : Frz x S y S1) (b : Frz y S1 z S2) : Frz x S z S2 := fun K H v r p => by
  obtain ⟨r1, k1, p1⟩ := a K H v r p
  obtain ⟨r2, k2, p2⟩ := b K H v r1 p1
  exact ⟨r2, k1.trans k2, p2⟩
theorem del_le {S : Sto} {p : Addr} (b : Addr) : (S.del p) b = S b ∨ (S.del p) b = none := by
  by_cases e : b = p
  · subst e; exact .inr Sto.del_same
  · rw [Sto.del_ne e]; exact .inl rfl
theorem Frz.drop {x : D} {S S' : Sto} (h : ∀ a, S' a = S a ∨ S' a = none) : Frz x S x S' := fun K H v r p => ⟨r.left h, Keep.left h, (Keep.left h).r _ _ p⟩
theorem Frz.del {x : D} {S : Sto} {p : Addr} : Frz x S x (S.del p) := Frz.drop del_le
/-- what is owned, as data -/
def SO.data : SO → Option D
  | .lst l => some (.lst l)
  | .dct l => some (.dct l)
  | .ins c fs => some (.ins c fs)
  | .lck _ => none
theorem data_rep {K : PySem.W.Frag} {S : Sto} {H : Hp} {p : Addr} {o : SO} {d : D} (r : Rel K S H) (e : S p = some o) (hd : o.data = some d) : Rep K (S.del p) H d (.ref p) := by
  have k : Keep K S H (S.del p) H := Keep.left del_le
  cases o with
  | lst l => cases hd; obtain ⟨z, vs, h1, h2⟩ := r p _ e; exact .lst h1 Sto.del_same z (k.l h2)
  | dct l => cases hd; obtain ⟨z, vs, h1, h2⟩ := r p _ e; exact .dct (.inl h1) Sto.del_same z (k.k h2)
  | ins c fs => cases hd; obtain ⟨co, dx, gs, h1, h2⟩ := r p _ e; exact .ins h1 Sto.del_same co (k.f h2)
  | lck l => cases hd
theorem Frz.ref {S : Sto} {p : Addr} {o : SO} {d : D} (e : S p = some o) (hd : o.data = some d) : Frz (.ref p) S d (S.del p) := fun K H v r q => by
  cases q
  exact ⟨r.left del_le, Keep.left del_le, data_rep r e hd⟩
mutual
/-- d for every p -/
def sb (p : Addr) (d : D) : D → D
  | .ref a => if a = p then d else .ref a
  | .tup l => .tup (subL p d l)
  | .lst l => .lst (subL p d l)
  | .scr l => .scr (subL p d l)
  | .dct l => .dct (subK p d l)
  | .ins c fs => .ins c (subF p d fs)
  | .non => .non
  | .bl b => .bl b
  | .int i => .int i
  | .str x => .str x
  | .exc c => .exc c
termination_by x => sizeOf x
def subL (p : Addr) (d : D) : List D → List D
  | [] => []
  | x :: xs => sb p d x :: subL p d xs
termination_by x => sizeOf x
def subK (p : Addr) (d : D) : List (Key × D) → List (Key × D)
  | [] => []
  | (k, x) :: xs => (k, sb p d x) :: subK p d xs
termination_by x => sizeOf x
def subF (p : Addr) (d : D) : List (String × D) → List (String × D)
  | [] => []
  | (k, x) :: xs => (k, sb p d x) :: subF p d xs
termination_by x => sizeOf x
end
theorem subL_length (p : Addr) (d : D) : ∀ l, (subL p d l).length = l.length
  | [] => by simp [subL]
  | x :: xs => by simp [subL, subL_length p d xs]
theorem subK_length (p : Addr) (d : D) : ∀ l, (subK p d l).length = l.length
  | [] => by simp [subK]
  | (k, x) :: xs => by simp [subK, subK_length p d xs]
theorem subF_mem {p : Addr} {d : D} : ∀ {l : List (String × D)} {q}, q ∈ subF p d l → ∃ q' ∈ l, q'.1 = q.1
  | [], q, h => by simp [subF] at h
  | (k, x) :: xs, q, h => by
    rw [subF] at h
    rcases List.mem_cons.mp h with e | h
    · exact ⟨(k, x), List.mem_cons_self, by rw [e]⟩
    · obtain ⟨q', h1, h2⟩ := subF_mem h; exact ⟨q', List.mem_cons_of_mem _ h1, h2⟩
theorem subF_length (p : Addr) (d : D) : ∀ l, (subF p d l).length = l.length
  | [] => by simp [subF]
  | (k, x) :: xs => by simp [subF, subF_length p d xs]
section
variable {K : PySem.W.Frag} {S S' : Sto} {H : Hp} {p : Addr} {d : D}
mutual
theorem Rep.sub (hS : ∀ a, S a = none → S' a = none) (hd : Rep K S' H d (.ref p)) : ∀ {x : D} {v : V}, Rep K S H x v → Rep K S' H (sb p d x) v
  | _, _, .non => by rw [sb]; exact .non
  | _, _, .bl b => by rw [sb]; exact .bl b
  | _, _, .int i => by rw [sb]; exact .int i
  | _, _, .str x => by rw [sb]; exact .str x
  | _, _, .tup h n r => by rw [sb]; exact .tup h (by rw [subL_length]; exact n) (RepL.sub hS hd r)
  | _, _, .lst h e n r => by rw [sb]; exact .lst h (hS _ e) (by rw [subL_length]; exact n) (RepL.sub hS hd r)
  | _, _, .scr h e n r => by rw [sb]; exact .scr h (hS _ e) (by rw [subL_length]; exact n) (RepL.sub hS hd r)
  | _, _, .scrK h n r => by rw [sb]; exact .scrK h (by rw [subL_length]; exact n) (RepL.sub hS hd r)
  | _, _, .dct h e n r => by rw [sb]; exact .dct h (hS _ e) (by rw [subK_length]; exact n) (RepK.sub hS hd r)
  | _, _, .ins h e ⟨c1, c2, c3⟩ r => by
    rw [sb]
    exact .ins h (hS _ e) ⟨c1, fun q hq => by obtain ⟨q', h1, h2⟩ := subF_mem hq; rw [← h2]; exact c2 q' h1, by rw [subF_length]; exact c3⟩ (RepF.sub hS hd r)
  | _, _, .ref a => by
    rw [sb]
    split
    · rename_i e; rw [e]; exact hd
    · exact .ref a
theorem RepL.sub (hS : ∀ a, S a = none → S' a = none) (hd : Rep K S' H d (.ref p)) : ∀ {l : List D} {vs : List V}, RepL K S H l vs → RepL K S' H (subL p d l) vs
  | _, _, .nil => by rw [subL]; exact .nil
  | _, _, .cons r t => by rw [subL]; exact .cons (Rep.sub hS hd r) (RepL.sub hS hd t)
theorem RepK.sub (hS : ∀ a, S a = none → S' a = none) (hd : Rep K S' H d (.ref p)) : ∀ {l : List (Key × D)} {vs : List (Key × V)}, RepK K S H l vs → RepK K S' H (subK p d l) vs
  | _, _, .nil => by rw [subK]; exact .nil
  | _, _, .cons r t => by rw [subK]; exact .cons (Rep.sub hS hd r) (RepK.sub hS hd t)
theorem RepF.sub (hS : ∀ a, S a = none → S' a = none) (hd : Rep K S' H d (.ref p)) : ∀ {l : List (String × D)} {vs : List (Str × V)}, RepF K S H l vs → RepF K S' H (subF p d l) vs
  | _, _, .nil => by rw [subF]; exact .nil
  | _, _, .cons r t => by rw [subF]; exact .cons (Rep.sub hS hd r) (RepF.sub hS hd t)
end
end
/-- an owned thing that x holds becomes data -/
theorem Frz.sub {S : Sto} {p : Addr} {o : SO} {d x : D} (e : S p = some o) (hd : o.data = some d) : Frz x S (sb p d x) (S.del p) := fun K H v r q =>
  ⟨r.left del_le, Keep.left del_le, Rep.sub (fun a h => by rcases del_le (S := S) (p := p) a with z | z; exact z.trans h; exact z) (data_rep r e hd) q⟩
def Rz (R : Pd) : Pd := fun x S => ∃ x' S', Frz x S x' S' ∧ R x' S'
theorem Rz.now {R : Pd} {x : D} {S : Sto} (h : R x S) : Rz R x S := ⟨x, S, .refl, h⟩

/-! ### a def -/
def startE (N : List Str) (xs : List D) : En := xs.map some ++ List.replicate (N.length - xs.length) none
theorem start_good {K : PySem.W.Frag} {N : List Str} {xs : List D} {vs : List V} {S : Sto} {H : Hp} (r : RepL K S H xs vs) (q : Rel K S H) : Good K (startE N xs) S (L2.start N vs) H := by
  have hl := r.length
  refine ⟨by simp [startE, L2.start, hl], fun i x e => ?_, q⟩
  unfold startE at e
  unfold L2.start
  by_cases h : i < xs.length
  · rw [List.getElem?_append_left (by simpa using h)] at e
    rw [List.getElem?_append_left (by rw [List.length_map, ← hl]; exact h)]
    rw [List.getElem?_map] at e ⊢
    cases e2 : xs[i]? with
    | none => rw [e2] at e; cases e
    | some y =>
      rw [e2] at e
      cases e
      obtain ⟨v, h1, h2⟩ := r.get e2
      exact ⟨v, by rw [h1]; rfl, h2⟩
  · rw [List.getElem?_append_right (by simpa using h)] at e
    rw [List.getElem?_replicate] at e
    split at e <;> cases e
/-- what a body needs to know of its context -/
structure BC (k : Nat) (X : Cx) (F : Fr) : Prop where
  room : Room k X.A
  tk : Takes X (wF X.K F)
  pass : PassesOwn (model X.prog X.w) X.A X.env X.xe
section
variable {P : Program} {w : World} {K : PySem.W.Frag} {mg : Str → Option Value} {base : Heap} {x qual : Str} {params : Arguments} {body : List Stmt} {scope : Scope} {dvs : List V} {kws : List (Str × V)} {f : Addr} {fd : FuncData}
theorem body_ok {N ps : List Str} {k : Nat} {ws : WpS} {φ : Spec} (Fd : FunD K x qual params body scope dvs kws f fd) (Sc : FnScope N ps scope)
    (hw : ∀ (cdv : Value) (A : Around) (outer : List Env) (s : Shared) (H : Hp) (E : XK) (F : Fr), BC k (cxOf (L2.CX P w) P w K mg base N qual scope f cdv A outer s H E) F → WSs (cxOf (L2.CX P w) P w K mg base N qual scope f cdv A outer s H E) F body ws)
    (hl : ∀ xs S R RE, φ xs S R RE → xs.length = ps.length)
    (hφ : ∀ xs S R RE, φ xs S R RE → ws (startE N xs) S ⟨fun _ S' => Rz R .non S', Rz R, fun _ _ => False, fun _ _ => False⟩ (fun c _ S' => RE c S')) : FnOk P w K mg base (L2.CX P w) (k + 1) f fd ps (spOf K φ) := by
  refine Fd.ok Sc (fun vs H Q E ⟨xs, S, R, RE, r, _, h, _⟩ => by rw [← r.length]; exact hl _ _ _ _ h) fun cdv A outer s H vs Q E hr ⟨xs, S, R, RE, r, q, h, hR, hRE⟩ => ?_
  refine ⟨_, hw cdv A outer s H E ⟨S, H, fun c _ S' => RE c S'⟩ ⟨hr, ?_, passes_of rfl⟩, startE N xs, S, _, start_good r q, .refl, hφ xs S R RE h, ?_⟩
  · refine (takes_of (E := E) rfl rfl rfl rfl).imp fun cls d σ H' ⟨c, ς, S', e, hd, g, k', z⟩ => ?_
    subst e
    exact hRE c d S' H' hd z g.rel k'
  · refine ⟨fun ς' S' σ' H' ⟨x', S2, fz, z⟩ g k' => ?_, fun x S' v H' ⟨x', S2, fz, z⟩ r' k' p => ?_, fun _ _ _ _ z => z.elim, fun _ _ _ _ z => z.elim⟩
    · obtain ⟨r2, k2, p2⟩ := fz K H' .non g.rel .non
      exact hR x' S2 .non H' z r2 (k'.trans k2) p2
    · obtain ⟨r2, k2, p2⟩ := fz K H' v r' p
      exact hR x' S2 v H' z r2 (k'.trans k2) p2
/-- all parameters written -/
theorem fn_bd {ps : List Str} {k : Nat} {φ : Spec} (n : Nat) (Fd : FunD K x qual params body scope [] kws f fd) (ok : FnOk P w K mg base (L2.CX P w) k f fd ps (spOf K φ)) (b : Binds K fd ps []) : FnBd P w K mg base k f n [] φ :=
  ⟨⟨fd, ps, [], [], ok, b, .nil, fun _ _ => .nil⟩, Fd.kp⟩
theorem fn_bdD {ps : List Str} {k : Nat} {φ : Spec} (n : Nat) (dds : List D) (Fd : FunD K x qual params body scope dvs kws f fd) (ok : FnOk P w K mg base (L2.CX P w) k f fd ps (spOf K φ)) {vs : List V} (b : ∃ ds, Vals vs ds ∧ Binds K fd ps ds) (r : ∀ S H, RepL K S H dds vs) : FnBd P w K mg base k f n dds φ := by
  obtain ⟨ds, hv, hb⟩ := b
  exact ⟨⟨fd, ps, ds, vs, ok, hb, hv, r⟩, Fd.kp⟩
/-- a weaker promise -/
theorem FnBd.imp {k n : Nat} {dds : List D} {φ φ' : Spec} (b : FnBd P w K mg base k f n dds φ) (h : ∀ xs S R RE, φ' xs S R RE → φ xs S R RE) : FnBd P w K mg base k f n dds φ' := by
  obtain ⟨⟨fd, ps, ds, dvs, a, b, c, d⟩, kp⟩ := b
  exact ⟨⟨fd, ps, ds, dvs, a.imp fun vs H Q E ⟨xs, S, R, RE, r, q, z, y⟩ => ⟨xs, S, R, RE, r, q, h _ _ _ _ z, y⟩, b, c, d⟩, kp⟩
end
/-- a call that lets nothing out, whatever the program -/
def CXs : CXT := fun outer H s E u s' => ∃ P w, L2.CX P w outer H s E u s'
theorem cxs_none (H : Hp) (s : Shared) (e : Value) (s' : Shared) : CXs [] H s (fun _ _ _ => False) e s' → False := fun ⟨_, _, _, _, _, _, _, _, _, _, _, _, _, _, z⟩ => z
theorem FnOk.cxs {P : Program} {w : World} {K : PySem.W.Frag} {mg : Str → Option Value} {base : Heap} {k : Nat} {f : Addr} {fd : FuncData} {ps : List Str} {sp : Sp} (F : FnOk P w K mg base (L2.CX P w) k f fd ps sp) : FnOk P w K mg base CXs k f fd ps sp :=
  ⟨F.len, fun A outer s H args us vs Q E hr he hb hv hs => codeAny_mono (F.run A outer s H args us vs Q E hr he hb hv hs) fun r s' q => by
    cases r with
    | error e => exact ⟨P, w, q⟩
    | ok fl => cases fl <;> exact q⟩
/-- the law's own spec: whatever the script -/
def φLaw (n : Nat) : Spec := fun xs S R _ => ∃ ns : List Int, xs = [.scr (ns.map .int)] ∧ ns.length ≤ n ∧ S = (fun _ => none) ∧ ∀ S', R (.bl true) S'
theorem law_sp {K : PySem.W.Frag} {H : Hp} {a : Addr} {ns : List Int} {n : Nat} (hn : n ≤ sizeLine) (hl : ns.length ≤ n) (hS : SqL K H a (ns.map V.int)) : spOf K (φLaw n) [.ref a] H (fun v _ => v = .bl true) fun _ _ _ => False := by
  refine ⟨[.scr (ns.map .int)], fun _ => none, fun x _ => x = .bl true, fun _ _ => False, .cons ?_ .nil, fun _ _ e => (by cases e), ⟨ns, rfl, hl, rfl, fun _ => rfl⟩, fun x S' v H' e _ _ r => ?_, fun _ _ _ _ _ z => z.elim⟩
  · rcases hS with h | h
    · exact .scr h rfl (by simpa using Nat.le_trans hl hn) (repL_ints ns)
    · exact .scrK h (by simpa using Nat.le_trans hl hn) (repL_ints ns)
  · subst e; cases r; rfl
end SB
end

section
set_option Elab.async false
set_option linter.all false
set_option maxRecDepth 100000
set_option autoImplicit false
/-! SB14: the rules as the printed walks use them. -/
namespace SB
open PySem PySem.Spec L2
section
variable {X : Cx} {F : Fr} {pos p p2 q apos : Pos} {a b c e e2 o : Expr} {es rest : List Expr} {wa wb wc we wo : WpE} {was : WpA} {k : Nat} {x : Str}
theorem _root_.L2.Room.u65 {A : Around} {k : Nat} (r : Room k A) : A.units + 65 < cLine := by have := r.un; omega
theorem u64 {n : Nat} (r : n + 65 < cLine) : n + 64 < cLine := by omega
theorem u1 {n : Nat} (r : n + 65 < cLine) : n + 1 < cLine := by omega
/-! comparisons -/
abbrev cmpLt (i j : Int) : Bool := decide (i < j)
abbrev cmpLe (i j : Int) : Bool := decide (i ≤ j)
abbrev cmpGt (i j : Int) : Bool := decide (i > j)
abbrev cmpGe (i j : Int) : Bool := decide (i ≥ j)
theorem o_eq (r : X.A.units + 65 < cLine) : OpR X (compareOp .Eq) (rEqD X.K) := op_eqD (u64 r)
theorem o_ne (r : X.A.units + 65 < cLine) : OpR X (compareOp .NotEq) (rNeD X.K) := op_neD (u64 r)
theorem o_in (r : X.A.units + 65 < cLine) : OpR X (compareOp .In) (fun x y H Q => rDin false x y H Q ∨ rSgn false x y H Q ∨ rInDn X.K false x y H Q ∨ rIn X.K false x y H Q) :=
  (op_din (u1 r)).or (op_in_sign.or ((op_inD r).or op_in_seq))
theorem o_nin (r : X.A.units + 65 < cLine) : OpR X (compareOp .NotIn) (fun x y H Q => rDin true x y H Q ∨ rSgn true x y H Q ∨ rInDn X.K true x y H Q ∨ rIn X.K true x y H Q) :=
  (op_dnotin (u1 r)).or (op_notIn_sign.or ((op_notInD r).or op_notIn_seq))
theorem o_is : OpR X (compareOp .Is) (fun x y H Q => (y = .non ∧ Q (.bl (decide (x = .non))) H) ∨ rIsB x y H Q) := op_isN.or op_isBl
theorem o_isn : OpR X (compareOp .IsNot) (fun x y H Q => (y = .non ∧ Q (.bl (!decide (x = .non))) H) ∨ rNotB x y H Q) := op_notN.or op_notBl
theorem e_eq (r : X.A.units + 65 < cLine) (ha : WE X F a wa) (hb : WE X F b wb) (hm : behindInMarks .Eq b = false) : WE X F (.Compare a [.Eq] [b] pos) (wOp (fEq false) wa wb) := we_cmp (o_eq r) od_eq ha hb hm
theorem e_ne (r : X.A.units + 65 < cLine) (ha : WE X F a wa) (hb : WE X F b wb) (hm : behindInMarks .NotEq b = false) : WE X F (.Compare a [.NotEq] [b] pos) (wOp (fEq true) wa wb) := we_cmp (o_ne r) od_ne ha hb hm
theorem e_lt (ha : WE X F a wa) (hb : WE X F b wb) (hm : behindInMarks .Lt b = false) : WE X F (.Compare a [.Lt] [b] pos) (wOp (fCmp cmpLt) wa wb) := we_cmp op_lt od_cmp ha hb hm
theorem e_le (ha : WE X F a wa) (hb : WE X F b wb) (hm : behindInMarks .LtE b = false) : WE X F (.Compare a [.LtE] [b] pos) (wOp (fCmp cmpLe) wa wb) := we_cmp op_le od_cmp ha hb hm
theorem e_gt (ha : WE X F a wa) (hb : WE X F b wb) (hm : behindInMarks .Gt b = false) : WE X F (.Compare a [.Gt] [b] pos) (wOp (fCmp cmpGt) wa wb) := we_cmp op_gt od_cmp ha hb hm
theorem e_ge (ha : WE X F a wa) (hb : WE X F b wb) (hm : behindInMarks .GtE b = false) : WE X F (.Compare a [.GtE] [b] pos) (wOp (fCmp cmpGe) wa wb) := we_cmp op_ge od_cmp ha hb hm
theorem e_in (r : X.A.units + 65 < cLine) (ha : WE X F a wa) (hb : WE X F b wb) (hm : behindInMarks .In b = false) : WE X F (.Compare a [.In] [b] pos) (wOp (fIn false) wa wb) := we_cmp (o_in r) (od_in false) ha hb hm
theorem e_nin (r : X.A.units + 65 < cLine) (ha : WE X F a wa) (hb : WE X F b wb) (hm : behindInMarks .NotIn b = false) : WE X F (.Compare a [.NotIn] [b] pos) (wOp (fIn true) wa wb) := we_cmp (o_nin r) (od_in true) ha hb hm
theorem e_is (ha : WE X F a wa) (hb : WE X F b wb) (hm : behindInMarks .Is b = false) : WE X F (.Compare a [.Is] [b] pos) (wOp (fIs false) wa wb) := we_cmp o_is od_is ha hb hm
theorem e_isn (ha : WE X F a wa) (hb : WE X F b wb) (hm : behindInMarks .IsNot b = false) : WE X F (.Compare a [.IsNot] [b] pos) (wOp (fIs true) wa wb) := we_cmp o_isn od_isnot ha hb hm
theorem t_eq (r : X.A.units + 65 < cLine) (ha : WE X F a wa) (hb : WE X F b wb) (hm : behindInMarks .Eq b = false) : WT X F (.Compare a [.Eq] [b] pos) (wB (wOp (fEq false) wa wb)) := wt_cmp (o_eq r) od_eq ha hb hm
theorem t_ne (r : X.A.units + 65 < cLine) (ha : WE X F a wa) (hb : WE X F b wb) (hm : behindInMarks .NotEq b = false) : WT X F (.Compare a [.NotEq] [b] pos) (wB (wOp (fEq true) wa wb)) := wt_cmp (o_ne r) od_ne ha hb hm
theorem t_lt (ha : WE X F a wa) (hb : WE X F b wb) (hm : behindInMarks .Lt b = false) : WT X F (.Compare a [.Lt] [b] pos) (wB (wOp (fCmp cmpLt) wa wb)) := wt_cmp op_lt od_cmp ha hb hm
theorem t_le (ha : WE X F a wa) (hb : WE X F b wb) (hm : behindInMarks .LtE b = false) : WT X F (.Compare a [.LtE] [b] pos) (wB (wOp (fCmp cmpLe) wa wb)) := wt_cmp op_le od_cmp ha hb hm
theorem t_gt (ha : WE X F a wa) (hb : WE X F b wb) (hm : behindInMarks .Gt b = false) : WT X F (.Compare a [.Gt] [b] pos) (wB (wOp (fCmp cmpGt) wa wb)) := wt_cmp op_gt od_cmp ha hb hm
theorem t_ge (ha : WE X F a wa) (hb : WE X F b wb) (hm : behindInMarks .GtE b = false) : WT X F (.Compare a [.GtE] [b] pos) (wB (wOp (fCmp cmpGe) wa wb)) := wt_cmp op_ge od_cmp ha hb hm
theorem t_in (r : X.A.units + 65 < cLine) (ha : WE X F a wa) (hb : WE X F b wb) (hm : behindInMarks .In b = false) : WT X F (.Compare a [.In] [b] pos) (wB (wOp (fIn false) wa wb)) := wt_cmp (o_in r) (od_in false) ha hb hm
theorem t_nin (r : X.A.units + 65 < cLine) (ha : WE X F a wa) (hb : WE X F b wb) (hm : behindInMarks .NotIn b = false) : WT X F (.Compare a [.NotIn] [b] pos) (wB (wOp (fIn true) wa wb)) := wt_cmp (o_nin r) (od_in true) ha hb hm
theorem t_is (ha : WE X F a wa) (hb : WE X F b wb) (hm : behindInMarks .Is b = false) : WT X F (.Compare a [.Is] [b] pos) (wB (wOp (fIs false) wa wb)) := wt_cmp o_is od_is ha hb hm
theorem t_isn (ha : WE X F a wa) (hb : WE X F b wb) (hm : behindInMarks .IsNot b = false) : WT X F (.Compare a [.IsNot] [b] pos) (wB (wOp (fIs true) wa wb)) := wt_cmp o_isn od_isnot ha hb hm
/-! built-in functions -/
variable (hg : Gl X x) (hm : X.mg x = none)
theorem bt_len : bootBuiltins "len" = some (.builtin "len") := by decide +kernel
theorem bt_sum : bootBuiltins "sum" = some (.builtin "sum") := by decide +kernel
theorem bt_all : bootBuiltins "all" = some (.builtin "all") := by decide +kernel
theorem bt_any : bootBuiltins "any" = some (.builtin "any") := by decide +kernel
theorem bt_sorted : bootBuiltins "sorted" = some (.builtin "sorted") := by decide +kernel
theorem bt_min : bootBuiltins "min" = some (.builtin "min") := by decide +kernel
theorem bt_max : bootBuiltins "max" = some (.builtin "max") := by decide +kernel
theorem bt_list : bootBuiltins "list" = some (.type "list") := by decide +kernel
theorem bt_tuple : bootBuiltins "tuple" = some (.type "tuple") := by decide +kernel
theorem bt_dict : bootBuiltins "dict" = some (.type "dict") := by decide +kernel
theorem bt_int : bootBuiltins "int" = some (.type "int") := by decide +kernel
theorem bt_str : bootBuiltins "str" = some (.type "str") := by decide +kernel
theorem bt_bool : bootBuiltins "bool" = some (.type "bool") := by decide +kernel
theorem b_len (hg : Gl X "len") (hm : X.mg "len" = none) (ha : WA X F (e :: es) was) (hs : noStars (e :: es) = true) : WE X F (.Call (.Name "len" p) (e :: es) [] pos) (wFun fLen was) :=
  we_callB (call_lenRd.or call_len) cd_len hg hm bt_len ha hs (by decide) (by decide)
theorem b_sum (hc : X.calm = true) (hg : Gl X "sum") (hm : X.mg "sum" = none) (ha : WA X F (e :: es) was) (hs : noStars (e :: es) = true) : WE X F (.Call (.Name "sum" p) (e :: es) [] pos) (wFun fSum was) :=
  we_callB (cr_sumT hc) cd_sum hg hm bt_sum ha hs (by decide) (by decide)
theorem b_all (hc : X.calm = true) (hg : Gl X "all") (hm : X.mg "all" = none) (ha : WA X F (e :: es) was) (hs : noStars (e :: es) = true) : WE X F (.Call (.Name "all" p) (e :: es) [] pos) (wFun fAll was) :=
  we_callB (cr_all hc) cd_all hg hm bt_all ha hs (by decide) (by decide)
theorem b_any (hc : X.calm = true) (hg : Gl X "any") (hm : X.mg "any" = none) (ha : WA X F (e :: es) was) (hs : noStars (e :: es) = true) : WE X F (.Call (.Name "any" p) (e :: es) [] pos) (wFun fAny was) :=
  we_callB (cr_any hc) cd_any hg hm bt_any ha hs (by decide) (by decide)
theorem b_sorted {own : Bool} (hc : X.calm = true) (hg : Gl X "sorted") (hm : X.mg "sorted" = none) (ha : WA X F (e :: es) was) (hs : noStars (e :: es) = true) : WE X F (.Call (.Name "sorted" p) (e :: es) [] pos) (wFun (fSorted own) was) :=
  we_callB (cr_sortedI.or (call_sortedDI hc)) cd_sorted hg hm bt_sorted ha hs (by decide) (by decide)
theorem b_min (hc : X.calm = true) (hg : Gl X "min") (hm : X.mg "min" = none) (ha : WA X F (e :: es) was) (hs : noStars (e :: es) = true) : WE X F (.Call (.Name "min" p) (e :: es) [] pos) (wFun fMin was) :=
  we_callB ((call_min2 hc).or (cr_minT hc)) cd_min hg hm bt_min ha hs (by decide) (by decide)
theorem b_max (hc : X.calm = true) (hg : Gl X "max") (hm : X.mg "max" = none) (ha : WA X F (e :: es) was) (hs : noStars (e :: es) = true) : WE X F (.Call (.Name "max" p) (e :: es) [] pos) (wFun fMax was) :=
  we_callB ((call_max2 hc).or (cr_max hc)) cd_max hg hm bt_max ha hs (by decide) (by decide)
theorem b_list {own : Bool} (hc : X.calm = true) (hg : Gl X "list") (hm : X.mg "list" = none) (ha : WA X F (e :: es) was) (hs : noStars (e :: es) = true) : WE X F (.Call (.Name "list" p) (e :: es) [] pos) (wFun (fList own) was) :=
  we_callTy ((call_listD hc).or call_list_of) cd_list hg hm bt_list ha hs (by decide) (by decide)
theorem b_tuple (hg : Gl X "tuple") (hm : X.mg "tuple" = none) (ha : WA X F (e :: es) was) (hs : noStars (e :: es) = true) : WE X F (.Call (.Name "tuple" p) (e :: es) [] pos) (wFun fTuple was) :=
  we_callTy call_tuple_of cd_tuple hg hm bt_tuple ha hs (by decide) (by decide)
theorem b_dict {own : Bool} (hc : X.calm = true) (hg : Gl X "dict") (hm : X.mg "dict" = none) (ha : WA X F (e :: es) was) (hs : noStars (e :: es) = true) : WE X F (.Call (.Name "dict" p) (e :: es) [] pos) (wFun (fDict own) was) :=
  we_callTy (call_dictD.or (call_dictP hc)) cd_dict hg hm bt_dict ha hs (by decide) (by decide)
theorem b_int (hg : Gl X "int") (hm : X.mg "int" = none) (ha : WA X F (e :: es) was) (hs : noStars (e :: es) = true) : WE X F (.Call (.Name "int" p) (e :: es) [] pos) (wFun fInt was) :=
  we_callTy (call_int1.or call_int_str) cd_int hg hm bt_int ha hs (by decide) (by decide)
theorem b_str (hg : Gl X "str") (hm : X.mg "str" = none) (ha : WA X F (e :: es) was) (hs : noStars (e :: es) = true) : WE X F (.Call (.Name "str" p) (e :: es) [] pos) (wFun fStr was) :=
  we_callTy (call_str_int.or SkE.call_str_str) cd_str hg hm bt_str ha hs (by decide) (by decide)
theorem b_isTy {T : String} (hT : T ∈ tyBs) (he : WE X F e we) (hn : noStar e = true) (hg : Gl X "isinstance") (hm : X.mg "isinstance" = none) (hg2 : Gl X x) (hm2 : X.mg x = none) (hv : bootBuiltins x = some (.type T)) (hx : x ≠ "__name__") (hdb : (x == ("__debug__" : Str)) = false) :
    WE X F (.Call (.Name "isinstance" p) [e, .Name x p2] [] pos) (wIsTy T we) := we_isTy hT he hn hg hm hg2 hm2 hv hx hdb
/-! methods -/
variable (hb : baseOk o = true) (hl : (e :: es).length < 29) (hline : (apos.endLine == pos.line) = true)
theorem m_append (ho : WE X F o wo) (ha : WA X F (e :: es) was) (hb : baseOk o = true) (hn : noStars (e :: es) = true) (hl : (e :: es).length < 29) (hline : (apos.endLine == pos.line) = true) : WE X F (.Call (.Attribute o "append" apos) (e :: es) [] pos) (wMt "list" fAppend wo was) :=
  we_bm PySem.F.plainAttrs_list PySem.F.slot_list_append PySem.F.type_list_append mt_append md_append ho ha hb hn hl hline
theorem m_extend (ho : WE X F o wo) (ha : WA X F (e :: es) was) (hb : baseOk o = true) (hn : noStars (e :: es) = true) (hl : (e :: es).length < 29) (hline : (apos.endLine == pos.line) = true) : WE X F (.Call (.Attribute o "extend" apos) (e :: es) [] pos) (wMt "list" fExtend wo was) :=
  we_bm PySem.F.plainAttrs_list PySem.F.slot_list_extend PySem.F.type_list_extend mt_extend md_extend ho ha hb hn hl hline
theorem m_popL (ho : WE X F o wo) (ha : WA X F (e :: es) was) (hb : baseOk o = true) (hn : noStars (e :: es) = true) (hl : (e :: es).length < 29) (hline : (apos.endLine == pos.line) = true) : WE X F (.Call (.Attribute o "pop" apos) (e :: es) [] pos) (wMt "list" fPop wo was) :=
  we_bm PySem.F.plainAttrs_list PySem.F.slot_list_pop PySem.F.type_list_pop mt_popAt md_pop ho ha hb hn hl hline
theorem m_insert (ho : WE X F o wo) (ha : WA X F (e :: es) was) (hb : baseOk o = true) (hn : noStars (e :: es) = true) (hl : (e :: es).length < 29) (hline : (apos.endLine == pos.line) = true) : WE X F (.Call (.Attribute o "insert" apos) (e :: es) [] pos) (wMt "list" fInsert wo was) :=
  we_bm PySem.F.plainAttrs_list PySem.F.slot_list_insert PySem.F.type_list_insert mt_insert md_insert ho ha hb hn hl hline
theorem m_clearL (ho : WE X F o wo) (hb : baseOk o = true) (hline : (apos.endLine == pos.line) = true) : WE X F (.Call (.Attribute o "clear" apos) [] [] pos) (wMt "list" fClearL wo wNil) :=
  we_bm0 PySem.F.plainAttrs_list PySem.F.slot_list_clear PySem.F.type_list_clear mt_clear md_clearL ho hb hline
theorem m_count (r : X.A.units + 65 < cLine) (ho : WE X F o wo) (ha : WA X F (e :: es) was) (hb : baseOk o = true) (hn : noStars (e :: es) = true) (hl : (e :: es).length < 29) (hline : (apos.endLine == pos.line) = true) : WE X F (.Call (.Attribute o "count" apos) (e :: es) [] pos) (wMt "list" fCount wo was) :=
  we_bm PySem.F.plainAttrs_list PySem.F.slot_list_count PySem.F.type_list_count (mt_countD r) md_count ho ha hb hn hl hline
theorem m_index (r : X.A.units + 65 < cLine) (ho : WE X F o wo) (ha : WA X F (e :: es) was) (hb : baseOk o = true) (hn : noStars (e :: es) = true) (hl : (e :: es).length < 29) (hline : (apos.endLine == pos.line) = true) : WE X F (.Call (.Attribute o "index" apos) (e :: es) [] pos) (wMt "list" fIndex wo was) :=
  we_bm PySem.F.plainAttrs_list PySem.F.slot_list_index PySem.F.type_list_index (mt_indexD r) md_index ho ha hb hn hl hline
theorem m_get (r : X.A.units + 65 < cLine) (ho : WE X F o wo) (ha : WA X F (e :: es) was) (hb : baseOk o = true) (hn : noStars (e :: es) = true) (hl : (e :: es).length < 29) (hline : (apos.endLine == pos.line) = true) : WE X F (.Call (.Attribute o "get" apos) (e :: es) [] pos) (wMt "dict" fGet wo was) :=
  we_bm PySem.F.plainAttrs_dict PySem.F.slot_dict_get PySem.F.type_dict_get (mt_get2 (u1 r)) md_get ho ha hb hn hl hline
theorem m_setd (ho : WE X F o wo) (ha : WA X F (e :: es) was) (hb : baseOk o = true) (hn : noStars (e :: es) = true) (hl : (e :: es).length < 29) (hline : (apos.endLine == pos.line) = true) : WE X F (.Call (.Attribute o "setdefault" apos) (e :: es) [] pos) (wMt "dict" fSetd wo was) :=
  we_bm PySem.F.plainAttrs_dict PySem.F.slot_dict_setdefault PySem.F.type_dict_setdefault mt_setd md_setd ho ha hb hn hl hline
theorem m_popD (ho : WE X F o wo) (ha : WA X F (e :: es) was) (hb : baseOk o = true) (hn : noStars (e :: es) = true) (hl : (e :: es).length < 29) (hline : (apos.endLine == pos.line) = true) : WE X F (.Call (.Attribute o "pop" apos) (e :: es) [] pos) (wMt "dict" fPopD wo was) :=
  we_bm PySem.F.plainAttrs_dict PySem.F.slot_dict_pop PySem.F.type_dict_pop mt_popD md_popD ho ha hb hn hl hline
theorem m_update (ho : WE X F o wo) (ha : WA X F (e :: es) was) (hb : baseOk o = true) (hn : noStars (e :: es) = true) (hl : (e :: es).length < 29) (hline : (apos.endLine == pos.line) = true) : WE X F (.Call (.Attribute o "update" apos) (e :: es) [] pos) (wMt "dict" fUpdate wo was) :=
  we_bm PySem.F.plainAttrs_dict PySem.F.slot_dict_update PySem.F.type_dict_update mt_update md_update ho ha hb hn hl hline
theorem m_split {own : Bool} (ho : WE X F o wo) (ha : WA X F (e :: es) was) (hb : baseOk o = true) (hn : noStars (e :: es) = true) (hl : (e :: es).length < 29) (hline : (apos.endLine == pos.line) = true) : WE X F (.Call (.Attribute o "split" apos) (e :: es) [] pos) (wMt "str" (fSplit own) wo was) :=
  we_bm PySem.F.plainAttrs_str PySem.F.slot_str_split PySem.F.type_str_split mt_split md_split ho ha hb hn hl hline
theorem m_join (ho : WE X F o wo) (ha : WA X F (e :: es) was) (hb : baseOk o = true) (hn : noStars (e :: es) = true) (hl : (e :: es).length < 29) (hline : (apos.endLine == pos.line) = true) : WE X F (.Call (.Attribute o "join" apos) (e :: es) [] pos) (wMt "str" fJoin wo was) :=
  we_bm PySem.F.plainAttrs_str PySem.F.slot_str_join PySem.F.type_str_join mt_join md_join ho ha hb hn hl hline
/-- len(set(l)), l unlike numbers -/
def wLenSet (we : WpE) : WpE := fun ς S R RE => we ς S (fun x S1 => ∃ l ns, contOf S1 x = .l l ∧ intL l = some ns ∧ ns.Nodup ∧ ns.length ≤ 4000 ∧ R (.int (ns.length : Nat)) S1) RE
theorem b_lenSet (hc : X.calm = true) (hg : Gl X "len") (hm : X.mg "len" = none) (hg2 : Gl X "set") (hm2 : X.mg "set" = none) (ha : WE X F a wa) (hn : noStar a = true) : WE X F (.Call (.Name "len" p) [.Call (.Name "set" p2) [a] [] q] [] pos) (wLenSet wa) :=
  (RZ.pe_lenSetI hg hm hg2 hm2 ha hc (starEach_cons (es := []) hn)).imp fun σ H Q ⟨ς, S, R, g, k, hw, hR⟩ => by
    refine tE.mk g k hw fun x S1 v H1 h1 g1 k1 d1 r1 => ?_
    obtain ⟨l, ns, e1, e2, h2, h3, h1⟩ := h1
    obtain ⟨a, vs, rfl, hq, rl, _⟩ := lstSq_rep r1 g1.rel e1
    rw [intL_eq e2] at rl
    rw [rl.ints] at hq
    exact ⟨a, ns, rfl, hq, h2, h3, hR _ S1 _ H1 h1 g1.rel d1 (.int _)⟩
end
end SB
end

section
set_option Elab.async false
set_option linter.all false
set_option maxRecDepth 100000
set_option autoImplicit false
/-! SB15: tables of the text; the facts that the head tells. -/
namespace SB
open PySem PySem.Spec L2
/-! ### a written dict with text keys -/
def lookS (z : Str) : List (Str × He.Dv) → Option He.Dv
  | [] => none
  | (k, d) :: r => if k = z then some d else lookS z r
def entB (K : PySem.W.Frag) : List (Str × He.Dv) → List DictEntry → Bool
  | [], [] => true
  | (k, d) :: r, e :: es => (match e.key with
    | .str x _ => decide (x = k)
    | _ => false) && (He.relB (d.v K) e.val && entB K r es)
  | _, _ => false
def tabB (K : PySem.W.Frag) (x : Str) (tab : List (Str × He.Dv)) : Bool := match K.lookup (He.ga K x) with
  | some ⟨_, _, .dict es _, _⟩ => entB K tab es.toList
  | _ => false
theorem entB_ok {K : PySem.W.Frag} (z : Str) : ∀ {tab : List (Str × He.Dv)} {es : List DictEntry}, entB K tab es = true → match lookS z tab with
    | some d => ∃ e, es.find? (fun e => e.key.isStr z) = some e ∧ RelV (d.v K) e.val
    | none => es.find? (fun e => e.key.isStr z) = none ∧ es.any (·.refKey) = false
  | [], [], _ => ⟨rfl, rfl⟩
  | [], _ :: _, h => by cases h
  | _ :: _, [], h => by cases h
  | (k, d) :: r, e :: es, h => by
    simp only [entB, Bool.and_eq_true] at h
    obtain ⟨h1, h2, h3⟩ := h
    have ih := entB_ok z h3
    cases hk : e.key with
    | str x t =>
      rw [hk] at h1
      have hx : x = k := of_decide_eq_true h1
      subst hx
      unfold lookS
      by_cases hz : x = z
      · rw [if_pos hz]
        refine ⟨e, ?_, He.relB_ok h2⟩
        rw [List.find?_cons_of_pos]
        rw [hk]
        subst hz
        simp [Value.isStr]
      · rw [if_neg hz]
        have hs : (e.key.isStr z) = false := by
          rw [hk]
          simp [Value.isStr, hz]
        rw [List.find?_cons_of_neg (by rw [hs]; decide)]
        cases hl : lookS z r with
        | some d' => rw [hl] at ih; exact ih
        | none =>
          rw [hl] at ih
          refine ⟨ih.1, ?_⟩
          rw [List.any_cons, ih.2]
          simp [DictEntry.refKey, hk]
    | _ => rw [hk] at h1; cases h1
theorem tabB_ok {K : PySem.W.Frag} {x : Str} {tab : List (Str × He.Dv)} (h : tabB K x tab = true) (z : Str) : match lookS z tab with
    | some d => ∃ u, PySem.W.nsIn K (He.ga K x) z = some (some u) ∧ RelV (d.v K) u
    | none => PySem.W.nsIn K (He.ga K x) z = some none := by
  unfold tabB at h
  split at h
  · rename_i es n sl hl
    have q := entB_ok z h
    unfold PySem.W.nsIn
    rw [hl]
    dsimp only
    cases e : lookS z tab with
    | some d =>
      rw [e] at q
      obtain ⟨en, h1, h2⟩ := q
      dsimp only
      rw [h1]
      exact ⟨en.val, rfl, h2⟩
    | none =>
      rw [e] at q
      dsimp only
      rw [q.1, q.2]
      rfl
  · cases h
/-- the same, of a world: its hashes stand -/
structure KTab (K : PySem.W.Frag) (w : World) (x : Str) (tab : List (Str × He.Dv)) : Prop where
  at_ : ∃ es n, KDict K w (He.ga K x) es n
  b : tabB K x tab = true
/-- a written value that is no object -/
def dvD : He.Dv → Option D
  | .non => some .non
  | .bl b => some (.bl b)
  | .int i => some (.int i)
  | .str x => some (.str x)
  | _ => none
theorem dvD_rep {K : PySem.W.Frag} {S : Sto} {H : Hp} {v : He.Dv} {d : D} (h : dvD v = some d) : Rep K S H d (v.v K) := by
  cases v with
  | non => cases h; exact .non
  | bl b => cases h; exact .bl b
  | int i => cases h; exact .int i
  | str x => cases h; exact .str x
  | _ => cases h
/-- T.get(k, d), T such a dict -/
def wKGet (tab : List (Str × He.Dv)) (wa : WpA) : WpE := fun ς S R RE => wa ς S (fun xs S1 => ∃ z y, xs = [.str z, y] ∧ match lookS z tab with
  | some v => ∃ d, dvD v = some d ∧ R d S1
  | none => R y S1) RE
section
variable {X : Cx} {F : Fr} {pos p q apos cpos : Pos} {e e2 : Expr} {wa : WpA} {x : Str} {tab : List (Str × He.Dv)}
theorem b_kget (kt : KTab X.K X.w x tab) (hg : Gl X x) (hm : X.mg x = some (.ref (He.ga X.K x))) (hdb : (x == ("__debug__" : Str)) = false) (ha : WA X F [e, e2] wa) (hn : noStars [e, e2] = true) (hline : (apos.endLine == cpos.line) = true) :
    WE X F (.Call (.Attribute (.Name x p) "get" apos) [e, e2] [] cpos) (wKGet tab wa) := by
  refine ⟨fun pins s σ H Q I h => ?_⟩
  obtain ⟨ς, S, R, g, k, hw, hR⟩ := h
  obtain ⟨es, n, D⟩ := kt.at_
  refine wpAny_Call_method_late (attrBase rfl) (back_few hn (by show 2 < 29; decide)) hline rfl (ld_glob I hg hm ?_ hdb)
  have M := PySem.W.mapOf_K (prog := X.prog) (w := X.w) I.kIn D.at_ D.lit
  refine ⟨"dict", "dict.get", PySem.F.plainAttrs_dict, PySem.F.slot_dict_get, PySem.F.type_dict_get, M.typeIs, M.noDict, ?_⟩
  have hA := ha.run cpos pins s σ H (fun vs H1 => ∃ S1 z y u, Rel X.K S1 H1 ∧ Keep X.K S H S1 H1 ∧ vs = [.str z, u] ∧ Rep X.K S1 H1 y u ∧ match lookS z tab with
    | some v => ∃ d, dvD v = some d ∧ R d S1
    | none => R y S1) I (tA.mk g k hw fun xs S1 vs H1 h1 g1 k1 d1 r1 => by
      obtain ⟨z, y, rfl, h1⟩ := h1
      obtain ⟨v, u, rfl, r, r'⟩ := r1.two
      cases r
      exact ⟨S1, z, y, u, g1.rel, d1, rfl, r', h1⟩)
  have hn' : noStar e = true ∧ noStars [e2] = true := by simpa [noStars] using hn
  have hs := starEach_cons (es := [e2]) (env := X.env) hn'.1
  rw [hs] at hA ⊢
  refine Calls.callWith_builtin (by show (false || (backTo cpos (starEach [e2] X.env)).any (·.1)) = false; rw [back_any hn'.2] <;> rfl) (Calls.evalArgs_plain ?_)
  refine thn hA fun us s2 ⟨vs, H2, I2, r2, S1, z, y, u, rl, d1, ev, ry, h1⟩ => ?_
  subst ev
  obtain ⟨zu, yu, rfl, rz, ru⟩ := r2.two
  obtain ⟨t, rfl⟩ := rz
  have M2 := PySem.W.mapOf_K (prog := X.prog) (w := X.w) I2.kIn D.at_ D.lit
  refine call_meetsIn PySem.F.slot_dict_get M2.typeIs PySem.F.entry_dict_get (PySem.F.args_dict_get_3 _ _ _) (meets_dict_get_default (strKind X.prog X.w) (He.ga X.K x) (PySem.strKind_is X.prog X.w z t) D.low yu) ⟨_, M2, ?_⟩
  have nb := tabB_ok kt.b z
  cases hl : lookS z tab with
  | none =>
    rw [hl] at nb h1
    rw [PySem.W.find_K D.at_ nb]
    exact ⟨u, H2, I2.tok _, ru, hR _ S1 _ H2 h1 rl d1 ry⟩
  | some v =>
    rw [hl] at nb h1
    obtain ⟨w, e1, e2⟩ := nb
    obtain ⟨d, hd, h1⟩ := h1
    rw [PySem.W.find_K D.at_ e1]
    exact ⟨v.v X.K, H2, I2.tok _, e2, hR _ S1 _ H2 h1 rl d1 (dvD_rep hd)⟩
end

/-! ### the facts -/
def kitB2 (K : PySem.W.Frag) (sub : String → String → Bool) (cs : List String) : Bool := cs.all fun c => cs.all fun C => decide (PySem.W.kitOne K (.ref (clA K c)) (.ref (clA K C)) = some (sub c C))
def exmB (K : PySem.W.Frag) (cs : List String) : Bool := cs.all fun c => cs.all fun C => decide (PySem.W.exmOne K (.ref (clA K c)) (.ref (clA K C)) = some (subB c C))
def excB1 (K : PySem.W.Frag) (c : String) : Bool :=
  He.eqO (PySem.W.findIn K (.ref (clA K c)) "__getattribute__") (some (some (.builtin "BaseException.__getattribute__"))) && (He.eqO (PySem.W.findIn K (.ref (clA K c)) "__getattr__") (some none) &&
  (decide (PySem.W.subIn K (.ref (clA K c)) (.type "BaseException") = some true) && (PySem.W.hasDictIn K (clA K c) && (He.eqO (PySem.W.findIn K (.ref (clA K c)) "__class__") (some (some (.builtin "object.__class__"))) && decide (PySem.W.mroIn K (clA K c) (.type "object") = some true)))))
def getsetB (K : PySem.W.Frag) : Bool := decide (PySem.W.specialIn K (.builtin "object.__class__") "__get__" = some (some (.builtin "getset_descriptor.__get__"))) && decide (PySem.W.takesIn K (.builtin "object.__class__") = some true)
def clsB1 (K : PySem.W.Frag) (c : String) : Bool := He.eqO (PySem.W.findIn K (.ref (clA K c)) "__class__") (some (some (.builtin "object.__class__"))) && decide (PySem.W.mroIn K (clA K c) (.type "object") = some true)
theorem excT_of {K : PySem.W.Frag} {cs : List String} (h : exmB K cs = true) : ExcT K cs := ⟨fun c hc C hC => of_decide_eq_true (List.all_eq_true.mp (List.all_eq_true.mp h c hc) C hC)⟩
theorem excK_of {K : PySem.W.Frag} {cs : List String} (h : kitB2 K subB cs = true) (h1 : cs.all (excB1 K) = true) (h2 : getsetB K = true) : ExcK K cs where
  cl := fun c hc => by
    have q := List.all_eq_true.mp h1 c hc
    obtain ⟨q1, q⟩ := He.ba q
    obtain ⟨q2, q⟩ := He.ba q
    obtain ⟨q3, q⟩ := He.ba q
    obtain ⟨q4, q⟩ := He.ba q
    obtain ⟨q5, q6⟩ := He.ba q
    obtain ⟨z1, z2⟩ := He.ba h2
    exact ⟨He.eqO_ok q1, He.eqO_ok q2, of_decide_eq_true q3, q4, He.eqO_ok q5, of_decide_eq_true z1, of_decide_eq_true z2, of_decide_eq_true q6⟩
  kit := fun c hc C hC => of_decide_eq_true (List.all_eq_true.mp (List.all_eq_true.mp h c hc) C hC)
theorem clsK_of {K : PySem.W.Frag} {cs : List String} {sub : String → String → Bool} (h : kitB2 K sub cs = true) (h1 : cs.all (clsB1 K) = true) (h2 : getsetB K = true) : ClsK K cs sub where
  ha := fun c hc => He.eqO_ok (He.ba (List.all_eq_true.mp h1 c hc)).1
  hn := of_decide_eq_true (He.ba h2).1
  htk := of_decide_eq_true (He.ba h2).2
  hm := fun c hc => of_decide_eq_true (He.ba (List.all_eq_true.mp h1 c hc)).2
  kit := fun c hc C hC => of_decide_eq_true (List.all_eq_true.mp (List.all_eq_true.mp h c hc) C hC)
theorem exOk_of {K : PySem.W.Frag} {c : String} (h : (He.Fa.exc (Str.ofString c)).ok K = true) : ExOk K c := by
  obtain ⟨h1, h2, h3, h4⟩ := He.exc_ok h
  exact ⟨h1, h2, h3, h4⟩
/-! methods' tables -/
section
variable {P : Program} {w : World} {K : PySem.W.Frag} {mg : Str → Option Value} {base : Heap} {k : Nat} {m : Str}
theorem mts_nil : ∀ (c : String) (nd : Nat × List D × Spec), ([] : List (String × Nat × List D × Spec)).lookup c = some nd → MtBd P w K mg base k (clA K c) m nd.1 nd.2.1 nd.2.2 := fun c nd h => by cases h
theorem mts_cons {c0 : String} {n : Nat} {dds : List D} {φ : Spec} {cs : List (String × Nat × List D × Spec)} (h : MtBd P w K mg base k (clA K c0) m n dds φ) (r : ∀ c nd, cs.lookup c = some nd → MtBd P w K mg base k (clA K c) m nd.1 nd.2.1 nd.2.2) :
    ∀ c nd, ((c0, n, dds, φ) :: cs).lookup c = some nd → MtBd P w K mg base k (clA K c) m nd.1 nd.2.1 nd.2.2 := fun c nd e => by
  rw [List.lookup_cons] at e
  by_cases hc : c == c0
  · rw [hc] at e
    cases e
    rw [beq_iff_eq.mp hc]
    exact h
  · rw [Bool.eq_false_iff.mpr hc] at e
    exact r c nd e
end
end SB
end

section
set_option Elab.async false
set_option linter.all false
set_option maxRecDepth 100000
set_option autoImplicit false
/-! SB16: the wishes unfolded; plain data; for the laws' own part. -/
namespace SB
open PySem PySem.Spec L2
section
variable {ς : En} {S : Sto} {R : Pd} {RE : Px} {E : ES} {XE : PxE} {wa wb wc we wo wi' : WpE} {was wr : WpA} {a b u : WpS} {wt : WpT}
@[simp] theorem s_var {i : Nat} : wVar i ς S R RE = ∃ x, ς[i]? = some (some x) ∧ R x S := rfl
@[simp] theorem s_c {d : D} : wC d ς S R RE = R d S := rfl
@[simp] theorem s_op {f : D → D → Sto → Pd → Prop} : wOp f wa wb ς S R RE = wa ς S (fun x S1 => wb ς S1 (fun y S2 => f x y S2 R) RE) RE := rfl
@[simp] theorem s_un {f : D → Sto → Pd → Prop} : wUn f wa ς S R RE = wa ς S (fun x S1 => f x S1 R) RE := rfl
@[simp] theorem s_B {R : Bool → Sto → Prop} : wB we ς S R RE = we ς S (fun x S1 => ∃ b, x = .bl b ∧ R b S1) RE := rfl
@[simp] theorem s_and : wAnd wa wb ς S R RE = wa ς S (fun x S1 => ∃ b, x = .bl b ∧ if b = true then wb ς S1 R RE else R (.bl false) S1) RE := rfl
@[simp] theorem s_or : wOr wa wb ς S R RE = wa ς S (fun x S1 => ∃ b, x = .bl b ∧ if b = true then R (.bl true) S1 else wb ς S1 R RE) RE := rfl
@[simp] theorem s_not : wNot wa ς S R RE = wa ς S (fun x S1 => ∃ b, x = .bl b ∧ R (.bl (!b)) S1) RE := rfl
@[simp] theorem s_ite : wIte wc wa wb ς S R RE = wc ς S (fun x S1 => ∃ b, x = .bl b ∧ if b = true then wa ς S1 R RE else wb ς S1 R RE) RE := rfl
@[simp] theorem s_chain {f f' : D → D → Sto → Pd → Prop} : wChain f f' wa wb wc ς S R RE = wa ς S (fun x S1 => wb ς S1 (fun y S2 => f x y S2 fun z S3 => ∃ k, z = .bl k ∧ if k = true then wc ς S3 (fun v S4 => f' y v S4 R) RE else R (.bl false) S3) RE) RE := rfl
@[simp] theorem s_nil {R : List D → Sto → Prop} : wNil ς S R RE = R [] S := rfl
@[simp] theorem s_cons {R : List D → Sto → Prop} : wCons wa wr ς S R RE = wa ς S (fun x S1 => wr ς S1 (fun xs S2 => R (x :: xs) S2) RE) RE := rfl
@[simp] theorem s_tup : wTup was ς S R RE = was ς S (fun xs S1 => xs.length ≤ sizeLine ∧ R (.tup xs) S1) RE := rfl
@[simp] theorem s_lst {own : Bool} : wLst own was ς S R RE = was ς S (fun xs S1 => mkL own xs S1 R) RE := rfl
/-- an attribute's value -/
def fget (f : String) (x : D) (S : Sto) (R : Pd) : Prop := ∃ c fs v, insOf S x = some (c, fs) ∧ look f fs = some v ∧ R v S
@[simp] theorem s_fld {f : String} : wFld f wa ς S R RE = wa ς S (fun x S1 => fget f x S1 R) RE := rfl
@[simp] theorem s_call {φ : Spec} {dds : List D} : wCall φ dds was ς S R RE = was ς S (fun xs S1 => φ (xs ++ dds) S1 R RE) RE := rfl
@[simp] theorem s_fun {f : List D → Sto → Pd → Prop} : wFun f was ς S R RE = was ς S (fun xs S1 => f xs S1 R) RE := rfl
@[simp] theorem s_isTy {T : String} : wIsTy T we ς S R RE = we ς S (fun x S1 => ∃ t, tyD S1 x = some t ∧ R (.bl (tySub t T)) S1) RE := rfl
@[simp] theorem s_mt {T : String} {f : D → List D → Sto → Pd → Prop} : wMt T f wo was ς S R RE = wo ς S (fun x S1 => tyM T S1 x = true ∧ was ς S1 (fun xs S2 => f x xs S2 R) RE) RE := rfl
@[simp] theorem s_src {R : List D → Option (Addr × SO) → Sto → Prop} : wSrc we ς S R RE = we ς S (fun x S1 => ∃ l gd, srcOf S1 x = some (l, gd) ∧ R l gd S1) RE := rfl
@[simp] theorem s_yes {R : Bool → Sto → Prop} : wYes ς S R RE = R true S := rfl
@[simp] theorem s_seq : wSeq a b ς S E XE = a ς S { E with nx := fun ς' S' => b ς' S' E XE } XE := rfl
@[simp] theorem s_expr : wExpr we ς S E XE = we ς S (fun _ S1 => E.nx ς S1) (fun c S' => XE c ς S') := rfl
@[simp] theorem s_ret : wRet we ς S E XE = we ς S (fun x S1 => E.rt x S1) (fun c S' => XE c ς S') := rfl
@[simp] theorem s_nx : wNx ς S E XE = E.nx ς S := rfl
@[simp] theorem s_if : wIf wt a b ς S E XE = wt ς S (fun k S1 => if k = true then a ς S1 E XE else b ς S1 E XE) (fun c S' => XE c ς S') := rfl
@[simp] theorem s_set {i : Nat} : wSet i we ς S E XE = we ς S (fun x S1 => E.nx (ς.set i (some x)) S1) (fun c S' => XE c ς S') := rfl
@[simp] theorem s_asg {t : Tg} : wAsg t we ς S E XE = we ς S (fun x S1 => ∃ ς', t.bind x ς = some ς' ∧ E.nx ς' S1) (fun c S' => XE c ς S') := rfl
@[simp] theorem s_raise {c : String} : wRaise c ς S E XE = XE c ς S := rfl
@[simp] theorem s_lc {own : Bool} {wi : WpI} {t : Tg} {vs : List Nat} : wLc own wi t wt we vs ς S R RE = wi ς S (fun xs gd S1 => ∀ p, S1 p = none → lcL gd t wt we p (wipeE ς vs) xs [] (S1.set p (.lst [])) (lcEnd own p R)) RE := rfl
@[simp] theorem s_lenSet : wLenSet we ς S R RE = we ς S (fun x S1 => ∃ l ns, contOf S1 x = .l l ∧ intL l = some ns ∧ ns.Nodup ∧ ns.length ≤ 4000 ∧ R (.int (ns.length : Nat)) S1) RE := rfl
@[simp] theorem s_bindN {i : Nat} {d : D} : Tg.bind (.nm i) d ς = some (ς.set i (some d)) := rfl
@[simp] theorem s_bindT {ts : Tgs} {l : List D} : Tg.bind (.tup ts) (.tup l) ς = Tgs.bind ts l ς := rfl
@[simp] theorem s_bindNil : Tgs.bind .nil [] ς = some ς := rfl
@[simp] theorem s_bindCons {t : Tg} {ts : Tgs} {x : D} {xs : List D} : Tgs.bind (.cons t ts) (x :: xs) ς = match Tg.bind t x ς with
    | some ς1 => Tgs.bind ts xs ς1
    | none => none := rfl
end
section
variable {S : Sto} {R : Pd}
@[simp] theorem f_addI {own : Bool} {i j : Int} : fAdd own (.int i) (.int j) S R = R (.int (i + j)) S := rfl
@[simp] theorem f_addT {own : Bool} {l m : List D} : fAdd own (.tup l) (.tup m) S R = (l.length + m.length ≤ sizeLine ∧ R (.tup (l ++ m)) S) := rfl
@[simp] theorem f_addL {own : Bool} {l m : List D} : fAdd own (.lst l) (.lst m) S R = (mkL own (l ++ m) S R) := by
  unfold fAdd; simp [lstOf]
@[simp] theorem f_sub {i j : Int} : fSub (.int i) (.int j) S R = R (.int (i - j)) S := rfl
@[simp] theorem f_mul {own : Bool} {i j : Int} : fMul own (.int i) (.int j) S R = (L2.CMul i j ∧ R (.int (i * j)) S) := rfl
@[simp] theorem f_div {i j : Int} : fDiv (.int i) (.int j) S R = ((0 < j ∧ j.natAbs.log2 < 9000) ∧ R (.int (i / j)) S) := rfl
@[simp] theorem f_mod {i j : Int} : fMod (.int i) (.int j) S R = (0 < j ∧ R (.int (i % j)) S) := rfl
@[simp] theorem f_pow {i j : Int} : fPow (.int i) (.int j) S R = (L2.CPow i j ∧ R (.int (i ^ j.toNat)) S) := rfl
@[simp] theorem f_cmp {p : Int → Int → Bool} {i j : Int} : fCmp p (.int i) (.int j) S R = R (.bl (p i j)) S := rfl
@[simp] theorem f_mkL {l : List D} : mkL false l S R = (l.length ≤ sizeLine ∧ R (.lst l) S) := rfl
@[simp] theorem f_mkLo {l : List D} : mkL true l S R = (l.length ≤ sizeLine ∧ ∀ p, S p = none → R (.ref p) (S.set p (.lst l))) := rfl
@[simp] theorem f_mkD {l : List (Key × D)} : mkD false l S R = (l.length ≤ sizeLine ∧ R (.dct l) S) := rfl
@[simp] theorem f_mkDo {l : List (Key × D)} : mkD true l S R = (l.length ≤ sizeLine ∧ ∀ p, S p = none → R (.ref p) (S.set p (.dct l))) := rfl
end
@[simp] theorem Rz_now {R : Pd} {x : D} {S : Sto} (h : R x S) : Rz R x S := .now h
@[simp] theorem ex2 {α β : Type} {a : α} {b : β} {P : α → β → Prop} : (∃ l g, (a = l ∧ b = g) ∧ P l g) ↔ P a b := ⟨fun ⟨_, _, ⟨rfl, rfl⟩, h⟩ => h, fun h => ⟨a, b, ⟨rfl, rfl⟩, h⟩⟩
@[simp] theorem ex3 {α β γ : Type} {a : α} {b : β} {P : α → β → γ → Prop} : (∃ l g v, (a = l ∧ b = g) ∧ P l g v) ↔ ∃ v, P a b v := ⟨fun ⟨_, _, v, ⟨rfl, rfl⟩, h⟩ => ⟨v, h⟩, fun ⟨v, h⟩ => ⟨a, b, v, ⟨rfl, rfl⟩, h⟩⟩

/-! ### plain data without truths -/
mutual
def pl : D → Bool
  | .non => true
  | .int _ => true
  | .str x => PyData.strOk x
  | .tup l => plL l
  | .lst l => plL l
  | .bl _ => false
  | .scr _ => false
  | .dct _ => false
  | .ins _ _ => false
  | .ref _ => false
  | .exc _ => false
def plL : List D → Bool
  | [] => true
  | x :: r => pl x && plL r
end
mutual
def dp : D → Nat
  | .tup l => dpL l + 1
  | .lst l => dpL l + 1
  | .non => 0
  | .int _ => 0
  | .str _ => 0
  | .bl _ => 0
  | .scr _ => 0
  | .dct _ => 0
  | .ins _ _ => 0
  | .ref _ => 0
  | .exc _ => 0
def dpL : List D → Nat
  | [] => 0
  | x :: r => max (dp x) (dpL r)
end
mutual
theorem pl_lay : ∀ x : D, pl x = true → (pyD x).canLay0 = true ∧ (pyD x).depth = dp x
  | .non, _ => by simp [pyD, dp, PyData.canLay0, PyData.depth]
  | .int _, _ => by simp [pyD, dp, PyData.canLay0, PyData.depth]
  | .str _, h => by simp [pyD, dp, PyData.canLay0, PyData.depth]; exact h
  | .tup l, h => by
    rw [pl] at h
    have := plL_lay l h
    simp [pyD, dp, PyData.canLay0, PyData.depth, this]
  | .lst l, h => by
    rw [pl] at h
    have := plL_lay l h
    simp [pyD, dp, PyData.canLay0, PyData.depth, this]
  | .bl _, h => (Bool.false_ne_true h).elim
  | .scr _, h => (Bool.false_ne_true h).elim
  | .dct _, h => (Bool.false_ne_true h).elim
  | .ins _ _, h => (Bool.false_ne_true h).elim
  | .ref _, h => (Bool.false_ne_true h).elim
  | .exc _, h => (Bool.false_ne_true h).elim
theorem plL_lay : ∀ l : List D, plL l = true → PyData.canLayAll0 (pyL l) = true ∧ PyData.depthAll (pyL l) = dpL l
  | [], _ => by simp [pyL, dpL, PyData.canLayAll0, PyData.depthAll]
  | x :: r, h => by
    rw [plL, Bool.and_eq_true] at h
    have h1 := pl_lay x h.1
    have h2 := plL_lay r h.2
    simp [pyL, dpL, PyData.canLayAll0, PyData.depthAll, h1, h2]
end
theorem ok_pl {x : D} (h : pl x = true) (hd : dp x ≤ 64) : okD x = true := by
  unfold okD SeqAt.shaped
  have := pl_lay x h
  simp [this, hd]
mutual
theorem eqv_pl : ∀ x y : D, pl x = true → pl y = true → PyData.eqv (pyD x) (pyD y) = true → x = y
  | .non, .non, _, _, _ => rfl
  | .int i, .int j, _, _, h => by simp [pyD, PyData.eqv] at h; rw [h]
  | .str a, .str b, _, _, h => by simp [pyD, PyData.eqv] at h; rw [h]
  | .tup l, .tup m, h1, h2, h => by
    rw [pl] at h1 h2
    simp only [pyD, PyData.eqv] at h
    rw [eqvL_pl l m h1 h2 h]
  | .lst l, .lst m, h1, h2, h => by
    rw [pl] at h1 h2
    simp only [pyD, PyData.eqv] at h
    rw [eqvL_pl l m h1 h2 h]
  | .non, .int _, _, _, h => (Bool.false_ne_true h).elim
  | .non, .str _, _, _, h => (Bool.false_ne_true h).elim
  | .non, .tup _, _, _, h => (Bool.false_ne_true h).elim
  | .non, .lst _, _, _, h => (Bool.false_ne_true h).elim
  | .int _, .non, _, _, h => (Bool.false_ne_true h).elim
  | .int _, .str _, _, _, h => (Bool.false_ne_true h).elim
  | .int _, .tup _, _, _, h => (Bool.false_ne_true h).elim
  | .int _, .lst _, _, _, h => (Bool.false_ne_true h).elim
  | .str _, .non, _, _, h => (Bool.false_ne_true h).elim
  | .str _, .int _, _, _, h => (Bool.false_ne_true h).elim
  | .str _, .tup _, _, _, h => (Bool.false_ne_true h).elim
  | .str _, .lst _, _, _, h => (Bool.false_ne_true h).elim
  | .tup _, .non, _, _, h => (Bool.false_ne_true h).elim
  | .tup _, .int _, _, _, h => (Bool.false_ne_true h).elim
  | .tup _, .str _, _, _, h => (Bool.false_ne_true h).elim
  | .tup _, .lst _, _, _, h => (Bool.false_ne_true h).elim
  | .lst _, .non, _, _, h => (Bool.false_ne_true h).elim
  | .lst _, .int _, _, _, h => (Bool.false_ne_true h).elim
  | .lst _, .str _, _, _, h => (Bool.false_ne_true h).elim
  | .lst _, .tup _, _, _, h => (Bool.false_ne_true h).elim
  | .bl _, _, h, _, _ => (Bool.false_ne_true h).elim
  | .scr _, _, h, _, _ => (Bool.false_ne_true h).elim
  | .dct _, _, h, _, _ => (Bool.false_ne_true h).elim
  | .ins _ _, _, h, _, _ => (Bool.false_ne_true h).elim
  | .ref _, _, h, _, _ => (Bool.false_ne_true h).elim
  | .exc _, _, h, _, _ => (Bool.false_ne_true h).elim
  | _, .bl _, _, h, _ => (Bool.false_ne_true h).elim
  | _, .scr _, _, h, _ => (Bool.false_ne_true h).elim
  | _, .dct _, _, h, _ => (Bool.false_ne_true h).elim
  | _, .ins _ _, _, h, _ => (Bool.false_ne_true h).elim
  | _, .ref _, _, h, _ => (Bool.false_ne_true h).elim
  | _, .exc _, _, h, _ => (Bool.false_ne_true h).elim
theorem eqvL_pl : ∀ l m : List D, plL l = true → plL m = true → PyData.eqvAll (pyL l) (pyL m) = true → l = m
  | [], [], _, _, _ => rfl
  | [], _ :: _, _, _, h => by simp [pyL, PyData.eqvAll] at h
  | _ :: _, [], _, _, h => by simp [pyL, PyData.eqvAll] at h
  | x :: l, y :: m, h1, h2, h => by
    rw [plL, Bool.and_eq_true] at h1 h2
    simp only [pyL, PyData.eqvAll, Bool.and_eq_true] at h
    rw [eqv_pl x y h1.1 h2.1 h.1, eqvL_pl l m h1.2 h2.2 h.2]
end
theorem dEq_pl {x y : D} (hx : pl x = true) (hy : pl y = true) : dEq x y = true ↔ x = y := by
  constructor
  · exact eqv_pl x y hx hy
  · intro e; subst e; exact SeqAt.eqv_refl _ (pl_lay x hx).1
theorem dEq_no {x y : D} (hx : pl x = true) (hy : pl y = true) (h : x ≠ y) : dEq x y = false := Bool.eq_false_iff.mpr fun e => h ((dEq_pl hx hy).mp e)
theorem dEq_self {x : D} (hx : pl x = true) : dEq x x = true := (dEq_pl hx hx).mpr rfl
@[simp] theorem view_tup {S : Sto} {l : List D} : view S (.tup l) = .tup l := rfl
@[simp] theorem view_lst {S : Sto} {l : List D} : view S (.lst l) = .lst l := rfl
@[simp] theorem view_int {S : Sto} {i : Int} : view S (.int i) = .int i := rfl
@[simp] theorem view_str {S : Sto} {i : Str} : view S (.str i) = .str i := rfl
@[simp] theorem view_non {S : Sto} : view S .non = .non := rfl
@[simp] theorem view_bl {S : Sto} {i : Bool} : view S (.bl i) = .bl i := rfl
theorem okI (i : Int) : okD (.int i) = true := by simp [okD, SeqAt.shaped, pyD, PyData.canLay0, PyData.depth]
theorem okS (i : Str) (h : PyData.strOk i = true) : okD (.str i) = true := by simp [okD, SeqAt.shaped, pyD, PyData.canLay0, PyData.depth, h]
theorem okN : okD .non = true := by simp [okD, SeqAt.shaped, pyD, PyData.canLay0, PyData.depth]
theorem okB (b : Bool) : okD (.bl b) = true := by simp [okD, SeqAt.shaped, pyD, PyData.canLay0, PyData.depth]
@[simp] theorem f_eqI {neg : Bool} {i j : Int} {S : Sto} {R : Pd} : fEq neg (.int i) (.int j) S R = R (.bl (neg ^^ decide (i = j))) S := by
  have e : dEq (.int i) (.int j) = decide (i = j) := by
    by_cases h : i = j
    · subst h; simp [dEq, pyD, PyData.eqv]
    · simp [dEq, pyD, PyData.eqv, h]
  simp only [fEq, view_int, okI, true_and, e]
theorem f_eqS {neg : Bool} {i j : Str} {S : Sto} {R : Pd} (hi : PyData.strOk i = true) (hj : PyData.strOk j = true) : fEq neg (.str i) (.str j) S R = R (.bl (neg ^^ decide (i = j))) S := by
  have e : dEq (.str i) (.str j) = decide (i = j) := by
    by_cases h : i = j
    · subst h; simp [dEq, pyD, PyData.eqv]
    · simp [dEq, pyD, PyData.eqv, h]
  simp only [fEq, view_str, okS i hi, okS j hj, true_and, e]
theorem f_eqP {neg : Bool} {x y : D} {S : Sto} {R : Pd} (hx : pl x = true) (hy : pl y = true) (dx : dp x ≤ 64) (dy : dp y ≤ 64) (h : ∀ b, (b = true ↔ x = y) → R (.bl (neg ^^ b)) S) : fEq neg x y S R := by
  have vx : view S x = x := by cases x <;> first | rfl | simp [pl] at hx
  have vy : view S y = y := by cases y <;> first | rfl | simp [pl] at hy
  unfold fEq
  rw [vx, vy]
  exact ⟨ok_pl hx dx, ok_pl hy dy, h _ (dEq_pl hx hy)⟩
@[simp] theorem strOk_of (s : String) : PyData.strOk (Str.ofString s) = true := by
  rw [Str.ofString_eq_toList]
  unfold PyData.strOk
  simp only [List.all_toArray, List.all_map, List.all_eq_true, Function.comp]
  intro c _
  have := c.valid
  simp only [UInt32.isValidChar, Nat.isValidChar] at this
  show decide (c.val.toNat < 1114112) = true
  rw [decide_eq_true_iff]
  omega
@[simp] theorem ofString_eq' {a b : String} : Str.ofString a = Str.ofString b ↔ a = b := ofString_eq
@[simp] theorem f_eqSS {neg : Bool} {i j : String} {S : Sto} {R : Pd} : fEq neg (.str (Str.ofString i)) (.str (Str.ofString j)) S R = R (.bl (neg ^^ decide (i = j))) S := by
  rw [f_eqS (strOk_of i) (strOk_of j)]
  congr 3
  exact decide_eq_decide.mpr ofString_eq
section
variable {S : Sto} {R : Pd} {l : List D} {z : Str} {d : List (Key × D)}
@[simp] theorem contOf_tup : contOf S (.tup l) = .t l := rfl
@[simp] theorem contOf_lst : contOf S (.lst l) = .l l := rfl
@[simp] theorem contOf_scr : contOf S (.scr l) = .l l := rfl
@[simp] theorem contOf_str : contOf S (.str z) = .s z := rfl
@[simp] theorem contOf_dct : contOf S (.dct d) = .d d := rfl
theorem contOf_refL {a : Addr} (h : S a = some (.lst l)) : contOf S (.ref a) = .l l := by simp [contOf, h]
theorem contOf_refD {a : Addr} (h : S a = some (.dct d)) : contOf S (.ref a) = .d d := by simp [contOf, h]
@[simp] theorem srcOf_tup : srcOf S (.tup l) = some (l, none) := rfl
@[simp] theorem srcOf_lst : srcOf S (.lst l) = some (l, none) := rfl
@[simp] theorem srcOf_scr : srcOf S (.scr l) = some (l, none) := rfl
@[simp] theorem srcOf_str : srcOf S (.str z) = some (chsD z, none) := rfl
theorem srcOf_ref {a : Addr} (h : S a = some (.lst l)) : srcOf S (.ref a) = some (l, some (a, .lst l)) := by simp [srcOf, h]
@[simp] theorem tyD_tup : tyD S (.tup l) = some "tuple" := rfl
@[simp] theorem tyD_lst : tyD S (.lst l) = some "list" := rfl
@[simp] theorem tyD_dct : tyD S (.dct d) = some "dict" := rfl
@[simp] theorem tyD_str : tyD S (.str z) = some "str" := rfl
@[simp] theorem tyD_int {i : Int} : tyD S (.int i) = some "int" := rfl
@[simp] theorem tyD_bl {i : Bool} : tyD S (.bl i) = some "bool" := rfl
@[simp] theorem tyD_non : tyD S .non = some "NoneType" := rfl
@[simp] theorem insOf_ins {c : String} {fs : List (String × D)} : insOf S (.ins c fs) = some (c, fs) := rfl
@[simp] theorem seqOf_tup : seqOf S (.tup l) = some l := rfl
@[simp] theorem seqOf_lst : seqOf S (.lst l) = some l := rfl
@[simp] theorem lstOf_lst : lstOf S (.lst l) = some l := rfl
@[simp] theorem f_lenT : fLen [.tup l] S R = R (.int l.length) S := rfl
@[simp] theorem f_lenL : fLen [.lst l] S R = R (.int l.length) S := rfl
@[simp] theorem f_lenSc : fLen [.scr l] S R = R (.int l.length) S := rfl
@[simp] theorem f_ixT {i : Int} : fIx (.tup l) (.int i) S R = ∃ v, L2.atI l i = some v ∧ R v S := by simp [fIx]
@[simp] theorem f_ixL {i : Int} : fIx (.lst l) (.int i) S R = ∃ v, L2.atI l i = some v ∧ R v S := by simp [fIx]
@[simp] theorem f_ixSc {i : Int} : fIx (.scr l) (.int i) S R = ∃ v, L2.atI l i = some v ∧ R v S := by simp [fIx]
@[simp] theorem f_ixD {k : Str} : fIx (.dct d) (.str k) S R = ∃ v, lookK (.inr k) d = some v ∧ R v S := by simp [fIx, keyOf]
@[simp] theorem f_countL {y : D} : fCount (.lst l) [y] S R = (okD (.lst l) = true ∧ okD y = true ∧ R (.int ((l.countP fun z => dEq z y : Nat) : Int)) S) := by simp [fCount]
@[simp] theorem f_sumT : fSum [.tup l] S R = ∃ ns, intL l = some ns ∧ R (.int ns.sum) S := by simp [fSum]
@[simp] theorem f_sumL : fSum [.lst l] S R = ∃ ns, intL l = some ns ∧ R (.int ns.sum) S := by simp [fSum]
theorem fAll_yes (h : ∀ x ∈ l, x = .bl true) (hR : R (.bl true) S) : fAll [.lst l] S R := by
  have : ∀ l : List D, (∀ x ∈ l, x = .bl true) → blL l = some (l.map fun _ => true) := fun l => by
    induction l with
    | nil => intro _; rfl
    | cons x r ih =>
      intro h
      rw [h x List.mem_cons_self]
      simp [blL, ih fun y hy => h y (List.mem_cons_of_mem _ hy)]
  refine ⟨l, _, rfl, this l h, ?_⟩
  rw [List.all_eq_true.mpr (by intro x hx; simp at hx; simp [hx])]
  exact hR
theorem intL_mapF {α : Type} {f : α → D} {g : α → Int} : ∀ {m : List α}, (∀ x ∈ m, f x = .int (g x)) → intL (m.map f) = some (m.map g)
  | [], _ => rfl
  | x :: r, h => by
    rw [List.map_cons, h x List.mem_cons_self]
    simp [intL, intL_mapF fun y hy => h y (List.mem_cons_of_mem _ hy)]
@[simp] theorem tyM_lst : tyM "list" S (.lst l) = true := rfl
@[simp] theorem tyM_dct : tyM "dict" S (.dct d) = true := rfl
@[simp] theorem tyM_str : tyM "str" S (.str z) = true := rfl
theorem tyM_refL {a : Addr} (h : S a = some (.lst l)) : tyM "list" S (.ref a) = true := by simp [tyM, contOf, h]
theorem tyM_refD {a : Addr} (h : S a = some (.dct d)) : tyM "dict" S (.ref a) = true := by simp [tyM, contOf, h]
end
/-- a comprehension over a frozen list whose element is pure -/
theorem lc_pure {t : Tg} {we : WpE} {p : Addr} {ς : En} {S0 : Sto} (f : D → D) : ∀ {xs acc : List D} {K : List D → Sto → Prop}, xs.length + acc.length ≤ sizeLine →
    (∀ x ∈ xs, ∃ ς1, t.bind x ς = some ς1 ∧ ∀ (S : Sto) (R : Pd), R (f x) S → we ς1 S R (fun _ _ => False)) → K (acc ++ xs.map f) (S0.set p (.lst (acc ++ xs.map f))) → lcL none t wYes we p ς xs acc (S0.set p (.lst acc)) K
  | [], acc, K, _, _, h => ⟨trivial, by simp, by simpa using h⟩
  | x :: xs, acc, K, hl, hx, h => by
    obtain ⟨ς1, e1, h1⟩ := hx x List.mem_cons_self
    refine ⟨trivial, ς1, e1, ?_⟩
    simp only [s_yes, if_true]
    refine h1 _ _ ?_
    refine ⟨by simp, by simp at hl; omega, ?_⟩
    rw [Sto.set_set]
    refine lc_pure f (by simp at hl ⊢; omega) (fun y hy => hx y (List.mem_cons_of_mem _ hy)) ?_
    simpa using h
theorem lc_frozen {t : Tg} {we : WpE} {ς : En} {S : Sto} {R : Pd} {xs : List D} (f : D → D) (hl : xs.length ≤ sizeLine)
    (hx : ∀ x ∈ xs, ∃ ς1, t.bind x ς = some ς1 ∧ ∀ (S : Sto) (R : Pd), R (f x) S → we ς1 S R (fun _ _ => False)) (h : R (.lst (xs.map f)) S) (p : Addr) (hp : S p = none) : lcL none t wYes we p ς xs [] (S.set p (.lst [])) (lcEnd false p R) := by
  refine lc_pure f (by simpa using hl) hx ?_
  show R _ _
  simpa [Sto.del_none hp] using h
/-- .. over a list of things of a kind -/
theorem lc_map {α : Type} {g : α → D} {t : Tg} {we : WpE} {ς : En} {S : Sto} {R : Pd} {xs : List α} (f : α → D) (hl : xs.length ≤ sizeLine)
    (hx : ∀ x ∈ xs, ∃ ς1, t.bind (g x) ς = some ς1 ∧ ∀ (S : Sto) (R : Pd), R (f x) S → we ς1 S R (fun _ _ => False)) (h : R (.lst (xs.map f)) S) (p : Addr) (hp : S p = none) : lcL none t wYes we p ς (xs.map g) [] (S.set p (.lst [])) (lcEnd false p R) := by
  have gen : ∀ (xs : List α) (acc : List D) (K : List D → Sto → Prop), xs.length + acc.length ≤ sizeLine → (∀ x ∈ xs, ∃ ς1, t.bind (g x) ς = some ς1 ∧ ∀ (S : Sto) (R : Pd), R (f x) S → we ς1 S R (fun _ _ => False)) →
      K (acc ++ xs.map f) (S.set p (.lst (acc ++ xs.map f))) → lcL none t wYes we p ς (xs.map g) acc (S.set p (.lst acc)) K := by
    intro xs
    induction xs with
    | nil => intro acc K _ _ h; exact ⟨trivial, by simp, by simpa using h⟩
    | cons x xs ih =>
      intro acc K hl hx h
      obtain ⟨ς1, e1, h1⟩ := hx x List.mem_cons_self
      refine ⟨trivial, ς1, e1, ?_⟩
      simp only [s_yes, if_true]
      refine h1 _ _ ⟨by simp, by simp at hl; omega, ?_⟩
      rw [Sto.set_set]
      refine ih _ _ (by simp at hl ⊢; omega) (fun y hy => hx y (List.mem_cons_of_mem _ hy)) ?_
      simpa using h
  refine gen xs [] _ (by simpa using hl) hx ?_
  show R _ _
  simpa [Sto.del_none hp] using h
theorem sz1000 {n : Nat} (h : n ≤ 1000) : n ≤ sizeLine := Nat.le_trans h (by decide)
theorem plL_map {α : Type} {f : α → D} : ∀ {m : List α}, (∀ x ∈ m, pl (f x) = true) → plL (m.map f) = true
  | [], _ => rfl
  | x :: r, h => by simp [plL, h x List.mem_cons_self, plL_map fun y hy => h y (List.mem_cons_of_mem _ hy)]
theorem dpL_map {α : Type} {f : α → D} {k : Nat} : ∀ {m : List α}, (∀ x ∈ m, dp (f x) ≤ k) → dpL (m.map f) ≤ k
  | [], _ => Nat.zero_le _
  | x :: r, h => by
    have h1 := h x List.mem_cons_self
    have h2 := dpL_map (k := k) fun y (hy : y ∈ r) => h y (List.mem_cons_of_mem _ hy)
    simp only [List.map_cons, dpL]
    omega
section
variable {S : Sto} {R : Pd} {neg : Bool}
@[simp] theorem f_isT {l : List D} : fIs neg (.tup l) .non S R = R (.bl neg) S := rfl
@[simp] theorem f_isN : fIs neg .non .non S R = R (.bl (!neg)) S := rfl
@[simp] theorem f_isI {i : Int} : fIs neg (.int i) .non S R = R (.bl neg) S := rfl
@[simp] theorem f_isS {i : Str} : fIs neg (.str i) .non S R = R (.bl neg) S := rfl
@[simp] theorem f_isD {i : List (Key × D)} : fIs neg (.dct i) .non S R = R (.bl neg) S := rfl
@[simp] theorem f_isL {l : List D} : fIs neg (.lst l) .non S R = R (.bl neg) S := rfl
theorem f_eqP' {x y : D} (b : Bool) (hx : pl x = true) (hy : pl y = true) (dx : dp x ≤ 64) (dy : dp y ≤ 64) (h : b = true ↔ x = y) (hR : R (.bl (neg ^^ b)) S) : fEq neg x y S R :=
  f_eqP hx hy dx dy fun c hc => by
    have : c = b := by
      cases b <;> cases c <;> simp_all
    rw [this]; exact hR
@[simp] theorem pl_int {i : Int} : pl (.int i) = true := rfl
@[simp] theorem pl_non : pl .non = true := rfl
@[simp] theorem pl_str {s : String} : pl (.str (Str.ofString s)) = true := strOk_of s
@[simp] theorem pl_tup {l : List D} : pl (.tup l) = plL l := rfl
@[simp] theorem pl_lst {l : List D} : pl (.lst l) = plL l := rfl
@[simp] theorem plL_nil : plL [] = true := rfl
@[simp] theorem plL_cons {x : D} {l : List D} : plL (x :: l) = (pl x && plL l) := rfl
@[simp] theorem dp_int {i : Int} : dp (.int i) = 0 := rfl
@[simp] theorem dp_non : dp .non = 0 := rfl
@[simp] theorem dp_str {s : Str} : dp (.str s) = 0 := rfl
@[simp] theorem dp_tup {l : List D} : dp (.tup l) = dpL l + 1 := rfl
@[simp] theorem dp_lst {l : List D} : dp (.lst l) = dpL l + 1 := rfl
@[simp] theorem dpL_nil : dpL [] = 0 := rfl
@[simp] theorem dpL_cons {x : D} {l : List D} : dpL (x :: l) = max (dp x) (dpL l) := rfl
@[simp] theorem s_kget {tab : List (Str × He.Dv)} {wa : WpA} {ς : En} {RE : Px} : wKGet tab wa ς S R RE = wa ς S (fun xs S1 => ∃ z y, xs = [.str z, y] ∧ match lookS z tab with
  | some v => ∃ d, dvD v = some d ∧ R d S1
  | none => R y S1) RE := rfl
/-- a method as it is found -/
def mlook (m : String) (cs : List (String × Nat × List D × Spec)) (x : D) (S : Sto) (k : Nat × List D × Spec → Prop) : Prop := ∃ c fs nd, insOf S x = some (c, fs) ∧ look m fs = none ∧ cs.lookup c = some nd ∧ k nd
@[simp] theorem s_meth {m : String} {cs : List (String × Nat × List D × Spec)} {wo : WpE} {wa : WpA} {ς : En} {RE : Px} : wMeth m cs wo wa ς S R RE = wo ς S (fun x S1 => mlook m cs x S1 fun nd => wa ς S1 (fun xs S2 => nd.2.2 (x :: (xs ++ nd.2.1)) S2 R RE) RE) RE := rfl
@[simp] theorem s_make {own : Bool} {c : String} {dds : List D} {φ : Spec} {wa : WpA} {ς : En} {RE : Px} : wMake own c dds φ wa ς S R RE = wa ς S (fun xs S1 => ∀ p, S1 p = none → φ (.ref p :: (xs ++ dds)) (S1.set p (.ins c [])) (fun v S2 => v = .non ∧ mkI own c p R S2) RE) RE := rfl
end
theorem sb_pl (p : Addr) (d : D) : (∀ x, pl x = true → sb p d x = x) ∧ ∀ l, plL l = true → subL p d l = l := by
  have h : ∀ n, (∀ x, sizeOf x < n → pl x = true → sb p d x = x) ∧ ∀ l : List D, sizeOf l < n → plL l = true → subL p d l = l := by
    intro n
    induction n with
    | zero => exact ⟨fun _ h => absurd h (Nat.not_lt_zero _), fun _ h => absurd h (Nat.not_lt_zero _)⟩
    | succ n ih =>
      refine ⟨fun x hx hp => ?_, fun l hl hp => ?_⟩
      · cases x with
        | tup l => rw [sb, ih.2 l (by simp at hx; omega) hp]
        | lst l => rw [sb, ih.2 l (by simp at hx; omega) hp]
        | non => rw [sb]
        | int _ => rw [sb]
        | str _ => rw [sb]
        | _ => exact absurd hp (by simp [pl])
      · cases l with
        | nil => rw [subL]
        | cons x l =>
          simp only [plL, Bool.and_eq_true] at hp
          simp at hl
          rw [subL, ih.1 x (by omega) hp.1, ih.2 l (by omega) hp.2]
  exact ⟨fun x => (h (sizeOf x + 1)).1 x (Nat.lt_succ_self _), fun l => (h (sizeOf l + 1)).2 l (Nat.lt_succ_self _)⟩
@[simp] theorem f_setF {cs : List String} {f c : String} {p : Addr} {y : D} {S : Sto} {fs : List (String × D)} {R : Sto → Prop} : fSetF cs f (.ref p) y (S.set p (.ins c fs)) R = (cs.contains c = true ∧ fs.length + 1 ≤ 1000 ∧ R (S.set p (.ins c (putFd f y fs)))) := by
  simp [fSetF]
@[simp] theorem s_setF {cs : List String} {f : String} {wv wo : WpE} {ς : En} {S : Sto} {E : ES} {XE : PxE} : wSetF cs f wv wo ς S E XE = wv ς S (fun y S1 => wo ς S1 (fun x S2 => fSetF cs f x y S2 fun S4 => E.nx ς S4) (fun c S' => XE c ς S')) (fun c S' => XE c ς S') := rfl
@[simp] theorem s_setI {wv wo wi : WpE} {ς : En} {S : Sto} {E : ES} {XE : PxE} : wSetI wv wo wi ς S E XE = wv ς S (fun y S1 => wo ς S1 (fun x S2 => wi ς S2 (fun i S3 => fSetI x i y S3 fun S4 => E.nx ς S4) (fun c S' => XE c ς S')) (fun c S' => XE c ς S')) (fun c S' => XE c ς S') := rfl
theorem perm_sorted : ∀ {l m : List Int}, l.Perm m → l.Pairwise (· ≤ ·) → m.Pairwise (· ≤ ·) → l = m
  | [], m, h, _, _ => (List.nil_perm.mp h).symm
  | x :: l, [], h, _, _ => by simp at h
  | x :: l, y :: m, h, h1, h2 => by
    rw [List.pairwise_cons] at h1 h2
    have hx : x ∈ y :: m := h.mem_iff.mp List.mem_cons_self
    have hy : y ∈ x :: l := h.mem_iff.mpr List.mem_cons_self
    have e : x = y := by
      rcases List.mem_cons.mp hx with e | hx
      · exact e
      · rcases List.mem_cons.mp hy with e | hy
        · exact e.symm
        · exact Int.le_antisymm (h1.1 _ hy) (h2.1 _ hx)
    subst e
    rw [perm_sorted (List.perm_cons x |>.mp h) h1.2 h2.2]
theorem f_sortedI {S : Sto} {R : Pd} {ns : List Int} (hs : ns.Pairwise (· ≤ ·)) (hl : ns.length ≤ 1000) (h : R (.lst (ns.map .int)) S) : fSorted false [.lst (ns.map .int)] S R := by
  refine ⟨ns, intL_mapF (fun _ _ => rfl) |>.trans (by simp), fun ns' hp hs' => ?_⟩
  rw [perm_sorted hp hs' hs]
  exact ⟨by rw [List.length_map]; exact sz1000 hl, h⟩
/-- isinstance of an own class -/
def isO (cs : List String) (sub : String → String → Bool) (C : String) (x : D) (S : Sto) (R : Pd) : Prop := ∃ c fs, insOf S x = some (c, fs) ∧ c ∈ cs ∧ R (.bl (sub c C)) S
@[simp] theorem s_isO {cs : List String} {sub : String → String → Bool} {C : String} {we : WpE} {ς : En} {S : Sto} {R : Pd} {RE : Px} : wIsO cs sub C we ς S R RE = we ς S (fun x S1 => isO cs sub C x S1 R) RE := rfl
end SB
end

section
set_option Elab.async false
set_option linter.all false
set_option maxRecDepth 100000
set_option autoImplicit false
/-! SB17: what is never reached; two things alike to any depth, dicts too; sorted(set(l)). -/
namespace SB
open PySem PySem.Spec L2
/-! ### what is never reached -/
def wNever : WpS := fun _ _ _ _ => False
def wNeverE : WpE := fun _ _ _ _ => False
section
variable {X : Cx} {F : Fr}
theorem ws_never {st : Stmt} : WS X F st wNever := ⟨fun pins s σ H Q I h => by
  obtain ⟨ς, S, E, g, k, hw, eo⟩ := h
  exact hw.elim⟩
theorem we_never {e : Expr} : WE X F e wNeverE := ⟨fun pins s σ H Q I h => by
  obtain ⟨ς, S, R, g, k, hw, hR⟩ := h
  exact hw.elim⟩
@[simp] theorem s_never {ς : En} {S : Sto} {E : ES} {XE : PxE} : wNever ς S E XE = False := rfl
@[simp] theorem s_neverE {ς : En} {S : Sto} {R : Pd} {RE : Px} : wNeverE ς S R RE = False := rfl
end
/-! ### values alike -/
mutual
inductive SamV (K : PySem.W.Frag) (H : Hp) : Nat → V → V → Prop
  | non {n : Nat} : SamV K H n .non .non
  | bl {n : Nat} (b : Bool) : SamV K H n (.bl b) (.bl b)
  | int {n : Nat} (i : Int) : SamV K H n (.int i) (.int i)
  | str {n : Nat} (x : Str) : SamV K H n (.str x) (.str x)
  | tup {n : Nat} {a b : Addr} {vs us : List V} : SqT K H a vs → SqT K H b us → SamVL K H n vs us → SamV K H (n + 1) (.ref a) (.ref b)
  | lst {n : Nat} {a b : Addr} {vs us : List V} : SqL K H a vs → SqL K H b us → SamVL K H n vs us → SamV K H (n + 1) (.ref a) (.ref b)
  | dct {n : Nat} {a b : Addr} {vs us : List (Key × V)} : Rd H a (.dK vs) → Rd H b (.dK us) → SamVK K H n vs us → SamV K H (n + 1) (.ref a) (.ref b)
inductive SamVL (K : PySem.W.Frag) (H : Hp) : Nat → List V → List V → Prop
  | nil {n : Nat} : SamVL K H n [] []
  | cons {n : Nat} {v u : V} {vs us : List V} : SamV K H n v u → SamVL K H n vs us → SamVL K H n (v :: vs) (u :: us)
inductive SamVK (K : PySem.W.Frag) (H : Hp) : Nat → List (Key × V) → List (Key × V) → Prop
  | nil {n : Nat} : SamVK K H n [] []
  | cons {n : Nat} {k : Key} {v u : V} {vs us : List (Key × V)} : SamV K H n v u → SamVK K H n vs us → SamVK K H n ((k, v) :: vs) ((k, u) :: us)
end
/-- the trees of a list's items -/
inductive TreeL (P : Program) (w : World) (s : Shared) (n : Nat) : List Value → List Value → Prop
  | nil : TreeL P w s n [] []
  | cons {v u : Value} {vs us : List Value} : PySem.W.EqTree P w s n v u true → TreeL P w s n vs us → TreeL P w s n (v :: vs) (u :: us)
theorem TreeL.length {P : Program} {w : World} {s : Shared} {n : Nat} : ∀ {vs us : List Value}, TreeL P w s n vs us → vs.length = us.length
  | _, _, .nil => rfl
  | _, _, .cons _ t => by simp [TreeL.length t]
theorem TreeL.get {P : Program} {w : World} {s : Shared} {n : Nat} : ∀ {vs us : List Value} {i : Nat} (h1 : i < vs.length) (h2 : i < us.length), TreeL P w s n vs us → PySem.W.EqTree P w s n vs[i] us[i] true
  | _, _, 0, _, _, .cons t _ => t
  | _, _, i + 1, h1, h2, .cons _ t => TreeL.get (i := i) (by simpa using h1) (by simpa using h2) t
theorem all_true (n : Nat) : ((List.range n).all fun _ => true) = true := by simp
theorem all_min {a b : Nat} (h : a = b) : (((List.range (min a b)).all fun _ => true) && a == b) = true := by simp [h]
/-- dict entries alike -/
inductive TreeK (P : Program) (w : World) (s : Shared) (n : Nat) : List (Key × Value) → List (Key × Value) → Prop
  | nil : TreeK P w s n [] []
  | cons {k : Key} {v u : Value} {vs us : List (Key × Value)} : PySem.W.EqTree P w s n v u true → TreeK P w s n vs us → TreeK P w s n ((k, v) :: vs) ((k, u) :: us)
theorem TreeK.keys {P : Program} {w : World} {s : Shared} {n : Nat} : ∀ {vs us : List (Key × Value)}, TreeK P w s n vs us → vs.map (·.1) = us.map (·.1)
  | _, _, .nil => rfl
  | _, _, .cons _ t => by simp [TreeK.keys t]
theorem TreeK.mem {P : Program} {w : World} {s : Shared} {n : Nat} {k : Key} {v : Value} : ∀ {vs us : List (Key × Value)}, TreeK P w s n vs us → (k, v) ∈ vs → ∃ u, (k, u) ∈ us ∧ PySem.W.EqTree P w s n v u true
  | _, _, .cons t r, h => by
    rcases List.mem_cons.mp h with e | h
    · cases e; exact ⟨_, List.mem_cons_self, t⟩
    · obtain ⟨u, a, b⟩ := r.mem h
      exact ⟨u, List.mem_cons_of_mem _ a, b⟩
section
variable {X : Cx} {pins : List (Addr × Obj)} {σ : L2.St} {H : Hp} {s : Shared}
theorem leaf_tree {n : Nat} {v u : V} {vv uu : Value} {d : PyData} (I : Inv X pins σ H s) (h1 : Dp X.K H v d) (h2 : Dp X.K H u d) (r1 : RelV v vv) (r2 : RelV u uu) (hd : d.canLay0 = true) (h0 : d.depth = 0) : PySem.W.EqTree X.prog X.w s n vv uu true := by
  obtain ⟨as, q1⟩ := Dp.reads I d v vv h1 r1
  obtain ⟨bs, q2⟩ := Dp.reads I d u uu h2 r2
  refine .leaf fun A hu => ?_
  have := SeqAt.eqAt_reads d d A s vv uu as bs q1 q2 hd hd (by omega)
  rwa [SeqAt.eqv_refl _ hd] at this
theorem vals_inv {v : V} {vs : List V} {its : List Value} (h : Vals (v :: vs) its) : ∃ u us, its = u :: us ∧ RelV v u ∧ Vals vs us := by
  cases h with
  | cons a b => exact ⟨_, _, rfl, a, b⟩
mutual
theorem SamV.tree (I : Inv X pins σ H s) : ∀ {n : Nat} {v u : V} {vv uu : Value}, SamV X.K H n v u → RelV v vv → RelV u uu → PySem.W.EqTree X.prog X.w s n vv uu true
  | _, _, _, _, _, .non, r1, r2 => leaf_tree I .non .non r1 r2 rfl rfl
  | _, _, _, _, _, .bl b, r1, r2 => leaf_tree I (.bl b) (.bl b) r1 r2 rfl rfl
  | _, _, _, _, _, .int i, r1, r2 => leaf_tree I (.int i) (.int i) r1 r2 rfl rfl
  | _, _, _, _, _, .str x, r1, r2 => by
    obtain ⟨t1, rfl⟩ := r1
    obtain ⟨t2, rfl⟩ := r2
    exact .leaf fun A hu => by
      have := SeqAt.EqAt.str_str (A := A) (s := s) x t1 x t2
      simpa using this
  | _, _, _, _, _, .tup (a := a) (b := b) h1 h2 t, r1, r2 => by
    cases r1; cases r2
    by_cases e : a = b
    · subst e; exact .same
    · obtain ⟨its, rv, pt, hz⟩ := I.tuple h1
      obtain ⟨its', rv', pt', hz'⟩ := I.tuple h2
      have tl := SamVL.tree I t rv rv'
      have hl : its.toArray.size = its'.toArray.size := by simpa using tl.length
      have := PySem.W.EqTree.tuples (e := fun _ => true) e pt pt' fun j h1 h2 => by simpa using tl.get (by simpa using h1) (by simpa using h2)
      rwa [all_min hl] at this
  | _, _, _, _, _, .lst (a := a) (b := b) h1 h2 t, r1, r2 => by
    cases r1; cases r2
    by_cases e : a = b
    · subst e; exact .same
    · obtain ⟨its, rv, pt, hz⟩ := I.list h1
      obtain ⟨its', rv', pt', hz'⟩ := I.list h2
      have tl := SamVL.tree I t rv rv'
      have hl : its.toArray.size = its'.toArray.size := by simpa using tl.length
      have := PySem.W.EqTree.lists (e := fun _ => true) e pt.isList pt'.isList hl fun j h1 h2 => by simpa using tl.get (by simpa using h1) (by simpa using h2)
      rwa [all_true] at this
  | _, _, _, _, _, .dct (a := a) (b := b) h1 h2 t, r1, r2 => by
    cases r1; cases r2
    by_cases e : a = b
    · subst e; exact .same
    · obtain ⟨z, hd, ws, rel, dd⟩ := dk_rd I.hok h1
      obtain ⟨z', hd', ws', rel', dd'⟩ := dk_rd I.hok h2
      have tk := SamVK.tree I t rel rel'
      have ek := tk.keys
      have := PySem.W.EqTree.dicts (e := fun _ => true) e hd hd' dd dd' fun k v y hm hy => by
        obtain ⟨u, hu, t⟩ := tk.mem hm
        have hn : (ws'.map (·.1)).Nodup := by
          obtain ⟨_, _, _, _, _, _, _, _, hn⟩ := dd'
          exact hn
        rw [PySem.valueAt_of_mem hn hu] at hy
        cases hy
        exact t
      have hl : ws.length = ws'.length := by simpa using congrArg List.length ek
      have ha : (ws.all fun p => (valueAt ws' p.1).isSome && true) = true := by
        rw [List.all_eq_true]
        intro p hp
        have : p.1 ∈ ws'.map (·.1) := ek ▸ List.mem_map_of_mem hp
        simp [PySem.valueAt_isSome.mpr this]
      rw [ha, hl] at this
      simpa using this
theorem SamVL.tree (I : Inv X pins σ H s) : ∀ {n : Nat} {vs us : List V} {its its' : List Value}, SamVL X.K H n vs us → Vals vs its → Vals us its' → TreeL X.prog X.w s n its its'
  | _, _, _, _, _, .nil, r1, r2 => by
    cases r1; cases r2
    exact .nil
  | _, _, _, _, _, .cons t tl, r1, r2 => by
    obtain ⟨u, us, rfl, a1, b1⟩ := vals_inv r1
    obtain ⟨u', us', rfl, a2, b2⟩ := vals_inv r2
    exact .cons (SamV.tree I t a1 a2) (SamVL.tree I tl b1 b2)
theorem SamVK.tree (I : Inv X pins σ H s) : ∀ {n : Nat} {vs us : List (Key × V)} {its its' : List (Key × Value)}, SamVK X.K H n vs us → KV vs its → KV us its' → TreeK X.prog X.w s n its its'
  | _, _, _, _, _, .nil, r1, r2 => by
    cases r1; cases r2
    exact .nil
  | _, _, _, _, _, .cons t tl, r1, r2 => by
    cases r1 with
    | cons a1 b1 =>
      cases r2 with
      | cons a2 b2 =>
        rename_i q _ q' _
        obtain ⟨k1, v1⟩ := q
        obtain ⟨k2, v2⟩ := q'
        obtain ⟨e1, a1⟩ := a1
        obtain ⟨e2, a2⟩ := a2
        simp only at e1 e2 a1 a2
        subst e1 e2
        exact .cons (SamV.tree I t a1 a2) (SamVK.tree I tl b1 b2)
end
/-! a == b, a != b of two lists alike -/
section
open PySem.SeqAt
theorem alike_loop {P : Program} {w : World} {lo hi : Addr} {xs ys : Array Value} {n1 n2 : Nat} {q1 q2 : Option Addr} {z1 z2 : Array (Option Value)} (same : xs.size = ys.size) (m : Nat) :
    ∀ j : Nat, xs.size - j = m → MeetsIn P w (Builtin.«list.__eq__.loop» ⟨[.ref lo, .ref hi, rawInt j, rawInt 3], []⟩)
      (fun A R t => t.heap.get? lo = some { cls := .type "list", dict := q1, data := .seq xs n1, slots := z1 } ∧ t.heap.get? hi = some { cls := .type "list", dict := q2, data := .seq ys n2, slots := z2 } ∧
        (∀ k (g1 : k < xs.size) (g2 : k < ys.size), EqIn P w A.in1 t xs[k] ys[k] true) ∧ R (.ok (.ret (.bool false))) t) := by
  induction m with
  | zero =>
    intro j hj A R t hyp
    obtain ⟨hp, gg, dr, tk, os⟩ := t; obtain ⟨a1, a2, alike, fin⟩ := hyp
    wp_walk using AutoSeq1.wpAny_loadPart' a1, AutoSeq1.wpAny_loadPart' a2
    have o1 : xs[((j : Nat) : Int).toNat]? = none := by simp; omega
    have o2 : ys[((j : Nat) : Int).toNat]? = none := by simp; omega
    rw [o1, o2]
    wp_walk using AutoSeq1.wpAny_loadPart' a1, AutoSeq1.wpAny_loadPart' a2
    show R (.ok (.ret (.bool (xs.size != ys.size)))) _
    rw [same]
    simpa using fin
  | succ m ih =>
    intro j hj A R t hyp
    obtain ⟨hp, gg, dr, tk, os⟩ := t; obtain ⟨a1, a2, alike, fin⟩ := hyp
    wp_walk using AutoSeq1.wpAny_loadPart' a1, AutoSeq1.wpAny_loadPart' a2
    have b1 : j < xs.size := by omega
    have b2 : j < ys.size := by omega
    have o1 : xs[((j : Nat) : Int).toNat]? = some xs[j] := by simp [b1]
    have o2 : ys[((j : Nat) : Int).toNat]? = some ys[j] := by simp [b2]
    have next : ((j : Int) + 1) = ((j + 1 : Nat) : Int) := by push_cast; rfl
    rw [o1, o2]
    refine wpAny_bind (alike j b1 b2 _ _ ?_)
    wp_walk
    rw [next]
    exact ⟨plainId_quiet MeetsSeq3.plain_eq_loop _, codeAny_builtin MeetsSeq3.entry_eq_loop (by
      rw [Around.under_plainId MeetsSeq3.plain_eq_loop _]
      exact ih (j + 1) (by omega) A R _ ⟨a1, a2, alike, fin⟩)⟩
theorem alike_ne {P : Program} {w : World} {lo hi : Addr} {xs ys : Array Value} {n1 n2 : Nat} {q1 q2 : Option Addr} {z1 z2 : Array (Option Value)} (same : xs.size = ys.size) :
    MeetsIn P w (Builtin.«list.__ne__» ⟨[.ref lo, .ref hi], []⟩)
      (fun A R t => t.heap.get? lo = some { cls := .type "list", dict := q1, data := .seq xs n1, slots := z1 } ∧ t.heap.get? hi = some { cls := .type "list", dict := q2, data := .seq ys n2, slots := z2 } ∧
        (∀ k (g1 : k < xs.size) (g2 : k < ys.size), EqIn P w A.in1 t xs[k] ys[k] true) ∧ R (.ok (.ret (.bool false))) t) := by
  intro A R t hyp
  obtain ⟨hp, gg, dr, tk, os⟩ := t; obtain ⟨a1, a2, alike, fin⟩ := hyp
  have sub1 := AutoSeq1.sub_list_list
  have same' : ¬ (xs.size != ys.size) = true := by simp [same]
  wp_walk using AutoSeq1.wpAny_loadPart' a1, AutoSeq1.wpAny_loadPart' a2
  exact ⟨plainId_quiet MeetsSeq3.plain_eq_loop _, codeAny_builtin MeetsSeq3.entry_eq_loop (by
    rw [Around.under_plainId MeetsSeq3.plain_eq_loop _]
    exact alike_loop same _ 0 rfl A R _ ⟨a1, a2, alike, fin⟩)⟩
theorem ne_alike {P : Program} {w : World} {A : Around} {E : Value → Shared → Prop} {t : Shared} {lo hi : Addr} {xs ys : Array Value} {Q : Value → Shared → Prop} (h1 : t.heap.IsList lo xs) (h2 : t.heap.IsList hi ys) (same : xs.size = ys.size)
    (hu : A.units < cLine) (alike : ∀ k (g1 : k < xs.size) (g2 : k < ys.size), EqIn P w A.in1 t xs[k] ys[k] true) (fin : Q (.bool false) t) : wpAny (model P w) A (richCompare .NotEq (.ref lo) (.ref hi)) Q E t := by
  obtain ⟨⟨c1, q1, e1, z1⟩, o1, y1, n1, d1⟩ := id h1
  obtain ⟨⟨c2, q2, e2, z2⟩, o2, y2, n2, d2⟩ := id h2
  simp only at y1 d1 y2 d2
  subst y1 d1 y2 d2
  exact wpAny_richCompare_same_room (T := "list") (op := .NotEq) ⟨_, o1, rfl⟩ ⟨_, o2, rfl⟩ F.slot_list_ne (call_meetsIn F.slot_list_ne ⟨_, o1, rfl⟩ F.entry_list_ne (F.args_list_ne_2 _ _) (alike_ne same)
    ⟨o1, o2, alike, show Value.bool false ≠ Value.notImplemented ∧ Q (.bool false) t from ⟨(fun x => nomatch x), fin⟩⟩) hu
end
/-- two lists alike: the wish's answer -/
def rSamL (K : PySem.W.Frag) (r : Bool) : R2 := fun x y H Q => ∃ n a b vs us, x = .ref a ∧ y = .ref b ∧ SqL K H a vs ∧ SqL K H b us ∧ n ≤ 60 ∧ SamVL K H n vs us ∧ Q (.bl r) H
theorem trees_at {P : Program} {w : World} {A : Around} {s : Shared} {n : Nat} {its its' : List Value} (hu : A.units + 64 < cLine) (hn : n ≤ 60) (tl : TreeL P w s n its its') (k : Nat) (g1 : k < its.toArray.size) (g2 : k < its'.toArray.size) :
    PySem.SeqAt.EqIn P w A.in1 s its.toArray[k] its'.toArray[k] true := by
  have t := tl.get (i := k) (by simpa using g1) (by simpa using g2)
  have e := t.at A.in1 (by show A.units + 1 + n < cLine; omega)
  simpa using e
theorem op_samEq {X : Cx} (hu : X.A.units + 64 < cLine) : OpR X (compareOp .Eq) (rSamL X.K true) := by
  intro pins s σ H x y v u Q I rx ry h
  obtain ⟨n, a, b, vs, us, rfl, rfl, h1, h2, hn, t, q⟩ := h
  cases rx; cases ry
  obtain ⟨its, rv, pt, hz⟩ := I.list h1
  obtain ⟨its', rv', pt', hz'⟩ := I.list h2
  have tl := SamVL.tree I t rv rv'
  have hl : its.toArray.size = its'.toArray.size := by simpa using tl.length
  refine PySem.SeqAt.rcIn_lists (e := fun _ => true) pt.isList pt'.isList hl (by omega) (fun k g1 g2 => trees_at hu hn tl k g1 g2) ?_
  rw [all_true]
  exact ⟨.bl true, H, I, rfl, q⟩
theorem op_samNe {X : Cx} (hu : X.A.units + 64 < cLine) : OpR X (compareOp .NotEq) (rSamL X.K false) := by
  intro pins s σ H x y v u Q I rx ry h
  obtain ⟨n, a, b, vs, us, rfl, rfl, h1, h2, hn, t, q⟩ := h
  cases rx; cases ry
  obtain ⟨its, rv, pt, hz⟩ := I.list h1
  obtain ⟨its', rv', pt', hz'⟩ := I.list h2
  have tl := SamVL.tree I t rv rv'
  have hl : its.toArray.size = its'.toArray.size := by simpa using tl.length
  exact ne_alike pt.isList pt'.isList hl (by omega) (fun k g1 g2 => trees_at hu hn tl k g1 g2) ⟨.bl false, H, I, rfl, q⟩
end
/-! ### data alike -/
def lstC (S : Sto) (x : D) : Option (List D) := match x with
  | .lst l => some l
  | .scr l => some l
  | .ref a => (match S a with
    | some (.lst l) => some l
    | _ => none)
  | _ => none
def dctC (S : Sto) (x : D) : Option (List (Key × D)) := match x with
  | .dct l => some l
  | .ref a => (match S a with
    | some (.dct l) => some l
    | _ => none)
  | _ => none
mutual
inductive Sam (S : Sto) : Nat → D → D → Prop
  | non {n : Nat} : Sam S n .non .non
  | bl {n : Nat} (b : Bool) : Sam S n (.bl b) (.bl b)
  | int {n : Nat} (i : Int) : Sam S n (.int i) (.int i)
  | str {n : Nat} (x : Str) : Sam S n (.str x) (.str x)
  | tup {n : Nat} {l m : List D} : SamL S n l m → Sam S (n + 1) (.tup l) (.tup m)
  | lst {n : Nat} {x y : D} {l m : List D} : lstC S x = some l → lstC S y = some m → SamL S n l m → Sam S (n + 1) x y
  | dct {n : Nat} {x y : D} {l m : List (Key × D)} : dctC S x = some l → dctC S y = some m → SamK S n l m → Sam S (n + 1) x y
inductive SamL (S : Sto) : Nat → List D → List D → Prop
  | nil {n : Nat} : SamL S n [] []
  | cons {n : Nat} {x y : D} {l m : List D} : Sam S n x y → SamL S n l m → SamL S n (x :: l) (y :: m)
inductive SamK (S : Sto) : Nat → List (Key × D) → List (Key × D) → Prop
  | nil {n : Nat} : SamK S n [] []
  | cons {n : Nat} {k : Key} {x y : D} {l m : List (Key × D)} : Sam S n x y → SamK S n l m → SamK S n ((k, x) :: l) ((k, y) :: m)
end
section
variable {K : PySem.W.Frag} {S : Sto} {H : Hp}
theorem lstC_rep {x : D} {v : V} {l : List D} (r : Rep K S H x v) (q : Rel K S H) (e : lstC S x = some l) : ∃ a vs, v = .ref a ∧ SqL K H a vs ∧ RepL K S H l vs := by
  cases r with
  | lst h n z r => cases e; exact ⟨_, _, rfl, .of h, r⟩
  | scr h n z r => cases e; exact ⟨_, _, rfl, .inl h, r⟩
  | scrK h z r => cases e; exact ⟨_, _, rfl, h.sq, r⟩
  | ref a =>
    cases h : S a with
    | none => simp [lstC, h] at e
    | some o =>
      cases o with
      | lst m =>
        simp [lstC, h] at e
        subst e
        obtain ⟨_, vs, h1, h2⟩ := q a _ h
        exact ⟨a, vs, rfl, .of h1, h2⟩
      | _ => simp [lstC, h] at e
  | _ => exact nomatch e
theorem dctC_rep {x : D} {v : V} {l : List (Key × D)} (r : Rep K S H x v) (q : Rel K S H) (e : dctC S x = some l) : ∃ a vs, v = .ref a ∧ Rd H a (.dK vs) ∧ RepK K S H l vs := by
  cases r with
  | dct h n z r => cases e; exact ⟨_, _, rfl, h, r⟩
  | ref a =>
    cases h : S a with
    | none => simp [dctC, h] at e
    | some o =>
      cases o with
      | dct m =>
        simp [dctC, h] at e
        subst e
        obtain ⟨_, vs, h1, h2⟩ := q a _ h
        exact ⟨a, vs, rfl, .of h1, h2⟩
      | _ => simp [dctC, h] at e
  | _ => exact nomatch e
mutual
theorem Sam.val (q : Rel K S H) : ∀ {n : Nat} {x y : D} {v u : V}, Sam S n x y → Rep K S H x v → Rep K S H y u → SamV K H n v u
  | _, _, _, _, _, .non, r1, r2 => by cases r1; cases r2; exact .non
  | _, _, _, _, _, .bl b, r1, r2 => by cases r1; cases r2; exact .bl b
  | _, _, _, _, _, .int i, r1, r2 => by cases r1; cases r2; exact .int i
  | _, _, _, _, _, .str x, r1, r2 => by cases r1; cases r2; exact .str x
  | _, _, _, _, _, .tup t, r1, r2 => by
    obtain ⟨a, vs, rfl, h1, _, l1⟩ := r1.tup_inv
    obtain ⟨b, us, rfl, h2, _, l2⟩ := r2.tup_inv
    exact .tup h1 h2 (SamL.val q t l1 l2)
  | _, _, _, _, _, .lst e1 e2 t, r1, r2 => by
    obtain ⟨a, vs, rfl, h1, l1⟩ := lstC_rep r1 q e1
    obtain ⟨b, us, rfl, h2, l2⟩ := lstC_rep r2 q e2
    exact .lst h1 h2 (SamL.val q t l1 l2)
  | _, _, _, _, _, .dct e1 e2 t, r1, r2 => by
    obtain ⟨a, vs, rfl, h1, l1⟩ := dctC_rep r1 q e1
    obtain ⟨b, us, rfl, h2, l2⟩ := dctC_rep r2 q e2
    exact .dct h1 h2 (SamK.val q t l1 l2)
theorem SamL.val (q : Rel K S H) : ∀ {n : Nat} {l m : List D} {vs us : List V}, SamL S n l m → RepL K S H l vs → RepL K S H m us → SamVL K H n vs us
  | _, _, _, _, _, .nil, .nil, .nil => .nil
  | _, _, _, _, _, .cons a t, .cons b1 c1, .cons b2 c2 => .cons (Sam.val q a b1 b2) (SamL.val q t c1 c2)
theorem SamK.val (q : Rel K S H) : ∀ {n : Nat} {l m : List (Key × D)} {vs us : List (Key × V)}, SamK S n l m → RepK K S H l vs → RepK K S H m us → SamVK K H n vs us
  | _, _, _, _, _, .nil, .nil, .nil => .nil
  | _, _, _, _, _, .cons a t, .cons b1 c1, .cons b2 c2 => .cons (Sam.val q a b1 b2) (SamK.val q t c1 c2)
end
/-- == (!=) of two lists that are alike to any depth -/
def fSam (neg : Bool) (x y : D) (S : Sto) (R : Pd) : Prop := ∃ n l m, lstC S x = some l ∧ lstC S y = some m ∧ n ≤ 60 ∧ SamL S n l m ∧ R (.bl (!neg)) S
theorem od_sam {neg : Bool} : OpD K (rSamL K (!neg)) (fSam neg) := by
  intro x y v u S H R Q q rx ry h hR
  obtain ⟨n, l, m, e1, e2, hn, t, h⟩ := h
  obtain ⟨a, vs, rfl, h1, l1⟩ := lstC_rep rx q e1
  obtain ⟨b, us, rfl, h2, l2⟩ := lstC_rep ry q e2
  exact ⟨n, a, b, vs, us, rfl, rfl, h1, h2, hn, SamL.val q t l1 l2, hR _ S _ H h q .refl (.bl _)⟩
end
section
variable {X : Cx} {F : Fr} {pos : Pos} {a b : Expr} {wa wb : WpE}
theorem e_same (r : X.A.units + 65 < cLine) (ha : WE X F a wa) (hb : WE X F b wb) (hm : behindInMarks .Eq b = false) : WE X F (.Compare a [.Eq] [b] pos) (wOp (fSam false) wa wb) := we_cmp (op_samEq (u64 r)) od_sam ha hb hm
theorem e_samne (r : X.A.units + 65 < cLine) (ha : WE X F a wa) (hb : WE X F b wb) (hm : behindInMarks .NotEq b = false) : WE X F (.Compare a [.NotEq] [b] pos) (wOp (fSam true) wa wb) := we_cmp (op_samNe (u64 r)) od_sam ha hb hm
theorem t_same (r : X.A.units + 65 < cLine) (ha : WE X F a wa) (hb : WE X F b wb) (hm : behindInMarks .Eq b = false) : WT X F (.Compare a [.Eq] [b] pos) (wB (wOp (fSam false) wa wb)) := wt_cmp (op_samEq (u64 r)) od_sam ha hb hm
theorem t_samne (r : X.A.units + 65 < cLine) (ha : WE X F a wa) (hb : WE X F b wb) (hm : behindInMarks .NotEq b = false) : WT X F (.Compare a [.NotEq] [b] pos) (wB (wOp (fSam true) wa wb)) := wt_cmp (op_samNe (u64 r)) od_sam ha hb hm
theorem m_clearD {o : Expr} {wo : WpE} {apos : Pos} (ho : WE X F o wo) (hb : baseOk o = true) (hline : (apos.endLine == pos.line) = true) : WE X F (.Call (.Attribute o "clear" apos) [] [] pos) (wMt "dict" fClearD wo wNil) :=
  we_bm0 PySem.F.plainAttrs_dict PySem.F.slot_dict_clear PySem.F.type_dict_clear mtd_clear md_clearD ho hb hline
end
end SB
end

section
set_option Elab.async false
set_option linter.all false
set_option maxRecDepth 100000
/-! SB18: sorted(set(l)) of a list of ints. -/
namespace SB
open PySem PySem.Spec L2 PyProof.Rows
abbrev emptyS (w : World) : Obj := { cls := .type "set", dict := none, data := .set #[] 0 (.fresh 0 0 (!w.params.followText "set-order")) }
section
variable {P : Program} {w : World} {A : Around} {E : Value → Shared → Prop} {s : Shared}
set_option maxRecDepth 100000 in
set_option maxHeartbeats 3200000 in
theorem call_set_lstI {l : Addr} {xs : Array Value} (ks : List Int) {Q : Value → Shared → Prop} (calm0 : A.handled = none) (isl : s.heap.IsList l xs) (ints0 : IntsAre xs.toList ks) (few : ks.length + 1 < scanBound)
    (h : ∀ (hp' : Heap) (tk c0 : Nat), SetR w hp' s.heap.objs.size (fun j => decide (j ∈ ks)) c0 → c0 ≤ ks.length → (∀ b o, s.heap.get? b = some o → hp'.get? b = some o) → Q (.ref s.heap.objs.size) { s with heap := hp', toks := tk }) :
    wpAny (model P w) A (call (.type "set") [.ref l]) Q E s := by
  have szq : xs.size = ks.length := by
    have q := IntsAre.length ints0
    rw [Array.length_toList] at q
    exact q
  obtain ⟨c0, tl0, mro1⟩ := PySem.F.called_set.mro
  have made1 := PySem.F.called_set.made
  have sub1 := PySem.F.called_set.sub
  refine wpAny_call (codeAny_of_tree ?_)
  show wpAny _ _ (callAny (.type "set") _) _ _ _
  refine wpAny_pure ⟨Code.quiet_builtin _ (by decide +kernel), codeAny_builtin F.entry_type_call ?_⟩
  rw [Around.under_plain (weight_type_call_type "set" [.ref l] []) rfl]
  have nt1 := PySem.F.called_set.notType
  have cc1 := PySem.F.called_set.canCreate
  have tc1 := F.typeCall_set_1 (.ref l)
  repeat any_goals first | assumption | wp_step

  refine codeAny_mono (code_set_led1 (.ref l) (E := E) (Q₁ := fun ob t1 => ob = .ref s.heap.objs.size ∧ t1 = { s with heap := s.heap.push (emptyS w) }) ⟨rfl, rfl⟩) fun r t1 q1 => ?_
  cases r with
  | error e => exact q1
  | ok f1 =>
    cases f1 with
    | ret ob =>
      obtain ⟨rfl, rfl⟩ := q1
      have atS : (s.heap.push (emptyS w)).get? s.heap.objs.size = some (emptyS w) := Heap.get?_push_size _ rfl
      have tyS : Shared.TypeIs { s with heap := s.heap.push (emptyS w) } (.ref s.heap.objs.size) "set" := ⟨_, atS, rfl⟩
      have li1 := PySem.F.called_set.init.lookup
      have bi1 := PySem.F.called_set.init.bind (.ref s.heap.objs.size)
      repeat any_goals first | assumption | wp_step

      refine codeAny_mono (codeAny_call_builtin (R := wants (fun r t2 => r = .none ∧ ∃ hp' tk c0, t2 = { s with heap := hp', toks := tk } ∧ SetR w hp' s.heap.objs.size (fun j => decide (j ∈ ks)) c0 ∧ c0 ≤ ks.length ∧
          (∀ b o, s.heap.get? b = some o → hp'.get? b = some o)) E) PySem.F.called_set.init.plain F.entry_set_init (check_set_init_1 tyS ?_)) fun r2 t2 q2 => ?_
      · obtain ⟨ob0, at0, cl0, n0, dt0⟩ := isl
        obtain ⟨k0, k1, k2, k3⟩ := ob0
        simp only at cl0 dt0
        subst cl0; subst dt0
        have at1 : (s.heap.push (emptyS w)).get? l = some { cls := .type "list", dict := k1, data := .seq xs n0, slots := k3 } := Heap.get?_push_of_some _ at0
        have ss1 := PySem.F.sub_list_set
        have ss2 := PySem.F.sub_list_frozenset
        have nd1 : (Value.type "list" == Value.type "dict") = false := by decide
        have isl1 : (s.heap.push (emptyS w)).IsList l xs := ⟨_, at1, rfl, n0, rfl⟩
        unfold Builtin.«set.__init__» noKeywords Builtin.Frozenset.updateFrom
        generalize pI : pyIter = ITER
        wp_walk
        subst pI

        refine wpAny_pyIter_list isl1 ?_
        refine wpAny_bind (wpAny_runValue ?_)
        have lt0 : l < s.heap.objs.size := Heap.lt_size at0
        have calm3 : A.in1.in1.in1.handled = none := by simp [calm0]
        have sz1 : (s.heap.push (emptyS w)).objs.size = s.heap.objs.size + 1 := Heap.size_push ..
        have ne1 : l ≠ (s.heap.push (emptyS w)).objs.size := by
          rw [Heap.size_push]; exact Nat.ne_of_lt (Nat.lt_succ_of_lt lt0)
        have nf1 : s.heap.objs.size ∉ [(s.heap.push (emptyS w)).objs.size, l] := by
          rw [Heap.size_push]; simp only [List.mem_cons, List.mem_singleton, List.not_mem_nil, or_false, not_or]
          exact ⟨Nat.ne_of_lt (Nat.lt_succ_self _), Nat.ne_of_gt lt0⟩
        have val1 : ∀ (i : Nat) (v : Value), xs[i]? = some v → ∃ k t, ks[i]? = some k ∧ v = .int k t := fun i v hv => by
          have i0 : i < ks.length := by rw [← szq]; exact (Array.getElem?_eq_some_iff.mp hv).1
          obtain ⟨t, e⟩ := PyProof.Rows.IntsAre.int_at ints0 i v (by rw [Array.getElem?_toList]; exact hv)
          refine ⟨ks[i], t, List.getElem?_eq_getElem i0, ?_⟩
          rw [e, List.getD_eq_getElem?_getD, List.getElem?_eq_getElem i0] <;> rfl
        refine set_update_ints ((Walks.list calm3 _ l ne1 xs).toS) s.heap.objs.size
          nf1 ks szq few val1 (xs.size - 0) 0 _ (by omega) (Nat.zero_le _)
          ⟨⟨_, Heap.get?_push_size _ rfl, rfl, rfl⟩, (isl1.push _)⟩ ?hS0 ?hR
        case hS0 =>
          have get1 : ((s.heap.push (emptyS w)).push { cls := .type "list_iterator", data := .fields #[.ref l, .int 0 0] }).get? s.heap.objs.size
              = some (emptyS w) := Heap.get?_push_of_some _ atS
          exact ⟨0, Nat.le_refl 0, setR_new_at get1⟩
        case hR =>
          intro s' c' mv1 le1 set1
          obtain ⟨hp', gg, dd', tk1, os1⟩ := s'
          have e1 : gg = s.gens := mv1.gens
          have e2 : dd' = s.drawn := mv1.drawn
          have e3 : os1 = s.os := mv1.os
          subst e1; subst e2; subst e3
          show wpAny _ _ _ _ _ _
          refine wpAny_pure ?_
          show wpAny _ _ (ret Value.none) _ _ _
          rw [szq] at le1
          refine wpAny_pure ⟨rfl, hp', tk1, c', rfl, set1, le1, fun b o e => ?_⟩
          have b0 : b < s.heap.objs.size := Heap.lt_size e
          have b1 : b ≠ s.heap.objs.size := Nat.ne_of_lt b0
          have b2 : b ≠ (s.heap.push (emptyS w)).objs.size := by
            rw [Heap.size_push]; exact Nat.ne_of_lt (Nat.lt_succ_of_lt b0)
          exact mv1.heap b o (by simp only [List.mem_cons, List.mem_singleton, List.not_mem_nil, or_false, not_or]; exact ⟨b1, b2⟩) (Heap.get?_push_of_some _ (Heap.get?_push_of_some _ e))

      · cases r2 with
        | error e => exact q2
        | ok f2 =>
          cases f2 with
          | ret r =>
            obtain ⟨rfl, hp', tk, c', rfl, set1, le1, kp1⟩ := q2
            repeat any_goals first | assumption | wp_step
            exact h _ _ _ set1 le1 kp1
          | _ => exact q2.elim
    | _ => exact q1.elim
end
def rSetL (K : PySem.W.Frag) (w : World) : List V → Hp → VK → Prop := fun xs H Q => ∃ (a : Addr) (ks : List Int), xs = [V.ref a] ∧ SqL K H a (ks.map V.int) ∧ ks.length < 64 ∧
  ∀ (p : Addr) (c : Nat), H p = none → c ≤ ks.length → Q (.ref p) (upd H p (SetO w p (fun j => decide (j ∈ ks)) c))
theorem cr_setL {X : Cx} (hc : X.calm = true) : CallR X (.type "set") (rSetL X.K X.w) := by
  intro pins s σ H vs us Q I r h
  obtain ⟨a, ks, rfl, hs, hn, q⟩ := h
  obtain ⟨its, rv, hl, _⟩ := I.list hs
  rw [Vals.ref1 r]
  have hi : IntsAre its.toArray.toList ks := by simpa using rv.ints
  refine call_set_lstI ks (I.ok.hd hc) hl.isList hi (by unfold scanBound; omega) fun hp' tk c R hle keep => ?_
  have hn : H s.heap.objs.size = none := I.hok.fresh (Nat.le_refl _)
  exact ⟨.ref s.heap.objs.size, _, I.call (ch := []) (Un.laid keep (Nat.le_refl _) hn) (I.hok.laid keep (Nat.le_refl _) (setO_new R)) I.bare (fun _ z => nomatch z), rfl, q _ c hn hle⟩
def wSortSet (own : Bool) (we : WpE) : WpE := fun ς S R RE => we ς S (fun x S1 => ∃ l ks, contOf S1 x = .l l ∧ intL l = some ks ∧ ks.length < 64 ∧ ∀ ms : List Int, ms.Pairwise (· < ·) → (∀ k, k ∈ ms ↔ k ∈ ks) → mkL own (ms.map .int) S1 R) RE
theorem ints_rep {K : PySem.W.Frag} {S : Sto} {H : Hp} : ∀ ms : List Int, RepL K S H (ms.map .int) (ms.map V.int)
  | [] => .nil
  | i :: r => .cons (.int i) (ints_rep r)
@[simp] theorem s_sortSet {own : Bool} {we : WpE} {ς : En} {S : Sto} {R : Pd} {RE : Px} : wSortSet own we ς S R RE = we ς S (fun x S1 => ∃ l ks, contOf S1 x = .l l ∧ intL l = some ks ∧ ks.length < 64 ∧ ∀ ms : List Int, ms.Pairwise (· < ·) → (∀ k, k ∈ ms ↔ k ∈ ks) → mkL own (ms.map .int) S1 R) RE := rfl
theorem bt_set : bootBuiltins "set" = some (.type "set") := by decide +kernel
theorem b_sortSet {X : Cx} {F : Fr} {a : Expr} {wa : WpE} {p p2 q pos : Pos} {own : Bool} (hc : X.calm = true) (hg : Gl X "sorted") (hm : X.mg "sorted" = none) (hg2 : Gl X "set") (hm2 : X.mg "set" = none) (ha : WE X F a wa) (hn : noStar a = true) :
    WE X F (.Call (.Name "sorted" p) [.Call (.Name "set" p2) [a] [] q] [] pos) (wSortSet own wa) :=
  (pe_callB (cr_sortedSet hc) hg hm bt_sorted (pa_cons (pe_callTy (cr_setL hc) hg2 hm2 bt_set (pa_cons ha pa_nil (starEach_cons (es := []) hn)) (by decide) (by decide) (starEach_cons (es := []) hn) rfl) pa_nil (by rfl)) (by decide) (by decide) (by rfl) rfl).imp fun σ H Q ⟨ς, S, R, g, k, hw, hR⟩ => by
    refine tE.mk g k hw fun x S1 v H1 h1 g1 k1 d1 r1 => ?_
    obtain ⟨l, ks, e1, e2, h2, h1⟩ := h1
    obtain ⟨a, vs, rfl, hq, rl, _⟩ := lstSq_rep r1 g1.rel e1
    rw [intL_eq e2] at rl
    rw [rl.ints] at hq
    refine ⟨a, ks, rfl, hq, h2, fun p c hp hc => ?_⟩
    refine ⟨p, _, c, rfl, upd_same, by omega, fun ms t m1 m2 _ ht => ?_⟩
    have q2 : Rel X.K S1 (upd H1 p (SetO X.w p (fun j => decide (j ∈ ks)) c)) := g1.rel.new hp
    exact (mkL_ok q2 (h1 ms m1 fun k => by rw [m2 k]; simp) (ints_rep ms) fun z S' v' H' q r k p => hR z S' v' H' q r (d1.trans ((Keep.new hp).trans k)) p).2 t ht
end SB
end

section
set_option Elab.async false
set_option linter.all false
set_option maxRecDepth 100000
set_option autoImplicit false
/-! SB19: for the laws' own part: frames, statements one by one, comprehensions and loops by an invariant. -/
namespace SB
open PySem PySem.Spec L2
@[simp] theorem sz_0 : 0 ≤ sizeLine := by decide
@[simp] theorem sz_1 : 1 ≤ sizeLine := by decide
@[simp] theorem sz_2 : 2 ≤ sizeLine := by decide
@[simp] theorem sz_3 : 3 ≤ sizeLine := by decide
@[simp] theorem sz_4 : 4 ≤ sizeLine := by decide
@[simp] theorem sz_5 : 5 ≤ sizeLine := by decide
@[simp] theorem sz_6 : 6 ≤ sizeLine := by decide
@[simp] theorem sz_7 : 7 ≤ sizeLine := by decide
@[simp] theorem sz_8 : 8 ≤ sizeLine := by decide
theorem sz1001 {n : Nat} (h : n ≤ 1000) : n + 1 ≤ sizeLine := Nat.le_trans (Nat.succ_le_succ h) (by decide)
/-- what comes behind a statement, left as it is -/
def later (b : WpS) : WpS := b
theorem later_of {b : WpS} {ς : En} {S : Sto} {E : ES} {XE : PxE} (h : b ς S E XE) : later b ς S E XE := h
theorem s_seqL {p q : WpS} {ς : En} {S : Sto} {E : ES} {XE : PxE} : wSeq p q ς S E XE = p ς S { E with nx := fun ς' S' => later q ς' S' E XE } XE := rfl
theorem dEqI {i j : Int} : dEq (.int i) (.int j) = decide (i = j) := by
  by_cases h : i = j
  · subst h; simp [dEq, pyD, PyData.eqv]
  · simp [dEq, pyD, PyData.eqv, h]
theorem intL2 {i j : Int} : intL [.int i, .int j] = some [i, j] := rfl
/-- what stood still stands, but for these -/
def Fm (A : List Addr) (S S' : Sto) : Prop := ∀ b, b ∉ A → S b ≠ none → S' b = S b
theorem Fm.refl {A : List Addr} {S : Sto} : Fm A S S := fun _ _ _ => rfl
theorem Fm.trans {A : List Addr} {S S1 S2 : Sto} (h : Fm A S S1) (k : Fm A S1 S2) : Fm A S S2 := fun b hb n => by
  have e := h b hb n
  rw [k b hb (by rw [e]; exact n), e]
theorem Fm.set {A : List Addr} {S : Sto} {a : Addr} {o : SO} (h : a ∈ A) : Fm A S (S.set a o) := fun b hb _ => Sto.set_ne (fun e => hb (e ▸ h))
theorem Fm.new {A : List Addr} {S : Sto} {a : Addr} {o : SO} (h : S a = none) : Fm A S (S.set a o) := fun b _ n => Sto.set_ne (fun e => n (e ▸ h))
theorem Fm.mono {A B : List Addr} {S S' : Sto} (f : Fm A S S') (h : ∀ b ∈ A, b ∈ B) : Fm B S S' := fun b hb n => f b (fun z => hb (h b z)) n
theorem Fm.at {A : List Addr} {S S' : Sto} {a : Addr} {o : SO} (f : Fm A S S') (e : S a = some o) (h : a ∉ A) : S' a = some o := by
  rw [f a h (by rw [e]; simp)]; exact e
theorem Fm.ne {A : List Addr} {S S' : Sto} {a b : Addr} {o : SO} (f : Fm A S S') (e : S a = some o) (h : a ∉ A) (n : S' b = none) : a ≠ b := fun z => by
  rw [z] at e h
  rw [f.at e h] at n
  cases n
theorem ne_of_S {S : Sto} {a b : Addr} {o : SO} (e : S a = some o) (n : S b = none) : a ≠ b := fun z => by
  rw [z, n] at e; cases e
section
variable {ς : En} {S : Sto} {R : Pd} {RE : Px} {wa we : WpE} {was : WpA} {ks : List Key}
theorem f_ixR {a : Addr} {l : List D} {i : Int} (h : S a = some (.lst l)) : fIx (.ref a) (.int i) S R = ∃ v, L2.atI l i = some v ∧ R v S := by
  simp [fIx, contOf_refL h]
theorem f_ixRD {a : Addr} {l : List (Key × D)} {k : Str} (h : S a = some (.dct l)) : fIx (.ref a) (.str k) S R = ∃ v, lookK (.inr k) l = some v ∧ R v S := by
  simp [fIx, contOf_refD h, keyOf]
theorem f_ixRI {a : Addr} {l : List (Key × D)} {k : Int} (h : S a = some (.dct l)) : fIx (.ref a) (.int k) S R = ∃ v, lookK (.inl k) l = some v ∧ R v S := by
  simp [fIx, contOf_refD h, keyOf]
theorem f_setIL {a : Addr} {l : List D} {i : Int} {y : D} {R : Sto → Prop} (h : S a = some (.lst l)) : fSetI (.ref a) (.int i) y S R = ∃ j, L2.ixN l.length i = some j ∧ R (S.set a (.lst (l.set j y))) := by
  simp [fSetI, h]
theorem f_setID {a : Addr} {l : List (Key × D)} {k : Str} {y : D} {R : Sto → Prop} (h : S a = some (.dct l)) : fSetI (.ref a) (.str k) y S R = (l.length + 1 ≤ sizeLine ∧ R (S.set a (.dct (putD (.inr k) y l)))) := by
  simp [fSetI, h, keyOf]
theorem f_lenR {a : Addr} {l : List D} (h : S a = some (.lst l)) : fLen [.ref a] S R = R (.int l.length) S := by simp [fLen, contOf_refL h]
theorem s_dictF : wDict false ks was ς S R RE = ∀ p, S p = none → was ς (S.set p (.dct [])) (fun xs S1 => S1 p = some (.dct []) ∧ xs.length = ks.length ∧ ks.length ≤ 15 ∧ R (.dct (mergeD [] (ks.zip xs))) (S1.del p)) RE := rfl
theorem s_dictO : wDict true ks was ς S R RE = ∀ p, S p = none → was ς (S.set p (.dct [])) (fun xs S1 => S1 p = some (.dct []) ∧ xs.length = ks.length ∧ ks.length ≤ 15 ∧ R (.ref p) (S1.set p (.dct (mergeD [] (ks.zip xs))))) RE := rfl
@[simp] theorem s_sl {own : Bool} {wl wh : Option WpE} : wSl own we wl wh ς S R RE = we ς S (fun x S1 => wPart wl ς S1 (fun lo S2 => wPart wh ς S2 (fun hi S3 => fSl own x lo hi S3 R) RE) RE) RE := rfl
@[simp] theorem s_partN {R : Option Int → Sto → Prop} : wPart none ς S R RE = R none S := rfl
@[simp] theorem s_partS {R : Option Int → Sto → Prop} : wPart (some we) ς S R RE = we ς S (fun x S1 => ∃ i, x = .int i ∧ R (some i) S1) RE := rfl
@[simp] theorem f_slT {own : Bool} {l : List D} {lo hi : Option Int} : fSl own (.tup l) lo hi S R = R (.tup (cutD l lo hi)) S := rfl
@[simp] theorem f_slL {l : List D} {lo hi : Option Int} : fSl false (.lst l) lo hi S R = ((cutD l lo hi).length ≤ sizeLine ∧ R (.lst (cutD l lo hi)) S) := rfl
theorem f_update {a : Addr} {l m : List (Key × D)} (h : S a = some (.dct l)) (hl : l.length + m.length ≤ 1000) (hR : R .non (S.set a (.dct (mergeD l m)))) : fUpdate (.ref a) [.dct m] S R :=
  ⟨a, l, _, m, rfl, h, rfl, rfl, (fun z => by cases z), sz1000 hl, hR⟩
theorem f_minI {i j : Int} : fMin [.int i, .int j] S R = R (.int (if j < i then j else i)) S := rfl
theorem f_maxI {i j : Int} : fMax [.int i, .int j] S R = R (.int (if j > i then j else i)) S := rfl
theorem f_intB {b : Bool} : fInt [.bl b] S R = R (.int (b2iD b)) S := rfl
@[simp] theorem s_isE {ad : Addr} {c C : String} {cs : List String} : wIsE ad c C cs we ς S R RE = we ς S (fun x S1 => x = .ref ad ∧ c ∈ cs ∧ c ≠ "NoPot" ∧ R (.bl (subB c C)) S1) RE := rfl
theorem s_tryAs {cs : List String} {C : String} {i : Nat} {wb : WpS} {ws : Addr → String → WpS} {E : ES} {XE : PxE} : wTryAs cs C i wb ws ς S E XE = wb ς S E (fun c ς' S' => c ∈ cs ∧ if subB c C = true then ∀ a, ws a c (ς'.set i (some (.ref a))) S' (E.unset i) (fun _ _ _ => False) else XE c ς' S') := rfl
theorem f_eqT1 {x y z : Bool} (h : R (.int ((([x, y].countP fun b => b == z) : Nat) : Int)) S) : fCount (.lst [.bl x, .bl y]) [.bl z] S R := by
  rw [f_countL]
  refine ⟨by cases x <;> cases y <;> decide, by cases z <;> decide, ?_⟩
  have e : ([D.bl x, D.bl y].countP fun b => dEq b (.bl z)) = [x, y].countP fun b => b == z := by cases x <;> cases y <;> cases z <;> decide
  rw [e]
  exact h
theorem f_idx0 {y : Bool} (h : R (.int 0) S) : fIndex (.lst [.bl true, .bl y]) [.bl true] S R :=
  ⟨_, _, 0, rfl, rfl, by cases y <;> decide, by decide, by cases y <;> decide, h⟩
theorem f_idx1 (h : R (.int 1) S) : fIndex (.lst [.bl false, .bl true]) [.bl true] S R :=
  ⟨_, _, 1, rfl, rfl, by decide, by decide, by decide, h⟩
theorem ret_pair {p : Addr} {l : List (Key × D)} {L : D} (hp : S p = none) (hL : pl L = true) (h : R (.tup [.dct l, L]) S) : Rz R (.tup [.ref p, L]) (S.set p (.dct l)) := by
  refine ⟨sb p (.dct l) (.tup [.ref p, L]), (S.set p (.dct l)).del p, Frz.sub (o := .dct l) (by simp) rfl, ?_⟩
  rw [sb, subL, subL, subL, sb, if_pos rfl, (sb_pl p _).1 L hL, Sto.del_set, Sto.del_none hp]
  exact h
@[simp] theorem s_for {wi : WpI} {t : Tg} {tb : WpS} {E : ES} {XE : PxE} : wFor wi t tb ς S E XE = wi ς S (fun xs gd S1 => forL gd t tb xs ς S1 E XE) (fun c S' => XE c ς S') := rfl
@[simp] theorem s_range {R : List D → Option (Addr × SO) → Sto → Prop} : wRange was ς S R RE = was ς S (fun xs S1 => ∃ j : Int, xs = [.int j] ∧ -(2 ^ 62) ≤ j ∧ j < 2 ^ 62 ∧ R (rngD 0 j.toNat) none S1) RE := by
  unfold wRange
  congr 1
  funext xs S1
  match xs with
  | [.int j] => simp
  | [] => simp
  | [.non] => simp
  | [.bl _] => simp
  | [.str _] => simp
  | [.tup _] => simp
  | [.lst _] => simp
  | [.dct _] => simp
  | [.ins _ _] => simp
  | [.scr _] => simp
  | [.ref _] => simp
  | [.exc _] => simp
  | _ :: _ :: _ => simp
@[simp] theorem s_enum {R : List D → Option (Addr × SO) → Sto → Prop} : wEnum was ς S R RE = was ς S (fun xs S1 => ∃ x l gd, xs = [x] ∧ srcL S1 x = some (false, l, gd) ∧ R (enumD 0 l) gd S1) RE := rfl
theorem f_dictR {own : Bool} {a : Addr} {l : List (Key × D)} (h : S a = some (.dct l)) : fDict own [.ref a] S R = mkD own l S R := by
  show (match contOf S (.ref a) with | .d l => mkD own l S R | .l l => ∃ ps, pairL l = some ps ∧ mkD own (mergeD [] ps) S R | _ => False) = _
  rw [contOf_refD h]
theorem f_listR {own : Bool} {a : Addr} {l : List D} (h : S a = some (.lst l)) : fList own [.ref a] S R = mkL own l S R := by
  show (match contOf S (.ref a) with | .d l => mkL own (l.map fun p : Key × D => keyD p.1) S R | .l l => mkL own l S R | .t l => mkL own l S R | _ => False) = _
  rw [contOf_refL h]
theorem f_listRD {own : Bool} {a : Addr} {l : List (Key × D)} (h : S a = some (.dct l)) : fList own [.ref a] S R = mkL own (l.map fun p => keyD p.1) S R := by
  show (match contOf S (.ref a) with | .d l => mkL own (l.map fun p : Key × D => keyD p.1) S R | .l l => mkL own l S R | .t l => mkL own l S R | _ => False) = _
  rw [contOf_refD h]
theorem ret_drop {p : Addr} {o : SO} {x : D} (hp : S p = none) (h : R x S) : Rz R x (S.set p o) := ⟨x, _, Frz.del (p := p), by rw [Sto.del_set, Sto.del_none hp]; exact h⟩
/-- an own list handed out is one that nobody owns -/
theorem ret_lst {p : Addr} {l : List D} (hp : S p = none) (h : R (.lst l) S) : Rz R (.ref p) (S.set p (.lst l)) := by
  refine ⟨sb p (.lst l) (.ref p), (S.set p (.lst l)).del p, Frz.sub (o := .lst l) (by simp) rfl, ?_⟩
  rw [sb, if_pos rfl, Sto.del_set, Sto.del_none hp]
  exact h
theorem at_map {α : Type} {g : α → D} {l : List α} {d : Int} (d0 : 0 ≤ d) (d1 : d < l.length) : ∃ x ∈ l, L2.atI (l.map g) d = some (g x) := by
  have h : d.toNat < l.length := by omega
  refine ⟨l[d.toNat], List.getElem_mem h, ?_⟩
  unfold L2.atI L2.ixN
  rw [if_pos d0, if_pos (by rw [List.length_map]; exact d1)]
  simp [h]
theorem atN {l : List D} {i : Nat} {x : D} (h : l[i]? = some x) : L2.atI l (i : Int) = some x := by
  have hl : i < l.length := (List.getElem?_eq_some_iff.mp h).1
  unfold L2.atI L2.ixN
  rw [if_pos (by omega), if_pos (by omega)]
  simpa using h
theorem ixnN {n i : Nat} (h : i < n) : L2.ixN n (i : Int) = some i := by
  unfold L2.ixN
  rw [if_pos (by omega), if_pos (by omega)]
  simp
theorem rngD_eq : ∀ (m : Nat) (lo : Nat), rngD (lo : Int) m = (List.range' lo m).map fun i => .int (i : Int)
  | 0, lo => rfl
  | m + 1, lo => by
    rw [List.range'_succ, List.map_cons, ← rngD_eq m (lo + 1)]
    rfl
theorem rngD_range (m : Nat) : rngD 0 m = (List.range m).map fun i => .int (i : Int) := by
  rw [List.range_eq_range']
  exact rngD_eq m 0
theorem map_range_get {α β : Type} (l : List α) (x0 : α) (f : α → β) : (List.range l.length).map (fun i => f (l.getD i x0)) = l.map f := by
  apply List.ext_getElem
  · simp
  · intro i h1 h2
    simp at h1 h2
    simp [List.getD_eq_getElem?_getD, h2]
theorem ixL_of {S : Sto} {R : Pd} {l : List D} {x : D} {i : Nat} (h : l[i]? = some x) : fIx (.lst l) (.int (i : Int)) S R = R x S := by
  rw [f_ixL, atN h]; simp
theorem ixT_of {S : Sto} {R : Pd} {l : List D} {x : D} {i : Nat} (h : l[i]? = some x) : fIx (.tup l) (.int (i : Int)) S R = R x S := by
  rw [f_ixT, atN h]; simp
theorem ixR_of {S : Sto} {R : Pd} {a : Addr} {l : List D} {x : D} {i : Nat} (hS : S a = some (.lst l)) (h : l[i]? = some x) : fIx (.ref a) (.int (i : Int)) S R = R x S := by
  rw [f_ixR hS, atN h]; simp
theorem get_map {α : Type} {g : α → D} {l : List α} {i : Nat} {x : α} (h : l[i]? = some x) : (l.map g)[i]? = some (g x) := by simp [h]
theorem lt_of {α : Type} {l : List α} {i : Nat} {x : α} (h : l[i]? = some x) : i < l.length := (List.getElem?_eq_some_iff.mp h).1
theorem get_ex {α : Type} {l : List α} {i : Nat} (x0 : α) (h : i < l.length) : l[i]? = some (l.getD i x0) := by
  rw [List.getD_eq_getElem?_getD, List.getElem?_eq_getElem h]; rfl
/-- where a walk of 0, 1, .. n - 1 stands -/
theorem range_at {n j : Nat} {done rest : List Nat} (e : List.range n = done ++ j :: rest) : done = List.range done.length ∧ j = done.length ∧ j < n := by
  have e3 := congrArg (List.take done.length) e
  rw [List.take_left' rfl, List.take_range] at e3
  have hlen := congrArg List.length e
  simp at hlen
  have e4 : (List.range n)[done.length]? = some j := by rw [e]; simp
  have hlt : done.length < n := by omega
  rw [List.getElem?_range hlt] at e4
  cases e4
  refine ⟨?_, rfl, hlt⟩
  rw [← e3, List.length_range, Nat.min_eq_left (by omega)]
/-! comprehensions -/
/-- each element pure, as the store stands -/
theorem lc_mapS {α : Type} {gd : Option (Addr × SO)} {g : α → D} {t : Tg} {p : Addr} {xs : List α} {K : List D → Sto → Prop} (f : α → D) (hgd : ∀ o, grd gd (S.set p o)) (hl : xs.length ≤ 1000)
    (hx : ∀ x ∈ xs, ∃ ς1, t.bind (g x) ς = some ς1 ∧ ∀ (o : SO) (R : Pd), R (f x) (S.set p o) → we ς1 (S.set p o) R (fun _ _ => False)) (h : K (xs.map f) (S.set p (.lst (xs.map f)))) : lcL gd t wYes we p ς (xs.map g) [] (S.set p (.lst [])) K := by
  have gen : ∀ (xs : List α) (acc : List D), xs.length + acc.length ≤ 1000 → (∀ x ∈ xs, ∃ ς1, t.bind (g x) ς = some ς1 ∧ ∀ (o : SO) (R : Pd), R (f x) (S.set p o) → we ς1 (S.set p o) R (fun _ _ => False)) →
      K (acc ++ xs.map f) (S.set p (.lst (acc ++ xs.map f))) → lcL gd t wYes we p ς (xs.map g) acc (S.set p (.lst acc)) K := by
    intro xs
    induction xs with
    | nil => intro acc _ _ h; exact ⟨hgd _, by simp, by simpa using h⟩
    | cons x xs ih =>
      intro acc hl hx h
      obtain ⟨ς1, e1, h1⟩ := hx x List.mem_cons_self
      refine ⟨hgd _, ς1, e1, ?_⟩
      simp only [s_yes, if_true]
      refine h1 _ _ ⟨by simp, sz1001 (by simp at hl; omega), ?_⟩
      rw [Sto.set_set]
      refine ih _ (by simp at hl ⊢; omega) (fun y hy => hx y (List.mem_cons_of_mem _ hy)) ?_
      simpa using h
  exact gen xs [] (by simpa using hl) hx (by simpa using h)
/-- .. and some of them alone -/
theorem lc_filterS {α : Type} {gd : Option (Addr × SO)} {g : α → D} {t : Tg} {wt : WpT} {p : Addr} {xs : List α} {K : List D → Sto → Prop} (c : α → Bool) (f : α → D) (hgd : ∀ o, grd gd (S.set p o)) (hl : xs.length ≤ 1000)
    (hx : ∀ x ∈ xs, ∃ ς1, t.bind (g x) ς = some ς1 ∧ (∀ (o : SO) (Rb : Bool → Sto → Prop), Rb (c x) (S.set p o) → wt ς1 (S.set p o) Rb (fun _ _ => False)) ∧ (∀ (o : SO) (R : Pd), R (f x) (S.set p o) → we ς1 (S.set p o) R (fun _ _ => False)))
    (h : K ((xs.filter c).map f) (S.set p (.lst ((xs.filter c).map f)))) : lcL gd t wt we p ς (xs.map g) [] (S.set p (.lst [])) K := by
  have gen : ∀ (xs : List α) (acc : List D), xs.length + acc.length ≤ 1000 → (∀ x ∈ xs, ∃ ς1, t.bind (g x) ς = some ς1 ∧ (∀ (o : SO) (Rb : Bool → Sto → Prop), Rb (c x) (S.set p o) → wt ς1 (S.set p o) Rb (fun _ _ => False)) ∧ (∀ (o : SO) (R : Pd), R (f x) (S.set p o) → we ς1 (S.set p o) R (fun _ _ => False))) →
      K (acc ++ (xs.filter c).map f) (S.set p (.lst (acc ++ (xs.filter c).map f))) → lcL gd t wt we p ς (xs.map g) acc (S.set p (.lst acc)) K := by
    intro xs
    induction xs with
    | nil => intro acc _ _ h; exact ⟨hgd _, by simp, by simpa using h⟩
    | cons x xs ih =>
      intro acc hl hx h
      obtain ⟨ς1, e1, h0, h1⟩ := hx x List.mem_cons_self
      refine ⟨hgd _, ς1, e1, ?_⟩
      refine h0 _ _ ?_
      by_cases hc : c x = true
      · rw [if_pos hc]
        refine h1 _ _ ⟨by simp, sz1001 (by simp at hl; omega), ?_⟩
        rw [Sto.set_set]
        refine ih _ (by simp at hl ⊢; omega) (fun y hy => hx y (List.mem_cons_of_mem _ hy)) ?_
        rw [List.filter_cons_of_pos hc] at h
        simpa using h
      · rw [if_neg hc]
        refine ih _ (by simp at hl ⊢; omega) (fun y hy => hx y (List.mem_cons_of_mem _ hy)) ?_
        rw [List.filter_cons_of_neg hc] at h
        exact h
  exact gen xs [] (by simpa using hl) hx (by simpa using h)
/-- each element changes the store -/
theorem lc_eff {α : Type} {gd : Option (Addr × SO)} {g : α → D} {t : Tg} {p : Addr} {xs : List α} {K : List D → Sto → Prop} (I : List α → List D → Sto → Prop) (hl : xs.length ≤ 1000)
    (hgd : ∀ done acc S, I done acc S → grd gd S) (hp : ∀ done acc S, I done acc S → S p = some (.lst acc))
    (step : ∀ done x rest acc S, xs = done ++ x :: rest → I done acc S → ∃ ς1, t.bind (g x) ς = some ς1 ∧ ∀ R : Pd, (∀ y S2, S2 p = some (.lst acc) → I (done ++ [x]) (acc ++ [y]) (S2.set p (.lst (acc ++ [y]))) → R y S2) → we ς1 S R (fun _ _ => False))
    (start : I [] [] S) (fin : ∀ acc S, I xs acc S → K acc S) : lcL gd t wYes we p ς (xs.map g) [] S K := by
  have gen : ∀ (rest done : List α) (acc : List D) (S : Sto), xs = done ++ rest → acc.length = done.length → I done acc S → lcL gd t wYes we p ς (rest.map g) acc S K := by
    intro rest
    induction rest with
    | nil =>
      intro done acc S e ha h
      rw [List.append_nil] at e
      subst e
      exact ⟨hgd _ _ _ h, hp _ _ _ h, fin _ _ h⟩
    | cons x rest ih =>
      intro done acc S e ha h
      obtain ⟨ς1, e1, h1⟩ := step done x rest acc S e h
      refine ⟨hgd _ _ _ h, ς1, e1, ?_⟩
      simp only [s_yes, if_true]
      refine h1 _ fun y S2 h2 h3 => ⟨h2, sz1001 (by rw [e] at hl; simp at hl; omega), ?_⟩
      exact ih (done ++ [x]) (acc ++ [y]) _ (by rw [e]; simp) (by simp [ha]) h3
  exact gen xs [] [] S rfl rfl start
/-- a loop by its invariant -/
theorem for_inv {α : Type} {gd : Option (Addr × SO)} {g : α → D} {t : Tg} {tb : WpS} {E : ES} {XE : PxE} {xs : List α} (I : List α → En → Sto → Prop) (hgd : ∀ done ς S, I done ς S → grd gd S)
    (step : ∀ done x rest ς S, xs = done ++ x :: rest → I done ς S → ∃ ς1, t.bind (g x) ς = some ς1 ∧ ∀ K : En → Sto → Prop, (∀ ς' S', I (done ++ [x]) ς' S' → K ς' S') → tb ς1 S { E with nx := K, ct := K, bk := E.nx } XE)
    (start : I [] ς S) (fin : ∀ ς S, I xs ς S → E.nx ς S) : forL gd t tb (xs.map g) ς S E XE := by
  have gen : ∀ (rest done : List α) (ς : En) (S : Sto), xs = done ++ rest → I done ς S → forL gd t tb (rest.map g) ς S E XE := by
    intro rest
    induction rest with
    | nil =>
      intro done ς S e h
      rw [List.append_nil] at e
      subst e
      exact ⟨hgd _ _ _ h, fin _ _ h⟩
    | cons x rest ih =>
      intro done ς S e h
      obtain ⟨ς1, e1, h1⟩ := step done x rest ς S e h
      exact ⟨hgd _ _ _ h, ς1, e1, h1 _ fun ς' S' h' => ih (done ++ [x]) ς' S' (by rw [e]; simp) h'⟩
  exact gen xs [] ς S rfl start
end
end SB
end

section
set_option Elab.async false
set_option linter.all false
set_option maxRecDepth 100000
set_option maxHeartbeats 2000000
/-! SB20: defs that may know that no repr is under way; repr of data. -/
namespace SB
open PySem PySem.Spec L2 PyProof.Rows
structure FnOkG (P : Program) (w : World) (K : PySem.W.Frag) (mg : Str → Option Value) (base : Heap) (CX : CXT) (k : Nat) (f : Addr) (fd : FuncData) (ps : List Str) (sp : Sp) : Prop where
  len0 : ∀ vs H Q E, sp vs H Q E → vs.length = ps.length
  run : ∀ (A : Around) (outer : List Env) (s : Shared) (H : Hp) (args : Args) (us : List Value) (vs : List V) (Q : VK) (E : XK), Room k A → A.guards = some [] → Env0 P w K mg base A outer s H → BindsTo s fd args (ps.zip us) → Vals vs us → sp vs H Q E →
    codeAny (model P w) A (.call (.ref f) args) (CR CX outer P w H s Q E) s
section
variable {P : Program} {w : World} {K : PySem.W.Frag} {mg : Str → Option Value} {base : Heap} {f : Addr} {fd : FuncData} {ps : List Str}
theorem FnOkG.mono {CX : CXT} {sp : Sp} {j k : Nat} (F : FnOkG P w K mg base CX j f fd ps sp) (h : j ≤ k) : FnOkG P w K mg base CX k f fd ps sp :=
  ⟨F.len0, fun A outer s H args us vs Q E hr => F.run A outer s H args us vs Q E (hr.mono h)⟩
theorem FnOkG.imp {CX : CXT} {sp sp' : Sp} {k : Nat} (F : FnOkG P w K mg base CX k f fd ps sp) (h : ∀ vs H Q E, sp' vs H Q E → sp vs H Q E) : FnOkG P w K mg base CX k f fd ps sp' :=
  ⟨fun vs H Q E q => F.len0 _ _ _ _ (h _ _ _ _ q), fun A outer s H args us vs Q E hr hg he hb hv hs => F.run A outer s H args us vs Q E hr hg he hb hv (h _ _ _ _ hs)⟩
theorem FnOkG.cxs {sp : Sp} {k : Nat} (F : FnOkG P w K mg base (L2.CX P w) k f fd ps sp) : FnOkG P w K mg base CXs k f fd ps sp :=
  ⟨F.len0, fun A outer s H args us vs Q E hr hg he hb hv hs => codeAny_mono (F.run A outer s H args us vs Q E hr hg he hb hv hs) fun r s' q => by
    cases r with
    | error e => exact ⟨P, w, q⟩
    | ok fl => cases fl <;> exact q⟩
end
theorem fnG_of {CX : CXT} {P : Program} {w : World} {K : PySem.W.Frag} {mg : Str → Option Value} {base : Heap} {k : Nat} {f : Addr} {name qual : Str} {params : Arguments} {body : List Stmt} {scope : Scope} {dV kV doc pm cdv ct oc : Value} {an od : Option Addr}
    {osl : Array (Option Value)} {N ps : List Str} {sp : Sp} (lk0 : K.lookup f = some ⟨oc, od, .func (PySem.W.fnOf name qual params body scope dV kV doc pm an cdv ct), osl⟩) (cd0 : PySem.W.codeIn K cdv qual = true) (S : FnScope N ps scope)
    (len0 : ∀ vs H Q E, sp vs H Q E → vs.length = ps.length)
    (body0 : ∀ (A : Around) (outer : List Env) (s : Shared) (H : Hp) (vs : List V) (Q : VK) (E : XK), Room k (A.deeper (envOfC qual scope s.heap.objs.size f cdv)) → A.guards = some [] → sp vs H Q E →
      ∃ t, PSs (cxOf CX P w K mg base N qual scope f cdv A outer s H E) body t ∧ t { nx := fun _ H' => Q .non H', rt := Q } (start N vs) H) :
    FnOkG P w K mg base CX (k + 1) f (PySem.W.fnOf name qual params body scope dV kV doc pm an cdv ct) ps sp := by
  refine ⟨len0, fun A outer s H args us vs Q E room0 hgd e0 bnd0 rv0 spec0 => ?_⟩
  have sz0 := len0 _ _ _ _ spec0
  have inK : K.In s.heap := e0.mod.kin.keeps fun b o e => (e0.bs b o e).1
  have lim0 : s.heap.NoLimit := e0.mod.nolimit.keeps fun b o e => (e0.bs b o e).1
  have kind0 : ∀ y ∈ ps.zip us, scope.names.lookup y.1 = some .local ∨ (scope.names.lookup y.1 = some .cell ∧ ((cellsFrom (s.heap.objs.size + 1) scope.names []).lookup y.1).isSome = true) := fun ⟨n, v⟩ hy => by
    rcases S.par n (List.of_mem_zip hy).1 with q | q
    · exact .inl q
    · exact .inr ⟨q, PySem.W.cellsFrom_some _ _ _ (.inl q)⟩
  refine codeAny_call_function room0.depth (inK _ _ lk0) rfl S.co S.gen rfl (PySem.W.codeRec_of inK cd0) (bnd0 _ _ _ _ ?_)
  refine wpAny_newFunctionEnv_cells S.kind kind0 fun env he0 s1 x => ?_
  subst he0
  refine ⟨lim0.keeps x.toInCall.keep, codeAny_func ?_⟩
  obtain ⟨t, t0, q0⟩ := body0 A outer s H vs Q E (room0.deeper _) hgd spec0
  have I : Inv (cxOf CX P w K mg base N qual scope f cdv A outer s H E) [] (start N vs) H s1 := inv_start S room0.hd e0 sz0 rv0 x
  refine wpAny_mono (t0.run [] s1 (start N vs) H _ I q0) (fun fl s' end0 => ?_) fun e s' end0 => end0
  have fin0 : ∀ {σ' : L2.St} {H' : Hp} {v : V} {u : Value}, Inv (cxOf CX P w K mg base N qual scope f cdv A outer s H E) [] σ' H' s' → RelV v u → Q v H' → CE outer P w H s Q u s' :=
    fun {σ' H' v u} J rv q => ⟨v, H', J.os, J.bare, J.base, J.hok, rv, q⟩
  cases fl with
  | ret u =>
    obtain ⟨v, σ', H', J, rv, q⟩ := end0
    exact fin0 J rv q
  | next =>
    obtain ⟨σ', H', J, q⟩ := end0
    exact fin0 (v := V.non) (u := Value.none) J rfl q
  | brk =>
    obtain ⟨_, _, _, q⟩ := end0
    exact False.elim q
  | cont =>
    obtain ⟨_, _, _, q⟩ := end0
    exact False.elim q
theorem law_callG {P : Program} {w : World} {K : PySem.W.Frag} {mg mB : Str → Option Value} {CX : CXT} {k : Nat} {fa a : Addr} {fd : FuncData} {x : Str} {sp : Sp} {t1 : Shared} {us0 : List Value} {ks : List Int}
    (inK : K.In t1.heap) (ns0 : t1.heap.Ns mainGlobals mg) (hb : t1.heap.Ns builtinsNs mB) (nsB : ∀ x : Str, x ≠ "__name__" → mB x = bootBuiltins x) (lim0 : t1.heap.NoLimit) (gen0 : t1.gens = #[])
    (at0 : t1.heap.get? a = some { cls := .type "list", data := .seq us0.toArray }) (int0 : IntsAre us0 ks) (len0 : ks.length ≤ sizeLine) (room0 : Room k callerA)
    (F : ∀ base : Heap, K.In base → base.Ns mainGlobals mg → FnOkG P w K mg base CX k fa fd [x] sp) (bnd0 : ∀ (s : Shared) (u : Value), BindsTo s fd ⟨[u], []⟩ [(x, u)])
    (spec0 : ∀ H : Hp, Only H → SqL K H a (ks.map V.int) → sp [.ref a] H (fun v _ => v = .bl true) fun _ _ _ => False)
    (cx0 : ∀ H e s', CX [] H t1 (fun _ _ _ => False) e s' → False) :
    codeAny (model P w) callerA (.call (.ref fa) ⟨[.ref a], []⟩) (fun r s' => r = .ok (.ret (.bool true)) ∧ OldK t1.heap s'.heap ∧ s'.os = t1.os ∧ AllBare s'.gens) t1 := by
  have vals0 := vals_ints int0
  have len1 := int0.length
  -- from an abstract heap in which nothing but the script may be tracked
  have main0 : ∀ H : Hp, Only H → SqL K H a (ks.map V.int) → HOk P w H t1.heap → (∀ b, H b ≠ none → b = a) → (H a ≠ none → K.lookup a = none) →
      codeAny (model P w) callerA (.call (.ref fa) ⟨[.ref a], []⟩) (fun r s' => r = .ok (.ret (.bool true)) ∧ OldK t1.heap s'.heap ∧ s'.os = t1.os ∧ AllBare s'.gens) t1 := by
    intro H only0 seq0 ok0 at1 key0
    have bsOf : ∀ {b : Addr} {o : Obj}, t1.heap.get? b = some o → H b = none → (hidT t1.heap H).get? b = some o := fun e n => hidT_get e n
    have notA : ∀ {b : Addr} {o : Obj} {es : Array DictEntry} {ep : Nat}, t1.heap.get? b = some o → o.data = .dict es ep → H b = none := fun {b o es ep} e d => by
      cases q : H b with
      | none => rfl
      | some u =>
        have ee : b = a := at1 b (by rw [q]; simp)
        subst ee
        rw [at0] at e; cases e
        have dd : Data.seq us0.toArray _ = Data.dict es ep := d
        cases dd
    have nsKK : ∀ {b : Addr} {m : Str → Option Value}, t1.heap.Ns b m → (hidT t1.heap H).Ns b m := fun {b m} ⟨o, es, ep, e, d, r⟩ => ⟨o, es, ep, bsOf e (notA e d), d, r⟩
    have inB : K.In (hidT t1.heap H) := fun b o e => bsOf (inK b o e) (by
      cases q : H b with
      | none => rfl
      | some u =>
        have ee : b = a := at1 b (by rw [q]; simp)
        subst ee
        rw [key0 (by rw [q]; simp)] at e; cases e)
    have mod0 : Mod K mg (hidT t1.heap H) := ⟨inB, nsKK ns0, ⟨mB, nsKK hb, nsB⟩, let ⟨mc, h1, h2⟩ := lim0; ⟨mc, nsKK h1, h2⟩⟩
    have e0 : Env0 P w K mg (hidT t1.heap H) callerA [] t1 H := ⟨rfl, mod0, fun b o e => of_hidT e, Nat.le_of_eq (hidT_size _ _), trivial, fun b hb => absurd (show b ∈ ([] : List Addr) from hb) (by simp), ok0, .of_eq gen0⟩
    refine codeAny_mono ((F _ inB (nsKK ns0)).run callerA [] t1 H ⟨[.ref a], []⟩ [.ref a] [.ref a] _ _ room0 rfl e0 (bnd0 t1 (.ref a)) (.cons rfl .nil) (spec0 H only0 seq0)) fun r s' h => ?_
    cases r with
    | error e => exact (cx0 H e s' h).elim
    | ok fl =>
      cases fl with
      | next => exact False.elim h
      | brk => exact False.elim h
      | cont => exact False.elim h
      | ret u =>
        obtain ⟨v, H', os, bare, un, hok', r', q⟩ := h
        have q' : v = .bl true := q
        subst q'
        obtain rfl : u = Value.bool true := r'
        refine ⟨rfl, OldK.of_keep fun b o e => ?_, os, bare⟩
        cases q : H b with
        | none => exact un.keep b o e q (by intro z; exact absurd (show b ∈ ([] : List Addr) from z) (by simp)) (by simp)
        | some u =>
          rcases only0 b with z | ⟨ob, xs, z⟩
          · rw [q] at z; cases z
          · have z2 := un.frzs b ob _ z
            obtain ⟨e1, _⟩ := ok0 b _ z
            obtain ⟨e2, _⟩ := hok' b _ z2
            rw [e] at e1; cases e1
            exact e2
  cases hkk : K.lookup a with
  | some o =>
    -- the script is one of the module's own objects
    have e := inK a o hkk
    rw [at0] at e
    cases e
    refine main0 (fun _ => none) (fun _ => .inl rfl) (.inr ⟨_, us0.toArray, _, hkk, rfl, rfl, rfl, by rw [List.size_toArray, len1]; exact len0, by simpa using vals0⟩) (fun b u z => by have z' : (none : Option HO) = some u := z; cases z') (fun b z => absurd rfl z) fun z => absurd rfl z
  | none =>
    refine main0 (fun b => if b = a then some (.frz { cls := .type "list", data := .seq us0.toArray } (.lst (ks.map V.int))) else none) (fun b => ?_) (.inl (.inr ⟨{ cls := .type "list", data := .seq us0.toArray }, if_pos rfl⟩)) (fun b u z => ?_) (fun b z => ?_) fun _ => hkk
    · by_cases hb : b = a
      · exact .inr ⟨_, _, if_pos hb⟩
      · exact .inl (if_neg hb)
    · by_cases hb : b = a
      · have z' := (if_pos hb).symm.trans z
        cases z'
        subst hb
        exact ⟨at0, by rw [List.length_map]; exact len0, us0, _, vals0, at0⟩
      · have z' := (if_neg hb).symm.trans z
        cases z'
    · by_cases hb : b = a
      · exact hb
      · exact absurd (if_neg hb) z
theorem walk_ofG {l : PySem.W.OpenLaw} {n k : Nat} {q : Program} {loose : List Str} {XP : (Str → Option Value) → Heap → Prop} {YP : World → Heap → Prop} {d : DefRec} {CX : CXT} {x : Str}
    (hn : l.most = some n) (hn2 : n ≤ sizeLine) (hdf : d.params.defaults = []) (hr : Room k callerA)
    (F : ∀ (w : World) (mg : Str → Option Value) (fa : Addr) (h : Heap), YP w h → h.Ns mainGlobals mg → mg d.name = some (.ref fa) →
      ∃ (K : PySem.W.Frag) (fd : FuncData) (sp : Sp), K.In h ∧ (∀ (s : Shared) (u : Value), BindsTo s fd ⟨[u], []⟩ [(x, u)]) ∧
        (∀ (H : Hp) (a : Addr) (ns : List Int), ns.length ≤ n → Only H → SqL K H a (ns.map V.int) → sp [.ref a] H (fun v _ => v = .bl true) fun _ _ _ => False) ∧ ∀ base : Heap, K.In base → base.Ns mainGlobals mg → FnOkG l.prog w K mg base CX k fa fd [x] sp)
    (hCX : ∀ (H : Hp) (s : Shared) (e : Value) (s' : Shared), CX [] H s (fun _ _ _ => False) e s' → False) : PySem.W.WalkO q loose XP YP l.row.toRowW d [] (fun f vs => PySem.call f vs) := by
  refine Att.attach_call hn hdf fun w s₀ t1 mg mb fa o pm cd doc a us ks G Y ho hd hcd hmg hobj hints hlen hg => ?_
  obtain ⟨K, fd, sp, inK, hb, hsp, hF⟩ := F w mg fa _ Y G.T.g hmg
  exact law_callG inK G.T.g G.T.b G.T.builtins G.T.nolimit hg hobj hints (Nat.le_trans hlen hn2) hr hF hb (fun H only0 seq0 => hsp H a ks hlen only0 seq0) fun H e s' => hCX H t1 e s'
section
variable {P : Program} {w : World} {K : PySem.W.Frag} {mg : Str → Option Value} {base : Heap} {x qual : Str} {params : Arguments} {body : List Stmt} {scope : Scope} {dvs : List V} {kws : List (Str × V)} {f : Addr} {fd : FuncData}
/-- what a body needs to know of its context, and that no repr is under way -/
structure BCG (k : Nat) (X : Cx) (F : Fr) : Prop extends BC k X F where
  gd : X.A.guards = some []
theorem body_okG {N ps : List Str} {k : Nat} {ws : WpS} {φ : Spec} (Fd : FunD K x qual params body scope dvs kws f fd) (Sc : FnScope N ps scope)
    (hw : ∀ (cdv : Value) (A : Around) (outer : List Env) (s : Shared) (H : Hp) (E : XK) (F : Fr), BCG k (cxOf (L2.CX P w) P w K mg base N qual scope f cdv A outer s H E) F → WSs (cxOf (L2.CX P w) P w K mg base N qual scope f cdv A outer s H E) F body ws)
    (hl : ∀ xs S R RE, φ xs S R RE → xs.length = ps.length)
    (hφ : ∀ xs S R RE, φ xs S R RE → ws (startE N xs) S ⟨fun _ S' => Rz R .non S', Rz R, fun _ _ => False, fun _ _ => False⟩ (fun c _ S' => RE c S')) : FnOkG P w K mg base (L2.CX P w) (k + 1) f fd ps (spOf K φ) := by
  obtain ⟨oc, od, dV, kV, doc, pm, an, cdv, ct, osl, rfl, lk, hcd, _, _⟩ := Fd.ex
  refine fnG_of lk hcd Sc (fun vs H Q E ⟨xs, S, R, RE, r, _, h, _⟩ => by rw [← r.length]; exact hl _ _ _ _ h) fun A outer s H vs Q E hr hgd ⟨xs, S, R, RE, r, q, h, hR, hRE⟩ => ?_
  refine ⟨_, hw cdv A outer s H E ⟨S, H, fun c _ S' => RE c S'⟩ ⟨⟨hr, ?_, passes_of rfl⟩, hgd⟩, startE N xs, S, _, start_good r q, .refl, hφ xs S R RE h, ?_⟩
  · refine (takes_of (E := E) rfl rfl rfl rfl).imp fun cls d σ H' ⟨c, ς, S', e, hd, g, k', z⟩ => ?_
    subst e
    exact hRE c d S' H' hd z g.rel k'
  · refine ⟨fun ς' S' σ' H' ⟨x', S2, fz, z⟩ g k' => ?_, fun x S' v H' ⟨x', S2, fz, z⟩ r' k' p => ?_, fun _ _ _ _ z => z.elim, fun _ _ _ _ z => z.elim⟩
    · obtain ⟨r2, k2, p2⟩ := fz K H' .non g.rel .non
      exact hR x' S2 .non H' z r2 (k'.trans k2) p2
    · obtain ⟨r2, k2, p2⟩ := fz K H' v r' p
      exact hR x' S2 v H' z r2 (k'.trans k2) p2
structure FnBdG (P : Program) (w : World) (K : PySem.W.Frag) (mg : Str → Option Value) (base : Heap) (k : Nat) (f : Addr) (n : Nat) (φ : Spec) : Prop where
  ok : ∃ fd ps, FnOkG P w K mg base (L2.CX P w) k f fd ps (spOf K φ) ∧ Binds K fd ps []
  kp : PySem.W.keepIn K (.ref f) = true
theorem FnBdG.mono {j k n : Nat} {φ : Spec} (h : FnBdG P w K mg base j f n φ) (l : j ≤ k) : FnBdG P w K mg base k f n φ := by
  obtain ⟨⟨fd, ps, a, b⟩, kp⟩ := h
  exact ⟨⟨fd, ps, a.mono l, b⟩, kp⟩
theorem fn_bdG {ps : List Str} {k : Nat} {φ : Spec} (n : Nat) (Fd : FunD K x qual params body scope [] kws f fd) (ok : FnOkG P w K mg base (L2.CX P w) k f fd ps (spOf K φ)) (b : Binds K fd ps []) : FnBdG P w K mg base k f n φ :=
  ⟨⟨fd, ps, ok, b⟩, Fd.kp⟩
end
section
variable {X : Cx} {F : Fr} {pos p : Pos} {e : Expr} {es : List Expr} {wa : WpA} {x : Str} {k n : Nat} {f : Addr} {φ : Spec}
theorem we_callG (B : FnBdG X.prog X.w X.K X.mg X.base k f n φ) (hr : Room k X.A) (gd : X.A.guards = some []) (tk : Takes X (wF X.K F)) (hg : Gl X x) (hm : X.mg x = some (.ref f)) (ha : WA X F (e :: es) wa) (hn : noStars (e :: es) = true)
    (hdb : (x == ("__debug__" : Str)) = false) : WE X F (.Call (.Name x p) (e :: es) [] pos) (wCall φ [] wa) := by
  refine ⟨fun pins s σ H Q I ⟨ς, S, R, g, kk, hw, hR⟩ => ?_⟩
  refine wpAny_Call_Name_kw (ld_glob I hg hm ?_ hdb)
  have hn' : noStar e = true ∧ noStars es = true := by simpa [noStars] using hn
  refine PySem.W.callWith_K (h₀ := X.base) I.ok.mod.kin B.kp ?_ (starEach_cons hn'.1) (back_any hn'.2)
  refine thn (ha.run pos pins s σ H _ I (tA.mk (Q := fun vs H1 => ∃ S1 xs, Good X.K ς S1 σ H1 ∧ Keep X.K F.S0 F.H0 S1 H1 ∧ Keep X.K S H S1 H1 ∧ RepL X.K S1 H1 xs vs ∧ φ (xs ++ []) S1 R (fun c S' => F.XE c ς S')) g kk hw fun xs S1 vs H1 h1 g1 k1 d1 r1 => ⟨S1, xs, g1, k1, d1, r1, h1⟩)) fun us s1 ⟨vs, H1, I1, r, S1, xs, g1, k1, d1, r1, h1⟩ => ⟨I1.kIn, ?_⟩
  obtain ⟨fd, ps, ok, hb⟩ := B.ok
  have h2 : spOf X.K φ vs H1 Q (fun cls d H' => wF X.K F cls d σ H') := ⟨xs, S1, R, _, r1, g1.rel, by simpa using h1, fun x S' v H' q r k p => hR x S' v H' q r (d1.trans k) p, fun c d S' H' hd q r' k' => ⟨c, ς, S', rfl, hd, g1.keep r' k', k1.trans k', q⟩⟩
  have hl : us.length = ps.length := by rw [← r.length]; exact ok.len0 _ _ _ _ h2
  have hx := passAt tk σ
  have hb2 := hb s1 us I1.kIn (by simpa using hl)
  simp only [List.append_nil] at hb2
  refine wpAny_call (codeAny_mono (ok.run X.A X.stack s1 H1 ⟨us, []⟩ us vs Q _ hr gd I1.env0 hb2 r h2) fun r s' hq => ?_)
  cases r with
  | error e => exact hx pins H1 s1 e s' I1 hq
  | ok fl =>
    cases fl with
    | ret u => exact I1.after hq
    | next => exact hq.elim
    | brk => exact hq.elim
    | cont => exact hq.elim
end
end SB
end

section
set_option Elab.async false
set_option linter.all false
set_option maxRecDepth 100000
set_option maxHeartbeats 2000000
set_option autoImplicit false
/-! SB21: repr of (number, list, dict), where no repr is under way; l[::-1]; a[i], b[j] = x, y; texts compared. -/
namespace SB
open PySem PySem.Spec L2
def oV : Option Int → V
  | none => .non
  | some i => .int i
def oD : Option Int → D
  | none => .non
  | some i => .int i
def oP : Option Int → PyData
  | none => .none
  | some i => .int i
def pyN (n : Int) (l : List Int) (m : List (Int × Option Int)) : List PyData := [.int n, .list (l.map .int), .dict (m.map fun p => (.int p.1, oP p.2))]
def shN (n : Int) (l : List Int) (m : List (Int × Option Int)) : Str := tupleText (PyData.shownAll (pyN n l m))
/-- items that read as data, each with its own way to say that sys.modules is no part of it -/
inductive ReadsE (h : Heap) : List Value → List PyData → Prop
  | nil : ReadsE h [] []
  | cons {v : Value} {vs : List Value} {d : PyData} {ds : List PyData} {as : List Addr} : Reads h v d as → (d.hasDict = true → sysModules ∉ as) → ReadsE h vs ds → ReadsE h (v :: vs) (d :: ds)
theorem ReadsE.all {h : Heap} : ∀ {vs : List Value} {ds : List PyData}, ReadsE h vs ds → ∃ as, ReadsAll h vs ds as
  | _, _, .nil => ⟨_, .nil⟩
  | _, _, .cons r _ t => by
    obtain ⟨bs, q⟩ := t.all
    exact ⟨_, .cons r q⟩
theorem most_append {h : Heap} {n : Nat} {as bs : List Addr} (a : ReadAtMost h n as) (b : ReadAtMost h n bs) : ReadAtMost h n (as ++ bs) := fun x hx => by
  rcases List.mem_append.mp hx with z | z
  · exact a x z
  · exact b x z
theorem most_le {h : Heap} {n m : Nat} {as : List Addr} (a : ReadAtMost h n as) (l : n ≤ m) : ReadAtMost h m as := fun x hx => by
  obtain ⟨d, bs, r, q⟩ := a x hx
  exact ⟨d, bs, r, Nat.le_trans q l⟩
theorem ReadsE.repr {P : Program} {w : World} {h : Heap} : ∀ {vs : List Value} {ds : List PyData}, ReadsE h vs ds → PyData.showableAll ds = true → (∀ t ∈ PyData.shownAll ds, t.length ≤ sizeLine) →
    ∃ bs, ReadAtMost h (PyData.depthAll ds) bs ∧ ReprAllK P w bs h (PyData.depthAll ds) vs (PyData.shownAll ds)
  | _, _, .nil, _, _ => ⟨[], (fun _ h => nomatch h), .nil⟩
  | _, _, .cons (v := v) (d := d) (ds := ds) r hm t, hs, hz => by
    simp only [PyData.showableAll, Bool.and_eq_true] at hs
    simp only [PyData.shownAll, List.mem_cons, forall_eq_or_imp] at hz
    obtain ⟨b1, m1, k1⟩ := ReprK.of_reads (prog := P) (w := w) r hs.1 hm hz.1
    obtain ⟨b2, m2, k2⟩ := ReadsE.repr (P := P) (w := w) t hs.2 hz.2
    have l1 : d.depth ≤ PyData.depthAll (d :: ds) := by simp only [PyData.depthAll]; omega
    have l2 : PyData.depthAll ds ≤ PyData.depthAll (d :: ds) := by simp only [PyData.depthAll]; omega
    refine ⟨b1 ++ b2, most_append (most_le m1 l1) (most_le m2 l2), ?_⟩
    simp only [PyData.shownAll]
    exact .cons ((k1.more fun x hx => List.mem_append_left _ hx).level_le l1) (k2.more_le (fun x hx => List.mem_append_right _ hx) l2)
theorem reads_ints {h : Heap} : ∀ {its : List Value} {ns : List Int}, Vals (ns.map V.int) its → ReadsAll h its (ns.map .int) []
  | [], [], _ => .nil
  | _ :: _, [], r => by cases r
  | [], _ :: _, r => by cases r
  | v :: its, i :: ns, r => by
    cases r with
    | cons a b =>
      obtain ⟨t, rfl⟩ := a
      exact ReadsAll.cons (as := []) (bs := []) (.int i t) (reads_ints b)
theorem reads_keys {h : Heap} {P : Program} {w : World} : ∀ {es : List DictEntry} {m : List (Int × Option Int)} {kvs : List (Key × Value)}, Pairs (mixKind P w) es kvs → KV (m.map fun p => ((.inl p.1 : Key), oV p.2)) kvs →
    ReadsAll h (es.map (·.key)) (m.map fun p => PyData.int p.1) [] ∧ ReadsAll h (es.map (·.val)) (m.map fun p => oP p.2) []
  | [], [], _, _, _ => ⟨.nil, .nil⟩
  | _, [], _, p, r => by
    cases r
    cases p
    exact ⟨.nil, .nil⟩
  | _, (k, o) :: m, _, p, r => by
    cases r with
    | cons a b =>
      cases p with
      | cons h1 h2 h3 =>
        rename_i q qs e es
        obtain ⟨k', v⟩ := q
        obtain ⟨e1, e2⟩ := a
        simp only at e1 e2 h1 h2
        subst e1
        obtain ⟨i1, i2⟩ := reads_keys (h := h) h3 b
        rcases keyIs_shape (show keyIs (.inl k) e.key = true from h1) with ⟨i, t, ek, ev⟩ | ⟨x, t, ek, ev⟩
        · cases ek
          refine ⟨ReadsAll.cons (as := []) (bs := []) (by show Reads h e.key (.int k) []; rw [ev]; exact .int k t) i1, ?_⟩
          refine ReadsAll.cons (as := []) (bs := []) ?_ i2
          show Reads h e.val (oP o) []
          rw [h2]
          cases o with
          | none => cases e2; exact .none
          | some j => obtain ⟨t, rfl⟩ := e2; exact .int j t
        · cases ek
theorem ints_noDict : ∀ l : List Int, PyData.hasDictAll (l.map PyData.int) = false
  | [] => rfl
  | i :: l => by rw [List.map_cons, PyData.hasDictAll, PyData.hasDict, ints_noDict l]; rfl
theorem ints_depth : ∀ l : List Int, PyData.depthAll (l.map PyData.int) = 0
  | [] => rfl
  | i :: l => by rw [List.map_cons, PyData.depthAll, PyData.depth, ints_depth l]; rfl
theorem opts_depth : ∀ m : List (Int × Option Int), PyData.depthKv (m.map fun p => (PyData.int p.1, oP p.2)) = 0
  | [] => rfl
  | (k, o) :: m => by
    rw [List.map_cons, PyData.depthKv, opts_depth m]
    cases o <;> rfl
/-- repr((n, l, d)) -/
def rRepr (K : PySem.W.Frag) : List V → Hp → VK → Prop := fun xs H Q => ∃ (a b c : Addr) (n : Int) (l : List Int) (m : List (Int × Option Int)), xs = [V.ref a] ∧ SqT K H a [.int n, .ref b, .ref c] ∧ SqL K H b (l.map V.int) ∧ Rd H c (.dK (m.map fun p => (.inl p.1, oV p.2))) ∧
  PyData.showableAll (pyN n l m) = true ∧ (shN n l m).length ≤ sizeLine ∧ Q (.str (shN n l m)) H
theorem cr_repr {X : Cx} (gd : X.A.guards = some []) (hu : X.A.units + 65 < cLine) : CallR X (.builtin "repr") (rRepr X.K) := by
  intro pins s σ H xs us Q I r h
  obtain ⟨a, b, c, n, l, m, rfl, ha, hb, hc, hs, hz, q⟩ := h
  rw [Vals.ref1 r]
  obtain ⟨its, rv, ⟨o, e1, e2, n', e3⟩, _⟩ := I.tuple ha
  obtain ⟨itb, rb, pb, _⟩ := I.list hb
  obtain ⟨⟨cls, dd, data, sls⟩, nb, f1, f2, f3, f4⟩ := pb
  obtain ⟨_, hsys, ws, kv, o2, es, ep, g1, ⟨g2, _⟩, g3, _, g5, _⟩ := dk_rd I.hok hc
  obtain ⟨q1, q2⟩ := reads_keys (h := s.heap) g5 kv
  have dR : Reads s.heap (.ref c) (.dict (m.map fun p => (PyData.int p.1, oP p.2))) [c] := by
    have z := Reads.dict (h := s.heap) (kvs := m.map fun p => (PyData.int p.1, oP p.2)) (as := []) (bs := []) g1 g2 g3 (by simpa [List.map_map, Function.comp_def] using q1) (by simpa [List.map_map, Function.comp_def] using q2)
    simpa using z
  have lR : Reads s.heap (.ref b) (.list (l.map .int)) [b] := Reads.list f1 f2 f4 (reads_ints (by simpa using rb))
  have hcs : sysModules ∉ [c] := by
    simp only [List.mem_singleton]
    intro e
    rw [← e] at hsys
    simp at hsys
  obtain ⟨v1, r1, rfl, a1, b1⟩ := vals_inv rv
  obtain ⟨v2, r2, rfl, a2, b2⟩ := vals_inv b1
  obtain ⟨v3, r3, rfl, a3, b3⟩ := vals_inv b2
  cases b3
  obtain ⟨t1, rfl⟩ := a1
  obtain rfl : v2 = Value.ref b := a2
  obtain rfl : v3 = Value.ref c := a3
  have nl : (PyData.list (l.map .int)).hasDict = true → sysModules ∉ [b] := fun z => by
    have := ints_noDict l
    simp [PyData.hasDict, this] at z
  have E : ReadsE s.heap [.int n t1, .ref b, .ref c] (pyN n l m) := .cons (.int n t1) (fun z => by simp [PyData.hasDict] at z) (.cons lR nl (.cons dR (fun _ => hcs) .nil))
  obtain ⟨bs, m1, k1⟩ := ReadsE.repr (P := X.prog) (w := X.w) E hs (fun t ht => Nat.le_trans (tupleText_mem_le ht) hz)
  obtain ⟨as, ra⟩ := E.all
  have hna : a ∉ bs := not_mem_of_deeper (Reads.tuple e1 e2 e3 ra) (by simp only [PyData.depth]; omega) m1
  have dep : PyData.depthAll (pyN n l m) ≤ 2 := by
    have d1 := ints_depth l
    have d2 := opts_depth m
    simp [pyN, PyData.depthAll, PyData.depth, d1, d2]
  refine call_repr_slot (by omega) ⟨o, e1, e2⟩ PySem.F.slot_tuple_repr (call_tuple_reprK e1 e2 e3 hna k1 (show X.A.in1.guards = some [] from gd) (fun b _ => Clear.nil b) (by show X.A.units + 1 + _ < cLine; omega) (fun _ _ e => e) (fun h' u tk hk => ⟨_, _, rfl, ?_⟩) hz)
  exact ⟨.str (shN n l m), H, I.kept (t' := tk) hk, ⟨u, rfl⟩, q⟩
/-- repr(x) -/
def fRepr : List D → Sto → Pd → Prop := fun xs S R => ∃ n l m, xs = [.tup [.int n, .lst (l.map .int), .dct (m.map fun p => (.inl p.1, oD p.2))]] ∧ PyData.showableAll (pyN n l m) = true ∧ (shN n l m).length ≤ sizeLine ∧ R (.str (shN n l m)) S
theorem repK_opt {K : PySem.W.Frag} {S : Sto} {H : Hp} : ∀ {m : List (Int × Option Int)} {kvs : List (Key × V)}, RepK K S H (m.map fun p => (.inl p.1, oD p.2)) kvs → kvs = m.map fun p => (.inl p.1, oV p.2)
  | [], _, r => by cases r; rfl
  | (k, o) :: m, _, r => by
    cases r with
    | cons a b =>
      rw [repK_opt b]
      cases o with
      | none => cases a; rfl
      | some i => cases a; rfl
theorem cd_repr {K : PySem.W.Frag} : CaD K (rRepr K) fRepr := by
  intro xs vs S H R Q q r h hR
  obtain ⟨n, l, m, rfl, hs, hz, h⟩ := h
  obtain ⟨v, rfl, rx⟩ := r.one
  obtain ⟨a, us, rfl, h1, _, l1⟩ := rx.tup_inv
  cases l1 with
  | cons a1 t1 =>
    cases t1 with
    | cons a2 t2 =>
      cases t2 with
      | cons a3 t3 =>
        cases t3
        cases a1
        cases a2 with
        | lst e2 n2 z2 r2 =>
          cases a3 with
          | dct e3 n3 z3 r3 =>
            rw [r2.ints] at e2
            rw [repK_opt r3] at e3
            exact ⟨_, _, _, n, l, m, rfl, h1, .of e2, e3, hs, hz, hR _ S _ H h q .refl (.str _)⟩
section
variable {X : Cx} {F : Fr} {pos p : Pos} {e a b : Expr} {es : List Expr} {was : WpA} {wa wb we : WpE}
theorem bt_repr : bootBuiltins "repr" = some (.builtin "repr") := by decide +kernel
theorem b_repr (gd : X.A.guards = some []) (hu : X.A.units + 65 < cLine) (hg : Gl X "repr") (hm : X.mg "repr" = none) (ha : WA X F (e :: es) was) (hs : noStars (e :: es) = true) : WE X F (.Call (.Name "repr" p) (e :: es) [] pos) (wFun fRepr was) :=
  we_callB (cr_repr gd hu) cd_repr hg hm bt_repr ha hs (by decide) (by decide)
/-! texts compared, whatever their signs -/
def rStrNe : R2 := fun x y H Q => ∃ i j, x = .str i ∧ y = .str j ∧ Q (.bl (i != j)) H
theorem op_strNe : OpR X (compareOp .NotEq) rStrNe := by
  intro pins s σ H x y v u Q I rx ry h
  obtain ⟨i, j, rfl, rfl, q⟩ := h
  obtain ⟨t1, rfl⟩ := rx
  obtain ⟨t2, rfl⟩ := ry
  exact PyProof.Rows.ne_str ⟨.bl (i != j), H, I, rfl, q⟩
def fStrNe (x y : D) (S : Sto) (R : Pd) : Prop := ∃ i j, x = .str i ∧ y = .str j ∧ R (.bl (i != j)) S
theorem od_strNe {K : PySem.W.Frag} : OpD K rStrNe fStrNe := by
  intro x y v u S H R Q q rx ry h hR
  obtain ⟨i, j, rfl, rfl, h⟩ := h
  cases rx; cases ry
  exact ⟨i, j, rfl, rfl, hR _ S _ H h q .refl (.bl _)⟩
theorem e_strNe (ha : WE X F a wa) (hb : WE X F b wb) (hm : behindInMarks .NotEq b = false) : WE X F (.Compare a [.NotEq] [b] pos) (wOp fStrNe wa wb) := we_cmp op_strNe od_strNe ha hb hm
theorem t_strNe (ha : WE X F a wa) (hb : WE X F b wb) (hm : behindInMarks .NotEq b = false) : WT X F (.Compare a [.NotEq] [b] pos) (wB (wOp fStrNe wa wb)) := wt_cmp op_strNe od_strNe ha hb hm
/-! l[::-1] -/
def fRev (own : Bool) (x : D) (S : Sto) (R : Pd) : Prop := ∃ l, contOf S x = .l l ∧ mkL own l.reverse S R
theorem RepL.rev {K : PySem.W.Frag} {S : Sto} {H : Hp} : ∀ {l : List D} {vs : List V}, RepL K S H l vs → RepL K S H l.reverse vs.reverse
  | _, _, .nil => .nil
  | _, _, .cons a t => by
    rw [List.reverse_cons, List.reverse_cons]
    exact (RepL.rev t).append (.cons a .nil)
theorem we_rev {own : Bool} {k : Nat} {p1 p2 p3 : Pos} (he : WE X F e we) : WE X F (.Subscript e (.Slice none none (some (.UnaryOp .USub (.Constant (.int 1) k p1) p2)) p3) pos) (wUn (fRev own) we) :=
  (pe_revL he).imp fun σ H Q h => by
    obtain ⟨ς, S, R, g, k, hw, hR⟩ := h
    refine tE.mk g k hw fun x S1 v H1 h1 g1 k1 d1 r1 => ?_
    obtain ⟨l, e, h1⟩ := h1
    obtain ⟨a, vs, rfl, hs, r, _⟩ := lstSq_rep r1 g1.rel e
    exact ⟨a, vs, rfl, hs, (mkL_ok g1.rel h1 r.rev fun z S' v' H' q r k p => hR z S' v' H' q r (d1.trans k) p).2⟩
end
end SB
namespace SB
open PySem PySem.Spec L2
/-! o[i], q[j] = x, y -/
def wSetI2 (wv wo wi wq wj : WpE) : WpS := fun ς S E XE => wv ς S (fun v S1 => ∃ x y, v = .tup [x, y] ∧ wo ς S1 (fun o S2 => wi ς S2 (fun i S3 => fSetI o i x S3 fun S4 => wq ς S4 (fun q S5 => wj ς S5 (fun j S6 => fSetI q j y S6 fun S7 => E.nx ς S7) (fun c S' => XE c ς S')) (fun c S' => XE c ς S')) (fun c S' => XE c ς S')) (fun c S' => XE c ς S')) (fun c S' => XE c ς S')
section
variable {X : Cx} {F : Fr} {pos p1 p2 : Pos} {k1 : Nat} {e o i q j : Expr} {we wo wi wq wj : WpE}
theorem ws_setI2 (hu : X.A.units + 1 < cLine) (hc : X.calm = true) (he : WE X F e we) (ho : WE X F o wo) (hi : WE X F i wi) (hq : WE X F q wq) (hj : WE X F j wj)
    (h1 : ∀ v, assign (.Subscript o i p1) X.env v = (do
      let ov ← holding [v] (eval o X.env)
      let iv ← holding [v, ov] (eval i X.env)
      standAt p1
      holding [v, ov, iv] (setItem ov iv v)
      release [v, ov, iv] []))
    (h2 : ∀ v, assign (.Subscript q j p2) X.env v = (do
      let ov ← holding [v] (eval q X.env)
      let iv ← holding [v, ov] (eval j X.env)
      standAt p2
      holding [v, ov, iv] (setItem ov iv v)
      release [v, ov, iv] []))
    (hn : (assignEach [.Subscript o i p1, .Subscript q j p2] X.env).length = 2) (hst : (assignEach [.Subscript o i p1, .Subscript q j p2] X.env).findIdx? (·.1) = none)
    (a1 : (assignEach [.Subscript o i p1, .Subscript q j p2] X.env).map (·.2) = assign (.Subscript o i p1) X.env :: (assignEach [.Subscript q j p2] X.env).map (·.2))
    (a2 : (assignEach [.Subscript q j p2] X.env).map (·.2) = assign (.Subscript q j p2) X.env :: (assignEach [] X.env).map (·.2))
    {tp : Pos} (hs : swapsWithSole [.Tuple [.Subscript o i p1, .Subscript q j p2] k1 tp] e pos.line X.env = pure false) (hw : swappedStores [.Tuple [.Subscript o i p1, .Subscript q j p2] k1 tp] e X.env = pure none)
    (hl : (assignEach [.Tuple [.Subscript o i p1, .Subscript q j p2] k1 tp] X.env).map (·.2) = [assign (.Tuple [.Subscript o i p1, .Subscript q j p2] k1 tp) X.env]) :
    WS X F (.Assign [.Tuple [.Subscript o i p1, .Subscript q j p2] k1 tp] e pos) (wSetI2 we wo wi wq wj) :=
  (ps_asg he (pg_tup (n := 2) hc (pgs_cons (pg_sub ho hi (set_ld hu) h1) (pgs_cons (pg_sub hq hj (set_ld hu) h2) pgs_nil a2) a1) hn hst) hs hw hl).imp fun D σ H ⟨ς, S, E, g, k, hw, eo⟩ => by
    refine tE.mk g k hw fun v S1 u H1 h g1 k1 d1 r1 => ?_
    obtain ⟨x, y, rfl, h⟩ := h
    obtain ⟨a, us, rfl, ht, _, rl⟩ := r1.tup_inv
    cases rl with
    | cons rx t1 =>
      cases t1 with
      | cons ry t2 =>
        cases t2
        refine ⟨a, _, rfl, ht, rfl, _, _, rfl, ?_⟩
        refine tE.mk g1 k1 h fun o S2 ov H2 h g2 k2 d2 r2 => tE.mk g2 k2 h fun i S3 iv H3 h g3 k3 d3 r3 => ?_
        refine setI_ok (S' := S3) g3.rel (d3 _ _ r2) r3 (d3 _ _ (d2 _ _ rx)) h fun S4 H4 h r4 k4 => ?_
        have g4 := g3.keep r4 k4
        refine ⟨_, _, rfl, ?_⟩
        refine tE.mk g4 (k3.trans k4) h fun o2 S5 ov2 H5 h g5 k5 d5 r5 => tE.mk g5 k5 h fun i2 S6 iv2 H6 h g6 k6 d6 r6 => ?_
        refine setI_ok (S' := S6) g6.rel (d6 _ _ r5) r6 (d6 _ _ (d5 _ _ (k4 _ _ (d3 _ _ (d2 _ _ ry))))) h fun S7 H7 h r7 k7 => ?_
        exact ⟨rfl, eo.nx _ _ _ _ h (g6.keep r7 k7) ((((((d1.trans d2).trans d3).trans k4).trans d5).trans d6).trans k7)⟩
end
end SB
end

section
set_option Elab.async false
set_option linter.all false
set_option maxRecDepth 100000
set_option maxHeartbeats 0
namespace L35
open SB PySem PySem.Spec L2
def top (i : Nat) : Stmt := PySem.Challenge.pw_sidebook_k35_papers_asked_again.main.body.getD i (.Pass ⟨0, 0, 0, 0⟩)
def inClass (s : Stmt) (j : Nat) : Stmt := match s with
  | .ClassDef _ _ _ body _ _ _ _ _ _ _ => body.getD j (.Pass ⟨0, 0, 0, 0⟩)
  | s => s
def mkDD (at_ : Str × Option Str) (name qual : Str) (st : Stmt) (dfl : List He.Dv) : He.DefD := ⟨at_, name, qual, defArgs st, defBody st, defScope st, dfl, []⟩
def excs : List String := []
def owncs : List String := ["View", "Reckoning"]
def subs : List (String × String) := [("View", "View"), ("Reckoning", "Reckoning")]
def ownsub (c C : String) : Bool := subs.contains (c, C)
def fn : List He.DefD := [
  mkDD (("shown_in_time" : Str), none) "shown_in_time" "shown_in_time" (top 2) [],
  mkDD (("sure" : Str), none) "sure" "sure" (top 3) [],
  mkDD (("reckoned" : Str), none) "reckoned" "reckoned" (top 5) [],
  mkDD (("own_shares" : Str), none) "own_shares" "own_shares" (top 6) [],
  mkDD (("choices" : Str), none) "choices" "choices" (top 7) [],
  mkDD (("paper" : Str), none) "paper" "paper" (top 8) [],
  mkDD (("worth" : Str), none) "worth" "worth" (top 9) [],
  mkDD (("right_days" : Str), none) "right_days" "right_days" (top 10) [],
  mkDD (("stands_up" : Str), none) "stands_up" "stands_up" (top 11) [],
  mkDD (("_law_well" : Str), none) "_law_well" "_law_well" (top 13) [],
  mkDD (("_law_draw" : Str), none) "_law_draw" "_law_draw" (top 14) [],
  mkDD (("_law_one" : Str), none) "_law_one" "_law_one" (top 15) [],
  mkDD (("_law_stand" : Str), none) "_law_stand" "_law_stand" (top 16) [],
  mkDD (("_law_view" : Str), none) "_law_view" "_law_view" (top 17) [],
  mkDD (("_law_kind" : Str), none) "_law_kind" "_law_kind" (top 18) [],
  mkDD (("_law_rows" : Str), none) "_law_rows" "_law_rows" (top 19) [],
  mkDD (("_law_fates" : Str), none) "_law_fates" "_law_fates" (top 20) [],
  mkDD (("_law_sum" : Str), none) "_law_sum" "_law_sum" (top 21) [],
  mkDD (("_law_due" : Str), none) "_law_due" "_law_due" (top 22) [],
  mkDD (("_law_right_paper" : Str), none) "_law_right_paper" "_law_right_paper" (top 23) [],
  mkDD (("_law_otherwise" : Str), none) "_law_otherwise" "_law_otherwise" (top 24) [],
  mkDD (("_law_asked" : Str), none) "_law_asked" "_law_asked" (top 25) [],
  mkDD (("law" : Str), none) "law" "law" (top 26) [],
  mkDD (("View" : Str), some ("__init__" : Str)) "__init__" "View.__init__" (inClass (top 1) 0) [],
  mkDD (("Reckoning" : Str), some ("__init__" : Str)) "__init__" "Reckoning.__init__" (inClass (top 4) 0) [],
  mkDD (("Reckoning" : Str), some ("put" : Str)) "put" "Reckoning.put" (inClass (top 4) 1) [],
  mkDD (("Reckoning" : Str), some ("with_day" : Str)) "with_day" "Reckoning.with_day" (inClass (top 4) 2) [],
  mkDD (("Reckoning" : Str), some ("days" : Str)) "days" "Reckoning.days" (inClass (top 4) 3) [],
  mkDD (("Reckoning" : Str), some ("worst" : Str)) "worst" "Reckoning.worst" (inClass (top 4) 4) []]
def fa : List He.Fa := [.glo "Reckoning", .glo "View", .glo "_law_asked", .glo "_law_draw", .glo "_law_due", .glo "_law_fates", .glo "_law_kind", .glo "_law_one", .glo "_law_otherwise", .glo "_law_right_paper", .glo "_law_rows", .glo "_law_stand", .glo "_law_sum", .glo "_law_view", .glo "_law_well", .glo "choices", .glo "own_shares", .glo "paper", .glo "reckoned", .glo "right_days", .glo "shown_in_time", .glo "stands_up", .glo "sure", .glo "worth", .free "all", .free "bool", .free "dict", .free "int", .free "isinstance", .free "len", .free "list", .free "range", .free "repr", .free "set", .free "sorted", .free "sum", .free "tuple", .free "zip", .noat "Reckoning" "fixed", .noat "Reckoning" "hanging"] ++ [.noat "Reckoning" "paying", .noat "View" "held", .noat "View" "known", .noat "View" "last", .noat "View" "span", .mkr "Reckoning", .cls "Reckoning", .mkr "View", .cls "View", .meth "Reckoning" "days", .meth "Reckoning" "put", .meth "Reckoning" "with_day", .meth "Reckoning" "worst", .glo "law"]
def ts : List He.Tab := []
def exl (K : PySem.W.Frag) : List Bool := []
def ex (K : PySem.W.Frag) : Bool := (exl K).all id
def names : List PySem.Str := (["View", "shown_in_time", "sure", "Reckoning", "reckoned", "own_shares", "choices", "paper", "worth", "right_days", "stands_up", "_law_well", "_law_draw", "_law_one", "_law_stand", "_law_view", "_law_kind", "_law_rows", "_law_fates", "_law_sum", "_law_due", "_law_right_paper", "_law_otherwise", "_law_asked"] : List PySem.Str)
abbrev R : PySem.W.OpenRow := PySem.W.OpenLaw.row PySem.Challenge.rw_sidebook_k35_papers_asked_again
abbrev hk : PySem.W.Hook := He.hookX 4 fa fn ts [] ex
def ob (s : PySem.W.SharedT) : He.AlX := He.obsX 4 fa fn ts [] ex (HandSHeadRun.getT s)
theorem ob_eq (s : PySem.W.SharedT) : ob s = hk.obs s.abs := He.obsX_eq (HandSHeadRun.getT_eq s)
structure Hd (w : World) (K : PySem.W.Frag) (mg : Str → Option Value) : Prop where
  ex : ∃ h, K.In h ∧ h.Ns mainGlobals mg ∧ He.SaysX fa fn ts [] ex w h K
section
variable {w : World} {K : PySem.W.Frag} {mg : Str → Option Value}
noncomputable def Hd.h (hd : Hd w K mg) : Heap := Classical.choose hd.ex
theorem Hd.X (hd : Hd w K mg) : K.In hd.h := (Classical.choose_spec hd.ex).1
theorem Hd.G (hd : Hd w K mg) : hd.h.Ns mainGlobals mg := (Classical.choose_spec hd.ex).2.1
theorem Hd.c (hd : Hd w K mg) : He.SaysX fa fn ts [] _root_.L35.ex w hd.h K := (Classical.choose_spec hd.ex).2.2
theorem exf (hd : Hd w K mg) {b : Bool} (h : b ∈ exl K) : b = true := List.all_eq_true.mp (show ((exl K).all id) = true from hd.c.more) b h
end
end L35
end

section
set_option Elab.async false
set_option linter.all false
set_option maxRecDepth 100000
set_option maxHeartbeats 0
namespace L35
open SB PySem PySem.Spec L2
theorem run1 (w : World) : True := trivial
theorem run : ∀ w, HandSHeadRun.RunEq R (PySem.W.view R.prog [26]) hk ob 6000 names w := PySem.W.byRow2 "special-get-raises" (fun w => by intro os; kernel_rfl) (fun w => by intro os; kernel_rfl)
end L35
end

section
set_option Elab.async false
set_option linter.all false
set_option maxRecDepth 100000
set_option maxHeartbeats 0
namespace L35
open SB PySem PySem.Spec L2
theorem we_globI' {X : Cx} {F : Fr} {pos : Pos} {x : Str} {i : Int} (h : ∃ t, X.mg x = some (.int i t)) (hg : Gl X x) (hd : (x == ("__debug__" : Str)) = false) : WE X F (.Name x pos) (wC (.int i)) := by
  obtain ⟨t, h⟩ := h
  exact we_globI hg h ⟨t, rfl⟩ hd
theorem _root_.SB.MkBd.mono' {P : Program} {w : World} {K : PySem.W.Frag} {mg : Str → Option Value} {base : Heap} {j k : Nat} {c : String} {n : Nat} {dds : List D} {φ : SB.Spec} (h : MkBd P w K mg base j c n dds φ) (l : j ≤ k) : MkBd P w K mg base k c n dds φ := by
  obtain ⟨⟨f, a, b⟩, c⟩ := h
  exact ⟨⟨f, a, b.mono l⟩, c⟩
theorem _root_.SB.MtBd.mono {P : Program} {w : World} {K : PySem.W.Frag} {mg : Str → Option Value} {base : Heap} {j k : Nat} {C : Addr} {m : Str} {n : Nat} {dds : List D} {φ : SB.Spec} (h : MtBd P w K mg base j C m n dds φ) (l : j ≤ k) : MtBd P w K mg base k C m n dds φ := by
  obtain ⟨f, a, b⟩ := h
  exact ⟨f, a, b.mono l⟩

theorem nd_Reckoning : (("Reckoning" : Str) == ("__debug__" : Str)) = false := by decide
theorem nc_Reckoning : (("Reckoning" : Str) == ("__classdict__" : Str)) = false := by decide
theorem nd_View : (("View" : Str) == ("__debug__" : Str)) = false := by decide
theorem nc_View : (("View" : Str) == ("__classdict__" : Str)) = false := by decide
theorem nd__law_asked : (("_law_asked" : Str) == ("__debug__" : Str)) = false := by decide
theorem nc__law_asked : (("_law_asked" : Str) == ("__classdict__" : Str)) = false := by decide
theorem nd__law_draw : (("_law_draw" : Str) == ("__debug__" : Str)) = false := by decide
theorem nc__law_draw : (("_law_draw" : Str) == ("__classdict__" : Str)) = false := by decide
theorem nd__law_due : (("_law_due" : Str) == ("__debug__" : Str)) = false := by decide
theorem nc__law_due : (("_law_due" : Str) == ("__classdict__" : Str)) = false := by decide
theorem nd__law_fates : (("_law_fates" : Str) == ("__debug__" : Str)) = false := by decide
theorem nc__law_fates : (("_law_fates" : Str) == ("__classdict__" : Str)) = false := by decide
theorem nd__law_kind : (("_law_kind" : Str) == ("__debug__" : Str)) = false := by decide
theorem nc__law_kind : (("_law_kind" : Str) == ("__classdict__" : Str)) = false := by decide
theorem nd__law_one : (("_law_one" : Str) == ("__debug__" : Str)) = false := by decide
theorem nc__law_one : (("_law_one" : Str) == ("__classdict__" : Str)) = false := by decide
theorem nd__law_otherwise : (("_law_otherwise" : Str) == ("__debug__" : Str)) = false := by decide
theorem nc__law_otherwise : (("_law_otherwise" : Str) == ("__classdict__" : Str)) = false := by decide
theorem nd__law_right_paper : (("_law_right_paper" : Str) == ("__debug__" : Str)) = false := by decide
theorem nc__law_right_paper : (("_law_right_paper" : Str) == ("__classdict__" : Str)) = false := by decide
theorem nd__law_rows : (("_law_rows" : Str) == ("__debug__" : Str)) = false := by decide
theorem nc__law_rows : (("_law_rows" : Str) == ("__classdict__" : Str)) = false := by decide
theorem nd__law_stand : (("_law_stand" : Str) == ("__debug__" : Str)) = false := by decide
theorem nc__law_stand : (("_law_stand" : Str) == ("__classdict__" : Str)) = false := by decide
theorem nd__law_sum : (("_law_sum" : Str) == ("__debug__" : Str)) = false := by decide
theorem nc__law_sum : (("_law_sum" : Str) == ("__classdict__" : Str)) = false := by decide
theorem nd__law_view : (("_law_view" : Str) == ("__debug__" : Str)) = false := by decide
theorem nc__law_view : (("_law_view" : Str) == ("__classdict__" : Str)) = false := by decide
theorem nd__law_well : (("_law_well" : Str) == ("__debug__" : Str)) = false := by decide
theorem nc__law_well : (("_law_well" : Str) == ("__classdict__" : Str)) = false := by decide
theorem nd_amount : (("amount" : Str) == ("__debug__" : Str)) = false := by decide
theorem nc_amount : (("amount" : Str) == ("__classdict__" : Str)) = false := by decide
theorem nd_at : (("at" : Str) == ("__debug__" : Str)) = false := by decide
theorem nc_at : (("at" : Str) == ("__classdict__" : Str)) = false := by decide
theorem nd_best : (("best" : Str) == ("__debug__" : Str)) = false := by decide
theorem nc_best : (("best" : Str) == ("__classdict__" : Str)) = false := by decide
theorem nd_bool : (("bool" : Str) == ("__debug__" : Str)) = false := by decide
theorem nc_bool : (("bool" : Str) == ("__classdict__" : Str)) = false := by decide
theorem nd_cell : (("cell" : Str) == ("__debug__" : Str)) = false := by decide
theorem nc_cell : (("cell" : Str) == ("__classdict__" : Str)) = false := by decide
theorem nd_choices : (("choices" : Str) == ("__debug__" : Str)) = false := by decide
theorem nc_choices : (("choices" : Str) == ("__classdict__" : Str)) = false := by decide
theorem nd_chosen : (("chosen" : Str) == ("__debug__" : Str)) = false := by decide
theorem nc_chosen : (("chosen" : Str) == ("__classdict__" : Str)) = false := by decide
theorem nd_day : (("day" : Str) == ("__debug__" : Str)) = false := by decide
theorem nc_day : (("day" : Str) == ("__classdict__" : Str)) = false := by decide
theorem nd_days : (("days" : Str) == ("__debug__" : Str)) = false := by decide
theorem nc_days : (("days" : Str) == ("__classdict__" : Str)) = false := by decide
theorem nd_every : (("every" : Str) == ("__debug__" : Str)) = false := by decide
theorem nc_every : (("every" : Str) == ("__classdict__" : Str)) = false := by decide
theorem nd_fate : (("fate" : Str) == ("__debug__" : Str)) = false := by decide
theorem nc_fate : (("fate" : Str) == ("__classdict__" : Str)) = false := by decide
theorem nd_fates : (("fates" : Str) == ("__debug__" : Str)) = false := by decide
theorem nc_fates : (("fates" : Str) == ("__classdict__" : Str)) = false := by decide
theorem nd_found : (("found" : Str) == ("__debug__" : Str)) = false := by decide
theorem nc_found : (("found" : Str) == ("__classdict__" : Str)) = false := by decide
theorem nd_handed : (("handed" : Str) == ("__debug__" : Str)) = false := by decide
theorem nc_handed : (("handed" : Str) == ("__classdict__" : Str)) = false := by decide
theorem nd_k : (("k" : Str) == ("__debug__" : Str)) = false := by decide
theorem nc_k : (("k" : Str) == ("__classdict__" : Str)) = false := by decide
theorem nd_kind : (("kind" : Str) == ("__debug__" : Str)) = false := by decide
theorem nc_kind : (("kind" : Str) == ("__classdict__" : Str)) = false := by decide
theorem nd_later : (("later" : Str) == ("__debug__" : Str)) = false := by decide
theorem nc_later : (("later" : Str) == ("__classdict__" : Str)) = false := by decide
theorem nd_least : (("least" : Str) == ("__debug__" : Str)) = false := by decide
theorem nc_least : (("least" : Str) == ("__classdict__" : Str)) = false := by decide
theorem nd_longer : (("longer" : Str) == ("__debug__" : Str)) = false := by decide
theorem nc_longer : (("longer" : Str) == ("__classdict__" : Str)) = false := by decide
theorem nd_look : (("look" : Str) == ("__debug__" : Str)) = false := by decide
theorem nc_look : (("look" : Str) == ("__classdict__" : Str)) = false := by decide
theorem nd_many : (("many" : Str) == ("__debug__" : Str)) = false := by decide
theorem nc_many : (("many" : Str) == ("__classdict__" : Str)) = false := by decide
theorem nd_number : (("number" : Str) == ("__debug__" : Str)) = false := by decide
theorem nc_number : (("number" : Str) == ("__classdict__" : Str)) = false := by decide
theorem nd_other : (("other" : Str) == ("__debug__" : Str)) = false := by decide
theorem nc_other : (("other" : Str) == ("__classdict__" : Str)) = false := by decide
theorem nd_own : (("own" : Str) == ("__debug__" : Str)) = false := by decide
theorem nc_own : (("own" : Str) == ("__classdict__" : Str)) = false := by decide
theorem nd_own_shares : (("own_shares" : Str) == ("__debug__" : Str)) = false := by decide
theorem nc_own_shares : (("own_shares" : Str) == ("__classdict__" : Str)) = false := by decide
theorem nd_paper : (("paper" : Str) == ("__debug__" : Str)) = false := by decide
theorem nc_paper : (("paper" : Str) == ("__classdict__" : Str)) = false := by decide
theorem nd_papers : (("papers" : Str) == ("__debug__" : Str)) = false := by decide
theorem nc_papers : (("papers" : Str) == ("__classdict__" : Str)) = false := by decide
theorem nd_parts : (("parts" : Str) == ("__debug__" : Str)) = false := by decide
theorem nc_parts : (("parts" : Str) == ("__classdict__" : Str)) = false := by decide
theorem nd_payer : (("payer" : Str) == ("__debug__" : Str)) = false := by decide
theorem nc_payer : (("payer" : Str) == ("__classdict__" : Str)) = false := by decide
theorem nd_pick : (("pick" : Str) == ("__debug__" : Str)) = false := by decide
theorem nc_pick : (("pick" : Str) == ("__classdict__" : Str)) = false := by decide
theorem nd_pots : (("pots" : Str) == ("__debug__" : Str)) = false := by decide
theorem nc_pots : (("pots" : Str) == ("__classdict__" : Str)) = false := by decide
theorem nd_prime : (("prime" : Str) == ("__debug__" : Str)) = false := by decide
theorem nc_prime : (("prime" : Str) == ("__classdict__" : Str)) = false := by decide
theorem nd_reckoned : (("reckoned" : Str) == ("__debug__" : Str)) = false := by decide
theorem nc_reckoned : (("reckoned" : Str) == ("__classdict__" : Str)) = false := by decide
theorem nd_right_days : (("right_days" : Str) == ("__debug__" : Str)) = false := by decide
theorem nc_right_days : (("right_days" : Str) == ("__classdict__" : Str)) = false := by decide
theorem nd_row : (("row" : Str) == ("__debug__" : Str)) = false := by decide
theorem nc_row : (("row" : Str) == ("__classdict__" : Str)) = false := by decide
theorem nd_rows : (("rows" : Str) == ("__debug__" : Str)) = false := by decide
theorem nc_rows : (("rows" : Str) == ("__classdict__" : Str)) = false := by decide
theorem nd_script : (("script" : Str) == ("__debug__" : Str)) = false := by decide
theorem nc_script : (("script" : Str) == ("__classdict__" : Str)) = false := by decide
theorem nd_seen : (("seen" : Str) == ("__debug__" : Str)) = false := by decide
theorem nc_seen : (("seen" : Str) == ("__classdict__" : Str)) = false := by decide
theorem nd_self : (("self" : Str) == ("__debug__" : Str)) = false := by decide
theorem nc_self : (("self" : Str) == ("__classdict__" : Str)) = false := by decide
theorem nd_shown : (("shown" : Str) == ("__debug__" : Str)) = false := by decide
theorem nc_shown : (("shown" : Str) == ("__classdict__" : Str)) = false := by decide
theorem nd_shown_in_time : (("shown_in_time" : Str) == ("__debug__" : Str)) = false := by decide
theorem nc_shown_in_time : (("shown_in_time" : Str) == ("__classdict__" : Str)) = false := by decide
theorem nd_side : (("side" : Str) == ("__debug__" : Str)) = false := by decide
theorem nc_side : (("side" : Str) == ("__classdict__" : Str)) = false := by decide
theorem nd_some : (("some" : Str) == ("__debug__" : Str)) = false := by decide
theorem nc_some : (("some" : Str) == ("__classdict__" : Str)) = false := by decide
theorem nd_stands : (("stands" : Str) == ("__debug__" : Str)) = false := by decide
theorem nc_stands : (("stands" : Str) == ("__classdict__" : Str)) = false := by decide
theorem nd_stands_up : (("stands_up" : Str) == ("__debug__" : Str)) = false := by decide
theorem nc_stands_up : (("stands_up" : Str) == ("__classdict__" : Str)) = false := by decide
theorem nd_sure : (("sure" : Str) == ("__debug__" : Str)) = false := by decide
theorem nc_sure : (("sure" : Str) == ("__classdict__" : Str)) = false := by decide
theorem nd_tau : (("tau" : Str) == ("__debug__" : Str)) = false := by decide
theorem nc_tau : (("tau" : Str) == ("__classdict__" : Str)) = false := by decide
theorem nd_tie : (("tie" : Str) == ("__debug__" : Str)) = false := by decide
theorem nc_tie : (("tie" : Str) == ("__classdict__" : Str)) = false := by decide
theorem nd_tied_word : (("tied_word" : Str) == ("__debug__" : Str)) = false := by decide
theorem nc_tied_word : (("tied_word" : Str) == ("__classdict__" : Str)) = false := by decide
theorem nd_ties : (("ties" : Str) == ("__debug__" : Str)) = false := by decide
theorem nc_ties : (("ties" : Str) == ("__classdict__" : Str)) = false := by decide
theorem nd_told : (("told" : Str) == ("__debug__" : Str)) = false := by decide
theorem nc_told : (("told" : Str) == ("__classdict__" : Str)) = false := by decide
theorem nd_total : (("total" : Str) == ("__debug__" : Str)) = false := by decide
theorem nc_total : (("total" : Str) == ("__classdict__" : Str)) = false := by decide
theorem nd_view : (("view" : Str) == ("__debug__" : Str)) = false := by decide
theorem nc_view : (("view" : Str) == ("__classdict__" : Str)) = false := by decide
theorem nd_views : (("views" : Str) == ("__debug__" : Str)) = false := by decide
theorem nc_views : (("views" : Str) == ("__classdict__" : Str)) = false := by decide
theorem nd_well : (("well" : Str) == ("__debug__" : Str)) = false := by decide
theorem nc_well : (("well" : Str) == ("__classdict__" : Str)) = false := by decide
theorem nd_word : (("word" : Str) == ("__debug__" : Str)) = false := by decide
theorem nc_word : (("word" : Str) == ("__classdict__" : Str)) = false := by decide
theorem nd_words : (("words" : Str) == ("__debug__" : Str)) = false := by decide
theorem nc_words : (("words" : Str) == ("__classdict__" : Str)) = false := by decide
theorem nd_worth : (("worth" : Str) == ("__debug__" : Str)) = false := by decide
theorem nc_worth : (("worth" : Str) == ("__classdict__" : Str)) = false := by decide
section
variable {P : Program} {w : World} {K : PySem.W.Frag} {mg : Str → Option Value} {base : Heap}
theorem g_Reckoning (hd : Hd w K mg) : mg "Reckoning" = some (.ref (He.ga K "Reckoning")) := He.glo_ok hd.X hd.G (hd.c.t.d.fact 0 rfl)
theorem g_View (hd : Hd w K mg) : mg "View" = some (.ref (He.ga K "View")) := He.glo_ok hd.X hd.G (hd.c.t.d.fact 1 rfl)
theorem g__law_asked (hd : Hd w K mg) : mg "_law_asked" = some (.ref (He.ga K "_law_asked")) := He.glo_ok hd.X hd.G (hd.c.t.d.fact 2 rfl)
theorem g__law_draw (hd : Hd w K mg) : mg "_law_draw" = some (.ref (He.ga K "_law_draw")) := He.glo_ok hd.X hd.G (hd.c.t.d.fact 3 rfl)
theorem g__law_due (hd : Hd w K mg) : mg "_law_due" = some (.ref (He.ga K "_law_due")) := He.glo_ok hd.X hd.G (hd.c.t.d.fact 4 rfl)
theorem g__law_fates (hd : Hd w K mg) : mg "_law_fates" = some (.ref (He.ga K "_law_fates")) := He.glo_ok hd.X hd.G (hd.c.t.d.fact 5 rfl)
theorem g__law_kind (hd : Hd w K mg) : mg "_law_kind" = some (.ref (He.ga K "_law_kind")) := He.glo_ok hd.X hd.G (hd.c.t.d.fact 6 rfl)
theorem g__law_one (hd : Hd w K mg) : mg "_law_one" = some (.ref (He.ga K "_law_one")) := He.glo_ok hd.X hd.G (hd.c.t.d.fact 7 rfl)
theorem g__law_otherwise (hd : Hd w K mg) : mg "_law_otherwise" = some (.ref (He.ga K "_law_otherwise")) := He.glo_ok hd.X hd.G (hd.c.t.d.fact 8 rfl)
theorem g__law_right_paper (hd : Hd w K mg) : mg "_law_right_paper" = some (.ref (He.ga K "_law_right_paper")) := He.glo_ok hd.X hd.G (hd.c.t.d.fact 9 rfl)
theorem g__law_rows (hd : Hd w K mg) : mg "_law_rows" = some (.ref (He.ga K "_law_rows")) := He.glo_ok hd.X hd.G (hd.c.t.d.fact 10 rfl)
theorem g__law_stand (hd : Hd w K mg) : mg "_law_stand" = some (.ref (He.ga K "_law_stand")) := He.glo_ok hd.X hd.G (hd.c.t.d.fact 11 rfl)
theorem g__law_sum (hd : Hd w K mg) : mg "_law_sum" = some (.ref (He.ga K "_law_sum")) := He.glo_ok hd.X hd.G (hd.c.t.d.fact 12 rfl)
theorem g__law_view (hd : Hd w K mg) : mg "_law_view" = some (.ref (He.ga K "_law_view")) := He.glo_ok hd.X hd.G (hd.c.t.d.fact 13 rfl)
theorem g__law_well (hd : Hd w K mg) : mg "_law_well" = some (.ref (He.ga K "_law_well")) := He.glo_ok hd.X hd.G (hd.c.t.d.fact 14 rfl)
theorem g_choices (hd : Hd w K mg) : mg "choices" = some (.ref (He.ga K "choices")) := He.glo_ok hd.X hd.G (hd.c.t.d.fact 15 rfl)
theorem g_own_shares (hd : Hd w K mg) : mg "own_shares" = some (.ref (He.ga K "own_shares")) := He.glo_ok hd.X hd.G (hd.c.t.d.fact 16 rfl)
theorem g_paper (hd : Hd w K mg) : mg "paper" = some (.ref (He.ga K "paper")) := He.glo_ok hd.X hd.G (hd.c.t.d.fact 17 rfl)
theorem g_reckoned (hd : Hd w K mg) : mg "reckoned" = some (.ref (He.ga K "reckoned")) := He.glo_ok hd.X hd.G (hd.c.t.d.fact 18 rfl)
theorem g_right_days (hd : Hd w K mg) : mg "right_days" = some (.ref (He.ga K "right_days")) := He.glo_ok hd.X hd.G (hd.c.t.d.fact 19 rfl)
theorem g_shown_in_time (hd : Hd w K mg) : mg "shown_in_time" = some (.ref (He.ga K "shown_in_time")) := He.glo_ok hd.X hd.G (hd.c.t.d.fact 20 rfl)
theorem g_stands_up (hd : Hd w K mg) : mg "stands_up" = some (.ref (He.ga K "stands_up")) := He.glo_ok hd.X hd.G (hd.c.t.d.fact 21 rfl)
theorem g_sure (hd : Hd w K mg) : mg "sure" = some (.ref (He.ga K "sure")) := He.glo_ok hd.X hd.G (hd.c.t.d.fact 22 rfl)
theorem g_worth (hd : Hd w K mg) : mg "worth" = some (.ref (He.ga K "worth")) := He.glo_ok hd.X hd.G (hd.c.t.d.fact 23 rfl)
theorem n_all (hd : Hd w K mg) : mg "all" = none := He.free_ok hd.X hd.G (hd.c.t.d.fact 24 rfl)
theorem n_bool (hd : Hd w K mg) : mg "bool" = none := He.free_ok hd.X hd.G (hd.c.t.d.fact 25 rfl)
theorem n_dict (hd : Hd w K mg) : mg "dict" = none := He.free_ok hd.X hd.G (hd.c.t.d.fact 26 rfl)
theorem n_int (hd : Hd w K mg) : mg "int" = none := He.free_ok hd.X hd.G (hd.c.t.d.fact 27 rfl)
theorem n_isinstance (hd : Hd w K mg) : mg "isinstance" = none := He.free_ok hd.X hd.G (hd.c.t.d.fact 28 rfl)
theorem n_len (hd : Hd w K mg) : mg "len" = none := He.free_ok hd.X hd.G (hd.c.t.d.fact 29 rfl)
theorem n_list (hd : Hd w K mg) : mg "list" = none := He.free_ok hd.X hd.G (hd.c.t.d.fact 30 rfl)
theorem n_range (hd : Hd w K mg) : mg "range" = none := He.free_ok hd.X hd.G (hd.c.t.d.fact 31 rfl)
theorem n_repr (hd : Hd w K mg) : mg "repr" = none := He.free_ok hd.X hd.G (hd.c.t.d.fact 32 rfl)
theorem n_set (hd : Hd w K mg) : mg "set" = none := He.free_ok hd.X hd.G (hd.c.t.d.fact 33 rfl)
theorem n_sorted (hd : Hd w K mg) : mg "sorted" = none := He.free_ok hd.X hd.G (hd.c.t.d.fact 34 rfl)
theorem n_sum (hd : Hd w K mg) : mg "sum" = none := He.free_ok hd.X hd.G (hd.c.t.d.fact 35 rfl)
theorem n_tuple (hd : Hd w K mg) : mg "tuple" = none := He.free_ok hd.X hd.G (hd.c.t.d.fact 36 rfl)
theorem n_zip (hd : Hd w K mg) : mg "zip" = none := He.free_ok hd.X hd.G (hd.c.t.d.fact 37 rfl)
theorem na_Reckoning_fixed (hd : Hd w K mg) : ∀ c ∈ (["Reckoning"] : List String), NoAttr K (clA K c) (Str.ofString "fixed") := by
  intro c hc
  simp only [List.mem_cons, List.not_mem_nil, or_false] at hc
  subst hc
  · exact He.noat_ok (hd.c.t.d.fact 38 rfl)
theorem na_Reckoning_hanging (hd : Hd w K mg) : ∀ c ∈ (["Reckoning"] : List String), NoAttr K (clA K c) (Str.ofString "hanging") := by
  intro c hc
  simp only [List.mem_cons, List.not_mem_nil, or_false] at hc
  subst hc
  · exact He.noat_ok (hd.c.t.d.fact 39 rfl)
theorem na_Reckoning_paying (hd : Hd w K mg) : ∀ c ∈ (["Reckoning"] : List String), NoAttr K (clA K c) (Str.ofString "paying") := by
  intro c hc
  simp only [List.mem_cons, List.not_mem_nil, or_false] at hc
  subst hc
  · exact He.noat_ok (hd.c.t.d.fact 40 rfl)
theorem na_View_held (hd : Hd w K mg) : ∀ c ∈ (["View"] : List String), NoAttr K (clA K c) (Str.ofString "held") := by
  intro c hc
  simp only [List.mem_cons, List.not_mem_nil, or_false] at hc
  subst hc
  · exact He.noat_ok (hd.c.t.d.fact 41 rfl)
theorem na_View_known (hd : Hd w K mg) : ∀ c ∈ (["View"] : List String), NoAttr K (clA K c) (Str.ofString "known") := by
  intro c hc
  simp only [List.mem_cons, List.not_mem_nil, or_false] at hc
  subst hc
  · exact He.noat_ok (hd.c.t.d.fact 42 rfl)
theorem na_View_last (hd : Hd w K mg) : ∀ c ∈ (["View"] : List String), NoAttr K (clA K c) (Str.ofString "last") := by
  intro c hc
  simp only [List.mem_cons, List.not_mem_nil, or_false] at hc
  subst hc
  · exact He.noat_ok (hd.c.t.d.fact 43 rfl)
theorem na_View_span (hd : Hd w K mg) : ∀ c ∈ (["View"] : List String), NoAttr K (clA K c) (Str.ofString "span") := by
  intro c hc
  simp only [List.mem_cons, List.not_mem_nil, or_false] at hc
  subst hc
  · exact He.noat_ok (hd.c.t.d.fact 44 rfl)
theorem mkr_Reckoning (hd : Hd w K mg) : Mk K (clA K "Reckoning") (He.ma K (clA K "Reckoning") "__init__") := He.mkr_ok (hd.c.t.d.fact 45 rfl)
theorem cl_Reckoning (hd : Hd w K mg) : Cls K (clA K "Reckoning") := He.cls_ok (hd.c.t.d.fact 46 rfl)
theorem mkr_View (hd : Hd w K mg) : Mk K (clA K "View") (He.ma K (clA K "View") "__init__") := He.mkr_ok (hd.c.t.d.fact 47 rfl)
theorem cl_View (hd : Hd w K mg) : Cls K (clA K "View") := He.cls_ok (hd.c.t.d.fact 48 rfl)
theorem me_Reckoning_days (hd : Hd w K mg) : Meth K (clA K "Reckoning") "days" (He.ma K (clA K "Reckoning") "days") := He.meth_ok (hd.c.t.d.fact 49 rfl)
theorem me_Reckoning_put (hd : Hd w K mg) : Meth K (clA K "Reckoning") "put" (He.ma K (clA K "Reckoning") "put") := He.meth_ok (hd.c.t.d.fact 50 rfl)
theorem me_Reckoning_with_day (hd : Hd w K mg) : Meth K (clA K "Reckoning") "with_day" (He.ma K (clA K "Reckoning") "with_day") := He.meth_ok (hd.c.t.d.fact 51 rfl)
theorem me_Reckoning_worst (hd : Hd w K mg) : Meth K (clA K "Reckoning") "worst" (He.ma K (clA K "Reckoning") "worst") := He.meth_ok (hd.c.t.d.fact 52 rfl)
/-! shown_in_time -/
def N_shown_in_time : List Str := ["tie", "seen"]
theorem sc_shown_in_time : FnScope N_shown_in_time ["tie", "seen"] (defScope (top 2)) := ⟨rfl, rfl, rfl, by decide +kernel, rfl, by decide +kernel, by decide +kernel⟩
def w_shown_in_time : WpS := (wRet (wAnd (wOp (fIn false) (wOp fIx (wVar 0) (wC (.int 2))) (wVar 1)) (wOp (fCmp cmpLt) (wOp fIx (wVar 1) (wOp fIx (wVar 0) (wC (.int 2)))) (wOp fIx (wVar 0) (wC (.int 3))))))
def φ_shown_in_time : SB.Spec := fun xs S R RE => xs.length = 2 ∧ w_shown_in_time (startE N_shown_in_time xs) S ⟨fun _ S' => Rz R .non S', Rz R, fun _ _ => False, fun _ _ => False⟩ (fun c _ S' => RE c S')
theorem k_shown_in_time (hd : Hd w K mg) {q nm : Str} {dvs : List V} {kws : List (Str × V)} {f : Addr} {fd : FuncData} (Fd : FunD K nm q (defArgs (top 2)) (defBody (top 2)) (defScope (top 2)) dvs kws f fd) : FnOk P w K mg base (L2.CX P w) 1 f fd ["tie", "seen"] (spOf K φ_shown_in_time) :=
  body_ok (N := N_shown_in_time) (ws := w_shown_in_time) Fd sc_shown_in_time (fun cdv A outer s H E F bc =>
  (wss_one (ws_ret (we_and (e_in bc.room.u65 (we_ix (u1 bc.room.u65) (we_var (i := 0) rfl (.inl rfl) nd_tie nc_tie) we_int (fun _ _ => rfl)) (we_var (i := 1) rfl (.inl rfl) nd_seen nc_seen) rfl) (we_one (e_lt (we_ix (u1 bc.room.u65) (we_var (i := 1) rfl (.inl rfl) nd_seen nc_seen) (we_ix (u1 bc.room.u65) (we_var (i := 0) rfl (.inl rfl) nd_tie nc_tie) we_int (fun _ _ => rfl)) (fun _ _ => rfl)) (we_ix (u1 bc.room.u65) (we_var (i := 0) rfl (.inl rfl) nd_tie nc_tie) we_int (fun _ _ => rfl)) rfl)))))) (fun _ _ _ _ h => h.1) (fun _ _ _ _ h => h.2)
theorem B_shown_in_time (hd : Hd w K mg) : FnBd P w K mg base 1 (He.ga K "shown_in_time") 2 [] φ_shown_in_time := by
  obtain ⟨fd, Fd⟩ := hd.c.t.d.def_ 0 (d := mkDD (("shown_in_time" : Str), none) "shown_in_time" "shown_in_time" (top 2) []) rfl
  exact fn_bd _ Fd (k_shown_in_time hd Fd) (FunD.bindsN Fd fun _ _ _ _ _ _ us hl => match us, hl with | [_, _], _ => rfl)
/-! sure -/
def N_sure : List Str := ["view", "tie"]
theorem sc_sure : FnScope N_sure ["view", "tie"] (defScope (top 3)) := ⟨rfl, rfl, rfl, by decide +kernel, rfl, by decide +kernel, by decide +kernel⟩
def w_sure : WpS := (wRet (wAnd (wOp (fIn false) (wOp fIx (wVar 1) (wC (.int 2))) (wFld "known" (wVar 0))) (wOp (fCmp cmpLt) (wOp (fAdd false) (wFld "last" (wVar 0)) (wFld "span" (wVar 0))) (wOp fIx (wVar 1) (wC (.int 3))))))
def φ_sure : SB.Spec := fun xs S R RE => xs.length = 2 ∧ w_sure (startE N_sure xs) S ⟨fun _ S' => Rz R .non S', Rz R, fun _ _ => False, fun _ _ => False⟩ (fun c _ S' => RE c S')
theorem k_sure (hd : Hd w K mg) {q nm : Str} {dvs : List V} {kws : List (Str × V)} {f : Addr} {fd : FuncData} (Fd : FunD K nm q (defArgs (top 3)) (defBody (top 3)) (defScope (top 3)) dvs kws f fd) : FnOk P w K mg base (L2.CX P w) 1 f fd ["view", "tie"] (spOf K φ_sure) :=
  body_ok (N := N_sure) (ws := w_sure) Fd sc_sure (fun cdv A outer s H E F bc =>
  (wss_one (ws_ret (we_and (e_in bc.room.u65 (we_ix (u1 bc.room.u65) (we_var (i := 1) rfl (.inl rfl) nd_tie nc_tie) we_int (fun _ _ => rfl)) (we_fld (f := "known") (we_var (i := 0) rfl (.inl rfl) nd_view nc_view) rfl) rfl) (we_one (e_lt (we_add (own := false) (we_fld (f := "last") (we_var (i := 0) rfl (.inl rfl) nd_view nc_view) rfl) (we_fld (f := "span") (we_var (i := 0) rfl (.inl rfl) nd_view nc_view) rfl)) (we_ix (u1 bc.room.u65) (we_var (i := 1) rfl (.inl rfl) nd_tie nc_tie) we_int (fun _ _ => rfl)) rfl)))))) (fun _ _ _ _ h => h.1) (fun _ _ _ _ h => h.2)
theorem B_sure (hd : Hd w K mg) : FnBd P w K mg base 1 (He.ga K "sure") 2 [] φ_sure := by
  obtain ⟨fd, Fd⟩ := hd.c.t.d.def_ 1 (d := mkDD (("sure" : Str), none) "sure" "sure" (top 3) []) rfl
  exact fn_bd _ Fd (k_sure hd Fd) (FunD.bindsN Fd fun _ _ _ _ _ _ us hl => match us, hl with | [_, _], _ => rfl)
/-! Reckoning___init__ -/
def N_Reckoning___init__ : List Str := ["self"]
theorem sc_Reckoning___init__ : FnScope N_Reckoning___init__ ["self"] (defScope (inClass (top 4) 0)) := ⟨rfl, rfl, rfl, by decide +kernel, rfl, by decide +kernel, by decide +kernel⟩
def w_Reckoning___init__ : WpS := (wSeq (wSetF ["Reckoning"] "fixed" (wC (.int 0)) (wVar 0))
  (wSeq (wSetF ["Reckoning"] "paying" (wLst true wNil) (wVar 0))
  (wSetF ["Reckoning"] "hanging" (wLst true wNil) (wVar 0))))
def φ_Reckoning___init__ : SB.Spec := fun xs S R RE => xs.length = 1 ∧ w_Reckoning___init__ (startE N_Reckoning___init__ xs) S ⟨fun _ S' => Rz R .non S', Rz R, fun _ _ => False, fun _ _ => False⟩ (fun c _ S' => RE c S')
theorem k_Reckoning___init__ (hd : Hd w K mg) {q nm : Str} {dvs : List V} {kws : List (Str × V)} {f : Addr} {fd : FuncData} (Fd : FunD K nm q (defArgs (inClass (top 4) 0)) (defBody (inClass (top 4) 0)) (defScope (inClass (top 4) 0)) dvs kws f fd) : FnOk P w K mg base (L2.CX P w) 1 f fd ["self"] (spOf K φ_Reckoning___init__) :=
  body_ok (N := N_Reckoning___init__) (ws := w_Reckoning___init__) Fd sc_Reckoning___init__ (fun cdv A outer s H E F bc =>
  (wss_cons (ws_setF (cs := ["Reckoning"]) (f := "fixed") (na_Reckoning_fixed hd) we_int (we_var (i := 0) rfl (.inl rfl) nd_self nc_self) rfl)
  (wss_cons (ws_setF (cs := ["Reckoning"]) (f := "paying") (na_Reckoning_paying hd) (we_lst (own := true) wa_nil) (we_var (i := 0) rfl (.inl rfl) nd_self nc_self) rfl)
  (wss_one (ws_setF (cs := ["Reckoning"]) (f := "hanging") (na_Reckoning_hanging hd) (we_lst (own := true) wa_nil) (we_var (i := 0) rfl (.inl rfl) nd_self nc_self) rfl))))) (fun _ _ _ _ h => h.1) (fun _ _ _ _ h => h.2)
theorem B_Reckoning___init__ (hd : Hd w K mg) {q nm : Str} {f : Addr} (Fd : ∃ fd, FunD K nm q (defArgs (inClass (top 4) 0)) (defBody (inClass (top 4) 0)) (defScope (inClass (top 4) 0)) [] [] f fd) : FnBd P w K mg base 1 f 1 [] φ_Reckoning___init__ := by
  obtain ⟨fd, Fd⟩ := Fd
  exact fn_bd _ Fd (k_Reckoning___init__ hd Fd) (FunD.bindsN Fd fun _ _ _ _ _ _ us hl => match us, hl with | [_], _ => rfl)
/-! Reckoning_put -/
def N_Reckoning_put : List Str := ["self", "view", "side", "seen", "tie", "shown"]
theorem sc_Reckoning_put : FnScope N_Reckoning_put ["self", "view", "side", "seen", "tie"] (defScope (inClass (top 4) 1)) := ⟨rfl, rfl, rfl, by decide +kernel, rfl, by decide +kernel, by decide +kernel⟩
def w_Reckoning_put : WpS := (wSeq (wSet 5 (wCall φ_shown_in_time [] (wCons (wVar 4) (wCons (wVar 3) wNil))))
  (wIf (wB (wOp (fEq false) (wOp fIx (wVar 4) (wC (.int 0))) (wVar 2))) (wIf (wB (wAnd (wNot (wVar 5)) (wOp (fCmp cmpGe) (wFld "last" (wVar 1)) (wOp fIx (wVar 4) (wC (.int 3)))))) (wSetF ["Reckoning"] "fixed" (wOp (fAdd false) (wFld "fixed" (wVar 0)) (wOp fIx (wVar 4) (wC (.int 1)))) (wVar 0)) (wIf (wB (wNot (wVar 5))) (wExpr (wMt "list" fAppend (wFld "paying" (wVar 0)) (wCons (wVar 4) wNil))) wNx)) (wIf (wB (wOr (wVar 5) (wAnd (wOp (fCmp cmpLt) (wFld "last" (wVar 1)) (wOp fIx (wVar 4) (wC (.int 3)))) (wCall φ_sure [] (wCons (wVar 1) (wCons (wVar 4) wNil)))))) (wSetF ["Reckoning"] "fixed" (wOp (fAdd false) (wFld "fixed" (wVar 0)) (wOp fIx (wVar 4) (wC (.int 1)))) (wVar 0)) (wIf (wB (wOp (fCmp cmpLt) (wFld "last" (wVar 1)) (wOp fIx (wVar 4) (wC (.int 3))))) (wExpr (wMt "list" fAppend (wFld "hanging" (wVar 0)) (wCons (wVar 4) wNil))) wNx))))
def φ_Reckoning_put : SB.Spec := fun xs S R RE => xs.length = 5 ∧ w_Reckoning_put (startE N_Reckoning_put xs) S ⟨fun _ S' => Rz R .non S', Rz R, fun _ _ => False, fun _ _ => False⟩ (fun c _ S' => RE c S')
theorem k_Reckoning_put (hd : Hd w K mg) {q nm : Str} {dvs : List V} {kws : List (Str × V)} {f : Addr} {fd : FuncData} (Fd : FunD K nm q (defArgs (inClass (top 4) 1)) (defBody (inClass (top 4) 1)) (defScope (inClass (top 4) 1)) dvs kws f fd) : FnOk P w K mg base (L2.CX P w) 2 f fd ["self", "view", "side", "seen", "tie"] (spOf K φ_Reckoning_put) :=
  body_ok (N := N_Reckoning_put) (ws := w_Reckoning_put) Fd sc_Reckoning_put (fun cdv A outer s H E F bc =>
  (wss_cons (ws_set (i := 5) sc_Reckoning_put.nd rfl (.inl rfl) (we_call ((B_shown_in_time hd).mono (by decide)) bc.room bc.tk rfl (g_shown_in_time hd) (wa_cons (we_var (i := 4) rfl (.inl rfl) nd_tie nc_tie) (wa_cons (we_var (i := 3) rfl (.inl rfl) nd_seen nc_seen) wa_nil rfl) rfl) rfl nd_shown_in_time) rfl (.inl rfl))
  (wss_one (ws_if (t_eq bc.room.u65 (we_ix (u1 bc.room.u65) (we_var (i := 4) rfl (.inl rfl) nd_tie nc_tie) we_int (fun _ _ => rfl)) (we_var (i := 2) rfl (.inl rfl) nd_side nc_side) rfl) (wss_one (ws_if (WW.wt (ww_and (wt_not (wt_val (we_var (i := 5) rfl (.inl rfl) nd_shown nc_shown) (fun _ => rfl))) (ww_and1 (t_ge (we_fld (f := "last") (we_var (i := 1) rfl (.inl rfl) nd_view nc_view) rfl) (we_ix (u1 bc.room.u65) (we_var (i := 4) rfl (.inl rfl) nd_tie nc_tie) we_int (fun _ _ => rfl)) rfl)))) (wss_one (ws_setF (cs := ["Reckoning"]) (f := "fixed") (na_Reckoning_fixed hd) (we_add (own := false) (we_fld (f := "fixed") (we_var (i := 0) rfl (.inl rfl) nd_self nc_self) rfl) (we_ix (u1 bc.room.u65) (we_var (i := 4) rfl (.inl rfl) nd_tie nc_tie) we_int (fun _ _ => rfl))) (we_var (i := 0) rfl (.inl rfl) nd_self nc_self) rfl)) (wss_one (ws_if (wt_not (wt_val (we_var (i := 5) rfl (.inl rfl) nd_shown nc_shown) (fun _ => rfl))) (wss_one (ws_expr (m_append (we_fld (f := "paying") (we_var (i := 0) rfl (.inl rfl) nd_self nc_self) rfl) (wa_cons (we_var (i := 4) rfl (.inl rfl) nd_tie nc_tie) wa_nil rfl) rfl rfl (by decide) rfl) rfl)) wss_nil)))) (wss_one (ws_if (WW.wt (ww_or (wt_val (we_var (i := 5) rfl (.inl rfl) nd_shown nc_shown) (fun _ => rfl)) (ww_or1 (WW.wt (ww_and (t_lt (we_fld (f := "last") (we_var (i := 1) rfl (.inl rfl) nd_view nc_view) rfl) (we_ix (u1 bc.room.u65) (we_var (i := 4) rfl (.inl rfl) nd_tie nc_tie) we_int (fun _ _ => rfl)) rfl) (ww_and1 (wt_val (we_call ((B_sure hd).mono (by decide)) bc.room bc.tk rfl (g_sure hd) (wa_cons (we_var (i := 1) rfl (.inl rfl) nd_view nc_view) (wa_cons (we_var (i := 4) rfl (.inl rfl) nd_tie nc_tie) wa_nil rfl) rfl) rfl nd_sure) (fun _ => rfl)))))))) (wss_one (ws_setF (cs := ["Reckoning"]) (f := "fixed") (na_Reckoning_fixed hd) (we_add (own := false) (we_fld (f := "fixed") (we_var (i := 0) rfl (.inl rfl) nd_self nc_self) rfl) (we_ix (u1 bc.room.u65) (we_var (i := 4) rfl (.inl rfl) nd_tie nc_tie) we_int (fun _ _ => rfl))) (we_var (i := 0) rfl (.inl rfl) nd_self nc_self) rfl)) (wss_one (ws_if (t_lt (we_fld (f := "last") (we_var (i := 1) rfl (.inl rfl) nd_view nc_view) rfl) (we_ix (u1 bc.room.u65) (we_var (i := 4) rfl (.inl rfl) nd_tie nc_tie) we_int (fun _ _ => rfl)) rfl) (wss_one (ws_expr (m_append (we_fld (f := "hanging") (we_var (i := 0) rfl (.inl rfl) nd_self nc_self) rfl) (wa_cons (we_var (i := 4) rfl (.inl rfl) nd_tie nc_tie) wa_nil rfl) rfl rfl (by decide) rfl) rfl)) wss_nil)))))))) (fun _ _ _ _ h => h.1) (fun _ _ _ _ h => h.2)
theorem B_Reckoning_put (hd : Hd w K mg) {q nm : Str} {f : Addr} (Fd : ∃ fd, FunD K nm q (defArgs (inClass (top 4) 1)) (defBody (inClass (top 4) 1)) (defScope (inClass (top 4) 1)) [] [] f fd) : FnBd P w K mg base 2 f 5 [] φ_Reckoning_put := by
  obtain ⟨fd, Fd⟩ := Fd
  exact fn_bd _ Fd (k_Reckoning_put hd Fd) (FunD.bindsN Fd fun _ _ _ _ _ _ us hl => match us, hl with | [_, _, _, _, _], _ => rfl)
theorem Mk_Reckoning (hd : Hd w K mg) : MkBd P w K mg base 1 "Reckoning" 1 [] φ_Reckoning___init__ := ⟨⟨_, mkr_Reckoning hd, B_Reckoning___init__ hd (hd.c.t.d.def_ 24 rfl)⟩, cl_Reckoning hd⟩
def cs_put : List (String × Nat × List D × SB.Spec) := [("Reckoning", 5, [], φ_Reckoning_put)]
theorem mt_put {k : Nat} (hd : Hd w K mg) (hk : 2 ≤ k) : ∀ c nd, cs_put.lookup c = some nd → MtBd P w K mg base k (clA K c) "put" nd.1 nd.2.1 nd.2.2 := (mts_cons ⟨_, me_Reckoning_put hd, (B_Reckoning_put hd (hd.c.t.d.def_ 25 rfl)).mono (Nat.le_trans (by decide) hk)⟩ mts_nil)
/-! reckoned -/
def N_reckoned : List Str := ["view", "chosen", "found", "side", "stands", "seen", "at", "tie"]
theorem sc_reckoned : FnScope N_reckoned ["view", "chosen"] (defScope (top 5)) := ⟨rfl, rfl, rfl, by decide +kernel, rfl, by decide +kernel, by decide +kernel⟩
def w_reckoned : WpS := (wSeq (wSet 2 (wDict0 true))
  (wSeq (wFor (wZip (wCons (wFld "held" (wVar 0)) (wCons (wVar 1) wNil))) (.tup (.cons (.tup (.cons (.nm 3) (.cons (.nm 4) (.cons (.nm 5) .nil)))) (.cons (.nm 6) .nil))) (wFor (wSrc (wOp fIx (wOp fIx (wVar 4) (wVar 6)) (wC (.int 2)))) (.nm 7) (wSeq (wIf (wB (wOp (fIn true) (wOp fIx (wVar 7) (wC (.int 2))) (wVar 2))) (wSetI (wMake true "Reckoning" [] φ_Reckoning___init__ wNil) (wVar 2) (wOp fIx (wVar 7) (wC (.int 2)))) wNx)
  (wExpr (wMeth "put" cs_put (wOp fIx (wVar 2) (wOp fIx (wVar 7) (wC (.int 2)))) (wCons (wVar 0) (wCons (wVar 3) (wCons (wVar 5) (wCons (wVar 7) wNil)))))))))
  (wRet (wVar 2))))
def φ_reckoned : SB.Spec := fun xs S R RE => xs.length = 2 ∧ w_reckoned (startE N_reckoned xs) S ⟨fun _ S' => Rz R .non S', Rz R, fun _ _ => False, fun _ _ => False⟩ (fun c _ S' => RE c S')
theorem k_reckoned (hd : Hd w K mg) {q nm : Str} {dvs : List V} {kws : List (Str × V)} {f : Addr} {fd : FuncData} (Fd : FunD K nm q (defArgs (top 5)) (defBody (top 5)) (defScope (top 5)) dvs kws f fd) : FnOk P w K mg base (L2.CX P w) 3 f fd ["view", "chosen"] (spOf K φ_reckoned) :=
  body_ok (N := N_reckoned) (ws := w_reckoned) Fd sc_reckoned (fun cdv A outer s H E F bc =>
  (wss_cons (ws_set (i := 2) sc_reckoned.nd rfl (.inl rfl) (we_dict0 (own := true)) rfl (.inl rfl))
  (wss_cons (ws_for bc.pass rfl (wi_zip rfl (n_zip hd) (wa_cons (we_fld (f := "held") (we_var (i := 0) rfl (.inl rfl) nd_view nc_view) rfl) (wa_cons (we_var (i := 1) rfl (.inl rfl) nd_chosen nc_chosen) wa_nil rfl) rfl) rfl rfl) (wg_tup rfl (wgs_cons (wg_tup rfl (wgs_cons (wg_nm sc_reckoned.nd rfl (.inl rfl) (.inl rfl)) (wgs_cons (wg_nm sc_reckoned.nd rfl (.inl rfl) (.inl rfl)) (wgs_cons (wg_nm sc_reckoned.nd rfl (.inl rfl) (.inl rfl)) wgs_nil (fun _ => rfl)) (fun _ => rfl)) (fun _ => rfl)) (fun _ => rfl) (fun _ => rfl)) (wgs_cons (wg_nm sc_reckoned.nd rfl (.inl rfl) (.inl rfl)) wgs_nil (fun _ => rfl)) (fun _ => rfl)) (fun _ => rfl) (fun _ => rfl)) (wss_one (ws_for bc.pass rfl (wi_src (we_ix (u1 bc.room.u65) (we_ix (u1 bc.room.u65) (we_var (i := 4) rfl (.inl rfl) nd_stands nc_stands) (we_var (i := 6) rfl (.inl rfl) nd_at nc_at) (fun _ _ => rfl)) we_int (fun _ _ => rfl))) (wg_nm sc_reckoned.nd rfl (.inl rfl) (.inl rfl)) (wss_cons (ws_if (t_nin bc.room.u65 (we_ix (u1 bc.room.u65) (we_var (i := 7) rfl (.inl rfl) nd_tie nc_tie) we_int (fun _ _ => rfl)) (we_var (i := 2) rfl (.inl rfl) nd_found nc_found) rfl) (wss_one (ws_setI (u1 bc.room.u65) (we_make0 (own := true) (k := 1) ((Mk_Reckoning hd).mono' (by decide)) bc.room bc.tk rfl (g_Reckoning hd) nd_Reckoning) (we_var (i := 2) rfl (.inl rfl) nd_found nc_found) (we_ix (u1 bc.room.u65) (we_var (i := 7) rfl (.inl rfl) nd_tie nc_tie) we_int (fun _ _ => rfl)) (fun _ => rfl) rfl rfl rfl)) wss_nil)
  (wss_one (ws_expr (we_meth (m := "put") (cs := cs_put) (mt_put hd (by decide)) bc.room bc.tk (we_ix (u1 bc.room.u65) (we_var (i := 2) rfl (.inl rfl) nd_found nc_found) (we_ix (u1 bc.room.u65) (we_var (i := 7) rfl (.inl rfl) nd_tie nc_tie) we_int (fun _ _ => rfl)) (fun _ _ => rfl)) (wa_cons (we_var (i := 0) rfl (.inl rfl) nd_view nc_view) (wa_cons (we_var (i := 3) rfl (.inl rfl) nd_side nc_side) (wa_cons (we_var (i := 5) rfl (.inl rfl) nd_seen nc_seen) (wa_cons (we_var (i := 7) rfl (.inl rfl) nd_tie nc_tie) wa_nil rfl) rfl) rfl) rfl) rfl rfl (by decide) rfl) rfl))) (fun _ => rfl))) (fun _ => rfl))
  (wss_one (ws_ret (we_var (i := 2) rfl (.inl rfl) nd_found nc_found)))))) (fun _ _ _ _ h => h.1) (fun _ _ _ _ h => h.2)
theorem B_reckoned (hd : Hd w K mg) : FnBd P w K mg base 3 (He.ga K "reckoned") 2 [] φ_reckoned := by
  obtain ⟨fd, Fd⟩ := hd.c.t.d.def_ 2 (d := mkDD (("reckoned" : Str), none) "reckoned" "reckoned" (top 5) []) rfl
  exact fn_bd _ Fd (k_reckoned hd Fd) (FunD.bindsN Fd fun _ _ _ _ _ _ us hl => match us, hl with | [_, _], _ => rfl)
/-! own_shares -/
def N_own_shares : List Str := ["view", "chosen", "at", "side", "stands", "seen"]
theorem sc_own_shares : FnScope N_own_shares ["view", "chosen"] (defScope (top 6)) := ⟨rfl, rfl, rfl, by decide +kernel, rfl, by decide +kernel, by decide +kernel⟩
def w_own_shares : WpS := (wRet (wFun fSum (wCons (wLc false (wZip (wCons (wFld "held" (wVar 0)) (wCons (wVar 1) wNil))) (.tup (.cons (.tup (.cons (.nm 3) (.cons (.nm 4) (.cons (.nm 5) .nil)))) (.cons (.nm 2) .nil))) wYes (wOp fIx (wOp fIx (wOp fIx (wVar 4) (wVar 2)) (wC (.int 1))) (wVar 3)) [2, 3, 4, 5]) wNil)))
def φ_own_shares : SB.Spec := fun xs S R RE => xs.length = 2 ∧ w_own_shares (startE N_own_shares xs) S ⟨fun _ S' => Rz R .non S', Rz R, fun _ _ => False, fun _ _ => False⟩ (fun c _ S' => RE c S')
theorem k_own_shares (hd : Hd w K mg) {q nm : Str} {dvs : List V} {kws : List (Str × V)} {f : Addr} {fd : FuncData} (Fd : FunD K nm q (defArgs (top 6)) (defBody (top 6)) (defScope (top 6)) dvs kws f fd) : FnOk P w K mg base (L2.CX P w) 1 f fd ["view", "chosen"] (spOf K φ_own_shares) :=
  body_ok (N := N_own_shares) (ws := w_own_shares) Fd sc_own_shares (fun cdv A outer s H E F bc =>
  (wss_one (ws_ret (b_sum rfl rfl (n_sum hd) (wa_cons (we_lc (fr := false) (own := [(("at" : Str), 2), (("side" : Str), 3), (("stands" : Str), 4), (("seen" : Str), 5)]) (t := (.tup (.cons (.tup (.cons (.nm 3) (.cons (.nm 4) (.cons (.nm 5) .nil)))) (.cons (.nm 2) .nil)))) rfl sc_own_shares.nd (wi_zip rfl (n_zip hd) (wa_cons (we_fld (f := "held") (we_var (i := 0) rfl (.inl rfl) nd_view nc_view) rfl) (wa_cons (we_var (i := 1) rfl (.inl rfl) nd_chosen nc_chosen) wa_nil rfl) rfl) rfl rfl) (show BlkOk N_own_shares (defScope (top 6)) _ [(("at" : Str), 2), (("side" : Str), 3), (("stands" : Str), 4), (("seen" : Str), 5)] from blkOk_by (by decide +kernel)) (by decide) (fun _ _ _ _ _ => (wg_tup rfl (wgs_cons (wg_tup rfl (wgs_cons (wg_nm sc_own_shares.nd rfl (.inl rfl) (.inr rfl)) (wgs_cons (wg_nm sc_own_shares.nd rfl (.inl rfl) (.inr rfl)) (wgs_cons (wg_nm sc_own_shares.nd rfl (.inl rfl) (.inr rfl)) wgs_nil (fun _ => rfl)) (fun _ => rfl)) (fun _ => rfl)) (fun _ => rfl) (fun _ => rfl)) (wgs_cons (wg_nm sc_own_shares.nd rfl (.inl rfl) (.inr rfl)) wgs_nil (fun _ => rfl)) (fun _ => rfl)) (fun _ => rfl) (fun _ => rfl))) (fun _ _ _ _ _ => wts_nil) (fun _ _ _ _ _ => (we_ix (u1 bc.room.u65) (we_ix (u1 bc.room.u65) (we_ix (u1 bc.room.u65) (we_var (i := 4) rfl (.inl rfl) nd_stands nc_stands) (we_var (i := 2) rfl (.inl rfl) nd_at nc_at) (fun _ _ => rfl)) we_int (fun _ _ => rfl)) (we_var (i := 3) rfl (.inl rfl) nd_side nc_side) (fun _ _ => rfl))) (fun _ => rfl)) wa_nil rfl) rfl)))) (fun _ _ _ _ h => h.1) (fun _ _ _ _ h => h.2)
theorem B_own_shares (hd : Hd w K mg) : FnBd P w K mg base 1 (He.ga K "own_shares") 2 [] φ_own_shares := by
  obtain ⟨fd, Fd⟩ := hd.c.t.d.def_ 3 (d := mkDD (("own_shares" : Str), none) "own_shares" "own_shares" (top 6) []) rfl
  exact fn_bd _ Fd (k_own_shares hd Fd) (FunD.bindsN Fd fun _ _ _ _ _ _ us hl => match us, hl with | [_, _], _ => rfl)
/-! choices -/
def N_choices : List Str := ["view", "found", "side", "stands", "seen", "longer", "chosen", "at"]
theorem sc_choices : FnScope N_choices ["view"] (defScope (top 7)) := ⟨rfl, rfl, rfl, by decide +kernel, rfl, by decide +kernel, by decide +kernel⟩
def w_choices : WpS := (wSeq (wSet 1 (wLst false (wCons (wLst false wNil) wNil)))
  (wSeq (wFor (wSrc (wFld "held" (wVar 0))) (.tup (.cons (.nm 2) (.cons (.nm 3) (.cons (.nm 4) .nil)))) (wSeq (wSet 5 (wLst true wNil))
  (wSeq (wFor (wSrc (wVar 1)) (.nm 6) (wFor (wRange (wCons (wFun fLen (wCons (wVar 3) wNil)) wNil)) (.nm 7) (wExpr (wMt "list" fAppend (wVar 5) (wCons (wOp (fAdd false) (wVar 6) (wLst false (wCons (wVar 7) wNil))) wNil)))))
  (wSet 1 (wVar 5)))))
  (wRet (wVar 1))))
def φ_choices : SB.Spec := fun xs S R RE => xs.length = 1 ∧ w_choices (startE N_choices xs) S ⟨fun _ S' => Rz R .non S', Rz R, fun _ _ => False, fun _ _ => False⟩ (fun c _ S' => RE c S')
theorem k_choices (hd : Hd w K mg) {q nm : Str} {dvs : List V} {kws : List (Str × V)} {f : Addr} {fd : FuncData} (Fd : FunD K nm q (defArgs (top 7)) (defBody (top 7)) (defScope (top 7)) dvs kws f fd) : FnOk P w K mg base (L2.CX P w) 1 f fd ["view"] (spOf K φ_choices) :=
  body_ok (N := N_choices) (ws := w_choices) Fd sc_choices (fun cdv A outer s H E F bc =>
  (wss_cons (ws_set (i := 1) sc_choices.nd rfl (.inl rfl) (we_lst (own := false) (wa_cons (we_lst (own := false) wa_nil) wa_nil rfl)) rfl (.inl rfl))
  (wss_cons (ws_for bc.pass rfl (wi_src (we_fld (f := "held") (we_var (i := 0) rfl (.inl rfl) nd_view nc_view) rfl)) (wg_tup rfl (wgs_cons (wg_nm sc_choices.nd rfl (.inl rfl) (.inl rfl)) (wgs_cons (wg_nm sc_choices.nd rfl (.inl rfl) (.inl rfl)) (wgs_cons (wg_nm sc_choices.nd rfl (.inl rfl) (.inl rfl)) wgs_nil (fun _ => rfl)) (fun _ => rfl)) (fun _ => rfl)) (fun _ => rfl) (fun _ => rfl)) (wss_cons (ws_set (i := 5) sc_choices.nd rfl (.inl rfl) (we_lst (own := true) wa_nil) rfl (.inl rfl))
  (wss_cons (ws_for bc.pass rfl (wi_src (we_var (i := 1) rfl (.inl rfl) nd_found nc_found)) (wg_nm sc_choices.nd rfl (.inl rfl) (.inl rfl)) (wss_one (ws_for bc.pass rfl (wi_range1 rfl (n_range hd) (wa_cons (b_len rfl (n_len hd) (wa_cons (we_var (i := 3) rfl (.inl rfl) nd_stands nc_stands) wa_nil rfl) rfl) wa_nil rfl) rfl) (wg_nm sc_choices.nd rfl (.inl rfl) (.inl rfl)) (wss_one (ws_expr (m_append (we_var (i := 5) rfl (.inl rfl) nd_longer nc_longer) (wa_cons (we_add (own := false) (we_var (i := 6) rfl (.inl rfl) nd_chosen nc_chosen) (we_lst (own := false) (wa_cons (we_var (i := 7) rfl (.inl rfl) nd_at nc_at) wa_nil rfl))) wa_nil rfl) rfl rfl (by decide) rfl) rfl)) (fun _ => rfl))) (fun _ => rfl))
  (wss_one (ws_set (i := 1) sc_choices.nd rfl (.inl rfl) (we_var (i := 5) rfl (.inl rfl) nd_longer nc_longer) rfl (.inl rfl))))) (fun _ => rfl))
  (wss_one (ws_ret (we_var (i := 1) rfl (.inl rfl) nd_found nc_found)))))) (fun _ _ _ _ h => h.1) (fun _ _ _ _ h => h.2)
theorem B_choices (hd : Hd w K mg) : FnBd P w K mg base 1 (He.ga K "choices") 1 [] φ_choices := by
  obtain ⟨fd, Fd⟩ := hd.c.t.d.def_ 4 (d := mkDD (("choices" : Str), none) "choices" "choices" (top 7) []) rfl
  exact fn_bd _ Fd (k_choices hd Fd) (FunD.bindsN Fd fun _ _ _ _ _ _ us hl => match us, hl with | [_], _ => rfl)
/-! Reckoning_with_day -/
def N_Reckoning_with_day : List Str := ["self", "every", "tau", "total", "tie"]
theorem sc_Reckoning_with_day : FnScope N_Reckoning_with_day ["self", "every", "tau"] (defScope (inClass (top 4) 2)) := ⟨rfl, rfl, rfl, by decide +kernel, rfl, by decide +kernel, by decide +kernel⟩
def w_Reckoning_with_day : WpS := (wSeq (wSet 3 (wFld "fixed" (wVar 0)))
  (wSeq (wFor (wSrc (wFld "paying" (wVar 0))) (.nm 4) (wIf (wB (wOr (wOp (fIs false) (wVar 2) (wC .non)) (wOp (fCmp cmpLt) (wOp fIx (wVar 4) (wC (.int 3))) (wVar 2)))) (wSet 3 (wOp (fAdd false) (wVar 3) (wOp fIx (wVar 4) (wC (.int 1))))) wNx))
  (wSeq (wFor (wSrc (wFld "hanging" (wVar 0))) (.nm 4) (wIf (wB (wAnd (wOp (fIs true) (wVar 2) (wC .non)) (wOp (fCmp cmpLt) (wOp (fAdd false) (wOp fSub (wVar 2) (wC (.int 1))) (wVar 1)) (wOp fIx (wVar 4) (wC (.int 3)))))) (wSet 3 (wOp (fAdd false) (wVar 3) (wOp fIx (wVar 4) (wC (.int 1))))) wNx))
  (wRet (wVar 3)))))
def φ_Reckoning_with_day : SB.Spec := fun xs S R RE => xs.length = 3 ∧ w_Reckoning_with_day (startE N_Reckoning_with_day xs) S ⟨fun _ S' => Rz R .non S', Rz R, fun _ _ => False, fun _ _ => False⟩ (fun c _ S' => RE c S')
theorem k_Reckoning_with_day (hd : Hd w K mg) {q nm : Str} {dvs : List V} {kws : List (Str × V)} {f : Addr} {fd : FuncData} (Fd : FunD K nm q (defArgs (inClass (top 4) 2)) (defBody (inClass (top 4) 2)) (defScope (inClass (top 4) 2)) dvs kws f fd) : FnOk P w K mg base (L2.CX P w) 1 f fd ["self", "every", "tau"] (spOf K φ_Reckoning_with_day) :=
  body_ok (N := N_Reckoning_with_day) (ws := w_Reckoning_with_day) Fd sc_Reckoning_with_day (fun cdv A outer s H E F bc =>
  (wss_cons (ws_set (i := 3) sc_Reckoning_with_day.nd rfl (.inl rfl) (we_fld (f := "fixed") (we_var (i := 0) rfl (.inl rfl) nd_self nc_self) rfl) rfl (.inl rfl))
  (wss_cons (ws_for bc.pass rfl (wi_src (we_fld (f := "paying") (we_var (i := 0) rfl (.inl rfl) nd_self nc_self) rfl)) (wg_nm sc_Reckoning_with_day.nd rfl (.inl rfl) (.inl rfl)) (wss_one (ws_if (WW.wt (ww_or (t_is (we_var (i := 2) rfl (.inl rfl) nd_tau nc_tau) we_non rfl) (ww_or1 (t_lt (we_ix (u1 bc.room.u65) (we_var (i := 4) rfl (.inl rfl) nd_tie nc_tie) we_int (fun _ _ => rfl)) (we_var (i := 2) rfl (.inl rfl) nd_tau nc_tau) rfl)))) (wss_one (ws_set (i := 3) sc_Reckoning_with_day.nd rfl (.inl rfl) (we_add (own := false) (we_var (i := 3) rfl (.inl rfl) nd_total nc_total) (we_ix (u1 bc.room.u65) (we_var (i := 4) rfl (.inl rfl) nd_tie nc_tie) we_int (fun _ _ => rfl))) rfl (.inl rfl))) wss_nil)) (fun _ => rfl))
  (wss_cons (ws_for bc.pass rfl (wi_src (we_fld (f := "hanging") (we_var (i := 0) rfl (.inl rfl) nd_self nc_self) rfl)) (wg_nm sc_Reckoning_with_day.nd rfl (.inl rfl) (.inl rfl)) (wss_one (ws_if (WW.wt (ww_and (t_isn (we_var (i := 2) rfl (.inl rfl) nd_tau nc_tau) we_non rfl) (ww_and1 (t_lt (we_add (own := false) (we_sub (we_var (i := 2) rfl (.inl rfl) nd_tau nc_tau) we_int) (we_var (i := 1) rfl (.inl rfl) nd_every nc_every)) (we_ix (u1 bc.room.u65) (we_var (i := 4) rfl (.inl rfl) nd_tie nc_tie) we_int (fun _ _ => rfl)) rfl)))) (wss_one (ws_set (i := 3) sc_Reckoning_with_day.nd rfl (.inl rfl) (we_add (own := false) (we_var (i := 3) rfl (.inl rfl) nd_total nc_total) (we_ix (u1 bc.room.u65) (we_var (i := 4) rfl (.inl rfl) nd_tie nc_tie) we_int (fun _ _ => rfl))) rfl (.inl rfl))) wss_nil)) (fun _ => rfl))
  (wss_one (ws_ret (we_var (i := 3) rfl (.inl rfl) nd_total nc_total))))))) (fun _ _ _ _ h => h.1) (fun _ _ _ _ h => h.2)
theorem B_Reckoning_with_day (hd : Hd w K mg) {q nm : Str} {f : Addr} (Fd : ∃ fd, FunD K nm q (defArgs (inClass (top 4) 2)) (defBody (inClass (top 4) 2)) (defScope (inClass (top 4) 2)) [] [] f fd) : FnBd P w K mg base 1 f 3 [] φ_Reckoning_with_day := by
  obtain ⟨fd, Fd⟩ := Fd
  exact fn_bd _ Fd (k_Reckoning_with_day hd Fd) (FunD.bindsN Fd fun _ _ _ _ _ _ us hl => match us, hl with | [_, _, _], _ => rfl)
/-! Reckoning_days -/
def N_Reckoning_days : List Str := ["self", "tie"]
theorem sc_Reckoning_days : FnScope N_Reckoning_days ["self"] (defScope (inClass (top 4) 3)) := ⟨rfl, rfl, rfl, by decide +kernel, rfl, by decide +kernel, by decide +kernel⟩
def w_Reckoning_days : WpS := (wRet (wOp (fAdd false) (wLst false (wCons (wC .non) wNil)) (wLc false (wSrc (wFld "paying" (wVar 0))) (.nm 1) wYes (wOp fIx (wVar 1) (wC (.int 3))) [1])))
def φ_Reckoning_days : SB.Spec := fun xs S R RE => xs.length = 1 ∧ w_Reckoning_days (startE N_Reckoning_days xs) S ⟨fun _ S' => Rz R .non S', Rz R, fun _ _ => False, fun _ _ => False⟩ (fun c _ S' => RE c S')
theorem k_Reckoning_days (hd : Hd w K mg) {q nm : Str} {dvs : List V} {kws : List (Str × V)} {f : Addr} {fd : FuncData} (Fd : FunD K nm q (defArgs (inClass (top 4) 3)) (defBody (inClass (top 4) 3)) (defScope (inClass (top 4) 3)) dvs kws f fd) : FnOk P w K mg base (L2.CX P w) 1 f fd ["self"] (spOf K φ_Reckoning_days) :=
  body_ok (N := N_Reckoning_days) (ws := w_Reckoning_days) Fd sc_Reckoning_days (fun cdv A outer s H E F bc =>
  (wss_one (ws_ret (we_add (own := false) (we_lst (own := false) (wa_cons we_non wa_nil rfl)) (we_lc (fr := false) (own := [(("tie" : Str), 1)]) (t := (.nm 1)) rfl sc_Reckoning_days.nd (wi_src (we_fld (f := "paying") (we_var (i := 0) rfl (.inl rfl) nd_self nc_self) rfl)) (show BlkOk N_Reckoning_days (defScope (inClass (top 4) 3)) _ [(("tie" : Str), 1)] from blkOk_by (by decide +kernel)) (by decide) (fun _ _ _ _ _ => (wg_nm sc_Reckoning_days.nd rfl (.inl rfl) (.inr rfl))) (fun _ _ _ _ _ => wts_nil) (fun _ _ _ _ _ => (we_ix (u1 bc.room.u65) (we_var (i := 1) rfl (.inl rfl) nd_tie nc_tie) we_int (fun _ _ => rfl))) (fun _ => rfl)))))) (fun _ _ _ _ h => h.1) (fun _ _ _ _ h => h.2)
theorem B_Reckoning_days (hd : Hd w K mg) {q nm : Str} {f : Addr} (Fd : ∃ fd, FunD K nm q (defArgs (inClass (top 4) 3)) (defBody (inClass (top 4) 3)) (defScope (inClass (top 4) 3)) [] [] f fd) : FnBd P w K mg base 1 f 1 [] φ_Reckoning_days := by
  obtain ⟨fd, Fd⟩ := Fd
  exact fn_bd _ Fd (k_Reckoning_days hd Fd) (FunD.bindsN Fd fun _ _ _ _ _ _ us hl => match us, hl with | [_], _ => rfl)
def cs_with_day : List (String × Nat × List D × SB.Spec) := [("Reckoning", 3, [], φ_Reckoning_with_day)]
theorem mt_with_day {k : Nat} (hd : Hd w K mg) (hk : 1 ≤ k) : ∀ c nd, cs_with_day.lookup c = some nd → MtBd P w K mg base k (clA K c) "with_day" nd.1 nd.2.1 nd.2.2 := (mts_cons ⟨_, me_Reckoning_with_day hd, (B_Reckoning_with_day hd (hd.c.t.d.def_ 26 rfl)).mono (Nat.le_trans (by decide) hk)⟩ mts_nil)
def cs_days : List (String × Nat × List D × SB.Spec) := [("Reckoning", 1, [], φ_Reckoning_days)]
theorem mt_days {k : Nat} (hd : Hd w K mg) (hk : 1 ≤ k) : ∀ c nd, cs_days.lookup c = some nd → MtBd P w K mg base k (clA K c) "days" nd.1 nd.2.1 nd.2.2 := (mts_cons ⟨_, me_Reckoning_days hd, (B_Reckoning_days hd (hd.c.t.d.def_ 27 rfl)).mono (Nat.le_trans (by decide) hk)⟩ mts_nil)
/-! Reckoning_worst -/
def N_Reckoning_worst : List Str := ["self", "every", "best", "tau", "total"]
theorem sc_Reckoning_worst : FnScope N_Reckoning_worst ["self", "every"] (defScope (inClass (top 4) 4)) := ⟨rfl, rfl, rfl, by decide +kernel, rfl, by decide +kernel, by decide +kernel⟩
def w_Reckoning_worst : WpS := (wSeq (wSet 2 (wTup (wCons (wMeth "with_day" cs_with_day (wVar 0) (wCons (wVar 1) (wCons (wC .non) wNil))) (wCons (wC .non) wNil))))
  (wSeq (wFor (wSrc (wMeth "days" cs_days (wVar 0) wNil)) (.nm 3) (wSeq (wSet 4 (wMeth "with_day" cs_with_day (wVar 0) (wCons (wVar 1) (wCons (wVar 3) wNil))))
  (wIf (wB (wOp (fCmp cmpLt) (wVar 4) (wOp fIx (wVar 2) (wC (.int 0))))) (wSet 2 (wTup (wCons (wVar 4) (wCons (wVar 3) wNil)))) wNx)))
  (wRet (wVar 2))))
def φ_Reckoning_worst : SB.Spec := fun xs S R RE => xs.length = 2 ∧ w_Reckoning_worst (startE N_Reckoning_worst xs) S ⟨fun _ S' => Rz R .non S', Rz R, fun _ _ => False, fun _ _ => False⟩ (fun c _ S' => RE c S')
theorem k_Reckoning_worst (hd : Hd w K mg) {q nm : Str} {dvs : List V} {kws : List (Str × V)} {f : Addr} {fd : FuncData} (Fd : FunD K nm q (defArgs (inClass (top 4) 4)) (defBody (inClass (top 4) 4)) (defScope (inClass (top 4) 4)) dvs kws f fd) : FnOk P w K mg base (L2.CX P w) 2 f fd ["self", "every"] (spOf K φ_Reckoning_worst) :=
  body_ok (N := N_Reckoning_worst) (ws := w_Reckoning_worst) Fd sc_Reckoning_worst (fun cdv A outer s H E F bc =>
  (wss_cons (ws_set (i := 2) sc_Reckoning_worst.nd rfl (.inl rfl) (we_tup (wa_cons (we_meth (m := "with_day") (cs := cs_with_day) (mt_with_day hd (by decide)) bc.room bc.tk (we_var (i := 0) rfl (.inl rfl) nd_self nc_self) (wa_cons (we_var (i := 1) rfl (.inl rfl) nd_every nc_every) (wa_cons we_non wa_nil rfl) rfl) rfl rfl (by decide) rfl) (wa_cons we_non wa_nil rfl) rfl)) rfl (.inl rfl))
  (wss_cons (ws_for bc.pass rfl (wi_src (we_meth0 (m := "days") (cs := cs_days) (mt_days hd (by decide)) bc.room bc.tk (we_var (i := 0) rfl (.inl rfl) nd_self nc_self) rfl rfl)) (wg_nm sc_Reckoning_worst.nd rfl (.inl rfl) (.inl rfl)) (wss_cons (ws_set (i := 4) sc_Reckoning_worst.nd rfl (.inl rfl) (we_meth (m := "with_day") (cs := cs_with_day) (mt_with_day hd (by decide)) bc.room bc.tk (we_var (i := 0) rfl (.inl rfl) nd_self nc_self) (wa_cons (we_var (i := 1) rfl (.inl rfl) nd_every nc_every) (wa_cons (we_var (i := 3) rfl (.inl rfl) nd_tau nc_tau) wa_nil rfl) rfl) rfl rfl (by decide) rfl) rfl (.inl rfl))
  (wss_one (ws_if (t_lt (we_var (i := 4) rfl (.inl rfl) nd_total nc_total) (we_ix (u1 bc.room.u65) (we_var (i := 2) rfl (.inl rfl) nd_best nc_best) we_int (fun _ _ => rfl)) rfl) (wss_one (ws_set (i := 2) sc_Reckoning_worst.nd rfl (.inl rfl) (we_tup (wa_cons (we_var (i := 4) rfl (.inl rfl) nd_total nc_total) (wa_cons (we_var (i := 3) rfl (.inl rfl) nd_tau nc_tau) wa_nil rfl) rfl)) rfl (.inl rfl))) wss_nil))) (fun _ => rfl))
  (wss_one (ws_ret (we_var (i := 2) rfl (.inl rfl) nd_best nc_best)))))) (fun _ _ _ _ h => h.1) (fun _ _ _ _ h => h.2)
theorem B_Reckoning_worst (hd : Hd w K mg) {q nm : Str} {f : Addr} (Fd : ∃ fd, FunD K nm q (defArgs (inClass (top 4) 4)) (defBody (inClass (top 4) 4)) (defScope (inClass (top 4) 4)) [] [] f fd) : FnBd P w K mg base 2 f 2 [] φ_Reckoning_worst := by
  obtain ⟨fd, Fd⟩ := Fd
  exact fn_bd _ Fd (k_Reckoning_worst hd Fd) (FunD.bindsN Fd fun _ _ _ _ _ _ us hl => match us, hl with | [_, _], _ => rfl)
def cs_worst : List (String × Nat × List D × SB.Spec) := [("Reckoning", 2, [], φ_Reckoning_worst)]
theorem mt_worst {k : Nat} (hd : Hd w K mg) (hk : 2 ≤ k) : ∀ c nd, cs_worst.lookup c = some nd → MtBd P w K mg base k (clA K c) "worst" nd.1 nd.2.1 nd.2.2 := (mts_cons ⟨_, me_Reckoning_worst hd, (B_Reckoning_worst hd (hd.c.t.d.def_ 28 rfl)).mono (Nat.le_trans (by decide) hk)⟩ mts_nil)
/-! paper -/
def N_paper : List Str := ["view", "best", "chosen", "total", "days", "word", "ties", "least", "tau"]
theorem sc_paper : FnScope N_paper ["view"] (defScope (top 8)) := ⟨rfl, rfl, rfl, by decide +kernel, rfl, by decide +kernel, by decide +kernel⟩
def w_paper : WpS := (wSeq (wSet 1 (wC .non))
  (wSeq (wFor (wSrc (wCall φ_choices [] (wCons (wVar 0) wNil))) (.nm 2) (wSeq (wSet 3 (wCall φ_own_shares [] (wCons (wVar 0) (wCons (wVar 2) wNil))))
  (wSeq (wSet 4 (wDict0 true))
  (wSeq (wFor (wItems (wCall φ_reckoned [] (wCons (wVar 0) (wCons (wVar 2) wNil)))) (.tup (.cons (.nm 5) (.cons (.nm 6) .nil))) (wSeq (wAsg (.tup (.cons (.nm 7) (.cons (.nm 8) .nil))) (wMeth "worst" cs_worst (wVar 6) (wCons (wFld "span" (wVar 0)) wNil)))
  (wSeq (wSet 3 (wOp (fAdd false) (wVar 3) (wVar 7)))
  (wSetI (wVar 8) (wVar 4) (wVar 5)))))
  (wIf (wB (wOr (wOp (fIs false) (wVar 1) (wC .non)) (wOp (fCmp cmpLt) (wVar 3) (wOp fIx (wVar 1) (wC (.int 0)))))) (wSet 1 (wTup (wCons (wVar 3) (wCons (wVar 2) (wCons (wVar 4) wNil))))) wNx)))))
  (wRet (wVar 1))))
def φ_paper : SB.Spec := fun xs S R RE => xs.length = 1 ∧ w_paper (startE N_paper xs) S ⟨fun _ S' => Rz R .non S', Rz R, fun _ _ => False, fun _ _ => False⟩ (fun c _ S' => RE c S')
theorem k_paper (hd : Hd w K mg) {q nm : Str} {dvs : List V} {kws : List (Str × V)} {f : Addr} {fd : FuncData} (Fd : FunD K nm q (defArgs (top 8)) (defBody (top 8)) (defScope (top 8)) dvs kws f fd) : FnOk P w K mg base (L2.CX P w) 4 f fd ["view"] (spOf K φ_paper) :=
  body_ok (N := N_paper) (ws := w_paper) Fd sc_paper (fun cdv A outer s H E F bc =>
  (wss_cons (ws_set (i := 1) sc_paper.nd rfl (.inl rfl) we_non rfl (.inl rfl))
  (wss_cons (ws_for bc.pass rfl (wi_src (we_call ((B_choices hd).mono (by decide)) bc.room bc.tk rfl (g_choices hd) (wa_cons (we_var (i := 0) rfl (.inl rfl) nd_view nc_view) wa_nil rfl) rfl nd_choices)) (wg_nm sc_paper.nd rfl (.inl rfl) (.inl rfl)) (wss_cons (ws_set (i := 3) sc_paper.nd rfl (.inl rfl) (we_call ((B_own_shares hd).mono (by decide)) bc.room bc.tk rfl (g_own_shares hd) (wa_cons (we_var (i := 0) rfl (.inl rfl) nd_view nc_view) (wa_cons (we_var (i := 2) rfl (.inl rfl) nd_chosen nc_chosen) wa_nil rfl) rfl) rfl nd_own_shares) rfl (.inl rfl))
  (wss_cons (ws_set (i := 4) sc_paper.nd rfl (.inl rfl) (we_dict0 (own := true)) rfl (.inl rfl))
  (wss_cons (ws_for bc.pass rfl (wi_items (we_call ((B_reckoned hd).mono (by decide)) bc.room bc.tk rfl (g_reckoned hd) (wa_cons (we_var (i := 0) rfl (.inl rfl) nd_view nc_view) (wa_cons (we_var (i := 2) rfl (.inl rfl) nd_chosen nc_chosen) wa_nil rfl) rfl) rfl nd_reckoned) rfl rfl) (wg_tup rfl (wgs_cons (wg_nm sc_paper.nd rfl (.inl rfl) (.inl rfl)) (wgs_cons (wg_nm sc_paper.nd rfl (.inl rfl) (.inl rfl)) wgs_nil (fun _ => rfl)) (fun _ => rfl)) (fun _ => rfl) (fun _ => rfl)) (wss_cons (ws_asg (we_meth (m := "worst") (cs := cs_worst) (mt_worst hd (by decide)) bc.room bc.tk (we_var (i := 6) rfl (.inl rfl) nd_ties nc_ties) (wa_cons (we_fld (f := "span") (we_var (i := 0) rfl (.inl rfl) nd_view nc_view) rfl) wa_nil rfl) rfl rfl (by decide) rfl) (wg_tup rfl (wgs_cons (wg_nm sc_paper.nd rfl (.inl rfl) (.inl rfl)) (wgs_cons (wg_nm sc_paper.nd rfl (.inl rfl) (.inl rfl)) wgs_nil (fun _ => rfl)) (fun _ => rfl)) (fun _ => rfl) (fun _ => rfl)) rfl rfl rfl)
  (wss_cons (ws_set (i := 3) sc_paper.nd rfl (.inl rfl) (we_add (own := false) (we_var (i := 3) rfl (.inl rfl) nd_total nc_total) (we_var (i := 7) rfl (.inl rfl) nd_least nc_least)) rfl (.inl rfl))
  (wss_one (ws_setI (u1 bc.room.u65) (we_var (i := 8) rfl (.inl rfl) nd_tau nc_tau) (we_var (i := 4) rfl (.inl rfl) nd_days nc_days) (we_var (i := 5) rfl (.inl rfl) nd_word nc_word) (fun _ => rfl) rfl rfl rfl)))) (fun _ => rfl))
  (wss_one (ws_if (WW.wt (ww_or (t_is (we_var (i := 1) rfl (.inl rfl) nd_best nc_best) we_non rfl) (ww_or1 (t_lt (we_var (i := 3) rfl (.inl rfl) nd_total nc_total) (we_ix (u1 bc.room.u65) (we_var (i := 1) rfl (.inl rfl) nd_best nc_best) we_int (fun _ _ => rfl)) rfl)))) (wss_one (ws_set (i := 1) sc_paper.nd rfl (.inl rfl) (we_tup (wa_cons (we_var (i := 3) rfl (.inl rfl) nd_total nc_total) (wa_cons (we_var (i := 2) rfl (.inl rfl) nd_chosen nc_chosen) (wa_cons (we_var (i := 4) rfl (.inl rfl) nd_days nc_days) wa_nil rfl) rfl) rfl)) rfl (.inl rfl))) wss_nil))))) (fun _ => rfl))
  (wss_one (ws_ret (we_var (i := 1) rfl (.inl rfl) nd_best nc_best)))))) (fun _ _ _ _ h => h.1) (fun _ _ _ _ h => h.2)
theorem B_paper (hd : Hd w K mg) : FnBd P w K mg base 4 (He.ga K "paper") 1 [] φ_paper := by
  obtain ⟨fd, Fd⟩ := hd.c.t.d.def_ 5 (d := mkDD (("paper" : Str), none) "paper" "paper" (top 8) []) rfl
  exact fn_bd _ Fd (k_paper hd Fd) (FunD.bindsN Fd fun _ _ _ _ _ _ us hl => match us, hl with | [_], _ => rfl)
/-! worth -/
def N_worth : List Str := ["view"]
theorem sc_worth : FnScope N_worth ["view"] (defScope (top 9)) := ⟨rfl, rfl, rfl, by decide +kernel, rfl, by decide +kernel, by decide +kernel⟩
def w_worth : WpS := (wRet (wOp fIx (wCall φ_paper [] (wCons (wVar 0) wNil)) (wC (.int 0))))
def φ_worth : SB.Spec := fun xs S R RE => xs.length = 1 ∧ w_worth (startE N_worth xs) S ⟨fun _ S' => Rz R .non S', Rz R, fun _ _ => False, fun _ _ => False⟩ (fun c _ S' => RE c S')
theorem k_worth (hd : Hd w K mg) {q nm : Str} {dvs : List V} {kws : List (Str × V)} {f : Addr} {fd : FuncData} (Fd : FunD K nm q (defArgs (top 9)) (defBody (top 9)) (defScope (top 9)) dvs kws f fd) : FnOk P w K mg base (L2.CX P w) 5 f fd ["view"] (spOf K φ_worth) :=
  body_ok (N := N_worth) (ws := w_worth) Fd sc_worth (fun cdv A outer s H E F bc =>
  (wss_one (ws_ret (we_ix (u1 bc.room.u65) (we_call ((B_paper hd).mono (by decide)) bc.room bc.tk rfl (g_paper hd) (wa_cons (we_var (i := 0) rfl (.inl rfl) nd_view nc_view) wa_nil rfl) rfl nd_paper) we_int (fun _ _ => rfl))))) (fun _ _ _ _ h => h.1) (fun _ _ _ _ h => h.2)
theorem B_worth (hd : Hd w K mg) : FnBd P w K mg base 5 (He.ga K "worth") 1 [] φ_worth := by
  obtain ⟨fd, Fd⟩ := hd.c.t.d.def_ 6 (d := mkDD (("worth" : Str), none) "worth" "worth" (top 9) []) rfl
  exact fn_bd _ Fd (k_worth hd Fd) (FunD.bindsN Fd fun _ _ _ _ _ _ us hl => match us, hl with | [_], _ => rfl)
/-! right_days -/
def N_right_days : List Str := ["view", "found", "days", "word"]
theorem sc_right_days : FnScope N_right_days ["view", "found", "days"] (defScope (top 10)) := ⟨rfl, rfl, rfl, by decide +kernel, rfl, by decide +kernel, by decide +kernel⟩
def w_right_days : WpS := (wSeq (wIf (wB (wOp (fEq true) (wFun fLen (wCons (wVar 2) wNil)) (wFun fLen (wCons (wVar 1) wNil)))) (wRet (wC (.bl false))) wNx)
  (wSeq (wFor (wSrc (wVar 1)) (.nm 3) (wIf (wB (wOr (wOp (fIn true) (wVar 3) (wVar 2)) (wOp (fIn true) (wOp fIx (wVar 2) (wVar 3)) (wMeth "days" cs_days (wOp fIx (wVar 1) (wVar 3)) wNil)))) (wRet (wC (.bl false))) wNx))
  (wRet (wC (.bl true)))))
def φ_right_days : SB.Spec := fun xs S R RE => xs.length = 3 ∧ w_right_days (startE N_right_days xs) S ⟨fun _ S' => Rz R .non S', Rz R, fun _ _ => False, fun _ _ => False⟩ (fun c _ S' => RE c S')
theorem k_right_days (hd : Hd w K mg) {q nm : Str} {dvs : List V} {kws : List (Str × V)} {f : Addr} {fd : FuncData} (Fd : FunD K nm q (defArgs (top 10)) (defBody (top 10)) (defScope (top 10)) dvs kws f fd) : FnOk P w K mg base (L2.CX P w) 2 f fd ["view", "found", "days"] (spOf K φ_right_days) :=
  body_ok (N := N_right_days) (ws := w_right_days) Fd sc_right_days (fun cdv A outer s H E F bc =>
  (wss_cons (ws_if (t_ne bc.room.u65 (b_len rfl (n_len hd) (wa_cons (we_var (i := 2) rfl (.inl rfl) nd_days nc_days) wa_nil rfl) rfl) (b_len rfl (n_len hd) (wa_cons (we_var (i := 1) rfl (.inl rfl) nd_found nc_found) wa_nil rfl) rfl) rfl) (wss_one (ws_ret we_bl)) wss_nil)
  (wss_cons (ws_for bc.pass rfl (wi_src (we_var (i := 1) rfl (.inl rfl) nd_found nc_found)) (wg_nm sc_right_days.nd rfl (.inl rfl) (.inl rfl)) (wss_one (ws_if (WW.wt (ww_or (t_nin bc.room.u65 (we_var (i := 3) rfl (.inl rfl) nd_word nc_word) (we_var (i := 2) rfl (.inl rfl) nd_days nc_days) rfl) (ww_or1 (t_nin bc.room.u65 (we_ix (u1 bc.room.u65) (we_var (i := 2) rfl (.inl rfl) nd_days nc_days) (we_var (i := 3) rfl (.inl rfl) nd_word nc_word) (fun _ _ => rfl)) (we_meth0 (m := "days") (cs := cs_days) (mt_days hd (by decide)) bc.room bc.tk (we_ix (u1 bc.room.u65) (we_var (i := 1) rfl (.inl rfl) nd_found nc_found) (we_var (i := 3) rfl (.inl rfl) nd_word nc_word) (fun _ _ => rfl)) rfl rfl) rfl)))) (wss_one (ws_ret we_bl)) wss_nil)) (fun _ => rfl))
  (wss_one (ws_ret we_bl))))) (fun _ _ _ _ h => h.1) (fun _ _ _ _ h => h.2)
theorem B_right_days (hd : Hd w K mg) : FnBd P w K mg base 2 (He.ga K "right_days") 3 [] φ_right_days := by
  obtain ⟨fd, Fd⟩ := hd.c.t.d.def_ 7 (d := mkDD (("right_days" : Str), none) "right_days" "right_days" (top 10) []) rfl
  exact fn_bd _ Fd (k_right_days hd Fd) (FunD.bindsN Fd fun _ _ _ _ _ _ us hl => match us, hl with | [_, _, _], _ => rfl)
/-! stands_up -/
def N_stands_up : List Str := ["view", "told", "total", "chosen", "days", "side", "stands", "seen", "at", "found", "word", "ties"]
theorem sc_stands_up : FnScope N_stands_up ["view", "told"] (defScope (top 11)) := ⟨rfl, rfl, rfl, by decide +kernel, rfl, by decide +kernel, by decide +kernel⟩
def w_stands_up : WpS := (wSeq (wAsg (.tup (.cons (.nm 2) (.cons (.nm 3) (.cons (.nm 4) .nil)))) (wVar 1))
  (wSeq (wIf (wB (wOp (fEq true) (wFun fLen (wCons (wVar 3) wNil)) (wFun fLen (wCons (wFld "held" (wVar 0)) wNil)))) (wRet (wC (.bl false))) wNx)
  (wSeq (wFor (wZip (wCons (wFld "held" (wVar 0)) (wCons (wVar 3) wNil))) (.tup (.cons (.tup (.cons (.nm 5) (.cons (.nm 6) (.cons (.nm 7) .nil)))) (.cons (.nm 8) .nil))) (wIf (wB (wOr (wOp (fCmp cmpLt) (wVar 8) (wC (.int 0))) (wOp (fCmp cmpGe) (wVar 8) (wFun fLen (wCons (wVar 6) wNil))))) (wRet (wC (.bl false))) wNx))
  (wSeq (wSet 9 (wCall φ_reckoned [] (wCons (wVar 0) (wCons (wVar 3) wNil))))
  (wSeq (wIf (wB (wNot (wCall φ_right_days [] (wCons (wVar 0) (wCons (wVar 9) (wCons (wVar 4) wNil)))))) (wRet (wC (.bl false))) wNx)
  (wSeq (wFor (wItems (wVar 9)) (.tup (.cons (.nm 10) (.cons (.nm 11) .nil))) (wSet 2 (wOp fSub (wVar 2) (wMeth "with_day" cs_with_day (wVar 11) (wCons (wFld "span" (wVar 0)) (wCons (wOp fIx (wVar 4) (wVar 10)) wNil))))))
  (wRet (wOp (fEq false) (wVar 2) (wCall φ_own_shares [] (wCons (wVar 0) (wCons (wVar 3) wNil)))))))))))
def φ_stands_up : SB.Spec := fun xs S R RE => xs.length = 2 ∧ w_stands_up (startE N_stands_up xs) S ⟨fun _ S' => Rz R .non S', Rz R, fun _ _ => False, fun _ _ => False⟩ (fun c _ S' => RE c S')
theorem k_stands_up (hd : Hd w K mg) {q nm : Str} {dvs : List V} {kws : List (Str × V)} {f : Addr} {fd : FuncData} (Fd : FunD K nm q (defArgs (top 11)) (defBody (top 11)) (defScope (top 11)) dvs kws f fd) : FnOk P w K mg base (L2.CX P w) 4 f fd ["view", "told"] (spOf K φ_stands_up) :=
  body_ok (N := N_stands_up) (ws := w_stands_up) Fd sc_stands_up (fun cdv A outer s H E F bc =>
  (wss_cons (ws_asg (we_var (i := 1) rfl (.inl rfl) nd_told nc_told) (wg_tup rfl (wgs_cons (wg_nm sc_stands_up.nd rfl (.inl rfl) (.inl rfl)) (wgs_cons (wg_nm sc_stands_up.nd rfl (.inl rfl) (.inl rfl)) (wgs_cons (wg_nm sc_stands_up.nd rfl (.inl rfl) (.inl rfl)) wgs_nil (fun _ => rfl)) (fun _ => rfl)) (fun _ => rfl)) (fun _ => rfl) (fun _ => rfl)) rfl rfl rfl)
  (wss_cons (ws_if (t_ne bc.room.u65 (b_len rfl (n_len hd) (wa_cons (we_var (i := 3) rfl (.inl rfl) nd_chosen nc_chosen) wa_nil rfl) rfl) (b_len rfl (n_len hd) (wa_cons (we_fld (f := "held") (we_var (i := 0) rfl (.inl rfl) nd_view nc_view) rfl) wa_nil rfl) rfl) rfl) (wss_one (ws_ret we_bl)) wss_nil)
  (wss_cons (ws_for bc.pass rfl (wi_zip rfl (n_zip hd) (wa_cons (we_fld (f := "held") (we_var (i := 0) rfl (.inl rfl) nd_view nc_view) rfl) (wa_cons (we_var (i := 3) rfl (.inl rfl) nd_chosen nc_chosen) wa_nil rfl) rfl) rfl rfl) (wg_tup rfl (wgs_cons (wg_tup rfl (wgs_cons (wg_nm sc_stands_up.nd rfl (.inl rfl) (.inl rfl)) (wgs_cons (wg_nm sc_stands_up.nd rfl (.inl rfl) (.inl rfl)) (wgs_cons (wg_nm sc_stands_up.nd rfl (.inl rfl) (.inl rfl)) wgs_nil (fun _ => rfl)) (fun _ => rfl)) (fun _ => rfl)) (fun _ => rfl) (fun _ => rfl)) (wgs_cons (wg_nm sc_stands_up.nd rfl (.inl rfl) (.inl rfl)) wgs_nil (fun _ => rfl)) (fun _ => rfl)) (fun _ => rfl) (fun _ => rfl)) (wss_one (ws_if (WW.wt (ww_or (t_lt (we_var (i := 8) rfl (.inl rfl) nd_at nc_at) we_int rfl) (ww_or1 (t_ge (we_var (i := 8) rfl (.inl rfl) nd_at nc_at) (b_len rfl (n_len hd) (wa_cons (we_var (i := 6) rfl (.inl rfl) nd_stands nc_stands) wa_nil rfl) rfl) rfl)))) (wss_one (ws_ret we_bl)) wss_nil)) (fun _ => rfl))
  (wss_cons (ws_set (i := 9) sc_stands_up.nd rfl (.inl rfl) (we_call ((B_reckoned hd).mono (by decide)) bc.room bc.tk rfl (g_reckoned hd) (wa_cons (we_var (i := 0) rfl (.inl rfl) nd_view nc_view) (wa_cons (we_var (i := 3) rfl (.inl rfl) nd_chosen nc_chosen) wa_nil rfl) rfl) rfl nd_reckoned) rfl (.inl rfl))
  (wss_cons (ws_if (wt_not (wt_val (we_call ((B_right_days hd).mono (by decide)) bc.room bc.tk rfl (g_right_days hd) (wa_cons (we_var (i := 0) rfl (.inl rfl) nd_view nc_view) (wa_cons (we_var (i := 9) rfl (.inl rfl) nd_found nc_found) (wa_cons (we_var (i := 4) rfl (.inl rfl) nd_days nc_days) wa_nil rfl) rfl) rfl) rfl nd_right_days) (fun _ => rfl))) (wss_one (ws_ret we_bl)) wss_nil)
  (wss_cons (ws_for bc.pass rfl (wi_items (we_var (i := 9) rfl (.inl rfl) nd_found nc_found) rfl rfl) (wg_tup rfl (wgs_cons (wg_nm sc_stands_up.nd rfl (.inl rfl) (.inl rfl)) (wgs_cons (wg_nm sc_stands_up.nd rfl (.inl rfl) (.inl rfl)) wgs_nil (fun _ => rfl)) (fun _ => rfl)) (fun _ => rfl) (fun _ => rfl)) (wss_one (ws_set (i := 2) sc_stands_up.nd rfl (.inl rfl) (we_sub (we_var (i := 2) rfl (.inl rfl) nd_total nc_total) (we_meth (m := "with_day") (cs := cs_with_day) (mt_with_day hd (by decide)) bc.room bc.tk (we_var (i := 11) rfl (.inl rfl) nd_ties nc_ties) (wa_cons (we_fld (f := "span") (we_var (i := 0) rfl (.inl rfl) nd_view nc_view) rfl) (wa_cons (we_ix (u1 bc.room.u65) (we_var (i := 4) rfl (.inl rfl) nd_days nc_days) (we_var (i := 10) rfl (.inl rfl) nd_word nc_word) (fun _ _ => rfl)) wa_nil rfl) rfl) rfl rfl (by decide) rfl)) rfl (.inl rfl))) (fun _ => rfl))
  (wss_one (ws_ret (e_eq bc.room.u65 (we_var (i := 2) rfl (.inl rfl) nd_total nc_total) (we_call ((B_own_shares hd).mono (by decide)) bc.room bc.tk rfl (g_own_shares hd) (wa_cons (we_var (i := 0) rfl (.inl rfl) nd_view nc_view) (wa_cons (we_var (i := 3) rfl (.inl rfl) nd_chosen nc_chosen) wa_nil rfl) rfl) rfl nd_own_shares) rfl)))))))))) (fun _ _ _ _ h => h.1) (fun _ _ _ _ h => h.2)
theorem B_stands_up (hd : Hd w K mg) : FnBd P w K mg base 4 (He.ga K "stands_up") 2 [] φ_stands_up := by
  obtain ⟨fd, Fd⟩ := hd.c.t.d.def_ 8 (d := mkDD (("stands_up" : Str), none) "stands_up" "stands_up" (top 11) []) rfl
  exact fn_bd _ Fd (k_stands_up hd Fd) (FunD.bindsN Fd fun _ _ _ _ _ _ us hl => match us, hl with | [_, _], _ => rfl)
/-! _law_well -/
def N__law_well : List Str := ["cell"]
theorem sc__law_well : FnScope N__law_well ["cell"] (defScope (top 13)) := ⟨rfl, rfl, rfl, by decide +kernel, rfl, by decide +kernel, by decide +kernel⟩
def w__law_well : WpS := (wRet (wLst true (wCons (wOp (fMul false) (wVar 0) (wFun fInt (wCons (wOp (fCmp cmpGe) (wVar 0) (wOp fPow (wC (.int 10)) (wC (.int 18)))) wNil))) (wCons (wOp fMod (wVar 0) (wC (.int 2147483647))) (wCons (wC (.int 0)) wNil)))))
def φ__law_well : SB.Spec := fun xs S R RE => xs.length = 1 ∧ w__law_well (startE N__law_well xs) S ⟨fun _ S' => Rz R .non S', Rz R, fun _ _ => False, fun _ _ => False⟩ (fun c _ S' => RE c S')
theorem k__law_well (hd : Hd w K mg) {q nm : Str} {dvs : List V} {kws : List (Str × V)} {f : Addr} {fd : FuncData} (Fd : FunD K nm q (defArgs (top 13)) (defBody (top 13)) (defScope (top 13)) dvs kws f fd) : FnOk P w K mg base (L2.CX P w) 1 f fd ["cell"] (spOf K φ__law_well) :=
  body_ok (N := N__law_well) (ws := w__law_well) Fd sc__law_well (fun cdv A outer s H E F bc =>
  (wss_one (ws_ret (we_lst (own := true) (wa_cons (we_mul (own := false) (we_var (i := 0) rfl (.inl rfl) nd_cell nc_cell) (b_int rfl (n_int hd) (wa_cons (e_ge (we_var (i := 0) rfl (.inl rfl) nd_cell nc_cell) (we_pow we_int we_int) rfl) wa_nil rfl) rfl)) (wa_cons (we_mod (we_var (i := 0) rfl (.inl rfl) nd_cell nc_cell) we_int) (wa_cons we_int wa_nil rfl) rfl) rfl))))) (fun _ _ _ _ h => h.1) (fun _ _ _ _ h => h.2)
theorem B__law_well (hd : Hd w K mg) : FnBd P w K mg base 1 (He.ga K "_law_well") 1 [] φ__law_well := by
  obtain ⟨fd, Fd⟩ := hd.c.t.d.def_ 9 (d := mkDD (("_law_well" : Str), none) "_law_well" "_law_well" (top 13) []) rfl
  exact fn_bd _ Fd (k__law_well hd Fd) (FunD.bindsN Fd fun _ _ _ _ _ _ us hl => match us, hl with | [_], _ => rfl)
/-! _law_draw -/
def N__law_draw : List Str := ["well", "many", "found", "prime", "number"]
theorem sc__law_draw : FnScope N__law_draw ["well", "many"] (defScope (top 14)) := ⟨rfl, rfl, rfl, by decide +kernel, rfl, by decide +kernel, by decide +kernel⟩
def w__law_draw : WpS := (wSeq (wIf (wB (wOp (fCmp cmpGt) (wOp fIx (wVar 0) (wC (.int 0))) (wC (.int 0)))) (wSeq (wSet 2 (wOp fMod (wOp fIx (wVar 0) (wC (.int 0))) (wVar 1)))
  (wSeq (wSetI (wOp fDiv (wOp fIx (wVar 0) (wC (.int 0))) (wVar 1)) (wVar 0) (wC (.int 0)))
  (wRet (wVar 2)))) wNx)
  (wSeq (wSetI (wOp (fAdd false) (wOp fIx (wVar 0) (wC (.int 2))) (wC (.int 1))) (wVar 0) (wC (.int 2)))
  (wSeq (wSet 3 (wOp fIx (wLst false (wCons (wC (.int 2147483647)) (wCons (wC (.int 2147483629)) (wCons (wC (.int 2147483587)) (wCons (wC (.int 2147483579)) (wCons (wC (.int 2147483563)) (wCons (wC (.int 2147483549)) (wCons (wC (.int 2147483543)) wNil)))))))) (wOp fMod (wOp fIx (wVar 0) (wC (.int 2))) (wC (.int 7)))))
  (wSeq (wSet 4 (wOp fMod (wOp fPow (wOp (fAdd false) (wOp (fAdd false) (wOp fIx (wVar 0) (wC (.int 1))) (wOp (fMul false) (wC (.int 7919)) (wOp fIx (wVar 0) (wC (.int 2))))) (wC (.int 1))) (wC (.int 5))) (wVar 3)))
  (wSeq (wSet 4 (wOp fMod (wOp (fMul false) (wOp (fAdd false) (wVar 4) (wOp fIx (wVar 0) (wC (.int 2)))) (wOp (fAdd false) (wOp fDiv (wVar 4) (wC (.int 1009))) (wC (.int 69621)))) (wVar 3)))
  (wRet (wOp fMod (wOp fDiv (wVar 4) (wC (.int 7))) (wVar 1))))))))
def φ__law_draw : SB.Spec := fun xs S R RE => xs.length = 2 ∧ w__law_draw (startE N__law_draw xs) S ⟨fun _ S' => Rz R .non S', Rz R, fun _ _ => False, fun _ _ => False⟩ (fun c _ S' => RE c S')
theorem k__law_draw (hd : Hd w K mg) {q nm : Str} {dvs : List V} {kws : List (Str × V)} {f : Addr} {fd : FuncData} (Fd : FunD K nm q (defArgs (top 14)) (defBody (top 14)) (defScope (top 14)) dvs kws f fd) : FnOk P w K mg base (L2.CX P w) 1 f fd ["well", "many"] (spOf K φ__law_draw) :=
  body_ok (N := N__law_draw) (ws := w__law_draw) Fd sc__law_draw (fun cdv A outer s H E F bc =>
  (wss_cons (ws_if (t_gt (we_ix (u1 bc.room.u65) (we_var (i := 0) rfl (.inl rfl) nd_well nc_well) we_int (fun _ _ => rfl)) we_int rfl) (wss_cons (ws_set (i := 2) sc__law_draw.nd rfl (.inl rfl) (we_mod (we_ix (u1 bc.room.u65) (we_var (i := 0) rfl (.inl rfl) nd_well nc_well) we_int (fun _ _ => rfl)) (we_var (i := 1) rfl (.inl rfl) nd_many nc_many)) rfl (.inl rfl))
  (wss_cons (ws_setI (u1 bc.room.u65) (we_div (we_ix (u1 bc.room.u65) (we_var (i := 0) rfl (.inl rfl) nd_well nc_well) we_int (fun _ _ => rfl)) (we_var (i := 1) rfl (.inl rfl) nd_many nc_many)) (we_var (i := 0) rfl (.inl rfl) nd_well nc_well) we_int (fun _ => rfl) rfl rfl rfl)
  (wss_one (ws_ret (we_var (i := 2) rfl (.inl rfl) nd_found nc_found))))) wss_nil)
  (wss_cons (ws_setI (u1 bc.room.u65) (we_add (own := false) (we_ix (u1 bc.room.u65) (we_var (i := 0) rfl (.inl rfl) nd_well nc_well) we_int (fun _ _ => rfl)) we_int) (we_var (i := 0) rfl (.inl rfl) nd_well nc_well) we_int (fun _ => rfl) rfl rfl rfl)
  (wss_cons (ws_set (i := 3) sc__law_draw.nd rfl (.inl rfl) (we_ix (u1 bc.room.u65) (we_lst (own := false) (wa_cons we_int (wa_cons we_int (wa_cons we_int (wa_cons we_int (wa_cons we_int (wa_cons we_int (wa_cons we_int wa_nil rfl) rfl) rfl) rfl) rfl) rfl) rfl)) (we_mod (we_ix (u1 bc.room.u65) (we_var (i := 0) rfl (.inl rfl) nd_well nc_well) we_int (fun _ _ => rfl)) we_int) (fun _ _ => rfl)) rfl (.inl rfl))
  (wss_cons (ws_set (i := 4) sc__law_draw.nd rfl (.inl rfl) (we_mod (we_pow (we_add (own := false) (we_add (own := false) (we_ix (u1 bc.room.u65) (we_var (i := 0) rfl (.inl rfl) nd_well nc_well) we_int (fun _ _ => rfl)) (we_mul (own := false) we_int (we_ix (u1 bc.room.u65) (we_var (i := 0) rfl (.inl rfl) nd_well nc_well) we_int (fun _ _ => rfl)))) we_int) we_int) (we_var (i := 3) rfl (.inl rfl) nd_prime nc_prime)) rfl (.inl rfl))
  (wss_cons (ws_set (i := 4) sc__law_draw.nd rfl (.inl rfl) (we_mod (we_mul (own := false) (we_add (own := false) (we_var (i := 4) rfl (.inl rfl) nd_number nc_number) (we_ix (u1 bc.room.u65) (we_var (i := 0) rfl (.inl rfl) nd_well nc_well) we_int (fun _ _ => rfl))) (we_add (own := false) (we_div (we_var (i := 4) rfl (.inl rfl) nd_number nc_number) we_int) we_int)) (we_var (i := 3) rfl (.inl rfl) nd_prime nc_prime)) rfl (.inl rfl))
  (wss_one (ws_ret (we_mod (we_div (we_var (i := 4) rfl (.inl rfl) nd_number nc_number) we_int) (we_var (i := 1) rfl (.inl rfl) nd_many nc_many)))))))))) (fun _ _ _ _ h => h.1) (fun _ _ _ _ h => h.2)
theorem B__law_draw (hd : Hd w K mg) : FnBd P w K mg base 1 (He.ga K "_law_draw") 2 [] φ__law_draw := by
  obtain ⟨fd, Fd⟩ := hd.c.t.d.def_ 10 (d := mkDD (("_law_draw" : Str), none) "_law_draw" "_law_draw" (top 14) []) rfl
  exact fn_bd _ Fd (k__law_draw hd Fd) (FunD.bindsN Fd fun _ _ _ _ _ _ us hl => match us, hl with | [_, _], _ => rfl)
/-! _law_one -/
def N__law_one : List Str := ["well", "some"]
theorem sc__law_one : FnScope N__law_one ["well", "some"] (defScope (top 15)) := ⟨rfl, rfl, rfl, by decide +kernel, rfl, by decide +kernel, by decide +kernel⟩
def w__law_one : WpS := (wRet (wOp fIx (wVar 1) (wCall φ__law_draw [] (wCons (wVar 0) (wCons (wFun fLen (wCons (wVar 1) wNil)) wNil)))))
def φ__law_one : SB.Spec := fun xs S R RE => xs.length = 2 ∧ w__law_one (startE N__law_one xs) S ⟨fun _ S' => Rz R .non S', Rz R, fun _ _ => False, fun _ _ => False⟩ (fun c _ S' => RE c S')
theorem k__law_one (hd : Hd w K mg) {q nm : Str} {dvs : List V} {kws : List (Str × V)} {f : Addr} {fd : FuncData} (Fd : FunD K nm q (defArgs (top 15)) (defBody (top 15)) (defScope (top 15)) dvs kws f fd) : FnOk P w K mg base (L2.CX P w) 2 f fd ["well", "some"] (spOf K φ__law_one) :=
  body_ok (N := N__law_one) (ws := w__law_one) Fd sc__law_one (fun cdv A outer s H E F bc =>
  (wss_one (ws_ret (we_ix (u1 bc.room.u65) (we_var (i := 1) rfl (.inl rfl) nd_some nc_some) (we_call ((B__law_draw hd).mono (by decide)) bc.room bc.tk rfl (g__law_draw hd) (wa_cons (we_var (i := 0) rfl (.inl rfl) nd_well nc_well) (wa_cons (b_len rfl (n_len hd) (wa_cons (we_var (i := 1) rfl (.inl rfl) nd_some nc_some) wa_nil rfl) rfl) wa_nil rfl) rfl) rfl nd__law_draw) (fun _ _ => rfl))))) (fun _ _ _ _ h => h.1) (fun _ _ _ _ h => h.2)
theorem B__law_one (hd : Hd w K mg) : FnBd P w K mg base 2 (He.ga K "_law_one") 2 [] φ__law_one := by
  obtain ⟨fd, Fd⟩ := hd.c.t.d.def_ 11 (d := mkDD (("_law_one" : Str), none) "_law_one" "_law_one" (top 15) []) rfl
  exact fn_bd _ Fd (k__law_one hd Fd) (FunD.bindsN Fd fun _ _ _ _ _ _ us hl => match us, hl with | [_, _], _ => rfl)
/-! _law_stand -/
def N__law_stand : List Str := ["well", "ties", "word", "tie"]
theorem sc__law_stand : FnScope N__law_stand ["well"] (defScope (top 16)) := ⟨rfl, rfl, rfl, by decide +kernel, rfl, by decide +kernel, by decide +kernel⟩
def w__law_stand : WpS := (wSeq (wSet 1 (wLst true wNil))
  (wSeq (wFor (wSrc (wLst false (wCons (wC (.int 59)) (wCons (wC (.int 7)) (wCons (wC (.int 20)) (wCons (wC (.int 0)) wNil)))))) (.nm 2) (wIf (wB (wOp (fEq false) (wCall φ__law_draw [] (wCons (wVar 0) (wCons (wC (.int 2)) wNil))) (wC (.int 0)))) (wSeq (wSet 3 (wTup (wCons (wCall φ__law_draw [] (wCons (wVar 0) (wCons (wC (.int 2)) wNil))) (wCons (wOp (fAdd false) (wC (.int 1)) (wCall φ__law_draw [] (wCons (wVar 0) (wCons (wC (.int 20)) wNil)))) (wCons (wVar 2) (wCons (wCall φ__law_draw [] (wCons (wVar 0) (wCons (wC (.int 40)) wNil))) wNil))))))
  (wExpr (wMt "list" fInsert (wVar 1) (wCons (wCall φ__law_draw [] (wCons (wVar 0) (wCons (wOp (fAdd false) (wFun fLen (wCons (wVar 1) wNil)) (wC (.int 1))) wNil))) (wCons (wVar 3) wNil))))) wNx))
  (wRet (wTup (wCons (wCall φ__law_draw [] (wCons (wVar 0) (wCons (wC (.int 9)) wNil))) (wCons (wTup (wCons (wCall φ__law_draw [] (wCons (wVar 0) (wCons (wC (.int 50)) wNil))) (wCons (wCall φ__law_draw [] (wCons (wVar 0) (wCons (wC (.int 50)) wNil))) wNil))) (wCons (wFun fTuple (wCons (wVar 1) wNil)) wNil)))))))
def φ__law_stand : SB.Spec := fun xs S R RE => xs.length = 1 ∧ w__law_stand (startE N__law_stand xs) S ⟨fun _ S' => Rz R .non S', Rz R, fun _ _ => False, fun _ _ => False⟩ (fun c _ S' => RE c S')
theorem k__law_stand (hd : Hd w K mg) {q nm : Str} {dvs : List V} {kws : List (Str × V)} {f : Addr} {fd : FuncData} (Fd : FunD K nm q (defArgs (top 16)) (defBody (top 16)) (defScope (top 16)) dvs kws f fd) : FnOk P w K mg base (L2.CX P w) 2 f fd ["well"] (spOf K φ__law_stand) :=
  body_ok (N := N__law_stand) (ws := w__law_stand) Fd sc__law_stand (fun cdv A outer s H E F bc =>
  (wss_cons (ws_set (i := 1) sc__law_stand.nd rfl (.inl rfl) (we_lst (own := true) wa_nil) rfl (.inl rfl))
  (wss_cons (ws_for bc.pass rfl (wi_src (we_lst (own := false) (wa_cons we_int (wa_cons we_int (wa_cons we_int (wa_cons we_int wa_nil rfl) rfl) rfl) rfl))) (wg_nm sc__law_stand.nd rfl (.inl rfl) (.inl rfl)) (wss_one (ws_if (t_eq bc.room.u65 (we_call ((B__law_draw hd).mono (by decide)) bc.room bc.tk rfl (g__law_draw hd) (wa_cons (we_var (i := 0) rfl (.inl rfl) nd_well nc_well) (wa_cons we_int wa_nil rfl) rfl) rfl nd__law_draw) we_int rfl) (wss_cons (ws_set (i := 3) sc__law_stand.nd rfl (.inl rfl) (we_tup (wa_cons (we_call ((B__law_draw hd).mono (by decide)) bc.room bc.tk rfl (g__law_draw hd) (wa_cons (we_var (i := 0) rfl (.inl rfl) nd_well nc_well) (wa_cons we_int wa_nil rfl) rfl) rfl nd__law_draw) (wa_cons (we_add (own := false) we_int (we_call ((B__law_draw hd).mono (by decide)) bc.room bc.tk rfl (g__law_draw hd) (wa_cons (we_var (i := 0) rfl (.inl rfl) nd_well nc_well) (wa_cons we_int wa_nil rfl) rfl) rfl nd__law_draw)) (wa_cons (we_var (i := 2) rfl (.inl rfl) nd_word nc_word) (wa_cons (we_call ((B__law_draw hd).mono (by decide)) bc.room bc.tk rfl (g__law_draw hd) (wa_cons (we_var (i := 0) rfl (.inl rfl) nd_well nc_well) (wa_cons we_int wa_nil rfl) rfl) rfl nd__law_draw) wa_nil rfl) rfl) rfl) rfl)) rfl (.inl rfl))
  (wss_one (ws_expr (m_insert (we_var (i := 1) rfl (.inl rfl) nd_ties nc_ties) (wa_cons (we_call ((B__law_draw hd).mono (by decide)) bc.room bc.tk rfl (g__law_draw hd) (wa_cons (we_var (i := 0) rfl (.inl rfl) nd_well nc_well) (wa_cons (we_add (own := false) (b_len rfl (n_len hd) (wa_cons (we_var (i := 1) rfl (.inl rfl) nd_ties nc_ties) wa_nil rfl) rfl) we_int) wa_nil rfl) rfl) rfl nd__law_draw) (wa_cons (we_var (i := 3) rfl (.inl rfl) nd_tie nc_tie) wa_nil rfl) rfl) rfl rfl (by decide) rfl) rfl))) wss_nil)) (fun _ => rfl))
  (wss_one (ws_ret (we_tup (wa_cons (we_call ((B__law_draw hd).mono (by decide)) bc.room bc.tk rfl (g__law_draw hd) (wa_cons (we_var (i := 0) rfl (.inl rfl) nd_well nc_well) (wa_cons we_int wa_nil rfl) rfl) rfl nd__law_draw) (wa_cons (we_tup (wa_cons (we_call ((B__law_draw hd).mono (by decide)) bc.room bc.tk rfl (g__law_draw hd) (wa_cons (we_var (i := 0) rfl (.inl rfl) nd_well nc_well) (wa_cons we_int wa_nil rfl) rfl) rfl nd__law_draw) (wa_cons (we_call ((B__law_draw hd).mono (by decide)) bc.room bc.tk rfl (g__law_draw hd) (wa_cons (we_var (i := 0) rfl (.inl rfl) nd_well nc_well) (wa_cons we_int wa_nil rfl) rfl) rfl nd__law_draw) wa_nil rfl) rfl)) (wa_cons (b_tuple rfl (n_tuple hd) (wa_cons (we_var (i := 1) rfl (.inl rfl) nd_ties nc_ties) wa_nil rfl) rfl) wa_nil rfl) rfl) rfl))))))) (fun _ _ _ _ h => h.1) (fun _ _ _ _ h => h.2)
theorem B__law_stand (hd : Hd w K mg) : FnBd P w K mg base 2 (He.ga K "_law_stand") 1 [] φ__law_stand := by
  obtain ⟨fd, Fd⟩ := hd.c.t.d.def_ 12 (d := mkDD (("_law_stand" : Str), none) "_law_stand" "_law_stand" (top 16) []) rfl
  exact fn_bd _ Fd (k__law_stand hd Fd) (FunD.bindsN Fd fun _ _ _ _ _ _ us hl => match us, hl with | [_], _ => rfl)
/-! _law_view -/
def N__law_view : List Str := ["well", "every", "look", "words", "pots", "pot", "side", "stands", "seen", "word", "k"]
theorem sc__law_view : FnScope N__law_view ["well"] (defScope (top 17)) := ⟨rfl, rfl, rfl, by decide +kernel, rfl, by decide +kernel, by decide +kernel⟩
def w__law_view : WpS := (wSeq (wSet 1 (wOp (fAdd false) (wC (.int 1)) (wCall φ__law_draw [] (wCons (wVar 0) (wCons (wC (.int 9)) wNil)))))
  (wSeq (wSet 2 (wCall φ__law_draw [] (wCons (wVar 0) (wCons (wC (.int 25)) wNil))))
  (wSeq (wSet 3 (wLc false (wSrc (wLst false (wCons (wC (.int 0)) (wCons (wC (.int 7)) (wCons (wC (.int 20)) (wCons (wC (.int 59)) wNil)))))) (.nm 9) (wB (wOp (fEq false) (wCall φ__law_draw [] (wCons (wVar 0) (wCons (wC (.int 2)) wNil))) (wC (.int 0)))) (wVar 9) [9]))
  (wSeq (wSet 4 (wLst true wNil))
  (wSeq (wFor (wRange (wCons (wOp (fAdd false) (wC (.int 1)) (wCall φ__law_draw [] (wCons (wVar 0) (wCons (wC (.int 3)) wNil)))) wNil)) (.nm 5) (wSeq (wSet 6 (wCall φ__law_draw [] (wCons (wVar 0) (wCons (wC (.int 2)) wNil))))
  (wSeq (wSet 7 (wLc false (wRange (wCons (wOp (fAdd false) (wC (.int 1)) (wCall φ__law_draw [] (wCons (wVar 0) (wCons (wC (.int 3)) wNil)))) wNil)) (.nm 10) wYes (wCall φ__law_stand [] (wCons (wVar 0) wNil)) [10]))
  (wSeq (wSet 8 (wFun (fDict false) (wCons (wLc false (wSrc (wLst false (wCons (wC (.int 20)) (wCons (wC (.int 0)) (wCons (wC (.int 59)) (wCons (wC (.int 7)) wNil)))))) (.nm 9) (wB (wOp (fEq false) (wCall φ__law_draw [] (wCons (wVar 0) (wCons (wC (.int 3)) wNil))) (wC (.int 0)))) (wTup (wCons (wVar 9) (wCons (wCall φ__law_draw [] (wCons (wVar 0) (wCons (wOp (fAdd false) (wVar 2) (wC (.int 1))) wNil))) wNil))) [9]) wNil)))
  (wExpr (wMt "list" fAppend (wVar 4) (wCons (wTup (wCons (wVar 6) (wCons (wVar 7) (wCons (wVar 8) wNil)))) wNil)))))))
  (wRet (wTup (wCons (wVar 1) (wCons (wVar 2) (wCons (wVar 3) (wCons (wVar 4) wNil)))))))))))
def φ__law_view : SB.Spec := fun xs S R RE => xs.length = 1 ∧ w__law_view (startE N__law_view xs) S ⟨fun _ S' => Rz R .non S', Rz R, fun _ _ => False, fun _ _ => False⟩ (fun c _ S' => RE c S')
theorem k__law_view (hd : Hd w K mg) {q nm : Str} {dvs : List V} {kws : List (Str × V)} {f : Addr} {fd : FuncData} (Fd : FunD K nm q (defArgs (top 17)) (defBody (top 17)) (defScope (top 17)) dvs kws f fd) : FnOk P w K mg base (L2.CX P w) 3 f fd ["well"] (spOf K φ__law_view) :=
  body_ok (N := N__law_view) (ws := w__law_view) Fd sc__law_view (fun cdv A outer s H E F bc =>
  (wss_cons (ws_set (i := 1) sc__law_view.nd rfl (.inl rfl) (we_add (own := false) we_int (we_call ((B__law_draw hd).mono (by decide)) bc.room bc.tk rfl (g__law_draw hd) (wa_cons (we_var (i := 0) rfl (.inr (.inl rfl)) nd_well nc_well) (wa_cons we_int wa_nil rfl) rfl) rfl nd__law_draw)) rfl (.inl rfl))
  (wss_cons (ws_set (i := 2) sc__law_view.nd rfl (.inr rfl) (we_call ((B__law_draw hd).mono (by decide)) bc.room bc.tk rfl (g__law_draw hd) (wa_cons (we_var (i := 0) rfl (.inr (.inl rfl)) nd_well nc_well) (wa_cons we_int wa_nil rfl) rfl) rfl nd__law_draw) rfl (.inl rfl))
  (wss_cons (ws_setLc (i := 3) (fr := false) (own := [(("word" : Str), 9)]) (t := (.nm 9)) rfl sc__law_view.nd rfl rfl rfl (wi_src (we_lst (own := false) (wa_cons we_int (wa_cons we_int (wa_cons we_int (wa_cons we_int wa_nil rfl) rfl) rfl) rfl))) (show BlkOk N__law_view (defScope (top 17)) _ [(("word" : Str), 9)] from blkOk_by (by decide +kernel)) (by decide) (fun _ _ _ _ _ => (wg_nm sc__law_view.nd rfl (.inl rfl) (.inr rfl))) (fun _ _ _ _ _ => (wts_one (t_eq bc.room.u65 (we_call ((B__law_draw hd).mono (by decide)) bc.room tk_calm rfl (g__law_draw hd) (wa_cons (we_var (i := 0) rfl (.inr (.inl rfl)) nd_well nc_well) (wa_cons we_int wa_nil rfl) rfl) rfl nd__law_draw) we_int rfl))) (fun _ _ _ _ _ => (we_var (i := 9) rfl (.inl rfl) nd_word nc_word)) (fun _ => rfl))
  (wss_cons (ws_set (i := 4) sc__law_view.nd rfl (.inl rfl) (we_lst (own := true) wa_nil) rfl (.inl rfl))
  (wss_cons (ws_for bc.pass rfl (wi_range1 rfl (n_range hd) (wa_cons (we_add (own := false) we_int (we_call ((B__law_draw hd).mono (by decide)) bc.room bc.tk rfl (g__law_draw hd) (wa_cons (we_var (i := 0) rfl (.inr (.inl rfl)) nd_well nc_well) (wa_cons we_int wa_nil rfl) rfl) rfl nd__law_draw)) wa_nil rfl) rfl) (wg_nm sc__law_view.nd rfl (.inl rfl) (.inl rfl)) (wss_cons (ws_set (i := 6) sc__law_view.nd rfl (.inl rfl) (we_call ((B__law_draw hd).mono (by decide)) bc.room bc.tk rfl (g__law_draw hd) (wa_cons (we_var (i := 0) rfl (.inr (.inl rfl)) nd_well nc_well) (wa_cons we_int wa_nil rfl) rfl) rfl nd__law_draw) rfl (.inl rfl))
  (wss_cons (ws_setLc (i := 7) (fr := false) (own := [(("k" : Str), 10)]) (t := (.nm 10)) rfl sc__law_view.nd rfl rfl rfl (wi_range1 rfl (n_range hd) (wa_cons (we_add (own := false) we_int (we_call ((B__law_draw hd).mono (by decide)) bc.room bc.tk rfl (g__law_draw hd) (wa_cons (we_var (i := 0) rfl (.inr (.inl rfl)) nd_well nc_well) (wa_cons we_int wa_nil rfl) rfl) rfl nd__law_draw)) wa_nil rfl) rfl) (show BlkOk N__law_view (defScope (top 17)) _ [(("k" : Str), 10)] from blkOk_by (by decide +kernel)) (by decide) (fun _ _ _ _ _ => (wg_nm sc__law_view.nd rfl (.inl rfl) (.inr rfl))) (fun _ _ _ _ _ => wts_nil) (fun _ _ _ _ _ => (we_call ((B__law_stand hd).mono (by decide)) bc.room tk_calm rfl (g__law_stand hd) (wa_cons (we_var (i := 0) rfl (.inr (.inl rfl)) nd_well nc_well) wa_nil rfl) rfl nd__law_stand)) (fun _ => rfl))
  (wss_cons (ws_set (i := 8) sc__law_view.nd rfl (.inl rfl) (b_dict (own := false) rfl rfl (n_dict hd) (wa_cons (we_lc (fr := false) (own := [(("word" : Str), 9)]) (t := (.nm 9)) rfl sc__law_view.nd (wi_src (we_lst (own := false) (wa_cons we_int (wa_cons we_int (wa_cons we_int (wa_cons we_int wa_nil rfl) rfl) rfl) rfl))) (show BlkOk N__law_view (defScope (top 17)) _ [(("word" : Str), 9)] from blkOk_by (by decide +kernel)) (by decide) (fun _ _ _ _ _ => (wg_nm sc__law_view.nd rfl (.inl rfl) (.inr rfl))) (fun _ _ _ _ _ => (wts_one (t_eq bc.room.u65 (we_call ((B__law_draw hd).mono (by decide)) bc.room tk_calm rfl (g__law_draw hd) (wa_cons (we_var (i := 0) rfl (.inr (.inl rfl)) nd_well nc_well) (wa_cons we_int wa_nil rfl) rfl) rfl nd__law_draw) we_int rfl))) (fun _ _ _ _ _ => (we_tup (wa_cons (we_var (i := 9) rfl (.inl rfl) nd_word nc_word) (wa_cons (we_call ((B__law_draw hd).mono (by decide)) bc.room tk_calm rfl (g__law_draw hd) (wa_cons (we_var (i := 0) rfl (.inr (.inl rfl)) nd_well nc_well) (wa_cons (we_add (own := false) (we_var (i := 2) rfl (.inr (.inl rfl)) nd_look nc_look) we_int) wa_nil rfl) rfl) rfl nd__law_draw) wa_nil rfl) rfl))) (fun _ => rfl)) wa_nil rfl) rfl) rfl (.inl rfl))
  (wss_one (ws_expr (m_append (we_var (i := 4) rfl (.inl rfl) nd_pots nc_pots) (wa_cons (we_tup (wa_cons (we_var (i := 6) rfl (.inl rfl) nd_side nc_side) (wa_cons (we_var (i := 7) rfl (.inl rfl) nd_stands nc_stands) (wa_cons (we_var (i := 8) rfl (.inl rfl) nd_seen nc_seen) wa_nil rfl) rfl) rfl)) wa_nil rfl) rfl rfl (by decide) rfl) rfl))))) (fun _ => rfl))
  (wss_one (ws_ret (we_tup (wa_cons (we_var (i := 1) rfl (.inl rfl) nd_every nc_every) (wa_cons (we_var (i := 2) rfl (.inr (.inl rfl)) nd_look nc_look) (wa_cons (we_var (i := 3) rfl (.inl rfl) nd_words nc_words) (wa_cons (we_var (i := 4) rfl (.inl rfl) nd_pots nc_pots) wa_nil rfl) rfl) rfl) rfl)))))))))) (fun _ _ _ _ h => h.1) (fun _ _ _ _ h => h.2)
theorem B__law_view (hd : Hd w K mg) : FnBd P w K mg base 3 (He.ga K "_law_view") 1 [] φ__law_view := by
  obtain ⟨fd, Fd⟩ := hd.c.t.d.def_ 13 (d := mkDD (("_law_view" : Str), none) "_law_view" "_law_view" (top 17) []) rfl
  exact fn_bd _ Fd (k__law_view hd Fd) (FunD.bindsN Fd fun _ _ _ _ _ _ us hl => match us, hl with | [_], _ => rfl)
/-! _law_kind -/
def N__law_kind : List Str := ["parts", "side", "seen", "tie", "every", "look", "words", "pots", "payer", "amount", "word", "day", "shown"]
theorem sc__law_kind : FnScope N__law_kind ["parts", "side", "seen", "tie"] (defScope (top 18)) := ⟨rfl, rfl, rfl, by decide +kernel, rfl, by decide +kernel, by decide +kernel⟩
def w__law_kind : WpS := (wSeq (wAsg (.tup (.cons (.nm 4) (.cons (.nm 5) (.cons (.nm 6) (.cons (.nm 7) .nil))))) (wVar 0))
  (wSeq (wAsg (.tup (.cons (.nm 8) (.cons (.nm 9) (.cons (.nm 10) (.cons (.nm 11) .nil))))) (wVar 3))
  (wSeq (wSet 12 (wAnd (wOp (fIn false) (wVar 10) (wVar 2)) (wOp (fCmp cmpLt) (wOp fIx (wVar 2) (wVar 10)) (wVar 11))))
  (wSeq (wIf (wB (wOp (fEq false) (wVar 8) (wVar 1))) (wSeq (wIf (wB (wVar 12)) (wRet (wC (.str ("nothing" : Str)))) wNx)
  (wRet (wOp fIx (wLst false (wCons (wC (.str ("open" : Str))) (wCons (wC (.str ("comes" : Str))) wNil))) (wFun fInt (wCons (wOp (fCmp cmpGe) (wVar 5) (wVar 11)) wNil))))) wNx)
  (wSeq (wIf (wB (wVar 12)) (wRet (wC (.str ("comes" : Str)))) wNx)
  (wSeq (wIf (wB (wOp (fCmp cmpGe) (wVar 5) (wVar 11))) (wRet (wC (.str ("nothing" : Str)))) wNx)
  (wRet (wOp fIx (wLst false (wCons (wC (.str ("hangs" : Str))) (wCons (wC (.str ("comes" : Str))) wNil))) (wFun fInt (wCons (wAnd (wOp (fIn false) (wVar 10) (wVar 6)) (wOp (fCmp cmpLt) (wOp (fAdd false) (wVar 5) (wVar 4)) (wVar 11))) wNil))))))))))
def φ__law_kind : SB.Spec := fun xs S R RE => xs.length = 4 ∧ w__law_kind (startE N__law_kind xs) S ⟨fun _ S' => Rz R .non S', Rz R, fun _ _ => False, fun _ _ => False⟩ (fun c _ S' => RE c S')
theorem k__law_kind (hd : Hd w K mg) {q nm : Str} {dvs : List V} {kws : List (Str × V)} {f : Addr} {fd : FuncData} (Fd : FunD K nm q (defArgs (top 18)) (defBody (top 18)) (defScope (top 18)) dvs kws f fd) : FnOk P w K mg base (L2.CX P w) 1 f fd ["parts", "side", "seen", "tie"] (spOf K φ__law_kind) :=
  body_ok (N := N__law_kind) (ws := w__law_kind) Fd sc__law_kind (fun cdv A outer s H E F bc =>
  (wss_cons (ws_asg (we_var (i := 0) rfl (.inl rfl) nd_parts nc_parts) (wg_tup rfl (wgs_cons (wg_nm sc__law_kind.nd rfl (.inl rfl) (.inl rfl)) (wgs_cons (wg_nm sc__law_kind.nd rfl (.inl rfl) (.inl rfl)) (wgs_cons (wg_nm sc__law_kind.nd rfl (.inl rfl) (.inl rfl)) (wgs_cons (wg_nm sc__law_kind.nd rfl (.inl rfl) (.inl rfl)) wgs_nil (fun _ => rfl)) (fun _ => rfl)) (fun _ => rfl)) (fun _ => rfl)) (fun _ => rfl) (fun _ => rfl)) rfl rfl rfl)
  (wss_cons (ws_asg (we_var (i := 3) rfl (.inl rfl) nd_tie nc_tie) (wg_tup rfl (wgs_cons (wg_nm sc__law_kind.nd rfl (.inl rfl) (.inl rfl)) (wgs_cons (wg_nm sc__law_kind.nd rfl (.inl rfl) (.inl rfl)) (wgs_cons (wg_nm sc__law_kind.nd rfl (.inl rfl) (.inl rfl)) (wgs_cons (wg_nm sc__law_kind.nd rfl (.inl rfl) (.inl rfl)) wgs_nil (fun _ => rfl)) (fun _ => rfl)) (fun _ => rfl)) (fun _ => rfl)) (fun _ => rfl) (fun _ => rfl)) rfl rfl rfl)
  (wss_cons (ws_set (i := 12) sc__law_kind.nd rfl (.inl rfl) (we_and (e_in bc.room.u65 (we_var (i := 10) rfl (.inl rfl) nd_word nc_word) (we_var (i := 2) rfl (.inl rfl) nd_seen nc_seen) rfl) (we_one (e_lt (we_ix (u1 bc.room.u65) (we_var (i := 2) rfl (.inl rfl) nd_seen nc_seen) (we_var (i := 10) rfl (.inl rfl) nd_word nc_word) (fun _ _ => rfl)) (we_var (i := 11) rfl (.inl rfl) nd_day nc_day) rfl))) rfl (.inl rfl))
  (wss_cons (ws_if (t_eq bc.room.u65 (we_var (i := 8) rfl (.inl rfl) nd_payer nc_payer) (we_var (i := 1) rfl (.inl rfl) nd_side nc_side) rfl) (wss_cons (ws_if (wt_val (we_var (i := 12) rfl (.inl rfl) nd_shown nc_shown) (fun _ => rfl)) (wss_one (ws_ret we_str)) wss_nil)
  (wss_one (ws_ret (we_ix (u1 bc.room.u65) (we_lst (own := false) (wa_cons we_str (wa_cons we_str wa_nil rfl) rfl)) (b_int rfl (n_int hd) (wa_cons (e_ge (we_var (i := 5) rfl (.inl rfl) nd_look nc_look) (we_var (i := 11) rfl (.inl rfl) nd_day nc_day) rfl) wa_nil rfl) rfl) (fun _ _ => rfl))))) wss_nil)
  (wss_cons (ws_if (wt_val (we_var (i := 12) rfl (.inl rfl) nd_shown nc_shown) (fun _ => rfl)) (wss_one (ws_ret we_str)) wss_nil)
  (wss_cons (ws_if (t_ge (we_var (i := 5) rfl (.inl rfl) nd_look nc_look) (we_var (i := 11) rfl (.inl rfl) nd_day nc_day) rfl) (wss_one (ws_ret we_str)) wss_nil)
  (wss_one (ws_ret (we_ix (u1 bc.room.u65) (we_lst (own := false) (wa_cons we_str (wa_cons we_str wa_nil rfl) rfl)) (b_int rfl (n_int hd) (wa_cons (we_and (e_in bc.room.u65 (we_var (i := 10) rfl (.inl rfl) nd_word nc_word) (we_var (i := 6) rfl (.inl rfl) nd_words nc_words) rfl) (we_one (e_lt (we_add (own := false) (we_var (i := 5) rfl (.inl rfl) nd_look nc_look) (we_var (i := 4) rfl (.inl rfl) nd_every nc_every)) (we_var (i := 11) rfl (.inl rfl) nd_day nc_day) rfl))) wa_nil rfl) rfl) (fun _ _ => rfl))))))))))) (fun _ _ _ _ h => h.1) (fun _ _ _ _ h => h.2)
theorem B__law_kind (hd : Hd w K mg) : FnBd P w K mg base 1 (He.ga K "_law_kind") 4 [] φ__law_kind := by
  obtain ⟨fd, Fd⟩ := hd.c.t.d.def_ 14 (d := mkDD (("_law_kind" : Str), none) "_law_kind" "_law_kind" (top 18) []) rfl
  exact fn_bd _ Fd (k__law_kind hd Fd) (FunD.bindsN Fd fun _ _ _ _ _ _ us hl => match us, hl with | [_, _, _, _], _ => rfl)
/-! _law_rows -/
def N__law_rows : List Str := ["parts", "chosen", "total", "found", "side", "stands", "seen", "at", "tie"]
theorem sc__law_rows : FnScope N__law_rows ["parts", "chosen"] (defScope (top 19)) := ⟨rfl, rfl, rfl, by decide +kernel, rfl, by decide +kernel, by decide +kernel⟩
def w__law_rows : WpS := (wSeq (wSet 2 (wC (.int 0)))
  (wSeq (wSet 3 (wLst true wNil))
  (wSeq (wFor (wZip (wCons (wOp fIx (wVar 0) (wC (.int 3))) (wCons (wVar 1) wNil))) (.tup (.cons (.tup (.cons (.nm 4) (.cons (.nm 5) (.cons (.nm 6) .nil)))) (.cons (.nm 7) .nil))) (wSeq (wSet 2 (wOp (fAdd false) (wVar 2) (wOp fIx (wOp fIx (wOp fIx (wVar 5) (wVar 7)) (wC (.int 1))) (wVar 4))))
  (wFor (wSrc (wOp fIx (wOp fIx (wVar 5) (wVar 7)) (wC (.int 2)))) (.nm 8) (wExpr (wMt "list" fAppend (wVar 3) (wCons (wOp (fAdd false) (wTup (wCons (wCall φ__law_kind [] (wCons (wVar 0) (wCons (wVar 4) (wCons (wVar 6) (wCons (wVar 8) wNil))))) wNil)) (wSl false (wVar 8) (some (wC (.int 1))) none)) wNil))))))
  (wRet (wTup (wCons (wVar 2) (wCons (wVar 3) wNil)))))))
def φ__law_rows : SB.Spec := fun xs S R RE => xs.length = 2 ∧ w__law_rows (startE N__law_rows xs) S ⟨fun _ S' => Rz R .non S', Rz R, fun _ _ => False, fun _ _ => False⟩ (fun c _ S' => RE c S')
theorem k__law_rows (hd : Hd w K mg) {q nm : Str} {dvs : List V} {kws : List (Str × V)} {f : Addr} {fd : FuncData} (Fd : FunD K nm q (defArgs (top 19)) (defBody (top 19)) (defScope (top 19)) dvs kws f fd) : FnOk P w K mg base (L2.CX P w) 2 f fd ["parts", "chosen"] (spOf K φ__law_rows) :=
  body_ok (N := N__law_rows) (ws := w__law_rows) Fd sc__law_rows (fun cdv A outer s H E F bc =>
  (wss_cons (ws_set (i := 2) sc__law_rows.nd rfl (.inl rfl) we_int rfl (.inl rfl))
  (wss_cons (ws_set (i := 3) sc__law_rows.nd rfl (.inl rfl) (we_lst (own := true) wa_nil) rfl (.inl rfl))
  (wss_cons (ws_for bc.pass rfl (wi_zip rfl (n_zip hd) (wa_cons (we_ix (u1 bc.room.u65) (we_var (i := 0) rfl (.inl rfl) nd_parts nc_parts) we_int (fun _ _ => rfl)) (wa_cons (we_var (i := 1) rfl (.inl rfl) nd_chosen nc_chosen) wa_nil rfl) rfl) rfl rfl) (wg_tup rfl (wgs_cons (wg_tup rfl (wgs_cons (wg_nm sc__law_rows.nd rfl (.inl rfl) (.inl rfl)) (wgs_cons (wg_nm sc__law_rows.nd rfl (.inl rfl) (.inl rfl)) (wgs_cons (wg_nm sc__law_rows.nd rfl (.inl rfl) (.inl rfl)) wgs_nil (fun _ => rfl)) (fun _ => rfl)) (fun _ => rfl)) (fun _ => rfl) (fun _ => rfl)) (wgs_cons (wg_nm sc__law_rows.nd rfl (.inl rfl) (.inl rfl)) wgs_nil (fun _ => rfl)) (fun _ => rfl)) (fun _ => rfl) (fun _ => rfl)) (wss_cons (ws_set (i := 2) sc__law_rows.nd rfl (.inl rfl) (we_add (own := false) (we_var (i := 2) rfl (.inl rfl) nd_total nc_total) (we_ix (u1 bc.room.u65) (we_ix (u1 bc.room.u65) (we_ix (u1 bc.room.u65) (we_var (i := 5) rfl (.inl rfl) nd_stands nc_stands) (we_var (i := 7) rfl (.inl rfl) nd_at nc_at) (fun _ _ => rfl)) we_int (fun _ _ => rfl)) (we_var (i := 4) rfl (.inl rfl) nd_side nc_side) (fun _ _ => rfl))) rfl (.inl rfl))
  (wss_one (ws_for bc.pass rfl (wi_src (we_ix (u1 bc.room.u65) (we_ix (u1 bc.room.u65) (we_var (i := 5) rfl (.inl rfl) nd_stands nc_stands) (we_var (i := 7) rfl (.inl rfl) nd_at nc_at) (fun _ _ => rfl)) we_int (fun _ _ => rfl))) (wg_nm sc__law_rows.nd rfl (.inl rfl) (.inl rfl)) (wss_one (ws_expr (m_append (we_var (i := 3) rfl (.inl rfl) nd_found nc_found) (wa_cons (we_add (own := false) (we_tup (wa_cons (we_call ((B__law_kind hd).mono (by decide)) bc.room bc.tk rfl (g__law_kind hd) (wa_cons (we_var (i := 0) rfl (.inl rfl) nd_parts nc_parts) (wa_cons (we_var (i := 4) rfl (.inl rfl) nd_side nc_side) (wa_cons (we_var (i := 6) rfl (.inl rfl) nd_seen nc_seen) (wa_cons (we_var (i := 8) rfl (.inl rfl) nd_tie nc_tie) wa_nil rfl) rfl) rfl) rfl) rfl nd__law_kind) wa_nil rfl)) (we_sl (own := false) (we_var (i := 8) rfl (.inl rfl) nd_tie nc_tie) (.some we_int) .none)) wa_nil rfl) rfl rfl (by decide) rfl) rfl)) (fun _ => rfl)))) (fun _ => rfl))
  (wss_one (ws_ret (we_tup (wa_cons (we_var (i := 2) rfl (.inl rfl) nd_total nc_total) (wa_cons (we_var (i := 3) rfl (.inl rfl) nd_found nc_found) wa_nil rfl) rfl)))))))) (fun _ _ _ _ h => h.1) (fun _ _ _ _ h => h.2)
theorem B__law_rows (hd : Hd w K mg) : FnBd P w K mg base 2 (He.ga K "_law_rows") 2 [] φ__law_rows := by
  obtain ⟨fd, Fd⟩ := hd.c.t.d.def_ 15 (d := mkDD (("_law_rows" : Str), none) "_law_rows" "_law_rows" (top 19) []) rfl
  exact fn_bd _ Fd (k__law_rows hd Fd) (FunD.bindsN Fd fun _ _ _ _ _ _ us hl => match us, hl with | [_, _], _ => rfl)
/-! _law_fates -/
def N__law_fates : List Str := ["rows", "word", "kind", "amount", "tied_word", "day"]
theorem sc__law_fates : FnScope N__law_fates ["rows", "word"] (defScope (top 20)) := ⟨rfl, rfl, rfl, by decide +kernel, rfl, by decide +kernel, by decide +kernel⟩
def w__law_fates : WpS := (wRet (wOp (fAdd false) (wLst false (wCons (wC .non) wNil)) (wLc false (wSrc (wVar 0)) (.tup (.cons (.nm 2) (.cons (.nm 3) (.cons (.nm 4) (.cons (.nm 5) .nil))))) (wB (wAnd (wOp (fEq false) (wVar 2) (wC (.str ("open" : Str)))) (wOp (fEq false) (wVar 4) (wVar 1)))) (wVar 5) [2, 3, 4, 5])))
def φ__law_fates : SB.Spec := fun xs S R RE => xs.length = 2 ∧ w__law_fates (startE N__law_fates xs) S ⟨fun _ S' => Rz R .non S', Rz R, fun _ _ => False, fun _ _ => False⟩ (fun c _ S' => RE c S')
theorem k__law_fates (hd : Hd w K mg) {q nm : Str} {dvs : List V} {kws : List (Str × V)} {f : Addr} {fd : FuncData} (Fd : FunD K nm q (defArgs (top 20)) (defBody (top 20)) (defScope (top 20)) dvs kws f fd) : FnOk P w K mg base (L2.CX P w) 1 f fd ["rows", "word"] (spOf K φ__law_fates) :=
  body_ok (N := N__law_fates) (ws := w__law_fates) Fd sc__law_fates (fun cdv A outer s H E F bc =>
  (wss_one (ws_ret (we_add (own := false) (we_lst (own := false) (wa_cons we_non wa_nil rfl)) (we_lc (fr := false) (own := [(("kind" : Str), 2), (("amount" : Str), 3), (("tied_word" : Str), 4), (("day" : Str), 5)]) (t := (.tup (.cons (.nm 2) (.cons (.nm 3) (.cons (.nm 4) (.cons (.nm 5) .nil)))))) rfl sc__law_fates.nd (wi_src (we_var (i := 0) rfl (.inl rfl) nd_rows nc_rows)) (show BlkOk N__law_fates (defScope (top 20)) _ [(("kind" : Str), 2), (("amount" : Str), 3), (("tied_word" : Str), 4), (("day" : Str), 5)] from blkOk_by (by decide +kernel)) (by decide) (fun _ _ _ _ _ => (wg_tup rfl (wgs_cons (wg_nm sc__law_fates.nd rfl (.inl rfl) (.inr rfl)) (wgs_cons (wg_nm sc__law_fates.nd rfl (.inl rfl) (.inr rfl)) (wgs_cons (wg_nm sc__law_fates.nd rfl (.inl rfl) (.inr rfl)) (wgs_cons (wg_nm sc__law_fates.nd rfl (.inl rfl) (.inr rfl)) wgs_nil (fun _ => rfl)) (fun _ => rfl)) (fun _ => rfl)) (fun _ => rfl)) (fun _ => rfl) (fun _ => rfl))) (fun _ _ _ _ _ => (wts_one (WW.wt (ww_and (t_eq bc.room.u65 (we_var (i := 2) rfl (.inl rfl) nd_kind nc_kind) we_str rfl) (ww_and1 (t_eq bc.room.u65 (we_var (i := 4) rfl (.inl rfl) nd_tied_word nc_tied_word) (we_var (i := 1) rfl (.inr (.inl rfl)) nd_word nc_word) rfl)))))) (fun _ _ _ _ _ => (we_var (i := 5) rfl (.inl rfl) nd_day nc_day)) (fun _ => rfl)))))) (fun _ _ _ _ h => h.1) (fun _ _ _ _ h => h.2)
theorem B__law_fates (hd : Hd w K mg) : FnBd P w K mg base 1 (He.ga K "_law_fates") 2 [] φ__law_fates := by
  obtain ⟨fd, Fd⟩ := hd.c.t.d.def_ 16 (d := mkDD (("_law_fates" : Str), none) "_law_fates" "_law_fates" (top 20) []) rfl
  exact fn_bd _ Fd (k__law_fates hd Fd) (FunD.bindsN Fd fun _ _ _ _ _ _ us hl => match us, hl with | [_, _], _ => rfl)
/-! _law_sum -/
def N__law_sum : List Str := ["parts", "chosen", "fates", "total", "rows", "kind", "amount", "word", "day", "fate"]
theorem sc__law_sum : FnScope N__law_sum ["parts", "chosen", "fates"] (defScope (top 21)) := ⟨rfl, rfl, rfl, by decide +kernel, rfl, by decide +kernel, by decide +kernel⟩
def w__law_sum : WpS := (wSeq (wAsg (.tup (.cons (.nm 3) (.cons (.nm 4) .nil))) (wCall φ__law_rows [] (wCons (wVar 0) (wCons (wVar 1) wNil))))
  (wSeq (wFor (wSrc (wVar 4)) (.tup (.cons (.nm 5) (.cons (.nm 6) (.cons (.nm 7) (.cons (.nm 8) .nil))))) (wSeq (wSet 9 (wOp fIx (wVar 2) (wVar 7)))
  (wIf (wB (wOr (wOp (fEq false) (wVar 5) (wC (.str ("comes" : Str)))) (wAnd (wOp (fEq false) (wVar 5) (wC (.str ("open" : Str)))) (wOr (wOp (fIs false) (wVar 9) (wC .non)) (wOp (fCmp cmpGt) (wVar 9) (wVar 8)))))) (wSet 3 (wOp (fAdd false) (wVar 3) (wVar 6))) (wIf (wB (wAnd (wOp (fEq false) (wVar 5) (wC (.str ("hangs" : Str)))) (wAnd (wOp (fIs true) (wVar 9) (wC .non)) (wOp (fCmp cmpLt) (wOp (fAdd false) (wOp fSub (wVar 9) (wC (.int 1))) (wOp fIx (wVar 0) (wC (.int 0)))) (wVar 8))))) (wSet 3 (wOp (fAdd false) (wVar 3) (wVar 6))) wNx))))
  (wRet (wVar 3))))
def φ__law_sum : SB.Spec := fun xs S R RE => xs.length = 3 ∧ w__law_sum (startE N__law_sum xs) S ⟨fun _ S' => Rz R .non S', Rz R, fun _ _ => False, fun _ _ => False⟩ (fun c _ S' => RE c S')
theorem k__law_sum (hd : Hd w K mg) {q nm : Str} {dvs : List V} {kws : List (Str × V)} {f : Addr} {fd : FuncData} (Fd : FunD K nm q (defArgs (top 21)) (defBody (top 21)) (defScope (top 21)) dvs kws f fd) : FnOk P w K mg base (L2.CX P w) 3 f fd ["parts", "chosen", "fates"] (spOf K φ__law_sum) :=
  body_ok (N := N__law_sum) (ws := w__law_sum) Fd sc__law_sum (fun cdv A outer s H E F bc =>
  (wss_cons (ws_asg (we_call ((B__law_rows hd).mono (by decide)) bc.room bc.tk rfl (g__law_rows hd) (wa_cons (we_var (i := 0) rfl (.inl rfl) nd_parts nc_parts) (wa_cons (we_var (i := 1) rfl (.inl rfl) nd_chosen nc_chosen) wa_nil rfl) rfl) rfl nd__law_rows) (wg_tup rfl (wgs_cons (wg_nm sc__law_sum.nd rfl (.inl rfl) (.inl rfl)) (wgs_cons (wg_nm sc__law_sum.nd rfl (.inl rfl) (.inl rfl)) wgs_nil (fun _ => rfl)) (fun _ => rfl)) (fun _ => rfl) (fun _ => rfl)) rfl rfl rfl)
  (wss_cons (ws_for bc.pass rfl (wi_src (we_var (i := 4) rfl (.inl rfl) nd_rows nc_rows)) (wg_tup rfl (wgs_cons (wg_nm sc__law_sum.nd rfl (.inl rfl) (.inl rfl)) (wgs_cons (wg_nm sc__law_sum.nd rfl (.inl rfl) (.inl rfl)) (wgs_cons (wg_nm sc__law_sum.nd rfl (.inl rfl) (.inl rfl)) (wgs_cons (wg_nm sc__law_sum.nd rfl (.inl rfl) (.inl rfl)) wgs_nil (fun _ => rfl)) (fun _ => rfl)) (fun _ => rfl)) (fun _ => rfl)) (fun _ => rfl) (fun _ => rfl)) (wss_cons (ws_set (i := 9) sc__law_sum.nd rfl (.inl rfl) (we_ix (u1 bc.room.u65) (we_var (i := 2) rfl (.inl rfl) nd_fates nc_fates) (we_var (i := 7) rfl (.inl rfl) nd_word nc_word) (fun _ _ => rfl)) rfl (.inl rfl))
  (wss_one (ws_if (WW.wt (ww_or (t_eq bc.room.u65 (we_var (i := 5) rfl (.inl rfl) nd_kind nc_kind) we_str rfl) (ww_or1 (WW.wt (ww_and (t_eq bc.room.u65 (we_var (i := 5) rfl (.inl rfl) nd_kind nc_kind) we_str rfl) (ww_and1 (WW.wt (ww_or (t_is (we_var (i := 9) rfl (.inl rfl) nd_fate nc_fate) we_non rfl) (ww_or1 (t_gt (we_var (i := 9) rfl (.inl rfl) nd_fate nc_fate) (we_var (i := 8) rfl (.inl rfl) nd_day nc_day) rfl)))))))))) (wss_one (ws_set (i := 3) sc__law_sum.nd rfl (.inl rfl) (we_add (own := false) (we_var (i := 3) rfl (.inl rfl) nd_total nc_total) (we_var (i := 6) rfl (.inl rfl) nd_amount nc_amount)) rfl (.inl rfl))) (wss_one (ws_if (WW.wt (ww_and (t_eq bc.room.u65 (we_var (i := 5) rfl (.inl rfl) nd_kind nc_kind) we_str rfl) (ww_and (t_isn (we_var (i := 9) rfl (.inl rfl) nd_fate nc_fate) we_non rfl) (ww_and1 (t_lt (we_add (own := false) (we_sub (we_var (i := 9) rfl (.inl rfl) nd_fate nc_fate) we_int) (we_ix (u1 bc.room.u65) (we_var (i := 0) rfl (.inl rfl) nd_parts nc_parts) we_int (fun _ _ => rfl))) (we_var (i := 8) rfl (.inl rfl) nd_day nc_day) rfl))))) (wss_one (ws_set (i := 3) sc__law_sum.nd rfl (.inl rfl) (we_add (own := false) (we_var (i := 3) rfl (.inl rfl) nd_total nc_total) (we_var (i := 6) rfl (.inl rfl) nd_amount nc_amount)) rfl (.inl rfl))) wss_nil))))) (fun _ => rfl))
  (wss_one (ws_ret (we_var (i := 3) rfl (.inl rfl) nd_total nc_total)))))) (fun _ _ _ _ h => h.1) (fun _ _ _ _ h => h.2)
theorem B__law_sum (hd : Hd w K mg) : FnBd P w K mg base 3 (He.ga K "_law_sum") 3 [] φ__law_sum := by
  obtain ⟨fd, Fd⟩ := hd.c.t.d.def_ 17 (d := mkDD (("_law_sum" : Str), none) "_law_sum" "_law_sum" (top 21) []) rfl
  exact fn_bd _ Fd (k__law_sum hd Fd) (FunD.bindsN Fd fun _ _ _ _ _ _ us hl => match us, hl with | [_, _, _], _ => rfl)
/-! _law_due -/
def N__law_due : List Str := ["parts", "told", "number", "chosen", "fates", "side", "stands", "seen", "at", "total", "rows", "words", "row", "word"]
theorem sc__law_due : FnScope N__law_due ["parts", "told"] (defScope (top 22)) := ⟨rfl, rfl, rfl, by decide +kernel, rfl, by decide +kernel, by decide +kernel⟩
def w__law_due : WpS := (wSeq (wAsg (.tup (.cons (.nm 2) (.cons (.nm 3) (.cons (.nm 4) .nil)))) (wVar 1))
  (wSeq (wIf (wB (wOp (fEq true) (wFun fLen (wCons (wVar 3) wNil)) (wFun fLen (wCons (wOp fIx (wVar 0) (wC (.int 3))) wNil)))) (wRet (wC (.bl false))) wNx)
  (wSeq (wFor (wZip (wCons (wOp fIx (wVar 0) (wC (.int 3))) (wCons (wVar 3) wNil))) (.tup (.cons (.tup (.cons (.nm 5) (.cons (.nm 6) (.cons (.nm 7) .nil)))) (.cons (.nm 8) .nil))) (wIf (wB (wNot (wChain (fCmp cmpLe) (fCmp cmpLt) (wC (.int 0)) (wVar 8) (wFun fLen (wCons (wVar 6) wNil))))) (wRet (wC (.bl false))) wNx))
  (wSeq (wAsg (.tup (.cons (.nm 9) (.cons (.nm 10) .nil))) (wCall φ__law_rows [] (wCons (wVar 0) (wCons (wVar 3) wNil))))
  (wSeq (wSet 11 (wSortSet false (wLc false (wSrc (wVar 10)) (.nm 12) wYes (wOp fIx (wVar 12) (wC (.int 2))) [12])))
  (wSeq (wIf (wB (wOp (fEq true) (wFun (fSorted false) (wCons (wFun (fList false) (wCons (wVar 4) wNil)) wNil)) (wVar 11))) (wRet (wC (.bl false))) wNx)
  (wSeq (wIf (wB (wNot (wFun fAll (wCons (wLc false (wSrc (wVar 11)) (.nm 13) wYes (wOp (fIn false) (wOp fIx (wVar 4) (wVar 13)) (wCall φ__law_fates [] (wCons (wVar 10) (wCons (wVar 13) wNil)))) [13]) wNil)))) (wRet (wC (.bl false))) wNx)
  (wRet (wOp (fEq false) (wCall φ__law_sum [] (wCons (wVar 0) (wCons (wVar 3) (wCons (wVar 4) wNil)))) (wVar 2))))))))))
def φ__law_due : SB.Spec := fun xs S R RE => xs.length = 2 ∧ w__law_due (startE N__law_due xs) S ⟨fun _ S' => Rz R .non S', Rz R, fun _ _ => False, fun _ _ => False⟩ (fun c _ S' => RE c S')
theorem k__law_due (hd : Hd w K mg) {q nm : Str} {dvs : List V} {kws : List (Str × V)} {f : Addr} {fd : FuncData} (Fd : FunD K nm q (defArgs (top 22)) (defBody (top 22)) (defScope (top 22)) dvs kws f fd) : FnOk P w K mg base (L2.CX P w) 4 f fd ["parts", "told"] (spOf K φ__law_due) :=
  body_ok (N := N__law_due) (ws := w__law_due) Fd sc__law_due (fun cdv A outer s H E F bc =>
  (wss_cons (ws_asg (we_var (i := 1) rfl (.inl rfl) nd_told nc_told) (wg_tup rfl (wgs_cons (wg_nm sc__law_due.nd rfl (.inl rfl) (.inl rfl)) (wgs_cons (wg_nm sc__law_due.nd rfl (.inl rfl) (.inl rfl)) (wgs_cons (wg_nm sc__law_due.nd rfl (.inr rfl) (.inl rfl)) wgs_nil (fun _ => rfl)) (fun _ => rfl)) (fun _ => rfl)) (fun _ => rfl) (fun _ => rfl)) rfl rfl rfl)
  (wss_cons (ws_if (t_ne bc.room.u65 (b_len rfl (n_len hd) (wa_cons (we_var (i := 3) rfl (.inl rfl) nd_chosen nc_chosen) wa_nil rfl) rfl) (b_len rfl (n_len hd) (wa_cons (we_ix (u1 bc.room.u65) (we_var (i := 0) rfl (.inl rfl) nd_parts nc_parts) we_int (fun _ _ => rfl)) wa_nil rfl) rfl) rfl) (wss_one (ws_ret we_bl)) wss_nil)
  (wss_cons (ws_for bc.pass rfl (wi_zip rfl (n_zip hd) (wa_cons (we_ix (u1 bc.room.u65) (we_var (i := 0) rfl (.inl rfl) nd_parts nc_parts) we_int (fun _ _ => rfl)) (wa_cons (we_var (i := 3) rfl (.inl rfl) nd_chosen nc_chosen) wa_nil rfl) rfl) rfl rfl) (wg_tup rfl (wgs_cons (wg_tup rfl (wgs_cons (wg_nm sc__law_due.nd rfl (.inl rfl) (.inl rfl)) (wgs_cons (wg_nm sc__law_due.nd rfl (.inl rfl) (.inl rfl)) (wgs_cons (wg_nm sc__law_due.nd rfl (.inl rfl) (.inl rfl)) wgs_nil (fun _ => rfl)) (fun _ => rfl)) (fun _ => rfl)) (fun _ => rfl) (fun _ => rfl)) (wgs_cons (wg_nm sc__law_due.nd rfl (.inl rfl) (.inl rfl)) wgs_nil (fun _ => rfl)) (fun _ => rfl)) (fun _ => rfl) (fun _ => rfl)) (wss_one (ws_if (wt_not (wt_chain op_le op_lt od_cmp od_cmp we_int (we_var (i := 8) rfl (.inl rfl) nd_at nc_at) (b_len rfl (n_len hd) (wa_cons (we_var (i := 6) rfl (.inl rfl) nd_stands nc_stands) wa_nil rfl) rfl) rfl)) (wss_one (ws_ret we_bl)) wss_nil)) (fun _ => rfl))
  (wss_cons (ws_asg (we_call ((B__law_rows hd).mono (by decide)) bc.room bc.tk rfl (g__law_rows hd) (wa_cons (we_var (i := 0) rfl (.inl rfl) nd_parts nc_parts) (wa_cons (we_var (i := 3) rfl (.inl rfl) nd_chosen nc_chosen) wa_nil rfl) rfl) rfl nd__law_rows) (wg_tup rfl (wgs_cons (wg_nm sc__law_due.nd rfl (.inl rfl) (.inl rfl)) (wgs_cons (wg_nm sc__law_due.nd rfl (.inr rfl) (.inl rfl)) wgs_nil (fun _ => rfl)) (fun _ => rfl)) (fun _ => rfl) (fun _ => rfl)) rfl rfl rfl)
  (wss_cons (ws_set (i := 11) sc__law_due.nd rfl (.inl rfl) (b_sortSet (own := false) rfl rfl (n_sorted hd) rfl (n_set hd) (we_lc (fr := false) (own := [(("row" : Str), 12)]) (t := (.nm 12)) rfl sc__law_due.nd (wi_src (we_var (i := 10) rfl (.inr (.inl rfl)) nd_rows nc_rows)) (show BlkOk N__law_due (defScope (top 22)) _ [(("row" : Str), 12)] from blkOk_by (by decide +kernel)) (by decide) (fun _ _ _ _ _ => (wg_nm sc__law_due.nd rfl (.inl rfl) (.inr rfl))) (fun _ _ _ _ _ => wts_nil) (fun _ _ _ _ _ => (we_ix (u1 bc.room.u65) (we_var (i := 12) rfl (.inl rfl) nd_row nc_row) we_int (fun _ _ => rfl))) (fun _ => rfl)) rfl) rfl (.inl rfl))
  (wss_cons (ws_if (t_ne bc.room.u65 (b_sorted (own := false) rfl rfl (n_sorted hd) (wa_cons (b_list (own := false) rfl rfl (n_list hd) (wa_cons (we_var (i := 4) rfl (.inr (.inl rfl)) nd_fates nc_fates) wa_nil rfl) rfl) wa_nil rfl) rfl) (we_var (i := 11) rfl (.inl rfl) nd_words nc_words) rfl) (wss_one (ws_ret we_bl)) wss_nil)
  (wss_cons (ws_if (wt_not (wt_val (b_all rfl rfl (n_all hd) (wa_cons (we_lc (fr := false) (own := [(("word" : Str), 13)]) (t := (.nm 13)) rfl sc__law_due.nd (wi_src (we_var (i := 11) rfl (.inl rfl) nd_words nc_words)) (show BlkOk N__law_due (defScope (top 22)) _ [(("word" : Str), 13)] from blkOk_by (by decide +kernel)) (by decide) (fun _ _ _ _ _ => (wg_nm sc__law_due.nd rfl (.inl rfl) (.inr rfl))) (fun _ _ _ _ _ => wts_nil) (fun _ _ _ _ _ => (e_in bc.room.u65 (we_ix (u1 bc.room.u65) (we_var (i := 4) rfl (.inr (.inl rfl)) nd_fates nc_fates) (we_var (i := 13) rfl (.inl rfl) nd_word nc_word) (fun _ _ => rfl)) (we_call ((B__law_fates hd).mono (by decide)) bc.room tk_calm rfl (g__law_fates hd) (wa_cons (we_var (i := 10) rfl (.inr (.inl rfl)) nd_rows nc_rows) (wa_cons (we_var (i := 13) rfl (.inl rfl) nd_word nc_word) wa_nil rfl) rfl) rfl nd__law_fates) rfl)) (fun _ => rfl)) wa_nil rfl) rfl) (fun _ => rfl))) (wss_one (ws_ret we_bl)) wss_nil)
  (wss_one (ws_ret (e_eq bc.room.u65 (we_call ((B__law_sum hd).mono (by decide)) bc.room bc.tk rfl (g__law_sum hd) (wa_cons (we_var (i := 0) rfl (.inl rfl) nd_parts nc_parts) (wa_cons (we_var (i := 3) rfl (.inl rfl) nd_chosen nc_chosen) (wa_cons (we_var (i := 4) rfl (.inr (.inl rfl)) nd_fates nc_fates) wa_nil rfl) rfl) rfl) rfl nd__law_sum) (we_var (i := 2) rfl (.inl rfl) nd_number nc_number) rfl))))))))))) (fun _ _ _ _ h => h.1) (fun _ _ _ _ h => h.2)
theorem B__law_due (hd : Hd w K mg) : FnBd P w K mg base 4 (He.ga K "_law_due") 2 [] φ__law_due := by
  obtain ⟨fd, Fd⟩ := hd.c.t.d.def_ 18 (d := mkDD (("_law_due" : Str), none) "_law_due" "_law_due" (top 22) []) rfl
  exact fn_bd _ Fd (k__law_due hd Fd) (FunD.bindsN Fd fun _ _ _ _ _ _ us hl => match us, hl with | [_, _], _ => rfl)
/-! _law_right_paper -/
def N__law_right_paper : List Str := ["well", "parts", "chosen", "total", "rows", "fates", "word", "side", "stands", "seen", "row"]
theorem sc__law_right_paper : FnScope N__law_right_paper ["well", "parts"] (defScope (top 23)) := ⟨rfl, rfl, rfl, by decide +kernel, rfl, by decide +kernel, by decide +kernel⟩
def w__law_right_paper : WpS := (wSeq (wSet 2 (wLc false (wSrc (wOp fIx (wVar 1) (wC (.int 3)))) (.tup (.cons (.nm 7) (.cons (.nm 8) (.cons (.nm 9) .nil)))) wYes (wCall φ__law_draw [] (wCons (wVar 0) (wCons (wFun fLen (wCons (wVar 8) wNil)) wNil))) [7, 8, 9]))
  (wSeq (wAsg (.tup (.cons (.nm 3) (.cons (.nm 4) .nil))) (wCall φ__law_rows [] (wCons (wVar 1) (wCons (wVar 2) wNil))))
  (wSeq (wSet 5 (wDict0 true))
  (wSeq (wFor (wSrc (wUn (fRev false) (wSortSet false (wLc false (wSrc (wVar 4)) (.nm 10) wYes (wOp fIx (wVar 10) (wC (.int 2))) [10])))) (.nm 6) (wSetI (wCall φ__law_one [] (wCons (wVar 0) (wCons (wCall φ__law_fates [] (wCons (wVar 4) (wCons (wVar 6) wNil))) wNil))) (wVar 5) (wVar 6)))
  (wRet (wTup (wCons (wCall φ__law_sum [] (wCons (wVar 1) (wCons (wVar 2) (wCons (wVar 5) wNil)))) (wCons (wVar 2) (wCons (wVar 5) wNil)))))))))
def φ__law_right_paper : SB.Spec := fun xs S R RE => xs.length = 2 ∧ w__law_right_paper (startE N__law_right_paper xs) S ⟨fun _ S' => Rz R .non S', Rz R, fun _ _ => False, fun _ _ => False⟩ (fun c _ S' => RE c S')
theorem k__law_right_paper (hd : Hd w K mg) {q nm : Str} {dvs : List V} {kws : List (Str × V)} {f : Addr} {fd : FuncData} (Fd : FunD K nm q (defArgs (top 23)) (defBody (top 23)) (defScope (top 23)) dvs kws f fd) : FnOk P w K mg base (L2.CX P w) 4 f fd ["well", "parts"] (spOf K φ__law_right_paper) :=
  body_ok (N := N__law_right_paper) (ws := w__law_right_paper) Fd sc__law_right_paper (fun cdv A outer s H E F bc =>
  (wss_cons (ws_setLc (i := 2) (fr := false) (own := [(("side" : Str), 7), (("stands" : Str), 8), (("seen" : Str), 9)]) (t := (.tup (.cons (.nm 7) (.cons (.nm 8) (.cons (.nm 9) .nil))))) rfl sc__law_right_paper.nd rfl rfl rfl (wi_src (we_ix (u1 bc.room.u65) (we_var (i := 1) rfl (.inl rfl) nd_parts nc_parts) we_int (fun _ _ => rfl))) (show BlkOk N__law_right_paper (defScope (top 23)) _ [(("side" : Str), 7), (("stands" : Str), 8), (("seen" : Str), 9)] from blkOk_by (by decide +kernel)) (by decide) (fun _ _ _ _ _ => (wg_tup rfl (wgs_cons (wg_nm sc__law_right_paper.nd rfl (.inl rfl) (.inr rfl)) (wgs_cons (wg_nm sc__law_right_paper.nd rfl (.inl rfl) (.inr rfl)) (wgs_cons (wg_nm sc__law_right_paper.nd rfl (.inl rfl) (.inr rfl)) wgs_nil (fun _ => rfl)) (fun _ => rfl)) (fun _ => rfl)) (fun _ => rfl) (fun _ => rfl))) (fun _ _ _ _ _ => wts_nil) (fun _ _ _ _ _ => (we_call ((B__law_draw hd).mono (by decide)) bc.room tk_calm rfl (g__law_draw hd) (wa_cons (we_var (i := 0) rfl (.inr (.inl rfl)) nd_well nc_well) (wa_cons (b_len rfl (n_len hd) (wa_cons (we_var (i := 8) rfl (.inl rfl) nd_stands nc_stands) wa_nil rfl) rfl) wa_nil rfl) rfl) rfl nd__law_draw)) (fun _ => rfl))
  (wss_cons (ws_asg (we_call ((B__law_rows hd).mono (by decide)) bc.room bc.tk rfl (g__law_rows hd) (wa_cons (we_var (i := 1) rfl (.inl rfl) nd_parts nc_parts) (wa_cons (we_var (i := 2) rfl (.inl rfl) nd_chosen nc_chosen) wa_nil rfl) rfl) rfl nd__law_rows) (wg_tup rfl (wgs_cons (wg_nm sc__law_right_paper.nd rfl (.inl rfl) (.inl rfl)) (wgs_cons (wg_nm sc__law_right_paper.nd rfl (.inl rfl) (.inl rfl)) wgs_nil (fun _ => rfl)) (fun _ => rfl)) (fun _ => rfl) (fun _ => rfl)) rfl rfl rfl)
  (wss_cons (ws_set (i := 5) sc__law_right_paper.nd rfl (.inl rfl) (we_dict0 (own := true)) rfl (.inl rfl))
  (wss_cons (ws_for bc.pass rfl (wi_src (we_rev (own := false) (b_sortSet (own := false) rfl rfl (n_sorted hd) rfl (n_set hd) (we_lc (fr := false) (own := [(("row" : Str), 10)]) (t := (.nm 10)) rfl sc__law_right_paper.nd (wi_src (we_var (i := 4) rfl (.inl rfl) nd_rows nc_rows)) (show BlkOk N__law_right_paper (defScope (top 23)) _ [(("row" : Str), 10)] from blkOk_by (by decide +kernel)) (by decide) (fun _ _ _ _ _ => (wg_nm sc__law_right_paper.nd rfl (.inl rfl) (.inr rfl))) (fun _ _ _ _ _ => wts_nil) (fun _ _ _ _ _ => (we_ix (u1 bc.room.u65) (we_var (i := 10) rfl (.inl rfl) nd_row nc_row) we_int (fun _ _ => rfl))) (fun _ => rfl)) rfl))) (wg_nm sc__law_right_paper.nd rfl (.inl rfl) (.inl rfl)) (wss_one (ws_setI (u1 bc.room.u65) (we_call ((B__law_one hd).mono (by decide)) bc.room bc.tk rfl (g__law_one hd) (wa_cons (we_var (i := 0) rfl (.inr (.inl rfl)) nd_well nc_well) (wa_cons (we_call ((B__law_fates hd).mono (by decide)) bc.room bc.tk rfl (g__law_fates hd) (wa_cons (we_var (i := 4) rfl (.inl rfl) nd_rows nc_rows) (wa_cons (we_var (i := 6) rfl (.inl rfl) nd_word nc_word) wa_nil rfl) rfl) rfl nd__law_fates) wa_nil rfl) rfl) rfl nd__law_one) (we_var (i := 5) rfl (.inl rfl) nd_fates nc_fates) (we_var (i := 6) rfl (.inl rfl) nd_word nc_word) (fun _ => rfl) rfl rfl rfl)) (fun _ => rfl))
  (wss_one (ws_ret (we_tup (wa_cons (we_call ((B__law_sum hd).mono (by decide)) bc.room bc.tk rfl (g__law_sum hd) (wa_cons (we_var (i := 1) rfl (.inl rfl) nd_parts nc_parts) (wa_cons (we_var (i := 2) rfl (.inl rfl) nd_chosen nc_chosen) (wa_cons (we_var (i := 5) rfl (.inl rfl) nd_fates nc_fates) wa_nil rfl) rfl) rfl) rfl nd__law_sum) (wa_cons (we_var (i := 2) rfl (.inl rfl) nd_chosen nc_chosen) (wa_cons (we_var (i := 5) rfl (.inl rfl) nd_fates nc_fates) wa_nil rfl) rfl) rfl))))))))) (fun _ _ _ _ h => h.1) (fun _ _ _ _ h => h.2)
theorem B__law_right_paper (hd : Hd w K mg) : FnBd P w K mg base 4 (He.ga K "_law_right_paper") 2 [] φ__law_right_paper := by
  obtain ⟨fd, Fd⟩ := hd.c.t.d.def_ 19 (d := mkDD (("_law_right_paper" : Str), none) "_law_right_paper" "_law_right_paper" (top 23) []) rfl
  exact fn_bd _ Fd (k__law_right_paper hd Fd) (FunD.bindsN Fd fun _ _ _ _ _ _ us hl => match us, hl with | [_, _], _ => rfl)
/-! _law_otherwise -/
def N__law_otherwise : List Str := ["well", "told", "number", "chosen", "fates", "pick", "words", "later", "word", "other", "at"]
theorem sc__law_otherwise : FnScope N__law_otherwise ["well", "told"] (defScope (top 24)) := ⟨rfl, rfl, rfl, by decide +kernel, rfl, by decide +kernel, by decide +kernel⟩
def w__law_otherwise : WpS := (wSeq (wAsg (.tup (.cons (.nm 2) (.cons (.nm 3) (.cons (.nm 4) .nil)))) (wVar 1))
  (wSeq (wSet 5 (wCall φ__law_draw [] (wCons (wVar 0) (wCons (wC (.int 7)) wNil))))
  (wSeq (wSet 6 (wFun (fSorted false) (wCons (wFun (fList false) (wCons (wVar 4) wNil)) wNil)))
  (wSeq (wSet 7 (wFun (fDict true) (wCons (wVar 4) wNil)))
  (wSeq (wIf (wB (wOr (wOp (fEq false) (wVar 5) (wC (.int 0))) (wOp (fEq false) (wVar 6) (wLst false wNil)))) (wRet (wTup (wCons (wOp (fAdd false) (wVar 2) (wCall φ__law_one [] (wCons (wVar 0) (wCons (wLst false (wCons (wC (.int 1)) (wCons (wUn fNeg (wC (.int 1))) (wCons (wC (.int 5)) (wCons (wUn fNeg (wC (.int 5))) (wCons (wC (.int 20)) wNil)))))) wNil)))) (wCons (wVar 3) (wCons (wVar 4) wNil))))) wNx)
  (wSeq (wSet 8 (wCall φ__law_one [] (wCons (wVar 0) (wCons (wVar 6) wNil))))
  (wSeq (wIf (wB (wOp (fEq false) (wVar 5) (wC (.int 1)))) (wExpr (wMt "dict" fPopD (wVar 7) (wCons (wVar 8) wNil))) (wIf (wB (wOp (fEq false) (wVar 5) (wC (.int 2)))) (wSetI (wCall φ__law_one [] (wCons (wVar 0) (wCons (wLst false (wCons (wC .non) (wCons (wC (.int 3)) (wCons (wOp fIx (wVar 7) (wVar 8)) wNil)))) wNil))) (wVar 7) (wCall φ__law_one [] (wCons (wVar 0) (wCons (wLst false (wCons (wC (.int 0)) (wCons (wC (.int 7)) (wCons (wC (.int 20)) (wCons (wC (.int 59)) (wCons (wC (.int 8)) wNil)))))) wNil)))) (wIf (wB (wOp (fEq false) (wVar 5) (wC (.int 3)))) (wSeq (wSet 9 (wCall φ__law_one [] (wCons (wVar 0) (wCons (wVar 6) wNil))))
  (wSetI2 (wTup (wCons (wOp fIx (wVar 4) (wVar 9)) (wCons (wOp fIx (wVar 4) (wVar 8)) wNil))) (wVar 7) (wVar 8) (wVar 7) (wVar 9))) (wIf (wB (wOp (fEq false) (wVar 5) (wC (.int 4)))) (wSetI (wCall φ__law_one [] (wCons (wVar 0) (wCons (wLst false (wCons (wC .non) (wCons (wCall φ__law_draw [] (wCons (wVar 0) (wCons (wC (.int 40)) wNil))) (wCons (wC (.int 0)) wNil)))) wNil))) (wVar 7) (wVar 8)) (wIf (wB (wOp (fEq false) (wVar 5) (wC (.int 5)))) (wSeq (wSet 10 (wCall φ__law_draw [] (wCons (wVar 0) (wCons (wOp (fAdd false) (wFun fLen (wCons (wVar 3) wNil)) (wFun fInt (wCons (wOp (fEq false) (wVar 3) (wLst false wNil)) wNil))) wNil))))
  (wRet (wTup (wCons (wVar 2) (wCons (wOp (fAdd false) (wOp (fAdd false) (wSl false (wVar 3) none (some (wVar 10))) (wLst false (wCons (wCall φ__law_one [] (wCons (wVar 0) (wCons (wLst false (wCons (wC (.int 0)) (wCons (wC (.int 1)) (wCons (wC (.int 2)) (wCons (wUn fNeg (wC (.int 1))) (wCons (wC (.int 3)) wNil)))))) wNil))) wNil))) (wSl false (wVar 3) (some (wOp (fAdd false) (wVar 10) (wC (.int 1)))) none)) (wCons (wVar 4) wNil)))))) (wRet (wTup (wCons (wVar 2) (wCons (wCall φ__law_one [] (wCons (wVar 0) (wCons (wLst false (wCons (wSl false (wVar 3) (some (wC (.int 1))) none) (wCons (wOp (fAdd false) (wVar 3) (wLst false (wCons (wC (.int 0)) wNil))) (wCons (wUn (fRev false) (wVar 3)) wNil)))) wNil))) (wCons (wVar 4) wNil))))))))))
  (wRet (wTup (wCons (wVar 2) (wCons (wVar 3) (wCons (wVar 7) wNil))))))))))))
def φ__law_otherwise : SB.Spec := fun xs S R RE => xs.length = 2 ∧ w__law_otherwise (startE N__law_otherwise xs) S ⟨fun _ S' => Rz R .non S', Rz R, fun _ _ => False, fun _ _ => False⟩ (fun c _ S' => RE c S')
theorem k__law_otherwise (hd : Hd w K mg) {q nm : Str} {dvs : List V} {kws : List (Str × V)} {f : Addr} {fd : FuncData} (Fd : FunD K nm q (defArgs (top 24)) (defBody (top 24)) (defScope (top 24)) dvs kws f fd) : FnOk P w K mg base (L2.CX P w) 3 f fd ["well", "told"] (spOf K φ__law_otherwise) :=
  body_ok (N := N__law_otherwise) (ws := w__law_otherwise) Fd sc__law_otherwise (fun cdv A outer s H E F bc =>
  (wss_cons (ws_asg (we_var (i := 1) rfl (.inl rfl) nd_told nc_told) (wg_tup rfl (wgs_cons (wg_nm sc__law_otherwise.nd rfl (.inl rfl) (.inl rfl)) (wgs_cons (wg_nm sc__law_otherwise.nd rfl (.inl rfl) (.inl rfl)) (wgs_cons (wg_nm sc__law_otherwise.nd rfl (.inl rfl) (.inl rfl)) wgs_nil (fun _ => rfl)) (fun _ => rfl)) (fun _ => rfl)) (fun _ => rfl) (fun _ => rfl)) rfl rfl rfl)
  (wss_cons (ws_set (i := 5) sc__law_otherwise.nd rfl (.inl rfl) (we_call ((B__law_draw hd).mono (by decide)) bc.room bc.tk rfl (g__law_draw hd) (wa_cons (we_var (i := 0) rfl (.inl rfl) nd_well nc_well) (wa_cons we_int wa_nil rfl) rfl) rfl nd__law_draw) rfl (.inl rfl))
  (wss_cons (ws_set (i := 6) sc__law_otherwise.nd rfl (.inl rfl) (b_sorted (own := false) rfl rfl (n_sorted hd) (wa_cons (b_list (own := false) rfl rfl (n_list hd) (wa_cons (we_var (i := 4) rfl (.inl rfl) nd_fates nc_fates) wa_nil rfl) rfl) wa_nil rfl) rfl) rfl (.inl rfl))
  (wss_cons (ws_set (i := 7) sc__law_otherwise.nd rfl (.inl rfl) (b_dict (own := true) rfl rfl (n_dict hd) (wa_cons (we_var (i := 4) rfl (.inl rfl) nd_fates nc_fates) wa_nil rfl) rfl) rfl (.inl rfl))
  (wss_cons (ws_if (WW.wt (ww_or (t_eq bc.room.u65 (we_var (i := 5) rfl (.inl rfl) nd_pick nc_pick) we_int rfl) (ww_or1 (t_eq bc.room.u65 (we_var (i := 6) rfl (.inl rfl) nd_words nc_words) (we_lst (own := false) wa_nil) rfl)))) (wss_one (ws_ret (we_tup (wa_cons (we_add (own := false) (we_var (i := 2) rfl (.inl rfl) nd_number nc_number) (we_call ((B__law_one hd).mono (by decide)) bc.room bc.tk rfl (g__law_one hd) (wa_cons (we_var (i := 0) rfl (.inl rfl) nd_well nc_well) (wa_cons (we_lst (own := false) (wa_cons we_int (wa_cons (we_neg we_int) (wa_cons we_int (wa_cons (we_neg we_int) (wa_cons we_int wa_nil rfl) rfl) rfl) rfl) rfl)) wa_nil rfl) rfl) rfl nd__law_one)) (wa_cons (we_var (i := 3) rfl (.inl rfl) nd_chosen nc_chosen) (wa_cons (we_var (i := 4) rfl (.inl rfl) nd_fates nc_fates) wa_nil rfl) rfl) rfl)))) wss_nil)
  (wss_cons (ws_set (i := 8) sc__law_otherwise.nd rfl (.inl rfl) (we_call ((B__law_one hd).mono (by decide)) bc.room bc.tk rfl (g__law_one hd) (wa_cons (we_var (i := 0) rfl (.inl rfl) nd_well nc_well) (wa_cons (we_var (i := 6) rfl (.inl rfl) nd_words nc_words) wa_nil rfl) rfl) rfl nd__law_one) rfl (.inl rfl))
  (wss_cons (ws_if (t_eq bc.room.u65 (we_var (i := 5) rfl (.inl rfl) nd_pick nc_pick) we_int rfl) (wss_one (ws_expr (m_popD (we_var (i := 7) rfl (.inl rfl) nd_later nc_later) (wa_cons (we_var (i := 8) rfl (.inl rfl) nd_word nc_word) wa_nil rfl) rfl rfl (by decide) rfl) rfl)) (wss_one (ws_if (t_eq bc.room.u65 (we_var (i := 5) rfl (.inl rfl) nd_pick nc_pick) we_int rfl) (wss_one (ws_setI (u1 bc.room.u65) (we_call ((B__law_one hd).mono (by decide)) bc.room bc.tk rfl (g__law_one hd) (wa_cons (we_var (i := 0) rfl (.inl rfl) nd_well nc_well) (wa_cons (we_lst (own := false) (wa_cons we_non (wa_cons we_int (wa_cons (we_ix (u1 bc.room.u65) (we_var (i := 7) rfl (.inl rfl) nd_later nc_later) (we_var (i := 8) rfl (.inl rfl) nd_word nc_word) (fun _ _ => rfl)) wa_nil rfl) rfl) rfl)) wa_nil rfl) rfl) rfl nd__law_one) (we_var (i := 7) rfl (.inl rfl) nd_later nc_later) (we_call ((B__law_one hd).mono (by decide)) bc.room bc.tk rfl (g__law_one hd) (wa_cons (we_var (i := 0) rfl (.inl rfl) nd_well nc_well) (wa_cons (we_lst (own := false) (wa_cons we_int (wa_cons we_int (wa_cons we_int (wa_cons we_int (wa_cons we_int wa_nil rfl) rfl) rfl) rfl) rfl)) wa_nil rfl) rfl) rfl nd__law_one) (fun _ => rfl) rfl rfl rfl)) (wss_one (ws_if (t_eq bc.room.u65 (we_var (i := 5) rfl (.inl rfl) nd_pick nc_pick) we_int rfl) (wss_cons (ws_set (i := 9) sc__law_otherwise.nd rfl (.inl rfl) (we_call ((B__law_one hd).mono (by decide)) bc.room bc.tk rfl (g__law_one hd) (wa_cons (we_var (i := 0) rfl (.inl rfl) nd_well nc_well) (wa_cons (we_var (i := 6) rfl (.inl rfl) nd_words nc_words) wa_nil rfl) rfl) rfl nd__law_one) rfl (.inl rfl))
  (wss_one (ws_setI2 (u1 bc.room.u65) rfl (we_tup (wa_cons (we_ix (u1 bc.room.u65) (we_var (i := 4) rfl (.inl rfl) nd_fates nc_fates) (we_var (i := 9) rfl (.inl rfl) nd_other nc_other) (fun _ _ => rfl)) (wa_cons (we_ix (u1 bc.room.u65) (we_var (i := 4) rfl (.inl rfl) nd_fates nc_fates) (we_var (i := 8) rfl (.inl rfl) nd_word nc_word) (fun _ _ => rfl)) wa_nil rfl) rfl)) (we_var (i := 7) rfl (.inl rfl) nd_later nc_later) (we_var (i := 8) rfl (.inl rfl) nd_word nc_word) (we_var (i := 7) rfl (.inl rfl) nd_later nc_later) (we_var (i := 9) rfl (.inl rfl) nd_other nc_other) (fun _ => rfl) (fun _ => rfl) rfl rfl rfl rfl rfl rfl rfl))) (wss_one (ws_if (t_eq bc.room.u65 (we_var (i := 5) rfl (.inl rfl) nd_pick nc_pick) we_int rfl) (wss_one (ws_setI (u1 bc.room.u65) (we_call ((B__law_one hd).mono (by decide)) bc.room bc.tk rfl (g__law_one hd) (wa_cons (we_var (i := 0) rfl (.inl rfl) nd_well nc_well) (wa_cons (we_lst (own := false) (wa_cons we_non (wa_cons (we_call ((B__law_draw hd).mono (by decide)) bc.room bc.tk rfl (g__law_draw hd) (wa_cons (we_var (i := 0) rfl (.inl rfl) nd_well nc_well) (wa_cons we_int wa_nil rfl) rfl) rfl nd__law_draw) (wa_cons we_int wa_nil rfl) rfl) rfl)) wa_nil rfl) rfl) rfl nd__law_one) (we_var (i := 7) rfl (.inl rfl) nd_later nc_later) (we_var (i := 8) rfl (.inl rfl) nd_word nc_word) (fun _ => rfl) rfl rfl rfl)) (wss_one (ws_if (t_eq bc.room.u65 (we_var (i := 5) rfl (.inl rfl) nd_pick nc_pick) we_int rfl) (wss_cons (ws_set (i := 10) sc__law_otherwise.nd rfl (.inl rfl) (we_call ((B__law_draw hd).mono (by decide)) bc.room bc.tk rfl (g__law_draw hd) (wa_cons (we_var (i := 0) rfl (.inl rfl) nd_well nc_well) (wa_cons (we_add (own := false) (b_len rfl (n_len hd) (wa_cons (we_var (i := 3) rfl (.inl rfl) nd_chosen nc_chosen) wa_nil rfl) rfl) (b_int rfl (n_int hd) (wa_cons (e_eq bc.room.u65 (we_var (i := 3) rfl (.inl rfl) nd_chosen nc_chosen) (we_lst (own := false) wa_nil) rfl) wa_nil rfl) rfl)) wa_nil rfl) rfl) rfl nd__law_draw) rfl (.inl rfl))
  (wss_one (ws_ret (we_tup (wa_cons (we_var (i := 2) rfl (.inl rfl) nd_number nc_number) (wa_cons (we_add (own := false) (we_add (own := false) (we_sl (own := false) (we_var (i := 3) rfl (.inl rfl) nd_chosen nc_chosen) .none (.some (we_var (i := 10) rfl (.inl rfl) nd_at nc_at))) (we_lst (own := false) (wa_cons (we_call ((B__law_one hd).mono (by decide)) bc.room bc.tk rfl (g__law_one hd) (wa_cons (we_var (i := 0) rfl (.inl rfl) nd_well nc_well) (wa_cons (we_lst (own := false) (wa_cons we_int (wa_cons we_int (wa_cons we_int (wa_cons (we_neg we_int) (wa_cons we_int wa_nil rfl) rfl) rfl) rfl) rfl)) wa_nil rfl) rfl) rfl nd__law_one) wa_nil rfl))) (we_sl (own := false) (we_var (i := 3) rfl (.inl rfl) nd_chosen nc_chosen) (.some (we_add (own := false) (we_var (i := 10) rfl (.inl rfl) nd_at nc_at) we_int)) .none)) (wa_cons (we_var (i := 4) rfl (.inl rfl) nd_fates nc_fates) wa_nil rfl) rfl) rfl))))) (wss_one (ws_ret (we_tup (wa_cons (we_var (i := 2) rfl (.inl rfl) nd_number nc_number) (wa_cons (we_call ((B__law_one hd).mono (by decide)) bc.room bc.tk rfl (g__law_one hd) (wa_cons (we_var (i := 0) rfl (.inl rfl) nd_well nc_well) (wa_cons (we_lst (own := false) (wa_cons (we_sl (own := false) (we_var (i := 3) rfl (.inl rfl) nd_chosen nc_chosen) (.some we_int) .none) (wa_cons (we_add (own := false) (we_var (i := 3) rfl (.inl rfl) nd_chosen nc_chosen) (we_lst (own := false) (wa_cons we_int wa_nil rfl))) (wa_cons (we_rev (own := false) (we_var (i := 3) rfl (.inl rfl) nd_chosen nc_chosen)) wa_nil rfl) rfl) rfl)) wa_nil rfl) rfl) rfl nd__law_one) (wa_cons (we_var (i := 4) rfl (.inl rfl) nd_fates nc_fates) wa_nil rfl) rfl) rfl)))))))))))))
  (wss_one (ws_ret (we_tup (wa_cons (we_var (i := 2) rfl (.inl rfl) nd_number nc_number) (wa_cons (we_var (i := 3) rfl (.inl rfl) nd_chosen nc_chosen) (wa_cons (we_var (i := 7) rfl (.inl rfl) nd_later nc_later) wa_nil rfl) rfl) rfl)))))))))))) (fun _ _ _ _ h => h.1) (fun _ _ _ _ h => h.2)
theorem B__law_otherwise (hd : Hd w K mg) : FnBd P w K mg base 3 (He.ga K "_law_otherwise") 2 [] φ__law_otherwise := by
  obtain ⟨fd, Fd⟩ := hd.c.t.d.def_ 20 (d := mkDD (("_law_otherwise" : Str), none) "_law_otherwise" "_law_otherwise" (top 24) []) rfl
  exact fn_bd _ Fd (k__law_otherwise hd Fd) (FunD.bindsN Fd fun _ _ _ _ _ _ us hl => match us, hl with | [_, _], _ => rfl)
/-! _law_asked -/
def N__law_asked : List Str := ["view", "parts", "told", "handed", "found", "own"]
theorem sc__law_asked : FnScope N__law_asked ["view", "parts", "told"] (defScope (top 25)) := ⟨rfl, rfl, rfl, by decide +kernel, rfl, by decide +kernel, by decide +kernel⟩
def w__law_asked : WpS := (wSeq (wSet 3 (wTup (wCons (wOp fIx (wVar 2) (wC (.int 0))) (wCons (wFun (fList false) (wCons (wOp fIx (wVar 2) (wC (.int 1))) wNil)) (wCons (wFun (fDict false) (wCons (wOp fIx (wVar 2) (wC (.int 2))) wNil)) wNil)))))
  (wSeq (wSet 4 (wCall φ_stands_up [] (wCons (wVar 0) (wCons (wVar 3) wNil))))
  (wSeq (wIf (wB (wOr (wNot (wIsTy "bool" (wVar 4))) (wOr (wOp (fEq true) (wVar 4) (wCall φ__law_due [] (wCons (wVar 1) (wCons (wVar 2) wNil)))) (wOp fStrNe (wFun fRepr (wCons (wVar 3) wNil)) (wFun fRepr (wCons (wVar 2) wNil)))))) (wRet (wC (.bl false))) wNx)
  (wSeq (wSet 5 (wCall φ_paper [] (wCons (wVar 0) wNil)))
  (wRet (wAnd (wOp (fEq false) (wOp fIx (wVar 5) (wC (.int 0))) (wCall φ_worth [] (wCons (wVar 0) wNil))) (wAnd (wOp (fIs false) (wCall φ_stands_up [] (wCons (wVar 0) (wCons (wVar 5) wNil))) (wC (.bl true))) (wOp (fEq false) (wCall φ_stands_up [] (wCons (wVar 0) (wCons (wVar 3) wNil))) (wVar 4)))))))))
def φ__law_asked : SB.Spec := fun xs S R RE => xs.length = 3 ∧ w__law_asked (startE N__law_asked xs) S ⟨fun _ S' => Rz R .non S', Rz R, fun _ _ => False, fun _ _ => False⟩ (fun c _ S' => RE c S')
theorem k__law_asked (hd : Hd w K mg) {q nm : Str} {dvs : List V} {kws : List (Str × V)} {f : Addr} {fd : FuncData} (Fd : FunD K nm q (defArgs (top 25)) (defBody (top 25)) (defScope (top 25)) dvs kws f fd) : FnOkG P w K mg base (L2.CX P w) 6 f fd ["view", "parts", "told"] (spOf K φ__law_asked) :=
  body_okG (N := N__law_asked) (ws := w__law_asked) Fd sc__law_asked (fun cdv A outer s H E F bc =>
  (wss_cons (ws_set (i := 3) sc__law_asked.nd rfl (.inl rfl) (we_tup (wa_cons (we_ix (u1 bc.room.u65) (we_var (i := 2) rfl (.inl rfl) nd_told nc_told) we_int (fun _ _ => rfl)) (wa_cons (b_list (own := false) rfl rfl (n_list hd) (wa_cons (we_ix (u1 bc.room.u65) (we_var (i := 2) rfl (.inl rfl) nd_told nc_told) we_int (fun _ _ => rfl)) wa_nil rfl) rfl) (wa_cons (b_dict (own := false) rfl rfl (n_dict hd) (wa_cons (we_ix (u1 bc.room.u65) (we_var (i := 2) rfl (.inl rfl) nd_told nc_told) we_int (fun _ _ => rfl)) wa_nil rfl) rfl) wa_nil rfl) rfl) rfl)) rfl (.inl rfl))
  (wss_cons (ws_set (i := 4) sc__law_asked.nd rfl (.inl rfl) (we_call ((B_stands_up hd).mono (by decide)) bc.room bc.tk rfl (g_stands_up hd) (wa_cons (we_var (i := 0) rfl (.inl rfl) nd_view nc_view) (wa_cons (we_var (i := 3) rfl (.inl rfl) nd_handed nc_handed) wa_nil rfl) rfl) rfl nd_stands_up) rfl (.inl rfl))
  (wss_cons (ws_if (WW.wt (ww_or (wt_not (wt_val (b_isTy (T := "bool") (by decide) (we_var (i := 4) rfl (.inl rfl) nd_found nc_found) rfl rfl (n_isinstance hd) rfl (n_bool hd) bt_bool (by decide) nd_bool) (fun _ => rfl))) (ww_or (t_ne bc.room.u65 (we_var (i := 4) rfl (.inl rfl) nd_found nc_found) (we_call ((B__law_due hd).mono (by decide)) bc.room bc.tk rfl (g__law_due hd) (wa_cons (we_var (i := 1) rfl (.inl rfl) nd_parts nc_parts) (wa_cons (we_var (i := 2) rfl (.inl rfl) nd_told nc_told) wa_nil rfl) rfl) rfl nd__law_due) rfl) (ww_or1 (t_strNe (b_repr bc.gd bc.room.u65 rfl (n_repr hd) (wa_cons (we_var (i := 3) rfl (.inl rfl) nd_handed nc_handed) wa_nil rfl) rfl) (b_repr bc.gd bc.room.u65 rfl (n_repr hd) (wa_cons (we_var (i := 2) rfl (.inl rfl) nd_told nc_told) wa_nil rfl) rfl) rfl))))) (wss_one (ws_ret we_bl)) wss_nil)
  (wss_cons (ws_set (i := 5) sc__law_asked.nd rfl (.inl rfl) (we_call ((B_paper hd).mono (by decide)) bc.room bc.tk rfl (g_paper hd) (wa_cons (we_var (i := 0) rfl (.inl rfl) nd_view nc_view) wa_nil rfl) rfl nd_paper) rfl (.inl rfl))
  (wss_one (ws_ret (we_and (e_eq bc.room.u65 (we_ix (u1 bc.room.u65) (we_var (i := 5) rfl (.inl rfl) nd_own nc_own) we_int (fun _ _ => rfl)) (we_call ((B_worth hd).mono (by decide)) bc.room bc.tk rfl (g_worth hd) (wa_cons (we_var (i := 0) rfl (.inl rfl) nd_view nc_view) wa_nil rfl) rfl nd_worth) rfl) (we_and (e_is (we_call ((B_stands_up hd).mono (by decide)) bc.room bc.tk rfl (g_stands_up hd) (wa_cons (we_var (i := 0) rfl (.inl rfl) nd_view nc_view) (wa_cons (we_var (i := 5) rfl (.inl rfl) nd_own nc_own) wa_nil rfl) rfl) rfl nd_stands_up) we_bl rfl) (we_one (e_eq bc.room.u65 (we_call ((B_stands_up hd).mono (by decide)) bc.room bc.tk rfl (g_stands_up hd) (wa_cons (we_var (i := 0) rfl (.inl rfl) nd_view nc_view) (wa_cons (we_var (i := 3) rfl (.inl rfl) nd_handed nc_handed) wa_nil rfl) rfl) rfl nd_stands_up) (we_var (i := 4) rfl (.inl rfl) nd_found nc_found) rfl))))))))))) (fun _ _ _ _ h => h.1) (fun _ _ _ _ h => h.2)
theorem B__law_asked (hd : Hd w K mg) : FnBdG P w K mg base 6 (He.ga K "_law_asked") 3 φ__law_asked := by
  obtain ⟨fd, Fd⟩ := hd.c.t.d.def_ 21 (d := mkDD (("_law_asked" : Str), none) "_law_asked" "_law_asked" (top 25) []) rfl
  exact fn_bdG _ Fd (k__law_asked hd Fd) (FunD.bindsN Fd fun _ _ _ _ _ _ us hl => match us, hl with | [_, _, _], _ => rfl)
/-! View___init__ -/
def N_View___init__ : List Str := ["self", "every", "look", "words", "pots", "side", "stands", "seen"]
theorem sc_View___init__ : FnScope N_View___init__ ["self", "every", "look", "words", "pots"] (defScope (inClass (top 1) 0)) := ⟨rfl, rfl, rfl, by decide +kernel, rfl, by decide +kernel, by decide +kernel⟩
def w_View___init__ : WpS := (wSeq (wSetF ["View"] "span" (wVar 1) (wVar 0))
  (wSeq (wSetF ["View"] "last" (wVar 2) (wVar 0))
  (wSeq (wSetF ["View"] "known" (wFun (fList false) (wCons (wVar 3) wNil)) (wVar 0))
  (wSetF ["View"] "held" (wLc false (wSrc (wVar 4)) (.tup (.cons (.nm 5) (.cons (.nm 6) (.cons (.nm 7) .nil)))) wYes (wTup (wCons (wVar 5) (wCons (wFun (fList false) (wCons (wVar 6) wNil)) (wCons (wFun (fDict false) (wCons (wVar 7) wNil)) wNil)))) [5, 6, 7]) (wVar 0)))))
def φ_View___init__ : SB.Spec := fun xs S R RE => xs.length = 5 ∧ w_View___init__ (startE N_View___init__ xs) S ⟨fun _ S' => Rz R .non S', Rz R, fun _ _ => False, fun _ _ => False⟩ (fun c _ S' => RE c S')
theorem k_View___init__ (hd : Hd w K mg) {q nm : Str} {dvs : List V} {kws : List (Str × V)} {f : Addr} {fd : FuncData} (Fd : FunD K nm q (defArgs (inClass (top 1) 0)) (defBody (inClass (top 1) 0)) (defScope (inClass (top 1) 0)) dvs kws f fd) : FnOk P w K mg base (L2.CX P w) 1 f fd ["self", "every", "look", "words", "pots"] (spOf K φ_View___init__) :=
  body_ok (N := N_View___init__) (ws := w_View___init__) Fd sc_View___init__ (fun cdv A outer s H E F bc =>
  (wss_cons (ws_setF (cs := ["View"]) (f := "span") (na_View_span hd) (we_var (i := 1) rfl (.inl rfl) nd_every nc_every) (we_var (i := 0) rfl (.inl rfl) nd_self nc_self) rfl)
  (wss_cons (ws_setF (cs := ["View"]) (f := "last") (na_View_last hd) (we_var (i := 2) rfl (.inl rfl) nd_look nc_look) (we_var (i := 0) rfl (.inl rfl) nd_self nc_self) rfl)
  (wss_cons (ws_setF (cs := ["View"]) (f := "known") (na_View_known hd) (b_list (own := false) rfl rfl (n_list hd) (wa_cons (we_var (i := 3) rfl (.inl rfl) nd_words nc_words) wa_nil rfl) rfl) (we_var (i := 0) rfl (.inl rfl) nd_self nc_self) rfl)
  (wss_one (ws_setF (cs := ["View"]) (f := "held") (na_View_held hd) (we_lc (fr := false) (own := [(("side" : Str), 5), (("stands" : Str), 6), (("seen" : Str), 7)]) (t := (.tup (.cons (.nm 5) (.cons (.nm 6) (.cons (.nm 7) .nil))))) rfl sc_View___init__.nd (wi_src (we_var (i := 4) rfl (.inl rfl) nd_pots nc_pots)) (show BlkOk N_View___init__ (defScope (inClass (top 1) 0)) _ [(("side" : Str), 5), (("stands" : Str), 6), (("seen" : Str), 7)] from blkOk_by (by decide +kernel)) (by decide) (fun _ _ _ _ _ => (wg_tup rfl (wgs_cons (wg_nm sc_View___init__.nd rfl (.inl rfl) (.inr rfl)) (wgs_cons (wg_nm sc_View___init__.nd rfl (.inl rfl) (.inr rfl)) (wgs_cons (wg_nm sc_View___init__.nd rfl (.inl rfl) (.inr rfl)) wgs_nil (fun _ => rfl)) (fun _ => rfl)) (fun _ => rfl)) (fun _ => rfl) (fun _ => rfl))) (fun _ _ _ _ _ => wts_nil) (fun _ _ _ _ _ => (we_tup (wa_cons (we_var (i := 5) rfl (.inl rfl) nd_side nc_side) (wa_cons (b_list (own := false) rfl rfl (n_list hd) (wa_cons (we_var (i := 6) rfl (.inl rfl) nd_stands nc_stands) wa_nil rfl) rfl) (wa_cons (b_dict (own := false) rfl rfl (n_dict hd) (wa_cons (we_var (i := 7) rfl (.inl rfl) nd_seen nc_seen) wa_nil rfl) rfl) wa_nil rfl) rfl) rfl))) (fun _ => rfl)) (we_var (i := 0) rfl (.inl rfl) nd_self nc_self) rfl)))))) (fun _ _ _ _ h => h.1) (fun _ _ _ _ h => h.2)
theorem B_View___init__ (hd : Hd w K mg) {q nm : Str} {f : Addr} (Fd : ∃ fd, FunD K nm q (defArgs (inClass (top 1) 0)) (defBody (inClass (top 1) 0)) (defScope (inClass (top 1) 0)) [] [] f fd) : FnBd P w K mg base 1 f 5 [] φ_View___init__ := by
  obtain ⟨fd, Fd⟩ := Fd
  exact fn_bd _ Fd (k_View___init__ hd Fd) (FunD.bindsN Fd fun _ _ _ _ _ _ us hl => match us, hl with | [_, _, _, _, _], _ => rfl)
theorem Mk_View (hd : Hd w K mg) : MkBd P w K mg base 1 "View" 5 [] φ_View___init__ := ⟨⟨_, mkr_View hd, B_View___init__ hd (hd.c.t.d.def_ 23 rfl)⟩, cl_View hd⟩
/-! law -/
def N_law : List Str := ["script", "cell", "well", "some", "views", "papers", "parts", "k", "told", "turn"]
theorem sc_law : FnScope N_law ["script"] (defScope (top 26)) := ⟨rfl, rfl, rfl, by decide +kernel, rfl, by decide +kernel, by decide +kernel⟩
def w_law : WpS := (wSeq (wFor (wSrc (wOp (fAdd false) (wSl false (wVar 0) none (some (wC (.int 2)))) (wLst false (wCons (wC (.int 0)) wNil)))) (.nm 1) (wSeq (wSet 2 (wCall φ__law_well [] (wCons (wVar 1) wNil)))
  (wSeq (wSet 3 (wLst false (wCons (wCall φ__law_view [] (wCons (wVar 2) wNil)) (wCons (wCall φ__law_view [] (wCons (wVar 2) wNil)) wNil))))
  (wSeq (wSet 4 (wLc false (wSrc (wVar 3)) (.nm 6) wYes (wMake false "View" [] φ_View___init__ (wCons (wOp fIx (wVar 6) (wC (.int 0))) (wCons (wOp fIx (wVar 6) (wC (.int 1))) (wCons (wFun (fList false) (wCons (wOp fIx (wVar 6) (wC (.int 2))) wNil)) (wCons (wFun (fList false) (wCons (wOp fIx (wVar 6) (wC (.int 3))) wNil)) wNil))))) [6]))
  (wSeq (wSet 5 (wLst true wNil))
  (wSeq (wFor (wSrc (wVar 3)) (.nm 6) (wFor (wRange (wCons (wC (.int 4)) wNil)) (.nm 7) (wSeq (wSet 8 (wCall φ__law_right_paper [] (wCons (wVar 2) (wCons (wVar 6) wNil))))
  (wSeq (wFor (wRange (wCons (wOp fMod (wVar 7) (wC (.int 3))) wNil)) (.nm 9) (wSet 8 (wCall φ__law_otherwise [] (wCons (wVar 2) (wCons (wVar 8) wNil)))))
  (wExpr (wMt "list" fAppend (wVar 5) (wCons (wVar 8) wNil)))))))
  (wFor (wRange (wCons (wC (.int 2)) wNil)) (.nm 9) (wFor (wSrc (wVar 5)) (.nm 8) (wFor (wRange (wCons (wC (.int 2)) wNil)) (.nm 7) (wIf (wB (wNot (wCall φ__law_asked [] (wCons (wOp fIx (wVar 4) (wVar 7)) (wCons (wOp fIx (wVar 3) (wVar 7)) (wCons (wVar 8) wNil)))))) (wRet (wC (.bl false))) wNx))))))))))
  (wRet (wC (.bl true))))
def φ_law : SB.Spec := fun xs S R RE => xs.length = 1 ∧ w_law (startE N_law xs) S ⟨fun _ S' => Rz R .non S', Rz R, fun _ _ => False, fun _ _ => False⟩ (fun c _ S' => RE c S')
theorem k_law (hd : Hd w K mg) {q nm : Str} {dvs : List V} {kws : List (Str × V)} {f : Addr} {fd : FuncData} (Fd : FunD K nm q (defArgs (top 26)) (defBody (top 26)) (defScope (top 26)) dvs kws f fd) : FnOkG P w K mg base (L2.CX P w) 7 f fd ["script"] (spOf K φ_law) :=
  body_okG (N := N_law) (ws := w_law) Fd sc_law (fun cdv A outer s H E F bc =>
  (wss_cons (ws_for bc.pass rfl (wi_src (we_add (own := false) (we_sl (own := false) (we_var (i := 0) rfl (.inl rfl) nd_script nc_script) .none (.some we_int)) (we_lst (own := false) (wa_cons we_int wa_nil rfl)))) (wg_nm sc_law.nd rfl (.inl rfl) (.inl rfl)) (wss_cons (ws_set (i := 2) sc_law.nd rfl (.inl rfl) (we_call ((B__law_well hd).mono (by decide)) bc.room bc.tk rfl (g__law_well hd) (wa_cons (we_var (i := 1) rfl (.inl rfl) nd_cell nc_cell) wa_nil rfl) rfl nd__law_well) rfl (.inl rfl))
  (wss_cons (ws_set (i := 3) sc_law.nd rfl (.inl rfl) (we_lst (own := false) (wa_cons (we_call ((B__law_view hd).mono (by decide)) bc.room bc.tk rfl (g__law_view hd) (wa_cons (we_var (i := 2) rfl (.inl rfl) nd_well nc_well) wa_nil rfl) rfl nd__law_view) (wa_cons (we_call ((B__law_view hd).mono (by decide)) bc.room bc.tk rfl (g__law_view hd) (wa_cons (we_var (i := 2) rfl (.inl rfl) nd_well nc_well) wa_nil rfl) rfl nd__law_view) wa_nil rfl) rfl)) rfl (.inl rfl))
  (wss_cons (ws_setLc (i := 4) (fr := false) (own := [(("parts" : Str), 6)]) (t := (.nm 6)) rfl sc_law.nd rfl rfl rfl (wi_src (we_var (i := 3) rfl (.inl rfl) nd_some nc_some)) (show BlkOk N_law (defScope (top 26)) _ [(("parts" : Str), 6)] from blkOk_by (by decide +kernel)) (by decide) (fun _ _ _ _ _ => (wg_nm sc_law.nd rfl (.inl rfl) (.inr rfl))) (fun _ _ _ _ _ => wts_nil) (fun _ _ _ _ _ => (we_make (own := false) (k := 5) ((Mk_View hd).mono' (by decide)) bc.room tk_calm rfl (g_View hd) (wa_cons (we_ix (u1 bc.room.u65) (we_var (i := 6) rfl (.inl rfl) nd_parts nc_parts) we_int (fun _ _ => rfl)) (wa_cons (we_ix (u1 bc.room.u65) (we_var (i := 6) rfl (.inl rfl) nd_parts nc_parts) we_int (fun _ _ => rfl)) (wa_cons (b_list (own := false) rfl rfl (n_list hd) (wa_cons (we_ix (u1 bc.room.u65) (we_var (i := 6) rfl (.inl rfl) nd_parts nc_parts) we_int (fun _ _ => rfl)) wa_nil rfl) rfl) (wa_cons (b_list (own := false) rfl rfl (n_list hd) (wa_cons (we_ix (u1 bc.room.u65) (we_var (i := 6) rfl (.inl rfl) nd_parts nc_parts) we_int (fun _ _ => rfl)) wa_nil rfl) rfl) wa_nil rfl) rfl) rfl) rfl) rfl nd_View)) (fun _ => rfl))
  (wss_cons (ws_set (i := 5) sc_law.nd rfl (.inl rfl) (we_lst (own := true) wa_nil) rfl (.inl rfl))
  (wss_cons (ws_for bc.pass rfl (wi_src (we_var (i := 3) rfl (.inl rfl) nd_some nc_some)) (wg_nm sc_law.nd rfl (.inl rfl) (.inl rfl)) (wss_one (ws_for bc.pass rfl (wi_range1 rfl (n_range hd) (wa_cons we_int wa_nil rfl) rfl) (wg_nm sc_law.nd rfl (.inl rfl) (.inl rfl)) (wss_cons (ws_set (i := 8) sc_law.nd rfl (.inl rfl) (we_call ((B__law_right_paper hd).mono (by decide)) bc.room bc.tk rfl (g__law_right_paper hd) (wa_cons (we_var (i := 2) rfl (.inl rfl) nd_well nc_well) (wa_cons (we_var (i := 6) rfl (.inl rfl) nd_parts nc_parts) wa_nil rfl) rfl) rfl nd__law_right_paper) rfl (.inl rfl))
  (wss_cons (ws_for bc.pass rfl (wi_range1 rfl (n_range hd) (wa_cons (we_mod (we_var (i := 7) rfl (.inl rfl) nd_k nc_k) we_int) wa_nil rfl) rfl) (wg_nm sc_law.nd rfl (.inl rfl) (.inl rfl)) (wss_one (ws_set (i := 8) sc_law.nd rfl (.inl rfl) (we_call ((B__law_otherwise hd).mono (by decide)) bc.room bc.tk rfl (g__law_otherwise hd) (wa_cons (we_var (i := 2) rfl (.inl rfl) nd_well nc_well) (wa_cons (we_var (i := 8) rfl (.inl rfl) nd_told nc_told) wa_nil rfl) rfl) rfl nd__law_otherwise) rfl (.inl rfl))) (fun _ => rfl))
  (wss_one (ws_expr (m_append (we_var (i := 5) rfl (.inl rfl) nd_papers nc_papers) (wa_cons (we_var (i := 8) rfl (.inl rfl) nd_told nc_told) wa_nil rfl) rfl rfl (by decide) rfl) rfl)))) (fun _ => rfl))) (fun _ => rfl))
  (wss_one (ws_for bc.pass rfl (wi_range1 rfl (n_range hd) (wa_cons we_int wa_nil rfl) rfl) (wg_nm sc_law.nd rfl (.inl rfl) (.inl rfl)) (wss_one (ws_for bc.pass rfl (wi_src (we_var (i := 5) rfl (.inl rfl) nd_papers nc_papers)) (wg_nm sc_law.nd rfl (.inl rfl) (.inl rfl)) (wss_one (ws_for bc.pass rfl (wi_range1 rfl (n_range hd) (wa_cons we_int wa_nil rfl) rfl) (wg_nm sc_law.nd rfl (.inl rfl) (.inl rfl)) (wss_one (ws_if (wt_not (wt_val (we_callG ((B__law_asked hd).mono (by decide)) bc.room bc.gd bc.tk rfl (g__law_asked hd) (wa_cons (we_ix (u1 bc.room.u65) (we_var (i := 4) rfl (.inl rfl) nd_views nc_views) (we_var (i := 7) rfl (.inl rfl) nd_k nc_k) (fun _ _ => rfl)) (wa_cons (we_ix (u1 bc.room.u65) (we_var (i := 3) rfl (.inl rfl) nd_some nc_some) (we_var (i := 7) rfl (.inl rfl) nd_k nc_k) (fun _ _ => rfl)) (wa_cons (we_var (i := 8) rfl (.inl rfl) nd_told nc_told) wa_nil rfl) rfl) rfl) rfl nd__law_asked) (fun _ => rfl))) (wss_one (ws_ret we_bl)) wss_nil)) (fun _ => rfl))) (fun _ => rfl))) (fun _ => rfl)))))))) (fun _ => rfl))
  (wss_one (ws_ret we_bl)))) (fun _ _ _ _ h => h.1) (fun _ _ _ _ h => h.2)
theorem B_law (hd : Hd w K mg) : FnBdG P w K mg base 7 (He.ga K "law") 1 φ_law := by
  obtain ⟨fd, Fd⟩ := hd.c.t.d.def_ 22 (d := mkDD (("law" : Str), none) "law" "law" (top 26) []) rfl
  exact fn_bdG _ Fd (k_law hd Fd) (FunD.bindsN Fd fun _ _ _ _ _ _ us hl => match us, hl with | [_], _ => rfl)
end
end L35
end

section
set_option Elab.async false
set_option linter.all false
set_option maxRecDepth 100000
set_option autoImplicit false
namespace L35
open SB PySem PySem.Spec L2
structure Tie where
  p : Int
  a : Int
  w : Int
  d : Int
deriving DecidableEq
def tieD (t : Tie) : D := .tup [.int t.p, .int t.a, .int t.w, .int t.d]
structure TieOk (t : Tie) : Prop where
  a0 : 0 ≤ t.a
  a1 : t.a ≤ 20
  w0 : 0 ≤ t.w
  w1 : t.w ≤ 59
  d0 : 0 ≤ t.d
  d1 : t.d ≤ 40
structure Stn where
  n : Int
  l : Int
  r : Int
  ts : List Tie
def shD (s : Stn) : D := .tup [.int s.l, .int s.r]
def tsD (s : Stn) : D := .tup (s.ts.map tieD)
def stnD (s : Stn) : D := .tup [.int s.n, shD s, tsD s]
structure StnOk (s : Stn) : Prop where
  l0 : 0 ≤ s.l
  l1 : s.l ≤ 50
  r0 : 0 ≤ s.r
  r1 : s.r ≤ 50
  len : s.ts.length ≤ 4
  ok : ∀ t ∈ s.ts, TieOk t
/-- a dict of numbers -/
def dK {α : Type} (g : α → D) (m : List (Int × α)) : List (Key × D) := m.map fun p => (.inl p.1, g p.2)
def putM {α : Type} (w : Int) (x : α) (m : List (Int × α)) : List (Int × α) := if (m.any fun p => decide (p.1 = w)) = true then m.map (fun p => if p.1 = w then (p.1, x) else p) else m ++ [(w, x)]
theorem look_dK {α : Type} {g : α → D} {w : Int} : ∀ m : List (Int × α), lookK (.inl w) (dK g m) = (m.lookup w).map g
  | [] => rfl
  | (v, d) :: m => by
    have ih := look_dK (g := g) (w := w) m
    unfold dK at ih ⊢
    rw [List.map_cons, lookK, List.lookup_cons]
    by_cases h : v = w
    · subst h; simp
    · have h1 : ¬ ((.inl v : Key) = .inl w) := fun e => h (by cases e; rfl)
      have h2 : (w == v) = false := by simpa using fun e => h e.symm
      rw [if_neg h1, h2]
      exact ih
theorem inl_eq {v w : Int} : ((.inl v : Key) = .inl w) ↔ v = w := ⟨fun e => by cases e; rfl, fun e => by rw [e]⟩
theorem put_dK {α : Type} {g : α → D} {w : Int} {x : α} {m : List (Int × α)} : putD (.inl w) (g x) (dK g m) = dK g (putM w x m) := by
  have e : ((dK g m).any fun p => decide (p.1 = .inl w)) = m.any fun p => decide (p.1 = w) := by
    unfold dK
    rw [List.any_map]
    congr 1
    funext p
    simp [inl_eq]
  unfold putD putM
  rw [e]
  split
  · unfold dK
    rw [List.map_map, List.map_map]
    congr 1
    funext p
    by_cases h : p.1 = w
    · simp [h]
    · simp [h, inl_eq]
  · simp [dK]
theorem keys_dK {α : Type} {g : α → D} {m : List (Int × α)} : (dK g m).map (fun p => keyD p.1) = (m.map Prod.fst).map .int := by simp [dK, keyD]
theorem len_dK {α : Type} {g : α → D} {m : List (Int × α)} : (dK g m).length = m.length := by simp [dK]
def seenD (m : List (Int × Int)) : D := .dct (dK .int m)
structure Pot where
  s : Int
  sts : List Stn
  sn : List (Int × Int)
def potD (p : Pot) : D := .tup [.int p.s, .lst (p.sts.map stnD), seenD p.sn]
structure PotOk (p : Pot) : Prop where
  s0 : p.s = 0 ∨ p.s = 1
  len : 1 ≤ p.sts.length ∧ p.sts.length ≤ 3
  ok : ∀ s ∈ p.sts, StnOk s
  sl : p.sn.length ≤ 4
structure Par where
  ev : Int
  lk : Int
  ws : List Int
  ps : List Pot
def parD (P : Par) : D := .tup [.int P.ev, .int P.lk, .lst (P.ws.map .int), .lst (P.ps.map potD)]
def viewD (P : Par) : D := .ins "View" [("span", .int P.ev), ("last", .int P.lk), ("known", .lst (P.ws.map .int)), ("held", .lst (P.ps.map potD))]
structure ParOk (P : Par) : Prop where
  e0 : 1 ≤ P.ev
  wl : P.ws.length ≤ 4
  len : 1 ≤ P.ps.length ∧ P.ps.length ≤ 3
  ok : ∀ p ∈ P.ps, PotOk p
section
variable {S : Sto} {R : Pd} {RE : Px}
def Wel (S : Sto) (wl : Addr) (c : Int) : Prop := ∃ x y z, S wl = some (.lst [.int x, .int y, .int z]) ∧ 0 ≤ y ∧ y < 2147483647 ∧ 0 ≤ z ∧ z ≤ c
theorem Wel.le {S : Sto} {wl : Addr} {c c' : Int} (h : Wel S wl c) (l : c ≤ c') : Wel S wl c' := by
  obtain ⟨x, y, z, e, a, b, d, f⟩ := h
  exact ⟨x, y, z, e, a, b, d, by omega⟩
theorem Wel.fm {S S' : Sto} {A : List Addr} {wl : Addr} {c : Int} (h : Wel S wl c) (f : Fm A S S') (n : wl ∉ A) : Wel S' wl c := by
  obtain ⟨x, y, z, e, a⟩ := h
  exact ⟨x, y, z, by rw [f wl n (by rw [e]; simp)]; exact e, a⟩
theorem Wel.ne {S : Sto} {wl p : Addr} {c : Int} (h : Wel S wl c) (n : S p = none) : wl ≠ p := by
  obtain ⟨x, y, z, e, a⟩ := h
  exact ne_of_S e n
theorem p_draw {wl : Addr} {c base : Int} (w : Wel S wl c) (hc : c ≤ 1000000) (h0 : 0 < base) (h1 : base ≤ 1000000) (h : ∀ d S', 0 ≤ d → d < base → Fm [wl] S S' → Wel S' wl (c + 1) → R (.int d) S') : φ__law_draw [.ref wl, .int base] S R RE := by
  obtain ⟨x, y, z, e, y0, y1, z0, z1⟩ := w
  refine ⟨rfl, ?_⟩
  have hb : base.natAbs.log2 < 9000 := by
    have h2 : base.natAbs ≤ 1000000 := by omega
    have h3 : base.natAbs ≠ 0 := by omega
    have := (Nat.log2_lt h3 (k := 20)).mpr (by omega)
    omega
  have e2 : ∀ (R : Pd) (i : Int), fIx (.ref wl) (.int i) S R = ∃ v, L2.atI [.int x, .int y, .int z] i = some v ∧ R v S := fun R i => f_ixR e
  simp [-Bool.exists_bool, -s_seq, s_seqL, w__law_draw, startE, N__law_draw, e2, L2.atI, L2.ixN, cmpGt]
  by_cases hx : 0 < x
  · simp [-Bool.exists_bool, -s_seq, s_seqL, hx, e2, L2.atI, L2.ixN]
    refine ⟨h0, later_of ?_⟩
    simp [-Bool.exists_bool, -s_seq, s_seqL, e2, L2.atI, L2.ixN, f_setIL e]
    refine ⟨⟨h0, hb⟩, later_of ?_⟩
    simp
    refine .now (h _ _ (Int.emod_nonneg _ (by omega)) (Int.emod_lt_of_pos _ h0) (.set (by simp)) ?_)
    exact ⟨x / base, y, z, by simp, y0, y1, z0, by omega⟩
  · simp [-Bool.exists_bool, -s_seq, s_seqL, hx]
    refine later_of ?_
    simp [-Bool.exists_bool, -s_seq, s_seqL, e2, L2.atI, L2.ixN, f_setIL e]
    have e3 : (S.set wl (.lst [.int x, .int y, .int (z + 1)])) wl = some (.lst [.int x, .int y, .int (z + 1)]) := by simp
    have fm : Fm [wl] S (S.set wl (.lst [.int x, .int y, .int (z + 1)])) := .set (by simp)
    have wl' : Wel (S.set wl (.lst [.int x, .int y, .int (z + 1)])) wl (c + 1) := ⟨x, y, z + 1, e3, y0, y1, by omega, by omega⟩
    generalize S.set wl (.lst [.int x, .int y, .int (z + 1)]) = S' at e3 fm wl' ⊢
    have e4 : ∀ (R : Pd) (i : Int), fIx (.ref wl) (.int i) S' R = ∃ v, L2.atI [.int x, .int y, .int (z + 1)] i = some v ∧ R v S' := fun R i => f_ixR e3
    have hq : ∃ p : Int, 0 < p ∧ p ≤ 2147483647 ∧ L2.atI [D.int 2147483647, D.int 2147483629, D.int 2147483587, D.int 2147483579, D.int 2147483563, D.int 2147483549, D.int 2147483543] ((z + 1) % 7) = some (.int p) := by
      have a0 := Int.emod_nonneg (z + 1) (b := 7) (by omega)
      have a1 := Int.emod_lt_of_pos (z + 1) (b := 7) (by omega)
      generalize (z + 1) % 7 = t at a0 a1
      have : t = 0 ∨ t = 1 ∨ t = 2 ∨ t = 3 ∨ t = 4 ∨ t = 5 ∨ t = 6 := by omega
      rcases this with rfl | rfl | rfl | rfl | rfl | rfl | rfl <;> exact ⟨_, by decide, by decide, rfl⟩
    have e6 : ∀ (R : Pd), fIx (.ref wl) (.int 2) S' R = R (.int (z + 1)) S' := fun R => by rw [e4]; simp [L2.atI, L2.ixN]
    have e7 : ∀ (R : Pd), fIx (.ref wl) (.int 1) S' R = R (.int y) S' := fun R => by rw [e4]; simp [L2.atI, L2.ixN]
    refine later_of (And.intro sz_7 ?_)
    simp only [s_seqL]
    generalize [D.int 2147483647, D.int 2147483629, D.int 2147483587, D.int 2147483579, D.int 2147483563, D.int 2147483549, D.int 2147483543] = ps at hq ⊢
    obtain ⟨q, q0, q1, hq⟩ := hq
    simp [-Bool.exists_bool, -s_seq, s_seqL, e6, e7, hq]
    refine ⟨.inl ⟨by omega, by omega⟩, ⟨by omega, by omega, by omega⟩, q0, later_of ?_⟩
    have hm0 := Int.emod_nonneg ((y + 7919 * (z + 1) + 1) ^ 5) (b := q) (by omega)
    have hm1 := Int.emod_lt_of_pos ((y + 7919 * (z + 1) + 1) ^ 5) (b := q) (by omega)
    generalize (y + 7919 * (z + 1) + 1) ^ 5 % q = m at hm0 hm1 ⊢
    simp [-Bool.exists_bool, -s_seq, s_seqL, e6, e7, hq]
    refine ⟨by decide +kernel, .inl ⟨by omega, by omega⟩, q0, later_of ?_⟩
    simp [-Bool.exists_bool]
    exact ⟨by decide +kernel, h0, .now (h _ _ (Int.emod_nonneg _ (by omega)) (Int.emod_lt_of_pos _ h0) fm wl')⟩
theorem p_well {cell : Int} (h : ∀ wl S', S wl = none → Fm [] S S' → Wel S' wl 0 → R (.ref wl) S') : φ__law_well [.int cell] S R RE := by
  refine ⟨rfl, ?_⟩
  have hm0 := Int.emod_nonneg cell (b := 2147483647) (by omega)
  have hm1 := Int.emod_lt_of_pos cell (b := 2147483647) (by omega)
  have e : ∀ (b : Bool) (R' : Pd), fInt [.bl b] S R' = R' (.int (b2iD b)) S := fun _ _ => rfl
  simp [-Bool.exists_bool, w__law_well, startE, N__law_well, L2.CPow, cmpGe, e]
  refine ⟨.inr ?_, fun p hp => .now (h p _ hp (.new hp) ⟨_, _, 0, Sto.set_same, hm0, hm1, by omega, by omega⟩)⟩
  unfold b2iD
  split <;> omega
theorem at_ex {l : List D} {d : Int} (d0 : 0 ≤ d) (d1 : d < l.length) : ∃ x ∈ l, L2.atI l d = some x := by
  have := at_map (g := fun x : D => x) (l := l) d0 d1
  simpa using this
theorem p_one {wl : Addr} {c : Int} {l : List D} (w : Wel S wl c) (hc : c ≤ 1000000) (h0 : 0 < l.length) (h1 : l.length ≤ 1000) (h : ∀ x S', x ∈ l → Fm [wl] S S' → Wel S' wl (c + 1) → R x S') : φ__law_one [.ref wl, .lst l] S R RE := by
  refine ⟨rfl, ?_⟩
  simp [-Bool.exists_bool, w__law_one, startE, N__law_one, -f_ixL]
  refine p_draw w hc (by omega) (by omega) fun d S' d0 d1 fm w' => ?_
  obtain ⟨x, hx, e⟩ := at_ex d0 d1
  rw [f_ixL, e]
  exact ⟨x, rfl, .now (h x S' hx fm w')⟩
end
end L35
end

section
set_option Elab.async false
set_option linter.all false
set_option maxRecDepth 100000
set_option autoImplicit false
namespace L35
open SB PySem PySem.Spec L2
def shownB (sn : List (Int × Int)) (t : Tie) : Bool := match sn.lookup t.w with
  | some v => decide (v < t.d)
  | none => false
inductive Kd where
  | no | op | co | ha
deriving DecidableEq
def sureB (P : Par) (t : Tie) : Bool := decide (t.w ∈ P.ws) && decide (P.lk + P.ev < t.d)
def kd (P : Par) (s : Int) (sn : List (Int × Int)) (t : Tie) : Kd :=
  if t.p = s then (if shownB sn t = true then .no else if t.d ≤ P.lk then .co else .op)
  else if shownB sn t = true then .co else if t.d ≤ P.lk then .no else if sureB P t = true then .co else .ha
structure Rec where
  fx : Int
  py : List Tie
  hg : List Tie
def rec0 : Rec := ⟨0, [], []⟩
def putR (k : Kd) (t : Tie) (x : Rec) : Rec := match k with
  | .no => x
  | .co => { x with fx := x.fx + t.a }
  | .op => { x with py := x.py ++ [t] }
  | .ha => { x with hg := x.hg ++ [t] }
def recF (x : Rec) (py hg : D) : List (String × D) := [("fixed", .int x.fx), ("paying", py), ("hanging", hg)]
def recD (x : Rec) : D := .ins "Reckoning" (recF x (.lst (x.py.map tieD)) (.lst (x.hg.map tieD)))
structure Rst (S : Sto) (r p h : Addr) (x : Rec) : Prop where
  e : S r = some (.ins "Reckoning" (recF x (.ref p) (.ref h)))
  ep : S p = some (.lst (x.py.map tieD))
  eh : S h = some (.lst (x.hg.map tieD))
  ne : p ≠ h
section
variable {ς : En} {S : Sto} {R : Pd} {RE : Px} {r p h : Addr} {x : Rec} {t : Tie} {P : Par} {sn : List (Int × Int)}
theorem Rst.fm {S' : Sto} {A : List Addr} (q : Rst S r p h x) (f : Fm A S S') (n : ∀ b ∈ [r, p, h], b ∉ A) : Rst S' r p h x :=
  ⟨f.at q.e (n r (by simp)), f.at q.ep (n p (by simp)), f.at q.eh (n h (by simp)), q.ne⟩
theorem Rst.rp (q : Rst S r p h x) : r ≠ p := fun e => by have := q.e; rw [e, q.ep] at this; cases this
theorem Rst.rh (q : Rst S r p h x) : r ≠ h := fun e => by have := q.e; rw [e, q.eh] at this; cases this
@[simp] theorem i_t0 : fIx (tieD t) (.int 0) S R = R (.int t.p) S := by simp [tieD, L2.atI, L2.ixN]
@[simp] theorem i_t1 : fIx (tieD t) (.int 1) S R = R (.int t.a) S := by simp [tieD, L2.atI, L2.ixN]
@[simp] theorem i_t2 : fIx (tieD t) (.int 2) S R = R (.int t.w) S := by simp [tieD, L2.atI, L2.ixN]
@[simp] theorem i_t3 : fIx (tieD t) (.int 3) S R = R (.int t.d) S := by simp [tieD, L2.atI, L2.ixN]
@[simp] theorem f_inS {w : Int} : fIn false (.int w) (seenD sn) S R = R (.bl (sn.lookup w).isSome) S := by
  unfold fIn seenD
  simp [SB.keyOf, look_dK]
@[simp] theorem f_ixS {w : Int} : fIx (seenD sn) (.int w) S R = ∃ v, sn.lookup w = some v ∧ R (.int v) S := by
  unfold seenD
  simp [fIx, SB.keyOf, look_dK]
  cases sn.lookup w <;> simp
theorem p_shown (k : R (.bl (shownB sn t)) S) : φ_shown_in_time [tieD t, seenD sn] S R RE := by
  refine ⟨rfl, ?_⟩
  simp [-Bool.exists_bool, w_shown_in_time, startE, N_shown_in_time]
  unfold shownB at k
  cases e : sn.lookup t.w with
  | none => rw [e] at k; exact .now k
  | some v => rw [e] at k; simp [cmpLt]; exact .now k
theorem f_inI {w : Int} {l : List Int} (hl : l.length ≤ 1000) (k : R (.bl (decide (w ∈ l))) S) : fIn false (.int w) (.lst (l.map .int)) S R := by
  unfold fIn
  refine ⟨ok_pl (plL_map fun _ _ => rfl) ?_, okI _, ?_⟩
  · have := dpL_map (f := D.int) (k := 0) (m := l) fun _ _ => Nat.le_refl _
    simp only [dp_lst]; omega
  · have e : ((l.map D.int).any fun z => dEq z (.int w)) = decide (w ∈ l) := by
      rw [Bool.eq_iff_iff]
      simp [dEqI]
    rw [e, Bool.false_xor]
    exact k
@[simp] theorem g_span : fget "span" (viewD P) S R = R (.int P.ev) S := by simp [fget, viewD, look]
@[simp] theorem g_last : fget "last" (viewD P) S R = R (.int P.lk) S := by simp [fget, viewD, look]
@[simp] theorem g_known : fget "known" (viewD P) S R = R (.lst (P.ws.map .int)) S := by simp [fget, viewD, look]
@[simp] theorem g_held : fget "held" (viewD P) S R = R (.lst (P.ps.map potD)) S := by simp [fget, viewD, look]
theorem p_sure (hl : P.ws.length ≤ 1000) (k : R (.bl (sureB P t)) S) : φ_sure [viewD P, tieD t] S R RE := by
  refine ⟨rfl, ?_⟩
  simp [-Bool.exists_bool, w_sure, startE, N_sure]
  refine f_inI hl ?_
  unfold sureB at k
  by_cases e : t.w ∈ P.ws
  · simp [e, cmpLt] at k ⊢; exact .now k
  · simp [e] at k ⊢; exact .now k
theorem g_fx (q : Rst S r p h x) : fget "fixed" (.ref r) S R = R (.int x.fx) S := by simp [fget, insOf, q.e, recF, look]
theorem g_py (q : Rst S r p h x) : fget "paying" (.ref r) S R = R (.ref p) S := by simp [fget, insOf, q.e, recF, look]
theorem g_hg (q : Rst S r p h x) : fget "hanging" (.ref r) S R = R (.ref h) S := by simp [fget, insOf, q.e, recF, look]
theorem p_put {s : Int} (q : Rst S r p h x) (hl : P.ws.length ≤ 1000) (h1 : x.py.length ≤ 500) (h2 : x.hg.length ≤ 500) (k : ∀ S', Rst S' r p h (putR (kd P s sn t) t x) → Fm [r, p, h] S S' → R .non S') : φ_Reckoning_put [.ref r, viewD P, .int s, seenD sn, tieD t] S R RE := by
  have fx : Rz R .non (S.set r (.ins "Reckoning" (recF { x with fx := x.fx + t.a } (.ref p) (.ref h)))) → True := fun _ => trivial
  have goF : kd P s sn t = .co → ∀ K : Sto → Prop, (∀ S', Rz R .non S' → K S') → fSetF ["Reckoning"] "fixed" (.ref r) (.int (x.fx + t.a)) S K := fun e K hK => by
    unfold fSetF
    refine ⟨r, rfl, ?_⟩
    rw [q.e]
    refine ⟨rfl, by show 3 + 1 ≤ 1000; decide, hK _ (.now (k _ ?_ (.set (by simp))))⟩
    rw [e]
    refine ⟨by rw [Sto.set_same]; rfl, ?_, ?_, q.ne⟩
    · rw [Sto.set_ne q.rp.symm]; exact q.ep
    · rw [Sto.set_ne q.rh.symm]; exact q.eh
  refine ⟨rfl, ?_⟩
  simp [-Bool.exists_bool, -s_seq, s_seqL, w_Reckoning_put, startE, N_Reckoning_put]
  refine p_shown (later_of ?_)
  simp [-Bool.exists_bool, -s_seq, s_seqL, g_fx q, g_py q, g_hg q, cmpGe, cmpLt]
  have el : (∃ R', R' = R) := ⟨_, rfl⟩
  by_cases c1 : t.p = s
  · simp only [c1, decide_true, if_true]
    by_cases c2 : shownB sn t = true
    · simp [c2]
      exact .now (k S (by unfold kd; rw [if_pos c1, if_pos c2]; exact q) .refl)
    · by_cases c3 : t.d ≤ P.lk
      · simp [c2, c3]
        exact goF (by unfold kd; rw [if_pos c1, if_neg c2, if_pos c3]) _ fun _ h => h
      · simp [c2, c3]
        refine ⟨tyM_refL q.ep, p, _, _, rfl, rfl, q.ep, sz1001 (by simp; omega), .now (k _ ?_ (.set (by simp)))⟩
        have e : kd P s sn t = .op := by unfold kd; rw [if_pos c1, if_neg c2, if_neg c3]
        rw [e]
        exact ⟨by rw [Sto.set_ne q.rp]; exact q.e, by rw [Sto.set_same]; simp [putR], by rw [Sto.set_ne q.ne.symm]; exact q.eh, q.ne⟩
  · simp only [c1, decide_false, Bool.false_eq_true, if_false]
    by_cases c2 : shownB sn t = true
    · simp [c2]
      exact goF (by unfold kd; rw [if_neg c1, if_pos c2]) _ fun _ h => h
    · by_cases c3 : t.d ≤ P.lk
      · have c3' : ¬ P.lk < t.d := by omega
        simp [c2, c3']
        exact .now (k S (by unfold kd; rw [if_neg c1, if_neg c2, if_pos c3]; exact q) .refl)
      · have c3' : P.lk < t.d := by omega
        simp [-Bool.exists_bool, c2, c3']
        refine p_sure hl ?_
        by_cases c4 : sureB P t = true
        · simp [c4, g_fx q, g_hg q]
          exact goF (by unfold kd; rw [if_neg c1, if_neg c2, if_neg c3, if_pos c4]) _ fun _ h => h
        · simp [c4, g_fx q, g_hg q]
          refine ⟨tyM_refL q.eh, h, _, _, rfl, rfl, q.eh, sz1001 (by simp; omega), .now (k _ ?_ (.set (by simp)))⟩
          have e : kd P s sn t = .ha := by unfold kd; rw [if_neg c1, if_neg c2, if_neg c3, if_neg c4]
          rw [e]
          exact ⟨by rw [Sto.set_ne q.rh]; exact q.e, by rw [Sto.set_ne q.ne]; exact q.ep, by rw [Sto.set_same]; simp [putR], q.ne⟩
theorem p_init (hr : S r = some (.ins "Reckoning" [])) (k : ∀ p h S', S p = none → S h = none → Rst S' r p h rec0 → Fm [r] S S' → R .non S') : φ_Reckoning___init__ [.ref r] S R RE := by
  refine ⟨rfl, ?_⟩
  simp [-Bool.exists_bool, w_Reckoning___init__, startE, N_Reckoning___init__]
  refine ⟨r, rfl, ?_⟩
  rw [hr]
  refine ⟨rfl, by show 0 + 1 ≤ 1000; decide, fun p hp => ?_⟩
  have hp0 : S p = none := by
    by_cases e : p = r
    · subst e; simp at hp
    · rw [Sto.set_ne e] at hp; exact hp
  have hpr : p ≠ r := fun e => by rw [e, hr] at hp0; cases hp0
  refine ⟨r, rfl, ?_⟩
  rw [Sto.set_ne hpr.symm, Sto.set_same]
  refine ⟨rfl, by show 1 + 1 ≤ 1000; decide, fun h hh => ?_⟩
  have hhr : h ≠ r := fun e => by subst e; simp at hh
  rw [Sto.set_ne hhr] at hh
  have hhp : h ≠ p := fun e => by subst e; simp at hh
  rw [Sto.set_ne hhp, Sto.set_ne hhr] at hh
  refine ⟨r, rfl, ?_⟩
  rw [Sto.set_ne hhr.symm, Sto.set_same]
  refine ⟨rfl, by show 2 + 1 ≤ 1000; decide, .now (k p h _ hp0 hh ⟨?_, ?_, ?_, hhp.symm⟩ ?_)⟩
  · rw [Sto.set_same]; rfl
  · rw [Sto.set_ne hpr, Sto.set_ne hhp.symm, Sto.set_ne hpr, Sto.set_same]; rfl
  · rw [Sto.set_ne hhr, Sto.set_same]; rfl
  · refine (Fm.set (by simp)).trans ((Fm.new ?_).trans ((Fm.set (by simp)).trans ((Fm.new ?_).trans (.set (by simp)))))
    · rw [Sto.set_ne hpr]; exact hp0
    · rw [Sto.set_ne hhr, Sto.set_ne hhp, Sto.set_ne hhr]; exact hh
end
end L35
end

section
set_option Elab.async false
set_option linter.all false
set_option maxRecDepth 100000
set_option autoImplicit false
namespace L35
open SB PySem PySem.Spec L2
def dayP (o : Option Int) (t : Tie) : Int := match o with
  | none => t.a
  | some z => if t.d < z then t.a else 0
def dayH (ev : Int) (o : Option Int) (t : Tie) : Int := match o with
  | none => 0
  | some z => if z - 1 + ev < t.d then t.a else 0
def withDay (x : Rec) (ev : Int) (o : Option Int) : Int := x.fx + (x.py.map (dayP o)).sum + (x.hg.map (dayH ev o)).sum
def daysO (x : Rec) : List (Option Int) := none :: x.py.map fun t => some t.d
def stepW (x : Rec) (ev : Int) (b : Int × Option Int) (o : Option Int) : Int × Option Int := if withDay x ev o < b.1 then (withDay x ev o, o) else b
def worst (x : Rec) (ev : Int) : Int × Option Int := (daysO x).foldl (stepW x ev) (withDay x ev none, none)
theorem worst_ok (x : Rec) (ev : Int) : (worst x ev).1 = withDay x ev (worst x ev).2 ∧ (worst x ev).2 ∈ daysO x := by
  have gen : ∀ (l : List (Option Int)) (b : Int × Option Int), (∀ o ∈ l, o ∈ daysO x) → b.1 = withDay x ev b.2 ∧ b.2 ∈ daysO x → (l.foldl (stepW x ev) b).1 = withDay x ev (l.foldl (stepW x ev) b).2 ∧ (l.foldl (stepW x ev) b).2 ∈ daysO x := by
    intro l
    induction l with
    | nil => intro b _ h; exact h
    | cons o l ih =>
      intro b hl h
      refine ih _ (fun o ho => hl o (List.mem_cons_of_mem _ ho)) ?_
      unfold stepW
      split
      · exact ⟨rfl, hl o List.mem_cons_self⟩
      · exact h
  exact gen _ _ (fun _ h => h) ⟨rfl, by simp [daysO]⟩
section
variable {ς : En} {S : Sto} {R : Pd} {RE : Px} {x : Rec} {ev : Int} {o : Option Int}
@[simp] theorem g_fxD : fget "fixed" (recD x) S R = R (.int x.fx) S := by simp [fget, recD, recF, look]
@[simp] theorem g_pyD : fget "paying" (recD x) S R = R (.lst (x.py.map tieD)) S := by simp [fget, recD, recF, look]
@[simp] theorem g_hgD : fget "hanging" (recD x) S R = R (.lst (x.hg.map tieD)) S := by simp [fget, recD, recF, look]
theorem p_with_day (h : R (.int (withDay x ev o)) S) : φ_Reckoning_with_day [recD x, .int ev, oD o] S R RE := by
  refine ⟨rfl, ?_⟩
  simp [-Bool.exists_bool, -s_seq, s_seqL, w_Reckoning_with_day, startE, N_Reckoning_with_day]
  refine later_of ?_
  simp [-Bool.exists_bool, -s_seq, s_seqL]
  refine for_inv (gd := none) (fun done ς' S' => S' = S ∧ ∃ v, ς' = [some (recD x), some (.int ev), some (oD o), some (.int (x.fx + (done.map (dayP o)).sum)), v]) (fun _ _ _ _ => trivial) ?_ ⟨rfl, _, by simp; rfl⟩ ?_
  · rintro done t rest ς' S' e ⟨rfl, v, rfl⟩
    refine ⟨_, rfl, fun K hK => ?_⟩
    have hK := hK [some (recD x), some (.int ev), some (oD o), some (.int (x.fx + (done.map (dayP o)).sum + dayP o t)), some (tieD t)] S' ⟨rfl, _, by simp [Int.add_assoc]; rfl⟩
    cases o with
    | none => simp [oD]; simpa [dayP, oD] using hK
    | some z =>
      simp [-Bool.exists_bool, oD, cmpLt]
      by_cases c : t.d < z
      · simp [c]; simpa [dayP, oD, c] using hK
      · simp [c]; simpa [dayP, oD, c] using hK
  · rintro ς' S' ⟨rfl, v, rfl⟩
    dsimp only
    refine later_of ?_
    simp [-Bool.exists_bool, -s_seq, s_seqL]
    refine for_inv (gd := none) (fun done ς' S1 => S1 = S' ∧ ∃ v, ς' = [some (recD x), some (.int ev), some (oD o), some (.int (x.fx + (x.py.map (dayP o)).sum + (done.map (dayH ev o)).sum)), v]) (fun _ _ _ _ => trivial) ?_ ⟨rfl, _, by simp; rfl⟩ ?_
    · rintro done t rest ς' S1 e ⟨rfl, v, rfl⟩
      refine ⟨_, rfl, fun K hK => ?_⟩
      have hK := hK [some (recD x), some (.int ev), some (oD o), some (.int (x.fx + (x.py.map (dayP o)).sum + (done.map (dayH ev o)).sum + dayH ev o t)), some (tieD t)] S1 ⟨rfl, _, by simp [Int.add_assoc]; rfl⟩
      cases o with
      | none => simp [oD]; simpa [dayH, oD] using hK
      | some z =>
        simp [-Bool.exists_bool, oD, cmpLt]
        by_cases c : z - 1 + ev < t.d
        · simp [c]; simpa [dayH, oD, c] using hK
        · simp [c]; simpa [dayH, oD, c] using hK
    · rintro ς' S1 ⟨rfl, v, rfl⟩
      dsimp only
      refine later_of ?_
      simp
      exact .now h
theorem p_days (hl : x.py.length ≤ 500) (h : R (.lst ((daysO x).map oD)) S) : φ_Reckoning_days [recD x] S R RE := by
  refine ⟨rfl, ?_⟩
  simp [-Bool.exists_bool, w_Reckoning_days, startE, N_Reckoning_days]
  intro p hp
  refine lc_map (fun t => .int t.d) (sz1000 (by omega)) (fun t ht => ⟨_, rfl, fun S R h => ?_⟩) ?_ p hp
  · simp [wipeE]; exact h
  · simp
    refine ⟨sz1001 (by omega), .now ?_⟩
    simpa [daysO, oD, Function.comp_def] using h
theorem m_rec {m : String} {nd : Nat × List D × SB.Spec} {cs : List (String × Nat × List D × SB.Spec)} {K : Nat × List D × SB.Spec → Prop} (h1 : ∀ x ∈ ["fixed", "paying", "hanging"], x ≠ m) (h2 : cs.lookup "Reckoning" = some nd) (h : K nd) : mlook m cs (recD x) S K := by
  refine ⟨"Reckoning", _, nd, rfl, ?_, h2, h⟩
  simp at h1
  simp [recF, look, h1]
theorem p_worst (hl : x.py.length ≤ 500) (h : R (.tup [.int (worst x ev).1, oD (worst x ev).2]) S) : φ_Reckoning_worst [recD x, .int ev] S R RE := by
  refine ⟨rfl, ?_⟩
  simp [-Bool.exists_bool, -s_seq, s_seqL, w_Reckoning_worst, startE, N_Reckoning_worst]
  refine m_rec (by decide) rfl ?_
  simp [-Bool.exists_bool, -s_seq, s_seqL]
  refine p_with_day (o := none) (later_of ?_)
  simp [-Bool.exists_bool, -s_seq, s_seqL]
  refine m_rec (by decide) rfl ?_
  simp [-Bool.exists_bool, -s_seq, s_seqL]
  refine p_days hl ?_
  refine ⟨_, _, rfl, ?_⟩
  refine for_inv (gd := none) (fun done ς' S' => S' = S ∧ ∃ v v', ς' = [some (recD x), some (.int ev), some (.tup [.int (done.foldl (stepW x ev) (withDay x ev none, none)).1, oD (done.foldl (stepW x ev) (withDay x ev none, none)).2]), v, v']) (fun _ _ _ _ => trivial) ?_ ⟨rfl, _, _, rfl⟩ ?_
  · rintro done t rest ς' S' e ⟨rfl, v, v', rfl⟩
    refine ⟨_, rfl, fun K hK => ?_⟩
    have hK := hK [some (recD x), some (.int ev), some (.tup [.int ((done ++ [t]).foldl (stepW x ev) (withDay x ev none, none)).1, oD ((done ++ [t]).foldl (stepW x ev) (withDay x ev none, none)).2]), some (oD t), some (.int (withDay x ev t))] S' ⟨rfl, _, _, rfl⟩
    rw [List.foldl_append, List.foldl_cons, List.foldl_nil] at hK
    generalize done.foldl (stepW x ev) (withDay x ev none, none) = b at hK
    simp [-Bool.exists_bool, -s_seq, s_seqL]
    refine m_rec (by decide) rfl ?_
    simp [-Bool.exists_bool, -s_seq, s_seqL]
    refine p_with_day (later_of ?_)
    simp [-Bool.exists_bool, L2.atI, L2.ixN, cmpLt]
    unfold stepW at hK
    split
    · rename_i c; rw [if_pos c] at hK; exact hK
    · rename_i c; rw [if_neg c] at hK; exact hK
  · rintro ς' S' ⟨rfl, v, v', rfl⟩
    dsimp only
    refine later_of ?_
    simp
    exact .now h
end
end L35
end

section
set_option Elab.async false
set_option linter.all false
set_option maxRecDepth 100000
set_option autoImplicit false
namespace L35
open SB PySem PySem.Spec L2
/-! reckoned: a dict of own instances, then data -/
structure Ent where
  w : Int
  x : Rec
  r : Addr
  p : Addr
  h : Addr
def Ent.fp (e : Ent) : List Addr := [e.r, e.p, e.h]
structure Fst (S : Sto) (a : Addr) (es : List Ent) : Prop where
  e : S a = some (.dct (es.map fun e => (.inl e.w, .ref e.r)))
  ok : ∀ e ∈ es, Rst S e.r e.p e.h e.x
  nd : (es.flatMap Ent.fp).Nodup
  nk : (es.map Ent.w).Nodup
def addRow (fs : List (Int × Rec)) (k : Kd) (t : Tie) : List (Int × Rec) := putM t.w (putR k t ((fs.lookup t.w).getD rec0)) fs
def valsOf (es : List Ent) : List (Int × Rec) := es.map fun e => (e.w, e.x)
section
variable {S : Sto} {R : Pd} {RE : Px} {a : Addr} {es : List Ent}
theorem Fst.na (F : Fst S a es) : ∀ e ∈ es, a ∉ e.fp := fun e he z => by
  have q := F.ok e he
  have := F.e
  simp only [Ent.fp, List.mem_cons, List.mem_nil_iff, or_false] at z
  rcases z with z | z | z
  · rw [z, q.e] at this; cases this
  · rw [z, q.ep] at this; cases this
  · rw [z, q.eh] at this; cases this
theorem Fst.live (F : Fst S a es) : ∀ b ∈ es.flatMap Ent.fp, S b ≠ none := fun b hb => by
  obtain ⟨e, he, hb⟩ := List.mem_flatMap.mp hb
  have q := F.ok e he
  simp only [Ent.fp, List.mem_cons, List.mem_nil_iff, or_false] at hb
  rcases hb with rfl | rfl | rfl
  · rw [q.e]; simp
  · rw [q.ep]; simp
  · rw [q.eh]; simp
theorem look_es {w : Int} : ∀ es : List Ent, lookK (.inl w) (es.map fun e => (.inl e.w, .ref e.r)) = (es.find? fun e => decide (e.w = w)).map fun e => .ref e.r
  | [] => rfl
  | e :: es => by
    have ih := look_es (w := w) es
    rw [List.map_cons, lookK, List.find?_cons]
    by_cases h : e.w = w
    · simp [h]
    · rw [if_neg (fun z => h (inl_eq.mp z)), decide_eq_false h]
      exact ih
theorem look_vals {w : Int} : ∀ es : List Ent, (valsOf es).lookup w = (es.find? fun e => decide (e.w = w)).map Ent.x
  | [] => rfl
  | e :: es => by
    have ih := look_vals (w := w) es
    unfold valsOf at ih ⊢
    rw [List.map_cons, List.lookup_cons, List.find?_cons]
    by_cases h : e.w = w
    · simp [h]
    · rw [decide_eq_false h, show (w == e.w) = false from by simpa using fun z => h z.symm]
      exact ih
/-- the walk's frozen end -/
def dctOfE (es : List Ent) : List (Key × D) := dK recD (valsOf es)
theorem sb_rec {p : Addr} {d : D} {x : Rec} : sb p d (recD x) = recD x := by
  have h1 : pl (.lst (x.py.map tieD)) = true := plL_map fun _ _ => rfl
  have h2 : pl (.lst (x.hg.map tieD)) = true := plL_map fun _ _ => rfl
  unfold recD recF
  rw [sb, subF, subF, subF, subF, (sb_pl p d).1 _ h1, (sb_pl p d).1 _ h2, sb]
theorem sb_ties {p : Addr} {d : D} {l : List Tie} : sb p d (.lst (l.map tieD)) = .lst (l.map tieD) := (sb_pl p d).1 _ (plL_map fun _ _ => rfl)
theorem subK_app {p : Addr} {d : D} : ∀ l m : List (Key × D), subK p d (l ++ m) = subK p d l ++ subK p d m
  | [], m => by simp [subK]
  | (k, x) :: l, m => by rw [List.cons_append, subK, subK, subK_app l m, List.cons_append]
theorem subK_vals {p : Addr} {d : D} : ∀ l : List (Int × Rec), subK p d (dK recD l) = dK recD l
  | [] => by simp [dK, subK]
  | (k, x) :: l => by
    have ih := subK_vals (p := p) (d := d) l
    unfold dK at ih ⊢
    rw [List.map_cons, subK, ih, sb_rec]
theorem subK_refs {p : Addr} {d : D} : ∀ es : List Ent, (∀ e ∈ es, e.r ≠ p) → subK p d (es.map fun e => (.inl e.w, .ref e.r)) = es.map fun e => (.inl e.w, .ref e.r)
  | [], _ => by simp [subK]
  | e :: es, h => by
    rw [List.map_cons, subK, subK_refs es fun e he => h e (List.mem_cons_of_mem _ he), sb, if_neg (h e List.mem_cons_self)]
theorem frz_es : ∀ (es : List Ent) (done : List (Int × Rec)) (S : Sto), (∀ e ∈ es, Rst S e.r e.p e.h e.x) → (es.flatMap Ent.fp).Nodup →
    ∃ S', Frz (.dct (dK recD done ++ es.map fun e => (.inl e.w, .ref e.r))) S (.dct (dK recD (done ++ valsOf es))) S' ∧ ∀ b, S' b = S b ∨ (S' b = none ∧ b ∈ es.flatMap Ent.fp)
  | [], done, S, _, _ => ⟨S, by simpa [valsOf] using Frz.refl, fun b => .inl rfl⟩
  | e :: es, done, S, ok, nd => by
    have q := ok e List.mem_cons_self
    rw [List.flatMap_cons, List.nodup_append] at nd
    obtain ⟨n1, n2, n3⟩ := nd
    have hne : ∀ b ∈ e.fp, ∀ u ∈ es, b ∉ u.fp := fun b hb u hu z => n3 b hb b (List.mem_flatMap.mpr ⟨u, hu, z⟩) rfl
    have hr : ∀ b ∈ e.fp, ∀ u ∈ es, u.r ≠ b := fun b hb u hu z => hne b hb u hu (by rw [← z]; simp [Ent.fp])
    have s1 : sb e.r (.ins "Reckoning" (recF e.x (.ref e.p) (.ref e.h))) (.dct (dK recD done ++ ((e :: es).map fun e => (.inl e.w, .ref e.r)))) = .dct (dK recD done ++ (.inl e.w, .ins "Reckoning" (recF e.x (.ref e.p) (.ref e.h))) :: (es.map fun e => (.inl e.w, .ref e.r))) := by
      rw [sb, subK_app, subK_vals, List.map_cons, subK, subK_refs es (hr e.r (by simp [Ent.fp])), sb, if_pos rfl]
    have s2 : sb e.p (.lst (e.x.py.map tieD)) (.dct (dK recD done ++ (.inl e.w, .ins "Reckoning" (recF e.x (.ref e.p) (.ref e.h))) :: (es.map fun e => (.inl e.w, .ref e.r)))) = .dct (dK recD done ++ (.inl e.w, .ins "Reckoning" (recF e.x (.lst (e.x.py.map tieD)) (.ref e.h))) :: (es.map fun e => (.inl e.w, .ref e.r))) := by
      rw [sb, subK_app, subK_vals, subK, subK_refs es (hr e.p (by simp [Ent.fp])), recF, sb, subF, subF, subF, subF, sb, sb, if_pos rfl, sb, if_neg q.ne.symm]
      rfl
    have s3 : sb e.h (.lst (e.x.hg.map tieD)) (.dct (dK recD done ++ (.inl e.w, .ins "Reckoning" (recF e.x (.lst (e.x.py.map tieD)) (.ref e.h))) :: (es.map fun e => (.inl e.w, .ref e.r)))) = .dct (dK recD done ++ (.inl e.w, recD e.x) :: (es.map fun e => (.inl e.w, .ref e.r))) := by
      rw [sb, subK_app, subK_vals, subK, subK_refs es (hr e.h (by simp [Ent.fp])), recF, sb, subF, subF, subF, subF, sb, sb_ties, sb, if_pos rfl]
      rfl
    have f1 := Frz.sub (x := .dct (dK recD done ++ ((e :: es).map fun e => (.inl e.w, .ref e.r)))) q.e rfl
    rw [s1] at f1
    have ep : (S.del e.r) e.p = some (.lst (e.x.py.map tieD)) := by rw [Sto.del_ne q.rp.symm]; exact q.ep
    have f2 := Frz.sub (x := .dct (dK recD done ++ (.inl e.w, .ins "Reckoning" (recF e.x (.ref e.p) (.ref e.h))) :: (es.map fun e => (.inl e.w, .ref e.r)))) ep rfl
    rw [s2] at f2
    have eh : ((S.del e.r).del e.p) e.h = some (.lst (e.x.hg.map tieD)) := by rw [Sto.del_ne q.ne.symm, Sto.del_ne q.rh.symm]; exact q.eh
    have f3 := Frz.sub (x := .dct (dK recD done ++ (.inl e.w, .ins "Reckoning" (recF e.x (.lst (e.x.py.map tieD)) (.ref e.h))) :: (es.map fun e => (.inl e.w, .ref e.r)))) eh rfl
    rw [s3] at f3
    have hS : ∀ b, b ∉ e.fp → (((S.del e.r).del e.p).del e.h) b = S b := fun b hb => by
      simp [Ent.fp] at hb
      rw [Sto.del_ne hb.2.2, Sto.del_ne hb.2.1, Sto.del_ne hb.1]
    obtain ⟨S', f4, h4⟩ := frz_es es (done ++ [(e.w, e.x)]) (((S.del e.r).del e.p).del e.h) (fun u hu => by
      have qu := ok u (List.mem_cons_of_mem _ hu)
      have nn : ∀ b ∈ u.fp, (((S.del e.r).del e.p).del e.h) b = S b := fun b hb => hS b fun z => hne b z u hu hb
      exact ⟨by rw [nn u.r (by simp [Ent.fp])]; exact qu.e, by rw [nn u.p (by simp [Ent.fp])]; exact qu.ep, by rw [nn u.h (by simp [Ent.fp])]; exact qu.eh, qu.ne⟩) n2
    have e1 : dK recD (done ++ [(e.w, e.x)]) ++ es.map (fun e => ((.inl e.w : Key), D.ref e.r)) = dK recD done ++ (.inl e.w, recD e.x) :: (es.map fun e => (.inl e.w, .ref e.r)) := by simp [dK]
    rw [e1] at f4
    have e2 : done ++ [(e.w, e.x)] ++ valsOf es = done ++ valsOf (e :: es) := by simp [valsOf]
    rw [e2] at f4
    refine ⟨S', ((f1.trans f2).trans f3).trans f4, fun b => ?_⟩
    by_cases hb : b ∈ e.fp
    · right
      refine ⟨?_, by rw [List.flatMap_cons]; exact List.mem_append_left _ hb⟩
      rcases h4 b with z | z
      · rw [z]
        simp [Ent.fp] at hb
        simp only [Sto.del]
        rcases hb with rfl | rfl | rfl <;> simp
      · exact z.1
    · rcases h4 b with z | z
      · exact .inl (z.trans (hS b hb))
      · exact .inr ⟨z.1, by rw [List.flatMap_cons]; exact List.mem_append_right _ z.2⟩
/-- .. handed out, all that was made on the way left -/
theorem ret_es {S0 : Sto} (F : Fst S a es) (f : Fm [] S0 S) (na : S0 a = none) (nn : ∀ b ∈ es.flatMap Ent.fp, S0 b = none) (h : R (.dct (dctOfE es)) S0) : Rz R (.ref a) S := by
  have f1 := Frz.ref F.e rfl
  obtain ⟨S', f2, h2⟩ := frz_es es [] (S.del a) (fun e he => by
    have q := F.ok e he
    have n := F.na e he
    simp [Ent.fp] at n
    exact ⟨by rw [Sto.del_ne (Ne.symm n.1)]; exact q.e, by rw [Sto.del_ne (Ne.symm n.2.1)]; exact q.ep, by rw [Sto.del_ne (Ne.symm n.2.2)]; exact q.eh, q.ne⟩) F.nd
  rw [show dK recD [] ++ es.map (fun e => ((.inl e.w : Key), D.ref e.r)) = es.map (fun e => ((.inl e.w : Key), D.ref e.r)) from rfl, List.nil_append] at f2
  refine ⟨_, S0, (f1.trans f2).trans (Frz.drop fun b => ?_), h⟩
  by_cases c : S0 b = none
  · exact .inr c
  · left
    have e1 := f b (by simp) c
    have hb : b ≠ a := fun z => c (z ▸ na)
    rcases h2 b with z | z
    · rw [z, Sto.del_ne hb, e1]
    · exact absurd (nn b z.2) c
end
end L35
end

section
set_option Elab.async false
set_option linter.all false
set_option maxRecDepth 100000
set_option autoImplicit false
namespace L35
open SB PySem PySem.Spec L2
theorem putM_in {α : Type} {w : Int} {x y : α} {A B : List (Int × α)} (h1 : ∀ p ∈ A, p.1 ≠ w) (h2 : ∀ p ∈ B, p.1 ≠ w) : putM w x (A ++ (w, y) :: B) = A ++ (w, x) :: B := by
  unfold putM
  rw [if_pos (by simp)]
  rw [List.map_append, List.map_cons, if_pos rfl]
  have e : ∀ l : List (Int × α), (∀ p ∈ l, p.1 ≠ w) → l.map (fun p => if p.1 = w then (p.1, x) else p) = l := fun l h => by
    conv => rhs; rw [← List.map_id l]
    exact List.map_congr_left fun p hp => by rw [if_neg (h p hp)]; rfl
  rw [e A h1, e B h2]
theorem putM_out {α : Type} {w : Int} {x : α} {A : List (Int × α)} (h1 : ∀ p ∈ A, p.1 ≠ w) : putM w x A = A ++ [(w, x)] := by
  unfold putM
  rw [if_neg]
  simp
  exact fun x hx => h1 _ hx rfl
theorem lookup_in {α : Type} {w : Int} {y : α} : ∀ {A B : List (Int × α)}, (∀ p ∈ A, p.1 ≠ w) → (A ++ (w, y) :: B).lookup w = some y
  | [], B, _ => by simp
  | p :: A, B, h => by
    rw [List.cons_append, List.lookup_cons, show (w == p.1) = false from by simpa using fun z => h p List.mem_cons_self z.symm]
    exact lookup_in fun q hq => h q (List.mem_cons_of_mem _ hq)
theorem lookup_out {α : Type} {w : Int} : ∀ {A : List (Int × α)}, (∀ p ∈ A, p.1 ≠ w) → A.lookup w = none
  | [], _ => rfl
  | p :: A, h => by
    rw [List.lookup_cons, show (w == p.1) = false from by simpa using fun z => h p List.mem_cons_self z.symm]
    exact lookup_out fun q hq => h q (List.mem_cons_of_mem _ hq)
theorem find_in {w : Int} {e : Ent} : ∀ {A B : List Ent}, (∀ p ∈ A, p.w ≠ w) → e.w = w → (A ++ e :: B).find? (fun e => decide (e.w = w)) = some e
  | [], B, _, h => by simp [h]
  | p :: A, B, h, k => by
    rw [List.cons_append, List.find?_cons, decide_eq_false (h p List.mem_cons_self)]
    exact find_in (fun q hq => h q (List.mem_cons_of_mem _ hq)) k
theorem find_out {w : Int} : ∀ {A : List Ent}, (∀ p ∈ A, p.w ≠ w) → A.find? (fun e => decide (e.w = w)) = none
  | [], _ => rfl
  | p :: A, h => by
    rw [List.find?_cons, decide_eq_false (h p List.mem_cons_self)]
    exact find_out fun q hq => h q (List.mem_cons_of_mem _ hq)
/-- one entry otherwise, and its own things -/
theorem Fst.put {S S' : Sto} {a : Addr} {A B : List Ent} {e : Ent} {x : Rec} (F : Fst S a (A ++ e :: B)) (q : Rst S' e.r e.p e.h x) (f : Fm e.fp S S') : Fst S' a (A ++ { e with x := x } :: B) := by
  have nd := F.nd
  have hne : ∀ u, u ∈ A ∨ u ∈ B → ∀ b ∈ u.fp, b ∉ e.fp := fun u hu b hb z => by
    rw [List.flatMap_append, List.flatMap_cons, List.nodup_append, List.nodup_append] at nd
    obtain ⟨n1, ⟨n2, n3, n4⟩, n5⟩ := nd
    rcases hu with hu | hu
    · exact n5 b (List.mem_flatMap.mpr ⟨u, hu, hb⟩) b (List.mem_append_left _ z) rfl
    · exact n4 b z b (List.mem_flatMap.mpr ⟨u, hu, hb⟩) rfl
  refine ⟨?_, fun u hu => ?_, by simpa [Ent.fp] using F.nd, by simpa using F.nk⟩
  · have := f.at F.e (F.na e (by simp))
    simpa using this
  · rcases List.mem_append.mp hu with hu | hu
    · exact (F.ok u (by simp [hu])).fm f (hne u (.inl hu))
    · rcases List.mem_cons.mp hu with rfl | hu
      · exact q
      · exact (F.ok u (by simp [hu])).fm f (hne u (.inr hu))
/-- one entry more -/
theorem Fst.more {S S' : Sto} {a r p h : Addr} {es : List Ent} {w : Int} {x : Rec} (F : Fst S a es) (q : Rst S' r p h x) (f : Fm [a] S S') (n : ∀ b ∈ [r, p, h], S b = none) (hw : ∀ u ∈ es, u.w ≠ w) (ha : S' a = some (.dct ((es.map fun e => (.inl e.w, .ref e.r)) ++ [(.inl w, .ref r)]))) : Fst S' a (es ++ [⟨w, x, r, p, h⟩]) := by
  refine ⟨by simpa using ha, fun u hu => ?_, ?_, ?_⟩
  · rcases List.mem_append.mp hu with hu | hu
    · exact (F.ok u hu).fm f fun b hb z => F.na u hu (by simp at z; rw [← z]; exact hb)
    · simp at hu; subst hu; exact q
  · rw [List.flatMap_append, List.nodup_append]
    refine ⟨F.nd, ?_, fun b hb c hc e => ?_⟩
    · have h1 := q.rp
      have h2 := q.rh
      have h3 := q.ne
      simp [Ent.fp, h1, h2, h3]
    · subst e
      exact F.live b hb (n b (by simpa [Ent.fp] using hc))
  · rw [List.map_append, List.nodup_append]
    refine ⟨F.nk, by simp, fun b hb c hc e => ?_⟩
    obtain ⟨u, hu, rfl⟩ := List.mem_map.mp hb
    simp at hc
    exact hw u hu (e.trans hc)
def tieB : WpS := (wSeq (wIf (wB (wOp (fIn true) (wOp fIx (wVar 7) (wC (.int 2))) (wVar 2))) (wSetI (wMake true "Reckoning" [] φ_Reckoning___init__ wNil) (wVar 2) (wOp fIx (wVar 7) (wC (.int 2)))) wNx)
  (wExpr (wMeth "put" cs_put (wOp fIx (wVar 2) (wOp fIx (wVar 7) (wC (.int 2)))) (wCons (wVar 0) (wCons (wVar 3) (wCons (wVar 5) (wCons (wVar 7) wNil)))))))
/-- what stands behind some rows -/
structure RI (S0 : Sto) (a : Addr) (S : Sto) (fs : List (Int × Rec)) (n : Nat) : Prop where
  ex : ∃ es, Fst S a es ∧ (∀ b ∈ es.flatMap Ent.fp, S0 b = none) ∧ valsOf es = fs ∧ es.length ≤ n ∧ ∀ e ∈ es, e.x.py.length ≤ n ∧ e.x.hg.length ≤ n
  fm : Fm [] S0 S
theorem putR_len {k : Kd} {t : Tie} {x : Rec} : (putR k t x).py.length ≤ x.py.length + 1 ∧ (putR k t x).hg.length ≤ x.hg.length + 1 := by
  cases k <;> simp [putR]
theorem tie_ok {S0 S : Sto} {a : Addr} {fs : List (Int × Rec)} {n : Nat} {P : Par} {s : Int} {sn : List (Int × Int)} {t : Tie} {c1 c4 c6 : Option D} {E : ES} {XE : PxE} (I : RI S0 a S fs n) (na : S0 a = none) (hn : n ≤ 200) (hl : P.ws.length ≤ 1000)
    (h : ∀ S', RI S0 a S' (addRow fs (kd P s sn t) t) (n + 1) → E.nx [some (viewD P), c1, some (.ref a), some (.int s), c4, some (seenD sn), c6, some (tieD t)] S') :
    tieB [some (viewD P), c1, some (.ref a), some (.int s), c4, some (seenD sn), c6, some (tieD t)] S E XE := by
  obtain ⟨⟨es, F, nn, hv, h1, h2⟩, fm⟩ := I
  have fin : ∀ (A B : List Ent) (e : Ent) (S1 : Sto), Fst S1 a (A ++ e :: B) → e.w = t.w → (∀ u ∈ A, u.w ≠ t.w) → (∀ u ∈ B, u.w ≠ t.w) → Fm [] S0 S1 → (∀ b ∈ (A ++ e :: B).flatMap Ent.fp, S0 b = none) → (A ++ e :: B).length ≤ n + 1 → (∀ u ∈ A ++ e :: B, u.x.py.length ≤ n ∧ u.x.hg.length ≤ n) →
      (valsOf (A ++ { e with x := putR (kd P s sn t) t e.x } :: B) = addRow fs (kd P s sn t) t) →
      later (wExpr (wMeth "put" cs_put (wOp fIx (wVar 2) (wOp fIx (wVar 7) (wC (.int 2)))) (wCons (wVar 0) (wCons (wVar 3) (wCons (wVar 5) (wCons (wVar 7) wNil)))))) [some (viewD P), c1, some (.ref a), some (.int s), c4, some (seenD sn), c6, some (tieD t)] S1 E XE := by
    intro A B e S1 F1 ew hA hB f1 n1 l1 l2 hv1
    refine later_of ?_
    simp only [s_expr, s_meth, s_op, s_var, s_c]
    refine ⟨.ref a, rfl, tieD t, rfl, ?_⟩
    rw [i_t2, f_ixRI F1.e]
    have q := F1.ok e (by simp)
    have ei : insOf S1 (.ref e.r) = some ("Reckoning", recF e.x (.ref e.p) (.ref e.h)) := by simp [insOf, q.e]
    refine ⟨.ref e.r, by rw [look_es, find_in hA ew]; rfl, _, _, _, ei, by simp [recF, look], rfl, ?_⟩
    simp [-Bool.exists_bool]
    have b := l2 e (by simp)
    refine p_put q hl (by omega) (by omega) fun S2 q2 f2 => ?_
    refine h S2 ⟨⟨_, F1.put q2 f2, ?_, hv1, by simpa using l1, fun u hu => ?_⟩, ?_⟩
    · simpa [Ent.fp] using n1
    · rcases List.mem_append.mp hu with hu | hu
      · have := l2 u (by simp [hu]); omega
      · rcases List.mem_cons.mp hu with rfl | hu
        · have := putR_len (k := kd P s sn t) (t := t) (x := e.x)
          show (putR _ _ _).py.length ≤ _ ∧ (putR _ _ _).hg.length ≤ _
          omega
        · have := l2 u (by simp [hu]); omega
    · intro b hb hz
      rw [f2 b (fun z => hz (n1 b (List.mem_flatMap.mpr ⟨e, by simp, z⟩))) (by rw [f1 b (by simp) hz]; exact hz), f1 b (by simp) hz]
  unfold tieB
  simp only [s_seqL]
  simp only [s_if, s_B, s_op, s_var, s_c, s_nx]
  refine ⟨tieD t, rfl, ?_⟩
  rw [i_t2]
  refine ⟨.ref a, rfl, ?_⟩
  unfold fIn
  rw [contOf_refD F.e]
  refine ⟨_, rfl, _, rfl, ?_⟩
  rw [look_es, Option.isSome_map]
  by_cases hin : t.w ∈ es.map Ent.w
  · obtain ⟨e, he, ew⟩ := List.mem_map.mp hin
    obtain ⟨A, B, rfl⟩ := List.append_of_mem he
    have nk := F.nk
    rw [List.map_append, List.map_cons, List.nodup_append, List.nodup_cons] at nk
    obtain ⟨k1, ⟨k2, k3⟩, k4⟩ := nk
    have hA : ∀ u ∈ A, u.w ≠ t.w := fun u hu z => k4 u.w (List.mem_map_of_mem hu) e.w List.mem_cons_self (by rw [z, ew])
    have hB : ∀ u ∈ B, u.w ≠ t.w := fun u hu z => k2 (by rw [ew, ← z]; exact List.mem_map_of_mem hu)
    rw [find_in hA ew]
    refine fin A B e S F ew hA hB fm nn (by omega) h2 ?_
    rw [← hv]
    unfold addRow valsOf
    rw [List.map_append, List.map_cons, List.map_append, List.map_cons, ew, lookup_in (fun p hp => by
      obtain ⟨u, hu, rfl⟩ := List.mem_map.mp hp; exact hA u hu), putM_in (fun p hp => by
      obtain ⟨u, hu, rfl⟩ := List.mem_map.mp hp; exact hA u hu) (fun p hp => by
      obtain ⟨u, hu, rfl⟩ := List.mem_map.mp hp; exact hB u hu)]
    rfl
  · have hA : ∀ u ∈ es, u.w ≠ t.w := fun u hu z => hin (z ▸ List.mem_map_of_mem hu)
    rw [find_out hA]
    simp [-Bool.exists_bool]
    intro r hr
    refine p_init Sto.set_same fun p hh S2 hp h0 q2 f2 => ⟨rfl, ?_⟩
    have hrp := q2.rp
    have hrh := q2.rh
    rw [Sto.set_ne hrp.symm] at hp
    rw [Sto.set_ne hrh.symm] at h0
    have f3 : Fm [] S S2 := fun b _ nb => by
      have hb : b ≠ r := fun z => nb (z ▸ hr)
      rw [f2 b (by simpa using hb) (by rw [Sto.set_ne hb]; exact nb), Sto.set_ne hb]
    have F2e := f3.at F.e (by simp)
    refine ⟨a, rfl, ?_⟩
    rw [F2e]
    refine ⟨_, rfl, sz1001 (by simp; omega), ?_⟩
    have hput : putD (.inl t.w) (D.ref r) (es.map fun e => ((.inl e.w : Key), D.ref e.r)) = (es.map fun e => ((.inl e.w : Key), D.ref e.r)) ++ [(.inl t.w, .ref r)] := by
      unfold putD
      rw [if_neg]
      simpa [inl_eq] using hA
    rw [hput]
    have hS : ∀ b, b ∈ [r, p, hh] → S b = none := fun b hb => by
      simp at hb
      rcases hb with rfl | rfl | rfl
      · exact hr
      · exact hp
      · exact h0
    have hab : ∀ b, b ∈ [r, p, hh] → b ∉ [a] := fun b hb z => by
      simp at z
      subst z
      have := hS b hb
      rw [F.e] at this; cases this
    have fa : Fm [a] S2 (S2.set a (.dct ((es.map fun e => ((.inl e.w : Key), D.ref e.r)) ++ [(.inl t.w, .ref r)]))) := .set (by simp)
    have q3 := q2.fm fa hab
    have F3 := F.more (w := t.w) q3 ((f3.mono (by simp)).trans fa) hS hA Sto.set_same
    refine fin es [] _ _ F3 rfl hA (by simp) ?_ ?_ (by simp; omega) ?_ ?_
    · intro b hb hz
      have hba : b ≠ a := fun z => hz (by rw [z]; exact na)
      rw [Sto.set_ne hba, (fm.trans f3) b hb hz]
    · intro b hb
      rw [List.flatMap_append] at hb
      rcases List.mem_append.mp hb with hb | hb
      · exact nn b hb
      · have z := hS b (by simpa [Ent.fp] using hb)
        by_cases c : S0 b = none
        · exact c
        · rw [fm b (by simp) c] at z; exact absurd z c
    · intro u hu
      rcases List.mem_append.mp hu with hu | hu
      · exact h2 u hu
      · rw [List.mem_singleton.mp hu]; simp [rec0]
    · rw [← hv]
      unfold addRow valsOf
      rw [lookup_out (fun p hp => by
        obtain ⟨u, hu, rfl⟩ := List.mem_map.mp hp; exact hA u hu), putM_out (fun p hp => by
        obtain ⟨u, hu, rfl⟩ := List.mem_map.mp hp; exact hA u hu)]
      simp
end L35
end

section
set_option Elab.async false
set_option linter.all false
set_option maxRecDepth 100000
set_option autoImplicit false
namespace L35
open SB PySem PySem.Spec L2
def stAt (p : Pot) (c : Int) : Stn := p.sts.getD c.toNat ⟨0, 0, 0, []⟩
def InR (P : Par) (ch : List Int) : Prop := ∀ x ∈ P.ps.zip ch, 0 ≤ x.2 ∧ x.2 < x.1.sts.length
def rows1 (P : Par) (x : Pot × Int) : List (Kd × Tie) := (stAt x.1 x.2).ts.map fun t => (kd P x.1.s x.1.sn t, t)
def rowsZ (P : Par) (z : List (Pot × Int)) : List (Kd × Tie) := z.flatMap (rows1 P)
def rowsOf (P : Par) (ch : List Int) : List (Kd × Tie) := rowsZ P (P.ps.zip ch)
def reck (rs : List (Kd × Tie)) : List (Int × Rec) := rs.foldl (fun fs x => addRow fs x.1 x.2) []
def share (s : Stn) (side : Int) : Int := if side = 0 then s.l else s.r
def ownZ (z : List (Pot × Int)) : Int := (z.map fun x => share (stAt x.1 x.2) x.1.s).sum
def own (P : Par) (ch : List Int) : Int := ownZ (P.ps.zip ch)
theorem stAt_mem {p : Pot} {c : Int} (h0 : 0 ≤ c) (h1 : c < p.sts.length) : p.sts[c.toNat]? = some (stAt p c) := by
  unfold stAt
  exact get_ex _ (by omega)
theorem zip_len {P : Par} {ch : List Int} (ok : ParOk P) : (P.ps.zip ch).length ≤ 3 := by
  rw [List.length_zip]
  have := ok.len
  omega
theorem stAt_ok {P : Par} {ch : List Int} (ok : ParOk P) (h : InR P ch) {x : Pot × Int} (hx : x ∈ P.ps.zip ch) : PotOk x.1 ∧ StnOk (stAt x.1 x.2) := by
  have h1 := ok.ok x.1 (List.of_mem_zip hx).1
  obtain ⟨h2, h3⟩ := h x hx
  exact ⟨h1, h1.ok _ (List.mem_of_getElem? (stAt_mem h2 h3))⟩
theorem rows1_len {P : Par} {x : Pot × Int} (h : StnOk (stAt x.1 x.2)) : (rows1 P x).length ≤ 4 := by
  have := h.len
  simp [rows1]; omega
theorem rowsZ_len {P : Par} : ∀ z : List (Pot × Int), (∀ x ∈ z, StnOk (stAt x.1 x.2)) → (rowsZ P z).length ≤ 4 * z.length
  | [], _ => by simp [rowsZ]
  | x :: z, h => by
    have h1 := rows1_len (P := P) (h x List.mem_cons_self)
    have h2 := rowsZ_len (P := P) z fun y hy => h y (List.mem_cons_of_mem _ hy)
    unfold rowsZ at h2 ⊢
    rw [List.flatMap_cons, List.length_append, List.length_cons]
    omega
theorem rows_len {P : Par} {ch : List Int} (ok : ParOk P) (h : InR P ch) : (rowsOf P ch).length ≤ 12 := by
  have h1 := rowsZ_len (P := P) (P.ps.zip ch) fun x hx => (stAt_ok ok h hx).2
  have h2 := zip_len (ch := ch) ok
  unfold rowsOf
  omega
theorem zip_eq {α β : Type} {f : α → D} {g : β → D} : ∀ {l : List α} {m : List β}, zipD (l.map f) (m.map g) = (l.zip m).map fun x => .tup [f x.1, g x.2]
  | [], _ => by simp [zipD]
  | _ :: _, [] => by simp [zipD]
  | x :: l, y :: m => by simp [zipD, zip_eq (f := f) (g := g) (l := l) (m := m)]
theorem zip_of {ς : En} {S : Sto} {R : List D → Option (Addr × SO) → Sto → Prop} {RE : Px} {wa wb : WpE} {α β : Type} {f : α → D} {g : β → D} {l : List α} {m : List β} (ha : ∀ K : Pd, K (.lst (l.map f)) S → wa ς S K RE) (hb : ∀ K : Pd, K (.lst (m.map g)) S → wb ς S K RE)
    (h : R ((l.zip m).map fun x => .tup [f x.1, g x.2]) none S) : wZip (wCons wa (wCons wb wNil)) ς S R RE := by
  refine ha _ (hb _ ?_)
  refine ⟨_, _, false, _, _, none, none, rfl, rfl, rfl, .inl rfl, ?_⟩
  rw [zip_eq]
  exact h
theorem held_of {ς : En} {S : Sto} {RE : Px} {P : Par} (h : ς[0]? = some (some (viewD P))) : ∀ K : Pd, K (.lst (P.ps.map potD)) S → wFld "held" (wVar 0) ς S K RE := fun K k => by
  rw [s_fld]
  refine ⟨_, h, ?_⟩
  show fget "held" (viewD P) S K
  simpa [fget, viewD, look] using k
theorem var_of {ς : En} {S : Sto} {RE : Px} {i : Nat} {x : D} (h : ς[i]? = some (some x)) : ∀ K : Pd, K x S → wVar i ς S K RE := fun K k => ⟨_, h, k⟩
section
variable {ς : En} {S : Sto} {R : Pd} {RE : Px} {P : Par} {ch : List Int}
@[simp] theorem i_s0 {s : Stn} : fIx (stnD s) (.int 0) S R = R (.int s.n) S := by simp [stnD, L2.atI, L2.ixN]
@[simp] theorem i_s1 {s : Stn} : fIx (stnD s) (.int 1) S R = R (shD s) S := by simp [stnD, L2.atI, L2.ixN]
@[simp] theorem i_s2 {s : Stn} : fIx (stnD s) (.int 2) S R = R (tsD s) S := by simp [stnD, L2.atI, L2.ixN]
theorem i_at {p : Pot} {c : Int} (h0 : 0 ≤ c) (h1 : c < p.sts.length) : fIx (.lst (p.sts.map stnD)) (.int c) S R = R (stnD (stAt p c)) S := by
  have := ixL_of (S := S) (R := R) (get_map (g := stnD) (stAt_mem h0 h1))
  rwa [Int.toNat_of_nonneg h0] at this
theorem i_sh {s : Stn} {i : Int} (h : i = 0 ∨ i = 1) : fIx (shD s) (.int i) S R = R (.int (share s i)) S := by
  rcases h with rfl | rfl
  · simp [shD, share, L2.atI, L2.ixN]
  · simp [shD, share, L2.atI, L2.ixN]
@[simp] theorem src_ts {s : Stn} : srcOf S (tsD s) = some (s.ts.map tieD, none) := rfl
theorem p_reckoned (ok : ParOk P) (hi : InR P ch) (h : R (.dct (dK recD (reck (rowsOf P ch)))) S) : φ_reckoned [viewD P, .lst (ch.map .int)] S R RE := by
  have hl := rows_len ok hi
  have hw : P.ws.length ≤ 1000 := by have := ok.wl; omega
  refine ⟨rfl, ?_⟩
  simp [-Bool.exists_bool, -s_seq, s_seqL, w_reckoned, startE, N_reckoned]
  refine ⟨by decide, fun a ha => later_of ?_⟩
  simp only [s_seqL, s_for]
  refine zip_of (held_of rfl) (var_of rfl) ?_
  have f0 : Fm [] S (S.set a (.dct [])) := .new ha
  refine for_inv (gd := none) (fun done ς' S' => RI S a S' (reck (rowsZ P done)) (rowsZ P done).length ∧ ∃ c3 c4 c5 c6 c7, ς' = [some (viewD P), some (.lst (ch.map .int)), some (.ref a), c3, c4, c5, c6, c7]) (fun _ _ _ _ => trivial) ?_ ⟨⟨⟨[], ⟨by simp, by simp, by simp, by simp⟩, by simp, rfl, by simp, by simp⟩, f0⟩, _, _, _, _, _, rfl⟩ ?_
  · rintro done x rest ς' S' e ⟨I, c3, c4, c5, c6, c7, rfl⟩
    have hx : x ∈ P.ps.zip ch := by rw [e]; simp
    obtain ⟨op, os⟩ := stAt_ok ok hi hx
    obtain ⟨h0, h1⟩ := hi x hx
    have hdone : (rowsZ P done).length + (rows1 P x).length ≤ 12 := by
      have e1 : rowsOf P ch = rowsZ P done ++ (rows1 P x ++ rowsZ P rest) := by
        unfold rowsOf rowsZ
        rw [e]
        simp
      rw [e1, List.length_append, List.length_append] at hl
      omega
    refine ⟨[some (viewD P), some (.lst (ch.map .int)), some (.ref a), some (.int x.1.s), some (.lst (x.1.sts.map stnD)), some (seenD x.1.sn), some (.int x.2), c7], rfl, fun K hK => ?_⟩
    simp only [s_for, s_src, s_op, s_var, s_c]
    refine ⟨_, rfl, _, rfl, ?_⟩
    rw [i_at h0 h1, i_s2]
    refine ⟨_, _, src_ts, ?_⟩
    refine for_inv (gd := none) (fun dn ς' S1 => RI S a S1 (reck (rowsZ P done ++ dn.map fun t => (kd P x.1.s x.1.sn t, t))) ((rowsZ P done).length + dn.length) ∧ ∃ c7, ς' = [some (viewD P), some (.lst (ch.map .int)), some (.ref a), some (.int x.1.s), some (.lst (x.1.sts.map stnD)), some (seenD x.1.sn), some (.int x.2), c7]) (fun _ _ _ _ => trivial) ?_ ⟨by simpa using I, _, rfl⟩ ?_
    · rintro dn t rs ς' S1 e1 ⟨I1, c7, rfl⟩
      refine ⟨_, rfl, fun K1 hK1 => ?_⟩
      have hdn : dn.length < (rows1 P x).length := by
        unfold rows1
        rw [List.length_map, e1, List.length_append, List.length_cons]
        omega
      refine (show tieB _ _ _ _ from ?_)
      refine tie_ok I1 ha (by omega) hw fun S2 I2 => hK1 _ _ ⟨?_, _, rfl⟩
      have e2 : reck (rowsZ P done ++ (dn ++ [t]).map fun t => (kd P x.1.s x.1.sn t, t)) = addRow (reck (rowsZ P done ++ dn.map fun t => (kd P x.1.s x.1.sn t, t))) (kd P x.1.s x.1.sn t) t := by
        unfold reck
        rw [List.map_append, ← List.append_assoc, List.foldl_append]
        rfl
      rw [e2]
      simpa [Nat.add_assoc] using I2
    · rintro ς' S1 ⟨I1, c7, rfl⟩
      refine hK _ _ ⟨?_, _, _, _, _, _, rfl⟩
      have e3 : rowsZ P (done ++ [x]) = rowsZ P done ++ (stAt x.1 x.2).ts.map fun t => (kd P x.1.s x.1.sn t, t) := by
        unfold rowsZ
        rw [List.flatMap_append]
        simp [rows1]
      rw [e3]
      simpa using I1
  · rintro ς' S' ⟨⟨⟨es, F, nn, hv, _, _⟩, fm⟩, c3, c4, c5, c6, c7, rfl⟩
    dsimp only
    refine later_of ?_
    simp
    refine ret_es F fm ha nn ?_
    unfold dctOfE
    rw [hv]
    exact h
theorem p_own (ok : ParOk P) (hi : InR P ch) (h : R (.int (own P ch)) S) : φ_own_shares [viewD P, .lst (ch.map .int)] S R RE := by
  have hz := zip_len (ch := ch) ok
  refine ⟨rfl, ?_⟩
  simp only [w_own_shares, startE, N_own_shares, s_ret, s_fun, s_cons, s_nil, s_lc]
  refine zip_of (held_of rfl) (var_of rfl) ?_
  intro p hp
  refine lc_map (fun x => .int (share (stAt x.1 x.2) x.1.s)) (sz1000 (by omega)) (fun x hx => ⟨_, rfl, fun S R h => ?_⟩) ?_ p hp
  · obtain ⟨op, os⟩ := stAt_ok ok hi hx
    obtain ⟨h0, h1⟩ := hi x hx
    simp [wipeE, -f_ixL, -f_ixT]
    rw [i_at h0 h1, i_s1, i_sh op.s0]
    exact h
  · rw [f_sumL]
    refine ⟨_, intL_mapF (g := fun x : Pot × Int => share (stAt x.1 x.2) x.1.s) (fun _ _ => rfl), .now h⟩
end
end L35
end

section
set_option Elab.async false
set_option linter.all false
set_option maxRecDepth 100000
set_option autoImplicit false
namespace L35
open SB PySem PySem.Spec L2
section
variable {S S0 : Sto} {R : Pd} {RE : Px}
theorem ret_back {x : D} (f : Fm [] S0 S) (h : R x S0) : Rz R x S := ⟨x, S0, Frz.drop fun b => by
  by_cases c : S0 b = none
  · exact .inr c
  · exact .inl (f b (by simp) c).symm, h⟩
theorem drop_back {p : Addr} {x : D} (f : Fm [] S0 S) (n : S0 p = none) : Frz x (S.del p) x S0 := Frz.drop fun b => by
  by_cases c : S0 b = none
  · exact .inr c
  · have hb : b ≠ p := fun z => c (by rw [z]; exact n)
    exact .inl (by rw [Sto.del_ne hb, f b (by simp) c])
theorem ret_backL {p : Addr} {l : List D} (f : Fm [] S0 S) (e : S p = some (.lst l)) (n : S0 p = none) (h : R (.lst l) S0) : Rz R (.ref p) S :=
  ⟨_, S0, (Frz.ref e rfl).trans (drop_back f n), h⟩
def chD (c : List Int) : D := .lst (c.map .int)
def faD (m : List (Int × Option Int)) : D := .dct (dK oD m)
def tolD (n : Int) (c : List Int) (m : List (Int × Option Int)) : D := .tup [.int n, chD c, faD m]
theorem ret_tol {p : Addr} {n : Int} {c : List Int} {m : List (Int × Option Int)} (f : Fm [] S0 S) (e : S p = some (.dct (dK oD m))) (k : S0 p = none) (h : R (tolD n c m) S0) : Rz R (.tup [.int n, chD c, .ref p]) S := by
  have f1 := Frz.sub (x := .tup [.int n, chD c, .ref p]) e rfl
  have hp : pl (chD c) = true := plL_map fun _ _ => rfl
  rw [sb, subL, subL, subL, subL, sb, (sb_pl p _).1 _ hp, sb, if_pos rfl] at f1
  exact ⟨_, S0, f1.trans (drop_back f k), h⟩
def lon (f : List (List Int)) (k : Nat) : List (List Int) := f.flatMap fun c => (List.range k).map fun i : Nat => c ++ [(i : Int)]
def choi (ps : List Pot) : List (List Int) := ps.foldl (fun f p => lon f p.sts.length) [[]]
theorem lon_len (f : List (List Int)) (k : Nat) : (lon f k).length = f.length * k := by
  unfold lon
  induction f with
  | nil => simp
  | cons c f ih => rw [List.flatMap_cons, List.length_append, ih, List.length_map, List.length_range, List.length_cons, Nat.add_mul, Nat.one_mul, Nat.add_comm]
theorem lon_mem {f : List (List Int)} {k : Nat} {c : List Int} (h : c ∈ lon f k) : ∃ d ∈ f, ∃ i : Nat, i < k ∧ c = d ++ [(i : Int)] := by
  unfold lon at h
  obtain ⟨d, hd, hc⟩ := List.mem_flatMap.mp h
  obtain ⟨i, hi, rfl⟩ := List.mem_map.mp hc
  exact ⟨d, hd, i, by simpa using hi, rfl⟩
theorem choi_ok : ∀ (ps : List Pot) (c : List Int), c ∈ choi ps → c.length = ps.length ∧ ∀ x ∈ ps.zip c, 0 ≤ x.2 ∧ x.2 < x.1.sts.length := by
  have gen : ∀ (ps done : List Pot) (f : List (List Int)), (∀ c ∈ f, c.length = done.length ∧ ∀ x ∈ done.zip c, 0 ≤ x.2 ∧ x.2 < x.1.sts.length) → ∀ c ∈ ps.foldl (fun f p => lon f p.sts.length) f, c.length = (done ++ ps).length ∧ ∀ x ∈ (done ++ ps).zip c, 0 ≤ x.2 ∧ x.2 < x.1.sts.length := by
    intro ps
    induction ps with
    | nil => intro done f h c hc; simpa using h c hc
    | cons p ps ih =>
      intro done f h c hc
      have := ih (done ++ [p]) (lon f p.sts.length) (fun c hc => ?_) c hc
      · simpa using this
      · obtain ⟨d, hd, i, hi, rfl⟩ := lon_mem hc
        obtain ⟨h1, h2⟩ := h d hd
        refine ⟨by simp [h1], fun x hx => ?_⟩
        rw [List.zip_append h1.symm] at hx
        rcases List.mem_append.mp hx with hx | hx
        · exact h2 x hx
        · simp at hx
          subst hx
          exact ⟨by show (0 : Int) ≤ i; omega, by show (i : Int) < p.sts.length; omega⟩
  intro ps c hc
  simpa using gen ps [] [[]] (by simp) c hc
theorem choi_le : ∀ (ps : List Pot), (∀ p ∈ ps, 1 ≤ p.sts.length ∧ p.sts.length ≤ 3) → 1 ≤ (choi ps).length ∧ (choi ps).length ≤ 3 ^ ps.length := by
  have gen : ∀ (ps : List Pot) (f : List (List Int)), (∀ p ∈ ps, 1 ≤ p.sts.length ∧ p.sts.length ≤ 3) → 1 ≤ f.length → 1 ≤ (ps.foldl (fun f p => lon f p.sts.length) f).length ∧ (ps.foldl (fun f p => lon f p.sts.length) f).length ≤ f.length * 3 ^ ps.length := by
    intro ps
    induction ps with
    | nil => intro f _ h; simpa using h
    | cons p ps ih =>
      intro f h h1
      obtain ⟨a, b⟩ := h p List.mem_cons_self
      have hl := lon_len f p.sts.length
      have l1 : 1 ≤ (lon f p.sts.length).length := by rw [hl]; exact Nat.mul_pos h1 a
      have := ih (lon f p.sts.length) (fun q hq => h q (List.mem_cons_of_mem _ hq)) l1
      rw [List.foldl_cons]
      refine ⟨this.1, Nat.le_trans this.2 ?_⟩
      rw [hl, List.length_cons, Nat.pow_succ, Nat.mul_assoc, Nat.mul_comm (3 ^ ps.length) 3]
      exact Nat.mul_le_mul_left _ (Nat.mul_le_mul_right _ b)
  intro ps h
  simpa [choi] using gen ps [[]] h (by simp)
/-- a list as it is walked, one's own or not -/
def LV (S0 S : Sto) (v : D) (l : List D) : Prop := v = .lst l ∨ ∃ p, v = .ref p ∧ S p = some (.lst l) ∧ S0 p = none
theorem ret_LV {v : D} {l : List D} (q : LV S0 S v l) (f : Fm [] S0 S) (h : R (.lst l) S0) : Rz R v S := by
  rcases q with rfl | ⟨p, rfl, e, n⟩
  · exact ret_back f h
  · exact ret_backL f e n h
theorem LV.src {v : D} {l : List D} (q : LV S0 S v l) : ∃ gd, srcOf S v = some (l, gd) ∧ ∀ S' A, Fm A S S' → (∀ b ∈ A, S b = none ) → grd gd S' := by
  rcases q with rfl | ⟨p, rfl, e, n⟩
  · exact ⟨none, rfl, fun _ _ _ _ => trivial⟩
  · refine ⟨_, srcOf_ref e, fun S' A f n => ?_⟩
    show S' p = some (.lst l)
    exact f.at e fun z => by rw [n p z] at e; cases e
def choB : WpS := (wSeq (wSet 5 (wLst true wNil))
  (wSeq (wFor (wSrc (wVar 1)) (.nm 6) (wFor (wRange (wCons (wFun fLen (wCons (wVar 3) wNil)) wNil)) (.nm 7) (wExpr (wMt "list" fAppend (wVar 5) (wCons (wOp (fAdd false) (wVar 6) (wLst false (wCons (wVar 7) wNil))) wNil)))))
  (wSet 1 (wVar 5))))
theorem p_choices {P : Par} (ok : ParOk P) (h : R (.lst ((choi P.ps).map chD)) S) : φ_choices [viewD P] S R RE := by
  have hst : ∀ p ∈ P.ps, 1 ≤ p.sts.length ∧ p.sts.length ≤ 3 := fun p hp => (ok.ok p hp).len
  refine ⟨rfl, ?_⟩
  simp [-Bool.exists_bool, -s_seq, s_seqL, w_choices, startE, N_choices]
  refine later_of ?_
  simp [-Bool.exists_bool, -s_seq, s_seqL]
  refine for_inv (gd := none) (fun done ς' S' => Fm [] S S' ∧ ∃ v c2 c3 c4 c5 c6 c7, LV S S' v ((choi done).map chD) ∧ ς' = [some (viewD P), some v, c2, c3, c4, c5, c6, c7]) (fun _ _ _ _ => trivial) ?_ ⟨.refl, _, _, _, _, _, _, _, .inl rfl, rfl⟩ ?_
  · rintro done x rest ς' S' e ⟨fm, v, c2, c3, c4, c5, c6, c7, lv, rfl⟩
    refine ⟨_, rfl, fun K hK => ?_⟩
    have hdl : done.length ≤ 2 := by
      have := ok.len
      rw [e, List.length_append, List.length_cons] at this
      omega
    have hd1 := choi_le done fun p hp => hst p (by rw [e]; simp [hp])
    have hd2 : (choi done).length ≤ 9 := by
      have h2 : 3 ^ done.length ≤ 3 ^ 2 := Nat.pow_le_pow_right (by omega) hdl
      omega
    have hx := hst x (by rw [e]; simp)
    refine (show choB _ _ _ _ from ?_)
    unfold choB
    simp only [s_seqL]
    simp [-Bool.exists_bool, -s_seq]
    intro q hq
    refine later_of ?_
    obtain ⟨gd, eg, hg⟩ := lv.src
    have f1 : Fm [] S' (S'.set q (.lst [])) := .new hq
    have eg' : srcOf (S'.set q (.lst [])) v = some ((choi done).map chD, gd) := by
      rcases lv with rfl | ⟨p, rfl, e1, n⟩
      · simpa using eg
      · rw [srcOf_ref (f1.at e1 (by simp))]
        rw [srcOf_ref e1] at eg
        exact eg
    simp only [s_seqL, s_for, s_src, s_var]
    refine ⟨_, rfl, _, _, eg', ?_⟩
    have hq0 : S q = none := by
      by_cases c : S q = none
      · exact c
      · rw [fm q (by simp) c] at hq; exact absurd hq c
    refine for_inv (gd := gd) (fun dn ς' S1 => S1 q = some (.lst ((lon dn x.sts.length).map chD)) ∧ Fm [q] S' S1 ∧ ∃ c6 c7, ς' = [some (viewD P), some v, some (.int x.s), some (.lst (x.sts.map stnD)), some (seenD x.sn), some (.ref q), c6, c7]) (fun dn ς1 S1 hh => hg S1 [q] hh.2.1 (by simpa using hq)) ?_ ⟨by simp [lon], f1.mono (by simp), _, _, rfl⟩ ?_
    · rintro dn c rs ς1 S1 e1 ⟨eq, f2, c6, c7, rfl⟩
      refine ⟨_, rfl, fun K1 hK1 => ?_⟩
      have hc : c ∈ choi done := by rw [e1]; simp
      have hcl : c.length ≤ 2 := by rw [(choi_ok done c hc).1]; exact hdl
      have hdn : dn.length ≤ 8 := by
        rw [e1, List.length_append, List.length_cons] at hd2
        omega
      simp only [s_for, s_range, s_cons, s_nil, s_fun, s_var]
      refine ⟨_, rfl, ?_⟩
      refine ⟨(x.sts.length : Int), by simp, by omega, by omega, ?_⟩
      rw [rngD_range]
      refine for_inv (gd := none) (fun ix ς' S2 => S2 q = some (.lst ((lon dn x.sts.length).map chD ++ ix.map fun i : Nat => chD (c ++ [(i : Int)]))) ∧ Fm [q] S' S2 ∧ ∃ c7, ς' = [some (viewD P), some v, some (.int x.s), some (.lst (x.sts.map stnD)), some (seenD x.sn), some (.ref q), some (chD c), c7]) (fun _ _ _ _ => trivial) ?_ ⟨by simpa using eq, f2, _, rfl⟩ ?_
      · rintro ix i ri ς2 S2 e2 ⟨eq2, f3, c7, rfl⟩
        refine ⟨_, rfl, fun K2 hK2 => ?_⟩
        have hix : ix.length ≤ 2 := by
          have := congrArg List.length e2
          simp at this
          omega
        simp [-Bool.exists_bool, chD]
        refine ⟨tyM_refL eq2, sz1000 (by omega), q, _, _, rfl, rfl, eq2, sz1001 ?_, ?_⟩
        · rw [List.length_append, List.length_map, List.length_map, lon_len]
          have : dn.length * x.sts.length ≤ 8 * 3 := Nat.mul_le_mul hdn hx.2
          omega
        · refine hK2 _ _ ⟨?_, f3.trans (.set (by simp)), _, rfl⟩
          rw [Sto.set_same]
          simp [chD]
      · rintro ς2 S2 ⟨eq2, f3, c7, rfl⟩
        refine hK1 _ _ ⟨?_, f3, _, _, rfl⟩
        rw [eq2]
        unfold lon
        rw [List.flatMap_append]
        simp
    · rintro ς1 S1 ⟨eq, f2, c6, c7, rfl⟩
      dsimp only
      refine later_of ?_
      simp
      refine hK _ _ ⟨?_, _, _, _, _, _, _, _, .inr ⟨q, rfl, ?_, hq0⟩, rfl⟩
      · intro b hb hz
        have hbq : b ≠ q := fun z => hz (by rw [z]; exact hq0)
        rw [f2 b (by simpa using hbq) (by rw [fm b hb hz]; exact hz), fm b hb hz]
      · rw [eq]
        unfold choi
        rw [List.foldl_append]
        rfl
  · rintro ς' S' ⟨fm, v, c2, c3, c4, c5, c6, c7, lv, rfl⟩
    dsimp only
    refine later_of ?_
    simp
    exact ret_LV lv fm h
end
end L35
end

section
set_option Elab.async false
set_option linter.all false
set_option maxRecDepth 100000
set_option autoImplicit false
namespace L35
open SB PySem PySem.Spec L2
def contr (ev : Int) (r : Kd × Tie) (o : Option Int) : Int := match r.1 with
  | .no => 0
  | .co => r.2.a
  | .op => dayP o r.2
  | .ha => dayH ev o r.2
theorem withDay_put {k : Kd} {t : Tie} {x : Rec} {ev : Int} {o : Option Int} : withDay (putR k t x) ev o = withDay x ev o + contr ev (k, t) o := by
  cases k <;> simp [withDay, putR, contr] <;> omega
theorem withDay_0 {ev : Int} {o : Option Int} : withDay rec0 ev o = 0 := by simp [withDay, rec0]
theorem addRow_cases {fs : List (Int × Rec)} (nd : (fs.map Prod.fst).Nodup) (k : Kd) (t : Tie) : (∃ A x B, fs = A ++ (t.w, x) :: B ∧ addRow fs k t = A ++ (t.w, putR k t x) :: B) ∨ (t.w ∉ fs.map Prod.fst ∧ addRow fs k t = fs ++ [(t.w, putR k t rec0)]) := by
  by_cases hin : t.w ∈ fs.map Prod.fst
  · left
    obtain ⟨p, hp, e⟩ := List.mem_map.mp hin
    obtain ⟨A, B, rfl⟩ := List.append_of_mem hp
    obtain ⟨w, x⟩ := p
    simp only at e
    subst e
    rw [List.map_append, List.map_cons, List.nodup_append, List.nodup_cons] at nd
    obtain ⟨k1, ⟨k2, k3⟩, k4⟩ := nd
    have hA : ∀ u ∈ A, u.1 ≠ t.w := fun u hu z => k4 u.1 (List.mem_map_of_mem hu) t.w List.mem_cons_self z
    have hB : ∀ u ∈ B, u.1 ≠ t.w := fun u hu z => k2 (by show t.w ∈ _; rw [← z]; exact List.mem_map_of_mem hu)
    refine ⟨A, x, B, rfl, ?_⟩
    unfold addRow
    rw [lookup_in hA, putM_in hA hB]
    rfl
  · right
    refine ⟨hin, ?_⟩
    have hA : ∀ u ∈ fs, u.1 ≠ t.w := fun u hu z => hin (z ▸ List.mem_map_of_mem hu)
    unfold addRow
    rw [lookup_out hA, putM_out hA]
    rfl
structure RInv (rs : List (Kd × Tie)) (fs : List (Int × Rec)) : Prop where
  nd : (fs.map Prod.fst).Nodup
  ks : ∀ w, w ∈ fs.map Prod.fst ↔ w ∈ rs.map fun r => r.2.w
  py : ∀ p ∈ fs, p.2.py = (rs.filter fun r => decide (r.1 = .op) && decide (r.2.w = p.1)).map Prod.snd
  hl : ∀ p ∈ fs, p.2.hg.length ≤ rs.length
  len : fs.length ≤ rs.length
  sum : ∀ (ev : Int) (F : Int → Option Int), (fs.map fun p => withDay p.2 ev (F p.1)).sum = (rs.map fun r => contr ev r (F r.2.w)).sum
theorem RInv.step {rs : List (Kd × Tie)} {fs : List (Int × Rec)} (I : RInv rs fs) (k : Kd) (t : Tie) : RInv (rs ++ [(k, t)]) (addRow fs k t) := by
  have hpy : ∀ (w : Int) (x : Rec), x.py = (rs.filter fun r => decide (r.1 = .op) && decide (r.2.w = w)).map Prod.snd → w = t.w → (putR k t x).py = ((rs ++ [(k, t)]).filter fun r => decide (r.1 = .op) && decide (r.2.w = w)).map Prod.snd := by
    intro w x h e
    subst e
    rw [List.filter_append, List.map_append, ← h]
    cases k <;> simp [putR]
  have hpn : ∀ (w : Int), w ≠ t.w → ((rs ++ [(k, t)]).filter fun r => decide (r.1 = .op) && decide (r.2.w = w)) = (rs.filter fun r => decide (r.1 = .op) && decide (r.2.w = w)) := by
    intro w h
    rw [List.filter_append]
    have : ¬ t.w = w := fun z => h z.symm
    simp [this]
  have hhg := fun x => putR_len (k := k) (t := t) (x := x)
  rcases addRow_cases I.nd k t with ⟨A, x, B, e, e'⟩ | ⟨hn, e'⟩
  · rw [e']
    have nd := I.nd
    have nd' := I.nd
    rw [e, List.map_append, List.map_cons, List.nodup_append, List.nodup_cons] at nd
    obtain ⟨k1, ⟨k2, k3⟩, k4⟩ := nd
    have hA : ∀ u ∈ A, u.1 ≠ t.w := fun u hu z => k4 u.1 (List.mem_map_of_mem hu) t.w List.mem_cons_self z
    have hB : ∀ u ∈ B, u.1 ≠ t.w := fun u hu z => k2 (by show t.w ∈ _; rw [← z]; exact List.mem_map_of_mem hu)
    refine ⟨by rw [e] at nd'; simpa using nd', fun w => ?_, fun p hp => ?_, fun p hp => ?_, ?_, fun ev F => ?_⟩
    · have := I.ks w
      have h2 := I.ks t.w
      rw [e] at this h2
      simp at this h2 ⊢
      constructor
      · intro h
        rcases h with h | h | h
        · exact .inl (this.mp (.inl h))
        · exact .inr h
        · exact .inl (this.mp (.inr (.inr h)))
      · intro h
        rcases h with h | h
        · exact this.mpr h
        · exact .inr (.inl h)
    · rcases List.mem_append.mp hp with hp | hp
      · rw [hpn _ (hA p hp)]; exact I.py p (by rw [e]; simp [hp])
      · rcases List.mem_cons.mp hp with rfl | hp
        · exact hpy _ _ (I.py (t.w, x) (by rw [e]; simp)) rfl
        · rw [hpn _ (hB p hp)]; exact I.py p (by rw [e]; simp [hp])
    · rw [List.length_append, List.length_singleton]
      rcases List.mem_append.mp hp with hp | hp
      · have := I.hl p (by rw [e]; simp [hp]); omega
      · rcases List.mem_cons.mp hp with rfl | hp
        · have h1 := I.hl (t.w, x) (by rw [e]; simp)
          have h2 := (hhg x).2
          simp only at h1 ⊢
          omega
        · have := I.hl p (by rw [e]; simp [hp]); omega
    · have := I.len
      rw [e] at this
      simp at this ⊢
      omega
    · have := I.sum ev F
      rw [e] at this
      rw [List.map_append (l₁ := rs), List.sum_append (l₁ := rs.map _), ← this]
      simp [withDay_put]
      omega
  · rw [e']
    refine ⟨?_, fun w => ?_, fun p hp => ?_, fun p hp => ?_, ?_, fun ev F => ?_⟩
    · rw [List.map_append, List.nodup_append]
      refine ⟨I.nd, by simp, fun a ha b hb e => ?_⟩
      simp at hb
      subst hb
      exact hn (e ▸ ha)
    · have := I.ks w
      rw [List.map_append, List.mem_append, List.map_append, List.mem_append, this]
      simp
    · rcases List.mem_append.mp hp with hp | hp
      · rw [hpn _ (fun z => hn (z ▸ List.mem_map_of_mem hp))]; exact I.py p hp
      · rw [List.mem_singleton.mp hp]
        refine hpy _ rec0 ?_ rfl
        have : (rs.filter fun r => decide (r.1 = .op) && decide (r.2.w = t.w)) = [] := by
          rw [List.filter_eq_nil_iff]
          intro r hr z
          simp at z
          exact hn ((I.ks t.w).mpr (List.mem_map.mpr ⟨r, hr, z.2⟩))
        rw [this]
        rfl
    · rw [List.length_append, List.length_singleton]
      rcases List.mem_append.mp hp with hp | hp
      · have := I.hl p hp; omega
      · rw [List.mem_singleton.mp hp]
        have := (hhg rec0).2
        simp [rec0] at this ⊢
        omega
    · have := I.len
      simp; omega
    · have := I.sum ev F
      rw [List.map_append, List.sum_append, List.map_append, List.sum_append, this]
      simp [withDay_put, withDay_0]
theorem reck_inv (rs : List (Kd × Tie)) : RInv rs (reck rs) := by
  have gen : ∀ (l done : List (Kd × Tie)) (fs : List (Int × Rec)), RInv done fs → RInv (done ++ l) (l.foldl (fun fs x => addRow fs x.1 x.2) fs) := by
    intro l
    induction l with
    | nil => intro done fs h; simpa using h
    | cons r l ih =>
      intro done fs h
      have := ih (done ++ [r]) _ (h.step r.1 r.2)
      simpa using this
  have := gen rs [] [] ⟨by simp, by simp, by simp, by simp, by simp, by simp⟩
  simpa [reck] using this
theorem RInv.pl {rs : List (Kd × Tie)} {fs : List (Int × Rec)} (I : RInv rs fs) : ∀ p ∈ fs, p.2.py.length ≤ rs.length := fun p hp => by
  rw [I.py p hp, List.length_map]
  exact List.length_filter_le _ _
end L35
end

section
set_option Elab.async false
set_option linter.all false
set_option maxRecDepth 100000
set_option autoImplicit false
namespace L35
open SB PySem PySem.Spec L2
def papB : WpS := (wSeq (wSet 3 (wCall φ_own_shares [] (wCons (wVar 0) (wCons (wVar 2) wNil))))
  (wSeq (wSet 4 (wDict0 true))
  (wSeq (wFor (wItems (wCall φ_reckoned [] (wCons (wVar 0) (wCons (wVar 2) wNil)))) (.tup (.cons (.nm 5) (.cons (.nm 6) .nil))) (wSeq (wAsg (.tup (.cons (.nm 7) (.cons (.nm 8) .nil))) (wMeth "worst" cs_worst (wVar 6) (wCons (wFld "span" (wVar 0)) wNil)))
  (wSeq (wSet 3 (wOp (fAdd false) (wVar 3) (wVar 7)))
  (wSetI (wVar 8) (wVar 4) (wVar 5)))))
  (wIf (wB (wOr (wOp (fIs false) (wVar 1) (wC .non)) (wOp (fCmp cmpLt) (wVar 3) (wOp fIx (wVar 1) (wC (.int 0)))))) (wSet 1 (wTup (wCons (wVar 3) (wCons (wVar 2) (wCons (wVar 4) wNil))))) wNx))))
def wrdB : WpS := (wSeq (wAsg (.tup (.cons (.nm 7) (.cons (.nm 8) .nil))) (wMeth "worst" cs_worst (wVar 6) (wCons (wFld "span" (wVar 0)) wNil)))
  (wSeq (wSet 3 (wOp (fAdd false) (wVar 3) (wVar 7)))
  (wSetI (wVar 8) (wVar 4) (wVar 5))))
def fatesW (ev : Int) (fs : List (Int × Rec)) : List (Int × Option Int) := fs.foldl (fun m p => putM p.1 (worst p.2 ev).2 m) []
def totW (P : Par) (ch : List Int) : Int := own P ch + ((reck (rowsOf P ch)).map fun p => (worst p.2 P.ev).1).sum
abbrev Tol := Int × List Int × List (Int × Option Int)
def tolOf (P : Par) (ch : List Int) : Tol := (totW P ch, ch, fatesW P.ev (reck (rowsOf P ch)))
def papS (P : Par) (b : Option Tol) (ch : List Int) : Option Tol := match b with
  | none => some (tolOf P ch)
  | some q => if totW P ch < q.1 then some (tolOf P ch) else some q
def papO (P : Par) : Option Tol := (choi P.ps).foldl (papS P) none
theorem papO_ok (P : Par) (ok : ParOk P) : ∃ ch ∈ choi P.ps, papO P = some (tolOf P ch) := by
  have gen : ∀ (l : List (List Int)) (b : Option Tol), (∀ c ∈ l, c ∈ choi P.ps) → (∀ q, b = some q → ∃ ch ∈ choi P.ps, q = tolOf P ch) → (b = none → l ≠ []) → ∃ ch ∈ choi P.ps, l.foldl (papS P) b = some (tolOf P ch) := by
    intro l
    induction l with
    | nil =>
      intro b _ h h2
      cases b with
      | none => exact absurd rfl (h2 rfl)
      | some q =>
        obtain ⟨ch, hc, rfl⟩ := h q rfl
        exact ⟨ch, hc, rfl⟩
    | cons c l ih =>
      intro b hl h _
      refine ih _ (fun d hd => hl d (List.mem_cons_of_mem _ hd)) (fun q hq => ?_) (fun z => ?_)
      · cases b with
        | none => exact ⟨c, hl c List.mem_cons_self, (Option.some.inj hq).symm⟩
        | some q' =>
          unfold papS at hq
          dsimp only at hq
          split at hq
          · exact ⟨c, hl c List.mem_cons_self, (Option.some.inj hq).symm⟩
          · exact h q hq
      · exfalso
        cases b with
        | none => cases z
        | some q' =>
          unfold papS at z
          dsimp only at z
          split at z <;> cases z
  exact gen _ none (fun _ h => h) (fun _ h => by cases h) (fun _ z => by
    have := (choi_le P.ps fun p hp => (ok.ok p hp).len).1
    rw [z] at this
    simp at this)
section
variable {S : Sto} {R : Pd} {RE : Px} {P : Par}
theorem items_dK {α : Type} {g : α → D} {l : List (Int × α)} : itemsD (dK g l) = l.map fun p => .tup [.int p.1, g p.2] := by
  simp [itemsD, dK, keyD]
theorem putM_len {α : Type} {w : Int} {x : α} {m : List (Int × α)} : (putM w x m).length ≤ m.length + 1 := by
  unfold putM
  split <;> simp
def bestD (b : Option Tol) (v : D) (S0 S : Sto) : Prop := match b with
  | none => v = .non
  | some q => ∃ d, v = .tup [.int q.1, chD q.2.1, .ref d] ∧ S d = some (.dct (dK oD q.2.2)) ∧ S0 d = none
theorem p_paper (ok : ParOk P) (h : ∀ q, papO P = some q → R (tolD q.1 q.2.1 q.2.2) S) : φ_paper [viewD P] S R RE := by
  refine ⟨rfl, ?_⟩
  simp [-Bool.exists_bool, -s_seq, s_seqL, w_paper, startE, N_paper]
  refine later_of ?_
  simp [-Bool.exists_bool, -s_seq, s_seqL]
  refine p_choices ok ?_
  refine ⟨_, _, rfl, ?_⟩
  refine for_inv (gd := none) (fun done ς' S' => Fm [] S S' ∧ ∃ v c2 c3 c4 c5 c6 c7 c8, bestD (done.foldl (papS P) none) v S S' ∧ ς' = [some (viewD P), some v, c2, c3, c4, c5, c6, c7, c8]) (fun _ _ _ _ => trivial) ?_ ⟨.refl, _, _, _, _, _, _, _, _, rfl, rfl⟩ ?_
  · rintro done ch rest ς' S' e ⟨fm, v, c2, c3, c4, c5, c6, c7, c8, bv, rfl⟩
    refine ⟨_, rfl, fun K hK => ?_⟩
    have hch : ch ∈ choi P.ps := by rw [e]; simp
    have hi : InR P ch := (choi_ok _ _ hch).2
    have I := reck_inv (rowsOf P ch)
    have hrl := rows_len ok hi
    refine (show papB _ _ _ _ from ?_)
    unfold papB
    simp only [s_seqL]
    simp [-Bool.exists_bool, -s_seq]
    refine p_own ok hi (later_of ?_)
    simp [-Bool.exists_bool, -s_seq, s_seqL]
    refine ⟨by decide, fun d hd => later_of ?_⟩
    have hd0 : S d = none := by
      by_cases c : S d = none
      · exact c
      · rw [fm d (by simp) c] at hd; exact absurd hd c
    simp only [s_seqL, s_for]
    refine ⟨_, rfl, _, rfl, ?_⟩
    refine p_reckoned ok hi ?_
    refine ⟨_, rfl, ?_⟩
    rw [items_dK]
    have hIl := I.len
    refine for_inv (gd := none) (fun dn ς' S1 => S1 d = some (.dct (dK oD (fatesW P.ev dn))) ∧ (fatesW P.ev dn).length ≤ dn.length ∧ Fm [d] S' S1 ∧ ∃ c5 c6 c7 c8, ς' = [some (viewD P), some v, some (chD ch), some (.int (own P ch + (dn.map fun p => (worst p.2 P.ev).1).sum)), some (.ref d), c5, c6, c7, c8]) (fun _ _ _ _ => trivial) ?_ ⟨by simp [fatesW, dK], by simp [fatesW], (Fm.new (A := []) hd).mono (by simp), _, _, _, _, by simp; exact ⟨rfl, rfl, rfl, rfl⟩⟩ ?_
    · rintro dn p rs ς1 S1 e1 ⟨ed, el, f1, c5, c6, c7, c8, rfl⟩
      refine ⟨_, rfl, fun K1 hK1 => ?_⟩
      have hp : p ∈ reck (rowsOf P ch) := by rw [e1]; simp
      have hpl := I.pl p hp
      have hdl : dn.length ≤ 12 := by
        rw [e1, List.length_append] at hIl
        omega
      refine (show wrdB _ _ _ _ from ?_)
      unfold wrdB
      simp only [s_seqL]
      simp [-Bool.exists_bool, -s_seq]
      refine m_rec (by decide) rfl ?_
      simp [-Bool.exists_bool, -s_seq]
      refine p_worst (by omega) ?_
      refine ⟨_, rfl, later_of ?_⟩
      simp [-Bool.exists_bool, -s_seq, s_seqL]
      refine later_of ?_
      simp [-Bool.exists_bool, -s_seq]
      refine ⟨d, rfl, ?_⟩
      rw [ed]
      refine ⟨_, rfl, sz1001 (by rw [len_dK]; omega), ?_⟩
      rw [put_dK]
      have e2 : fatesW P.ev (dn ++ [p]) = putM p.1 (worst p.2 P.ev).2 (fatesW P.ev dn) := by
        unfold fatesW
        rw [List.foldl_append]
        rfl
      have e3 : own P ch + ((dn ++ [p]).map fun p => (worst p.2 P.ev).1).sum = own P ch + (dn.map fun p => (worst p.2 P.ev).1).sum + (worst p.2 P.ev).1 := by simp [Int.add_assoc]
      refine hK1 _ _ ⟨?_, ?_, f1.trans (.set (by simp)), some (.int p.1), some (recD p.2), some (.int (worst p.2 P.ev).1), some (oD (worst p.2 P.ev).2), ?_⟩
      · rw [Sto.set_same, e2]
      · rw [e2, List.length_append]
        have := putM_len (w := p.1) (x := (worst p.2 P.ev).2) (m := fatesW P.ev dn)
        simp only [List.length_singleton]
        omega
      · rw [e3]
    · rintro ς1 S1 ⟨ed, el, f1, c5, c6, c7, c8, rfl⟩
      dsimp only
      refine later_of ?_
      have fm1 : Fm [] S S1 := fun b hb hz => by
        have hbd : b ≠ d := fun z => hz (by rw [z]; exact hd0)
        rw [f1 b (by simpa using hbd) (by rw [fm b hb hz]; exact hz), fm b hb hz]
      have fin : papS P (done.foldl (papS P) none) ch = some (tolOf P ch) → K [some (viewD P), some (.tup [.int (totW P ch), chD ch, .ref d]), some (chD ch), some (.int (totW P ch)), some (.ref d), c5, c6, c7, c8] S1 := fun ee =>
        hK _ _ ⟨fm1, _, _, _, _, _, _, _, _, by rw [List.foldl_append, List.foldl_cons, List.foldl_nil, ee]; exact ⟨d, rfl, ed, hd0⟩, rfl⟩
      have et : own P ch + ((reck (rowsOf P ch)).map fun p => (worst p.2 P.ev).1).sum = totW P ch := rfl
      rw [et]
      generalize hb : done.foldl (papS P) none = b at bv fin
      cases b with
      | none =>
        cases bv
        simp [-Bool.exists_bool]
        exact fin rfl
      | some q =>
        obtain ⟨d2, rfl, e2, n2⟩ := bv
        have hd2 : d2 ≠ d := fun z => by rw [z, hd] at e2; cases e2
        simp [-Bool.exists_bool, L2.atI, L2.ixN, cmpLt]
        by_cases c : totW P ch < q.1
        · rw [if_pos c]
          refine fin ?_
          unfold papS
          dsimp only
          rw [if_pos c]
        · rw [if_neg c]
          refine hK _ _ ⟨fm1, _, _, _, _, _, _, _, _, ?_, rfl⟩
          rw [List.foldl_append, List.foldl_cons, List.foldl_nil, hb]
          unfold papS
          dsimp only
          rw [if_neg c]
          exact ⟨d2, rfl, f1.at e2 (by simpa using hd2), n2⟩
  · rintro ς' S' ⟨fm, v, c2, c3, c4, c5, c6, c7, c8, bv, rfl⟩
    dsimp only
    refine later_of ?_
    obtain ⟨ch, hc, ee⟩ := papO_ok P ok
    have e2 : (choi P.ps).foldl (papS P) none = some (tolOf P ch) := ee
    rw [e2] at bv
    obtain ⟨d, rfl, ed, nd⟩ := bv
    simp
    exact ret_tol fm ed nd (h _ ee)
theorem p_worth (ok : ParOk P) (h : ∀ q, papO P = some q → R (.int q.1) S) : φ_worth [viewD P] S R RE := by
  refine ⟨rfl, ?_⟩
  simp [-Bool.exists_bool, w_worth, startE, N_worth]
  refine p_paper ok fun q e => ?_
  simp [tolD, L2.atI, L2.ixN]
  exact .now (h q e)
end
end L35
end

section
set_option Elab.async false
set_option linter.all false
set_option maxRecDepth 100000
set_option autoImplicit false
namespace L35
open SB PySem PySem.Spec L2
def RightD (fs : List (Int × Rec)) (m : List (Int × Option Int)) : Prop := m.length = fs.length ∧ ∀ p ∈ fs, ∃ o, m.lookup p.1 = some o ∧ o ∈ daysO p.2
def StandUp (P : Par) (n : Int) (ch : List Int) (m : List (Int × Option Int)) : Prop :=
  ch.length = P.ps.length ∧ InR P ch ∧ RightD (reck (rowsOf P ch)) m ∧ n - ((reck (rowsOf P ch)).map fun p => withDay p.2 P.ev ((m.lookup p.1).getD none)).sum = own P ch
theorem oD_inj {a b : Option Int} (h : oD a = oD b) : a = b := by
  cases a <;> cases b <;> simp [oD] at h ⊢ <;> exact h
theorem pl_oD (o : Option Int) : pl (oD o) = true := by cases o <;> rfl
theorem dp_oD (o : Option Int) : dp (oD o) ≤ 0 := by cases o <;> exact Nat.le_refl _
section
variable {S : Sto} {R : Pd} {RE : Px} {P : Par}
@[simp] theorem f_lenD {l : List (Key × D)} : fLen [.dct l] S R = R (.int l.length) S := rfl
theorem f_inO {neg : Bool} {o : Option Int} {l : List (Option Int)} (k : R (.bl (neg ^^ decide (o ∈ l))) S) : fIn neg (oD o) (.lst (l.map oD)) S R := by
  unfold fIn
  have hp : plL (l.map oD) = true := plL_map fun _ _ => pl_oD _
  refine ⟨ok_pl hp ?_, ok_pl (pl_oD o) (by have := dp_oD o; omega), ?_⟩
  · have := dpL_map (f := oD) (k := 0) (m := l) fun _ _ => dp_oD _
    simp only [dp_lst]; omega
  · have e : ((l.map oD).any fun z => dEq z (oD o)) = decide (o ∈ l) := by
      rw [Bool.eq_iff_iff]
      simp only [List.any_map, List.any_eq_true, Function.comp, decide_eq_true_eq]
      constructor
      · rintro ⟨x, hx, e⟩
        rw [← oD_inj ((dEq_pl (pl_oD x) (pl_oD o)).mp e)]
        exact hx
      · intro hx
        exact ⟨o, hx, dEq_self (pl_oD o)⟩
    rw [e]
    exact k
theorem look_nd {α : Type} {fs : List (Int × α)} (nd : (fs.map Prod.fst).Nodup) {p : Int × α} (hp : p ∈ fs) : fs.lookup p.1 = some p.2 := by
  obtain ⟨A, B, rfl⟩ := List.append_of_mem hp
  rw [List.map_append, List.map_cons, List.nodup_append] at nd
  exact lookup_in fun u hu z => nd.2.2 u.1 (List.mem_map_of_mem hu) p.1 List.mem_cons_self z
theorem p_right {v : D} {fs : List (Int × Rec)} {m : List (Int × Option Int)} (nd : (fs.map Prod.fst).Nodup) (hl : ∀ p ∈ fs, p.2.py.length ≤ 500) (h : ∀ b : Bool, (b = true ↔ RightD fs m) → R (.bl b) S) : φ_right_days [v, .dct (dK recD fs), faD m] S R RE := by
  refine ⟨rfl, ?_⟩
  simp [-Bool.exists_bool, -s_seq, s_seqL, w_right_days, startE, N_right_days, faD, len_dK]
  refine ⟨!decide ((m.length : Int) = fs.length), by simp, ?_⟩
  by_cases c : m.length ≠ fs.length
  · rw [if_pos (by simp; omega)]
    refine .now (h false ?_)
    constructor
    · intro z; cases z
    · rintro ⟨z, _⟩; exact absurd z c
  · rw [if_neg (by simp; omega)]
    refine later_of ?_
    simp only [s_seqL, s_for, s_src, s_var]
    refine ⟨_, rfl, keysD (dK recD fs), none, rfl, ?_⟩
    have ek : keysD (dK recD fs) = fs.map fun p => .int p.1 := by simp [keysD, dK, keyD]
    rw [ek]
    refine for_inv (gd := none) (fun done ς' S' => S' = S ∧ (∀ p ∈ done, ∃ o, m.lookup p.1 = some o ∧ o ∈ daysO p.2) ∧ ∃ c, ς' = [some v, some (.dct (dK recD fs)), some (.dct (dK oD m)), c]) (fun _ _ _ _ => trivial) ?_ ⟨rfl, by simp, _, rfl⟩ ?_
    · rintro done p rest ς' S' e ⟨rfl, hd, c, rfl⟩
      refine ⟨_, rfl, fun K hK => ?_⟩
      have hp : p ∈ fs := by rw [e]; simp
      have bad : (∀ o, m.lookup p.1 = some o → o ∉ daysO p.2) → Rz R (.bl false) S' := fun hb => .now (h false ⟨fun z => (by cases z), fun ⟨_, z⟩ => by
        obtain ⟨o, h1, h2⟩ := z p hp
        exact absurd h2 (hb o h1)⟩)
      have good : ∀ o, m.lookup p.1 = some o → o ∈ daysO p.2 → K [some v, some (.dct (dK recD fs)), some (.dct (dK oD m)), some (.int p.1)] S' := fun o h1 h2 => hK _ _ ⟨rfl, fun q hq => by
        rcases List.mem_append.mp hq with hq | hq
        · exact hd q hq
        · rw [List.mem_singleton.mp hq]; exact ⟨o, h1, h2⟩, _, rfl⟩
      have e1 : ∀ R : Pd, fIn true (.int p.1) (.dct (dK oD m)) S' R = R (.bl (!(m.lookup p.1).isSome)) S' := fun R => by
        unfold fIn
        simp [SB.keyOf, look_dK]
      have e2 : ∀ R : Pd, fIx (.dct (dK oD m)) (.int p.1) S' R = ∃ o, m.lookup p.1 = some o ∧ R (oD o) S' := fun R => by
        simp [fIx, SB.keyOf, look_dK]
        cases m.lookup p.1 <;> simp
      have e3 : ∀ R : Pd, fIx (.dct (dK recD fs)) (.int p.1) S' R = R (recD p.2) S' := fun R => by
        simp [fIx, SB.keyOf, look_dK, look_nd nd hp]
      simp [-Bool.exists_bool, e1, e2, e3]
      cases hm : m.lookup p.1 with
      | none =>
        simp
        exact bad fun o z => by rw [hm] at z; cases z
      | some o =>
        simp [-Bool.exists_bool]
        refine m_rec (by decide) rfl ?_
        simp [-Bool.exists_bool]
        refine p_days (hl p hp) ?_
        refine f_inO ?_
        by_cases c : o ∈ daysO p.2
        · simp [c]
          exact good o hm c
        · simp [c]
          exact bad fun o' z => by rw [hm] at z; cases z; exact c
    · rintro ς' S' ⟨rfl, hd, c', rfl⟩
      dsimp only
      refine later_of ?_
      simp
      exact .now (h true ⟨fun _ => ⟨by omega, hd⟩, fun _ => rfl⟩)
theorem p_stands {n : Int} {ch : List Int} {m : List (Int × Option Int)} (ok : ParOk P) (h : ∀ b : Bool, (b = true ↔ StandUp P n ch m) → R (.bl b) S) : φ_stands_up [viewD P, tolD n ch m] S R RE := by
  have no : ¬ StandUp P n ch m → Rz R (.bl false) S := fun hn => .now (h false ⟨fun z => (by cases z), fun z => absurd z hn⟩)
  refine ⟨rfl, ?_⟩
  simp [-Bool.exists_bool, -s_seq, s_seqL, w_stands_up, startE, N_stands_up, tolD]
  refine later_of ?_
  simp [-Bool.exists_bool, -s_seq, s_seqL, chD]
  refine ⟨!decide ((ch.length : Int) = P.ps.length), by simp, ?_⟩
  by_cases c : ch.length ≠ P.ps.length
  · rw [if_pos (by simp; omega)]
    exact no fun z => c z.1
  · rw [if_neg (by simp; omega)]
    refine later_of ?_
    simp only [s_seqL, s_for]
    refine zip_of (held_of rfl) (var_of rfl) ?_
    refine for_inv (gd := none) (fun done ς' S' => S' = S ∧ (∀ x ∈ done, 0 ≤ x.2 ∧ x.2 < x.1.sts.length) ∧ ∃ c5 c6 c7 c8, ς' = [some (viewD P), some (.tup [.int n, .lst (ch.map .int), faD m]), some (.int n), some (.lst (ch.map .int)), some (faD m), c5, c6, c7, c8, none, none, none]) (fun _ _ _ _ => trivial) ?_ ⟨rfl, by simp, _, _, _, _, rfl⟩ ?_
    · rintro done x rest ς' S' e ⟨rfl, hd, c5, c6, c7, c8, rfl⟩
      refine ⟨_, rfl, fun K hK => ?_⟩
      have hx : x ∈ P.ps.zip ch := by rw [e]; simp
      simp [-Bool.exists_bool, cmpLt, cmpGe]
      by_cases c1 : x.2 < 0
      · simp [c1]
        exact no fun z => by have := z.2.1 x hx; omega
      · by_cases c2 : (x.1.sts.length : Int) ≤ x.2
        · simp [c1, c2]
          exact no fun z => by have := z.2.1 x hx; omega
        · simp [c1, c2]
          refine hK _ _ ⟨rfl, fun q hq => ?_, _, _, _, _, rfl⟩
          rcases List.mem_append.mp hq with hq | hq
          · exact hd q hq
          · rw [List.mem_singleton.mp hq]; omega
    · rintro ς' S' ⟨rfl, hd, c5, c6, c7, c8, rfl⟩
      dsimp only
      have hi : InR P ch := hd
      have I := reck_inv (rowsOf P ch)
      have hrl := rows_len ok hi
      refine later_of ?_
      simp [-Bool.exists_bool, -s_seq, s_seqL]
      refine p_reckoned ok hi (later_of ?_)
      simp [-Bool.exists_bool, -s_seq, s_seqL]
      refine p_right I.nd (fun p hp => by have := I.pl p hp; omega) fun b hb => ?_
      refine ⟨b, rfl, ?_⟩
      cases b with
      | false =>
        simp
        exact no fun z => by have := hb.mpr z.2.2.1; cases this
      | true =>
        have hr := hb.mp rfl
        simp
        refine later_of ?_
        simp only [s_seqL, s_for]
        refine ⟨_, rfl, _, rfl, ?_⟩
        rw [items_dK]
        refine for_inv (gd := none) (fun done ς' S1 => S1 = S' ∧ ∃ c10 c11, ς' = [some (viewD P), some (.tup [.int n, .lst (ch.map .int), faD m]), some (.int (n - (done.map fun p => withDay p.2 P.ev ((m.lookup p.1).getD none)).sum)), some (.lst (ch.map .int)), some (faD m), c5, c6, c7, c8, some (.dct (dK recD (reck (rowsOf P ch)))), c10, c11]) (fun _ _ _ _ => trivial) ?_ ⟨rfl, _, _, by simp; exact ⟨rfl, rfl⟩⟩ ?_
        · rintro done p rest ς' S1 e ⟨rfl, c10, c11, rfl⟩
          refine ⟨_, rfl, fun K hK => ?_⟩
          have hp : p ∈ reck (rowsOf P ch) := by rw [e]; simp
          obtain ⟨o, h1, h2⟩ := hr.2 p hp
          have e2 : ∀ R : Pd, fIx (faD m) (.int p.1) S1 R = R (oD o) S1 := fun R => by
            unfold faD
            simp [fIx, SB.keyOf, look_dK, h1]
          simp [-Bool.exists_bool]
          refine m_rec (by decide) rfl ?_
          simp [-Bool.exists_bool, e2]
          refine p_with_day ?_
          simp only [f_sub]
          have e3 : n - ((done ++ [p]).map fun p => withDay p.2 P.ev ((m.lookup p.1).getD none)).sum = n - (done.map fun p => withDay p.2 P.ev ((m.lookup p.1).getD none)).sum - withDay p.2 P.ev o := by
            simp [h1]
            omega
          refine hK _ _ ⟨rfl, some (.int p.1), some (recD p.2), ?_⟩
          rw [e3]
        · rintro ς' S1 ⟨rfl, c10, c11, rfl⟩
          dsimp only
          refine later_of ?_
          simp [-Bool.exists_bool]
          refine p_own ok hi ?_
          rw [f_eqI]
          refine .now (h _ ?_)
          rw [Bool.false_xor, decide_eq_true_iff]
          constructor
          · intro z; exact ⟨by omega, hi, hr, z⟩
          · intro z; exact z.2.2.2
end
end L35
end

section
set_option Elab.async false
set_option linter.all false
set_option maxRecDepth 100000
set_option autoImplicit false
namespace L35
open SB PySem PySem.Spec L2
def kdS : Kd → String
  | .no => "nothing"
  | .op => "open"
  | .co => "comes"
  | .ha => "hangs"
def rowD (r : Kd × Tie) : D := .tup [.str (Str.ofString (kdS r.1)), .int r.2.a, .int r.2.w, .int r.2.d]
def rowsD (rs : List (Kd × Tie)) : D := .lst (rs.map rowD)
def fatesO (rs : List (Kd × Tie)) (w : Int) : List (Option Int) := none :: (rs.filter fun r => decide (r.1 = .op) && decide (r.2.w = w)).map fun r => some r.2.d
theorem kdS_eq {k j : Kd} : kdS k = kdS j ↔ k = j := by cases k <;> cases j <;> simp [kdS]
section
variable {S S0 : Sto} {R : Pd} {RE : Px} {P : Par} {ch : List Int}
theorem pl_row (r : Kd × Tie) : pl (rowD r) = true := by simp [rowD]
theorem f_intB' {b : Bool} : fInt [.bl b] S R = R (.int (b2iD b)) S := rfl
theorem sh_of {ς : En} {sn : List (Int × Int)} {t : Tie} (h1 : ς[10]? = some (some (.int t.w))) (h2 : ς[2]? = some (some (seenD sn))) (h3 : ς[11]? = some (some (.int t.d))) (h : R (.bl (shownB sn t)) S) : wAnd (wOp (fIn false) (wVar 10) (wVar 2)) (wOp (fCmp cmpLt) (wOp fIx (wVar 2) (wVar 10)) (wVar 11)) ς S R RE := by
  simp only [s_and, s_op, s_var]
  refine ⟨_, h1, _, h2, ?_⟩
  rw [f_inS]
  refine ⟨_, rfl, ?_⟩
  unfold shownB at h
  cases e : sn.lookup t.w with
  | none => rw [e] at h; exact h
  | some v =>
    rw [e] at h
    simp only [Option.isSome_some, if_true]
    refine ⟨_, h2, _, h1, ?_⟩
    rw [f_ixS]
    exact ⟨v, e, _, h3, h⟩
theorem p_kind {s : Int} {sn : List (Int × Int)} {t : Tie} (hl : P.ws.length ≤ 1000) (h : R (.str (Str.ofString (kdS (kd P s sn t)))) S) : φ__law_kind [parD P, .int s, seenD sn, tieD t] S R RE := by
  refine ⟨rfl, ?_⟩
  simp [-Bool.exists_bool, -s_seq, s_seqL, w__law_kind, startE, N__law_kind, parD]
  refine later_of ?_
  simp [-Bool.exists_bool, -s_seq, s_seqL, tieD]
  refine later_of ?_
  simp only [s_seqL, s_set]
  refine sh_of (sn := sn) (t := t) rfl rfl rfl ?_
  refine later_of ?_
  simp [-Bool.exists_bool, -s_seq, s_seqL, cmpGe, f_intB']
  unfold kd at h
  by_cases c1 : t.p = s
  · rw [if_pos c1] at h
    simp [-Bool.exists_bool, c1]
    by_cases c2 : shownB sn t = true
    · rw [if_pos c2] at h
      simp [c2]
      exact .now h
    · rw [if_neg c2] at h
      simp [-Bool.exists_bool, c2]
      refine later_of ?_
      simp [-Bool.exists_bool, f_intB']
      by_cases c3 : t.d ≤ P.lk
      · rw [if_pos c3] at h
        simp [c3, b2iD, L2.atI, L2.ixN]
        exact .now h
      · rw [if_neg c3] at h
        simp [c3, b2iD, L2.atI, L2.ixN]
        exact .now h
  · rw [if_neg c1] at h
    simp [-Bool.exists_bool, c1]
    refine later_of ?_
    simp [-Bool.exists_bool, -s_seq, s_seqL, cmpGe, f_intB']
    by_cases c2 : shownB sn t = true
    · rw [if_pos c2] at h
      simp [c2]
      exact .now h
    · rw [if_neg c2] at h
      simp [-Bool.exists_bool, c2]
      refine later_of ?_
      simp [-Bool.exists_bool, -s_seq, s_seqL, cmpGe, f_intB']
      by_cases c3 : t.d ≤ P.lk
      · rw [if_pos c3] at h
        simp [c3]
        exact .now h
      · rw [if_neg c3] at h
        simp [-Bool.exists_bool, c3]
        refine later_of ?_
        simp [-Bool.exists_bool, f_intB', cmpLt]
        refine f_inI hl ?_
        unfold sureB at h
        by_cases c4 : t.w ∈ P.ws
        · by_cases c5 : P.lk + P.ev < t.d
          · simp [c4, c5] at h
            simp [c4, c5, f_intB', b2iD, L2.atI, L2.ixN]
            exact .now h
          · simp [c4, c5] at h
            simp [c4, c5, f_intB', b2iD, L2.atI, L2.ixN]
            exact .now h
        · simp [c4] at h
          simp [c4, f_intB', b2iD, L2.atI, L2.ixN]
          exact .now h
theorem ret_pairL {p : Addr} {n : Int} {l : List D} (f : Fm [] S0 S) (e : S p = some (.lst l)) (k : S0 p = none) (h : R (.tup [.int n, .lst l]) S0) : Rz R (.tup [.int n, .ref p]) S := by
  have f1 := Frz.sub (x := .tup [.int n, .ref p]) e rfl
  rw [sb, subL, subL, subL, sb, sb, if_pos rfl] at f1
  exact ⟨_, S0, f1.trans (drop_back f k), h⟩
theorem cut_tie {t : Tie} : fSl false (tieD t) (some 1) none S R = R (.tup [.int t.a, .int t.w, .int t.d]) S := by
  simp [tieD, cutD, HT.sIx]
theorem i_p3 : fIx (parD P) (.int 3) S R = R (.lst (P.ps.map potD)) S := by simp [parD, L2.atI, L2.ixN]
theorem i_p0 : fIx (parD P) (.int 0) S R = R (.int P.ev) S := by simp [parD, L2.atI, L2.ixN]
theorem pots_of {ς : En} {i : Nat} (h : ς[i]? = some (some (parD P))) : ∀ K : Pd, K (.lst (P.ps.map potD)) S → wOp fIx (wVar i) (wC (.int 3)) ς S K RE := fun K k => by
  rw [s_op]
  refine ⟨_, h, ?_⟩
  show fIx (parD P) (.int 3) S K
  rw [i_p3]; exact k
theorem p_rows (ok : ParOk P) (hi : InR P ch) (h : R (.tup [.int (own P ch), rowsD (rowsOf P ch)]) S) : φ__law_rows [parD P, chD ch] S R RE := by
  have hl := rows_len ok hi
  have hw : P.ws.length ≤ 1000 := by have := ok.wl; omega
  refine ⟨rfl, ?_⟩
  simp [-Bool.exists_bool, -s_seq, s_seqL, w__law_rows, startE, N__law_rows]
  refine later_of ?_
  simp [-Bool.exists_bool, -s_seq, s_seqL]
  refine fun a ha => later_of ?_
  simp only [s_seqL, s_for]
  refine zip_of (pots_of rfl) (var_of rfl) ?_
  refine for_inv (gd := none) (fun done ς' S' => Fm [] S S' ∧ S' a = some (.lst ((rowsZ P done).map rowD)) ∧ ∃ c4 c5 c6 c7 c8, ς' = [some (parD P), some (chD ch), some (.int (ownZ done)), some (.ref a), c4, c5, c6, c7, c8]) (fun _ _ _ _ => trivial) ?_ ⟨.new ha, by simp [rowsZ], _, _, _, _, _, rfl⟩ ?_
  · rintro done x rest ς' S' e ⟨fm, ea, c4, c5, c6, c7, c8, rfl⟩
    have hx : x ∈ P.ps.zip ch := by rw [e]; simp
    obtain ⟨op, os⟩ := stAt_ok ok hi hx
    obtain ⟨h0, h1⟩ := hi x hx
    have hdone : (rowsZ P done).length + (rows1 P x).length ≤ 12 := by
      have e1 : rowsOf P ch = rowsZ P done ++ (rows1 P x ++ rowsZ P rest) := by
        unfold rowsOf rowsZ
        rw [e]
        simp
      rw [e1, List.length_append, List.length_append] at hl
      omega
    refine ⟨[some (parD P), some (chD ch), some (.int (ownZ done)), some (.ref a), some (.int x.1.s), some (.lst (x.1.sts.map stnD)), some (seenD x.1.sn), some (.int x.2), c8], rfl, fun K hK => ?_⟩
    simp only [s_seqL]
    simp [-Bool.exists_bool, -s_seq, -f_ixL, -f_ixT]
    rw [i_at h0 h1, i_s1, i_sh op.s0]
    simp only [f_addI]
    have eo : ownZ done + share (stAt x.1 x.2) x.1.s = ownZ (done ++ [x]) := by simp [ownZ]
    rw [eo]
    refine later_of ?_
    simp only [s_for, s_src, s_op, s_var, s_c]
    refine ⟨_, rfl, _, rfl, ?_⟩
    rw [i_at h0 h1, i_s2]
    refine ⟨_, _, src_ts, ?_⟩
    refine for_inv (gd := none) (fun dn ς' S1 => Fm [] S S1 ∧ S1 a = some (.lst ((rowsZ P done ++ dn.map fun t => (kd P x.1.s x.1.sn t, t)).map rowD)) ∧ ∃ c8, ς' = [some (parD P), some (chD ch), some (.int (ownZ (done ++ [x]))), some (.ref a), some (.int x.1.s), some (.lst (x.1.sts.map stnD)), some (seenD x.1.sn), some (.int x.2), c8]) (fun _ _ _ _ => trivial) ?_ ⟨fm, by simpa using ea, _, rfl⟩ ?_
    · rintro dn t rs ς' S1 e1 ⟨fm1, ea1, c8, rfl⟩
      refine ⟨_, rfl, fun K1 hK1 => ?_⟩
      have hdn : dn.length < (rows1 P x).length := by
        unfold rows1
        rw [List.length_map, e1, List.length_append, List.length_cons]
        omega
      simp only [s_expr, s_mt, s_var, s_cons, s_nil, s_op, s_tup, s_call, s_sl, s_partS, s_partN, s_c, List.append_nil]
      refine ⟨_, rfl, tyM_refL ea1, _, rfl, _, rfl, _, rfl, _, rfl, ?_⟩
      refine p_kind hw ⟨sz_1, _, rfl, 1, rfl, ?_⟩
      rw [cut_tie, f_addT]
      refine ⟨sz_4, a, _, _, rfl, rfl, ea1, sz1001 (by simp; omega), hK1 _ _ ⟨?_, ?_, _, rfl⟩⟩
      · intro b hb hz
        have hba : b ≠ a := fun z => hz (by rw [z]; exact ha)
        rw [Sto.set_ne hba, fm1 b hb hz]
      · rw [Sto.set_same]
        simp [rowD]
    · rintro ς' S1 ⟨fm1, ea1, c8, rfl⟩
      refine hK _ _ ⟨fm1, ?_, _, _, _, _, _, rfl⟩
      have e3 : rowsZ P (done ++ [x]) = rowsZ P done ++ (stAt x.1 x.2).ts.map fun t => (kd P x.1.s x.1.sn t, t) := by
        unfold rowsZ
        rw [List.flatMap_append]
        simp [rows1]
      rw [e3]
      exact ea1
  · rintro ς' S' ⟨fm, ea, c4, c5, c6, c7, c8, rfl⟩
    dsimp only
    refine later_of ?_
    simp
    exact ret_pairL fm ea ha h
theorem p_fates {rs : List (Kd × Tie)} {w : Int} (hl : rs.length ≤ 500) (h : R (.lst ((fatesO rs w).map oD)) S) : φ__law_fates [rowsD rs, .int w] S R RE := by
  refine ⟨rfl, ?_⟩
  simp [-Bool.exists_bool, w__law_fates, startE, N__law_fates, rowsD]
  intro p hp
  refine lc_filterS (fun r => decide (r.1 = .op) && decide (r.2.w = w)) (fun r => .int r.2.d) (fun _ => trivial) (by omega) (fun r hr => ⟨_, rfl, fun o Rb k => ?_, fun o R k => ?_⟩) ?_
  · have e1 : ∀ R : Pd, fEq false (.str (Str.ofString (kdS r.1))) (.str (Str.ofString "open")) (S.set p o) R = R (.bl (decide (r.1 = .op))) (S.set p o) := fun R => by
      rw [f_eqSS, Bool.false_xor]
      congr 2
      exact decide_eq_decide.mpr (kdS_eq (j := .op))
    simp [-Bool.exists_bool, -f_eqSS, wipeE, e1]
    by_cases c : r.1 = .op
    · simp [c] at k ⊢; exact k
    · simp [c] at k ⊢; exact k
  · simp [wipeE]; exact k
  · simp only [lcEnd, Sto.del_set, Sto.del_none hp]
    simp
    refine ⟨sz1001 ?_, .now ?_⟩
    · have := List.length_filter_le (fun r : Kd × Tie => decide (r.1 = .op) && decide (r.2.w = w)) rs
      omega
    · simpa [fatesO, oD, Function.comp_def] using h
end
end L35
end

section
set_option Elab.async false
set_option linter.all false
set_option maxRecDepth 100000
set_option autoImplicit false
namespace L35
open SB PySem PySem.Spec L2
def sumB : WpS := (wSeq (wSet 9 (wOp fIx (wVar 2) (wVar 7)))
  (wIf (wB (wOr (wOp (fEq false) (wVar 5) (wC (.str ("comes" : Str)))) (wAnd (wOp (fEq false) (wVar 5) (wC (.str ("open" : Str)))) (wOr (wOp (fIs false) (wVar 9) (wC .non)) (wOp (fCmp cmpGt) (wVar 9) (wVar 8)))))) (wSet 3 (wOp (fAdd false) (wVar 3) (wVar 6))) (wIf (wB (wAnd (wOp (fEq false) (wVar 5) (wC (.str ("hangs" : Str)))) (wAnd (wOp (fIs true) (wVar 9) (wC .non)) (wOp (fCmp cmpLt) (wOp (fAdd false) (wOp fSub (wVar 9) (wC (.int 1))) (wOp fIx (wVar 0) (wC (.int 0)))) (wVar 8))))) (wSet 3 (wOp (fAdd false) (wVar 3) (wVar 6))) wNx)))
def sumR (ev : Int) (rs : List (Kd × Tie)) (m : List (Int × Option Int)) : Int := (rs.map fun r => contr ev r ((m.lookup r.2.w).getD none)).sum
def Due (P : Par) (n : Int) (ch : List Int) (m : List (Int × Option Int)) : Prop :=
  ch.length = P.ps.length ∧ InR P ch ∧ (∀ w, w ∈ m.map Prod.fst ↔ w ∈ (rowsOf P ch).map fun r => r.2.w) ∧ (∀ r ∈ rowsOf P ch, ∃ o, m.lookup r.2.w = some o ∧ o ∈ fatesO (rowsOf P ch) r.2.w) ∧ own P ch + sumR P.ev (rowsOf P ch) m = n
theorem lookup_some {α : Type} {w : Int} : ∀ {m : List (Int × α)}, w ∈ m.map Prod.fst → ∃ o, m.lookup w = some o
  | (v, x) :: m, h => by
    rw [List.lookup_cons]
    by_cases e : w = v
    · subst e; simp
    · rw [show (w == v) = false from by simpa using e]
      refine lookup_some ?_
      simp [e] at h ⊢
      exact h
theorem lookup_key {α : Type} {w : Int} {o : α} : ∀ {m : List (Int × α)}, m.lookup w = some o → w ∈ m.map Prod.fst
  | (v, x) :: m, h => by
    rw [List.lookup_cons] at h
    by_cases e : w = v
    · subst e; simp
    · rw [show (w == v) = false from by simpa using e] at h
      simp [e]
      simpa using lookup_key h
theorem sorted_ext : ∀ {l m : List Int}, l.Pairwise (· < ·) → m.Pairwise (· < ·) → (∀ k, k ∈ l ↔ k ∈ m) → l = m
  | [], [], _, _, _ => rfl
  | [], y :: m, _, _, h => by have := (h y).mpr List.mem_cons_self; cases this
  | x :: l, [], _, _, h => by have := (h x).mp List.mem_cons_self; cases this
  | x :: l, y :: m, h1, h2, h => by
    rw [List.pairwise_cons] at h1 h2
    have hx := (h x).mp List.mem_cons_self
    have hy := (h y).mpr List.mem_cons_self
    have e : x = y := by
      rcases List.mem_cons.mp hx with e | hx
      · exact e
      · rcases List.mem_cons.mp hy with e | hy
        · exact e.symm
        · have := h1.1 _ hy; have := h2.1 _ hx; omega
    subst e
    rw [sorted_ext h1.2 h2.2 fun k => ?_]
    constructor
    · intro hk
      have := h1.1 _ hk
      rcases List.mem_cons.mp ((h k).mp (List.mem_cons_of_mem _ hk)) with e | e
      · omega
      · exact e
    · intro hk
      have := h2.1 _ hk
      rcases List.mem_cons.mp ((h k).mpr (List.mem_cons_of_mem _ hk)) with e | e
      · omega
      · exact e
theorem lt_of_le : ∀ {l : List Int}, l.Pairwise (· ≤ ·) → l.Nodup → l.Pairwise (· < ·)
  | [], _, _ => List.Pairwise.nil
  | x :: l, h, n => by
    rw [List.pairwise_cons] at h ⊢
    rw [List.nodup_cons] at n
    refine ⟨fun y hy => ?_, lt_of_le h.2 n.2⟩
    have h1 := h.1 y hy
    have h2 : x ≠ y := fun z => n.1 (z ▸ hy)
    omega
/-- one is in the other, and no longer: they have the same -/
theorem sub_eq : ∀ {l m : List Int}, l.Nodup → m.Nodup → (∀ k ∈ l, k ∈ m) → m.length ≤ l.length → ∀ k ∈ m, k ∈ l
  | [], m, _, _, _, hl, k, hk => by
    cases m with
    | nil => cases hk
    | cons y m => simp at hl
  | x :: l, m, nl, nm, h, hl, k, hk => by
    rw [List.nodup_cons] at nl
    have hx : x ∈ m := h x List.mem_cons_self
    obtain ⟨A, B, rfl⟩ := List.append_of_mem hx
    have nm' := nm
    rw [List.nodup_append, List.nodup_cons] at nm'
    obtain ⟨n1, ⟨n2, n3⟩, n4⟩ := nm'
    have nAB : (A ++ B).Nodup := by
      rw [List.nodup_append]
      exact ⟨n1, n3, fun a ha b hb => n4 a ha b (List.mem_cons_of_mem _ hb)⟩
    have hsub : ∀ k ∈ l, k ∈ A ++ B := fun k hk => by
      have h1 := h k (List.mem_cons_of_mem _ hk)
      have h2 : k ≠ x := fun z => nl.1 (z ▸ hk)
      simp [h2] at h1 ⊢
      exact h1
    have ih := sub_eq nl.2 nAB hsub (by simp at hl ⊢; omega)
    by_cases e : k = x
    · rw [e]; exact List.mem_cons_self
    · refine List.mem_cons_of_mem _ (ih k ?_)
      simp [e] at hk ⊢
      exact hk
theorem days_fates {rs : List (Kd × Tie)} {p : Int × Rec} (hp : p ∈ reck rs) : daysO p.2 = fatesO rs p.1 := by
  unfold daysO fatesO
  rw [(reck_inv rs).py p hp, List.map_map]
  rfl
theorem stand_due {P : Par} {n : Int} {ch : List Int} {m : List (Int × Option Int)} (nd : (m.map Prod.fst).Nodup) : StandUp P n ch m ↔ Due P n ch m := by
  have I := reck_inv (rowsOf P ch)
  have key : RightD (reck (rowsOf P ch)) m ↔ ((∀ w, w ∈ m.map Prod.fst ↔ w ∈ (rowsOf P ch).map fun r => r.2.w) ∧ (∀ r ∈ rowsOf P ch, ∃ o, m.lookup r.2.w = some o ∧ o ∈ fatesO (rowsOf P ch) r.2.w)) := by
    constructor
    · rintro ⟨h1, h2⟩
      have hs : ∀ k ∈ (reck (rowsOf P ch)).map Prod.fst, k ∈ m.map Prod.fst := fun k hk => by
        obtain ⟨p, hp, rfl⟩ := List.mem_map.mp hk
        obtain ⟨o, e, _⟩ := h2 p hp
        exact lookup_key e
      have hb := sub_eq I.nd nd hs (by simp; omega)
      refine ⟨fun w => ⟨fun hw => (I.ks w).mp (hb w hw), fun hw => hs w ((I.ks w).mpr hw)⟩, fun r hr => ?_⟩
      have hk := (I.ks r.2.w).mpr (List.mem_map.mpr ⟨r, hr, rfl⟩)
      obtain ⟨p, hp, e⟩ := List.mem_map.mp hk
      obtain ⟨o, e1, e2⟩ := h2 p hp
      rw [days_fates hp, e] at e2
      rw [e] at e1
      exact ⟨o, e1, e2⟩
    · rintro ⟨h1, h2⟩
      have a := sub_eq I.nd nd (fun k hk => (h1 k).mpr ((I.ks k).mp hk))
      refine ⟨?_, fun p hp => ?_⟩
      · have p1 : (m.map Prod.fst).Perm ((reck (rowsOf P ch)).map Prod.fst) := by
          rw [List.perm_ext_iff_of_nodup nd I.nd]
          intro w
          rw [h1 w, I.ks w]
        have := p1.length_eq
        simpa using this
      · have hw := (I.ks p.1).mp (List.mem_map_of_mem hp)
        obtain ⟨r, hr, e⟩ := List.mem_map.mp hw
        obtain ⟨o, e1, e2⟩ := h2 r hr
        rw [e] at e1 e2
        exact ⟨o, e1, by rw [days_fates hp]; exact e2⟩
  have hsum := I.sum P.ev fun w => (m.lookup w).getD none
  unfold StandUp Due sumR
  rw [key, hsum]
  constructor
  · rintro ⟨a, b, ⟨c, d⟩, e⟩; exact ⟨a, b, c, d, by omega⟩
  · rintro ⟨a, b, c, d, e⟩; exact ⟨a, b, ⟨c, d⟩, by omega⟩
section
variable {S : Sto} {R : Pd} {RE : Px} {P : Par} {ch : List Int} {m : List (Int × Option Int)}
theorem f_ixFa {w : Int} : fIx (faD m) (.int w) S R = ∃ o, m.lookup w = some o ∧ R (oD o) S := by
  unfold faD
  simp [fIx, SB.keyOf, look_dK]
  cases m.lookup w <;> simp
theorem p_sumV {fv : D} (hf : ∀ (w : Int) (R : Pd), fIx fv (.int w) S R = ∃ o, m.lookup w = some o ∧ R (oD o) S) (ok : ParOk P) (hi : InR P ch) (hm : ∀ r ∈ rowsOf P ch, r.2.w ∈ m.map Prod.fst) (h : R (.int (own P ch + sumR P.ev (rowsOf P ch) m)) S) : φ__law_sum [parD P, chD ch, fv] S R RE := by
  refine ⟨rfl, ?_⟩
  simp only [w__law_sum, startE, N__law_sum, s_seqL, s_asg, s_call, s_cons, s_var, s_nil]
  refine ⟨_, rfl, _, rfl, p_rows ok hi ⟨_, rfl, ?_⟩⟩
  refine later_of ?_
  simp only [s_seqL, s_for, s_src, s_var]
  refine ⟨_, rfl, _, none, rfl, ?_⟩
  refine for_inv (gd := none) (fun done ς' S' => S' = S ∧ ∃ c5 c6 c7 c8 c9, ς' = [some (parD P), some (chD ch), some fv, some (.int (own P ch + sumR P.ev done m)), some (rowsD (rowsOf P ch)), c5, c6, c7, c8, c9]) (fun _ _ _ _ => trivial) ?_ ⟨rfl, _, _, _, _, _, by simp [sumR]; exact ⟨rfl, rfl, rfl, rfl, rfl⟩⟩ ?_
  · rintro done r rest ς' S' e ⟨rfl, c5, c6, c7, c8, c9, rfl⟩
    refine ⟨_, rfl, fun K hK => ?_⟩
    have hr : r ∈ rowsOf P ch := by rw [e]; simp
    obtain ⟨o, ho⟩ := lookup_some (hm r hr)
    have e1 : sumR P.ev (done ++ [r]) m = sumR P.ev done m + contr P.ev r o := by
      simp [sumR, ho]
    have hK := hK [some (parD P), some (chD ch), some fv, some (.int (own P ch + sumR P.ev done m + contr P.ev r o)), some (rowsD (rowsOf P ch)), some (.str (Str.ofString (kdS r.1))), some (.int r.2.a), some (.int r.2.w), some (.int r.2.d), some (oD o)] S' ⟨rfl, _, _, _, _, _, by rw [e1, Int.add_assoc]⟩
    refine (show sumB _ _ _ _ from ?_)
    unfold sumB
    simp only [s_seqL]
    simp [-Bool.exists_bool, -s_seq]
    rw [hf]
    refine ⟨o, ho, later_of ?_⟩
    generalize own P ch + sumR P.ev done m = tot at hK
    obtain ⟨k, t⟩ := r
    cases k with
    | no =>
      simp [-Bool.exists_bool, kdS]
      simpa [contr, kdS] using hK
    | co =>
      simp [-Bool.exists_bool, kdS]
      simpa [contr, kdS] using hK
    | op =>
      simp [-Bool.exists_bool, kdS]
      cases o with
      | none => simp [-Bool.exists_bool, oD]; simpa [contr, kdS, dayP, oD] using hK
      | some z =>
        simp [-Bool.exists_bool, oD, cmpGt]
        by_cases c : t.d < z
        · simp [c]; simpa [contr, kdS, dayP, oD, c] using hK
        · simp [c]; simpa [contr, kdS, dayP, oD, c] using hK
    | ha =>
      simp [-Bool.exists_bool, kdS]
      cases o with
      | none => simp [-Bool.exists_bool, oD]; simpa [contr, kdS, dayH, oD] using hK
      | some z =>
        simp [-Bool.exists_bool, oD, cmpLt, i_p0]
        by_cases c : z - 1 + P.ev < t.d
        · simp [c]; simpa [contr, kdS, dayH, oD, c] using hK
        · simp [c]; simpa [contr, kdS, dayH, oD, c] using hK
  · rintro ς' S' ⟨rfl, c5, c6, c7, c8, c9, rfl⟩
    dsimp only
    refine later_of ?_
    simp
    exact .now h
theorem p_sum (ok : ParOk P) (hi : InR P ch) (hm : ∀ r ∈ rowsOf P ch, r.2.w ∈ m.map Prod.fst) (h : R (.int (own P ch + sumR P.ev (rowsOf P ch) m)) S) : φ__law_sum [parD P, chD ch, faD m] S R RE := p_sumV (fun _ _ => f_ixFa) ok hi hm h
end
end L35
end

section
set_option Elab.async false
set_option linter.all false
set_option maxRecDepth 100000
set_option autoImplicit false
namespace L35
open SB PySem PySem.Spec L2
theorem blL_map {α : Type} {g : α → Bool} : ∀ {m : List α}, blL (m.map fun x => .bl (g x)) = some (m.map g)
  | [] => rfl
  | x :: r => by simp [blL, blL_map (g := g) (m := r)]
theorem ints_inj : ∀ {l m : List Int}, l.map D.int = m.map D.int → l = m
  | [], [], _ => rfl
  | [], _ :: _, h => by cases h
  | _ :: _, [], h => by cases h
  | x :: l, y :: m, h => by
    simp at h
    rw [h.1, ints_inj (l := l) (m := m) (by simpa using h.2)]
section
variable {S : Sto} {R : Pd} {RE : Px} {P : Par}
theorem f_eqInts {neg : Bool} {l m : List Int} (h : ∀ b : Bool, (b = true ↔ l = m) → R (.bl (neg ^^ b)) S) : fEq neg (.lst (l.map .int)) (.lst (m.map .int)) S R := by
  have d : ∀ l : List Int, dp (.lst (l.map .int)) ≤ 64 := fun l => by
    have := dpL_map (f := D.int) (k := 0) (m := l) fun _ _ => Nat.le_refl _
    simp only [dp_lst]; omega
  refine f_eqP (plL_map fun _ _ => rfl) (plL_map fun _ _ => rfl) (d l) (d m) fun b hb => h b (hb.trans ⟨fun z => ?_, fun z => by rw [z]⟩)
  exact ints_inj (by injection z)
theorem f_listFa {m : List (Int × Option Int)} (hl : m.length < 60) (h : R (.lst ((m.map Prod.fst).map .int)) S) : fList false [faD m] S R := by
  show mkL false ((dK oD m).map fun p => keyD p.1) S R
  rw [keys_dK]
  exact ⟨sz1000 (by simp; omega), h⟩
theorem f_sortedG {ns : List Int} (hl : ns.length ≤ 1000) (h : ∀ ns' : List Int, ns'.Perm ns → ns'.Pairwise (· ≤ ·) → R (.lst (ns'.map .int)) S) : fSorted false [.lst (ns.map .int)] S R := by
  refine ⟨ns, intL_mapF (fun _ _ => rfl) |>.trans (by simp), fun ns' hp hs' => ?_⟩
  exact ⟨by rw [List.length_map, hp.length_eq]; exact sz1000 hl, h ns' hp hs'⟩
theorem p_due {n : Int} {ch : List Int} {m : List (Int × Option Int)} (ok : ParOk P) (nd : (m.map Prod.fst).Nodup) (hml : m.length < 60) (h : ∀ b : Bool, (b = true ↔ Due P n ch m) → R (.bl b) S) : φ__law_due [parD P, tolD n ch m] S R RE := by
  have no : ¬ Due P n ch m → Rz R (.bl false) S := fun hn => .now (h false ⟨fun z => (by cases z), fun z => absurd z hn⟩)
  refine ⟨rfl, ?_⟩
  simp [-Bool.exists_bool, -s_seq, s_seqL, w__law_due, startE, N__law_due, tolD]
  refine later_of ?_
  simp [-Bool.exists_bool, -s_seq, s_seqL, -f_ixT, i_p3, chD]
  refine ⟨!decide ((ch.length : Int) = P.ps.length), by simp, ?_⟩
  by_cases c : ch.length ≠ P.ps.length
  · rw [if_pos (by simp; omega)]
    exact no fun z => c z.1
  · rw [if_neg (by simp; omega)]
    refine later_of ?_
    simp only [s_seqL, s_for]
    refine zip_of (pots_of rfl) (var_of rfl) ?_
    refine for_inv (gd := none) (fun done ς' S' => S' = S ∧ (∀ x ∈ done, 0 ≤ x.2 ∧ x.2 < x.1.sts.length) ∧ ∃ c5 c6 c7 c8, ς' = [some (parD P), some (.tup [.int n, .lst (ch.map .int), faD m]), some (.int n), some (.lst (ch.map .int)), some (faD m), c5, c6, c7, c8, none, none, none, none, none]) (fun _ _ _ _ => trivial) ?_ ⟨rfl, by simp, _, _, _, _, rfl⟩ ?_
    · rintro done x rest ς' S' e ⟨rfl, hd, c5, c6, c7, c8, rfl⟩
      refine ⟨_, rfl, fun K hK => ?_⟩
      have hx : x ∈ P.ps.zip ch := by rw [e]; simp
      simp [-Bool.exists_bool, cmpLt, cmpLe]
      by_cases c1 : 0 ≤ x.2
      · by_cases c2 : x.2 < (x.1.sts.length : Int)
        · simp [c1, c2]
          refine hK _ _ ⟨rfl, fun q hq => ?_, _, _, _, _, rfl⟩
          rcases List.mem_append.mp hq with hq | hq
          · exact hd q hq
          · rw [List.mem_singleton.mp hq]; omega
        · simp [c1, c2]
          exact no fun z => by have := z.2.1 x hx; omega
      · simp [c1]
        exact no fun z => by have := z.2.1 x hx; omega
    · rintro ς' S' ⟨rfl, hd, c5, c6, c7, c8, rfl⟩
      dsimp only
      have hi : InR P ch := hd
      have hrl := rows_len ok hi
      refine later_of ?_
      simp only [s_seqL, s_asg, s_call, s_cons, s_var, s_nil]
      refine ⟨_, rfl, _, rfl, p_rows ok hi ⟨_, rfl, ?_⟩⟩
      refine later_of ?_
      simp only [s_seqL, s_set, wSortSet, s_lc, s_src, s_var]
      refine ⟨_, rfl, _, none, rfl, fun p hp => ?_⟩
      refine lc_map (fun r => .int r.2.w) (sz1000 (by omega)) (fun r hr => ⟨_, rfl, fun S R k => ?_⟩) ?_ p hp
      · simp [wipeE, rowD, L2.atI, L2.ixN]; exact k
      refine ⟨_, (rowsOf P ch).map fun r => r.2.w, rfl, intL_mapF fun _ _ => rfl, by simp; omega, fun ms h1 h2 => ?_⟩
      have hms : ms.length ≤ 12 := by
        have hn : ms.Nodup := h1.imp fun h => by omega
        have hle : ∀ (l k : List Int), l.Nodup → (∀ x ∈ l, x ∈ k) → l.length ≤ k.length := by
          intro l
          induction l with
          | nil => intro k _ _; simp
          | cons x l ih =>
            intro k hn hs
            rw [List.nodup_cons] at hn
            obtain ⟨A, B, rfl⟩ := List.append_of_mem (hs x List.mem_cons_self)
            have := ih (A ++ B) hn.2 fun y hy => by
              have h1 := hs y (List.mem_cons_of_mem _ hy)
              have h2 : y ≠ x := fun z => hn.1 (z ▸ hy)
              simp [h2] at h1 ⊢
              exact h1
            simp at this ⊢
            omega
        have := hle ms _ hn fun x hx => (h2 x).mp hx
        simp at this
        omega
      refine ⟨sz1000 (by simp; omega), later_of ?_⟩
      simp [-Bool.exists_bool, -s_seq, s_seqL]
      refine f_listFa hml (f_sortedG (by simp; omega) fun ks hpk hsk => ?_)
      have hkn : ks.Nodup := hpk.nodup_iff.mpr nd
      refine f_eqInts fun b hb => ?_
      rw [Bool.true_xor]
      refine ⟨_, rfl, ?_⟩
      have hkw : ks = ms ↔ ∀ w, w ∈ m.map Prod.fst ↔ w ∈ (rowsOf P ch).map fun r => r.2.w := by
        constructor
        · rintro rfl w
          rw [← h2 w, hpk.mem_iff]
        · intro z
          exact sorted_ext (lt_of_le hsk hkn) h1 fun w => by rw [hpk.mem_iff, h2 w, z w]
      cases b with
      | false =>
        simp
        exact no fun z => by have := hb.mpr (hkw.mpr z.2.2.1); cases this
      | true =>
        have hk := hkw.mp (hb.mp rfl)
        simp
        refine later_of ?_
        simp [-Bool.exists_bool, -s_seq, s_seqL]
        intro p2 hp2
        have hlk : ∀ w ∈ ms, ∃ o, m.lookup w = some o := fun w hw => lookup_some ((hk w).mpr ((h2 w).mp hw))
        refine lc_map (fun w => .bl (decide (((m.lookup w).getD none) ∈ fatesO (rowsOf P ch) w))) (sz1000 (by omega)) (fun w hw => ⟨_, rfl, fun S R k => ?_⟩) ?_ p2 hp2
        · obtain ⟨o, ho⟩ := hlk w hw
          simp [-Bool.exists_bool, wipeE, f_ixFa, ho]
          refine p_fates (by omega) (f_inO ?_)
          rw [ho] at k
          simpa using k
        · refine ⟨_, _, rfl, blL_map, _, rfl, ?_⟩
          have ha : ((ms.map fun w => decide (((m.lookup w).getD none) ∈ fatesO (rowsOf P ch) w)).all id = true) ↔ ∀ r ∈ rowsOf P ch, ∃ o, m.lookup r.2.w = some o ∧ o ∈ fatesO (rowsOf P ch) r.2.w := by
            rw [List.all_map, List.all_eq_true]
            constructor
            · intro z r hr
              have hw := (h2 r.2.w).mpr (List.mem_map.mpr ⟨r, hr, rfl⟩)
              obtain ⟨o, ho⟩ := hlk _ hw
              have := z _ hw
              rw [Function.comp, id, decide_eq_true_iff, ho] at this
              exact ⟨o, ho, this⟩
            · intro z w hw
              obtain ⟨r, hr, e⟩ := List.mem_map.mp ((h2 w).mp hw)
              subst e
              obtain ⟨o, e1, e2⟩ := z r hr
              rw [Function.comp, id, decide_eq_true_iff, e1]
              exact e2
          generalize (ms.map fun w => decide (((m.lookup w).getD none) ∈ fatesO (rowsOf P ch) w)).all id = b at ha
          cases b with
          | false =>
            simp
            exact no fun z => by have := ha.mpr z.2.2.2.1; cases this
          | true =>
            simp
            refine later_of ?_
            simp [-Bool.exists_bool]
            refine p_sum ok hi (fun r hr => (hk _).mpr (List.mem_map.mpr ⟨r, hr, rfl⟩)) ?_
            rw [f_eqI]
            refine .now (h _ ?_)
            rw [Bool.false_xor, decide_eq_true_iff]
            exact ⟨fun z => ⟨by omega, hi, hk, ha.mp rfl, z⟩, fun z => z.2.2.2.2⟩
end
end L35
end

section
set_option Elab.async false
set_option linter.all false
set_option maxRecDepth 100000
set_option autoImplicit false
namespace L35
open SB PySem PySem.Spec L2
structure TolOk (n : Int) (ch : List Int) (m : List (Int × Option Int)) (j : Nat) : Prop where
  n0 : -100000 - 20 * (j : Int) ≤ n
  n1 : n ≤ 100000 + 20 * (j : Int)
  cl : ch.length ≤ 3 + j
  c0 : ∀ x ∈ ch, -100 ≤ x ∧ x ≤ 100
  ml : m.length ≤ 12 + j
  m0 : ∀ p ∈ m, 0 ≤ p.1 ∧ p.1 ≤ 100
  v0 : ∀ p ∈ m, ∀ v, p.2 = some v → 0 ≤ v ∧ v ≤ 100
  nd : (m.map Prod.fst).Nodup
theorem log_small {i : Int} (h : i.natAbs ≤ 1000000) : i.natAbs.log2 < 1920 := by
  by_cases e : i.natAbs = 0
  · rw [e]; decide
  · have := (Nat.log2_lt e (k := 20)).mpr (by omega)
    omega
theorem join_le {L : Nat} : ∀ ts : List Str, (∀ t ∈ ts, t.length ≤ L) → (Str.join ", " ts).length ≤ ts.length * (L + 2)
  | [], _ => by simp [Str.join]; rfl
  | [x], h => by
    have := h x List.mem_cons_self
    show x.length ≤ _
    simp; omega
  | x :: y :: r, h => by
    have h1 := h x List.mem_cons_self
    have ih := join_le (y :: r) fun t ht => h t (List.mem_cons_of_mem _ ht)
    show (x ++ ", " ++ Str.join ", " (y :: r)).length ≤ _
    have e2 : ((", " : String) : Str).length = 2 := rfl
    rw [strLen_append, strLen_append, e2, List.length_cons, Nat.add_mul]
    omega
theorem textFrom_le {L : Nat} : ∀ (ts : List Str) (k : Nat) (acc : Str), (∀ t ∈ ts, t.length ≤ L) → (textFrom k acc ts).length ≤ acc.length + ts.length * (L + 2)
  | [], k, acc, _ => by show acc.length ≤ _; omega
  | x :: r, k, acc, h => by
    have h1 := h x List.mem_cons_self
    have ih := textFrom_le r (k + 1) (acc ++ (if k > 0 then ", " else "" : String) ++ x) fun t ht => h t (List.mem_cons_of_mem _ ht)
    show (textFrom (k + 1) (acc ++ (if k > 0 then ", " else "" : String) ++ x) r).length ≤ _
    have e2 : ((if k > 0 then ", " else "" : String) : Str).length ≤ 2 := by split <;> decide
    rw [strLen_append, strLen_append] at ih
    rw [List.length_cons, Nat.add_mul]
    omega
theorem shown_int {i : Int} (h : i.natAbs ≤ 1000000) : (PyData.shown (.int i)).length ≤ 1921 := by
  show (Str.ofString (toString i)).length ≤ 1921
  rw [PySem.ofString_length]
  exact PySem.int_text_length_le (k := 1920) (by decide) (log_small h)
theorem shown_oP {o : Option Int} (h : ∀ v, o = some v → v.natAbs ≤ 1000000) : (PyData.shown (oP o)).length ≤ 1921 := by
  cases o with
  | none => show ((("None" : String) : Str)).length ≤ 1921; decide
  | some v => exact shown_int (h v rfl)
theorem shownAll_map {α : Type} {f : α → PyData} : ∀ l : List α, PyData.shownAll (l.map f) = l.map fun x => PyData.shown (f x)
  | [] => by simp [PyData.shownAll]
  | x :: l => by simp [PyData.shownAll, shownAll_map (f := f) l]
theorem shownKv_map : ∀ l : List (Int × Option Int), PyData.shownKv (l.map fun p => (.int p.1, oP p.2)) = l.map fun p => (PyData.shown (.int p.1) ++ ": " ++ PyData.shown (oP p.2))
  | [] => by simp [PyData.shownKv]
  | x :: l => by simp [PyData.shownKv, shownKv_map l]
theorem showAll_map {α : Type} {f : α → PyData} : ∀ l : List α, (∀ x ∈ l, PyData.showable (f x) = true) → PyData.showableAll (l.map f) = true
  | [], _ => by simp [PyData.showableAll]
  | x :: l, h => by simp [PyData.showableAll, h x List.mem_cons_self, showAll_map (f := f) l fun y hy => h y (List.mem_cons_of_mem _ hy)]
theorem showKv_map : ∀ l : List (Int × Option Int), (∀ p ∈ l, p.1.natAbs ≤ 1000000 ∧ ∀ v, p.2 = some v → v.natAbs ≤ 1000000) → PyData.showableKv (l.map fun p => (.int p.1, oP p.2)) = true
  | [], _ => by simp [PyData.showableKv]
  | (k, o) :: l, h => by
    obtain ⟨h1, h2⟩ := h (k, o) List.mem_cons_self
    have ih := showKv_map l fun y hy => h y (List.mem_cons_of_mem _ hy)
    have ho : PyData.showable (oP o) = true := by
      cases o with
      | none => simp [oP, PyData.showable]
      | some v => simpa [oP, PyData.showable] using log_small (h2 v rfl)
    simp [PyData.showableKv, ih, ho]
    simpa [PyData.showable] using log_small h1
section
variable {n : Int} {ch : List Int} {m : List (Int × Option Int)} {j : Nat}
theorem TolOk.kv (T : TolOk n ch m j) : ∀ p ∈ m, p.1.natAbs ≤ 1000000 ∧ ∀ v, p.2 = some v → v.natAbs ≤ 1000000 := fun p hp => by
  have h1 := T.m0 p hp
  refine ⟨by omega, fun v hv => ?_⟩
  have h2 := T.v0 p hp v hv
  omega
theorem TolOk.able (T : TolOk n ch m j) (hj : j ≤ 100) : PyData.showableAll (pyN n ch m) = true := by
  have h1 := T.n0
  have h2 := T.n1
  have hc : PyData.showableAll (ch.map PyData.int) = true := showAll_map ch fun x hx => by
    have := T.c0 x hx
    simpa [PyData.showable] using log_small (i := x) (by omega)
  have hm := showKv_map m T.kv
  simp [pyN, PyData.showableAll, PyData.showable, hc, hm]
  exact log_small (by omega)
theorem TolOk.fits (T : TolOk n ch m j) (hj : j ≤ 100) : (shN n ch m).length ≤ sizeLine := by
  have h1 := T.n0
  have h2 := T.n1
  have cl := T.cl
  have ml := T.ml
  have t1 : (PyData.shown (.int n)).length ≤ 1921 := shown_int (by omega)
  have t2 : (PyData.shown (.list (ch.map .int))).length ≤ 400000 := by
    rw [PyData.shown, shownAll_map]
    unfold listText
    rw [strLen_append]
    have := textFrom_le (L := 1921) (ch.map fun x => PyData.shown (.int x)) 0 "[" fun t ht => by
      obtain ⟨x, hx, rfl⟩ := List.mem_map.mp ht
      have := T.c0 x hx
      exact shown_int (by omega)
    have e1 : ((("[" : String) : Str)).length = 1 := rfl
    have e2 : ((("]" : String) : Str)).length = 1 := rfl
    rw [e1, List.length_map] at this
    rw [e2]
    have h3 : ch.length * (1921 + 2) ≤ 103 * (1921 + 2) := Nat.mul_le_mul_right _ (by omega)
    omega
  have t3 : (PyData.shown (.dict (m.map fun p => (.int p.1, oP p.2)))).length ≤ 600000 := by
    rw [PyData.shown, shownKv_map]
    unfold dictText
    rw [strLen_append, strLen_append]
    have := join_le (L := 3844) (m.map fun p => (PyData.shown (.int p.1) ++ ": " ++ PyData.shown (oP p.2))) fun t ht => by
      obtain ⟨p, hp, rfl⟩ := List.mem_map.mp ht
      obtain ⟨k1, k2⟩ := T.kv p hp
      rw [strLen_append, strLen_append]
      have e1 : (((": " : String) : Str)).length = 2 := rfl
      have a1 := shown_int k1
      have a2 := shown_oP k2
      omega
    have e1 : ((("{" : String) : Str)).length = 1 := rfl
    have e2 : ((("}" : String) : Str)).length = 1 := rfl
    rw [e1, e2]
    rw [List.length_map] at this
    have h3 : m.length * (3844 + 2) ≤ 112 * (3844 + 2) := Nat.mul_le_mul_right _ (by omega)
    omega
  unfold shN tupleText
  have e : PyData.shownAll (pyN n ch m) = [PyData.shown (.int n), PyData.shown (.list (ch.map .int)), PyData.shown (.dict (m.map fun p => (.int p.1, oP p.2)))] := by simp [pyN, PyData.shownAll]
  rw [e]
  have := join_le (L := 600000) [PyData.shown (.int n), PyData.shown (.list (ch.map .int)), PyData.shown (.dict (m.map fun p => (.int p.1, oP p.2)))] fun t ht => by
    simp at ht
    rcases ht with rfl | rfl | rfl <;> omega
  rw [strLen_append, strLen_append]
  have e1 : ((("(" : String) : Str)).length = 1 := rfl
  have e2 : ((if ([PyData.shown (.int n), PyData.shown (.list (ch.map .int)), PyData.shown (.dict (m.map fun p => (.int p.1, oP p.2)))].length == 1) = true then ",)" else ")" : String) : Str).length ≤ 2 := by split <;> decide
  have e3 : sizeLine = 2 ^ 24 := rfl
  simp only [List.length_cons, List.length_nil] at this
  omega
end
end L35
end

section
set_option Elab.async false
set_option linter.all false
set_option maxRecDepth 100000
set_option autoImplicit false
namespace L35
open SB PySem PySem.Spec L2
theorem fatesW_eq {ev : Int} {fs : List (Int × Rec)} (nd : (fs.map Prod.fst).Nodup) : fatesW ev fs = fs.map fun p => (p.1, (worst p.2 ev).2) := by
  have gen : ∀ (l done : List (Int × Rec)), ((done ++ l).map Prod.fst).Nodup → l.foldl (fun m p => putM p.1 (worst p.2 ev).2 m) (done.map fun p => (p.1, (worst p.2 ev).2)) = (done ++ l).map fun p => (p.1, (worst p.2 ev).2) := by
    intro l
    induction l with
    | nil => intro done _; simp
    | cons p l ih =>
      intro done nd
      have hout : ∀ u ∈ done.map (fun p => (p.1, (worst p.2 ev).2)), u.1 ≠ p.1 := fun u hu z => by
        obtain ⟨q, hq, rfl⟩ := List.mem_map.mp hu
        rw [List.map_append, List.map_cons, List.nodup_append] at nd
        exact nd.2.2 q.1 (List.mem_map_of_mem hq) p.1 List.mem_cons_self z
      rw [List.foldl_cons, putM_out hout]
      have := ih (done ++ [p]) (by simpa using nd)
      simpa using this
  simpa [fatesW] using gen fs [] (by simpa using nd)
theorem pap_stand {P : Par} (ok : ParOk P) {q : Tol} (e : papO P = some q) : StandUp P q.1 q.2.1 q.2.2 := by
  obtain ⟨ch, hc, e'⟩ := papO_ok P ok
  rw [e] at e'
  cases e'
  obtain ⟨h1, h2⟩ := choi_ok _ _ hc
  have I := reck_inv (rowsOf P ch)
  have hf := fatesW_eq (ev := P.ev) I.nd
  have nd2 : ((fatesW P.ev (reck (rowsOf P ch))).map Prod.fst).Nodup := by
    rw [hf, List.map_map]
    exact I.nd
  have hlk : ∀ p ∈ reck (rowsOf P ch), (fatesW P.ev (reck (rowsOf P ch))).lookup p.1 = some (worst p.2 P.ev).2 := fun p hp => by
    have := look_nd nd2 (p := (p.1, (worst p.2 P.ev).2)) (by rw [hf]; exact List.mem_map.mpr ⟨p, hp, rfl⟩)
    exact this
  refine ⟨h1, h2, ⟨?_, fun p hp => ⟨_, hlk p hp, (worst_ok p.2 P.ev).2⟩⟩, ?_⟩
  · show (fatesW P.ev (reck (rowsOf P ch))).length = _
    rw [hf, List.length_map]
    rfl
  · show totW P ch - ((reck (rowsOf P ch)).map fun p => withDay p.2 P.ev (((fatesW P.ev (reck (rowsOf P ch))).lookup p.1).getD none)).sum = own P ch
    have : ((reck (rowsOf P ch)).map fun p => withDay p.2 P.ev (((fatesW P.ev (reck (rowsOf P ch))).lookup p.1).getD none)) = (reck (rowsOf P ch)).map fun p => (worst p.2 P.ev).1 := by
      refine List.map_congr_left fun p hp => ?_
      rw [hlk p hp]
      exact (worst_ok p.2 P.ev).1.symm
    rw [this]
    unfold totW
    omega
section
variable {S : Sto} {R : Pd} {RE : Px} {P : Par}
theorem f_eqBl {neg a b : Bool} : fEq neg (.bl a) (.bl b) S R = R (.bl (neg ^^ (a == b))) S := by
  have e : dEq (.bl a) (.bl b) = (a == b) := by cases a <;> cases b <;> decide
  simp only [fEq, view_bl, okB, true_and, e]
theorem dk_eq {m : List (Int × Option Int)} : dK oD m = m.map fun p => (.inl p.1, oD p.2) := rfl
theorem p_asked {n : Int} {ch : List Int} {m : List (Int × Option Int)} {j : Nat} (ok : ParOk P) (T : TolOk n ch m j) (hj : j ≤ 40) (h : R (.bl true) S) : φ__law_asked [viewD P, parD P, tolD n ch m] S R RE := by
  have cl := T.cl
  have ml := T.ml
  have i0 : ∀ R : Pd, fIx (tolD n ch m) (.int 0) S R = R (.int n) S := fun R => by simp [tolD, L2.atI, L2.ixN]
  have i1 : ∀ R : Pd, fIx (tolD n ch m) (.int 1) S R = R (chD ch) S := fun R => by simp [tolD, L2.atI, L2.ixN]
  have i2 : ∀ R : Pd, fIx (tolD n ch m) (.int 2) S R = R (faD m) S := fun R => by simp [tolD, L2.atI, L2.ixN]
  have l1 : ∀ R : Pd, R (chD ch) S → fList false [chD ch] S R := fun R k => ⟨sz1000 (by simp; omega), k⟩
  have l2 : ∀ R : Pd, R (faD m) S → fDict false [faD m] S R := fun R k => ⟨sz1000 (by rw [len_dK]; omega), k⟩
  have rp : ∀ R : Pd, R (.str (shN n ch m)) S → fRepr [tolD n ch m] S R := fun R k => ⟨n, ch, m, by unfold tolD chD faD; rw [dk_eq], T.able (by omega), T.fits (by omega), k⟩
  refine ⟨rfl, ?_⟩
  simp only [w__law_asked, startE, N__law_asked, s_seqL, s_set, s_tup, s_cons, s_nil, s_op, s_var, s_c, s_fun]
  refine ⟨_, rfl, ?_⟩
  rw [i0]
  refine ⟨_, rfl, ?_⟩
  rw [i1]
  refine l1 _ ⟨_, rfl, ?_⟩
  rw [i2]
  refine l2 _ ⟨sz_3, later_of ?_⟩
  refine (show later _ [some (viewD P), some (parD P), some (tolD n ch m), some (tolD n ch m), none, none] _ _ _ from ?_)
  refine later_of ?_
  simp [-Bool.exists_bool, -s_seq, s_seqL]
  refine p_stands ok fun b1 h1 => ⟨"bool", rfl, false, by decide, ?_⟩
  rw [if_neg (by simp)]
  refine p_due ok T.nd (by omega) fun b2 h2 => ?_
  have hb : b1 = b2 := by
    rw [Bool.eq_iff_iff, h1, h2]
    exact stand_due T.nd
  subst hb
  rw [f_eqBl]
  refine ⟨_, rfl, ?_⟩
  simp
  refine rp _ (rp _ ⟨_, _, rfl, rfl, ?_⟩)
  refine .inl ⟨by simp, later_of ?_⟩
  simp [-Bool.exists_bool, -s_seq, s_seqL]
  refine p_paper ok fun q hq => later_of ?_
  have j0 : ∀ R : Pd, fIx (tolD q.1 q.2.1 q.2.2) (.int 0) S R = R (.int q.1) S := fun R => by simp [tolD, L2.atI, L2.ixN]
  simp [-Bool.exists_bool, j0]
  refine p_worth ok fun q' hq' => ?_
  rw [hq] at hq'
  cases hq'
  simp [-Bool.exists_bool]
  refine p_stands ok fun b3 h3 => ?_
  have hb3 : b3 = true := h3.mpr (pap_stand ok hq)
  subst hb3
  simp [-Bool.exists_bool, fIs]
  refine p_stands ok fun b4 h4 => ?_
  have hb4 : b4 = b1 := by rw [Bool.eq_iff_iff, h1, h4]
  subst hb4
  rw [f_eqBl]
  simp
  exact .now h
end
end L35
end

section
set_option Elab.async false
set_option linter.all false
set_option maxRecDepth 100000
set_option autoImplicit false
namespace L35
open SB PySem PySem.Spec L2
def stB : WpS := (wIf (wB (wOp (fEq false) (wCall φ__law_draw [] (wCons (wVar 0) (wCons (wC (.int 2)) wNil))) (wC (.int 0)))) (wSeq (wSet 3 (wTup (wCons (wCall φ__law_draw [] (wCons (wVar 0) (wCons (wC (.int 2)) wNil))) (wCons (wOp (fAdd false) (wC (.int 1)) (wCall φ__law_draw [] (wCons (wVar 0) (wCons (wC (.int 20)) wNil)))) (wCons (wVar 2) (wCons (wCall φ__law_draw [] (wCons (wVar 0) (wCons (wC (.int 40)) wNil))) wNil))))))
  (wExpr (wMt "list" fInsert (wVar 1) (wCons (wCall φ__law_draw [] (wCons (wVar 0) (wCons (wOp (fAdd false) (wFun fLen (wCons (wVar 1) wNil)) (wC (.int 1))) wNil))) (wCons (wVar 3) wNil))))) wNx)
def potB : WpS := (wSeq (wSet 6 (wCall φ__law_draw [] (wCons (wVar 0) (wCons (wC (.int 2)) wNil))))
  (wSeq (wSet 7 (wLc false (wRange (wCons (wOp (fAdd false) (wC (.int 1)) (wCall φ__law_draw [] (wCons (wVar 0) (wCons (wC (.int 3)) wNil)))) wNil)) (.nm 10) wYes (wCall φ__law_stand [] (wCons (wVar 0) wNil)) [10]))
  (wSeq (wSet 8 (wFun (fDict false) (wCons (wLc false (wSrc (wLst false (wCons (wC (.int 20)) (wCons (wC (.int 0)) (wCons (wC (.int 59)) (wCons (wC (.int 7)) wNil)))))) (.nm 9) (wB (wOp (fEq false) (wCall φ__law_draw [] (wCons (wVar 0) (wCons (wC (.int 3)) wNil))) (wC (.int 0)))) (wTup (wCons (wVar 9) (wCons (wCall φ__law_draw [] (wCons (wVar 0) (wCons (wOp (fAdd false) (wVar 2) (wC (.int 1))) wNil))) wNil))) [9]) wNil)))
  (wExpr (wMt "list" fAppend (wVar 4) (wCons (wTup (wCons (wVar 6) (wCons (wVar 7) (wCons (wVar 8) wNil)))) wNil))))))
/-- a comprehension, by what stands behind each element -/
theorem lc_gen {ς : En} {S : Sto} {α : Type} {gd : Option (Addr × SO)} {g : α → D} {t : Tg} {wt : WpT} {we : WpE} {p : Addr} {xs : List α} {K : List D → Sto → Prop} (I : List α → List D → Sto → Prop) (hl : xs.length ≤ 1000)
    (hgd : ∀ done acc S, I done acc S → grd gd S) (hp : ∀ done acc S, I done acc S → S p = some (.lst acc) ∧ acc.length ≤ done.length)
    (step : ∀ done x rest acc S, xs = done ++ x :: rest → I done acc S → ∃ ς1, t.bind (g x) ς = some ς1 ∧ ∀ (Kn : Sto → Prop) (Ky : Pd), (∀ S1, I (done ++ [x]) acc S1 → Kn S1) → (∀ y S2, S2 p = some (.lst acc) → I (done ++ [x]) (acc ++ [y]) (S2.set p (.lst (acc ++ [y]))) → Ky y S2) →
      wt ς1 S (fun b S1 => if b = true then we ς1 S1 Ky (fun _ _ => False) else Kn S1) (fun _ _ => False))
    (start : I [] [] S) (fin : ∀ acc S, I xs acc S → K acc S) : lcL gd t wt we p ς (xs.map g) [] S K := by
  have gen : ∀ (rest done : List α) (acc : List D) (S : Sto), xs = done ++ rest → I done acc S → lcL gd t wt we p ς (rest.map g) acc S K := by
    intro rest
    induction rest with
    | nil =>
      intro done acc S e h
      rw [List.append_nil] at e
      subst e
      exact ⟨hgd _ _ _ h, (hp _ _ _ h).1, fin _ _ h⟩
    | cons x rest ih =>
      intro done acc S e h
      obtain ⟨ς1, e1, h1⟩ := step done x rest acc S e h
      refine ⟨hgd _ _ _ h, ς1, e1, ?_⟩
      refine h1 _ _ (fun S1 h2 => ih (done ++ [x]) acc S1 (by rw [e]; simp) h2) fun y S2 h2 h3 => ⟨h2, sz1001 ?_, ih (done ++ [x]) _ _ (by rw [e]; simp) h3⟩
      have := (hp _ _ _ h).2
      rw [e] at hl
      simp at hl
      omega
  exact gen xs [] [] S rfl start
theorem fm_del {S0 S' : Sto} {p : Addr} {A : List Addr} (f : Fm A S0 S') (n : S0 p = none) : Fm A S0 (S'.del p) := fun b hb hz => by
  have hbp : b ≠ p := fun z => hz (by rw [z]; exact n)
  rw [Sto.del_ne hbp, f b hb hz]
theorem fm_in {S0 S' : Sto} {p : Addr} {A : List Addr} (f : Fm (p :: A) S0 S') (n : S0 p = none) : Fm A S0 S' := fun b hb hz => by
  have hbp : b ≠ p := fun z => hz (by rw [z]; exact n)
  exact f b (by simp [hbp, hb]) hz
theorem seqOf_refL {S : Sto} {a : Addr} {l : List D} (h : S a = some (.lst l)) : seqOf S (.ref a) = some l := by simp [seqOf, contOf_refL h]
section
variable {S : Sto} {R : Pd} {RE : Px}
theorem p_lstand {wl : Addr} {c : Int} (w : Wel S wl c) (hc : c ≤ 900000) (h : ∀ s S', StnOk s → Fm [wl] S S' → Wel S' wl (c + 30) → R (stnD s) S') : φ__law_stand [.ref wl] S R RE := by
  refine ⟨rfl, ?_⟩
  simp only [w__law_stand, startE, N__law_stand, s_seqL, s_set, s_lst, s_nil]
  refine ⟨by decide, fun p hp => later_of ?_⟩
  simp only [s_seqL, s_for, s_src, s_lst, s_cons, s_c, s_nil]
  refine ⟨by decide, _, none, rfl, ?_⟩
  have hne := w.ne hp
  have f0 : Fm [] S (S.set p (.lst [])) := .new hp
  refine (show forL none (.nm 2) stB ([59, 7, 20, 0].map D.int) _ _ _ _ from ?_)
  refine for_inv (gd := none) (fun done ς' S' => Fm [wl] S S' ∧ Wel S' wl (c + 6 * (done.length : Int)) ∧ (∃ ts : List Tie, S' p = some (.lst (ts.map tieD)) ∧ ts.length ≤ done.length ∧ ∀ t ∈ ts, TieOk t) ∧ ∃ c2 c3, ς' = [some (.ref wl), some (.ref p), c2, c3]) (fun _ _ _ _ => trivial) ?_ ⟨f0.mono (by simp), (w.fm f0 (by simp)).le (by simp), ⟨[], by simp, by simp, by simp⟩, _, _, rfl⟩ ?_
  · rintro done x rest ς' S' e ⟨fm, w', ⟨ts, ep, hl, ok⟩, c2, c3, rfl⟩
    refine ⟨_, rfl, fun K hK => ?_⟩
    have hdl : done.length ≤ 3 := by
      have := congrArg List.length e
      simp at this
      omega
    have hx : 0 ≤ x ∧ x ≤ 59 := by
      have : x ∈ [59, 7, 20, 0] := by rw [e]; simp
      simp at this
      omega
    unfold stB
    simp only [s_if, s_B, s_op, s_call, s_cons, s_var, s_c, s_nil]
    refine ⟨_, rfl, p_draw w' (by omega) (by decide) (by decide) fun d S1 d0 d1 f1 w1 => ?_⟩
    have ep1 := f1.at ep (by simpa using Ne.symm hne)
    rw [f_eqI]
    refine ⟨_, rfl, ?_⟩
    by_cases cd : d = 0
    · simp [-Bool.exists_bool, -s_seq, s_seqL, cd]
      refine p_draw w1 (by omega) (by decide) (by decide) fun dp S2 dp0 dp1 f2 w2 => ?_
      refine p_draw w2 (by omega) (by decide) (by decide) fun da S3 da0 da1 f3 w3 => ?_
      simp only [f_addI]
      refine p_draw w3 (by omega) (by decide) (by decide) fun dd S4 dd0 dd1 f4 w4 => later_of ?_
      have ep4 := ((f2.trans f3).trans f4).at ep1 (by simpa using Ne.symm hne)
      simp [-Bool.exists_bool, f_lenR ep4]
      refine ⟨tyM_refL ep4, ?_⟩
      refine p_draw w4 (by omega) (by omega) (by omega) fun di S5 di0 di1 f5 w5 => ?_
      have ep5 := f5.at ep4 (by simpa using Ne.symm hne)
      refine ⟨p, _, _, _, rfl, rfl, ep5, sz1001 (by simp; omega), di0, by omega, ?_⟩
      have fp : Fm [p] S5 (S5.set p (.lst ((ts.map tieD).take di.toNat ++ [D.tup [.int dp, .int (1 + da), .int x, .int dd]] ++ (ts.map tieD).drop di.toNat))) := .set (by simp)
      refine hK _ _ ⟨?_, ((w5.fm fp (by simpa using hne)).le (by simp; omega)), ⟨ts.take di.toNat ++ [⟨dp, 1 + da, x, dd⟩] ++ ts.drop di.toNat, ?_, ?_, ?_⟩, _, _, rfl⟩
      · have fa : Fm [wl] S S5 := ((((fm.trans f1).trans f2).trans f3).trans f4).trans f5
        exact fm_in (p := p) (A := [wl]) ((fa.mono (by simp)).trans (fp.mono (by simp))) hp
      · rw [Sto.set_same]
        simp [tieD, List.map_take, List.map_drop]
      · simp
        omega
      · intro t ht
        simp only [List.mem_append, List.mem_singleton] at ht
        rcases ht with (ht | ht) | ht
        · exact ok t (List.mem_of_mem_take ht)
        · subst ht
          exact ⟨(by show 0 ≤ 1 + da; omega), (by show 1 + da ≤ 20; omega), hx.1, hx.2, dd0, (by show dd ≤ 40; omega)⟩
        · exact ok t (List.mem_of_mem_drop ht)
    · simp [-Bool.exists_bool, cd]
      exact hK _ _ ⟨fm.trans f1, w1.le (by simp; omega), ⟨ts, ep1, by simp; omega, ok⟩, _, _, rfl⟩
  · rintro ς' S' ⟨fm, w', ⟨ts, ep, hl, ok⟩, c2, c3, rfl⟩
    dsimp only
    refine later_of ?_
    simp at hl w'
    simp only [s_ret, s_tup, s_cons, s_call, s_var, s_c, s_nil, s_fun]
    refine ⟨_, rfl, p_draw w' (by omega) (by decide) (by decide) fun n S1 n0 n1 f1 w1 => ?_⟩
    refine ⟨_, rfl, p_draw w1 (by omega) (by decide) (by decide) fun l S2 l0 l1 f2 w2 => ?_⟩
    refine ⟨_, rfl, p_draw w2 (by omega) (by decide) (by decide) fun r S3 r0 r1 f3 w3 => ?_⟩
    have ep3 := ((f1.trans f2).trans f3).at ep (by simpa using Ne.symm hne)
    refine ⟨sz_2, _, rfl, _, seqOf_refL ep3, sz_3, .now (h ⟨n, l, r, ts⟩ S3 ⟨l0, (by show l ≤ 50; omega), r0, (by show r ≤ 50; omega), hl, ok⟩ (((fm.trans f1).trans f2).trans f3) (w3.le (by omega)))⟩
end
end L35
end

section
set_option Elab.async false
set_option linter.all false
set_option maxRecDepth 100000
set_option autoImplicit false
namespace L35
open SB PySem PySem.Spec L2
def dictM (l : List (Int × Int)) : List (Int × Int) := l.foldl (fun m p => putM p.1 p.2 m) []
theorem merge_dK : ∀ (l m : List (Int × Int)), mergeD (dK D.int m) (dK D.int l) = dK D.int (l.foldl (fun m p => putM p.1 p.2 m) m)
  | [], m => rfl
  | (k, v) :: l, m => by
    have := merge_dK l (putM k v m)
    rw [show dK D.int ((k, v) :: l) = (.inl k, D.int v) :: dK D.int l from rfl, mergeD, put_dK, this]
    rfl
theorem pairL_ints : ∀ l : List (Int × Int), pairL (l.map fun p => .tup [.int p.1, .int p.2]) = some (dK D.int l)
  | [] => rfl
  | (k, v) :: l => by
    rw [List.map_cons, pairL]
    simp only [SB.keyOf]
    rw [pairL_ints l]
    rfl
theorem dictM_len : ∀ (l : List (Int × Int)), (dictM l).length ≤ l.length := by
  have gen : ∀ (l m : List (Int × Int)), (l.foldl (fun m p => putM p.1 p.2 m) m).length ≤ m.length + l.length := by
    intro l
    induction l with
    | nil => intro m; simp
    | cons p l ih =>
      intro m
      have h1 := ih (putM p.1 p.2 m)
      have h2 := putM_len (w := p.1) (x := p.2) (m := m)
      rw [List.foldl_cons, List.length_cons]
      omega
  intro l
  simpa [dictM] using gen l []
section
variable {S : Sto} {R : Pd} {RE : Px}
theorem pot_turn {wl q : Addr} {c : Int} {ev lk : Int} {vw vi : D} {ps : List Pot} {c6 c7 c8 : Option D} {E : ES} {XE : PxE} (w : Wel S wl c) (hc : c ≤ 800000) (hne : wl ≠ q) (hq : S q = some (.lst (ps.map potD))) (hps : ps.length ≤ 10) (lk0 : 0 ≤ lk) (lk1 : lk ≤ 1000)
    (h : ∀ p S' c6 c7 c8, PotOk p → Fm [wl, q] S S' → Wel S' wl (c + 110) → S' q = some (.lst ((ps ++ [p]).map potD)) → E.nx [some (.ref wl), some (.int ev), some (.int lk), some vw, some (.ref q), some vi, c6, c7, c8, none, none] S') :
    potB [some (.ref wl), some (.int ev), some (.int lk), some vw, some (.ref q), some vi, c6, c7, c8, none, none] S E XE := by
  unfold potB
  simp only [s_seqL, s_set, s_call, s_cons, s_var, s_c, s_nil]
  refine ⟨_, rfl, p_draw w (by omega) (by decide) (by decide) fun s S1 s0 s1 f1 w1 => later_of ?_⟩
  simp only [s_seqL, s_set, s_lc, s_range, s_op, s_call, s_cons, s_var, s_c, s_nil]
  refine ⟨_, rfl, p_draw w1 (by omega) (by decide) (by decide) fun k S2 k0 k1 f2 w2 => ?_⟩
  simp only [f_addI]
  refine ⟨1 + k, rfl, by omega, by omega, fun p hp => ?_⟩
  have hwp := w2.ne hp
  have hq2 := (f1.trans f2).at hq (by simpa using hne.symm)
  rw [rngD_range]
  refine lc_gen (fun done acc S' => Fm [wl] S2 S' ∧ Wel S' wl (c + 2 + 30 * (done.length : Int)) ∧ S' p = some (.lst acc) ∧ ∃ ss : List Stn, acc = ss.map stnD ∧ ss.length = done.length ∧ ∀ x ∈ ss, StnOk x) (by simp; omega) (fun _ _ _ _ => trivial) (fun done acc S' hh => ⟨hh.2.2.1, by obtain ⟨_, _, _, ss, rfl, e, _⟩ := hh; simp [e]⟩) ?_ ⟨(Fm.new (A := []) hp).mono (by simp), ((w2.fm (Fm.new (A := []) hp) (by simp)).le (by simp; omega)), Sto.set_same, [], rfl, rfl, by simp⟩ ?_
  · rintro done x rest acc S' e ⟨fm, w', ep, ss, rfl, el, ok⟩
    refine ⟨_, rfl, fun Kn Ky hn hy => ?_⟩
    have hdl : done.length ≤ 2 := by
      have := congrArg List.length e
      simp at this
      omega
    simp only [s_yes, if_true, s_call, s_cons, s_nil, s_var]
    refine ⟨_, rfl, p_lstand w' (by omega) fun s S3 os f3 w3 => ?_⟩
    have ep3 := f3.at ep (by simpa using hwp.symm)
    have fp : Fm [p] S3 (S3.set p (.lst (ss.map stnD ++ [stnD s]))) := .set (by simp)
    refine hy _ _ ep3 ⟨fm_in (p := p) (A := [wl]) (((fm.trans f3).mono (by simp)).trans (fp.mono (by simp))) hp, (w3.fm fp (by simpa using hwp)).le (by simp; omega), Sto.set_same, ss ++ [s], by simp, by simp [el], fun x hx => ?_⟩
    rcases List.mem_append.mp hx with hx | hx
    · exact ok x hx
    · rw [List.mem_singleton.mp hx]; exact os
  · rintro acc S3 ⟨fm, w', ep, ss, rfl, el, ok⟩
    simp at el
    have f3 : Fm [wl] S2 (S3.del p) := fm_del fm hp
    have w3 : Wel (S3.del p) wl (c + 2 + 90) := by
      obtain ⟨x, y, z, e, r⟩ := w'
      exact ⟨x, y, z, by rw [Sto.del_ne hwp]; exact e, r.1, r.2.1, r.2.2.1, by have := r.2.2.2; simp at this; omega⟩
    have hq3 := f3.at hq2 (by simpa using hne.symm)
    have hlen : 1 ≤ ss.length ∧ ss.length ≤ 3 := by omega
    simp only [lcEnd]
    clear w' ep fm
    generalize S3.del p = S4 at f3 w3 hq3 ⊢
    refine (show later _ [some (.ref wl), some (.int ev), some (.int lk), some vw, some (.ref q), some vi, some (.int s), some (.lst (ss.map stnD)), c8, none, none] S4 E XE from ?_)
    refine later_of ?_
    simp only [s_seqL, s_set, s_fun, s_lc, s_src, s_lst, s_cons, s_c, s_nil]
    refine ⟨by decide, _, none, rfl, fun p2 hp2 => ?_⟩
    have hwp2 := w3.ne hp2
    refine (show lcL none _ _ _ p2 _ ([20, 0, 59, 7].map D.int) _ _ _ from ?_)
    refine lc_gen (fun done acc S' => Fm [wl] S4 S' ∧ Wel S' wl (c + 92 + 2 * (done.length : Int)) ∧ S' p2 = some (.lst acc) ∧ ∃ ss : List (Int × Int), acc = ss.map (fun p => .tup [.int p.1, .int p.2]) ∧ ss.length ≤ done.length) (by simp) (fun _ _ _ _ => trivial) (fun done acc S' hh => ⟨hh.2.2.1, by obtain ⟨_, _, _, ss, rfl, e⟩ := hh; simpa using e⟩) ?_ ⟨(Fm.new (A := []) hp2).mono (by simp), ((w3.fm (Fm.new (A := []) hp2) (by simp)).le (by simp; omega)), Sto.set_same, [], rfl, by simp⟩ ?_
    · rintro done x rest acc S' e ⟨fm, w', ep, sn, rfl, el⟩
      refine ⟨_, rfl, fun Kn Ky hn hy => ?_⟩
      have hdl : done.length ≤ 3 := by
        have := congrArg List.length e
        simp at this
        omega
      simp only [s_B, s_op, s_call, s_cons, s_var, s_c, s_nil]
      refine ⟨_, rfl, p_draw w' (by omega) (by decide) (by decide) fun d S5 d0 d1 f5 w5 => ?_⟩
      have ep5 := f5.at ep (by simpa using hwp2.symm)
      rw [f_eqI]
      refine ⟨_, rfl, ?_⟩
      by_cases cd : d = 0
      · simp only [cd, decide_true, Bool.false_xor, if_true, s_tup, s_cons, s_var, s_op, s_call, s_c, s_nil]
        refine ⟨_, rfl, _, rfl, _, rfl, ?_⟩
        rw [f_addI]
        refine p_draw w5 (by omega) (by omega) (by omega) fun v S6 v0 v1 f6 w6 => ⟨sz_2, ?_⟩
        have ep6 := f6.at ep5 (by simpa using hwp2.symm)
        have fp : Fm [p2] S6 (S6.set p2 (.lst (sn.map (fun p => .tup [.int p.1, .int p.2]) ++ [.tup [.int x, .int v]]))) := .set (by simp)
        refine hy _ _ ep6 ⟨fm_in (p := p2) (A := [wl]) ((((fm.trans f5).trans f6).mono (by simp)).trans (fp.mono (by simp))) hp2, (w6.fm fp (by simpa using hwp2)).le (by simp; omega), Sto.set_same, sn ++ [(x, v)], by simp, by simp; omega⟩
      · simp only [cd, decide_false, Bool.false_xor, Bool.false_eq_true, if_false]
        exact hn _ ⟨fm.trans f5, w5.le (by simp; omega), ep5, sn, rfl, by simp; omega⟩
    · rintro acc S5 ⟨fm, w', ep, sn, rfl, el⟩
      simp at el
      have f5 : Fm [wl] S4 (S5.del p2) := fm_del fm hp2
      have w5 : Wel (S5.del p2) wl (c + 100) := by
        obtain ⟨x, y, z, e, r⟩ := w'
        exact ⟨x, y, z, by rw [Sto.del_ne hwp2]; exact e, r.1, r.2.1, r.2.2.1, by have := r.2.2.2; simp at this; omega⟩
      have hq5 := f5.at hq3 (by simpa using hne.symm)
      have dl := dictM_len sn
      simp only [lcEnd]
      clear w' ep fm
      generalize S5.del p2 = S6 at f5 w5 hq5 ⊢
      refine ⟨_, pairL_ints sn, ?_⟩
      rw [show mergeD [] (dK D.int sn) = dK D.int (dictM sn) from merge_dK sn []]
      refine ⟨sz1000 (by rw [len_dK]; omega), later_of ?_⟩
      simp only [s_expr, s_mt, s_cons, s_var, s_tup, s_nil]
      refine ⟨_, rfl, tyM_refL hq5, _, rfl, _, rfl, _, rfl, sz_3, q, _, _, rfl, rfl, hq5, sz1001 (by simp; omega), ?_⟩
      have fq : Fm [q] S6 (S6.set q (.lst (ps.map potD ++ [potD ⟨s, ss, dictM sn⟩]))) := .set (by simp)
      refine h ⟨s, ss, dictM sn⟩ _ _ _ _ ⟨(by show s = 0 ∨ s = 1; omega), hlen, ok, (by show (dictM sn).length ≤ 4; omega)⟩ ?_ ((w5.fm fq (by simpa using hne)).le (by omega)) ?_
      · exact (((((f1.trans f2).trans f3).trans f5).mono (by simp)).trans (fq.mono (by simp)))
      · rw [List.map_append]
        exact Sto.set_same
end
end L35
end

section
set_option Elab.async false
set_option linter.all false
set_option maxRecDepth 100000
set_option autoImplicit false
namespace L35
open SB PySem PySem.Spec L2
section
variable {S S0 : Sto} {R : Pd} {RE : Px}
theorem sub_seen {p : Addr} {d : D} (m : List (Int × Int)) : sb p d (seenD m) = seenD m := by
  have : ∀ m : List (Int × Int), subK p d (dK D.int m) = dK D.int m := fun m => by
    induction m with
    | nil => simp [dK, subK]
    | cons x m ih =>
      unfold dK at ih ⊢
      rw [List.map_cons, subK, ih, sb]
  unfold seenD
  rw [sb, this]
theorem pl_tsD (s : Stn) : pl (tsD s) = true := plL_map fun _ _ => rfl
theorem pl_stnD (s : Stn) : pl (stnD s) = true := by simp [stnD, shD, pl_tsD]
theorem sub_pots {p : Addr} {d : D} : ∀ ps : List Pot, subL p d (ps.map potD) = ps.map potD
  | [] => by simp [subL]
  | x :: ps => by
    have h : subL p d (x.sts.map stnD) = x.sts.map stnD := (sb_pl p d).2 _ (plL_map fun _ _ => pl_stnD _)
    rw [List.map_cons, subL, sub_pots ps, potD]
    simp only [sb, subL, h, sub_seen]
theorem ret_par {p : Addr} {ev lk : Int} {ws : List Int} {ps : List Pot} (e : S p = some (.lst (ps.map potD))) (h : R (parD ⟨ev, lk, ws, ps⟩) (S.del p)) : Rz R (.tup [.int ev, .int lk, .lst (ws.map .int), .ref p]) S := by
  have f1 := Frz.sub (x := .tup [.int ev, .int lk, .lst (ws.map .int), .ref p]) e rfl
  have hp : subL p (.lst (ps.map potD)) (ws.map D.int) = ws.map D.int := (sb_pl p _).2 _ (plL_map fun _ _ => rfl)
  simp only [sb, subL, hp, if_true] at f1
  exact ⟨_, _, f1, h⟩
theorem p_lview {wl : Addr} {c : Int} (w : Wel S wl c) (hc : c ≤ 700000) (h : ∀ P S', ParOk P → Fm [wl] S S' → Wel S' wl (c + 400) → R (parD P) S') : φ__law_view [.ref wl] S R RE := by
  refine ⟨rfl, ?_⟩
  simp only [w__law_view, startE, N__law_view, s_seqL, s_set, s_op, s_call, s_cons, s_var, s_c, s_nil]
  refine ⟨_, rfl, p_draw w (by omega) (by decide) (by decide) fun ev S1 ev0 ev1 f1 w1 => ?_⟩
  rw [f_addI]
  refine later_of ?_
  simp only [s_seqL, s_set, s_op, s_call, s_cons, s_var, s_c, s_nil]
  refine ⟨_, rfl, p_draw w1 (by omega) (by decide) (by decide) fun lk S2 lk0 lk1 f2 w2 => later_of ?_⟩
  simp only [s_seqL, s_set, s_lc, s_src, s_lst, s_cons, s_c, s_nil]
  refine ⟨by decide, _, none, rfl, fun p2 hp2 => ?_⟩
  have hwp2 := w2.ne hp2
  refine (show lcL none _ _ _ p2 _ ([0, 7, 20, 59].map D.int) _ _ _ from ?_)
  refine lc_gen (fun done acc S' => Fm [wl] S2 S' ∧ Wel S' wl (c + 2 + (done.length : Int)) ∧ S' p2 = some (.lst acc) ∧ ∃ ss : List Int, acc = ss.map .int ∧ ss.length ≤ done.length) (by simp) (fun _ _ _ _ => trivial) (fun done acc S' hh => ⟨hh.2.2.1, by obtain ⟨_, _, _, ss, rfl, e⟩ := hh; simpa using e⟩) ?_ ⟨(Fm.new (A := []) hp2).mono (by simp), ((w2.fm (Fm.new (A := []) hp2) (by simp)).le (by simp; omega)), Sto.set_same, [], rfl, by simp⟩ ?_
  · rintro done x rest acc S' e ⟨fm, w', ep, ws, rfl, el⟩
    refine ⟨_, rfl, fun Kn Ky hn hy => ?_⟩
    have hdl : done.length ≤ 3 := by
      have := congrArg List.length e
      simp at this
      omega
    simp only [s_B, s_op, s_call, s_cons, s_var, s_c, s_nil]
    refine ⟨_, rfl, p_draw w' (by omega) (by decide) (by decide) fun d S5 d0 d1 f5 w5 => ?_⟩
    have ep5 := f5.at ep (by simpa using hwp2.symm)
    rw [f_eqI]
    refine ⟨_, rfl, ?_⟩
    by_cases cd : d = 0
    · simp only [cd, decide_true, Bool.false_xor, if_true, s_var]
      refine ⟨_, rfl, ?_⟩
      have fp : Fm [p2] S5 (S5.set p2 (.lst (ws.map .int ++ [.int x]))) := .set (by simp)
      refine hy _ _ ep5 ⟨fm_in (p := p2) (A := [wl]) (((fm.trans f5).mono (by simp)).trans (fp.mono (by simp))) hp2, (w5.fm fp (by simpa using hwp2)).le (by simp; omega), Sto.set_same, ws ++ [x], by simp, by simp; omega⟩
    · simp only [cd, decide_false, Bool.false_xor, Bool.false_eq_true, if_false]
      exact hn _ ⟨fm.trans f5, w5.le (by simp; omega), ep5, ws, rfl, by simp; omega⟩
  · rintro acc S3 ⟨fm, w', ep, ws, rfl, el⟩
    simp at el
    have f3 : Fm [wl] S2 (S3.del p2) := fm_del fm hp2
    have w3 : Wel (S3.del p2) wl (c + 6) := by
      obtain ⟨x, y, z, e, r⟩ := w'
      exact ⟨x, y, z, by rw [Sto.del_ne hwp2]; exact e, r.1, r.2.1, r.2.2.1, by have := r.2.2.2; simp at this; omega⟩
    simp only [lcEnd]
    clear w' ep fm
    generalize S3.del p2 = S4 at f3 w3 ⊢
    refine later_of ?_
    simp only [s_seqL, s_set, s_lst, s_nil]
    refine ⟨by decide, fun q hq => later_of ?_⟩
    have hne := w3.ne hq
    have fall : Fm [wl] S S4 := (f1.trans f2).trans f3
    have hq0 : S q = none := by
      by_cases c : S q = none
      · exact c
      · have := fall q (by simpa using hne.symm) c
        rw [this] at hq
        exact absurd hq c
    have f4 : Fm [wl] S (S4.set q (.lst [])) := fall.trans ((Fm.new (A := []) hq).mono (by simp))
    have w4 : Wel (S4.set q (.lst [])) wl (c + 6) := w3.fm (Fm.new (A := []) hq) (by simp)
    have hq4 : (S4.set q (.lst [])) q = some (.lst (([] : List Pot).map potD)) := Sto.set_same
    generalize S4.set q (.lst []) = S5 at f4 w4 hq4 ⊢
    simp only [s_seqL, s_for, s_range, s_op, s_call, s_cons, s_var, s_c, s_nil]
    refine ⟨_, rfl, p_draw w4 (by omega) (by decide) (by decide) fun k S6 k0 k1 f6 w6 => ?_⟩
    have hq6 := f6.at hq4 (by simpa using hne.symm)
    rw [f_addI]
    refine ⟨1 + k, rfl, by omega, by omega, ?_⟩
    rw [rngD_range]
    refine for_inv (gd := none) (fun done ς' S' => Fm [wl] S S' ∧ Wel S' wl (c + 7 + 110 * (done.length : Int)) ∧ (∃ ps : List Pot, S' q = some (.lst (ps.map potD)) ∧ ps.length = done.length ∧ ∀ x ∈ ps, PotOk x) ∧ ∃ c5 c6 c7 c8, ς' = [some (.ref wl), some (.int (1 + ev)), some (.int lk), some (.lst (ws.map .int)), some (.ref q), c5, c6, c7, c8, none, none]) (fun _ _ _ _ => trivial) ?_ ⟨f4.trans f6, w6.le (by simp; omega), ⟨[], hq6, rfl, by simp⟩, _, _, _, _, rfl⟩ ?_
    · rintro done x rest ς' S' e ⟨fm, w', ⟨ps, eq, el, ok⟩, c5, c6, c7, c8, rfl⟩
      refine ⟨_, rfl, fun K hK => ?_⟩
      have hdl : done.length ≤ 2 := by
        have := congrArg List.length e
        simp at this
        omega
      refine (show potB _ _ _ _ from ?_)
      refine pot_turn w' (by omega) hne eq (by omega) lk0 (by omega) fun p S7 c6 c7 c8 op f7 w7 e7 => ?_
      refine hK _ _ ⟨fm_in (p := q) (A := [wl]) ((fm.mono (by simp)).trans (f7.mono (by simp))) hq0, w7.le (by simp; omega), ⟨ps ++ [p], e7, by simp [el], fun x hx => ?_⟩, _, _, _, _, rfl⟩
      rcases List.mem_append.mp hx with hx | hx
      · exact ok x hx
      · rw [List.mem_singleton.mp hx]; exact op
    · rintro ς' S' ⟨fm, w', ⟨ps, eq, el, ok⟩, c5, c6, c7, c8, rfl⟩
      simp at el
      dsimp only
      refine later_of ?_
      simp only [s_ret, s_tup, s_cons, s_var, s_nil]
      refine ⟨_, rfl, _, rfl, _, rfl, _, rfl, sz_4, ?_⟩
      refine ret_par eq (h _ _ ⟨(by show 1 ≤ 1 + ev; omega), (by show ws.length ≤ 4; omega), (by show 1 ≤ ps.length ∧ ps.length ≤ 3; omega), ok⟩ (fm_del fm hq0) ?_)
      obtain ⟨x, y, z, e, r⟩ := w'
      exact ⟨x, y, z, by rw [Sto.del_ne hne]; exact e, r.1, r.2.1, r.2.2.1, by have := r.2.2.2; simp at this; omega⟩
end
end L35
end

section
set_option Elab.async false
set_option linter.all false
set_option maxRecDepth 100000
set_option autoImplicit false
namespace L35
open SB PySem PySem.Spec L2
theorem keys_putM {α : Type} {w : Int} {x : α} {m : List (Int × α)} : (putM w x m).map Prod.fst = if w ∈ m.map Prod.fst then m.map Prod.fst else m.map Prod.fst ++ [w] := by
  have e : (m.any fun p => decide (p.1 = w)) = true ↔ w ∈ m.map Prod.fst := by
    simp
  unfold putM
  by_cases c : w ∈ m.map Prod.fst
  · rw [if_pos (e.mpr c), if_pos c, List.map_map]
    congr 1
    funext p
    simp only [Function.comp]
    split <;> rfl
  · rw [if_neg (fun z => c (e.mp z)), if_neg c]
    simp
theorem nd_putM {α : Type} {w : Int} {x : α} {m : List (Int × α)} (h : (m.map Prod.fst).Nodup) : ((putM w x m).map Prod.fst).Nodup := by
  rw [keys_putM]
  split
  · exact h
  · rename_i c
    rw [List.nodup_append]
    refine ⟨h, by simp, fun a ha b hb e => ?_⟩
    simp at hb
    subst hb
    exact c (e ▸ ha)
theorem mem_putM {α : Type} {w : Int} {x : α} {m : List (Int × α)} {p : Int × α} (h : p ∈ putM w x m) : p ∈ m ∨ p = (w, x) := by
  unfold putM at h
  split at h
  · obtain ⟨q, hq, rfl⟩ := List.mem_map.mp h
    by_cases e : q.1 = w
    · right; rw [if_pos e, e]
    · left; rw [if_neg e]; exact hq
  · rcases List.mem_append.mp h with h | h
    · exact .inl h
    · exact .inr (List.mem_singleton.mp h)
theorem TolOk.mono {n : Int} {ch : List Int} {m : List (Int × Option Int)} {j k : Nat} (T : TolOk n ch m j) (h : j ≤ k) : TolOk n ch m k := by
  obtain ⟨a, b, c, d, e, f, g, i⟩ := T
  exact ⟨by omega, by omega, by omega, d, by omega, f, g, i⟩
theorem TolOk.put {n : Int} {ch : List Int} {m : List (Int × Option Int)} {j : Nat} (T : TolOk n ch m j) {w : Int} {o : Option Int} (w0 : 0 ≤ w) (w1 : w ≤ 100) (ho : ∀ v, o = some v → 0 ≤ v ∧ v ≤ 100) : TolOk n ch (putM w o m) (j + 1) := by
  obtain ⟨a, b, c, d, e, f, g, i⟩ := T
  refine ⟨by omega, by omega, by omega, d, ?_, fun p hp => ?_, fun p hp => ?_, nd_putM i⟩
  · have := putM_len (w := w) (x := o) (m := m); omega
  · rcases mem_putM hp with hp | rfl
    · exact f p hp
    · exact ⟨w0, w1⟩
  · rcases mem_putM hp with hp | rfl
    · exact g p hp
    · exact ho
theorem sum_bd {α : Type} {f : α → Int} {b : Int} (h0 : 0 ≤ b) : ∀ l : List α, (∀ x ∈ l, 0 ≤ f x ∧ f x ≤ b) → 0 ≤ (l.map f).sum ∧ (l.map f).sum ≤ b * l.length
  | [], _ => by simp
  | x :: l, h => by
    have h1 := h x List.mem_cons_self
    have h2 := sum_bd h0 l fun y hy => h y (List.mem_cons_of_mem _ hy)
    rw [List.map_cons, List.sum_cons, List.length_cons]
    have : b * ((l.length + 1 : Nat) : Int) = b * l.length + b := by
      rw [Int.natCast_add, Int.mul_add]
      simp
    omega
theorem own_bd {P : Par} {ch : List Int} (ok : ParOk P) (hi : InR P ch) : 0 ≤ own P ch ∧ own P ch ≤ 150 := by
  have h := sum_bd (f := fun x : Pot × Int => share (stAt x.1 x.2) x.1.s) (b := 50) (by omega) (P.ps.zip ch) fun x hx => by
    obtain ⟨_, os⟩ := stAt_ok ok hi hx
    have a := os.l0; have b := os.l1; have c := os.r0; have d := os.r1
    unfold share
    split <;> omega
  have hz := zip_len (ch := ch) ok
  unfold own ownZ
  omega
theorem row_ok {P : Par} {ch : List Int} (ok : ParOk P) (hi : InR P ch) : ∀ r ∈ rowsOf P ch, TieOk r.2 := fun r hr => by
  obtain ⟨x, hx, hr⟩ := List.mem_flatMap.mp hr
  obtain ⟨t, ht, rfl⟩ := List.mem_map.mp hr
  exact (stAt_ok ok hi hx).2.ok t ht
theorem sum_ok {P : Par} {ch : List Int} {m : List (Int × Option Int)} (ok : ParOk P) (hi : InR P ch) : 0 ≤ sumR P.ev (rowsOf P ch) m ∧ sumR P.ev (rowsOf P ch) m ≤ 240 := by
  have h := sum_bd (f := fun r : Kd × Tie => contr P.ev r ((m.lookup r.2.w).getD none)) (b := 20) (by omega) (rowsOf P ch) fun r hr => by
    have t := row_ok ok hi r hr
    have a := t.a0; have b := t.a1
    obtain ⟨k, t⟩ := r
    simp only at a b
    cases k with
    | no => simp [contr]
    | co => simp [contr]; omega
    | op =>
      simp only [contr]
      unfold dayP
      split
      · omega
      · split <;> omega
    | ha =>
      simp only [contr]
      unfold dayH
      split
      · omega
      · split <;> omega
  have hl := rows_len ok hi
  unfold sumR
  omega
section
variable {S S0 : Sto} {R : Pd} {RE : Px} {P : Par}
theorem ret_tol' {p : Addr} {n : Int} {c : List Int} {m : List (Int × Option Int)} (e : S p = some (.dct (dK oD m))) (h : R (tolD n c m) (S.del p)) : Rz R (.tup [.int n, chD c, .ref p]) S := by
  have f1 := Frz.sub (x := .tup [.int n, chD c, .ref p]) e rfl
  have hp : pl (chD c) = true := plL_map fun _ _ => rfl
  rw [sb, subL, subL, subL, subL, sb, (sb_pl p _).1 _ hp, sb, if_pos rfl] at f1
  exact ⟨_, _, f1, h⟩
theorem Wel.del {S : Sto} {wl p : Addr} {c : Int} (w : Wel S wl c) (h : wl ≠ p) : Wel (S.del p) wl c := by
  obtain ⟨x, y, z, e, r⟩ := w
  exact ⟨x, y, z, by rw [Sto.del_ne h]; exact e, r⟩
theorem zip_snoc {ps done rest : List Pot} {x : Pot} {cs : List Int} (hl : cs.length = done.length) (d : Int) : (done ++ [x]).zip (cs ++ [d]) = done.zip cs ++ [(x, d)] := by
  rw [List.zip_append hl.symm]; rfl
theorem p_right_paper {wl : Addr} {c : Int} (ok : ParOk P) (w : Wel S wl c) (hc : c ≤ 700000) (h : ∀ n ch m S', TolOk n ch m 0 → Fm [wl] S S' → Wel S' wl (c + 30) → R (tolD n ch m) S') : φ__law_right_paper [.ref wl, parD P] S R RE := by
  have hpl := ok.len
  refine ⟨rfl, ?_⟩
  simp only [w__law_right_paper, startE, N__law_right_paper, s_seqL, s_set, s_lc, s_src]
  refine pots_of rfl _ ?_
  refine ⟨_, none, rfl, fun p hp => ?_⟩
  have hwp := w.ne hp
  refine lc_gen (fun done acc S' => Fm [wl] S S' ∧ Wel S' wl (c + (done.length : Int)) ∧ S' p = some (.lst acc) ∧ ∃ cs : List Int, acc = cs.map .int ∧ cs.length = done.length ∧ ∀ x ∈ done.zip cs, 0 ≤ x.2 ∧ x.2 < x.1.sts.length) (by omega) (fun _ _ _ _ => trivial) (fun done acc S' hh => ⟨hh.2.2.1, by obtain ⟨_, _, _, ss, rfl, e, _⟩ := hh; simp [e]⟩) ?_ ⟨(Fm.new (A := []) hp).mono (by simp), ((w.fm (Fm.new (A := []) hp) (by simp)).le (by simp)), Sto.set_same, [], rfl, rfl, by simp⟩ ?_
  · rintro done x rest acc S' e ⟨fm, w', ep, cs, rfl, el, ir⟩
    refine ⟨_, rfl, fun Kn Ky hn hy => ?_⟩
    have hdl : done.length ≤ 2 := by
      have := congrArg List.length e
      simp at this
      omega
    have ox := (ok.ok x (by rw [e]; simp)).len
    simp only [s_yes, if_true, s_call, s_cons, s_nil, s_var, s_fun]
    refine ⟨_, rfl, _, rfl, ?_⟩
    refine (show fLen [.lst (x.sts.map stnD)] S' _ from ?_)
    rw [f_lenL]
    refine p_draw w' (by omega) (by simp; omega) (by simp; omega) fun d S3 d0 d1 f3 w3 => ?_
    have ep3 := f3.at ep (by simpa using hwp.symm)
    have fp : Fm [p] S3 (S3.set p (.lst (cs.map .int ++ [.int d]))) := .set (by simp)
    refine hy _ _ ep3 ⟨fm_in (p := p) (A := [wl]) (((fm.trans f3).mono (by simp)).trans (fp.mono (by simp))) hp, (w3.fm fp (by simpa using hwp)).le (by simp; omega), Sto.set_same, cs ++ [d], by simp, by simp [el], fun y hy => ?_⟩
    rw [List.zip_append el.symm] at hy
    rcases List.mem_append.mp hy with hy | hy
    · exact ir y hy
    · simp at hy
      subst hy
      exact ⟨d0, by simpa using d1⟩
  · rintro acc S3 ⟨fm, w', ep, cs, rfl, el, ir⟩
    have f3 : Fm [wl] S (S3.del p) := fm_del fm hp
    have w3 : Wel (S3.del p) wl (c + 3) := (w'.del hwp).le (by omega)
    simp only [lcEnd]
    clear w' ep fm
    generalize S3.del p = S4 at f3 w3 ⊢
    refine later_of ?_
    have hi : InR P cs := ir
    have hrl := rows_len ok hi
    simp only [s_seqL, s_asg, s_call, s_cons, s_var, s_nil]
    refine ⟨_, rfl, _, rfl, p_rows ok hi ⟨_, rfl, later_of ?_⟩⟩
    simp only [s_seqL, s_set, wDict0, f_mkDo]
    refine ⟨by decide, fun f hf => later_of ?_⟩
    have hwf := w3.ne hf
    have hf0 : S f = none := by
      by_cases c : S f = none
      · exact c
      · have := f3 f (by simpa using hwf.symm) c
        rw [this] at hf
        exact absurd hf c
    have f4 : Fm [wl] S (S4.set f (.dct [])) := f3.trans ((Fm.new (A := []) hf).mono (by simp))
    have w4 : Wel (S4.set f (.dct [])) wl (c + 3) := w3.fm (Fm.new (A := []) hf) (by simp)
    have hf4 : (S4.set f (.dct [])) f = some (.dct (dK oD [])) := Sto.set_same
    generalize S4.set f (.dct []) = S5 at f4 w4 hf4 ⊢
    simp only [s_seqL, s_for, s_src, s_un, wSortSet, s_lc, s_var]
    refine ⟨_, rfl, _, none, rfl, fun p hp => ?_⟩
    refine lc_map (fun r => .int r.2.w) (sz1000 (by omega)) (fun r hr => ⟨_, rfl, fun S R k => ?_⟩) ?_ p hp
    · simp [wipeE, rowD, L2.atI, L2.ixN]; exact k
    refine ⟨_, (rowsOf P cs).map fun r => r.2.w, rfl, intL_mapF fun _ _ => rfl, by simp; omega, fun ms h1 h2 => ?_⟩
    have hn : ms.Nodup := h1.imp fun h => by omega
    have hms : ms.length ≤ 12 := by
      have hle : ∀ (l k : List Int), l.Nodup → (∀ x ∈ l, x ∈ k) → l.length ≤ k.length := by
        intro l
        induction l with
        | nil => intro k _ _; simp
        | cons x l ih =>
          intro k hn hs
          rw [List.nodup_cons] at hn
          obtain ⟨A, B, rfl⟩ := List.append_of_mem (hs x List.mem_cons_self)
          have := ih (A ++ B) hn.2 fun y hy => by
            have h1 := hs y (List.mem_cons_of_mem _ hy)
            have h2 : y ≠ x := fun z => hn.1 (z ▸ hy)
            simp [h2] at h1 ⊢
            exact h1
          simp at this ⊢
          omega
      have := hle ms _ hn fun x hx => (h2 x).mp hx
      simp at this
      omega
    refine ⟨sz1000 (by simp; omega), _, rfl, ?_⟩
    refine ⟨sz1000 (by simp; omega), _, none, rfl, ?_⟩
    have er : ms.reverse.Nodup := by
      rw [List.Nodup, List.pairwise_reverse]
      exact hn.imp fun h => h.symm
    rw [← List.map_reverse]
    refine for_inv (gd := none) (fun done ς' S' => Fm [wl] S S' ∧ Wel S' wl (c + 3 + (done.length : Int)) ∧ (∃ m : List (Int × Option Int), S' f = some (.dct (dK oD m)) ∧ m.map Prod.fst = done ∧ ∀ p ∈ m, p.2 ∈ fatesO (rowsOf P cs) p.1) ∧ ∃ c6 c7 c8 c9 c10, ς' = [some (.ref wl), some (parD P), some (chD cs), some (.int (own P cs)), some (rowsD (rowsOf P cs)), some (.ref f), c6, c7, c8, c9, c10]) (fun _ _ _ _ => trivial) ?_ ⟨f4, w4.le (by simp), ⟨[], hf4, rfl, by simp⟩, _, _, _, _, _, rfl⟩ ?_
    · rintro done x rest ς' S' e ⟨fm, w', ⟨m, em, ek, hv⟩, c6, c7, c8, c9, c10, rfl⟩
      refine ⟨_, rfl, fun K hK => ?_⟩
      have hdl : done.length ≤ 11 := by
        have := congrArg List.length e
        simp at this
        omega
      have hx : x ∉ m.map Prod.fst := by
        rw [ek]
        rw [e, List.nodup_append] at er
        exact fun z => er.2.2 x z x List.mem_cons_self rfl
      simp only [s_setI, s_call, s_cons, s_var, s_nil]
      refine ⟨_, rfl, _, rfl, _, rfl, ?_⟩
      refine p_fates (by omega) ?_
      have fl : (fatesO (rowsOf P cs) x).length ≤ 13 := by
        have := List.length_filter_le (fun r : Kd × Tie => decide (r.1 = .op) && decide (r.2.w = x)) (rowsOf P cs)
        unfold fatesO
        simp only [List.length_cons, List.length_map]
        omega
      refine p_one w' (by omega) (by simp [fatesO]) (by simp; omega) fun y S6 hy f6 w6 => ?_
      obtain ⟨o, ho, rfl⟩ := List.mem_map.mp hy
      have em6 := f6.at em (by simpa using hwf.symm)
      refine ⟨_, rfl, _, rfl, f, rfl, ?_⟩
      rw [em6]
      have hml : m.length ≤ 11 := by
        have := congrArg List.length ek
        simp at this
        omega
      refine ⟨_, rfl, sz1001 (by rw [len_dK]; omega), ?_⟩
      rw [put_dK]
      have eo : putM x o m = m ++ [(x, o)] := putM_out fun p hp z => hx (z ▸ List.mem_map_of_mem hp)
      have fq : Fm [f] S6 (S6.set f (.dct (dK oD (putM x o m)))) := .set (by simp)
      refine hK _ _ ⟨fm_in (p := f) (A := [wl]) (((fm.trans f6).mono (by simp)).trans (fq.mono (by simp))) hf0, (w6.fm fq (by simpa using hwf)).le (by simp; omega), ⟨_, Sto.set_same, ?_, ?_⟩, _, _, _, _, _, rfl⟩
      · rw [eo, List.map_append, ek]
        rfl
      · rw [eo]
        intro p hp
        rcases List.mem_append.mp hp with hp | hp
        · exact hv p hp
        · rw [List.mem_singleton.mp hp]; exact ho
    · rintro ς' S' ⟨fm, w', ⟨m, em, ek, hv⟩, c6, c7, c8, c9, c10, rfl⟩
      simp at w'
      dsimp only
      refine later_of ?_
      have hk : ∀ r ∈ rowsOf P cs, r.2.w ∈ m.map Prod.fst := fun r hr => by
        rw [ek, List.mem_reverse]
        exact (h2 _).mpr (List.mem_map.mpr ⟨r, hr, rfl⟩)
      simp only [s_ret, s_tup, s_cons, s_call, s_var, s_nil]
      refine ⟨_, rfl, _, rfl, _, rfl, ?_⟩
      refine p_sumV (m := m) (fun w R => ?_) ok hi hk ?_
      · rw [f_ixRI em, look_dK]
        cases m.lookup w <;> simp
      refine ⟨_, rfl, _, rfl, sz_3, ret_tol' em (h _ _ _ _ ?_ (fm_del fm hf0) ((w'.del hwf).le (by omega)))⟩
      obtain ⟨o0, o1⟩ := own_bd ok hi
      obtain ⟨s0, s1⟩ := sum_ok (m := m) ok hi
      have hml := congrArg List.length ek
      simp at hml
      refine ⟨by omega, by omega, by omega, fun x hx => ?_, by omega, fun p hp => ?_, fun p hp v hv' => ?_, by rw [ek]; exact er⟩
      · obtain ⟨i, hi1, hi2⟩ := List.mem_iff_getElem.mp hx
        have hz : (P.ps[i]'(by omega), cs[i]) ∈ P.ps.zip cs := by
          rw [List.mem_iff_getElem]
          exact ⟨i, by simp; omega, by simp⟩
        have q1 := hi _ hz
        have q2 := (ok.ok _ (List.of_mem_zip hz).1).len
        simp only at q1 q2
        rw [← hi2]
        omega
      · have : p.1 ∈ ms := by
          have := List.mem_map_of_mem (f := Prod.fst) hp
          rw [ek, List.mem_reverse] at this
          exact this
        obtain ⟨r, hr, e⟩ := List.mem_map.mp ((h2 _).mp this)
        have t := row_ok ok hi r hr
        have a := t.w0; have b := t.w1
        omega
      · have := hv p hp
        rw [hv'] at this
        simp [fatesO] at this
        obtain ⟨k, t, ⟨hr, _⟩, rfl⟩ := this
        have tt := row_ok ok hi _ hr
        have a := tt.d0; have b := tt.d1
        simp only at a b
        omega
end
end L35
end

section
set_option Elab.async false
set_option linter.all false
set_option maxRecDepth 100000
set_option autoImplicit false
set_option maxHeartbeats 4000000
namespace L35
open SB PySem PySem.Spec L2
theorem drop_dK {α : Type} {g : α → D} {w : Int} {m : List (Int × α)} : dropD (.inl w) (dK g m) = dK g (m.filter fun p => decide (p.1 ≠ w)) := by
  unfold dropD dK
  rw [List.filter_map]
  congr 2
  funext p
  simp [inl_eq]
theorem TolOk.drop {n : Int} {ch : List Int} {m : List (Int × Option Int)} {j : Nat} (T : TolOk n ch m j) (w : Int) : TolOk n ch (m.filter fun p => decide (p.1 ≠ w)) j := by
  obtain ⟨a, b, c, d, e, f, g, i⟩ := T
  refine ⟨a, b, c, d, ?_, fun p hp => f p (List.mem_filter.mp hp).1, fun p hp => g p (List.mem_filter.mp hp).1, ?_⟩
  · have := List.length_filter_le (fun p : Int × Option Int => decide (p.1 ≠ w)) m
    omega
  · exact i.sublist ((List.filter_sublist).map Prod.fst)
theorem TolOk.num {n : Int} {ch : List Int} {m : List (Int × Option Int)} {j : Nat} (T : TolOk n ch m j) {x : Int} (h0 : -20 ≤ x) (h1 : x ≤ 20) : TolOk (n + x) ch m (j + 1) := by
  obtain ⟨a, b, c, d, e, f, g, i⟩ := T
  exact ⟨by omega, by omega, by omega, d, by omega, f, g, i⟩
theorem TolOk.cho {n : Int} {ch ch' : List Int} {m : List (Int × Option Int)} {j : Nat} (T : TolOk n ch m j) (h0 : ch'.length ≤ ch.length + 1) (h1 : ∀ x ∈ ch', -100 ≤ x ∧ x ≤ 100) : TolOk n ch' m (j + 1) := by
  obtain ⟨a, b, c, d, e, f, g, i⟩ := T
  exact ⟨by omega, by omega, by omega, h1, by omega, f, g, i⟩
theorem lookup_mem {α : Type} {w : Int} {o : α} : ∀ {m : List (Int × α)}, m.lookup w = some o → (w, o) ∈ m
  | (v, x) :: m, h => by
    rw [List.lookup_cons] at h
    by_cases e : w = v
    · subst e; simp at h; subst h; simp
    · rw [show (w == v) = false from by simpa using e] at h
      exact List.mem_cons_of_mem _ (lookup_mem h)
section
variable {S : Sto} {R : Pd} {RE : Px}
theorem f_eqIntsE {neg : Bool} {l : List Int} (h : R (.bl (neg ^^ decide (l = []))) S) : fEq neg (.lst (l.map .int)) (.lst []) S R := by
  refine f_eqInts (m := []) fun b hb => ?_
  have : b = decide (l = []) := by rw [Bool.eq_iff_iff, hb]; simp
  rw [this]; exact h
def cutI (l : List Int) (lo hi : Option Int) : List Int := (l.drop (HT.sIx l.length 0 lo)).take (HT.sIx l.length l.length hi - HT.sIx l.length 0 lo)
theorem cutI_len {l : List Int} {lo hi : Option Int} : (cutI l lo hi).length ≤ l.length := by
  unfold cutI
  rw [List.length_take, List.length_drop]
  omega
theorem cutI_mem {l : List Int} {lo hi : Option Int} {x : Int} (h : x ∈ cutI l lo hi) : x ∈ l := List.mem_of_mem_drop (List.mem_of_mem_take h)
theorem f_slCh {l : List Int} {lo hi : Option Int} (hl : l.length ≤ 1000) (h : R (chD (cutI l lo hi)) S) : fSl false (chD l) lo hi S R := by
  have e : cutD (l.map D.int) lo hi = (cutI l lo hi).map D.int := by
    unfold cutD cutI
    rw [List.length_map, List.map_take, List.map_drop]
  have := cutI_len (l := l) (lo := lo) (hi := hi)
  unfold chD
  rw [f_slL, e]
  exact ⟨sz1000 (by simp; omega), h⟩
theorem f_addCh {a b : List Int} (hl : a.length + b.length ≤ 1000) (h : R (chD (a ++ b)) S) : fAdd false (chD a) (chD b) S R := by
  unfold chD
  rw [f_addL, f_mkL]
  exact ⟨sz1000 (by simp; omega), by rw [← List.map_append]; exact h⟩
theorem p_otherwise {wl : Addr} {c : Int} {n : Int} {ch : List Int} {m : List (Int × Option Int)} {j : Nat} (T : TolOk n ch m j) (hj : j ≤ 30) (w : Wel S wl c) (hc : c ≤ 700000) (h : ∀ n' ch' m' S', TolOk n' ch' m' (j + 2) → Fm [wl] S S' → Wel S' wl (c + 10) → R (tolD n' ch' m') S') : φ__law_otherwise [.ref wl, tolD n ch m] S R RE := by
  have cl := T.cl
  have ml := T.ml
  refine ⟨rfl, ?_⟩
  simp only [w__law_otherwise, startE, N__law_otherwise, s_seqL, s_asg, s_var]
  refine ⟨_, rfl, _, rfl, later_of ?_⟩
  simp only [s_seqL, s_set, s_call, s_cons, s_var, s_c, s_nil]
  refine ⟨_, rfl, p_draw w (by omega) (by decide) (by decide) fun d S1 d0 d1 f1 w1 => later_of ?_⟩
  simp only [s_seqL, s_set, s_fun, s_cons, s_var, s_nil]
  refine ⟨_, rfl, f_listFa (by omega) (f_sortedG (by simp; omega) fun ks hpk hsk => later_of ?_)⟩
  have hkl : ks.length = m.length := by have := hpk.length_eq; simpa using this
  simp only [s_seqL, s_set, s_fun, s_cons, s_var, s_nil]
  refine ⟨_, rfl, sz1000 (by rw [len_dK]; omega), fun lr hlr => later_of ?_⟩
  have hwl := w1.ne hlr
  have hlr0 : S lr = none := by
    by_cases c : S lr = none
    · exact c
    · have := f1 lr (by simpa using hwl.symm) c
      rw [this] at hlr
      exact absurd hlr c
  have f2 : Fm [wl] S (S1.set lr (.dct (dK oD m))) := f1.trans ((Fm.new (A := []) hlr).mono (by simp))
  have w2 : Wel (S1.set lr (.dct (dK oD m))) wl (c + 1) := w1.fm (Fm.new (A := []) hlr) (by simp)
  have el2 : (S1.set lr (.dct (dK oD m))) lr = some (.dct (dK oD m)) := Sto.set_same
  generalize S1.set lr (.dct (dK oD m)) = S2 at f2 w2 el2 ⊢
  have num : ∀ (K : Pd), (∀ x S', TolOk (n + x) ch m (j + 2) → Fm [wl] S S' → Wel S' wl (c + 10) → K (.int x) S') → φ__law_one [.ref wl, .lst [.int 1, .int (-1), .int 5, .int (-5), .int 20]] S2 K (fun c S' => RE c S') := fun K hK => by
    refine p_one w2 (by omega) (by decide) (by decide) fun y S6 hy f6 w6 => ?_
    have : ∃ x : Int, y = .int x ∧ -20 ≤ x ∧ x ≤ 20 := by
      simp at hy
      rcases hy with rfl | rfl | rfl | rfl | rfl <;> exact ⟨_, rfl, by decide, by decide⟩
    obtain ⟨x, rfl, h0, h1⟩ := this
    exact hK _ _ ((T.num h0 h1).mono (by omega)) (f2.trans f6) (w6.le (by omega))
  have numR : ∀ (ς : En), ς[0]? = some (some (.ref wl)) → ς[2]? = some (some (.int n)) → ς[3]? = some (some (chD ch)) → ς[4]? = some (some (faD m)) →
      wTup (wCons (wOp (fAdd false) (wVar 2) (wCall φ__law_one [] (wCons (wVar 0) (wCons (wLst false (wCons (wC (.int 1)) (wCons (wUn fNeg (wC (.int 1))) (wCons (wC (.int 5)) (wCons (wUn fNeg (wC (.int 5))) (wCons (wC (.int 20)) wNil)))))) wNil)))) (wCons (wVar 3) (wCons (wVar 4) wNil))) ς S2 (Rz R) (fun c S' => RE c S') := fun ς e0 e2 e3 e4 => by
    simp only [s_tup, s_cons, s_op, s_call, s_var, s_lst, s_c, s_un, s_nil]
    refine ⟨_, e2, _, e0, sz_5, ?_⟩
    refine num _ fun x S' T' f' w' => ?_
    rw [f_addI]
    exact ⟨_, e3, _, e4, sz_3, .now (h _ _ _ _ T' f' w')⟩
  simp only [s_seqL, s_if, s_B, s_or, s_op, s_var, s_c, s_ret, s_nx]
  refine ⟨_, rfl, ?_⟩
  rw [f_eqI]
  refine ⟨_, rfl, ?_⟩
  by_cases c0 : d = 0
  · simp only [c0, decide_true, Bool.false_xor, if_true]
    refine ⟨_, rfl, ?_⟩
    rw [if_pos rfl]
    exact numR _ rfl rfl rfl rfl
  simp only [c0, decide_false, Bool.false_xor, Bool.false_eq_true, if_false]
  refine ⟨_, rfl, ?_⟩
  simp only [s_lst, s_nil]
  refine ⟨by decide, f_eqIntsE ?_⟩
  refine ⟨_, rfl, ?_⟩
  by_cases ck : ks = []
  · simp only [ck, decide_true, Bool.false_xor, if_true]
    exact numR _ rfl rfl rfl rfl
  simp only [ck, decide_false, Bool.false_xor, Bool.false_eq_true, if_false]
  refine later_of ?_
  have hk0 : 0 < ks.length := List.length_pos_iff.mpr ck
  have hkm : ∀ y, y ∈ ks.map D.int → ∃ k o, y = .int k ∧ (k, o) ∈ m ∧ m.lookup k = some o := fun y hy => by
    obtain ⟨k, hk, rfl⟩ := List.mem_map.mp hy
    have := hpk.mem_iff.mp hk
    obtain ⟨o, ho⟩ := lookup_some this
    exact ⟨k, o, rfl, lookup_mem ho, ho⟩
  simp only [s_seqL, s_set, s_call, s_cons, s_var, s_nil]
  refine ⟨_, rfl, _, rfl, p_one w2 (by omega) (by simpa using hk0) (by simp; omega) fun y S3 hy f3 w3 => ?_⟩
  obtain ⟨k, o, rfl, hko, hlk⟩ := hkm y hy
  clear hy
  have el3 := f3.at el2 (by simpa using hwl.symm)
  have fm3 : Fm [wl] S S3 := f2.trans f3
  have k0 := (T.m0 _ hko).1
  have k1 := (T.m0 _ hko).2
  have ov := T.v0 _ hko
  simp only at k0 k1 ov
  refine later_of ?_
  -- the end, where one thing of the dict is otherwise
  have fin : ∀ (m' : List (Int × Option Int)) (S' : Sto) (ς' : En), S' lr = some (.dct (dK oD m')) → TolOk n ch m' (j + 2) → Fm [wl] S S' → Wel S' wl (c + 10) → ς'[2]? = some (some (.int n)) → ς'[3]? = some (some (chD ch)) → ς'[7]? = some (some (.ref lr)) →
      wTup (wCons (wVar 2) (wCons (wVar 3) (wCons (wVar 7) wNil))) ς' S' (Rz R) (fun c S' => RE c S') := fun m' S' ς' e T' f w' e2 e3 e7 => by
    simp only [s_tup, s_cons, s_var, s_nil]
    exact ⟨_, e2, _, e3, _, e7, sz_3, ret_tol' e (h _ _ _ _ T' (fm_del f hlr0) (w'.del hwl))⟩
  have put : ∀ (S' : Sto) (x : Int) (y : Option Int) (m' : List (Int × Option Int)) (K : Sto → Prop), S' lr = some (.dct (dK oD m')) → m'.length ≤ 500 → K (S'.set lr (.dct (dK oD (putM x y m')))) → fSetI (.ref lr) (.int x) (oD y) S' K := fun S' x y m' K e hl hK => by
    refine ⟨lr, rfl, ?_⟩
    rw [e]
    refine ⟨_, rfl, sz1001 (by rw [len_dK]; omega), ?_⟩
    rw [put_dK]
    exact hK
  have fset : ∀ (S' : Sto) (o : SO), Fm [wl] S S' → Fm [wl] S (S'.set lr o) := fun S' o f => fm_in (p := lr) (A := [wl]) ((f.mono (by simp)).trans ((Fm.set (A := [lr]) (by simp)).mono (by simp))) hlr0
  have wset : ∀ (S' : Sto) (o : SO) (c' : Int), Wel S' wl c' → c' ≤ c + 10 → Wel (S'.set lr o) wl (c + 10) := fun S' o c' w' hc' => (w'.fm (.set (A := [lr]) (by simp)) (by simpa using hwl)).le hc'
  have ixm : ∀ (S' : Sto) (x : Int) (y : Option Int) (R : Pd), S' lr = some (.dct (dK oD m)) → m.lookup x = some y → R (oD y) S' → fIx (.ref lr) (.int x) S' R := fun S' x y R e ho hR => by
    rw [f_ixRI e, look_dK, ho]
    exact ⟨_, rfl, hR⟩
  have hd : d = 1 ∨ d = 2 ∨ d = 3 ∨ d = 4 ∨ d = 5 ∨ d = 6 := by omega
  simp only [s_seqL, s_if, s_B, s_op, s_var, s_c]
  refine ⟨_, rfl, ?_⟩
  rw [f_eqI]
  refine ⟨_, rfl, ?_⟩
  by_cases c1 : d = 1
  · simp only [c1, decide_true, Bool.false_xor, if_true]
    simp only [s_expr, s_mt, s_var, s_cons, s_nil]
    refine ⟨_, rfl, tyM_refD el3, _, rfl, ?_⟩
    refine ⟨lr, _, _, _, _, rfl, el3, rfl, rfl, by rw [look_dK, hlk]; rfl, ?_⟩
    rw [drop_dK]
    exact later_of (fin _ _ _ Sto.set_same ((T.drop k).mono (by omega)) (fset _ _ fm3) (wset _ _ _ w3 (by omega)) rfl rfl rfl)
  simp only [c1, decide_false, Bool.false_xor, Bool.false_eq_true, if_false]
  refine ⟨_, rfl, ?_⟩
  rw [f_eqI]
  refine ⟨_, rfl, ?_⟩
  by_cases c2 : d = 2
  · simp only [c2, decide_true, Bool.false_xor, if_true]
    simp only [s_setI, s_call, s_cons, s_var, s_lst, s_c, s_op, s_nil]
    refine ⟨_, rfl, _, rfl, _, rfl, ?_⟩
    refine ixm _ _ _ _ el3 hlk ⟨sz_3, ?_⟩
    refine p_one w3 (by omega) (by simp) (by simp) fun y S4 hy f4 w4 => ?_
    have hy' : ∃ v, y = oD v ∧ ∀ z, v = some z → 0 ≤ z ∧ z ≤ 100 := by
      simp at hy
      rcases hy with rfl | rfl | rfl
      · exact ⟨none, rfl, by simp⟩
      · exact ⟨some 3, rfl, by simp⟩
      · exact ⟨o, rfl, ov⟩
    obtain ⟨v, rfl, hv⟩ := hy'
    have el4 := f4.at el3 (by simpa using hwl.symm)
    refine ⟨_, rfl, _, rfl, sz_5, ?_⟩
    refine p_one w4 (by omega) (by simp) (by simp) fun y S5 hy f5 w5 => ?_
    have hy' : ∃ z : Int, y = .int z ∧ 0 ≤ z ∧ z ≤ 100 := by
      simp at hy
      rcases hy with rfl | rfl | rfl | rfl | rfl <;> exact ⟨_, rfl, by decide, by decide⟩
    obtain ⟨z, rfl, z0, z1⟩ := hy'
    have el5 := f5.at el4 (by simpa using hwl.symm)
    refine put _ _ _ _ _ el5 (by omega) ?_
    exact later_of (fin _ _ _ Sto.set_same ((T.put z0 z1 hv).mono (by omega)) (fset _ _ ((fm3.trans f4).trans f5)) (wset _ _ _ w5 (by omega)) rfl rfl rfl)
  simp only [c2, decide_false, Bool.false_xor, Bool.false_eq_true, if_false]
  refine ⟨_, rfl, ?_⟩
  rw [f_eqI]
  refine ⟨_, rfl, ?_⟩
  by_cases c3 : d = 3
  · simp only [c3, decide_true, Bool.false_xor, if_true]
    simp only [s_seqL, s_set, s_call, s_cons, s_var, s_nil]
    refine ⟨_, rfl, _, rfl, p_one w3 (by omega) (by simpa using hk0) (by simp; omega) fun y S4 hy f4 w4 => later_of ?_⟩
    obtain ⟨k2, o2, rfl, hko2, hlk2⟩ := hkm y hy
    have a0 := (T.m0 _ hko2).1
    have a1 := (T.m0 _ hko2).2
    have ov2 := T.v0 _ hko2
    simp only at a0 a1 ov2
    have el4 := f4.at el3 (by simpa using hwl.symm)
    simp only [wSetI2, s_tup, s_cons, s_op, s_var, s_nil]
    refine ⟨_, rfl, _, rfl, ?_⟩
    rw [f_ixFa]
    refine ⟨o2, hlk2, _, rfl, _, rfl, ?_⟩
    rw [f_ixFa]
    refine ⟨o, hlk, sz_2, _, _, rfl, _, rfl, _, rfl, ?_⟩
    refine put _ _ _ _ _ el4 (by omega) ?_
    refine ⟨_, rfl, _, rfl, ?_⟩
    have hl2 := putM_len (w := k) (x := o2) (m := m)
    refine put _ _ _ _ _ Sto.set_same (by omega) ?_
    rw [Sto.set_set]
    exact later_of (fin _ _ _ Sto.set_same (((T.put k0 k1 ov2).put a0 a1 ov).mono (by omega)) (fset _ _ (fm3.trans f4)) (wset _ _ _ w4 (by omega)) rfl rfl rfl)
  simp only [c3, decide_false, Bool.false_xor, Bool.false_eq_true, if_false]
  refine ⟨_, rfl, ?_⟩
  rw [f_eqI]
  refine ⟨_, rfl, ?_⟩
  by_cases c4 : d = 4
  · simp only [c4, decide_true, Bool.false_xor, if_true]
    simp only [s_setI, s_call, s_cons, s_var, s_lst, s_c, s_op, s_nil]
    refine ⟨_, rfl, _, rfl, ?_⟩
    refine p_draw w3 (by omega) (by decide) (by decide) fun e S4 e0 e1 f4 w4 => ⟨sz_3, ?_⟩
    have el4 := f4.at el3 (by simpa using hwl.symm)
    refine p_one w4 (by omega) (by simp) (by simp) fun y S5 hy f5 w5 => ?_
    have hy' : ∃ v, y = oD v ∧ ∀ z, v = some z → 0 ≤ z ∧ z ≤ 100 := by
      simp at hy
      rcases hy with rfl | rfl | rfl
      · exact ⟨none, rfl, by simp⟩
      · exact ⟨some e, rfl, by intro z hz; cases hz; omega⟩
      · exact ⟨some 0, rfl, by simp⟩
    obtain ⟨v, rfl, hv⟩ := hy'
    have el5 := f5.at el4 (by simpa using hwl.symm)
    refine ⟨_, rfl, _, rfl, ?_⟩
    refine put _ _ _ _ _ el5 (by omega) ?_
    exact later_of (fin _ _ _ Sto.set_same ((T.put k0 k1 hv).mono (by omega)) (fset _ _ ((fm3.trans f4).trans f5)) (wset _ _ _ w5 (by omega)) rfl rfl rfl)
  simp only [c4, decide_false, Bool.false_xor, Bool.false_eq_true, if_false]
  refine ⟨_, rfl, ?_⟩
  rw [f_eqI]
  refine ⟨_, rfl, ?_⟩
  by_cases c5 : d = 5
  · simp only [c5, decide_true, Bool.false_xor, if_true]
    simp only [s_seqL, s_set, s_call, s_cons, s_var, s_lst, s_c, s_op, s_nil, s_fun]
    refine ⟨_, rfl, _, rfl, ?_⟩
    refine (show fLen [.lst (ch.map .int)] S3 _ from ?_)
    rw [f_lenL]
    refine ⟨_, rfl, by decide, f_eqIntsE ?_⟩
    rw [f_intB', f_addI]
    have hb : 0 < ((ch.map D.int).length : Int) + b2iD (false ^^ decide (ch = [])) ∧ ((ch.map D.int).length : Int) + b2iD (false ^^ decide (ch = [])) ≤ ch.length + 1 ∧ (ch ≠ [] → ((ch.map D.int).length : Int) + b2iD (false ^^ decide (ch = [])) = ch.length) := by
      by_cases e : ch = []
      · subst e; simp [b2iD]
      · have := List.length_pos_iff.mpr e
        simp [e, b2iD]; omega
    obtain ⟨b0, b1, b2⟩ := hb
    generalize ((ch.map D.int).length : Int) + b2iD (false ^^ decide (ch = [])) = bs at b0 b1 b2 ⊢
    refine p_draw w3 (by omega) b0 (by omega) fun e S4 e0 e1 f4 w4 => later_of ?_
    simp only [s_ret, s_tup, s_cons, s_op, s_sl, s_var, s_partN, s_partS, s_lst, s_call, s_c, s_nil]
    refine ⟨_, rfl, _, rfl, _, rfl, e, rfl, ?_⟩
    refine f_slCh (by omega) ⟨_, rfl, sz_5, ?_⟩
    refine p_one w4 (by omega) (by simp) (by simp) fun y S5 hy f5 w5 => ⟨sz_1, ?_⟩
    have hy' : ∃ z : Int, y = .int z ∧ -100 ≤ z ∧ z ≤ 100 := by
      simp at hy
      rcases hy with rfl | rfl | rfl | rfl | rfl <;> exact ⟨_, rfl, by decide, by decide⟩
    obtain ⟨z, rfl, z0, z1⟩ := hy'
    have l1 := cutI_len (l := ch) (lo := none) (hi := some e)
    have l2 := cutI_len (l := ch) (lo := some (e + 1)) (hi := none)
    refine f_addCh (b := [z]) (by simp; omega) ⟨_, rfl, _, rfl, ?_⟩
    rw [f_addI]
    refine ⟨_, rfl, f_slCh (by omega) (f_addCh (by simp; omega) ⟨_, rfl, sz_3, .now (h _ _ _ _ ((T.cho ?_ ?_).mono (by omega)) ((fm3.trans f4).trans f5) (w5.le (by omega)))⟩)⟩
    · have a1 : (cutI ch none (some e)).length ≤ e.toNat := by
        unfold cutI
        rw [List.length_take]
        simp only [HT.sIx]
        rw [if_neg (by omega)]
        omega
      have a2 : (cutI ch (some (e + 1)) none).length ≤ ch.length - min (e + 1).toNat ch.length := by
        unfold cutI
        rw [List.length_take, List.length_drop]
        simp only [HT.sIx]
        rw [if_neg (by omega)]
        omega
      rw [List.length_append, List.length_append, List.length_singleton]
      by_cases ce : ch = []
      · subst ce
        simp at l1 l2
        simp [l1, l2]
      · have := b2 ce
        omega
    · intro x hx
      rcases List.mem_append.mp hx with hx | hx
      · rcases List.mem_append.mp hx with hx | hx
        · exact T.c0 x (cutI_mem hx)
        · rw [List.mem_singleton.mp hx]; exact ⟨z0, z1⟩
      · exact T.c0 x (cutI_mem hx)
  simp only [c5, decide_false, Bool.false_xor, Bool.false_eq_true, if_false]
  simp only [s_ret, s_tup, s_cons, s_op, s_sl, s_var, s_partN, s_partS, s_lst, s_call, s_c, s_nil, s_un]
  refine ⟨_, rfl, _, rfl, _, rfl, _, rfl, ?_⟩
  refine f_slCh (by omega) ⟨_, rfl, sz_1, ?_⟩
  refine f_addCh (b := [0]) (by simp; omega) ⟨_, rfl, ?_⟩
  refine (show fRev false (chD ch) S3 _ from ?_)
  refine ⟨_, rfl, sz1000 (by simp; omega), sz_3, ?_⟩
  refine p_one w3 (by omega) (by simp) (by simp) fun y S4 hy f4 w4 => ?_
  have l1 := cutI_len (l := ch) (lo := some 1) (hi := none)
  have hy' : ∃ c' : List Int, y = chD c' ∧ c'.length ≤ ch.length + 1 ∧ ∀ x ∈ c', -100 ≤ x ∧ x ≤ 100 := by
    simp only [List.mem_cons, List.mem_nil_iff, or_false] at hy
    rcases hy with rfl | rfl | rfl
    · exact ⟨_, rfl, by omega, fun x hx => T.c0 x (cutI_mem hx)⟩
    · refine ⟨_, rfl, by simp, fun x hx => ?_⟩
      rcases List.mem_append.mp hx with hx | hx
      · exact T.c0 x hx
      · rw [List.mem_singleton.mp hx]; decide
    · exact ⟨ch.reverse, by rw [chD, List.map_reverse], by simp, fun x hx => T.c0 x (List.mem_reverse.mp hx)⟩
  obtain ⟨c', rfl, q1, q2⟩ := hy'
  exact ⟨_, rfl, sz_3, .now (h _ _ _ _ ((T.cho q1 q2).mono (by omega)) (fm3.trans f4) (w4.le (by omega)))⟩
end
end L35
end

section
set_option Elab.async false
set_option linter.all false
set_option maxRecDepth 100000
set_option autoImplicit false
set_option maxHeartbeats 4000000
namespace L35
open SB PySem PySem.Spec L2
def cellB : WpS := (wSeq (wSet 2 (wCall φ__law_well [] (wCons (wVar 1) wNil)))
  (wSeq (wSet 3 (wLst false (wCons (wCall φ__law_view [] (wCons (wVar 2) wNil)) (wCons (wCall φ__law_view [] (wCons (wVar 2) wNil)) wNil))))
  (wSeq (wSet 4 (wLc false (wSrc (wVar 3)) (.nm 6) wYes (wMake false "View" [] φ_View___init__ (wCons (wOp fIx (wVar 6) (wC (.int 0))) (wCons (wOp fIx (wVar 6) (wC (.int 1))) (wCons (wFun (fList false) (wCons (wOp fIx (wVar 6) (wC (.int 2))) wNil)) (wCons (wFun (fList false) (wCons (wOp fIx (wVar 6) (wC (.int 3))) wNil)) wNil))))) [6]))
  (wSeq (wSet 5 (wLst true wNil))
  (wSeq (wFor (wSrc (wVar 3)) (.nm 6) (wFor (wRange (wCons (wC (.int 4)) wNil)) (.nm 7) (wSeq (wSet 8 (wCall φ__law_right_paper [] (wCons (wVar 2) (wCons (wVar 6) wNil))))
  (wSeq (wFor (wRange (wCons (wOp fMod (wVar 7) (wC (.int 3))) wNil)) (.nm 9) (wSet 8 (wCall φ__law_otherwise [] (wCons (wVar 2) (wCons (wVar 8) wNil)))))
  (wExpr (wMt "list" fAppend (wVar 5) (wCons (wVar 8) wNil)))))))
  (wFor (wRange (wCons (wC (.int 2)) wNil)) (.nm 9) (wFor (wSrc (wVar 5)) (.nm 8) (wFor (wRange (wCons (wC (.int 2)) wNil)) (.nm 7) (wIf (wB (wNot (wCall φ__law_asked [] (wCons (wOp fIx (wVar 4) (wVar 7)) (wCons (wOp fIx (wVar 3) (wVar 7)) (wCons (wVar 8) wNil)))))) (wRet (wC (.bl false))) wNx)))))))))
def paB : WpS := (wSeq (wSet 8 (wCall φ__law_right_paper [] (wCons (wVar 2) (wCons (wVar 6) wNil))))
  (wSeq (wFor (wRange (wCons (wOp fMod (wVar 7) (wC (.int 3))) wNil)) (.nm 9) (wSet 8 (wCall φ__law_otherwise [] (wCons (wVar 2) (wCons (wVar 8) wNil)))))
  (wExpr (wMt "list" fAppend (wVar 5) (wCons (wVar 8) wNil)))))
def askB : WpS := (wIf (wB (wNot (wCall φ__law_asked [] (wCons (wOp fIx (wVar 4) (wVar 7)) (wCons (wOp fIx (wVar 3) (wVar 7)) (wCons (wVar 8) wNil)))))) (wRet (wC (.bl false))) wNx)
section
variable {S S0 : Sto} {R : Pd} {RE : Px} {P : Par}
theorem p_view {p : Addr} (ok : ParOk P) (h : R .non (S.set p (.ins "View" [("span", .int P.ev), ("last", .int P.lk), ("known", .lst (P.ws.map .int)), ("held", .lst (P.ps.map potD))]))) : φ_View___init__ [.ref p, .int P.ev, .int P.lk, .lst (P.ws.map .int), .lst (P.ps.map potD)] (S.set p (.ins "View" [])) R RE := by
  have wl := ok.wl
  have pl := ok.len
  refine ⟨rfl, ?_⟩
  simp [-Bool.exists_bool, w_View___init__, startE, N_View___init__, putFd]
  have lw : (P.ws.map D.int).length ≤ sizeLine := sz1000 (by simp; omega)
  refine (show fList false [.lst (P.ws.map .int)] _ _ from ⟨lw, ?_⟩)
  simp [-Bool.exists_bool, putFd]
  intro q hq
  refine lc_map potD (sz1000 (by omega)) (fun x hx => ⟨_, rfl, fun S R k => ?_⟩) ?_ q hq
  · have ox := ok.ok x hx
    have l1 := ox.len
    have l2 := ox.sl
    simp only [s_tup, s_cons, s_var, s_fun, s_nil]
    refine ⟨_, rfl, _, rfl, ?_⟩
    refine ⟨sz1000 (by simp; omega), _, rfl, ?_⟩
    exact ⟨sz1000 (by rw [len_dK]; omega), sz_3, k⟩
  · simp [putFd]
    exact .now h
abbrev Tl := Int × List Int × List (Int × Option Int)
def tlD (q : Tl) : D := tolD q.1 q.2.1 q.2.2
structure Pap (S : Sto) (wl pa : Addr) (c : Int) (k : Nat) : Prop where
  w : Wel S wl c
  ne : wl ≠ pa
  ex : ∃ qs : List Tl, S pa = some (.lst (qs.map tlD)) ∧ qs.length ≤ k ∧ ∀ q ∈ qs, TolOk q.1 q.2.1 q.2.2 4
theorem pap_turn {wl pa : Addr} {c : Int} {k : Nat} {i : Nat} {c0 c1 c3 c4 c8 c9 : Option D} {E : ES} {XE : PxE} (ok : ParOk P) (A : Pap S wl pa c k) (hc : c ≤ 600000) (hk : k ≤ 100) (hi : i < 4)
    (h : ∀ S' c8 c9, Pap S' wl pa (c + 60) (k + 1) → E.nx [c0, c1, some (.ref wl), c3, c4, some (.ref pa), some (parD P), some (.int (i : Int)), c8, c9] S') :
    paB [c0, c1, some (.ref wl), c3, c4, some (.ref pa), some (parD P), some (.int (i : Int)), c8, c9] S E XE := by
  obtain ⟨w, hne, qs, eq, hl, hq⟩ := A
  unfold paB
  simp only [s_seqL, s_set, s_call, s_cons, s_var, s_nil]
  refine ⟨_, rfl, _, rfl, p_right_paper ok w (by omega) fun n ch m S1 T1 f1 w1 => later_of ?_⟩
  have e1 := f1.at eq (by simpa using hne.symm)
  simp only [s_seqL, s_for, s_range, s_cons, s_op, s_var, s_c, s_nil]
  refine ⟨_, rfl, ?_⟩
  rw [f_mod]
  have r0 := Int.emod_nonneg (i : Int) (b := 3) (by omega)
  have r1 := Int.emod_lt_of_pos (i : Int) (b := 3) (by omega)
  refine ⟨by decide, _, rfl, by omega, by omega, ?_⟩
  rw [rngD_range]
  refine for_inv (gd := none) (fun done ς' S' => Wel S' wl (c + 30 + 10 * (done.length : Int)) ∧ S' pa = some (.lst (qs.map tlD)) ∧ ∃ (q : Tl) (c9 : Option D), TolOk q.1 q.2.1 q.2.2 (2 * done.length) ∧ ς' = [c0, c1, some (.ref wl), c3, c4, some (.ref pa), some (parD P), some (.int (i : Int)), some (tlD q), c9]) (fun _ _ _ _ => trivial) ?_ ⟨w1.le (by simp), e1, (n, ch, m), _, T1, rfl⟩ ?_
  · rintro done x rest ς' S' e ⟨w', e', q, c9, T, rfl⟩
    refine ⟨_, rfl, fun K hK => ?_⟩
    have hdl : done.length ≤ 1 := by
      have := congrArg List.length e
      simp at this
      omega
    simp only [s_set, s_call, s_cons, s_var, s_nil]
    refine ⟨_, rfl, _, rfl, p_otherwise T (by omega) w' (by omega) fun n' ch' m' S2 T2 f2 w2 => ?_⟩
    refine hK _ _ ⟨w2.le (by simp; omega), f2.at e' (by simpa using hne.symm), (n', ch', m'), _, T2.mono (by simp; omega), rfl⟩
  · rintro ς' S' ⟨w', e', q, c9, T, rfl⟩
    have hdl : (List.range ((i : Int) % 3).toNat).length ≤ 2 := by simp; omega
    dsimp only
    refine later_of ?_
    simp only [s_expr, s_mt, s_var, s_cons, s_nil]
    refine ⟨_, rfl, tyM_refL e', _, rfl, pa, _, _, rfl, rfl, e', sz1001 (by simp; omega), ?_⟩
    refine h _ _ _ ⟨(w'.fm (.set (A := [pa]) (by simp)) (by simpa using hne)).le (by omega), hne, qs ++ [q], by rw [Sto.set_same]; simp, by simp; omega, fun y hy => ?_⟩
    rcases List.mem_append.mp hy with hy | hy
    · exact hq y hy
    · rw [List.mem_singleton.mp hy]; exact T.mono (by omega)
theorem ask_turn {P1 P2 : Par} {q : Tl} {i : Nat} {c0 c1 c2 c5 c6 c9 : Option D} {E : ES} {XE : PxE} (o1 : ParOk P1) (o2 : ParOk P2) (T : TolOk q.1 q.2.1 q.2.2 4) (hi : i < 2) (h : E.nx [c0, c1, c2, some (.lst [parD P1, parD P2]), some (.lst [viewD P1, viewD P2]), c5, c6, some (.int (i : Int)), some (tlD q), c9] S) :
    askB [c0, c1, c2, some (.lst [parD P1, parD P2]), some (.lst [viewD P1, viewD P2]), c5, c6, some (.int (i : Int)), some (tlD q), c9] S E XE := by
  unfold askB
  have hh : i = 0 ∨ i = 1 := by omega
  rcases hh with rfl | rfl
  · simp [-Bool.exists_bool, L2.atI, L2.ixN]
    refine p_asked o1 T (by omega) ?_
    simp
    exact h
  · simp [-Bool.exists_bool, L2.atI, L2.ixN]
    refine p_asked o2 T (by omega) ?_
    simp
    exact h
theorem cell_turn {cell : Int} {c0 c2 c3 c4 c5 c6 c7 c8 c9 : Option D} {E : ES} {XE : PxE} (h : ∀ S' c2 c3 c4 c5 c6 c7 c8 c9, E.nx [c0, some (.int cell), c2, c3, c4, c5, c6, c7, c8, c9] S') : cellB [c0, some (.int cell), c2, c3, c4, c5, c6, c7, c8, c9] S E XE := by
  unfold cellB
  simp only [s_seqL, s_set, s_call, s_cons, s_var, s_nil]
  refine ⟨_, rfl, p_well fun wl S1 n1 f1 w1 => later_of ?_⟩
  simp only [s_seqL, s_set, s_lst, s_call, s_cons, s_var, s_nil]
  refine ⟨_, rfl, p_lview w1 (by decide) fun P1 S2 o1 f2 w2 => ⟨_, rfl, p_lview w2 (by decide) fun P2 S3 o2 f3 w3 => ⟨sz_2, later_of ?_⟩⟩⟩
  simp only [s_seqL, s_set, s_lc, s_src, s_var]
  refine ⟨_, rfl, _, none, rfl, fun p hp => ?_⟩
  refine (show lcL none _ _ _ p _ ([P1, P2].map parD) _ _ _ from ?_)
  refine lc_map (xs := [P1, P2]) viewD (sz_2) (fun x hx => ⟨_, rfl, fun S R k => ?_⟩) ?_ p hp
  · have ox : ParOk x := by
      simp at hx
      rcases hx with rfl | rfl
      · exact o1
      · exact o2
    have wl := ox.wl
    have pl := ox.len
    have i0 : ∀ R : Pd, fIx (parD x) (.int 0) S R = R (.int x.ev) S := fun R => i_p0
    have i1 : ∀ R : Pd, fIx (parD x) (.int 1) S R = R (.int x.lk) S := fun R => by simp [parD, L2.atI, L2.ixN]
    have i2 : ∀ R : Pd, fIx (parD x) (.int 2) S R = R (.lst (x.ws.map .int)) S := fun R => by simp [parD, L2.atI, L2.ixN]
    have i3 : ∀ R : Pd, fIx (parD x) (.int 3) S R = R (.lst (x.ps.map potD)) S := fun R => i_p3
    simp only [s_make, s_cons, s_op, s_var, s_c, s_fun, s_nil]
    refine ⟨_, rfl, ?_⟩
    rw [i0]
    refine ⟨_, rfl, ?_⟩
    rw [i1]
    refine ⟨_, rfl, ?_⟩
    rw [i2]
    refine ⟨sz1000 (by simp; omega), _, rfl, ?_⟩
    rw [i3]
    refine ⟨sz1000 (by simp; omega), fun q hq => ?_⟩
    refine p_view ox ⟨rfl, ?_⟩
    refine ⟨_, Sto.set_same, ?_⟩
    rw [Sto.del_set, Sto.del_none hq]
    exact k
  refine later_of ?_
  simp only [s_seqL, s_set, s_lst, s_nil]
  refine ⟨by decide, fun pa hpa => later_of ?_⟩
  have hne := w3.ne hpa
  have w4 : Wel (S3.set pa (.lst [])) wl 800 := (w3.fm (Fm.new (A := []) hpa) (by simp)).le (by omega)
  have A0 : Pap (S3.set pa (.lst [])) wl pa 800 0 := ⟨w4, hne, [], Sto.set_same, by simp, by simp⟩
  generalize S3.set pa (.lst []) = S4 at A0 ⊢
  simp only [s_seqL, s_for, s_src, s_var]
  refine ⟨_, rfl, _, none, rfl, ?_⟩
  refine (show forL none (.nm 6) _ ([P1, P2].map parD) [c0, some (.int cell), some (.ref wl), some (.lst [parD P1, parD P2]), some (.lst [viewD P1, viewD P2]), some (.ref pa), c6, c7, c8, c9] _ _ _ from ?_)
  refine for_inv (gd := none) (fun done ς' S' => Pap S' wl pa (800 + 240 * (done.length : Int)) (4 * done.length) ∧ ∃ c6 c7 c8 c9, ς' = [c0, some (.int cell), some (.ref wl), some (.lst [parD P1, parD P2]), some (.lst [viewD P1, viewD P2]), some (.ref pa), c6, c7, c8, c9]) (fun _ _ _ _ => trivial) ?_ ⟨by simpa using A0, _, _, _, _, rfl⟩ ?_
  · rintro done x rest ς' S' e ⟨A, c6, c7, c8, c9, rfl⟩
    refine ⟨_, rfl, fun K hK => ?_⟩
    have hdl : done.length ≤ 1 := by
      have := congrArg List.length e
      simp at this
      omega
    have ox : ParOk x := by
      have hx : x ∈ [P1, P2] := by rw [e]; simp
      simp at hx
      rcases hx with rfl | rfl
      · exact o1
      · exact o2
    simp only [s_for, s_range, s_cons, s_c, s_nil]
    refine ⟨4, rfl, by decide, by decide, ?_⟩
    rw [rngD_range]
    refine for_inv (gd := none) (fun dn ς' S' => Pap S' wl pa (800 + 240 * (done.length : Int) + 60 * (dn.length : Int)) (4 * done.length + dn.length) ∧ ∃ c7 c8 c9, ς' = [c0, some (.int cell), some (.ref wl), some (.lst [parD P1, parD P2]), some (.lst [viewD P1, viewD P2]), some (.ref pa), some (parD x), c7, c8, c9]) (fun _ _ _ _ => trivial) ?_ ⟨by simpa using A, _, _, _, rfl⟩ ?_
    · rintro dn i rs ς' S' e1 ⟨A, c7, c8, c9, rfl⟩
      refine ⟨_, rfl, fun K1 hK1 => ?_⟩
      have hdn : dn.length ≤ 3 := by
        have := congrArg List.length e1
        simp at this
        omega
      have hi : i < 4 := (range_at e1).2.2
      refine (show paB _ _ _ _ from ?_)
      refine pap_turn ox A (by omega) (by omega) hi fun S'' c8 c9 A' => hK1 _ _ ⟨?_, _, _, _, rfl⟩
      have e2 : (800 : Int) + 240 * (done.length : Int) + 60 * ((dn ++ [i]).length : Int) = 800 + 240 * (done.length : Int) + 60 * (dn.length : Int) + 60 := by simp; omega
      rw [e2]
      simpa [Nat.add_assoc] using A'
    · rintro ς' S' ⟨A, c7, c8, c9, rfl⟩
      refine hK _ _ ⟨?_, _, _, _, _, rfl⟩
      have e2 : (800 : Int) + 240 * ((done ++ [x]).length : Int) = 800 + 240 * (done.length : Int) + 60 * ((List.range (Int.toNat 4)).length : Int) := by simp; omega
      have e3 : 4 * (done ++ [x]).length = 4 * done.length + (List.range (Int.toNat 4)).length := by simp; omega
      rw [e2, e3]
      exact A
  · rintro ς' S' ⟨⟨w', hne, qs, eq, hl, hq⟩, c6, c7, c8, c9, rfl⟩
    dsimp only
    refine later_of ?_
    simp only [s_for, s_range, s_cons, s_c, s_nil]
    refine ⟨2, rfl, by decide, by decide, ?_⟩
    rw [rngD_range]
    refine for_inv (gd := none) (fun dn ς' S1 => S1 = S' ∧ ∃ c6 c7 c8 c9, ς' = [c0, some (.int cell), some (.ref wl), some (.lst [parD P1, parD P2]), some (.lst [viewD P1, viewD P2]), some (.ref pa), c6, c7, c8, c9]) (fun _ _ _ _ => trivial) ?_ ⟨rfl, _, _, _, _, rfl⟩ ?_
    · rintro dn i rs ς' S1 e1 ⟨rfl, c6, c7, c8, c9, rfl⟩
      refine ⟨_, rfl, fun K1 hK1 => ?_⟩
      simp only [s_for, s_src, s_var]
      refine ⟨_, rfl, _, _, srcOf_ref eq, ?_⟩
      refine for_inv (fun dn ς' S2 => S2 = S1 ∧ ∃ c6 c7 c8 c9, ς' = [c0, some (.int cell), some (.ref wl), some (.lst [parD P1, parD P2]), some (.lst [viewD P1, viewD P2]), some (.ref pa), c6, c7, c8, c9]) (fun _ _ _ h => by rw [h.1]; exact eq) ?_ ⟨rfl, _, _, _, _, rfl⟩ ?_
      · rintro dn q rs ς' S2 e2 ⟨rfl, c6, c7, c8, c9, rfl⟩
        refine ⟨_, rfl, fun K2 hK2 => ?_⟩
        have T := hq q (by rw [e2]; simp)
        simp only [s_for, s_range, s_cons, s_c, s_nil]
        refine ⟨2, rfl, by decide, by decide, ?_⟩
        rw [rngD_range]
        refine for_inv (gd := none) (fun dn ς' S3 => S3 = S2 ∧ ∃ c7, ς' = [c0, some (.int cell), some (.ref wl), some (.lst [parD P1, parD P2]), some (.lst [viewD P1, viewD P2]), some (.ref pa), c6, c7, some (tlD q), c9]) (fun _ _ _ _ => trivial) ?_ ⟨rfl, _, rfl⟩ ?_
        · rintro dn i rs ς' S3 e3 ⟨rfl, c7, rfl⟩
          refine ⟨_, rfl, fun K3 hK3 => ?_⟩
          have hi : i < 2 := (range_at e3).2.2
          refine (show askB _ _ _ _ from ?_)
          exact ask_turn o1 o2 T hi (hK3 _ _ ⟨rfl, _, rfl⟩)
        · rintro ς' S3 ⟨rfl, c7, rfl⟩
          exact hK2 _ _ ⟨rfl, _, _, _, _, rfl⟩
      · rintro ς' S2 ⟨rfl, c6, c7, c8, c9, rfl⟩
        exact hK1 _ _ ⟨rfl, _, _, _, _, rfl⟩
    · rintro ς' S1 ⟨rfl, c6, c7, c8, c9, rfl⟩
      exact h _ _ _ _ _ _ _ _ _
theorem pure_law (xs : List D) (S : Sto) (R : Pd) (RE : Px) (hh : φLaw 63 xs S R RE) : φ_law xs S R RE := by
  obtain ⟨ns, rfl, hn, rfl, hR⟩ := hh
  refine ⟨rfl, ?_⟩
  simp only [w_law, startE, N_law, s_seqL, s_for, s_src, s_op, s_sl, s_partN, s_partS, s_var, s_c]
  refine ⟨_, rfl, 2, rfl, ?_⟩
  have ec : cutD (ns.map D.int) none (some 2) = (cutI ns none (some 2)).map D.int := by
    unfold cutD cutI
    rw [List.length_map, List.map_take, List.map_drop]
  have lc := cutI_len (l := ns) (lo := none) (hi := some 2)
  have es : ∀ (S : Sto) (R : Pd), fSl false (.scr (ns.map .int)) none (some 2) S R = mkL false (cutD (ns.map D.int) none (some 2)) S R := fun _ _ => rfl
  rw [es, ec, f_mkL]
  refine ⟨sz1000 (by simp; omega), ?_⟩
  simp only [s_lst, s_cons, s_c, s_nil]
  refine ⟨sz_1, ?_⟩
  refine f_addCh (b := [0]) (by simp; omega) ⟨_, none, rfl, ?_⟩
  refine for_inv (gd := none) (fun dn ς' S1 => ∃ c1 c2 c3 c4 c5 c6 c7 c8 c9, ς' = [some (.scr (ns.map .int)), c1, c2, c3, c4, c5, c6, c7, c8, c9]) (fun _ _ _ _ => trivial) ?_ ⟨_, _, _, _, _, _, _, _, _, rfl⟩ ?_
  · rintro dn x rs ς' S1 e1 ⟨c1, c2, c3, c4, c5, c6, c7, c8, c9, rfl⟩
    refine ⟨_, rfl, fun K hK => ?_⟩
    refine (show cellB _ _ _ _ from ?_)
    exact cell_turn fun S' c2 c3 c4 c5 c6 c7 c8 c9 => hK _ _ ⟨_, _, _, _, _, _, _, _, _, rfl⟩
  · rintro ς' S1 ⟨c1, c2, c3, c4, c5, c6, c7, c8, c9, rfl⟩
    dsimp only
    refine later_of ?_
    simp only [s_ret, s_c]
    exact .now (hR _)
end
end L35
end

section
set_option Elab.async false
set_option linter.all false
set_option maxRecDepth 100000
set_option maxHeartbeats 0
section
open SB PySem PySem.Spec L2 L35
theorem L35.facts {P : Program} {w : World} {K : PySem.W.Frag} {h : Heap} {mg : Str → Option Value} {f : Addr} (X : K.In h) (G : h.Ns mainGlobals mg) (hfa : mg ("law" : Str) = some (.ref f)) (c : He.SaysX fa fn ts [] ex w h K) :
    ∃ fd : FuncData, (∀ (s : Shared) (v : Value), BindsTo s fd ⟨[v], []⟩ [("script", v)]) ∧ ∀ base : Heap, K.In base → base.Ns mainGlobals mg → FnOkG P w K mg base CXs 7 f fd ["script"] (spOf K (φLaw 63)) := by
  have hd : Hd w K mg := ⟨h, X, G, c⟩
  obtain ⟨fd, F⟩ := c.t.d.def_ 22 (d := mkDD (("law" : Str), none) "law" "law" (top 26) []) rfl
  have e := hfa.symm.trans (He.glo_ok X G (c.t.d.fact 53 (f := .glo "law") rfl))
  cases e
  have b := FunD.bindsA (ps := ["script"]) F fun _ _ _ _ _ _ us hl => match us, hl with | [_], _ => rfl
  refine ⟨fd, fun s v => b s [v] rfl, fun base _ _ => ?_⟩
  exact SB.FnOkG.cxs ((k_law hd F).imp fun vs H Q E ⟨xs, S, R, RE, r, q, z, y⟩ => ⟨xs, S, R, RE, r, q, pure_law _ _ _ _ z, y⟩)
end
open PySem PySem.W PySem.Calls PyProof.Rows in
theorem PySem.Challenge.cw_sidebook_k35_papers_asked_again_holds : PySem.Challenge.rw_sidebook_k35_papers_asked_again.Holds := by
  w_on; o_law
  refine HandSHeadRun.head_any (r := OpenLaw.row PySem.Challenge.rw_sidebook_k35_papers_asked_again) (q := view (OpenLaw.row PySem.Challenge.rw_sidebook_k35_papers_asked_again).prog [26]) (H := L35.hk) (ob := L35.ob) (M := 6000) (loose := L35.names) (d := HandSHeadRun.topDef (OpenLaw.row PySem.Challenge.rw_sidebook_k35_papers_asked_again).prog 26) (kwd := []) L35.ob_eq
    (by kernel_rfl) (fun s => by kernel_rfl) L35.run (by kernel_rfl) (by kernel_rfl) (by kernel_rfl) (by rfl) (by first | assumption | decide +kernel) (by decide +kernel) ⟨rfl, rfl, rfl, rfl, rfl, by decide +kernel⟩ ?hw ?hc
  case hw => w_witness2
  case hc =>
    refine SB.walk_ofG (l := PySem.Challenge.rw_sidebook_k35_papers_asked_again) (n := 63) (k := 7) (x := "script") (CX := SB.CXs) rfl (by decide) (by kernel_rfl) ⟨rfl, by decide, by decide⟩ ?F (fun H s e s' z => SB.cxs_none H s e s' z)
    intro w mg fa h Y G hmg0
    obtain ⟨K, KX, c⟩ := Y
    have hmg : mg ("law" : PySem.Str) = some (.ref fa) := by
      have e : (HandSHeadRun.topDef (OpenLaw.row PySem.Challenge.rw_sidebook_k35_papers_asked_again).prog 26).name = ("law" : PySem.Str) := by kernel_rfl
      rw [← e]
      exact hmg0
    obtain ⟨fd, hb, hF⟩ := L35.facts (P := (PySem.Challenge.rw_sidebook_k35_papers_asked_again).prog) (w := w) KX G hmg c
    exact ⟨K, fd, SB.spOf K (SB.φLaw 63), KX, hb, fun H a ns hl _ hS => SB.law_sp (by decide) hl hS, hF⟩
end
