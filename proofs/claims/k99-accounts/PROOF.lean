import PyProof.Rows.All
import Wide.All
import OpenK.AllK
import Wide.FinOn
import HandS.ForMost
import HandS.Walk
import HandS.Zip
import HandS.WordsExc
import HandS.ExcOwn
import HandS.TryMany
import HandS.TryOnly
import HandS.ExcIs
import HandS.IsInst
import HandS.Defaults
import HandS.HeadHook2
import HandS.Wide
import HandS.TupAny
import HandS.Deep
import HandS.Style
import HandS.CallRecv
import HandS.HeadWalk
import HandS.SortInts
import HandS.RaiseMore
import HandS.SetFor
import HandS.Finally
import HandS.HeadEnd
import HandS.Small
import HandS.HeadHook4
import KE.KStateDown
import HandS.Head0
import HandS.Head1
import HandS.Head2
import PySem.Challenge.RW_sidebook_k99_whole_accounts_kept_for_eve
section
set_option Elab.async false
set_option linter.all false
set_option maxRecDepth 100000
set_option autoImplicit false
/-! SB0: data as values, the store, how they stand in the hand layer's heap. -/
namespace SB
open PySem PySem.Spec L2

/-- a value as data: tuples, and lists, dicts, instances that nobody writes any more, are their content; ref: something that is owned, or unknown -/
inductive D where
  | non | bl (b : Bool) | int (i : Int) | str (x : Str)
  | tup (l : List D) | lst (l : List D) | dct (l : List (Key × D)) | ins (c : String) (fs : List (String × D))
  | scr (l : List D)
  | ref (a : Addr) | exc (c : String)
/-- what stands at an owned address; lck: a dict that a loop walks -/
inductive SO where
  | lst (l : List D) | dct (l : List (Key × D)) | ins (c : String) (fs : List (String × D)) | lck (l : List (Key × D))
abbrev Sto := Addr → Option SO
def Sto.set (S : Sto) (a : Addr) (o : SO) : Sto := fun b => if b = a then some o else S b
def Sto.del (S : Sto) (a : Addr) : Sto := fun b => if b = a then none else S b
@[simp] theorem Sto.set_same {S : Sto} {a : Addr} {o : SO} : S.set a o a = some o := by simp [Sto.set]
theorem Sto.set_ne {S : Sto} {a b : Addr} {o : SO} (h : b ≠ a) : S.set a o b = S b := by simp [Sto.set, h]
@[simp] theorem Sto.del_same {S : Sto} {a : Addr} : S.del a a = none := by simp [Sto.del]
theorem Sto.del_ne {S : Sto} {a b : Addr} (h : b ≠ a) : S.del a b = S b := by simp [Sto.del, h]
@[simp] theorem Sto.set_set {S : Sto} {a : Addr} {o u : SO} : (S.set a o).set a u = S.set a u := by
  funext b; unfold Sto.set; split <;> rfl
@[simp] theorem Sto.del_set {S : Sto} {a : Addr} {o : SO} : (S.set a o).del a = S.del a := by
  funext b; unfold Sto.set Sto.del; split
  · rfl
  · rename_i h; exact if_neg h
theorem Sto.del_none {S : Sto} {a : Addr} (h : S a = none) : S.del a = S := by
  funext b; unfold Sto.del; split
  · rename_i e; rw [e, h]
  · rfl
theorem Sto.set_id {S : Sto} {a : Addr} {o : SO} (h : S a = some o) : S.set a o = S := by
  funext b; unfold Sto.set; split
  · rename_i e; rw [e, h]
  · rfl

/-- the class of a name -/
def clA (K : PySem.W.Frag) (c : String) : Addr := He.ga K (Str.ofString c)

/-- a list of the written part -/
def KLst (K : PySem.W.Frag) (a : Addr) (xs : List V) : Prop :=
  ∃ (o : Obj) (its : Array Value) (n : Nat), K.lookup a = some o ∧ o.cls = .type "list" ∧ o.dict = none ∧ o.data = .seq its n ∧ its.size ≤ sizeLine ∧ Vals xs its.toList
/-- an own class with these attributes, none of them the class's -/
def CO (K : PySem.W.Frag) (c : String) (fs : List (String × D)) : Prop := Cls K (clA K c) ∧ (∀ p ∈ fs, NoAttr K (clA K c) (Str.ofString p.1)) ∧ fs.length ≤ 1000
section
variable (K : PySem.W.Frag) (S : Sto) (H : Hp)
mutual
inductive Rep : D → V → Prop
  | non : Rep .non .non
  | bl (b : Bool) : Rep (.bl b) (.bl b)
  | int (i : Int) : Rep (.int i) (.int i)
  | str (x : Str) : Rep (.str x) (.str x)
  | tup {a : Addr} {l : List D} {vs : List V} : SqT K H a vs → l.length ≤ sizeLine → RepL l vs → Rep (.tup l) (.ref a)
  | lst {a : Addr} {l : List D} {vs : List V} : H a = some (.lst vs) → S a = none → l.length ≤ sizeLine → RepL l vs → Rep (.lst l) (.ref a)
  | scr {a : Addr} {l : List D} {vs : List V} : Rd H a (.lst vs) → S a = none → l.length ≤ sizeLine → RepL l vs → Rep (.scr l) (.ref a)
  | scrK {a : Addr} {l : List D} {vs : List V} : KLst K a vs → l.length ≤ sizeLine → RepL l vs → Rep (.scr l) (.ref a)
  | dct {a : Addr} {l : List (Key × D)} {kvs : List (Key × V)} : Rd H a (.dK kvs) → S a = none → l.length ≤ sizeLine → RepK l kvs → Rep (.dct l) (.ref a)
  | ins {a dx : Addr} {c : String} {fs : List (String × D)} {gs : List (Str × V)} : H a = some (.ins (clA K c) dx gs) → S a = none → CO K c fs → RepF fs gs → Rep (.ins c fs) (.ref a)
  | ref (a : Addr) : Rep (.ref a) (.ref a)
inductive RepL : List D → List V → Prop
  | nil : RepL [] []
  | cons {d : D} {v : V} {l : List D} {vs : List V} : Rep d v → RepL l vs → RepL (d :: l) (v :: vs)
inductive RepK : List (Key × D) → List (Key × V) → Prop
  | nil : RepK [] []
  | cons {k : Key} {d : D} {v : V} {l : List (Key × D)} {vs : List (Key × V)} : Rep d v → RepK l vs → RepK ((k, d) :: l) ((k, v) :: vs)
inductive RepF : List (String × D) → List (Str × V) → Prop
  | nil : RepF [] []
  | cons {f : String} {d : D} {v : V} {l : List (String × D)} {vs : List (Str × V)} : Rep d v → RepF l vs → RepF ((f, d) :: l) ((Str.ofString f, v) :: vs)
end
end
/-- an owned object as it stands -/
def ORep (K : PySem.W.Frag) (S : Sto) (H : Hp) (a : Addr) : SO → Prop
  | .lst l => l.length ≤ sizeLine ∧ ∃ vs, H a = some (.lst vs) ∧ RepL K S H l vs
  | .dct l => l.length ≤ sizeLine ∧ ∃ kvs, H a = some (.dK kvs) ∧ RepK K S H l kvs
  | .ins c fs => CO K c fs ∧ ∃ dx gs, H a = some (.ins (clA K c) dx gs) ∧ RepF K S H fs gs
  | .lck l => l.length ≤ sizeLine ∧ ∃ o kvs, H a = some (.frz o (.dK kvs)) ∧ RepK K S H l kvs
/-- the store as it stands -/
def Rel (K : PySem.W.Frag) (S : Sto) (H : Hp) : Prop := ∀ a o, S a = some o → ORep K S H a o
/-- what was represented is so still -/
structure Keep (K : PySem.W.Frag) (S : Sto) (H : Hp) (S' : Sto) (H' : Hp) : Prop where
  r : ∀ x v, Rep K S H x v → Rep K S' H' x v
  z : ∀ a o u, H a = some (.frz o u) → H' a = some (.frz o u)
instance {K : PySem.W.Frag} {S : Sto} {H : Hp} {S' : Sto} {H' : Hp} : CoeFun (Keep K S H S' H') (fun _ => ∀ x v, Rep K S H x v → Rep K S' H' x v) := ⟨Keep.r⟩
theorem Keep.refl {K : PySem.W.Frag} {S : Sto} {H : Hp} : Keep K S H S H := ⟨fun _ _ h => h, fun _ _ _ h => h⟩
theorem Keep.trans {K : PySem.W.Frag} {S S1 S2 : Sto} {H H1 H2 : Hp} (a : Keep K S H S1 H1) (b : Keep K S1 H1 S2 H2) : Keep K S H S2 H2 := ⟨fun x v h => b.r x v (a.r x v h), fun c o u h => b.z c o u (a.z c o u h)⟩

section
variable {K : PySem.W.Frag} {S S' S1 : Sto} {H H' H1 : Hp}
theorem Keep.l (k : Keep K S H S' H') : ∀ {l : List D} {vs : List V}, RepL K S H l vs → RepL K S' H' l vs
  | _, _, .nil => .nil
  | _, _, .cons r t => .cons (k _ _ r) (Keep.l k t)
theorem Keep.k (k : Keep K S H S' H') : ∀ {l : List (Key × D)} {vs : List (Key × V)}, RepK K S H l vs → RepK K S' H' l vs
  | _, _, .nil => .nil
  | _, _, .cons r t => .cons (k _ _ r) (Keep.k k t)
theorem Keep.f (k : Keep K S H S' H') : ∀ {l : List (String × D)} {vs : List (Str × V)}, RepF K S H l vs → RepF K S' H' l vs
  | _, _, .nil => .nil
  | _, _, .cons r t => .cons (k _ _ r) (Keep.f k t)
theorem RepL.length : ∀ {l : List D} {vs : List V}, RepL K S H l vs → l.length = vs.length
  | _, _, .nil => rfl
  | _, _, .cons _ t => by simp [RepL.length t]
theorem RepK.length : ∀ {l : List (Key × D)} {vs : List (Key × V)}, RepK K S H l vs → l.length = vs.length
  | _, _, .nil => rfl
  | _, _, .cons _ t => by simp [RepK.length t]
theorem RepL.get : ∀ {l : List D} {vs : List V} {i : Nat} {x : D}, RepL K S H l vs → l[i]? = some x → ∃ v, vs[i]? = some v ∧ Rep K S H x v
  | _, _, _, _, .nil, e => by simp at e
  | _, _, 0, _, .cons r _, e => by simp at e; subst e; exact ⟨_, rfl, r⟩
  | _, _, i + 1, x, .cons _ t, e => by
    obtain ⟨v, h1, h2⟩ := RepL.get (i := i) t (by simpa using e)
    exact ⟨v, by simpa using h1, h2⟩
theorem RepL.get' : ∀ {l : List D} {vs : List V} {i : Nat} {v : V}, RepL K S H l vs → vs[i]? = some v → ∃ x, l[i]? = some x ∧ Rep K S H x v
  | _, _, _, _, .nil, e => by simp at e
  | _, _, 0, _, .cons r _, e => by simp at e; subst e; exact ⟨_, rfl, r⟩
  | _, _, i + 1, x, .cons _ t, e => by
    obtain ⟨v, h1, h2⟩ := RepL.get' (i := i) t (by simpa using e)
    exact ⟨v, by simpa using h1, h2⟩
theorem RepL.append : ∀ {l l' : List D} {vs vs' : List V}, RepL K S H l vs → RepL K S H l' vs' → RepL K S H (l ++ l') (vs ++ vs')
  | _, _, _, _, .nil, h => h
  | _, _, _, _, .cons r t, h => .cons r (RepL.append t h)
theorem RepL.take : ∀ {l : List D} {vs : List V} (n : Nat), RepL K S H l vs → RepL K S H (l.take n) (vs.take n)
  | _, _, 0, _ => .nil
  | _, _, _ + 1, .nil => .nil
  | _, _, n + 1, .cons r t => .cons r (RepL.take n t)
theorem RepL.drop : ∀ {l : List D} {vs : List V} (n : Nat), RepL K S H l vs → RepL K S H (l.drop n) (vs.drop n)
  | _, _, 0, r => r
  | _, _, _ + 1, .nil => .nil
  | _, _, n + 1, .cons _ t => RepL.drop n t
theorem RepL.set : ∀ {l : List D} {vs : List V} (n : Nat) {x : D} {v : V}, RepL K S H l vs → Rep K S H x v → RepL K S H (l.set n x) (vs.set n v)
  | _, _, _, _, _, .nil, _ => .nil
  | _, _, 0, _, _, .cons _ t, q => .cons q t
  | _, _, n + 1, _, _, .cons r t, q => .cons r (RepL.set n t q)
theorem RepL.eraseIdx : ∀ {l : List D} {vs : List V} (n : Nat), RepL K S H l vs → RepL K S H (l.eraseIdx n) (vs.eraseIdx n)
  | _, _, _, .nil => .nil
  | _, _, 0, .cons _ t => t
  | _, _, n + 1, .cons r t => .cons r (RepL.eraseIdx n t)
theorem RepL.reverse : ∀ {l : List D} {vs : List V}, RepL K S H l vs → RepL K S H l.reverse vs.reverse
  | _, _, .nil => .nil
  | _, _, .cons r t => by
    rw [List.reverse_cons, List.reverse_cons]
    exact (RepL.reverse t).append (.cons r .nil)
theorem RepL.flatRep {l : List D} {vs : List V} (r : RepL K S H l vs) : ∀ n : Nat, RepL K S H (List.replicate n l).flatten (List.replicate n vs).flatten
  | 0 => .nil
  | n + 1 => by
    rw [List.replicate_succ, List.replicate_succ, List.flatten_cons, List.flatten_cons]
    exact r.append (RepL.flatRep r n)

/-! what stands otherwise at addresses that do not matter -/
/-- H' has all that a value's representation leans on -/
structure Lean' (K : PySem.W.Frag) (S : Sto) (H : Hp) (S' : Sto) (H' : Hp) : Prop where
  tup : ∀ a vs, SqT K H a vs → SqT K H' a vs
  lst : ∀ a vs, H a = some (.lst vs) → S a = none → H' a = some (.lst vs) ∧ S' a = none
  scr : ∀ a vs, Rd H a (.lst vs) → S a = none → Rd H' a (.lst vs) ∧ S' a = none
  dct : ∀ a kvs, Rd H a (.dK kvs) → S a = none → Rd H' a (.dK kvs) ∧ S' a = none
  ins : ∀ a c dx gs, H a = some (.ins c dx gs) → S a = none → H' a = some (.ins c dx gs) ∧ S' a = none
mutual
theorem Rep.lean (k : Lean' K S H S' H') : ∀ {x : D} {v : V}, Rep K S H x v → Rep K S' H' x v
  | _, _, .non => .non
  | _, _, .bl b => .bl b
  | _, _, .int i => .int i
  | _, _, .str x => .str x
  | _, _, .tup h n r => .tup (k.tup _ _ h) n (RepL.lean k r)
  | _, _, .lst h e n r => .lst (k.lst _ _ h e).1 (k.lst _ _ h e).2 n (RepL.lean k r)
  | _, _, .scr h e n r => .scr (k.scr _ _ h e).1 (k.scr _ _ h e).2 n (RepL.lean k r)
  | _, _, .scrK h n r => .scrK h n (RepL.lean k r)
  | _, _, .dct h e n r => .dct (k.dct _ _ h e).1 (k.dct _ _ h e).2 n (RepK.lean k r)
  | _, _, .ins h e n r => .ins (k.ins _ _ _ _ h e).1 (k.ins _ _ _ _ h e).2 n (RepF.lean k r)
  | _, _, .ref a => .ref a
theorem RepL.lean (k : Lean' K S H S' H') : ∀ {l : List D} {vs : List V}, RepL K S H l vs → RepL K S' H' l vs
  | _, _, .nil => .nil
  | _, _, .cons r t => .cons (Rep.lean k r) (RepL.lean k t)
theorem RepK.lean (k : Lean' K S H S' H') : ∀ {l : List (Key × D)} {vs : List (Key × V)}, RepK K S H l vs → RepK K S' H' l vs
  | _, _, .nil => .nil
  | _, _, .cons r t => .cons (Rep.lean k r) (RepK.lean k t)
theorem RepF.lean (k : Lean' K S H S' H') : ∀ {l : List (String × D)} {vs : List (Str × V)}, RepF K S H l vs → RepF K S' H' l vs
  | _, _, .nil => .nil
  | _, _, .cons r t => .cons (Rep.lean k r) (RepF.lean k t)
end
theorem Lean'.keep (k : Lean' K S H S' H') (z : ∀ a o u, H a = some (.frz o u) → H' a = some (.frz o u)) : Keep K S H S' H' := ⟨fun _ _ h => Rep.lean k h, z⟩
/-- a thing of the heap that no store has: what may change elsewhere -/
theorem Lean'.of (h : ∀ b, S b = none → (∃ o, H b = some o) → H' b = H b ∧ S' b = none) (ht : ∀ b vs, Rd H b (.tup vs) → H' b = H b) : Lean' K S H S' H' where
  tup := fun a vs q => by
    rcases q with q | q
    · refine .inl ?_
      have e := ht a vs q
      rcases q with q | ⟨o, q⟩
      · exact .inl (by rw [e]; exact q)
      · exact .inr ⟨o, by rw [e]; exact q⟩
    · exact .inr q
  lst := fun a vs q n => by
    obtain ⟨e, n'⟩ := h a n ⟨_, q⟩
    exact ⟨by rw [e]; exact q, n'⟩
  scr := fun a vs q n => by
    rcases q with q | ⟨o, q⟩
    · obtain ⟨e, n'⟩ := h a n ⟨_, q⟩
      exact ⟨.inl (by rw [e]; exact q), n'⟩
    · obtain ⟨e, n'⟩ := h a n ⟨_, q⟩
      exact ⟨.inr ⟨o, by rw [e]; exact q⟩, n'⟩
  dct := fun a kvs q n => by
    rcases q with q | ⟨o, q⟩
    · obtain ⟨e, n'⟩ := h a n ⟨_, q⟩
      exact ⟨.inl (by rw [e]; exact q), n'⟩
    · obtain ⟨e, n'⟩ := h a n ⟨_, q⟩
      exact ⟨.inr ⟨o, by rw [e]; exact q⟩, n'⟩
  ins := fun a c dx gs q n => by
    obtain ⟨e, n'⟩ := h a n ⟨_, q⟩
    exact ⟨by rw [e]; exact q, n'⟩
/-- a new thing at p, which no store has -/
theorem Keep.new {p : Addr} {o : HO} (hp : H p = none) : Keep K S H S (upd H p o) := (Lean'.of (fun b n ⟨u, e⟩ => ⟨upd_ne (ne_of_none e hp), n⟩) fun b vs q => upd_ne (by
  rcases q with q | ⟨u, q⟩
  · exact ne_of_none q hp
  · exact ne_of_none q hp)).keep fun a o u e => (upd_ne (ne_of_none e hp)).trans e
/-- .. and owned -/
theorem Keep.own {p : Addr} {o : HO} {u : SO} (hp : H p = none) : Keep K S H (S.set p u) (upd H p o) := (Lean'.of (fun b n ⟨w, e⟩ => ⟨upd_ne (ne_of_none e hp), by rw [Sto.set_ne (ne_of_none e hp)]; exact n⟩) fun b vs q => upd_ne (by
  rcases q with q | ⟨u, q⟩
  · exact ne_of_none q hp
  · exact ne_of_none q hp)).keep fun a o u e => (upd_ne (ne_of_none e hp)).trans e
/-- an owned thing is written -/
theorem Keep.put {a : Addr} {o : HO} {u : SO} (hs : (S a).isSome = true) (hm : ∀ vs, ¬ Rd H a (.tup vs)) (hf : ∀ o u, H a ≠ some (.frz o u)) : Keep K S H (S.set a u) (upd H a o) := (Lean'.of (fun b n _ => by
  have h : b ≠ a := fun e => by rw [e] at n; rw [n] at hs; cases hs
  exact ⟨upd_ne h, by rw [Sto.set_ne h]; exact n⟩) fun b vs q => upd_ne fun e => hm vs (by rw [← e]; exact q)).keep fun b o u e => (upd_ne fun z => hf o u (by rw [← z]; exact e)).trans e
/-- an owned thing is left -/
theorem Keep.left (h : ∀ a, S' a = S a ∨ S' a = none) : Keep K S H S' H := (Lean'.of (fun b n _ => ⟨rfl, by rcases h b with e | e; exact e.trans n; exact e⟩) fun _ _ _ => rfl).keep fun _ _ _ e => e
theorem ORep.keep (k : Keep K S H S' H') {a : Addr} {o : SO} (e : H' a = H a) (r : ORep K S H a o) : ORep K S' H' a o := by
  cases o with
  | lst l => obtain ⟨n, vs, h, q⟩ := r; exact ⟨n, vs, by rw [e]; exact h, k.l q⟩
  | dct l => obtain ⟨n, vs, h, q⟩ := r; exact ⟨n, vs, by rw [e]; exact h, k.k q⟩
  | ins c fs => obtain ⟨n, dx, gs, h, q⟩ := r; exact ⟨n, dx, gs, by rw [e]; exact h, k.f q⟩
  | lck l => obtain ⟨n, o, vs, h, q⟩ := r; exact ⟨n, o, vs, by rw [e]; exact h, k.k q⟩
theorem ORep.there {a : Addr} {o : SO} (r : ORep K S H a o) : ∃ u, H a = some u ∧ ∀ vs, ¬ Rd H a (.tup vs) := by
  have fin : ∀ {u : HO}, H a = some u → (∀ vs, u ≠ .tup vs) → (∀ ob vs, u ≠ .frz ob (.tup vs)) → ∃ u, H a = some u ∧ ∀ vs, ¬ Rd H a (.tup vs) := fun {u} h n1 n2 => ⟨u, h, fun vs q => by
    rcases q with q | ⟨ob, q⟩
    · rw [h] at q; exact n1 vs (Option.some.inj q)
    · rw [h] at q; exact n2 ob vs (Option.some.inj q)⟩
  cases o with
  | lst l => obtain ⟨n, vs, h, q⟩ := r; exact fin h (by intro _ z; cases z) (by intro _ _ z; cases z)
  | dct l => obtain ⟨n, vs, h, q⟩ := r; exact fin h (by intro _ z; cases z) (by intro _ _ z; cases z)
  | ins c fs => obtain ⟨n, dx, gs, h, q⟩ := r; exact fin h (by intro _ z; cases z) (by intro _ _ z; cases z)
  | lck l => obtain ⟨n, o, vs, h, q⟩ := r; exact fin h (by intro _ z; cases z) (by intro _ _ z; cases z)
theorem ORep.nofrz {a : Addr} {o : SO} (r : ORep K S H a o) (hw : ∀ l, o ≠ .lck l) : ∀ ob u, H a ≠ some (.frz ob u) := fun ob u e => by
  cases o with
  | lst l => obtain ⟨n, vs, h, q⟩ := r; rw [h] at e; cases e
  | dct l => obtain ⟨n, vs, h, q⟩ := r; rw [h] at e; cases e
  | ins c fs => obtain ⟨n, dx, gs, h, q⟩ := r; rw [h] at e; cases e
  | lck l => exact hw l rfl
theorem Rel.new {p : Addr} {o : HO} (r : Rel K S H) (hp : H p = none) : Rel K S (upd H p o) := fun a u e => by
  have q := r a u e
  obtain ⟨w, hw, _⟩ := q.there
  exact q.keep (Keep.new hp) (upd_ne (ne_of_none hw hp))
theorem Rel.fresh {p : Addr} (r : Rel K S H) (hp : H p = none) : S p = none := by
  cases e : S p with
  | none => rfl
  | some o =>
    obtain ⟨w, hw, _⟩ := (r p o e).there
    rw [hp] at hw; cases hw
theorem Rel.own {p : Addr} {o : HO} {u : SO} (r : Rel K S H) (hp : H p = none) (n : ORep K (S.set p u) (upd H p o) p u) : Rel K (S.set p u) (upd H p o) := fun a w e => by
  by_cases h : a = p
  · subst h; rw [Sto.set_same] at e; cases e; exact n
  · rw [Sto.set_ne h] at e
    exact (r a w e).keep (Keep.own hp) (upd_ne h)
theorem Rel.put {a : Addr} {o : HO} {u w : SO} (r : Rel K S H) (hs : S a = some w) (n : ORep K (S.set a u) (upd H a o) a u) (hw : ∀ l, w ≠ .lck l := by intro _ z; cases z) : Rel K (S.set a u) (upd H a o) := fun b x e => by
  by_cases h : b = a
  · subst h; rw [Sto.set_same] at e; cases e; exact n
  · rw [Sto.set_ne h] at e
    obtain ⟨_, _, nt⟩ := (r a w hs).there
    exact (r b x e).keep (Keep.put (by rw [hs]; rfl) nt ((r a w hs).nofrz hw)) (upd_ne h)
theorem Keep.putR {a : Addr} {o : HO} {u w : SO} (r : Rel K S H) (hs : S a = some w) (hw : ∀ l, w ≠ .lck l := by intro _ z; cases z) : Keep K S H (S.set a u) (upd H a o) := by
  obtain ⟨_, _, nt⟩ := (r a w hs).there
  exact Keep.put (by rw [hs]; rfl) nt ((r a w hs).nofrz hw)
theorem Rel.left (r : Rel K S H) (h : ∀ a, S' a = S a ∨ S' a = none) : Rel K S' H := fun a o e => by
  rcases h a with q | q
  · exact (r a o (by rw [← q]; exact e)).keep (Keep.left h) rfl
  · rw [q] at e; cases e
end
end SB
end

section
set_option Elab.async false
set_option linter.all false
set_option maxRecDepth 100000
set_option autoImplicit false
/-! SB1: where one stands, the judgements over data, the plain expressions. -/
namespace SB
open PySem PySem.Spec L2
abbrev En := List (Option D)
structure Good (K : PySem.W.Frag) (ς : En) (S : Sto) (σ : St) (H : Hp) : Prop where
  len : ς.length = σ.length
  var : ∀ (i : Nat) (x : D), ς[i]? = some (some x) → ∃ v : V, σ[i]? = some (some v) ∧ Rep K S H x v
  rel : Rel K S H
abbrev Pd := D → Sto → Prop
abbrev Px := String → Sto → Prop
abbrev WpE := En → Sto → Pd → Px → Prop
abbrev WpA := En → Sto → (List D → Sto → Prop) → Px → Prop
abbrev WpT := En → Sto → (Bool → Sto → Prop) → Px → Prop
/-- a body's frame: what stood at its entry, what is wanted of an exception that leaves -/
structure Fr where
  S0 : Sto
  H0 : Hp
  XE : String → En → Sto → Prop
section
variable {K : PySem.W.Frag} {ς : En} {S S' : Sto} {σ : St} {H H' : Hp}
theorem Good.keep (g : Good K ς S σ H) (r : Rel K S' H') (k : Keep K S H S' H') : Good K ς S' σ H' :=
  ⟨g.len, fun i x e => by obtain ⟨v, h1, h2⟩ := g.var i x e; exact ⟨v, h1, k _ _ h2⟩, r⟩
theorem Good.set (g : Good K ς S σ H) {i : Nat} {x : D} {v : V} (r : Rep K S H x v) : Good K (ς.set i (some x)) S (σ.set i (some v)) H := by
  refine ⟨by simp [g.len], fun j y e => ?_, g.rel⟩
  by_cases h : i = j
  · subst h
    by_cases hi : i < ς.length
    · rw [List.getElem?_set_self hi] at e
      cases e
      exact ⟨v, by rw [List.getElem?_set_self (by rw [← g.len]; exact hi)], r⟩
    · rw [List.getElem?_eq_none (by simpa using hi)] at e; cases e
  · rw [List.getElem?_set_ne h] at e
    obtain ⟨u, h1, h2⟩ := g.var j y e
    exact ⟨u, by rw [List.getElem?_set_ne h]; exact h1, h2⟩
theorem Good.unset (g : Good K ς S σ H) {i : Nat} : Good K (ς.set i none) S (σ.set i none) H := by
  refine ⟨by simp [g.len], fun j y e => ?_, g.rel⟩
  by_cases h : i = j
  · subst h
    by_cases hi : i < ς.length
    · rw [List.getElem?_set_self hi] at e; cases e
    · rw [List.getElem?_eq_none (by simpa using hi)] at e; cases e
  · rw [List.getElem?_set_ne h] at e
    obtain ⟨u, h1, h2⟩ := g.var j y e
    exact ⟨u, by rw [List.getElem?_set_ne h]; exact h1, h2⟩
end
section
variable (K : PySem.W.Frag) (F : Fr)
/-- the reading of an expression -/
def tE (w : WpE) : TE := fun σ H Q => ∃ (ς : En) (S : Sto) (R : Pd), Good K ς S σ H ∧ Keep K F.S0 F.H0 S H ∧ w ς S R (fun c S' => F.XE c ς S') ∧
  ∀ x S' v H', R x S' → Rel K S' H' → Keep K S H S' H' → Rep K S' H' x v → Q v H'
def tT (w : WpT) : TT := fun σ H Q => ∃ (ς : En) (S : Sto) (R : Bool → Sto → Prop), Good K ς S σ H ∧ Keep K F.S0 F.H0 S H ∧ w ς S R (fun c S' => F.XE c ς S') ∧
  ∀ b S' H', R b S' → Rel K S' H' → Keep K S H S' H' → Q b H'
def tA (w : WpA) : TA := fun σ H Q => ∃ (ς : En) (S : Sto) (R : List D → Sto → Prop), Good K ς S σ H ∧ Keep K F.S0 F.H0 S H ∧ w ς S R (fun c S' => F.XE c ς S') ∧
  ∀ xs S' vs H', R xs S' → Rel K S' H' → Keep K S H S' H' → RepL K S' H' xs vs → Q vs H'
end
def WE (X : Cx) (F : Fr) (e : Expr) (w : WpE) : Prop := PE X e (tE X.K F w)
def WT (X : Cx) (F : Fr) (e : Expr) (w : WpT) : Prop := PT X e (tT X.K F w)
def WA (X : Cx) (F : Fr) (es : List Expr) (w : WpA) : Prop := PA X es (tA X.K F w)
section
variable {X : Cx} {F : Fr}
theorem _root_.L2.PE.imp {e : Expr} {t t' : TE} (h : PE X e t) (i : ∀ σ H Q, t' σ H Q → t σ H Q) : PE X e t' := ⟨fun pins s σ H Q I q => h.run pins s σ H Q I (i σ H Q q)⟩
theorem _root_.L2.PT.imp {e : Expr} {t t' : TT} (h : PT X e t) (i : ∀ σ H Q, t' σ H Q → t σ H Q) : PT X e t' := ⟨fun pins s σ H Q I q => h.run pins s σ H Q I (i σ H Q q)⟩
theorem _root_.L2.PW.imp {e : Expr} {t t' : TT} (h : PW X e t) (i : ∀ σ H Q, t' σ H Q → t σ H Q) : PW X e t' := ⟨fun wh pins s σ H Q I q => h.run wh pins s σ H Q I (i σ H Q q)⟩
theorem _root_.L2.PA.imp {es : List Expr} {t t' : TA} (h : PA X es t) (i : ∀ σ H Q, t' σ H Q → t σ H Q) : PA X es t' := ⟨fun pos pins s σ H Q I q => h.run pos pins s σ H Q I (i σ H Q q)⟩
theorem _root_.L2.PS.imp {st : Stmt} {t t' : TS} (h : PS X st t) (i : ∀ D σ H, t' D σ H → t D σ H) : PS X st t' := ⟨fun pins s σ H D I q => h.run pins s σ H D I (i D σ H q)⟩
theorem _root_.L2.PSs.imp {st : List Stmt} {t t' : TS} (h : PSs X st t) (i : ∀ D σ H, t' D σ H → t D σ H) : PSs X st t' := ⟨fun pins s σ H D I q => h.run pins s σ H D I (i D σ H q)⟩
theorem _root_.L2.PE.or {e : Expr} {t t' : TE} (h : PE X e t) (h' : PE X e t') : PE X e (fun σ H Q => t σ H Q ∨ t' σ H Q) := ⟨fun pins s σ H Q I q => q.elim (h.run pins s σ H Q I) (h'.run pins s σ H Q I)⟩
theorem _root_.L2.PS.or {e : Stmt} {t t' : TS} (h : PS X e t) (h' : PS X e t') : PS X e (fun D σ H => t D σ H ∨ t' D σ H) := ⟨fun pins s σ H Q I q => q.elim (h.run pins s σ H Q I) (h'.run pins s σ H Q I)⟩
/-- a reading from a wish in another form: the way all rules are used -/
theorem tE.step {w : WpE} {t : TE} (h : ∀ (ς : En) (S : Sto) (R : Pd) (σ : St) (H : Hp) (Q : VK), Good X.K ς S σ H → Keep X.K F.S0 F.H0 S H → w ς S R (fun c S' => F.XE c ς S') →
    (∀ x S' v H', R x S' → Rel X.K S' H' → Keep X.K S H S' H' → Rep X.K S' H' x v → Q v H') → t σ H Q) : ∀ σ H Q, tE X.K F w σ H Q → t σ H Q :=
  fun σ H Q ⟨ς, S, R, g, k, hw, hR⟩ => h ς S R σ H Q g k hw hR
theorem tE.mk {K : PySem.W.Frag} {w : WpE} {ς : En} {S : Sto} {R : Pd} {σ : St} {H : Hp} {Q : VK} (g : Good K ς S σ H) (k : Keep K F.S0 F.H0 S H) (hw : w ς S R (fun c S' => F.XE c ς S'))
    (hR : ∀ x S' v H', R x S' → Good K ς S' σ H' → Keep K F.S0 F.H0 S' H' → Keep K S H S' H' → Rep K S' H' x v → Q v H') : tE K F w σ H Q :=
  ⟨ς, S, R, g, k, hw, fun x S' v H' q r k' p => hR x S' v H' q (g.keep r k') (k.trans k') k' p⟩
theorem tT.mk {K : PySem.W.Frag} {w : WpT} {ς : En} {S : Sto} {R : Bool → Sto → Prop} {σ : St} {H : Hp} {Q : Bool → Hp → Prop} (g : Good K ς S σ H) (k : Keep K F.S0 F.H0 S H) (hw : w ς S R (fun c S' => F.XE c ς S'))
    (hR : ∀ x S' H', R x S' → Good K ς S' σ H' → Keep K F.S0 F.H0 S' H' → Keep K S H S' H' → Q x H') : tT K F w σ H Q :=
  ⟨ς, S, R, g, k, hw, fun x S' H' q r k' => hR x S' H' q (g.keep r k') (k.trans k') k'⟩
theorem tA.mk {K : PySem.W.Frag} {w : WpA} {ς : En} {S : Sto} {R : List D → Sto → Prop} {σ : St} {H : Hp} {Q : List V → Hp → Prop} (g : Good K ς S σ H) (k : Keep K F.S0 F.H0 S H) (hw : w ς S R (fun c S' => F.XE c ς S'))
    (hR : ∀ x S' v H', R x S' → Good K ς S' σ H' → Keep K F.S0 F.H0 S' H' → Keep K S H S' H' → RepL K S' H' x v → Q v H') : tA K F w σ H Q :=
  ⟨ς, S, R, g, k, hw, fun x S' v H' q r k' p => hR x S' v H' q (g.keep r k') (k.trans k') k' p⟩
end

/-! ### names, constants -/
def wVar (i : Nat) : WpE := fun ς S R _ => ∃ x, ς[i]? = some (some x) ∧ R x S
def wC (d : D) : WpE := fun _ S R _ => R d S
section
variable {X : Cx} {F : Fr} {pos : Pos}
theorem we_var {i : Nat} {x : Str} (hN : X.N[i]? = some x) (hv : Vis X.env.scope x) (hd : (x == ("__debug__" : Str)) = false) (hcd : (x == ("__classdict__" : Str)) = false) : WE X F (.Name x pos) (wVar i) :=
  (pe_var hN hv hd hcd).imp (tE.step fun ς S R σ H Q g k hw hR => by
    obtain ⟨x, e, q⟩ := hw
    obtain ⟨v, h1, h2⟩ := g.var i x e
    exact ⟨v, h1, hR x S v H q g.rel .refl h2⟩)
theorem we_c {e : Expr} {v : V} {d : D} (h : PE X e (tC v)) (r : ∀ S H, Rep X.K S H d v) : WE X F e (wC d) :=
  h.imp (tE.step fun ς S R σ H Q g k hw hR => hR d S v H hw g.rel .refl (r S H))
theorem we_int {i j} : WE X F (.Constant (.int i) j pos) (wC (.int i)) := we_c pe_int fun _ _ => .int i
theorem we_bl {b j} : WE X F (.Constant (.bool b) j pos) (wC (.bl b)) := we_c pe_bl fun _ _ => .bl b
theorem we_non {j} : WE X F (.Constant .none j pos) (wC .non) := we_c pe_non fun _ _ => .non
theorem we_str {x j} : WE X F (.Constant (.str x) j pos) (wC (.str x)) := we_c pe_str fun _ _ => .str x
theorem we_globI {x : Str} {i : Int} {u : Value} (hg : Gl X x) (hm : X.mg x = some u) (r : RelV (.int i) u) (hd : (x == ("__debug__" : Str)) = false) : WE X F (.Name x pos) (wC (.int i)) := we_c (pe_glob hg hm r hd) fun _ _ => .int i
theorem we_globS {x z : Str} {u : Value} (hg : Gl X x) (hm : X.mg x = some u) (r : RelV (.str z) u) (hd : (x == ("__debug__" : Str)) = false) : WE X F (.Name x pos) (wC (.str z)) := we_c (pe_glob hg hm r hd) fun _ _ => .str z
end

/-! ### operators by values -/
/-- what an operator's rule asks, from what is asked of data -/
def OpD (K : PySem.W.Frag) (r : R2) (f : D → D → Sto → Pd → Prop) : Prop :=
  ∀ x y v u S H (R : Pd) (Q : VK), Rel K S H → Rep K S H x v → Rep K S H y u → f x y S R → (∀ z S' v' H', R z S' → Rel K S' H' → Keep K S H S' H' → Rep K S' H' z v' → Q v' H') → r v u H Q
def wOp (f : D → D → Sto → Pd → Prop) (wa wb : WpE) : WpE := fun ς S R RE => wa ς S (fun x S1 => wb ς S1 (fun y S2 => f x y S2 R) RE) RE
section
variable {X : Cx} {F : Fr} {pos : Pos} {a b : Expr} {wa wb : WpE} {r : R2} {f : D → D → Sto → Pd → Prop}
theorem two_ok {K : PySem.W.Frag} (hd : OpD K r f) {σ : St} {H : Hp} {Q : VK} (h : tE K F (wOp f wa wb) σ H Q) : tOp r (tE K F wa) (tE K F wb) σ H Q := by
  obtain ⟨ς, S, R, g, k, hw, hR⟩ := h
  refine tE.mk g k hw fun x S1 v H1 h1 g1 k1 d1 r1 => tE.mk g1 k1 h1 fun y S2 u H2 h2 g2 k2 d2 r2 => ?_
  exact hd x y v u S2 H2 R Q g2.rel (d2 _ _ r1) r2 h2 fun z S3 v' H3 h3 r3 k3 p3 => hR z S3 v' H3 h3 r3 ((d1.trans d2).trans k3) p3
theorem we_op {op : Operator} (ho : OpR X (binaryOp op) r) (hd : OpD X.K r f) (ha : WE X F a wa) (hb : WE X F b wb) : WE X F (.BinOp a op b pos) (wOp f wa wb) :=
  (pe_op ho ha hb).imp fun _ _ _ h => two_ok hd h
end
/-- pure on data -/
def fP (g : D → D → Option D) : D → D → Sto → Pd → Prop := fun x y S R => ∃ z, g x y = some z ∧ R z S
/-- the list that a value is -/
def lstOf (S : Sto) : D → Option (List D)
  | .lst l => some l
  | .ref a => (match S a with
    | some (.lst l) => some l
    | _ => none)
  | _ => none
/-- a new list: one's own to write, or data -/
def mkL (own : Bool) (l : List D) (S : Sto) (R : Pd) : Prop := l.length ≤ sizeLine ∧ match own with
  | true => ∀ p, S p = none → R (.ref p) (S.set p (.lst l))
  | false => R (.lst l) S
theorem lstOf_rep {K : PySem.W.Frag} {S : Sto} {H : Hp} {x : D} {v : V} {l : List D} (r : Rep K S H x v) (q : Rel K S H) (e : lstOf S x = some l) : ∃ a vs, v = .ref a ∧ H a = some (.lst vs) ∧ RepL K S H l vs ∧ l.length ≤ sizeLine := by
  cases r with
  | lst h n z r => cases e; exact ⟨_, _, rfl, h, r, z⟩
  | ref a =>
    unfold lstOf at e
    dsimp only at e
    cases h : S a with
    | none => rw [h] at e; cases e
    | some o =>
      rw [h] at e
      cases o with
      | lst l' => cases e; obtain ⟨z, vs, h1, h2⟩ := q a _ h; exact ⟨_, _, rfl, h1, h2, z⟩
      | _ => cases e
  | _ => cases e
theorem mkL_ok {K : PySem.W.Frag} {S : Sto} {H : Hp} {own : Bool} {l : List D} {vs : List V} {R : Pd} {Q : VK} (q : Rel K S H) (h : mkL own l S R) (r : RepL K S H l vs)
    (hR : ∀ z S' v' H', R z S' → Rel K S' H' → Keep K S H S' H' → Rep K S' H' z v' → Q v' H') : vs.length ≤ sizeLine ∧ ∀ p, H p = none → Q (.ref p) (upd H p (.lst vs)) := by
  obtain ⟨z, h⟩ := h
  refine ⟨by rw [← r.length]; exact z, fun p hp => ?_⟩
  cases own with
  | true => exact hR _ _ _ _ (h p (q.fresh hp)) (q.own hp ⟨z, vs, upd_same, (Keep.own hp).l r⟩) (Keep.own hp) (.ref p)
  | false => exact hR _ _ _ _ h (q.new hp) (Keep.new hp) (.lst upd_same (q.fresh hp) z ((Keep.new hp).l r))
theorem mkT_ok {K : PySem.W.Frag} {S : Sto} {H : Hp} {l : List D} {vs : List V} {R : Pd} {Q : VK} (q : Rel K S H) (z : l.length ≤ sizeLine) (h : R (.tup l) S) (r : RepL K S H l vs)
    (hR : ∀ z S' v' H', R z S' → Rel K S' H' → Keep K S H S' H' → Rep K S' H' z v' → Q v' H') : vs.length ≤ sizeLine ∧ ∀ p, H p = none → Q (.ref p) (upd H p (.tup vs)) :=
  ⟨by rw [← r.length]; exact z, fun p hp => hR _ _ _ _ h (q.new hp) (Keep.new hp) (.tup (.of upd_same) z ((Keep.new hp).l r))⟩
end SB
end

section
set_option Elab.async false
set_option linter.all false
set_option maxRecDepth 100000
set_option autoImplicit false
/-! SB2: operators, comparisons, tests. -/
namespace SB
open PySem PySem.Spec L2

/-! ### arithmetic -/
def fAdd (own : Bool) : D → D → Sto → Pd → Prop
  | .int i, .int j, S, R => R (.int (i + j)) S
  | .str a, .str b, S, R => a.length + b.length ≤ sizeLine ∧ R (.str (a ++ b)) S
  | .tup l, .tup m, S, R => l.length + m.length ≤ sizeLine ∧ R (.tup (l ++ m)) S
  | x, y, S, R => ∃ l m, lstOf S x = some l ∧ lstOf S y = some m ∧ mkL own (l ++ m) S R
def fSub : D → D → Sto → Pd → Prop
  | .int i, .int j, S, R => R (.int (i - j)) S
  | _, _, _, _ => False
def fMul (own : Bool) : D → D → Sto → Pd → Prop
  | .int i, .int j, S, R => CMul i j ∧ R (.int (i * j)) S
  | x, .int k, S, R => ∃ l, lstOf S x = some l ∧ (-(2 ^ 63) ≤ k ∧ k < 2 ^ 63) ∧ mkL own (List.replicate k.toNat l).flatten S R
  | _, _, _, _ => False
def fDiv : D → D → Sto → Pd → Prop
  | .int i, .int j, S, R => (0 < j ∧ j.natAbs.log2 < 9000) ∧ R (.int (i / j)) S
  | _, _, _, _ => False
def fMod : D → D → Sto → Pd → Prop
  | .int i, .int j, S, R => 0 < j ∧ R (.int (i % j)) S
  | _, _, _, _ => False
def fPow : D → D → Sto → Pd → Prop
  | .int i, .int j, S, R => CPow i j ∧ R (.int (i ^ j.toNat)) S
  | _, _, _, _ => False
abbrev rAddS2 : R2 := fun x y H Q => ∃ i j, x = .str i ∧ y = .str j ∧ i.length + j.length ≤ sizeLine ∧ Q (.str (i ++ j)) H
abbrev rAddI2 : R2 := rI0 fun i j => .int (i + j)
section
variable {K : PySem.W.Frag} {S : Sto} {H : Hp}
theorem Rep.tup_inv {l : List D} {v : V} (r : Rep K S H (.tup l) v) : ∃ a vs, v = .ref a ∧ SqT K H a vs ∧ l.length ≤ sizeLine ∧ RepL K S H l vs := by
  cases r with
  | tup h n r => exact ⟨_, _, rfl, h, n, r⟩
theorem tupCat {l m : List D} {v u : V} {R : Pd} {Q : VK} (q : Rel K S H) (rx : Rep K S H (.tup l) v) (ry : Rep K S H (.tup m) u) (z : l.length + m.length ≤ sizeLine) (h : R (.tup (l ++ m)) S)
    (hR : ∀ z S' v' H', R z S' → Rel K S' H' → Keep K S H S' H' → Rep K S' H' z v' → Q v' H') : rCatA K v u H Q := by
  obtain ⟨a, vs, rfl, h1, n1, r1⟩ := rx.tup_inv
  obtain ⟨b, us, rfl, h2, n2, r2⟩ := ry.tup_inv
  have e1 := r1.length
  have e2 := r2.length
  refine ⟨a, b, vs, us, rfl, rfl, h1, h2, by omega, fun e => ?_, fun e e' => ?_, fun e e' p hp => ?_⟩
  · subst e
    have : l = [] := List.length_eq_zero_iff.mp (by simpa using e1)
    subst this
    exact hR _ S _ H h q .refl (by simpa using Rep.tup h2 n2 r2)
  · subst e'
    have : m = [] := List.length_eq_zero_iff.mp (by simpa using e2)
    subst this
    exact hR _ S _ H h q .refl (by simpa using Rep.tup h1 n1 r1)
  · exact hR _ _ _ _ h (q.new hp) (Keep.new hp) (.tup (.of upd_same) (by simpa using z) ((Keep.new hp).l (r1.append r2)))
theorem od_add {own : Bool} : OpD K (fun x y H Q => rAddI2 x y H Q ∨ rAddS2 x y H Q ∨ rCatA K x y H Q ∨ rCat x y H Q) (fAdd own) := by
  intro x y v u S H R Q q rx ry h hR
  unfold fAdd at h
  split at h
  · cases rx; cases ry
    exact .inl ⟨_, _, rfl, rfl, hR _ S _ H h q .refl (.int _)⟩
  · cases rx; cases ry
    exact .inr (.inl ⟨_, _, rfl, rfl, h.1, hR _ S _ H h.2 q .refl (.str _)⟩)
  · exact .inr (.inr (.inl (tupCat q rx ry h.1 h.2 hR)))
  · obtain ⟨l, m, e1, e2, h⟩ := h
    obtain ⟨a, vs, rfl, h1, r1, n1⟩ := lstOf_rep rx q e1
    obtain ⟨b, us, rfl, h2, r2, n2⟩ := lstOf_rep ry q e2
    obtain ⟨z, k⟩ := mkL_ok q h (r1.append r2) hR
    exact .inr (.inr (.inr ⟨a, b, vs, us, rfl, rfl, h1, h2, by simpa using z, k⟩))
theorem od_sub : OpD K (rI0 fun i j => .int (i - j)) fSub := by
  intro x y v u S H R Q q rx ry h hR
  unfold fSub at h
  split at h
  · cases rx; cases ry
    exact ⟨_, _, rfl, rfl, hR _ S _ H h q .refl (.int _)⟩
  · exact h.elim
theorem od_mul {own : Bool} : OpD K (fun x y H Q => (rI CMul fun i j => .int (i * j)) x y H Q ∨ rRep x y H Q) (fMul own) := by
  intro x y v u S H R Q q rx ry h hR
  unfold fMul at h
  split at h
  · cases rx; cases ry
    exact .inl ⟨_, _, rfl, rfl, h.1, hR _ S _ H h.2 q .refl (.int _)⟩
  · cases ry
    obtain ⟨l, e1, hk, h⟩ := h
    obtain ⟨a, vs, rfl, h1, r1, n1⟩ := lstOf_rep rx q e1
    rename_i k _
    obtain ⟨z, kk⟩ := mkL_ok q h (r1.flatRep k.toNat) hR
    refine .inr ⟨a, _, vs, rfl, rfl, h1, hk.1, hk.2, ?_, kk⟩
    simpa [Nat.mul_comm] using z
  · exact h.elim
theorem od_div : OpD K (rI CDivW fun i j => .int (i / j)) fDiv := by
  intro x y v u S H R Q q rx ry h hR
  unfold fDiv at h
  split at h
  · cases rx; cases ry
    exact ⟨_, _, rfl, rfl, h.1, hR _ S _ H h.2 q .refl (.int _)⟩
  · exact h.elim
theorem od_mod : OpD K (rI (fun _ j => 0 < j) fun i j => .int (i % j)) fMod := by
  intro x y v u S H R Q q rx ry h hR
  unfold fMod at h
  split at h
  · cases rx; cases ry
    exact ⟨_, _, rfl, rfl, h.1, hR _ S _ H h.2 q .refl (.int _)⟩
  · exact h.elim
theorem od_pow : OpD K (rI CPow fun i j => .int (i ^ j.toNat)) fPow := by
  intro x y v u S H R Q q rx ry h hR
  unfold fPow at h
  split at h
  · cases rx; cases ry
    exact ⟨_, _, rfl, rfl, h.1, hR _ S _ H h.2 q .refl (.int _)⟩
  · exact h.elim
end
section
variable {X : Cx} {F : Fr} {pos : Pos} {a b : Expr} {wa wb : WpE}
theorem we_add {own : Bool} (ha : WE X F a wa) (hb : WE X F b wb) : WE X F (.BinOp a .Add b pos) (wOp (fAdd own) wa wb) :=
  we_op (op_add.or (op_add_str.or (op_catA.or op_cat))) od_add ha hb
theorem we_sub (ha : WE X F a wa) (hb : WE X F b wb) : WE X F (.BinOp a .Sub b pos) (wOp fSub wa wb) := we_op op_sub od_sub ha hb
theorem we_mul {own : Bool} (ha : WE X F a wa) (hb : WE X F b wb) : WE X F (.BinOp a .Mult b pos) (wOp (fMul own) wa wb) := we_op (op_mul.or op_rep) od_mul ha hb
theorem we_div (ha : WE X F a wa) (hb : WE X F b wb) : WE X F (.BinOp a .FloorDiv b pos) (wOp fDiv wa wb) := we_op op_fdivW od_div ha hb
theorem we_mod (ha : WE X F a wa) (hb : WE X F b wb) : WE X F (.BinOp a .Mod b pos) (wOp fMod wa wb) := we_op op_mod od_mod ha hb
theorem we_pow (ha : WE X F a wa) (hb : WE X F b wb) : WE X F (.BinOp a .Pow b pos) (wOp fPow wa wb) := we_op op_pow od_pow ha hb
def wUn (f : D → Sto → Pd → Prop) (wa : WpE) : WpE := fun ς S R RE => wa ς S (fun x S1 => f x S1 R) RE
def fNeg : D → Sto → Pd → Prop
  | .int i, S, R => R (.int (-i)) S
  | _, _, _ => False
theorem we_neg (ha : WE X F a wa) : WE X F (.UnaryOp .USub a pos) (wUn fNeg wa) :=
  (pe_un un_neg ha).imp fun σ H Q h => by
    obtain ⟨ς, S, R, g, k, hw, hR⟩ := h
    refine tE.mk g k hw fun x S1 v H1 h1 g1 k1 d1 r1 => ?_
    unfold fNeg at h1
    split at h1
    · cases r1
      exact ⟨_, rfl, hR _ S1 _ H1 h1 g1.rel d1 (.int _)⟩
    · exact h1.elim
end

/-! ### comparisons -/
mutual
def pyD : D → PyData
  | .non => .none
  | .bl b => .bool b
  | .int i => .int i
  | .str x => .str x
  | .tup l => .tuple (pyL l)
  | .lst l => .list (pyL l)
  | .scr l => .list (pyL l)
  | .dct _ => .dict []
  | .ins _ _ => .dict []
  | .ref _ => .dict []
  | .exc _ => .dict []
def pyL : List D → List PyData
  | [] => []
  | x :: r => pyD x :: pyL r
end
/-- plain data, not too deep -/
def okD (x : D) : Bool := SeqAt.shaped (pyD x)
def dEq (x y : D) : Bool := PyData.eqv (pyD x) (pyD y)
/-- an owned list as data -/
def view (S : Sto) (x : D) : D := match x with
  | .ref a => (match S a with
    | some (.lst l) => .lst l
    | _ => .ref a)
  | x => x
theorem KLst.sq {K : PySem.W.Frag} {H : Hp} {a : Addr} {xs : List V} (h : KLst K a xs) : SqL K H a xs := .inr h
mutual
theorem rep_dp {K : PySem.W.Frag} {S : Sto} {H : Hp} : ∀ {x : D} {v : V}, Rep K S H x v → (pyD x).canLay0 = true → Dp K H v (pyD x)
  | _, _, .non, _ => .non
  | _, _, .bl b, _ => .bl b
  | _, _, .int i, _ => .int i
  | _, _, .str x, _ => .str x
  | _, _, .tup h _ r, e => .tup h (repL_dp r (by simpa [pyD, PyData.canLay0] using e))
  | _, _, .lst h _ _ r, e => .lst (.of h) (repL_dp r (by simpa [pyD, PyData.canLay0] using e))
  | _, _, .scr h _ _ r, e => .lst (.inl h) (repL_dp r (by simpa [pyD, PyData.canLay0] using e))
  | _, _, .scrK h _ r, e => .lst h.sq (repL_dp r (by simpa [pyD, PyData.canLay0] using e))
  | _, _, .dct _ _ _ _, e => by simp [pyD, PyData.canLay0] at e
  | _, _, .ins _ _ _ _, e => by simp [pyD, PyData.canLay0] at e
  | _, _, .ref _, e => by simp [pyD, PyData.canLay0] at e
theorem repL_dp {K : PySem.W.Frag} {S : Sto} {H : Hp} : ∀ {l : List D} {vs : List V}, RepL K S H l vs → PyData.canLayAll0 (pyL l) = true → DpAll K H vs (pyL l)
  | _, _, .nil, _ => .nil
  | _, _, .cons r t, e => by
    simp only [pyL, PyData.canLayAll0, Bool.and_eq_true] at e
    exact .cons (rep_dp r e.1) (repL_dp t e.2)
end
theorem view_dp {K : PySem.W.Frag} {S : Sto} {H : Hp} {x : D} {v : V} (r : Rep K S H x v) (q : Rel K S H) (e : okD (view S x) = true) : Dp K H v (pyD (view S x)) := by
  have e' := SeqAt.canLay_of_shaped e
  cases x with
  | ref a =>
    cases r
    unfold view at e' ⊢
    dsimp only at e' ⊢
    cases h : S a with
    | none => rw [h] at e'; simp [pyD, PyData.canLay0] at e'
    | some o =>
      rw [h] at e'
      cases o with
      | lst l =>
        obtain ⟨z, vs, h1, h2⟩ := q a _ h
        exact .lst (.of h1) (repL_dp h2 (by simpa [pyD, PyData.canLay0] using e'))
      | dct l => simp [pyD, PyData.canLay0] at e'
      | ins c l => simp [pyD, PyData.canLay0] at e'
      | lck l => simp [pyD, PyData.canLay0] at e'
  | _ => exact rep_dp r e'
def fEq (neg : Bool) (x y : D) (S : Sto) (R : Pd) : Prop := okD (view S x) = true ∧ okD (view S y) = true ∧ R (.bl (neg ^^ dEq (view S x) (view S y))) S
def fCmp (p : Int → Int → Bool) : D → D → Sto → Pd → Prop
  | .int i, .int j, S, R => R (.bl (p i j)) S
  | _, _, _, _ => False
def fIs (neg : Bool) : D → D → Sto → Pd → Prop
  | .ref _, .non, _, _ => False
  | .exc _, .non, _, _ => False
  | .non, .non, S, R => R (.bl (!neg)) S
  | _, .non, S, R => R (.bl neg) S
  | .bl a, .bl b, S, R => R (.bl (neg ^^ (a == b))) S
  | _, _, _, _ => False
/-- a key -/
def keyOf : D → Option Key
  | .int i => some (.inl i)
  | .str x => some (.inr x)
  | _ => none
def dctOf (S : Sto) : D → Option (List (Key × D))
  | .dct l => some l
  | .ref a => (match S a with
    | some (.dct l) => some l
    | some (.lck l) => some l
    | _ => none)
  | _ => none
/-- what is at a key -/
def lookK (k : Key) : List (Key × D) → Option D
  | [] => none
  | (j, x) :: r => if j = k then some x else lookK k r
def flatD : D → Bool
  | .non => true | .bl _ => true | .int _ => true | .str _ => true
  | _ => false
/-- what in asks: a dict's keys; a text's signs; a list's, a tuple's items -/
inductive Cont where
  | d (l : List (Key × D)) | s (z : Str) | l (l : List D) | t (l : List D) | no
def contOf (S : Sto) : D → Cont
  | .dct l => .d l
  | .str z => .s z
  | .lst l => .l l
  | .scr l => .l l
  | .tup l => .t l
  | .ref a => (match S a with
    | some (.dct l) => .d l
    | some (.lck l) => .d l
    | some (.lst l) => .l l
    | _ => .no)
  | _ => .no
def fIn (neg : Bool) (x y : D) (S : Sto) (R : Pd) : Prop := match contOf S y with
  | .d l => ∃ k, keyOf x = some k ∧ R (.bl (neg ^^ (lookK k l).isSome)) S
  | .s z => ∃ c : Nat, x = .str ⟨#[c]⟩ ∧ R (.bl (neg ^^ decide (c ∈ z.cps.toList))) S
  | .l l => okD (.lst l) = true ∧ okD x = true ∧ R (.bl (neg ^^ l.any (fun z => dEq z x))) S
  | .t l => l.all flatD = true ∧ flatD x = true ∧ R (.bl (neg ^^ l.any (fun z => dEq z x))) S
  | .no => False
theorem RepK.look {K : PySem.W.Frag} {S : Sto} {H : Hp} {k : Key} : ∀ {l : List (Key × D)} {vs : List (Key × V)}, RepK K S H l vs → match lookK k l with
    | some x => ∃ v, valV vs k = some v ∧ Rep K S H x v
    | none => valV vs k = none
  | _, _, .nil => by show valV [] k = none; rfl
  | _, _, .cons (k := j) (d := d) (v := v) (l := l) (vs := vs) r t => by
    have ih := RepK.look (k := k) t
    by_cases h : j = k
    · subst h
      have e1 : lookK j ((j, d) :: l) = some d := by simp [lookK]
      have e2 : valV ((j, v) :: vs) j = some v := by simp [valV]
      rw [e1]
      exact ⟨v, e2, r⟩
    · have e1 : lookK k ((j, d) :: l) = lookK k l := by simp [lookK, h]
      have e2 : valV ((j, v) :: vs) k = valV vs k := by simp [valV, h]
      rw [e1, e2]
      exact ih
theorem dctOf_rep {K : PySem.W.Frag} {S : Sto} {H : Hp} {x : D} {v : V} {l : List (Key × D)} (r : Rep K S H x v) (q : Rel K S H) (e : dctOf S x = some l) : ∃ a vs, v = .ref a ∧ Rd H a (.dK vs) ∧ RepK K S H l vs ∧ l.length ≤ sizeLine := by
  cases r with
  | dct h n z r => cases e; exact ⟨_, _, rfl, h, r, z⟩
  | ref a =>
    unfold dctOf at e
    dsimp only at e
    cases h : S a with
    | none => rw [h] at e; cases e
    | some o =>
      rw [h] at e
      cases o with
      | dct l' => cases e; obtain ⟨z, vs, h1, h2⟩ := q a _ h; exact ⟨_, _, rfl, .inl h1, h2, z⟩
      | lck l' => cases e; obtain ⟨z, o, vs, h1, h2⟩ := q a _ h; exact ⟨_, _, rfl, .inr ⟨o, h1⟩, h2, z⟩
      | lst l' => cases e
      | ins c l' => cases e
  | _ => cases e
theorem keyOf_rep {K : PySem.W.Frag} {S : Sto} {H : Hp} {x : D} {v : V} {k : Key} (r : Rep K S H x v) (e : keyOf x = some k) : v = kV k := by
  cases r <;> cases e <;> rfl
theorem RepK.isSome {K : PySem.W.Frag} {S : Sto} {H : Hp} {k : Key} {l : List (Key × D)} {vs : List (Key × V)} (r : RepK K S H l vs) : (valV vs k).isSome = (lookK k l).isSome := by
  have h := r.look (k := k)
  cases e : lookK k l with
  | some x => rw [e] at h; obtain ⟨v, h1, _⟩ := h; rw [h1]; rfl
  | none => rw [e] at h; rw [show valV vs k = none from h]; rfl
section
variable {X : Cx}
def rDin (neg : Bool) : R2 := fun y x H Q => ∃ a o, x = .ref a ∧ DGet H a y o ∧ Q (.bl (if neg then !o.isSome else o.isSome)) H
theorem op_din (hu : X.A.units + 1 < cLine) : OpR X (compareOp .In) (rDin false) := by
  intro pins s σ H y x u v Q I ry rx h
  obtain ⟨a, o, rfl, g, q⟩ := h
  cases rx
  exact d_in hu I g ry fun s3 I3 => ⟨.bl o.isSome, H, I3, rfl, q⟩
theorem op_dnotin (hu : X.A.units + 1 < cLine) : OpR X (compareOp .NotIn) (rDin true) := by
  intro pins s σ H y x u v Q I ry rx h
  obtain ⟨a, o, rfl, g, q⟩ := h
  cases rx
  exact d_notIn hu I g ry fun s3 I3 => ⟨.bl (!o.isSome), H, I3, rfl, q⟩
end
section
variable {K : PySem.W.Frag}
theorem od_eq : OpD K (rEqD K) (fEq false) := by
  intro x y v u S H R Q q rx ry h hR
  obtain ⟨o1, o2, h⟩ := h
  rw [Bool.false_xor] at h
  exact ⟨_, _, view_dp rx q o1, view_dp ry q o2, o1, o2, hR _ S _ H h q .refl (.bl _)⟩
theorem od_ne : OpD K (rNeD K) (fEq true) := by
  intro x y v u S H R Q q rx ry h hR
  obtain ⟨o1, o2, h⟩ := h
  rw [Bool.true_xor] at h
  exact ⟨_, _, view_dp rx q o1, view_dp ry q o2, o1, o2, hR _ S _ H h q .refl (.bl _)⟩
theorem od_cmp {p : Int → Int → Bool} : OpD K (rI0 fun i j => .bl (p i j)) (fCmp p) := by
  intro x y v u S H R Q q rx ry h hR
  unfold fCmp at h
  split at h
  · cases rx; cases ry
    exact ⟨_, _, rfl, rfl, hR _ S _ H h q .refl (.bl _)⟩
  · exact h.elim
theorem od_is : OpD K (fun x y H Q => (y = .non ∧ Q (.bl (decide (x = .non))) H) ∨ rIsB x y H Q) (fIs false) := by
  intro x y v u S H R Q q rx ry h hR
  unfold fIs at h
  split at h
  · exact h.elim
  · exact h.elim
  · cases rx; cases ry
    exact .inl ⟨rfl, hR _ S _ H h q .refl (.bl _)⟩
  · cases ry
    refine .inl ⟨rfl, ?_⟩
    have e : decide (v = V.non) = false := by
      cases rx <;> first | rfl | (exact absurd rfl (by assumption))
    rw [e]
    exact hR _ S _ H h q .refl (.bl _)
  · cases rx; cases ry
    rename_i a b
    refine .inr ⟨a, b, rfl, rfl, ?_⟩
    have e : decide (a = b) = (a == b) := by cases a <;> cases b <;> rfl
    rw [e]
    rw [Bool.false_xor] at h
    exact hR _ S _ H h q .refl (.bl _)
  · exact h.elim
theorem od_isnot : OpD K (fun x y H Q => (y = .non ∧ Q (.bl (!decide (x = .non))) H) ∨ rNotB x y H Q) (fIs true) := by
  intro x y v u S H R Q q rx ry h hR
  unfold fIs at h
  split at h
  · exact h.elim
  · exact h.elim
  · cases rx; cases ry
    exact .inl ⟨rfl, hR _ S _ H h q .refl (.bl _)⟩
  · cases ry
    refine .inl ⟨rfl, ?_⟩
    have e : decide (v = V.non) = false := by
      cases rx <;> first | rfl | (exact absurd rfl (by assumption))
    rw [e]
    exact hR _ S _ H h q .refl (.bl _)
  · cases rx; cases ry
    rename_i a b
    refine .inr ⟨a, b, rfl, rfl, ?_⟩
    have e : decide (a = b) = (a == b) := by cases a <;> cases b <;> rfl
    rw [e]
    rw [Bool.true_xor] at h
    exact hR _ S _ H h q .refl (.bl _)
  · exact h.elim
theorem flat_rep {S : Sto} {H : Hp} {x : D} {v : V} (r : Rep K S H x v) (e : flatD x = true) : flatV v = true ∧ ∀ y u, Rep K S H y u → flatD y = true → eqV v u = dEq x y := by
  cases r with
  | non => exact ⟨rfl, fun y u r e => by cases r <;> first | rfl | cases e⟩
  | bl b => exact ⟨rfl, fun y u r e => by cases r <;> first | rfl | cases e⟩
  | int b => exact ⟨rfl, fun y u r e => by cases r <;> first | rfl | cases e⟩
  | str b => exact ⟨rfl, fun y u r e => by cases r <;> first | rfl | cases e⟩
  | _ => cases e
theorem flatL_rep {S : Sto} {H : Hp} {x : D} {v : V} (rx : Rep K S H x v) (e : flatD x = true) : ∀ {l : List D} {vs : List V}, RepL K S H l vs → l.all flatD = true → vs.all flatV = true ∧ inV v vs = l.any (fun z => dEq z x)
  | _, _, .nil, _ => ⟨rfl, rfl⟩
  | _, _, .cons r t, h => by
    simp only [List.all_cons, Bool.and_eq_true] at h
    obtain ⟨i1, i2⟩ := flatL_rep rx e t h.2
    obtain ⟨j1, j2⟩ := flat_rep r h.1
    refine ⟨by simp [j1, i1], ?_⟩
    unfold inV at i2 ⊢
    rw [List.any_cons, List.any_cons, i2, j2 _ _ rx e]
theorem any_pyL (x : PyData) : ∀ l : List D, (pyL l).any (fun z => PyData.eqv z x) = l.any (fun z => PyData.eqv (pyD z) x)
  | [] => rfl
  | y :: l => by simp [pyL, any_pyL x l]
theorem listOf_rep {S : Sto} {H : Hp} {y : D} {v : V} {l : List D} (r : Rep K S H y v) (q : Rel K S H) (e : contOf S y = .l l) (ok : okD (.lst l) = true) : Dp K H v (.list (pyL l)) := by
  have e' := SeqAt.canLay_of_shaped ok
  cases r with
  | lst h n z r => cases e; exact .lst (.of h) (repL_dp r (by simpa [pyD, PyData.canLay0] using e'))
  | scr h n z r => cases e; exact .lst (.inl h) (repL_dp r (by simpa [pyD, PyData.canLay0] using e'))
  | scrK h z r => cases e; exact .lst h.sq (repL_dp r (by simpa [pyD, PyData.canLay0] using e'))
  | ref a =>
    unfold contOf at e
    dsimp only at e
    cases h : S a with
    | none => rw [h] at e; cases e
    | some o =>
      rw [h] at e
      cases o with
      | lst l' =>
        cases e
        obtain ⟨z, vs, h1, h2⟩ := q a _ h
        exact .lst (.of h1) (repL_dp h2 (by simpa [pyD, PyData.canLay0] using e'))
      | _ => cases e
  | _ => cases e
theorem dictOf_rep {S : Sto} {H : Hp} {y : D} {v : V} {l : List (Key × D)} (r : Rep K S H y v) (q : Rel K S H) (e : contOf S y = .d l) : ∃ a vs, v = .ref a ∧ Rd H a (.dK vs) ∧ RepK K S H l vs := by
  have e2 : dctOf S y = some l := by
    cases y with
    | dct l' => cases e; rfl
    | ref a =>
      unfold contOf at e
      unfold dctOf
      dsimp only at e ⊢
      cases h : S a with
      | none => rw [h] at e; cases e
      | some o => rw [h] at e; cases o <;> first | (cases e; rfl) | cases e
    | _ => cases e
  obtain ⟨a, vs, h1, h2, h3, _⟩ := dctOf_rep r q e2
  exact ⟨a, vs, h1, h2, h3⟩
abbrev rSgn (neg : Bool) : R2 := fun x y H Q => ∃ (c : Nat) (z : Str), x = .str ⟨#[c]⟩ ∧ y = .str z ∧ Q (.bl (if neg then !decide (c ∈ z.cps.toList) else decide (c ∈ z.cps.toList))) H
abbrev rInDn (K : PySem.W.Frag) (neg : Bool) : R2 := if neg then rNotInD K else rInD K
theorem od_in (neg : Bool) : OpD K (fun x y H Q => rDin neg x y H Q ∨ rSgn neg x y H Q ∨ rInDn K neg x y H Q ∨ rIn K neg x y H Q) (fIn neg) := by
  intro x y v u S H R Q q rx ry h hR
  unfold fIn at h
  split at h
  · rename_i l e
    obtain ⟨k, ek, h⟩ := h
    obtain ⟨a, vs, rfl, h1, r1⟩ := dictOf_rep ry q e
    have ev := keyOf_rep rx ek
    subst ev
    refine .inl ⟨a, valV vs k, rfl, .inl ⟨vs, k, h1, rfl, rfl⟩, ?_⟩
    rw [r1.isSome]
    have := hR _ S _ H h q .refl (.bl _)
    cases neg <;> simpa using this
  · rename_i z e
    obtain ⟨c, rfl, h⟩ := h
    cases rx
    cases ry <;> first
      | cases e
      | (exfalso; unfold contOf at e; dsimp only at e; split at e <;> cases e)
    refine .inr (.inl ⟨c, z, rfl, rfl, ?_⟩)
    have := hR _ S _ H h q .refl (.bl _)
    cases neg <;> simpa using this
  · rename_i l e
    obtain ⟨o1, o2, h⟩ := h
    refine .inr (.inr (.inl ?_))
    have d1 := listOf_rep ry q e o1
    have d2 := rep_dp rx (SeqAt.canLay_of_shaped o2)
    have := hR _ S _ H h q .refl (.bl _)
    cases neg with
    | false => exact ⟨_, _, d2, d1, o2, o1, by rw [any_pyL]; simpa [dEq] using this⟩
    | true => exact ⟨_, _, d2, d1, o2, o1, by rw [any_pyL]; simpa [dEq] using this⟩
  · rename_i l e
    obtain ⟨o1, o2, h⟩ := h
    refine .inr (.inr (.inr ?_))
    have ey : y = .tup l := by
      cases y with
      | tup l' => cases e; rfl
      | ref a => unfold contOf at e; dsimp only at e; split at e <;> cases e
      | _ => cases e
    subst ey
    obtain ⟨a, vs, rfl, h1, n1, r1⟩ := ry.tup_inv
    obtain ⟨i1, i2⟩ := flatL_rep rx o2 r1 o1
    obtain ⟨j1, _⟩ := flat_rep rx o2
    refine ⟨a, vs, rfl, .inr h1, j1, i1, ?_⟩
    rw [i2]
    have := hR _ S _ H h q .refl (.bl _)
    cases neg <;> simpa using this
  · exact h.elim
end

section
variable {X : Cx} {F : Fr} {pos : Pos} {a b c : Expr} {wa wb wc : WpE} {r r' : R2} {f f' : D → D → Sto → Pd → Prop}
/-- a value taken as a truth -/
def wB (w : WpE) : WpT := fun ς S R RE => w ς S (fun x S1 => ∃ b, x = .bl b ∧ R b S1) RE
theorem tB_ok {K : PySem.W.Frag} {w : WpE} {σ : St} {H : Hp} {Q : Bool → Hp → Prop} (h : tT K F (wB w) σ H Q) : tB (tE K F w) σ H Q := by
  obtain ⟨ς, S, R, g, k, hw, hR⟩ := h
  refine tE.mk g k hw fun x S1 v H1 h1 g1 k1 d1 r1 => ?_
  obtain ⟨b, rfl, h1⟩ := h1
  cases r1
  exact ⟨b, rfl, hR b S1 H1 h1 g1.rel d1⟩
theorem we_cmp {op : CmpOp} (ho : OpR X (compareOp op) r) (hd : OpD X.K r f) (ha : WE X F a wa) (hb : WE X F b wb) (hm : behindInMarks op b = false) : WE X F (.Compare a [op] [b] pos) (wOp f wa wb) :=
  (pe_cmpR ho ha hb hm).imp fun _ _ _ h => two_ok hd h
theorem wt_cmp {op : CmpOp} (ho : OpR X (compareOp op) r) (hd : OpD X.K r f) (ha : WE X F a wa) (hb : WE X F b wb) (hm : behindInMarks op b = false) : WT X F (.Compare a [op] [b] pos) (wB (wOp f wa wb)) :=
  (pt_cmpR ho ha hb hm).imp fun σ H Q h => by
    obtain ⟨ς, S, R, g, k, hw, hR⟩ := h
    have h2 : tE X.K F (wOp f wa wb) σ H (fun x H' => ∃ k, x = .bl k ∧ Q k H') := ⟨ς, S, _, g, k, hw, fun x S' v H' q r k' p => by
      obtain ⟨b, rfl, q⟩ := q
      cases p
      exact ⟨b, rfl, hR b S' H' q r k'⟩⟩
    exact two_ok hd h2
/-- a op b op' c -/
def wChain (f f' : D → D → Sto → Pd → Prop) (wa wb wc : WpE) : WpE := fun ς S R RE => wa ς S (fun x S1 => wb ς S1 (fun y S2 => f x y S2 fun z S3 => ∃ k, z = .bl k ∧
  (if k = true then wc ς S3 (fun u S4 => f' y u S4 R) RE else R (.bl false) S3)) RE) RE
theorem chain_ok {K : PySem.W.Frag} (hd : OpD K r f) (hd' : OpD K r' f') {σ : St} {H : Hp} {Q : VK} (h : tE K F (wChain f f' wa wb wc) σ H Q) : tChain r r' (tE K F wa) (tE K F wb) (tE K F wc) σ H Q := by
  obtain ⟨ς, S, R, g, k, hw, hR⟩ := h
  refine tE.mk g k hw fun x S1 v H1 h1 g1 k1 d1 r1 => tE.mk g1 k1 h1 fun y S2 u H2 h2 g2 k2 d2 r2 => ?_
  refine hd x y v u S2 H2 _ _ g2.rel (d2 _ _ r1) r2 h2 fun z S3 v' H3 h3 r3 k3 p3 => ?_
  obtain ⟨b, rfl, h3⟩ := h3
  cases p3
  refine ⟨b, rfl, ?_⟩
  have d3 := (d1.trans d2).trans k3
  cases b with
  | false => exact hR _ S3 _ H3 h3 r3 d3 (.bl _)
  | true =>
    refine tE.mk (g2.keep r3 k3) (k2.trans k3) h3 fun m S4 m' H4 h4 g4 k4 d4 r4 => ?_
    exact hd' y m u m' S4 H4 R Q g4.rel ((k3.trans d4) _ _ r2) r4 h4 fun z S5 v' H5 h5 r5 k5 p5 => hR z S5 v' H5 h5 r5 ((d3.trans d4).trans k5) p5
theorem we_chain {op op' : CmpOp} (ho : OpR X (compareOp op) r) (ho' : OpR X (compareOp op') r') (hd : OpD X.K r f) (hd' : OpD X.K r' f') (ha : WE X F a wa) (hb : WE X F b wb) (hc : WE X F c wc)
    (hm : lastMarks [op, op'] [b, c] = false) : WE X F (.Compare a [op, op'] [b, c] pos) (wChain f f' wa wb wc) :=
  (pe_chain ho ho' ha hb hc hm).imp fun _ _ _ h => chain_ok hd hd' h
theorem wt_chain {op op' : CmpOp} (ho : OpR X (compareOp op) r) (ho' : OpR X (compareOp op') r') (hd : OpD X.K r f) (hd' : OpD X.K r' f') (ha : WE X F a wa) (hb : WE X F b wb) (hc : WE X F c wc)
    (hm : lastMarks [op, op'] [b, c] = false) : WT X F (.Compare a [op, op'] [b, c] pos) (wB (wChain f f' wa wb wc)) :=
  (pt_chain ho ho' ha hb hc hm).imp fun σ H Q h => by
    obtain ⟨ς, S, R, g, k, hw, hR⟩ := h
    have h2 : tE X.K F (wChain f f' wa wb wc) σ H (fun x H' => ∃ k, x = .bl k ∧ Q k H') := ⟨ς, S, _, g, k, hw, fun x S' v H' q r k' p => by
      obtain ⟨b, rfl, q⟩ := q
      cases p
      exact ⟨b, rfl, hR b S' H' q r k'⟩⟩
    exact chain_ok hd hd' h2
/-- a value that is a truth, as a test -/
theorem wt_val (h : WE X F a wa) (he : ∀ whole, isTrue a X.env whole = (do let v ← whole; standAt a.pos; holding [v] (truthy v))) : WT X F a (wB wa) :=
  (pt_val h he).imp fun _ _ _ h => tB_ok h
/-! and, or, not, if else -/
def wAnd (wa wb : WpE) : WpE := fun ς S R RE => wa ς S (fun x S1 => ∃ b, x = .bl b ∧ if b = true then wb ς S1 R RE else R (.bl false) S1) RE
def wOr (wa wb : WpE) : WpE := fun ς S R RE => wa ς S (fun x S1 => ∃ b, x = .bl b ∧ if b = true then R (.bl true) S1 else wb ς S1 R RE) RE
def wNot (wa : WpE) : WpE := fun ς S R RE => wa ς S (fun x S1 => ∃ b, x = .bl b ∧ R (.bl (!b)) S1) RE
def wIte (wc wa wb : WpE) : WpE := fun ς S R RE => wc ς S (fun x S1 => ∃ b, x = .bl b ∧ if b = true then wa ς S1 R RE else wb ς S1 R RE) RE
variable {rest : List Expr}
theorem we_one {op : PySem.BoolOp} (h : WE X F a wa) : WE X F (.BoolOp op [a] pos) wa := pe_one h
theorem we_and (ha : WE X F a wa) (hb : WE X F (.BoolOp .And (b :: rest) pos) wb) : WE X F (.BoolOp .And (a :: b :: rest) pos) (wAnd wa wb) :=
  (pe_and ha hb).imp fun σ H Q h => by
    obtain ⟨ς, S, R, g, k, hw, hR⟩ := h
    refine tE.mk g k hw fun x S1 v H1 h1 g1 k1 d1 r1 => ?_
    obtain ⟨b, rfl, h1⟩ := h1
    cases r1
    refine ⟨b, rfl, ?_⟩
    cases b with
    | false => exact hR _ S1 _ H1 h1 g1.rel d1 (.bl _)
    | true => exact ⟨ς, S1, R, g1, k1, h1, fun x S' v H' q r k' p => hR x S' v H' q r (d1.trans k') p⟩
theorem we_or (ha : WE X F a wa) (hb : WE X F (.BoolOp .Or (b :: rest) pos) wb) : WE X F (.BoolOp .Or (a :: b :: rest) pos) (wOr wa wb) :=
  (pe_or ha hb).imp fun σ H Q h => by
    obtain ⟨ς, S, R, g, k, hw, hR⟩ := h
    refine tE.mk g k hw fun x S1 v H1 h1 g1 k1 d1 r1 => ?_
    obtain ⟨b, rfl, h1⟩ := h1
    cases r1
    refine ⟨b, rfl, ?_⟩
    cases b with
    | true => exact hR _ S1 _ H1 h1 g1.rel d1 (.bl _)
    | false => exact ⟨ς, S1, R, g1, k1, h1, fun x S' v H' q r k' p => hR x S' v H' q r (d1.trans k') p⟩
theorem we_not (ha : WE X F a wa) : WE X F (.UnaryOp .Not a pos) (wNot wa) :=
  (pe_not ha).imp fun σ H Q h => by
    obtain ⟨ς, S, R, g, k, hw, hR⟩ := h
    refine tE.mk g k hw fun x S1 v H1 h1 g1 k1 d1 r1 => ?_
    obtain ⟨b, rfl, h1⟩ := h1
    cases r1
    exact ⟨b, rfl, hR _ S1 _ H1 h1 g1.rel d1 (.bl _)⟩
theorem we_ite (hc : WT X F c (wB wc)) (ha : WE X F a wa) (hb : WE X F b wb) : WE X F (.IfExp c a b pos) (wIte wc wa wb) :=
  (pe_ifExp hc ha hb).imp fun σ H Q h => by
    obtain ⟨ς, S, R, g, k, hw, hR⟩ := h
    refine tT.mk (w := wB wc) (R := fun b S1 => if b = true then wa ς S1 R (fun c S' => F.XE c ς S') else wb ς S1 R (fun c S' => F.XE c ς S')) g k hw fun b S1 H1 h1 g1 k1 d1 => ?_
    cases b with
    | true => exact ⟨ς, S1, R, g1, k1, h1, fun x S' v H' q r k' p => hR x S' v H' q r (d1.trans k') p⟩
    | false => exact ⟨ς, S1, R, g1, k1, h1, fun x S' v H' q r k' p => hR x S' v H' q r (d1.trans k') p⟩
/-- .. as tests -/
def WW (X : Cx) (F : Fr) (e : Expr) (w : WpT) : Prop := PW X e (tT X.K F w)
theorem WW.wt {e : Expr} {w : WpT} (h : WW X F e w) : WT X F e w := h.pt
theorem ww_and1 (ha : WT X F a (wB wa)) : WW X F (.BoolOp .And [a] pos) (wB wa) := pw_and1 ha
theorem ww_or1 (ha : WT X F a (wB wa)) : WW X F (.BoolOp .Or [a] pos) (wB wa) := pw_or1 ha
theorem ww_and (ha : WT X F a (wB wa)) (hb : WW X F (.BoolOp .And (b :: rest) pos) (wB wb)) : WW X F (.BoolOp .And (a :: b :: rest) pos) (wB (wAnd wa wb)) :=
  (pw_and ha hb).imp fun σ H Q h => by
    obtain ⟨ς, S, R, g, k, hw, hR⟩ := h
    refine tT.mk (w := wB wa) (R := fun b S1 => if b = true then wB wb ς S1 R (fun c S' => F.XE c ς S') else R false S1) g k ?_ fun b S1 H1 h1 g1 k1 d1 => ?_
    · have e : (fun x S1 => ∃ b, x = D.bl b ∧ if b = true then wb ς S1 (fun x S1 => ∃ b, x = .bl b ∧ R b S1) (fun c S' => F.XE c ς S') else ∃ b, D.bl false = .bl b ∧ R b S1) =
        (fun x S1 => ∃ b, x = D.bl b ∧ if b = true then wB wb ς S1 R (fun c S' => F.XE c ς S') else R false S1) := by
        funext x S1
        refine propext ⟨fun ⟨b, e, h⟩ => ⟨b, e, ?_⟩, fun ⟨b, e, h⟩ => ⟨b, e, ?_⟩⟩
        · cases b with
          | true => exact h
          | false => obtain ⟨_, e, h⟩ := h; cases e; exact h
        · cases b with
          | true => exact h
          | false => exact ⟨_, rfl, h⟩
      show wa ς S _ _
      rw [← e]
      exact hw
    · cases b with
      | true => exact ⟨ς, S1, R, g1, k1, h1, fun x S' H' q r k' => hR x S' H' q r (d1.trans k')⟩
      | false => exact hR _ S1 H1 h1 g1.rel d1
theorem ww_or (ha : WT X F a (wB wa)) (hb : WW X F (.BoolOp .Or (b :: rest) pos) (wB wb)) : WW X F (.BoolOp .Or (a :: b :: rest) pos) (wB (wOr wa wb)) :=
  (pw_or ha hb).imp fun σ H Q h => by
    obtain ⟨ς, S, R, g, k, hw, hR⟩ := h
    refine tT.mk (w := wB wa) (R := fun b S1 => if b = true then R true S1 else wB wb ς S1 R (fun c S' => F.XE c ς S')) g k ?_ fun b S1 H1 h1 g1 k1 d1 => ?_
    · have e : (fun x S1 => ∃ b, x = D.bl b ∧ if b = true then ∃ b, D.bl true = .bl b ∧ R b S1 else wb ς S1 (fun x S1 => ∃ b, x = .bl b ∧ R b S1) (fun c S' => F.XE c ς S')) =
        (fun x S1 => ∃ b, x = D.bl b ∧ if b = true then R true S1 else wB wb ς S1 R (fun c S' => F.XE c ς S')) := by
        funext x S1
        refine propext ⟨fun ⟨b, e, h⟩ => ⟨b, e, ?_⟩, fun ⟨b, e, h⟩ => ⟨b, e, ?_⟩⟩
        · cases b with
          | true => obtain ⟨_, e, h⟩ := h; cases e; exact h
          | false => exact h
        · cases b with
          | true => exact ⟨_, rfl, h⟩
          | false => exact h
      show wa ς S _ _
      rw [← e]
      exact hw
    · cases b with
      | false => exact ⟨ς, S1, R, g1, k1, h1, fun x S' H' q r k' => hR x S' H' q r (d1.trans k')⟩
      | true => exact hR _ S1 H1 h1 g1.rel d1
theorem wt_not (ha : WT X F a (wB wa)) : WT X F (.UnaryOp .Not a pos) (wB (wNot wa)) :=
  (pt_not ha).imp fun σ H Q h => by
    obtain ⟨ς, S, R, g, k, hw, hR⟩ := h
    refine tT.mk (w := wB wa) (R := fun b S1 => R (!b) S1) g k ?_ fun b S1 H1 h1 g1 k1 d1 => hR _ S1 H1 h1 g1.rel d1
    have e : (fun x S1 => ∃ b, x = D.bl b ∧ ∃ b_1, D.bl (!b) = .bl b_1 ∧ R b_1 S1) = (fun x S1 => ∃ b, x = D.bl b ∧ R (!b) S1) := by
      funext x S1
      exact propext ⟨fun ⟨b, e, c, e', h⟩ => ⟨b, e, by cases e'; exact h⟩, fun ⟨b, e, h⟩ => ⟨b, e, _, rfl, h⟩⟩
    show wa ς S _ _
    rw [← e]
    exact hw
end
end SB
end

section
set_option Elab.async false
set_option linter.all false
set_option maxRecDepth 100000
set_option autoImplicit false
/-! SB3: arguments, displays, items, slices, attributes, calls. -/
namespace SB
open PySem PySem.Spec L2

/-! ### lists of expressions -/
def wNil : WpA := fun _ S R _ => R [] S
def wCons (wa : WpE) (wr : WpA) : WpA := fun ς S R RE => wa ς S (fun x S1 => wr ς S1 (fun xs S2 => R (x :: xs) S2) RE) RE
/-- not a starred one -/
def noStar : Expr → Bool
  | .Starred .. => false
  | _ => true
theorem starEach_cons {e : Expr} {es : List Expr} {env : Env} (h : noStar e = true) : starEach (e :: es) env = (false, eval e env) :: starEach es env := by
  cases e <;> first | rfl | cases h
section
variable {X : Cx} {F : Fr} {pos : Pos} {e : Expr} {es : List Expr} {we : WpE} {wa : WpA}
theorem wa_nil : WA X F [] wNil := pa_nil.imp fun σ H Q ⟨ς, S, R, g, k, hw, hR⟩ => hR [] S [] H hw g.rel .refl .nil
theorem wa_cons (he : WE X F e we) (hr : WA X F es wa) (hn : noStar e = true) : WA X F (e :: es) (wCons we wa) :=
  (pa_cons he hr (starEach_cons hn)).imp fun σ H Q ⟨ς, S, R, g, k, hw, hR⟩ => by
    refine tE.mk g k hw fun x S1 v H1 h1 g1 k1 d1 r1 => tA.mk g1 k1 h1 fun xs S2 vs H2 h2 g2 k2 d2 r2 => ?_
    exact hR _ S2 _ H2 h2 g2.rel (d1.trans d2) (.cons (d2 _ _ r1) r2)

/-! ### displays -/
def wTup (wa : WpA) : WpE := fun ς S R RE => wa ς S (fun xs S1 => xs.length ≤ sizeLine ∧ R (.tup xs) S1) RE
def wLst (own : Bool) (wa : WpA) : WpE := fun ς S R RE => wa ς S (fun xs S1 => mkL own xs S1 R) RE
theorem we_tup {x1} (h : WA X F es wa) : WE X F (.Tuple es x1 pos) (wTup wa) :=
  (pe_tup h).imp fun σ H Q ⟨ς, S, R, g, k, hw, hR⟩ => by
    refine tA.mk g k hw fun xs S1 vs H1 h1 g1 k1 d1 r1 => ?_
    exact mkT_ok g1.rel h1.1 h1.2 r1 fun z S' v' H' q r k p => hR z S' v' H' q r (d1.trans k) p
theorem we_lst {own : Bool} (h : WA X F es wa) : WE X F (.List es pos) (wLst own wa) :=
  (pe_lst h).imp fun σ H Q ⟨ς, S, R, g, k, hw, hR⟩ => by
    refine tA.mk g k hw fun xs S1 vs H1 h1 g1 k1 d1 r1 => ?_
    exact mkL_ok g1.rel h1 r1 fun z S' v' H' q r k p => hR z S' v' H' q r (d1.trans k) p
def mkD (own : Bool) (l : List (Key × D)) (S : Sto) (R : Pd) : Prop := l.length ≤ sizeLine ∧ match own with
  | true => ∀ p, S p = none → R (.ref p) (S.set p (.dct l))
  | false => R (.dct l) S
theorem mkD_ok {K : PySem.W.Frag} {S : Sto} {H : Hp} {own : Bool} {l : List (Key × D)} {vs : List (Key × V)} {R : Pd} {Q : VK} (q : Rel K S H) (h : mkD own l S R) (r : RepK K S H l vs)
    (hR : ∀ z S' v' H', R z S' → Rel K S' H' → Keep K S H S' H' → Rep K S' H' z v' → Q v' H') : ∀ p, H p = none → Q (.ref p) (upd H p (.dK vs)) := by
  obtain ⟨z, h⟩ := h
  intro p hp
  cases own with
  | true => exact hR _ _ _ _ (h p (q.fresh hp)) (q.own hp ⟨z, vs, upd_same, (Keep.own hp).k r⟩) (Keep.own hp) (.ref p)
  | false => exact hR _ _ _ _ h (q.new hp) (Keep.new hp) (.dct (.inl upd_same) (q.fresh hp) z ((Keep.new hp).k r))
def wDict0 (own : Bool) : WpE := fun _ S R _ => mkD own [] S R
theorem we_dict0 {own : Bool} : WE X F (.Dict [] [] pos) (wDict0 own) :=
  pe_dnewK.imp fun σ H Q ⟨ς, S, R, g, k, hw, hR⟩ => mkD_ok g.rel hw .nil hR
/-- a pair put in: in its place, or at the end -/
def putD (k : Key) (x : D) (l : List (Key × D)) : List (Key × D) :=
  if (l.any fun p => decide (p.1 = k)) = true then l.map (fun p => if p.1 = k then (p.1, x) else p) else l ++ [(k, x)]
def dropD (k : Key) (l : List (Key × D)) : List (Key × D) := l.filter fun p => decide (p.1 ≠ k)
def mergeD (l : List (Key × D)) : List (Key × D) → List (Key × D)
  | [] => l
  | (k, x) :: r => mergeD (putD k x l) r
/-- {k: v, ..}, the keys written: the new dict stands while the values are made -/
def wDict (own : Bool) (ks : List Key) (wa : WpA) : WpE := fun ς S R RE => ∀ p, S p = none → wa ς (S.set p (.dct [])) (fun xs S1 => S1 p = some (.dct []) ∧ xs.length = ks.length ∧ ks.length ≤ 15 ∧
  match own with
  | true => R (.ref p) (S1.set p (.dct (mergeD [] (ks.zip xs))))
  | false => R (.dct (mergeD [] (ks.zip xs))) (S1.del p)) RE
theorem RepK.any {K : PySem.W.Frag} {S : Sto} {H : Hp} (f : Key → Bool) : ∀ {l : List (Key × D)} {vs : List (Key × V)}, RepK K S H l vs → l.any (fun p => f p.1) = vs.any (fun p => f p.1)
  | _, _, .nil => rfl
  | _, _, .cons r t => by rw [List.any_cons, List.any_cons, RepK.any f t]
theorem RepK.append {K : PySem.W.Frag} {S : Sto} {H : Hp} : ∀ {l l' : List (Key × D)} {vs vs' : List (Key × V)}, RepK K S H l vs → RepK K S H l' vs' → RepK K S H (l ++ l') (vs ++ vs')
  | _, _, _, _, .nil, h => h
  | _, _, _, _, .cons r t, h => .cons r (RepK.append t h)
theorem RepK.mapPut {K : PySem.W.Frag} {S : Sto} {H : Hp} {k : Key} {x : D} {v : V} (q : Rep K S H x v) : ∀ {l : List (Key × D)} {vs : List (Key × V)}, RepK K S H l vs →
    RepK K S H (l.map fun p => if p.1 = k then (p.1, x) else p) (vs.map fun p => if p.1 = k then (p.1, v) else p)
  | _, _, .nil => .nil
  | _, _, .cons (k := j) (d := d) (v := u) (l := l) (vs := vs) r t => by
    have ih := RepK.mapPut (k := k) q t
    rw [List.map_cons, List.map_cons]
    by_cases h : j = k
    · rw [if_pos h, if_pos h]; exact .cons q ih
    · rw [if_neg h, if_neg h]; exact .cons r ih
theorem RepK.put {K : PySem.W.Frag} {S : Sto} {H : Hp} {k : Key} {x : D} {v : V} (q : Rep K S H x v) {l : List (Key × D)} {vs : List (Key × V)} (r : RepK K S H l vs) : RepK K S H (putD k x l) (putK vs k v) := by
  unfold putD putK
  rw [r.any fun j => decide (j = k)]
  split
  · exact r.mapPut q
  · exact r.append (.cons q .nil)
theorem RepK.drop {K : PySem.W.Frag} {S : Sto} {H : Hp} {k : Key} : ∀ {l : List (Key × D)} {vs : List (Key × V)}, RepK K S H l vs → RepK K S H (dropD k l) (dropK vs k)
  | _, _, .nil => .nil
  | _, _, .cons (k := j) (d := d) (v := u) (l := l) (vs := vs) r t => by
    have ih := RepK.drop (k := k) t
    unfold dropD dropK at ih ⊢
    rw [List.filter_cons, List.filter_cons]
    split
    · exact .cons r ih
    · exact ih
theorem RepK.merge {K : PySem.W.Frag} {S : Sto} {H : Hp} : ∀ {m : List (Key × D)} {ms : List (Key × V)} {l : List (Key × D)} {vs : List (Key × V)}, RepK K S H m ms → RepK K S H l vs → RepK K S H (mergeD l m) (mergeK vs ms)
  | _, _, _, _, .nil, h => h
  | _, _, _, _, .cons (k := k) r t, h => by
    have q := RepK.merge t (RepK.put (k := k) r h)
    exact q
theorem mergeD_length : ∀ (m l : List (Key × D)), (mergeD l m).length ≤ l.length + m.length
  | [], l => by show l.length ≤ l.length + 0; omega
  | (k, x) :: r, l => by
    have h := mergeD_length r (putD k x l)
    have h2 : (putD k x l).length ≤ l.length + 1 := by
      unfold putD; split
      · rw [List.length_map]; omega
      · rw [List.length_append]; simp
    show (mergeD (putD k x l) r).length ≤ _
    rw [List.length_cons]; omega
/-- a written key -/
def keyE : Key → Expr → Bool
  | .inl i, .Constant (.int j) _ _ => decide (i = j)
  | .inr x, .Constant (.str y) _ _ => decide (x = y)
  | _, _ => false
theorem keyE_ok {k : Key} {e : Expr} (h : keyE k e = true) : PE X e (tC (kV k)) := by
  unfold keyE at h
  split at h
  · have := of_decide_eq_true h; subst this; exact pe_int
  · have := of_decide_eq_true h; subst this; exact pe_str
  · cases h
def keysE : List Key → List (Option Expr) → Bool
  | [], [] => true
  | k :: ks, some e :: es => keyE k e && keysE ks es
  | _, _ => false
/-- the values of a dict display, one by one -/
inductive WVs (X : Cx) (F : Fr) : List Expr → WpA → Prop
  | nil : WVs X F [] wNil
  | cons {e : Expr} {es : List Expr} {we : WpE} {wa : WpA} : WE X F e we → WVs X F es wa → WVs X F (e :: es) (wCons we wa)
/-- the readings of the pairs -/
theorem wvs_pairs {K : PySem.W.Frag} {wa : WpA} {es : List Expr} (hK : X.K = K) (h : WVs X F es wa) : ∀ {ks : List Key} {kes : List (Option Expr)}, keysE ks kes = true → kes.length = es.length →
    ∃ trs : List (TE × TE), PPs X pos kes es trs ∧ ∀ (σ : L2.St) (H : Hp) (Q : List (V × V) → Hp → Prop) (ς : En) (S : Sto) (R : List D → Sto → Prop), Good K ς S σ H → Keep K F.S0 F.H0 S H → wa ς S R (fun c S' => F.XE c ς S') →
      (∀ xs S' vs H', R xs S' → Good K ς S' σ H' → Keep K S H S' H' → RepL K S' H' xs vs → xs.length = ks.length → Q ((ks.map kV).zip vs) H') → tPairs trs σ H Q := by
  subst hK
  induction h with
  | nil =>
    intro ks kes hk hl
    cases kes with
    | cons _ _ => cases hl
    | nil =>
      cases ks with
      | cons _ _ => cases hk
      | nil => exact ⟨[], pps_nil, fun σ H Q ς S R g k hw hR => hR [] S [] H hw g .refl .nil rfl⟩
  | @cons e es we wa h1 h2 ih =>
    intro ks kes hk hl
    cases kes with
    | nil => cases hl
    | cons ke kes =>
      cases ke with
      | none => cases ks <;> cases hk
      | some ke =>
        cases ks with
        | nil => cases hk
        | cons k ks =>
          have hk' : (keyE k ke && keysE ks kes) = true := hk
          simp only [Bool.and_eq_true] at hk'
          obtain ⟨trs, p, q⟩ := ih hk'.2 (by simpa using hl)
          refine ⟨(tC (kV k), tE X.K F we) :: trs, pps_cons (keyE_ok hk'.1) h1 p, fun σ H Q ς S R g kk hw hR => ?_⟩
          show tC (kV k) σ H fun x H1 => tE X.K F we σ H1 fun y H2 => tPairs trs σ H2 fun ps H3 => Q ((x, y) :: ps) H3
          refine tE.mk g kk hw fun x S1 v H1 h1 g1 k1 d1 r1 => q σ H1 _ ς S1 _ g1 k1 h1 fun xs S2 vs H2 h2 g2 d2 r2 z => ?_
          exact hR _ S2 (v :: vs) H2 h2 g2 (d1.trans d2) (.cons (d2 _ _ r1) r2) (by simp [z])
theorem zip_keys {K : PySem.W.Frag} {S : Sto} {H : Hp} : ∀ {ks : List Key} {xs : List D} {vs : List V}, RepL K S H xs vs → xs.length = ks.length →
    (ks.map kV).zip vs = (ks.zip vs).map (fun kv => (kV kv.1, kv.2)) ∧ RepK K S H (ks.zip xs) (ks.zip vs) ∧ (ks.zip vs).length = ks.length
  | [], _, _, .nil, _ => ⟨rfl, .nil, rfl⟩
  | [], _, _, .cons _ _, h => by cases h
  | _ :: _, _, _, .nil, h => by cases h
  | k :: ks, _, _, .cons r t, h => by
    obtain ⟨a, b, c⟩ := zip_keys (ks := ks) t (by simpa using h)
    exact ⟨by simp [a], .cons r b, by simp [c]⟩
theorem we_dict {own : Bool} {ks : List Key} {kes : List (Option Expr)} (h : WVs X F es wa) (hk : keysE ks kes = true) (hl : kes.length = es.length) (h0 : kes ≠ []) (h15 : kes.length ≤ 15) :
    WE X F (.Dict kes es pos) (wDict own ks wa) := by
  obtain ⟨trs, p, q⟩ := wvs_pairs (pos := pos) rfl h hk hl
  have hall : kes.all (·.isSome) = true := by
    clear p q hl h0 h15 h
    induction kes generalizing ks with
    | nil => rfl
    | cons ke kes ih =>
      cases ks with
      | nil => cases hk
      | cons k ks =>
        cases ke with
        | none => cases hk
        | some e =>
          have hk' : (keyE k e && keysE ks kes) = true := hk
          simp only [Bool.and_eq_true] at hk'
          simp [ih hk'.2]
  refine (pe_disp p hall hl h0 h15).imp fun σ H Q ⟨ς, S, R, g, k, hw, hR⟩ => ?_
  intro a ha
  have hw := hw a (g.rel.fresh ha)
  have K1 : Keep X.K S H (S.set a (.dct [])) (upd H a (.dK [])) := Keep.own ha
  have G1 : Good X.K ς (S.set a (.dct [])) σ (upd H a (.dK [])) := g.keep (g.rel.own ha ⟨Nat.zero_le _, [], upd_same, .nil⟩) K1
  refine q σ _ _ ς _ _ G1 (k.trans K1) hw fun xs S1 vs H1 h1 g1 d1 r1 z1 => ?_
  obtain ⟨hp, hz, h15', h1⟩ := h1
  obtain ⟨_, kvs0, e0, r0⟩ := g1.rel a _ hp
  cases r0
  obtain ⟨e1, e2, e3⟩ := zip_keys r1 hz
  have rm := e2.merge (RepK.nil)
  have zm : (mergeD [] (ks.zip xs)).length ≤ sizeLine := by
    have h := mergeD_length (ks.zip xs) []
    have h' : (ks.zip xs).length ≤ 15 := by rw [List.length_zip]; omega
    rw [sizeLine_eq]
    simp only [List.length_nil] at h
    omega
  refine ⟨e0, ks.zip vs, e1, by omega, ?_⟩
  have PK : Keep X.K S1 H1 (S1.set a (.dct (mergeD [] (ks.zip xs)))) (upd H1 a (.dK (mergeK [] (ks.zip vs)))) := Keep.putR g1.rel hp
  have PR : Rel X.K (S1.set a (.dct (mergeD [] (ks.zip xs)))) (upd H1 a (.dK (mergeK [] (ks.zip vs)))) := g1.rel.put hp ⟨zm, _, upd_same, PK.k rm⟩
  cases own with
  | true => exact hR _ _ _ _ h1 PR ((K1.trans d1).trans PK) (.ref a)
  | false =>
    have hd : ∀ b, (S1.del a) b = (S1.set a (.dct (mergeD [] (ks.zip xs)))) b ∨ (S1.del a) b = none := fun b => by
      by_cases e : b = a
      · subst e; exact .inr Sto.del_same
      · rw [Sto.del_ne e, Sto.set_ne e]; exact .inl rfl
    have LK := Keep.left (K := X.K) (H := upd H1 a (.dK (mergeK [] (ks.zip vs)))) hd
    exact hR _ _ _ _ h1 (PR.left hd) (((K1.trans d1).trans PK).trans LK) (.dct (.inl upd_same) Sto.del_same zm (LK.k (PK.k rm)))
end
end SB
end

section
set_option Elab.async false
set_option linter.all false
set_option maxRecDepth 100000
set_option autoImplicit false
/-! SB4: items, slices, attributes, calls of own defs and methods, own classes made. -/
namespace SB
open PySem PySem.Spec L2

/-! ### items -/
def fIx (x y : D) (S : Sto) (R : Pd) : Prop := match contOf S x with
  | .d l => ∃ k v, keyOf y = some k ∧ lookK k l = some v ∧ R v S
  | .s z => ∃ i c, y = .int i ∧ z.length ≤ sizeLine ∧ atI z.cps.toList i = some c ∧ R (.str ⟨#[c]⟩) S
  | .l l => ∃ i v, y = .int i ∧ atI l i = some v ∧ R v S
  | .t l => ∃ i v, y = .int i ∧ atI l i = some v ∧ R v S
  | .no => False
section
variable {K : PySem.W.Frag}
theorem lstSq_rep {S : Sto} {H : Hp} {y : D} {v : V} {l : List D} (r : Rep K S H y v) (q : Rel K S H) (e : contOf S y = .l l) : ∃ a vs, v = .ref a ∧ SqL K H a vs ∧ RepL K S H l vs ∧ l.length ≤ sizeLine := by
  cases r with
  | lst h n z r => cases e; exact ⟨_, _, rfl, .of h, r, z⟩
  | scr h n z r => cases e; exact ⟨_, _, rfl, .inl h, r, z⟩
  | scrK h z r => cases e; exact ⟨_, _, rfl, h.sq, r, z⟩
  | ref a =>
    unfold contOf at e
    dsimp only at e
    cases h : S a with
    | none => rw [h] at e; cases e
    | some o =>
      rw [h] at e
      cases o with
      | lst l' =>
        cases e
        obtain ⟨z, vs, h1, h2⟩ := q a _ h
        exact ⟨_, _, rfl, .of h1, h2, z⟩
      | _ => cases e
  | _ => cases e
theorem contT_inv {S : Sto} {y : D} {l : List D} (e : contOf S y = .t l) : y = .tup l := by
  cases y with
  | tup l' => cases e; rfl
  | ref a => unfold contOf at e; dsimp only at e; split at e <;> cases e
  | _ => cases e
theorem contS_inv {S : Sto} {y : D} {z : Str} (e : contOf S y = .s z) : y = .str z := by
  cases y with
  | str l' => cases e; rfl
  | ref a => unfold contOf at e; dsimp only at e; split at e <;> cases e
  | _ => cases e
theorem atI_rep {S : Sto} {H : Hp} {l : List D} {vs : List V} {i : Int} {x : D} (r : RepL K S H l vs) (e : atI l i = some x) : ∃ v, atI vs i = some v ∧ Rep K S H x v := by
  unfold atI at e ⊢
  rw [← r.length]
  cases h : ixN l.length i with
  | none => rw [h] at e; cases e
  | some j =>
    rw [h] at e
    obtain ⟨v, h1, h2⟩ := r.get (i := j) (x := x) (by simpa using e)
    exact ⟨v, by simpa using h1, h2⟩
def rIxDct : R2 := fun x y H Q => ∃ a v, x = .ref a ∧ DGet H a y (some v) ∧ Q v H
theorem ix_dct {X : Cx} (hu : X.A.units + 1 < cLine) : IxR X rIxDct := by
  intro value slice pins s σ H x y v u Q I rx ry h hs
  obtain ⟨a, w, rfl, g, q⟩ := h
  cases rx
  exact PyProof.Rows.tail_any (dict_typeIs I g) PySem.F.slot_dict_getitem.lookup (d_getItem hu I g ry fun w' s3 I3 rw' => ⟨w, H, I3, rw', q⟩) hs
theorem od_ix : OpD K (fun x y H Q => rIxDct x y H Q ∨ rIx K x y H Q) fIx := by
  intro x y v u S H R Q q rx ry h hR
  unfold fIx at h
  split at h
  · rename_i l e
    obtain ⟨k, d, ek, el, h⟩ := h
    obtain ⟨a, vs, rfl, h1, r1⟩ := dictOf_rep rx q e
    have ev := keyOf_rep ry ek
    subst ev
    have hl := r1.look (k := k)
    rw [el] at hl
    obtain ⟨w, hw, rw'⟩ := hl
    exact .inl ⟨a, w, rfl, .inl ⟨vs, k, h1, rfl, hw.symm⟩, hR _ S _ H h q .refl rw'⟩
  · rename_i z e
    obtain ⟨i, c, rfl, hz, hc, h⟩ := h
    cases contS_inv e
    cases rx; cases ry
    exact .inr (.inr (.inr ⟨z, i, c, rfl, rfl, hz, hc, hR _ S _ H h q .refl (.str _)⟩))
  · rename_i l e
    obtain ⟨i, d, rfl, hc, h⟩ := h
    cases ry
    obtain ⟨a, vs, rfl, h1, r1, _⟩ := lstSq_rep rx q e
    obtain ⟨w, hw, rw'⟩ := atI_rep r1 hc
    exact .inr (.inl ⟨a, vs, i, w, rfl, rfl, h1, hw, hR _ S _ H h q .refl rw'⟩)
  · rename_i l e
    obtain ⟨i, d, rfl, hc, h⟩ := h
    cases ry
    cases contT_inv e
    obtain ⟨a, vs, rfl, h1, _, r1⟩ := rx.tup_inv
    obtain ⟨w, hw, rw'⟩ := atI_rep r1 hc
    exact .inr (.inr (.inl ⟨a, vs, i, w, rfl, rfl, h1, hw, hR _ S _ H h q .refl rw'⟩))
  · exact h.elim
end
/-- what a plain index is -/
def plainIx : Expr → Bool
  | .Slice .. => false
  | .Tuple .. => false
  | _ => true
section
variable {X : Cx} {F : Fr} {pos p2 : Pos} {a b e : Expr} {wa wb we : WpE}
theorem we_ix (hu : X.A.units + 1 < cLine) (ha : WE X F a wa) (hb : WE X F b wb) (hs : PlainIx b) : WE X F (.Subscript a b pos) (wOp fIx wa wb) :=
  (pe_ix ((ix_dct hu).or ix_seq) ha hb hs).imp fun _ _ _ h => two_ok od_ix h
/-! ### slices -/
def cutD (l : List D) (lo hi : Option Int) : List D := (l.drop (HT.sIx l.length 0 lo)).take (HT.sIx l.length l.length hi - HT.sIx l.length 0 lo)
theorem cutD_rep {K : PySem.W.Frag} {S : Sto} {H : Hp} {l : List D} {vs : List V} (r : RepL K S H l vs) (lo hi : Option Int) : RepL K S H (cutD l lo hi) (cutV vs lo hi) := by
  unfold cutD cutV
  rw [r.length]
  exact (r.drop _).take _
theorem cutD_le (l : List D) (lo hi : Option Int) : (cutD l lo hi).length ≤ l.length := by
  unfold cutD
  rw [List.length_take, List.length_drop]
  omega
def fSl (own : Bool) (x : D) (lo hi : Option Int) (S : Sto) (R : Pd) : Prop := match contOf S x with
  | .t l => R (.tup (cutD l lo hi)) S
  | .s z => z.length ≤ sizeLine ∧ R (.str (cutS z lo hi)) S
  | .l l => mkL own (cutD l lo hi) S R
  | _ => False
/-- a part of a slice -/
def wPart (w : Option WpE) : En → Sto → (Option Int → Sto → Prop) → Px → Prop := fun ς S R RE => match w with
  | none => R none S
  | some w => w ς S (fun x S1 => ∃ i, x = .int i ∧ R (some i) S1) RE
def wSl (own : Bool) (we : WpE) (wl wh : Option WpE) : WpE := fun ς S R RE => we ς S (fun x S1 => wPart wl ς S1 (fun lo S2 => wPart wh ς S2 (fun hi S3 => fSl own x lo hi S3 R) RE) RE) RE
def tO (K : PySem.W.Frag) (F : Fr) (w : Option WpE) : TO := match w with
  | none => tNoPart
  | some w => tPart (tE K F w)
/-- the parts -/
inductive WO (X : Cx) (F : Fr) : Option Expr → Option WpE → Prop
  | none : WO X F none none
  | some {e : Expr} {w : WpE} : WE X F e w → WO X F (some e) (some w)
theorem WO.po {e : Option Expr} {w : Option WpE} (h : WO X F e w) : PO X e (tO X.K F w) := by
  cases h with
  | none => exact po_none
  | some h => exact po_some h
theorem tO.mk {K : PySem.W.Frag} {w : Option WpE} {ς : En} {S : Sto} {R : Option Int → Sto → Prop} {σ : L2.St} {H : Hp} {Q : Option Int → Hp → Prop} (g : Good K ς S σ H) (k : Keep K F.S0 F.H0 S H) (hw : wPart w ς S R (fun c S' => F.XE c ς S'))
    (hR : ∀ x S' H', R x S' → Good K ς S' σ H' → Keep K F.S0 F.H0 S' H' → Keep K S H S' H' → Q x H') : tO K F w σ H Q := by
  cases w with
  | none => exact hR none S H hw g k .refl
  | some w =>
    refine tE.mk g k hw fun x S1 v H1 h1 g1 k1 d1 r1 => ?_
    obtain ⟨i, rfl, h1⟩ := h1
    cases r1
    exact ⟨i, rfl, hR _ S1 H1 h1 g1 k1 d1⟩
theorem we_sl {own : Bool} {lo hi : Option Expr} {wl wh : Option WpE} (he : WE X F e we) (hl : WO X F lo wl) (hh : WO X F hi wh) : WE X F (.Subscript e (.Slice lo hi none p2) pos) (wSl own we wl wh) :=
  (pe_slice (sl_tupA.or (sl_list.or sl_str)) he hl.po hh.po).imp fun σ H Q ⟨ς, S, R, g, k, hw, hR⟩ => by
    refine tE.mk g k hw fun x S1 v H1 h1 g1 k1 d1 r1 => tO.mk g1 k1 h1 fun lo S2 H2 h2 g2 k2 d2 => tO.mk g2 k2 h2 fun hi S3 H3 h3 g3 k3 d3 => ?_
    have r3 := (d2.trans d3) _ _ r1
    have d := (d1.trans d2).trans d3
    have q := g3.rel
    have hR' : ∀ z S' v' H', R z S' → Rel X.K S' H' → Keep X.K S3 H3 S' H' → Rep X.K S' H' z v' → Q v' H' := fun z S' v' H' q r k p => hR z S' v' H' q r (d.trans k) p
    unfold fSl at h3
    split at h3
    · rename_i l e
      cases contT_inv e
      obtain ⟨a, vs, rfl, h1, n1, rl⟩ := r3.tup_inv
      refine .inl ⟨a, vs, rfl, h1, fun hz => ?_, fun _ p hp => ?_⟩
      · have e : cutD l lo hi = l := by
          unfold cutD
          have e1 := rl.length
          rw [e1, hz.1, hz.2, List.drop_zero, Nat.sub_zero, ← e1, List.take_length]
        rw [e] at h3
        exact hR' _ _ _ _ h3 q .refl r3
      · exact hR' _ _ _ _ h3 (q.new hp) (Keep.new hp) (.tup (.of upd_same) (Nat.le_trans (cutD_le _ _ _) n1) ((Keep.new hp).l (cutD_rep rl lo hi)))
    · rename_i z e
      cases contS_inv e
      cases r3
      exact .inr (.inr ⟨z, rfl, h3.1, hR' _ _ _ _ h3.2 q .refl (.str _)⟩)
    · rename_i l e
      obtain ⟨a, vs, rfl, h1, rl, _⟩ := lstSq_rep r3 q e
      exact .inr (.inl ⟨a, vs, rfl, h1, (mkL_ok q h3 (cutD_rep rl lo hi) hR').2⟩)
    · exact h3.elim
end

/-! ### attributes -/
def insOf (S : Sto) : D → Option (String × List (String × D))
  | .ins c fs => some (c, fs)
  | .ref a => (match S a with
    | some (.ins c fs) => some (c, fs)
    | _ => none)
  | _ => none
theorem insOf_rep {K : PySem.W.Frag} {S : Sto} {H : Hp} {x : D} {v : V} {c : String} {fs : List (String × D)} (r : Rep K S H x v) (q : Rel K S H) (e : insOf S x = some (c, fs)) :
    ∃ a dx gs, v = .ref a ∧ H a = some (.ins (clA K c) dx gs) ∧ CO K c fs ∧ RepF K S H fs gs := by
  cases r with
  | ins h n z r => cases e; exact ⟨_, _, _, rfl, h, z, r⟩
  | ref a =>
    unfold insOf at e
    dsimp only at e
    cases h : S a with
    | none => rw [h] at e; cases e
    | some o =>
      rw [h] at e
      cases o with
      | ins c' l' => cases e; obtain ⟨z, dx, gs, h1, h2⟩ := q a _ h; exact ⟨_, _, _, rfl, h1, z, h2⟩
      | _ => cases e
  | _ => cases e
/-- an attribute -/
def look (f : String) : List (String × D) → Option D
  | [] => none
  | (g, x) :: r => if g = f then some x else look f r
theorem ofString_inj {a b : String} (h : (Str.ofString a) = (Str.ofString b)) : a = b := by
  rw [Str.ofString_eq_toList, Str.ofString_eq_toList] at h
  injection h with h
  apply String.toList_inj.mp
  have h2 : (a.toList.map Char.toNat) = b.toList.map Char.toNat := by
    simpa using congrArg Array.toList h
  exact List.map_inj_right (fun x y e => Char.toNat_inj.mp e) |>.mp h2
theorem ofString_eq {a b : String} : Str.ofString a = Str.ofString b ↔ a = b := ⟨ofString_inj, fun e => by rw [e]⟩
theorem RepF.look {K : PySem.W.Frag} {S : Sto} {H : Hp} {f : String} : ∀ {l : List (String × D)} {vs : List (Str × V)}, RepF K S H l vs → match look f l with
    | some x => ∃ v, vs.lookup (Str.ofString f) = some v ∧ Rep K S H x v ∧ (∃ p ∈ l, p.1 = f)
    | none => vs.lookup (Str.ofString f) = none
  | _, _, .nil => by show List.lookup _ [] = none; rfl
  | _, _, .cons (f := j) (d := d) (v := v) (l := l) (vs := vs) r t => by
    have ih := RepF.look (f := f) t
    by_cases h : j = f
    · subst h
      have e1 : SB.look j ((j, d) :: l) = some d := by simp [SB.look]
      have e2 : List.lookup (Str.ofString j) ((Str.ofString j, v) :: vs) = some v := by simp [List.lookup]
      rw [e1]
      exact ⟨v, e2, r, (j, d), List.mem_cons_self, rfl⟩
    · have hb : (Str.ofString f == Str.ofString j) = false := beq_eq_false_iff_ne.mpr fun e => h (ofString_inj e).symm
      have e1 : SB.look f ((j, d) :: l) = SB.look f l := by simp [SB.look, h]
      have e2 : List.lookup (Str.ofString f) ((Str.ofString j, v) :: vs) = List.lookup (Str.ofString f) vs := by simp only [List.lookup, hb]
      rw [e1, e2]
      cases hx : SB.look f l with
      | none => rw [hx] at ih; exact ih
      | some x =>
        rw [hx] at ih
        obtain ⟨v, a, b, p, c, d⟩ := ih
        exact ⟨v, a, b, p, List.mem_cons_of_mem _ c, d⟩
end SB
end

section
set_option Elab.async false
set_option linter.all false
set_option maxRecDepth 100000
set_option autoImplicit false
/-! SB5: attributes read, calls of own defs and methods, own classes made. -/
namespace SB
open PySem PySem.Spec L2

/-! ### what the text's trees say -/
def baseOk : Expr → Bool
  | .Call (.Name id _) [] [] _ => id != ("super" : Str)
  | _ => true
theorem attrBase {o : Expr} {m : Str} {env : Env} {whole : Sem Value} (h : baseOk o = true) : attributeBase o m env whole = whole := by
  unfold baseOk at h
  split at h
  · exact abase_call h
  · rename_i hn
    unfold attributeBase
    split
    · rename_i id p pos
      exact absurd rfl (hn id p pos)
    · rfl
def noStars (es : List Expr) : Bool := es.all noStar
theorem starEach_all : ∀ {es : List Expr} {env : Env}, noStars es = true → starEach es env = es.map fun e => (false, eval e env)
  | [], _, _ => rfl
  | e :: es, env, h => by
    simp only [noStars, List.all_cons, Bool.and_eq_true] at h
    rw [starEach_cons h.1, starEach_all h.2, List.map_cons]
theorem backTo_all {es : List Expr} {env : Env} {pos : Pos} (h : noStars es = true) : backTo pos (starEach es env) = es.map fun e => (false, eval e env) := by
  rw [starEach_all h]
  unfold backTo
  rw [List.map_map]
  rfl
theorem back_any {es : List Expr} {env : Env} {pos : Pos} (h : noStars es = true) : (backTo pos (starEach es env)).any (·.1) = false := by
  rw [backTo_all h, List.any_map]
  induction es with
  | nil => rfl
  | cons e es ih =>
    simp only [noStars, List.all_cons, Bool.and_eq_true] at h
    rw [List.any_cons, ih h.2]
    rfl
theorem back_few {es : List Expr} {env : Env} {pos : Pos} (h : noStars es = true) (hl : es.length < 29) : ((backTo pos (starEach es env)).all (fun x => !x.1) && (backToKw pos (keywordEach [] env)).all (fun x => x.1.isSome)
      && decide (es.length + ([] : List Keyword).length + (if ([] : List Keyword).isEmpty then 0 else 1) < 30)) = true := by
  have e1 : (backTo pos (starEach es env)).all (fun x => !x.1) = true := by
    rw [backTo_all h, List.all_map]
    exact List.all_eq_true.mpr fun _ _ => rfl
  rw [e1]
  have e2 : decide (es.length + ([] : List Keyword).length + (if ([] : List Keyword).isEmpty then 0 else 1) < 30) = true := decide_eq_true (by
    show es.length + 0 + 0 < 30; omega)
  rw [e2]
  rfl
theorem mcall_tree {o : Expr} {m : Str} {apos pos : Pos} {es : List Expr} {env : Env} (hb : baseOk o = true) (h : noStars es = true) (hl : es.length < 29) (hline : (apos.endLine == pos.line) = true) :
    eval (.Call (.Attribute o m apos) es [] pos) env = (do
      let ov ← eval o env
      standAt apos.atName
      let (f, first) ← holding [ov] (getMethod ov m (plainOf o env))
      callWith pos f first (backTo pos (starEach es env)) (backToKw pos (keywordEach [] env))) := by
  have hf : methodCallForm (es.length + ([] : List Keyword).length) (backTo pos (starEach es env)) (backToKw pos (keywordEach [] env)) = true := back_few h hl
  exact mcall_of (attrBase hb) fun ov => mcall_line hf hline

/-! ### attributes -/
def wFld (f : String) (wa : WpE) : WpE := fun ς S R RE => wa ς S (fun x S1 => ∃ c fs v, insOf S1 x = some (c, fs) ∧ look f fs = some v ∧ R v S1) RE
theorem fld_ok {K : PySem.W.Frag} {S : Sto} {H : Hp} {x d : D} {v : V} {c f : String} {fs : List (String × D)} (r : Rep K S H x v) (q : Rel K S H) (e : insOf S x = some (c, fs)) (l : look f fs = some d) :
    ∃ a dx gs w, v = .ref a ∧ H a = some (.ins (clA K c) dx gs) ∧ Cls K (clA K c) ∧ NoAttr K (clA K c) (Str.ofString f) ∧ gs.lookup (Str.ofString f) = some w ∧ Rep K S H d w := by
  obtain ⟨a, dx, gs, rfl, h1, ⟨c1, c2, _⟩, r1⟩ := insOf_rep r q e
  have hl := r1.look (f := f)
  rw [l] at hl
  obtain ⟨w, hw, rw', p, hp, e2⟩ := hl
  subst e2
  exact ⟨a, dx, gs, w, rfl, h1, c1, c2 p hp, hw, rw'⟩
section
variable {X : Cx} {F : Fr} {pos p apos : Pos} {a e o : Expr} {es : List Expr} {wo we : WpE} {wa : WpA} {f : String}
theorem we_fld (ho : WE X F o wo) (hb : baseOk o = true) : WE X F (.Attribute o (Str.ofString f) pos) (wFld f wo) :=
  (pe_fld (f := Str.ofString f) ho (attrBase hb)).imp fun σ H Q ⟨ς, S, R, g, k, hw, hR⟩ => by
    refine tE.mk g k hw fun x S1 v H1 h1 g1 k1 d1 r1 => ?_
    obtain ⟨c, fs, d, e, l, h1⟩ := h1
    obtain ⟨a, dx, gs, w, rfl, e1, c1, c2, hw', rw'⟩ := fld_ok r1 g1.rel e l
    exact ⟨a, _, dx, gs, w, rfl, e1, c1, c2, hw', hR d S1 w H1 h1 g1.rel d1 rw'⟩
end

/-! ### what a def promises, over data -/
abbrev Spec := List D → Sto → (D → Sto → Prop) → (String → Sto → Prop) → Prop
def spOf (K : PySem.W.Frag) (φ : Spec) : Sp := fun vs H Q E => ∃ xs S R RE, RepL K S H xs vs ∧ Rel K S H ∧ φ xs S R RE ∧
  (∀ x S' v H', R x S' → Rel K S' H' → Keep K S H S' H' → Rep K S' H' x v → Q v H') ∧ (∀ c d S' H', (c ≠ "NoPot" → d = none) → RE c S' → Rel K S' H' → Keep K S H S' H' → E (.ref (clA K c)) d H')
/-- a def: its parameters' number, its promise -/
structure Fn where
  n : Nat
  φ : Spec
/-- .. where the last ones may be left out: dds the values that then stand for them -/
structure FnBd (P : Program) (w : World) (K : PySem.W.Frag) (mg : Str → Option Value) (base : Heap) (k : Nat) (f : Addr) (n : Nat) (dds : List D) (φ : Spec) : Prop where
  ok : ∃ fd ps ds dvs, FnOk P w K mg base (L2.CX P w) k f fd ps (spOf K φ) ∧ Binds K fd ps ds ∧ Vals dvs ds ∧ (∀ S H, RepL K S H dds dvs)
  kp : PySem.W.keepIn K (.ref f) = true
theorem FnBd.mono {P : Program} {w : World} {K : PySem.W.Frag} {mg : Str → Option Value} {base : Heap} {j k : Nat} {f : Addr} {n : Nat} {dds : List D} {φ : Spec} (h : FnBd P w K mg base j f n dds φ) (l : j ≤ k) : FnBd P w K mg base k f n dds φ := by
  obtain ⟨⟨fd, ps, ds, dvs, a, b, c, d⟩, kp⟩ := h
  exact ⟨⟨fd, ps, ds, dvs, a.mono l, b, c, d⟩, kp⟩
/-- what a body's frame wants of an exception -/
def wF (K : PySem.W.Frag) (F : Fr) : WX := fun cls d σ H => ∃ c ς S, cls = .ref (clA K c) ∧ (c ≠ "NoPot" → d = none) ∧ Good K ς S σ H ∧ Keep K F.S0 F.H0 S H ∧ F.XE c ς S
section
variable {X : Cx} {F : Fr} {pos p apos : Pos} {a e o : Expr} {es : List Expr} {wo we : WpE} {wa : WpA} {x : Str} {k n : Nat} {f : Addr} {φ : Spec} {dds : List D}
theorem run_fnD {CX : CXT} {fd : FuncData} {ps : List Str} {sp : Sp} {ds : List Value} {dvs : List V} {E : XK} {pins : List (Addr × Obj)} {σ : L2.St} {H : Hp} {s : Shared} {Q : VK} {us : List Value} {vs : List V}
    (F : FnOk X.prog X.w X.K X.mg X.base CX k f fd ps sp) (hr : Room k X.A) (hb : Binds X.K fd ps ds) (hd : Vals dvs ds) (hx : PassesAt CX X σ E)
    (I : Inv X pins σ H s) (r : Vals vs us) (h : sp (vs ++ dvs) H Q E) : wpAny (model X.prog X.w) X.A (call (.ref f) us) (EP X pins σ Q) X.xe s := by
  have r2 : Vals (vs ++ dvs) (us ++ ds) := r.append hd
  have hl : (us ++ ds).length = ps.length := by rw [← r2.length]; exact F.len _ _ _ _ h
  refine wpAny_call (codeAny_mono (F.run X.A X.stack s H ⟨us, []⟩ (us ++ ds) (vs ++ dvs) Q E hr I.env0 (hb s us I.kIn hl) r2 h) fun r s' hq => ?_)
  cases r with
  | error e => exact hx pins H s e s' I hq
  | ok fl =>
    cases fl with
    | ret u => exact I.after hq
    | next => exact False.elim hq
    | brk => exact False.elim hq
    | cont => exact False.elim hq
/-- a call by values: from what is asked of data -/
theorem call_ok (B : FnBd X.prog X.w X.K X.mg X.base k f n dds φ) (hr : Room k X.A) (tk : Takes X (wF X.K F)) {pins : List (Addr × Obj)} {σ : L2.St} {H : Hp} {s : Shared} {Q : VK} {us : List Value} {vs : List V} {ς : En} {S : Sto} {R : Pd} {xs : List D}
    (I : Inv X pins σ H s) (r : Vals vs us) (g : Good X.K ς S σ H) (kk : Keep X.K F.S0 F.H0 S H) (rx : RepL X.K S H xs vs) (h : φ (xs ++ dds) S R (fun c S' => F.XE c ς S'))
    (hR : ∀ x S' v H', R x S' → Rel X.K S' H' → Keep X.K S H S' H' → Rep X.K S' H' x v → Q v H') : wpAny (model X.prog X.w) X.A (call (.ref f) us) (EP X pins σ Q) X.xe s := by
  obtain ⟨fd, ps, ds, dvs, ok, hb, hd, rd⟩ := B.ok
  refine run_fnD ok hr hb hd (passAt tk σ) I r ⟨xs ++ dds, S, R, _, rx.append (rd S H), g.rel, h, hR, fun c d S' H' hd q r' k' => ?_⟩
  exact ⟨c, ς, S', rfl, hd, g.keep r' k', kk.trans k', q⟩
def wCall (φ : Spec) (dds : List D) (wa : WpA) : WpE := fun ς S R RE => wa ς S (fun xs S1 => φ (xs ++ dds) S1 R RE) RE
/-- f(..), f an own def -/
theorem we_call (B : FnBd X.prog X.w X.K X.mg X.base k f n dds φ) (hr : Room k X.A) (tk : Takes X (wF X.K F)) (hg : Gl X x) (hm : X.mg x = some (.ref f)) (ha : WA X F (e :: es) wa) (hn : noStars (e :: es) = true)
    (hdb : (x == ("__debug__" : Str)) = false) : WE X F (.Call (.Name x p) (e :: es) [] pos) (wCall φ dds wa) := by
  refine ⟨fun pins s σ H Q I h => ?_⟩
  obtain ⟨ς, S, R, g, kk, hw, hR⟩ := h
  refine wpAny_Call_Name_kw (ld_glob I hg hm ?_ hdb)
  have hn' : noStar e = true ∧ noStars es = true := by simpa [noStars] using hn
  refine PySem.W.callWith_K (h₀ := X.base) I.ok.mod.kin B.kp ?_ (starEach_cons hn'.1) (back_any hn'.2)
  refine thn (ha.run pos pins s σ H _ I (tA.mk (Q := fun vs H1 => ∃ S1 xs, Good X.K ς S1 σ H1 ∧ Keep X.K F.S0 F.H0 S1 H1 ∧ Keep X.K S H S1 H1 ∧ RepL X.K S1 H1 xs vs ∧ φ (xs ++ dds) S1 R (fun c S' => F.XE c ς S')) g kk hw fun xs S1 vs H1 h1 g1 k1 d1 r1 => ⟨S1, xs, g1, k1, d1, r1, h1⟩)) fun us s1 ⟨vs, H1, I1, r, S1, xs, g1, k1, d1, r1, h1⟩ => ⟨I1.kIn, ?_⟩
  exact call_ok B hr tk I1 r g1 k1 r1 h1 fun x S' v H' q r k p => hR x S' v H' q r (d1.trans k) p
theorem we_call0 (B : FnBd X.prog X.w X.K X.mg X.base k f n dds φ) (hr : Room k X.A) (tk : Takes X (wF X.K F)) (hg : Gl X x) (hm : X.mg x = some (.ref f)) (hdb : (x == ("__debug__" : Str)) = false) : WE X F (.Call (.Name x p) [] [] pos) (wCall φ dds wNil) := by
  refine ⟨fun pins s σ H Q I h => ?_⟩
  obtain ⟨ς, S, R, g, kk, hw, hR⟩ := h
  refine wpAny_Call_Name_kw (ld_glob I hg hm ?_ hdb)
  exact PySem.W.callWith_K0 I.kIn B.kp (call_ok (us := []) (vs := []) (xs := []) B hr tk I .nil g kk .nil hw fun x S' v H' q r k p => hR x S' v H' q r k p)
/-- a method of a class, as it is found -/
structure MtBd (P : Program) (w : World) (K : PySem.W.Frag) (mg : Str → Option Value) (base : Heap) (k : Nat) (C : Addr) (m : Str) (n : Nat) (dds : List D) (φ : Spec) : Prop where
  ex : ∃ f, Meth K C m f ∧ FnBd P w K mg base k f n dds φ
/-- o.m(..): by the class of what o is -/
def wMeth (m : String) (cs : List (String × Nat × List D × Spec)) (wo : WpE) (wa : WpA) : WpE := fun ς S R RE => wo ς S (fun x S1 => ∃ c fs nd, insOf S1 x = some (c, fs) ∧ look m fs = none ∧ cs.lookup c = some nd ∧
  wa ς S1 (fun xs S2 => nd.2.2 (x :: (xs ++ nd.2.1)) S2 R RE) RE) RE
theorem we_meth {m : String} {cs : List (String × Nat × List D × Spec)} (B : ∀ c nd, cs.lookup c = some nd → MtBd X.prog X.w X.K X.mg X.base k (clA X.K c) (Str.ofString m) nd.1 nd.2.1 nd.2.2) (hr : Room k X.A) (tk : Takes X (wF X.K F))
    (ho : WE X F o wo) (ha : WA X F (e :: es) wa) (hb : baseOk o = true) (hn : noStars (e :: es) = true) (hl : (e :: es).length < 29) (hline : (apos.endLine == pos.line) = true) :
    WE X F (.Call (.Attribute o (Str.ofString m) apos) (e :: es) [] pos) (wMeth m cs wo wa) := by
  refine ⟨fun pins s σ H Q I h => ?_⟩
  obtain ⟨ς, S, R, g, kk, hw, hR⟩ := h
  refine PySem.W.methodCall_KW (pl := plainOf o X.env) (thn (ho.run pins s σ H _ I (tE.mk (Q := fun v H1 => ∃ x S1, Good X.K ς S1 σ H1 ∧ Keep X.K F.S0 F.H0 S1 H1 ∧ Keep X.K S H S1 H1 ∧ Rep X.K S1 H1 x v ∧
    ∃ c fs nd, insOf S1 x = some (c, fs) ∧ look m fs = none ∧ cs.lookup c = some nd ∧ wa ς S1 (fun xs S2 => nd.2.2 (x :: (xs ++ nd.2.1)) S2 R (fun c S' => F.XE c ς S')) (fun c S' => F.XE c ς S')) g kk hw fun x S1 v H1 h1 g1 k1 d1 r1 => ⟨x, S1, g1, k1, d1, r1, h1⟩))
    fun u s1 ⟨v, H1, I1, rv, x, S1, g1, k1, d1, r1, c, fs, nd, e1, l1, cl, h1⟩ => ?_) (mcall_tree hb hn hl hline)
  obtain ⟨a, dx, gs, rfl, ha1, ⟨c1, c2, c3⟩, rf⟩ := insOf_rep r1 g1.rel e1
  obtain rfl : u = Value.ref a := rv
  obtain ⟨f, hm, Bf⟩ := (B c nd cl).ex
  have lk := rf.look (f := m)
  rw [l1] at lk
  refine getmeth_ok I1 ha1 c1 hm lk ?_
  have hn' : noStar e = true ∧ noStars es = true := by simpa [noStars] using hn
  refine PySem.W.callWith_K (first := [.ref a]) (h₀ := X.base) I.ok.mod.kin hm.kp (thn (ha.run pos pins s1 σ H1 _ I1 (tA.mk (Q := fun vs H2 => ∃ S2 xs, Good X.K ς S2 σ H2 ∧ Keep X.K F.S0 F.H0 S2 H2 ∧ Keep X.K S1 H1 S2 H2 ∧ RepL X.K S2 H2 xs vs ∧ nd.2.2 (x :: (xs ++ nd.2.1)) S2 R (fun c S' => F.XE c ς S'))
    g1 k1 h1 fun xs S2 vs H2 h2 g2 k2 d2 r2 => ⟨S2, xs, g2, k2, d2, r2, h2⟩)) fun us s2 ⟨vs, H2, I2, r, S2, xs, g2, k2, d2, r2, h2⟩ => ⟨I2.kIn, ?_⟩) (starEach_cons hn'.1) (back_any hn'.2)
  exact call_ok (us := .ref a :: us) (vs := .ref a :: vs) (xs := x :: xs) Bf hr tk I2 (.cons rfl r) g2 k2 (.cons (d2 _ _ r1) r2) h2 fun x S' v H' q r k p => hR x S' v H' q r ((d1.trans d2).trans k) p
theorem we_meth0 {m : String} {cs : List (String × Nat × List D × Spec)} (B : ∀ c nd, cs.lookup c = some nd → MtBd X.prog X.w X.K X.mg X.base k (clA X.K c) (Str.ofString m) nd.1 nd.2.1 nd.2.2) (hr : Room k X.A) (tk : Takes X (wF X.K F))
    (ho : WE X F o wo) (hb : baseOk o = true) (hline : (apos.endLine == pos.line) = true) :
    WE X F (.Call (.Attribute o (Str.ofString m) apos) [] [] pos) (wMeth m cs wo wNil) := by
  refine ⟨fun pins s σ H Q I h => ?_⟩
  obtain ⟨ς, S, R, g, kk, hw, hR⟩ := h
  refine PySem.W.methodCall_KW (pl := plainOf o X.env) (thn (ho.run pins s σ H _ I (tE.mk (Q := fun v H1 => ∃ x S1, Good X.K ς S1 σ H1 ∧ Keep X.K F.S0 F.H0 S1 H1 ∧ Keep X.K S H S1 H1 ∧ Rep X.K S1 H1 x v ∧
    ∃ c fs nd, insOf S1 x = some (c, fs) ∧ look m fs = none ∧ cs.lookup c = some nd ∧ wNil ς S1 (fun xs S2 => nd.2.2 (x :: (xs ++ nd.2.1)) S2 R (fun c S' => F.XE c ς S')) (fun c S' => F.XE c ς S')) g kk hw fun x S1 v H1 h1 g1 k1 d1 r1 => ⟨x, S1, g1, k1, d1, r1, h1⟩))
    fun u s1 ⟨v, H1, I1, rv, x, S1, g1, k1, d1, r1, c, fs, nd, e1, l1, cl, h1⟩ => ?_) (mcall_tree hb rfl (by decide) hline)
  obtain ⟨a, dx, gs, rfl, ha1, ⟨c1, c2, c3⟩, rf⟩ := insOf_rep r1 g1.rel e1
  obtain rfl : u = Value.ref a := rv
  obtain ⟨f, hm, Bf⟩ := (B c nd cl).ex
  have lk := rf.look (f := m)
  rw [l1] at lk
  refine getmeth_ok I1 ha1 c1 hm lk ?_
  exact PySem.W.callWith_K0 (first := [.ref a]) I1.kIn hm.kp (call_ok (us := [.ref a]) (vs := [.ref a]) (xs := [x]) Bf hr tk I1 (.cons rfl .nil) g1 k1 (.cons r1 .nil) h1 fun x S' v H' q r k p => hR x S' v H' q r (d1.trans k) p)

/-! ### own classes made -/
structure MkBd (P : Program) (w : World) (K : PySem.W.Frag) (mg : Str → Option Value) (base : Heap) (k : Nat) (c : String) (n : Nat) (dds : List D) (φ : Spec) : Prop where
  ex : ∃ f, Mk K (clA K c) f ∧ FnBd P w K mg base k f n dds φ
  cl : Cls K (clA K c)
/-- the new instance one's own, or data behind its making -/
def mkI (own : Bool) (c : String) (p : Addr) (R : Pd) (S : Sto) : Prop := match own with
  | true => R (.ref p) S
  | false => ∃ fs, S p = some (.ins c fs) ∧ R (.ins c fs) (S.del p)
/-- C(..) -/
def wMake (own : Bool) (c : String) (dds : List D) (φ : Spec) (wa : WpA) : WpE := fun ς S R RE => wa ς S (fun xs S1 => ∀ p, S1 p = none → φ (.ref p :: (xs ++ dds)) (S1.set p (.ins c [])) (fun v S2 => v = .non ∧ mkI own c p R S2) RE) RE
theorem make_ok {c : String} {own : Bool} (B : MkBd X.prog X.w X.K X.mg X.base k c n dds φ) (hr : Room (k + 1) X.A) (tk : Takes X (wF X.K F)) {pins : List (Addr × Obj)} {σ : L2.St} {H : Hp} {s : Shared} {Q : VK} {us : List Value} {vs : List V} {ς : En} {S : Sto} {R : Pd} {xs : List D}
    (I : Inv X pins σ H s) (r : Vals vs us) (g : Good X.K ς S σ H) (kk : Keep X.K F.S0 F.H0 S H) (rx : RepL X.K S H xs vs)
    (h : ∀ p, S p = none → φ (.ref p :: (xs ++ dds)) (S.set p (.ins c [])) (fun v S2 => v = .non ∧ mkI own c p R S2) (fun c S' => F.XE c ς S'))
    (hR : ∀ x S' v H', R x S' → Rel X.K S' H' → Keep X.K S H S' H' → Rep X.K S' H' x v → Q v H') : wpAny (model X.prog X.w) X.A (call (.ref (clA X.K c)) us) (EP X pins σ Q) X.xe s := by
  obtain ⟨f, M, Bf⟩ := B.ex
  obtain ⟨fd, ps, ds, dvs, ok, hb, hd, rd⟩ := Bf.ok
  have n0 : H s.heap.objs.size = none := I.hok.fresh (Nat.le_refl _)
  have n1 : H (s.heap.objs.size + 1) = none := I.hok.fresh (Nat.le_succ _)
  generalize ep : s.heap.objs.size + 1 = p at n1
  generalize ed : s.heap.objs.size = dx at n0
  have ne : dx ≠ p := by omega
  have I2 : Inv X pins σ (upd (upd H dx (.own p)) p (.ins (clA X.K c) dx [])) { s with heap := (s.heap.push PySem.W.emptyDict).push (PySem.W.instObj (clA X.K c) dx) } := by
    subst ed ep
    exact Inv.made (C := clA X.K c) I
  have hq := h p (g.rel.fresh n1)
  have n1' : (upd H dx (.own p)) p = none := by rw [upd_ne (Ne.symm ne)]; exact n1
  have K1 : Keep X.K S H S (upd H dx (.own p)) := Keep.new n0
  have K2 : Keep X.K S (upd H dx (.own p)) (S.set p (.ins c [])) (upd (upd H dx (.own p)) p (.ins (clA X.K c) dx [])) := Keep.own n1'
  have R2 : Rel X.K (S.set p (.ins c [])) (upd (upd H dx (.own p)) p (.ins (clA X.K c) dx [])) := (g.rel.new n0).own n1' ⟨⟨B.cl, (fun q hq => absurd hq List.not_mem_nil), Nat.zero_le _⟩, dx, [], upd_same, .nil⟩
  have K12 := K1.trans K2
  have r2 : Vals (V.ref p :: (vs ++ dvs)) (Value.ref p :: (us ++ ds)) := .cons rfl (r.append hd)
  have sp : spOf X.K φ (V.ref p :: (vs ++ dvs)) (upd (upd H dx (.own p)) p (.ins (clA X.K c) dx [])) (fun v H2 => v = .non ∧ Q (.ref p) H2) (L2.WE (wF X.K F) σ) := by
    refine ⟨.ref p :: (xs ++ dds), _, _, _, .cons (.ref p) ((K12.l rx).append (rd _ _)), R2, hq, fun x S' v H' q r' k' p' => ?_, fun c' d' S' H' hd q r' k' => ?_⟩
    · obtain ⟨rfl, q⟩ := q
      cases p'
      refine ⟨rfl, ?_⟩
      cases own with
      | true => exact hR _ S' _ H' q r' (K12.trans k') (.ref p)
      | false =>
        obtain ⟨fs, e, q⟩ := q
        obtain ⟨co, dx', gs, e', rf⟩ := r' p _ e
        have hd' : ∀ b, (S'.del p) b = S' b ∨ (S'.del p) b = none := fun b => by
          by_cases e : b = p
          · subst e; exact .inr Sto.del_same
          · rw [Sto.del_ne e]; exact .inl rfl
        have LK := Keep.left (K := X.K) (H := H') hd'
        exact hR _ _ _ H' q (r'.left hd') ((K12.trans k').trans LK) (.ins e' Sto.del_same co (LK.f rf))
    · exact ⟨c', ς, S', rfl, hd, g.keep r' (K12.trans k'), kk.trans (K12.trans k'), q⟩
  have hl : (Value.ref p :: us ++ ds).length = ps.length := by
    have e := r2.length
    rw [ok.len _ _ _ _ sp] at e
    exact e.symm
  have hx : PassesAt (L2.CX X.prog X.w) X σ (L2.WE (wF X.K F) σ) := passAt tk σ
  refine wpAny_call (make_map (f := f) I.kIn M.makes M.init (beq_iff_eq.mp M.fn) ?_)
  rw [ep, ed]
  refine codeAny_mono (ok.run _ X.stack _ _ ⟨Value.ref p :: us, []⟩ (Value.ref p :: (us ++ ds)) _ _ _ (hr.make (clA X.K c) us [])
    (I2.env0.make (clA X.K c) us []) (hb _ (Value.ref p :: us) I2.kIn hl) r2 sp) fun r s' hq' => ?_
  cases r with
  | error e => exact hx pins _ _ e s' I2 hq'
  | ok fl =>
    cases fl with
    | ret u =>
      obtain ⟨v, H', I3, rv, ev, q3⟩ := I2.after hq'
      subst ev
      exact ⟨rv, ⟨V.ref p, H', I3, rfl, q3⟩⟩
    | next => exact False.elim hq'
    | brk => exact False.elim hq'
    | cont => exact False.elim hq'
theorem we_make {c : String} {own : Bool} (B : MkBd X.prog X.w X.K X.mg X.base k c n dds φ) (hr : Room (k + 1) X.A) (tk : Takes X (wF X.K F)) (hg : Gl X x) (hm : X.mg x = some (.ref (clA X.K c))) (ha : WA X F (e :: es) wa) (hn : noStars (e :: es) = true)
    (hdb : (x == ("__debug__" : Str)) = false) : WE X F (.Call (.Name x p) (e :: es) [] pos) (wMake own c dds φ wa) := by
  refine ⟨fun pins s σ H Q I h => ?_⟩
  obtain ⟨ς, S, R, g, kk, hw, hR⟩ := h
  refine wpAny_Call_Name_kw (ld_glob I hg hm ?_ hdb)
  have hn' : noStar e = true ∧ noStars es = true := by simpa [noStars] using hn
  obtain ⟨f, M, Bf⟩ := B.ex
  refine PySem.W.callWith_K (h₀ := X.base) I.ok.mod.kin M.kp ?_ (starEach_cons hn'.1) (back_any hn'.2)
  refine thn (ha.run pos pins s σ H _ I (tA.mk (Q := fun vs H1 => ∃ S1 xs, Good X.K ς S1 σ H1 ∧ Keep X.K F.S0 F.H0 S1 H1 ∧ Keep X.K S H S1 H1 ∧ RepL X.K S1 H1 xs vs ∧
    ∀ p, S1 p = none → φ (.ref p :: (xs ++ dds)) (S1.set p (.ins c [])) (fun v S2 => v = .non ∧ mkI own c p R S2) (fun c S' => F.XE c ς S')) g kk hw fun xs S1 vs H1 h1 g1 k1 d1 r1 => ⟨S1, xs, g1, k1, d1, r1, h1⟩)) fun us s1 ⟨vs, H1, I1, r, S1, xs, g1, k1, d1, r1, h1⟩ => ⟨I1.kIn, ?_⟩
  exact make_ok B hr tk I1 r g1 k1 r1 h1 fun x S' v H' q r k p => hR x S' v H' q r (d1.trans k) p
theorem we_make0 {c : String} {own : Bool} (B : MkBd X.prog X.w X.K X.mg X.base k c n dds φ) (hr : Room (k + 1) X.A) (tk : Takes X (wF X.K F)) (hg : Gl X x) (hm : X.mg x = some (.ref (clA X.K c)))
    (hdb : (x == ("__debug__" : Str)) = false) : WE X F (.Call (.Name x p) [] [] pos) (wMake own c dds φ wNil) := by
  refine ⟨fun pins s σ H Q I h => ?_⟩
  obtain ⟨ς, S, R, g, kk, hw, hR⟩ := h
  refine wpAny_Call_Name_kw (ld_glob I hg hm ?_ hdb)
  obtain ⟨f, M, Bf⟩ := B.ex
  exact PySem.W.callWith_K0 I.kIn M.kp (make_ok (us := []) (vs := []) (xs := []) B hr tk I .nil g kk .nil hw fun x S' v H' q r k p => hR x S' v H' q r k p)
end
end SB
end

section
set_option Elab.async false
set_option linter.all false
set_option maxRecDepth 100000
set_option autoImplicit false
/-! SB6: built-in functions and types called, by values. -/
namespace SB
open PySem PySem.Spec L2

def CaD (K : PySem.W.Frag) (r : List V → Hp → VK → Prop) (f : List D → Sto → Pd → Prop) : Prop :=
  ∀ xs vs S H (R : Pd) (Q : VK), Rel K S H → RepL K S H xs vs → f xs S R → (∀ z S' v' H', R z S' → Rel K S' H' → Keep K S H S' H' → Rep K S' H' z v' → Q v' H') → r vs H Q
def wFun (f : List D → Sto → Pd → Prop) (wa : WpA) : WpE := fun ς S R RE => wa ς S (fun xs S1 => f xs S1 R) RE
section
variable {X : Cx} {F : Fr} {pos p : Pos} {e : Expr} {es : List Expr} {wa : WpA} {x : Str} {id T : String} {r : List V → Hp → VK → Prop} {f : List D → Sto → Pd → Prop}
theorem fun_ok {K : PySem.W.Frag} (hd : CaD K r f) {σ : L2.St} {H : Hp} {Q : VK} (h : tE K F (wFun f wa) σ H Q) : tCB r (tA K F wa) σ H Q := by
  obtain ⟨ς, S, R, g, k, hw, hR⟩ := h
  exact tA.mk g k hw fun xs S1 vs H1 h1 g1 k1 d1 r1 => hd xs vs S1 H1 R Q g1.rel r1 h1 fun z S' v' H' q r k p => hR z S' v' H' q r (d1.trans k) p
theorem we_callB (hc : CallR X (.builtin id) r) (hd : CaD X.K r f) (hg : Gl X x) (hm : X.mg x = none) (hv : bootBuiltins x = some (.builtin id)) (ha : WA X F (e :: es) wa) (hs : noStars (e :: es) = true) (hn : x ≠ "__name__") (hdb : (x == ("__debug__" : Str)) = false) :
    WE X F (.Call (.Name x p) (e :: es) [] pos) (wFun f wa) := by
  have hn' : noStar e = true ∧ noStars es = true := by simpa [noStars] using hs
  exact (pe_callB hc hg hm hv ha hn hdb (starEach_cons hn'.1) (back_any hn'.2)).imp fun _ _ _ h => fun_ok hd h
theorem we_callTy (hc : CallR X (.type T) r) (hd : CaD X.K r f) (hg : Gl X x) (hm : X.mg x = none) (hv : bootBuiltins x = some (.type T)) (ha : WA X F (e :: es) wa) (hs : noStars (e :: es) = true) (hn : x ≠ "__name__") (hdb : (x == ("__debug__" : Str)) = false) :
    WE X F (.Call (.Name x p) (e :: es) [] pos) (wFun f wa) := by
  have hn' : noStar e = true ∧ noStars es = true := by simpa [noStars] using hs
  exact (pe_callTy hc hg hm hv ha hn hdb (starEach_cons hn'.1) (back_any hn'.2)).imp fun _ _ _ h => fun_ok hd h
end
/-! ### what the lists hold -/
def intL : List D → Option (List Int)
  | [] => some []
  | .int i :: r => (intL r).map (i :: ·)
  | _ => none
def blL : List D → Option (List Bool)
  | [] => some []
  | .bl i :: r => (blL r).map (i :: ·)
  | _ => none
def strL : List D → Option (List Str)
  | [] => some []
  | .str i :: r => (strL r).map (i :: ·)
  | _ => none
@[simp] theorem intL_map : ∀ ns : List Int, intL (ns.map D.int) = some ns
  | [] => rfl
  | n :: ns => by simp [intL, intL_map ns]
@[simp] theorem blL_map : ∀ ns : List Bool, blL (ns.map D.bl) = some ns
  | [] => rfl
  | n :: ns => by simp [blL, blL_map ns]
@[simp] theorem strL_map : ∀ ns : List Str, strL (ns.map D.str) = some ns
  | [] => rfl
  | n :: ns => by simp [strL, strL_map ns]
theorem intL_eq : ∀ {l : List D} {ns : List Int}, intL l = some ns → l = ns.map D.int
  | [], ns, h => by cases h; rfl
  | x :: r, ns, h => by
    cases x with
    | int i =>
      simp only [intL, Option.map_eq_some_iff] at h
      obtain ⟨ms, h1, rfl⟩ := h
      rw [intL_eq h1]; rfl
    | _ => simp [intL] at h
theorem blL_eq : ∀ {l : List D} {ns : List Bool}, blL l = some ns → l = ns.map D.bl
  | [], ns, h => by cases h; rfl
  | x :: r, ns, h => by
    cases x with
    | bl i =>
      simp only [blL, Option.map_eq_some_iff] at h
      obtain ⟨ms, h1, rfl⟩ := h
      rw [blL_eq h1]; rfl
    | _ => simp [blL] at h
theorem strL_eq : ∀ {l : List D} {ns : List Str}, strL l = some ns → l = ns.map D.str
  | [], ns, h => by cases h; rfl
  | x :: r, ns, h => by
    cases x with
    | str i =>
      simp only [strL, Option.map_eq_some_iff] at h
      obtain ⟨ms, h1, rfl⟩ := h
      rw [strL_eq h1]; rfl
    | _ => simp [strL] at h
theorem RepL.ints {K : PySem.W.Frag} {S : Sto} {H : Hp} : ∀ {ns : List Int} {vs : List V}, RepL K S H (ns.map D.int) vs → vs = ns.map V.int
  | [], _, .nil => rfl
  | n :: ns, _, .cons r t => by cases r; rw [RepL.ints t]; rfl
theorem RepL.bls {K : PySem.W.Frag} {S : Sto} {H : Hp} : ∀ {ns : List Bool} {vs : List V}, RepL K S H (ns.map D.bl) vs → vs = ns.map V.bl
  | [], _, .nil => rfl
  | n :: ns, _, .cons r t => by cases r; rw [RepL.bls t]; rfl
theorem RepL.strs {K : PySem.W.Frag} {S : Sto} {H : Hp} : ∀ {ns : List Str} {vs : List V}, RepL K S H (ns.map D.str) vs → vs = ns.map V.str
  | [], _, .nil => rfl
  | n :: ns, _, .cons r t => by cases r; rw [RepL.strs t]; rfl
/-- the items of a list or a tuple -/
def seqOf (S : Sto) (x : D) : Option (List D) := match contOf S x with
  | .l l => some l
  | .t l => some l
  | _ => none
theorem seqOf_rep {K : PySem.W.Frag} {S : Sto} {H : Hp} {x : D} {v : V} {l : List D} (r : Rep K S H x v) (q : Rel K S H) (e : seqOf S x = some l) :
    ∃ a vs, v = .ref a ∧ (SqL K H a vs ∨ SqT K H a vs) ∧ RepL K S H l vs ∧ l.length ≤ sizeLine := by
  unfold seqOf at e
  split at e
  · rename_i l' h
    cases e
    obtain ⟨a, vs, rfl, h1, h2, h3⟩ := lstSq_rep r q h
    exact ⟨a, vs, rfl, .inl h1, h2, h3⟩
  · rename_i l' h
    cases e
    cases contT_inv h
    obtain ⟨a, vs, rfl, h1, h2, h3⟩ := r.tup_inv
    exact ⟨a, vs, rfl, .inr h1, h3, h2⟩
  · cases e
theorem RepL.one {K : PySem.W.Frag} {S : Sto} {H : Hp} {x : D} {vs : List V} (r : RepL K S H [x] vs) : ∃ v, vs = [v] ∧ Rep K S H x v := by
  cases r with
  | cons r t => cases t; exact ⟨_, rfl, r⟩
theorem RepL.two {K : PySem.W.Frag} {S : Sto} {H : Hp} {x y : D} {vs : List V} (r : RepL K S H [x, y] vs) : ∃ v u, vs = [v, u] ∧ Rep K S H x v ∧ Rep K S H y u := by
  cases r with
  | cons r t => obtain ⟨u, rfl, q⟩ := t.one; exact ⟨_, _, rfl, r, q⟩
/-! ### len -/
def fLen : List D → Sto → Pd → Prop
  | [x], S, R => (match contOf S x with
    | .d l => R (.int l.length) S
    | .s z => z.length ≤ sizeLine ∧ R (.int z.length) S
    | .l l => R (.int l.length) S
    | .t l => R (.int l.length) S
    | .no => False)
  | _, _, _ => False
def rLenD : List V → Hp → VK → Prop := fun xs H Q => ∃ a kvs, xs = [V.ref a] ∧ Rd H a (.dK kvs) ∧ Q (.int (kvs.length : Nat)) H
theorem call_lenRd {X : Cx} : CallR X (.builtin "len") rLenD := by
  intro pins s σ H xs us Q I r h
  obtain ⟨a, kvs, rfl, ha, q⟩ := h
  cases r with
  | cons r rr =>
    cases rr
    cases r
    exact d_len I ha fun t s' I' => ⟨.int kvs.length, H, I', ⟨t, rfl⟩, q⟩
theorem cd_len {K : PySem.W.Frag} : CaD K (fun xs H Q => rLenD xs H Q ∨ (∃ x n, xs = [x] ∧ LenV K x H n ∧ Q (.int n) H)) fLen := by
  intro xs vs S H R Q q r h hR
  unfold fLen at h
  split at h
  · rename_i x
    obtain ⟨v, rfl, rx⟩ := r.one
    split at h
    · rename_i l e
      obtain ⟨a, kvs, rfl, h1, r1⟩ := dictOf_rep rx q e
      exact .inl ⟨a, kvs, rfl, h1, by rw [← r1.length]; exact hR _ S _ H h q .refl (.int _)⟩
    · rename_i z e
      cases contS_inv e
      cases rx
      exact .inr ⟨_, z.length, rfl, ⟨h.1, rfl⟩, hR _ S _ H h.2 q .refl (.int _)⟩
    · rename_i l e
      obtain ⟨a, us, rfl, h1, r1, _⟩ := lstSq_rep rx q e
      exact .inr ⟨_, us.length, rfl, .inl ⟨us, h1, rfl⟩, by rw [← r1.length]; exact hR _ S _ H h q .refl (.int _)⟩
    · rename_i l e
      cases contT_inv e
      obtain ⟨a, us, rfl, h1, _, r1⟩ := rx.tup_inv
      exact .inr ⟨_, us.length, rfl, .inr ⟨us, h1, rfl⟩, by rw [← r1.length]; exact hR _ S _ H h q .refl (.int _)⟩
    · exact h.elim
  · exact h.elim
/-! ### list(x), tuple(x), dict(x) -/
def keyD : Key → D
  | .inl i => .int i
  | .inr x => .str x
theorem keyD_rep {K : PySem.W.Frag} {S : Sto} {H : Hp} (k : Key) : Rep K S H (keyD k) (kV k) := by
  cases k with
  | inl i => exact .int i
  | inr x => exact .str x
theorem RepK.keys {K : PySem.W.Frag} {S : Sto} {H : Hp} : ∀ {l : List (Key × D)} {vs : List (Key × V)}, RepK K S H l vs → RepL K S H (l.map fun p => keyD p.1) (vs.map fun kv => kV kv.1)
  | _, _, .nil => .nil
  | _, _, .cons r t => .cons (keyD_rep _) (RepK.keys t)
def fList (own : Bool) : List D → Sto → Pd → Prop
  | [x], S, R => (match contOf S x with
    | .d l => mkL own (l.map fun p => keyD p.1) S R
    | .l l => mkL own l S R
    | .t l => mkL own l S R
    | _ => False)
  | _, _, _ => False
theorem cd_list {K : PySem.W.Frag} {own : Bool} : CaD K (fun xs H Q => (∃ (a : Addr) (kvs : List (Key × V)), xs = [.ref a] ∧ Rd H a (.dK kvs) ∧ ∀ p, H p = none → Q (.ref p) (upd H p (.lst (kvs.map fun kv => kV kv.1)))) ∨
    (∃ p ys, xs = [.ref p] ∧ (SqL K H p ys ∨ SqT K H p ys) ∧ ∀ l, H l = none → Q (.ref l) (upd H l (.lst ys)))) (fList own) := by
  intro xs vs S H R Q q r h hR
  unfold fList at h
  split at h
  · rename_i x
    obtain ⟨v, rfl, rx⟩ := r.one
    split at h
    · rename_i l e
      obtain ⟨a, kvs, rfl, h1, r1⟩ := dictOf_rep rx q e
      exact .inl ⟨a, kvs, rfl, h1, (mkL_ok q h r1.keys hR).2⟩
    · rename_i l e
      obtain ⟨a, us, rfl, h1, r1, _⟩ := lstSq_rep rx q e
      exact .inr ⟨a, us, rfl, .inl h1, (mkL_ok q h r1 hR).2⟩
    · rename_i l e
      cases contT_inv e
      obtain ⟨a, us, rfl, h1, _, r1⟩ := rx.tup_inv
      exact .inr ⟨a, us, rfl, .inr h1, (mkL_ok q h r1 hR).2⟩
    · exact h.elim
  · exact h.elim
def fTuple : List D → Sto → Pd → Prop
  | [x], S, R => ∃ l, seqOf S x = some l ∧ R (.tup l) S
  | _, _, _ => False
theorem cd_tuple {K : PySem.W.Frag} : CaD K (fun xs H Q => ∃ p ys, xs = [.ref p] ∧ ((SqL K H p ys ∧ ∀ l, H l = none → Q (.ref l) (upd H l (.tup ys))) ∨ (SqT K H p ys ∧ Q (.ref p) H))) fTuple := by
  intro xs vs S H R Q q r h hR
  unfold fTuple at h
  split at h
  · rename_i x
    obtain ⟨v, rfl, rx⟩ := r.one
    obtain ⟨l, e, h⟩ := h
    obtain ⟨a, us, rfl, h1, r1, z⟩ := seqOf_rep rx q e
    rcases h1 with h1 | h1
    · exact ⟨a, us, rfl, .inl ⟨h1, (mkT_ok q z h r1 hR).2⟩⟩
    · exact ⟨a, us, rfl, .inr ⟨h1, hR _ S _ H h q .refl (.tup h1 z r1)⟩⟩
  · exact h.elim
/-- a pair's list as a dict's pairs -/
def pairL : List D → Option (List (Key × D))
  | [] => some []
  | .tup [k, x] :: r => (match keyOf k with
    | some k => (pairL r).map ((k, x) :: ·)
    | none => none)
  | _ => none
def fDict (own : Bool) : List D → Sto → Pd → Prop
  | [x], S, R => (match contOf S x with
    | .d l => mkD own l S R
    | .l l => ∃ ps, pairL l = some ps ∧ mkD own (mergeD [] ps) S R
    | _ => False)
  | _, _, _ => False
theorem pairL_rep {K : PySem.W.Frag} {S : Sto} {H : Hp} : ∀ {l : List D} {vs : List V} {ps : List (Key × D)}, RepL K S H l vs → pairL l = some ps →
    ∃ (as : List Addr) (kvs : List (Key × V)), vs = as.map V.ref ∧ Paired (fun p kv => SqT K H p [kV kv.1, kv.2]) as kvs ∧ RepK K S H ps kvs
  | [], _, ps, .nil, h => by cases h; exact ⟨[], [], rfl, .nil, .nil⟩
  | x :: l, _, ps, .cons r t, h => by
    unfold pairL at h
    split at h
    · rename_i h2
      cases h2
    · rename_i k d l' e
      injection e with e1 e2
      subst e1 e2
      split at h
      · rename_i k' ek
        rw [Option.map_eq_some_iff] at h
        obtain ⟨ps', h1, rfl⟩ := h
        obtain ⟨as, kvs, rfl, p, q⟩ := pairL_rep t h1
        obtain ⟨a, us, rfl, h3, _, rr⟩ := r.tup_inv
        obtain ⟨v1, v2, rfl, r1, r2⟩ := rr.two
        have := keyOf_rep r1 ek
        subst this
        exact ⟨a :: as, (k', v2) :: kvs, rfl, .cons h3 p, .cons r2 q⟩
      · cases h
    · cases h
theorem cd_dict {K : PySem.W.Frag} {own : Bool} : CaD K (fun xs H Q => (∃ (a : Addr) (kvs : List (Key × V)), xs = [.ref a] ∧ Rd H a (.dK kvs) ∧ ∀ p, H p = none → Q (.ref p) (upd H p (.dK kvs))) ∨
    (∃ (a : Addr) (ps : List Addr) (kvs : List (Key × V)), xs = [.ref a] ∧ SqL K H a (ps.map V.ref) ∧ Paired (fun p kv => SqT K H p [kV kv.1, kv.2]) ps kvs ∧ ∀ p, H p = none → Q (.ref p) (upd H p (.dK (mergeK [] kvs))))) (fDict own) := by
  intro xs vs S H R Q q r h hR
  unfold fDict at h
  split at h
  · rename_i x
    obtain ⟨v, rfl, rx⟩ := r.one
    split at h
    · rename_i l e
      obtain ⟨a, kvs, rfl, h1, r1⟩ := dictOf_rep rx q e
      exact .inl ⟨a, kvs, rfl, h1, mkD_ok q h r1 hR⟩
    · rename_i l e
      obtain ⟨ps, hp, h⟩ := h
      obtain ⟨a, us, rfl, h1, r1, _⟩ := lstSq_rep rx q e
      obtain ⟨as, kvs, rfl, p, r2⟩ := pairL_rep r1 hp
      exact .inr ⟨a, as, kvs, rfl, h1, p, mkD_ok q h (r2.merge .nil) hR⟩
    · exact h.elim
  · exact h.elim
/-! ### sum, all, any, sorted, min, max -/
section
variable {X : Cx} {prog : Program} {w : World} {A : Around} {E : Value → Shared → Prop} {s : Shared} {l : Addr} {its : List Value} {ns : List Int} {Q : Value → Shared → Prop}
open PyProof.Rows (IntsAre) in
theorem sum_rawT (hh : A.handled = none) (hl : s.heap.IsTuple l its.toArray) (hi : IntsAre its ns)
    (h : ∀ h' tk t', (∀ b o, s.heap.get? b = some o → h'.get? b = some o) → Q (.int ns.sum t') { s with heap := h', toks := tk }) : wpAny (model prog w) A (call (.builtin "sum") [.ref l]) Q E s := by
  obtain ⟨xs, e⟩ := hi.allInts.items
  have hn : numsOf (intItems xs).toList = ns := by rw [← e]; exact hi.numsOf
  rw [nums_intItems] at hn
  rw [e] at hl
  have hlt : l < s.heap.objs.size := by obtain ⟨_, e, _⟩ := hl; exact Heap.lt_size e
  refine call_sum_walkG (wpAny_pyIter_tuple hl ?_)
  refine ⟨s.heap.objs.size, _, _, _, _, _, numAt xs, rfl, Walks.tuple (A := A.in1) hh _ l (Nat.ne_of_lt hlt) (intItems xs), ⟨⟨_, Heap.get?_push_size _ rfl, rfl, rfl⟩, hl.push _⟩, fun b hb => ?_, (fun _ _ => intItems_at), fun h' tk t' hk => ?_⟩
  · show b < (s.heap.push _).objs.size
    rw [Heap.size_push]
    rcases List.mem_cons.mp hb with rfl | hb
    · exact Nat.lt_succ_self _
    · rcases List.mem_cons.mp hb with rfl | hb
      · exact Nat.lt_succ_of_lt hlt
      · cases hb
  · have := h h' tk t' fun b o e => hk b o (fun hm => by
      rcases List.mem_cons.mp hm with e1 | hm
      · exact absurd (e1 ▸ Heap.lt_size e) (Nat.lt_irrefl _)
      · cases hm) (Heap.get?_push_of_some _ e)
    have e2 : (intItems xs).size = xs.size := by simp [intItems]
    rw [e2, preSum_eq, List.take_of_length_le (by simp), hn]
    exact this
open PyProof.Rows (IntsAre) in
theorem min_rawT (hh : A.handled = none) (hl : s.heap.IsTuple l its.toArray) (hi : IntsAre its ns) (hne : 0 < ns.length)
    (h : ∀ h' tk M t', (∀ b o, s.heap.get? b = some o → h'.get? b = some o) → M ∈ ns → (∀ a, a ∈ ns → M ≤ a) → Q (.int M t') { s with heap := h', toks := tk }) : wpAny (model prog w) A (call (.builtin "min") [.ref l]) Q E s := by
  obtain ⟨xs, e⟩ := hi.allInts.items
  have hn : numsOf (intItems xs).toList = ns := by rw [← e]; exact hi.numsOf
  rw [nums_intItems] at hn
  subst hn
  rw [e] at hl
  have hsz : 0 < xs.size := by simpa using hne
  have hlt : l < s.heap.objs.size := by obtain ⟨_, e, _⟩ := hl; exact Heap.lt_size e
  refine call_min_walk (wpAny_pyIter_tuple hl ?_)
  refine ⟨s.heap.objs.size, _, _, _, _, _, _, rfl, Walks.tuple (A := A.in1) hh _ l (Nat.ne_of_lt hlt) (intItems xs), ⟨⟨_, Heap.get?_push_size _ rfl, rfl, rfl⟩, hl.push _⟩, fun b hb => ?_, by simpa [intItems] using hsz, CmpOf.ints_lt (numAt xs) (fun _ _ => intItems_at), fun v h' tk hP hk => ?_⟩
  · show b < (s.heap.push _).objs.size
    rw [Heap.size_push]
    rcases List.mem_cons.mp hb with rfl | hb
    · exact Nat.lt_succ_self _
    · rcases List.mem_cons.mp hb with rfl | hb
      · exact Nat.lt_succ_of_lt hlt
      · cases hb
  · have hv : (intItems xs)[argBest (fun i j => decide (numAt xs i < numAt xs j)) (xs.size - 1)]? = some v := by simpa [intItems] using hP
    obtain ⟨t, rfl⟩ := intItems_at hv
    obtain ⟨h1, h2⟩ := argBest_lt (numAt xs) (xs.size - 1)
    refine h h' tk _ t (fun b o e => hk b o (fun hm => by
      rcases List.mem_cons.mp hm with e1 | hm
      · exact absurd (e1 ▸ Heap.lt_size e) (Nat.lt_irrefl _)
      · cases hm) (Heap.get?_push_of_some _ e)) ?_ fun a ha => ?_
    · rw [numAt_eq]; exact PySem.getD_mem (by rw [List.length_map, Array.length_toList]; omega)
    · obtain ⟨j, hj, rfl⟩ := mem_getD ha
      rw [List.length_map, Array.length_toList] at hj
      rw [← numAt_eq]; exact h2 j (by omega)
end
section
variable {K : PySem.W.Frag}
def fSum : List D → Sto → Pd → Prop
  | [x], S, R => ∃ l ns, seqOf S x = some l ∧ intL l = some ns ∧ R (.int ns.sum) S
  | _, _, _ => False
def rSumT (K : PySem.W.Frag) : List V → Hp → VK → Prop := fun vs H Q => ∃ (a : Addr) (ns : List Int), vs = [V.ref a] ∧ (SqL K H a (ns.map V.int) ∨ SqT K H a (ns.map V.int)) ∧ Q (.int ns.sum) H
theorem cr_sumT {X : Cx} (hc : X.calm = true) : CallR X (.builtin "sum") (rSumT X.K) := by
  intro pins s σ H vs us Q I r h
  obtain ⟨a, ns, rfl, hs, q⟩ := h
  cases r with
  | cons r rr =>
    cases rr
    cases r
    rcases hs with hs | hs
    · obtain ⟨its, rv, hl, _⟩ := I.list hs
      exact sum_raw (I.ok.hd hc) hl.isList rv.ints fun h' tk t' hk => ⟨.int _, H, I.kept hk, ⟨_, rfl⟩, q⟩
    · obtain ⟨its, rv, hl, _⟩ := I.tuple hs
      exact sum_rawT (I.ok.hd hc) hl rv.ints fun h' tk t' hk => ⟨.int _, H, I.kept hk, ⟨_, rfl⟩, q⟩
theorem cd_sum : CaD K (rSumT K) fSum := by
  intro xs vs S H R Q q r h hR
  unfold fSum at h
  split at h
  · rename_i x
    obtain ⟨v, rfl, rx⟩ := r.one
    obtain ⟨l, ns, e, ei, h⟩ := h
    obtain ⟨a, us, rfl, h1, r1, _⟩ := seqOf_rep rx q e
    have := intL_eq ei
    subst this
    have := r1.ints
    subst this
    exact ⟨a, ns, rfl, h1, hR _ S _ H h q .refl (.int _)⟩
  · exact h.elim
def fAll : List D → Sto → Pd → Prop
  | [x], S, R => ∃ l bs, contOf S x = .l l ∧ blL l = some bs ∧ R (.bl (bs.all id)) S
  | _, _, _ => False
def fAny : List D → Sto → Pd → Prop
  | [x], S, R => ∃ l bs, contOf S x = .l l ∧ blL l = some bs ∧ R (.bl (bs.any id)) S
  | _, _, _ => False
theorem cd_all : CaD K (rAll K) fAll := by
  intro xs vs S H R Q q r h hR
  unfold fAll at h
  split at h
  · obtain ⟨v, rfl, rx⟩ := r.one
    obtain ⟨l, ns, e, ei, h⟩ := h
    obtain ⟨a, us, rfl, h1, r1, _⟩ := lstSq_rep rx q e
    have := blL_eq ei
    subst this
    have := r1.bls
    subst this
    exact ⟨a, ns, rfl, h1, hR _ S _ H h q .refl (.bl _)⟩
  · exact h.elim
theorem cd_any : CaD K (rAny K) fAny := by
  intro xs vs S H R Q q r h hR
  unfold fAny at h
  split at h
  · obtain ⟨v, rfl, rx⟩ := r.one
    obtain ⟨l, ns, e, ei, h⟩ := h
    obtain ⟨a, us, rfl, h1, r1, _⟩ := lstSq_rep rx q e
    have := blL_eq ei
    subst this
    have := r1.bls
    subst this
    exact ⟨a, ns, rfl, h1, hR _ S _ H h q .refl (.bl _)⟩
  · exact h.elim
/-- sorted of a list of ints, of a dict of ints -/
def fSorted (own : Bool) : List D → Sto → Pd → Prop
  | [x], S, R => (match contOf S x with
    | .l l => ∃ ns, intL l = some ns ∧ ∀ ns' : List Int, ns'.Perm ns → ns'.Pairwise (· ≤ ·) → mkL own (ns'.map D.int) S R
    | .d l => ∃ ns, intL (l.map fun p => keyD p.1) = some ns ∧ ns.length < 64 ∧ ∀ ns' : List Int, ns'.Perm ns → ns'.Pairwise (· ≤ ·) → mkL own (ns'.map D.int) S R
    | _ => False)
  | _, _, _ => False
theorem repL_ints {S : Sto} {H : Hp} : ∀ ns : List Int, RepL K S H (ns.map D.int) (ns.map V.int)
  | [] => .nil
  | n :: ns => .cons (.int n) (repL_ints ns)
theorem repL_strs {S : Sto} {H : Hp} : ∀ ns : List Str, RepL K S H (ns.map D.str) (ns.map V.str)
  | [] => .nil
  | n :: ns => .cons (.str n) (repL_strs ns)
theorem keys_ints : ∀ {l : List (Key × D)} {ns : List Int}, intL (l.map fun p => keyD p.1) = some ns → l.map (·.1) = ns.map Sum.inl
  | [], ns, h => by cases h; rfl
  | (k, x) :: r, ns, h => by
    cases k with
    | inr z => simp [keyD, intL] at h
    | inl i =>
      simp only [List.map_cons, keyD, intL, Option.map_eq_some_iff] at h
      obtain ⟨ms, h1, rfl⟩ := h
      rw [List.map_cons, List.map_cons, keys_ints h1]
theorem RepK.fst {S : Sto} {H : Hp} : ∀ {l : List (Key × D)} {vs : List (Key × V)}, RepK K S H l vs → l.map (·.1) = vs.map (·.1)
  | _, _, .nil => rfl
  | _, _, .cons r t => by rw [List.map_cons, List.map_cons, RepK.fst t]
theorem cd_sorted {own : Bool} : CaD K (fun xs H Q => rSortedI K xs H Q ∨ (∃ (a : Addr) (kvs : List (Key × V)) (ks : List Int), xs = [.ref a] ∧ Rd H a (.dK kvs) ∧ kvs.map (·.1) = ks.map Sum.inl ∧ ks.length < 64 ∧
    ∀ (ys : List Int) (p : Addr), ys.Perm ks → ys.Pairwise (· ≤ ·) → H p = none → Q (.ref p) (upd H p (.lst (ys.map V.int))))) (fSorted own) := by
  intro xs vs S H R Q q r h hR
  unfold fSorted at h
  split at h
  · rename_i x
    obtain ⟨v, rfl, rx⟩ := r.one
    split at h
    · rename_i l e
      obtain ⟨ns, ei, h⟩ := h
      obtain ⟨a, us, rfl, h1, r1, _⟩ := lstSq_rep rx q e
      have := intL_eq ei
      subst this
      have := r1.ints
      subst this
      exact .inl ⟨a, ns, rfl, h1, fun ns' p hp hw hn => (mkL_ok q (h ns' hp hw) (repL_ints ns') hR).2 p hn⟩
    · rename_i l e
      obtain ⟨ns, ei, hl, h⟩ := h
      obtain ⟨a, kvs, rfl, h1, r1⟩ := dictOf_rep rx q e
      exact .inr ⟨a, kvs, ns, rfl, h1, by rw [← r1.fst]; exact keys_ints ei, hl, fun ns' p hp hw hn => (mkL_ok q (h ns' hp hw) (repL_ints ns') hR).2 p hn⟩
    · exact h.elim
  · exact h.elim
def fMin : List D → Sto → Pd → Prop
  | [.int i, .int j], S, R => R (.int (if j < i then j else i)) S
  | [x], S, R => ∃ l ns, seqOf S x = some l ∧ intL l = some ns ∧ 0 < ns.length ∧ ∀ m, m ∈ ns → (∀ y, y ∈ ns → m ≤ y) → R (.int m) S
  | _, _, _ => False
def rMinT (K : PySem.W.Frag) : List V → Hp → VK → Prop := fun vs H Q => ∃ (a : Addr) (ns : List Int), vs = [V.ref a] ∧ (SqL K H a (ns.map V.int) ∨ SqT K H a (ns.map V.int)) ∧ 0 < ns.length ∧ ∀ m, m ∈ ns → (∀ y, y ∈ ns → m ≤ y) → Q (.int m) H
theorem cr_minT {X : Cx} (hc : X.calm = true) : CallR X (.builtin "min") (rMinT X.K) := by
  intro pins s σ H vs us Q I r h
  obtain ⟨a, ns, rfl, hs | hs, hne, q⟩ := h
  · obtain ⟨its, rv, hl, _⟩ := I.list hs
    rw [Vals.ref1 r]
    exact min_raw (I.ok.hd hc) hl.isList rv.ints hne fun h' tk m t' hk h1 h2 => ⟨.int _, H, I.kept hk, ⟨_, rfl⟩, q m h1 h2⟩
  · obtain ⟨its, rv, hl, _⟩ := I.tuple hs
    rw [Vals.ref1 r]
    exact min_rawT (I.ok.hd hc) hl rv.ints hne fun h' tk m t' hk h1 h2 => ⟨.int _, H, I.kept hk, ⟨_, rfl⟩, q m h1 h2⟩
def fMax : List D → Sto → Pd → Prop
  | [.int i, .int j], S, R => R (.int (if j > i then j else i)) S
  | [x], S, R => ∃ l ns, contOf S x = .l l ∧ intL l = some ns ∧ 0 < ns.length ∧ ∀ m, m ∈ ns → (∀ y, y ∈ ns → y ≤ m) → R (.int m) S
  | _, _, _ => False
theorem cd_min : CaD K (fun xs H Q => (∃ i j, xs = [.int i, .int j] ∧ Q (.int (if j < i then j else i)) H) ∨ rMinT K xs H Q) fMin := by
  intro xs vs S H R Q q r h hR
  unfold fMin at h
  split at h
  · rename_i i j
    obtain ⟨v, u, rfl, r1, r2⟩ := r.two
    cases r1; cases r2
    exact .inl ⟨i, j, rfl, hR _ S _ H h q .refl (.int _)⟩
  · obtain ⟨v, rfl, rx⟩ := r.one
    obtain ⟨l, ns, e, ei, hl, h⟩ := h
    obtain ⟨a, us, rfl, h1, r1, _⟩ := seqOf_rep rx q e
    have := intL_eq ei
    subst this
    have := r1.ints
    subst this
    exact .inr ⟨a, ns, rfl, h1, hl, fun m hm hy => hR _ S _ H (h m hm hy) q .refl (.int _)⟩
  · exact h.elim
theorem cd_max : CaD K (fun xs H Q => (∃ i j, xs = [.int i, .int j] ∧ Q (.int (if j > i then j else i)) H) ∨ rMax K xs H Q) fMax := by
  intro xs vs S H R Q q r h hR
  unfold fMax at h
  split at h
  · rename_i i j
    obtain ⟨v, u, rfl, r1, r2⟩ := r.two
    cases r1; cases r2
    exact .inl ⟨i, j, rfl, hR _ S _ H h q .refl (.int _)⟩
  · obtain ⟨v, rfl, rx⟩ := r.one
    obtain ⟨l, ns, e, ei, hl, h⟩ := h
    obtain ⟨a, us, rfl, h1, r1, _⟩ := lstSq_rep rx q e
    have := intL_eq ei
    subst this
    have := r1.ints
    subst this
    exact .inr ⟨a, ns, rfl, h1, hl, fun m hm hy => hR _ S _ H (h m hm hy) q .refl (.int _)⟩
  · exact h.elim
def b2iD (b : Bool) : Int := if b then 1 else 0
def fInt : List D → Sto → Pd → Prop
  | [.int i], S, R => R (.int i) S
  | [.bl b], S, R => R (.int (b2iD b)) S
  | [.str a], S, R => ∃ n, PySem.intText? a = some n ∧ a.length ≤ 640 ∧ R (.int n) S
  | _, _, _ => False
theorem cd_int : CaD K (fun xs H Q => ((∃ i, xs = [.int i] ∧ Q (.int i) H) ∨ ∃ k, xs = [.bl k] ∧ Q (.int (if k then 1 else 0)) H) ∨ (∃ a n, xs = [.str a] ∧ PySem.intText? a = some n ∧ a.length ≤ 640 ∧ Q (.int n) H)) fInt := by
  intro xs vs S H R Q q r h hR
  unfold fInt at h
  split at h
  · obtain ⟨v, rfl, rx⟩ := r.one; cases rx
    exact .inl (.inl ⟨_, rfl, hR _ S _ H h q .refl (.int _)⟩)
  · obtain ⟨v, rfl, rx⟩ := r.one; cases rx
    exact .inl (.inr ⟨_, rfl, hR _ S _ H h q .refl (.int _)⟩)
  · obtain ⟨v, rfl, rx⟩ := r.one; cases rx
    obtain ⟨n, h1, h2, h⟩ := h
    exact .inr ⟨_, n, rfl, h1, h2, hR _ S _ H h q .refl (.int _)⟩
  · exact h.elim
def fStr : List D → Sto → Pd → Prop
  | [.int i], S, R => i.natAbs.log2 < 1920 ∧ R (.str (toString i)) S
  | [.str a], S, R => R (.str a) S
  | _, _, _ => False
theorem cd_str : CaD K (fun xs H Q => (∃ i, xs = [.int i] ∧ i.natAbs.log2 < 1920 ∧ Q (.str (toString i)) H) ∨ (∃ a, xs = [.str a] ∧ Q (.str a) H)) fStr := by
  intro xs vs S H R Q q r h hR
  unfold fStr at h
  split at h
  · obtain ⟨v, rfl, rx⟩ := r.one; cases rx
    exact .inl ⟨_, rfl, h.1, hR _ S _ H h.2 q .refl (.str _)⟩
  · obtain ⟨v, rfl, rx⟩ := r.one; cases rx
    exact .inr ⟨_, rfl, hR _ S _ H h q .refl (.str _)⟩
  · exact h.elim
/-! ### isinstance(x, T), T a built-in type -/
def tyD (S : Sto) : D → Option String
  | .non => some "NoneType"
  | .bl _ => some "bool"
  | .int _ => some "int"
  | .str _ => some "str"
  | .tup _ => some "tuple"
  | .lst _ => some "list"
  | .dct _ => some "dict"
  | .ref a => (match S a with
    | some (.lst _) => some "list"
    | some (.dct _) => some "dict"
    | _ => none)
  | _ => none
/-- whether a built-in type is under another one -/
def tySub (a b : String) : Bool := a == b || (a == "bool" && b == "int")
def tyAs : List String := ["NoneType", "bool", "int", "str", "tuple", "list", "dict"]
def tyBs : List String := ["int", "bool", "tuple", "str", "list", "dict"]
theorem kit_all : (tyAs.all fun a => tyBs.all fun b => decide (kitB a b = some (tySub a b))) = true := by decide +kernel
def fIsTy (T : String) : List D → Sto → Pd → Prop
  | [x], S, R => ∃ t, tyD S x = some t ∧ R (.bl (tySub t T)) S
  | _, _, _ => False
theorem tyD_mem {S : Sto} {x : D} {t : String} (h : tyD S x = some t) : t ∈ tyAs := by
  unfold tyD at h
  repeat' split at h
  all_goals first | (cases h; decide) | cases h
theorem kit_tyD {K : PySem.W.Frag} {S : Sto} {x : D} {t T : String} (h : tyD S x = some t) (hT : T ∈ tyBs) : PySem.W.kitOne K (.type t) (.type T) = some (tySub t T) := by
  have q := kit_all
  rw [List.all_eq_true] at q
  have q2 := q t (tyD_mem h)
  rw [List.all_eq_true] at q2
  exact kit_ty (of_decide_eq_true (q2 T hT))
theorem tyD_rep {S : Sto} {H : Hp} {x : D} {v : V} {t : String} (r : Rep K S H x v) (q : Rel K S H) (e : tyD S x = some t) : TyX K H v (.type t) := by
  cases r with
  | non => cases e; exact .base .non
  | bl b => cases e; exact .base (.bl b)
  | int b => cases e; exact .base (.int b)
  | str b => cases e; exact .base (.str b)
  | tup h n r =>
    cases e
    rcases h with (h | ⟨o, h⟩) | ⟨o, its, n, h1, h2, _⟩
    · exact .base (.tup h)
    · exact .fTuple h
    · exact .kTuple h1 h2
  | lst h n z r => cases e; exact .base (.lst h)
  | dct h n z r =>
    cases e
    rcases h with h | ⟨o, h⟩
    · exact .base (.dK h)
    · exact .fDict h
  | ref a =>
    unfold tyD at e
    dsimp only at e
    cases h : S a with
    | none => rw [h] at e; cases e
    | some o =>
      rw [h] at e
      cases o with
      | lst l => cases e; obtain ⟨z, vs, h1, h2⟩ := q a _ h; exact .base (.lst h1)
      | dct l => cases e; obtain ⟨z, vs, h1, h2⟩ := q a _ h; exact .base (.dK h1)
      | _ => cases e
  | _ => cases e
end
section
variable {X : Cx} {F : Fr} {pos p p2 : Pos} {e : Expr} {es : List Expr} {we : WpE} {wa : WpA} {x : Str} {T : String}
def wIsTy (T : String) (we : WpE) : WpE := fun ς S R RE => we ς S (fun x S1 => ∃ t, tyD S1 x = some t ∧ R (.bl (tySub t T)) S1) RE
theorem we_isTy (hT : T ∈ tyBs) (he : WE X F e we) (hn : noStar e = true) (hg : Gl X "isinstance") (hm : X.mg "isinstance" = none) (hg2 : Gl X x) (hm2 : X.mg x = none) (hv : bootBuiltins x = some (.type T)) (hx : x ≠ "__name__") (hdb : (x == ("__debug__" : Str)) = false) :
    WE X F (.Call (.Name "isinstance" p) [e, .Name x p2] [] pos) (wIsTy T we) := by
  have hb : bootBuiltins "isinstance" = some (.builtin "isinstance") := by decide +kernel
  have pt : PE X (.Name x p2) (tC (.ty T)) := pe_bltn hg2 hm2 hv rfl hx hdb
  refine (pe_callB call_isi hg hm hb (pa_cons he (pa_cons pt pa_nil rfl) (starEach_cons hn)) (by decide) (by decide) (starEach_cons hn) rfl).imp fun σ H Q ⟨ς, S, R, g, k, hw, hR⟩ => ?_
  refine tE.mk g k hw fun x S1 v H1 h1 g1 k1 d1 r1 => ?_
  obtain ⟨t, e, h1⟩ := h1
  exact ⟨v, .ty T, .type t, .type T, tySub t T, rfl, .ty T, tyD_rep r1 g1.rel e, kit_tyD e hT, hR _ S1 _ H1 h1 g1.rel d1 (.bl _)⟩
end
end SB
end

section
set_option Elab.async false
set_option linter.all false
set_option maxRecDepth 100000
set_option autoImplicit false
/-! SB7: methods of built-in types. -/
namespace SB
open PySem PySem.Spec L2

/-- what a built-in type's method asks of its receiver -/
def tyM (T : String) (S : Sto) (x : D) : Bool := match contOf S x with
  | .d _ => T == "dict"
  | .s _ => T == "str"
  | .l _ => T == "list"
  | _ => false
def tyW (K : PySem.W.Frag) (T : String) (x : V) (H : Hp) : Prop := match x with
  | .str _ => T = "str"
  | .ref p => (T = "list" ∧ ∃ xs, SqL K H p xs) ∨ (T = "dict" ∧ ∃ kvs, Rd H p (.dK kvs))
  | _ => False
theorem tyW_is {X : Cx} {pins : List (Addr × Obj)} {σ : L2.St} {H : Hp} {s : Shared} {T : String} {x : V} {v : Value} (I : Inv X pins σ H s) (r : RelV x v) (ty : tyW X.K T x H) :
    s.TypeIs v T ∧ ∀ a, v = .ref a → ∃ ob, s.heap.get? a = some ob ∧ ob.dict = none := by
  cases x with
  | str z =>
    obtain ⟨t, rfl⟩ := r
    obtain rfl : T = "str" := ty
    exact ⟨typeIs_str s z t, fun _ e => nomatch e⟩
  | ref p =>
    cases r
    rcases ty with ⟨rfl, xs, hq⟩ | ⟨rfl, kvs, hk⟩
    · obtain ⟨its, _, pl, _⟩ := I.list hq
      refine ⟨pl.isList.typeIs, fun a e => ?_⟩
      cases e
      obtain ⟨o, n, e, c, hd, _⟩ := pl
      exact ⟨o, e, hd⟩
    · obtain ⟨_, _, _, _, o, _, _, e, ex, _⟩ := dk_rd I.hok hk
      refine ⟨⟨o, e, ex.1⟩, fun a e2 => ?_⟩
      cases e2
      exact ⟨o, e, ex.2.1⟩
  | _ => exact False.elim ty
theorem tyM_rep {K : PySem.W.Frag} {S : Sto} {H : Hp} {T : String} {x : D} {v : V} (r : Rep K S H x v) (q : Rel K S H) (e : tyM T S x = true) : tyW K T v H := by
  unfold tyM at e
  split at e
  · rename_i l h
    obtain ⟨a, vs, rfl, h1, _⟩ := dictOf_rep r q h
    exact .inr ⟨eq_of_beq e, vs, h1⟩
  · rename_i z h
    cases contS_inv h
    cases r
    exact eq_of_beq e
  · rename_i l h
    obtain ⟨a, vs, rfl, h1, _⟩ := lstSq_rep r q h
    exact .inl ⟨eq_of_beq e, vs, h1⟩
  · cases e
def MtD (K : PySem.W.Frag) (r : V → List V → Hp → VK → Prop) (f : D → List D → Sto → Pd → Prop) : Prop :=
  ∀ x xs v vs S H (R : Pd) (Q : VK), Rel K S H → Rep K S H x v → RepL K S H xs vs → f x xs S R → (∀ z S' v' H', R z S' → Rel K S' H' → Keep K S H S' H' → Rep K S' H' z v' → Q v' H') → r v vs H Q
def wMt (T : String) (f : D → List D → Sto → Pd → Prop) (wo : WpE) (wa : WpA) : WpE := fun ς S R RE => wo ς S (fun x S1 => tyM T S1 x = true ∧ wa ς S1 (fun xs S2 => f x xs S2 R) RE) RE
section
variable {X : Cx} {F : Fr} {cpos apos : Pos} {o e : Expr} {es : List Expr} {wo : WpE} {wa : WpA} {name : Str} {T id : String} {r : V → List V → Hp → VK → Prop} {f : D → List D → Sto → Pd → Prop}
def tBW (K : PySem.W.Frag) (T : String) (r : V → List V → Hp → VK → Prop) (to : TE) (t : TA) : TE := fun σ H Q => to σ H fun x H1 => tyW K T x H1 ∧ t σ H1 fun xs H2 => r x xs H2 Q
theorem pe_bw {to : TE} {t : TA} (pa : PlainAttrs T) (slot : Slot T name id) (hty : typeOf (.builtin id) = pure (.type "method_descriptor")) (hm : MtR X id r) (ho : PE X o to) (ha : PA X (e :: es) t)
    (hb : baseOk o = true) (hn : noStars (e :: es) = true) (hl : (e :: es).length < 29) (hline : (apos.endLine == cpos.line) = true) :
    PE X (.Call (.Attribute o name apos) (e :: es) [] cpos) (tBW X.K T r to t) := by
  refine ⟨fun pins s σ H Q I h => ?_⟩
  refine wpAny_Call_method_late (attrBase hb) (back_few hn hl) hline rfl (thn (ho.run pins s σ H _ I h) fun v s1 ⟨x, H1, I1, r1, ty, q1⟩ => ?_)
  obtain ⟨h1, h2⟩ := tyW_is I1 r1 ty
  refine ⟨T, id, pa, slot, hty, h1, h2, ?_⟩
  have hA := ha.run cpos pins s1 σ H1 _ I1 q1
  have hn' : noStar e = true ∧ noStars es = true := by simpa [noStars] using hn
  have hs := starEach_cons (es := es) (env := X.env) hn'.1
  rw [hs] at hA ⊢
  refine Calls.callWith_builtin (by show (false || (backTo cpos (starEach es X.env)).any (·.1)) = false; rw [back_any hn'.2] <;> rfl) (Calls.evalArgs_plain ?_)
  exact thn hA fun us s2 ⟨vs, H2, I2, r2, q2⟩ => hm pins s2 σ H2 x vs v us Q I2 r1 r2 q2
def tBW0 (K : PySem.W.Frag) (T : String) (r : V → List V → Hp → VK → Prop) (to : TE) : TE := fun σ H Q => to σ H fun x H1 => tyW K T x H1 ∧ r x [] H1 Q
theorem pe_bw0 {to : TE} (pa : PlainAttrs T) (slot : Slot T name id) (hty : typeOf (.builtin id) = pure (.type "method_descriptor")) (hm : MtR X id r) (ho : PE X o to) (hb : baseOk o = true) (hline : (apos.endLine == cpos.line) = true) :
    PE X (.Call (.Attribute o name apos) [] [] cpos) (tBW0 X.K T r to) := by
  refine ⟨fun pins s σ H Q I h => ?_⟩
  refine wpAny_Call_method0_late (attrBase hb) hline (thn (ho.run pins s σ H _ I h) fun v s1 ⟨x, H1, I1, r1, ty, q1⟩ => ?_)
  obtain ⟨h1, h2⟩ := tyW_is I1 r1 ty
  exact ⟨T, id, pa, slot, hty, h1, h2, Calls.callWith_builtin rfl (PySem.evalArgs_none (hm pins s1 σ H1 x [] v [] Q I1 r1 .nil q1))⟩
theorem we_bm (pa : PlainAttrs T) (slot : Slot T name id) (hty : typeOf (.builtin id) = pure (.type "method_descriptor")) (hm : MtR X id r) (hd : MtD X.K r f) (ho : WE X F o wo) (ha : WA X F (e :: es) wa)
    (hb : baseOk o = true) (hn : noStars (e :: es) = true) (hl : (e :: es).length < 29) (hline : (apos.endLine == cpos.line) = true) : WE X F (.Call (.Attribute o name apos) (e :: es) [] cpos) (wMt T f wo wa) :=
  (pe_bw pa slot hty hm ho ha hb hn hl hline).imp fun σ H Q ⟨ς, S, R, g, k, hw, hR⟩ => by
    refine tE.mk g k hw fun x S1 v H1 h1 g1 k1 d1 r1 => ?_
    refine ⟨tyM_rep r1 g1.rel h1.1, tA.mk g1 k1 h1.2 fun xs S2 vs H2 h2 g2 k2 d2 r2 => ?_⟩
    exact hd x xs v vs S2 H2 R Q g2.rel (d2 _ _ r1) r2 h2 fun z S' v' H' q r k p => hR z S' v' H' q r ((d1.trans d2).trans k) p
theorem we_bm0 (pa : PlainAttrs T) (slot : Slot T name id) (hty : typeOf (.builtin id) = pure (.type "method_descriptor")) (hm : MtR X id r) (hd : MtD X.K r f) (ho : WE X F o wo) (hb : baseOk o = true) (hline : (apos.endLine == cpos.line) = true) :
    WE X F (.Call (.Attribute o name apos) [] [] cpos) (wMt T f wo wNil) :=
  (pe_bw0 pa slot hty hm ho hb hline).imp fun σ H Q ⟨ς, S, R, g, k, hw, hR⟩ => by
    refine tE.mk g k hw fun x S1 v H1 h1 g1 k1 d1 r1 => ?_
    refine ⟨tyM_rep r1 g1.rel h1.1, ?_⟩
    exact hd x [] v [] S1 H1 R Q g1.rel r1 .nil h1.2 fun z S' v' H' q r k p => hR z S' v' H' q r (d1.trans k) p
end
section
variable {K : PySem.W.Frag}
/-- an owned list, changed -/
def fLst (g : List D → List D → Option (List D × D)) : D → List D → Sto → Pd → Prop := fun x xs S R => ∃ a l l' z, x = .ref a ∧ S a = some (.lst l) ∧ g l xs = some (l', z) ∧ l'.length ≤ sizeLine ∧ R z (S.set a (.lst l'))
theorem own_lst {S : Sto} {H : Hp} {a : Addr} {l : List D} (q : Rel K S H) (e : S a = some (.lst l)) : ∃ vs, H a = some (.lst vs) ∧ RepL K S H l vs ∧ l.length ≤ sizeLine := by
  obtain ⟨z, vs, h1, h2⟩ := q a _ e
  exact ⟨vs, h1, h2, z⟩
theorem put_lst {S : Sto} {H : Hp} {a : Addr} {l l' : List D} {vs' : List V} {z : D} {v : V} {R : Pd} {Q : VK} (q : Rel K S H) (e : S a = some (.lst l)) (r : RepL K S H l' vs') (rz : Rep K S H z v) (hl : l'.length ≤ sizeLine) (h : R z (S.set a (.lst l')))
    (hR : ∀ z S' v' H', R z S' → Rel K S' H' → Keep K S H S' H' → Rep K S' H' z v' → Q v' H') : Q v (upd H a (.lst vs')) := by
  have k : Keep K S H (S.set a (.lst l')) (upd H a (.lst vs')) := Keep.putR q e
  exact hR _ _ _ _ h (q.put e ⟨hl, vs', upd_same, k.l r⟩) k (k _ _ rz)
theorem put_dct {S : Sto} {H : Hp} {a : Addr} {l l' : List (Key × D)} {vs' : List (Key × V)} {z : D} {v : V} {R : Pd} {Q : VK} (q : Rel K S H) (e : S a = some (.dct l)) (r : RepK K S H l' vs') (rz : Rep K S H z v) (hl : l'.length ≤ sizeLine) (h : R z (S.set a (.dct l')))
    (hR : ∀ z S' v' H', R z S' → Rel K S' H' → Keep K S H S' H' → Rep K S' H' z v' → Q v' H') : Q v (upd H a (.dK vs')) := by
  have k : Keep K S H (S.set a (.dct l')) (upd H a (.dK vs')) := Keep.putR q e
  exact hR _ _ _ _ h (q.put e ⟨hl, vs', upd_same, k.k r⟩) k (k _ _ rz)
def fAppend (x : D) (xs : List D) (S : Sto) (R : Pd) : Prop := ∃ a l y, x = .ref a ∧ xs = [y] ∧ S a = some (.lst l) ∧ l.length + 1 ≤ sizeLine ∧ R .non (S.set a (.lst (l ++ [y])))
theorem md_append : MtD K rAppend fAppend := by
  intro x xs v vs S H R Q q r rs h hR
  obtain ⟨a, l, y, rfl, rfl, e, hl, h⟩ := h
  cases r
  obtain ⟨u, rfl, ru⟩ := rs.one
  obtain ⟨ws, h1, h2, h3⟩ := own_lst q e
  exact ⟨a, ws, u, rfl, rfl, h1, by rw [← h2.length]; omega, put_lst q e (h2.append (.cons ru .nil)) .non (by simpa using hl) h hR⟩
def fExtend (x : D) (xs : List D) (S : Sto) (R : Pd) : Prop := ∃ a l y m, x = .ref a ∧ xs = [y] ∧ S a = some (.lst l) ∧ lstOf S y = some m ∧ l.length + m.length ≤ sizeLine ∧ R .non (S.set a (.lst (l ++ m)))
theorem md_extend : MtD K rExtend fExtend := by
  intro x xs v vs S H R Q q r rs h hR
  obtain ⟨a, l, y, m, rfl, rfl, e, em, hl, h⟩ := h
  cases r
  obtain ⟨u, rfl, ru⟩ := rs.one
  obtain ⟨ws, h1, h2, h3⟩ := own_lst q e
  obtain ⟨b, us, rfl, h4, h5, _⟩ := lstOf_rep ru q em
  exact ⟨a, b, ws, us, rfl, rfl, h1, h4, by rw [← h2.length, ← h5.length]; exact hl, put_lst q e (h2.append h5) .non (by simpa using hl) h hR⟩
def fPop (x : D) (xs : List D) (S : Sto) (R : Pd) : Prop := ∃ a l i k y, x = .ref a ∧ xs = [.int i] ∧ S a = some (.lst l) ∧ ixN l.length i = some k ∧ l[k]? = some y ∧ R y (S.set a (.lst (l.eraseIdx k)))
theorem md_pop : MtD K rPopAt fPop := by
  intro x xs v vs S H R Q q r rs h hR
  obtain ⟨a, l, i, k, y, rfl, rfl, e, ei, ey, h⟩ := h
  cases r
  obtain ⟨u, rfl, ru⟩ := rs.one
  cases ru
  obtain ⟨ws, h1, h2, h3⟩ := own_lst q e
  obtain ⟨w, hw, rw'⟩ := h2.get ey
  obtain ⟨j1, j2, j3, j4⟩ := ixN_seq ei
  have hs : sizeLine = 16777216 := sizeLine_eq
  refine ⟨a, ws, i, k, w, rfl, rfl, h1, by omega, by omega, by rw [← h2.length]; exact j1, hw, put_lst q e (h2.eraseIdx k) rw' ?_ h hR⟩
  have := List.length_eraseIdx_le (l := l) (i := k)
  omega
def fInsert (x : D) (xs : List D) (S : Sto) (R : Pd) : Prop := ∃ a l i y, x = .ref a ∧ xs = [.int i, y] ∧ S a = some (.lst l) ∧ l.length + 1 ≤ sizeLine ∧ 0 ≤ i ∧ i < 2 ^ 63 ∧ R .non (S.set a (.lst (l.take i.toNat ++ [y] ++ l.drop i.toNat)))
theorem md_insert : MtD K (fun x vs H Q => ∃ (l : Addr) (xs : List V) (i : Int) (y : V), x = .ref l ∧ vs = [.int i, y] ∧ H l = some (.lst xs) ∧ xs.length < sizeLine ∧ 0 ≤ i ∧ i < 2 ^ 63 ∧ Q .non (upd H l (.lst (xs.take i.toNat ++ [y] ++ xs.drop i.toNat)))) fInsert := by
  intro x xs v vs S H R Q q r rs h hR
  obtain ⟨a, l, i, y, rfl, rfl, e, hl, h0, h9, h⟩ := h
  cases r
  obtain ⟨u, w, rfl, ru, rw'⟩ := rs.two
  cases ru
  obtain ⟨ws, h1, h2, h3⟩ := own_lst q e
  refine ⟨a, ws, i, w, rfl, rfl, h1, by rw [← h2.length]; omega, h0, h9, put_lst q e (((h2.take _).append (.cons rw' .nil)).append (h2.drop _)) .non ?_ h hR⟩
  simp only [List.length_append, List.length_take, List.length_drop, List.length_cons, List.length_nil]
  omega
def fClearL (x : D) (xs : List D) (S : Sto) (R : Pd) : Prop := ∃ a l, x = .ref a ∧ xs = [] ∧ S a = some (.lst l) ∧ R .non (S.set a (.lst []))
theorem md_clearL : MtD K rClear fClearL := by
  intro x xs v vs S H R Q q r rs h hR
  obtain ⟨a, l, rfl, rfl, e, h⟩ := h
  cases r
  cases rs
  obtain ⟨ws, h1, h2, h3⟩ := own_lst q e
  exact ⟨a, ws, rfl, rfl, h1, put_lst q e .nil .non (Nat.zero_le _) h hR⟩
/-- list.count, by == of data -/
def rCntD (K : PySem.W.Frag) : V → List V → Hp → VK → Prop := fun x xs H Q => ∃ (a : Addr) (y : V) (d : PyData) (ds : List PyData), x = V.ref a ∧ xs = [y] ∧ Dp K H (V.ref a) (.list ds) ∧ Dp K H y d ∧
  SeqAt.shaped (.list ds) = true ∧ SeqAt.shaped d = true ∧ Q (.int ((ds.countP fun z => PyData.eqv z d : Nat) : Int)) H
theorem mt_countD {X : Cx} (hu : X.A.units + 65 < cLine) : MtR X "list.count" (rCntD X.K) := by
  intro pins s σ H x xs v us Q I rx rxs h
  obtain ⟨a, y, d, ds, rfl, rfl, hl, hy, sl, sd, q⟩ := h
  cases rx
  cases rxs with
  | cons ry rt =>
    rename_i uy ut
    cases rt
    obtain ⟨bs, r1⟩ := Dp.reads I d y uy hy ry
    have hxs : PyData.canLayAll0 ds = true := SeqAt.canLay_of_shaped sl
    have hroom : X.A.units + 1 + min (PyData.depthAll ds) d.depth < cLine := by
      have h1 := SeqAt.depth_of_shaped sd
      have h2 : min (PyData.depthAll ds) d.depth ≤ d.depth := Nat.min_le_right _ _
      omega
    cases hl with
    | lst hs ha =>
      obtain ⟨its, rv, ⟨⟨cls, dd, data, sls⟩, n, ho, hc, hdn, hdt⟩, hlen⟩ := I.list hs
      simp only at hc hdt
      subst hc hdt
      obtain ⟨as, h4⟩ := Dp.readsAll I ds _ its ha rv
      have hmap : its.map (SeqAt.readOf s.heap) = ds := SeqAt.readsAll_map ds its as hxs h4
      refine call_meets PySem.F.slot_list_count ⟨_, ho, rfl⟩ PySem.F.entry_list_count (PySem.F.args_list_count_2 _ _)
        (SeqAt.list_countAt a its.toArray n dd sls uy (fun u => PyData.eqv (SeqAt.readOf s.heap u) d)) ⟨ho, SeqAt.items_eqAt (vs := its.toArray) (show ReadsAll s.heap its.toArray.toList ds as from h4) r1 hxs (SeqAt.canLay_of_shaped sd) hroom, ?_⟩
      refine ⟨.int ((ds.countP fun z => PyData.eqv z d : Nat) : Int), H, I.tok _, ⟨s.toks, ?_⟩, q⟩
      have e : its.toArray.toList.countP (fun u => PyData.eqv (SeqAt.readOf s.heap u) d) = ds.countP fun z => PyData.eqv z d := by
        rw [← hmap, List.countP_map]
        rfl
      rw [e]
def fCount (x : D) (xs : List D) (S : Sto) (R : Pd) : Prop := ∃ l y, contOf S x = .l l ∧ xs = [y] ∧ okD (.lst l) = true ∧ okD y = true ∧ R (.int ((l.countP fun z => dEq z y : Nat) : Int)) S
theorem countP_pyL (x : PyData) : ∀ l : List D, (pyL l).countP (fun z => PyData.eqv z x) = l.countP (fun z => PyData.eqv (pyD z) x)
  | [] => rfl
  | y :: l => by simp [pyL, List.countP_cons, countP_pyL x l]
theorem md_count : MtD K (rCntD K) fCount := by
  intro x xs v vs S H R Q q r rs h hR
  obtain ⟨l, y, e, rfl, o1, o2, h⟩ := h
  obtain ⟨u, rfl, ru⟩ := rs.one
  have d1 := listOf_rep r q e o1
  obtain ⟨a, ws, rfl, _⟩ := lstSq_rep r q e
  have d2 := rep_dp ru (SeqAt.canLay_of_shaped o2)
  have := hR _ S _ H h q .refl (.int _)
  exact ⟨a, u, _, _, rfl, rfl, d1, d2, o1, o2, by rw [countP_pyL]; simpa [dEq] using this⟩
def fIndex (x : D) (xs : List D) (S : Sto) (R : Pd) : Prop := ∃ l y j, contOf S x = .l l ∧ xs = [y] ∧ okD (.lst l) = true ∧ okD y = true ∧ l.findIdx? (fun z => dEq z y) = some j ∧ R (.int (j : Nat)) S
theorem pyL_get : ∀ (l : List D) (i : Nat), (pyL l)[i]? = (l[i]?).map pyD
  | [], i => by simp [pyL]
  | x :: l, 0 => by simp [pyL]
  | x :: l, i + 1 => by simp [pyL, pyL_get l i]
theorem md_index : MtD K (rIndexD K) fIndex := by
  intro x xs v vs S H R Q q r rs h hR
  obtain ⟨l, y, j, e, rfl, o1, o2, hj, h⟩ := h
  obtain ⟨u, rfl, ru⟩ := rs.one
  have d1 := listOf_rep r q e o1
  obtain ⟨a, ws, rfl, _⟩ := lstSq_rep r q e
  have d2 := rep_dp ru (SeqAt.canLay_of_shaped o2)
  rw [List.findIdx?_eq_some_iff_getElem] at hj
  obtain ⟨hj1, hj2, hj3⟩ := hj
  refine ⟨a, u, _, _, j, pyD l[j], rfl, rfl, d1, d2, o1, o2, ?_, hj2, fun m z' hm hz => ?_, hR _ S _ H h q .refl (.int _)⟩
  · rw [pyL_get, List.getElem?_eq_getElem hj1]; rfl
  · have hml : m < l.length := by omega
    rw [pyL_get, List.getElem?_eq_getElem hml] at hz
    cases hz
    have := hj3 m hm
    simpa [dEq] using this
/-! dicts -/
def fGet (x : D) (xs : List D) (S : Sto) (R : Pd) : Prop := ∃ l y z k, contOf S x = .d l ∧ xs = [y, z] ∧ keyOf y = some k ∧ R ((lookK k l).getD z) S
def rGet2 : V → List V → Hp → VK → Prop := fun x xs H Q => ∃ a y z o, x = .ref a ∧ xs = [y, z] ∧ DGet H a y o ∧ Q (o.getD z) H
theorem mt_get2 {X : Cx} (hu : X.A.units + 1 < cLine) : MtR X "dict.get" rGet2 := by
  intro pins s σ H x xs v us Q I rx rxs h
  obtain ⟨a, y, z, o, rfl, rfl, g, q⟩ := h
  cases rx
  obtain ⟨u, w, rfl, r1, r2⟩ := rxs.two
  exact d_get2 hu I g r1 r2 fun w' s' I' r' => ⟨_, H, I', r', q⟩
theorem md_get : MtD K rGet2 fGet := by
  intro x xs v vs S H R Q q r rs h hR
  obtain ⟨l, y, z, k, e, rfl, ek, h⟩ := h
  obtain ⟨a, kvs, rfl, h1, r1⟩ := dictOf_rep r q e
  obtain ⟨u, w, rfl, ru, rw'⟩ := rs.two
  have := keyOf_rep ru ek
  subst this
  refine ⟨a, _, _, valV kvs k, rfl, rfl, .inl ⟨kvs, k, h1, rfl, rfl⟩, ?_⟩
  have hl := r1.look (k := k)
  cases eq : lookK k l with
  | none => rw [eq] at hl h; rw [show valV kvs k = none from hl]; exact hR _ S _ H h q .refl rw'
  | some d => rw [eq] at hl h; obtain ⟨v, h3, h4⟩ := hl; rw [h3]; exact hR _ S _ H h q .refl h4
def fSetd (x : D) (xs : List D) (S : Sto) (R : Pd) : Prop := ∃ a l y z k, x = .ref a ∧ S a = some (.dct l) ∧ xs = [y, z] ∧ keyOf y = some k ∧
  match lookK k l with
  | some d => R d S
  | none => l.length + 1 ≤ sizeLine ∧ R z (S.set a (.dct (putD k z l)))
def rSetd2 : V → List V → Hp → VK → Prop := fun x xs H Q => ∃ a kvs k v, x = .ref a ∧ xs = [kV k, v] ∧ H a = some (.dK kvs) ∧ (∀ w, valV kvs k = some w → Q w H) ∧ (valV kvs k = none → kvs.length + 1 ≤ sizeLine ∧ Q v (upd H a (.dK (putK kvs k v))))
theorem mt_setd {X : Cx} : MtR X "dict.setdefault" rSetd2 := by
  intro pins s σ H x xs v us Q I rx rxs h
  obtain ⟨a, kvs, k, w, rfl, rfl, e, q1, q2⟩ := h
  cases rx
  obtain ⟨u, w', rfl, ry, rd⟩ := rxs.two
  obtain ⟨z, hd, vs, rel, dd⟩ := dk_of I.hok e
  refine call_meetsIn PySem.F.slot_dict_setdefault dd.typeIs PySem.F.entry_dict_setdefault (PySem.F.args_dict_setdefault_3 _ _ _) (kt_meets_setdefault (mixKind X.prog X.w) a (kV_is ry) hd w')
    ⟨vs, dd, by rw [← rel.length]; exact z, fun u hu => ?_, fun hn h' dd' hs => ?_⟩
  · have rr := rel.val k
    rw [hu] at rr
    cases hv : valV kvs k with
    | none => rw [hv] at rr; exact False.elim rr
    | some x =>
      rw [hv] at rr
      exact (⟨x, H, I.tok _, rr, q1 x hv⟩ : EP X pins σ Q u _)
  · have rr := rel.val k
    rw [hn] at rr
    cases hv : valV kvs k with
    | some x => rw [hv] at rr; exact False.elim rr
    | none =>
      obtain ⟨hl, q⟩ := q2 hv
      have hl2 : (putK kvs k w).length ≤ sizeLine := by have := length_putK kvs k w; omega
      exact (⟨w, _, d_write (t' := s.toks + 1) I (by rw [e]; exact True.intro) hs (let ⟨q, _, _, hq, _⟩ := dd'; ⟨q, hq⟩) (dk_new hl2 hd (rel.put k rd) dd'), rd, q⟩ : EP X pins σ Q _ _)
theorem putD_le (k : Key) (x : D) (l : List (Key × D)) : (putD k x l).length ≤ l.length + 1 := by
  unfold putD; split
  · rw [List.length_map]; omega
  · rw [List.length_append]; simp
theorem md_setd : MtD K rSetd2 fSetd := by
  intro x xs v vs S H R Q q r rs h hR
  obtain ⟨a, l, y, z, k, rfl, e, rfl, ek, h⟩ := h
  cases r
  obtain ⟨u, w, rfl, ru, rw'⟩ := rs.two
  have := keyOf_rep ru ek
  subst this
  obtain ⟨zz, kvs, h1, r1⟩ := q a _ e
  have hl := r1.look (k := k)
  refine ⟨a, kvs, k, w, rfl, rfl, h1, fun d hd => ?_, fun hd => ?_⟩
  · cases eq : lookK k l with
    | none => rw [eq] at hl; rw [show valV kvs k = none from hl] at hd; cases hd
    | some d' =>
      rw [eq] at hl h
      obtain ⟨v, h3, h4⟩ := hl
      rw [h3] at hd
      cases hd
      exact hR _ S _ H h q .refl h4
  · cases eq : lookK k l with
    | some d' => rw [eq] at hl; obtain ⟨v, h3, h4⟩ := hl; rw [h3] at hd; cases hd
    | none =>
      rw [eq] at h
      exact ⟨by rw [← r1.length]; exact h.1, put_dct q e (r1.put rw') rw' (Nat.le_trans (putD_le k z l) h.1) h.2 hR⟩
def fPopD (x : D) (xs : List D) (S : Sto) (R : Pd) : Prop := ∃ a l y k d, x = .ref a ∧ S a = some (.dct l) ∧ xs = [y] ∧ keyOf y = some k ∧ lookK k l = some d ∧ R d (S.set a (.dct (dropD k l)))
def rPopD : V → List V → Hp → VK → Prop := fun x xs H Q => ∃ a kvs k v, x = .ref a ∧ xs = [kV k] ∧ H a = some (.dK kvs) ∧ valV kvs k = some v ∧ Q v (upd H a (.dK (dropK kvs k)))
theorem mt_popD {X : Cx} : MtR X "dict.pop" rPopD := by
  intro pins s σ H x xs v us Q I rx rxs h
  obtain ⟨a, kvs, k, w, rfl, rfl, e, l, q⟩ := h
  cases rx
  obtain ⟨u, rfl, ry⟩ := rxs.one
  exact d_pop I e ry l (.inl rfl) fun w' s' I' r' => ⟨w, _, I', r', q⟩
theorem md_popD : MtD K rPopD fPopD := by
  intro x xs v vs S H R Q q r rs h hR
  obtain ⟨a, l, y, k, d, rfl, e, rfl, ek, el, h⟩ := h
  cases r
  obtain ⟨u, rfl, ru⟩ := rs.one
  have := keyOf_rep ru ek
  subst this
  obtain ⟨zz, kvs, h1, r1⟩ := q a _ e
  have hl := r1.look (k := k)
  rw [el] at hl
  obtain ⟨v, h3, h4⟩ := hl
  refine ⟨a, kvs, k, v, rfl, rfl, h1, h3, put_dct q e r1.drop h4 ?_ h hR⟩
  have : (dropD k l).length ≤ l.length := List.length_filter_le _ _
  omega
def fClearD (x : D) (xs : List D) (S : Sto) (R : Pd) : Prop := ∃ a l, x = .ref a ∧ xs = [] ∧ S a = some (.dct l) ∧ R .non (S.set a (.dct []))
theorem md_clearD : MtD K rDClear fClearD := by
  intro x xs v vs S H R Q q r rs h hR
  obtain ⟨a, l, rfl, rfl, e, h⟩ := h
  cases r
  cases rs
  obtain ⟨zz, kvs, h1, r1⟩ := q a _ e
  exact ⟨a, kvs, rfl, rfl, h1, put_dct q e .nil .non (Nat.zero_le _) h hR⟩
def fUpdate (x : D) (xs : List D) (S : Sto) (R : Pd) : Prop := ∃ a l y m, x = .ref a ∧ S a = some (.dct l) ∧ xs = [y] ∧ dctOf S y = some m ∧ y ≠ .ref a ∧ l.length + m.length ≤ sizeLine ∧ R .non (S.set a (.dct (mergeD l m)))
def rUpdate : V → List V → Hp → VK → Prop := fun x xs H Q => ∃ a b kvs more, x = .ref a ∧ xs = [.ref b] ∧ a ≠ b ∧ H a = some (.dK kvs) ∧ Rd H b (.dK more) ∧ kvs.length + more.length ≤ sizeLine ∧ Q .non (upd H a (.dK (mergeK kvs more)))
theorem mt_update {X : Cx} : MtR X "dict.update" rUpdate := by
  intro pins s σ H x xs v us Q I rx rxs h
  obtain ⟨a, b, kvs, more, rfl, rfl, ne, ea, eb, hl, q⟩ := h
  cases rx
  obtain ⟨u, rfl, ry⟩ := rxs.one
  cases ry
  obtain ⟨z, hd, vs, rel, dd⟩ := dk_of I.hok ea
  obtain ⟨z2, hd2, ms, rel2, dd2⟩ := dk_rd I.hok eb
  refine call_meetsIn PySem.F.slot_dict_update dd.typeIs PySem.F.entry_dict_update (PySem.F.args_dict_update_2 _ _) (meets_dict_update (mixKind X.prog X.w) a b ne hd2)
    ⟨vs, ms, dd, dd2, by rw [← rel.length, ← rel2.length]; exact hl, fun h' dd' _ hs => ?_⟩
  have hl2 : (mergeK kvs more).length ≤ sizeLine := Nat.le_trans (length_mergeK more kvs) hl
  exact (⟨.non, _, d_write (t' := s.toks) I (by rw [ea]; exact True.intro) hs (let ⟨q, _, _, hq, _⟩ := dd'; ⟨q, hq⟩) (dk_new hl2 hd (rel2.merge rel) dd'), rfl, q⟩ : EP X pins σ Q _ _)
theorem md_update : MtD K rUpdate fUpdate := by
  intro x xs v vs S H R Q q r rs h hR
  obtain ⟨a, l, y, m, rfl, e, rfl, em, ne, hl, h⟩ := h
  cases r
  obtain ⟨u, rfl, ru⟩ := rs.one
  obtain ⟨zz, kvs, h1, r1⟩ := q a _ e
  obtain ⟨b, ms, rfl, h3, h4, _⟩ := dctOf_rep ru q em
  have ne' : a ≠ b := fun e2 => by
    subst e2
    cases ru with
    | ref a => exact ne rfl
    | dct h n z r => rw [n] at e; cases e
    | _ => cases em
  refine ⟨a, b, kvs, ms, rfl, rfl, ne', h1, h3, by rw [← r1.length, ← h4.length]; exact hl, put_dct q e (h4.merge r1) .non ?_ h hR⟩
  have := mergeD_length m l
  omega
/-! texts -/
def fSplit (own : Bool) (x : D) (xs : List D) (S : Sto) (R : Pd) : Prop := ∃ a b, x = .str a ∧ xs = [.str b] ∧ (b.length == 0) = false ∧ a.length + 2 ≤ sizeLine ∧ mkL own ((Txt.split a b).map D.str) S R
theorem md_split {own : Bool} : MtD K (fun x xs H Q => ∃ a b, x = .str a ∧ xs = [.str b] ∧ (b.length == 0) = false ∧ a.length + 2 ≤ sizeLine ∧ rNewStrs (Txt.split a b) H Q) (fSplit own) := by
  intro x xs v vs S H R Q q r rs h hR
  obtain ⟨a, b, rfl, rfl, h1, h2, h⟩ := h
  cases r
  obtain ⟨u, rfl, ru⟩ := rs.one
  cases ru
  exact ⟨a, b, rfl, rfl, h1, h2, (mkL_ok q h (repL_strs _) hR).2⟩
def fJoin (x : D) (xs : List D) (S : Sto) (R : Pd) : Prop := ∃ a y l ys, x = .str a ∧ xs = [y] ∧ seqOf S y = some l ∧ strL l = some ys ∧ (ys.map (·.length)).sum + ys.length * a.length ≤ 16777216 ∧ R (.str (Txt.join a ys)) S
theorem md_join : MtD K (fun x xs H Q => ∃ a p, ∃ ys : List Str, x = .str a ∧ xs = [.ref p] ∧ (SqL K H p (ys.map V.str) ∨ SqT K H p (ys.map V.str)) ∧ (ys.map (·.length)).sum + ys.length * a.length ≤ 16777216 ∧ Q (.str (Txt.join a ys)) H) fJoin := by
  intro x xs v vs S H R Q q r rs h hR
  obtain ⟨a, y, l, ys, rfl, rfl, e, ei, hl, h⟩ := h
  cases r
  obtain ⟨u, rfl, ru⟩ := rs.one
  obtain ⟨p, ws, rfl, h1, r1, _⟩ := seqOf_rep ru q e
  have := strL_eq ei
  subst this
  have := r1.strs
  subst this
  exact ⟨a, p, ys, rfl, rfl, h1, hl, hR _ S _ H h q .refl (.str _)⟩
end
end SB
end

section
set_option Elab.async false
set_option linter.all false
set_option maxRecDepth 100000
set_option autoImplicit false
/-! SB8: targets by names, what is walked, for, list comprehensions. -/
namespace SB
open PySem PySem.Spec L2

/-! ### targets: names, tuples of such -/
mutual
inductive Tg where
  | nm (i : Nat) | tup (l : Tgs)
inductive Tgs where
  | nil | cons (t : Tg) (l : Tgs)
end
mutual
def Tg.bind : Tg → D → En → Option En
  | .nm i, d, ς => some (ς.set i (some d))
  | .tup ts, .tup l, ς => Tgs.bind ts l ς
  | .tup _, _, _ => none
def Tgs.bind : Tgs → List D → En → Option En
  | .nil, [], ς => some ς
  | .cons t ts, x :: xs, ς => match Tg.bind t x ς with
    | some ς1 => Tgs.bind ts xs ς1
    | none => none
  | _, _, _ => none
end
def Tgs.len : Tgs → Nat
  | .nil => 0
  | .cons _ l => l.len + 1
mutual
def Tg.of (K : PySem.W.Frag) : Tg → TG
  | .nm i => gName i
  | .tup ts => gTup K ts.len (Tgs.of K ts)
def Tgs.of (K : PySem.W.Frag) : Tgs → TGs
  | .nil => gNil
  | .cons t ts => gCons (Tg.of K t) (Tgs.of K ts)
end
mutual
def Tg.ixs : Tg → List Nat
  | .nm i => [i]
  | .tup ts => ts.ixs
def Tgs.ixs : Tgs → List Nat
  | .nil => []
  | .cons t ts => t.ixs ++ ts.ixs
end
def WG (X : Cx) (e : Expr) (t : Tg) : Prop := PG X e (t.of X.K)
def WGs (X : Cx) (es : List Expr) (t : Tgs) : Prop := PGs X es (t.of X.K)
theorem wipe_set {σ : St} {i : Nat} {x : Option V} : ∀ vs : List Nat, wipe (σ.set i x) vs = if i ∈ vs then wipe σ vs else (wipe σ vs).set i x
  | [] => by simp [wipe]
  | v :: vs => by
    unfold wipe
    rw [wipe_set vs]
    by_cases h : i ∈ vs
    · rw [if_pos h, if_pos (List.mem_cons_of_mem _ h)]
    · rw [if_neg h]
      by_cases e : i = v
      · subst e
        rw [if_pos List.mem_cons_self, List.set_set]
      · rw [if_neg (by simp [e, h]), List.set_comm _ _ e]
/-- the slots of a block's own names forgotten -/
def wipeE (ς : En) : List Nat → En
  | [] => ς
  | v :: vs => (wipeE ς vs).set v none
theorem Good.wipe {K : PySem.W.Frag} {ς : En} {S : Sto} {σ : St} {H : Hp} (g : Good K ς S σ H) : ∀ vs : List Nat, Good K (wipeE ς vs) S (L2.wipe σ vs) H
  | [] => g
  | v :: vs => (Good.wipe g vs).unset
theorem Tgs.bind_len : ∀ {ts : Tgs} {l : List D} {ς ς' : En}, ts.bind l ς = some ς' → l.length = ts.len
  | .nil, [], _, _, _ => rfl
  | .nil, _ :: _, _, _, h => by cases h
  | .cons t ts, [], _, _, h => by cases h
  | .cons t ts, x :: xs, ς, ς', h => by
    unfold Tgs.bind at h
    split at h
    · rename_i ς1 e1
      have := Tgs.bind_len (ts := ts) h
      simp [Tgs.len, this]
    · cases h
mutual
theorem Tg.bind_ok {K : PySem.W.Frag} : ∀ {t : Tg} {d : D} {ς ς' : En} {S : Sto} {σ : St} {H : Hp} {v : V}, t.bind d ς = some ς' → Good K ς S σ H → Rep K S H d v →
    ∃ σ', (∀ Q : St → Hp → Prop, Q σ' H → t.of K v σ H Q) ∧ Good K ς' S σ' H ∧ ∀ vs, (∀ i ∈ t.ixs, i ∈ vs) → wipe σ' vs = wipe σ vs
  | .nm i, d, ς, ς', S, σ, H, v, e, g, r => by
    unfold Tg.bind at e
    cases e
    exact ⟨σ.set i (some v), fun Q q => by unfold Tg.of; exact q, g.set r, fun vs h => by rw [wipe_set, if_pos (h i (by simp [Tg.ixs]))]⟩
  | .tup ts, d, ς, ς', S, σ, H, v, e, g, r => by
    cases d with
    | tup l =>
      unfold Tg.bind at e
      obtain ⟨a, vs, rfl, q, _, rl⟩ := Rep.tup_inv r
      obtain ⟨σ', h1, h2, h3⟩ := Tgs.bind_ok e g rl
      exact ⟨σ', fun Q z => by unfold Tg.of; exact ⟨a, vs, rfl, q, by rw [← rl.length]; exact Tgs.bind_len e, h1 Q z⟩, h2, fun us hu => h3 us (by unfold Tg.ixs at hu; exact hu)⟩
    | _ => simp [Tg.bind] at e
theorem Tgs.bind_ok {K : PySem.W.Frag} : ∀ {ts : Tgs} {l : List D} {ς ς' : En} {S : Sto} {σ : St} {H : Hp} {vs : List V}, ts.bind l ς = some ς' → Good K ς S σ H → RepL K S H l vs →
    ∃ σ', (∀ Q : St → Hp → Prop, Q σ' H → ts.of K vs σ H Q) ∧ Good K ς' S σ' H ∧ ∀ us, (∀ i ∈ ts.ixs, i ∈ us) → wipe σ' us = wipe σ us
  | .nil, l, ς, ς', S, σ, H, vs, e, g, r => by
    cases r with
    | nil => unfold Tgs.bind at e; cases e; exact ⟨σ, fun Q q => by unfold Tgs.of; exact ⟨rfl, q⟩, g, fun _ _ => rfl⟩
    | cons _ _ => cases e
  | .cons t ts, l, ς, ς', S, σ, H, vs, e, g, r => by
    cases r with
    | nil => cases e
    | cons rx rr =>
      unfold Tgs.bind at e
      split at e
      · rename_i ς1 e1
        obtain ⟨σ1, h1, g1, w1⟩ := Tg.bind_ok e1 g rx
        obtain ⟨σ2, h2, g2, w2⟩ := Tgs.bind_ok e g1 rr
        refine ⟨σ2, fun Q q => by unfold Tgs.of; exact ⟨_, _, rfl, h1 _ (h2 Q q)⟩, g2, fun us hu => ?_⟩
        rw [w2 us fun i hi => hu i (by simp [Tgs.ixs, hi]), w1 us fun i hi => hu i (by simp [Tgs.ixs, hi])]
      · cases e
end
section
variable {X : Cx} {pos : Pos}
theorem wg_nm {i : Nat} {x : Str} (hN : X.N.Nodup) (hi : X.N[i]? = some x) (hx : Loc X.env.scope x) (hf : X.fn x = true ∨ X.env.scope.names.lookup x = some .local) : WG X (.Name x pos) (.nm i) := by
  have h := pg_name (pos := pos) hN hi hx hf
  show PG X _ (Tg.of X.K (.nm i))
  unfold Tg.of
  exact h
theorem wgs_nil : WGs X [] .nil := by
  show PGs X _ (Tgs.of X.K .nil)
  unfold Tgs.of
  exact pgs_nil
theorem wgs_cons {e : Expr} {es : List Expr} {t : Tg} {ts : Tgs} (h : WG X e t) (hr : WGs X es ts) (hs : ∀ env, (assignEach (e :: es) env).map (·.2) = assign e env :: (assignEach es env).map (·.2)) : WGs X (e :: es) (.cons t ts) := by
  show PGs X _ (Tgs.of X.K (.cons t ts))
  unfold Tgs.of
  exact pgs_cons h hr (hs _)
theorem wg_tup {es : List Expr} {k : Nat} {ts : Tgs} (hc : X.calm = true) (h : WGs X es ts) (hn : ∀ env, (assignEach es env).length = ts.len) (hst : ∀ env, (assignEach es env).findIdx? (·.1) = none) : WG X (.Tuple es k pos) (.tup ts) := by
  show PG X _ (Tg.of X.K (.tup ts))
  unfold Tg.of
  exact pg_tup hc h (hn _) (hst _)
end

/-! ### what is walked -/
/-- what must stand still of the store -/
def grd (g : Option (Addr × SO)) (S : Sto) : Prop := match g with
  | none => True
  | some (a, o) => S a = some o
/-- an iterator that gives these, from where S, H stand -/
structure WalkD (K : PySem.W.Frag) (J : It) (xs : List D) (gd : Option (Addr × SO)) (S : Sto) (H : Hp) : Prop where
  goes : ∀ i S2 H2, i < xs.length → Rel K S2 H2 → Keep K S H S2 H2 → grd gd S2 → J.go i H2
  stops : ∀ S2 H2, Rel K S2 H2 → Keep K S H S2 H2 → grd gd S2 → J.stop xs.length H2
  yields : ∀ i S2 H2 v H3, i < xs.length → Rel K S2 H2 → Keep K S H S2 H2 → grd gd S2 → J.yld i H2 v H3 → ∃ d, xs[i]? = some d ∧ Rel K S2 H3 ∧ Keep K S2 H2 S2 H3 ∧ Rep K S2 H3 d v
abbrev WpI := En → Sto → (List D → Option (Addr × SO) → Sto → Prop) → Px → Prop
def tI (K : PySem.W.Frag) (F : Fr) (w : WpI) : TI := fun σ H Q => ∃ (ς : En) (S : Sto) (R : List D → Option (Addr × SO) → Sto → Prop), Good K ς S σ H ∧ Keep K F.S0 F.H0 S H ∧ w ς S R (fun c S' => F.XE c ς S') ∧
  ∀ xs gd S' H' J, R xs gd S' → Rel K S' H' → Keep K S H S' H' → WalkD K J xs gd S' H' → Q J H'
def WI (X : Cx) (F : Fr) (tg e : Expr) (w : WpI) : Prop := PI X tg e (tI X.K F w)
theorem _root_.L2.PI.imp {X : Cx} {tg e : Expr} {t t' : TI} (h : PI X tg e t) (i : ∀ σ H Q, t' σ H Q → t σ H Q) : PI X tg e t' := ⟨fun pins s σ H Q I q => h.run pins s σ H Q I (i σ H Q q)⟩
section
variable {K : PySem.W.Frag} {S : Sto} {H : Hp} {a b d : Addr} {l m : List D} {l' : List (Key × D)} {o : Obj}
/-- a value that is a list still -/
def LstAt (K : PySem.W.Frag) (gd : Option (Addr × SO)) (S : Sto) (H : Hp) (a : Addr) (l : List D) : Prop := ∀ S2 H2, Rel K S2 H2 → Keep K S H S2 H2 → grd gd S2 → ∃ vs, SqL K H2 a vs ∧ RepL K S2 H2 l vs
def TupAt (K : PySem.W.Frag) (gd : Option (Addr × SO)) (S : Sto) (H : Hp) (a : Addr) (l : List D) : Prop := ∀ S2 H2, Rel K S2 H2 → Keep K S H S2 H2 → grd gd S2 → ∃ vs, SqT K H2 a vs ∧ RepL K S2 H2 l vs
theorem rep_pair {x y : D} {v u : V} {p : Addr} (hp : H p = none) (rx : Rep K S H x v) (ry : Rep K S H y u) : Rep K S (upd H p (.tup [v, u])) (.tup [x, y]) (.ref p) :=
  .tup (.of upd_same) (by show 2 ≤ sizeLine; decide) ((Keep.new hp).l (.cons rx (.cons ry .nil)))
theorem walkd_list {gd} (h : LstAt K gd S H a l) : WalkD K (Itl K a) l gd S H where
  goes := fun i S2 H2 hi r k g => by
    obtain ⟨vs, q, rl⟩ := h S2 H2 r k g
    exact ⟨vs, vs[i]'(by rw [← rl.length]; exact hi), q, List.getElem?_eq_getElem _⟩
  stops := fun S2 H2 r k g => by
    obtain ⟨vs, q, rl⟩ := h S2 H2 r k g
    exact ⟨vs, q, by rw [rl.length]; exact Nat.le_refl _⟩
  yields := fun i S2 H2 v H3 hi r k g y => by
    obtain ⟨vs, q, rl⟩ := h S2 H2 r k g
    obtain ⟨rfl, y⟩ := y
    obtain ⟨x, e, rx⟩ := rl.get' (y vs q)
    exact ⟨x, e, r, .refl, rx⟩
theorem walkd_tup {gd} (h : TupAt K gd S H a l) : WalkD K (Itt K a) l gd S H where
  goes := fun i S2 H2 hi r k g => by
    obtain ⟨vs, q, rl⟩ := h S2 H2 r k g
    exact ⟨vs, vs[i]'(by rw [← rl.length]; exact hi), q, List.getElem?_eq_getElem _⟩
  stops := fun S2 H2 r k g => by
    obtain ⟨vs, q, rl⟩ := h S2 H2 r k g
    exact ⟨vs, q, by rw [rl.length]; exact Nat.le_refl _⟩
  yields := fun i S2 H2 v H3 hi r k g y => by
    obtain ⟨vs, q, rl⟩ := h S2 H2 r k g
    obtain ⟨rfl, y⟩ := y
    obtain ⟨x, e, rx⟩ := rl.get' (y vs q)
    exact ⟨x, e, r, .refl, rx⟩
/-- pairs of the place and the item -/
def enumD : Nat → List D → List D
  | _, [] => []
  | n, x :: xs => .tup [.int (n : Nat), x] :: enumD (n + 1) xs
theorem enumD_length : ∀ (n : Nat) (l : List D), (enumD n l).length = l.length
  | _, [] => rfl
  | n, x :: xs => by simp [enumD, enumD_length (n + 1) xs]
theorem enumD_get : ∀ (n i : Nat) (l : List D), (enumD n l)[i]? = (l[i]?).map fun x => .tup [.int ((n + i : Nat) : Int), x]
  | _, _, [] => by simp [enumD]
  | n, 0, x :: xs => by simp [enumD]
  | n, i + 1, x :: xs => by
    have := enumD_get (n + 1) i xs
    simp only [enumD, List.getElem?_cons_succ, this]
    rw [show n + 1 + i = n + (i + 1) by omega]
theorem walkd_enum {gd} (h : LstAt K gd S H a l) : WalkD K (Ite K a) (enumD 0 l) gd S H where
  goes := fun i S2 H2 hi r k g => by
    obtain ⟨vs, q, rl⟩ := h S2 H2 r k g
    rw [enumD_length] at hi
    exact ⟨vs, vs[i]'(by rw [← rl.length]; exact hi), q, List.getElem?_eq_getElem _⟩
  stops := fun S2 H2 r k g => by
    obtain ⟨vs, q, rl⟩ := h S2 H2 r k g
    rw [enumD_length]
    exact ⟨vs, q, by rw [rl.length]; exact Nat.le_refl _⟩
  yields := fun i S2 H2 v H3 hi r k g y => by
    obtain ⟨vs, q, rl⟩ := h S2 H2 r k g
    obtain ⟨T, x, rfl, hT, rfl, y⟩ := y
    obtain ⟨dx, e, rx⟩ := rl.get' (y vs q)
    refine ⟨.tup [.int (i : Nat), dx], ?_, r.new hT, Keep.new hT, rep_pair hT (.int _) rx⟩
    rw [enumD_get, e]
    simp
def zipD : List D → List D → List D
  | x :: xs, y :: ys => .tup [x, y] :: zipD xs ys
  | _, _ => []
theorem zipD_length : ∀ (l m : List D), (zipD l m).length = min l.length m.length
  | [], _ => by simp [zipD]
  | _ :: _, [] => by simp [zipD]
  | x :: xs, y :: ys => by simp [zipD, zipD_length xs ys, Nat.succ_min_succ]
theorem zipD_get : ∀ (i : Nat) (l m : List D) (x y : D), l[i]? = some x → m[i]? = some y → (zipD l m)[i]? = some (.tup [x, y])
  | _, [], _, _, _, h, _ => by simp at h
  | _, _ :: _, [], _, _, _, h => by simp at h
  | 0, x :: xs, y :: ys, _, _, h, h' => by simp at h h'; simp [zipD, h, h']
  | i + 1, x :: xs, y :: ys, _, _, h, h' => by
    simp only [zipD, List.getElem?_cons_succ] at *
    exact zipD_get i xs ys _ _ h h'
theorem walkd_zip {gd} (h : LstAt K gd S H a l) (h' : LstAt K gd S H b m) : WalkD K (Itz K a b) (zipD l m) gd S H where
  goes := fun i S2 H2 hi r k g => by
    obtain ⟨vs, q, rl⟩ := h S2 H2 r k g
    obtain ⟨us, q', rl'⟩ := h' S2 H2 r k g
    rw [zipD_length] at hi
    have e1 := rl.length
    have e2 := rl'.length
    exact ⟨vs, us, vs[i]'(by omega), us[i]'(by omega), q, q', List.getElem?_eq_getElem _, List.getElem?_eq_getElem _⟩
  stops := fun S2 H2 r k g => by
    obtain ⟨vs, q, rl⟩ := h S2 H2 r k g
    obtain ⟨us, q', rl'⟩ := h' S2 H2 r k g
    rw [zipD_length]
    have e1 := rl.length
    have e2 := rl'.length
    exact ⟨vs, us, q, q', by omega⟩
  yields := fun i S2 H2 v H3 hi r k g y => by
    obtain ⟨vs, q, rl⟩ := h S2 H2 r k g
    obtain ⟨us, q', rl'⟩ := h' S2 H2 r k g
    obtain ⟨T, x, z, rfl, hT, rfl, y, y'⟩ := y
    obtain ⟨dx, e, rx⟩ := rl.get' (y vs q)
    obtain ⟨dy, e', ry⟩ := rl'.get' (y' us q')
    exact ⟨.tup [dx, dy], zipD_get _ _ _ _ _ e e', r.new hT, Keep.new hT, rep_pair hT rx ry⟩
theorem walkd_zipT {gd} (h : TupAt K gd S H a l) (h' : TupAt K gd S H b m) : WalkD K (RZ.ItzT K a b) (zipD l m) gd S H where
  goes := fun i S2 H2 hi r k g => by
    obtain ⟨vs, q, rl⟩ := h S2 H2 r k g
    obtain ⟨us, q', rl'⟩ := h' S2 H2 r k g
    rw [zipD_length] at hi
    have e1 := rl.length
    have e2 := rl'.length
    exact ⟨vs, us, vs[i]'(by omega), us[i]'(by omega), q, q', List.getElem?_eq_getElem _, List.getElem?_eq_getElem _⟩
  stops := fun S2 H2 r k g => by
    obtain ⟨vs, q, rl⟩ := h S2 H2 r k g
    obtain ⟨us, q', rl'⟩ := h' S2 H2 r k g
    rw [zipD_length]
    have e1 := rl.length
    have e2 := rl'.length
    exact ⟨vs, us, q, q', by omega⟩
  yields := fun i S2 H2 v H3 hi r k g y => by
    obtain ⟨vs, q, rl⟩ := h S2 H2 r k g
    obtain ⟨us, q', rl'⟩ := h' S2 H2 r k g
    obtain ⟨T, x, z, rfl, hT, rfl, y, y'⟩ := y
    obtain ⟨dx, e, rx⟩ := rl.get' (y vs q)
    obtain ⟨dy, e', ry⟩ := rl'.get' (y' us q')
    exact ⟨.tup [dx, dy], zipD_get _ _ _ _ _ e e', r.new hT, Keep.new hT, rep_pair hT rx ry⟩
def rngD (lo : Int) : Nat → List D
  | 0 => []
  | n + 1 => .int lo :: rngD (lo + 1) n
theorem rngD_length : ∀ (lo : Int) (n : Nat), (rngD lo n).length = n
  | _, 0 => rfl
  | lo, n + 1 => by simp [rngD, rngD_length (lo + 1) n]
theorem rngD_get : ∀ (lo : Int) (n i : Nat), i < n → (rngD lo n)[i]? = some (.int (lo + i))
  | _, 0, _, h => absurd h (Nat.not_lt_zero _)
  | lo, n + 1, 0, _ => by simp [rngD]
  | lo, n + 1, i + 1, h => by
    simp only [rngD, List.getElem?_cons_succ]
    rw [rngD_get (lo + 1) n i (by omega)]
    congr 2
    omega
theorem walkd_range {lo : Int} {n : Nat} : WalkD K (Itr lo n) (rngD lo n) none S H where
  goes := fun i S2 H2 hi r k g => by rw [rngD_length] at hi; exact hi
  stops := fun S2 H2 r k g => by rw [rngD_length]; exact Nat.le_refl _
  yields := fun i S2 H2 v H3 hi r k g y => by
    rw [rngD_length] at hi
    obtain ⟨rfl, rfl⟩ := y
    exact ⟨_, rngD_get lo n i hi, r, .refl, .int _⟩
def chsD (x : Str) : List D := x.cps.toList.map fun c => .str ⟨#[c]⟩
theorem walkd_str {x : Str} : WalkD K (Its x) (chsD x) none S H where
  goes := fun i S2 H2 hi r k g => by show i < x.cps.size; simpa [chsD] using hi
  stops := fun S2 H2 r k g => by simp [chsD, Its]
  yields := fun i S2 H2 v H3 hi r k g y => by
    obtain ⟨rfl, c, e, rfl⟩ := y
    exact ⟨.str ⟨#[c]⟩, by simp [chsD, e], r, .refl, .str _⟩
def itemsD (l : List (Key × D)) : List D := l.map fun p => .tup [keyD p.1, p.2]
def keysD (l : List (Key × D)) : List D := l.map fun p => keyD p.1
theorem RepK.get' : ∀ {l : List (Key × D)} {vs : List (Key × V)} {i : Nat} {k : Key} {v : V}, RepK K S H l vs → vs[i]? = some (k, v) → ∃ x, l[i]? = some (k, x) ∧ Rep K S H x v
  | _, _, _, _, _, .nil, e => by simp at e
  | _, _, 0, _, _, .cons r _, e => by simp at e; obtain ⟨rfl, rfl⟩ := e; exact ⟨_, rfl, r⟩
  | _, _, i + 1, _, _, .cons _ t, e => by
    obtain ⟨x, h1, h2⟩ := RepK.get' (i := i) t (by simpa using e)
    exact ⟨x, by simpa using h1, h2⟩
/-- a locked dict as it was -/
structure DctAt (K : PySem.W.Frag) (gd : Option (Addr × SO)) (S : Sto) (H : Hp) (d : Addr) (o : Obj) (kvs : List (Key × V)) (l : List (Key × D)) : Prop where
  at_ : H d = some (.frz o (.dK kvs))
  rep : ∀ S2 H2, Rel K S2 H2 → Keep K S H S2 H2 → grd gd S2 → RepK K S2 H2 l kvs
theorem walkd_items {gd} {kvs : List (Key × V)} (h : DctAt K gd S H d o kvs l') : WalkD K (Iti d o kvs) (itemsD l') gd S H where
  goes := fun i S2 H2 hi r k g => ⟨k.z _ _ _ h.at_, by have := (h.rep S2 H2 r k g).length; simp [itemsD] at hi; omega⟩
  stops := fun S2 H2 r k g => ⟨k.z _ _ _ h.at_, by have := (h.rep S2 H2 r k g).length; simp [itemsD]; omega⟩
  yields := fun i S2 H2 v H3 hi r k g y => by
    obtain ⟨T, kk, w, e, rfl, hT, rfl⟩ := y
    obtain ⟨x, e', rx⟩ := (h.rep S2 H2 r k g).get' e
    exact ⟨.tup [keyD kk, x], by simp [itemsD, e'], r.new hT, Keep.new hT, rep_pair hT (keyD_rep kk) rx⟩
theorem walkd_keys {gd} {kvs : List (Key × V)} (h : DctAt K gd S H d o kvs l') : WalkD K (Itk d o kvs) (keysD l') gd S H where
  goes := fun i S2 H2 hi r k g => ⟨k.z _ _ _ h.at_, by have := (h.rep S2 H2 r k g).length; simp [keysD] at hi; omega⟩
  stops := fun S2 H2 r k g => ⟨k.z _ _ _ h.at_, by have := (h.rep S2 H2 r k g).length; simp [keysD]; omega⟩
  yields := fun i S2 H2 v H3 hi r k g y => by
    obtain ⟨rfl, kk, w, e, rfl⟩ := y
    obtain ⟨x, e', rx⟩ := (h.rep S2 H3 r k g).get' e
    exact ⟨keyD kk, by simp [keysD, e'], r, .refl, keyD_rep kk⟩
end
end SB
end

section
set_option Elab.async false
set_option linter.all false
set_option maxRecDepth 100000
set_option autoImplicit false
/-! SB9: the iterables; for; list comprehensions. -/
namespace SB
open PySem PySem.Spec L2

/-- what a value gives when it is walked: its items, and what must stand still -/
def srcOf (S : Sto) (x : D) : Option (List D × Option (Addr × SO)) := match x with
  | .tup l => some (l, none)
  | .lst l => some (l, none)
  | .scr l => some (l, none)
  | .str z => some (chsD z, none)
  | .dct l => some (keysD l, none)
  | .ref a => (match S a with
    | some (.lst l) => some (l, some (a, .lst l))
    | _ => none)
  | _ => none
/-- .. of lists and tuples alone -/
def srcL (S : Sto) (x : D) : Option (Bool × List D × Option (Addr × SO)) := match x with
  | .tup l => some (true, l, none)
  | .lst l => some (false, l, none)
  | .scr l => some (false, l, none)
  | .ref a => (match S a with
    | some (.lst l) => some (false, l, some (a, .lst l))
    | _ => none)
  | _ => none
section
variable {K : PySem.W.Frag} {S : Sto} {H : Hp} {x : D} {v : V} {l : List D} {gd : Option (Addr × SO)}
theorem srcL_rep {b : Bool} (r : Rep K S H x v) (q : Rel K S H) (e : srcL S x = some (b, l, gd)) : ∃ a, v = .ref a ∧ grd gd S ∧ match b with
    | true => (∃ xs, SqT K H a xs) ∧ TupAt K gd S H a l
    | false => (∃ xs, SqL K H a xs) ∧ LstAt K gd S H a l := by
  cases r with
  | tup h n rl => cases e; exact ⟨_, rfl, trivial, ⟨_, h⟩, fun S2 H2 r2 k2 g2 => by
      obtain ⟨a', vs', e', h1, h2, h3⟩ := (k2.r _ _ (.tup h n rl)).tup_inv
      cases e'; exact ⟨vs', h1, h3⟩⟩
  | lst h n z rl => cases e; exact ⟨_, rfl, trivial, ⟨_, .inl (.inl h)⟩, fun S2 H2 r2 k2 g2 => by
      cases k2.r _ _ (.lst h n z rl) with
      | lst h' n' z' rl' => exact ⟨_, .inl (.inl h'), rl'⟩⟩
  | scr h n z rl => cases e; exact ⟨_, rfl, trivial, ⟨_, (.inl h)⟩, fun S2 H2 r2 k2 g2 => by
      cases k2.r _ _ (.scr h n z rl) with
      | scr h' n' z' rl' => exact ⟨_, (.inl h'), rl'⟩
      | scrK h' z' rl' => exact ⟨_, h'.sq, rl'⟩⟩
  | scrK h z rl => cases e; exact ⟨_, rfl, trivial, ⟨_, h.sq⟩, fun S2 H2 r2 k2 g2 => by
      cases k2.r _ _ (.scrK h z rl) with
      | scr h' n' z' rl' => exact ⟨_, (.inl h'), rl'⟩
      | scrK h' z' rl' => exact ⟨_, h'.sq, rl'⟩⟩
  | ref a =>
    unfold srcL at e
    dsimp only at e
    cases h : S a with
    | none => rw [h] at e; cases e
    | some o =>
      rw [h] at e
      cases o with
      | lst l' =>
        cases e
        obtain ⟨z, vs, h1, h2⟩ := q a _ h
        exact ⟨_, rfl, h, ⟨_, .inl (.inl h1)⟩, fun S2 H2 r2 k2 g2 => by
          obtain ⟨z, vs, h1, h2⟩ := r2 a _ g2
          exact ⟨vs, .inl (.inl h1), h2⟩⟩
      | _ => cases e
  | _ => cases e
end

/-- a dict that nobody writes any more is locked for good -/
theorem lock_ok {X : Cx} {pins : List (Addr × Obj)} {σ : St} {H : Hp} {s : Shared} {S : Sto} {d : Addr} {kvs : List (Key × V)} (I : Inv X pins σ H s) (q : Rd H d (.dK kvs)) (hn : S d = none) (r : Rel X.K S H) :
    ∃ od H', Inv X pins σ H' s ∧ H' d = some (.frz od (.dK kvs)) ∧ Rel X.K S H' ∧ Keep X.K S H S H' := by
  rcases q with q | ⟨od, q⟩
  · obtain ⟨od, I'⟩ := I.lock q (u := .dK kvs) trivial
    have ne : ∀ {b : Addr} {o : HO}, H b = some o → o ≠ .dK kvs → b ≠ d := fun {b o} e n z => by rw [z, q] at e; exact n (Option.some.inj e).symm
    have k : Keep X.K S H S (upd H d (.frz od (.dK kvs))) := Lean'.keep
      { tup := fun a vs h => by
          rcases h with (h | ⟨o, h⟩) | h
          · exact .inl (.inl ((upd_ne (ne h (by intro z; cases z))).trans h))
          · exact .inl (.inr ⟨o, (upd_ne (ne h (by intro z; cases z))).trans h⟩)
          · exact .inr h
        lst := fun a vs h n => ⟨(upd_ne (ne h (by intro z; cases z))).trans h, n⟩
        scr := fun a vs h n => ⟨by
          rcases h with h | ⟨o, h⟩
          · exact .inl ((upd_ne (ne h (by intro z; cases z))).trans h)
          · exact .inr ⟨o, (upd_ne (ne h (by intro z; cases z))).trans h⟩, n⟩
        dct := fun a vs h n => ⟨by
          by_cases e : a = d
          · subst e
            rcases h with h | ⟨o, h⟩
            · rw [q] at h; cases h; exact .inr ⟨od, upd_same⟩
            · rw [q] at h; cases h
          · rcases h with h | ⟨o, h⟩
            · exact .inl ((upd_ne e).trans h)
            · exact .inr ⟨o, (upd_ne e).trans h⟩, n⟩
        ins := fun a c dx gs h n => ⟨(upd_ne (ne h (by intro z; cases z))).trans h, n⟩ } fun a o u h => (upd_ne (ne h (by intro z; cases z))).trans h
    exact ⟨od, _, I', upd_same, fun a o e => (r a o e).keep k (upd_ne fun z => by rw [z, hn] at e; cases e), k⟩
  · exact ⟨od, H, I, q, r, .refl⟩
theorem dctAt_of {K : PySem.W.Frag} {S : Sto} {H : Hp} {d : Addr} {od : Obj} {l : List (Key × D)} {kvs : List (Key × V)} (e : H d = some (.frz od (.dK kvs))) (hn : S d = none) (z : l.length ≤ sizeLine) (r : RepK K S H l kvs) : DctAt K none S H d od kvs l :=
  ⟨e, fun S2 H2 r2 k2 _ => by
    have h2 := k2.z _ _ _ e
    cases k2.r _ _ (.dct (.inr ⟨od, e⟩) hn z r) with
    | dct h n z' r' =>
      rcases h with h | ⟨o, h⟩
      · rw [h2] at h; cases h
      · rw [h2] at h; cases h; exact r'⟩
/-! ### the iterables -/
/-- E, whatever it is -/
def wSrc (we : WpE) : WpI := fun ς S R RE => we ς S (fun x S1 => ∃ l gd, srcOf S1 x = some (l, gd) ∧ R l gd S1) RE
section
variable {X : Cx} {F : Fr} {tg e e2 : Expr} {we : WpE} {wa : WpA} {p pos tpos apos cpos : Pos} {elts : List Expr} {kk : Nat}
theorem wi_src (he : WE X F e we) : WI X F tg e (wSrc we) := by
  refine ⟨fun pins s σ H Q I h => ?_⟩
  obtain ⟨ς, S, R, g, k, hw, hR⟩ := h
  refine thn (he.run pins s σ H _ I (tE.mk (Q := fun v H1 => ∃ x S1, Good X.K ς S1 σ H1 ∧ Keep X.K S H S1 H1 ∧ Rep X.K S1 H1 x v ∧ ∃ l gd, srcOf S1 x = some (l, gd) ∧ R l gd S1) g k hw fun x S1 v H1 h1 g1 k1 d1 r1 => ⟨x, S1, g1, d1, r1, h1⟩))
    fun u s1 ⟨v, H1, I1, rv, x, S1, g1, d1, r1, l, gd, e1, h1⟩ => ?_
  have lists : ∀ b, srcL S1 x = some (b, l, gd) → wpAny (model X.prog X.w) X.A (pyIter u) (PIE X pins σ tg Q) X.xe s1 := fun b e => by
    obtain ⟨a, rfl, hg, ha⟩ := srcL_rep r1 g1.rel e
    obtain rfl : u = Value.ref a := rv
    cases b with
    | true =>
      obtain ⟨⟨xs, hq⟩, at_⟩ := ha
      obtain ⟨its, rv, pp, hz⟩ := I1.tuple hq
      refine wpAny_pyIter_tuple (show s1.heap.IsTuple a its.toArray from pp) ?_
      exact pi_one (tk := s1.toks) I1 _ (turn_tuple a _) ⟨_, Heap.get?_push_size _ rfl, rfl, rfl⟩ (hR l gd S1 H1 _ h1 g1.rel d1 (walkd_tup at_))
    | false =>
      obtain ⟨⟨xs, hq⟩, at_⟩ := ha
      obtain ⟨its, rv, pp, hz⟩ := I1.list hq
      refine wpAny_pyIter_list pp.isList ?_
      exact pi_one (tk := s1.toks) I1 _ (turn_list a _) ⟨_, Heap.get?_push_size _ rfl, rfl, rfl⟩ (hR l gd S1 H1 _ h1 g1.rel d1 (walkd_list at_))
  cases x with
  | tup l' => exact lists true (by cases e1; rfl)
  | lst l' => exact lists false (by cases e1; rfl)
  | scr l' => exact lists false (by cases e1; rfl)
  | ref a =>
    unfold srcOf at e1
    dsimp only at e1
    refine lists false ?_
    unfold srcL
    dsimp only
    cases h : S1 a with
    | none => rw [h] at e1; cases e1
    | some o =>
      rw [h] at e1
      cases o with
      | lst l' => cases e1; rfl
      | _ => cases e1
  | str z =>
    cases e1
    cases r1
    obtain ⟨t, rfl⟩ := rv
    have q := hR _ none S1 H1 _ h1 g1.rel d1 (walkd_str (x := z))
    cases ha : z.cps.all (· < 128)
    · exact wpAny_pyIter_wide ha (pi_one (tk := s1.toks) I1 _ (turn_str _ z t "str_iterator" (.inr rfl)) ⟨_, Heap.get?_push_size _ rfl, rfl, rfl⟩ q)
    · exact wpAny_pyIter_ascii ha (pi_one (tk := s1.toks) I1 _ (turn_str _ z t "str_ascii_iterator" (.inl rfl)) ⟨_, Heap.get?_push_size _ rfl, rfl, rfl⟩ q)
  | dct l' =>
    cases e1
    cases r1 with
    | dct h n z rl =>
      obtain rfl : u = Value.ref _ := rv
      obtain ⟨od, H2, I2, h2, r2, k2⟩ := lock_ok I1 h n g1.rel
      obtain ⟨hs, hgd, hx, es, ep, vs, hdt, hsz, kv, hm⟩ := I2.frzK h2
      refine iter_keys hs hgd hx hdt (pi_one (tk := s1.toks) I2 _ (turn_keys _ hdt) ⟨_, Heap.get?_push_size _ rfl, rfl, ?_⟩ (hR _ none S1 H2 _ h1 r2 (d1.trans k2) (walkd_keys (dctAt_of h2 n z (k2.k rl)))))
      rw [hsz] <;> rfl
  | non => cases e1
  | bl _ => cases e1
  | int _ => cases e1
  | ins _ _ => cases e1
  | exc _ => cases e1
/-- E.items() -/
def wItems (we : WpE) : WpI := fun ς S R RE => we ς S (fun x S1 => ∃ l, x = .dct l ∧ R (itemsD l) none S1) RE
theorem wi_items (he : WE X F e we) (hb : baseOk e = true) (hline : (apos.endLine == cpos.line) = true) : WI X F (.Tuple elts kk tpos) (.Call (.Attribute e "items" apos) [] [] cpos) (wItems we) := by
  refine ⟨fun pins s σ H Q I h => ?_⟩
  obtain ⟨ς, S, R, g, k, hw, hR⟩ := h
  refine wpAny_Call_method (T := "dict") (id := "dict.items") (attrBase hb) rfl hline PySem.F.plainAttrs_dict PySem.F.slot_dict_items PySem.F.type_dict_items
    (thn (he.run pins s σ H _ I (tE.mk (Q := fun v H1 => ∃ l S1, Rel X.K S1 H1 ∧ Keep X.K S H S1 H1 ∧ Rep X.K S1 H1 (.dct l) v ∧ R (itemsD l) none S1) g k hw fun x S1 v H1 h1 g1 k1 d1 r1 => by
      obtain ⟨l, rfl, h1⟩ := h1
      exact ⟨l, S1, g1.rel, d1, r1, h1⟩)) fun u s1 ⟨v, H0, I0, rv, l, S1, g1, d1, r1, h1⟩ => ?_)
  cases r1 with
  | dct h n z rl =>
    rename_i d kvs
    obtain rfl : u = Value.ref d := rv
    obtain ⟨od, H1, I1, hd, r2, k2⟩ := lock_ok I0 h n g1
    obtain ⟨hs, hgd, hx, es, ep, vs, hdt, hsz, kv, hm⟩ := I1.frzK hd
    have hl : kvs.length = vs.length := Paired.length kv
    refine ⟨hm.dictOf.typeIs, hm.dictOf.mapOf.noDict, ?_⟩
    have I2 : Inv X pins σ H1 { s1 with heap := s1.heap.push { cls := .type "dict_items", data := .fields #[.ref d] } } := I1.kept (t' := s1.toks) fun b ob q => Heap.get?_push_of_some _ q
    have fin : wpAny (model X.prog X.w) X.A (pyIter (.ref s1.heap.objs.size)) (PIE X pins σ (.Tuple elts kk tpos) Q) X.xe { s1 with heap := s1.heap.push { cls := .type "dict_items", data := .fields #[.ref d] } } := by
      refine wpAny_pyIter_items (d := d) (knd := mixKind X.prog X.w) ⟨_, Heap.get?_push_size _ rfl, rfl, rfl⟩ (hm.push _) (pi_one (tk := s1.toks) I2 _ (turn_items _ hdt) ⟨.none, .none, ?_⟩ (hR _ none S1 H1 _ h1 r2 (d1.trans k2) (walkd_items (dctAt_of hd n z (k2.k rl)))))
      rw [hl]
      exact Heap.get?_push_size _ rfl
    show wpAny _ _ (callWith cpos (.builtin "dict.items") [.ref d] [] []) _ X.xe s1
    exact method_meetsIn PySem.F.slot_dict_items PySem.F.entry_dict_items rfl (PySem.evalArgs_none ⟨rfl, hm.dictOf.typeIs, PySem.F.args_dict_items_1 _, _, meets_dict_items (mixKind X.prog X.w) d hs, ⟨vs, hm.dictOf⟩, fin⟩)
/-- range(n), range(i, j) -/
def wRange (wa : WpA) : WpI := fun ς S R RE => wa ς S (fun xs S1 => match xs with
  | [.int j] => -(2 ^ 62) ≤ j ∧ j < 2 ^ 62 ∧ R (rngD 0 j.toNat) none S1
  | _ => False) RE
def wRange2 (wa : WpA) : WpI := fun ς S R RE => wa ς S (fun xs S1 => match xs with
  | [.int i, .int j] => -(2 ^ 62) ≤ i ∧ i < 2 ^ 62 ∧ -(2 ^ 62) ≤ j ∧ j < 2 ^ 62 ∧ R (rngD i (j - i).toNat) none S1
  | _ => False) RE
theorem wi_range1 (hg : Gl X "range") (hm : X.mg "range" = none) (ha : WA X F [e] wa) (hs : noStar e = true) : WI X F tg (.Call (.Name "range" p) [e] [] pos) (wRange wa) :=
  (pi_range1 hg hm ha (starEach_cons (es := []) hs)).imp fun σ H Q ⟨ς, S, R, g, k, hw, hR⟩ => by
    refine tA.mk g k hw fun xs S1 vs H1 h1 g1 k1 d1 r1 => ?_
    split at h1
    · cases r1 with
      | cons r t =>
        cases t; cases r
        exact ⟨_, rfl, h1.1, h1.2.1, hR _ none S1 H1 _ h1.2.2 g1.rel d1 walkd_range⟩
    · exact h1.elim
theorem wi_range2 (hg : Gl X "range") (hm : X.mg "range" = none) (ha : WA X F [e, e2] wa) (hs : noStar e = true) (hs2 : noStar e2 = true) : WI X F tg (.Call (.Name "range" p) [e, e2] [] pos) (wRange2 wa) :=
  (pi_range2 hg hm ha (by rw [starEach_cons hs, starEach_cons hs2]; rfl) (starEach_cons (es := []) hs2)).imp fun σ H Q ⟨ς, S, R, g, k, hw, hR⟩ => by
    refine tA.mk g k hw fun xs S1 vs H1 h1 g1 k1 d1 r1 => ?_
    split at h1
    · cases r1 with
      | cons r t =>
        cases t with
        | cons r' t =>
          cases t; cases r; cases r'
          exact ⟨_, _, rfl, ⟨h1.1, h1.2.1, h1.2.2.1, h1.2.2.2.1⟩, hR _ none S1 H1 _ h1.2.2.2.2 g1.rel d1 walkd_range⟩
    · exact h1.elim
/-- enumerate(list) -/
def wEnum (wa : WpA) : WpI := fun ς S R RE => wa ς S (fun xs S1 => ∃ x l gd, xs = [x] ∧ srcL S1 x = some (false, l, gd) ∧ R (enumD 0 l) gd S1) RE
theorem wi_enum (hg : Gl X "enumerate") (hm : X.mg "enumerate" = none) (ha : WA X F [e] wa) (hs : noStar e = true) : WI X F (.Tuple elts kk tpos) (.Call (.Name "enumerate" p) [e] [] pos) (wEnum wa) :=
  (pi_enum hg hm ha (starEach_cons (es := []) hs)).imp fun σ H Q ⟨ς, S, R, g, k, hw, hR⟩ => by
    refine tA.mk g k hw fun xs S1 vs H1 h1 g1 k1 d1 r1 => ?_
    obtain ⟨x, l, gd, rfl, e1, h1⟩ := h1
    obtain ⟨v, rfl, r⟩ := r1.one
    obtain ⟨a, rfl, hg, ⟨xs, hq⟩, at_⟩ := srcL_rep r g1.rel e1
    exact ⟨a, xs, rfl, hq, hR _ gd S1 H1 _ h1 g1.rel d1 (walkd_enum at_)⟩
/-- zip(a, b), both lists, or both tuples; at most one of them one's own -/
def wZip (wa : WpA) : WpI := fun ς S R RE => wa ς S (fun xs S1 => ∃ x y b l m gx gy, xs = [x, y] ∧ srcL S1 x = some (b, l, gx) ∧ srcL S1 y = some (b, m, gy) ∧ (gx = none ∨ gy = none) ∧ R (zipD l m) (gx.or gy) S1) RE
theorem LstAt.or1 {K : PySem.W.Frag} {gx gy : Option (Addr × SO)} {S : Sto} {H : Hp} {a : Addr} {l : List D} (h : LstAt K gx S H a l) (o : gx = none ∨ gy = none) : LstAt K (gx.or gy) S H a l := fun S2 H2 r k g => h S2 H2 r k (by
  cases gx with
  | none => trivial
  | some _ => exact g)
theorem LstAt.or2 {K : PySem.W.Frag} {gx gy : Option (Addr × SO)} {S : Sto} {H : Hp} {a : Addr} {l : List D} (h : LstAt K gy S H a l) (o : gx = none ∨ gy = none) : LstAt K (gx.or gy) S H a l := fun S2 H2 r k g => h S2 H2 r k (by
  cases gx with
  | none => exact g
  | some _ =>
    cases gy with
    | none => trivial
    | some _ => rcases o with o | o <;> cases o)
theorem TupAt.or1 {K : PySem.W.Frag} {gx gy : Option (Addr × SO)} {S : Sto} {H : Hp} {a : Addr} {l : List D} (h : TupAt K gx S H a l) (o : gx = none ∨ gy = none) : TupAt K (gx.or gy) S H a l := fun S2 H2 r k g => h S2 H2 r k (by
  cases gx with
  | none => trivial
  | some _ => exact g)
theorem TupAt.or2 {K : PySem.W.Frag} {gx gy : Option (Addr × SO)} {S : Sto} {H : Hp} {a : Addr} {l : List D} (h : TupAt K gy S H a l) (o : gx = none ∨ gy = none) : TupAt K (gx.or gy) S H a l := fun S2 H2 r k g => h S2 H2 r k (by
  cases gx with
  | none => exact g
  | some _ =>
    cases gy with
    | none => trivial
    | some _ => rcases o with o | o <;> cases o)
theorem wi_zip (hg : Gl X "zip") (hm : X.mg "zip" = none) (ha : WA X F [e, e2] wa) (hs : noStar e = true) (hs2 : noStar e2 = true) : WI X F (.Tuple elts kk tpos) (.Call (.Name "zip" p) [e, e2] [] pos) (wZip wa) :=
  (RZ.pi_zipA hg hm ha (starEach_cons hs) (by rw [starEach_cons hs2]; rfl)).imp fun σ H Q ⟨ς, S, R, g, k, hw, hR⟩ => by
    refine tA.mk g k hw fun xs S1 vs H1 h1 g1 k1 d1 r1 => ?_
    obtain ⟨x, y, b, l, m, gx, gy, rfl, e1, e2, o, h1⟩ := h1
    obtain ⟨v, u, rfl, r, r'⟩ := r1.two
    obtain ⟨a, rfl, hg, at1⟩ := srcL_rep r g1.rel e1
    obtain ⟨a', rfl, hg', at2⟩ := srcL_rep r' g1.rel e2
    cases b with
    | true =>
      obtain ⟨⟨xs, hq⟩, at1⟩ := at1
      obtain ⟨⟨ys, hq'⟩, at2⟩ := at2
      exact ⟨a, a', xs, ys, rfl, .inr ⟨hq, hq', hR _ _ S1 H1 _ h1 g1.rel d1 (walkd_zipT (at1.or1 o) (at2.or2 o))⟩⟩
    | false =>
      obtain ⟨⟨xs, hq⟩, at1⟩ := at1
      obtain ⟨⟨ys, hq'⟩, at2⟩ := at2
      exact ⟨a, a', xs, ys, rfl, .inl ⟨hq, hq', hR _ _ S1 H1 _ h1 g1.rel d1 (walkd_zip (at1.or1 o) (at2.or2 o))⟩⟩
end
end SB
end

section
set_option Elab.async false
set_option linter.all false
set_option maxRecDepth 100000
set_option autoImplicit false
/-! SB10: statements' judgement; for; list comprehensions. -/
namespace SB
open PySem PySem.Spec L2

structure ES where
  nx : En → Sto → Prop
  rt : D → Sto → Prop
  bk : En → Sto → Prop := fun _ _ => False
  ct : En → Sto → Prop := fun _ _ => False
abbrev PxE := String → En → Sto → Prop
abbrev WpS := En → Sto → ES → PxE → Prop
structure EOk (K : PySem.W.Frag) (S : Sto) (H : Hp) (E : ES) (D : Ends) : Prop where
  nx : ∀ ς' S' σ' H', E.nx ς' S' → Good K ς' S' σ' H' → Keep K S H S' H' → D.nx σ' H'
  rt : ∀ x S' v H', E.rt x S' → Rel K S' H' → Keep K S H S' H' → Rep K S' H' x v → D.rt v H'
  bk : ∀ ς' S' σ' H', E.bk ς' S' → Good K ς' S' σ' H' → Keep K S H S' H' → D.bk σ' H'
  ct : ∀ ς' S' σ' H', E.ct ς' S' → Good K ς' S' σ' H' → Keep K S H S' H' → D.ct σ' H'
theorem EOk.from {K : PySem.W.Frag} {S S1 : Sto} {H H1 : Hp} {E : ES} {D : Ends} (e : EOk K S H E D) (k : Keep K S H S1 H1) : EOk K S1 H1 E D :=
  ⟨fun _ _ _ _ q g k' => e.nx _ _ _ _ q g (k.trans k'), fun _ _ _ _ q g k' r => e.rt _ _ _ _ q g (k.trans k') r, fun _ _ _ _ q g k' => e.bk _ _ _ _ q g (k.trans k'), fun _ _ _ _ q g k' => e.ct _ _ _ _ q g (k.trans k')⟩
def tS (K : PySem.W.Frag) (F : Fr) (w : WpS) : TS := fun D σ H => ∃ (ς : En) (S : Sto) (E : ES), Good K ς S σ H ∧ Keep K F.S0 F.H0 S H ∧ w ς S E F.XE ∧ EOk K S H E D
def WS (X : Cx) (F : Fr) (st : Stmt) (w : WpS) : Prop := PS X st (tS X.K F w)
def WSs (X : Cx) (F : Fr) (sts : List Stmt) (w : WpS) : Prop := PSs X sts (tS X.K F w)
theorem tS.step {K : PySem.W.Frag} {F : Fr} {w : WpS} {t : TS} (h : ∀ (ς : En) (S : Sto) (E : ES) (D : Ends) (σ : St) (H : Hp), Good K ς S σ H → Keep K F.S0 F.H0 S H → w ς S E F.XE → EOk K S H E D → t D σ H) : ∀ D σ H, tS K F w D σ H → t D σ H :=
  fun D σ H ⟨ς, S, E, g, k, hw, e⟩ => h ς S E D σ H g k hw e
theorem tI.mk {K : PySem.W.Frag} {F : Fr} {w : WpI} {ς : En} {S : Sto} {R : List D → Option (Addr × SO) → Sto → Prop} {σ : St} {H : Hp} {Q : It → Hp → Prop} (g : Good K ς S σ H) (k : Keep K F.S0 F.H0 S H) (hw : w ς S R (fun c S' => F.XE c ς S'))
    (hR : ∀ xs gd S' H' J, R xs gd S' → Good K ς S' σ H' → Keep K F.S0 F.H0 S' H' → Keep K S H S' H' → WalkD K J xs gd S' H' → Q J H') : tI K F w σ H Q :=
  ⟨ς, S, R, g, k, hw, fun xs gd S' H' J q r k' p => hR xs gd S' H' J q (g.keep r k') (k.trans k') k' p⟩

/-! ### for -/
def forL (gd : Option (Addr × SO)) (t : Tg) (tb : WpS) : List D → En → Sto → ES → PxE → Prop
  | [], ς, S, E, _ => grd gd S ∧ E.nx ς S
  | x :: xs, ς, S, E, XE => grd gd S ∧ ∃ ς1, t.bind x ς = some ς1 ∧ tb ς1 S { E with nx := fun ς' S' => forL gd t tb xs ς' S' E XE, ct := fun ς' S' => forL gd t tb xs ς' S' E XE, bk := E.nx } XE
def wFor (wi : WpI) (t : Tg) (tb : WpS) : WpS := fun ς S E XE => wi ς S (fun xs gd S1 => forL gd t tb xs ς S1 E XE) (fun c S' => XE c ς S')
theorem forL_grd {gd : Option (Addr × SO)} {t : Tg} {tb : WpS} {xs : List D} {ς : En} {S : Sto} {E : ES} {XE : PxE} (h : forL gd t tb xs ς S E XE) : grd gd S := by
  cases xs with
  | nil => exact h.1
  | cons _ _ => exact h.1
theorem ws_for {X : Cx} {F : Fr} {tg iter : Expr} {body : List Stmt} {wi : WpI} {t : Tg} {tb : WpS} {pos : Pos} (hp : PassesOwn (model X.prog X.w) X.A X.env X.xe) (hc : X.calm = true) (hi : WI X F tg iter wi) (hg : WG X tg t) (hb : WSs X F body tb)
    (hs : ∀ x, foldedSetIterable iter X.env x = pure x) : WS X F (.For tg iter body [] pos) (wFor wi t tb) :=
  (ps_for hp hc hi hg hb hs).imp (tS.step fun ς S E D σ H g k hw eo => by
    refine tI.mk g k hw fun xs gd S1 H1 J h1 g1 k1 d1 wd => ?_
    refine ⟨fun i m σ' H' => m = xs.length - i ∧ i ≤ xs.length ∧ ∃ ς' S', Good X.K ς' S' σ' H' ∧ Keep X.K S1 H1 S' H' ∧ forL gd t tb (xs.drop i) ς' S' E F.XE,
      ⟨xs.length, by simp, Nat.zero_le _, ς, S1, g1, .refl, h1⟩, ?_⟩
    rintro i m σ' H' ⟨rfl, hi, ς', S', g', k', hf⟩
    by_cases hlt : i < xs.length
    · rw [List.drop_eq_getElem_cons hlt] at hf
      obtain ⟨hgd, ς1, hbd, htb⟩ := hf
      refine .inr ⟨wd.goes i S' H' hlt g'.rel k' hgd, fun σ2 H2 => ∃ ς2 S2, Good X.K ς2 S2 σ2 H2 ∧ Keep X.K S1 H1 S2 H2 ∧ forL gd t tb (xs.drop (i + 1)) ς2 S2 E F.XE, fun σ2 H2 ⟨ς2, S2, a, b, c⟩ => ⟨xs.length - (i + 1), by omega, rfl, hlt, ς2, S2, a, b, c⟩, ?_⟩
      intro v H3 y
      obtain ⟨d, e, r3, k3, rd⟩ := wd.yields i S' H' v H3 hlt g'.rel k' hgd y
      rw [List.getElem?_eq_getElem hlt] at e
      cases e
      have g3 := g'.keep r3 k3
      obtain ⟨σ2, h2, g2, _⟩ := Tg.bind_ok hbd g3 rd
      refine h2 _ ⟨ς1, S', _, g2, (k1.trans k').trans k3, htb, ?_⟩
      exact ⟨fun ς4 S4 σ4 H4 q g4 k4 => ⟨ς4, S4, g4, (k'.trans k3).trans k4, q⟩, fun x S4 v4 H4 q r4 k4 p4 => eo.rt _ _ _ _ q r4 (((d1.trans k').trans k3).trans k4) p4,
        fun ς4 S4 σ4 H4 q g4 k4 => eo.nx _ _ _ _ q g4 (((d1.trans k').trans k3).trans k4), fun ς4 S4 σ4 H4 q g4 k4 => ⟨ς4, S4, g4, (k'.trans k3).trans k4, q⟩⟩
    · obtain rfl : i = xs.length := by omega
      rw [List.drop_length] at hf
      exact .inl ⟨wd.stops S' H' g'.rel k' hf.1, eo.nx _ _ _ _ hf.2 g' (d1.trans k')⟩)

/-! ### list comprehensions -/
def Fr.calm (F : Fr) : Fr := { F with XE := fun _ _ _ => False }
/-- the items: p the new list -/
def lcL (gd : Option (Addr × SO)) (t : Tg) (wt : WpT) (we : WpE) (p : Addr) (ς : En) : List D → List D → Sto → (List D → Sto → Prop) → Prop
  | [], acc, S, R => grd gd S ∧ S p = some (.lst acc) ∧ R acc S
  | x :: xs, acc, S, R => grd gd S ∧ ∃ ς1, t.bind x ς = some ς1 ∧ wt ς1 S (fun b S1 => if b = true then we ς1 S1 (fun y S2 => S2 p = some (.lst acc) ∧ acc.length + 1 ≤ sizeLine ∧ lcL gd t wt we p ς xs (acc ++ [y]) (S2.set p (.lst (acc ++ [y]))) R) (fun _ _ => False)
      else lcL gd t wt we p ς xs acc S1 R) (fun _ _ => False)
def lcEnd (own : Bool) (p : Addr) (R : Pd) (acc : List D) (S : Sto) : Prop := match own with
  | true => R (.ref p) S
  | false => R (.lst acc) (S.del p)
def wLc (own : Bool) (wi : WpI) (t : Tg) (wt : WpT) (we : WpE) (vs : List Nat) : WpE := fun ς S R RE => wi ς S (fun xs gd S1 => ∀ p, S1 p = none → lcL gd t wt we p (wipeE ς vs) xs [] (S1.set p (.lst [])) (lcEnd own p R)) RE
def wYes : WpT := fun _ S R _ => R true S
def WTs (X : Cx) (F : Fr) (ifs : List Expr) (w : WpT) : Prop := PTs X ifs (tT X.K F w)
section
variable {X : Cx} {F : Fr}
theorem wts_nil : WTs X F [] wYes := ⟨fun pins s σ H Q I ⟨ς, S, R, g, k, hw, hR⟩ => pts_nil.run pins s σ H Q I (hR true S H hw g.rel .refl)⟩
theorem wts_one {c : Expr} {w : WpT} (h : WT X F c w) : WTs X F [c] w := pts_one h
theorem lc_ok {own : Bool} {wi : WpI} {t : Tg} {wt : WpT} {we : WpE} {vs : List Nat} (hv : ∀ i ∈ t.ixs, i ∈ vs) {ς : En} {S : Sto} {R : Pd} {σ : St} {H : Hp} {Q : VK} (g : Good X.K ς S σ H) (k : Keep X.K F.S0 F.H0 S H) (hw : wLc own wi t wt we vs ς S R (fun c S' => F.XE c ς S'))
    (hR : ∀ x S' v H', R x S' → Rel X.K S' H' → Keep X.K S H S' H' → Rep X.K S' H' x v → Q v H') : tLc (tI X.K F wi) (t.of X.K) (tT X.K F.calm wt) (tE X.K F.calm we) vs σ H Q := by
  refine tI.mk g k hw fun xs gd S1 H1 J h1 g1 k1 d1 wd => ?_
  intro p hp
  have sp := g1.rel.fresh hp
  have h1 := h1 p sp
  have R0 : Rel X.K (S1.set p (.lst [])) (upd H1 p (.lst [])) := g1.rel.own hp ⟨by show 0 ≤ sizeLine; omega, [], upd_same, .nil⟩
  have K0 : Keep X.K S1 H1 (S1.set p (.lst [])) (upd H1 p (.lst [])) := Keep.own hp
  refine ⟨fun i m H' => m = xs.length - i ∧ i ≤ xs.length ∧ ∃ S' acc, Rel X.K S' H' ∧ Keep X.K S1 H1 S' H' ∧ lcL gd t wt we p (wipeE ς vs) (xs.drop i) acc S' (lcEnd own p R),
    ⟨xs.length, by simp, Nat.zero_le _, _, [], R0, K0, h1⟩, ?_⟩
  rintro i m H' ⟨rfl, hi, S', acc, r', k', hf⟩
  by_cases hlt : i < xs.length
  · rw [List.drop_eq_getElem_cons hlt] at hf
    obtain ⟨hgd, ς1, hbd, htb⟩ := hf
    refine .inr ⟨wd.goes i S' H' hlt r' k' hgd, fun H2 => ∃ S2 acc2, Rel X.K S2 H2 ∧ Keep X.K S1 H1 S2 H2 ∧ lcL gd t wt we p (wipeE ς vs) (xs.drop (i + 1)) acc2 S2 (lcEnd own p R), fun H2 ⟨S2, acc2, a, b, c⟩ => ⟨xs.length - (i + 1), by omega, rfl, hlt, S2, acc2, a, b, c⟩, ?_⟩
    intro v H3 y
    obtain ⟨d, e, r3, k3, rd⟩ := wd.yields i S' H' v H3 hlt r' k' hgd y
    rw [List.getElem?_eq_getElem hlt] at e
    cases e
    have g3 : Good X.K (wipeE ς vs) S' (wipe σ vs) H3 := ((g1.keep r' k').keep r3 k3).wipe vs
    obtain ⟨σ2, h2, g2, hwp⟩ := Tg.bind_ok hbd g3 rd
    have ww : wipe (wipe σ vs) vs = wipe σ vs → wipe σ2 vs = wipe σ vs := fun e => (hwp vs hv).trans e
    have idem : wipe (wipe σ vs) vs = wipe σ vs := by
      have gen : ∀ us : List Nat, (∀ i ∈ us, i ∈ vs) → wipe (wipe σ us) vs = wipe σ vs := fun us => by
        induction us with
        | nil => intro _; rfl
        | cons u us ih =>
          intro h
          show wipe ((wipe σ us).set u none) vs = _
          rw [wipe_set, if_pos (h u List.mem_cons_self), ih fun i hi => h i (List.mem_cons_of_mem _ hi)]
      exact gen vs fun _ h => h
    refine h2 _ ⟨ww idem, tT.mk (F := F.calm) g2 ((k1.trans k').trans k3) htb fun b S4 H4 h4 g4 k4 d4 => ?_⟩
    split at h4
    · rename_i hb
      rw [if_pos hb]
      refine tE.mk (F := F.calm) g4 k4 h4 fun y S5 u H5 h5 g5 k5 d5 r5 => ?_
      obtain ⟨s5, z5, h5⟩ := h5
      obtain ⟨z, us, e5, ra⟩ := g5.rel p _ s5
      refine ⟨us, e5, by rw [← ra.length]; omega, S5.set p (.lst (acc ++ [y])), acc ++ [y], ?_, ?_, h5⟩
      · exact g5.rel.put s5 ⟨by simp; omega, us ++ [u], upd_same, (Keep.putR g5.rel s5).l (ra.append (.cons r5 .nil))⟩
      · exact (((k'.trans k3).trans d4).trans d5).trans (Keep.putR g5.rel s5)
    · rename_i hb
      rw [if_neg hb]
      exact ⟨S4, acc, g4.rel, (k'.trans k3).trans d4, h4⟩
  · obtain rfl : i = xs.length := by omega
    rw [List.drop_length] at hf
    obtain ⟨hgd, sp', hE⟩ := hf
    refine .inl ⟨wd.stops S' H' r' k' hgd, ?_⟩
    cases own with
    | true => exact hR _ S' _ H' hE r' (d1.trans k') (.ref p)
    | false =>
      obtain ⟨z, us, e5, ra⟩ := r' p _ sp'
      have hd' : ∀ b, (S'.del p) b = S' b ∨ (S'.del p) b = none := fun b => by
        by_cases e : b = p
        · subst e; exact .inr Sto.del_same
        · rw [Sto.del_ne e]; exact .inl rfl
      have LK := Keep.left (K := X.K) (H := H') hd'
      exact hR _ (S'.del p) _ H' hE (r'.left hd') ((d1.trans k').trans LK) (.lst e5 Sto.del_same z (LK.l ra))
variable {elt tg iter : Expr} {ifs : List Expr} {scope : Scope} {own : List (Str × Nat)} {pos spos py : Pos} {wi : WpI} {t : Tg} {wt : WpT} {we : WpE} {fr : Bool}
theorem we_lc (hc : X.calm = true) (hN : X.N.Nodup) (hi : WI X F tg iter wi) (ok : BlkOk X.N X.env.scope scope own) (hv : ∀ i ∈ t.ixs, i ∈ own.map (·.2))
    (hg : ∀ (s : Shared) (H : Hp) (C : Addr) (cl : List (Str × Addr)) (fp : List Addr), WG (X.blk s H scope (compEnvC scope cl C X.env) fp) tg t)
    (ht : ∀ (s : Shared) (H : Hp) (C : Addr) (cl : List (Str × Addr)) (fp : List Addr), WTs (X.blk s H scope (compEnvC scope cl C X.env) fp) F.calm ifs wt)
    (he : ∀ (s : Shared) (H : Hp) (C : Addr) (cl : List (Str × Addr)) (fp : List Addr), WE (X.blk s H scope (compEnvC scope cl C X.env) fp) F.calm elt we) (hs : ∀ x, foldedSetIterable iter X.env x = pure x) :
    WE X F (.ListComp elt [⟨tg, iter, ifs, 0⟩] scope pos) (wLc fr wi t wt we (own.map (·.2))) :=
  (pe_lc (g := t.of X.K) (tt := tT X.K F.calm wt) (te := tE X.K F.calm we) hc hN hi ok (fun s H C cl fp => hg s H C cl fp) (fun s H C cl fp => ht s H C cl fp) (fun s H C cl fp => he s H C cl fp) hs).imp fun σ H Q ⟨ς, S, R, g, k, hw, hR⟩ => lc_ok hv g k hw hR
/-- a statement name = value, from its expression's reading -/
def wSet (i : Nat) (we : WpE) : WpS := fun ς S E XE => we ς S (fun x S1 => E.nx (ς.set i (some x)) S1) (fun c S' => XE c ς S')
theorem set_ok {i : Nat} {te : TE} (h : ∀ (ς : En) (S : Sto) (R : Pd) (σ : St) (H : Hp) (Q : VK), Good X.K ς S σ H → Keep X.K F.S0 F.H0 S H → we ς S R (fun c S' => F.XE c ς S') → (∀ x S' v H', R x S' → Rel X.K S' H' → Keep X.K S H S' H' → Rep X.K S' H' x v → Q v H') → te σ H Q) :
    ∀ D σ H, tS X.K F (wSet i we) D σ H → tAsg te (gName i) D σ H := tS.step fun ς S E D σ H g k hw eo => by
  exact h ς S _ σ H _ g k hw fun x S' v H' q r k' p => eo.nx _ _ _ _ q ((g.keep r k').set p) k'
theorem ws_setLc {i : Nat} {y : Str} (hc : X.calm = true) (hN : X.N.Nodup) (hy : X.N[i]? = some y) (hyl : X.env.scope.names.lookup y = some .local)
    (hsw : swapsWith (.ListComp elt [⟨tg, iter, ifs, 0⟩] scope pos) (some (.Name y py)) spos.line X.env = pure true) (hi : WI X F tg iter wi) (ok : BlkOk X.N X.env.scope scope own) (hv : ∀ i ∈ t.ixs, i ∈ own.map (·.2))
    (hg : ∀ (s : Shared) (H : Hp) (C : Addr) (cl : List (Str × Addr)) (fp : List Addr), WG (X.blk s H scope (compEnvC scope cl C X.env) fp) tg t)
    (ht : ∀ (s : Shared) (H : Hp) (C : Addr) (cl : List (Str × Addr)) (fp : List Addr), WTs (X.blk s H scope (compEnvC scope cl C X.env) fp) F.calm ifs wt)
    (he : ∀ (s : Shared) (H : Hp) (C : Addr) (cl : List (Str × Addr)) (fp : List Addr), WE (X.blk s H scope (compEnvC scope cl C X.env) fp) F.calm elt we) (hs : ∀ x, foldedSetIterable iter X.env x = pure x) :
    WS X F (.Assign [.Name y py] (.ListComp elt [⟨tg, iter, ifs, 0⟩] scope pos) spos) (wSet i (wLc fr wi t wt we (own.map (·.2)))) :=
  (ps_setLc (g := t.of X.K) (tt := tT X.K F.calm wt) (te := tE X.K F.calm we) hc hN hy hyl hsw hi ok (fun s H C cl fp => hg s H C cl fp) (fun s H C cl fp => ht s H C cl fp) (fun s H C cl fp => he s H C cl fp) hs).imp (set_ok fun ς S R σ H Q g k hw hR => lc_ok hv g k hw hR)
end
end SB
end

section
set_option Elab.async false
set_option linter.all false
set_option maxRecDepth 100000
set_option autoImplicit false
/-! SB11: statements; a def's body. -/
namespace SB
open PySem PySem.Spec L2

def wNx : WpS := fun ς S E _ => E.nx ς S
def wSeq (a b : WpS) : WpS := fun ς S E XE => a ς S { E with nx := fun ς' S' => b ς' S' E XE } XE
def wExpr (we : WpE) : WpS := fun ς S E XE => we ς S (fun _ S1 => E.nx ς S1) (fun c S' => XE c ς S')
def wRet (we : WpE) : WpS := fun ς S E XE => we ς S (fun x S1 => E.rt x S1) (fun c S' => XE c ς S')
def wRetN : WpS := fun ς S E _ => E.rt .non S
def wIf (wt : WpT) (wa wb : WpS) : WpS := fun ς S E XE => wt ς S (fun b S1 => if b = true then wa ς S1 E XE else wb ς S1 E XE) (fun c S' => XE c ς S')
def wAsg (t : Tg) (we : WpE) : WpS := fun ς S E XE => we ς S (fun x S1 => ∃ ς', t.bind x ς = some ς' ∧ E.nx ς' S1) (fun c S' => XE c ς S')
def wBrk : WpS := fun ς S E _ => E.bk ς S
def wCnt : WpS := fun ς S E _ => E.ct ς S
section
variable {X : Cx} {F : Fr} {st : Stmt} {rest : List Stmt} {w u : WpS} {e : Expr} {we : WpE} {pos pos' : Pos}
theorem wss_nil : WSs X F [] wNx := pss_nil.imp fun D σ H ⟨ς, S, E, g, k, hw, eo⟩ => eo.nx _ _ _ _ hw g .refl
theorem wss_one (h : WS X F st w) : WSs X F [st] w := pss_one h
theorem wss_cons (h : WS X F st w) (hr : WSs X F rest u) : WSs X F (st :: rest) (wSeq w u) :=
  (pss_cons h hr).imp fun D σ H ⟨ς, S, E, g, k, hw, eo⟩ => ⟨ς, S, _, g, k, hw, ⟨fun ς' S' σ' H' q g' k' => ⟨ς', S', E, g', k.trans k', q, eo.from k'⟩, eo.rt, eo.bk, eo.ct⟩⟩
theorem ws_pass : WS X F (.Pass pos) wNx := ps_pass.imp fun D σ H ⟨ς, S, E, g, k, hw, eo⟩ => eo.nx _ _ _ _ hw g .refl
theorem ws_brk : WS X F (.Break pos) wBrk := ps_break.imp fun D σ H ⟨ς, S, E, g, k, hw, eo⟩ => eo.bk _ _ _ _ hw g .refl
theorem ws_cnt : WS X F (.Continue pos) wCnt := ps_continue.imp fun D σ H ⟨ς, S, E, g, k, hw, eo⟩ => eo.ct _ _ _ _ hw g .refl
theorem ws_doc {x j} : WS X F (.Expr (.Constant (.str x) j pos) pos') wNx := ps_doc.imp fun D σ H ⟨ς, S, E, g, k, hw, eo⟩ => eo.nx _ _ _ _ hw g .refl
theorem ws_expr (he : WE X F e we) (hs : swapsWith e none pos.line X.env = pure false) : WS X F (.Expr e pos) (wExpr we) :=
  (ps_expr he hs).imp fun D σ H ⟨ς, S, E, g, k, hw, eo⟩ => tE.mk g k hw fun x S' v H' q g' _ d _ => eo.nx _ _ _ _ q g' d
theorem ws_ret (he : WE X F e we) : WS X F (.Return (some e) pos) (wRet we) :=
  (ps_ret he).imp fun D σ H ⟨ς, S, E, g, k, hw, eo⟩ => tE.mk g k hw fun x S' v H' q g' _ d r => eo.rt _ _ _ _ q g'.rel d r
theorem ws_retN : WS X F (.Return none pos) wRetN := ps_retN.imp fun D σ H ⟨ς, S, E, g, k, hw, eo⟩ => eo.rt _ _ _ _ hw g.rel .refl .non
theorem ws_if {c : Expr} {a b : List Stmt} {wt : WpT} {wa wb : WpS} (hc : WT X F c wt) (ha : WSs X F a wa) (hb : WSs X F b wb) : WS X F (.If c a b pos) (wIf wt wa wb) :=
  (ps_if hc ha hb).imp fun D σ H ⟨ς, S, E, g, k, hw, eo⟩ => tT.mk g k hw fun b S' H' q g' k' d => by
    cases b with
    | true => rw [if_pos rfl] at q ⊢; exact ⟨ς, S', E, g', k', q, eo.from d⟩
    | false => rw [if_neg Bool.false_ne_true] at q ⊢; exact ⟨ς, S', E, g', k', q, eo.from d⟩
theorem ws_set {i : Nat} {x : Str} (hN : X.N.Nodup) (hi : X.N[i]? = some x) (hx : Loc X.env.scope x) (he : WE X F e we) (hs : swapsWith e (some (.Name x pos')) pos.line X.env = pure false) (hf : X.fn x = true ∨ X.env.scope.names.lookup x = some .local) :
    WS X F (.Assign [.Name x pos'] e pos) (wSet i we) :=
  (ps_set hN hi hx he hs hf).imp (set_ok fun ς S R σ H Q g k hw hR => ⟨ς, S, R, g, k, hw, hR⟩)
theorem ws_asg {tg : Expr} {t : Tg} (he : WE X F e we) (hg : WG X tg t) (hs : swapsWithSole [tg] e pos.line X.env = pure false) (hw : swappedStores [tg] e X.env = pure none)
    (h1 : (assignEach [tg] X.env).map (·.2) = [assign tg X.env]) : WS X F (.Assign [tg] e pos) (wAsg t we) :=
  (ps_asg he hg hs hw h1).imp fun D σ H ⟨ς, S, E, g, k, hw, eo⟩ => tE.mk g k hw fun x S' v H' q g' _ d r => by
    obtain ⟨ς', hb, q⟩ := q
    obtain ⟨σ', h1, g2, _⟩ := Tg.bind_ok hb g' r
    exact h1 _ (eo.nx _ _ _ _ q g2 d)

/-! ### o[i] = v -/
def fSetI (x i y : D) (S : Sto) (R : Sto → Prop) : Prop := ∃ a, x = .ref a ∧ match S a with
  | some (.lst l) => ∃ k j, i = .int k ∧ ixN l.length k = some j ∧ R (S.set a (.lst (l.set j y)))
  | some (.dct l) => ∃ k, keyOf i = some k ∧ l.length + 1 ≤ sizeLine ∧ R (S.set a (.dct (putD k y l)))
  | _ => False
def wSetI (wv wo wi : WpE) : WpS := fun ς S E XE => wv ς S (fun y S1 => wo ς S1 (fun x S2 => wi ς S2 (fun i S3 => fSetI x i y S3 fun S4 => E.nx ς S4) (fun c S' => XE c ς S')) (fun c S' => XE c ς S')) (fun c S' => XE c ς S')
def rSetLD : TSet := fun o i v H Q => rSetL o i v H Q ∨ ∃ a H', o = .ref a ∧ DPut H a i v H' ∧ Q H'
theorem set_ld (hu : X.A.units + 1 < cLine) : PSet X rSetLD := fun pins s σ H o i v ov iv u Q I r1 r2 r3 h => by
  rcases h with h | ⟨a, H', rfl, g, q⟩
  · exact set_list pins s σ H o i v ov iv u Q I r1 r2 r3 h
  · cases r1
    exact d_setItem hu I g r2 r3 fun s' I' => ⟨H', I', q⟩
theorem setI_ok {K : PySem.W.Frag} {S S' : Sto} {H : Hp} {x i y : D} {o iv v : V} {R : Sto → Prop} {Q : Hp → Prop} (q : Rel K S H) (rx : Rep K S H x o) (ri : Rep K S H i iv) (ry : Rep K S H y v) (h : fSetI x i y S R)
    (hR : ∀ S' H', R S' → Rel K S' H' → Keep K S H S' H' → Q H') : rSetLD o iv v H Q := by
  obtain ⟨a, rfl, h⟩ := h
  cases rx
  cases e : S a with
  | none => rw [e] at h; exact h.elim
  | some u =>
    rw [e] at h
    cases u with
    | lst l =>
      obtain ⟨k, j, rfl, hj, h⟩ := h
      obtain ⟨z, vs, h1, h2⟩ := q a _ e
      cases ri
      refine .inl ⟨a, vs, k, j, rfl, rfl, h1, by rw [← h2.length]; exact hj, hR _ _ h ?_ (Keep.putR q e)⟩
      exact q.put e ⟨by rw [List.length_set]; exact z, vs.set j v, upd_same, (Keep.putR q e).l (h2.set j ry)⟩
    | dct l =>
      obtain ⟨k, hk, z1, h⟩ := h
      obtain ⟨z, vs, h1, h2⟩ := q a _ e
      refine .inr ⟨a, _, rfl, .inl ⟨vs, k, h1, keyOf_rep ri hk, by rw [← h2.length]; omega, rfl⟩, hR _ _ h ?_ (Keep.putR q e)⟩
      exact q.put e ⟨Nat.le_trans (putD_le k y l) z1, putK vs k v, upd_same, (Keep.putR q e).k (h2.put ry)⟩
    | _ => exact h.elim
theorem ws_setI {o i : Expr} {wo wi : WpE} {p : Pos} (hu : X.A.units + 1 < cLine) (he : WE X F e we) (ho : WE X F o wo) (hi : WE X F i wi)
    (ha : ∀ v, assign (.Subscript o i p) X.env v = (do
      let ov ← holding [v] (eval o X.env)
      let iv ← holding [v, ov] (eval i X.env)
      standAt p
      holding [v, ov, iv] (setItem ov iv v)
      release [v, ov, iv] []))
    (hs : swapsWithSole [.Subscript o i p] e pos.line X.env = pure false) (hw : swappedStores [.Subscript o i p] e X.env = pure none) (h1 : (assignEach [.Subscript o i p] X.env).map (·.2) = [assign (.Subscript o i p) X.env]) :
    WS X F (.Assign [.Subscript o i p] e pos) (wSetI we wo wi) :=
  (ps_asg he (pg_sub ho hi (set_ld hu) ha) hs hw h1).imp fun D σ H ⟨ς, S, E, g, k, hw, eo⟩ => tE.mk g k hw fun y S1 v H1 q g1 k1 d1 r1 =>
    tE.mk g1 k1 q fun x S2 o H2 q g2 k2 d2 r2 => tE.mk g2 k2 q fun i S3 iv H3 q g3 k3 d3 r3 =>
      setI_ok (S' := S3) g3.rel (d3 _ _ r2) r3 (d3 _ _ (d2 _ _ r1)) q fun S4 H4 q r4 k4 => eo.nx _ _ _ _ q (g3.keep r4 k4) (((d1.trans d2).trans d3).trans k4)

/-! ### o.f = v -/
def putFd (f : String) (y : D) : List (String × D) → List (String × D)
  | [] => [(f, y)]
  | (g, x) :: r => if g = f then (g, y) :: r else (g, x) :: putFd f y r
theorem putFd_le (f : String) (y : D) : ∀ fs : List (String × D), (putFd f y fs).length ≤ fs.length + 1
  | [] => Nat.le_refl _
  | (g, x) :: r => by unfold putFd; split <;> simp [putFd_le f y r]
theorem putFd_mem {f : String} {y : D} : ∀ {fs : List (String × D)} {p : String × D}, p ∈ putFd f y fs → p.1 = f ∨ ∃ q ∈ fs, q.1 = p.1
  | [], p, h => by simp [putFd] at h; exact .inl (by rw [h])
  | (g, x) :: r, p, h => by
    unfold putFd at h
    split at h
    · rcases List.mem_cons.mp h with e | h
      · rename_i hg; exact .inl (by rw [e]; exact hg)
      · exact .inr ⟨p, List.mem_cons_of_mem _ h, rfl⟩
    · rcases List.mem_cons.mp h with e | h
      · exact .inr ⟨(g, x), List.mem_cons_self, by rw [e]⟩
      · rcases putFd_mem h with e | ⟨q, hq, e⟩
        · exact .inl e
        · exact .inr ⟨q, List.mem_cons_of_mem _ hq, e⟩
theorem RepF.length {K : PySem.W.Frag} {S : Sto} {H : Hp} : ∀ {fs : List (String × D)} {gs : List (Str × V)}, RepF K S H fs gs → fs.length = gs.length
  | _, _, .nil => rfl
  | _, _, .cons _ t => by simp [RepF.length t]
theorem RepF.put {K : PySem.W.Frag} {S : Sto} {H : Hp} {f : String} {y : D} {v : V} (r : Rep K S H y v) : ∀ {fs : List (String × D)} {gs : List (Str × V)}, RepF K S H fs gs → RepF K S H (putFd f y fs) (putF (Str.ofString f) v gs)
  | _, _, .nil => .cons r .nil
  | _, _, .cons (f := g) rx t => by
    unfold putFd putF
    by_cases e : g = f
    · rw [if_pos e, if_pos (by rw [e])]
      exact .cons r t
    · rw [if_neg e, if_neg fun z => e (ofString_inj z)]
      exact .cons rx (RepF.put r t)
def fSetF (cs : List String) (f : String) (x y : D) (S : Sto) (R : Sto → Prop) : Prop := ∃ a, x = .ref a ∧ match S a with
  | some (.ins c fs) => cs.contains c = true ∧ fs.length + 1 ≤ 1000 ∧ R (S.set a (.ins c (putFd f y fs)))
  | _ => False
def wSetF (cs : List String) (f : String) (wv wo : WpE) : WpS := fun ς S E XE => wv ς S (fun y S1 => wo ς S1 (fun x S2 => fSetF cs f x y S2 fun S4 => E.nx ς S4) (fun c S' => XE c ς S')) (fun c S' => XE c ς S')
theorem ws_setF {cs : List String} {f : String} {o : Expr} {wo : WpE} (hn : ∀ c ∈ cs, NoAttr X.K (clA X.K c) (Str.ofString f)) (he : WE X F e we) (ho : WE X F o wo) (hs : swapsWith e (some (.Attribute o (Str.ofString f) pos')) pos.line X.env = pure false) :
    WS X F (.Assign [.Attribute o (Str.ofString f) pos'] e pos) (wSetF cs f we wo) :=
  (ps_fld ho he hs).imp fun D σ H ⟨ς, S, E, g, k, hw, eo⟩ => tE.mk g k hw fun y S1 v H1 q g1 k1 d1 r1 => tE.mk g1 k1 q fun x S2 o H2 q g2 k2 d2 r2 => by
    obtain ⟨a, rfl, h⟩ := q
    cases r2
    cases e : S2 a with
    | none => rw [e] at h; exact h.elim
    | some u =>
      rw [e] at h
      cases u with
      | ins c fs =>
        obtain ⟨hc, hl, h⟩ := h
        obtain ⟨⟨c1, c2, c3⟩, dx, gs, h1, h2⟩ := g2.rel a _ e
        have na := hn c (by simpa using hc)
        have hlg : fs.length = gs.length := RepF.length h2
        refine ⟨a, _, dx, gs, rfl, h1, c1, na, by omega, eo.nx _ _ _ _ h (g2.keep ?_ (Keep.putR g2.rel e)) ((d1.trans d2).trans (Keep.putR g2.rel e))⟩
        refine g2.rel.put e ⟨⟨c1, fun p hp => ?_, Nat.le_trans (putFd_le f y fs) hl⟩, dx, _, upd_same, (Keep.putR g2.rel e).f (RepF.put (d2 _ _ r1) h2)⟩
        rcases putFd_mem hp with e | ⟨q, hq, e⟩
        · rw [e]; exact na
        · rw [← e]; exact c2 q hq
      | _ => exact h.elim

/-! ### exceptions -/
def wRaise (c : String) : WpS := fun ς S _ XE => XE c ς S
structure ExOk (K : PySem.W.Frag) (c : String) : Prop where
  q : PySem.W.excIn K (clA K c) He.veBase "ValueError.__new__" = true
  kp : PySem.W.keepIn K (.ref (clA K c)) = true
  s1 : PySem.W.subIn K (.ref (clA K c)) (.type "BaseException") = some true
  s2 : PySem.W.typeIn K (.ref (clA K c)) = some (.type "type")
theorem tk_calm {F : Fr} : Takes X (wF X.K F.calm) := takes_none5.imp fun _ _ _ _ ⟨_, _, _, _, _, _, _, h⟩ => h
theorem ws_raise {c : String} {x m : Str} {j : Nat} {p p2 cpos : Pos} {initId : String} (Fb : ExcBaseFacts "ValueError" "ValueError.__new__" initId He.veBase) (ex : ExOk X.K c) (hc : X.calm = true) (tk : Takes X (wF X.K F)) (gC : X.mg x = some (.ref (clA X.K c))) (hg : Gl X x)
    (hdb : (x == ("__debug__" : Str)) = false) : WS X F (.Raise (some (.Call (.Name x p) [.Constant (.str m) j p2] [] cpos)) none pos) (wRaise c) :=
  (ps_raise hc tk (pmk_own Fb ex.q gC ex.kp (raises_own ex.s1 ex.s2) hg hdb)).imp fun D σ H ⟨ς, S, E, g, k, hw, eo⟩ => ⟨c, ς, S, rfl, fun _ => rfl, g, k, hw⟩
end
end SB
end

section
set_option Elab.async false
set_option linter.all false
set_option maxRecDepth 100000
set_option autoImplicit false
/-! SB12: while, try, own classes asked, a def's body, the end. -/
namespace SB
open PySem PySem.Spec L2

/-! ### while -/
def wWhile (wt : WpT) (wb : WpS) : WpS := fun ς S E XE => ∃ W : Nat → En → Sto → Prop, (∃ m, W m ς S) ∧ ∀ m ς S, W m ς S →
  wt ς S (fun b S1 => if b = true then wb ς S1 { E with nx := fun ς' S' => ∃ m', m' < m ∧ W m' ς' S', ct := fun ς' S' => ∃ m', m' < m ∧ W m' ς' S', bk := E.nx } XE else E.nx ς S1) (fun c S' => XE c ς S')
section
variable {X : Cx} {F : Fr} {pos : Pos}
theorem ws_while {c : Expr} {body : List Stmt} {wt : WpT} {wb : WpS} (hp : PassesOwn (model X.prog X.w) X.A X.env X.xe) (hc : WT X F c wt) (hb : WSs X F body wb) : WS X F (.While c body [] pos) (wWhile wt wb) :=
  (ps_while hp hc hb).imp fun D σ H ⟨ς, S, E, g, k, ⟨W, ⟨m, w0⟩, hW⟩, eo⟩ => by
    refine ⟨fun m σ' H' => ∃ ς' S', Good X.K ς' S' σ' H' ∧ Keep X.K S H S' H' ∧ W m ς' S', ⟨m, ς, S, g, .refl, w0⟩, ?_⟩
    rintro m σ' H' ⟨ς', S', g', k', w'⟩
    refine tT.mk g' (k.trans k') (hW m ς' S' w') fun b S2 H2 q g2 k2 d2 => ?_
    have eo' := eo.from (k'.trans d2)
    cases b with
    | true =>
      rw [if_pos rfl] at q ⊢
      refine ⟨fun σ3 H3 => ∃ m', m' < m ∧ ∃ ς' S', Good X.K ς' S' σ3 H3 ∧ Keep X.K S H S' H3 ∧ W m' ς' S', fun σ3 H3 h => h, ?_⟩
      exact ⟨ς', S2, _, g2, k2, q, ⟨fun _ _ _ _ ⟨m', hm, w⟩ g3 k3 => ⟨m', hm, _, _, g3, (k'.trans d2).trans k3, w⟩, eo'.rt, eo'.nx, fun _ _ _ _ ⟨m', hm, w⟩ g3 k3 => ⟨m', hm, _, _, g3, (k'.trans d2).trans k3, w⟩⟩⟩
    | false =>
      rw [if_neg Bool.false_ne_true] at q ⊢
      exact eo'.nx _ _ _ _ q g2 .refl
end

/-! ### try -/
/-- of the own errors: is c a kind of C -/
def subB (c C : String) : Bool := c == C || C == "BookError"
structure ExcT (K : PySem.W.Frag) (cs : List String) : Prop where
  m : ∀ c ∈ cs, ∀ C ∈ cs, PySem.W.exmOne K (.ref (clA K c)) (.ref (clA K C)) = some (subB c C)
def ES.unset (E : ES) (i : Nat) : ES := ⟨fun ς S => E.nx (ς.set i none) S, E.rt, fun ς S => E.bk (ς.set i none) S, fun ς S => E.ct (ς.set i none) S⟩
def wTryAs (cs : List String) (C : String) (i : Nat) (wb : WpS) (ws : Addr → String → WpS) : WpS := fun ς S E XE => wb ς S E (fun c ς' S' => c ∈ cs ∧ if subB c C = true then ∀ a, ws a c (ς'.set i (some (.ref a))) S' (E.unset i) (fun _ _ _ => False) else XE c ς' S')
def wTryO (cs : List String) (C : String) (wb : WpS) (ws : WpS) : WpS := fun ς S E XE => wb ς S E (fun c ς' S' => c ∈ cs ∧ if subB c C = true then ws ς' S' E (fun _ _ _ => False) else XE c ς' S')
section
variable {X : Cx} {F : Fr} {x n : Str} {C : String} {i : Nat} {body suite : List Stmt} {b₀ : Stmt} {np pos pos' : Pos} {wb : WpS} {cs : List String}
theorem EOk.unset {K : PySem.W.Frag} {S : Sto} {H : Hp} {E : ES} {D : Ends} {i : Nat} (eo : EOk K S H E D) : EOk K S H (E.unset i) { nx := fun σ' H' => D.nx (σ'.set i none) H', rt := D.rt, bk := fun σ' H' => D.bk (σ'.set i none) H', ct := fun σ' H' => D.ct (σ'.set i none) H' } :=
  ⟨fun _ _ _ _ q g k => eo.nx _ _ _ _ q g.unset k, eo.rt, fun _ _ _ _ q g k => eo.bk _ _ _ _ q g.unset k, fun _ _ _ _ q g k => eo.ct _ _ _ _ q g.unset k⟩
theorem ws_try_as {ws : Addr → String → WpS} (hs : X.stack = X.env :: X.outer) (hf : X.env.frame = some X.env.locals) (hN : X.N.Nodup) (hi : X.N[i]? = some n) (hln : X.env.kindOf n = some .local) (hc : Names X x (.ref (clA X.K C))) (tk : Takes X (wF X.K F)) (ex : ExcT X.K cs) (hC : C ∈ cs)
    (hb : ∀ (F' : Fr) (pn : List (Addr × Obj)) (xe : Value → Shared → Prop), Takes (X.tr pn xe) (wF X.K F') → PassesOwn (model X.prog X.w) X.A X.env xe → WSs (X.tr pn xe) F' body wb)
    (hsu : ∀ (F' : Fr) (a : Addr) (oe : Obj) (c : String) (d : Option Addr) (pn : List (Addr × Obj)), Zc (.ref (clA X.K c)) d oe → (∃ vs, oe.data = .fields vs) → (c ≠ "NoPot" → d = none) → WSs (X.suite a ((a, oe) :: pn)) F'.calm (b₀ :: suite) (ws a c)) :
    WS X F (.Try body [.ExceptHandler (some (.Name x np)) (some n) (b₀ :: suite) pos'] [] [] pos) (wTryAs cs C i wb ws) := by
  have h := ps_try_as (X := X) (x := x) (n := n) (c := .ref (clA X.K C)) (i := i) (body := body) (suite := suite) (b₀ := b₀) (np := np) (pos := pos) (pos' := pos')
    (tb := fun W D σ H => ∃ F' : Fr, (∀ cls d σ H, wF X.K F' cls d σ H → W cls d σ H) ∧ tS X.K F' wb D σ H)
    (ts := fun a cls d D σ H => ∃ (c : String) (F' : Fr), cls = .ref (clA X.K c) ∧ (c ≠ "NoPot" → d = none) ∧ tS X.K F'.calm (ws a c) D σ H) (Wout := wF X.K F) hs hf hN hi hln hc tk
    (fun W pn xe tkW hp => ⟨fun pins s σ H D I ⟨F', hW, q⟩ => (hb F' pn xe (tkW.imp hW) hp).run pins s σ H D I q⟩)
    (fun a oe cls d pn hz hv => ⟨fun pins s σ H D I ⟨c, F', e, hd, q⟩ => (hsu F' a oe c d pn (by rw [← e]; exact hz) hv hd).run pins s σ H D I q⟩)
  refine h.imp fun D σ H ⟨ς, S, E, g, k, hw, eo⟩ => ?_
  refine ⟨⟨S, H, fun c ς' S' => c ∈ cs ∧ if subB c C = true then ∀ a, ws a c (ς'.set i (some (.ref a))) S' (E.unset i) (fun _ _ _ => False) else F.XE c ς' S'⟩, ?_, ⟨ς, S, E, g, .refl, hw, eo⟩⟩
  rintro cls d σ' H' ⟨c, ς', S', rfl, hd, g', k', hcs, q⟩
  refine ⟨subB c C, ex.m c hcs C hC, fun e a ha => ?_, fun e => ?_⟩
  · rw [if_pos e] at q
    exact ⟨c, ⟨S', H', fun _ _ _ => False⟩, rfl, hd, ς'.set i (some (.ref a)), S', E.unset i, g'.set (.ref a), .refl, q a, (eo.from k').unset⟩
  · rw [if_neg (by rw [e]; exact Bool.false_ne_true)] at q
    exact ⟨c, ς', S', rfl, hd, g', k.trans k', q⟩
theorem ws_try_only {ws : WpS} (hs : X.stack = X.env :: X.outer) (hf : X.env.frame = some X.env.locals) (hc : Names X x (.ref (clA X.K C))) (tk : Takes X (wF X.K F)) (ex : ExcT X.K cs) (hC : C ∈ cs)
    (hb : ∀ (F' : Fr) (pn : List (Addr × Obj)) (xe : Value → Shared → Prop), Takes (X.tr pn xe) (wF X.K F') → PassesOwn (model X.prog X.w) X.A X.env xe → WSs (X.tr pn xe) F' body wb)
    (hsu : ∀ (F' : Fr) (a : Addr) (oe : Obj) (pn : List (Addr × Obj)), WSs (X.suite a ((a, oe) :: pn)) F'.calm (b₀ :: suite) ws) :
    WS X F (.Try body [.ExceptHandler (some (.Name x np)) none (b₀ :: suite) pos'] [] [] pos) (wTryO cs C wb ws) := by
  have h := ps_try_only (X := X) (x := x) (c := .ref (clA X.K C)) (body := body) (suite := suite) (b₀ := b₀) (np := np) (pos := pos) (pos' := pos')
    (tb := fun W D σ H => ∃ F' : Fr, (∀ cls d σ H, wF X.K F' cls d σ H → W cls d σ H) ∧ tS X.K F' wb D σ H)
    (ts := fun a cls d D σ H => ∃ (F' : Fr), tS X.K F'.calm ws D σ H) (Wout := wF X.K F) hs hf hc tk
    (fun W pn xe tkW hp => ⟨fun pins s σ H D I ⟨F', hW, q⟩ => (hb F' pn xe (tkW.imp hW) hp).run pins s σ H D I q⟩)
    (fun a oe cls d pn hz hv => ⟨fun pins s σ H D I ⟨F', q⟩ => (hsu F' a oe pn).run pins s σ H D I q⟩)
  refine h.imp fun D σ H ⟨ς, S, E, g, k, hw, eo⟩ => ?_
  refine ⟨⟨S, H, fun c ς' S' => c ∈ cs ∧ if subB c C = true then ws ς' S' E (fun _ _ _ => False) else F.XE c ς' S'⟩, ?_, ⟨ς, S, E, g, .refl, hw, eo⟩⟩
  rintro cls d σ' H' ⟨c, ς', S', rfl, hd, g', k', hcs, q⟩
  refine ⟨subB c C, ex.m c hcs C hC, fun e a ha => ?_, fun e => ?_⟩
  · rw [if_pos e] at q
    exact ⟨⟨S', H', fun _ _ _ => False⟩, ς', S', E, g', .refl, q, eo.from k'⟩
  · rw [if_neg (by rw [e]; exact Bool.false_ne_true)] at q
    exact ⟨c, ς', S', rfl, hd, g', k.trans k', q⟩
end

/-! ### isinstance(e, C), e caught -/
structure ExcK (K : PySem.W.Frag) (cs : List String) : Prop where
  cl : ∀ c ∈ cs, ExcC K (clA K c)
  kit : ∀ c ∈ cs, ∀ C ∈ cs, PySem.W.kitOne K (.ref (clA K c)) (.ref (clA K C)) = some (subB c C)
def wIsE (a : Addr) (c C : String) (cs : List String) (we : WpE) : WpE := fun ς S R RE => we ς S (fun x S1 => x = .ref a ∧ c ∈ cs ∧ c ≠ "NoPot" ∧ R (.bl (subB c C)) S1) RE
section
variable {X : Cx} {F : Fr} {x : Str} {c C : String} {a : Addr} {oe : Obj} {d : Option Addr} {e : Expr} {we : WpE} {p p2 pos : Pos} {pn : List (Addr × Obj)} {cs : List String}
theorem we_isE (hz : Zc (.ref (clA X.K c)) d oe) (hv : ∃ vs, oe.data = .fields vs) (hd : c ≠ "NoPot" → d = none) (ex : ExcK X.K cs) (hC : C ∈ cs) (he : WE (X.suite a ((a, oe) :: pn)) F e we) (hn : noStar e = true)
    (hg : Gl X "isinstance") (hm : X.mg "isinstance" = none) (hg2 : Gl X x) (hm2 : X.mg x = some (.ref (clA X.K C))) (hdb : (x == ("__debug__" : Str)) = false) :
    WE (X.suite a ((a, oe) :: pn)) F (.Call (.Name "isinstance" p) [e, .Name x p2] [] pos) (wIsE a c C cs we) := by
  refine ⟨fun pins s σ H Q I h => ?_⟩
  obtain ⟨ς, S, R, g, k, hw, hR⟩ := h
  have ha : PA (X.suite a ((a, oe) :: pn)) [e, .Name x p2] (tCons (tE X.K F we) (tCons (tC (.ref (clA X.K C))) tNil)) := pa_cons he (pa_cons (pe_glob (X := X.suite a ((a, oe) :: pn)) hg2 hm2 rfl hdb) pa_nil (starEach_cons (es := []) rfl)) (starEach_cons hn)
  have hcall : CallR (X.suite a ((a, oe) :: pn)) (.builtin "isinstance") (fun xs H Q => (c ∈ cs ∧ c ≠ "NoPot") ∧ rIsE X.K (clA X.K c) a xs H Q) := fun pins s σ H xs us Q I r ⟨⟨hc, hnp⟩, q⟩ => by
    obtain rfl := hd hnp
    exact call_isE (X := X) (pn := pn) (ex.cl c hc) hz hv pins s σ H xs us Q I r q
  refine (pe_callB (X := X.suite a ((a, oe) :: pn)) hcall hg hm (by decide +kernel) ha (by decide) (by decide) (starEach_cons hn) (by rw [back_any (es := [.Name x p2]) rfl])).run pins s σ H Q I ?_
  refine tE.mk g k hw fun y S1 v H1 q g1 k1 d1 r1 => ?_
  obtain ⟨rfl, hc, hnp, q⟩ := q
  cases r1
  refine ⟨⟨hc, hnp⟩, .ref (clA X.K C), .ref (clA X.K C), subB c C, rfl, fun u r => r, ex.kit c hc C hC, hR _ S1 _ H1 q g1.rel d1 (.bl _)⟩
end
end SB
end

section
set_option Elab.async false
set_option linter.all false
set_option maxRecDepth 100000
set_option autoImplicit false
/-! SB13: own classes asked; a def's body; the end of a row. -/
namespace SB
open PySem PySem.Spec L2

/-! ### isinstance(x, C), own classes -/
structure ClsK (K : PySem.W.Frag) (cs : List String) (sub : String → String → Bool) : Prop where
  ha : ∀ c ∈ cs, PySem.W.findIn K (.ref (clA K c)) "__class__" = some (some (.builtin "object.__class__"))
  hn : PySem.W.specialIn K (.builtin "object.__class__") "__get__" = some (some (.builtin "getset_descriptor.__get__"))
  htk : PySem.W.takesIn K (.builtin "object.__class__") = some true
  hm : ∀ c ∈ cs, PySem.W.mroIn K (clA K c) (.type "object") = some true
  kit : ∀ c ∈ cs, ∀ C ∈ cs, PySem.W.kitOne K (.ref (clA K c)) (.ref (clA K C)) = some (sub c C)
def wIsO (cs : List String) (sub : String → String → Bool) (C : String) (we : WpE) : WpE := fun ς S R RE => we ς S (fun x S1 => ∃ c fs, insOf S1 x = some (c, fs) ∧ c ∈ cs ∧ R (.bl (sub c C)) S1) RE
section
variable {X : Cx} {F : Fr} {pos p p2 : Pos} {e : Expr} {es : List Expr} {we : WpE} {x : Str} {cs : List String} {sub : String → String → Bool} {C : String}
theorem boot_isi : bootBuiltins "isinstance" = some (.builtin "isinstance") := by decide +kernel
theorem we_isO (ck : ClsK X.K cs sub) (hC : C ∈ cs) (he : WE X F e we) (hn : noStar e = true) (hg : Gl X "isinstance") (hm : X.mg "isinstance" = none) (hg2 : Gl X x) (hm2 : X.mg x = some (.ref (clA X.K C))) (hdb : (x == ("__debug__" : Str)) = false) :
    WE X F (.Call (.Name "isinstance" p) [e, .Name x p2] [] pos) (wIsO cs sub C we) := by
  have pt : PE X (.Name x p2) (tC (.ref (clA X.K C))) := pe_glob hg2 hm2 rfl hdb
  refine (pe_callB call_isi hg hm boot_isi (pa_cons he (pa_cons pt pa_nil rfl) (starEach_cons hn)) (by decide) (by decide) (starEach_cons hn) rfl).imp fun σ H Q ⟨ς, S, R, g, k, hw, hR⟩ => ?_
  refine tE.mk g k hw fun x S1 v H1 h1 g1 k1 d1 r1 => ?_
  obtain ⟨c, fs, e, hc, h1⟩ := h1
  obtain ⟨a, dx, gs, rfl, ha1, ⟨c1, _, _⟩, _⟩ := insOf_rep r1 g1.rel e
  exact ⟨.ref a, .ref (clA X.K C), .ref (clA X.K c), .ref (clA X.K C), sub c C, rfl, .own _, .base (.ins ha1 c1 (ck.ha c hc) ck.hn ck.htk (ck.hm c hc)), ck.kit c hc C hC, hR _ S1 _ H1 h1 g1.rel d1 (.bl _)⟩
end

/-! ### what may be said of a value and a store at a def's end -/
/-- as it stands, x and S may be taken for x' and S' -/
def Frz (x : D) (S : Sto) (x' : D) (S' : Sto) : Prop := ∀ K H v, Rel K S H → Rep K S H x v → Rel K S' H ∧ Keep K S H S' H ∧ Rep K S' H x' v
theorem Frz.refl {x : D} {S : Sto} : Frz x S x S := fun _ _ _ r p => ⟨r, .refl, p⟩
theorem Frz.trans {x y z : D} {S S1 S2 : Sto} (a : Frz x S y S1) (b : Frz y S1 z S2) : Frz x S z S2 := fun K H v r p => by
  obtain ⟨r1, k1, p1⟩ := a K H v r p
  obtain ⟨r2, k2, p2⟩ := b K H v r1 p1
  exact ⟨r2, k1.trans k2, p2⟩
theorem del_le {S : Sto} {p : Addr} (b : Addr) : (S.del p) b = S b ∨ (S.del p) b = none := by
  by_cases e : b = p
  · subst e; exact .inr Sto.del_same
  · rw [Sto.del_ne e]; exact .inl rfl
theorem Frz.drop {x : D} {S S' : Sto} (h : ∀ a, S' a = S a ∨ S' a = none) : Frz x S x S' := fun K H v r p => ⟨r.left h, Keep.left h, (Keep.left h).r _ _ p⟩
theorem Frz.del {x : D} {S : Sto} {p : Addr} : Frz x S x (S.del p) := Frz.drop del_le
/-- what is owned, as data -/
def SO.data : SO → Option D
  | .lst l => some (.lst l)
  | .dct l => some (.dct l)
  | .ins c fs => some (.ins c fs)
  | .lck _ => none
theorem data_rep {K : PySem.W.Frag} {S : Sto} {H : Hp} {p : Addr} {o : SO} {d : D} (r : Rel K S H) (e : S p = some o) (hd : o.data = some d) : Rep K (S.del p) H d (.ref p) := by
  have k : Keep K S H (S.del p) H := Keep.left del_le
  cases o with
  | lst l => cases hd; obtain ⟨z, vs, h1, h2⟩ := r p _ e; exact .lst h1 Sto.del_same z (k.l h2)
  | dct l => cases hd; obtain ⟨z, vs, h1, h2⟩ := r p _ e; exact .dct (.inl h1) Sto.del_same z (k.k h2)
  | ins c fs => cases hd; obtain ⟨co, dx, gs, h1, h2⟩ := r p _ e; exact .ins h1 Sto.del_same co (k.f h2)
  | lck l => cases hd
theorem Frz.ref {S : Sto} {p : Addr} {o : SO} {d : D} (e : S p = some o) (hd : o.data = some d) : Frz (.ref p) S d (S.del p) := fun K H v r q => by
  cases q
  exact ⟨r.left del_le, Keep.left del_le, data_rep r e hd⟩
mutual
/-- d for every p -/
def sb (p : Addr) (d : D) : D → D
  | .ref a => if a = p then d else .ref a
  | .tup l => .tup (subL p d l)
  | .lst l => .lst (subL p d l)
  | .scr l => .scr (subL p d l)
  | .dct l => .dct (subK p d l)
  | .ins c fs => .ins c (subF p d fs)
  | .non => .non
  | .bl b => .bl b
  | .int i => .int i
  | .str x => .str x
  | .exc c => .exc c
termination_by x => sizeOf x
def subL (p : Addr) (d : D) : List D → List D
  | [] => []
  | x :: xs => sb p d x :: subL p d xs
termination_by x => sizeOf x
def subK (p : Addr) (d : D) : List (Key × D) → List (Key × D)
  | [] => []
  | (k, x) :: xs => (k, sb p d x) :: subK p d xs
termination_by x => sizeOf x
def subF (p : Addr) (d : D) : List (String × D) → List (String × D)
  | [] => []
  | (k, x) :: xs => (k, sb p d x) :: subF p d xs
termination_by x => sizeOf x
end
theorem subL_length (p : Addr) (d : D) : ∀ l, (subL p d l).length = l.length
  | [] => by simp [subL]
  | x :: xs => by simp [subL, subL_length p d xs]
theorem subK_length (p : Addr) (d : D) : ∀ l, (subK p d l).length = l.length
  | [] => by simp [subK]
  | (k, x) :: xs => by simp [subK, subK_length p d xs]
theorem subF_mem {p : Addr} {d : D} : ∀ {l : List (String × D)} {q}, q ∈ subF p d l → ∃ q' ∈ l, q'.1 = q.1
  | [], q, h => by simp [subF] at h
  | (k, x) :: xs, q, h => by
    rw [subF] at h
    rcases List.mem_cons.mp h with e | h
    · exact ⟨(k, x), List.mem_cons_self, by rw [e]⟩
    · obtain ⟨q', h1, h2⟩ := subF_mem h; exact ⟨q', List.mem_cons_of_mem _ h1, h2⟩
theorem subF_length (p : Addr) (d : D) : ∀ l, (subF p d l).length = l.length
  | [] => by simp [subF]
  | (k, x) :: xs => by simp [subF, subF_length p d xs]
section
variable {K : PySem.W.Frag} {S S' : Sto} {H : Hp} {p : Addr} {d : D}
mutual
theorem Rep.sub (hS : ∀ a, S a = none → S' a = none) (hd : Rep K S' H d (.ref p)) : ∀ {x : D} {v : V}, Rep K S H x v → Rep K S' H (sb p d x) v
  | _, _, .non => by rw [sb]; exact .non
  | _, _, .bl b => by rw [sb]; exact .bl b
  | _, _, .int i => by rw [sb]; exact .int i
  | _, _, .str x => by rw [sb]; exact .str x
  | _, _, .tup h n r => by rw [sb]; exact .tup h (by rw [subL_length]; exact n) (RepL.sub hS hd r)
  | _, _, .lst h e n r => by rw [sb]; exact .lst h (hS _ e) (by rw [subL_length]; exact n) (RepL.sub hS hd r)
  | _, _, .scr h e n r => by rw [sb]; exact .scr h (hS _ e) (by rw [subL_length]; exact n) (RepL.sub hS hd r)
  | _, _, .scrK h n r => by rw [sb]; exact .scrK h (by rw [subL_length]; exact n) (RepL.sub hS hd r)
  | _, _, .dct h e n r => by rw [sb]; exact .dct h (hS _ e) (by rw [subK_length]; exact n) (RepK.sub hS hd r)
  | _, _, .ins h e ⟨c1, c2, c3⟩ r => by
    rw [sb]
    exact .ins h (hS _ e) ⟨c1, fun q hq => by obtain ⟨q', h1, h2⟩ := subF_mem hq; rw [← h2]; exact c2 q' h1, by rw [subF_length]; exact c3⟩ (RepF.sub hS hd r)
  | _, _, .ref a => by
    rw [sb]
    split
    · rename_i e; rw [e]; exact hd
    · exact .ref a
theorem RepL.sub (hS : ∀ a, S a = none → S' a = none) (hd : Rep K S' H d (.ref p)) : ∀ {l : List D} {vs : List V}, RepL K S H l vs → RepL K S' H (subL p d l) vs
  | _, _, .nil => by rw [subL]; exact .nil
  | _, _, .cons r t => by rw [subL]; exact .cons (Rep.sub hS hd r) (RepL.sub hS hd t)
theorem RepK.sub (hS : ∀ a, S a = none → S' a = none) (hd : Rep K S' H d (.ref p)) : ∀ {l : List (Key × D)} {vs : List (Key × V)}, RepK K S H l vs → RepK K S' H (subK p d l) vs
  | _, _, .nil => by rw [subK]; exact .nil
  | _, _, .cons r t => by rw [subK]; exact .cons (Rep.sub hS hd r) (RepK.sub hS hd t)
theorem RepF.sub (hS : ∀ a, S a = none → S' a = none) (hd : Rep K S' H d (.ref p)) : ∀ {l : List (String × D)} {vs : List (Str × V)}, RepF K S H l vs → RepF K S' H (subF p d l) vs
  | _, _, .nil => by rw [subF]; exact .nil
  | _, _, .cons r t => by rw [subF]; exact .cons (Rep.sub hS hd r) (RepF.sub hS hd t)
end
end
/-- an owned thing that x holds becomes data -/
theorem Frz.sub {S : Sto} {p : Addr} {o : SO} {d x : D} (e : S p = some o) (hd : o.data = some d) : Frz x S (sb p d x) (S.del p) := fun K H v r q =>
  ⟨r.left del_le, Keep.left del_le, Rep.sub (fun a h => by rcases del_le (S := S) (p := p) a with z | z; exact z.trans h; exact z) (data_rep r e hd) q⟩
def Rz (R : Pd) : Pd := fun x S => ∃ x' S', Frz x S x' S' ∧ R x' S'
theorem Rz.now {R : Pd} {x : D} {S : Sto} (h : R x S) : Rz R x S := ⟨x, S, .refl, h⟩

/-! ### a def -/
def startE (N : List Str) (xs : List D) : En := xs.map some ++ List.replicate (N.length - xs.length) none
theorem start_good {K : PySem.W.Frag} {N : List Str} {xs : List D} {vs : List V} {S : Sto} {H : Hp} (r : RepL K S H xs vs) (q : Rel K S H) : Good K (startE N xs) S (L2.start N vs) H := by
  have hl := r.length
  refine ⟨by simp [startE, L2.start, hl], fun i x e => ?_, q⟩
  unfold startE at e
  unfold L2.start
  by_cases h : i < xs.length
  · rw [List.getElem?_append_left (by simpa using h)] at e
    rw [List.getElem?_append_left (by rw [List.length_map, ← hl]; exact h)]
    rw [List.getElem?_map] at e ⊢
    cases e2 : xs[i]? with
    | none => rw [e2] at e; cases e
    | some y =>
      rw [e2] at e
      cases e
      obtain ⟨v, h1, h2⟩ := r.get e2
      exact ⟨v, by rw [h1]; rfl, h2⟩
  · rw [List.getElem?_append_right (by simpa using h)] at e
    rw [List.getElem?_replicate] at e
    split at e <;> cases e
/-- what a body needs to know of its context -/
structure BC (k : Nat) (X : Cx) (F : Fr) : Prop where
  room : Room k X.A
  tk : Takes X (wF X.K F)
  pass : PassesOwn (model X.prog X.w) X.A X.env X.xe
section
variable {P : Program} {w : World} {K : PySem.W.Frag} {mg : Str → Option Value} {base : Heap} {x qual : Str} {params : Arguments} {body : List Stmt} {scope : Scope} {dvs : List V} {kws : List (Str × V)} {f : Addr} {fd : FuncData}
theorem body_ok {N ps : List Str} {k : Nat} {ws : WpS} {φ : Spec} (Fd : FunD K x qual params body scope dvs kws f fd) (Sc : FnScope N ps scope)
    (hw : ∀ (cdv : Value) (A : Around) (outer : List Env) (s : Shared) (H : Hp) (E : XK) (F : Fr), BC k (cxOf (L2.CX P w) P w K mg base N qual scope f cdv A outer s H E) F → WSs (cxOf (L2.CX P w) P w K mg base N qual scope f cdv A outer s H E) F body ws)
    (hl : ∀ xs S R RE, φ xs S R RE → xs.length = ps.length)
    (hφ : ∀ xs S R RE, φ xs S R RE → ws (startE N xs) S ⟨fun _ S' => Rz R .non S', Rz R, fun _ _ => False, fun _ _ => False⟩ (fun c _ S' => RE c S')) : FnOk P w K mg base (L2.CX P w) (k + 1) f fd ps (spOf K φ) := by
  refine Fd.ok Sc (fun vs H Q E ⟨xs, S, R, RE, r, _, h, _⟩ => by rw [← r.length]; exact hl _ _ _ _ h) fun cdv A outer s H vs Q E hr ⟨xs, S, R, RE, r, q, h, hR, hRE⟩ => ?_
  refine ⟨_, hw cdv A outer s H E ⟨S, H, fun c _ S' => RE c S'⟩ ⟨hr, ?_, passes_of rfl⟩, startE N xs, S, _, start_good r q, .refl, hφ xs S R RE h, ?_⟩
  · refine (takes_of (E := E) rfl rfl rfl rfl).imp fun cls d σ H' ⟨c, ς, S', e, hd, g, k', z⟩ => ?_
    subst e
    exact hRE c d S' H' hd z g.rel k'
  · refine ⟨fun ς' S' σ' H' ⟨x', S2, fz, z⟩ g k' => ?_, fun x S' v H' ⟨x', S2, fz, z⟩ r' k' p => ?_, fun _ _ _ _ z => z.elim, fun _ _ _ _ z => z.elim⟩
    · obtain ⟨r2, k2, p2⟩ := fz K H' .non g.rel .non
      exact hR x' S2 .non H' z r2 (k'.trans k2) p2
    · obtain ⟨r2, k2, p2⟩ := fz K H' v r' p
      exact hR x' S2 v H' z r2 (k'.trans k2) p2
/-- all parameters written -/
theorem fn_bd {ps : List Str} {k : Nat} {φ : Spec} (n : Nat) (Fd : FunD K x qual params body scope [] kws f fd) (ok : FnOk P w K mg base (L2.CX P w) k f fd ps (spOf K φ)) (b : Binds K fd ps []) : FnBd P w K mg base k f n [] φ :=
  ⟨⟨fd, ps, [], [], ok, b, .nil, fun _ _ => .nil⟩, Fd.kp⟩
theorem fn_bdD {ps : List Str} {k : Nat} {φ : Spec} (n : Nat) (dds : List D) (Fd : FunD K x qual params body scope dvs kws f fd) (ok : FnOk P w K mg base (L2.CX P w) k f fd ps (spOf K φ)) {vs : List V} (b : ∃ ds, Vals vs ds ∧ Binds K fd ps ds) (r : ∀ S H, RepL K S H dds vs) : FnBd P w K mg base k f n dds φ := by
  obtain ⟨ds, hv, hb⟩ := b
  exact ⟨⟨fd, ps, ds, vs, ok, hb, hv, r⟩, Fd.kp⟩
/-- a weaker promise -/
theorem FnBd.imp {k n : Nat} {dds : List D} {φ φ' : Spec} (b : FnBd P w K mg base k f n dds φ) (h : ∀ xs S R RE, φ' xs S R RE → φ xs S R RE) : FnBd P w K mg base k f n dds φ' := by
  obtain ⟨⟨fd, ps, ds, dvs, a, b, c, d⟩, kp⟩ := b
  exact ⟨⟨fd, ps, ds, dvs, a.imp fun vs H Q E ⟨xs, S, R, RE, r, q, z, y⟩ => ⟨xs, S, R, RE, r, q, h _ _ _ _ z, y⟩, b, c, d⟩, kp⟩
end
/-- a call that lets nothing out, whatever the program -/
def CXs : CXT := fun outer H s E u s' => ∃ P w, L2.CX P w outer H s E u s'
theorem cxs_none (H : Hp) (s : Shared) (e : Value) (s' : Shared) : CXs [] H s (fun _ _ _ => False) e s' → False := fun ⟨_, _, _, _, _, _, _, _, _, _, _, _, _, _, z⟩ => z
theorem FnOk.cxs {P : Program} {w : World} {K : PySem.W.Frag} {mg : Str → Option Value} {base : Heap} {k : Nat} {f : Addr} {fd : FuncData} {ps : List Str} {sp : Sp} (F : FnOk P w K mg base (L2.CX P w) k f fd ps sp) : FnOk P w K mg base CXs k f fd ps sp :=
  ⟨F.len, fun A outer s H args us vs Q E hr he hb hv hs => codeAny_mono (F.run A outer s H args us vs Q E hr he hb hv hs) fun r s' q => by
    cases r with
    | error e => exact ⟨P, w, q⟩
    | ok fl => cases fl <;> exact q⟩
/-- the law's own spec: whatever the script -/
def φLaw (n : Nat) : Spec := fun xs S R _ => ∃ ns : List Int, xs = [.scr (ns.map .int)] ∧ ns.length ≤ n ∧ S = (fun _ => none) ∧ ∀ S', R (.bl true) S'
theorem law_sp {K : PySem.W.Frag} {H : Hp} {a : Addr} {ns : List Int} {n : Nat} (hn : n ≤ sizeLine) (hl : ns.length ≤ n) (hS : SqL K H a (ns.map V.int)) : spOf K (φLaw n) [.ref a] H (fun v _ => v = .bl true) fun _ _ _ => False := by
  refine ⟨[.scr (ns.map .int)], fun _ => none, fun x _ => x = .bl true, fun _ _ => False, .cons ?_ .nil, fun _ _ e => (by cases e), ⟨ns, rfl, hl, rfl, fun _ => rfl⟩, fun x S' v H' e _ _ r => ?_, fun _ _ _ _ _ z => z.elim⟩
  · rcases hS with h | h
    · exact .scr h rfl (by simpa using Nat.le_trans hl hn) (repL_ints ns)
    · exact .scrK h (by simpa using Nat.le_trans hl hn) (repL_ints ns)
  · subst e; cases r; rfl
end SB
end

section
set_option Elab.async false
set_option linter.all false
set_option maxRecDepth 100000
set_option autoImplicit false
/-! SB14: the rules as the printed walks use them. -/
namespace SB
open PySem PySem.Spec L2
section
variable {X : Cx} {F : Fr} {pos p p2 q apos : Pos} {a b c e e2 o : Expr} {es rest : List Expr} {wa wb wc we wo : WpE} {was : WpA} {k : Nat} {x : Str}
theorem _root_.L2.Room.u65 {A : Around} {k : Nat} (r : Room k A) : A.units + 65 < cLine := by have := r.un; omega
theorem u64 {n : Nat} (r : n + 65 < cLine) : n + 64 < cLine := by omega
theorem u1 {n : Nat} (r : n + 65 < cLine) : n + 1 < cLine := by omega
/-! comparisons -/
abbrev cmpLt (i j : Int) : Bool := decide (i < j)
abbrev cmpLe (i j : Int) : Bool := decide (i ≤ j)
abbrev cmpGt (i j : Int) : Bool := decide (i > j)
abbrev cmpGe (i j : Int) : Bool := decide (i ≥ j)
theorem o_eq (r : X.A.units + 65 < cLine) : OpR X (compareOp .Eq) (rEqD X.K) := op_eqD (u64 r)
theorem o_ne (r : X.A.units + 65 < cLine) : OpR X (compareOp .NotEq) (rNeD X.K) := op_neD (u64 r)
theorem o_in (r : X.A.units + 65 < cLine) : OpR X (compareOp .In) (fun x y H Q => rDin false x y H Q ∨ rSgn false x y H Q ∨ rInDn X.K false x y H Q ∨ rIn X.K false x y H Q) :=
  (op_din (u1 r)).or (op_in_sign.or ((op_inD r).or op_in_seq))
theorem o_nin (r : X.A.units + 65 < cLine) : OpR X (compareOp .NotIn) (fun x y H Q => rDin true x y H Q ∨ rSgn true x y H Q ∨ rInDn X.K true x y H Q ∨ rIn X.K true x y H Q) :=
  (op_dnotin (u1 r)).or (op_notIn_sign.or ((op_notInD r).or op_notIn_seq))
theorem o_is : OpR X (compareOp .Is) (fun x y H Q => (y = .non ∧ Q (.bl (decide (x = .non))) H) ∨ rIsB x y H Q) := op_isN.or op_isBl
theorem o_isn : OpR X (compareOp .IsNot) (fun x y H Q => (y = .non ∧ Q (.bl (!decide (x = .non))) H) ∨ rNotB x y H Q) := op_notN.or op_notBl
theorem e_eq (r : X.A.units + 65 < cLine) (ha : WE X F a wa) (hb : WE X F b wb) (hm : behindInMarks .Eq b = false) : WE X F (.Compare a [.Eq] [b] pos) (wOp (fEq false) wa wb) := we_cmp (o_eq r) od_eq ha hb hm
theorem e_ne (r : X.A.units + 65 < cLine) (ha : WE X F a wa) (hb : WE X F b wb) (hm : behindInMarks .NotEq b = false) : WE X F (.Compare a [.NotEq] [b] pos) (wOp (fEq true) wa wb) := we_cmp (o_ne r) od_ne ha hb hm
theorem e_lt (ha : WE X F a wa) (hb : WE X F b wb) (hm : behindInMarks .Lt b = false) : WE X F (.Compare a [.Lt] [b] pos) (wOp (fCmp cmpLt) wa wb) := we_cmp op_lt od_cmp ha hb hm
theorem e_le (ha : WE X F a wa) (hb : WE X F b wb) (hm : behindInMarks .LtE b = false) : WE X F (.Compare a [.LtE] [b] pos) (wOp (fCmp cmpLe) wa wb) := we_cmp op_le od_cmp ha hb hm
theorem e_gt (ha : WE X F a wa) (hb : WE X F b wb) (hm : behindInMarks .Gt b = false) : WE X F (.Compare a [.Gt] [b] pos) (wOp (fCmp cmpGt) wa wb) := we_cmp op_gt od_cmp ha hb hm
theorem e_ge (ha : WE X F a wa) (hb : WE X F b wb) (hm : behindInMarks .GtE b = false) : WE X F (.Compare a [.GtE] [b] pos) (wOp (fCmp cmpGe) wa wb) := we_cmp op_ge od_cmp ha hb hm
theorem e_in (r : X.A.units + 65 < cLine) (ha : WE X F a wa) (hb : WE X F b wb) (hm : behindInMarks .In b = false) : WE X F (.Compare a [.In] [b] pos) (wOp (fIn false) wa wb) := we_cmp (o_in r) (od_in false) ha hb hm
theorem e_nin (r : X.A.units + 65 < cLine) (ha : WE X F a wa) (hb : WE X F b wb) (hm : behindInMarks .NotIn b = false) : WE X F (.Compare a [.NotIn] [b] pos) (wOp (fIn true) wa wb) := we_cmp (o_nin r) (od_in true) ha hb hm
theorem e_is (ha : WE X F a wa) (hb : WE X F b wb) (hm : behindInMarks .Is b = false) : WE X F (.Compare a [.Is] [b] pos) (wOp (fIs false) wa wb) := we_cmp o_is od_is ha hb hm
theorem e_isn (ha : WE X F a wa) (hb : WE X F b wb) (hm : behindInMarks .IsNot b = false) : WE X F (.Compare a [.IsNot] [b] pos) (wOp (fIs true) wa wb) := we_cmp o_isn od_isnot ha hb hm
theorem t_eq (r : X.A.units + 65 < cLine) (ha : WE X F a wa) (hb : WE X F b wb) (hm : behindInMarks .Eq b = false) : WT X F (.Compare a [.Eq] [b] pos) (wB (wOp (fEq false) wa wb)) := wt_cmp (o_eq r) od_eq ha hb hm
theorem t_ne (r : X.A.units + 65 < cLine) (ha : WE X F a wa) (hb : WE X F b wb) (hm : behindInMarks .NotEq b = false) : WT X F (.Compare a [.NotEq] [b] pos) (wB (wOp (fEq true) wa wb)) := wt_cmp (o_ne r) od_ne ha hb hm
theorem t_lt (ha : WE X F a wa) (hb : WE X F b wb) (hm : behindInMarks .Lt b = false) : WT X F (.Compare a [.Lt] [b] pos) (wB (wOp (fCmp cmpLt) wa wb)) := wt_cmp op_lt od_cmp ha hb hm
theorem t_le (ha : WE X F a wa) (hb : WE X F b wb) (hm : behindInMarks .LtE b = false) : WT X F (.Compare a [.LtE] [b] pos) (wB (wOp (fCmp cmpLe) wa wb)) := wt_cmp op_le od_cmp ha hb hm
theorem t_gt (ha : WE X F a wa) (hb : WE X F b wb) (hm : behindInMarks .Gt b = false) : WT X F (.Compare a [.Gt] [b] pos) (wB (wOp (fCmp cmpGt) wa wb)) := wt_cmp op_gt od_cmp ha hb hm
theorem t_ge (ha : WE X F a wa) (hb : WE X F b wb) (hm : behindInMarks .GtE b = false) : WT X F (.Compare a [.GtE] [b] pos) (wB (wOp (fCmp cmpGe) wa wb)) := wt_cmp op_ge od_cmp ha hb hm
theorem t_in (r : X.A.units + 65 < cLine) (ha : WE X F a wa) (hb : WE X F b wb) (hm : behindInMarks .In b = false) : WT X F (.Compare a [.In] [b] pos) (wB (wOp (fIn false) wa wb)) := wt_cmp (o_in r) (od_in false) ha hb hm
theorem t_nin (r : X.A.units + 65 < cLine) (ha : WE X F a wa) (hb : WE X F b wb) (hm : behindInMarks .NotIn b = false) : WT X F (.Compare a [.NotIn] [b] pos) (wB (wOp (fIn true) wa wb)) := wt_cmp (o_nin r) (od_in true) ha hb hm
theorem t_is (ha : WE X F a wa) (hb : WE X F b wb) (hm : behindInMarks .Is b = false) : WT X F (.Compare a [.Is] [b] pos) (wB (wOp (fIs false) wa wb)) := wt_cmp o_is od_is ha hb hm
theorem t_isn (ha : WE X F a wa) (hb : WE X F b wb) (hm : behindInMarks .IsNot b = false) : WT X F (.Compare a [.IsNot] [b] pos) (wB (wOp (fIs true) wa wb)) := wt_cmp o_isn od_isnot ha hb hm
/-! built-in functions -/
variable (hg : Gl X x) (hm : X.mg x = none)
theorem bt_len : bootBuiltins "len" = some (.builtin "len") := by decide +kernel
theorem bt_sum : bootBuiltins "sum" = some (.builtin "sum") := by decide +kernel
theorem bt_all : bootBuiltins "all" = some (.builtin "all") := by decide +kernel
theorem bt_any : bootBuiltins "any" = some (.builtin "any") := by decide +kernel
theorem bt_sorted : bootBuiltins "sorted" = some (.builtin "sorted") := by decide +kernel
theorem bt_min : bootBuiltins "min" = some (.builtin "min") := by decide +kernel
theorem bt_max : bootBuiltins "max" = some (.builtin "max") := by decide +kernel
theorem bt_list : bootBuiltins "list" = some (.type "list") := by decide +kernel
theorem bt_tuple : bootBuiltins "tuple" = some (.type "tuple") := by decide +kernel
theorem bt_dict : bootBuiltins "dict" = some (.type "dict") := by decide +kernel
theorem bt_int : bootBuiltins "int" = some (.type "int") := by decide +kernel
theorem bt_str : bootBuiltins "str" = some (.type "str") := by decide +kernel
theorem bt_bool : bootBuiltins "bool" = some (.type "bool") := by decide +kernel
theorem b_len (hg : Gl X "len") (hm : X.mg "len" = none) (ha : WA X F (e :: es) was) (hs : noStars (e :: es) = true) : WE X F (.Call (.Name "len" p) (e :: es) [] pos) (wFun fLen was) :=
  we_callB (call_lenRd.or call_len) cd_len hg hm bt_len ha hs (by decide) (by decide)
theorem b_sum (hc : X.calm = true) (hg : Gl X "sum") (hm : X.mg "sum" = none) (ha : WA X F (e :: es) was) (hs : noStars (e :: es) = true) : WE X F (.Call (.Name "sum" p) (e :: es) [] pos) (wFun fSum was) :=
  we_callB (cr_sumT hc) cd_sum hg hm bt_sum ha hs (by decide) (by decide)
theorem b_all (hc : X.calm = true) (hg : Gl X "all") (hm : X.mg "all" = none) (ha : WA X F (e :: es) was) (hs : noStars (e :: es) = true) : WE X F (.Call (.Name "all" p) (e :: es) [] pos) (wFun fAll was) :=
  we_callB (cr_all hc) cd_all hg hm bt_all ha hs (by decide) (by decide)
theorem b_any (hc : X.calm = true) (hg : Gl X "any") (hm : X.mg "any" = none) (ha : WA X F (e :: es) was) (hs : noStars (e :: es) = true) : WE X F (.Call (.Name "any" p) (e :: es) [] pos) (wFun fAny was) :=
  we_callB (cr_any hc) cd_any hg hm bt_any ha hs (by decide) (by decide)
theorem b_sorted {own : Bool} (hc : X.calm = true) (hg : Gl X "sorted") (hm : X.mg "sorted" = none) (ha : WA X F (e :: es) was) (hs : noStars (e :: es) = true) : WE X F (.Call (.Name "sorted" p) (e :: es) [] pos) (wFun (fSorted own) was) :=
  we_callB (cr_sortedI.or (call_sortedDI hc)) cd_sorted hg hm bt_sorted ha hs (by decide) (by decide)
theorem b_min (hc : X.calm = true) (hg : Gl X "min") (hm : X.mg "min" = none) (ha : WA X F (e :: es) was) (hs : noStars (e :: es) = true) : WE X F (.Call (.Name "min" p) (e :: es) [] pos) (wFun fMin was) :=
  we_callB ((call_min2 hc).or (cr_minT hc)) cd_min hg hm bt_min ha hs (by decide) (by decide)
theorem b_max (hc : X.calm = true) (hg : Gl X "max") (hm : X.mg "max" = none) (ha : WA X F (e :: es) was) (hs : noStars (e :: es) = true) : WE X F (.Call (.Name "max" p) (e :: es) [] pos) (wFun fMax was) :=
  we_callB ((call_max2 hc).or (cr_max hc)) cd_max hg hm bt_max ha hs (by decide) (by decide)
theorem b_list {own : Bool} (hc : X.calm = true) (hg : Gl X "list") (hm : X.mg "list" = none) (ha : WA X F (e :: es) was) (hs : noStars (e :: es) = true) : WE X F (.Call (.Name "list" p) (e :: es) [] pos) (wFun (fList own) was) :=
  we_callTy ((call_listD hc).or call_list_of) cd_list hg hm bt_list ha hs (by decide) (by decide)
theorem b_tuple (hg : Gl X "tuple") (hm : X.mg "tuple" = none) (ha : WA X F (e :: es) was) (hs : noStars (e :: es) = true) : WE X F (.Call (.Name "tuple" p) (e :: es) [] pos) (wFun fTuple was) :=
  we_callTy call_tuple_of cd_tuple hg hm bt_tuple ha hs (by decide) (by decide)
theorem b_dict {own : Bool} (hc : X.calm = true) (hg : Gl X "dict") (hm : X.mg "dict" = none) (ha : WA X F (e :: es) was) (hs : noStars (e :: es) = true) : WE X F (.Call (.Name "dict" p) (e :: es) [] pos) (wFun (fDict own) was) :=
  we_callTy (call_dictD.or (call_dictP hc)) cd_dict hg hm bt_dict ha hs (by decide) (by decide)
theorem b_int (hg : Gl X "int") (hm : X.mg "int" = none) (ha : WA X F (e :: es) was) (hs : noStars (e :: es) = true) : WE X F (.Call (.Name "int" p) (e :: es) [] pos) (wFun fInt was) :=
  we_callTy (call_int1.or call_int_str) cd_int hg hm bt_int ha hs (by decide) (by decide)
theorem b_str (hg : Gl X "str") (hm : X.mg "str" = none) (ha : WA X F (e :: es) was) (hs : noStars (e :: es) = true) : WE X F (.Call (.Name "str" p) (e :: es) [] pos) (wFun fStr was) :=
  we_callTy (call_str_int.or SkE.call_str_str) cd_str hg hm bt_str ha hs (by decide) (by decide)
theorem b_isTy {T : String} (hT : T ∈ tyBs) (he : WE X F e we) (hn : noStar e = true) (hg : Gl X "isinstance") (hm : X.mg "isinstance" = none) (hg2 : Gl X x) (hm2 : X.mg x = none) (hv : bootBuiltins x = some (.type T)) (hx : x ≠ "__name__") (hdb : (x == ("__debug__" : Str)) = false) :
    WE X F (.Call (.Name "isinstance" p) [e, .Name x p2] [] pos) (wIsTy T we) := we_isTy hT he hn hg hm hg2 hm2 hv hx hdb
/-! methods -/
variable (hb : baseOk o = true) (hl : (e :: es).length < 29) (hline : (apos.endLine == pos.line) = true)
theorem m_append (ho : WE X F o wo) (ha : WA X F (e :: es) was) (hb : baseOk o = true) (hn : noStars (e :: es) = true) (hl : (e :: es).length < 29) (hline : (apos.endLine == pos.line) = true) : WE X F (.Call (.Attribute o "append" apos) (e :: es) [] pos) (wMt "list" fAppend wo was) :=
  we_bm PySem.F.plainAttrs_list PySem.F.slot_list_append PySem.F.type_list_append mt_append md_append ho ha hb hn hl hline
theorem m_extend (ho : WE X F o wo) (ha : WA X F (e :: es) was) (hb : baseOk o = true) (hn : noStars (e :: es) = true) (hl : (e :: es).length < 29) (hline : (apos.endLine == pos.line) = true) : WE X F (.Call (.Attribute o "extend" apos) (e :: es) [] pos) (wMt "list" fExtend wo was) :=
  we_bm PySem.F.plainAttrs_list PySem.F.slot_list_extend PySem.F.type_list_extend mt_extend md_extend ho ha hb hn hl hline
theorem m_popL (ho : WE X F o wo) (ha : WA X F (e :: es) was) (hb : baseOk o = true) (hn : noStars (e :: es) = true) (hl : (e :: es).length < 29) (hline : (apos.endLine == pos.line) = true) : WE X F (.Call (.Attribute o "pop" apos) (e :: es) [] pos) (wMt "list" fPop wo was) :=
  we_bm PySem.F.plainAttrs_list PySem.F.slot_list_pop PySem.F.type_list_pop mt_popAt md_pop ho ha hb hn hl hline
theorem m_insert (ho : WE X F o wo) (ha : WA X F (e :: es) was) (hb : baseOk o = true) (hn : noStars (e :: es) = true) (hl : (e :: es).length < 29) (hline : (apos.endLine == pos.line) = true) : WE X F (.Call (.Attribute o "insert" apos) (e :: es) [] pos) (wMt "list" fInsert wo was) :=
  we_bm PySem.F.plainAttrs_list PySem.F.slot_list_insert PySem.F.type_list_insert mt_insert md_insert ho ha hb hn hl hline
theorem m_clearL (ho : WE X F o wo) (hb : baseOk o = true) (hline : (apos.endLine == pos.line) = true) : WE X F (.Call (.Attribute o "clear" apos) [] [] pos) (wMt "list" fClearL wo wNil) :=
  we_bm0 PySem.F.plainAttrs_list PySem.F.slot_list_clear PySem.F.type_list_clear mt_clear md_clearL ho hb hline
theorem m_count (r : X.A.units + 65 < cLine) (ho : WE X F o wo) (ha : WA X F (e :: es) was) (hb : baseOk o = true) (hn : noStars (e :: es) = true) (hl : (e :: es).length < 29) (hline : (apos.endLine == pos.line) = true) : WE X F (.Call (.Attribute o "count" apos) (e :: es) [] pos) (wMt "list" fCount wo was) :=
  we_bm PySem.F.plainAttrs_list PySem.F.slot_list_count PySem.F.type_list_count (mt_countD r) md_count ho ha hb hn hl hline
theorem m_index (r : X.A.units + 65 < cLine) (ho : WE X F o wo) (ha : WA X F (e :: es) was) (hb : baseOk o = true) (hn : noStars (e :: es) = true) (hl : (e :: es).length < 29) (hline : (apos.endLine == pos.line) = true) : WE X F (.Call (.Attribute o "index" apos) (e :: es) [] pos) (wMt "list" fIndex wo was) :=
  we_bm PySem.F.plainAttrs_list PySem.F.slot_list_index PySem.F.type_list_index (mt_indexD r) md_index ho ha hb hn hl hline
theorem m_get (r : X.A.units + 65 < cLine) (ho : WE X F o wo) (ha : WA X F (e :: es) was) (hb : baseOk o = true) (hn : noStars (e :: es) = true) (hl : (e :: es).length < 29) (hline : (apos.endLine == pos.line) = true) : WE X F (.Call (.Attribute o "get" apos) (e :: es) [] pos) (wMt "dict" fGet wo was) :=
  we_bm PySem.F.plainAttrs_dict PySem.F.slot_dict_get PySem.F.type_dict_get (mt_get2 (u1 r)) md_get ho ha hb hn hl hline
theorem m_setd (ho : WE X F o wo) (ha : WA X F (e :: es) was) (hb : baseOk o = true) (hn : noStars (e :: es) = true) (hl : (e :: es).length < 29) (hline : (apos.endLine == pos.line) = true) : WE X F (.Call (.Attribute o "setdefault" apos) (e :: es) [] pos) (wMt "dict" fSetd wo was) :=
  we_bm PySem.F.plainAttrs_dict PySem.F.slot_dict_setdefault PySem.F.type_dict_setdefault mt_setd md_setd ho ha hb hn hl hline
theorem m_popD (ho : WE X F o wo) (ha : WA X F (e :: es) was) (hb : baseOk o = true) (hn : noStars (e :: es) = true) (hl : (e :: es).length < 29) (hline : (apos.endLine == pos.line) = true) : WE X F (.Call (.Attribute o "pop" apos) (e :: es) [] pos) (wMt "dict" fPopD wo was) :=
  we_bm PySem.F.plainAttrs_dict PySem.F.slot_dict_pop PySem.F.type_dict_pop mt_popD md_popD ho ha hb hn hl hline
theorem m_update (ho : WE X F o wo) (ha : WA X F (e :: es) was) (hb : baseOk o = true) (hn : noStars (e :: es) = true) (hl : (e :: es).length < 29) (hline : (apos.endLine == pos.line) = true) : WE X F (.Call (.Attribute o "update" apos) (e :: es) [] pos) (wMt "dict" fUpdate wo was) :=
  we_bm PySem.F.plainAttrs_dict PySem.F.slot_dict_update PySem.F.type_dict_update mt_update md_update ho ha hb hn hl hline
theorem m_split {own : Bool} (ho : WE X F o wo) (ha : WA X F (e :: es) was) (hb : baseOk o = true) (hn : noStars (e :: es) = true) (hl : (e :: es).length < 29) (hline : (apos.endLine == pos.line) = true) : WE X F (.Call (.Attribute o "split" apos) (e :: es) [] pos) (wMt "str" (fSplit own) wo was) :=
  we_bm PySem.F.plainAttrs_str PySem.F.slot_str_split PySem.F.type_str_split mt_split md_split ho ha hb hn hl hline
theorem m_join (ho : WE X F o wo) (ha : WA X F (e :: es) was) (hb : baseOk o = true) (hn : noStars (e :: es) = true) (hl : (e :: es).length < 29) (hline : (apos.endLine == pos.line) = true) : WE X F (.Call (.Attribute o "join" apos) (e :: es) [] pos) (wMt "str" fJoin wo was) :=
  we_bm PySem.F.plainAttrs_str PySem.F.slot_str_join PySem.F.type_str_join mt_join md_join ho ha hb hn hl hline
/-- len(set(l)), l unlike numbers -/
def wLenSet (we : WpE) : WpE := fun ς S R RE => we ς S (fun x S1 => ∃ l ns, contOf S1 x = .l l ∧ intL l = some ns ∧ ns.Nodup ∧ ns.length ≤ 4000 ∧ R (.int (ns.length : Nat)) S1) RE
theorem b_lenSet (hc : X.calm = true) (hg : Gl X "len") (hm : X.mg "len" = none) (hg2 : Gl X "set") (hm2 : X.mg "set" = none) (ha : WE X F a wa) (hn : noStar a = true) : WE X F (.Call (.Name "len" p) [.Call (.Name "set" p2) [a] [] q] [] pos) (wLenSet wa) :=
  (RZ.pe_lenSetI hg hm hg2 hm2 ha hc (starEach_cons (es := []) hn)).imp fun σ H Q ⟨ς, S, R, g, k, hw, hR⟩ => by
    refine tE.mk g k hw fun x S1 v H1 h1 g1 k1 d1 r1 => ?_
    obtain ⟨l, ns, e1, e2, h2, h3, h1⟩ := h1
    obtain ⟨a, vs, rfl, hq, rl, _⟩ := lstSq_rep r1 g1.rel e1
    rw [intL_eq e2] at rl
    rw [rl.ints] at hq
    exact ⟨a, ns, rfl, hq, h2, h3, hR _ S1 _ H1 h1 g1.rel d1 (.int _)⟩
end
end SB
end

section
set_option Elab.async false
set_option linter.all false
set_option maxRecDepth 100000
set_option autoImplicit false
/-! SB15: tables of the text; the facts that the head tells. -/
namespace SB
open PySem PySem.Spec L2
/-! ### a written dict with text keys -/
def lookS (z : Str) : List (Str × He.Dv) → Option He.Dv
  | [] => none
  | (k, d) :: r => if k = z then some d else lookS z r
def entB (K : PySem.W.Frag) : List (Str × He.Dv) → List DictEntry → Bool
  | [], [] => true
  | (k, d) :: r, e :: es => (match e.key with
    | .str x _ => decide (x = k)
    | _ => false) && (He.relB (d.v K) e.val && entB K r es)
  | _, _ => false
def tabB (K : PySem.W.Frag) (x : Str) (tab : List (Str × He.Dv)) : Bool := match K.lookup (He.ga K x) with
  | some ⟨_, _, .dict es _, _⟩ => entB K tab es.toList
  | _ => false
theorem entB_ok {K : PySem.W.Frag} (z : Str) : ∀ {tab : List (Str × He.Dv)} {es : List DictEntry}, entB K tab es = true → match lookS z tab with
    | some d => ∃ e, es.find? (fun e => e.key.isStr z) = some e ∧ RelV (d.v K) e.val
    | none => es.find? (fun e => e.key.isStr z) = none ∧ es.any (·.refKey) = false
  | [], [], _ => ⟨rfl, rfl⟩
  | [], _ :: _, h => by cases h
  | _ :: _, [], h => by cases h
  | (k, d) :: r, e :: es, h => by
    simp only [entB, Bool.and_eq_true] at h
    obtain ⟨h1, h2, h3⟩ := h
    have ih := entB_ok z h3
    cases hk : e.key with
    | str x t =>
      rw [hk] at h1
      have hx : x = k := of_decide_eq_true h1
      subst hx
      unfold lookS
      by_cases hz : x = z
      · rw [if_pos hz]
        refine ⟨e, ?_, He.relB_ok h2⟩
        rw [List.find?_cons_of_pos]
        rw [hk]
        subst hz
        simp [Value.isStr]
      · rw [if_neg hz]
        have hs : (e.key.isStr z) = false := by
          rw [hk]
          simp [Value.isStr, hz]
        rw [List.find?_cons_of_neg (by rw [hs]; decide)]
        cases hl : lookS z r with
        | some d' => rw [hl] at ih; exact ih
        | none =>
          rw [hl] at ih
          refine ⟨ih.1, ?_⟩
          rw [List.any_cons, ih.2]
          simp [DictEntry.refKey, hk]
    | _ => rw [hk] at h1; cases h1
theorem tabB_ok {K : PySem.W.Frag} {x : Str} {tab : List (Str × He.Dv)} (h : tabB K x tab = true) (z : Str) : match lookS z tab with
    | some d => ∃ u, PySem.W.nsIn K (He.ga K x) z = some (some u) ∧ RelV (d.v K) u
    | none => PySem.W.nsIn K (He.ga K x) z = some none := by
  unfold tabB at h
  split at h
  · rename_i es n sl hl
    have q := entB_ok z h
    unfold PySem.W.nsIn
    rw [hl]
    dsimp only
    cases e : lookS z tab with
    | some d =>
      rw [e] at q
      obtain ⟨en, h1, h2⟩ := q
      dsimp only
      rw [h1]
      exact ⟨en.val, rfl, h2⟩
    | none =>
      rw [e] at q
      dsimp only
      rw [q.1, q.2]
      rfl
  · cases h
/-- the same, of a world: its hashes stand -/
structure KTab (K : PySem.W.Frag) (w : World) (x : Str) (tab : List (Str × He.Dv)) : Prop where
  at_ : ∃ es n, KDict K w (He.ga K x) es n
  b : tabB K x tab = true
/-- a written value that is no object -/
def dvD : He.Dv → Option D
  | .non => some .non
  | .bl b => some (.bl b)
  | .int i => some (.int i)
  | .str x => some (.str x)
  | _ => none
theorem dvD_rep {K : PySem.W.Frag} {S : Sto} {H : Hp} {v : He.Dv} {d : D} (h : dvD v = some d) : Rep K S H d (v.v K) := by
  cases v with
  | non => cases h; exact .non
  | bl b => cases h; exact .bl b
  | int i => cases h; exact .int i
  | str x => cases h; exact .str x
  | _ => cases h
/-- T.get(k, d), T such a dict -/
def wKGet (tab : List (Str × He.Dv)) (wa : WpA) : WpE := fun ς S R RE => wa ς S (fun xs S1 => ∃ z y, xs = [.str z, y] ∧ match lookS z tab with
  | some v => ∃ d, dvD v = some d ∧ R d S1
  | none => R y S1) RE
section
variable {X : Cx} {F : Fr} {pos p q apos cpos : Pos} {e e2 : Expr} {wa : WpA} {x : Str} {tab : List (Str × He.Dv)}
theorem b_kget (kt : KTab X.K X.w x tab) (hg : Gl X x) (hm : X.mg x = some (.ref (He.ga X.K x))) (hdb : (x == ("__debug__" : Str)) = false) (ha : WA X F [e, e2] wa) (hn : noStars [e, e2] = true) (hline : (apos.endLine == cpos.line) = true) :
    WE X F (.Call (.Attribute (.Name x p) "get" apos) [e, e2] [] cpos) (wKGet tab wa) := by
  refine ⟨fun pins s σ H Q I h => ?_⟩
  obtain ⟨ς, S, R, g, k, hw, hR⟩ := h
  obtain ⟨es, n, D⟩ := kt.at_
  refine wpAny_Call_method_late (attrBase rfl) (back_few hn (by show 2 < 29; decide)) hline rfl (ld_glob I hg hm ?_ hdb)
  have M := PySem.W.mapOf_K (prog := X.prog) (w := X.w) I.kIn D.at_ D.lit
  refine ⟨"dict", "dict.get", PySem.F.plainAttrs_dict, PySem.F.slot_dict_get, PySem.F.type_dict_get, M.typeIs, M.noDict, ?_⟩
  have hA := ha.run cpos pins s σ H (fun vs H1 => ∃ S1 z y u, Rel X.K S1 H1 ∧ Keep X.K S H S1 H1 ∧ vs = [.str z, u] ∧ Rep X.K S1 H1 y u ∧ match lookS z tab with
    | some v => ∃ d, dvD v = some d ∧ R d S1
    | none => R y S1) I (tA.mk g k hw fun xs S1 vs H1 h1 g1 k1 d1 r1 => by
      obtain ⟨z, y, rfl, h1⟩ := h1
      obtain ⟨v, u, rfl, r, r'⟩ := r1.two
      cases r
      exact ⟨S1, z, y, u, g1.rel, d1, rfl, r', h1⟩)
  have hn' : noStar e = true ∧ noStars [e2] = true := by simpa [noStars] using hn
  have hs := starEach_cons (es := [e2]) (env := X.env) hn'.1
  rw [hs] at hA ⊢
  refine Calls.callWith_builtin (by show (false || (backTo cpos (starEach [e2] X.env)).any (·.1)) = false; rw [back_any hn'.2] <;> rfl) (Calls.evalArgs_plain ?_)
  refine thn hA fun us s2 ⟨vs, H2, I2, r2, S1, z, y, u, rl, d1, ev, ry, h1⟩ => ?_
  subst ev
  obtain ⟨zu, yu, rfl, rz, ru⟩ := r2.two
  obtain ⟨t, rfl⟩ := rz
  have M2 := PySem.W.mapOf_K (prog := X.prog) (w := X.w) I2.kIn D.at_ D.lit
  refine call_meetsIn PySem.F.slot_dict_get M2.typeIs PySem.F.entry_dict_get (PySem.F.args_dict_get_3 _ _ _) (meets_dict_get_default (strKind X.prog X.w) (He.ga X.K x) (PySem.strKind_is X.prog X.w z t) D.low yu) ⟨_, M2, ?_⟩
  have nb := tabB_ok kt.b z
  cases hl : lookS z tab with
  | none =>
    rw [hl] at nb h1
    rw [PySem.W.find_K D.at_ nb]
    exact ⟨u, H2, I2.tok _, ru, hR _ S1 _ H2 h1 rl d1 ry⟩
  | some v =>
    rw [hl] at nb h1
    obtain ⟨w, e1, e2⟩ := nb
    obtain ⟨d, hd, h1⟩ := h1
    rw [PySem.W.find_K D.at_ e1]
    exact ⟨v.v X.K, H2, I2.tok _, e2, hR _ S1 _ H2 h1 rl d1 (dvD_rep hd)⟩
end

/-! ### the facts -/
def kitB2 (K : PySem.W.Frag) (sub : String → String → Bool) (cs : List String) : Bool := cs.all fun c => cs.all fun C => decide (PySem.W.kitOne K (.ref (clA K c)) (.ref (clA K C)) = some (sub c C))
def exmB (K : PySem.W.Frag) (cs : List String) : Bool := cs.all fun c => cs.all fun C => decide (PySem.W.exmOne K (.ref (clA K c)) (.ref (clA K C)) = some (subB c C))
def excB1 (K : PySem.W.Frag) (c : String) : Bool :=
  He.eqO (PySem.W.findIn K (.ref (clA K c)) "__getattribute__") (some (some (.builtin "BaseException.__getattribute__"))) && (He.eqO (PySem.W.findIn K (.ref (clA K c)) "__getattr__") (some none) &&
  (decide (PySem.W.subIn K (.ref (clA K c)) (.type "BaseException") = some true) && (PySem.W.hasDictIn K (clA K c) && (He.eqO (PySem.W.findIn K (.ref (clA K c)) "__class__") (some (some (.builtin "object.__class__"))) && decide (PySem.W.mroIn K (clA K c) (.type "object") = some true)))))
def getsetB (K : PySem.W.Frag) : Bool := decide (PySem.W.specialIn K (.builtin "object.__class__") "__get__" = some (some (.builtin "getset_descriptor.__get__"))) && decide (PySem.W.takesIn K (.builtin "object.__class__") = some true)
def clsB1 (K : PySem.W.Frag) (c : String) : Bool := He.eqO (PySem.W.findIn K (.ref (clA K c)) "__class__") (some (some (.builtin "object.__class__"))) && decide (PySem.W.mroIn K (clA K c) (.type "object") = some true)
theorem excT_of {K : PySem.W.Frag} {cs : List String} (h : exmB K cs = true) : ExcT K cs := ⟨fun c hc C hC => of_decide_eq_true (List.all_eq_true.mp (List.all_eq_true.mp h c hc) C hC)⟩
theorem excK_of {K : PySem.W.Frag} {cs : List String} (h : kitB2 K subB cs = true) (h1 : cs.all (excB1 K) = true) (h2 : getsetB K = true) : ExcK K cs where
  cl := fun c hc => by
    have q := List.all_eq_true.mp h1 c hc
    obtain ⟨q1, q⟩ := He.ba q
    obtain ⟨q2, q⟩ := He.ba q
    obtain ⟨q3, q⟩ := He.ba q
    obtain ⟨q4, q⟩ := He.ba q
    obtain ⟨q5, q6⟩ := He.ba q
    obtain ⟨z1, z2⟩ := He.ba h2
    exact ⟨He.eqO_ok q1, He.eqO_ok q2, of_decide_eq_true q3, q4, He.eqO_ok q5, of_decide_eq_true z1, of_decide_eq_true z2, of_decide_eq_true q6⟩
  kit := fun c hc C hC => of_decide_eq_true (List.all_eq_true.mp (List.all_eq_true.mp h c hc) C hC)
theorem clsK_of {K : PySem.W.Frag} {cs : List String} {sub : String → String → Bool} (h : kitB2 K sub cs = true) (h1 : cs.all (clsB1 K) = true) (h2 : getsetB K = true) : ClsK K cs sub where
  ha := fun c hc => He.eqO_ok (He.ba (List.all_eq_true.mp h1 c hc)).1
  hn := of_decide_eq_true (He.ba h2).1
  htk := of_decide_eq_true (He.ba h2).2
  hm := fun c hc => of_decide_eq_true (He.ba (List.all_eq_true.mp h1 c hc)).2
  kit := fun c hc C hC => of_decide_eq_true (List.all_eq_true.mp (List.all_eq_true.mp h c hc) C hC)
theorem exOk_of {K : PySem.W.Frag} {c : String} (h : (He.Fa.exc (Str.ofString c)).ok K = true) : ExOk K c := by
  obtain ⟨h1, h2, h3, h4⟩ := He.exc_ok h
  exact ⟨h1, h2, h3, h4⟩
/-! methods' tables -/
section
variable {P : Program} {w : World} {K : PySem.W.Frag} {mg : Str → Option Value} {base : Heap} {k : Nat} {m : Str}
theorem mts_nil : ∀ (c : String) (nd : Nat × List D × Spec), ([] : List (String × Nat × List D × Spec)).lookup c = some nd → MtBd P w K mg base k (clA K c) m nd.1 nd.2.1 nd.2.2 := fun c nd h => by cases h
theorem mts_cons {c0 : String} {n : Nat} {dds : List D} {φ : Spec} {cs : List (String × Nat × List D × Spec)} (h : MtBd P w K mg base k (clA K c0) m n dds φ) (r : ∀ c nd, cs.lookup c = some nd → MtBd P w K mg base k (clA K c) m nd.1 nd.2.1 nd.2.2) :
    ∀ c nd, ((c0, n, dds, φ) :: cs).lookup c = some nd → MtBd P w K mg base k (clA K c) m nd.1 nd.2.1 nd.2.2 := fun c nd e => by
  rw [List.lookup_cons] at e
  by_cases hc : c == c0
  · rw [hc] at e
    cases e
    rw [beq_iff_eq.mp hc]
    exact h
  · rw [Bool.eq_false_iff.mpr hc] at e
    exact r c nd e
end
end SB
end

section
set_option Elab.async false
set_option linter.all false
set_option maxRecDepth 100000
set_option autoImplicit false
/-! SB16: the wishes unfolded; plain data; for the laws' own part. -/
namespace SB
open PySem PySem.Spec L2
section
variable {ς : En} {S : Sto} {R : Pd} {RE : Px} {E : ES} {XE : PxE} {wa wb wc we wo wi' : WpE} {was wr : WpA} {a b u : WpS} {wt : WpT}
@[simp] theorem s_var {i : Nat} : wVar i ς S R RE = ∃ x, ς[i]? = some (some x) ∧ R x S := rfl
@[simp] theorem s_c {d : D} : wC d ς S R RE = R d S := rfl
@[simp] theorem s_op {f : D → D → Sto → Pd → Prop} : wOp f wa wb ς S R RE = wa ς S (fun x S1 => wb ς S1 (fun y S2 => f x y S2 R) RE) RE := rfl
@[simp] theorem s_un {f : D → Sto → Pd → Prop} : wUn f wa ς S R RE = wa ς S (fun x S1 => f x S1 R) RE := rfl
@[simp] theorem s_B {R : Bool → Sto → Prop} : wB we ς S R RE = we ς S (fun x S1 => ∃ b, x = .bl b ∧ R b S1) RE := rfl
@[simp] theorem s_and : wAnd wa wb ς S R RE = wa ς S (fun x S1 => ∃ b, x = .bl b ∧ if b = true then wb ς S1 R RE else R (.bl false) S1) RE := rfl
@[simp] theorem s_or : wOr wa wb ς S R RE = wa ς S (fun x S1 => ∃ b, x = .bl b ∧ if b = true then R (.bl true) S1 else wb ς S1 R RE) RE := rfl
@[simp] theorem s_not : wNot wa ς S R RE = wa ς S (fun x S1 => ∃ b, x = .bl b ∧ R (.bl (!b)) S1) RE := rfl
@[simp] theorem s_ite : wIte wc wa wb ς S R RE = wc ς S (fun x S1 => ∃ b, x = .bl b ∧ if b = true then wa ς S1 R RE else wb ς S1 R RE) RE := rfl
@[simp] theorem s_chain {f f' : D → D → Sto → Pd → Prop} : wChain f f' wa wb wc ς S R RE = wa ς S (fun x S1 => wb ς S1 (fun y S2 => f x y S2 fun z S3 => ∃ k, z = .bl k ∧ if k = true then wc ς S3 (fun v S4 => f' y v S4 R) RE else R (.bl false) S3) RE) RE := rfl
@[simp] theorem s_nil {R : List D → Sto → Prop} : wNil ς S R RE = R [] S := rfl
@[simp] theorem s_cons {R : List D → Sto → Prop} : wCons wa wr ς S R RE = wa ς S (fun x S1 => wr ς S1 (fun xs S2 => R (x :: xs) S2) RE) RE := rfl
@[simp] theorem s_tup : wTup was ς S R RE = was ς S (fun xs S1 => xs.length ≤ sizeLine ∧ R (.tup xs) S1) RE := rfl
@[simp] theorem s_lst {own : Bool} : wLst own was ς S R RE = was ς S (fun xs S1 => mkL own xs S1 R) RE := rfl
/-- an attribute's value -/
def fget (f : String) (x : D) (S : Sto) (R : Pd) : Prop := ∃ c fs v, insOf S x = some (c, fs) ∧ look f fs = some v ∧ R v S
@[simp] theorem s_fld {f : String} : wFld f wa ς S R RE = wa ς S (fun x S1 => fget f x S1 R) RE := rfl
@[simp] theorem s_call {φ : Spec} {dds : List D} : wCall φ dds was ς S R RE = was ς S (fun xs S1 => φ (xs ++ dds) S1 R RE) RE := rfl
@[simp] theorem s_fun {f : List D → Sto → Pd → Prop} : wFun f was ς S R RE = was ς S (fun xs S1 => f xs S1 R) RE := rfl
@[simp] theorem s_isTy {T : String} : wIsTy T we ς S R RE = we ς S (fun x S1 => ∃ t, tyD S1 x = some t ∧ R (.bl (tySub t T)) S1) RE := rfl
@[simp] theorem s_mt {T : String} {f : D → List D → Sto → Pd → Prop} : wMt T f wo was ς S R RE = wo ς S (fun x S1 => tyM T S1 x = true ∧ was ς S1 (fun xs S2 => f x xs S2 R) RE) RE := rfl
@[simp] theorem s_src {R : List D → Option (Addr × SO) → Sto → Prop} : wSrc we ς S R RE = we ς S (fun x S1 => ∃ l gd, srcOf S1 x = some (l, gd) ∧ R l gd S1) RE := rfl
@[simp] theorem s_yes {R : Bool → Sto → Prop} : wYes ς S R RE = R true S := rfl
@[simp] theorem s_seq : wSeq a b ς S E XE = a ς S { E with nx := fun ς' S' => b ς' S' E XE } XE := rfl
@[simp] theorem s_expr : wExpr we ς S E XE = we ς S (fun _ S1 => E.nx ς S1) (fun c S' => XE c ς S') := rfl
@[simp] theorem s_ret : wRet we ς S E XE = we ς S (fun x S1 => E.rt x S1) (fun c S' => XE c ς S') := rfl
@[simp] theorem s_nx : wNx ς S E XE = E.nx ς S := rfl
@[simp] theorem s_if : wIf wt a b ς S E XE = wt ς S (fun k S1 => if k = true then a ς S1 E XE else b ς S1 E XE) (fun c S' => XE c ς S') := rfl
@[simp] theorem s_set {i : Nat} : wSet i we ς S E XE = we ς S (fun x S1 => E.nx (ς.set i (some x)) S1) (fun c S' => XE c ς S') := rfl
@[simp] theorem s_asg {t : Tg} : wAsg t we ς S E XE = we ς S (fun x S1 => ∃ ς', t.bind x ς = some ς' ∧ E.nx ς' S1) (fun c S' => XE c ς S') := rfl
@[simp] theorem s_raise {c : String} : wRaise c ς S E XE = XE c ς S := rfl
@[simp] theorem s_lc {own : Bool} {wi : WpI} {t : Tg} {vs : List Nat} : wLc own wi t wt we vs ς S R RE = wi ς S (fun xs gd S1 => ∀ p, S1 p = none → lcL gd t wt we p (wipeE ς vs) xs [] (S1.set p (.lst [])) (lcEnd own p R)) RE := rfl
@[simp] theorem s_lenSet : wLenSet we ς S R RE = we ς S (fun x S1 => ∃ l ns, contOf S1 x = .l l ∧ intL l = some ns ∧ ns.Nodup ∧ ns.length ≤ 4000 ∧ R (.int (ns.length : Nat)) S1) RE := rfl
@[simp] theorem s_bindN {i : Nat} {d : D} : Tg.bind (.nm i) d ς = some (ς.set i (some d)) := rfl
@[simp] theorem s_bindT {ts : Tgs} {l : List D} : Tg.bind (.tup ts) (.tup l) ς = Tgs.bind ts l ς := rfl
@[simp] theorem s_bindNil : Tgs.bind .nil [] ς = some ς := rfl
@[simp] theorem s_bindCons {t : Tg} {ts : Tgs} {x : D} {xs : List D} : Tgs.bind (.cons t ts) (x :: xs) ς = match Tg.bind t x ς with
    | some ς1 => Tgs.bind ts xs ς1
    | none => none := rfl
end
section
variable {S : Sto} {R : Pd}
@[simp] theorem f_addI {own : Bool} {i j : Int} : fAdd own (.int i) (.int j) S R = R (.int (i + j)) S := rfl
@[simp] theorem f_addT {own : Bool} {l m : List D} : fAdd own (.tup l) (.tup m) S R = (l.length + m.length ≤ sizeLine ∧ R (.tup (l ++ m)) S) := rfl
@[simp] theorem f_addL {own : Bool} {l m : List D} : fAdd own (.lst l) (.lst m) S R = (mkL own (l ++ m) S R) := by
  unfold fAdd; simp [lstOf]
@[simp] theorem f_sub {i j : Int} : fSub (.int i) (.int j) S R = R (.int (i - j)) S := rfl
@[simp] theorem f_mul {own : Bool} {i j : Int} : fMul own (.int i) (.int j) S R = (L2.CMul i j ∧ R (.int (i * j)) S) := rfl
@[simp] theorem f_div {i j : Int} : fDiv (.int i) (.int j) S R = ((0 < j ∧ j.natAbs.log2 < 9000) ∧ R (.int (i / j)) S) := rfl
@[simp] theorem f_mod {i j : Int} : fMod (.int i) (.int j) S R = (0 < j ∧ R (.int (i % j)) S) := rfl
@[simp] theorem f_pow {i j : Int} : fPow (.int i) (.int j) S R = (L2.CPow i j ∧ R (.int (i ^ j.toNat)) S) := rfl
@[simp] theorem f_cmp {p : Int → Int → Bool} {i j : Int} : fCmp p (.int i) (.int j) S R = R (.bl (p i j)) S := rfl
@[simp] theorem f_mkL {l : List D} : mkL false l S R = (l.length ≤ sizeLine ∧ R (.lst l) S) := rfl
@[simp] theorem f_mkLo {l : List D} : mkL true l S R = (l.length ≤ sizeLine ∧ ∀ p, S p = none → R (.ref p) (S.set p (.lst l))) := rfl
@[simp] theorem f_mkD {l : List (Key × D)} : mkD false l S R = (l.length ≤ sizeLine ∧ R (.dct l) S) := rfl
@[simp] theorem f_mkDo {l : List (Key × D)} : mkD true l S R = (l.length ≤ sizeLine ∧ ∀ p, S p = none → R (.ref p) (S.set p (.dct l))) := rfl
end
@[simp] theorem Rz_now {R : Pd} {x : D} {S : Sto} (h : R x S) : Rz R x S := .now h
@[simp] theorem ex2 {α β : Type} {a : α} {b : β} {P : α → β → Prop} : (∃ l g, (a = l ∧ b = g) ∧ P l g) ↔ P a b := ⟨fun ⟨_, _, ⟨rfl, rfl⟩, h⟩ => h, fun h => ⟨a, b, ⟨rfl, rfl⟩, h⟩⟩
@[simp] theorem ex3 {α β γ : Type} {a : α} {b : β} {P : α → β → γ → Prop} : (∃ l g v, (a = l ∧ b = g) ∧ P l g v) ↔ ∃ v, P a b v := ⟨fun ⟨_, _, v, ⟨rfl, rfl⟩, h⟩ => ⟨v, h⟩, fun ⟨v, h⟩ => ⟨a, b, v, ⟨rfl, rfl⟩, h⟩⟩

/-! ### plain data without truths -/
mutual
def pl : D → Bool
  | .non => true
  | .int _ => true
  | .str x => PyData.strOk x
  | .tup l => plL l
  | .lst l => plL l
  | .bl _ => false
  | .scr _ => false
  | .dct _ => false
  | .ins _ _ => false
  | .ref _ => false
  | .exc _ => false
def plL : List D → Bool
  | [] => true
  | x :: r => pl x && plL r
end
mutual
def dp : D → Nat
  | .tup l => dpL l + 1
  | .lst l => dpL l + 1
  | .non => 0
  | .int _ => 0
  | .str _ => 0
  | .bl _ => 0
  | .scr _ => 0
  | .dct _ => 0
  | .ins _ _ => 0
  | .ref _ => 0
  | .exc _ => 0
def dpL : List D → Nat
  | [] => 0
  | x :: r => max (dp x) (dpL r)
end
mutual
theorem pl_lay : ∀ x : D, pl x = true → (pyD x).canLay0 = true ∧ (pyD x).depth = dp x
  | .non, _ => by simp [pyD, dp, PyData.canLay0, PyData.depth]
  | .int _, _ => by simp [pyD, dp, PyData.canLay0, PyData.depth]
  | .str _, h => by simp [pyD, dp, PyData.canLay0, PyData.depth]; exact h
  | .tup l, h => by
    rw [pl] at h
    have := plL_lay l h
    simp [pyD, dp, PyData.canLay0, PyData.depth, this]
  | .lst l, h => by
    rw [pl] at h
    have := plL_lay l h
    simp [pyD, dp, PyData.canLay0, PyData.depth, this]
  | .bl _, h => (Bool.false_ne_true h).elim
  | .scr _, h => (Bool.false_ne_true h).elim
  | .dct _, h => (Bool.false_ne_true h).elim
  | .ins _ _, h => (Bool.false_ne_true h).elim
  | .ref _, h => (Bool.false_ne_true h).elim
  | .exc _, h => (Bool.false_ne_true h).elim
theorem plL_lay : ∀ l : List D, plL l = true → PyData.canLayAll0 (pyL l) = true ∧ PyData.depthAll (pyL l) = dpL l
  | [], _ => by simp [pyL, dpL, PyData.canLayAll0, PyData.depthAll]
  | x :: r, h => by
    rw [plL, Bool.and_eq_true] at h
    have h1 := pl_lay x h.1
    have h2 := plL_lay r h.2
    simp [pyL, dpL, PyData.canLayAll0, PyData.depthAll, h1, h2]
end
theorem ok_pl {x : D} (h : pl x = true) (hd : dp x ≤ 64) : okD x = true := by
  unfold okD SeqAt.shaped
  have := pl_lay x h
  simp [this, hd]
mutual
theorem eqv_pl : ∀ x y : D, pl x = true → pl y = true → PyData.eqv (pyD x) (pyD y) = true → x = y
  | .non, .non, _, _, _ => rfl
  | .int i, .int j, _, _, h => by simp [pyD, PyData.eqv] at h; rw [h]
  | .str a, .str b, _, _, h => by simp [pyD, PyData.eqv] at h; rw [h]
  | .tup l, .tup m, h1, h2, h => by
    rw [pl] at h1 h2
    simp only [pyD, PyData.eqv] at h
    rw [eqvL_pl l m h1 h2 h]
  | .lst l, .lst m, h1, h2, h => by
    rw [pl] at h1 h2
    simp only [pyD, PyData.eqv] at h
    rw [eqvL_pl l m h1 h2 h]
  | .non, .int _, _, _, h => (Bool.false_ne_true h).elim
  | .non, .str _, _, _, h => (Bool.false_ne_true h).elim
  | .non, .tup _, _, _, h => (Bool.false_ne_true h).elim
  | .non, .lst _, _, _, h => (Bool.false_ne_true h).elim
  | .int _, .non, _, _, h => (Bool.false_ne_true h).elim
  | .int _, .str _, _, _, h => (Bool.false_ne_true h).elim
  | .int _, .tup _, _, _, h => (Bool.false_ne_true h).elim
  | .int _, .lst _, _, _, h => (Bool.false_ne_true h).elim
  | .str _, .non, _, _, h => (Bool.false_ne_true h).elim
  | .str _, .int _, _, _, h => (Bool.false_ne_true h).elim
  | .str _, .tup _, _, _, h => (Bool.false_ne_true h).elim
  | .str _, .lst _, _, _, h => (Bool.false_ne_true h).elim
  | .tup _, .non, _, _, h => (Bool.false_ne_true h).elim
  | .tup _, .int _, _, _, h => (Bool.false_ne_true h).elim
  | .tup _, .str _, _, _, h => (Bool.false_ne_true h).elim
  | .tup _, .lst _, _, _, h => (Bool.false_ne_true h).elim
  | .lst _, .non, _, _, h => (Bool.false_ne_true h).elim
  | .lst _, .int _, _, _, h => (Bool.false_ne_true h).elim
  | .lst _, .str _, _, _, h => (Bool.false_ne_true h).elim
  | .lst _, .tup _, _, _, h => (Bool.false_ne_true h).elim
  | .bl _, _, h, _, _ => (Bool.false_ne_true h).elim
  | .scr _, _, h, _, _ => (Bool.false_ne_true h).elim
  | .dct _, _, h, _, _ => (Bool.false_ne_true h).elim
  | .ins _ _, _, h, _, _ => (Bool.false_ne_true h).elim
  | .ref _, _, h, _, _ => (Bool.false_ne_true h).elim
  | .exc _, _, h, _, _ => (Bool.false_ne_true h).elim
  | _, .bl _, _, h, _ => (Bool.false_ne_true h).elim
  | _, .scr _, _, h, _ => (Bool.false_ne_true h).elim
  | _, .dct _, _, h, _ => (Bool.false_ne_true h).elim
  | _, .ins _ _, _, h, _ => (Bool.false_ne_true h).elim
  | _, .ref _, _, h, _ => (Bool.false_ne_true h).elim
  | _, .exc _, _, h, _ => (Bool.false_ne_true h).elim
theorem eqvL_pl : ∀ l m : List D, plL l = true → plL m = true → PyData.eqvAll (pyL l) (pyL m) = true → l = m
  | [], [], _, _, _ => rfl
  | [], _ :: _, _, _, h => by simp [pyL, PyData.eqvAll] at h
  | _ :: _, [], _, _, h => by simp [pyL, PyData.eqvAll] at h
  | x :: l, y :: m, h1, h2, h => by
    rw [plL, Bool.and_eq_true] at h1 h2
    simp only [pyL, PyData.eqvAll, Bool.and_eq_true] at h
    rw [eqv_pl x y h1.1 h2.1 h.1, eqvL_pl l m h1.2 h2.2 h.2]
end
theorem dEq_pl {x y : D} (hx : pl x = true) (hy : pl y = true) : dEq x y = true ↔ x = y := by
  constructor
  · exact eqv_pl x y hx hy
  · intro e; subst e; exact SeqAt.eqv_refl _ (pl_lay x hx).1
theorem dEq_no {x y : D} (hx : pl x = true) (hy : pl y = true) (h : x ≠ y) : dEq x y = false := Bool.eq_false_iff.mpr fun e => h ((dEq_pl hx hy).mp e)
theorem dEq_self {x : D} (hx : pl x = true) : dEq x x = true := (dEq_pl hx hx).mpr rfl
@[simp] theorem view_tup {S : Sto} {l : List D} : view S (.tup l) = .tup l := rfl
@[simp] theorem view_lst {S : Sto} {l : List D} : view S (.lst l) = .lst l := rfl
@[simp] theorem view_int {S : Sto} {i : Int} : view S (.int i) = .int i := rfl
@[simp] theorem view_str {S : Sto} {i : Str} : view S (.str i) = .str i := rfl
@[simp] theorem view_non {S : Sto} : view S .non = .non := rfl
@[simp] theorem view_bl {S : Sto} {i : Bool} : view S (.bl i) = .bl i := rfl
theorem okI (i : Int) : okD (.int i) = true := by simp [okD, SeqAt.shaped, pyD, PyData.canLay0, PyData.depth]
theorem okS (i : Str) (h : PyData.strOk i = true) : okD (.str i) = true := by simp [okD, SeqAt.shaped, pyD, PyData.canLay0, PyData.depth, h]
theorem okN : okD .non = true := by simp [okD, SeqAt.shaped, pyD, PyData.canLay0, PyData.depth]
theorem okB (b : Bool) : okD (.bl b) = true := by simp [okD, SeqAt.shaped, pyD, PyData.canLay0, PyData.depth]
@[simp] theorem f_eqI {neg : Bool} {i j : Int} {S : Sto} {R : Pd} : fEq neg (.int i) (.int j) S R = R (.bl (neg ^^ decide (i = j))) S := by
  have e : dEq (.int i) (.int j) = decide (i = j) := by
    by_cases h : i = j
    · subst h; simp [dEq, pyD, PyData.eqv]
    · simp [dEq, pyD, PyData.eqv, h]
  simp only [fEq, view_int, okI, true_and, e]
theorem f_eqS {neg : Bool} {i j : Str} {S : Sto} {R : Pd} (hi : PyData.strOk i = true) (hj : PyData.strOk j = true) : fEq neg (.str i) (.str j) S R = R (.bl (neg ^^ decide (i = j))) S := by
  have e : dEq (.str i) (.str j) = decide (i = j) := by
    by_cases h : i = j
    · subst h; simp [dEq, pyD, PyData.eqv]
    · simp [dEq, pyD, PyData.eqv, h]
  simp only [fEq, view_str, okS i hi, okS j hj, true_and, e]
theorem f_eqP {neg : Bool} {x y : D} {S : Sto} {R : Pd} (hx : pl x = true) (hy : pl y = true) (dx : dp x ≤ 64) (dy : dp y ≤ 64) (h : ∀ b, (b = true ↔ x = y) → R (.bl (neg ^^ b)) S) : fEq neg x y S R := by
  have vx : view S x = x := by cases x <;> first | rfl | simp [pl] at hx
  have vy : view S y = y := by cases y <;> first | rfl | simp [pl] at hy
  unfold fEq
  rw [vx, vy]
  exact ⟨ok_pl hx dx, ok_pl hy dy, h _ (dEq_pl hx hy)⟩
@[simp] theorem strOk_of (s : String) : PyData.strOk (Str.ofString s) = true := by
  rw [Str.ofString_eq_toList]
  unfold PyData.strOk
  simp only [List.all_toArray, List.all_map, List.all_eq_true, Function.comp]
  intro c _
  have := c.valid
  simp only [UInt32.isValidChar, Nat.isValidChar] at this
  show decide (c.val.toNat < 1114112) = true
  rw [decide_eq_true_iff]
  omega
@[simp] theorem ofString_eq' {a b : String} : Str.ofString a = Str.ofString b ↔ a = b := ofString_eq
@[simp] theorem f_eqSS {neg : Bool} {i j : String} {S : Sto} {R : Pd} : fEq neg (.str (Str.ofString i)) (.str (Str.ofString j)) S R = R (.bl (neg ^^ decide (i = j))) S := by
  rw [f_eqS (strOk_of i) (strOk_of j)]
  congr 3
  exact decide_eq_decide.mpr ofString_eq
section
variable {S : Sto} {R : Pd} {l : List D} {z : Str} {d : List (Key × D)}
@[simp] theorem contOf_tup : contOf S (.tup l) = .t l := rfl
@[simp] theorem contOf_lst : contOf S (.lst l) = .l l := rfl
@[simp] theorem contOf_scr : contOf S (.scr l) = .l l := rfl
@[simp] theorem contOf_str : contOf S (.str z) = .s z := rfl
@[simp] theorem contOf_dct : contOf S (.dct d) = .d d := rfl
theorem contOf_refL {a : Addr} (h : S a = some (.lst l)) : contOf S (.ref a) = .l l := by simp [contOf, h]
theorem contOf_refD {a : Addr} (h : S a = some (.dct d)) : contOf S (.ref a) = .d d := by simp [contOf, h]
@[simp] theorem srcOf_tup : srcOf S (.tup l) = some (l, none) := rfl
@[simp] theorem srcOf_lst : srcOf S (.lst l) = some (l, none) := rfl
@[simp] theorem srcOf_scr : srcOf S (.scr l) = some (l, none) := rfl
@[simp] theorem srcOf_str : srcOf S (.str z) = some (chsD z, none) := rfl
theorem srcOf_ref {a : Addr} (h : S a = some (.lst l)) : srcOf S (.ref a) = some (l, some (a, .lst l)) := by simp [srcOf, h]
@[simp] theorem tyD_tup : tyD S (.tup l) = some "tuple" := rfl
@[simp] theorem tyD_lst : tyD S (.lst l) = some "list" := rfl
@[simp] theorem tyD_dct : tyD S (.dct d) = some "dict" := rfl
@[simp] theorem tyD_str : tyD S (.str z) = some "str" := rfl
@[simp] theorem tyD_int {i : Int} : tyD S (.int i) = some "int" := rfl
@[simp] theorem tyD_bl {i : Bool} : tyD S (.bl i) = some "bool" := rfl
@[simp] theorem tyD_non : tyD S .non = some "NoneType" := rfl
@[simp] theorem insOf_ins {c : String} {fs : List (String × D)} : insOf S (.ins c fs) = some (c, fs) := rfl
@[simp] theorem seqOf_tup : seqOf S (.tup l) = some l := rfl
@[simp] theorem seqOf_lst : seqOf S (.lst l) = some l := rfl
@[simp] theorem lstOf_lst : lstOf S (.lst l) = some l := rfl
@[simp] theorem f_lenT : fLen [.tup l] S R = R (.int l.length) S := rfl
@[simp] theorem f_lenL : fLen [.lst l] S R = R (.int l.length) S := rfl
@[simp] theorem f_lenSc : fLen [.scr l] S R = R (.int l.length) S := rfl
@[simp] theorem f_ixT {i : Int} : fIx (.tup l) (.int i) S R = ∃ v, L2.atI l i = some v ∧ R v S := by simp [fIx]
@[simp] theorem f_ixL {i : Int} : fIx (.lst l) (.int i) S R = ∃ v, L2.atI l i = some v ∧ R v S := by simp [fIx]
@[simp] theorem f_ixSc {i : Int} : fIx (.scr l) (.int i) S R = ∃ v, L2.atI l i = some v ∧ R v S := by simp [fIx]
@[simp] theorem f_ixD {k : Str} : fIx (.dct d) (.str k) S R = ∃ v, lookK (.inr k) d = some v ∧ R v S := by simp [fIx, keyOf]
@[simp] theorem f_countL {y : D} : fCount (.lst l) [y] S R = (okD (.lst l) = true ∧ okD y = true ∧ R (.int ((l.countP fun z => dEq z y : Nat) : Int)) S) := by simp [fCount]
@[simp] theorem f_sumT : fSum [.tup l] S R = ∃ ns, intL l = some ns ∧ R (.int ns.sum) S := by simp [fSum]
@[simp] theorem f_sumL : fSum [.lst l] S R = ∃ ns, intL l = some ns ∧ R (.int ns.sum) S := by simp [fSum]
theorem fAll_yes (h : ∀ x ∈ l, x = .bl true) (hR : R (.bl true) S) : fAll [.lst l] S R := by
  have : ∀ l : List D, (∀ x ∈ l, x = .bl true) → blL l = some (l.map fun _ => true) := fun l => by
    induction l with
    | nil => intro _; rfl
    | cons x r ih =>
      intro h
      rw [h x List.mem_cons_self]
      simp [blL, ih fun y hy => h y (List.mem_cons_of_mem _ hy)]
  refine ⟨l, _, rfl, this l h, ?_⟩
  rw [List.all_eq_true.mpr (by intro x hx; simp at hx; simp [hx])]
  exact hR
theorem intL_mapF {α : Type} {f : α → D} {g : α → Int} : ∀ {m : List α}, (∀ x ∈ m, f x = .int (g x)) → intL (m.map f) = some (m.map g)
  | [], _ => rfl
  | x :: r, h => by
    rw [List.map_cons, h x List.mem_cons_self]
    simp [intL, intL_mapF fun y hy => h y (List.mem_cons_of_mem _ hy)]
@[simp] theorem tyM_lst : tyM "list" S (.lst l) = true := rfl
@[simp] theorem tyM_dct : tyM "dict" S (.dct d) = true := rfl
@[simp] theorem tyM_str : tyM "str" S (.str z) = true := rfl
theorem tyM_refL {a : Addr} (h : S a = some (.lst l)) : tyM "list" S (.ref a) = true := by simp [tyM, contOf, h]
theorem tyM_refD {a : Addr} (h : S a = some (.dct d)) : tyM "dict" S (.ref a) = true := by simp [tyM, contOf, h]
end
/-- a comprehension over a frozen list whose element is pure -/
theorem lc_pure {t : Tg} {we : WpE} {p : Addr} {ς : En} {S0 : Sto} (f : D → D) : ∀ {xs acc : List D} {K : List D → Sto → Prop}, xs.length + acc.length ≤ sizeLine →
    (∀ x ∈ xs, ∃ ς1, t.bind x ς = some ς1 ∧ ∀ (S : Sto) (R : Pd), R (f x) S → we ς1 S R (fun _ _ => False)) → K (acc ++ xs.map f) (S0.set p (.lst (acc ++ xs.map f))) → lcL none t wYes we p ς xs acc (S0.set p (.lst acc)) K
  | [], acc, K, _, _, h => ⟨trivial, by simp, by simpa using h⟩
  | x :: xs, acc, K, hl, hx, h => by
    obtain ⟨ς1, e1, h1⟩ := hx x List.mem_cons_self
    refine ⟨trivial, ς1, e1, ?_⟩
    simp only [s_yes, if_true]
    refine h1 _ _ ?_
    refine ⟨by simp, by simp at hl; omega, ?_⟩
    rw [Sto.set_set]
    refine lc_pure f (by simp at hl ⊢; omega) (fun y hy => hx y (List.mem_cons_of_mem _ hy)) ?_
    simpa using h
theorem lc_frozen {t : Tg} {we : WpE} {ς : En} {S : Sto} {R : Pd} {xs : List D} (f : D → D) (hl : xs.length ≤ sizeLine)
    (hx : ∀ x ∈ xs, ∃ ς1, t.bind x ς = some ς1 ∧ ∀ (S : Sto) (R : Pd), R (f x) S → we ς1 S R (fun _ _ => False)) (h : R (.lst (xs.map f)) S) (p : Addr) (hp : S p = none) : lcL none t wYes we p ς xs [] (S.set p (.lst [])) (lcEnd false p R) := by
  refine lc_pure f (by simpa using hl) hx ?_
  show R _ _
  simpa [Sto.del_none hp] using h
/-- .. over a list of things of a kind -/
theorem lc_map {α : Type} {g : α → D} {t : Tg} {we : WpE} {ς : En} {S : Sto} {R : Pd} {xs : List α} (f : α → D) (hl : xs.length ≤ sizeLine)
    (hx : ∀ x ∈ xs, ∃ ς1, t.bind (g x) ς = some ς1 ∧ ∀ (S : Sto) (R : Pd), R (f x) S → we ς1 S R (fun _ _ => False)) (h : R (.lst (xs.map f)) S) (p : Addr) (hp : S p = none) : lcL none t wYes we p ς (xs.map g) [] (S.set p (.lst [])) (lcEnd false p R) := by
  have gen : ∀ (xs : List α) (acc : List D) (K : List D → Sto → Prop), xs.length + acc.length ≤ sizeLine → (∀ x ∈ xs, ∃ ς1, t.bind (g x) ς = some ς1 ∧ ∀ (S : Sto) (R : Pd), R (f x) S → we ς1 S R (fun _ _ => False)) →
      K (acc ++ xs.map f) (S.set p (.lst (acc ++ xs.map f))) → lcL none t wYes we p ς (xs.map g) acc (S.set p (.lst acc)) K := by
    intro xs
    induction xs with
    | nil => intro acc K _ _ h; exact ⟨trivial, by simp, by simpa using h⟩
    | cons x xs ih =>
      intro acc K hl hx h
      obtain ⟨ς1, e1, h1⟩ := hx x List.mem_cons_self
      refine ⟨trivial, ς1, e1, ?_⟩
      simp only [s_yes, if_true]
      refine h1 _ _ ⟨by simp, by simp at hl; omega, ?_⟩
      rw [Sto.set_set]
      refine ih _ _ (by simp at hl ⊢; omega) (fun y hy => hx y (List.mem_cons_of_mem _ hy)) ?_
      simpa using h
  refine gen xs [] _ (by simpa using hl) hx ?_
  show R _ _
  simpa [Sto.del_none hp] using h
theorem sz1000 {n : Nat} (h : n ≤ 1000) : n ≤ sizeLine := Nat.le_trans h (by decide)
theorem plL_map {α : Type} {f : α → D} : ∀ {m : List α}, (∀ x ∈ m, pl (f x) = true) → plL (m.map f) = true
  | [], _ => rfl
  | x :: r, h => by simp [plL, h x List.mem_cons_self, plL_map fun y hy => h y (List.mem_cons_of_mem _ hy)]
theorem dpL_map {α : Type} {f : α → D} {k : Nat} : ∀ {m : List α}, (∀ x ∈ m, dp (f x) ≤ k) → dpL (m.map f) ≤ k
  | [], _ => Nat.zero_le _
  | x :: r, h => by
    have h1 := h x List.mem_cons_self
    have h2 := dpL_map (k := k) fun y (hy : y ∈ r) => h y (List.mem_cons_of_mem _ hy)
    simp only [List.map_cons, dpL]
    omega
section
variable {S : Sto} {R : Pd} {neg : Bool}
@[simp] theorem f_isT {l : List D} : fIs neg (.tup l) .non S R = R (.bl neg) S := rfl
@[simp] theorem f_isN : fIs neg .non .non S R = R (.bl (!neg)) S := rfl
@[simp] theorem f_isI {i : Int} : fIs neg (.int i) .non S R = R (.bl neg) S := rfl
@[simp] theorem f_isS {i : Str} : fIs neg (.str i) .non S R = R (.bl neg) S := rfl
@[simp] theorem f_isD {i : List (Key × D)} : fIs neg (.dct i) .non S R = R (.bl neg) S := rfl
@[simp] theorem f_isL {l : List D} : fIs neg (.lst l) .non S R = R (.bl neg) S := rfl
theorem f_eqP' {x y : D} (b : Bool) (hx : pl x = true) (hy : pl y = true) (dx : dp x ≤ 64) (dy : dp y ≤ 64) (h : b = true ↔ x = y) (hR : R (.bl (neg ^^ b)) S) : fEq neg x y S R :=
  f_eqP hx hy dx dy fun c hc => by
    have : c = b := by
      cases b <;> cases c <;> simp_all
    rw [this]; exact hR
@[simp] theorem pl_int {i : Int} : pl (.int i) = true := rfl
@[simp] theorem pl_non : pl .non = true := rfl
@[simp] theorem pl_str {s : String} : pl (.str (Str.ofString s)) = true := strOk_of s
@[simp] theorem pl_tup {l : List D} : pl (.tup l) = plL l := rfl
@[simp] theorem pl_lst {l : List D} : pl (.lst l) = plL l := rfl
@[simp] theorem plL_nil : plL [] = true := rfl
@[simp] theorem plL_cons {x : D} {l : List D} : plL (x :: l) = (pl x && plL l) := rfl
@[simp] theorem dp_int {i : Int} : dp (.int i) = 0 := rfl
@[simp] theorem dp_non : dp .non = 0 := rfl
@[simp] theorem dp_str {s : Str} : dp (.str s) = 0 := rfl
@[simp] theorem dp_tup {l : List D} : dp (.tup l) = dpL l + 1 := rfl
@[simp] theorem dp_lst {l : List D} : dp (.lst l) = dpL l + 1 := rfl
@[simp] theorem dpL_nil : dpL [] = 0 := rfl
@[simp] theorem dpL_cons {x : D} {l : List D} : dpL (x :: l) = max (dp x) (dpL l) := rfl
@[simp] theorem s_kget {tab : List (Str × He.Dv)} {wa : WpA} {ς : En} {RE : Px} : wKGet tab wa ς S R RE = wa ς S (fun xs S1 => ∃ z y, xs = [.str z, y] ∧ match lookS z tab with
  | some v => ∃ d, dvD v = some d ∧ R d S1
  | none => R y S1) RE := rfl
/-- a method as it is found -/
def mlook (m : String) (cs : List (String × Nat × List D × Spec)) (x : D) (S : Sto) (k : Nat × List D × Spec → Prop) : Prop := ∃ c fs nd, insOf S x = some (c, fs) ∧ look m fs = none ∧ cs.lookup c = some nd ∧ k nd
@[simp] theorem s_meth {m : String} {cs : List (String × Nat × List D × Spec)} {wo : WpE} {wa : WpA} {ς : En} {RE : Px} : wMeth m cs wo wa ς S R RE = wo ς S (fun x S1 => mlook m cs x S1 fun nd => wa ς S1 (fun xs S2 => nd.2.2 (x :: (xs ++ nd.2.1)) S2 R RE) RE) RE := rfl
@[simp] theorem s_make {own : Bool} {c : String} {dds : List D} {φ : Spec} {wa : WpA} {ς : En} {RE : Px} : wMake own c dds φ wa ς S R RE = wa ς S (fun xs S1 => ∀ p, S1 p = none → φ (.ref p :: (xs ++ dds)) (S1.set p (.ins c [])) (fun v S2 => v = .non ∧ mkI own c p R S2) RE) RE := rfl
end
theorem sb_pl (p : Addr) (d : D) : (∀ x, pl x = true → sb p d x = x) ∧ ∀ l, plL l = true → subL p d l = l := by
  have h : ∀ n, (∀ x, sizeOf x < n → pl x = true → sb p d x = x) ∧ ∀ l : List D, sizeOf l < n → plL l = true → subL p d l = l := by
    intro n
    induction n with
    | zero => exact ⟨fun _ h => absurd h (Nat.not_lt_zero _), fun _ h => absurd h (Nat.not_lt_zero _)⟩
    | succ n ih =>
      refine ⟨fun x hx hp => ?_, fun l hl hp => ?_⟩
      · cases x with
        | tup l => rw [sb, ih.2 l (by simp at hx; omega) hp]
        | lst l => rw [sb, ih.2 l (by simp at hx; omega) hp]
        | non => rw [sb]
        | int _ => rw [sb]
        | str _ => rw [sb]
        | _ => exact absurd hp (by simp [pl])
      · cases l with
        | nil => rw [subL]
        | cons x l =>
          simp only [plL, Bool.and_eq_true] at hp
          simp at hl
          rw [subL, ih.1 x (by omega) hp.1, ih.2 l (by omega) hp.2]
  exact ⟨fun x => (h (sizeOf x + 1)).1 x (Nat.lt_succ_self _), fun l => (h (sizeOf l + 1)).2 l (Nat.lt_succ_self _)⟩
@[simp] theorem f_setF {cs : List String} {f c : String} {p : Addr} {y : D} {S : Sto} {fs : List (String × D)} {R : Sto → Prop} : fSetF cs f (.ref p) y (S.set p (.ins c fs)) R = (cs.contains c = true ∧ fs.length + 1 ≤ 1000 ∧ R (S.set p (.ins c (putFd f y fs)))) := by
  simp [fSetF]
@[simp] theorem s_setF {cs : List String} {f : String} {wv wo : WpE} {ς : En} {S : Sto} {E : ES} {XE : PxE} : wSetF cs f wv wo ς S E XE = wv ς S (fun y S1 => wo ς S1 (fun x S2 => fSetF cs f x y S2 fun S4 => E.nx ς S4) (fun c S' => XE c ς S')) (fun c S' => XE c ς S') := rfl
@[simp] theorem s_setI {wv wo wi : WpE} {ς : En} {S : Sto} {E : ES} {XE : PxE} : wSetI wv wo wi ς S E XE = wv ς S (fun y S1 => wo ς S1 (fun x S2 => wi ς S2 (fun i S3 => fSetI x i y S3 fun S4 => E.nx ς S4) (fun c S' => XE c ς S')) (fun c S' => XE c ς S')) (fun c S' => XE c ς S') := rfl
theorem perm_sorted : ∀ {l m : List Int}, l.Perm m → l.Pairwise (· ≤ ·) → m.Pairwise (· ≤ ·) → l = m
  | [], m, h, _, _ => (List.nil_perm.mp h).symm
  | x :: l, [], h, _, _ => by simp at h
  | x :: l, y :: m, h, h1, h2 => by
    rw [List.pairwise_cons] at h1 h2
    have hx : x ∈ y :: m := h.mem_iff.mp List.mem_cons_self
    have hy : y ∈ x :: l := h.mem_iff.mpr List.mem_cons_self
    have e : x = y := by
      rcases List.mem_cons.mp hx with e | hx
      · exact e
      · rcases List.mem_cons.mp hy with e | hy
        · exact e.symm
        · exact Int.le_antisymm (h1.1 _ hy) (h2.1 _ hx)
    subst e
    rw [perm_sorted (List.perm_cons x |>.mp h) h1.2 h2.2]
theorem f_sortedI {S : Sto} {R : Pd} {ns : List Int} (hs : ns.Pairwise (· ≤ ·)) (hl : ns.length ≤ 1000) (h : R (.lst (ns.map .int)) S) : fSorted false [.lst (ns.map .int)] S R := by
  refine ⟨ns, intL_mapF (fun _ _ => rfl) |>.trans (by simp), fun ns' hp hs' => ?_⟩
  rw [perm_sorted hp hs' hs]
  exact ⟨by rw [List.length_map]; exact sz1000 hl, h⟩
/-- isinstance of an own class -/
def isO (cs : List String) (sub : String → String → Bool) (C : String) (x : D) (S : Sto) (R : Pd) : Prop := ∃ c fs, insOf S x = some (c, fs) ∧ c ∈ cs ∧ R (.bl (sub c C)) S
@[simp] theorem s_isO {cs : List String} {sub : String → String → Bool} {C : String} {we : WpE} {ς : En} {S : Sto} {R : Pd} {RE : Px} : wIsO cs sub C we ς S R RE = we ς S (fun x S1 => isO cs sub C x S1 R) RE := rfl
end SB
end

section
set_option Elab.async false
set_option linter.all false
set_option maxRecDepth 100000
set_option maxHeartbeats 0
namespace L99
open SB PySem PySem.Spec L2
def top (i : Nat) : Stmt := PySem.Challenge.pw_sidebook_k99_whole_accounts_kept_for_eve.main.body.getD i (.Pass ⟨0, 0, 0, 0⟩)
def inClass (s : Stmt) (j : Nat) : Stmt := match s with
  | .ClassDef _ _ _ body _ _ _ _ _ _ _ => body.getD j (.Pass ⟨0, 0, 0, 0⟩)
  | s => s
def mkDD (at_ : Str × Option Str) (name qual : Str) (st : Stmt) (dfl : List He.Dv) : He.DefD := ⟨at_, name, qual, defArgs st, defBody st, defScope st, dfl, []⟩
def excs : List String := ["BookError", "NoStand", "NoDeed"]
def owncs : List String := ["Account", "Calm", "Offered", "Waiting"]
def subs : List (String × String) := [("Account", "Account"), ("Calm", "Calm"), ("Calm", "Account"), ("Offered", "Offered"), ("Offered", "Account"), ("Waiting", "Waiting"), ("Waiting", "Account")]
def ownsub (c C : String) : Bool := subs.contains (c, C)
def fn : List He.DefD := [
  mkDD (("in_bounds" : Str), none) "in_bounds" "in_bounds" (top 10) [],
  mkDD (("is_tie" : Str), none) "is_tie" "is_tie" (top 11) [],
  mkDD (("are_shares" : Str), none) "are_shares" "are_shares" (top 12) [],
  mkDD (("are_ties" : Str), none) "are_ties" "are_ties" (top 13) [],
  mkDD (("is_stand" : Str), none) "is_stand" "is_stand" (top 14) [],
  mkDD (("stand" : Str), none) "stand" "stand" (top 15) [.non],
  mkDD (("first" : Str), none) "first" "first" (top 16) [],
  mkDD (("deals" : Str), none) "deals" "deals" (top 17) [],
  mkDD (("is_made" : Str), none) "is_made" "is_made" (top 20) [],
  mkDD (("is_thing" : Str), none) "is_thing" "is_thing" (top 21) [],
  mkDD (("is_pot" : Str), none) "is_pot" "is_pot" (top 25) [],
  mkDD (("is_kind" : Str), none) "is_kind" "is_kind" (top 26) [],
  mkDD (("is_letter" : Str), none) "is_letter" "is_letter" (top 27) [],
  mkDD (("first_account" : Str), none) "first_account" "first_account" (top 33) [],
  mkDD (("offered" : Str), none) "offered" "offered" (top 34) [],
  mkDD (("_law_cell_at" : Str), none) "_law_cell_at" "_law_cell_at" (top 36) [],
  mkDD (("_law_well_of" : Str), none) "_law_well_of" "_law_well_of" (top 37) [],
  mkDD (("_law_draw" : Str), none) "_law_draw" "_law_draw" (top 38) [],
  mkDD (("_law_deal" : Str), none) "_law_deal" "_law_deal" (top 39) [],
  mkDD (("_law_is_stand" : Str), none) "_law_is_stand" "_law_is_stand" (top 40) [],
  mkDD (("_law_deals" : Str), none) "_law_deals" "_law_deals" (top 41) [],
  mkDD (("_law_begun" : Str), none) "_law_begun" "_law_begun" (top 42) [],
  mkDD (("_law_offered_of" : Str), none) "_law_offered_of" "_law_offered_of" (top 43) [],
  mkDD (("_law_struck" : Str), none) "_law_struck" "_law_struck" (top 44) [],
  mkDD (("_law_taken" : Str), none) "_law_taken" "_law_taken" (top 45) [],
  mkDD (("_law_written" : Str), none) "_law_written" "_law_written" (top 46) [],
  mkDD (("_law_same" : Str), none) "_law_same" "_law_same" (top 47) [],
  mkDD (("_law_done" : Str), none) "_law_done" "_law_done" (top 48) [],
  mkDD (("_law_deed_right" : Str), none) "_law_deed_right" "_law_deed_right" (top 49) [],
  mkDD (("law" : Str), none) "law" "law" (top 50) [],
  mkDD (("Account" : Str), some ("__init__" : Str)) "__init__" "Account.__init__" (inClass (top 29) 0) [],
  mkDD (("Account" : Str), some ("word" : Str)) "word" "Account.word" (inClass (top 29) 1) [],
  mkDD (("Account" : Str), some ("fits" : Str)) "fits" "Account.fits" (inClass (top 29) 2) [],
  mkDD (("Account" : Str), some ("behind" : Str)) "behind" "Account.behind" (inClass (top 29) 3) [],
  mkDD (("Account" : Str), some ("taken" : Str)) "taken" "Account.taken" (inClass (top 29) 4) [],
  mkDD (("Account" : Str), some ("agrees" : Str)) "agrees" "Account.agrees" (inClass (top 29) 5) [],
  mkDD (("Calm" : Str), some ("__init__" : Str)) "__init__" "Account.__init__" (inClass (top 29) 0) [],
  mkDD (("Calm" : Str), some ("word" : Str)) "word" "Calm.word" (inClass (top 30) 0) [],
  mkDD (("Calm" : Str), some ("fits" : Str)) "fits" "Calm.fits" (inClass (top 30) 1) [],
  mkDD (("Calm" : Str), some ("behind" : Str)) "behind" "Calm.behind" (inClass (top 30) 2) [],
  mkDD (("Calm" : Str), some ("taken" : Str)) "taken" "Account.taken" (inClass (top 29) 4) [],
  mkDD (("Calm" : Str), some ("agrees" : Str)) "agrees" "Account.agrees" (inClass (top 29) 5) [],
  mkDD (("Offered" : Str), some ("__init__" : Str)) "__init__" "Account.__init__" (inClass (top 29) 0) [],
  mkDD (("Offered" : Str), some ("word" : Str)) "word" "Offered.word" (inClass (top 31) 0) [],
  mkDD (("Offered" : Str), some ("fits" : Str)) "fits" "Offered.fits" (inClass (top 31) 1) [],
  mkDD (("Offered" : Str), some ("behind" : Str)) "behind" "Offered.behind" (inClass (top 31) 2) [],
  mkDD (("Offered" : Str), some ("taken" : Str)) "taken" "Account.taken" (inClass (top 29) 4) [],
  mkDD (("Offered" : Str), some ("agrees" : Str)) "agrees" "Account.agrees" (inClass (top 29) 5) [],
  mkDD (("Waiting" : Str), some ("__init__" : Str)) "__init__" "Account.__init__" (inClass (top 29) 0) [],
  mkDD (("Waiting" : Str), some ("word" : Str)) "word" "Waiting.word" (inClass (top 32) 0) [],
  mkDD (("Waiting" : Str), some ("fits" : Str)) "fits" "Waiting.fits" (inClass (top 32) 1) [],
  mkDD (("Waiting" : Str), some ("behind" : Str)) "behind" "Waiting.behind" (inClass (top 32) 2) [],
  mkDD (("Waiting" : Str), some ("taken" : Str)) "taken" "Account.taken" (inClass (top 29) 4) [],
  mkDD (("Waiting" : Str), some ("agrees" : Str)) "agrees" "Account.agrees" (inClass (top 29) 5) []]
def fa : List He.Fa := [.glo "Account", .glo "BookError", .glo "Calm", .glo "LENGTHS", .glo "NoDeed", .glo "NoStand", .glo "Offered", .glo "Waiting", .glo "_law_begun", .glo "_law_cell_at", .glo "_law_deal", .glo "_law_deals", .glo "_law_deed_right", .glo "_law_done", .glo "_law_draw", .glo "_law_is_stand", .glo "_law_offered_of", .glo "_law_same", .glo "_law_struck", .glo "_law_taken", .glo "_law_well_of", .glo "_law_written", .glo "are_shares", .glo "are_ties", .glo "deals", .glo "first", .glo "first_account", .glo "in_bounds", .glo "is_kind", .glo "is_letter", .glo "is_made", .glo "is_pot", .glo "is_stand", .glo "is_thing", .glo "is_tie", .glo "offered", .glo "stand", .free "all", .free "bool", .free "dict"] ++ [.free "int", .free "isinstance", .free "len", .free "list", .free "min", .free "range", .free "set", .free "sorted", .free "str", .free "sum", .free "tuple", .int "MOST_COIN" 1000000000000, .int "MOST_DAY" 1000000, .int "MOST_NUMBER" 1000000, .int "MOST_POT_letters" 2, .int "MOST_POT_things" 2, .int "MOST_TIES" 6, .int "MOST_WORD" 59, .noat "Account" "dealt", .noat "Account" "grant", .noat "Account" "may", .noat "Account" "mine", .noat "Account" "pot", .noat "Account" "side", .noat "Account" "strikes", .noat "Calm" "dealt", .noat "Calm" "grant", .noat "Calm" "may", .noat "Calm" "mine", .noat "Calm" "pot", .noat "Calm" "side", .noat "Calm" "strikes", .noat "Offered" "dealt", .noat "Offered" "grant", .noat "Offered" "may", .noat "Offered" "mine", .noat "Offered" "pot", .noat "Offered" "side", .noat "Offered" "strikes", .noat "Waiting" "dealt"] ++ [.noat "Waiting" "grant", .noat "Waiting" "may", .noat "Waiting" "mine", .noat "Waiting" "pot", .noat "Waiting" "side", .noat "Waiting" "strikes", .mkr "Calm", .cls "Calm", .mkr "Offered", .cls "Offered", .mkr "Waiting", .cls "Waiting", .meth "Account" "agrees", .meth "Calm" "agrees", .meth "Offered" "agrees", .meth "Waiting" "agrees", .meth "Account" "behind", .meth "Calm" "behind", .meth "Offered" "behind", .meth "Waiting" "behind", .meth "Account" "fits", .meth "Calm" "fits", .meth "Offered" "fits", .meth "Waiting" "fits", .meth "Account" "taken", .meth "Calm" "taken", .meth "Offered" "taken", .meth "Waiting" "taken", .meth "Account" "word", .meth "Calm" "word", .meth "Offered" "word", .meth "Waiting" "word", .exc "BookError", .exc "NoStand", .exc "NoDeed", .glo "law"]
def tab_LENGTHS : List (Str × He.Dv) := [(("offer" : Str), .int 3), (("accept" : Str), .int 4), (("struck" : Str), .int 3), (("ask" : Str), .int 4), (("word" : Str), .int 3)]
def keys_LENGTHS : List Str := [("offer" : Str), ("accept" : Str), ("struck" : Str), ("ask" : Str), ("word" : Str)]
def ts : List He.Tab := [((fun K => He.ga K "LENGTHS"), keys_LENGTHS)]
def exl (K : PySem.W.Frag) : List Bool := [exmB K excs, kitB2 K subB excs && (excs.all (excB1 K) && getsetB K), kitB2 K ownsub owncs && (owncs.all (clsB1 K) && getsetB K), tabB K "LENGTHS" tab_LENGTHS]
def ex (K : PySem.W.Frag) : Bool := (exl K).all id
def names : List PySem.Str := (["BookError", "NoStand", "NoDeed", "MOST_NUMBER", "MOST_COIN", "MOST_TIES", "MOST_WORD", "MOST_DAY", "in_bounds", "is_tie", "are_shares", "are_ties", "is_stand", "stand", "first", "deals", "MOST_POT_things", "is_made", "is_thing", "LENGTHS", "MOST_POT_letters", "is_pot", "is_kind", "is_letter", "Account", "Calm", "Offered", "Waiting", "first_account", "offered"] : List PySem.Str) ++ (["_law_cell_at", "_law_well_of", "_law_draw", "_law_deal", "_law_is_stand", "_law_deals", "_law_begun", "_law_offered_of", "_law_struck", "_law_taken", "_law_written", "_law_same", "_law_done", "_law_deed_right"] : List PySem.Str)
abbrev R : PySem.W.OpenRow := PySem.W.OpenLaw.row PySem.Challenge.rw_sidebook_k99_whole_accounts_kept_for_eve
abbrev hk : PySem.W.Hook := He.hookX 4 fa fn ts [] ex
def ob (s : PySem.W.SharedT) : He.AlX := He.obsX 4 fa fn ts [] ex (HandSHeadRun.getT s)
theorem ob_eq (s : PySem.W.SharedT) : ob s = hk.obs s.abs := He.obsX_eq (HandSHeadRun.getT_eq s)
structure Hd (w : World) (K : PySem.W.Frag) (mg : Str → Option Value) : Prop where
  ex : ∃ h, K.In h ∧ h.Ns mainGlobals mg ∧ He.SaysX fa fn ts [] ex w h K
section
variable {w : World} {K : PySem.W.Frag} {mg : Str → Option Value}
noncomputable def Hd.h (hd : Hd w K mg) : Heap := Classical.choose hd.ex
theorem Hd.X (hd : Hd w K mg) : K.In hd.h := (Classical.choose_spec hd.ex).1
theorem Hd.G (hd : Hd w K mg) : hd.h.Ns mainGlobals mg := (Classical.choose_spec hd.ex).2.1
theorem Hd.c (hd : Hd w K mg) : He.SaysX fa fn ts [] _root_.L99.ex w hd.h K := (Classical.choose_spec hd.ex).2.2
theorem exf (hd : Hd w K mg) {b : Bool} (h : b ∈ exl K) : b = true := List.all_eq_true.mp (show ((exl K).all id) = true from hd.c.more) b h
end
end L99
end

section
set_option Elab.async false
set_option linter.all false
set_option maxRecDepth 100000
set_option maxHeartbeats 0
namespace L99
open SB PySem PySem.Spec L2
theorem run1 (w : World) : True := trivial
theorem run : ∀ w, HandSHeadRun.RunEq R (PySem.W.view R.prog [50]) hk ob 6000 names w := PySem.W.byRow2 "special-get-raises" (fun w => by intro os; kernel_rfl) (fun w => by intro os; kernel_rfl)
end L99
end

section
set_option Elab.async false
set_option linter.all false
set_option maxRecDepth 100000
set_option maxHeartbeats 0
namespace L99
open SB PySem PySem.Spec L2
theorem we_globI' {X : Cx} {F : Fr} {pos : Pos} {x : Str} {i : Int} (h : ∃ t, X.mg x = some (.int i t)) (hg : Gl X x) (hd : (x == ("__debug__" : Str)) = false) : WE X F (.Name x pos) (wC (.int i)) := by
  obtain ⟨t, h⟩ := h
  exact we_globI hg h ⟨t, rfl⟩ hd
theorem _root_.SB.MkBd.mono' {P : Program} {w : World} {K : PySem.W.Frag} {mg : Str → Option Value} {base : Heap} {j k : Nat} {c : String} {n : Nat} {dds : List D} {φ : SB.Spec} (h : MkBd P w K mg base j c n dds φ) (l : j ≤ k) : MkBd P w K mg base k c n dds φ := by
  obtain ⟨⟨f, a, b⟩, c⟩ := h
  exact ⟨⟨f, a, b.mono l⟩, c⟩
theorem _root_.SB.MtBd.mono {P : Program} {w : World} {K : PySem.W.Frag} {mg : Str → Option Value} {base : Heap} {j k : Nat} {C : Addr} {m : Str} {n : Nat} {dds : List D} {φ : SB.Spec} (h : MtBd P w K mg base j C m n dds φ) (l : j ≤ k) : MtBd P w K mg base k C m n dds φ := by
  obtain ⟨f, a, b⟩ := h
  exact ⟨f, a, b.mono l⟩

theorem nd_Account : (("Account" : Str) == ("__debug__" : Str)) = false := by decide
theorem nc_Account : (("Account" : Str) == ("__classdict__" : Str)) = false := by decide
theorem nd_BookError : (("BookError" : Str) == ("__debug__" : Str)) = false := by decide
theorem nc_BookError : (("BookError" : Str) == ("__classdict__" : Str)) = false := by decide
theorem nd_Calm : (("Calm" : Str) == ("__debug__" : Str)) = false := by decide
theorem nc_Calm : (("Calm" : Str) == ("__classdict__" : Str)) = false := by decide
theorem nd_LENGTHS : (("LENGTHS" : Str) == ("__debug__" : Str)) = false := by decide
theorem nc_LENGTHS : (("LENGTHS" : Str) == ("__classdict__" : Str)) = false := by decide
theorem nd_MOST_COIN : (("MOST_COIN" : Str) == ("__debug__" : Str)) = false := by decide
theorem nc_MOST_COIN : (("MOST_COIN" : Str) == ("__classdict__" : Str)) = false := by decide
theorem nd_MOST_DAY : (("MOST_DAY" : Str) == ("__debug__" : Str)) = false := by decide
theorem nc_MOST_DAY : (("MOST_DAY" : Str) == ("__classdict__" : Str)) = false := by decide
theorem nd_MOST_NUMBER : (("MOST_NUMBER" : Str) == ("__debug__" : Str)) = false := by decide
theorem nc_MOST_NUMBER : (("MOST_NUMBER" : Str) == ("__classdict__" : Str)) = false := by decide
theorem nd_MOST_POT_letters : (("MOST_POT_letters" : Str) == ("__debug__" : Str)) = false := by decide
theorem nc_MOST_POT_letters : (("MOST_POT_letters" : Str) == ("__classdict__" : Str)) = false := by decide
theorem nd_MOST_POT_things : (("MOST_POT_things" : Str) == ("__debug__" : Str)) = false := by decide
theorem nc_MOST_POT_things : (("MOST_POT_things" : Str) == ("__classdict__" : Str)) = false := by decide
theorem nd_MOST_TIES : (("MOST_TIES" : Str) == ("__debug__" : Str)) = false := by decide
theorem nc_MOST_TIES : (("MOST_TIES" : Str) == ("__classdict__" : Str)) = false := by decide
theorem nd_MOST_WORD : (("MOST_WORD" : Str) == ("__debug__" : Str)) = false := by decide
theorem nc_MOST_WORD : (("MOST_WORD" : Str) == ("__classdict__" : Str)) = false := by decide
theorem nd_NoDeed : (("NoDeed" : Str) == ("__debug__" : Str)) = false := by decide
theorem nc_NoDeed : (("NoDeed" : Str) == ("__classdict__" : Str)) = false := by decide
theorem nd_NoStand : (("NoStand" : Str) == ("__debug__" : Str)) = false := by decide
theorem nc_NoStand : (("NoStand" : Str) == ("__classdict__" : Str)) = false := by decide
theorem nd_Offered : (("Offered" : Str) == ("__debug__" : Str)) = false := by decide
theorem nc_Offered : (("Offered" : Str) == ("__classdict__" : Str)) = false := by decide
theorem nd_Waiting : (("Waiting" : Str) == ("__debug__" : Str)) = false := by decide
theorem nc_Waiting : (("Waiting" : Str) == ("__classdict__" : Str)) = false := by decide
theorem nd__law_begun : (("_law_begun" : Str) == ("__debug__" : Str)) = false := by decide
theorem nc__law_begun : (("_law_begun" : Str) == ("__classdict__" : Str)) = false := by decide
theorem nd__law_cell_at : (("_law_cell_at" : Str) == ("__debug__" : Str)) = false := by decide
theorem nc__law_cell_at : (("_law_cell_at" : Str) == ("__classdict__" : Str)) = false := by decide
theorem nd__law_deal : (("_law_deal" : Str) == ("__debug__" : Str)) = false := by decide
theorem nc__law_deal : (("_law_deal" : Str) == ("__classdict__" : Str)) = false := by decide
theorem nd__law_deals : (("_law_deals" : Str) == ("__debug__" : Str)) = false := by decide
theorem nc__law_deals : (("_law_deals" : Str) == ("__classdict__" : Str)) = false := by decide
theorem nd__law_deed_right : (("_law_deed_right" : Str) == ("__debug__" : Str)) = false := by decide
theorem nc__law_deed_right : (("_law_deed_right" : Str) == ("__classdict__" : Str)) = false := by decide
theorem nd__law_done : (("_law_done" : Str) == ("__debug__" : Str)) = false := by decide
theorem nc__law_done : (("_law_done" : Str) == ("__classdict__" : Str)) = false := by decide
theorem nd__law_draw : (("_law_draw" : Str) == ("__debug__" : Str)) = false := by decide
theorem nc__law_draw : (("_law_draw" : Str) == ("__classdict__" : Str)) = false := by decide
theorem nd__law_is_stand : (("_law_is_stand" : Str) == ("__debug__" : Str)) = false := by decide
theorem nc__law_is_stand : (("_law_is_stand" : Str) == ("__classdict__" : Str)) = false := by decide
theorem nd__law_offered_of : (("_law_offered_of" : Str) == ("__debug__" : Str)) = false := by decide
theorem nc__law_offered_of : (("_law_offered_of" : Str) == ("__classdict__" : Str)) = false := by decide
theorem nd__law_same : (("_law_same" : Str) == ("__debug__" : Str)) = false := by decide
theorem nc__law_same : (("_law_same" : Str) == ("__classdict__" : Str)) = false := by decide
theorem nd__law_struck : (("_law_struck" : Str) == ("__debug__" : Str)) = false := by decide
theorem nc__law_struck : (("_law_struck" : Str) == ("__classdict__" : Str)) = false := by decide
theorem nd__law_taken : (("_law_taken" : Str) == ("__debug__" : Str)) = false := by decide
theorem nc__law_taken : (("_law_taken" : Str) == ("__classdict__" : Str)) = false := by decide
theorem nd__law_well_of : (("_law_well_of" : Str) == ("__debug__" : Str)) = false := by decide
theorem nc__law_well_of : (("_law_well_of" : Str) == ("__classdict__" : Str)) = false := by decide
theorem nd__law_written : (("_law_written" : Str) == ("__debug__" : Str)) = false := by decide
theorem nc__law_written : (("_law_written" : Str) == ("__classdict__" : Str)) = false := by decide
theorem nd_account : (("account" : Str) == ("__debug__" : Str)) = false := by decide
theorem nc_account : (("account" : Str) == ("__classdict__" : Str)) = false := by decide
theorem nd_agree : (("agree" : Str) == ("__debug__" : Str)) = false := by decide
theorem nc_agree : (("agree" : Str) == ("__classdict__" : Str)) = false := by decide
theorem nd_amount : (("amount" : Str) == ("__debug__" : Str)) = false := by decide
theorem nc_amount : (("amount" : Str) == ("__classdict__" : Str)) = false := by decide
theorem nd_answer : (("answer" : Str) == ("__debug__" : Str)) = false := by decide
theorem nc_answer : (("answer" : Str) == ("__classdict__" : Str)) = false := by decide
theorem nd_are_shares : (("are_shares" : Str) == ("__debug__" : Str)) = false := by decide
theorem nc_are_shares : (("are_shares" : Str) == ("__classdict__" : Str)) = false := by decide
theorem nd_are_ties : (("are_ties" : Str) == ("__debug__" : Str)) = false := by decide
theorem nc_are_ties : (("are_ties" : Str) == ("__classdict__" : Str)) = false := by decide
theorem nd_base : (("base" : Str) == ("__debug__" : Str)) = false := by decide
theorem nc_base : (("base" : Str) == ("__classdict__" : Str)) = false := by decide
theorem nd_bool : (("bool" : Str) == ("__debug__" : Str)) = false := by decide
theorem nc_bool : (("bool" : Str) == ("__classdict__" : Str)) = false := by decide
theorem nd_cell : (("cell" : Str) == ("__debug__" : Str)) = false := by decide
theorem nc_cell : (("cell" : Str) == ("__classdict__" : Str)) = false := by decide
theorem nd_coins : (("coins" : Str) == ("__debug__" : Str)) = false := by decide
theorem nc_coins : (("coins" : Str) == ("__classdict__" : Str)) = false := by decide
theorem nd_day : (("day" : Str) == ("__debug__" : Str)) = false := by decide
theorem nc_day : (("day" : Str) == ("__classdict__" : Str)) = false := by decide
theorem nd_deals : (("deals" : Str) == ("__debug__" : Str)) = false := by decide
theorem nc_deals : (("deals" : Str) == ("__classdict__" : Str)) = false := by decide
theorem nd_dealt : (("dealt" : Str) == ("__debug__" : Str)) = false := by decide
theorem nc_dealt : (("dealt" : Str) == ("__classdict__" : Str)) = false := by decide
theorem nd_digit : (("digit" : Str) == ("__debug__" : Str)) = false := by decide
theorem nc_digit : (("digit" : Str) == ("__classdict__" : Str)) = false := by decide
theorem nd_due : (("due" : Str) == ("__debug__" : Str)) = false := by decide
theorem nc_due : (("due" : Str) == ("__classdict__" : Str)) = false := by decide
theorem nd_e : (("e" : Str) == ("__debug__" : Str)) = false := by decide
theorem nc_e : (("e" : Str) == ("__classdict__" : Str)) = false := by decide
theorem nd_first : (("first" : Str) == ("__debug__" : Str)) = false := by decide
theorem nc_first : (("first" : Str) == ("__classdict__" : Str)) = false := by decide
theorem nd_first_account : (("first_account" : Str) == ("__debug__" : Str)) = false := by decide
theorem nc_first_account : (("first_account" : Str) == ("__classdict__" : Str)) = false := by decide
theorem nd_found : (("found" : Str) == ("__debug__" : Str)) = false := by decide
theorem nc_found : (("found" : Str) == ("__classdict__" : Str)) = false := by decide
theorem nd_grant : (("grant" : Str) == ("__debug__" : Str)) = false := by decide
theorem nc_grant : (("grant" : Str) == ("__classdict__" : Str)) = false := by decide
theorem nd_held : (("held" : Str) == ("__debug__" : Str)) = false := by decide
theorem nc_held : (("held" : Str) == ("__classdict__" : Str)) = false := by decide
theorem nd_in_bounds : (("in_bounds" : Str) == ("__debug__" : Str)) = false := by decide
theorem nc_in_bounds : (("in_bounds" : Str) == ("__classdict__" : Str)) = false := by decide
theorem nd_int : (("int" : Str) == ("__debug__" : Str)) = false := by decide
theorem nc_int : (("int" : Str) == ("__classdict__" : Str)) = false := by decide
theorem nd_is_kind : (("is_kind" : Str) == ("__debug__" : Str)) = false := by decide
theorem nc_is_kind : (("is_kind" : Str) == ("__classdict__" : Str)) = false := by decide
theorem nd_is_letter : (("is_letter" : Str) == ("__debug__" : Str)) = false := by decide
theorem nc_is_letter : (("is_letter" : Str) == ("__classdict__" : Str)) = false := by decide
theorem nd_is_made : (("is_made" : Str) == ("__debug__" : Str)) = false := by decide
theorem nc_is_made : (("is_made" : Str) == ("__classdict__" : Str)) = false := by decide
theorem nd_is_pot : (("is_pot" : Str) == ("__debug__" : Str)) = false := by decide
theorem nc_is_pot : (("is_pot" : Str) == ("__classdict__" : Str)) = false := by decide
theorem nd_is_stand : (("is_stand" : Str) == ("__debug__" : Str)) = false := by decide
theorem nc_is_stand : (("is_stand" : Str) == ("__classdict__" : Str)) = false := by decide
theorem nd_is_thing : (("is_thing" : Str) == ("__debug__" : Str)) = false := by decide
theorem nc_is_thing : (("is_thing" : Str) == ("__classdict__" : Str)) = false := by decide
theorem nd_is_tie : (("is_tie" : Str) == ("__debug__" : Str)) = false := by decide
theorem nc_is_tie : (("is_tie" : Str) == ("__classdict__" : Str)) = false := by decide
theorem nd_k : (("k" : Str) == ("__debug__" : Str)) = false := by decide
theorem nc_k : (("k" : Str) == ("__classdict__" : Str)) = false := by decide
theorem nd_kind : (("kind" : Str) == ("__debug__" : Str)) = false := by decide
theorem nc_kind : (("kind" : Str) == ("__classdict__" : Str)) = false := by decide
theorem nd_kinds : (("kinds" : Str) == ("__debug__" : Str)) = false := by decide
theorem nc_kinds : (("kinds" : Str) == ("__classdict__" : Str)) = false := by decide
theorem nd_left : (("left" : Str) == ("__debug__" : Str)) = false := by decide
theorem nc_left : (("left" : Str) == ("__classdict__" : Str)) = false := by decide
theorem nd_letter : (("letter" : Str) == ("__debug__" : Str)) = false := by decide
theorem nc_letter : (("letter" : Str) == ("__classdict__" : Str)) = false := by decide
theorem nd_letters : (("letters" : Str) == ("__debug__" : Str)) = false := by decide
theorem nc_letters : (("letters" : Str) == ("__classdict__" : Str)) = false := by decide
theorem nd_made : (("made" : Str) == ("__debug__" : Str)) = false := by decide
theorem nc_made : (("made" : Str) == ("__classdict__" : Str)) = false := by decide
theorem nd_may : (("may" : Str) == ("__debug__" : Str)) = false := by decide
theorem nc_may : (("may" : Str) == ("__classdict__" : Str)) = false := by decide
theorem nd_mine : (("mine" : Str) == ("__debug__" : Str)) = false := by decide
theorem nc_mine : (("mine" : Str) == ("__classdict__" : Str)) = false := by decide
theorem nd_most : (("most" : Str) == ("__debug__" : Str)) = false := by decide
theorem nc_most : (("most" : Str) == ("__classdict__" : Str)) = false := by decide
theorem nd_new : (("new" : Str) == ("__debug__" : Str)) = false := by decide
theorem nc_new : (("new" : Str) == ("__classdict__" : Str)) = false := by decide
theorem nd_number : (("number" : Str) == ("__debug__" : Str)) = false := by decide
theorem nc_number : (("number" : Str) == ("__classdict__" : Str)) = false := by decide
theorem nd_offered : (("offered" : Str) == ("__debug__" : Str)) = false := by decide
theorem nc_offered : (("offered" : Str) == ("__classdict__" : Str)) = false := by decide
theorem nd_one : (("one" : Str) == ("__debug__" : Str)) = false := by decide
theorem nc_one : (("one" : Str) == ("__classdict__" : Str)) = false := by decide
theorem nd_other : (("other" : Str) == ("__debug__" : Str)) = false := by decide
theorem nc_other : (("other" : Str) == ("__classdict__" : Str)) = false := by decide
theorem nd_payer : (("payer" : Str) == ("__debug__" : Str)) = false := by decide
theorem nc_payer : (("payer" : Str) == ("__classdict__" : Str)) = false := by decide
theorem nd_pot : (("pot" : Str) == ("__debug__" : Str)) = false := by decide
theorem nc_pot : (("pot" : Str) == ("__classdict__" : Str)) = false := by decide
theorem nd_primes : (("primes" : Str) == ("__debug__" : Str)) = false := by decide
theorem nc_primes : (("primes" : Str) == ("__classdict__" : Str)) = false := by decide
theorem nd_right : (("right" : Str) == ("__debug__" : Str)) = false := by decide
theorem nc_right : (("right" : Str) == ("__classdict__" : Str)) = false := by decide
theorem nd_script : (("script" : Str) == ("__debug__" : Str)) = false := by decide
theorem nc_script : (("script" : Str) == ("__classdict__" : Str)) = false := by decide
theorem nd_self : (("self" : Str) == ("__debug__" : Str)) = false := by decide
theorem nc_self : (("self" : Str) == ("__classdict__" : Str)) = false := by decide
theorem nd_share : (("share" : Str) == ("__debug__" : Str)) = false := by decide
theorem nc_share : (("share" : Str) == ("__classdict__" : Str)) = false := by decide
theorem nd_shares : (("shares" : Str) == ("__debug__" : Str)) = false := by decide
theorem nc_shares : (("shares" : Str) == ("__classdict__" : Str)) = false := by decide
theorem nd_side : (("side" : Str) == ("__debug__" : Str)) = false := by decide
theorem nc_side : (("side" : Str) == ("__classdict__" : Str)) = false := by decide
theorem nd_some : (("some" : Str) == ("__debug__" : Str)) = false := by decide
theorem nc_some : (("some" : Str) == ("__classdict__" : Str)) = false := by decide
theorem nd_stand : (("stand" : Str) == ("__debug__" : Str)) = false := by decide
theorem nc_stand : (("stand" : Str) == ("__classdict__" : Str)) = false := by decide
theorem nd_str : (("str" : Str) == ("__debug__" : Str)) = false := by decide
theorem nc_str : (("str" : Str) == ("__classdict__" : Str)) = false := by decide
theorem nd_strike : (("strike" : Str) == ("__debug__" : Str)) = false := by decide
theorem nc_strike : (("strike" : Str) == ("__classdict__" : Str)) = false := by decide
theorem nd_strikes : (("strikes" : Str) == ("__debug__" : Str)) = false := by decide
theorem nc_strikes : (("strikes" : Str) == ("__classdict__" : Str)) = false := by decide
theorem nd_thing : (("thing" : Str) == ("__debug__" : Str)) = false := by decide
theorem nc_thing : (("thing" : Str) == ("__classdict__" : Str)) = false := by decide
theorem nd_tie : (("tie" : Str) == ("__debug__" : Str)) = false := by decide
theorem nc_tie : (("tie" : Str) == ("__classdict__" : Str)) = false := by decide
theorem nd_ties : (("ties" : Str) == ("__debug__" : Str)) = false := by decide
theorem nc_ties : (("ties" : Str) == ("__classdict__" : Str)) = false := by decide
theorem nd_tuple : (("tuple" : Str) == ("__debug__" : Str)) = false := by decide
theorem nc_tuple : (("tuple" : Str) == ("__classdict__" : Str)) = false := by decide
theorem nd_wanted : (("wanted" : Str) == ("__debug__" : Str)) = false := by decide
theorem nc_wanted : (("wanted" : Str) == ("__classdict__" : Str)) = false := by decide
theorem nd_well : (("well" : Str) == ("__debug__" : Str)) = false := by decide
theorem nc_well : (("well" : Str) == ("__classdict__" : Str)) = false := by decide
theorem nd_whole : (("whole" : Str) == ("__debug__" : Str)) = false := by decide
theorem nc_whole : (("whole" : Str) == ("__classdict__" : Str)) = false := by decide
theorem nd_word : (("word" : Str) == ("__debug__" : Str)) = false := by decide
theorem nc_word : (("word" : Str) == ("__classdict__" : Str)) = false := by decide
theorem nd_words : (("words" : Str) == ("__debug__" : Str)) = false := by decide
theorem nc_words : (("words" : Str) == ("__classdict__" : Str)) = false := by decide
section
variable {P : Program} {w : World} {K : PySem.W.Frag} {mg : Str → Option Value} {base : Heap}
theorem g_Account (hd : Hd w K mg) : mg "Account" = some (.ref (He.ga K "Account")) := He.glo_ok hd.X hd.G (hd.c.t.d.fact 0 rfl)
theorem g_BookError (hd : Hd w K mg) : mg "BookError" = some (.ref (He.ga K "BookError")) := He.glo_ok hd.X hd.G (hd.c.t.d.fact 1 rfl)
theorem g_Calm (hd : Hd w K mg) : mg "Calm" = some (.ref (He.ga K "Calm")) := He.glo_ok hd.X hd.G (hd.c.t.d.fact 2 rfl)
theorem g_LENGTHS (hd : Hd w K mg) : mg "LENGTHS" = some (.ref (He.ga K "LENGTHS")) := He.glo_ok hd.X hd.G (hd.c.t.d.fact 3 rfl)
theorem g_NoDeed (hd : Hd w K mg) : mg "NoDeed" = some (.ref (He.ga K "NoDeed")) := He.glo_ok hd.X hd.G (hd.c.t.d.fact 4 rfl)
theorem g_NoStand (hd : Hd w K mg) : mg "NoStand" = some (.ref (He.ga K "NoStand")) := He.glo_ok hd.X hd.G (hd.c.t.d.fact 5 rfl)
theorem g_Offered (hd : Hd w K mg) : mg "Offered" = some (.ref (He.ga K "Offered")) := He.glo_ok hd.X hd.G (hd.c.t.d.fact 6 rfl)
theorem g_Waiting (hd : Hd w K mg) : mg "Waiting" = some (.ref (He.ga K "Waiting")) := He.glo_ok hd.X hd.G (hd.c.t.d.fact 7 rfl)
theorem g__law_begun (hd : Hd w K mg) : mg "_law_begun" = some (.ref (He.ga K "_law_begun")) := He.glo_ok hd.X hd.G (hd.c.t.d.fact 8 rfl)
theorem g__law_cell_at (hd : Hd w K mg) : mg "_law_cell_at" = some (.ref (He.ga K "_law_cell_at")) := He.glo_ok hd.X hd.G (hd.c.t.d.fact 9 rfl)
theorem g__law_deal (hd : Hd w K mg) : mg "_law_deal" = some (.ref (He.ga K "_law_deal")) := He.glo_ok hd.X hd.G (hd.c.t.d.fact 10 rfl)
theorem g__law_deals (hd : Hd w K mg) : mg "_law_deals" = some (.ref (He.ga K "_law_deals")) := He.glo_ok hd.X hd.G (hd.c.t.d.fact 11 rfl)
theorem g__law_deed_right (hd : Hd w K mg) : mg "_law_deed_right" = some (.ref (He.ga K "_law_deed_right")) := He.glo_ok hd.X hd.G (hd.c.t.d.fact 12 rfl)
theorem g__law_done (hd : Hd w K mg) : mg "_law_done" = some (.ref (He.ga K "_law_done")) := He.glo_ok hd.X hd.G (hd.c.t.d.fact 13 rfl)
theorem g__law_draw (hd : Hd w K mg) : mg "_law_draw" = some (.ref (He.ga K "_law_draw")) := He.glo_ok hd.X hd.G (hd.c.t.d.fact 14 rfl)
theorem g__law_is_stand (hd : Hd w K mg) : mg "_law_is_stand" = some (.ref (He.ga K "_law_is_stand")) := He.glo_ok hd.X hd.G (hd.c.t.d.fact 15 rfl)
theorem g__law_offered_of (hd : Hd w K mg) : mg "_law_offered_of" = some (.ref (He.ga K "_law_offered_of")) := He.glo_ok hd.X hd.G (hd.c.t.d.fact 16 rfl)
theorem g__law_same (hd : Hd w K mg) : mg "_law_same" = some (.ref (He.ga K "_law_same")) := He.glo_ok hd.X hd.G (hd.c.t.d.fact 17 rfl)
theorem g__law_struck (hd : Hd w K mg) : mg "_law_struck" = some (.ref (He.ga K "_law_struck")) := He.glo_ok hd.X hd.G (hd.c.t.d.fact 18 rfl)
theorem g__law_taken (hd : Hd w K mg) : mg "_law_taken" = some (.ref (He.ga K "_law_taken")) := He.glo_ok hd.X hd.G (hd.c.t.d.fact 19 rfl)
theorem g__law_well_of (hd : Hd w K mg) : mg "_law_well_of" = some (.ref (He.ga K "_law_well_of")) := He.glo_ok hd.X hd.G (hd.c.t.d.fact 20 rfl)
theorem g__law_written (hd : Hd w K mg) : mg "_law_written" = some (.ref (He.ga K "_law_written")) := He.glo_ok hd.X hd.G (hd.c.t.d.fact 21 rfl)
theorem g_are_shares (hd : Hd w K mg) : mg "are_shares" = some (.ref (He.ga K "are_shares")) := He.glo_ok hd.X hd.G (hd.c.t.d.fact 22 rfl)
theorem g_are_ties (hd : Hd w K mg) : mg "are_ties" = some (.ref (He.ga K "are_ties")) := He.glo_ok hd.X hd.G (hd.c.t.d.fact 23 rfl)
theorem g_deals (hd : Hd w K mg) : mg "deals" = some (.ref (He.ga K "deals")) := He.glo_ok hd.X hd.G (hd.c.t.d.fact 24 rfl)
theorem g_first (hd : Hd w K mg) : mg "first" = some (.ref (He.ga K "first")) := He.glo_ok hd.X hd.G (hd.c.t.d.fact 25 rfl)
theorem g_first_account (hd : Hd w K mg) : mg "first_account" = some (.ref (He.ga K "first_account")) := He.glo_ok hd.X hd.G (hd.c.t.d.fact 26 rfl)
theorem g_in_bounds (hd : Hd w K mg) : mg "in_bounds" = some (.ref (He.ga K "in_bounds")) := He.glo_ok hd.X hd.G (hd.c.t.d.fact 27 rfl)
theorem g_is_kind (hd : Hd w K mg) : mg "is_kind" = some (.ref (He.ga K "is_kind")) := He.glo_ok hd.X hd.G (hd.c.t.d.fact 28 rfl)
theorem g_is_letter (hd : Hd w K mg) : mg "is_letter" = some (.ref (He.ga K "is_letter")) := He.glo_ok hd.X hd.G (hd.c.t.d.fact 29 rfl)
theorem g_is_made (hd : Hd w K mg) : mg "is_made" = some (.ref (He.ga K "is_made")) := He.glo_ok hd.X hd.G (hd.c.t.d.fact 30 rfl)
theorem g_is_pot (hd : Hd w K mg) : mg "is_pot" = some (.ref (He.ga K "is_pot")) := He.glo_ok hd.X hd.G (hd.c.t.d.fact 31 rfl)
theorem g_is_stand (hd : Hd w K mg) : mg "is_stand" = some (.ref (He.ga K "is_stand")) := He.glo_ok hd.X hd.G (hd.c.t.d.fact 32 rfl)
theorem g_is_thing (hd : Hd w K mg) : mg "is_thing" = some (.ref (He.ga K "is_thing")) := He.glo_ok hd.X hd.G (hd.c.t.d.fact 33 rfl)
theorem g_is_tie (hd : Hd w K mg) : mg "is_tie" = some (.ref (He.ga K "is_tie")) := He.glo_ok hd.X hd.G (hd.c.t.d.fact 34 rfl)
theorem g_offered (hd : Hd w K mg) : mg "offered" = some (.ref (He.ga K "offered")) := He.glo_ok hd.X hd.G (hd.c.t.d.fact 35 rfl)
theorem g_stand (hd : Hd w K mg) : mg "stand" = some (.ref (He.ga K "stand")) := He.glo_ok hd.X hd.G (hd.c.t.d.fact 36 rfl)
theorem n_all (hd : Hd w K mg) : mg "all" = none := He.free_ok hd.X hd.G (hd.c.t.d.fact 37 rfl)
theorem n_bool (hd : Hd w K mg) : mg "bool" = none := He.free_ok hd.X hd.G (hd.c.t.d.fact 38 rfl)
theorem n_dict (hd : Hd w K mg) : mg "dict" = none := He.free_ok hd.X hd.G (hd.c.t.d.fact 39 rfl)
theorem n_int (hd : Hd w K mg) : mg "int" = none := He.free_ok hd.X hd.G (hd.c.t.d.fact 40 rfl)
theorem n_isinstance (hd : Hd w K mg) : mg "isinstance" = none := He.free_ok hd.X hd.G (hd.c.t.d.fact 41 rfl)
theorem n_len (hd : Hd w K mg) : mg "len" = none := He.free_ok hd.X hd.G (hd.c.t.d.fact 42 rfl)
theorem n_list (hd : Hd w K mg) : mg "list" = none := He.free_ok hd.X hd.G (hd.c.t.d.fact 43 rfl)
theorem n_min (hd : Hd w K mg) : mg "min" = none := He.free_ok hd.X hd.G (hd.c.t.d.fact 44 rfl)
theorem n_range (hd : Hd w K mg) : mg "range" = none := He.free_ok hd.X hd.G (hd.c.t.d.fact 45 rfl)
theorem n_set (hd : Hd w K mg) : mg "set" = none := He.free_ok hd.X hd.G (hd.c.t.d.fact 46 rfl)
theorem n_sorted (hd : Hd w K mg) : mg "sorted" = none := He.free_ok hd.X hd.G (hd.c.t.d.fact 47 rfl)
theorem n_str (hd : Hd w K mg) : mg "str" = none := He.free_ok hd.X hd.G (hd.c.t.d.fact 48 rfl)
theorem n_sum (hd : Hd w K mg) : mg "sum" = none := He.free_ok hd.X hd.G (hd.c.t.d.fact 49 rfl)
theorem n_tuple (hd : Hd w K mg) : mg "tuple" = none := He.free_ok hd.X hd.G (hd.c.t.d.fact 50 rfl)
theorem i_MOST_COIN (hd : Hd w K mg) : ∃ t, mg "MOST_COIN" = some (.int 1000000000000 t) := He.int_ok hd.X hd.G (hd.c.t.d.fact 51 rfl)
theorem i_MOST_DAY (hd : Hd w K mg) : ∃ t, mg "MOST_DAY" = some (.int 1000000 t) := He.int_ok hd.X hd.G (hd.c.t.d.fact 52 rfl)
theorem i_MOST_NUMBER (hd : Hd w K mg) : ∃ t, mg "MOST_NUMBER" = some (.int 1000000 t) := He.int_ok hd.X hd.G (hd.c.t.d.fact 53 rfl)
theorem i_MOST_POT_letters (hd : Hd w K mg) : ∃ t, mg "MOST_POT_letters" = some (.int 2 t) := He.int_ok hd.X hd.G (hd.c.t.d.fact 54 rfl)
theorem i_MOST_POT_things (hd : Hd w K mg) : ∃ t, mg "MOST_POT_things" = some (.int 2 t) := He.int_ok hd.X hd.G (hd.c.t.d.fact 55 rfl)
theorem i_MOST_TIES (hd : Hd w K mg) : ∃ t, mg "MOST_TIES" = some (.int 6 t) := He.int_ok hd.X hd.G (hd.c.t.d.fact 56 rfl)
theorem i_MOST_WORD (hd : Hd w K mg) : ∃ t, mg "MOST_WORD" = some (.int 59 t) := He.int_ok hd.X hd.G (hd.c.t.d.fact 57 rfl)
theorem na_Account_Calm_Offered_Waiting_dealt (hd : Hd w K mg) : ∀ c ∈ (["Account", "Calm", "Offered", "Waiting"] : List String), NoAttr K (clA K c) (Str.ofString "dealt") := by
  intro c hc
  simp only [List.mem_cons, List.not_mem_nil, or_false] at hc
  rcases hc with rfl | rfl | rfl | rfl
  · exact He.noat_ok (hd.c.t.d.fact 58 rfl)
  · exact He.noat_ok (hd.c.t.d.fact 65 rfl)
  · exact He.noat_ok (hd.c.t.d.fact 72 rfl)
  · exact He.noat_ok (hd.c.t.d.fact 79 rfl)
theorem na_Account_Calm_Offered_Waiting_grant (hd : Hd w K mg) : ∀ c ∈ (["Account", "Calm", "Offered", "Waiting"] : List String), NoAttr K (clA K c) (Str.ofString "grant") := by
  intro c hc
  simp only [List.mem_cons, List.not_mem_nil, or_false] at hc
  rcases hc with rfl | rfl | rfl | rfl
  · exact He.noat_ok (hd.c.t.d.fact 59 rfl)
  · exact He.noat_ok (hd.c.t.d.fact 66 rfl)
  · exact He.noat_ok (hd.c.t.d.fact 73 rfl)
  · exact He.noat_ok (hd.c.t.d.fact 80 rfl)
theorem na_Account_Calm_Offered_Waiting_may (hd : Hd w K mg) : ∀ c ∈ (["Account", "Calm", "Offered", "Waiting"] : List String), NoAttr K (clA K c) (Str.ofString "may") := by
  intro c hc
  simp only [List.mem_cons, List.not_mem_nil, or_false] at hc
  rcases hc with rfl | rfl | rfl | rfl
  · exact He.noat_ok (hd.c.t.d.fact 60 rfl)
  · exact He.noat_ok (hd.c.t.d.fact 67 rfl)
  · exact He.noat_ok (hd.c.t.d.fact 74 rfl)
  · exact He.noat_ok (hd.c.t.d.fact 81 rfl)
theorem na_Account_Calm_Offered_Waiting_mine (hd : Hd w K mg) : ∀ c ∈ (["Account", "Calm", "Offered", "Waiting"] : List String), NoAttr K (clA K c) (Str.ofString "mine") := by
  intro c hc
  simp only [List.mem_cons, List.not_mem_nil, or_false] at hc
  rcases hc with rfl | rfl | rfl | rfl
  · exact He.noat_ok (hd.c.t.d.fact 61 rfl)
  · exact He.noat_ok (hd.c.t.d.fact 68 rfl)
  · exact He.noat_ok (hd.c.t.d.fact 75 rfl)
  · exact He.noat_ok (hd.c.t.d.fact 82 rfl)
theorem na_Account_Calm_Offered_Waiting_pot (hd : Hd w K mg) : ∀ c ∈ (["Account", "Calm", "Offered", "Waiting"] : List String), NoAttr K (clA K c) (Str.ofString "pot") := by
  intro c hc
  simp only [List.mem_cons, List.not_mem_nil, or_false] at hc
  rcases hc with rfl | rfl | rfl | rfl
  · exact He.noat_ok (hd.c.t.d.fact 62 rfl)
  · exact He.noat_ok (hd.c.t.d.fact 69 rfl)
  · exact He.noat_ok (hd.c.t.d.fact 76 rfl)
  · exact He.noat_ok (hd.c.t.d.fact 83 rfl)
theorem na_Account_Calm_Offered_Waiting_side (hd : Hd w K mg) : ∀ c ∈ (["Account", "Calm", "Offered", "Waiting"] : List String), NoAttr K (clA K c) (Str.ofString "side") := by
  intro c hc
  simp only [List.mem_cons, List.not_mem_nil, or_false] at hc
  rcases hc with rfl | rfl | rfl | rfl
  · exact He.noat_ok (hd.c.t.d.fact 63 rfl)
  · exact He.noat_ok (hd.c.t.d.fact 70 rfl)
  · exact He.noat_ok (hd.c.t.d.fact 77 rfl)
  · exact He.noat_ok (hd.c.t.d.fact 84 rfl)
theorem na_Account_Calm_Offered_Waiting_strikes (hd : Hd w K mg) : ∀ c ∈ (["Account", "Calm", "Offered", "Waiting"] : List String), NoAttr K (clA K c) (Str.ofString "strikes") := by
  intro c hc
  simp only [List.mem_cons, List.not_mem_nil, or_false] at hc
  rcases hc with rfl | rfl | rfl | rfl
  · exact He.noat_ok (hd.c.t.d.fact 64 rfl)
  · exact He.noat_ok (hd.c.t.d.fact 71 rfl)
  · exact He.noat_ok (hd.c.t.d.fact 78 rfl)
  · exact He.noat_ok (hd.c.t.d.fact 85 rfl)
theorem mkr_Calm (hd : Hd w K mg) : Mk K (clA K "Calm") (He.ma K (clA K "Calm") "__init__") := He.mkr_ok (hd.c.t.d.fact 86 rfl)
theorem cl_Calm (hd : Hd w K mg) : Cls K (clA K "Calm") := He.cls_ok (hd.c.t.d.fact 87 rfl)
theorem mkr_Offered (hd : Hd w K mg) : Mk K (clA K "Offered") (He.ma K (clA K "Offered") "__init__") := He.mkr_ok (hd.c.t.d.fact 88 rfl)
theorem cl_Offered (hd : Hd w K mg) : Cls K (clA K "Offered") := He.cls_ok (hd.c.t.d.fact 89 rfl)
theorem mkr_Waiting (hd : Hd w K mg) : Mk K (clA K "Waiting") (He.ma K (clA K "Waiting") "__init__") := He.mkr_ok (hd.c.t.d.fact 90 rfl)
theorem cl_Waiting (hd : Hd w K mg) : Cls K (clA K "Waiting") := He.cls_ok (hd.c.t.d.fact 91 rfl)
theorem me_Account_agrees (hd : Hd w K mg) : Meth K (clA K "Account") "agrees" (He.ma K (clA K "Account") "agrees") := He.meth_ok (hd.c.t.d.fact 92 rfl)
theorem me_Calm_agrees (hd : Hd w K mg) : Meth K (clA K "Calm") "agrees" (He.ma K (clA K "Calm") "agrees") := He.meth_ok (hd.c.t.d.fact 93 rfl)
theorem me_Offered_agrees (hd : Hd w K mg) : Meth K (clA K "Offered") "agrees" (He.ma K (clA K "Offered") "agrees") := He.meth_ok (hd.c.t.d.fact 94 rfl)
theorem me_Waiting_agrees (hd : Hd w K mg) : Meth K (clA K "Waiting") "agrees" (He.ma K (clA K "Waiting") "agrees") := He.meth_ok (hd.c.t.d.fact 95 rfl)
theorem me_Account_behind (hd : Hd w K mg) : Meth K (clA K "Account") "behind" (He.ma K (clA K "Account") "behind") := He.meth_ok (hd.c.t.d.fact 96 rfl)
theorem me_Calm_behind (hd : Hd w K mg) : Meth K (clA K "Calm") "behind" (He.ma K (clA K "Calm") "behind") := He.meth_ok (hd.c.t.d.fact 97 rfl)
theorem me_Offered_behind (hd : Hd w K mg) : Meth K (clA K "Offered") "behind" (He.ma K (clA K "Offered") "behind") := He.meth_ok (hd.c.t.d.fact 98 rfl)
theorem me_Waiting_behind (hd : Hd w K mg) : Meth K (clA K "Waiting") "behind" (He.ma K (clA K "Waiting") "behind") := He.meth_ok (hd.c.t.d.fact 99 rfl)
theorem me_Account_fits (hd : Hd w K mg) : Meth K (clA K "Account") "fits" (He.ma K (clA K "Account") "fits") := He.meth_ok (hd.c.t.d.fact 100 rfl)
theorem me_Calm_fits (hd : Hd w K mg) : Meth K (clA K "Calm") "fits" (He.ma K (clA K "Calm") "fits") := He.meth_ok (hd.c.t.d.fact 101 rfl)
theorem me_Offered_fits (hd : Hd w K mg) : Meth K (clA K "Offered") "fits" (He.ma K (clA K "Offered") "fits") := He.meth_ok (hd.c.t.d.fact 102 rfl)
theorem me_Waiting_fits (hd : Hd w K mg) : Meth K (clA K "Waiting") "fits" (He.ma K (clA K "Waiting") "fits") := He.meth_ok (hd.c.t.d.fact 103 rfl)
theorem me_Account_taken (hd : Hd w K mg) : Meth K (clA K "Account") "taken" (He.ma K (clA K "Account") "taken") := He.meth_ok (hd.c.t.d.fact 104 rfl)
theorem me_Calm_taken (hd : Hd w K mg) : Meth K (clA K "Calm") "taken" (He.ma K (clA K "Calm") "taken") := He.meth_ok (hd.c.t.d.fact 105 rfl)
theorem me_Offered_taken (hd : Hd w K mg) : Meth K (clA K "Offered") "taken" (He.ma K (clA K "Offered") "taken") := He.meth_ok (hd.c.t.d.fact 106 rfl)
theorem me_Waiting_taken (hd : Hd w K mg) : Meth K (clA K "Waiting") "taken" (He.ma K (clA K "Waiting") "taken") := He.meth_ok (hd.c.t.d.fact 107 rfl)
theorem me_Account_word (hd : Hd w K mg) : Meth K (clA K "Account") "word" (He.ma K (clA K "Account") "word") := He.meth_ok (hd.c.t.d.fact 108 rfl)
theorem me_Calm_word (hd : Hd w K mg) : Meth K (clA K "Calm") "word" (He.ma K (clA K "Calm") "word") := He.meth_ok (hd.c.t.d.fact 109 rfl)
theorem me_Offered_word (hd : Hd w K mg) : Meth K (clA K "Offered") "word" (He.ma K (clA K "Offered") "word") := He.meth_ok (hd.c.t.d.fact 110 rfl)
theorem me_Waiting_word (hd : Hd w K mg) : Meth K (clA K "Waiting") "word" (He.ma K (clA K "Waiting") "word") := He.meth_ok (hd.c.t.d.fact 111 rfl)
theorem ex_BookError (hd : Hd w K mg) : ExOk K "BookError" := exOk_of (hd.c.t.d.fact 112 rfl)
theorem ex_NoStand (hd : Hd w K mg) : ExOk K "NoStand" := exOk_of (hd.c.t.d.fact 113 rfl)
theorem ex_NoDeed (hd : Hd w K mg) : ExOk K "NoDeed" := exOk_of (hd.c.t.d.fact 114 rfl)
theorem ext (hd : Hd w K mg) : ExcT K excs := excT_of (exf hd (.head _))
theorem exk (hd : Hd w K mg) : ExcK K excs := by
  have h := exf hd (.tail _ (.head _))
  obtain ⟨h1, h⟩ := He.ba h
  obtain ⟨h2, h3⟩ := He.ba h
  exact excK_of h1 h2 h3
theorem clk (hd : Hd w K mg) : ClsK K owncs ownsub := by
  have h := exf hd (.tail _ (.tail _ (.head _)))
  obtain ⟨h1, h⟩ := He.ba h
  obtain ⟨h2, h3⟩ := He.ba h
  exact clsK_of h1 h2 h3
theorem kt_LENGTHS (hd : Hd w K mg) : KTab K w "LENGTHS" tab_LENGTHS := ⟨hd.c.t.tab 0 rfl, exf hd (.tail _ (.tail _ (.tail _ (.head _))))⟩
/-! in_bounds -/
def N_in_bounds : List Str := ["thing", "most"]
theorem sc_in_bounds : FnScope N_in_bounds ["thing", "most"] (defScope (top 10)) := ⟨rfl, rfl, rfl, by decide +kernel, rfl, by decide +kernel, by decide +kernel⟩
def w_in_bounds : WpS := (wRet (wAnd (wIsTy "int" (wVar 0)) (wAnd (wNot (wIsTy "bool" (wVar 0))) (wChain (fCmp cmpLe) (fCmp cmpLe) (wC (.int 0)) (wVar 0) (wVar 1)))))
def φ_in_bounds : SB.Spec := fun xs S R RE => xs.length = 2 ∧ w_in_bounds (startE N_in_bounds xs) S ⟨fun _ S' => Rz R .non S', Rz R, fun _ _ => False, fun _ _ => False⟩ (fun c _ S' => RE c S')
theorem k_in_bounds (hd : Hd w K mg) {q nm : Str} {dvs : List V} {kws : List (Str × V)} {f : Addr} {fd : FuncData} (Fd : FunD K nm q (defArgs (top 10)) (defBody (top 10)) (defScope (top 10)) dvs kws f fd) : FnOk P w K mg base (L2.CX P w) 1 f fd ["thing", "most"] (spOf K φ_in_bounds) :=
  body_ok (N := N_in_bounds) (ws := w_in_bounds) Fd sc_in_bounds (fun cdv A outer s H E F bc =>
  (wss_one (ws_ret (we_and (b_isTy (T := "int") (by decide) (we_var (i := 0) rfl (.inl rfl) nd_thing nc_thing) rfl rfl (n_isinstance hd) rfl (n_int hd) bt_int (by decide) nd_int) (we_and (we_not (b_isTy (T := "bool") (by decide) (we_var (i := 0) rfl (.inl rfl) nd_thing nc_thing) rfl rfl (n_isinstance hd) rfl (n_bool hd) bt_bool (by decide) nd_bool)) (we_one (we_chain op_le op_le od_cmp od_cmp we_int (we_var (i := 0) rfl (.inl rfl) nd_thing nc_thing) (we_var (i := 1) rfl (.inl rfl) nd_most nc_most) rfl))))))) (fun _ _ _ _ h => h.1) (fun _ _ _ _ h => h.2)
theorem B_in_bounds (hd : Hd w K mg) : FnBd P w K mg base 1 (He.ga K "in_bounds") 2 [] φ_in_bounds := by
  obtain ⟨fd, Fd⟩ := hd.c.t.d.def_ 0 (d := mkDD (("in_bounds" : Str), none) "in_bounds" "in_bounds" (top 10) []) rfl
  exact fn_bd _ Fd (k_in_bounds hd Fd) (FunD.bindsN Fd fun _ _ _ _ _ _ us hl => match us, hl with | [_, _], _ => rfl)
/-! is_tie -/
def N_is_tie : List Str := ["thing", "payer", "amount", "word", "day"]
theorem sc_is_tie : FnScope N_is_tie ["thing"] (defScope (top 11)) := ⟨rfl, rfl, rfl, by decide +kernel, rfl, by decide +kernel, by decide +kernel⟩
def w_is_tie : WpS := (wSeq (wIf (wB (wOr (wNot (wIsTy "tuple" (wVar 0))) (wOp (fEq true) (wFun fLen (wCons (wVar 0) wNil)) (wC (.int 4))))) (wRet (wC (.bl false))) wNx)
  (wSeq (wAsg (.tup (.cons (.nm 1) (.cons (.nm 2) (.cons (.nm 3) (.cons (.nm 4) .nil))))) (wVar 0))
  (wSeq (wIf (wB (wOr (wNot (wCall φ_in_bounds [] (wCons (wVar 1) (wCons (wC (.int 1)) wNil)))) (wOr (wNot (wCall φ_in_bounds [] (wCons (wVar 2) (wCons (wC (.int 1000000000000)) wNil)))) (wOp (fCmp cmpLt) (wVar 2) (wC (.int 1)))))) (wRet (wC (.bl false))) wNx)
  (wRet (wAnd (wCall φ_in_bounds [] (wCons (wVar 3) (wCons (wC (.int 59)) wNil))) (wCall φ_in_bounds [] (wCons (wVar 4) (wCons (wC (.int 1000000)) wNil))))))))
def φ_is_tie : SB.Spec := fun xs S R RE => xs.length = 1 ∧ w_is_tie (startE N_is_tie xs) S ⟨fun _ S' => Rz R .non S', Rz R, fun _ _ => False, fun _ _ => False⟩ (fun c _ S' => RE c S')
theorem k_is_tie (hd : Hd w K mg) {q nm : Str} {dvs : List V} {kws : List (Str × V)} {f : Addr} {fd : FuncData} (Fd : FunD K nm q (defArgs (top 11)) (defBody (top 11)) (defScope (top 11)) dvs kws f fd) : FnOk P w K mg base (L2.CX P w) 2 f fd ["thing"] (spOf K φ_is_tie) :=
  body_ok (N := N_is_tie) (ws := w_is_tie) Fd sc_is_tie (fun cdv A outer s H E F bc =>
  (wss_cons (ws_if (WW.wt (ww_or (wt_not (wt_val (b_isTy (T := "tuple") (by decide) (we_var (i := 0) rfl (.inl rfl) nd_thing nc_thing) rfl rfl (n_isinstance hd) rfl (n_tuple hd) bt_tuple (by decide) nd_tuple) (fun _ => rfl))) (ww_or1 (t_ne bc.room.u65 (b_len rfl (n_len hd) (wa_cons (we_var (i := 0) rfl (.inl rfl) nd_thing nc_thing) wa_nil rfl) rfl) we_int rfl)))) (wss_one (ws_ret we_bl)) wss_nil)
  (wss_cons (ws_asg (we_var (i := 0) rfl (.inl rfl) nd_thing nc_thing) (wg_tup rfl (wgs_cons (wg_nm sc_is_tie.nd rfl (.inl rfl) (.inl rfl)) (wgs_cons (wg_nm sc_is_tie.nd rfl (.inl rfl) (.inl rfl)) (wgs_cons (wg_nm sc_is_tie.nd rfl (.inl rfl) (.inl rfl)) (wgs_cons (wg_nm sc_is_tie.nd rfl (.inl rfl) (.inl rfl)) wgs_nil (fun _ => rfl)) (fun _ => rfl)) (fun _ => rfl)) (fun _ => rfl)) (fun _ => rfl) (fun _ => rfl)) rfl rfl rfl)
  (wss_cons (ws_if (WW.wt (ww_or (wt_not (wt_val (we_call ((B_in_bounds hd).mono (by decide)) bc.room bc.tk rfl (g_in_bounds hd) (wa_cons (we_var (i := 1) rfl (.inl rfl) nd_payer nc_payer) (wa_cons we_int wa_nil rfl) rfl) rfl nd_in_bounds) (fun _ => rfl))) (ww_or (wt_not (wt_val (we_call ((B_in_bounds hd).mono (by decide)) bc.room bc.tk rfl (g_in_bounds hd) (wa_cons (we_var (i := 2) rfl (.inl rfl) nd_amount nc_amount) (wa_cons (we_globI' (i_MOST_COIN hd) rfl nd_MOST_COIN) wa_nil rfl) rfl) rfl nd_in_bounds) (fun _ => rfl))) (ww_or1 (t_lt (we_var (i := 2) rfl (.inl rfl) nd_amount nc_amount) we_int rfl))))) (wss_one (ws_ret we_bl)) wss_nil)
  (wss_one (ws_ret (we_and (we_call ((B_in_bounds hd).mono (by decide)) bc.room bc.tk rfl (g_in_bounds hd) (wa_cons (we_var (i := 3) rfl (.inl rfl) nd_word nc_word) (wa_cons (we_globI' (i_MOST_WORD hd) rfl nd_MOST_WORD) wa_nil rfl) rfl) rfl nd_in_bounds) (we_one (we_call ((B_in_bounds hd).mono (by decide)) bc.room bc.tk rfl (g_in_bounds hd) (wa_cons (we_var (i := 4) rfl (.inl rfl) nd_day nc_day) (wa_cons (we_globI' (i_MOST_DAY hd) rfl nd_MOST_DAY) wa_nil rfl) rfl) rfl nd_in_bounds))))))))) (fun _ _ _ _ h => h.1) (fun _ _ _ _ h => h.2)
theorem B_is_tie (hd : Hd w K mg) : FnBd P w K mg base 2 (He.ga K "is_tie") 1 [] φ_is_tie := by
  obtain ⟨fd, Fd⟩ := hd.c.t.d.def_ 1 (d := mkDD (("is_tie" : Str), none) "is_tie" "is_tie" (top 11) []) rfl
  exact fn_bd _ Fd (k_is_tie hd Fd) (FunD.bindsN Fd fun _ _ _ _ _ _ us hl => match us, hl with | [_], _ => rfl)
/-! are_shares -/
def N_are_shares : List Str := ["thing", "share"]
theorem sc_are_shares : FnScope N_are_shares ["thing"] (defScope (top 12)) := ⟨rfl, rfl, rfl, by decide +kernel, rfl, by decide +kernel, by decide +kernel⟩
def w_are_shares : WpS := (wSeq (wIf (wB (wOr (wNot (wIsTy "tuple" (wVar 0))) (wOp (fEq true) (wFun fLen (wCons (wVar 0) wNil)) (wC (.int 2))))) (wRet (wC (.bl false))) wNx)
  (wRet (wFun fAll (wCons (wLc false (wSrc (wVar 0)) (.nm 1) wYes (wCall φ_in_bounds [] (wCons (wVar 1) (wCons (wOp (fMul false) (wC (.int 2)) (wC (.int 1000000000000))) wNil))) [1]) wNil))))
def φ_are_shares : SB.Spec := fun xs S R RE => xs.length = 1 ∧ w_are_shares (startE N_are_shares xs) S ⟨fun _ S' => Rz R .non S', Rz R, fun _ _ => False, fun _ _ => False⟩ (fun c _ S' => RE c S')
theorem k_are_shares (hd : Hd w K mg) {q nm : Str} {dvs : List V} {kws : List (Str × V)} {f : Addr} {fd : FuncData} (Fd : FunD K nm q (defArgs (top 12)) (defBody (top 12)) (defScope (top 12)) dvs kws f fd) : FnOk P w K mg base (L2.CX P w) 2 f fd ["thing"] (spOf K φ_are_shares) :=
  body_ok (N := N_are_shares) (ws := w_are_shares) Fd sc_are_shares (fun cdv A outer s H E F bc =>
  (wss_cons (ws_if (WW.wt (ww_or (wt_not (wt_val (b_isTy (T := "tuple") (by decide) (we_var (i := 0) rfl (.inl rfl) nd_thing nc_thing) rfl rfl (n_isinstance hd) rfl (n_tuple hd) bt_tuple (by decide) nd_tuple) (fun _ => rfl))) (ww_or1 (t_ne bc.room.u65 (b_len rfl (n_len hd) (wa_cons (we_var (i := 0) rfl (.inl rfl) nd_thing nc_thing) wa_nil rfl) rfl) we_int rfl)))) (wss_one (ws_ret we_bl)) wss_nil)
  (wss_one (ws_ret (b_all rfl rfl (n_all hd) (wa_cons (we_lc (fr := false) (own := [(("share" : Str), 1)]) (t := (.nm 1)) rfl sc_are_shares.nd (wi_src (we_var (i := 0) rfl (.inl rfl) nd_thing nc_thing)) (show BlkOk N_are_shares (defScope (top 12)) _ [(("share" : Str), 1)] from blkOk_by (by decide +kernel)) (by decide) (fun _ _ _ _ _ => (wg_nm sc_are_shares.nd rfl (.inl rfl) (.inr rfl))) (fun _ _ _ _ _ => wts_nil) (fun _ _ _ _ _ => (we_call ((B_in_bounds hd).mono (by decide)) bc.room tk_calm rfl (g_in_bounds hd) (wa_cons (we_var (i := 1) rfl (.inl rfl) nd_share nc_share) (wa_cons (we_mul (own := false) we_int (we_globI' (i_MOST_COIN hd) rfl nd_MOST_COIN)) wa_nil rfl) rfl) rfl nd_in_bounds)) (fun _ => rfl)) wa_nil rfl) rfl))))) (fun _ _ _ _ h => h.1) (fun _ _ _ _ h => h.2)
theorem B_are_shares (hd : Hd w K mg) : FnBd P w K mg base 2 (He.ga K "are_shares") 1 [] φ_are_shares := by
  obtain ⟨fd, Fd⟩ := hd.c.t.d.def_ 2 (d := mkDD (("are_shares" : Str), none) "are_shares" "are_shares" (top 12) []) rfl
  exact fn_bd _ Fd (k_are_shares hd Fd) (FunD.bindsN Fd fun _ _ _ _ _ _ us hl => match us, hl with | [_], _ => rfl)
/-! are_ties -/
def N_are_ties : List Str := ["thing", "words", "tie", "word"]
theorem sc_are_ties : FnScope N_are_ties ["thing"] (defScope (top 13)) := ⟨rfl, rfl, rfl, by decide +kernel, rfl, by decide +kernel, by decide +kernel⟩
def w_are_ties : WpS := (wSeq (wIf (wB (wOr (wNot (wIsTy "tuple" (wVar 0))) (wOr (wOp (fCmp cmpGt) (wFun fLen (wCons (wVar 0) wNil)) (wC (.int 6))) (wNot (wFun fAll (wCons (wLc false (wSrc (wVar 0)) (.nm 2) wYes (wCall φ_is_tie [] (wCons (wVar 2) wNil)) [2]) wNil)))))) (wRet (wC (.bl false))) wNx)
  (wSeq (wSet 1 (wLc false (wSrc (wVar 0)) (.nm 2) wYes (wOp fIx (wVar 2) (wC (.int 2))) [2]))
  (wRet (wFun fAll (wCons (wLc false (wSrc (wVar 1)) (.nm 3) wYes (wOp (fEq false) (wMt "list" fCount (wVar 1) (wCons (wVar 3) wNil)) (wC (.int 1))) [3]) wNil)))))
def φ_are_ties : SB.Spec := fun xs S R RE => xs.length = 1 ∧ w_are_ties (startE N_are_ties xs) S ⟨fun _ S' => Rz R .non S', Rz R, fun _ _ => False, fun _ _ => False⟩ (fun c _ S' => RE c S')
theorem k_are_ties (hd : Hd w K mg) {q nm : Str} {dvs : List V} {kws : List (Str × V)} {f : Addr} {fd : FuncData} (Fd : FunD K nm q (defArgs (top 13)) (defBody (top 13)) (defScope (top 13)) dvs kws f fd) : FnOk P w K mg base (L2.CX P w) 3 f fd ["thing"] (spOf K φ_are_ties) :=
  body_ok (N := N_are_ties) (ws := w_are_ties) Fd sc_are_ties (fun cdv A outer s H E F bc =>
  (wss_cons (ws_if (WW.wt (ww_or (wt_not (wt_val (b_isTy (T := "tuple") (by decide) (we_var (i := 0) rfl (.inl rfl) nd_thing nc_thing) rfl rfl (n_isinstance hd) rfl (n_tuple hd) bt_tuple (by decide) nd_tuple) (fun _ => rfl))) (ww_or (t_gt (b_len rfl (n_len hd) (wa_cons (we_var (i := 0) rfl (.inl rfl) nd_thing nc_thing) wa_nil rfl) rfl) (we_globI' (i_MOST_TIES hd) rfl nd_MOST_TIES) rfl) (ww_or1 (wt_not (wt_val (b_all rfl rfl (n_all hd) (wa_cons (we_lc (fr := false) (own := [(("tie" : Str), 2)]) (t := (.nm 2)) rfl sc_are_ties.nd (wi_src (we_var (i := 0) rfl (.inl rfl) nd_thing nc_thing)) (show BlkOk N_are_ties (defScope (top 13)) _ [(("tie" : Str), 2)] from blkOk_by (by decide +kernel)) (by decide) (fun _ _ _ _ _ => (wg_nm sc_are_ties.nd rfl (.inl rfl) (.inr rfl))) (fun _ _ _ _ _ => wts_nil) (fun _ _ _ _ _ => (we_call ((B_is_tie hd).mono (by decide)) bc.room tk_calm rfl (g_is_tie hd) (wa_cons (we_var (i := 2) rfl (.inl rfl) nd_tie nc_tie) wa_nil rfl) rfl nd_is_tie)) (fun _ => rfl)) wa_nil rfl) rfl) (fun _ => rfl))))))) (wss_one (ws_ret we_bl)) wss_nil)
  (wss_cons (ws_set (i := 1) sc_are_ties.nd rfl (.inr rfl) (we_lc (fr := false) (own := [(("tie" : Str), 2)]) (t := (.nm 2)) rfl sc_are_ties.nd (wi_src (we_var (i := 0) rfl (.inl rfl) nd_thing nc_thing)) (show BlkOk N_are_ties (defScope (top 13)) _ [(("tie" : Str), 2)] from blkOk_by (by decide +kernel)) (by decide) (fun _ _ _ _ _ => (wg_nm sc_are_ties.nd rfl (.inl rfl) (.inr rfl))) (fun _ _ _ _ _ => wts_nil) (fun _ _ _ _ _ => (we_ix (u1 bc.room.u65) (we_var (i := 2) rfl (.inl rfl) nd_tie nc_tie) we_int (fun _ _ => rfl))) (fun _ => rfl)) rfl (.inl rfl))
  (wss_one (ws_ret (b_all rfl rfl (n_all hd) (wa_cons (we_lc (fr := false) (own := [(("word" : Str), 3)]) (t := (.nm 3)) rfl sc_are_ties.nd (wi_src (we_var (i := 1) rfl (.inr (.inl rfl)) nd_words nc_words)) (show BlkOk N_are_ties (defScope (top 13)) _ [(("word" : Str), 3)] from blkOk_by (by decide +kernel)) (by decide) (fun _ _ _ _ _ => (wg_nm sc_are_ties.nd rfl (.inl rfl) (.inr rfl))) (fun _ _ _ _ _ => wts_nil) (fun _ _ _ _ _ => (e_eq bc.room.u65 (m_count bc.room.u65 (we_var (i := 1) rfl (.inr (.inl rfl)) nd_words nc_words) (wa_cons (we_var (i := 3) rfl (.inl rfl) nd_word nc_word) wa_nil rfl) rfl rfl (by decide) rfl) we_int rfl)) (fun _ => rfl)) wa_nil rfl) rfl)))))) (fun _ _ _ _ h => h.1) (fun _ _ _ _ h => h.2)
theorem B_are_ties (hd : Hd w K mg) : FnBd P w K mg base 3 (He.ga K "are_ties") 1 [] φ_are_ties := by
  obtain ⟨fd, Fd⟩ := hd.c.t.d.def_ 3 (d := mkDD (("are_ties" : Str), none) "are_ties" "are_ties" (top 13) []) rfl
  exact fn_bd _ Fd (k_are_ties hd Fd) (FunD.bindsN Fd fun _ _ _ _ _ _ us hl => match us, hl with | [_], _ => rfl)
/-! is_stand -/
def N_is_stand : List Str := ["thing"]
theorem sc_is_stand : FnScope N_is_stand ["thing"] (defScope (top 14)) := ⟨rfl, rfl, rfl, by decide +kernel, rfl, by decide +kernel, by decide +kernel⟩
def w_is_stand : WpS := (wSeq (wIf (wB (wOr (wNot (wIsTy "tuple" (wVar 0))) (wOp (fEq true) (wFun fLen (wCons (wVar 0) wNil)) (wC (.int 3))))) (wRet (wC (.bl false))) wNx)
  (wRet (wAnd (wCall φ_in_bounds [] (wCons (wOp fIx (wVar 0) (wC (.int 0))) (wCons (wC (.int 1000000)) wNil))) (wAnd (wCall φ_are_shares [] (wCons (wOp fIx (wVar 0) (wC (.int 1))) wNil)) (wCall φ_are_ties [] (wCons (wOp fIx (wVar 0) (wC (.int 2))) wNil))))))
def φ_is_stand : SB.Spec := fun xs S R RE => xs.length = 1 ∧ w_is_stand (startE N_is_stand xs) S ⟨fun _ S' => Rz R .non S', Rz R, fun _ _ => False, fun _ _ => False⟩ (fun c _ S' => RE c S')
theorem k_is_stand (hd : Hd w K mg) {q nm : Str} {dvs : List V} {kws : List (Str × V)} {f : Addr} {fd : FuncData} (Fd : FunD K nm q (defArgs (top 14)) (defBody (top 14)) (defScope (top 14)) dvs kws f fd) : FnOk P w K mg base (L2.CX P w) 4 f fd ["thing"] (spOf K φ_is_stand) :=
  body_ok (N := N_is_stand) (ws := w_is_stand) Fd sc_is_stand (fun cdv A outer s H E F bc =>
  (wss_cons (ws_if (WW.wt (ww_or (wt_not (wt_val (b_isTy (T := "tuple") (by decide) (we_var (i := 0) rfl (.inl rfl) nd_thing nc_thing) rfl rfl (n_isinstance hd) rfl (n_tuple hd) bt_tuple (by decide) nd_tuple) (fun _ => rfl))) (ww_or1 (t_ne bc.room.u65 (b_len rfl (n_len hd) (wa_cons (we_var (i := 0) rfl (.inl rfl) nd_thing nc_thing) wa_nil rfl) rfl) we_int rfl)))) (wss_one (ws_ret we_bl)) wss_nil)
  (wss_one (ws_ret (we_and (we_call ((B_in_bounds hd).mono (by decide)) bc.room bc.tk rfl (g_in_bounds hd) (wa_cons (we_ix (u1 bc.room.u65) (we_var (i := 0) rfl (.inl rfl) nd_thing nc_thing) we_int (fun _ _ => rfl)) (wa_cons (we_globI' (i_MOST_NUMBER hd) rfl nd_MOST_NUMBER) wa_nil rfl) rfl) rfl nd_in_bounds) (we_and (we_call ((B_are_shares hd).mono (by decide)) bc.room bc.tk rfl (g_are_shares hd) (wa_cons (we_ix (u1 bc.room.u65) (we_var (i := 0) rfl (.inl rfl) nd_thing nc_thing) we_int (fun _ _ => rfl)) wa_nil rfl) rfl nd_are_shares) (we_one (we_call ((B_are_ties hd).mono (by decide)) bc.room bc.tk rfl (g_are_ties hd) (wa_cons (we_ix (u1 bc.room.u65) (we_var (i := 0) rfl (.inl rfl) nd_thing nc_thing) we_int (fun _ _ => rfl)) wa_nil rfl) rfl nd_are_ties)))))))) (fun _ _ _ _ h => h.1) (fun _ _ _ _ h => h.2)
theorem B_is_stand (hd : Hd w K mg) : FnBd P w K mg base 4 (He.ga K "is_stand") 1 [] φ_is_stand := by
  obtain ⟨fd, Fd⟩ := hd.c.t.d.def_ 4 (d := mkDD (("is_stand" : Str), none) "is_stand" "is_stand" (top 14) []) rfl
  exact fn_bd _ Fd (k_is_stand hd Fd) (FunD.bindsN Fd fun _ _ _ _ _ _ us hl => match us, hl with | [_], _ => rfl)
/-! stand -/
def N_stand : List Str := ["number", "shares", "ties", "made"]
theorem sc_stand : FnScope N_stand ["number", "shares", "ties"] (defScope (top 15)) := ⟨rfl, rfl, rfl, by decide +kernel, rfl, by decide +kernel, by decide +kernel⟩
def w_stand : WpS := (wSeq (wSet 3 (wTup (wCons (wVar 0) (wCons (wVar 1) (wCons (wIte (wOp (fIs false) (wVar 2) (wC .non)) (wTup wNil) (wVar 2)) wNil)))))
  (wSeq (wIf (wB (wNot (wCall φ_is_stand [] (wCons (wVar 3) wNil)))) (wRaise "NoStand") wNx)
  (wRet (wVar 3))))
def φ_stand : SB.Spec := fun xs S R RE => xs.length = 3 ∧ w_stand (startE N_stand xs) S ⟨fun _ S' => Rz R .non S', Rz R, fun _ _ => False, fun _ _ => False⟩ (fun c _ S' => RE c S')
theorem k_stand (hd : Hd w K mg) {q nm : Str} {dvs : List V} {kws : List (Str × V)} {f : Addr} {fd : FuncData} (Fd : FunD K nm q (defArgs (top 15)) (defBody (top 15)) (defScope (top 15)) dvs kws f fd) : FnOk P w K mg base (L2.CX P w) 5 f fd ["number", "shares", "ties"] (spOf K φ_stand) :=
  body_ok (N := N_stand) (ws := w_stand) Fd sc_stand (fun cdv A outer s H E F bc =>
  (wss_cons (ws_set (i := 3) sc_stand.nd rfl (.inl rfl) (we_tup (wa_cons (we_var (i := 0) rfl (.inl rfl) nd_number nc_number) (wa_cons (we_var (i := 1) rfl (.inl rfl) nd_shares nc_shares) (wa_cons (we_ite (t_is (we_var (i := 2) rfl (.inl rfl) nd_ties nc_ties) we_non rfl) (we_tup wa_nil) (we_var (i := 2) rfl (.inl rfl) nd_ties nc_ties)) wa_nil rfl) rfl) rfl)) rfl (.inl rfl))
  (wss_cons (ws_if (wt_not (wt_val (we_call ((B_is_stand hd).mono (by decide)) bc.room bc.tk rfl (g_is_stand hd) (wa_cons (we_var (i := 3) rfl (.inl rfl) nd_made nc_made) wa_nil rfl) rfl nd_is_stand) (fun _ => rfl))) (wss_one (ws_raise (c := "NoStand") PySem.F.excBase_ValueError (ex_NoStand hd) rfl bc.tk (g_NoStand hd) rfl nd_NoStand)) wss_nil)
  (wss_one (ws_ret (we_var (i := 3) rfl (.inl rfl) nd_made nc_made)))))) (fun _ _ _ _ h => h.1) (fun _ _ _ _ h => h.2)
theorem B_stand_2 (hd : Hd w K mg) : FnBd P w K mg base 5 (He.ga K "stand") 3 [.non] φ_stand := by
  obtain ⟨fd, Fd⟩ := hd.c.t.d.def_ 5 (d := mkDD (("stand" : Str), none) "stand" "stand" (top 15) [.non]) rfl
  exact fn_bdD _ [.non] Fd (k_stand hd Fd) (FunD.binds1 Fd 2 0 (by intro z; cases z) rfl (fun T kV doc pm an cdv ct us its h1 h2 => match us, its, h1, h2 with | [_, _], [_], _, _ => ⟨_, rfl, rfl⟩)) (fun S H => (.cons .non .nil))
theorem B_stand (hd : Hd w K mg) : FnBd P w K mg base 5 (He.ga K "stand") 3 [] φ_stand := by
  obtain ⟨fd, Fd⟩ := hd.c.t.d.def_ 5 (d := mkDD (("stand" : Str), none) "stand" "stand" (top 15) [.non]) rfl
  exact fn_bdD _ [] Fd (k_stand hd Fd) (FunD.binds1 Fd 3 1 (by intro z; cases z) rfl (fun T kV doc pm an cdv ct us its h1 h2 => match us, its, h1, h2 with | [_, _, _], [_], _, _ => ⟨_, rfl, rfl⟩)) (fun S H => .nil)
/-! first -/
def N_first : List Str := ["left", "right"]
theorem sc_first : FnScope N_first ["left", "right"] (defScope (top 16)) := ⟨rfl, rfl, rfl, by decide +kernel, rfl, by decide +kernel, by decide +kernel⟩
def w_first : WpS := (wRet (wCall φ_stand [.non] (wCons (wC (.int 0)) (wCons (wTup (wCons (wVar 0) (wCons (wVar 1) wNil))) wNil))))
def φ_first : SB.Spec := fun xs S R RE => xs.length = 2 ∧ w_first (startE N_first xs) S ⟨fun _ S' => Rz R .non S', Rz R, fun _ _ => False, fun _ _ => False⟩ (fun c _ S' => RE c S')
theorem k_first (hd : Hd w K mg) {q nm : Str} {dvs : List V} {kws : List (Str × V)} {f : Addr} {fd : FuncData} (Fd : FunD K nm q (defArgs (top 16)) (defBody (top 16)) (defScope (top 16)) dvs kws f fd) : FnOk P w K mg base (L2.CX P w) 6 f fd ["left", "right"] (spOf K φ_first) :=
  body_ok (N := N_first) (ws := w_first) Fd sc_first (fun cdv A outer s H E F bc =>
  (wss_one (ws_ret (we_call ((B_stand_2 hd).mono (by decide)) bc.room bc.tk rfl (g_stand hd) (wa_cons we_int (wa_cons (we_tup (wa_cons (we_var (i := 0) rfl (.inl rfl) nd_left nc_left) (wa_cons (we_var (i := 1) rfl (.inl rfl) nd_right nc_right) wa_nil rfl) rfl)) wa_nil rfl) rfl) rfl nd_stand)))) (fun _ _ _ _ h => h.1) (fun _ _ _ _ h => h.2)
theorem B_first (hd : Hd w K mg) : FnBd P w K mg base 6 (He.ga K "first") 2 [] φ_first := by
  obtain ⟨fd, Fd⟩ := hd.c.t.d.def_ 6 (d := mkDD (("first" : Str), none) "first" "first" (top 16) []) rfl
  exact fn_bd _ Fd (k_first hd Fd) (FunD.bindsN Fd fun _ _ _ _ _ _ us hl => match us, hl with | [_, _], _ => rfl)
/-! deals -/
def N_deals : List Str := ["one", "tie"]
theorem sc_deals : FnScope N_deals ["one"] (defScope (top 17)) := ⟨rfl, rfl, rfl, by decide +kernel, rfl, by decide +kernel, by decide +kernel⟩
def w_deals : WpS := (wRet (wOp (fAdd false) (wFun fSum (wCons (wOp fIx (wVar 0) (wC (.int 1))) wNil)) (wFun fSum (wCons (wLc false (wSrc (wOp fIx (wVar 0) (wC (.int 2)))) (.nm 1) wYes (wOp fIx (wVar 1) (wC (.int 1))) [1]) wNil))))
def φ_deals : SB.Spec := fun xs S R RE => xs.length = 1 ∧ w_deals (startE N_deals xs) S ⟨fun _ S' => Rz R .non S', Rz R, fun _ _ => False, fun _ _ => False⟩ (fun c _ S' => RE c S')
theorem k_deals (hd : Hd w K mg) {q nm : Str} {dvs : List V} {kws : List (Str × V)} {f : Addr} {fd : FuncData} (Fd : FunD K nm q (defArgs (top 17)) (defBody (top 17)) (defScope (top 17)) dvs kws f fd) : FnOk P w K mg base (L2.CX P w) 1 f fd ["one"] (spOf K φ_deals) :=
  body_ok (N := N_deals) (ws := w_deals) Fd sc_deals (fun cdv A outer s H E F bc =>
  (wss_one (ws_ret (we_add (own := false) (b_sum rfl rfl (n_sum hd) (wa_cons (we_ix (u1 bc.room.u65) (we_var (i := 0) rfl (.inl rfl) nd_one nc_one) we_int (fun _ _ => rfl)) wa_nil rfl) rfl) (b_sum rfl rfl (n_sum hd) (wa_cons (we_lc (fr := false) (own := [(("tie" : Str), 1)]) (t := (.nm 1)) rfl sc_deals.nd (wi_src (we_ix (u1 bc.room.u65) (we_var (i := 0) rfl (.inl rfl) nd_one nc_one) we_int (fun _ _ => rfl))) (show BlkOk N_deals (defScope (top 17)) _ [(("tie" : Str), 1)] from blkOk_by (by decide +kernel)) (by decide) (fun _ _ _ _ _ => (wg_nm sc_deals.nd rfl (.inl rfl) (.inr rfl))) (fun _ _ _ _ _ => wts_nil) (fun _ _ _ _ _ => (we_ix (u1 bc.room.u65) (we_var (i := 1) rfl (.inl rfl) nd_tie nc_tie) we_int (fun _ _ => rfl))) (fun _ => rfl)) wa_nil rfl) rfl))))) (fun _ _ _ _ h => h.1) (fun _ _ _ _ h => h.2)
theorem B_deals (hd : Hd w K mg) : FnBd P w K mg base 1 (He.ga K "deals") 1 [] φ_deals := by
  obtain ⟨fd, Fd⟩ := hd.c.t.d.def_ 7 (d := mkDD (("deals" : Str), none) "deals" "deals" (top 17) []) rfl
  exact fn_bd _ Fd (k_deals hd Fd) (FunD.bindsN Fd fun _ _ _ _ _ _ us hl => match us, hl with | [_], _ => rfl)
/-! is_made -/
def N_is_made : List Str := ["thing"]
theorem sc_is_made : FnScope N_is_made ["thing"] (defScope (top 20)) := ⟨rfl, rfl, rfl, by decide +kernel, rfl, by decide +kernel, by decide +kernel⟩
def w_is_made : WpS := (wSeq (wIf (wB (wOr (wNot (wIsTy "tuple" (wVar 0))) (wOp (fEq true) (wFun fLen (wCons (wVar 0) wNil)) (wC (.int 4))))) (wRet (wC (.bl false))) wNx)
  (wSeq (wIf (wB (wOr (wNot (wCall φ_in_bounds [] (wCons (wOp fIx (wVar 0) (wC (.int 1))) (wCons (wC (.int 2)) wNil)))) (wNot (wCall φ_in_bounds [] (wCons (wOp fIx (wVar 0) (wC (.int 2))) (wCons (wC (.int 1)) wNil)))))) (wRet (wC (.bl false))) wNx)
  (wSeq (wIf (wB (wOp (fEq false) (wOp fIx (wVar 0) (wC (.int 0))) (wC (.str ("strike" : Str))))) (wRet (wCall φ_in_bounds [] (wCons (wOp fIx (wVar 0) (wC (.int 3))) (wCons (wC (.int 1000000)) wNil)))) wNx)
  (wRet (wAnd (wOp (fEq false) (wOp fIx (wVar 0) (wC (.int 0))) (wC (.str ("agree" : Str)))) (wCall φ_is_stand [] (wCons (wOp fIx (wVar 0) (wC (.int 3))) wNil)))))))
def φ_is_made : SB.Spec := fun xs S R RE => xs.length = 1 ∧ w_is_made (startE N_is_made xs) S ⟨fun _ S' => Rz R .non S', Rz R, fun _ _ => False, fun _ _ => False⟩ (fun c _ S' => RE c S')
theorem k_is_made (hd : Hd w K mg) {q nm : Str} {dvs : List V} {kws : List (Str × V)} {f : Addr} {fd : FuncData} (Fd : FunD K nm q (defArgs (top 20)) (defBody (top 20)) (defScope (top 20)) dvs kws f fd) : FnOk P w K mg base (L2.CX P w) 5 f fd ["thing"] (spOf K φ_is_made) :=
  body_ok (N := N_is_made) (ws := w_is_made) Fd sc_is_made (fun cdv A outer s H E F bc =>
  (wss_cons (ws_if (WW.wt (ww_or (wt_not (wt_val (b_isTy (T := "tuple") (by decide) (we_var (i := 0) rfl (.inl rfl) nd_thing nc_thing) rfl rfl (n_isinstance hd) rfl (n_tuple hd) bt_tuple (by decide) nd_tuple) (fun _ => rfl))) (ww_or1 (t_ne bc.room.u65 (b_len rfl (n_len hd) (wa_cons (we_var (i := 0) rfl (.inl rfl) nd_thing nc_thing) wa_nil rfl) rfl) we_int rfl)))) (wss_one (ws_ret we_bl)) wss_nil)
  (wss_cons (ws_if (WW.wt (ww_or (wt_not (wt_val (we_call ((B_in_bounds hd).mono (by decide)) bc.room bc.tk rfl (g_in_bounds hd) (wa_cons (we_ix (u1 bc.room.u65) (we_var (i := 0) rfl (.inl rfl) nd_thing nc_thing) we_int (fun _ _ => rfl)) (wa_cons (we_globI' (i_MOST_POT_things hd) rfl nd_MOST_POT_things) wa_nil rfl) rfl) rfl nd_in_bounds) (fun _ => rfl))) (ww_or1 (wt_not (wt_val (we_call ((B_in_bounds hd).mono (by decide)) bc.room bc.tk rfl (g_in_bounds hd) (wa_cons (we_ix (u1 bc.room.u65) (we_var (i := 0) rfl (.inl rfl) nd_thing nc_thing) we_int (fun _ _ => rfl)) (wa_cons we_int wa_nil rfl) rfl) rfl nd_in_bounds) (fun _ => rfl)))))) (wss_one (ws_ret we_bl)) wss_nil)
  (wss_cons (ws_if (t_eq bc.room.u65 (we_ix (u1 bc.room.u65) (we_var (i := 0) rfl (.inl rfl) nd_thing nc_thing) we_int (fun _ _ => rfl)) we_str rfl) (wss_one (ws_ret (we_call ((B_in_bounds hd).mono (by decide)) bc.room bc.tk rfl (g_in_bounds hd) (wa_cons (we_ix (u1 bc.room.u65) (we_var (i := 0) rfl (.inl rfl) nd_thing nc_thing) we_int (fun _ _ => rfl)) (wa_cons (we_globI' (i_MOST_NUMBER hd) rfl nd_MOST_NUMBER) wa_nil rfl) rfl) rfl nd_in_bounds))) wss_nil)
  (wss_one (ws_ret (we_and (e_eq bc.room.u65 (we_ix (u1 bc.room.u65) (we_var (i := 0) rfl (.inl rfl) nd_thing nc_thing) we_int (fun _ _ => rfl)) we_str rfl) (we_one (we_call ((B_is_stand hd).mono (by decide)) bc.room bc.tk rfl (g_is_stand hd) (wa_cons (we_ix (u1 bc.room.u65) (we_var (i := 0) rfl (.inl rfl) nd_thing nc_thing) we_int (fun _ _ => rfl)) wa_nil rfl) rfl nd_is_stand))))))))) (fun _ _ _ _ h => h.1) (fun _ _ _ _ h => h.2)
theorem B_is_made (hd : Hd w K mg) : FnBd P w K mg base 5 (He.ga K "is_made") 1 [] φ_is_made := by
  obtain ⟨fd, Fd⟩ := hd.c.t.d.def_ 8 (d := mkDD (("is_made" : Str), none) "is_made" "is_made" (top 20) []) rfl
  exact fn_bd _ Fd (k_is_made hd Fd) (FunD.bindsN Fd fun _ _ _ _ _ _ us hl => match us, hl with | [_], _ => rfl)
/-! is_thing -/
def N_is_thing : List Str := ["thing"]
theorem sc_is_thing : FnScope N_is_thing ["thing"] (defScope (top 21)) := ⟨rfl, rfl, rfl, by decide +kernel, rfl, by decide +kernel, by decide +kernel⟩
def w_is_thing : WpS := (wSeq (wIf (wB (wAnd (wIsTy "tuple" (wVar 0)) (wAnd (wOp (fEq false) (wFun fLen (wCons (wVar 0) wNil)) (wC (.int 2))) (wOp (fEq false) (wOp fIx (wVar 0) (wC (.int 0))) (wC (.str ("word" : Str))))))) (wRet (wCall φ_in_bounds [] (wCons (wOp fIx (wVar 0) (wC (.int 1))) (wCons (wC (.int 59)) wNil)))) wNx)
  (wRet (wCall φ_is_made [] (wCons (wVar 0) wNil))))
def φ_is_thing : SB.Spec := fun xs S R RE => xs.length = 1 ∧ w_is_thing (startE N_is_thing xs) S ⟨fun _ S' => Rz R .non S', Rz R, fun _ _ => False, fun _ _ => False⟩ (fun c _ S' => RE c S')
theorem k_is_thing (hd : Hd w K mg) {q nm : Str} {dvs : List V} {kws : List (Str × V)} {f : Addr} {fd : FuncData} (Fd : FunD K nm q (defArgs (top 21)) (defBody (top 21)) (defScope (top 21)) dvs kws f fd) : FnOk P w K mg base (L2.CX P w) 6 f fd ["thing"] (spOf K φ_is_thing) :=
  body_ok (N := N_is_thing) (ws := w_is_thing) Fd sc_is_thing (fun cdv A outer s H E F bc =>
  (wss_cons (ws_if (WW.wt (ww_and (wt_val (b_isTy (T := "tuple") (by decide) (we_var (i := 0) rfl (.inl rfl) nd_thing nc_thing) rfl rfl (n_isinstance hd) rfl (n_tuple hd) bt_tuple (by decide) nd_tuple) (fun _ => rfl)) (ww_and (t_eq bc.room.u65 (b_len rfl (n_len hd) (wa_cons (we_var (i := 0) rfl (.inl rfl) nd_thing nc_thing) wa_nil rfl) rfl) we_int rfl) (ww_and1 (t_eq bc.room.u65 (we_ix (u1 bc.room.u65) (we_var (i := 0) rfl (.inl rfl) nd_thing nc_thing) we_int (fun _ _ => rfl)) we_str rfl))))) (wss_one (ws_ret (we_call ((B_in_bounds hd).mono (by decide)) bc.room bc.tk rfl (g_in_bounds hd) (wa_cons (we_ix (u1 bc.room.u65) (we_var (i := 0) rfl (.inl rfl) nd_thing nc_thing) we_int (fun _ _ => rfl)) (wa_cons (we_globI' (i_MOST_WORD hd) rfl nd_MOST_WORD) wa_nil rfl) rfl) rfl nd_in_bounds))) wss_nil)
  (wss_one (ws_ret (we_call ((B_is_made hd).mono (by decide)) bc.room bc.tk rfl (g_is_made hd) (wa_cons (we_var (i := 0) rfl (.inl rfl) nd_thing nc_thing) wa_nil rfl) rfl nd_is_made))))) (fun _ _ _ _ h => h.1) (fun _ _ _ _ h => h.2)
theorem B_is_thing (hd : Hd w K mg) : FnBd P w K mg base 6 (He.ga K "is_thing") 1 [] φ_is_thing := by
  obtain ⟨fd, Fd⟩ := hd.c.t.d.def_ 9 (d := mkDD (("is_thing" : Str), none) "is_thing" "is_thing" (top 21) []) rfl
  exact fn_bd _ Fd (k_is_thing hd Fd) (FunD.bindsN Fd fun _ _ _ _ _ _ us hl => match us, hl with | [_], _ => rfl)
/-! is_pot -/
def N_is_pot : List Str := ["thing"]
theorem sc_is_pot : FnScope N_is_pot ["thing"] (defScope (top 25)) := ⟨rfl, rfl, rfl, by decide +kernel, rfl, by decide +kernel, by decide +kernel⟩
def w_is_pot : WpS := (wRet (wAnd (wIsTy "int" (wVar 0)) (wAnd (wNot (wIsTy "bool" (wVar 0))) (wChain (fCmp cmpLe) (fCmp cmpLe) (wC (.int 0)) (wVar 0) (wC (.int 2))))))
def φ_is_pot : SB.Spec := fun xs S R RE => xs.length = 1 ∧ w_is_pot (startE N_is_pot xs) S ⟨fun _ S' => Rz R .non S', Rz R, fun _ _ => False, fun _ _ => False⟩ (fun c _ S' => RE c S')
theorem k_is_pot (hd : Hd w K mg) {q nm : Str} {dvs : List V} {kws : List (Str × V)} {f : Addr} {fd : FuncData} (Fd : FunD K nm q (defArgs (top 25)) (defBody (top 25)) (defScope (top 25)) dvs kws f fd) : FnOk P w K mg base (L2.CX P w) 1 f fd ["thing"] (spOf K φ_is_pot) :=
  body_ok (N := N_is_pot) (ws := w_is_pot) Fd sc_is_pot (fun cdv A outer s H E F bc =>
  (wss_one (ws_ret (we_and (b_isTy (T := "int") (by decide) (we_var (i := 0) rfl (.inl rfl) nd_thing nc_thing) rfl rfl (n_isinstance hd) rfl (n_int hd) bt_int (by decide) nd_int) (we_and (we_not (b_isTy (T := "bool") (by decide) (we_var (i := 0) rfl (.inl rfl) nd_thing nc_thing) rfl rfl (n_isinstance hd) rfl (n_bool hd) bt_bool (by decide) nd_bool)) (we_one (we_chain op_le op_le od_cmp od_cmp we_int (we_var (i := 0) rfl (.inl rfl) nd_thing nc_thing) (we_globI' (i_MOST_POT_letters hd) rfl nd_MOST_POT_letters) rfl))))))) (fun _ _ _ _ h => h.1) (fun _ _ _ _ h => h.2)
theorem B_is_pot (hd : Hd w K mg) : FnBd P w K mg base 1 (He.ga K "is_pot") 1 [] φ_is_pot := by
  obtain ⟨fd, Fd⟩ := hd.c.t.d.def_ 10 (d := mkDD (("is_pot" : Str), none) "is_pot" "is_pot" (top 25) []) rfl
  exact fn_bd _ Fd (k_is_pot hd Fd) (FunD.bindsN Fd fun _ _ _ _ _ _ us hl => match us, hl with | [_], _ => rfl)
/-! is_kind -/
def N_is_kind : List Str := ["thing", "word"]
theorem sc_is_kind : FnScope N_is_kind ["thing", "word"] (defScope (top 26)) := ⟨rfl, rfl, rfl, by decide +kernel, rfl, by decide +kernel, by decide +kernel⟩
def w_is_kind : WpS := (wRet (wAnd (wCall φ_is_thing [] (wCons (wVar 0) wNil)) (wOp (fEq false) (wOp fIx (wVar 0) (wC (.int 0))) (wVar 1))))
def φ_is_kind : SB.Spec := fun xs S R RE => xs.length = 2 ∧ w_is_kind (startE N_is_kind xs) S ⟨fun _ S' => Rz R .non S', Rz R, fun _ _ => False, fun _ _ => False⟩ (fun c _ S' => RE c S')
theorem k_is_kind (hd : Hd w K mg) {q nm : Str} {dvs : List V} {kws : List (Str × V)} {f : Addr} {fd : FuncData} (Fd : FunD K nm q (defArgs (top 26)) (defBody (top 26)) (defScope (top 26)) dvs kws f fd) : FnOk P w K mg base (L2.CX P w) 7 f fd ["thing", "word"] (spOf K φ_is_kind) :=
  body_ok (N := N_is_kind) (ws := w_is_kind) Fd sc_is_kind (fun cdv A outer s H E F bc =>
  (wss_one (ws_ret (we_and (we_call ((B_is_thing hd).mono (by decide)) bc.room bc.tk rfl (g_is_thing hd) (wa_cons (we_var (i := 0) rfl (.inl rfl) nd_thing nc_thing) wa_nil rfl) rfl nd_is_thing) (we_one (e_eq bc.room.u65 (we_ix (u1 bc.room.u65) (we_var (i := 0) rfl (.inl rfl) nd_thing nc_thing) we_int (fun _ _ => rfl)) (we_var (i := 1) rfl (.inl rfl) nd_word nc_word) rfl)))))) (fun _ _ _ _ h => h.1) (fun _ _ _ _ h => h.2)
theorem B_is_kind (hd : Hd w K mg) : FnBd P w K mg base 7 (He.ga K "is_kind") 2 [] φ_is_kind := by
  obtain ⟨fd, Fd⟩ := hd.c.t.d.def_ 11 (d := mkDD (("is_kind" : Str), none) "is_kind" "is_kind" (top 26) []) rfl
  exact fn_bd _ Fd (k_is_kind hd Fd) (FunD.bindsN Fd fun _ _ _ _ _ _ us hl => match us, hl with | [_, _], _ => rfl)
/-! is_letter -/
def N_is_letter : List Str := ["thing"]
theorem sc_is_letter : FnScope N_is_letter ["thing"] (defScope (top 27)) := ⟨rfl, rfl, rfl, by decide +kernel, rfl, by decide +kernel, by decide +kernel⟩
def w_is_letter : WpS := (wSeq (wIf (wB (wOr (wNot (wIsTy "tuple" (wVar 0))) (wOr (wOp (fEq false) (wVar 0) (wTup wNil)) (wNot (wIsTy "str" (wOp fIx (wVar 0) (wC (.int 0)))))))) (wRet (wC (.bl false))) wNx)
  (wSeq (wIf (wB (wOr (wOp (fEq true) (wKGet tab_LENGTHS (wCons (wOp fIx (wVar 0) (wC (.int 0))) (wCons (wC (.int 0)) wNil))) (wFun fLen (wCons (wVar 0) wNil))) (wNot (wCall φ_is_pot [] (wCons (wOp fIx (wVar 0) (wC (.int 1))) wNil))))) (wRet (wC (.bl false))) wNx)
  (wSeq (wIf (wB (wOp (fEq false) (wOp fIx (wVar 0) (wC (.int 0))) (wC (.str ("offer" : Str))))) (wRet (wCall φ_is_kind [] (wCons (wOp fIx (wVar 0) (wC (.int 2))) (wCons (wC (.str ("agree" : Str))) wNil)))) wNx)
  (wSeq (wIf (wB (wOp (fEq false) (wOp fIx (wVar 0) (wC (.int 0))) (wC (.str ("accept" : Str))))) (wRet (wAnd (wCall φ_is_kind [] (wCons (wOp fIx (wVar 0) (wC (.int 2))) (wCons (wC (.str ("agree" : Str))) wNil))) (wCall φ_is_kind [] (wCons (wOp fIx (wVar 0) (wC (.int 3))) (wCons (wC (.str ("strike" : Str))) wNil))))) wNx)
  (wSeq (wIf (wB (wOp (fEq false) (wOp fIx (wVar 0) (wC (.int 0))) (wC (.str ("struck" : Str))))) (wRet (wCall φ_is_kind [] (wCons (wOp fIx (wVar 0) (wC (.int 2))) (wCons (wC (.str ("strike" : Str))) wNil)))) wNx)
  (wSeq (wIf (wB (wOp (fEq false) (wOp fIx (wVar 0) (wC (.int 0))) (wC (.str ("ask" : Str))))) (wRet (wCall φ_is_stand [] (wCons (wTup (wCons (wC (.int 0)) (wCons (wOp fIx (wVar 0) (wC (.int 2))) (wCons (wOp fIx (wVar 0) (wC (.int 3))) wNil)))) wNil))) wNx)
  (wRet (wCall φ_is_thing [] (wCons (wTup (wCons (wC (.str ("word" : Str))) (wCons (wOp fIx (wVar 0) (wC (.int 2))) wNil))) wNil)))))))))
def φ_is_letter : SB.Spec := fun xs S R RE => xs.length = 1 ∧ w_is_letter (startE N_is_letter xs) S ⟨fun _ S' => Rz R .non S', Rz R, fun _ _ => False, fun _ _ => False⟩ (fun c _ S' => RE c S')
theorem k_is_letter (hd : Hd w K mg) {q nm : Str} {dvs : List V} {kws : List (Str × V)} {f : Addr} {fd : FuncData} (Fd : FunD K nm q (defArgs (top 27)) (defBody (top 27)) (defScope (top 27)) dvs kws f fd) : FnOk P w K mg base (L2.CX P w) 8 f fd ["thing"] (spOf K φ_is_letter) :=
  body_ok (N := N_is_letter) (ws := w_is_letter) Fd sc_is_letter (fun cdv A outer s H E F bc =>
  (wss_cons (ws_if (WW.wt (ww_or (wt_not (wt_val (b_isTy (T := "tuple") (by decide) (we_var (i := 0) rfl (.inl rfl) nd_thing nc_thing) rfl rfl (n_isinstance hd) rfl (n_tuple hd) bt_tuple (by decide) nd_tuple) (fun _ => rfl))) (ww_or (t_eq bc.room.u65 (we_var (i := 0) rfl (.inl rfl) nd_thing nc_thing) (we_tup wa_nil) rfl) (ww_or1 (wt_not (wt_val (b_isTy (T := "str") (by decide) (we_ix (u1 bc.room.u65) (we_var (i := 0) rfl (.inl rfl) nd_thing nc_thing) we_int (fun _ _ => rfl)) rfl rfl (n_isinstance hd) rfl (n_str hd) bt_str (by decide) nd_str) (fun _ => rfl))))))) (wss_one (ws_ret we_bl)) wss_nil)
  (wss_cons (ws_if (WW.wt (ww_or (t_ne bc.room.u65 (b_kget (kt_LENGTHS hd) rfl (g_LENGTHS hd) nd_LENGTHS (wa_cons (we_ix (u1 bc.room.u65) (we_var (i := 0) rfl (.inl rfl) nd_thing nc_thing) we_int (fun _ _ => rfl)) (wa_cons we_int wa_nil rfl) rfl) rfl rfl) (b_len rfl (n_len hd) (wa_cons (we_var (i := 0) rfl (.inl rfl) nd_thing nc_thing) wa_nil rfl) rfl) rfl) (ww_or1 (wt_not (wt_val (we_call ((B_is_pot hd).mono (by decide)) bc.room bc.tk rfl (g_is_pot hd) (wa_cons (we_ix (u1 bc.room.u65) (we_var (i := 0) rfl (.inl rfl) nd_thing nc_thing) we_int (fun _ _ => rfl)) wa_nil rfl) rfl nd_is_pot) (fun _ => rfl)))))) (wss_one (ws_ret we_bl)) wss_nil)
  (wss_cons (ws_if (t_eq bc.room.u65 (we_ix (u1 bc.room.u65) (we_var (i := 0) rfl (.inl rfl) nd_thing nc_thing) we_int (fun _ _ => rfl)) we_str rfl) (wss_one (ws_ret (we_call ((B_is_kind hd).mono (by decide)) bc.room bc.tk rfl (g_is_kind hd) (wa_cons (we_ix (u1 bc.room.u65) (we_var (i := 0) rfl (.inl rfl) nd_thing nc_thing) we_int (fun _ _ => rfl)) (wa_cons we_str wa_nil rfl) rfl) rfl nd_is_kind))) wss_nil)
  (wss_cons (ws_if (t_eq bc.room.u65 (we_ix (u1 bc.room.u65) (we_var (i := 0) rfl (.inl rfl) nd_thing nc_thing) we_int (fun _ _ => rfl)) we_str rfl) (wss_one (ws_ret (we_and (we_call ((B_is_kind hd).mono (by decide)) bc.room bc.tk rfl (g_is_kind hd) (wa_cons (we_ix (u1 bc.room.u65) (we_var (i := 0) rfl (.inl rfl) nd_thing nc_thing) we_int (fun _ _ => rfl)) (wa_cons we_str wa_nil rfl) rfl) rfl nd_is_kind) (we_one (we_call ((B_is_kind hd).mono (by decide)) bc.room bc.tk rfl (g_is_kind hd) (wa_cons (we_ix (u1 bc.room.u65) (we_var (i := 0) rfl (.inl rfl) nd_thing nc_thing) we_int (fun _ _ => rfl)) (wa_cons we_str wa_nil rfl) rfl) rfl nd_is_kind))))) wss_nil)
  (wss_cons (ws_if (t_eq bc.room.u65 (we_ix (u1 bc.room.u65) (we_var (i := 0) rfl (.inl rfl) nd_thing nc_thing) we_int (fun _ _ => rfl)) we_str rfl) (wss_one (ws_ret (we_call ((B_is_kind hd).mono (by decide)) bc.room bc.tk rfl (g_is_kind hd) (wa_cons (we_ix (u1 bc.room.u65) (we_var (i := 0) rfl (.inl rfl) nd_thing nc_thing) we_int (fun _ _ => rfl)) (wa_cons we_str wa_nil rfl) rfl) rfl nd_is_kind))) wss_nil)
  (wss_cons (ws_if (t_eq bc.room.u65 (we_ix (u1 bc.room.u65) (we_var (i := 0) rfl (.inl rfl) nd_thing nc_thing) we_int (fun _ _ => rfl)) we_str rfl) (wss_one (ws_ret (we_call ((B_is_stand hd).mono (by decide)) bc.room bc.tk rfl (g_is_stand hd) (wa_cons (we_tup (wa_cons we_int (wa_cons (we_ix (u1 bc.room.u65) (we_var (i := 0) rfl (.inl rfl) nd_thing nc_thing) we_int (fun _ _ => rfl)) (wa_cons (we_ix (u1 bc.room.u65) (we_var (i := 0) rfl (.inl rfl) nd_thing nc_thing) we_int (fun _ _ => rfl)) wa_nil rfl) rfl) rfl)) wa_nil rfl) rfl nd_is_stand))) wss_nil)
  (wss_one (ws_ret (we_call ((B_is_thing hd).mono (by decide)) bc.room bc.tk rfl (g_is_thing hd) (wa_cons (we_tup (wa_cons we_str (wa_cons (we_ix (u1 bc.room.u65) (we_var (i := 0) rfl (.inl rfl) nd_thing nc_thing) we_int (fun _ _ => rfl)) wa_nil rfl) rfl)) wa_nil rfl) rfl nd_is_thing)))))))))) (fun _ _ _ _ h => h.1) (fun _ _ _ _ h => h.2)
theorem B_is_letter (hd : Hd w K mg) : FnBd P w K mg base 8 (He.ga K "is_letter") 1 [] φ_is_letter := by
  obtain ⟨fd, Fd⟩ := hd.c.t.d.def_ 12 (d := mkDD (("is_letter" : Str), none) "is_letter" "is_letter" (top 27) []) rfl
  exact fn_bd _ Fd (k_is_letter hd Fd) (FunD.bindsN Fd fun _ _ _ _ _ _ us hl => match us, hl with | [_], _ => rfl)
/-! Account___init__ -/
def N_Account___init__ : List Str := ["self", "pot", "side", "dealt", "mine", "grant", "may", "strikes"]
theorem sc_Account___init__ : FnScope N_Account___init__ ["self", "pot", "side", "dealt", "mine", "grant", "may", "strikes"] (defScope (inClass (top 29) 0)) := ⟨rfl, rfl, rfl, by decide +kernel, rfl, by decide +kernel, by decide +kernel⟩
def w_Account___init__ : WpS := (wSeq (wSetF ["Account", "Calm", "Offered", "Waiting"] "pot" (wVar 1) (wVar 0))
  (wSeq (wSetF ["Account", "Calm", "Offered", "Waiting"] "side" (wVar 2) (wVar 0))
  (wSeq (wSetF ["Account", "Calm", "Offered", "Waiting"] "dealt" (wVar 3) (wVar 0))
  (wSeq (wSetF ["Account", "Calm", "Offered", "Waiting"] "mine" (wVar 4) (wVar 0))
  (wSeq (wSetF ["Account", "Calm", "Offered", "Waiting"] "grant" (wVar 5) (wVar 0))
  (wSeq (wSetF ["Account", "Calm", "Offered", "Waiting"] "may" (wFun (fList false) (wCons (wVar 6) wNil)) (wVar 0))
  (wSetF ["Account", "Calm", "Offered", "Waiting"] "strikes" (wFun (fSorted false) (wCons (wVar 7) wNil)) (wVar 0))))))))
def φ_Account___init__ : SB.Spec := fun xs S R RE => xs.length = 8 ∧ w_Account___init__ (startE N_Account___init__ xs) S ⟨fun _ S' => Rz R .non S', Rz R, fun _ _ => False, fun _ _ => False⟩ (fun c _ S' => RE c S')
theorem k_Account___init__ (hd : Hd w K mg) {q nm : Str} {dvs : List V} {kws : List (Str × V)} {f : Addr} {fd : FuncData} (Fd : FunD K nm q (defArgs (inClass (top 29) 0)) (defBody (inClass (top 29) 0)) (defScope (inClass (top 29) 0)) dvs kws f fd) : FnOk P w K mg base (L2.CX P w) 1 f fd ["self", "pot", "side", "dealt", "mine", "grant", "may", "strikes"] (spOf K φ_Account___init__) :=
  body_ok (N := N_Account___init__) (ws := w_Account___init__) Fd sc_Account___init__ (fun cdv A outer s H E F bc =>
  (wss_cons (ws_setF (cs := ["Account", "Calm", "Offered", "Waiting"]) (f := "pot") (na_Account_Calm_Offered_Waiting_pot hd) (we_var (i := 1) rfl (.inl rfl) nd_pot nc_pot) (we_var (i := 0) rfl (.inl rfl) nd_self nc_self) rfl)
  (wss_cons (ws_setF (cs := ["Account", "Calm", "Offered", "Waiting"]) (f := "side") (na_Account_Calm_Offered_Waiting_side hd) (we_var (i := 2) rfl (.inl rfl) nd_side nc_side) (we_var (i := 0) rfl (.inl rfl) nd_self nc_self) rfl)
  (wss_cons (ws_setF (cs := ["Account", "Calm", "Offered", "Waiting"]) (f := "dealt") (na_Account_Calm_Offered_Waiting_dealt hd) (we_var (i := 3) rfl (.inl rfl) nd_dealt nc_dealt) (we_var (i := 0) rfl (.inl rfl) nd_self nc_self) rfl)
  (wss_cons (ws_setF (cs := ["Account", "Calm", "Offered", "Waiting"]) (f := "mine") (na_Account_Calm_Offered_Waiting_mine hd) (we_var (i := 4) rfl (.inl rfl) nd_mine nc_mine) (we_var (i := 0) rfl (.inl rfl) nd_self nc_self) rfl)
  (wss_cons (ws_setF (cs := ["Account", "Calm", "Offered", "Waiting"]) (f := "grant") (na_Account_Calm_Offered_Waiting_grant hd) (we_var (i := 5) rfl (.inl rfl) nd_grant nc_grant) (we_var (i := 0) rfl (.inl rfl) nd_self nc_self) rfl)
  (wss_cons (ws_setF (cs := ["Account", "Calm", "Offered", "Waiting"]) (f := "may") (na_Account_Calm_Offered_Waiting_may hd) (b_list (own := false) rfl rfl (n_list hd) (wa_cons (we_var (i := 6) rfl (.inl rfl) nd_may nc_may) wa_nil rfl) rfl) (we_var (i := 0) rfl (.inl rfl) nd_self nc_self) rfl)
  (wss_one (ws_setF (cs := ["Account", "Calm", "Offered", "Waiting"]) (f := "strikes") (na_Account_Calm_Offered_Waiting_strikes hd) (b_sorted (own := false) rfl rfl (n_sorted hd) (wa_cons (we_var (i := 7) rfl (.inl rfl) nd_strikes nc_strikes) wa_nil rfl) rfl) (we_var (i := 0) rfl (.inl rfl) nd_self nc_self) rfl))))))))) (fun _ _ _ _ h => h.1) (fun _ _ _ _ h => h.2)
theorem B_Account___init__ (hd : Hd w K mg) {q nm : Str} {f : Addr} (Fd : ∃ fd, FunD K nm q (defArgs (inClass (top 29) 0)) (defBody (inClass (top 29) 0)) (defScope (inClass (top 29) 0)) [] [] f fd) : FnBd P w K mg base 1 f 8 [] φ_Account___init__ := by
  obtain ⟨fd, Fd⟩ := Fd
  exact fn_bd _ Fd (k_Account___init__ hd Fd) (FunD.bindsN Fd fun _ _ _ _ _ _ us hl => match us, hl with | [_, _, _, _, _, _, _, _], _ => rfl)
theorem Mk_Calm (hd : Hd w K mg) : MkBd P w K mg base 1 "Calm" 8 [] φ_Account___init__ := ⟨⟨_, mkr_Calm hd, B_Account___init__ hd (hd.c.t.d.def_ 36 rfl)⟩, cl_Calm hd⟩
/-! first_account -/
def N_first_account : List Str := ["pot", "side", "left", "right", "one"]
theorem sc_first_account : FnScope N_first_account ["pot", "side", "left", "right"] (defScope (top 33)) := ⟨rfl, rfl, rfl, by decide +kernel, rfl, by decide +kernel, by decide +kernel⟩
def w_first_account : WpS := (wSeq (wSet 4 (wCall φ_first [] (wCons (wVar 2) (wCons (wVar 3) wNil))))
  (wRet (wMake false "Calm" [] φ_Account___init__ (wCons (wVar 0) (wCons (wVar 1) (wCons (wOp (fAdd false) (wVar 2) (wVar 3)) (wCons (wVar 4) (wCons (wC .non) (wCons (wLst false (wCons (wVar 4) wNil)) (wCons (wLst false wNil) wNil))))))))))
def φ_first_account : SB.Spec := fun xs S R RE => xs.length = 4 ∧ w_first_account (startE N_first_account xs) S ⟨fun _ S' => Rz R .non S', Rz R, fun _ _ => False, fun _ _ => False⟩ (fun c _ S' => RE c S')
theorem k_first_account (hd : Hd w K mg) {q nm : Str} {dvs : List V} {kws : List (Str × V)} {f : Addr} {fd : FuncData} (Fd : FunD K nm q (defArgs (top 33)) (defBody (top 33)) (defScope (top 33)) dvs kws f fd) : FnOk P w K mg base (L2.CX P w) 7 f fd ["pot", "side", "left", "right"] (spOf K φ_first_account) :=
  body_ok (N := N_first_account) (ws := w_first_account) Fd sc_first_account (fun cdv A outer s H E F bc =>
  (wss_cons (ws_set (i := 4) sc_first_account.nd rfl (.inl rfl) (we_call ((B_first hd).mono (by decide)) bc.room bc.tk rfl (g_first hd) (wa_cons (we_var (i := 2) rfl (.inl rfl) nd_left nc_left) (wa_cons (we_var (i := 3) rfl (.inl rfl) nd_right nc_right) wa_nil rfl) rfl) rfl nd_first) rfl (.inl rfl))
  (wss_one (ws_ret (we_make (own := false) (k := 5) ((Mk_Calm hd).mono' (by decide)) bc.room bc.tk rfl (g_Calm hd) (wa_cons (we_var (i := 0) rfl (.inl rfl) nd_pot nc_pot) (wa_cons (we_var (i := 1) rfl (.inl rfl) nd_side nc_side) (wa_cons (we_add (own := false) (we_var (i := 2) rfl (.inl rfl) nd_left nc_left) (we_var (i := 3) rfl (.inl rfl) nd_right nc_right)) (wa_cons (we_var (i := 4) rfl (.inl rfl) nd_one nc_one) (wa_cons we_non (wa_cons (we_lst (own := false) (wa_cons (we_var (i := 4) rfl (.inl rfl) nd_one nc_one) wa_nil rfl)) (wa_cons (we_lst (own := false) wa_nil) wa_nil rfl) rfl) rfl) rfl) rfl) rfl) rfl) rfl nd_Calm))))) (fun _ _ _ _ h => h.1) (fun _ _ _ _ h => h.2)
theorem B_first_account (hd : Hd w K mg) : FnBd P w K mg base 7 (He.ga K "first_account") 4 [] φ_first_account := by
  obtain ⟨fd, Fd⟩ := hd.c.t.d.def_ 13 (d := mkDD (("first_account" : Str), none) "first_account" "first_account" (top 33) []) rfl
  exact fn_bd _ Fd (k_first_account hd Fd) (FunD.bindsN Fd fun _ _ _ _ _ _ us hl => match us, hl with | [_, _, _, _], _ => rfl)
/-! Account_word -/
def N_Account_word : List Str := ["self"]
theorem sc_Account_word : FnScope N_Account_word ["self"] (defScope (inClass (top 29) 1)) := ⟨rfl, rfl, rfl, by decide +kernel, rfl, by decide +kernel, by decide +kernel⟩
def w_Account_word : WpS := (wRet (wC (.str ("" : Str))))
def φ_Account_word : SB.Spec := fun xs S R RE => xs.length = 1 ∧ w_Account_word (startE N_Account_word xs) S ⟨fun _ S' => Rz R .non S', Rz R, fun _ _ => False, fun _ _ => False⟩ (fun c _ S' => RE c S')
theorem k_Account_word (hd : Hd w K mg) {q nm : Str} {dvs : List V} {kws : List (Str × V)} {f : Addr} {fd : FuncData} (Fd : FunD K nm q (defArgs (inClass (top 29) 1)) (defBody (inClass (top 29) 1)) (defScope (inClass (top 29) 1)) dvs kws f fd) : FnOk P w K mg base (L2.CX P w) 1 f fd ["self"] (spOf K φ_Account_word) :=
  body_ok (N := N_Account_word) (ws := w_Account_word) Fd sc_Account_word (fun cdv A outer s H E F bc =>
  (wss_one (ws_ret we_str))) (fun _ _ _ _ h => h.1) (fun _ _ _ _ h => h.2)
theorem B_Account_word (hd : Hd w K mg) {q nm : Str} {f : Addr} (Fd : ∃ fd, FunD K nm q (defArgs (inClass (top 29) 1)) (defBody (inClass (top 29) 1)) (defScope (inClass (top 29) 1)) [] [] f fd) : FnBd P w K mg base 1 f 1 [] φ_Account_word := by
  obtain ⟨fd, Fd⟩ := Fd
  exact fn_bd _ Fd (k_Account_word hd Fd) (FunD.bindsN Fd fun _ _ _ _ _ _ us hl => match us, hl with | [_], _ => rfl)
/-! Calm_word -/
def N_Calm_word : List Str := ["self"]
theorem sc_Calm_word : FnScope N_Calm_word ["self"] (defScope (inClass (top 30) 0)) := ⟨rfl, rfl, rfl, by decide +kernel, rfl, by decide +kernel, by decide +kernel⟩
def w_Calm_word : WpS := (wRet (wC (.str ("calm" : Str))))
def φ_Calm_word : SB.Spec := fun xs S R RE => xs.length = 1 ∧ w_Calm_word (startE N_Calm_word xs) S ⟨fun _ S' => Rz R .non S', Rz R, fun _ _ => False, fun _ _ => False⟩ (fun c _ S' => RE c S')
theorem k_Calm_word (hd : Hd w K mg) {q nm : Str} {dvs : List V} {kws : List (Str × V)} {f : Addr} {fd : FuncData} (Fd : FunD K nm q (defArgs (inClass (top 30) 0)) (defBody (inClass (top 30) 0)) (defScope (inClass (top 30) 0)) dvs kws f fd) : FnOk P w K mg base (L2.CX P w) 1 f fd ["self"] (spOf K φ_Calm_word) :=
  body_ok (N := N_Calm_word) (ws := w_Calm_word) Fd sc_Calm_word (fun cdv A outer s H E F bc =>
  (wss_one (ws_ret we_str))) (fun _ _ _ _ h => h.1) (fun _ _ _ _ h => h.2)
theorem B_Calm_word (hd : Hd w K mg) {q nm : Str} {f : Addr} (Fd : ∃ fd, FunD K nm q (defArgs (inClass (top 30) 0)) (defBody (inClass (top 30) 0)) (defScope (inClass (top 30) 0)) [] [] f fd) : FnBd P w K mg base 1 f 1 [] φ_Calm_word := by
  obtain ⟨fd, Fd⟩ := Fd
  exact fn_bd _ Fd (k_Calm_word hd Fd) (FunD.bindsN Fd fun _ _ _ _ _ _ us hl => match us, hl with | [_], _ => rfl)
/-! Offered_word -/
def N_Offered_word : List Str := ["self"]
theorem sc_Offered_word : FnScope N_Offered_word ["self"] (defScope (inClass (top 31) 0)) := ⟨rfl, rfl, rfl, by decide +kernel, rfl, by decide +kernel, by decide +kernel⟩
def w_Offered_word : WpS := (wRet (wC (.str ("offered" : Str))))
def φ_Offered_word : SB.Spec := fun xs S R RE => xs.length = 1 ∧ w_Offered_word (startE N_Offered_word xs) S ⟨fun _ S' => Rz R .non S', Rz R, fun _ _ => False, fun _ _ => False⟩ (fun c _ S' => RE c S')
theorem k_Offered_word (hd : Hd w K mg) {q nm : Str} {dvs : List V} {kws : List (Str × V)} {f : Addr} {fd : FuncData} (Fd : FunD K nm q (defArgs (inClass (top 31) 0)) (defBody (inClass (top 31) 0)) (defScope (inClass (top 31) 0)) dvs kws f fd) : FnOk P w K mg base (L2.CX P w) 1 f fd ["self"] (spOf K φ_Offered_word) :=
  body_ok (N := N_Offered_word) (ws := w_Offered_word) Fd sc_Offered_word (fun cdv A outer s H E F bc =>
  (wss_one (ws_ret we_str))) (fun _ _ _ _ h => h.1) (fun _ _ _ _ h => h.2)
theorem B_Offered_word (hd : Hd w K mg) {q nm : Str} {f : Addr} (Fd : ∃ fd, FunD K nm q (defArgs (inClass (top 31) 0)) (defBody (inClass (top 31) 0)) (defScope (inClass (top 31) 0)) [] [] f fd) : FnBd P w K mg base 1 f 1 [] φ_Offered_word := by
  obtain ⟨fd, Fd⟩ := Fd
  exact fn_bd _ Fd (k_Offered_word hd Fd) (FunD.bindsN Fd fun _ _ _ _ _ _ us hl => match us, hl with | [_], _ => rfl)
/-! Waiting_word -/
def N_Waiting_word : List Str := ["self"]
theorem sc_Waiting_word : FnScope N_Waiting_word ["self"] (defScope (inClass (top 32) 0)) := ⟨rfl, rfl, rfl, by decide +kernel, rfl, by decide +kernel, by decide +kernel⟩
def w_Waiting_word : WpS := (wRet (wC (.str ("waiting" : Str))))
def φ_Waiting_word : SB.Spec := fun xs S R RE => xs.length = 1 ∧ w_Waiting_word (startE N_Waiting_word xs) S ⟨fun _ S' => Rz R .non S', Rz R, fun _ _ => False, fun _ _ => False⟩ (fun c _ S' => RE c S')
theorem k_Waiting_word (hd : Hd w K mg) {q nm : Str} {dvs : List V} {kws : List (Str × V)} {f : Addr} {fd : FuncData} (Fd : FunD K nm q (defArgs (inClass (top 32) 0)) (defBody (inClass (top 32) 0)) (defScope (inClass (top 32) 0)) dvs kws f fd) : FnOk P w K mg base (L2.CX P w) 1 f fd ["self"] (spOf K φ_Waiting_word) :=
  body_ok (N := N_Waiting_word) (ws := w_Waiting_word) Fd sc_Waiting_word (fun cdv A outer s H E F bc =>
  (wss_one (ws_ret we_str))) (fun _ _ _ _ h => h.1) (fun _ _ _ _ h => h.2)
theorem B_Waiting_word (hd : Hd w K mg) {q nm : Str} {f : Addr} (Fd : ∃ fd, FunD K nm q (defArgs (inClass (top 32) 0)) (defBody (inClass (top 32) 0)) (defScope (inClass (top 32) 0)) [] [] f fd) : FnBd P w K mg base 1 f 1 [] φ_Waiting_word := by
  obtain ⟨fd, Fd⟩ := Fd
  exact fn_bd _ Fd (k_Waiting_word hd Fd) (FunD.bindsN Fd fun _ _ _ _ _ _ us hl => match us, hl with | [_], _ => rfl)
def cs_word : List (String × Nat × List D × SB.Spec) := [("Account", 1, [], φ_Account_word), ("Calm", 1, [], φ_Calm_word), ("Offered", 1, [], φ_Offered_word), ("Waiting", 1, [], φ_Waiting_word)]
theorem mt_word {k : Nat} (hd : Hd w K mg) (hk : 1 ≤ k) : ∀ c nd, cs_word.lookup c = some nd → MtBd P w K mg base k (clA K c) "word" nd.1 nd.2.1 nd.2.2 := (mts_cons ⟨_, me_Account_word hd, (B_Account_word hd (hd.c.t.d.def_ 31 rfl)).mono (Nat.le_trans (by decide) hk)⟩ (mts_cons ⟨_, me_Calm_word hd, (B_Calm_word hd (hd.c.t.d.def_ 37 rfl)).mono (Nat.le_trans (by decide) hk)⟩ (mts_cons ⟨_, me_Offered_word hd, (B_Offered_word hd (hd.c.t.d.def_ 43 rfl)).mono (Nat.le_trans (by decide) hk)⟩ (mts_cons ⟨_, me_Waiting_word hd, (B_Waiting_word hd (hd.c.t.d.def_ 49 rfl)).mono (Nat.le_trans (by decide) hk)⟩ mts_nil))))
theorem Mk_Offered (hd : Hd w K mg) : MkBd P w K mg base 1 "Offered" 8 [] φ_Account___init__ := ⟨⟨_, mkr_Offered hd, B_Account___init__ hd (hd.c.t.d.def_ 42 rfl)⟩, cl_Offered hd⟩
/-! offered -/
def N_offered : List Str := ["account", "shares", "ties", "new", "may", "letter"]
theorem sc_offered : FnScope N_offered ["account", "shares", "ties"] (defScope (top 34)) := ⟨rfl, rfl, rfl, by decide +kernel, rfl, by decide +kernel, by decide +kernel⟩
def w_offered : WpS := (wSeq (wIf (wB (wOr (wOp (fEq true) (wFld "side" (wVar 0)) (wC (.int 0))) (wOp (fEq true) (wMeth "word" cs_word (wVar 0) wNil) (wC (.str ("calm" : Str)))))) (wRaise "NoDeed") wNx)
  (wSeq (wSet 3 (wTup (wCons (wOp (fAdd false) (wOp fIx (wFld "mine" (wVar 0)) (wC (.int 0))) (wC (.int 1))) (wCons (wVar 1) (wCons (wVar 2) wNil)))))
  (wSeq (wIf (wB (wOr (wNot (wCall φ_is_stand [] (wCons (wVar 3) wNil))) (wOp (fEq true) (wCall φ_deals [] (wCons (wVar 3) wNil)) (wFld "dealt" (wVar 0))))) (wRaise "NoStand") wNx)
  (wSeq (wSet 3 (wCall φ_stand [] (wCons (wOp fIx (wVar 3) (wC (.int 0))) (wCons (wVar 1) (wCons (wVar 2) wNil)))))
  (wSeq (wSet 4 (wLst false (wCons (wFld "mine" (wVar 0)) (wCons (wVar 3) wNil))))
  (wSeq (wSet 5 (wTup (wCons (wC (.str ("offer" : Str))) (wCons (wFld "pot" (wVar 0)) (wCons (wTup (wCons (wC (.str ("agree" : Str))) (wCons (wFld "pot" (wVar 0)) (wCons (wC (.int 0)) (wCons (wVar 3) wNil))))) wNil)))))
  (wRet (wTup (wCons (wMake false "Offered" [] φ_Account___init__ (wCons (wFld "pot" (wVar 0)) (wCons (wC (.int 0)) (wCons (wFld "dealt" (wVar 0)) (wCons (wFld "mine" (wVar 0)) (wCons (wFld "grant" (wVar 0)) (wCons (wVar 4) (wCons (wFld "strikes" (wVar 0)) wNil)))))))) (wCons (wVar 5) wNil))))))))))
def φ_offered : SB.Spec := fun xs S R RE => xs.length = 3 ∧ w_offered (startE N_offered xs) S ⟨fun _ S' => Rz R .non S', Rz R, fun _ _ => False, fun _ _ => False⟩ (fun c _ S' => RE c S')
theorem k_offered (hd : Hd w K mg) {q nm : Str} {dvs : List V} {kws : List (Str × V)} {f : Addr} {fd : FuncData} (Fd : FunD K nm q (defArgs (top 34)) (defBody (top 34)) (defScope (top 34)) dvs kws f fd) : FnOk P w K mg base (L2.CX P w) 6 f fd ["account", "shares", "ties"] (spOf K φ_offered) :=
  body_ok (N := N_offered) (ws := w_offered) Fd sc_offered (fun cdv A outer s H E F bc =>
  (wss_cons (ws_if (WW.wt (ww_or (t_ne bc.room.u65 (we_fld (f := "side") (we_var (i := 0) rfl (.inl rfl) nd_account nc_account) rfl) we_int rfl) (ww_or1 (t_ne bc.room.u65 (we_meth0 (m := "word") (cs := cs_word) (mt_word hd (by decide)) bc.room bc.tk (we_var (i := 0) rfl (.inl rfl) nd_account nc_account) rfl rfl) we_str rfl)))) (wss_one (ws_raise (c := "NoDeed") PySem.F.excBase_ValueError (ex_NoDeed hd) rfl bc.tk (g_NoDeed hd) rfl nd_NoDeed)) wss_nil)
  (wss_cons (ws_set (i := 3) sc_offered.nd rfl (.inl rfl) (we_tup (wa_cons (we_add (own := false) (we_ix (u1 bc.room.u65) (we_fld (f := "mine") (we_var (i := 0) rfl (.inl rfl) nd_account nc_account) rfl) we_int (fun _ _ => rfl)) we_int) (wa_cons (we_var (i := 1) rfl (.inl rfl) nd_shares nc_shares) (wa_cons (we_var (i := 2) rfl (.inl rfl) nd_ties nc_ties) wa_nil rfl) rfl) rfl)) rfl (.inl rfl))
  (wss_cons (ws_if (WW.wt (ww_or (wt_not (wt_val (we_call ((B_is_stand hd).mono (by decide)) bc.room bc.tk rfl (g_is_stand hd) (wa_cons (we_var (i := 3) rfl (.inl rfl) nd_new nc_new) wa_nil rfl) rfl nd_is_stand) (fun _ => rfl))) (ww_or1 (t_ne bc.room.u65 (we_call ((B_deals hd).mono (by decide)) bc.room bc.tk rfl (g_deals hd) (wa_cons (we_var (i := 3) rfl (.inl rfl) nd_new nc_new) wa_nil rfl) rfl nd_deals) (we_fld (f := "dealt") (we_var (i := 0) rfl (.inl rfl) nd_account nc_account) rfl) rfl)))) (wss_one (ws_raise (c := "NoStand") PySem.F.excBase_ValueError (ex_NoStand hd) rfl bc.tk (g_NoStand hd) rfl nd_NoStand)) wss_nil)
  (wss_cons (ws_set (i := 3) sc_offered.nd rfl (.inl rfl) (we_call ((B_stand hd).mono (by decide)) bc.room bc.tk rfl (g_stand hd) (wa_cons (we_ix (u1 bc.room.u65) (we_var (i := 3) rfl (.inl rfl) nd_new nc_new) we_int (fun _ _ => rfl)) (wa_cons (we_var (i := 1) rfl (.inl rfl) nd_shares nc_shares) (wa_cons (we_var (i := 2) rfl (.inl rfl) nd_ties nc_ties) wa_nil rfl) rfl) rfl) rfl nd_stand) rfl (.inl rfl))
  (wss_cons (ws_set (i := 4) sc_offered.nd rfl (.inl rfl) (we_lst (own := false) (wa_cons (we_fld (f := "mine") (we_var (i := 0) rfl (.inl rfl) nd_account nc_account) rfl) (wa_cons (we_var (i := 3) rfl (.inl rfl) nd_new nc_new) wa_nil rfl) rfl)) rfl (.inl rfl))
  (wss_cons (ws_set (i := 5) sc_offered.nd rfl (.inl rfl) (we_tup (wa_cons we_str (wa_cons (we_fld (f := "pot") (we_var (i := 0) rfl (.inl rfl) nd_account nc_account) rfl) (wa_cons (we_tup (wa_cons we_str (wa_cons (we_fld (f := "pot") (we_var (i := 0) rfl (.inl rfl) nd_account nc_account) rfl) (wa_cons we_int (wa_cons (we_var (i := 3) rfl (.inl rfl) nd_new nc_new) wa_nil rfl) rfl) rfl) rfl)) wa_nil rfl) rfl) rfl)) rfl (.inl rfl))
  (wss_one (ws_ret (we_tup (wa_cons (we_make (own := false) (k := 4) ((Mk_Offered hd).mono' (by decide)) bc.room bc.tk rfl (g_Offered hd) (wa_cons (we_fld (f := "pot") (we_var (i := 0) rfl (.inl rfl) nd_account nc_account) rfl) (wa_cons we_int (wa_cons (we_fld (f := "dealt") (we_var (i := 0) rfl (.inl rfl) nd_account nc_account) rfl) (wa_cons (we_fld (f := "mine") (we_var (i := 0) rfl (.inl rfl) nd_account nc_account) rfl) (wa_cons (we_fld (f := "grant") (we_var (i := 0) rfl (.inl rfl) nd_account nc_account) rfl) (wa_cons (we_var (i := 4) rfl (.inl rfl) nd_may nc_may) (wa_cons (we_fld (f := "strikes") (we_var (i := 0) rfl (.inl rfl) nd_account nc_account) rfl) wa_nil rfl) rfl) rfl) rfl) rfl) rfl) rfl) rfl nd_Offered) (wa_cons (we_var (i := 5) rfl (.inl rfl) nd_letter nc_letter) wa_nil rfl) rfl))))))))))) (fun _ _ _ _ h => h.1) (fun _ _ _ _ h => h.2)
theorem B_offered (hd : Hd w K mg) : FnBd P w K mg base 6 (He.ga K "offered") 3 [] φ_offered := by
  obtain ⟨fd, Fd⟩ := hd.c.t.d.def_ 14 (d := mkDD (("offered" : Str), none) "offered" "offered" (top 34) []) rfl
  exact fn_bd _ Fd (k_offered hd Fd) (FunD.bindsN Fd fun _ _ _ _ _ _ us hl => match us, hl with | [_, _, _], _ => rfl)
/-! _law_cell_at -/
def N__law_cell_at : List Str := ["script", "k"]
theorem sc__law_cell_at : FnScope N__law_cell_at ["script", "k"] (defScope (top 36)) := ⟨rfl, rfl, rfl, by decide +kernel, rfl, by decide +kernel, by decide +kernel⟩
def w__law_cell_at : WpS := (wSeq (wIf (wB (wOp (fCmp cmpLt) (wVar 1) (wFun fLen (wCons (wVar 0) wNil)))) (wRet (wOp fIx (wVar 0) (wVar 1))) wNx)
  (wRet (wC (.int 0))))
def φ__law_cell_at : SB.Spec := fun xs S R RE => xs.length = 2 ∧ w__law_cell_at (startE N__law_cell_at xs) S ⟨fun _ S' => Rz R .non S', Rz R, fun _ _ => False, fun _ _ => False⟩ (fun c _ S' => RE c S')
theorem k__law_cell_at (hd : Hd w K mg) {q nm : Str} {dvs : List V} {kws : List (Str × V)} {f : Addr} {fd : FuncData} (Fd : FunD K nm q (defArgs (top 36)) (defBody (top 36)) (defScope (top 36)) dvs kws f fd) : FnOk P w K mg base (L2.CX P w) 1 f fd ["script", "k"] (spOf K φ__law_cell_at) :=
  body_ok (N := N__law_cell_at) (ws := w__law_cell_at) Fd sc__law_cell_at (fun cdv A outer s H E F bc =>
  (wss_cons (ws_if (t_lt (we_var (i := 1) rfl (.inl rfl) nd_k nc_k) (b_len rfl (n_len hd) (wa_cons (we_var (i := 0) rfl (.inl rfl) nd_script nc_script) wa_nil rfl) rfl) rfl) (wss_one (ws_ret (we_ix (u1 bc.room.u65) (we_var (i := 0) rfl (.inl rfl) nd_script nc_script) (we_var (i := 1) rfl (.inl rfl) nd_k nc_k) (fun _ _ => rfl)))) wss_nil)
  (wss_one (ws_ret we_int)))) (fun _ _ _ _ h => h.1) (fun _ _ _ _ h => h.2)
theorem B__law_cell_at (hd : Hd w K mg) : FnBd P w K mg base 1 (He.ga K "_law_cell_at") 2 [] φ__law_cell_at := by
  obtain ⟨fd, Fd⟩ := hd.c.t.d.def_ 15 (d := mkDD (("_law_cell_at" : Str), none) "_law_cell_at" "_law_cell_at" (top 36) []) rfl
  exact fn_bd _ Fd (k__law_cell_at hd Fd) (FunD.bindsN Fd fun _ _ _ _ _ _ us hl => match us, hl with | [_, _], _ => rfl)
/-! _law_well_of -/
def N__law_well_of : List Str := ["cell"]
theorem sc__law_well_of : FnScope N__law_well_of ["cell"] (defScope (top 37)) := ⟨rfl, rfl, rfl, by decide +kernel, rfl, by decide +kernel, by decide +kernel⟩
def w__law_well_of : WpS := (wRet (wLst true (wCons (wOp fIx (wLst false (wCons (wC (.int 0)) (wCons (wVar 0) wNil))) (wFun fInt (wCons (wOp (fCmp cmpGe) (wVar 0) (wOp fPow (wC (.int 10)) (wC (.int 18)))) wNil))) (wCons (wOp fMod (wVar 0) (wC (.int 2147483629))) (wCons (wC (.int 0)) wNil)))))
def φ__law_well_of : SB.Spec := fun xs S R RE => xs.length = 1 ∧ w__law_well_of (startE N__law_well_of xs) S ⟨fun _ S' => Rz R .non S', Rz R, fun _ _ => False, fun _ _ => False⟩ (fun c _ S' => RE c S')
theorem k__law_well_of (hd : Hd w K mg) {q nm : Str} {dvs : List V} {kws : List (Str × V)} {f : Addr} {fd : FuncData} (Fd : FunD K nm q (defArgs (top 37)) (defBody (top 37)) (defScope (top 37)) dvs kws f fd) : FnOk P w K mg base (L2.CX P w) 1 f fd ["cell"] (spOf K φ__law_well_of) :=
  body_ok (N := N__law_well_of) (ws := w__law_well_of) Fd sc__law_well_of (fun cdv A outer s H E F bc =>
  (wss_one (ws_ret (we_lst (own := true) (wa_cons (we_ix (u1 bc.room.u65) (we_lst (own := false) (wa_cons we_int (wa_cons (we_var (i := 0) rfl (.inl rfl) nd_cell nc_cell) wa_nil rfl) rfl)) (b_int rfl (n_int hd) (wa_cons (e_ge (we_var (i := 0) rfl (.inl rfl) nd_cell nc_cell) (we_pow we_int we_int) rfl) wa_nil rfl) rfl) (fun _ _ => rfl)) (wa_cons (we_mod (we_var (i := 0) rfl (.inl rfl) nd_cell nc_cell) we_int) (wa_cons we_int wa_nil rfl) rfl) rfl))))) (fun _ _ _ _ h => h.1) (fun _ _ _ _ h => h.2)
theorem B__law_well_of (hd : Hd w K mg) : FnBd P w K mg base 1 (He.ga K "_law_well_of") 1 [] φ__law_well_of := by
  obtain ⟨fd, Fd⟩ := hd.c.t.d.def_ 16 (d := mkDD (("_law_well_of" : Str), none) "_law_well_of" "_law_well_of" (top 37) []) rfl
  exact fn_bd _ Fd (k__law_well_of hd Fd) (FunD.bindsN Fd fun _ _ _ _ _ _ us hl => match us, hl with | [_], _ => rfl)
/-! _law_draw -/
def N__law_draw : List Str := ["well", "base", "digit", "primes", "number"]
theorem sc__law_draw : FnScope N__law_draw ["well", "base"] (defScope (top 38)) := ⟨rfl, rfl, rfl, by decide +kernel, rfl, by decide +kernel, by decide +kernel⟩
def w__law_draw : WpS := (wSeq (wIf (wB (wOp (fCmp cmpGt) (wOp fIx (wVar 0) (wC (.int 0))) (wC (.int 0)))) (wSeq (wSet 2 (wOp fMod (wOp fIx (wVar 0) (wC (.int 0))) (wVar 1)))
  (wSeq (wSetI (wOp fDiv (wOp fIx (wVar 0) (wC (.int 0))) (wVar 1)) (wVar 0) (wC (.int 0)))
  (wRet (wVar 2)))) wNx)
  (wSeq (wSetI (wOp (fAdd false) (wOp fIx (wVar 0) (wC (.int 2))) (wC (.int 1))) (wVar 0) (wC (.int 2)))
  (wSeq (wSet 3 (wLst false (wCons (wC (.int 2147483629)) (wCons (wC (.int 2147483587)) (wCons (wC (.int 2147483579)) (wCons (wC (.int 2147483563)) (wCons (wC (.int 2147483549)) wNil)))))))
  (wSeq (wSet 4 (wOp fMod (wOp fPow (wOp (fAdd false) (wOp fIx (wVar 0) (wC (.int 1))) (wOp (fMul false) (wC (.int 7919)) (wOp fIx (wVar 0) (wC (.int 2))))) (wC (.int 5))) (wC (.int 2147483647))))
  (wSeq (wSet 4 (wOp fMod (wOp (fMul false) (wVar 4) (wOp (fAdd false) (wOp (fAdd false) (wOp fDiv (wVar 4) (wC (.int 1009))) (wC (.int 69621))) (wOp fIx (wVar 0) (wC (.int 2))))) (wOp fIx (wVar 3) (wOp fMod (wOp fIx (wVar 0) (wC (.int 2))) (wC (.int 5))))))
  (wRet (wOp fMod (wOp fDiv (wVar 4) (wC (.int 7))) (wVar 1))))))))
def φ__law_draw : SB.Spec := fun xs S R RE => xs.length = 2 ∧ w__law_draw (startE N__law_draw xs) S ⟨fun _ S' => Rz R .non S', Rz R, fun _ _ => False, fun _ _ => False⟩ (fun c _ S' => RE c S')
theorem k__law_draw (hd : Hd w K mg) {q nm : Str} {dvs : List V} {kws : List (Str × V)} {f : Addr} {fd : FuncData} (Fd : FunD K nm q (defArgs (top 38)) (defBody (top 38)) (defScope (top 38)) dvs kws f fd) : FnOk P w K mg base (L2.CX P w) 1 f fd ["well", "base"] (spOf K φ__law_draw) :=
  body_ok (N := N__law_draw) (ws := w__law_draw) Fd sc__law_draw (fun cdv A outer s H E F bc =>
  (wss_cons (ws_if (t_gt (we_ix (u1 bc.room.u65) (we_var (i := 0) rfl (.inl rfl) nd_well nc_well) we_int (fun _ _ => rfl)) we_int rfl) (wss_cons (ws_set (i := 2) sc__law_draw.nd rfl (.inl rfl) (we_mod (we_ix (u1 bc.room.u65) (we_var (i := 0) rfl (.inl rfl) nd_well nc_well) we_int (fun _ _ => rfl)) (we_var (i := 1) rfl (.inl rfl) nd_base nc_base)) rfl (.inl rfl))
  (wss_cons (ws_setI (u1 bc.room.u65) (we_div (we_ix (u1 bc.room.u65) (we_var (i := 0) rfl (.inl rfl) nd_well nc_well) we_int (fun _ _ => rfl)) (we_var (i := 1) rfl (.inl rfl) nd_base nc_base)) (we_var (i := 0) rfl (.inl rfl) nd_well nc_well) we_int (fun _ => rfl) rfl rfl rfl)
  (wss_one (ws_ret (we_var (i := 2) rfl (.inl rfl) nd_digit nc_digit))))) wss_nil)
  (wss_cons (ws_setI (u1 bc.room.u65) (we_add (own := false) (we_ix (u1 bc.room.u65) (we_var (i := 0) rfl (.inl rfl) nd_well nc_well) we_int (fun _ _ => rfl)) we_int) (we_var (i := 0) rfl (.inl rfl) nd_well nc_well) we_int (fun _ => rfl) rfl rfl rfl)
  (wss_cons (ws_set (i := 3) sc__law_draw.nd rfl (.inl rfl) (we_lst (own := false) (wa_cons we_int (wa_cons we_int (wa_cons we_int (wa_cons we_int (wa_cons we_int wa_nil rfl) rfl) rfl) rfl) rfl)) rfl (.inl rfl))
  (wss_cons (ws_set (i := 4) sc__law_draw.nd rfl (.inl rfl) (we_mod (we_pow (we_add (own := false) (we_ix (u1 bc.room.u65) (we_var (i := 0) rfl (.inl rfl) nd_well nc_well) we_int (fun _ _ => rfl)) (we_mul (own := false) we_int (we_ix (u1 bc.room.u65) (we_var (i := 0) rfl (.inl rfl) nd_well nc_well) we_int (fun _ _ => rfl)))) we_int) we_int) rfl (.inl rfl))
  (wss_cons (ws_set (i := 4) sc__law_draw.nd rfl (.inl rfl) (we_mod (we_mul (own := false) (we_var (i := 4) rfl (.inl rfl) nd_number nc_number) (we_add (own := false) (we_add (own := false) (we_div (we_var (i := 4) rfl (.inl rfl) nd_number nc_number) we_int) we_int) (we_ix (u1 bc.room.u65) (we_var (i := 0) rfl (.inl rfl) nd_well nc_well) we_int (fun _ _ => rfl)))) (we_ix (u1 bc.room.u65) (we_var (i := 3) rfl (.inl rfl) nd_primes nc_primes) (we_mod (we_ix (u1 bc.room.u65) (we_var (i := 0) rfl (.inl rfl) nd_well nc_well) we_int (fun _ _ => rfl)) we_int) (fun _ _ => rfl))) rfl (.inl rfl))
  (wss_one (ws_ret (we_mod (we_div (we_var (i := 4) rfl (.inl rfl) nd_number nc_number) we_int) (we_var (i := 1) rfl (.inl rfl) nd_base nc_base)))))))))) (fun _ _ _ _ h => h.1) (fun _ _ _ _ h => h.2)
theorem B__law_draw (hd : Hd w K mg) : FnBd P w K mg base 1 (He.ga K "_law_draw") 2 [] φ__law_draw := by
  obtain ⟨fd, Fd⟩ := hd.c.t.d.def_ 17 (d := mkDD (("_law_draw" : Str), none) "_law_draw" "_law_draw" (top 38) []) rfl
  exact fn_bd _ Fd (k__law_draw hd Fd) (FunD.bindsN Fd fun _ _ _ _ _ _ us hl => match us, hl with | [_, _], _ => rfl)
/-! _law_deal -/
def N__law_deal : List Str := ["well", "number", "whole", "left", "ties", "words", "k", "word", "amount", "tie", "share"]
theorem sc__law_deal : FnScope N__law_deal ["well", "number", "whole"] (defScope (top 39)) := ⟨rfl, rfl, rfl, by decide +kernel, rfl, by decide +kernel, by decide +kernel⟩
def w__law_deal : WpS := (wSeq (wSet 3 (wVar 2))
  (wSeq (wSet 4 (wTup wNil))
  (wSeq (wSet 5 (wLst true wNil))
  (wSeq (wFor (wRange (wCons (wCall φ__law_draw [] (wCons (wVar 0) (wCons (wC (.int 4)) wNil))) wNil)) (.nm 6) (wSeq (wSet 7 (wOp fIx (wLst false (wCons (wC (.int 3)) (wCons (wC (.int 8)) (wCons (wC (.int 17)) (wCons (wC (.int 25)) (wCons (wC (.int 41)) (wCons (wC (.int 59)) wNil))))))) (wCall φ__law_draw [] (wCons (wVar 0) (wCons (wC (.int 6)) wNil)))))
  (wSeq (wSet 8 (wFun fMin (wCons (wVar 3) (wCons (wOp (fAdd false) (wC (.int 1)) (wCall φ__law_draw [] (wCons (wVar 0) (wCons (wC (.int 9)) wNil)))) wNil))))
  (wSeq (wSet 9 (wTup (wCons (wCall φ__law_draw [] (wCons (wVar 0) (wCons (wC (.int 2)) wNil))) (wCons (wVar 8) (wCons (wVar 7) (wCons (wCall φ__law_draw [] (wCons (wVar 0) (wCons (wC (.int 16)) wNil))) wNil))))))
  (wIf (wB (wAnd (wOp (fCmp cmpGt) (wVar 8) (wC (.int 0))) (wOp (fIn true) (wVar 7) (wVar 5)))) (wSeq (wExpr (wMt "list" fAppend (wVar 5) (wCons (wVar 7) wNil)))
  (wSeq (wSet 3 (wOp fSub (wVar 3) (wVar 8)))
  (wSet 4 (wOp (fAdd false) (wVar 4) (wTup (wCons (wVar 9) wNil)))))) wNx)))))
  (wSeq (wSet 10 (wCall φ__law_draw [] (wCons (wVar 0) (wCons (wOp (fAdd false) (wVar 3) (wC (.int 1))) wNil))))
  (wRet (wTup (wCons (wVar 1) (wCons (wTup (wCons (wVar 10) (wCons (wOp fSub (wVar 3) (wVar 10)) wNil))) (wCons (wVar 4) wNil))))))))))
def φ__law_deal : SB.Spec := fun xs S R RE => xs.length = 3 ∧ w__law_deal (startE N__law_deal xs) S ⟨fun _ S' => Rz R .non S', Rz R, fun _ _ => False, fun _ _ => False⟩ (fun c _ S' => RE c S')
theorem k__law_deal (hd : Hd w K mg) {q nm : Str} {dvs : List V} {kws : List (Str × V)} {f : Addr} {fd : FuncData} (Fd : FunD K nm q (defArgs (top 39)) (defBody (top 39)) (defScope (top 39)) dvs kws f fd) : FnOk P w K mg base (L2.CX P w) 2 f fd ["well", "number", "whole"] (spOf K φ__law_deal) :=
  body_ok (N := N__law_deal) (ws := w__law_deal) Fd sc__law_deal (fun cdv A outer s H E F bc =>
  (wss_cons (ws_set (i := 3) sc__law_deal.nd rfl (.inl rfl) (we_var (i := 2) rfl (.inl rfl) nd_whole nc_whole) rfl (.inl rfl))
  (wss_cons (ws_set (i := 4) sc__law_deal.nd rfl (.inl rfl) (we_tup wa_nil) rfl (.inl rfl))
  (wss_cons (ws_set (i := 5) sc__law_deal.nd rfl (.inl rfl) (we_lst (own := true) wa_nil) rfl (.inl rfl))
  (wss_cons (ws_for bc.pass rfl (wi_range1 rfl (n_range hd) (wa_cons (we_call ((B__law_draw hd).mono (by decide)) bc.room bc.tk rfl (g__law_draw hd) (wa_cons (we_var (i := 0) rfl (.inl rfl) nd_well nc_well) (wa_cons we_int wa_nil rfl) rfl) rfl nd__law_draw) wa_nil rfl) rfl) (wg_nm sc__law_deal.nd rfl (.inl rfl) (.inl rfl)) (wss_cons (ws_set (i := 7) sc__law_deal.nd rfl (.inl rfl) (we_ix (u1 bc.room.u65) (we_lst (own := false) (wa_cons we_int (wa_cons we_int (wa_cons we_int (wa_cons we_int (wa_cons we_int (wa_cons we_int wa_nil rfl) rfl) rfl) rfl) rfl) rfl)) (we_call ((B__law_draw hd).mono (by decide)) bc.room bc.tk rfl (g__law_draw hd) (wa_cons (we_var (i := 0) rfl (.inl rfl) nd_well nc_well) (wa_cons we_int wa_nil rfl) rfl) rfl nd__law_draw) (fun _ _ => rfl)) rfl (.inl rfl))
  (wss_cons (ws_set (i := 8) sc__law_deal.nd rfl (.inl rfl) (b_min rfl rfl (n_min hd) (wa_cons (we_var (i := 3) rfl (.inl rfl) nd_left nc_left) (wa_cons (we_add (own := false) we_int (we_call ((B__law_draw hd).mono (by decide)) bc.room bc.tk rfl (g__law_draw hd) (wa_cons (we_var (i := 0) rfl (.inl rfl) nd_well nc_well) (wa_cons we_int wa_nil rfl) rfl) rfl nd__law_draw)) wa_nil rfl) rfl) rfl) rfl (.inl rfl))
  (wss_cons (ws_set (i := 9) sc__law_deal.nd rfl (.inl rfl) (we_tup (wa_cons (we_call ((B__law_draw hd).mono (by decide)) bc.room bc.tk rfl (g__law_draw hd) (wa_cons (we_var (i := 0) rfl (.inl rfl) nd_well nc_well) (wa_cons we_int wa_nil rfl) rfl) rfl nd__law_draw) (wa_cons (we_var (i := 8) rfl (.inl rfl) nd_amount nc_amount) (wa_cons (we_var (i := 7) rfl (.inl rfl) nd_word nc_word) (wa_cons (we_call ((B__law_draw hd).mono (by decide)) bc.room bc.tk rfl (g__law_draw hd) (wa_cons (we_var (i := 0) rfl (.inl rfl) nd_well nc_well) (wa_cons we_int wa_nil rfl) rfl) rfl nd__law_draw) wa_nil rfl) rfl) rfl) rfl)) rfl (.inl rfl))
  (wss_one (ws_if (WW.wt (ww_and (t_gt (we_var (i := 8) rfl (.inl rfl) nd_amount nc_amount) we_int rfl) (ww_and1 (t_nin bc.room.u65 (we_var (i := 7) rfl (.inl rfl) nd_word nc_word) (we_var (i := 5) rfl (.inl rfl) nd_words nc_words) rfl)))) (wss_cons (ws_expr (m_append (we_var (i := 5) rfl (.inl rfl) nd_words nc_words) (wa_cons (we_var (i := 7) rfl (.inl rfl) nd_word nc_word) wa_nil rfl) rfl rfl (by decide) rfl) rfl)
  (wss_cons (ws_set (i := 3) sc__law_deal.nd rfl (.inl rfl) (we_sub (we_var (i := 3) rfl (.inl rfl) nd_left nc_left) (we_var (i := 8) rfl (.inl rfl) nd_amount nc_amount)) rfl (.inl rfl))
  (wss_one (ws_set (i := 4) sc__law_deal.nd rfl (.inl rfl) (we_add (own := false) (we_var (i := 4) rfl (.inl rfl) nd_ties nc_ties) (we_tup (wa_cons (we_var (i := 9) rfl (.inl rfl) nd_tie nc_tie) wa_nil rfl))) rfl (.inl rfl))))) wss_nil))))) (fun _ => rfl))
  (wss_cons (ws_set (i := 10) sc__law_deal.nd rfl (.inl rfl) (we_call ((B__law_draw hd).mono (by decide)) bc.room bc.tk rfl (g__law_draw hd) (wa_cons (we_var (i := 0) rfl (.inl rfl) nd_well nc_well) (wa_cons (we_add (own := false) (we_var (i := 3) rfl (.inl rfl) nd_left nc_left) we_int) wa_nil rfl) rfl) rfl nd__law_draw) rfl (.inl rfl))
  (wss_one (ws_ret (we_tup (wa_cons (we_var (i := 1) rfl (.inl rfl) nd_number nc_number) (wa_cons (we_tup (wa_cons (we_var (i := 10) rfl (.inl rfl) nd_share nc_share) (wa_cons (we_sub (we_var (i := 3) rfl (.inl rfl) nd_left nc_left) (we_var (i := 10) rfl (.inl rfl) nd_share nc_share)) wa_nil rfl) rfl)) (wa_cons (we_var (i := 4) rfl (.inl rfl) nd_ties nc_ties) wa_nil rfl) rfl) rfl)))))))))) (fun _ _ _ _ h => h.1) (fun _ _ _ _ h => h.2)
theorem B__law_deal (hd : Hd w K mg) : FnBd P w K mg base 2 (He.ga K "_law_deal") 3 [] φ__law_deal := by
  obtain ⟨fd, Fd⟩ := hd.c.t.d.def_ 18 (d := mkDD (("_law_deal" : Str), none) "_law_deal" "_law_deal" (top 39) []) rfl
  exact fn_bd _ Fd (k__law_deal hd Fd) (FunD.bindsN Fd fun _ _ _ _ _ _ us hl => match us, hl with | [_, _, _], _ => rfl)
/-! _law_is_stand -/
def N__law_is_stand : List Str := ["one", "number", "shares", "ties", "words", "tie"]
theorem sc__law_is_stand : FnScope N__law_is_stand ["one"] (defScope (top 40)) := ⟨rfl, rfl, rfl, by decide +kernel, rfl, by decide +kernel, by decide +kernel⟩
def w__law_is_stand : WpS := (wSeq (wAsg (.tup (.cons (.nm 1) (.cons (.nm 2) (.cons (.nm 3) .nil)))) (wVar 0))
  (wSeq (wSet 4 (wLc false (wSrc (wVar 3)) (.nm 5) wYes (wOp fIx (wVar 5) (wC (.int 2))) [5]))
  (wRet (wAnd (wOp (fCmp cmpLe) (wVar 1) (wOp fPow (wC (.int 10)) (wC (.int 6)))) (wAnd (wOp (fCmp cmpGe) (wFun fMin (wCons (wVar 2) wNil)) (wC (.int 0))) (wOp (fEq false) (wLenSet (wVar 4)) (wFun fLen (wCons (wVar 4) wNil))))))))
def φ__law_is_stand : SB.Spec := fun xs S R RE => xs.length = 1 ∧ w__law_is_stand (startE N__law_is_stand xs) S ⟨fun _ S' => Rz R .non S', Rz R, fun _ _ => False, fun _ _ => False⟩ (fun c _ S' => RE c S')
theorem k__law_is_stand (hd : Hd w K mg) {q nm : Str} {dvs : List V} {kws : List (Str × V)} {f : Addr} {fd : FuncData} (Fd : FunD K nm q (defArgs (top 40)) (defBody (top 40)) (defScope (top 40)) dvs kws f fd) : FnOk P w K mg base (L2.CX P w) 1 f fd ["one"] (spOf K φ__law_is_stand) :=
  body_ok (N := N__law_is_stand) (ws := w__law_is_stand) Fd sc__law_is_stand (fun cdv A outer s H E F bc =>
  (wss_cons (ws_asg (we_var (i := 0) rfl (.inl rfl) nd_one nc_one) (wg_tup rfl (wgs_cons (wg_nm sc__law_is_stand.nd rfl (.inl rfl) (.inl rfl)) (wgs_cons (wg_nm sc__law_is_stand.nd rfl (.inl rfl) (.inl rfl)) (wgs_cons (wg_nm sc__law_is_stand.nd rfl (.inl rfl) (.inl rfl)) wgs_nil (fun _ => rfl)) (fun _ => rfl)) (fun _ => rfl)) (fun _ => rfl) (fun _ => rfl)) rfl rfl rfl)
  (wss_cons (ws_setLc (i := 4) (fr := false) (own := [(("tie" : Str), 5)]) (t := (.nm 5)) rfl sc__law_is_stand.nd rfl rfl rfl (wi_src (we_var (i := 3) rfl (.inl rfl) nd_ties nc_ties)) (show BlkOk N__law_is_stand (defScope (top 40)) _ [(("tie" : Str), 5)] from blkOk_by (by decide +kernel)) (by decide) (fun _ _ _ _ _ => (wg_nm sc__law_is_stand.nd rfl (.inl rfl) (.inr rfl))) (fun _ _ _ _ _ => wts_nil) (fun _ _ _ _ _ => (we_ix (u1 bc.room.u65) (we_var (i := 5) rfl (.inl rfl) nd_tie nc_tie) we_int (fun _ _ => rfl))) (fun _ => rfl))
  (wss_one (ws_ret (we_and (e_le (we_var (i := 1) rfl (.inl rfl) nd_number nc_number) (we_pow we_int we_int) rfl) (we_and (e_ge (b_min rfl rfl (n_min hd) (wa_cons (we_var (i := 2) rfl (.inl rfl) nd_shares nc_shares) wa_nil rfl) rfl) we_int rfl) (we_one (e_eq bc.room.u65 (b_lenSet rfl rfl (n_len hd) rfl (n_set hd) (we_var (i := 4) rfl (.inl rfl) nd_words nc_words) rfl) (b_len rfl (n_len hd) (wa_cons (we_var (i := 4) rfl (.inl rfl) nd_words nc_words) wa_nil rfl) rfl) rfl))))))))) (fun _ _ _ _ h => h.1) (fun _ _ _ _ h => h.2)
theorem B__law_is_stand (hd : Hd w K mg) : FnBd P w K mg base 1 (He.ga K "_law_is_stand") 1 [] φ__law_is_stand := by
  obtain ⟨fd, Fd⟩ := hd.c.t.d.def_ 19 (d := mkDD (("_law_is_stand" : Str), none) "_law_is_stand" "_law_is_stand" (top 40) []) rfl
  exact fn_bd _ Fd (k__law_is_stand hd Fd) (FunD.bindsN Fd fun _ _ _ _ _ _ us hl => match us, hl with | [_], _ => rfl)
/-! _law_deals -/
def N__law_deals : List Str := ["one", "tie"]
theorem sc__law_deals : FnScope N__law_deals ["one"] (defScope (top 41)) := ⟨rfl, rfl, rfl, by decide +kernel, rfl, by decide +kernel, by decide +kernel⟩
def w__law_deals : WpS := (wRet (wOp (fAdd false) (wFun fSum (wCons (wOp fIx (wVar 0) (wC (.int 1))) wNil)) (wFun fSum (wCons (wLc false (wSrc (wOp fIx (wVar 0) (wC (.int 2)))) (.nm 1) wYes (wOp fIx (wVar 1) (wC (.int 1))) [1]) wNil))))
def φ__law_deals : SB.Spec := fun xs S R RE => xs.length = 1 ∧ w__law_deals (startE N__law_deals xs) S ⟨fun _ S' => Rz R .non S', Rz R, fun _ _ => False, fun _ _ => False⟩ (fun c _ S' => RE c S')
theorem k__law_deals (hd : Hd w K mg) {q nm : Str} {dvs : List V} {kws : List (Str × V)} {f : Addr} {fd : FuncData} (Fd : FunD K nm q (defArgs (top 41)) (defBody (top 41)) (defScope (top 41)) dvs kws f fd) : FnOk P w K mg base (L2.CX P w) 1 f fd ["one"] (spOf K φ__law_deals) :=
  body_ok (N := N__law_deals) (ws := w__law_deals) Fd sc__law_deals (fun cdv A outer s H E F bc =>
  (wss_one (ws_ret (we_add (own := false) (b_sum rfl rfl (n_sum hd) (wa_cons (we_ix (u1 bc.room.u65) (we_var (i := 0) rfl (.inl rfl) nd_one nc_one) we_int (fun _ _ => rfl)) wa_nil rfl) rfl) (b_sum rfl rfl (n_sum hd) (wa_cons (we_lc (fr := false) (own := [(("tie" : Str), 1)]) (t := (.nm 1)) rfl sc__law_deals.nd (wi_src (we_ix (u1 bc.room.u65) (we_var (i := 0) rfl (.inl rfl) nd_one nc_one) we_int (fun _ _ => rfl))) (show BlkOk N__law_deals (defScope (top 41)) _ [(("tie" : Str), 1)] from blkOk_by (by decide +kernel)) (by decide) (fun _ _ _ _ _ => (wg_nm sc__law_deals.nd rfl (.inl rfl) (.inr rfl))) (fun _ _ _ _ _ => wts_nil) (fun _ _ _ _ _ => (we_ix (u1 bc.room.u65) (we_var (i := 1) rfl (.inl rfl) nd_tie nc_tie) we_int (fun _ _ => rfl))) (fun _ => rfl)) wa_nil rfl) rfl))))) (fun _ _ _ _ h => h.1) (fun _ _ _ _ h => h.2)
theorem B__law_deals (hd : Hd w K mg) : FnBd P w K mg base 1 (He.ga K "_law_deals") 1 [] φ__law_deals := by
  obtain ⟨fd, Fd⟩ := hd.c.t.d.def_ 20 (d := mkDD (("_law_deals" : Str), none) "_law_deals" "_law_deals" (top 41) []) rfl
  exact fn_bd _ Fd (k__law_deals hd Fd) (FunD.bindsN Fd fun _ _ _ _ _ _ us hl => match us, hl with | [_], _ => rfl)
/-! _law_begun -/
def N__law_begun : List Str := ["pot", "side", "left", "right", "mine"]
theorem sc__law_begun : FnScope N__law_begun ["pot", "side", "left", "right"] (defScope (top 42)) := ⟨rfl, rfl, rfl, by decide +kernel, rfl, by decide +kernel, by decide +kernel⟩
def w__law_begun : WpS := (wSeq (wSet 4 (wTup (wCons (wC (.int 0)) (wCons (wTup (wCons (wVar 2) (wCons (wVar 3) wNil))) (wCons (wTup wNil) wNil)))))
  (wRet (wDict false [.inr ("pot" : Str), .inr ("side" : Str), .inr ("mine" : Str), .inr ("grant" : Str), .inr ("may" : Str), .inr ("strikes" : Str), .inr ("word" : Str)] (wCons (wVar 0) (wCons (wVar 1) (wCons (wVar 4) (wCons (wC .non) (wCons (wLst false (wCons (wVar 4) wNil)) (wCons (wLst false wNil) (wCons (wC (.str ("calm" : Str))) wNil))))))))))
def φ__law_begun : SB.Spec := fun xs S R RE => xs.length = 4 ∧ w__law_begun (startE N__law_begun xs) S ⟨fun _ S' => Rz R .non S', Rz R, fun _ _ => False, fun _ _ => False⟩ (fun c _ S' => RE c S')
theorem k__law_begun (hd : Hd w K mg) {q nm : Str} {dvs : List V} {kws : List (Str × V)} {f : Addr} {fd : FuncData} (Fd : FunD K nm q (defArgs (top 42)) (defBody (top 42)) (defScope (top 42)) dvs kws f fd) : FnOk P w K mg base (L2.CX P w) 1 f fd ["pot", "side", "left", "right"] (spOf K φ__law_begun) :=
  body_ok (N := N__law_begun) (ws := w__law_begun) Fd sc__law_begun (fun cdv A outer s H E F bc =>
  (wss_cons (ws_set (i := 4) sc__law_begun.nd rfl (.inl rfl) (we_tup (wa_cons we_int (wa_cons (we_tup (wa_cons (we_var (i := 2) rfl (.inl rfl) nd_left nc_left) (wa_cons (we_var (i := 3) rfl (.inl rfl) nd_right nc_right) wa_nil rfl) rfl)) (wa_cons (we_tup wa_nil) wa_nil rfl) rfl) rfl)) rfl (.inl rfl))
  (wss_one (ws_ret (we_dict (own := false) (ks := [.inr ("pot" : Str), .inr ("side" : Str), .inr ("mine" : Str), .inr ("grant" : Str), .inr ("may" : Str), .inr ("strikes" : Str), .inr ("word" : Str)]) (.cons (we_var (i := 0) rfl (.inl rfl) nd_pot nc_pot) (.cons (we_var (i := 1) rfl (.inl rfl) nd_side nc_side) (.cons (we_var (i := 4) rfl (.inl rfl) nd_mine nc_mine) (.cons we_non (.cons (we_lst (own := false) (wa_cons (we_var (i := 4) rfl (.inl rfl) nd_mine nc_mine) wa_nil rfl)) (.cons (we_lst (own := false) wa_nil) (.cons we_str .nil))))))) rfl rfl (by decide) (by decide)))))) (fun _ _ _ _ h => h.1) (fun _ _ _ _ h => h.2)
theorem B__law_begun (hd : Hd w K mg) : FnBd P w K mg base 1 (He.ga K "_law_begun") 4 [] φ__law_begun := by
  obtain ⟨fd, Fd⟩ := hd.c.t.d.def_ 21 (d := mkDD (("_law_begun" : Str), none) "_law_begun" "_law_begun" (top 42) []) rfl
  exact fn_bd _ Fd (k__law_begun hd Fd) (FunD.bindsN Fd fun _ _ _ _ _ _ us hl => match us, hl with | [_, _, _, _], _ => rfl)
/-! _law_offered_of -/
def N__law_offered_of : List Str := ["due", "shares", "ties", "new", "found"]
theorem sc__law_offered_of : FnScope N__law_offered_of ["due", "shares", "ties"] (defScope (top 43)) := ⟨rfl, rfl, rfl, by decide +kernel, rfl, by decide +kernel, by decide +kernel⟩
def w__law_offered_of : WpS := (wSeq (wIf (wB (wOr (wOp (fEq true) (wOp fIx (wVar 0) (wC (.str ("side" : Str)))) (wC (.int 0))) (wOp (fEq true) (wOp fIx (wVar 0) (wC (.str ("word" : Str)))) (wC (.str ("calm" : Str)))))) (wRet (wC (.str ("deed" : Str)))) wNx)
  (wSeq (wSet 3 (wTup (wCons (wOp (fAdd false) (wOp fIx (wOp fIx (wVar 0) (wC (.str ("mine" : Str)))) (wC (.int 0))) (wC (.int 1))) (wCons (wVar 1) (wCons (wVar 2) wNil)))))
  (wSeq (wIf (wB (wOr (wNot (wCall φ__law_is_stand [] (wCons (wVar 3) wNil))) (wOp (fEq true) (wCall φ__law_deals [] (wCons (wVar 3) wNil)) (wCall φ__law_deals [] (wCons (wOp fIx (wVar 0) (wC (.str ("mine" : Str)))) wNil))))) (wRet (wC (.str ("stand" : Str)))) wNx)
  (wSeq (wSet 4 (wFun (fDict true) (wCons (wVar 0) wNil)))
  (wSeq (wExpr (wMt "dict" fUpdate (wVar 4) (wCons (wDict false [.inr ("may" : Str), .inr ("word" : Str)] (wCons (wLst false (wCons (wOp fIx (wVar 0) (wC (.str ("mine" : Str)))) (wCons (wVar 3) wNil))) (wCons (wC (.str ("offered" : Str))) wNil))) wNil)))
  (wRet (wTup (wCons (wVar 4) (wCons (wTup (wCons (wC (.str ("offer" : Str))) (wCons (wOp fIx (wVar 0) (wC (.str ("pot" : Str)))) (wCons (wTup (wCons (wC (.str ("agree" : Str))) (wCons (wOp fIx (wVar 0) (wC (.str ("pot" : Str)))) (wCons (wC (.int 0)) (wCons (wVar 3) wNil))))) wNil)))) wNil)))))))))
def φ__law_offered_of : SB.Spec := fun xs S R RE => xs.length = 3 ∧ w__law_offered_of (startE N__law_offered_of xs) S ⟨fun _ S' => Rz R .non S', Rz R, fun _ _ => False, fun _ _ => False⟩ (fun c _ S' => RE c S')
theorem k__law_offered_of (hd : Hd w K mg) {q nm : Str} {dvs : List V} {kws : List (Str × V)} {f : Addr} {fd : FuncData} (Fd : FunD K nm q (defArgs (top 43)) (defBody (top 43)) (defScope (top 43)) dvs kws f fd) : FnOk P w K mg base (L2.CX P w) 2 f fd ["due", "shares", "ties"] (spOf K φ__law_offered_of) :=
  body_ok (N := N__law_offered_of) (ws := w__law_offered_of) Fd sc__law_offered_of (fun cdv A outer s H E F bc =>
  (wss_cons (ws_if (WW.wt (ww_or (t_ne bc.room.u65 (we_ix (u1 bc.room.u65) (we_var (i := 0) rfl (.inl rfl) nd_due nc_due) we_str (fun _ _ => rfl)) we_int rfl) (ww_or1 (t_ne bc.room.u65 (we_ix (u1 bc.room.u65) (we_var (i := 0) rfl (.inl rfl) nd_due nc_due) we_str (fun _ _ => rfl)) we_str rfl)))) (wss_one (ws_ret we_str)) wss_nil)
  (wss_cons (ws_set (i := 3) sc__law_offered_of.nd rfl (.inl rfl) (we_tup (wa_cons (we_add (own := false) (we_ix (u1 bc.room.u65) (we_ix (u1 bc.room.u65) (we_var (i := 0) rfl (.inl rfl) nd_due nc_due) we_str (fun _ _ => rfl)) we_int (fun _ _ => rfl)) we_int) (wa_cons (we_var (i := 1) rfl (.inl rfl) nd_shares nc_shares) (wa_cons (we_var (i := 2) rfl (.inl rfl) nd_ties nc_ties) wa_nil rfl) rfl) rfl)) rfl (.inl rfl))
  (wss_cons (ws_if (WW.wt (ww_or (wt_not (wt_val (we_call ((B__law_is_stand hd).mono (by decide)) bc.room bc.tk rfl (g__law_is_stand hd) (wa_cons (we_var (i := 3) rfl (.inl rfl) nd_new nc_new) wa_nil rfl) rfl nd__law_is_stand) (fun _ => rfl))) (ww_or1 (t_ne bc.room.u65 (we_call ((B__law_deals hd).mono (by decide)) bc.room bc.tk rfl (g__law_deals hd) (wa_cons (we_var (i := 3) rfl (.inl rfl) nd_new nc_new) wa_nil rfl) rfl nd__law_deals) (we_call ((B__law_deals hd).mono (by decide)) bc.room bc.tk rfl (g__law_deals hd) (wa_cons (we_ix (u1 bc.room.u65) (we_var (i := 0) rfl (.inl rfl) nd_due nc_due) we_str (fun _ _ => rfl)) wa_nil rfl) rfl nd__law_deals) rfl)))) (wss_one (ws_ret we_str)) wss_nil)
  (wss_cons (ws_set (i := 4) sc__law_offered_of.nd rfl (.inl rfl) (b_dict (own := true) rfl rfl (n_dict hd) (wa_cons (we_var (i := 0) rfl (.inl rfl) nd_due nc_due) wa_nil rfl) rfl) rfl (.inl rfl))
  (wss_cons (ws_expr (m_update (we_var (i := 4) rfl (.inl rfl) nd_found nc_found) (wa_cons (we_dict (own := false) (ks := [.inr ("may" : Str), .inr ("word" : Str)]) (.cons (we_lst (own := false) (wa_cons (we_ix (u1 bc.room.u65) (we_var (i := 0) rfl (.inl rfl) nd_due nc_due) we_str (fun _ _ => rfl)) (wa_cons (we_var (i := 3) rfl (.inl rfl) nd_new nc_new) wa_nil rfl) rfl)) (.cons we_str .nil)) rfl rfl (by decide) (by decide)) wa_nil rfl) rfl rfl (by decide) rfl) rfl)
  (wss_one (ws_ret (we_tup (wa_cons (we_var (i := 4) rfl (.inl rfl) nd_found nc_found) (wa_cons (we_tup (wa_cons we_str (wa_cons (we_ix (u1 bc.room.u65) (we_var (i := 0) rfl (.inl rfl) nd_due nc_due) we_str (fun _ _ => rfl)) (wa_cons (we_tup (wa_cons we_str (wa_cons (we_ix (u1 bc.room.u65) (we_var (i := 0) rfl (.inl rfl) nd_due nc_due) we_str (fun _ _ => rfl)) (wa_cons we_int (wa_cons (we_var (i := 3) rfl (.inl rfl) nd_new nc_new) wa_nil rfl) rfl) rfl) rfl)) wa_nil rfl) rfl) rfl)) wa_nil rfl) rfl)))))))))) (fun _ _ _ _ h => h.1) (fun _ _ _ _ h => h.2)
theorem B__law_offered_of (hd : Hd w K mg) : FnBd P w K mg base 2 (He.ga K "_law_offered_of") 3 [] φ__law_offered_of := by
  obtain ⟨fd, Fd⟩ := hd.c.t.d.def_ 22 (d := mkDD (("_law_offered_of" : Str), none) "_law_offered_of" "_law_offered_of" (top 43) []) rfl
  exact fn_bd _ Fd (k__law_offered_of hd Fd) (FunD.bindsN Fd fun _ _ _ _ _ _ us hl => match us, hl with | [_, _, _], _ => rfl)
/-! _law_struck -/
def N__law_struck : List Str := ["due", "found", "number"]
theorem sc__law_struck : FnScope N__law_struck ["due"] (defScope (top 44)) := ⟨rfl, rfl, rfl, by decide +kernel, rfl, by decide +kernel, by decide +kernel⟩
def w__law_struck : WpS := (wSeq (wSet 1 (wFun (fDict true) (wCons (wVar 0) wNil)))
  (wSeq (wSet 2 (wOp fIx (wOp fIx (wOp fIx (wVar 0) (wC (.str ("may" : Str)))) (wC (.int 0))) (wC (.int 0))))
  (wSeq (wExpr (wMt "dict" fUpdate (wVar 1) (wCons (wDict false [.inr ("mine" : Str), .inr ("may" : Str), .inr ("strikes" : Str)] (wCons (wOp fIx (wOp fIx (wVar 0) (wC (.str ("may" : Str)))) (wC (.int 1))) (wCons (wSl false (wOp fIx (wVar 0) (wC (.str ("may" : Str)))) (some (wC (.int 1))) none) (wCons (wOp (fAdd false) (wOp fIx (wVar 0) (wC (.str ("strikes" : Str)))) (wLst false (wCons (wVar 2) wNil))) wNil)))) wNil)))
  (wSeq (wSetI (wC (.str ("calm" : Str))) (wVar 1) (wC (.str ("word" : Str))))
  (wRet (wVar 1))))))
def φ__law_struck : SB.Spec := fun xs S R RE => xs.length = 1 ∧ w__law_struck (startE N__law_struck xs) S ⟨fun _ S' => Rz R .non S', Rz R, fun _ _ => False, fun _ _ => False⟩ (fun c _ S' => RE c S')
theorem k__law_struck (hd : Hd w K mg) {q nm : Str} {dvs : List V} {kws : List (Str × V)} {f : Addr} {fd : FuncData} (Fd : FunD K nm q (defArgs (top 44)) (defBody (top 44)) (defScope (top 44)) dvs kws f fd) : FnOk P w K mg base (L2.CX P w) 1 f fd ["due"] (spOf K φ__law_struck) :=
  body_ok (N := N__law_struck) (ws := w__law_struck) Fd sc__law_struck (fun cdv A outer s H E F bc =>
  (wss_cons (ws_set (i := 1) sc__law_struck.nd rfl (.inl rfl) (b_dict (own := true) rfl rfl (n_dict hd) (wa_cons (we_var (i := 0) rfl (.inl rfl) nd_due nc_due) wa_nil rfl) rfl) rfl (.inl rfl))
  (wss_cons (ws_set (i := 2) sc__law_struck.nd rfl (.inl rfl) (we_ix (u1 bc.room.u65) (we_ix (u1 bc.room.u65) (we_ix (u1 bc.room.u65) (we_var (i := 0) rfl (.inl rfl) nd_due nc_due) we_str (fun _ _ => rfl)) we_int (fun _ _ => rfl)) we_int (fun _ _ => rfl)) rfl (.inl rfl))
  (wss_cons (ws_expr (m_update (we_var (i := 1) rfl (.inl rfl) nd_found nc_found) (wa_cons (we_dict (own := false) (ks := [.inr ("mine" : Str), .inr ("may" : Str), .inr ("strikes" : Str)]) (.cons (we_ix (u1 bc.room.u65) (we_ix (u1 bc.room.u65) (we_var (i := 0) rfl (.inl rfl) nd_due nc_due) we_str (fun _ _ => rfl)) we_int (fun _ _ => rfl)) (.cons (we_sl (own := false) (we_ix (u1 bc.room.u65) (we_var (i := 0) rfl (.inl rfl) nd_due nc_due) we_str (fun _ _ => rfl)) (.some we_int) .none) (.cons (we_add (own := false) (we_ix (u1 bc.room.u65) (we_var (i := 0) rfl (.inl rfl) nd_due nc_due) we_str (fun _ _ => rfl)) (we_lst (own := false) (wa_cons (we_var (i := 2) rfl (.inl rfl) nd_number nc_number) wa_nil rfl))) .nil))) rfl rfl (by decide) (by decide)) wa_nil rfl) rfl rfl (by decide) rfl) rfl)
  (wss_cons (ws_setI (u1 bc.room.u65) we_str (we_var (i := 1) rfl (.inl rfl) nd_found nc_found) we_str (fun _ => rfl) rfl rfl rfl)
  (wss_one (ws_ret (we_var (i := 1) rfl (.inl rfl) nd_found nc_found)))))))) (fun _ _ _ _ h => h.1) (fun _ _ _ _ h => h.2)
theorem B__law_struck (hd : Hd w K mg) : FnBd P w K mg base 1 (He.ga K "_law_struck") 1 [] φ__law_struck := by
  obtain ⟨fd, Fd⟩ := hd.c.t.d.def_ 23 (d := mkDD (("_law_struck" : Str), none) "_law_struck" "_law_struck" (top 44) []) rfl
  exact fn_bd _ Fd (k__law_struck hd Fd) (FunD.bindsN Fd fun _ _ _ _ _ _ us hl => match us, hl with | [_], _ => rfl)
/-! _law_taken -/
def N__law_taken : List Str := ["due", "letter", "pot", "number", "new", "right", "found", "agree"]
theorem sc__law_taken : FnScope N__law_taken ["due", "letter"] (defScope (top 45)) := ⟨rfl, rfl, rfl, by decide +kernel, rfl, by decide +kernel, by decide +kernel⟩
def w__law_taken : WpS := (wSeq (wSet 2 (wOp fIx (wVar 0) (wC (.str ("pot" : Str)))))
  (wSeq (wSet 3 (wOp fIx (wOp fIx (wVar 0) (wC (.str ("mine" : Str)))) (wC (.int 0))))
  (wSeq (wIf (wB (wAnd (wOp (fEq false) (wOp fIx (wVar 1) (wC (.int 0))) (wC (.str ("offer" : Str)))) (wAnd (wOp (fEq false) (wOp fIx (wVar 0) (wC (.str ("side" : Str)))) (wC (.int 1))) (wOp (fEq false) (wOp fIx (wVar 0) (wC (.str ("word" : Str)))) (wC (.str ("calm" : Str))))))) (wSeq (wSet 4 (wOp fIx (wOp fIx (wVar 1) (wC (.int 2))) (wC (.int 3))))
  (wSeq (wSet 5 (wAnd (wOp (fEq false) (wSl false (wOp fIx (wVar 1) (wC (.int 2))) none (some (wC (.int 3)))) (wTup (wCons (wC (.str ("agree" : Str))) (wCons (wVar 2) (wCons (wC (.int 0)) wNil))))) (wOp (fEq false) (wOp fIx (wVar 4) (wC (.int 0))) (wOp (fAdd false) (wVar 3) (wC (.int 1))))))
  (wIf (wB (wAnd (wVar 5) (wAnd (wOp (fEq false) (wOp fIx (wVar 1) (wC (.int 1))) (wVar 2)) (wOp (fEq false) (wCall φ__law_deals [] (wCons (wVar 4) wNil)) (wCall φ__law_deals [] (wCons (wOp fIx (wVar 0) (wC (.str ("mine" : Str)))) wNil)))))) (wSeq (wSet 6 (wFun (fDict true) (wCons (wVar 0) wNil)))
  (wSeq (wExpr (wMt "dict" fUpdate (wVar 6) (wCons (wDict false [.inr ("mine" : Str), .inr ("grant" : Str), .inr ("may" : Str), .inr ("word" : Str)] (wCons (wVar 4) (wCons (wOp fIx (wVar 1) (wC (.int 2))) (wCons (wLst false (wCons (wOp fIx (wVar 0) (wC (.str ("mine" : Str)))) (wCons (wVar 4) wNil))) (wCons (wC (.str ("waiting" : Str))) wNil))))) wNil)))
  (wRet (wTup (wCons (wVar 6) (wCons (wTup (wCons (wC (.str ("accept" : Str))) (wCons (wVar 2) (wCons (wTup (wCons (wC (.str ("agree" : Str))) (wCons (wVar 2) (wCons (wC (.int 1)) (wCons (wVar 4) wNil))))) (wCons (wTup (wCons (wC (.str ("strike" : Str))) (wCons (wVar 2) (wCons (wC (.int 1)) (wCons (wVar 3) wNil))))) wNil))))) wNil)))))) wNx))) wNx)
  (wSeq (wSet 7 (wTup (wCons (wC (.str ("agree" : Str))) (wCons (wVar 2) (wCons (wC (.int 1)) (wCons (wOp fIx (wOp fIx (wVar 0) (wC (.str ("may" : Str)))) (wUn fNeg (wC (.int 1)))) wNil))))))
  (wSeq (wIf (wB (wAnd (wOp (fEq false) (wOp fIx (wVar 0) (wC (.str ("word" : Str)))) (wC (.str ("offered" : Str)))) (wOp (fEq false) (wVar 1) (wTup (wCons (wC (.str ("accept" : Str))) (wCons (wVar 2) (wCons (wVar 7) (wCons (wTup (wCons (wC (.str ("strike" : Str))) (wCons (wVar 2) (wCons (wC (.int 1)) (wCons (wVar 3) wNil))))) wNil)))))))) (wSeq (wSet 6 (wCall φ__law_struck [] (wCons (wVar 0) wNil)))
  (wSeq (wSetI (wOp fIx (wVar 1) (wC (.int 2))) (wVar 6) (wC (.str ("grant" : Str))))
  (wRet (wTup (wCons (wVar 6) (wCons (wTup (wCons (wC (.str ("struck" : Str))) (wCons (wVar 2) (wCons (wTup (wCons (wC (.str ("strike" : Str))) (wCons (wVar 2) (wCons (wC (.int 0)) (wCons (wVar 3) wNil))))) wNil)))) wNil)))))) wNx)
  (wSeq (wIf (wB (wAnd (wOp (fEq false) (wOp fIx (wVar 0) (wC (.str ("word" : Str)))) (wC (.str ("waiting" : Str)))) (wOp (fEq false) (wVar 1) (wTup (wCons (wC (.str ("struck" : Str))) (wCons (wVar 2) (wCons (wTup (wCons (wC (.str ("strike" : Str))) (wCons (wVar 2) (wCons (wC (.int 0)) (wCons (wOp fIx (wOp fIx (wOp fIx (wVar 0) (wC (.str ("may" : Str)))) (wC (.int 0))) (wC (.int 0))) wNil))))) wNil))))))) (wRet (wTup (wCons (wCall φ__law_struck [] (wCons (wVar 0) wNil)) (wCons (wC .non) wNil)))) wNx)
  (wRet (wTup (wCons (wVar 0) (wCons (wC .non) wNil))))))))))
def φ__law_taken : SB.Spec := fun xs S R RE => xs.length = 2 ∧ w__law_taken (startE N__law_taken xs) S ⟨fun _ S' => Rz R .non S', Rz R, fun _ _ => False, fun _ _ => False⟩ (fun c _ S' => RE c S')
theorem k__law_taken (hd : Hd w K mg) {q nm : Str} {dvs : List V} {kws : List (Str × V)} {f : Addr} {fd : FuncData} (Fd : FunD K nm q (defArgs (top 45)) (defBody (top 45)) (defScope (top 45)) dvs kws f fd) : FnOk P w K mg base (L2.CX P w) 2 f fd ["due", "letter"] (spOf K φ__law_taken) :=
  body_ok (N := N__law_taken) (ws := w__law_taken) Fd sc__law_taken (fun cdv A outer s H E F bc =>
  (wss_cons (ws_set (i := 2) sc__law_taken.nd rfl (.inl rfl) (we_ix (u1 bc.room.u65) (we_var (i := 0) rfl (.inl rfl) nd_due nc_due) we_str (fun _ _ => rfl)) rfl (.inl rfl))
  (wss_cons (ws_set (i := 3) sc__law_taken.nd rfl (.inl rfl) (we_ix (u1 bc.room.u65) (we_ix (u1 bc.room.u65) (we_var (i := 0) rfl (.inl rfl) nd_due nc_due) we_str (fun _ _ => rfl)) we_int (fun _ _ => rfl)) rfl (.inl rfl))
  (wss_cons (ws_if (WW.wt (ww_and (t_eq bc.room.u65 (we_ix (u1 bc.room.u65) (we_var (i := 1) rfl (.inl rfl) nd_letter nc_letter) we_int (fun _ _ => rfl)) we_str rfl) (ww_and (t_eq bc.room.u65 (we_ix (u1 bc.room.u65) (we_var (i := 0) rfl (.inl rfl) nd_due nc_due) we_str (fun _ _ => rfl)) we_int rfl) (ww_and1 (t_eq bc.room.u65 (we_ix (u1 bc.room.u65) (we_var (i := 0) rfl (.inl rfl) nd_due nc_due) we_str (fun _ _ => rfl)) we_str rfl))))) (wss_cons (ws_set (i := 4) sc__law_taken.nd rfl (.inl rfl) (we_ix (u1 bc.room.u65) (we_ix (u1 bc.room.u65) (we_var (i := 1) rfl (.inl rfl) nd_letter nc_letter) we_int (fun _ _ => rfl)) we_int (fun _ _ => rfl)) rfl (.inl rfl))
  (wss_cons (ws_set (i := 5) sc__law_taken.nd rfl (.inl rfl) (we_and (e_eq bc.room.u65 (we_sl (own := false) (we_ix (u1 bc.room.u65) (we_var (i := 1) rfl (.inl rfl) nd_letter nc_letter) we_int (fun _ _ => rfl)) .none (.some we_int)) (we_tup (wa_cons we_str (wa_cons (we_var (i := 2) rfl (.inl rfl) nd_pot nc_pot) (wa_cons we_int wa_nil rfl) rfl) rfl)) rfl) (we_one (e_eq bc.room.u65 (we_ix (u1 bc.room.u65) (we_var (i := 4) rfl (.inl rfl) nd_new nc_new) we_int (fun _ _ => rfl)) (we_add (own := false) (we_var (i := 3) rfl (.inl rfl) nd_number nc_number) we_int) rfl))) rfl (.inl rfl))
  (wss_one (ws_if (WW.wt (ww_and (wt_val (we_var (i := 5) rfl (.inl rfl) nd_right nc_right) (fun _ => rfl)) (ww_and (t_eq bc.room.u65 (we_ix (u1 bc.room.u65) (we_var (i := 1) rfl (.inl rfl) nd_letter nc_letter) we_int (fun _ _ => rfl)) (we_var (i := 2) rfl (.inl rfl) nd_pot nc_pot) rfl) (ww_and1 (t_eq bc.room.u65 (we_call ((B__law_deals hd).mono (by decide)) bc.room bc.tk rfl (g__law_deals hd) (wa_cons (we_var (i := 4) rfl (.inl rfl) nd_new nc_new) wa_nil rfl) rfl nd__law_deals) (we_call ((B__law_deals hd).mono (by decide)) bc.room bc.tk rfl (g__law_deals hd) (wa_cons (we_ix (u1 bc.room.u65) (we_var (i := 0) rfl (.inl rfl) nd_due nc_due) we_str (fun _ _ => rfl)) wa_nil rfl) rfl nd__law_deals) rfl))))) (wss_cons (ws_set (i := 6) sc__law_taken.nd rfl (.inl rfl) (b_dict (own := true) rfl rfl (n_dict hd) (wa_cons (we_var (i := 0) rfl (.inl rfl) nd_due nc_due) wa_nil rfl) rfl) rfl (.inl rfl))
  (wss_cons (ws_expr (m_update (we_var (i := 6) rfl (.inl rfl) nd_found nc_found) (wa_cons (we_dict (own := false) (ks := [.inr ("mine" : Str), .inr ("grant" : Str), .inr ("may" : Str), .inr ("word" : Str)]) (.cons (we_var (i := 4) rfl (.inl rfl) nd_new nc_new) (.cons (we_ix (u1 bc.room.u65) (we_var (i := 1) rfl (.inl rfl) nd_letter nc_letter) we_int (fun _ _ => rfl)) (.cons (we_lst (own := false) (wa_cons (we_ix (u1 bc.room.u65) (we_var (i := 0) rfl (.inl rfl) nd_due nc_due) we_str (fun _ _ => rfl)) (wa_cons (we_var (i := 4) rfl (.inl rfl) nd_new nc_new) wa_nil rfl) rfl)) (.cons we_str .nil)))) rfl rfl (by decide) (by decide)) wa_nil rfl) rfl rfl (by decide) rfl) rfl)
  (wss_one (ws_ret (we_tup (wa_cons (we_var (i := 6) rfl (.inl rfl) nd_found nc_found) (wa_cons (we_tup (wa_cons we_str (wa_cons (we_var (i := 2) rfl (.inl rfl) nd_pot nc_pot) (wa_cons (we_tup (wa_cons we_str (wa_cons (we_var (i := 2) rfl (.inl rfl) nd_pot nc_pot) (wa_cons we_int (wa_cons (we_var (i := 4) rfl (.inl rfl) nd_new nc_new) wa_nil rfl) rfl) rfl) rfl)) (wa_cons (we_tup (wa_cons we_str (wa_cons (we_var (i := 2) rfl (.inl rfl) nd_pot nc_pot) (wa_cons we_int (wa_cons (we_var (i := 3) rfl (.inl rfl) nd_number nc_number) wa_nil rfl) rfl) rfl) rfl)) wa_nil rfl) rfl) rfl) rfl)) wa_nil rfl) rfl)))))) wss_nil)))) wss_nil)
  (wss_cons (ws_set (i := 7) sc__law_taken.nd rfl (.inl rfl) (we_tup (wa_cons we_str (wa_cons (we_var (i := 2) rfl (.inl rfl) nd_pot nc_pot) (wa_cons we_int (wa_cons (we_ix (u1 bc.room.u65) (we_ix (u1 bc.room.u65) (we_var (i := 0) rfl (.inl rfl) nd_due nc_due) we_str (fun _ _ => rfl)) (we_neg we_int) (fun _ _ => rfl)) wa_nil rfl) rfl) rfl) rfl)) rfl (.inl rfl))
  (wss_cons (ws_if (WW.wt (ww_and (t_eq bc.room.u65 (we_ix (u1 bc.room.u65) (we_var (i := 0) rfl (.inl rfl) nd_due nc_due) we_str (fun _ _ => rfl)) we_str rfl) (ww_and1 (t_eq bc.room.u65 (we_var (i := 1) rfl (.inl rfl) nd_letter nc_letter) (we_tup (wa_cons we_str (wa_cons (we_var (i := 2) rfl (.inl rfl) nd_pot nc_pot) (wa_cons (we_var (i := 7) rfl (.inl rfl) nd_agree nc_agree) (wa_cons (we_tup (wa_cons we_str (wa_cons (we_var (i := 2) rfl (.inl rfl) nd_pot nc_pot) (wa_cons we_int (wa_cons (we_var (i := 3) rfl (.inl rfl) nd_number nc_number) wa_nil rfl) rfl) rfl) rfl)) wa_nil rfl) rfl) rfl) rfl)) rfl)))) (wss_cons (ws_set (i := 6) sc__law_taken.nd rfl (.inl rfl) (we_call ((B__law_struck hd).mono (by decide)) bc.room bc.tk rfl (g__law_struck hd) (wa_cons (we_var (i := 0) rfl (.inl rfl) nd_due nc_due) wa_nil rfl) rfl nd__law_struck) rfl (.inl rfl))
  (wss_cons (ws_setI (u1 bc.room.u65) (we_ix (u1 bc.room.u65) (we_var (i := 1) rfl (.inl rfl) nd_letter nc_letter) we_int (fun _ _ => rfl)) (we_var (i := 6) rfl (.inl rfl) nd_found nc_found) we_str (fun _ => rfl) rfl rfl rfl)
  (wss_one (ws_ret (we_tup (wa_cons (we_var (i := 6) rfl (.inl rfl) nd_found nc_found) (wa_cons (we_tup (wa_cons we_str (wa_cons (we_var (i := 2) rfl (.inl rfl) nd_pot nc_pot) (wa_cons (we_tup (wa_cons we_str (wa_cons (we_var (i := 2) rfl (.inl rfl) nd_pot nc_pot) (wa_cons we_int (wa_cons (we_var (i := 3) rfl (.inl rfl) nd_number nc_number) wa_nil rfl) rfl) rfl) rfl)) wa_nil rfl) rfl) rfl)) wa_nil rfl) rfl)))))) wss_nil)
  (wss_cons (ws_if (WW.wt (ww_and (t_eq bc.room.u65 (we_ix (u1 bc.room.u65) (we_var (i := 0) rfl (.inl rfl) nd_due nc_due) we_str (fun _ _ => rfl)) we_str rfl) (ww_and1 (t_eq bc.room.u65 (we_var (i := 1) rfl (.inl rfl) nd_letter nc_letter) (we_tup (wa_cons we_str (wa_cons (we_var (i := 2) rfl (.inl rfl) nd_pot nc_pot) (wa_cons (we_tup (wa_cons we_str (wa_cons (we_var (i := 2) rfl (.inl rfl) nd_pot nc_pot) (wa_cons we_int (wa_cons (we_ix (u1 bc.room.u65) (we_ix (u1 bc.room.u65) (we_ix (u1 bc.room.u65) (we_var (i := 0) rfl (.inl rfl) nd_due nc_due) we_str (fun _ _ => rfl)) we_int (fun _ _ => rfl)) we_int (fun _ _ => rfl)) wa_nil rfl) rfl) rfl) rfl)) wa_nil rfl) rfl) rfl)) rfl)))) (wss_one (ws_ret (we_tup (wa_cons (we_call ((B__law_struck hd).mono (by decide)) bc.room bc.tk rfl (g__law_struck hd) (wa_cons (we_var (i := 0) rfl (.inl rfl) nd_due nc_due) wa_nil rfl) rfl nd__law_struck) (wa_cons we_non wa_nil rfl) rfl)))) wss_nil)
  (wss_one (ws_ret (we_tup (wa_cons (we_var (i := 0) rfl (.inl rfl) nd_due nc_due) (wa_cons we_non wa_nil rfl) rfl))))))))))) (fun _ _ _ _ h => h.1) (fun _ _ _ _ h => h.2)
theorem B__law_taken (hd : Hd w K mg) : FnBd P w K mg base 2 (He.ga K "_law_taken") 2 [] φ__law_taken := by
  obtain ⟨fd, Fd⟩ := hd.c.t.d.def_ 24 (d := mkDD (("_law_taken" : Str), none) "_law_taken" "_law_taken" (top 45) []) rfl
  exact fn_bd _ Fd (k__law_taken hd Fd) (FunD.bindsN Fd fun _ _ _ _ _ _ us hl => match us, hl with | [_, _], _ => rfl)
/-! _law_written -/
def N__law_written : List Str := ["well", "pot", "whole", "side", "agree", "strike", "some"]
theorem sc__law_written : FnScope N__law_written ["well", "pot", "whole"] (defScope (top 46)) := ⟨rfl, rfl, rfl, by decide +kernel, rfl, by decide +kernel, by decide +kernel⟩
def w__law_written : WpS := (wSeq (wSet 1 (wOp fIx (wLst false (wCons (wVar 1) (wCons (wVar 1) (wCons (wVar 1) (wCons (wOp fMod (wOp (fAdd false) (wVar 1) (wC (.int 1))) (wC (.int 3))) wNil))))) (wCall φ__law_draw [] (wCons (wVar 0) (wCons (wC (.int 4)) wNil)))))
  (wSeq (wSet 3 (wCall φ__law_draw [] (wCons (wVar 0) (wCons (wC (.int 2)) wNil))))
  (wSeq (wSet 4 (wTup (wCons (wC (.str ("agree" : Str))) (wCons (wVar 1) (wCons (wVar 3) (wCons (wCall φ__law_deal [] (wCons (wVar 0) (wCons (wCall φ__law_draw [] (wCons (wVar 0) (wCons (wC (.int 5)) wNil))) (wCons (wOp (fAdd false) (wVar 2) (wOp fDiv (wCall φ__law_draw [] (wCons (wVar 0) (wCons (wC (.int 5)) wNil))) (wC (.int 4)))) wNil)))) wNil))))))
  (wSeq (wSet 5 (wTup (wCons (wC (.str ("strike" : Str))) (wCons (wVar 1) (wCons (wCall φ__law_draw [] (wCons (wVar 0) (wCons (wC (.int 2)) wNil))) (wCons (wCall φ__law_draw [] (wCons (wVar 0) (wCons (wC (.int 5)) wNil))) wNil))))))
  (wSeq (wSet 6 (wLst false (wCons (wTup (wCons (wC (.str ("offer" : Str))) (wCons (wVar 1) (wCons (wVar 4) wNil)))) (wCons (wTup (wCons (wC (.str ("accept" : Str))) (wCons (wVar 1) (wCons (wVar 4) (wCons (wVar 5) wNil))))) (wCons (wTup (wCons (wC (.str ("struck" : Str))) (wCons (wVar 1) (wCons (wVar 5) wNil)))) (wCons (wTup (wCons (wC (.str ("offer" : Str))) (wCons (wVar 1) (wCons (wVar 4) wNil)))) wNil))))))
  (wRet (wOp fIx (wOp (fAdd false) (wVar 6) (wLst false (wCons (wTup (wCons (wC (.str ("ask" : Str))) (wCons (wVar 1) (wCons (wOp fIx (wOp fIx (wVar 4) (wC (.int 3))) (wC (.int 1))) (wCons (wOp fIx (wOp fIx (wVar 4) (wC (.int 3))) (wC (.int 2))) wNil))))) (wCons (wTup (wCons (wC (.str ("word" : Str))) (wCons (wVar 1) (wCons (wC (.int 8)) wNil)))) wNil)))) (wCall φ__law_draw [] (wCons (wVar 0) (wCons (wC (.int 6)) wNil))))))))))
def φ__law_written : SB.Spec := fun xs S R RE => xs.length = 3 ∧ w__law_written (startE N__law_written xs) S ⟨fun _ S' => Rz R .non S', Rz R, fun _ _ => False, fun _ _ => False⟩ (fun c _ S' => RE c S')
theorem k__law_written (hd : Hd w K mg) {q nm : Str} {dvs : List V} {kws : List (Str × V)} {f : Addr} {fd : FuncData} (Fd : FunD K nm q (defArgs (top 46)) (defBody (top 46)) (defScope (top 46)) dvs kws f fd) : FnOk P w K mg base (L2.CX P w) 3 f fd ["well", "pot", "whole"] (spOf K φ__law_written) :=
  body_ok (N := N__law_written) (ws := w__law_written) Fd sc__law_written (fun cdv A outer s H E F bc =>
  (wss_cons (ws_set (i := 1) sc__law_written.nd rfl (.inl rfl) (we_ix (u1 bc.room.u65) (we_lst (own := false) (wa_cons (we_var (i := 1) rfl (.inl rfl) nd_pot nc_pot) (wa_cons (we_var (i := 1) rfl (.inl rfl) nd_pot nc_pot) (wa_cons (we_var (i := 1) rfl (.inl rfl) nd_pot nc_pot) (wa_cons (we_mod (we_add (own := false) (we_var (i := 1) rfl (.inl rfl) nd_pot nc_pot) we_int) we_int) wa_nil rfl) rfl) rfl) rfl)) (we_call ((B__law_draw hd).mono (by decide)) bc.room bc.tk rfl (g__law_draw hd) (wa_cons (we_var (i := 0) rfl (.inl rfl) nd_well nc_well) (wa_cons we_int wa_nil rfl) rfl) rfl nd__law_draw) (fun _ _ => rfl)) rfl (.inl rfl))
  (wss_cons (ws_set (i := 3) sc__law_written.nd rfl (.inl rfl) (we_call ((B__law_draw hd).mono (by decide)) bc.room bc.tk rfl (g__law_draw hd) (wa_cons (we_var (i := 0) rfl (.inl rfl) nd_well nc_well) (wa_cons we_int wa_nil rfl) rfl) rfl nd__law_draw) rfl (.inl rfl))
  (wss_cons (ws_set (i := 4) sc__law_written.nd rfl (.inl rfl) (we_tup (wa_cons we_str (wa_cons (we_var (i := 1) rfl (.inl rfl) nd_pot nc_pot) (wa_cons (we_var (i := 3) rfl (.inl rfl) nd_side nc_side) (wa_cons (we_call ((B__law_deal hd).mono (by decide)) bc.room bc.tk rfl (g__law_deal hd) (wa_cons (we_var (i := 0) rfl (.inl rfl) nd_well nc_well) (wa_cons (we_call ((B__law_draw hd).mono (by decide)) bc.room bc.tk rfl (g__law_draw hd) (wa_cons (we_var (i := 0) rfl (.inl rfl) nd_well nc_well) (wa_cons we_int wa_nil rfl) rfl) rfl nd__law_draw) (wa_cons (we_add (own := false) (we_var (i := 2) rfl (.inl rfl) nd_whole nc_whole) (we_div (we_call ((B__law_draw hd).mono (by decide)) bc.room bc.tk rfl (g__law_draw hd) (wa_cons (we_var (i := 0) rfl (.inl rfl) nd_well nc_well) (wa_cons we_int wa_nil rfl) rfl) rfl nd__law_draw) we_int)) wa_nil rfl) rfl) rfl) rfl nd__law_deal) wa_nil rfl) rfl) rfl) rfl)) rfl (.inl rfl))
  (wss_cons (ws_set (i := 5) sc__law_written.nd rfl (.inl rfl) (we_tup (wa_cons we_str (wa_cons (we_var (i := 1) rfl (.inl rfl) nd_pot nc_pot) (wa_cons (we_call ((B__law_draw hd).mono (by decide)) bc.room bc.tk rfl (g__law_draw hd) (wa_cons (we_var (i := 0) rfl (.inl rfl) nd_well nc_well) (wa_cons we_int wa_nil rfl) rfl) rfl nd__law_draw) (wa_cons (we_call ((B__law_draw hd).mono (by decide)) bc.room bc.tk rfl (g__law_draw hd) (wa_cons (we_var (i := 0) rfl (.inl rfl) nd_well nc_well) (wa_cons we_int wa_nil rfl) rfl) rfl nd__law_draw) wa_nil rfl) rfl) rfl) rfl)) rfl (.inl rfl))
  (wss_cons (ws_set (i := 6) sc__law_written.nd rfl (.inl rfl) (we_lst (own := false) (wa_cons (we_tup (wa_cons we_str (wa_cons (we_var (i := 1) rfl (.inl rfl) nd_pot nc_pot) (wa_cons (we_var (i := 4) rfl (.inl rfl) nd_agree nc_agree) wa_nil rfl) rfl) rfl)) (wa_cons (we_tup (wa_cons we_str (wa_cons (we_var (i := 1) rfl (.inl rfl) nd_pot nc_pot) (wa_cons (we_var (i := 4) rfl (.inl rfl) nd_agree nc_agree) (wa_cons (we_var (i := 5) rfl (.inl rfl) nd_strike nc_strike) wa_nil rfl) rfl) rfl) rfl)) (wa_cons (we_tup (wa_cons we_str (wa_cons (we_var (i := 1) rfl (.inl rfl) nd_pot nc_pot) (wa_cons (we_var (i := 5) rfl (.inl rfl) nd_strike nc_strike) wa_nil rfl) rfl) rfl)) (wa_cons (we_tup (wa_cons we_str (wa_cons (we_var (i := 1) rfl (.inl rfl) nd_pot nc_pot) (wa_cons (we_var (i := 4) rfl (.inl rfl) nd_agree nc_agree) wa_nil rfl) rfl) rfl)) wa_nil rfl) rfl) rfl) rfl)) rfl (.inl rfl))
  (wss_one (ws_ret (we_ix (u1 bc.room.u65) (we_add (own := false) (we_var (i := 6) rfl (.inl rfl) nd_some nc_some) (we_lst (own := false) (wa_cons (we_tup (wa_cons we_str (wa_cons (we_var (i := 1) rfl (.inl rfl) nd_pot nc_pot) (wa_cons (we_ix (u1 bc.room.u65) (we_ix (u1 bc.room.u65) (we_var (i := 4) rfl (.inl rfl) nd_agree nc_agree) we_int (fun _ _ => rfl)) we_int (fun _ _ => rfl)) (wa_cons (we_ix (u1 bc.room.u65) (we_ix (u1 bc.room.u65) (we_var (i := 4) rfl (.inl rfl) nd_agree nc_agree) we_int (fun _ _ => rfl)) we_int (fun _ _ => rfl)) wa_nil rfl) rfl) rfl) rfl)) (wa_cons (we_tup (wa_cons we_str (wa_cons (we_var (i := 1) rfl (.inl rfl) nd_pot nc_pot) (wa_cons we_int wa_nil rfl) rfl) rfl)) wa_nil rfl) rfl))) (we_call ((B__law_draw hd).mono (by decide)) bc.room bc.tk rfl (g__law_draw hd) (wa_cons (we_var (i := 0) rfl (.inl rfl) nd_well nc_well) (wa_cons we_int wa_nil rfl) rfl) rfl nd__law_draw) (fun _ _ => rfl)))))))))) (fun _ _ _ _ h => h.1) (fun _ _ _ _ h => h.2)
theorem B__law_written (hd : Hd w K mg) : FnBd P w K mg base 3 (He.ga K "_law_written") 3 [] φ__law_written := by
  obtain ⟨fd, Fd⟩ := hd.c.t.d.def_ 25 (d := mkDD (("_law_written" : Str), none) "_law_written" "_law_written" (top 46) []) rfl
  exact fn_bd _ Fd (k__law_written hd Fd) (FunD.bindsN Fd fun _ _ _ _ _ _ us hl => match us, hl with | [_, _, _], _ => rfl)
/-! _law_same -/
def N__law_same : List Str := ["account", "due", "found"]
theorem sc__law_same : FnScope N__law_same ["account", "due"] (defScope (top 47)) := ⟨rfl, rfl, rfl, by decide +kernel, rfl, by decide +kernel, by decide +kernel⟩
def w__law_same : WpS := (wSeq (wIf (wB (wNot (wIsO owncs ownsub "Account" (wVar 0)))) (wRet (wC (.bl false))) wNx)
  (wSeq (wSet 2 (wTup (wCons (wFld "pot" (wVar 0)) (wCons (wFld "side" (wVar 0)) (wCons (wFld "mine" (wVar 0)) (wCons (wFld "grant" (wVar 0)) (wCons (wFld "may" (wVar 0)) (wCons (wFld "strikes" (wVar 0)) (wCons (wMeth "word" cs_word (wVar 0) wNil) wNil)))))))))
  (wRet (wOp (fEq false) (wVar 2) (wTup (wCons (wOp fIx (wVar 1) (wC (.str ("pot" : Str)))) (wCons (wOp fIx (wVar 1) (wC (.str ("side" : Str)))) (wCons (wOp fIx (wVar 1) (wC (.str ("mine" : Str)))) (wCons (wOp fIx (wVar 1) (wC (.str ("grant" : Str)))) (wCons (wOp fIx (wVar 1) (wC (.str ("may" : Str)))) (wCons (wOp fIx (wVar 1) (wC (.str ("strikes" : Str)))) (wCons (wOp fIx (wVar 1) (wC (.str ("word" : Str)))) wNil))))))))))))
def φ__law_same : SB.Spec := fun xs S R RE => xs.length = 2 ∧ w__law_same (startE N__law_same xs) S ⟨fun _ S' => Rz R .non S', Rz R, fun _ _ => False, fun _ _ => False⟩ (fun c _ S' => RE c S')
theorem k__law_same (hd : Hd w K mg) {q nm : Str} {dvs : List V} {kws : List (Str × V)} {f : Addr} {fd : FuncData} (Fd : FunD K nm q (defArgs (top 47)) (defBody (top 47)) (defScope (top 47)) dvs kws f fd) : FnOk P w K mg base (L2.CX P w) 2 f fd ["account", "due"] (spOf K φ__law_same) :=
  body_ok (N := N__law_same) (ws := w__law_same) Fd sc__law_same (fun cdv A outer s H E F bc =>
  (wss_cons (ws_if (wt_not (wt_val (we_isO (C := "Account") (clk hd) (by decide) (we_var (i := 0) rfl (.inl rfl) nd_account nc_account) rfl rfl (n_isinstance hd) rfl (g_Account hd) nd_Account) (fun _ => rfl))) (wss_one (ws_ret we_bl)) wss_nil)
  (wss_cons (ws_set (i := 2) sc__law_same.nd rfl (.inl rfl) (we_tup (wa_cons (we_fld (f := "pot") (we_var (i := 0) rfl (.inl rfl) nd_account nc_account) rfl) (wa_cons (we_fld (f := "side") (we_var (i := 0) rfl (.inl rfl) nd_account nc_account) rfl) (wa_cons (we_fld (f := "mine") (we_var (i := 0) rfl (.inl rfl) nd_account nc_account) rfl) (wa_cons (we_fld (f := "grant") (we_var (i := 0) rfl (.inl rfl) nd_account nc_account) rfl) (wa_cons (we_fld (f := "may") (we_var (i := 0) rfl (.inl rfl) nd_account nc_account) rfl) (wa_cons (we_fld (f := "strikes") (we_var (i := 0) rfl (.inl rfl) nd_account nc_account) rfl) (wa_cons (we_meth0 (m := "word") (cs := cs_word) (mt_word hd (by decide)) bc.room bc.tk (we_var (i := 0) rfl (.inl rfl) nd_account nc_account) rfl rfl) wa_nil rfl) rfl) rfl) rfl) rfl) rfl) rfl)) rfl (.inl rfl))
  (wss_one (ws_ret (e_eq bc.room.u65 (we_var (i := 2) rfl (.inl rfl) nd_found nc_found) (we_tup (wa_cons (we_ix (u1 bc.room.u65) (we_var (i := 1) rfl (.inl rfl) nd_due nc_due) we_str (fun _ _ => rfl)) (wa_cons (we_ix (u1 bc.room.u65) (we_var (i := 1) rfl (.inl rfl) nd_due nc_due) we_str (fun _ _ => rfl)) (wa_cons (we_ix (u1 bc.room.u65) (we_var (i := 1) rfl (.inl rfl) nd_due nc_due) we_str (fun _ _ => rfl)) (wa_cons (we_ix (u1 bc.room.u65) (we_var (i := 1) rfl (.inl rfl) nd_due nc_due) we_str (fun _ _ => rfl)) (wa_cons (we_ix (u1 bc.room.u65) (we_var (i := 1) rfl (.inl rfl) nd_due nc_due) we_str (fun _ _ => rfl)) (wa_cons (we_ix (u1 bc.room.u65) (we_var (i := 1) rfl (.inl rfl) nd_due nc_due) we_str (fun _ _ => rfl)) (wa_cons (we_ix (u1 bc.room.u65) (we_var (i := 1) rfl (.inl rfl) nd_due nc_due) we_str (fun _ _ => rfl)) wa_nil rfl) rfl) rfl) rfl) rfl) rfl) rfl)) rfl)))))) (fun _ _ _ _ h => h.1) (fun _ _ _ _ h => h.2)
theorem B__law_same (hd : Hd w K mg) : FnBd P w K mg base 2 (He.ga K "_law_same") 2 [] φ__law_same := by
  obtain ⟨fd, Fd⟩ := hd.c.t.d.def_ 26 (d := mkDD (("_law_same" : Str), none) "_law_same" "_law_same" (top 47) []) rfl
  exact fn_bd _ Fd (k__law_same hd Fd) (FunD.bindsN Fd fun _ _ _ _ _ _ us hl => match us, hl with | [_, _], _ => rfl)
/-! Account_fits -/
def N_Account_fits : List Str := ["self", "letter"]
theorem sc_Account_fits : FnScope N_Account_fits ["self", "letter"] (defScope (inClass (top 29) 2)) := ⟨rfl, rfl, rfl, by decide +kernel, rfl, by decide +kernel, by decide +kernel⟩
def w_Account_fits : WpS := (wRet (wC (.bl false)))
def φ_Account_fits : SB.Spec := fun xs S R RE => xs.length = 2 ∧ w_Account_fits (startE N_Account_fits xs) S ⟨fun _ S' => Rz R .non S', Rz R, fun _ _ => False, fun _ _ => False⟩ (fun c _ S' => RE c S')
theorem k_Account_fits (hd : Hd w K mg) {q nm : Str} {dvs : List V} {kws : List (Str × V)} {f : Addr} {fd : FuncData} (Fd : FunD K nm q (defArgs (inClass (top 29) 2)) (defBody (inClass (top 29) 2)) (defScope (inClass (top 29) 2)) dvs kws f fd) : FnOk P w K mg base (L2.CX P w) 1 f fd ["self", "letter"] (spOf K φ_Account_fits) :=
  body_ok (N := N_Account_fits) (ws := w_Account_fits) Fd sc_Account_fits (fun cdv A outer s H E F bc =>
  (wss_one (ws_ret we_bl))) (fun _ _ _ _ h => h.1) (fun _ _ _ _ h => h.2)
theorem B_Account_fits (hd : Hd w K mg) {q nm : Str} {f : Addr} (Fd : ∃ fd, FunD K nm q (defArgs (inClass (top 29) 2)) (defBody (inClass (top 29) 2)) (defScope (inClass (top 29) 2)) [] [] f fd) : FnBd P w K mg base 1 f 2 [] φ_Account_fits := by
  obtain ⟨fd, Fd⟩ := Fd
  exact fn_bd _ Fd (k_Account_fits hd Fd) (FunD.bindsN Fd fun _ _ _ _ _ _ us hl => match us, hl with | [_, _], _ => rfl)
/-! Account_agrees -/
def N_Account_agrees : List Str := ["self", "thing", "side"]
theorem sc_Account_agrees : FnScope N_Account_agrees ["self", "thing", "side"] (defScope (inClass (top 29) 5)) := ⟨rfl, rfl, rfl, by decide +kernel, rfl, by decide +kernel, by decide +kernel⟩
def w_Account_agrees : WpS := (wSeq (wIf (wB (wOr (wOp (fEq true) (wOp fIx (wVar 1) (wC (.int 1))) (wFld "pot" (wVar 0))) (wOr (wOp (fEq true) (wOp fIx (wVar 1) (wC (.int 2))) (wVar 2)) (wOp (fEq true) (wOp fIx (wOp fIx (wVar 1) (wC (.int 3))) (wC (.int 0))) (wOp (fAdd false) (wOp fIx (wFld "mine" (wVar 0)) (wC (.int 0))) (wC (.int 1))))))) (wRet (wC (.bl false))) wNx)
  (wRet (wOp (fEq false) (wCall φ_deals [] (wCons (wOp fIx (wVar 1) (wC (.int 3))) wNil)) (wFld "dealt" (wVar 0)))))
def φ_Account_agrees : SB.Spec := fun xs S R RE => xs.length = 3 ∧ w_Account_agrees (startE N_Account_agrees xs) S ⟨fun _ S' => Rz R .non S', Rz R, fun _ _ => False, fun _ _ => False⟩ (fun c _ S' => RE c S')
theorem k_Account_agrees (hd : Hd w K mg) {q nm : Str} {dvs : List V} {kws : List (Str × V)} {f : Addr} {fd : FuncData} (Fd : FunD K nm q (defArgs (inClass (top 29) 5)) (defBody (inClass (top 29) 5)) (defScope (inClass (top 29) 5)) dvs kws f fd) : FnOk P w K mg base (L2.CX P w) 2 f fd ["self", "thing", "side"] (spOf K φ_Account_agrees) :=
  body_ok (N := N_Account_agrees) (ws := w_Account_agrees) Fd sc_Account_agrees (fun cdv A outer s H E F bc =>
  (wss_cons (ws_if (WW.wt (ww_or (t_ne bc.room.u65 (we_ix (u1 bc.room.u65) (we_var (i := 1) rfl (.inl rfl) nd_thing nc_thing) we_int (fun _ _ => rfl)) (we_fld (f := "pot") (we_var (i := 0) rfl (.inl rfl) nd_self nc_self) rfl) rfl) (ww_or (t_ne bc.room.u65 (we_ix (u1 bc.room.u65) (we_var (i := 1) rfl (.inl rfl) nd_thing nc_thing) we_int (fun _ _ => rfl)) (we_var (i := 2) rfl (.inl rfl) nd_side nc_side) rfl) (ww_or1 (t_ne bc.room.u65 (we_ix (u1 bc.room.u65) (we_ix (u1 bc.room.u65) (we_var (i := 1) rfl (.inl rfl) nd_thing nc_thing) we_int (fun _ _ => rfl)) we_int (fun _ _ => rfl)) (we_add (own := false) (we_ix (u1 bc.room.u65) (we_fld (f := "mine") (we_var (i := 0) rfl (.inl rfl) nd_self nc_self) rfl) we_int (fun _ _ => rfl)) we_int) rfl))))) (wss_one (ws_ret we_bl)) wss_nil)
  (wss_one (ws_ret (e_eq bc.room.u65 (we_call ((B_deals hd).mono (by decide)) bc.room bc.tk rfl (g_deals hd) (wa_cons (we_ix (u1 bc.room.u65) (we_var (i := 1) rfl (.inl rfl) nd_thing nc_thing) we_int (fun _ _ => rfl)) wa_nil rfl) rfl nd_deals) (we_fld (f := "dealt") (we_var (i := 0) rfl (.inl rfl) nd_self nc_self) rfl) rfl))))) (fun _ _ _ _ h => h.1) (fun _ _ _ _ h => h.2)
theorem B_Account_agrees (hd : Hd w K mg) {q nm : Str} {f : Addr} (Fd : ∃ fd, FunD K nm q (defArgs (inClass (top 29) 5)) (defBody (inClass (top 29) 5)) (defScope (inClass (top 29) 5)) [] [] f fd) : FnBd P w K mg base 2 f 3 [] φ_Account_agrees := by
  obtain ⟨fd, Fd⟩ := Fd
  exact fn_bd _ Fd (k_Account_agrees hd Fd) (FunD.bindsN Fd fun _ _ _ _ _ _ us hl => match us, hl with | [_, _, _], _ => rfl)
def cs_agrees : List (String × Nat × List D × SB.Spec) := [("Account", 3, [], φ_Account_agrees), ("Calm", 3, [], φ_Account_agrees), ("Offered", 3, [], φ_Account_agrees), ("Waiting", 3, [], φ_Account_agrees)]
theorem mt_agrees {k : Nat} (hd : Hd w K mg) (hk : 2 ≤ k) : ∀ c nd, cs_agrees.lookup c = some nd → MtBd P w K mg base k (clA K c) "agrees" nd.1 nd.2.1 nd.2.2 := (mts_cons ⟨_, me_Account_agrees hd, (B_Account_agrees hd (hd.c.t.d.def_ 35 rfl)).mono (Nat.le_trans (by decide) hk)⟩ (mts_cons ⟨_, me_Calm_agrees hd, (B_Account_agrees hd (hd.c.t.d.def_ 41 rfl)).mono (Nat.le_trans (by decide) hk)⟩ (mts_cons ⟨_, me_Offered_agrees hd, (B_Account_agrees hd (hd.c.t.d.def_ 47 rfl)).mono (Nat.le_trans (by decide) hk)⟩ (mts_cons ⟨_, me_Waiting_agrees hd, (B_Account_agrees hd (hd.c.t.d.def_ 53 rfl)).mono (Nat.le_trans (by decide) hk)⟩ mts_nil))))
/-! Calm_fits -/
def N_Calm_fits : List Str := ["self", "letter"]
theorem sc_Calm_fits : FnScope N_Calm_fits ["self", "letter"] (defScope (inClass (top 30) 1)) := ⟨rfl, rfl, rfl, by decide +kernel, rfl, by decide +kernel, by decide +kernel⟩
def w_Calm_fits : WpS := (wRet (wAnd (wOp (fEq false) (wFld "side" (wVar 0)) (wC (.int 1))) (wAnd (wOp (fEq false) (wOp fIx (wVar 1) (wC (.int 0))) (wC (.str ("offer" : Str)))) (wMeth "agrees" cs_agrees (wVar 0) (wCons (wOp fIx (wVar 1) (wC (.int 2))) (wCons (wC (.int 0)) wNil))))))
def φ_Calm_fits : SB.Spec := fun xs S R RE => xs.length = 2 ∧ w_Calm_fits (startE N_Calm_fits xs) S ⟨fun _ S' => Rz R .non S', Rz R, fun _ _ => False, fun _ _ => False⟩ (fun c _ S' => RE c S')
theorem k_Calm_fits (hd : Hd w K mg) {q nm : Str} {dvs : List V} {kws : List (Str × V)} {f : Addr} {fd : FuncData} (Fd : FunD K nm q (defArgs (inClass (top 30) 1)) (defBody (inClass (top 30) 1)) (defScope (inClass (top 30) 1)) dvs kws f fd) : FnOk P w K mg base (L2.CX P w) 3 f fd ["self", "letter"] (spOf K φ_Calm_fits) :=
  body_ok (N := N_Calm_fits) (ws := w_Calm_fits) Fd sc_Calm_fits (fun cdv A outer s H E F bc =>
  (wss_one (ws_ret (we_and (e_eq bc.room.u65 (we_fld (f := "side") (we_var (i := 0) rfl (.inl rfl) nd_self nc_self) rfl) we_int rfl) (we_and (e_eq bc.room.u65 (we_ix (u1 bc.room.u65) (we_var (i := 1) rfl (.inl rfl) nd_letter nc_letter) we_int (fun _ _ => rfl)) we_str rfl) (we_one (we_meth (m := "agrees") (cs := cs_agrees) (mt_agrees hd (by decide)) bc.room bc.tk (we_var (i := 0) rfl (.inl rfl) nd_self nc_self) (wa_cons (we_ix (u1 bc.room.u65) (we_var (i := 1) rfl (.inl rfl) nd_letter nc_letter) we_int (fun _ _ => rfl)) (wa_cons we_int wa_nil rfl) rfl) rfl rfl (by decide) rfl))))))) (fun _ _ _ _ h => h.1) (fun _ _ _ _ h => h.2)
theorem B_Calm_fits (hd : Hd w K mg) {q nm : Str} {f : Addr} (Fd : ∃ fd, FunD K nm q (defArgs (inClass (top 30) 1)) (defBody (inClass (top 30) 1)) (defScope (inClass (top 30) 1)) [] [] f fd) : FnBd P w K mg base 3 f 2 [] φ_Calm_fits := by
  obtain ⟨fd, Fd⟩ := Fd
  exact fn_bd _ Fd (k_Calm_fits hd Fd) (FunD.bindsN Fd fun _ _ _ _ _ _ us hl => match us, hl with | [_, _], _ => rfl)
/-! Offered_fits -/
def N_Offered_fits : List Str := ["self", "letter"]
theorem sc_Offered_fits : FnScope N_Offered_fits ["self", "letter"] (defScope (inClass (top 31) 1)) := ⟨rfl, rfl, rfl, by decide +kernel, rfl, by decide +kernel, by decide +kernel⟩
def w_Offered_fits : WpS := (wSeq (wIf (wB (wOr (wOp (fEq true) (wOp fIx (wVar 1) (wC (.int 0))) (wC (.str ("accept" : Str)))) (wOp (fEq true) (wOp fIx (wVar 1) (wC (.int 2))) (wTup (wCons (wC (.str ("agree" : Str))) (wCons (wFld "pot" (wVar 0)) (wCons (wC (.int 1)) (wCons (wOp fIx (wFld "may" (wVar 0)) (wC (.int 1))) wNil)))))))) (wRet (wC (.bl false))) wNx)
  (wRet (wOp (fEq false) (wOp fIx (wVar 1) (wC (.int 3))) (wTup (wCons (wC (.str ("strike" : Str))) (wCons (wFld "pot" (wVar 0)) (wCons (wC (.int 1)) (wCons (wOp fIx (wFld "mine" (wVar 0)) (wC (.int 0))) wNil))))))))
def φ_Offered_fits : SB.Spec := fun xs S R RE => xs.length = 2 ∧ w_Offered_fits (startE N_Offered_fits xs) S ⟨fun _ S' => Rz R .non S', Rz R, fun _ _ => False, fun _ _ => False⟩ (fun c _ S' => RE c S')
theorem k_Offered_fits (hd : Hd w K mg) {q nm : Str} {dvs : List V} {kws : List (Str × V)} {f : Addr} {fd : FuncData} (Fd : FunD K nm q (defArgs (inClass (top 31) 1)) (defBody (inClass (top 31) 1)) (defScope (inClass (top 31) 1)) dvs kws f fd) : FnOk P w K mg base (L2.CX P w) 1 f fd ["self", "letter"] (spOf K φ_Offered_fits) :=
  body_ok (N := N_Offered_fits) (ws := w_Offered_fits) Fd sc_Offered_fits (fun cdv A outer s H E F bc =>
  (wss_cons (ws_if (WW.wt (ww_or (t_ne bc.room.u65 (we_ix (u1 bc.room.u65) (we_var (i := 1) rfl (.inl rfl) nd_letter nc_letter) we_int (fun _ _ => rfl)) we_str rfl) (ww_or1 (t_ne bc.room.u65 (we_ix (u1 bc.room.u65) (we_var (i := 1) rfl (.inl rfl) nd_letter nc_letter) we_int (fun _ _ => rfl)) (we_tup (wa_cons we_str (wa_cons (we_fld (f := "pot") (we_var (i := 0) rfl (.inl rfl) nd_self nc_self) rfl) (wa_cons we_int (wa_cons (we_ix (u1 bc.room.u65) (we_fld (f := "may") (we_var (i := 0) rfl (.inl rfl) nd_self nc_self) rfl) we_int (fun _ _ => rfl)) wa_nil rfl) rfl) rfl) rfl)) rfl)))) (wss_one (ws_ret we_bl)) wss_nil)
  (wss_one (ws_ret (e_eq bc.room.u65 (we_ix (u1 bc.room.u65) (we_var (i := 1) rfl (.inl rfl) nd_letter nc_letter) we_int (fun _ _ => rfl)) (we_tup (wa_cons we_str (wa_cons (we_fld (f := "pot") (we_var (i := 0) rfl (.inl rfl) nd_self nc_self) rfl) (wa_cons we_int (wa_cons (we_ix (u1 bc.room.u65) (we_fld (f := "mine") (we_var (i := 0) rfl (.inl rfl) nd_self nc_self) rfl) we_int (fun _ _ => rfl)) wa_nil rfl) rfl) rfl) rfl)) rfl))))) (fun _ _ _ _ h => h.1) (fun _ _ _ _ h => h.2)
theorem B_Offered_fits (hd : Hd w K mg) {q nm : Str} {f : Addr} (Fd : ∃ fd, FunD K nm q (defArgs (inClass (top 31) 1)) (defBody (inClass (top 31) 1)) (defScope (inClass (top 31) 1)) [] [] f fd) : FnBd P w K mg base 1 f 2 [] φ_Offered_fits := by
  obtain ⟨fd, Fd⟩ := Fd
  exact fn_bd _ Fd (k_Offered_fits hd Fd) (FunD.bindsN Fd fun _ _ _ _ _ _ us hl => match us, hl with | [_, _], _ => rfl)
/-! Waiting_fits -/
def N_Waiting_fits : List Str := ["self", "letter"]
theorem sc_Waiting_fits : FnScope N_Waiting_fits ["self", "letter"] (defScope (inClass (top 32) 1)) := ⟨rfl, rfl, rfl, by decide +kernel, rfl, by decide +kernel, by decide +kernel⟩
def w_Waiting_fits : WpS := (wRet (wAnd (wOp (fEq false) (wOp fIx (wVar 1) (wC (.int 0))) (wC (.str ("struck" : Str)))) (wOp (fEq false) (wOp fIx (wVar 1) (wC (.int 2))) (wTup (wCons (wC (.str ("strike" : Str))) (wCons (wFld "pot" (wVar 0)) (wCons (wC (.int 0)) (wCons (wOp fIx (wOp fIx (wFld "may" (wVar 0)) (wC (.int 0))) (wC (.int 0))) wNil))))))))
def φ_Waiting_fits : SB.Spec := fun xs S R RE => xs.length = 2 ∧ w_Waiting_fits (startE N_Waiting_fits xs) S ⟨fun _ S' => Rz R .non S', Rz R, fun _ _ => False, fun _ _ => False⟩ (fun c _ S' => RE c S')
theorem k_Waiting_fits (hd : Hd w K mg) {q nm : Str} {dvs : List V} {kws : List (Str × V)} {f : Addr} {fd : FuncData} (Fd : FunD K nm q (defArgs (inClass (top 32) 1)) (defBody (inClass (top 32) 1)) (defScope (inClass (top 32) 1)) dvs kws f fd) : FnOk P w K mg base (L2.CX P w) 1 f fd ["self", "letter"] (spOf K φ_Waiting_fits) :=
  body_ok (N := N_Waiting_fits) (ws := w_Waiting_fits) Fd sc_Waiting_fits (fun cdv A outer s H E F bc =>
  (wss_one (ws_ret (we_and (e_eq bc.room.u65 (we_ix (u1 bc.room.u65) (we_var (i := 1) rfl (.inl rfl) nd_letter nc_letter) we_int (fun _ _ => rfl)) we_str rfl) (we_one (e_eq bc.room.u65 (we_ix (u1 bc.room.u65) (we_var (i := 1) rfl (.inl rfl) nd_letter nc_letter) we_int (fun _ _ => rfl)) (we_tup (wa_cons we_str (wa_cons (we_fld (f := "pot") (we_var (i := 0) rfl (.inl rfl) nd_self nc_self) rfl) (wa_cons we_int (wa_cons (we_ix (u1 bc.room.u65) (we_ix (u1 bc.room.u65) (we_fld (f := "may") (we_var (i := 0) rfl (.inl rfl) nd_self nc_self) rfl) we_int (fun _ _ => rfl)) we_int (fun _ _ => rfl)) wa_nil rfl) rfl) rfl) rfl)) rfl)))))) (fun _ _ _ _ h => h.1) (fun _ _ _ _ h => h.2)
theorem B_Waiting_fits (hd : Hd w K mg) {q nm : Str} {f : Addr} (Fd : ∃ fd, FunD K nm q (defArgs (inClass (top 32) 1)) (defBody (inClass (top 32) 1)) (defScope (inClass (top 32) 1)) [] [] f fd) : FnBd P w K mg base 1 f 2 [] φ_Waiting_fits := by
  obtain ⟨fd, Fd⟩ := Fd
  exact fn_bd _ Fd (k_Waiting_fits hd Fd) (FunD.bindsN Fd fun _ _ _ _ _ _ us hl => match us, hl with | [_, _], _ => rfl)
/-! Account_behind -/
def N_Account_behind : List Str := ["self", "letter"]
theorem sc_Account_behind : FnScope N_Account_behind ["self", "letter"] (defScope (inClass (top 29) 3)) := ⟨rfl, rfl, rfl, by decide +kernel, rfl, by decide +kernel, by decide +kernel⟩
def w_Account_behind : WpS := (wRet (wTup (wCons (wVar 0) (wCons (wC .non) wNil))))
def φ_Account_behind : SB.Spec := fun xs S R RE => xs.length = 2 ∧ w_Account_behind (startE N_Account_behind xs) S ⟨fun _ S' => Rz R .non S', Rz R, fun _ _ => False, fun _ _ => False⟩ (fun c _ S' => RE c S')
theorem k_Account_behind (hd : Hd w K mg) {q nm : Str} {dvs : List V} {kws : List (Str × V)} {f : Addr} {fd : FuncData} (Fd : FunD K nm q (defArgs (inClass (top 29) 3)) (defBody (inClass (top 29) 3)) (defScope (inClass (top 29) 3)) dvs kws f fd) : FnOk P w K mg base (L2.CX P w) 1 f fd ["self", "letter"] (spOf K φ_Account_behind) :=
  body_ok (N := N_Account_behind) (ws := w_Account_behind) Fd sc_Account_behind (fun cdv A outer s H E F bc =>
  (wss_one (ws_ret (we_tup (wa_cons (we_var (i := 0) rfl (.inl rfl) nd_self nc_self) (wa_cons we_non wa_nil rfl) rfl))))) (fun _ _ _ _ h => h.1) (fun _ _ _ _ h => h.2)
theorem B_Account_behind (hd : Hd w K mg) {q nm : Str} {f : Addr} (Fd : ∃ fd, FunD K nm q (defArgs (inClass (top 29) 3)) (defBody (inClass (top 29) 3)) (defScope (inClass (top 29) 3)) [] [] f fd) : FnBd P w K mg base 1 f 2 [] φ_Account_behind := by
  obtain ⟨fd, Fd⟩ := Fd
  exact fn_bd _ Fd (k_Account_behind hd Fd) (FunD.bindsN Fd fun _ _ _ _ _ _ us hl => match us, hl with | [_, _], _ => rfl)
theorem Mk_Waiting (hd : Hd w K mg) : MkBd P w K mg base 1 "Waiting" 8 [] φ_Account___init__ := ⟨⟨_, mkr_Waiting hd, B_Account___init__ hd (hd.c.t.d.def_ 48 rfl)⟩, cl_Waiting hd⟩
/-! Calm_behind -/
def N_Calm_behind : List Str := ["self", "letter", "new", "may", "answer"]
theorem sc_Calm_behind : FnScope N_Calm_behind ["self", "letter"] (defScope (inClass (top 30) 2)) := ⟨rfl, rfl, rfl, by decide +kernel, rfl, by decide +kernel, by decide +kernel⟩
def w_Calm_behind : WpS := (wSeq (wSet 2 (wOp fIx (wOp fIx (wVar 1) (wC (.int 2))) (wC (.int 3))))
  (wSeq (wSet 3 (wLst false (wCons (wFld "mine" (wVar 0)) (wCons (wVar 2) wNil))))
  (wSeq (wSet 4 (wTup (wCons (wC (.str ("accept" : Str))) (wCons (wFld "pot" (wVar 0)) (wCons (wTup (wCons (wC (.str ("agree" : Str))) (wCons (wFld "pot" (wVar 0)) (wCons (wC (.int 1)) (wCons (wVar 2) wNil))))) (wCons (wTup (wCons (wC (.str ("strike" : Str))) (wCons (wFld "pot" (wVar 0)) (wCons (wC (.int 1)) (wCons (wOp fIx (wFld "mine" (wVar 0)) (wC (.int 0))) wNil))))) wNil))))))
  (wRet (wTup (wCons (wMake false "Waiting" [] φ_Account___init__ (wCons (wFld "pot" (wVar 0)) (wCons (wFld "side" (wVar 0)) (wCons (wFld "dealt" (wVar 0)) (wCons (wVar 2) (wCons (wOp fIx (wVar 1) (wC (.int 2))) (wCons (wVar 3) (wCons (wFld "strikes" (wVar 0)) wNil)))))))) (wCons (wVar 4) wNil)))))))
def φ_Calm_behind : SB.Spec := fun xs S R RE => xs.length = 2 ∧ w_Calm_behind (startE N_Calm_behind xs) S ⟨fun _ S' => Rz R .non S', Rz R, fun _ _ => False, fun _ _ => False⟩ (fun c _ S' => RE c S')
theorem k_Calm_behind (hd : Hd w K mg) {q nm : Str} {dvs : List V} {kws : List (Str × V)} {f : Addr} {fd : FuncData} (Fd : FunD K nm q (defArgs (inClass (top 30) 2)) (defBody (inClass (top 30) 2)) (defScope (inClass (top 30) 2)) dvs kws f fd) : FnOk P w K mg base (L2.CX P w) 3 f fd ["self", "letter"] (spOf K φ_Calm_behind) :=
  body_ok (N := N_Calm_behind) (ws := w_Calm_behind) Fd sc_Calm_behind (fun cdv A outer s H E F bc =>
  (wss_cons (ws_set (i := 2) sc_Calm_behind.nd rfl (.inl rfl) (we_ix (u1 bc.room.u65) (we_ix (u1 bc.room.u65) (we_var (i := 1) rfl (.inl rfl) nd_letter nc_letter) we_int (fun _ _ => rfl)) we_int (fun _ _ => rfl)) rfl (.inl rfl))
  (wss_cons (ws_set (i := 3) sc_Calm_behind.nd rfl (.inl rfl) (we_lst (own := false) (wa_cons (we_fld (f := "mine") (we_var (i := 0) rfl (.inl rfl) nd_self nc_self) rfl) (wa_cons (we_var (i := 2) rfl (.inl rfl) nd_new nc_new) wa_nil rfl) rfl)) rfl (.inl rfl))
  (wss_cons (ws_set (i := 4) sc_Calm_behind.nd rfl (.inl rfl) (we_tup (wa_cons we_str (wa_cons (we_fld (f := "pot") (we_var (i := 0) rfl (.inl rfl) nd_self nc_self) rfl) (wa_cons (we_tup (wa_cons we_str (wa_cons (we_fld (f := "pot") (we_var (i := 0) rfl (.inl rfl) nd_self nc_self) rfl) (wa_cons we_int (wa_cons (we_var (i := 2) rfl (.inl rfl) nd_new nc_new) wa_nil rfl) rfl) rfl) rfl)) (wa_cons (we_tup (wa_cons we_str (wa_cons (we_fld (f := "pot") (we_var (i := 0) rfl (.inl rfl) nd_self nc_self) rfl) (wa_cons we_int (wa_cons (we_ix (u1 bc.room.u65) (we_fld (f := "mine") (we_var (i := 0) rfl (.inl rfl) nd_self nc_self) rfl) we_int (fun _ _ => rfl)) wa_nil rfl) rfl) rfl) rfl)) wa_nil rfl) rfl) rfl) rfl)) rfl (.inl rfl))
  (wss_one (ws_ret (we_tup (wa_cons (we_make (own := false) (k := 1) ((Mk_Waiting hd).mono' (by decide)) bc.room bc.tk rfl (g_Waiting hd) (wa_cons (we_fld (f := "pot") (we_var (i := 0) rfl (.inl rfl) nd_self nc_self) rfl) (wa_cons (we_fld (f := "side") (we_var (i := 0) rfl (.inl rfl) nd_self nc_self) rfl) (wa_cons (we_fld (f := "dealt") (we_var (i := 0) rfl (.inl rfl) nd_self nc_self) rfl) (wa_cons (we_var (i := 2) rfl (.inl rfl) nd_new nc_new) (wa_cons (we_ix (u1 bc.room.u65) (we_var (i := 1) rfl (.inl rfl) nd_letter nc_letter) we_int (fun _ _ => rfl)) (wa_cons (we_var (i := 3) rfl (.inl rfl) nd_may nc_may) (wa_cons (we_fld (f := "strikes") (we_var (i := 0) rfl (.inl rfl) nd_self nc_self) rfl) wa_nil rfl) rfl) rfl) rfl) rfl) rfl) rfl) rfl nd_Waiting) (wa_cons (we_var (i := 4) rfl (.inl rfl) nd_answer nc_answer) wa_nil rfl) rfl)))))))) (fun _ _ _ _ h => h.1) (fun _ _ _ _ h => h.2)
theorem B_Calm_behind (hd : Hd w K mg) {q nm : Str} {f : Addr} (Fd : ∃ fd, FunD K nm q (defArgs (inClass (top 30) 2)) (defBody (inClass (top 30) 2)) (defScope (inClass (top 30) 2)) [] [] f fd) : FnBd P w K mg base 3 f 2 [] φ_Calm_behind := by
  obtain ⟨fd, Fd⟩ := Fd
  exact fn_bd _ Fd (k_Calm_behind hd Fd) (FunD.bindsN Fd fun _ _ _ _ _ _ us hl => match us, hl with | [_, _], _ => rfl)
/-! Offered_behind -/
def N_Offered_behind : List Str := ["self", "letter", "new", "strikes", "answer"]
theorem sc_Offered_behind : FnScope N_Offered_behind ["self", "letter"] (defScope (inClass (top 31) 2)) := ⟨rfl, rfl, rfl, by decide +kernel, rfl, by decide +kernel, by decide +kernel⟩
def w_Offered_behind : WpS := (wSeq (wSet 2 (wOp fIx (wFld "may" (wVar 0)) (wC (.int 1))))
  (wSeq (wSet 3 (wOp (fAdd false) (wFld "strikes" (wVar 0)) (wLst false (wCons (wOp fIx (wFld "mine" (wVar 0)) (wC (.int 0))) wNil))))
  (wSeq (wSet 4 (wTup (wCons (wC (.str ("struck" : Str))) (wCons (wFld "pot" (wVar 0)) (wCons (wTup (wCons (wC (.str ("strike" : Str))) (wCons (wFld "pot" (wVar 0)) (wCons (wC (.int 0)) (wCons (wOp fIx (wFld "mine" (wVar 0)) (wC (.int 0))) wNil))))) wNil)))))
  (wRet (wTup (wCons (wMake false "Calm" [] φ_Account___init__ (wCons (wFld "pot" (wVar 0)) (wCons (wFld "side" (wVar 0)) (wCons (wFld "dealt" (wVar 0)) (wCons (wVar 2) (wCons (wOp fIx (wVar 1) (wC (.int 2))) (wCons (wLst false (wCons (wVar 2) wNil)) (wCons (wVar 3) wNil)))))))) (wCons (wVar 4) wNil)))))))
def φ_Offered_behind : SB.Spec := fun xs S R RE => xs.length = 2 ∧ w_Offered_behind (startE N_Offered_behind xs) S ⟨fun _ S' => Rz R .non S', Rz R, fun _ _ => False, fun _ _ => False⟩ (fun c _ S' => RE c S')
theorem k_Offered_behind (hd : Hd w K mg) {q nm : Str} {dvs : List V} {kws : List (Str × V)} {f : Addr} {fd : FuncData} (Fd : FunD K nm q (defArgs (inClass (top 31) 2)) (defBody (inClass (top 31) 2)) (defScope (inClass (top 31) 2)) dvs kws f fd) : FnOk P w K mg base (L2.CX P w) 3 f fd ["self", "letter"] (spOf K φ_Offered_behind) :=
  body_ok (N := N_Offered_behind) (ws := w_Offered_behind) Fd sc_Offered_behind (fun cdv A outer s H E F bc =>
  (wss_cons (ws_set (i := 2) sc_Offered_behind.nd rfl (.inl rfl) (we_ix (u1 bc.room.u65) (we_fld (f := "may") (we_var (i := 0) rfl (.inl rfl) nd_self nc_self) rfl) we_int (fun _ _ => rfl)) rfl (.inl rfl))
  (wss_cons (ws_set (i := 3) sc_Offered_behind.nd rfl (.inl rfl) (we_add (own := false) (we_fld (f := "strikes") (we_var (i := 0) rfl (.inl rfl) nd_self nc_self) rfl) (we_lst (own := false) (wa_cons (we_ix (u1 bc.room.u65) (we_fld (f := "mine") (we_var (i := 0) rfl (.inl rfl) nd_self nc_self) rfl) we_int (fun _ _ => rfl)) wa_nil rfl))) rfl (.inl rfl))
  (wss_cons (ws_set (i := 4) sc_Offered_behind.nd rfl (.inl rfl) (we_tup (wa_cons we_str (wa_cons (we_fld (f := "pot") (we_var (i := 0) rfl (.inl rfl) nd_self nc_self) rfl) (wa_cons (we_tup (wa_cons we_str (wa_cons (we_fld (f := "pot") (we_var (i := 0) rfl (.inl rfl) nd_self nc_self) rfl) (wa_cons we_int (wa_cons (we_ix (u1 bc.room.u65) (we_fld (f := "mine") (we_var (i := 0) rfl (.inl rfl) nd_self nc_self) rfl) we_int (fun _ _ => rfl)) wa_nil rfl) rfl) rfl) rfl)) wa_nil rfl) rfl) rfl)) rfl (.inl rfl))
  (wss_one (ws_ret (we_tup (wa_cons (we_make (own := false) (k := 1) ((Mk_Calm hd).mono' (by decide)) bc.room bc.tk rfl (g_Calm hd) (wa_cons (we_fld (f := "pot") (we_var (i := 0) rfl (.inl rfl) nd_self nc_self) rfl) (wa_cons (we_fld (f := "side") (we_var (i := 0) rfl (.inl rfl) nd_self nc_self) rfl) (wa_cons (we_fld (f := "dealt") (we_var (i := 0) rfl (.inl rfl) nd_self nc_self) rfl) (wa_cons (we_var (i := 2) rfl (.inl rfl) nd_new nc_new) (wa_cons (we_ix (u1 bc.room.u65) (we_var (i := 1) rfl (.inl rfl) nd_letter nc_letter) we_int (fun _ _ => rfl)) (wa_cons (we_lst (own := false) (wa_cons (we_var (i := 2) rfl (.inl rfl) nd_new nc_new) wa_nil rfl)) (wa_cons (we_var (i := 3) rfl (.inl rfl) nd_strikes nc_strikes) wa_nil rfl) rfl) rfl) rfl) rfl) rfl) rfl) rfl nd_Calm) (wa_cons (we_var (i := 4) rfl (.inl rfl) nd_answer nc_answer) wa_nil rfl) rfl)))))))) (fun _ _ _ _ h => h.1) (fun _ _ _ _ h => h.2)
theorem B_Offered_behind (hd : Hd w K mg) {q nm : Str} {f : Addr} (Fd : ∃ fd, FunD K nm q (defArgs (inClass (top 31) 2)) (defBody (inClass (top 31) 2)) (defScope (inClass (top 31) 2)) [] [] f fd) : FnBd P w K mg base 3 f 2 [] φ_Offered_behind := by
  obtain ⟨fd, Fd⟩ := Fd
  exact fn_bd _ Fd (k_Offered_behind hd Fd) (FunD.bindsN Fd fun _ _ _ _ _ _ us hl => match us, hl with | [_, _], _ => rfl)
/-! Waiting_behind -/
def N_Waiting_behind : List Str := ["self", "letter", "strikes"]
theorem sc_Waiting_behind : FnScope N_Waiting_behind ["self", "letter"] (defScope (inClass (top 32) 2)) := ⟨rfl, rfl, rfl, by decide +kernel, rfl, by decide +kernel, by decide +kernel⟩
def w_Waiting_behind : WpS := (wSeq (wSet 2 (wOp (fAdd false) (wFld "strikes" (wVar 0)) (wLst false (wCons (wOp fIx (wOp fIx (wFld "may" (wVar 0)) (wC (.int 0))) (wC (.int 0))) wNil))))
  (wRet (wTup (wCons (wMake false "Calm" [] φ_Account___init__ (wCons (wFld "pot" (wVar 0)) (wCons (wFld "side" (wVar 0)) (wCons (wFld "dealt" (wVar 0)) (wCons (wFld "mine" (wVar 0)) (wCons (wFld "grant" (wVar 0)) (wCons (wLst false (wCons (wFld "mine" (wVar 0)) wNil)) (wCons (wVar 2) wNil)))))))) (wCons (wC .non) wNil)))))
def φ_Waiting_behind : SB.Spec := fun xs S R RE => xs.length = 2 ∧ w_Waiting_behind (startE N_Waiting_behind xs) S ⟨fun _ S' => Rz R .non S', Rz R, fun _ _ => False, fun _ _ => False⟩ (fun c _ S' => RE c S')
theorem k_Waiting_behind (hd : Hd w K mg) {q nm : Str} {dvs : List V} {kws : List (Str × V)} {f : Addr} {fd : FuncData} (Fd : FunD K nm q (defArgs (inClass (top 32) 2)) (defBody (inClass (top 32) 2)) (defScope (inClass (top 32) 2)) dvs kws f fd) : FnOk P w K mg base (L2.CX P w) 3 f fd ["self", "letter"] (spOf K φ_Waiting_behind) :=
  body_ok (N := N_Waiting_behind) (ws := w_Waiting_behind) Fd sc_Waiting_behind (fun cdv A outer s H E F bc =>
  (wss_cons (ws_set (i := 2) sc_Waiting_behind.nd rfl (.inl rfl) (we_add (own := false) (we_fld (f := "strikes") (we_var (i := 0) rfl (.inl rfl) nd_self nc_self) rfl) (we_lst (own := false) (wa_cons (we_ix (u1 bc.room.u65) (we_ix (u1 bc.room.u65) (we_fld (f := "may") (we_var (i := 0) rfl (.inl rfl) nd_self nc_self) rfl) we_int (fun _ _ => rfl)) we_int (fun _ _ => rfl)) wa_nil rfl))) rfl (.inl rfl))
  (wss_one (ws_ret (we_tup (wa_cons (we_make (own := false) (k := 1) ((Mk_Calm hd).mono' (by decide)) bc.room bc.tk rfl (g_Calm hd) (wa_cons (we_fld (f := "pot") (we_var (i := 0) rfl (.inl rfl) nd_self nc_self) rfl) (wa_cons (we_fld (f := "side") (we_var (i := 0) rfl (.inl rfl) nd_self nc_self) rfl) (wa_cons (we_fld (f := "dealt") (we_var (i := 0) rfl (.inl rfl) nd_self nc_self) rfl) (wa_cons (we_fld (f := "mine") (we_var (i := 0) rfl (.inl rfl) nd_self nc_self) rfl) (wa_cons (we_fld (f := "grant") (we_var (i := 0) rfl (.inl rfl) nd_self nc_self) rfl) (wa_cons (we_lst (own := false) (wa_cons (we_fld (f := "mine") (we_var (i := 0) rfl (.inl rfl) nd_self nc_self) rfl) wa_nil rfl)) (wa_cons (we_var (i := 2) rfl (.inl rfl) nd_strikes nc_strikes) wa_nil rfl) rfl) rfl) rfl) rfl) rfl) rfl) rfl nd_Calm) (wa_cons we_non wa_nil rfl) rfl)))))) (fun _ _ _ _ h => h.1) (fun _ _ _ _ h => h.2)
theorem B_Waiting_behind (hd : Hd w K mg) {q nm : Str} {f : Addr} (Fd : ∃ fd, FunD K nm q (defArgs (inClass (top 32) 2)) (defBody (inClass (top 32) 2)) (defScope (inClass (top 32) 2)) [] [] f fd) : FnBd P w K mg base 3 f 2 [] φ_Waiting_behind := by
  obtain ⟨fd, Fd⟩ := Fd
  exact fn_bd _ Fd (k_Waiting_behind hd Fd) (FunD.bindsN Fd fun _ _ _ _ _ _ us hl => match us, hl with | [_, _], _ => rfl)
def cs_fits : List (String × Nat × List D × SB.Spec) := [("Account", 2, [], φ_Account_fits), ("Calm", 2, [], φ_Calm_fits), ("Offered", 2, [], φ_Offered_fits), ("Waiting", 2, [], φ_Waiting_fits)]
theorem mt_fits {k : Nat} (hd : Hd w K mg) (hk : 3 ≤ k) : ∀ c nd, cs_fits.lookup c = some nd → MtBd P w K mg base k (clA K c) "fits" nd.1 nd.2.1 nd.2.2 := (mts_cons ⟨_, me_Account_fits hd, (B_Account_fits hd (hd.c.t.d.def_ 32 rfl)).mono (Nat.le_trans (by decide) hk)⟩ (mts_cons ⟨_, me_Calm_fits hd, (B_Calm_fits hd (hd.c.t.d.def_ 38 rfl)).mono (Nat.le_trans (by decide) hk)⟩ (mts_cons ⟨_, me_Offered_fits hd, (B_Offered_fits hd (hd.c.t.d.def_ 44 rfl)).mono (Nat.le_trans (by decide) hk)⟩ (mts_cons ⟨_, me_Waiting_fits hd, (B_Waiting_fits hd (hd.c.t.d.def_ 50 rfl)).mono (Nat.le_trans (by decide) hk)⟩ mts_nil))))
def cs_behind : List (String × Nat × List D × SB.Spec) := [("Account", 2, [], φ_Account_behind), ("Calm", 2, [], φ_Calm_behind), ("Offered", 2, [], φ_Offered_behind), ("Waiting", 2, [], φ_Waiting_behind)]
theorem mt_behind {k : Nat} (hd : Hd w K mg) (hk : 3 ≤ k) : ∀ c nd, cs_behind.lookup c = some nd → MtBd P w K mg base k (clA K c) "behind" nd.1 nd.2.1 nd.2.2 := (mts_cons ⟨_, me_Account_behind hd, (B_Account_behind hd (hd.c.t.d.def_ 33 rfl)).mono (Nat.le_trans (by decide) hk)⟩ (mts_cons ⟨_, me_Calm_behind hd, (B_Calm_behind hd (hd.c.t.d.def_ 39 rfl)).mono (Nat.le_trans (by decide) hk)⟩ (mts_cons ⟨_, me_Offered_behind hd, (B_Offered_behind hd (hd.c.t.d.def_ 45 rfl)).mono (Nat.le_trans (by decide) hk)⟩ (mts_cons ⟨_, me_Waiting_behind hd, (B_Waiting_behind hd (hd.c.t.d.def_ 51 rfl)).mono (Nat.le_trans (by decide) hk)⟩ mts_nil))))
/-! Account_taken -/
def N_Account_taken : List Str := ["self", "letter"]
theorem sc_Account_taken : FnScope N_Account_taken ["self", "letter"] (defScope (inClass (top 29) 4)) := ⟨rfl, rfl, rfl, by decide +kernel, rfl, by decide +kernel, by decide +kernel⟩
def w_Account_taken : WpS := (wSeq (wIf (wB (wOr (wNot (wCall φ_is_letter [] (wCons (wVar 1) wNil))) (wOr (wOp (fEq true) (wOp fIx (wVar 1) (wC (.int 1))) (wFld "pot" (wVar 0))) (wNot (wMeth "fits" cs_fits (wVar 0) (wCons (wVar 1) wNil)))))) (wRet (wTup (wCons (wVar 0) (wCons (wC .non) wNil)))) wNx)
  (wRet (wMeth "behind" cs_behind (wVar 0) (wCons (wVar 1) wNil))))
def φ_Account_taken : SB.Spec := fun xs S R RE => xs.length = 2 ∧ w_Account_taken (startE N_Account_taken xs) S ⟨fun _ S' => Rz R .non S', Rz R, fun _ _ => False, fun _ _ => False⟩ (fun c _ S' => RE c S')
theorem k_Account_taken (hd : Hd w K mg) {q nm : Str} {dvs : List V} {kws : List (Str × V)} {f : Addr} {fd : FuncData} (Fd : FunD K nm q (defArgs (inClass (top 29) 4)) (defBody (inClass (top 29) 4)) (defScope (inClass (top 29) 4)) dvs kws f fd) : FnOk P w K mg base (L2.CX P w) 9 f fd ["self", "letter"] (spOf K φ_Account_taken) :=
  body_ok (N := N_Account_taken) (ws := w_Account_taken) Fd sc_Account_taken (fun cdv A outer s H E F bc =>
  (wss_cons (ws_if (WW.wt (ww_or (wt_not (wt_val (we_call ((B_is_letter hd).mono (by decide)) bc.room bc.tk rfl (g_is_letter hd) (wa_cons (we_var (i := 1) rfl (.inl rfl) nd_letter nc_letter) wa_nil rfl) rfl nd_is_letter) (fun _ => rfl))) (ww_or (t_ne bc.room.u65 (we_ix (u1 bc.room.u65) (we_var (i := 1) rfl (.inl rfl) nd_letter nc_letter) we_int (fun _ _ => rfl)) (we_fld (f := "pot") (we_var (i := 0) rfl (.inl rfl) nd_self nc_self) rfl) rfl) (ww_or1 (wt_not (wt_val (we_meth (m := "fits") (cs := cs_fits) (mt_fits hd (by decide)) bc.room bc.tk (we_var (i := 0) rfl (.inl rfl) nd_self nc_self) (wa_cons (we_var (i := 1) rfl (.inl rfl) nd_letter nc_letter) wa_nil rfl) rfl rfl (by decide) rfl) (fun _ => rfl))))))) (wss_one (ws_ret (we_tup (wa_cons (we_var (i := 0) rfl (.inl rfl) nd_self nc_self) (wa_cons we_non wa_nil rfl) rfl)))) wss_nil)
  (wss_one (ws_ret (we_meth (m := "behind") (cs := cs_behind) (mt_behind hd (by decide)) bc.room bc.tk (we_var (i := 0) rfl (.inl rfl) nd_self nc_self) (wa_cons (we_var (i := 1) rfl (.inl rfl) nd_letter nc_letter) wa_nil rfl) rfl rfl (by decide) rfl))))) (fun _ _ _ _ h => h.1) (fun _ _ _ _ h => h.2)
theorem B_Account_taken (hd : Hd w K mg) {q nm : Str} {f : Addr} (Fd : ∃ fd, FunD K nm q (defArgs (inClass (top 29) 4)) (defBody (inClass (top 29) 4)) (defScope (inClass (top 29) 4)) [] [] f fd) : FnBd P w K mg base 9 f 2 [] φ_Account_taken := by
  obtain ⟨fd, Fd⟩ := Fd
  exact fn_bd _ Fd (k_Account_taken hd Fd) (FunD.bindsN Fd fun _ _ _ _ _ _ us hl => match us, hl with | [_, _], _ => rfl)
def cs_taken : List (String × Nat × List D × SB.Spec) := [("Account", 2, [], φ_Account_taken), ("Calm", 2, [], φ_Account_taken), ("Offered", 2, [], φ_Account_taken), ("Waiting", 2, [], φ_Account_taken)]
theorem mt_taken {k : Nat} (hd : Hd w K mg) (hk : 9 ≤ k) : ∀ c nd, cs_taken.lookup c = some nd → MtBd P w K mg base k (clA K c) "taken" nd.1 nd.2.1 nd.2.2 := (mts_cons ⟨_, me_Account_taken hd, (B_Account_taken hd (hd.c.t.d.def_ 34 rfl)).mono (Nat.le_trans (by decide) hk)⟩ (mts_cons ⟨_, me_Calm_taken hd, (B_Account_taken hd (hd.c.t.d.def_ 40 rfl)).mono (Nat.le_trans (by decide) hk)⟩ (mts_cons ⟨_, me_Offered_taken hd, (B_Account_taken hd (hd.c.t.d.def_ 46 rfl)).mono (Nat.le_trans (by decide) hk)⟩ (mts_cons ⟨_, me_Waiting_taken hd, (B_Account_taken hd (hd.c.t.d.def_ 52 rfl)).mono (Nat.le_trans (by decide) hk)⟩ mts_nil))))
/-! _law_done -/
def N__law_done : List Str := ["account", "kind", "thing", "found", "e", "kinds"]
theorem sc__law_done : FnScope N__law_done ["account", "kind", "thing"] (defScope (top 48)) := ⟨rfl, rfl, rfl, by decide +kernel, rfl, by decide +kernel, by decide +kernel⟩
def w__law_done : WpS := (wSeq (wSet 3 (wC (.str ("other" : Str))))
  (wSeq (wTryAs ["BookError", "NoStand", "NoDeed"] "BookError" 4 (wIf (wB (wOp (fEq false) (wVar 1) (wC (.str ("offer" : Str))))) (wSet 3 (wCall φ_offered [] (wCons (wVar 0) (wCons (wOp fIx (wVar 2) (wC (.int 0))) (wCons (wOp fIx (wVar 2) (wC (.int 1))) wNil))))) (wSet 3 (wMeth "taken" cs_taken (wVar 0) (wCons (wVar 2) wNil)))) (fun a c => (wSeq (wSet 5 (wLst false (wCons (wIsE a c "NoDeed" ["BookError", "NoStand", "NoDeed"] (wVar 4)) (wCons (wIsE a c "NoStand" ["BookError", "NoStand", "NoDeed"] (wVar 4)) wNil))))
  (wIf (wB (wOp (fEq false) (wMt "list" fCount (wVar 5) (wCons (wC (.bl true)) wNil)) (wC (.int 1)))) (wSet 3 (wOp fIx (wLst false (wCons (wC (.str ("deed" : Str))) (wCons (wC (.str ("stand" : Str))) wNil))) (wMt "list" fIndex (wVar 5) (wCons (wC (.bl true)) wNil)))) wNx))))
  (wRet (wVar 3))))
def φ__law_done : SB.Spec := fun xs S R RE => xs.length = 3 ∧ w__law_done (startE N__law_done xs) S ⟨fun _ S' => Rz R .non S', Rz R, fun _ _ => False, fun _ _ => False⟩ (fun c _ S' => RE c S')
theorem k__law_done (hd : Hd w K mg) {q nm : Str} {dvs : List V} {kws : List (Str × V)} {f : Addr} {fd : FuncData} (Fd : FunD K nm q (defArgs (top 48)) (defBody (top 48)) (defScope (top 48)) dvs kws f fd) : FnOk P w K mg base (L2.CX P w) 10 f fd ["account", "kind", "thing"] (spOf K φ__law_done) :=
  body_ok (N := N__law_done) (ws := w__law_done) Fd sc__law_done (fun cdv A outer s H E F bc =>
  (wss_cons (ws_set (i := 3) sc__law_done.nd rfl (.inl rfl) we_str rfl (.inl rfl))
  (wss_cons (ws_try_as (i := 4) (C := "BookError") rfl rfl sc__law_done.nd rfl rfl ⟨rfl, nd_BookError, .inl (g_BookError hd)⟩ bc.tk (ext hd) (by decide) (fun F2 pn xe tk2 hp2 => (wss_one (ws_if (t_eq bc.room.u65 (we_var (i := 1) rfl (.inl rfl) nd_kind nc_kind) we_str rfl) (wss_one (ws_set (i := 3) sc__law_done.nd rfl (.inl rfl) (we_call ((B_offered hd).mono (by decide)) bc.room tk2 rfl (g_offered hd) (wa_cons (we_var (i := 0) rfl (.inl rfl) nd_account nc_account) (wa_cons (we_ix (u1 bc.room.u65) (we_var (i := 2) rfl (.inl rfl) nd_thing nc_thing) we_int (fun _ _ => rfl)) (wa_cons (we_ix (u1 bc.room.u65) (we_var (i := 2) rfl (.inl rfl) nd_thing nc_thing) we_int (fun _ _ => rfl)) wa_nil rfl) rfl) rfl) rfl nd_offered) rfl (.inl rfl))) (wss_one (ws_set (i := 3) sc__law_done.nd rfl (.inl rfl) (we_meth (m := "taken") (cs := cs_taken) (mt_taken hd (by decide)) bc.room tk2 (we_var (i := 0) rfl (.inl rfl) nd_account nc_account) (wa_cons (we_var (i := 2) rfl (.inl rfl) nd_thing nc_thing) wa_nil rfl) rfl rfl (by decide) rfl) rfl (.inl rfl)))))) (fun F2 a oe c d pn hz hv hdn => (wss_cons (ws_set (i := 5) sc__law_done.nd rfl (.inl rfl) (we_lst (own := false) (wa_cons (we_isE (C := "NoDeed") hz hv hdn (exk hd) (by decide) (we_var (i := 4) rfl (.inl rfl) nd_e nc_e) rfl rfl (n_isinstance hd) rfl (g_NoDeed hd) nd_NoDeed) (wa_cons (we_isE (C := "NoStand") hz hv hdn (exk hd) (by decide) (we_var (i := 4) rfl (.inl rfl) nd_e nc_e) rfl rfl (n_isinstance hd) rfl (g_NoStand hd) nd_NoStand) wa_nil rfl) rfl)) rfl (.inl rfl))
  (wss_one (ws_if (t_eq bc.room.u65 (m_count bc.room.u65 (we_var (i := 5) rfl (.inl rfl) nd_kinds nc_kinds) (wa_cons we_bl wa_nil rfl) rfl rfl (by decide) rfl) we_int rfl) (wss_one (ws_set (i := 3) sc__law_done.nd rfl (.inl rfl) (we_ix (u1 bc.room.u65) (we_lst (own := false) (wa_cons we_str (wa_cons we_str wa_nil rfl) rfl)) (m_index bc.room.u65 (we_var (i := 5) rfl (.inl rfl) nd_kinds nc_kinds) (wa_cons we_bl wa_nil rfl) rfl rfl (by decide) rfl) (fun _ _ => rfl)) rfl (.inl rfl))) wss_nil)))))
  (wss_one (ws_ret (we_var (i := 3) rfl (.inl rfl) nd_found nc_found)))))) (fun _ _ _ _ h => h.1) (fun _ _ _ _ h => h.2)
theorem B__law_done (hd : Hd w K mg) : FnBd P w K mg base 10 (He.ga K "_law_done") 3 [] φ__law_done := by
  obtain ⟨fd, Fd⟩ := hd.c.t.d.def_ 27 (d := mkDD (("_law_done" : Str), none) "_law_done" "_law_done" (top 48) []) rfl
  exact fn_bd _ Fd (k__law_done hd Fd) (FunD.bindsN Fd fun _ _ _ _ _ _ us hl => match us, hl with | [_, _, _], _ => rfl)
/-! _law_deed_right -/
def N__law_deed_right : List Str := ["well", "held", "letters", "pot", "whole", "kind", "account", "due", "one", "thing", "wanted", "turn", "found", "other", "letter"]
theorem sc__law_deed_right : FnScope N__law_deed_right ["well", "held", "letters", "pot", "whole"] (defScope (top 49)) := ⟨rfl, rfl, rfl, by decide +kernel, rfl, by decide +kernel, by decide +kernel⟩
def w__law_deed_right : WpS := (wSeq (wSet 5 (wOp fIx (wLst false (wCons (wC (.str ("offer" : Str))) (wCons (wC (.str ("take" : Str))) (wCons (wC (.str ("take" : Str))) (wCons (wC (.str ("take" : Str))) (wCons (wC (.str ("write" : Str))) wNil)))))) (wCall φ__law_draw [] (wCons (wVar 0) (wCons (wC (.int 5)) wNil)))))
  (wSeq (wAsg (.tup (.cons (.nm 6) (.cons (.nm 7) .nil))) (wOp fIx (wVar 1) (wOp fDiv (wCall φ__law_draw [] (wCons (wVar 0) (wCons (wOp (fMul false) (wC (.int 2)) (wFun fLen (wCons (wVar 1) wNil))) wNil))) (wC (.int 2)))))
  (wSeq (wSet 8 (wCall φ__law_deal [] (wCons (wVar 0) (wCons (wC (.int 0)) (wCons (wOp (fAdd false) (wVar 4) (wOp fDiv (wCall φ__law_draw [] (wCons (wVar 0) (wCons (wC (.int 9)) wNil))) (wC (.int 8)))) wNil)))))
  (wSeq (wSet 9 (wSl false (wVar 8) (some (wC (.int 1))) none))
  (wSeq (wIf (wB (wOr (wOp (fEq false) (wVar 5) (wC (.str ("write" : Str)))) (wAnd (wOp (fEq false) (wVar 5) (wC (.str ("take" : Str)))) (wOp (fEq false) (wVar 2) (wLst false wNil))))) (wSet 9 (wCall φ__law_written [] (wCons (wVar 0) (wCons (wVar 3) (wCons (wVar 4) wNil))))) (wIf (wB (wOp (fEq false) (wVar 5) (wC (.str ("take" : Str))))) (wSet 9 (wOp fIx (wVar 2) (wOp fSub (wOp fSub (wFun fLen (wCons (wVar 2) wNil)) (wC (.int 1))) (wFun fMin (wCons (wCall φ__law_draw [] (wCons (wVar 0) (wCons (wFun fLen (wCons (wVar 2) wNil)) wNil))) (wCons (wCall φ__law_draw [] (wCons (wVar 0) (wCons (wFun fLen (wCons (wVar 2) wNil)) wNil))) wNil)))))) wNx))
  (wSeq (wSet 10 (wIte (wOp (fEq false) (wVar 5) (wC (.str ("offer" : Str)))) (wCall φ__law_offered_of [] (wCons (wVar 7) (wCons (wOp fIx (wVar 9) (wC (.int 0))) (wCons (wOp fIx (wVar 9) (wC (.int 1))) wNil)))) (wCall φ__law_taken [] (wCons (wVar 7) (wCons (wVar 9) wNil)))))
  (wSeq (wFor (wRange (wCons (wC (.int 2)) wNil)) (.nm 11) (wSeq (wSet 12 (wCall φ__law_done [] (wCons (wVar 6) (wCons (wVar 5) (wCons (wVar 9) wNil)))))
  (wIf (wB (wOr (wIsTy "str" (wVar 12)) (wIsTy "str" (wVar 10)))) (wIf (wB (wOp (fEq true) (wVar 12) (wVar 10))) (wRet (wC (.bl false))) wNx) (wIf (wB (wOr (wNot (wCall φ__law_same [] (wCons (wOp fIx (wVar 12) (wC (.int 0))) (wCons (wOp fIx (wVar 10) (wC (.int 0))) wNil)))) (wOp (fEq true) (wOp fIx (wVar 12) (wC (.int 1))) (wOp fIx (wVar 10) (wC (.int 1)))))) (wRet (wC (.bl false))) wNx))))
  (wSeq (wIf (wB (wNot (wIsTy "str" (wVar 12)))) (wSeq (wExpr (wMt "list" fAppend (wVar 1) (wCons (wTup (wCons (wOp fIx (wVar 12) (wC (.int 0))) (wCons (wOp fIx (wVar 10) (wC (.int 0))) wNil))) wNil)))
  (wExpr (wMt "list" fExtend (wVar 2) (wCons (wLc false (wSrc (wLst false (wCons (wOp fIx (wVar 12) (wC (.int 1))) wNil))) (.nm 14) (wB (wOp (fIs true) (wVar 14) (wC .non))) (wVar 14) [14]) wNil)))) wNx)
  (wRet (wFun fAll (wCons (wLc false (wSrc (wVar 1)) (.tup (.cons (.nm 8) (.cons (.nm 13) .nil))) wYes (wCall φ__law_same [] (wCons (wVar 8) (wCons (wVar 13) wNil))) [8, 13]) wNil)))))))))))
def φ__law_deed_right : SB.Spec := fun xs S R RE => xs.length = 5 ∧ w__law_deed_right (startE N__law_deed_right xs) S ⟨fun _ S' => Rz R .non S', Rz R, fun _ _ => False, fun _ _ => False⟩ (fun c _ S' => RE c S')
theorem k__law_deed_right (hd : Hd w K mg) {q nm : Str} {dvs : List V} {kws : List (Str × V)} {f : Addr} {fd : FuncData} (Fd : FunD K nm q (defArgs (top 49)) (defBody (top 49)) (defScope (top 49)) dvs kws f fd) : FnOk P w K mg base (L2.CX P w) 11 f fd ["well", "held", "letters", "pot", "whole"] (spOf K φ__law_deed_right) :=
  body_ok (N := N__law_deed_right) (ws := w__law_deed_right) Fd sc__law_deed_right (fun cdv A outer s H E F bc =>
  (wss_cons (ws_set (i := 5) sc__law_deed_right.nd rfl (.inl rfl) (we_ix (u1 bc.room.u65) (we_lst (own := false) (wa_cons we_str (wa_cons we_str (wa_cons we_str (wa_cons we_str (wa_cons we_str wa_nil rfl) rfl) rfl) rfl) rfl)) (we_call ((B__law_draw hd).mono (by decide)) bc.room bc.tk rfl (g__law_draw hd) (wa_cons (we_var (i := 0) rfl (.inl rfl) nd_well nc_well) (wa_cons we_int wa_nil rfl) rfl) rfl nd__law_draw) (fun _ _ => rfl)) rfl (.inl rfl))
  (wss_cons (ws_asg (we_ix (u1 bc.room.u65) (we_var (i := 1) rfl (.inl rfl) nd_held nc_held) (we_div (we_call ((B__law_draw hd).mono (by decide)) bc.room bc.tk rfl (g__law_draw hd) (wa_cons (we_var (i := 0) rfl (.inl rfl) nd_well nc_well) (wa_cons (we_mul (own := false) we_int (b_len rfl (n_len hd) (wa_cons (we_var (i := 1) rfl (.inl rfl) nd_held nc_held) wa_nil rfl) rfl)) wa_nil rfl) rfl) rfl nd__law_draw) we_int) (fun _ _ => rfl)) (wg_tup rfl (wgs_cons (wg_nm sc__law_deed_right.nd rfl (.inl rfl) (.inl rfl)) (wgs_cons (wg_nm sc__law_deed_right.nd rfl (.inl rfl) (.inl rfl)) wgs_nil (fun _ => rfl)) (fun _ => rfl)) (fun _ => rfl) (fun _ => rfl)) rfl rfl rfl)
  (wss_cons (ws_set (i := 8) sc__law_deed_right.nd rfl (.inl rfl) (we_call ((B__law_deal hd).mono (by decide)) bc.room bc.tk rfl (g__law_deal hd) (wa_cons (we_var (i := 0) rfl (.inl rfl) nd_well nc_well) (wa_cons we_int (wa_cons (we_add (own := false) (we_var (i := 4) rfl (.inl rfl) nd_whole nc_whole) (we_div (we_call ((B__law_draw hd).mono (by decide)) bc.room bc.tk rfl (g__law_draw hd) (wa_cons (we_var (i := 0) rfl (.inl rfl) nd_well nc_well) (wa_cons we_int wa_nil rfl) rfl) rfl nd__law_draw) we_int)) wa_nil rfl) rfl) rfl) rfl nd__law_deal) rfl (.inl rfl))
  (wss_cons (ws_set (i := 9) sc__law_deed_right.nd rfl (.inl rfl) (we_sl (own := false) (we_var (i := 8) rfl (.inl rfl) nd_one nc_one) (.some we_int) .none) rfl (.inl rfl))
  (wss_cons (ws_if (WW.wt (ww_or (t_eq bc.room.u65 (we_var (i := 5) rfl (.inl rfl) nd_kind nc_kind) we_str rfl) (ww_or1 (WW.wt (ww_and (t_eq bc.room.u65 (we_var (i := 5) rfl (.inl rfl) nd_kind nc_kind) we_str rfl) (ww_and1 (t_eq bc.room.u65 (we_var (i := 2) rfl (.inl rfl) nd_letters nc_letters) (we_lst (own := false) wa_nil) rfl))))))) (wss_one (ws_set (i := 9) sc__law_deed_right.nd rfl (.inl rfl) (we_call ((B__law_written hd).mono (by decide)) bc.room bc.tk rfl (g__law_written hd) (wa_cons (we_var (i := 0) rfl (.inl rfl) nd_well nc_well) (wa_cons (we_var (i := 3) rfl (.inl rfl) nd_pot nc_pot) (wa_cons (we_var (i := 4) rfl (.inl rfl) nd_whole nc_whole) wa_nil rfl) rfl) rfl) rfl nd__law_written) rfl (.inl rfl))) (wss_one (ws_if (t_eq bc.room.u65 (we_var (i := 5) rfl (.inl rfl) nd_kind nc_kind) we_str rfl) (wss_one (ws_set (i := 9) sc__law_deed_right.nd rfl (.inl rfl) (we_ix (u1 bc.room.u65) (we_var (i := 2) rfl (.inl rfl) nd_letters nc_letters) (we_sub (we_sub (b_len rfl (n_len hd) (wa_cons (we_var (i := 2) rfl (.inl rfl) nd_letters nc_letters) wa_nil rfl) rfl) we_int) (b_min rfl rfl (n_min hd) (wa_cons (we_call ((B__law_draw hd).mono (by decide)) bc.room bc.tk rfl (g__law_draw hd) (wa_cons (we_var (i := 0) rfl (.inl rfl) nd_well nc_well) (wa_cons (b_len rfl (n_len hd) (wa_cons (we_var (i := 2) rfl (.inl rfl) nd_letters nc_letters) wa_nil rfl) rfl) wa_nil rfl) rfl) rfl nd__law_draw) (wa_cons (we_call ((B__law_draw hd).mono (by decide)) bc.room bc.tk rfl (g__law_draw hd) (wa_cons (we_var (i := 0) rfl (.inl rfl) nd_well nc_well) (wa_cons (b_len rfl (n_len hd) (wa_cons (we_var (i := 2) rfl (.inl rfl) nd_letters nc_letters) wa_nil rfl) rfl) wa_nil rfl) rfl) rfl nd__law_draw) wa_nil rfl) rfl) rfl)) (fun _ _ => rfl)) rfl (.inl rfl))) wss_nil)))
  (wss_cons (ws_set (i := 10) sc__law_deed_right.nd rfl (.inl rfl) (we_ite (t_eq bc.room.u65 (we_var (i := 5) rfl (.inl rfl) nd_kind nc_kind) we_str rfl) (we_call ((B__law_offered_of hd).mono (by decide)) bc.room bc.tk rfl (g__law_offered_of hd) (wa_cons (we_var (i := 7) rfl (.inl rfl) nd_due nc_due) (wa_cons (we_ix (u1 bc.room.u65) (we_var (i := 9) rfl (.inl rfl) nd_thing nc_thing) we_int (fun _ _ => rfl)) (wa_cons (we_ix (u1 bc.room.u65) (we_var (i := 9) rfl (.inl rfl) nd_thing nc_thing) we_int (fun _ _ => rfl)) wa_nil rfl) rfl) rfl) rfl nd__law_offered_of) (we_call ((B__law_taken hd).mono (by decide)) bc.room bc.tk rfl (g__law_taken hd) (wa_cons (we_var (i := 7) rfl (.inl rfl) nd_due nc_due) (wa_cons (we_var (i := 9) rfl (.inl rfl) nd_thing nc_thing) wa_nil rfl) rfl) rfl nd__law_taken)) rfl (.inl rfl))
  (wss_cons (ws_for bc.pass rfl (wi_range1 rfl (n_range hd) (wa_cons we_int wa_nil rfl) rfl) (wg_nm sc__law_deed_right.nd rfl (.inl rfl) (.inl rfl)) (wss_cons (ws_set (i := 12) sc__law_deed_right.nd rfl (.inl rfl) (we_call ((B__law_done hd).mono (by decide)) bc.room bc.tk rfl (g__law_done hd) (wa_cons (we_var (i := 6) rfl (.inl rfl) nd_account nc_account) (wa_cons (we_var (i := 5) rfl (.inl rfl) nd_kind nc_kind) (wa_cons (we_var (i := 9) rfl (.inl rfl) nd_thing nc_thing) wa_nil rfl) rfl) rfl) rfl nd__law_done) rfl (.inl rfl))
  (wss_one (ws_if (WW.wt (ww_or (wt_val (b_isTy (T := "str") (by decide) (we_var (i := 12) rfl (.inl rfl) nd_found nc_found) rfl rfl (n_isinstance hd) rfl (n_str hd) bt_str (by decide) nd_str) (fun _ => rfl)) (ww_or1 (wt_val (b_isTy (T := "str") (by decide) (we_var (i := 10) rfl (.inl rfl) nd_wanted nc_wanted) rfl rfl (n_isinstance hd) rfl (n_str hd) bt_str (by decide) nd_str) (fun _ => rfl))))) (wss_one (ws_if (t_ne bc.room.u65 (we_var (i := 12) rfl (.inl rfl) nd_found nc_found) (we_var (i := 10) rfl (.inl rfl) nd_wanted nc_wanted) rfl) (wss_one (ws_ret we_bl)) wss_nil)) (wss_one (ws_if (WW.wt (ww_or (wt_not (wt_val (we_call ((B__law_same hd).mono (by decide)) bc.room bc.tk rfl (g__law_same hd) (wa_cons (we_ix (u1 bc.room.u65) (we_var (i := 12) rfl (.inl rfl) nd_found nc_found) we_int (fun _ _ => rfl)) (wa_cons (we_ix (u1 bc.room.u65) (we_var (i := 10) rfl (.inl rfl) nd_wanted nc_wanted) we_int (fun _ _ => rfl)) wa_nil rfl) rfl) rfl nd__law_same) (fun _ => rfl))) (ww_or1 (t_ne bc.room.u65 (we_ix (u1 bc.room.u65) (we_var (i := 12) rfl (.inl rfl) nd_found nc_found) we_int (fun _ _ => rfl)) (we_ix (u1 bc.room.u65) (we_var (i := 10) rfl (.inl rfl) nd_wanted nc_wanted) we_int (fun _ _ => rfl)) rfl)))) (wss_one (ws_ret we_bl)) wss_nil))))) (fun _ => rfl))
  (wss_cons (ws_if (wt_not (wt_val (b_isTy (T := "str") (by decide) (we_var (i := 12) rfl (.inl rfl) nd_found nc_found) rfl rfl (n_isinstance hd) rfl (n_str hd) bt_str (by decide) nd_str) (fun _ => rfl))) (wss_cons (ws_expr (m_append (we_var (i := 1) rfl (.inl rfl) nd_held nc_held) (wa_cons (we_tup (wa_cons (we_ix (u1 bc.room.u65) (we_var (i := 12) rfl (.inl rfl) nd_found nc_found) we_int (fun _ _ => rfl)) (wa_cons (we_ix (u1 bc.room.u65) (we_var (i := 10) rfl (.inl rfl) nd_wanted nc_wanted) we_int (fun _ _ => rfl)) wa_nil rfl) rfl)) wa_nil rfl) rfl rfl (by decide) rfl) rfl)
  (wss_one (ws_expr (m_extend (we_var (i := 2) rfl (.inl rfl) nd_letters nc_letters) (wa_cons (we_lc (fr := false) (own := [(("letter" : Str), 14)]) (t := (.nm 14)) rfl sc__law_deed_right.nd (wi_src (we_lst (own := false) (wa_cons (we_ix (u1 bc.room.u65) (we_var (i := 12) rfl (.inl rfl) nd_found nc_found) we_int (fun _ _ => rfl)) wa_nil rfl))) (show BlkOk N__law_deed_right (defScope (top 49)) _ [(("letter" : Str), 14)] from blkOk_by (by decide +kernel)) (by decide) (fun _ _ _ _ _ => (wg_nm sc__law_deed_right.nd rfl (.inl rfl) (.inr rfl))) (fun _ _ _ _ _ => (wts_one (t_isn (we_var (i := 14) rfl (.inl rfl) nd_letter nc_letter) we_non rfl))) (fun _ _ _ _ _ => (we_var (i := 14) rfl (.inl rfl) nd_letter nc_letter)) (fun _ => rfl)) wa_nil rfl) rfl rfl (by decide) rfl) rfl))) wss_nil)
  (wss_one (ws_ret (b_all rfl rfl (n_all hd) (wa_cons (we_lc (fr := false) (own := [(("one" : Str), 8), (("other" : Str), 13)]) (t := (.tup (.cons (.nm 8) (.cons (.nm 13) .nil)))) rfl sc__law_deed_right.nd (wi_src (we_var (i := 1) rfl (.inl rfl) nd_held nc_held)) (show BlkOk N__law_deed_right (defScope (top 49)) _ [(("one" : Str), 8), (("other" : Str), 13)] from blkOk_by (by decide +kernel)) (by decide) (fun _ _ _ _ _ => (wg_tup rfl (wgs_cons (wg_nm sc__law_deed_right.nd rfl (.inl rfl) (.inr rfl)) (wgs_cons (wg_nm sc__law_deed_right.nd rfl (.inl rfl) (.inr rfl)) wgs_nil (fun _ => rfl)) (fun _ => rfl)) (fun _ => rfl) (fun _ => rfl))) (fun _ _ _ _ _ => wts_nil) (fun _ _ _ _ _ => (we_call ((B__law_same hd).mono (by decide)) bc.room tk_calm rfl (g__law_same hd) (wa_cons (we_var (i := 8) rfl (.inl rfl) nd_one nc_one) (wa_cons (we_var (i := 13) rfl (.inl rfl) nd_other nc_other) wa_nil rfl) rfl) rfl nd__law_same)) (fun _ => rfl)) wa_nil rfl) rfl)))))))))))) (fun _ _ _ _ h => h.1) (fun _ _ _ _ h => h.2)
theorem B__law_deed_right (hd : Hd w K mg) : FnBd P w K mg base 11 (He.ga K "_law_deed_right") 5 [] φ__law_deed_right := by
  obtain ⟨fd, Fd⟩ := hd.c.t.d.def_ 28 (d := mkDD (("_law_deed_right" : Str), none) "_law_deed_right" "_law_deed_right" (top 49) []) rfl
  exact fn_bd _ Fd (k__law_deed_right hd Fd) (FunD.bindsN Fd fun _ _ _ _ _ _ us hl => match us, hl with | [_, _, _, _, _], _ => rfl)
/-! law -/
def N_law : List Str := ["script", "well", "pot", "coins", "held", "side", "letters", "cell"]
theorem sc_law : FnScope N_law ["script"] (defScope (top 50)) := ⟨rfl, rfl, rfl, by decide +kernel, rfl, by decide +kernel, by decide +kernel⟩
def w_law : WpS := (wSeq (wSet 1 (wCall φ__law_well_of [] (wCons (wCall φ__law_cell_at [] (wCons (wVar 0) (wCons (wC (.int 0)) wNil))) wNil)))
  (wSeq (wSet 2 (wCall φ__law_draw [] (wCons (wVar 1) (wCons (wC (.int 3)) wNil))))
  (wSeq (wSet 3 (wLst false (wCons (wCall φ__law_draw [] (wCons (wVar 1) (wCons (wC (.int 21)) wNil))) (wCons (wCall φ__law_draw [] (wCons (wVar 1) (wCons (wC (.int 21)) wNil))) wNil))))
  (wSeq (wSet 4 (wLst true wNil))
  (wSeq (wFor (wRange (wCons (wC (.int 2)) wNil)) (.nm 5) (wExpr (wMt "list" fAppend (wVar 4) (wCons (wTup (wCons (wCall φ_first_account [] (wCons (wVar 2) (wCons (wVar 5) (wCons (wOp fIx (wVar 3) (wC (.int 0))) (wCons (wOp fIx (wVar 3) (wC (.int 1))) wNil))))) (wCons (wCall φ__law_begun [] (wCons (wVar 2) (wCons (wVar 5) (wCons (wOp fIx (wVar 3) (wC (.int 0))) (wCons (wOp fIx (wVar 3) (wC (.int 1))) wNil))))) wNil))) wNil))))
  (wSeq (wSet 6 (wLst true wNil))
  (wSeq (wFor (wSrc (wOp (fAdd false) (wLst false (wCons (wC (.int 5)) (wCons (wC (.int 8)) (wCons (wC (.int 13)) (wCons (wC (.int 21)) wNil))))) (wSl false (wVar 0) (some (wC (.int 1))) (some (wC (.int 31)))))) (.nm 7) (wIf (wB (wNot (wCall φ__law_deed_right [] (wCons (wCall φ__law_well_of [] (wCons (wVar 7) wNil)) (wCons (wVar 4) (wCons (wVar 6) (wCons (wVar 2) (wCons (wFun fSum (wCons (wVar 3) wNil)) wNil)))))))) (wRet (wC (.bl false))) wNx))
  (wRet (wC (.bl true))))))))))
def φ_law : SB.Spec := fun xs S R RE => xs.length = 1 ∧ w_law (startE N_law xs) S ⟨fun _ S' => Rz R .non S', Rz R, fun _ _ => False, fun _ _ => False⟩ (fun c _ S' => RE c S')
theorem k_law (hd : Hd w K mg) {q nm : Str} {dvs : List V} {kws : List (Str × V)} {f : Addr} {fd : FuncData} (Fd : FunD K nm q (defArgs (top 50)) (defBody (top 50)) (defScope (top 50)) dvs kws f fd) : FnOk P w K mg base (L2.CX P w) 12 f fd ["script"] (spOf K φ_law) :=
  body_ok (N := N_law) (ws := w_law) Fd sc_law (fun cdv A outer s H E F bc =>
  (wss_cons (ws_set (i := 1) sc_law.nd rfl (.inl rfl) (we_call ((B__law_well_of hd).mono (by decide)) bc.room bc.tk rfl (g__law_well_of hd) (wa_cons (we_call ((B__law_cell_at hd).mono (by decide)) bc.room bc.tk rfl (g__law_cell_at hd) (wa_cons (we_var (i := 0) rfl (.inl rfl) nd_script nc_script) (wa_cons we_int wa_nil rfl) rfl) rfl nd__law_cell_at) wa_nil rfl) rfl nd__law_well_of) rfl (.inl rfl))
  (wss_cons (ws_set (i := 2) sc_law.nd rfl (.inl rfl) (we_call ((B__law_draw hd).mono (by decide)) bc.room bc.tk rfl (g__law_draw hd) (wa_cons (we_var (i := 1) rfl (.inl rfl) nd_well nc_well) (wa_cons we_int wa_nil rfl) rfl) rfl nd__law_draw) rfl (.inl rfl))
  (wss_cons (ws_set (i := 3) sc_law.nd rfl (.inl rfl) (we_lst (own := false) (wa_cons (we_call ((B__law_draw hd).mono (by decide)) bc.room bc.tk rfl (g__law_draw hd) (wa_cons (we_var (i := 1) rfl (.inl rfl) nd_well nc_well) (wa_cons we_int wa_nil rfl) rfl) rfl nd__law_draw) (wa_cons (we_call ((B__law_draw hd).mono (by decide)) bc.room bc.tk rfl (g__law_draw hd) (wa_cons (we_var (i := 1) rfl (.inl rfl) nd_well nc_well) (wa_cons we_int wa_nil rfl) rfl) rfl nd__law_draw) wa_nil rfl) rfl)) rfl (.inl rfl))
  (wss_cons (ws_set (i := 4) sc_law.nd rfl (.inl rfl) (we_lst (own := true) wa_nil) rfl (.inl rfl))
  (wss_cons (ws_for bc.pass rfl (wi_range1 rfl (n_range hd) (wa_cons we_int wa_nil rfl) rfl) (wg_nm sc_law.nd rfl (.inl rfl) (.inl rfl)) (wss_one (ws_expr (m_append (we_var (i := 4) rfl (.inl rfl) nd_held nc_held) (wa_cons (we_tup (wa_cons (we_call ((B_first_account hd).mono (by decide)) bc.room bc.tk rfl (g_first_account hd) (wa_cons (we_var (i := 2) rfl (.inl rfl) nd_pot nc_pot) (wa_cons (we_var (i := 5) rfl (.inl rfl) nd_side nc_side) (wa_cons (we_ix (u1 bc.room.u65) (we_var (i := 3) rfl (.inl rfl) nd_coins nc_coins) we_int (fun _ _ => rfl)) (wa_cons (we_ix (u1 bc.room.u65) (we_var (i := 3) rfl (.inl rfl) nd_coins nc_coins) we_int (fun _ _ => rfl)) wa_nil rfl) rfl) rfl) rfl) rfl nd_first_account) (wa_cons (we_call ((B__law_begun hd).mono (by decide)) bc.room bc.tk rfl (g__law_begun hd) (wa_cons (we_var (i := 2) rfl (.inl rfl) nd_pot nc_pot) (wa_cons (we_var (i := 5) rfl (.inl rfl) nd_side nc_side) (wa_cons (we_ix (u1 bc.room.u65) (we_var (i := 3) rfl (.inl rfl) nd_coins nc_coins) we_int (fun _ _ => rfl)) (wa_cons (we_ix (u1 bc.room.u65) (we_var (i := 3) rfl (.inl rfl) nd_coins nc_coins) we_int (fun _ _ => rfl)) wa_nil rfl) rfl) rfl) rfl) rfl nd__law_begun) wa_nil rfl) rfl)) wa_nil rfl) rfl rfl (by decide) rfl) rfl)) (fun _ => rfl))
  (wss_cons (ws_set (i := 6) sc_law.nd rfl (.inl rfl) (we_lst (own := true) wa_nil) rfl (.inl rfl))
  (wss_cons (ws_for bc.pass rfl (wi_src (we_add (own := false) (we_lst (own := false) (wa_cons we_int (wa_cons we_int (wa_cons we_int (wa_cons we_int wa_nil rfl) rfl) rfl) rfl)) (we_sl (own := false) (we_var (i := 0) rfl (.inl rfl) nd_script nc_script) (.some we_int) (.some we_int)))) (wg_nm sc_law.nd rfl (.inl rfl) (.inl rfl)) (wss_one (ws_if (wt_not (wt_val (we_call ((B__law_deed_right hd).mono (by decide)) bc.room bc.tk rfl (g__law_deed_right hd) (wa_cons (we_call ((B__law_well_of hd).mono (by decide)) bc.room bc.tk rfl (g__law_well_of hd) (wa_cons (we_var (i := 7) rfl (.inl rfl) nd_cell nc_cell) wa_nil rfl) rfl nd__law_well_of) (wa_cons (we_var (i := 4) rfl (.inl rfl) nd_held nc_held) (wa_cons (we_var (i := 6) rfl (.inl rfl) nd_letters nc_letters) (wa_cons (we_var (i := 2) rfl (.inl rfl) nd_pot nc_pot) (wa_cons (b_sum rfl rfl (n_sum hd) (wa_cons (we_var (i := 3) rfl (.inl rfl) nd_coins nc_coins) wa_nil rfl) rfl) wa_nil rfl) rfl) rfl) rfl) rfl) rfl nd__law_deed_right) (fun _ => rfl))) (wss_one (ws_ret we_bl)) wss_nil)) (fun _ => rfl))
  (wss_one (ws_ret we_bl)))))))))) (fun _ _ _ _ h => h.1) (fun _ _ _ _ h => h.2)
theorem B_law (hd : Hd w K mg) : FnBd P w K mg base 12 (He.ga K "law") 1 [] φ_law := by
  obtain ⟨fd, Fd⟩ := hd.c.t.d.def_ 29 (d := mkDD (("law" : Str), none) "law" "law" (top 50) []) rfl
  exact fn_bd _ Fd (k_law hd Fd) (FunD.bindsN Fd fun _ _ _ _ _ _ us hl => match us, hl with | [_], _ => rfl)
end
end L99
end

section
set_option Elab.async false
set_option linter.all false
set_option maxRecDepth 100000
set_option autoImplicit false
namespace L99
open SB PySem PySem.Spec L2
/-! the things -/
structure Tie where
  p : Int
  a : Int
  w : Int
  d : Int
deriving DecidableEq
def tieD (t : Tie) : D := .tup [.int t.p, .int t.a, .int t.w, .int t.d]
structure TieOk (t : Tie) : Prop where
  p0 : 0 ≤ t.p
  p1 : t.p ≤ 1
  a0 : 1 ≤ t.a
  a1 : t.a ≤ 9
  w0 : 0 ≤ t.w
  w1 : t.w ≤ 59
  d0 : 0 ≤ t.d
  d1 : t.d ≤ 15
structure Stn where
  n : Int
  l : Int
  r : Int
  ts : List Tie
deriving DecidableEq
def shD (s : Stn) : D := .tup [.int s.l, .int s.r]
def tsD (s : Stn) : D := .tup (s.ts.map tieD)
def stnD (s : Stn) : D := .tup [.int s.n, shD s, tsD s]
structure StnOk (s : Stn) : Prop where
  n0 : 0 ≤ s.n
  n1 : s.n ≤ 1000
  l0 : 0 ≤ s.l
  l1 : s.l ≤ 1000
  r0 : 0 ≤ s.r
  r1 : s.r ≤ 1000
  len : s.ts.length ≤ 3
  ok : ∀ t ∈ s.ts, TieOk t
  nd : (s.ts.map Tie.w).Nodup
def Stn.sum (s : Stn) : Int := s.l + s.r + (s.ts.map Tie.a).sum
section
variable {S : Sto} {R : Pd} {RE : Px}
theorem p_in_bounds {i m : Int} (h : R (.bl (decide (0 ≤ i) && decide (i ≤ m))) S) : φ_in_bounds [.int i, .int m] S R RE := by
  refine ⟨rfl, ?_⟩
  simp [-Bool.exists_bool, w_in_bounds, startE, N_in_bounds, tyD, tySub]
  by_cases h0 : 0 ≤ i
  · simp_all [Rz_now, cmpLe]
  · simp_all [Rz_now, cmpLe]
    intro z; omega
theorem p_in {i m : Int} (h0 : 0 ≤ i) (h1 : i ≤ m) (h : R (.bl true) S) : φ_in_bounds [.int i, .int m] S R RE := p_in_bounds (by simpa [h0, h1] using h)
theorem p_is_tie {t : Tie} (ok : TieOk t) (h : R (.bl true) S) : φ_is_tie [tieD t] S R RE := by
  refine ⟨rfl, ?_⟩
  obtain ⟨p0, p1, a0, a1, w0, w1, d0, d1⟩ := ok
  simp [-Bool.exists_bool, w_is_tie, startE, N_is_tie, tySub, tieD]
  refine p_in p0 p1 ?_
  simp [-Bool.exists_bool]
  refine p_in (by omega) (by omega) ?_
  simp [-Bool.exists_bool, cmpLt]
  rw [if_neg (by omega)]
  refine p_in w0 (by omega) ?_
  simp [-Bool.exists_bool]
  exact p_in d0 (by omega) (.now h)
theorem p_are_shares {s : Stn} (ok : StnOk s) (h : R (.bl true) S) : φ_are_shares [shD s] S R RE := by
  refine ⟨rfl, ?_⟩
  simp [-Bool.exists_bool, w_are_shares, startE, N_are_shares, tySub, shD]
  intro p hp
  refine lc_frozen (fun _ => .bl true) (by show 2 ≤ sizeLine; decide) (fun x hx => ?_) ?_ p hp
  · refine ⟨_, rfl, fun S R h => ?_⟩
    have : ∃ i, x = .int i ∧ 0 ≤ i ∧ i ≤ 1000 := by
      simp at hx
      rcases hx with rfl | rfl
      · exact ⟨_, rfl, ok.l0, ok.l1⟩
      · exact ⟨_, rfl, ok.r0, ok.r1⟩
    obtain ⟨i, rfl, h0, h1⟩ := this
    simp [wipeE, L2.CMul]
    exact p_in h0 (by omega) h
  · exact fAll_yes (by simp) (.now h)
theorem nodup_count : ∀ {l : List Int} {x : Int}, l.Nodup → x ∈ l → l.count x = 1
  | [], _, _, h => by cases h
  | y :: l, x, hn, hx => by
    rw [List.nodup_cons] at hn
    rw [List.count_cons]
    by_cases e : y = x
    · subst e
      rw [List.count_eq_zero.mpr hn.1]
      simp
    · have hx' : x ∈ l := by
        rcases List.mem_cons.mp hx with h | h
        · exact absurd h.symm e
        · exact h
      rw [nodup_count hn.2 hx']
      simp [e]
theorem p_are_ties {s : Stn} (ok : StnOk s) (h : R (.bl true) S) : φ_are_ties [tsD s] S R RE := by
  have hlen := ok.len
  refine ⟨rfl, ?_⟩
  simp [-Bool.exists_bool, w_are_ties, startE, N_are_ties, tySub, tsD, cmpGt]
  rw [if_neg (by omega)]
  intro p hp
  refine lc_map (fun _ => .bl true) (sz1000 (by omega)) (fun t ht => ⟨_, rfl, fun S R h => ?_⟩) ?_ p hp
  · simp [wipeE]
    exact p_is_tie (ok.ok t ht) h
  refine fAll_yes (by simp) ?_
  simp
  intro p hp
  refine lc_map (fun t => .int t.w) (sz1000 (by omega)) (fun t ht => ⟨_, rfl, fun S R h => ?_⟩) ?_ p hp
  · simp [wipeE, tieD, L2.atI, L2.ixN]
    exact h
  simp
  intro p hp
  refine lc_map (fun _ => .bl true) (sz1000 (by omega)) (fun t ht => ⟨_, rfl, fun S R h => ?_⟩) ?_ p hp
  · simp [wipeE]
    refine ⟨ok_pl ?_ ?_, okI _, ?_⟩
    · exact plL_map fun _ _ => rfl
    · show dpL _ + 1 ≤ 64
      have := dpL_map (f := fun t : Tie => D.int t.w) (k := 0) (m := s.ts) fun _ _ => Nat.le_refl _
      omega
    · have : (decide ((List.countP ((fun z => dEq z (.int t.w)) ∘ fun t => D.int t.w) s.ts : Int) = 1)) = true := by
        have e : List.countP ((fun z => dEq z (.int t.w)) ∘ fun t => D.int t.w) s.ts = (s.ts.map Tie.w).count t.w := by
          rw [List.count, List.countP_map]
          congr 1
        rw [e, nodup_count ok.nd (List.mem_map_of_mem ht)]
        rfl
      rw [this]; exact h
  refine fAll_yes (by simp) ?_
  exact .now h
theorem p_is_stand {s : Stn} (ok : StnOk s) (h : R (.bl true) S) : φ_is_stand [stnD s] S R RE := by
  refine ⟨rfl, ?_⟩
  simp [-Bool.exists_bool, w_is_stand, startE, N_is_stand, tySub, stnD, L2.atI, L2.ixN]
  refine p_in ok.n0 (by have := ok.n1; omega) ?_
  simp [-Bool.exists_bool]
  refine p_are_shares ok ?_
  simp [-Bool.exists_bool]
  exact p_are_ties ok (.now h)
theorem p_stand {n : Int} {s : Stn} (ok : StnOk { s with n := n }) (h : R (stnD { s with n := n }) S) : φ_stand [.int n, shD s, tsD s] S R RE := by
  refine ⟨rfl, ?_⟩
  simp [-Bool.exists_bool, w_stand, startE, N_stand]
  have e : ∀ R' : Pd, fIs false (tsD s) .non S R' = R' (.bl false) S := fun _ => rfl
  rw [e]
  simp [-Bool.exists_bool]
  refine ⟨by show 3 ≤ sizeLine; decide, ?_⟩
  refine p_is_stand (s := { s with n := n }) ok ?_
  simp [-Bool.exists_bool]
  exact .now h
theorem p_stand0 {l r : Int} (ok : StnOk ⟨0, l, r, []⟩) (h : R (stnD ⟨0, l, r, []⟩) S) : φ_stand [.int 0, .tup [.int l, .int r], .non] S R RE := by
  refine ⟨rfl, ?_⟩
  simp [-Bool.exists_bool, w_stand, startE, N_stand]
  refine ⟨by show 3 ≤ sizeLine; decide, ?_⟩
  refine p_is_stand (s := ⟨0, l, r, []⟩) ok ?_
  simp [-Bool.exists_bool]
  exact .now h
theorem p_first {l r : Int} (ok : StnOk ⟨0, l, r, []⟩) (h : R (stnD ⟨0, l, r, []⟩) S) : φ_first [.int l, .int r] S R RE := by
  refine ⟨rfl, ?_⟩
  simp [-Bool.exists_bool, w_first, startE, N_first]
  refine ⟨by show 2 ≤ sizeLine; decide, p_stand0 ok (.now h)⟩
theorem intL2 {i j : Int} : intL [.int i, .int j] = some [i, j] := rfl
theorem p_deals {s : Stn} (ok : StnOk s) (h : R (.int s.sum) S) : φ_deals [stnD s] S R RE := by
  refine ⟨rfl, ?_⟩
  simp [-Bool.exists_bool, w_deals, startE, N_deals, stnD, L2.atI, L2.ixN, shD, tsD, intL2]
  intro p hp
  refine lc_map (fun t => .int t.a) (sz1000 (by have := ok.len; omega)) (fun t ht => ⟨_, rfl, fun S R h => ?_⟩) ?_ p hp
  · simp [wipeE, tieD, L2.atI, L2.ixN]
    exact h
  simp [intL_mapF (f := fun t : Tie => D.int t.a) (g := Tie.a) (fun _ _ => rfl)]
  refine .now ?_
  have : s.l + s.r + (s.ts.map Tie.a).sum = s.sum := rfl
  simpa [this] using h
def agD (p s : Int) (st : Stn) : D := .tup [.str "agree", .int p, .int s, stnD st]
def skD (p s n : Int) : D := .tup [.str "strike", .int p, .int s, .int n]
theorem p_is_made_a {p s : Int} {st : Stn} (p0 : 0 ≤ p) (p2 : p ≤ 2) (s0 : 0 ≤ s) (s1 : s ≤ 1) (ok : StnOk st) (h : R (.bl true) S) : φ_is_made [agD p s st] S R RE := by
  refine ⟨rfl, ?_⟩
  simp [-Bool.exists_bool, w_is_made, startE, N_is_made, tySub, agD, L2.atI, L2.ixN]
  refine p_in p0 p2 ?_
  simp [-Bool.exists_bool]
  refine p_in s0 s1 ?_
  simp [-Bool.exists_bool]
  exact p_is_stand ok (.now h)
theorem p_is_made_s {p s n : Int} (p0 : 0 ≤ p) (p2 : p ≤ 2) (s0 : 0 ≤ s) (s1 : s ≤ 1) (n0 : 0 ≤ n) (n1 : n ≤ 1000000) (h : R (.bl true) S) : φ_is_made [skD p s n] S R RE := by
  refine ⟨rfl, ?_⟩
  simp [-Bool.exists_bool, w_is_made, startE, N_is_made, tySub, skD, L2.atI, L2.ixN]
  refine p_in p0 p2 ?_
  simp [-Bool.exists_bool]
  refine p_in s0 s1 ?_
  simp [-Bool.exists_bool]
  exact p_in n0 n1 (.now h)
theorem p_is_thing_a {p s : Int} {st : Stn} (p0 : 0 ≤ p) (p2 : p ≤ 2) (s0 : 0 ≤ s) (s1 : s ≤ 1) (ok : StnOk st) (h : R (.bl true) S) : φ_is_thing [agD p s st] S R RE := by
  refine ⟨rfl, ?_⟩
  have := p_is_made_a (RE := RE) (R := Rz R) p0 p2 s0 s1 ok (.now h)
  simp [-Bool.exists_bool, w_is_thing, startE, N_is_thing, tySub, agD, L2.atI, L2.ixN]
  exact this
theorem p_is_thing_s {p s n : Int} (p0 : 0 ≤ p) (p2 : p ≤ 2) (s0 : 0 ≤ s) (s1 : s ≤ 1) (n0 : 0 ≤ n) (n1 : n ≤ 1000000) (h : R (.bl true) S) : φ_is_thing [skD p s n] S R RE := by
  refine ⟨rfl, ?_⟩
  have := p_is_made_s (RE := RE) (R := Rz R) p0 p2 s0 s1 n0 n1 (.now h)
  simp [-Bool.exists_bool, w_is_thing, startE, N_is_thing, tySub, skD, L2.atI, L2.ixN]
  exact this
theorem p_is_thing_w {n : Int} (n0 : 0 ≤ n) (n1 : n ≤ 59) (h : R (.bl true) S) : φ_is_thing [.tup [.str "word", .int n]] S R RE := by
  refine ⟨rfl, ?_⟩
  simp [-Bool.exists_bool, w_is_thing, startE, N_is_thing, tySub, L2.atI, L2.ixN]
  exact p_in n0 n1 (.now h)
theorem p_is_pot {p : Int} (p0 : 0 ≤ p) (p2 : p ≤ 2) (h : R (.bl true) S) : φ_is_pot [.int p] S R RE := by
  refine ⟨rfl, ?_⟩
  simp [-Bool.exists_bool, w_is_pot, startE, N_is_pot, tySub, cmpLe, p0, p2]
  exact .now h
theorem p_is_kind_a {p s : Int} {st : Stn} (p0 : 0 ≤ p) (p2 : p ≤ 2) (s0 : 0 ≤ s) (s1 : s ≤ 1) (ok : StnOk st) (h : R (.bl true) S) : φ_is_kind [agD p s st, .str "agree"] S R RE := by
  refine ⟨rfl, ?_⟩
  simp [-Bool.exists_bool, w_is_kind, startE, N_is_kind]
  refine p_is_thing_a p0 p2 s0 s1 ok ?_
  simp [-Bool.exists_bool, agD, L2.atI, L2.ixN]
  exact .now h
theorem p_is_kind_s {p s n : Int} (p0 : 0 ≤ p) (p2 : p ≤ 2) (s0 : 0 ≤ s) (s1 : s ≤ 1) (n0 : 0 ≤ n) (n1 : n ≤ 1000000) (h : R (.bl true) S) : φ_is_kind [skD p s n, .str "strike"] S R RE := by
  refine ⟨rfl, ?_⟩
  simp [-Bool.exists_bool, w_is_kind, startE, N_is_kind]
  refine p_is_thing_s p0 p2 s0 s1 n0 n1 ?_
  simp [-Bool.exists_bool, skD, L2.atI, L2.ixN]
  exact .now h
/-! letters -/
inductive Ltr where
  | offer (p s : Int) (st : Stn) | accept (p s : Int) (st : Stn) (s2 n : Int) | struck (p s n : Int) | ask (p : Int) (st : Stn) | word (p : Int)
def Ltr.pot : Ltr → Int
  | .offer p _ _ => p
  | .accept p _ _ _ _ => p
  | .struck p _ _ => p
  | .ask p _ => p
  | .word p => p
def ltD : Ltr → D
  | .offer p s st => .tup [.str "offer", .int p, agD p s st]
  | .accept p s st s2 n => .tup [.str "accept", .int p, agD p s st, skD p s2 n]
  | .struck p s n => .tup [.str "struck", .int p, skD p s n]
  | .ask p st => .tup [.str "ask", .int p, shD st, tsD st]
  | .word p => .tup [.str "word", .int p, .int 8]
def sOk (s : Int) : Prop := 0 ≤ s ∧ s ≤ 1
def LtOk : Ltr → Prop
  | .offer p s st => (0 ≤ p ∧ p ≤ 2) ∧ sOk s ∧ StnOk st
  | .accept p s st s2 n => (0 ≤ p ∧ p ≤ 2) ∧ sOk s ∧ StnOk st ∧ sOk s2 ∧ 0 ≤ n ∧ n ≤ 1000
  | .struck p s n => (0 ≤ p ∧ p ≤ 2) ∧ sOk s ∧ 0 ≤ n ∧ n ≤ 1000
  | .ask p st => (0 ≤ p ∧ p ≤ 2) ∧ StnOk st ∧ st.n = 0
  | .word p => 0 ≤ p ∧ p ≤ 2
@[simp] theorem pl_tie (t : Tie) : pl (tieD t) = true := rfl
@[simp] theorem pl_ts (s : Stn) : pl (tsD s) = true := plL_map fun _ _ => rfl
@[simp] theorem pl_sh (s : Stn) : pl (shD s) = true := rfl
@[simp] theorem pl_stn (s : Stn) : pl (stnD s) = true := by simp [stnD]
@[simp] theorem pl_ag (p s : Int) (st : Stn) : pl (agD p s st) = true := by simp [agD]
@[simp] theorem pl_sk (p s n : Int) : pl (skD p s n) = true := by simp [skD]
@[simp] theorem pl_lt (l : Ltr) : pl (ltD l) = true := by cases l <;> simp [ltD]
theorem dp_ts (s : Stn) : dp (tsD s) ≤ 2 := by
  have := dpL_map (f := tieD) (k := 1) (m := s.ts) fun _ _ => by simp [tieD]
  simp [tsD]; omega
theorem dp_stn (s : Stn) : dp (stnD s) ≤ 3 := by
  have := dp_ts s
  simp [stnD, shD]; omega
theorem dp_ag (p s : Int) (st : Stn) : dp (agD p s st) ≤ 4 := by
  have := dp_stn st
  simp [agD]; omega
theorem dp_sk (p s n : Int) : dp (skD p s n) ≤ 1 := by simp [skD]
theorem dp_lt (l : Ltr) : dp (ltD l) ≤ 5 := by
  cases l with
  | offer p s st => have := dp_ag p s st; simp [ltD]; omega
  | accept p s st s2 n => have := dp_ag p s st; have := dp_sk p s2 n; simp [ltD]; omega
  | struck p s n => have := dp_sk p s n; simp [ltD]; omega
  | ask p st => have := dp_ts st; simp [ltD, shD]; omega
  | word p => simp [ltD]
theorem p_is_letter {l : Ltr} (ok : LtOk l) (h : R (.bl true) S) : φ_is_letter [ltD l] S R RE := by
  refine ⟨rfl, ?_⟩
  have hd := dp_lt l
  have hp := pl_lt l
  simp [-Bool.exists_bool, w_is_letter, startE, N_is_letter]
  cases l with
  | offer p s st =>
    obtain ⟨⟨p0, p2⟩, ⟨s0, s1⟩, ok⟩ := ok
    simp only [ltD] at hd hp ⊢
    simp [-Bool.exists_bool, tySub]
    refine f_eqP' false hp rfl (by omega) (by decide) (by simp) ?_
    simp [-Bool.exists_bool, L2.atI, L2.ixN, lookS, tab_LENGTHS, dvD, tySub]
    refine p_is_pot p0 p2 ?_
    simp [-Bool.exists_bool]
    exact p_is_kind_a p0 p2 s0 s1 ok (.now h)
  | accept p s st s2 n =>
    obtain ⟨⟨p0, p2⟩, ⟨s0, s1⟩, ok, ⟨z0, z1⟩, n0, n1⟩ := ok
    simp only [ltD] at hd hp ⊢
    simp [-Bool.exists_bool, tySub]
    refine f_eqP' false hp rfl (by omega) (by decide) (by simp) ?_
    simp [-Bool.exists_bool, L2.atI, L2.ixN, lookS, tab_LENGTHS, dvD, tySub]
    refine p_is_pot p0 p2 ?_
    simp [-Bool.exists_bool]
    refine p_is_kind_a p0 p2 s0 s1 ok ?_
    simp [-Bool.exists_bool]
    exact p_is_kind_s p0 p2 z0 z1 n0 (by omega) (.now h)
  | struck p s n =>
    obtain ⟨⟨p0, p2⟩, ⟨s0, s1⟩, n0, n1⟩ := ok
    simp only [ltD] at hd hp ⊢
    simp [-Bool.exists_bool, tySub]
    refine f_eqP' false hp rfl (by omega) (by decide) (by simp) ?_
    simp [-Bool.exists_bool, L2.atI, L2.ixN, lookS, tab_LENGTHS, dvD, tySub]
    refine p_is_pot p0 p2 ?_
    simp [-Bool.exists_bool]
    exact p_is_kind_s p0 p2 s0 s1 n0 (by omega) (.now h)
  | ask p st =>
    obtain ⟨⟨p0, p2⟩, ok, e⟩ := ok
    simp only [ltD] at hd hp ⊢
    simp [-Bool.exists_bool, tySub]
    refine f_eqP' false hp rfl (by omega) (by decide) (by simp) ?_
    simp [-Bool.exists_bool, L2.atI, L2.ixN, lookS, tab_LENGTHS, dvD, tySub]
    refine p_is_pot p0 p2 ?_
    simp [-Bool.exists_bool]
    refine ⟨by show 3 ≤ sizeLine; decide, ?_⟩
    have := p_is_stand (RE := fun c S' => RE c S') (R := fun x S1 => Rz R x S1) ok (.now h)
    unfold stnD at this
    rw [e] at this
    exact this
  | word p =>
    obtain ⟨p0, p2⟩ := ok
    simp only [ltD] at hd hp ⊢
    simp [-Bool.exists_bool, tySub]
    refine f_eqP' false hp rfl (by omega) (by decide) (by simp) ?_
    simp [-Bool.exists_bool, L2.atI, L2.ixN, lookS, tab_LENGTHS, dvD, tySub]
    refine p_is_pot p0 p2 ?_
    simp [-Bool.exists_bool]
    exact ⟨by show 2 ≤ sizeLine; decide, p_is_thing_w (by decide) (by decide) (.now h)⟩
end
end L99
end

section
set_option Elab.async false
set_option linter.all false
set_option maxRecDepth 100000
set_option autoImplicit false
namespace L99
open SB PySem PySem.Spec L2
/-! accounts -/
inductive Wd where
  | calm | offered | waiting
def Wd.cls : Wd → String
  | .calm => "Calm"
  | .offered => "Offered"
  | .waiting => "Waiting"
def Wd.wd : Wd → String
  | .calm => "calm"
  | .offered => "offered"
  | .waiting => "waiting"
structure Ac where
  pot : Int
  side : Int
  w : Wd
  old : Stn
  new : Stn
  g : D
def Ac.mine (a : Ac) : Stn := match a.w with
  | .waiting => a.new
  | _ => a.old
def Ac.may (a : Ac) : List Stn := match a.w with
  | .calm => [a.old]
  | _ => [a.old, a.new]
def stk (n : Int) : List Int := (List.range n.toNat).map Int.ofNat
def stkD (n : Int) : D := .lst ((stk n).map .int)
def mayD (a : Ac) : D := .lst (a.may.map stnD)
def acF (a : Ac) : List (String × D) := [("pot", .int a.pot), ("side", .int a.side), ("dealt", .int a.old.sum), ("mine", stnD a.mine), ("grant", a.g), ("may", mayD a), ("strikes", stkD a.old.n)]
def acD (a : Ac) : D := .ins a.w.cls (acF a)
structure AcOk (k : Int) (a : Ac) : Prop where
  p0 : 0 ≤ a.pot
  p2 : a.pot ≤ 2
  s0 : 0 ≤ a.side
  s1 : a.side ≤ 1
  old : StnOk a.old
  new : a.w ≠ .calm → StnOk a.new ∧ a.new.n = a.old.n + 1 ∧ a.new.sum = a.old.sum
  n : a.old.n ≤ k
  gp : pl a.g = true
  gd : dp a.g ≤ 4
section
variable {S : Sto} {R : Pd} {RE : Px} {a : Ac}
@[simp] theorem g_pot' : fget "pot" (acD a) S R = R (.int a.pot) S := by simp [fget, acD, acF, look]
@[simp] theorem g_side' : fget "side" (acD a) S R = R (.int a.side) S := by simp [fget, acD, acF, look]
@[simp] theorem g_dealt' : fget "dealt" (acD a) S R = R (.int a.old.sum) S := by simp [fget, acD, acF, look]
@[simp] theorem g_mine' : fget "mine" (acD a) S R = R (stnD a.mine) S := by simp [fget, acD, acF, look]
@[simp] theorem g_grant' : fget "grant" (acD a) S R = R a.g S := by simp [fget, acD, acF, look]
@[simp] theorem g_may' : fget "may" (acD a) S R = R (mayD a) S := by simp [fget, acD, acF, look]
@[simp] theorem g_strikes' : fget "strikes" (acD a) S R = R (stkD a.old.n) S := by simp [fget, acD, acF, look]
@[simp] theorem i_st0 {s : Stn} : fIx (stnD s) (.int 0) S R = R (.int s.n) S := by simp [stnD, L2.atI, L2.ixN]
@[simp] theorem i_st1 {s : Stn} : fIx (stnD s) (.int 1) S R = R (shD s) S := by simp [stnD, L2.atI, L2.ixN]
@[simp] theorem i_st2 {s : Stn} : fIx (stnD s) (.int 2) S R = R (tsD s) S := by simp [stnD, L2.atI, L2.ixN]
@[simp] theorem i_ag0 {p s : Int} {st : Stn} : fIx (agD p s st) (.int 0) S R = R (.str "agree") S := by simp [agD, L2.atI, L2.ixN]
@[simp] theorem i_ag1 {p s : Int} {st : Stn} : fIx (agD p s st) (.int 1) S R = R (.int p) S := by simp [agD, L2.atI, L2.ixN]
@[simp] theorem i_ag2 {p s : Int} {st : Stn} : fIx (agD p s st) (.int 2) S R = R (.int s) S := by simp [agD, L2.atI, L2.ixN]
@[simp] theorem i_ag3 {p s : Int} {st : Stn} : fIx (agD p s st) (.int 3) S R = R (stnD st) S := by simp [agD, L2.atI, L2.ixN]
def Ltr.kind : Ltr → String
  | .offer .. => "offer"
  | .accept .. => "accept"
  | .struck .. => "struck"
  | .ask .. => "ask"
  | .word .. => "word"
@[simp] theorem i_lt0 {l : Ltr} : fIx (ltD l) (.int 0) S R = R (.str (Str.ofString l.kind)) S := by cases l <;> simp [ltD, L2.atI, L2.ixN, Ltr.kind]
@[simp] theorem i_lt1 {l : Ltr} : fIx (ltD l) (.int 1) S R = R (.int l.pot) S := by cases l <;> simp [ltD, L2.atI, L2.ixN, Ltr.pot]
theorem mlook_ac {m : String} {cs : List (String × Nat × List D × SB.Spec)} {nd : Nat × List D × SB.Spec} {k : Nat × List D × SB.Spec → Prop} (h1 : look m (acF a) = none) (h2 : cs.lookup a.w.cls = some nd) (h : k nd) : mlook m cs (acD a) S k :=
  ⟨_, _, nd, rfl, h1, h2, h⟩
theorem p_word {k : Nat × List D × SB.Spec → Prop} (h : ∀ nd, nd.2.1 = [] → (∀ (S : Sto) (R : Pd) (RE : Px), R (.str (Str.ofString a.w.wd)) S → nd.2.2 [acD a] S R RE) → k nd) : mlook "word" cs_word (acD a) S k := by
  cases hw : a.w with
  | calm => exact mlook_ac (by simp [acF, look]) (nd := (1, [], φ_Calm_word)) (by rw [hw]; rfl) (h _ rfl fun S R RE h => ⟨rfl, by rw [hw] at h; simp [w_Calm_word]; exact .now h⟩)
  | offered => exact mlook_ac (by simp [acF, look]) (nd := (1, [], φ_Offered_word)) (by rw [hw]; rfl) (h _ rfl fun S R RE h => ⟨rfl, by rw [hw] at h; simp [w_Offered_word]; exact .now h⟩)
  | waiting => exact mlook_ac (by simp [acF, look]) (nd := (1, [], φ_Waiting_word)) (by rw [hw]; rfl) (h _ rfl fun S R RE h => ⟨rfl, by rw [hw] at h; simp [w_Waiting_word]; exact .now h⟩)
theorem stk_sorted (n : Int) : (stk n).Pairwise (· ≤ ·) := by
  unfold stk
  rw [List.pairwise_map]
  exact List.pairwise_le_range.imp (by intro a b h; exact Int.ofNat_le.mpr h)
theorem stk_len {n : Int} (h : n ≤ 1000) : (stk n).length ≤ 1000 := by simp [stk]; omega
theorem stk_succ {n : Int} (h : 0 ≤ n) : stk n ++ [n] = stk (n + 1) := by
  unfold stk
  have e : (n + 1).toNat = n.toNat + 1 := by omega
  rw [e, List.range_succ, List.map_append]
  simp
  omega
theorem p_init {p : Addr} {c : String} {pot side dealt n : Int} {m : Stn} {g : D} {l : List D} (hc : c ∈ ["Account", "Calm", "Offered", "Waiting"]) (hl : l.length ≤ 1000) (hn : n ≤ 1000)
    (h : R .non (S.set p (.ins c [("pot", .int pot), ("side", .int side), ("dealt", .int dealt), ("mine", stnD m), ("grant", g), ("may", .lst l), ("strikes", stkD n)]))) :
    φ_Account___init__ [.ref p, .int pot, .int side, .int dealt, stnD m, g, .lst l, stkD n] (S.set p (.ins c [])) R RE := by
  have hc' : ["Account", "Calm", "Offered", "Waiting"].contains c = true := by simpa using hc
  refine ⟨rfl, ?_⟩
  simp only [w_Account___init__, startE, N_Account___init__]
  simp [-Bool.exists_bool, putFd, fList]
  simp at hc'
  simp [hc']
  refine ⟨sz1000 hl, ?_⟩
  unfold stkD
  refine f_sortedI (stk_sorted n) (stk_len hn) ?_
  simp [hc', putFd]
  exact .now h
/-- an account made -/
theorem p_made {a : Ac} {p : Addr} (hp : S p = none) (hn : a.old.n ≤ 1000) (h : R (acD a) S) :
    φ_Account___init__ [.ref p, .int a.pot, .int a.side, .int a.old.sum, stnD a.mine, a.g, mayD a, stkD a.old.n] (S.set p (.ins a.w.cls [])) (fun v S2 => v = .non ∧ mkI false a.w.cls p R S2) RE := by
  refine p_init (by cases a.w <;> simp [Wd.cls]) ?_ hn ⟨rfl, acF a, by simp [acF, mayD], ?_⟩
  · simp [Ac.may]; split <;> simp
  · simp [Sto.del_none hp]
    exact h
theorem p_first_account {pot side l r : Int} (ok : StnOk ⟨0, l, r, []⟩) (h : R (acD ⟨pot, side, .calm, ⟨0, l, r, []⟩, ⟨0, l, r, []⟩, .non⟩) S) : φ_first_account [.int pot, .int side, .int l, .int r] S R RE := by
  refine ⟨rfl, ?_⟩
  simp [-Bool.exists_bool, w_first_account, startE, N_first_account]
  refine p_first ok ?_
  refine ⟨by show 1 ≤ sizeLine; decide, fun p hp => ?_⟩
  have := p_made (RE := RE) (R := fun x S1 => Rz R x S1) (a := ⟨pot, side, .calm, ⟨0, l, r, []⟩, ⟨0, l, r, []⟩, .non⟩) hp (by show (0 : Int) ≤ 1000; decide) (.now h)
  have e : (Stn.mk 0 l r []).sum = l + r := by simp [Stn.sum]
  rw [e] at this
  exact this
def agB (a : Ac) (p s : Int) (st : Stn) (sd : Int) : Bool := decide (p = a.pot) && (decide (s = sd) && (decide (st.n = a.mine.n + 1) && decide (st.sum = a.old.sum)))
theorem p_agrees {p s sd : Int} {st : Stn} (ok : StnOk st) (h : R (.bl (agB a p s st sd)) S) : φ_Account_agrees [acD a, agD p s st, .int sd] S R RE := by
  refine ⟨rfl, ?_⟩
  simp [-Bool.exists_bool, w_Account_agrees, startE, N_Account_agrees]
  unfold agB at h
  by_cases h1 : p = a.pot
  · by_cases h2 : s = sd
    · by_cases h3 : st.n = a.mine.n + 1
      · simp [-Bool.exists_bool, h1, h2, h3] at h ⊢
        refine p_deals ok ?_
        simp
        exact .now h
      · simp [h1, h2, h3] at h ⊢
        exact .now h
    · simp [h1, h2] at h ⊢
      exact .now h
  · simp [h1] at h ⊢
    exact .now h
theorem m_agrees {k : Nat × List D × SB.Spec → Prop} (h : k (3, [], φ_Account_agrees)) : mlook "agrees" cs_agrees (acD a) S k :=
  mlook_ac (by simp [acF, look]) (by cases a.w <;> rfl) h
/-! what a letter does, by the document -/
def fitB (a : Ac) (l : Ltr) : Bool := match a.w, l with
  | .calm, .offer p s st => decide (a.side = 1) && agB a p s st 0
  | .offered, .accept p s st s2 n => decide (p = a.pot ∧ s = 1 ∧ st = a.new) && decide (p = a.pot ∧ s2 = 1 ∧ n = a.old.n)
  | .waiting, .struck p s n => decide (p = a.pot ∧ s = 0 ∧ n = a.old.n)
  | _, _ => false
theorem tie_inj {t u : Tie} (h : tieD t = tieD u) : t = u := by
  obtain ⟨p, a, w, d⟩ := t
  obtain ⟨p', a', w', d'⟩ := u
  simp [tieD] at h
  simp [h]
theorem tsl_inj : ∀ {l m : List Tie}, l.map tieD = m.map tieD → l = m
  | [], [], _ => rfl
  | [], _ :: _, h => by simp at h
  | _ :: _, [], h => by simp at h
  | t :: l, u :: m, h => by
    simp at h
    rw [tie_inj h.1, tsl_inj h.2]
theorem stn_inj {s t : Stn} (h : stnD s = stnD t) : s = t := by
  obtain ⟨n, l, r, ts⟩ := s
  obtain ⟨n', l', r', ts'⟩ := t
  simp [stnD, shD, tsD] at h
  rw [tsl_inj h.2.2]
  simp [h]
theorem ag_iff {p s p' s' : Int} {st st' : Stn} : agD p s st = agD p' s' st' ↔ p = p' ∧ s = s' ∧ st = st' := by
  constructor
  · intro h
    simp [agD] at h
    exact ⟨h.1, h.2.1, stn_inj h.2.2⟩
  · rintro ⟨rfl, rfl, rfl⟩; rfl
theorem sk_iff {p s p' s' n n' : Int} : skD p s n = skD p' s' n' ↔ p = p' ∧ s = s' ∧ n = n' := by simp [skD]
theorem f_eqAg {neg : Bool} {p s p' s' : Int} {st st' : Stn} (h : R (.bl (neg ^^ decide (p = p' ∧ s = s' ∧ st = st'))) S) : fEq neg (agD p s st) (agD p' s' st') S R :=
  f_eqP' _ (pl_ag ..) (pl_ag ..) (Nat.le_trans (dp_ag ..) (by decide)) (Nat.le_trans (dp_ag ..) (by decide)) (by rw [decide_eq_true_iff]; exact ag_iff.symm) h
theorem f_eqSk {neg : Bool} {p s p' s' n n' : Int} (h : R (.bl (neg ^^ decide (p = p' ∧ s = s' ∧ n = n'))) S) : fEq neg (skD p s n) (skD p' s' n') S R :=
  f_eqP' _ (pl_sk ..) (pl_sk ..) (Nat.le_trans (dp_sk ..) (by decide)) (Nat.le_trans (dp_sk ..) (by decide)) (by rw [decide_eq_true_iff]; exact sk_iff.symm) h
@[simp] theorem i_may0 {a : Ac} : fIx (mayD a) (.int 0) S R = R (stnD a.old) S := by
  simp [mayD, Ac.may, L2.atI]; cases a.w <;> simp [L2.ixN]
theorem i_may1 {a : Ac} (h : a.w ≠ .calm) : fIx (mayD a) (.int 1) S R = R (stnD a.new) S := by
  simp [mayD, Ac.may, L2.atI]; cases e : a.w <;> simp_all [L2.ixN]
theorem p_fits {l : Ltr} (ka : Int) (hk : ka ≤ 900) (oa : AcOk ka a) (ol : LtOk l) {k : Nat × List D × SB.Spec → Prop} (h : ∀ nd, nd.2.1 = [] → (∀ (S : Sto) (R : Pd) (RE : Px), R (.bl (fitB a l)) S → nd.2.2 [acD a, ltD l] S R RE) → k nd) : mlook "fits" cs_fits (acD a) S k := by
  cases hw : a.w with
  | calm =>
    refine mlook_ac (by simp [acF, look]) (nd := (2, [], φ_Calm_fits)) (by rw [hw]; rfl) (h _ rfl fun S R RE h => ⟨rfl, ?_⟩)
    simp [-Bool.exists_bool, w_Calm_fits, startE, N_Calm_fits]
    unfold fitB at h
    rw [hw] at h
    by_cases h1 : a.side = 1
    · cases l with
      | offer p s st =>
        simp [-Bool.exists_bool, h1, Ltr.kind, ltD, L2.atI, L2.ixN] at h ⊢
        refine m_agrees ?_
        simp [-Bool.exists_bool]
        exact p_agrees ol.2.2 (.now h)
      | _ =>
        simp [-Bool.exists_bool, h1, Ltr.kind] at h ⊢
        exact .now h
    · have h' : R (.bl false) S := by cases l <;> simpa [h1] using h
      simp [h1]
      exact .now h'
  | offered =>
    refine mlook_ac (by simp [acF, look]) (nd := (2, [], φ_Offered_fits)) (by rw [hw]; rfl) (h _ rfl fun S R RE h => ⟨rfl, ?_⟩)
    have em : a.mine = a.old := by simp [Ac.mine, hw]
    have e1 : ∀ (S : Sto) (R : Pd), fIx (mayD a) (.int 1) S R = R (stnD a.new) S := fun S R => i_may1 (by rw [hw]; simp)
    simp [-Bool.exists_bool, w_Offered_fits, startE, N_Offered_fits, e1, em]
    unfold fitB at h
    rw [hw] at h
    cases l with
    | accept p s st s2 n =>
      have h0 : R (.bl (decide (p = a.pot ∧ s = 1 ∧ st = a.new) && decide (p = a.pot ∧ s2 = 1 ∧ n = a.old.n))) S := h
      clear h
      simp [-Bool.exists_bool, Ltr.kind, ltD, L2.atI, L2.ixN]
      refine ⟨by show 4 ≤ sizeLine; decide, ?_⟩
      refine f_eqAg (p' := a.pot) (s' := 1) (st' := a.new) ?_
      by_cases hc : p = a.pot ∧ s = 1 ∧ st = a.new
      · rw [decide_eq_true hc] at h0 ⊢
        simp [-Bool.exists_bool]
        refine ⟨by show 4 ≤ sizeLine; decide, ?_⟩
        refine f_eqSk (p' := a.pot) (s' := 1) (n' := a.old.n) ?_
        rw [Bool.true_and] at h0
        rw [Bool.false_xor]
        exact .now h0
      · rw [decide_eq_false hc] at h0 ⊢
        simp [-Bool.exists_bool]
        exact .now h0
    | _ =>
      simp [-Bool.exists_bool, Ltr.kind] at h ⊢
      exact .now h
  | waiting =>
    refine mlook_ac (by simp [acF, look]) (nd := (2, [], φ_Waiting_fits)) (by rw [hw]; rfl) (h _ rfl fun S R RE h => ⟨rfl, ?_⟩)
    simp [-Bool.exists_bool, w_Waiting_fits, startE, N_Waiting_fits]
    unfold fitB at h
    rw [hw] at h
    cases l with
    | struck p s n =>
      simp [-Bool.exists_bool, Ltr.kind, ltD, L2.atI, L2.ixN] at h ⊢
      refine ⟨by show 4 ≤ sizeLine; decide, ?_⟩
      refine f_eqSk (p' := a.pot) (s' := 0) (n' := a.old.n) ?_
      simp
      exact .now h
    | _ =>
      simp [-Bool.exists_bool, Ltr.kind] at h ⊢
      exact .now h
end
end L99
end

section
set_option Elab.async false
set_option linter.all false
set_option maxRecDepth 100000
set_option autoImplicit false
namespace L99
open SB PySem PySem.Spec L2
@[simp] theorem sz_1 : 1 ≤ sizeLine := by decide
@[simp] theorem sz_2 : 2 ≤ sizeLine := by decide
@[simp] theorem sz_3 : 3 ≤ sizeLine := by decide
@[simp] theorem sz_4 : 4 ≤ sizeLine := by decide
@[simp] theorem sz_5 : 5 ≤ sizeLine := by decide
@[simp] theorem sz_6 : 6 ≤ sizeLine := by decide
@[simp] theorem sz_7 : 7 ≤ sizeLine := by decide
@[simp] theorem sz_8 : 8 ≤ sizeLine := by decide
/-- the account behind a letter that fits, and the answer -/
def nextA (a : Ac) : Ltr → Ac × Option Ltr
  | .offer p s st => ({ a with w := .waiting, new := st, g := agD p s st }, some (.accept a.pot 1 st 1 a.old.n))
  | .accept p s st _ _ => ({ a with w := .calm, old := a.new, g := agD p s st }, some (.struck a.pot 0 a.old.n))
  | .struck _ _ _ => ({ a with w := .calm, old := a.new }, none)
  | _ => (a, none)
def step (a : Ac) (l : Ltr) : Ac × Option Ltr := if fitB a l = true then nextA a l else (a, none)
def optD : Option Ltr → D
  | none => .non
  | some l => ltD l
theorem sz1001 {n : Nat} (h : n ≤ 1000) : n + 1 ≤ sizeLine := Nat.le_trans (Nat.succ_le_succ h) (by decide)
theorem fit_pot {a : Ac} {l : Ltr} (h : fitB a l = true) : l.pot = a.pot := by
  unfold fitB at h
  split at h
  · simp [agB] at h; exact h.2.1
  · simp at h; exact h.1.1
  · simp at h; exact h.1
  · cases h
section
variable {S : Sto} {R : Pd} {RE : Px} {a : Ac}
theorem p_taken {l : Ltr} {k : Int} (hk : k ≤ 900) (oa : AcOk k a) (ol : LtOk l) (h : R (.tup [acD (step a l).1, optD (step a l).2]) S) : φ_Account_taken [acD a, ltD l] S R RE := by
  refine ⟨rfl, ?_⟩
  have hn : a.old.n ≤ 1000 := Int.le_trans oa.n (by omega)
  have hno : (a, none) = step a l → R (.tup [acD a, .non]) S := fun e => by rw [← e] at h; exact h
  simp [-Bool.exists_bool, w_Account_taken, startE, N_Account_taken]
  refine p_is_letter ol ?_
  simp [-Bool.exists_bool]
  by_cases hp : l.pot = a.pot
  · simp [-Bool.exists_bool, hp]
    refine p_fits k hk oa ol fun nd e hnd => ?_
    rw [e]
    refine hnd _ _ _ ?_
    simp [-Bool.exists_bool]
    by_cases hf : fitB a l = true
    · have es : step a l = nextA a l := if_pos hf
      rw [es] at h
      simp [-Bool.exists_bool, hf]
      have hfit := hf
      unfold fitB at hf
      cases hw : a.w with
      | calm =>
        rw [hw] at hf
        cases l with
        | offer p s st =>
          refine mlook_ac (by simp [acF, look]) (nd := (2, [], φ_Calm_behind)) (by rw [hw]; rfl) ⟨rfl, ?_⟩
          have em : a.mine = a.old := by simp [Ac.mine, hw]
          simp [-Bool.exists_bool, w_Calm_behind, startE, N_Calm_behind, ltD, L2.atI, L2.ixN, em]
          intro q hq
          refine p_made (a := { a with w := .waiting, new := st, g := agD p s st }) hq hn ?_
          exact .now (.now h)
        | _ => cases hf
      | offered =>
        rw [hw] at hf
        cases l with
        | accept p s st s2 n =>
          refine mlook_ac (by simp [acF, look]) (nd := (2, [], φ_Offered_behind)) (by rw [hw]; rfl) ⟨rfl, ?_⟩
          have em : a.mine = a.old := by simp [Ac.mine, hw]
          have h1000 : a.old.n + 1 ≤ 1000 := by have := oa.n; omega
          have e1 : ∀ (S : Sto) (R : Pd), fIx (mayD a) (.int 1) S R = R (stnD a.new) S := fun S R => i_may1 (by rw [hw]; simp)
          obtain ⟨_, n1, n2⟩ := oa.new (by rw [hw]; simp)
          have es : stkD a.old.n = .lst ((stk a.old.n).map .int) := rfl
          simp [-Bool.exists_bool, w_Offered_behind, startE, N_Offered_behind, ltD, L2.atI, L2.ixN, em, e1, es]
          refine ⟨by have := stk_len hn; refine sz1001 ?_; simpa using this, fun q hq => ?_⟩
          have := p_made (S := S) (RE := fun c S' => RE c S') (R := fun x S1 => Rz (fun x S1 => Rz R x S1) (.tup [x, ltD (.struck a.pot 0 a.old.n)]) S1) (a := { a with w := .calm, old := a.new, g := agD p s st }) hq (by show a.new.n ≤ 1000; omega) (.now (.now h))
          rw [show (a.new).sum = a.old.sum from n2] at this
          unfold stkD at this
          rw [show a.new.n = a.old.n + 1 from n1, ← stk_succ oa.old.n0, List.map_append] at this
          exact this
        | _ => cases hf
      | waiting =>
        rw [hw] at hf
        cases l with
        | struck p s n =>
          refine mlook_ac (by simp [acF, look]) (nd := (2, [], φ_Waiting_behind)) (by rw [hw]; rfl) ⟨rfl, ?_⟩
          have em : a.mine = a.new := by simp [Ac.mine, hw]
          obtain ⟨_, n1, n2⟩ := oa.new (by rw [hw]; simp)
          have es : stkD a.old.n = .lst ((stk a.old.n).map .int) := rfl
          simp [-Bool.exists_bool, w_Waiting_behind, startE, N_Waiting_behind, ltD, L2.atI, L2.ixN, em, es]
          refine ⟨by have := stk_len hn; refine sz1001 ?_; simpa using this, fun q hq => ?_⟩
          have := p_made (S := S) (RE := fun c S' => RE c S') (R := fun x S1 => Rz (fun x S1 => Rz R x S1) (.tup [x, .non]) S1) (a := { a with w := .calm, old := a.new }) hq (by show a.new.n ≤ 1000; have := oa.n; omega) (.now (.now h))
          rw [show (a.new).sum = a.old.sum from n2] at this
          unfold stkD at this
          rw [show a.new.n = a.old.n + 1 from n1, ← stk_succ oa.old.n0, List.map_append] at this
          exact this
        | _ => cases hf
    · have es : step a l = (a, none) := if_neg hf
      simp [-Bool.exists_bool, hf]
      exact .now (hno es.symm)
  · have es : step a l = (a, none) := if_neg fun z => hp (fit_pot z)
    simp [-Bool.exists_bool, hp]
    exact .now (hno es.symm)
theorem m_taken {k : Nat × List D × SB.Spec → Prop} (h : k (2, [], φ_Account_taken)) : mlook "taken" cs_taken (acD a) S k :=
  mlook_ac (by simp [acF, look]) (by cases a.w <;> rfl) h
/-! an offer -/
def offN (a : Ac) (st : Stn) : Stn := { st with n := a.old.n + 1 }
def offA (a : Ac) (st : Stn) : Ac := { a with w := .offered, new := offN a st }
def offL (a : Ac) (st : Stn) : Ltr := .offer a.pot 0 (offN a st)
inductive Off where
  | deed | stand | ok
def offO (a : Ac) (st : Stn) : Off := if a.side = 0 ∧ a.w.wd = "calm" then (if (offN a st).sum = a.old.sum then .ok else .stand) else .deed
theorem p_offered {st : Stn} {k : Int} (hk : k ≤ 900) (oa : AcOk k a) (os : StnOk st) (h : match offO a st with
    | .deed => RE "NoDeed" S
    | .stand => RE "NoStand" S
    | .ok => R (.tup [acD (offA a st), ltD (offL a st)]) S) : φ_offered [acD a, shD st, tsD st] S R RE := by
  refine ⟨rfl, ?_⟩
  have hn : a.old.n ≤ 1000 := Int.le_trans oa.n (by omega)
  have on : StnOk (offN a st) := ⟨by show 0 ≤ a.old.n + 1; have := oa.old.n0; omega, by show a.old.n + 1 ≤ 1000; have := oa.n; omega, os.l0, os.l1, os.r0, os.r1, os.len, os.ok, os.nd⟩
  unfold offO at h
  simp [-Bool.exists_bool, w_offered, startE, N_offered]
  by_cases h1 : a.side = 0
  · simp [-Bool.exists_bool, h1]
    refine p_word fun nd e hnd => ?_
    rw [e]
    refine hnd _ _ _ ?_
    by_cases h2 : a.w.wd = "calm"
    · have em : a.mine = a.old := by
        unfold Wd.wd at h2
        unfold Ac.mine
        split at h2 <;> simp_all
      simp [-Bool.exists_bool, h2, em]
      refine p_is_stand (s := offN a st) on ?_
      simp [-Bool.exists_bool]
      refine p_deals (s := offN a st) on ?_
      by_cases h3 : (offN a st).sum = a.old.sum
      · simp [-Bool.exists_bool, h3, L2.atI, L2.ixN]
        rw [if_pos ⟨h1, h2⟩, if_pos h3] at h
        refine p_stand (n := a.old.n + 1) (s := st) on ?_
        intro q hq
        have := p_made (S := S) (RE := fun c S' => RE c S') (R := fun x S1 => Rz R (.tup [x, ltD (offL a st)]) S1) (a := offA a st) hq hn (.now h)
        rw [show (offA a st).side = 0 from h1] at this
        have e2 : (offA a st).mine = a.old := rfl
        rw [e2] at this
        exact this
      · simp [-Bool.exists_bool, h3]
        rw [if_pos ⟨h1, h2⟩, if_neg h3] at h
        exact h
    · simp [-Bool.exists_bool, h2]
      rw [if_neg fun z => h2 z.2] at h
      exact h
  · simp [-Bool.exists_bool, h1]
    rw [if_neg fun z => h1 z.1] at h
    exact h
end
end L99
end

section
set_option Elab.async false
set_option linter.all false
set_option maxRecDepth 100000
set_option autoImplicit false
namespace L99
open SB PySem PySem.Spec L2
section
variable {ς : En} {S : Sto} {R : Pd} {RE : Px} {wa we : WpE} {was : WpA} {ks : List Key}
theorem s_dictF : wDict false ks was ς S R RE = ∀ p, S p = none → was ς (S.set p (.dct [])) (fun xs S1 => S1 p = some (.dct []) ∧ xs.length = ks.length ∧ ks.length ≤ 15 ∧ R (.dct (mergeD [] (ks.zip xs))) (S1.del p)) RE := rfl
@[simp] theorem s_sl {own : Bool} {wl wh : Option WpE} : wSl own we wl wh ς S R RE = we ς S (fun x S1 => wPart wl ς S1 (fun lo S2 => wPart wh ς S2 (fun hi S3 => fSl own x lo hi S3 R) RE) RE) RE := rfl
@[simp] theorem s_partN {R : Option Int → Sto → Prop} : wPart none ς S R RE = R none S := rfl
@[simp] theorem s_partS {R : Option Int → Sto → Prop} : wPart (some we) ς S R RE = we ς S (fun x S1 => ∃ i, x = .int i ∧ R (some i) S1) RE := rfl
@[simp] theorem f_slT {own : Bool} {l : List D} {lo hi : Option Int} : fSl own (.tup l) lo hi S R = R (.tup (cutD l lo hi)) S := rfl
@[simp] theorem f_slL {l : List D} {lo hi : Option Int} : fSl false (.lst l) lo hi S R = ((cutD l lo hi).length ≤ sizeLine ∧ R (.lst (cutD l lo hi)) S) := rfl
theorem f_update {a : Addr} {l m : List (Key × D)} (h : S a = some (.dct l)) (hl : l.length + m.length ≤ 1000) (hR : R .non (S.set a (.dct (mergeD l m)))) : fUpdate (.ref a) [.dct m] S R :=
  ⟨a, l, _, m, rfl, h, rfl, rfl, (fun z => by cases z), sz1000 hl, hR⟩
/-! what the law keeps of an account -/
def dueF (a : Ac) : List (Key × D) := [(.inr "pot", .int a.pot), (.inr "side", .int a.side), (.inr "mine", stnD a.mine), (.inr "grant", a.g), (.inr "may", mayD a), (.inr "strikes", stkD a.old.n), (.inr "word", .str (Str.ofString a.w.wd))]
def dueD (a : Ac) : D := .dct (dueF a)
variable {a : Ac}
theorem look_due {k : String} {x : D} (h : lookK (.inr (Str.ofString k)) (dueF a) = some x) : fIx (dueD a) (.str (Str.ofString k)) S R = R x S := by
  unfold dueD
  rw [f_ixD, h]
  simp
@[simp] theorem d_pot : fIx (dueD a) (.str "pot") S R = R (.int a.pot) S := look_due (by simp [dueF, lookK])
@[simp] theorem d_side : fIx (dueD a) (.str "side") S R = R (.int a.side) S := look_due (by simp [dueF, lookK])
@[simp] theorem d_mine : fIx (dueD a) (.str "mine") S R = R (stnD a.mine) S := look_due (by simp [dueF, lookK])
@[simp] theorem d_grant : fIx (dueD a) (.str "grant") S R = R a.g S := look_due (by simp [dueF, lookK])
@[simp] theorem d_may : fIx (dueD a) (.str "may") S R = R (mayD a) S := look_due (by simp [dueF, lookK])
@[simp] theorem d_strikes : fIx (dueD a) (.str "strikes") S R = R (stkD a.old.n) S := look_due (by simp [dueF, lookK])
@[simp] theorem d_word : fIx (dueD a) (.str "word") S R = R (.str (Str.ofString a.w.wd)) S := look_due (by simp [dueF, lookK])
theorem p__law_deals {s : Stn} (ok : StnOk s) (h : R (.int s.sum) S) : φ__law_deals [stnD s] S R RE := by
  refine ⟨rfl, ?_⟩
  simp [-Bool.exists_bool, w__law_deals, startE, N__law_deals]
  unfold shD tsD
  simp [intL2]
  intro p hp
  refine lc_map (fun t => .int t.a) (sz1000 (by have := ok.len; omega)) (fun t ht => ⟨_, rfl, fun S R h => ?_⟩) ?_ p hp
  · simp [wipeE, tieD, L2.atI, L2.ixN]
    exact h
  simp [intL_mapF (f := fun t : Tie => D.int t.a) (g := Tie.a) (fun _ _ => rfl)]
  refine .now ?_
  have : s.l + s.r + (s.ts.map Tie.a).sum = s.sum := rfl
  simpa [this] using h
theorem p__law_is_stand {s : Stn} (ok : StnOk s) (h : R (.bl true) S) : φ__law_is_stand [stnD s] S R RE := by
  refine ⟨rfl, ?_⟩
  simp [-Bool.exists_bool, w__law_is_stand, startE, N__law_is_stand]
  have e : ∀ (ς : En), Tgs.bind (.cons (.nm 1) (.cons (.nm 2) (.cons (.nm 3) .nil))) [.int s.n, shD s, tsD s] ς = some (((ς.set 1 (some (.int s.n))).set 2 (some (shD s))).set 3 (some (tsD s))) := fun _ => rfl
  unfold stnD
  simp [-Bool.exists_bool]
  unfold tsD
  simp [-Bool.exists_bool]
  intro p hp
  refine lc_map (fun t => .int t.w) (sz1000 (by have := ok.len; omega)) (fun t ht => ⟨_, rfl, fun S R h => ?_⟩) ?_ p hp
  · simp [wipeE, tieD, L2.atI, L2.ixN]
    exact h
  have hn : s.n ≤ 1000000 := by have := ok.n1; omega
  simp [-Bool.exists_bool, L2.CPow, cmpLe, hn, cmpGe]
  refine ⟨[.int s.l, .int s.r], [s.l, s.r], rfl, rfl, Nat.zero_lt_two, fun m hm _ => ?_⟩
  have : 0 ≤ m := by
    simp at hm
    rcases hm with rfl | rfl
    · exact ok.l0
    · exact ok.r0
  simp [-Bool.exists_bool, this]
  refine ⟨s.ts.map Tie.w, intL_mapF (fun _ _ => rfl), ok.nd, by have := ok.len; simp; omega, ?_⟩
  simp
  exact .now h
theorem p__law_begun {pot side l r : Int} (h : R (dueD ⟨pot, side, .calm, ⟨0, l, r, []⟩, ⟨0, l, r, []⟩, .non⟩) S) : φ__law_begun [.int pot, .int side, .int l, .int r] S R RE := by
  refine ⟨rfl, ?_⟩
  simp [-Bool.exists_bool, w__law_begun, startE, N__law_begun, s_dictF]
  intro p hp
  simp [Sto.del_none hp]
  exact .now h
@[simp] theorem isO_ac : isO owncs ownsub "Account" (acD a) S R = R (.bl true) S := by
  have h1 : ∀ w : Wd, w.cls ∈ owncs ∧ ownsub w.cls "Account" = true := fun w => by cases w <;> exact ⟨by decide, by decide⟩
  have := h1 a.w
  simp [isO, acD, this]
theorem pl_may (a : Ac) : pl (mayD a) = true := plL_map fun _ _ => pl_stn _
theorem dp_may (a : Ac) : dp (mayD a) ≤ 4 := by
  have := dpL_map (f := stnD) (k := 3) (m := a.may) fun s _ => dp_stn s
  simp [mayD]; omega
theorem pl_stk (n : Int) : pl (stkD n) = true := plL_map fun _ _ => rfl
theorem dp_stk (n : Int) : dp (stkD n) ≤ 1 := by
  have := dpL_map (f := D.int) (k := 0) (m := stk n) fun s _ => Nat.le_refl _
  simp [stkD]; omega
theorem p__law_same {k : Int} (hk : k ≤ 900) (oa : AcOk k a) (h : R (.bl true) S) : φ__law_same [acD a, dueD a] S R RE := by
  refine ⟨rfl, ?_⟩
  simp [-Bool.exists_bool, w__law_same, startE, N__law_same]
  refine p_word fun nd e hnd => ?_
  rw [e]
  refine hnd _ _ _ ?_
  have hp : pl (.tup [.int a.pot, .int a.side, stnD a.mine, a.g, mayD a, stkD a.old.n, .str (Str.ofString a.w.wd)]) = true := by simp [oa.gp, pl_may, pl_stk]
  have hd : dp (.tup [.int a.pot, .int a.side, stnD a.mine, a.g, mayD a, stkD a.old.n, .str (Str.ofString a.w.wd)]) ≤ 64 := by
    have h1 := dp_stn a.mine
    have h2 := oa.gd
    have h3 := dp_may a
    have h4 := dp_stk a.old.n
    simp; omega
  exact f_eqP' true hp hp hd hd (by simp) (.now h)
@[simp] theorem f_dictDue : fDict true [dueD a] S R = ∀ p, S p = none → R (.ref p) (S.set p (.dct (dueF a))) := by
  have : fDict true [dueD a] S R = ((dueF a).length ≤ sizeLine ∧ ∀ p, S p = none → R (.ref p) (S.set p (.dct (dueF a)))) := rfl
  rw [this]
  simp [dueF]
/-! a strike, by the law -/
def strA (a : Ac) : Ac := { a with w := .calm, old := a.new }
theorem p__law_struck {k : Int} (oa : AcOk k a) (hw : a.w ≠ .calm) (hk : k ≤ 900) (h : ∀ p, S p = none → R (.ref p) (S.set p (.dct (dueF (strA a))))) : φ__law_struck [dueD a] S R RE := by
  refine ⟨rfl, ?_⟩
  have hn : a.old.n ≤ 1000 := Int.le_trans oa.n (by omega)
  obtain ⟨_, n1, n2⟩ := oa.new hw
  have e1 : ∀ (S : Sto) (R : Pd), fIx (mayD a) (.int 1) S R = R (stnD a.new) S := fun S R => i_may1 hw
  have em : mayD a = .lst [stnD a.old, stnD a.new] := by
    have : a.may = [a.old, a.new] := by unfold Ac.may; split <;> simp_all
    simp [mayD, this]
  have es : stkD a.old.n = .lst ((stk a.old.n).map .int) := rfl
  have ed : dueD a = .dct (dueF a) := rfl
  simp [-Bool.exists_bool, w__law_struck, startE, N__law_struck, e1]
  intro p hp
  refine ⟨tyM_refD (by simp : (S.set p (.dct (dueF a))) p = some (.dct (dueF a))), ?_⟩
  rw [s_dictF]
  intro q hq
  simp [-Bool.exists_bool, em, es, L2.atI, L2.ixN, cutD, HT.sIx]
  refine ⟨sz1001 (by simpa using stk_len hn), ?_⟩
  rw [Sto.del_none hq]
  refine f_update (l := dueF a) (by simp) (by show 7 + 3 ≤ 1000; decide) ?_
  simp [fSetI, SB.keyOf]
  have e2 : putD (.inr "word") (.str "calm") (mergeD (dueF a) [(.inr "mine", stnD a.new), (.inr "may", .lst [stnD a.new]), (.inr "strikes", .lst ((stk a.old.n).map .int ++ [.int a.old.n]))]) = dueF (strA a) := by
    have e3 : stkD a.new.n = .lst ((stk a.old.n).map .int ++ [.int a.old.n]) := by
      unfold stkD
      rw [n1, ← stk_succ oa.old.n0]
      simp
    have e4 : stkD (strA a).old.n = stkD a.new.n := rfl
    unfold dueF
    rw [e4, e3]
    simp [mergeD, putD, strA, Ac.mine, mayD, Ac.may, Wd.wd]
  have e0 : mergeD [] [((.inr "mine" : Key), stnD a.new), (.inr "may", .lst [stnD a.new]), (.inr "strikes", .lst ((stk a.old.n).map .int ++ [.int a.old.n]))] = [(.inr "mine", stnD a.new), (.inr "may", .lst [stnD a.new]), (.inr "strikes", .lst ((stk a.old.n).map .int ++ [.int a.old.n]))] := by simp [mergeD, putD]
  rw [e0]
  have e5 := mergeD_length [((.inr "mine" : Key), stnD a.new), (.inr "may", .lst [stnD a.new]), (.inr "strikes", .lst ((stk a.old.n).map .int ++ [.int a.old.n]))] (dueF a)
  refine ⟨Nat.le_trans (Nat.succ_le_succ e5) (by show 7 + 3 + 1 ≤ sizeLine; decide), ?_⟩
  rw [e2]
  exact .now (h p hp)
end
end L99
end

section
set_option Elab.async false
set_option linter.all false
set_option maxRecDepth 100000
set_option autoImplicit false
namespace L99
open SB PySem PySem.Spec L2
section
variable {ς : En} {S : Sto} {R : Pd} {RE : Px} {a : Ac}
theorem ret_pair {p : Addr} {l : List (Key × D)} {L : D} (hp : S p = none) (hL : pl L = true) (h : R (.tup [.dct l, L]) S) : Rz R (.tup [.ref p, L]) (S.set p (.dct l)) := by
  refine ⟨sb p (.dct l) (.tup [.ref p, L]), (S.set p (.dct l)).del p, Frz.sub (o := .dct l) (by simp) rfl, ?_⟩
  rw [sb, subL, subL, subL, sb, if_pos rfl, (sb_pl p _).1 L hL, Sto.del_set, Sto.del_none hp]
  exact h
theorem p__law_offered_of {st : Stn} {k : Int} (hk : k ≤ 900) (oa : AcOk k a) (os : StnOk st) (h : match offO a st with
    | .deed => R (.str "deed") S
    | .stand => R (.str "stand") S
    | .ok => R (.tup [dueD (offA a st), ltD (offL a st)]) S) : φ__law_offered_of [dueD a, shD st, tsD st] S R RE := by
  refine ⟨rfl, ?_⟩
  have hn : a.old.n ≤ 1000 := Int.le_trans oa.n (by omega)
  have on : StnOk (offN a st) := ⟨by show 0 ≤ a.old.n + 1; have := oa.old.n0; omega, by show a.old.n + 1 ≤ 1000; have := oa.n; omega, os.l0, os.l1, os.r0, os.r1, os.len, os.ok, os.nd⟩
  unfold offO at h
  simp [-Bool.exists_bool, w__law_offered_of, startE, N__law_offered_of]
  by_cases h1 : a.side = 0
  · by_cases h2 : a.w.wd = "calm"
    · have hw : a.w = .calm := by cases hw : a.w <;> simp_all [Wd.wd]
      have em : a.mine = a.old := by simp [Ac.mine, hw]
      simp [-Bool.exists_bool, h1, h2, em]
      refine p__law_is_stand (s := offN a st) on ?_
      simp [-Bool.exists_bool]
      refine p__law_deals (s := offN a st) on ?_
      refine p__law_deals oa.old ?_
      by_cases h3 : (offN a st).sum = a.old.sum
      · rw [if_pos ⟨h1, h2⟩, if_pos h3] at h
        simp [-Bool.exists_bool, h3]
        intro p hp
        refine ⟨tyM_refD (by simp : (S.set p (.dct (dueF a))) p = some (.dct (dueF a))), ?_⟩
        rw [s_dictF]
        intro q hq
        simp [-Bool.exists_bool, em]
        rw [Sto.del_none hq]
        refine f_update (l := dueF a) (by simp) (by show 7 + 2 ≤ 1000; decide) ?_
        have e2 : mergeD (dueF a) (mergeD [] [((.inr "may" : Key), .lst [stnD a.old, .tup [.int (a.old.n + 1), shD st, tsD st]]), (.inr "word", .str "offered")]) = dueF (offA a st) := by
          have e3 : (offA a st).mine = a.mine := by rw [em]; rfl
          have e4 : mayD (offA a st) = .lst [stnD a.old, stnD (offN a st)] := rfl
          unfold dueF
          rw [e3, e4]
          simp [mergeD, putD, offA, Wd.wd]
          rfl
        rw [e2]
        simp
        exact ret_pair (L := ltD (offL a st)) hp (pl_lt _) h
      · rw [if_pos ⟨h1, h2⟩, if_neg h3] at h
        simp [-Bool.exists_bool, h3]
        exact .now h
    · simp [-Bool.exists_bool, h1, h2]
      rw [if_neg fun z => h2 z.2] at h
      exact .now h
  · simp [-Bool.exists_bool, h1]
    rw [if_neg fun z => h1 z.1] at h
    exact .now h
/-- what comes behind a statement, left as it is -/
def later (b : WpS) : WpS := b
theorem later_of {b : WpS} {ς : En} {S : Sto} {E : ES} {XE : PxE} (h : b ς S E XE) : later b ς S E XE := h
theorem s_seqL {p q : WpS} {ς : En} {S : Sto} {E : ES} {XE : PxE} : wSeq p q ς S E XE = p ς S { E with nx := fun ς' S' => later q ς' S' E XE } XE := rfl
@[simp] theorem i_lto {p s : Int} {st : Stn} : fIx (ltD (.offer p s st)) (.int 2) S R = R (agD p s st) S := by simp [ltD, L2.atI, L2.ixN]
@[simp] theorem i_lta {p s s2 n : Int} {st : Stn} : fIx (ltD (.accept p s st s2 n)) (.int 2) S R = R (agD p s st) S := by simp [ltD, L2.atI, L2.ixN]
@[simp] theorem f_slAg {p s : Int} {st : Stn} : fSl false (agD p s st) none (some 3) S R = R (.tup [.str "agree", .int p, .int s]) S := by
  simp [agD, cutD, HT.sIx]
/-! a letter, by the law -/
theorem wd_iff {w : Wd} : (w.wd = "calm" ↔ w = .calm) ∧ (w.wd = "offered" ↔ w = .offered) ∧ (w.wd = "waiting" ↔ w = .waiting) := by
  cases w <;> simp [Wd.wd]
def mayL (a : Ac) : Stn := match a.w with
  | .calm => a.old
  | _ => a.new
theorem i_last {a : Ac} : fIx (mayD a) (.int (-1)) S R = R (stnD (mayL a)) S := by
  simp [mayD, Ac.may, L2.atI, mayL]; cases a.w <;> simp [L2.ixN]
theorem f_eqA3 {p s p' s' : Int} (h : R (.bl (decide (p = p' ∧ s = s'))) S) : fEq false (.tup [.str "agree", .int p, .int s]) (.tup [.str "agree", .int p', .int s']) S R :=
  f_eqP' (decide (p = p' ∧ s = s')) (by simp) (by simp) (by simp) (by simp) (by rw [decide_eq_true_iff]; simp) (by simpa using h)
theorem lt_calm {l : Ltr} {k : Int} (hk : k ≤ 900) (oa : AcOk k a) (ol : LtOk l) (hw : a.w = .calm) (h : R (.tup [dueD (step a l).1, optD (step a l).2]) S) : φ__law_taken [dueD a, ltD l] S R RE := by
  have em : a.mine = a.old := by simp [Ac.mine, hw]
  have hml : mayL a = a.old := by simp [mayL, hw]
  have hno : fitB a l = false → R (.tup [dueD a, .non]) S := fun e => by
    have es : step a l = (a, none) := if_neg (by rw [e]; exact Bool.false_ne_true)
    rw [es] at h; exact h
  refine ⟨rfl, ?_⟩
  have tail : fitB a l = false → ∀ x4 x5, later (wSeq (wSet 7 (wTup (wCons (wC (.str "agree")) (wCons (wVar 2) (wCons (wC (.int 1)) (wCons (wOp fIx (wOp fIx (wVar 0) (wC (.str "may"))) (wUn fNeg (wC (.int 1)))) wNil))))))
      (wSeq (wIf (wB (wAnd (wOp (fEq false) (wOp fIx (wVar 0) (wC (.str "word"))) (wC (.str "offered"))) (wOp (fEq false) (wVar 1) (wTup (wCons (wC (.str "accept")) (wCons (wVar 2) (wCons (wVar 7) (wCons (wTup (wCons (wC (.str "strike")) (wCons (wVar 2) (wCons (wC (.int 1)) (wCons (wVar 3) wNil))))) wNil)))))))) (wSeq (wSet 6 (wCall φ__law_struck [] (wCons (wVar 0) wNil)))
        (wSeq (wSetI (wOp fIx (wVar 1) (wC (.int 2))) (wVar 6) (wC (.str "grant"))) (wRet (wTup (wCons (wVar 6) (wCons (wTup (wCons (wC (.str "struck")) (wCons (wVar 2) (wCons (wTup (wCons (wC (.str "strike")) (wCons (wVar 2) (wCons (wC (.int 0)) (wCons (wVar 3) wNil))))) wNil)))) wNil)))))) wNx)
      (wSeq (wIf (wB (wAnd (wOp (fEq false) (wOp fIx (wVar 0) (wC (.str "word"))) (wC (.str "waiting"))) (wOp (fEq false) (wVar 1) (wTup (wCons (wC (.str "struck")) (wCons (wVar 2) (wCons (wTup (wCons (wC (.str "strike")) (wCons (wVar 2) (wCons (wC (.int 0)) (wCons (wOp fIx (wOp fIx (wOp fIx (wVar 0) (wC (.str "may"))) (wC (.int 0))) (wC (.int 0))) wNil))))) wNil))))))) (wRet (wTup (wCons (wCall φ__law_struck [] (wCons (wVar 0) wNil)) (wCons (wC .non) wNil)))) wNx)
      (wRet (wTup (wCons (wVar 0) (wCons (wC .non) wNil)))))))
      [some (dueD a), some (ltD l), some (.int a.pot), some (.int a.old.n), x4, x5, none, none] S ⟨fun _ S' => Rz R .non S', Rz R, fun _ _ => False, fun _ _ => False⟩ (fun c _ S' => RE c S') := fun e x4 x5 => by
    refine later_of ?_
    simp [-Bool.exists_bool, -s_seq, s_seqL, i_last, fNeg]
    refine later_of ?_
    simp [-Bool.exists_bool, -s_seq, s_seqL, hw, Wd.wd]
    refine later_of ?_
    simp [-Bool.exists_bool, -s_seq, s_seqL, hw, Wd.wd]
    refine later_of ?_
    simp
    exact .now (hno e)
  simp [-Bool.exists_bool, -s_seq, s_seqL, w__law_taken, startE, N__law_taken]
  refine later_of ?_
  simp [-Bool.exists_bool, -s_seq, s_seqL, em]
  refine later_of ?_
  cases l with
  | offer p s st =>
    obtain ⟨_, _, os⟩ := ol
    by_cases h1 : a.side = 1
    · simp [-Bool.exists_bool, -s_seq, s_seqL, hw, Wd.wd, Ltr.kind, h1]
      refine later_of ?_
      simp [-Bool.exists_bool, -s_seq, s_seqL]
      refine f_eqA3 ?_
      by_cases hc : p = a.pot ∧ s = 0
      · obtain ⟨rfl, rfl⟩ := hc
        simp [-Bool.exists_bool, -s_seq, s_seqL]
        refine later_of ?_
        by_cases h3 : st.n = a.old.n + 1
        · simp [-Bool.exists_bool, -s_seq, s_seqL, h3, Ltr.pot]
          refine p__law_deals os ?_
          simp [-Bool.exists_bool, -s_seq, s_seqL, em]
          refine p__law_deals oa.old ?_
          by_cases h4 : st.sum = a.old.sum
          · have hf : fitB a (.offer a.pot 0 st) = true := by simp [fitB, hw, h1, agB, em, h3, h4]
            have es : step a (.offer a.pot 0 st) = nextA a (.offer a.pot 0 st) := if_pos hf
            rw [es] at h
            simp [-Bool.exists_bool, -s_seq, s_seqL, h4]
            intro q hq
            refine later_of ?_
            simp [-Bool.exists_bool, -s_seq, s_seqL]
            refine ⟨tyM_refD (by simp : (S.set q (.dct (dueF a))) q = some (.dct (dueF a))), ?_⟩
            rw [s_dictF]
            intro z hz
            simp [-Bool.exists_bool, em]
            rw [Sto.del_none hz]
            refine f_update (l := dueF a) (by simp) (by show 7 + 4 ≤ 1000; decide) ?_
            refine later_of ?_
            have e2 : mergeD (dueF a) (mergeD [] [((.inr "mine" : Key), stnD st), (.inr "grant", agD a.pot 0 st), (.inr "may", .lst [stnD a.old, stnD st]), (.inr "word", .str "waiting")]) = dueF { a with w := .waiting, new := st, g := agD a.pot 0 st } := by
              unfold dueF
              simp [mergeD, putD, Wd.wd, Ac.mine, mayD, Ac.may]
            rw [e2]
            simp
            exact ret_pair (L := ltD (.accept a.pot 1 st 1 a.old.n)) hq (pl_lt _) h
          · simp [-Bool.exists_bool, -s_seq, s_seqL, h4]
            exact tail (by simp [fitB, hw, h1, agB, h4]) _ _
        · simp [-Bool.exists_bool, -s_seq, s_seqL, h3]
          exact tail (by simp [fitB, hw, h1, agB, em, h3]) _ _
      · rw [decide_eq_false hc]
        simp [-Bool.exists_bool, -s_seq, s_seqL]
        refine later_of ?_
        simp [-Bool.exists_bool, -s_seq, s_seqL]
        refine tail ?_ _ _
        simp [fitB, hw, h1, agB]
        intro z1 z2
        exact absurd ⟨z1, z2⟩ hc
    · simp [-Bool.exists_bool, -s_seq, s_seqL, hw, Wd.wd, Ltr.kind, h1]
      exact tail (by simp [fitB, hw, h1]) _ _
  | _ =>
    simp [-Bool.exists_bool, -s_seq, s_seqL, hw, Wd.wd, Ltr.kind]
    exact tail (by simp [fitB, hw]) _ _
end
end L99
end

section
set_option Elab.async false
set_option linter.all false
set_option maxRecDepth 100000
set_option autoImplicit false
namespace L99
open SB PySem PySem.Spec L2
section
variable {ς : En} {S : Sto} {R : Pd} {RE : Px} {a : Ac}
theorem lt_acc {l : Ltr} {p : Int} {st : Stn} {n : Int} : ltD l = ltD (.accept p 1 st 1 n) ↔ l = .accept p 1 st 1 n := by
  constructor
  · intro h
    cases l with
    | accept p' s' st' s2' n' =>
      simp [ltD, ag_iff, sk_iff] at h
      obtain ⟨rfl, ⟨_, rfl, rfl⟩, _, rfl, rfl⟩ := h
      rfl
    | _ => simp [ltD] at h
  · intro h; rw [h]
theorem lt_str {l : Ltr} {p n : Int} : ltD l = ltD (.struck p 0 n) ↔ l = .struck p 0 n := by
  constructor
  · intro h
    cases l with
    | struck p' s' n' =>
      simp [ltD, sk_iff] at h
      obtain ⟨rfl, rfl, rfl⟩ := h
      rfl
    | _ => simp [ltD] at h
  · intro h; rw [h]
theorem fit_off {l : Ltr} (hw : a.w = .offered) : fitB a l = true ↔ l = .accept a.pot 1 a.new 1 a.old.n := by
  cases l with
  | accept p s st s2 n =>
    simp [fitB, hw]
    constructor
    · rintro ⟨⟨rfl, rfl, rfl⟩, _, rfl, rfl⟩; exact ⟨rfl, rfl, rfl, rfl, rfl⟩
    · rintro ⟨rfl, rfl, rfl, rfl, rfl⟩; exact ⟨⟨rfl, rfl, rfl⟩, rfl, rfl, rfl⟩
  | _ => simp [fitB, hw]
theorem fit_wait {l : Ltr} (hw : a.w = .waiting) : fitB a l = true ↔ l = .struck a.pot 0 a.old.n := by
  cases l with
  | struck p s n => simp [fitB, hw]
  | _ => simp [fitB, hw]
theorem due_grant {b : Ac} {g : D} : putD (.inr "grant") g (dueF b) = dueF { b with g := g } := by
  simp [dueF, putD, Ac.mine, mayD, Ac.may]
theorem lt_off {l : Ltr} {k : Int} (hk : k ≤ 900) (oa : AcOk k a) (ol : LtOk l) (hw : a.w = .offered) (h : R (.tup [dueD (step a l).1, optD (step a l).2]) S) : φ__law_taken [dueD a, ltD l] S R RE := by
  have em : a.mine = a.old := by simp [Ac.mine, hw]
  have hml : mayL a = a.new := by simp [mayL, hw]
  refine ⟨rfl, ?_⟩
  simp [-Bool.exists_bool, -s_seq, s_seqL, w__law_taken, startE, N__law_taken]
  refine later_of ?_
  simp [-Bool.exists_bool, -s_seq, s_seqL, em]
  refine later_of ?_
  simp [-Bool.exists_bool, -s_seq, s_seqL, hw, Wd.wd]
  have fin : ∀ x : Prop, x → x := fun _ h => h
  by_cases hf : fitB a l = true
  · have e := (fit_off hw).mp hf
    subst e
    have es : step a (.accept a.pot 1 a.new 1 a.old.n) = nextA a (.accept a.pot 1 a.new 1 a.old.n) := if_pos hf
    rw [es] at h
    refine later_of ?_
    simp [-Bool.exists_bool, -s_seq, s_seqL, i_last, fNeg, hml]
    refine later_of ?_
    simp [-Bool.exists_bool, -s_seq, s_seqL, hw, Wd.wd]
    refine f_eqP' (y := ltD (.accept a.pot 1 a.new 1 a.old.n)) true (pl_lt _) (pl_lt _) (Nat.le_trans (dp_lt _) (by decide)) (Nat.le_trans (dp_lt _) (by decide)) (by simp) ?_
    simp [-Bool.exists_bool, -s_seq, s_seqL]
    refine p__law_struck oa (by rw [hw]; simp) hk fun q hq => ?_
    refine later_of ?_
    simp [-Bool.exists_bool, -s_seq, s_seqL, fSetI, SB.keyOf]
    refine ⟨by show 7 + 1 ≤ sizeLine; decide, ?_⟩
    refine later_of ?_
    simp [-Bool.exists_bool, -s_seq, s_seqL]
    rw [due_grant]
    exact ret_pair (L := ltD (.struck a.pot 0 a.old.n)) hq (pl_lt _) h
  · have es : step a l = (a, none) := if_neg hf
    rw [es] at h
    have hne : ¬ ltD l = ltD (.accept a.pot 1 a.new 1 a.old.n) := fun z => hf ((fit_off hw).mpr (lt_acc.mp z))
    have go : later (wSeq (wSet 7 (wTup (wCons (wC (.str "agree")) (wCons (wVar 2) (wCons (wC (.int 1)) (wCons (wOp fIx (wOp fIx (wVar 0) (wC (.str "may"))) (wUn fNeg (wC (.int 1)))) wNil))))))
      (wSeq (wIf (wB (wAnd (wOp (fEq false) (wOp fIx (wVar 0) (wC (.str "word"))) (wC (.str "offered"))) (wOp (fEq false) (wVar 1) (wTup (wCons (wC (.str "accept")) (wCons (wVar 2) (wCons (wVar 7) (wCons (wTup (wCons (wC (.str "strike")) (wCons (wVar 2) (wCons (wC (.int 1)) (wCons (wVar 3) wNil))))) wNil)))))))) (wSeq (wSet 6 (wCall φ__law_struck [] (wCons (wVar 0) wNil)))
        (wSeq (wSetI (wOp fIx (wVar 1) (wC (.int 2))) (wVar 6) (wC (.str "grant"))) (wRet (wTup (wCons (wVar 6) (wCons (wTup (wCons (wC (.str "struck")) (wCons (wVar 2) (wCons (wTup (wCons (wC (.str "strike")) (wCons (wVar 2) (wCons (wC (.int 0)) (wCons (wVar 3) wNil))))) wNil)))) wNil)))))) wNx)
      (wSeq (wIf (wB (wAnd (wOp (fEq false) (wOp fIx (wVar 0) (wC (.str "word"))) (wC (.str "waiting"))) (wOp (fEq false) (wVar 1) (wTup (wCons (wC (.str "struck")) (wCons (wVar 2) (wCons (wTup (wCons (wC (.str "strike")) (wCons (wVar 2) (wCons (wC (.int 0)) (wCons (wOp fIx (wOp fIx (wOp fIx (wVar 0) (wC (.str "may"))) (wC (.int 0))) (wC (.int 0))) wNil))))) wNil))))))) (wRet (wTup (wCons (wCall φ__law_struck [] (wCons (wVar 0) wNil)) (wCons (wC .non) wNil)))) wNx)
      (wRet (wTup (wCons (wVar 0) (wCons (wC .non) wNil)))))))
      [some (dueD a), some (ltD l), some (.int a.pot), some (.int a.old.n), none, none, none, none] S ⟨fun _ S' => Rz R .non S', Rz R, fun _ _ => False, fun _ _ => False⟩ (fun c _ S' => RE c S') := by
      refine later_of ?_
      simp [-Bool.exists_bool, -s_seq, s_seqL, i_last, fNeg, hml]
      refine later_of ?_
      simp [-Bool.exists_bool, -s_seq, s_seqL, hw, Wd.wd]
      refine f_eqP' (y := ltD (.accept a.pot 1 a.new 1 a.old.n)) false (pl_lt _) (pl_lt _) (Nat.le_trans (dp_lt _) (by decide)) (Nat.le_trans (dp_lt _) (by decide)) (by simp [hne]) ?_
      simp [-Bool.exists_bool, -s_seq, s_seqL]
      refine later_of ?_
      simp [-Bool.exists_bool, -s_seq, s_seqL, hw, Wd.wd]
      refine later_of ?_
      simp
      exact .now h
    exact go
theorem lt_wait {l : Ltr} {k : Int} (hk : k ≤ 900) (oa : AcOk k a) (ol : LtOk l) (hw : a.w = .waiting) (h : R (.tup [dueD (step a l).1, optD (step a l).2]) S) : φ__law_taken [dueD a, ltD l] S R RE := by
  have em : a.mine = a.new := by simp [Ac.mine, hw]
  have hml : mayL a = a.new := by simp [mayL, hw]
  refine ⟨rfl, ?_⟩
  simp [-Bool.exists_bool, -s_seq, s_seqL, w__law_taken, startE, N__law_taken]
  refine later_of ?_
  simp [-Bool.exists_bool, -s_seq, s_seqL, em]
  refine later_of ?_
  simp [-Bool.exists_bool, -s_seq, s_seqL, hw, Wd.wd]
  refine later_of ?_
  simp [-Bool.exists_bool, -s_seq, s_seqL, i_last, fNeg, hml]
  refine later_of ?_
  simp [-Bool.exists_bool, -s_seq, s_seqL, hw, Wd.wd]
  refine later_of ?_
  simp [-Bool.exists_bool, -s_seq, s_seqL, hw, Wd.wd]
  by_cases hf : fitB a l = true
  · have e := (fit_wait hw).mp hf
    subst e
    have es : step a (.struck a.pot 0 a.old.n) = nextA a (.struck a.pot 0 a.old.n) := if_pos hf
    rw [es] at h
    refine f_eqP' (y := ltD (.struck a.pot 0 a.old.n)) true (pl_lt _) (pl_lt _) (Nat.le_trans (dp_lt _) (by decide)) (Nat.le_trans (dp_lt _) (by decide)) (by simp) ?_
    simp [-Bool.exists_bool, -s_seq, s_seqL]
    refine p__law_struck oa (by rw [hw]; simp) hk fun q hq => ?_
    exact ret_pair (L := .non) hq rfl h
  · have es : step a l = (a, none) := if_neg hf
    rw [es] at h
    have hne : ¬ ltD l = ltD (.struck a.pot 0 a.old.n) := fun z => hf ((fit_wait hw).mpr (lt_str.mp z))
    refine f_eqP' (y := ltD (.struck a.pot 0 a.old.n)) false (pl_lt _) (pl_lt _) (Nat.le_trans (dp_lt _) (by decide)) (Nat.le_trans (dp_lt _) (by decide)) (by simp [hne]) ?_
    simp [-Bool.exists_bool, -s_seq, s_seqL]
    refine later_of ?_
    simp
    exact .now h
theorem p__law_taken {l : Ltr} {k : Int} (hk : k ≤ 900) (oa : AcOk k a) (ol : LtOk l) (h : R (.tup [dueD (step a l).1, optD (step a l).2]) S) : φ__law_taken [dueD a, ltD l] S R RE := by
  cases hw : a.w with
  | calm => exact lt_calm hk oa ol hw h
  | offered => exact lt_off hk oa ol hw h
  | waiting => exact lt_wait hk oa ol hw h
end
end L99
end

section
set_option Elab.async false
set_option linter.all false
set_option maxRecDepth 100000
set_option autoImplicit false
namespace L99
open SB PySem PySem.Spec L2
/-- what stood still stands, but for these -/
def Fm (A : List Addr) (S S' : Sto) : Prop := ∀ b, b ∉ A → S b ≠ none → S' b = S b
theorem Fm.refl {A : List Addr} {S : Sto} : Fm A S S := fun _ _ _ => rfl
theorem Fm.trans {A : List Addr} {S S1 S2 : Sto} (h : Fm A S S1) (k : Fm A S1 S2) : Fm A S S2 := fun b hb n => by
  have e := h b hb n
  rw [k b hb (by rw [e]; exact n), e]
theorem Fm.set {A : List Addr} {S : Sto} {a : Addr} {o : SO} (h : a ∈ A) : Fm A S (S.set a o) := fun b hb _ => Sto.set_ne (fun e => hb (e ▸ h))
theorem Fm.new {A : List Addr} {S : Sto} {a : Addr} {o : SO} (h : S a = none) : Fm A S (S.set a o) := fun b _ n => Sto.set_ne (fun e => n (e ▸ h))
/-- a well of draws: how often it was drawn from at most -/
def Wel (S : Sto) (wl : Addr) (c : Int) : Prop := ∃ x y z, S wl = some (.lst [.int x, .int y, .int z]) ∧ 0 ≤ y ∧ y < 2147483629 ∧ 0 ≤ z ∧ z ≤ c
section
variable {ς : En} {S : Sto} {R : Pd} {RE : Px}
theorem f_ixR {a : Addr} {l : List D} {i : Int} (h : S a = some (.lst l)) : fIx (.ref a) (.int i) S R = ∃ v, L2.atI l i = some v ∧ R v S := by
  simp [fIx, contOf_refL h]
theorem f_setIL {a : Addr} {l : List D} {i : Int} {y : D} {R : Sto → Prop} (h : S a = some (.lst l)) : fSetI (.ref a) (.int i) y S R = ∃ j, L2.ixN l.length i = some j ∧ R (S.set a (.lst (l.set j y))) := by
  simp [fSetI, h]
theorem p_draw {wl : Addr} {c base : Int} (w : Wel S wl c) (hc : c ≤ 1000000) (h0 : 0 < base) (h1 : base ≤ 1000000) (h : ∀ d S', 0 ≤ d → d < base → Fm [wl] S S' → Wel S' wl (c + 1) → R (.int d) S') : φ__law_draw [.ref wl, .int base] S R RE := by
  obtain ⟨x, y, z, e, y0, y1, z0, z1⟩ := w
  refine ⟨rfl, ?_⟩
  have hb : base.natAbs.log2 < 9000 := by
    have h2 : base.natAbs ≤ 1000000 := by omega
    have h3 : base.natAbs ≠ 0 := by omega
    have := (Nat.log2_lt h3 (k := 20)).mpr (by omega)
    omega
  have e2 : ∀ (R : Pd) (i : Int), fIx (.ref wl) (.int i) S R = ∃ v, L2.atI [.int x, .int y, .int z] i = some v ∧ R v S := fun R i => f_ixR e
  simp [-Bool.exists_bool, -s_seq, s_seqL, w__law_draw, startE, N__law_draw, e2, L2.atI, L2.ixN, cmpGt]
  by_cases hx : 0 < x
  · simp [-Bool.exists_bool, -s_seq, s_seqL, hx, e2, L2.atI, L2.ixN]
    refine ⟨h0, later_of ?_⟩
    simp [-Bool.exists_bool, -s_seq, s_seqL, e2, L2.atI, L2.ixN, f_setIL e]
    refine ⟨⟨h0, hb⟩, later_of ?_⟩
    simp
    refine .now (h _ _ (Int.emod_nonneg _ (by omega)) (Int.emod_lt_of_pos _ h0) (.set (by simp)) ?_)
    exact ⟨x / base, y, z, by simp, y0, y1, z0, by omega⟩
  · simp [-Bool.exists_bool, -s_seq, s_seqL, hx]
    refine later_of ?_
    simp [-Bool.exists_bool, -s_seq, s_seqL, e2, L2.atI, L2.ixN, f_setIL e]
    have e3 : (S.set wl (.lst [.int x, .int y, .int (z + 1)])) wl = some (.lst [.int x, .int y, .int (z + 1)]) := by simp
    have fm : Fm [wl] S (S.set wl (.lst [.int x, .int y, .int (z + 1)])) := .set (by simp)
    have wl' : Wel (S.set wl (.lst [.int x, .int y, .int (z + 1)])) wl (c + 1) := ⟨x, y, z + 1, e3, y0, y1, by omega, by omega⟩
    generalize S.set wl (.lst [.int x, .int y, .int (z + 1)]) = S' at e3 fm wl' ⊢
    have e4 : ∀ (R : Pd) (i : Int), fIx (.ref wl) (.int i) S' R = ∃ v, L2.atI [.int x, .int y, .int (z + 1)] i = some v ∧ R v S' := fun R i => f_ixR e3
    refine later_of (And.intro sz_5 ?_)
    simp only [s_seqL]
    simp [-Bool.exists_bool, -s_seq, e4, L2.atI, L2.ixN]
    refine ⟨.inl ⟨by omega, by omega⟩, ⟨by omega, by omega, by omega⟩, later_of ?_⟩
    have hm0 := Int.emod_nonneg ((y + 7919 * (z + 1)) ^ 5) (b := 2147483647) (by omega)
    have hm1 := Int.emod_lt_of_pos ((y + 7919 * (z + 1)) ^ 5) (b := 2147483647) (by omega)
    generalize (y + 7919 * (z + 1)) ^ 5 % 2147483647 = m at hm0 hm1 ⊢
    have hq : ∃ p : Int, 0 < p ∧ L2.atI [D.int 2147483629, D.int 2147483587, D.int 2147483579, D.int 2147483563, D.int 2147483549] ((z + 1) % 5) = some (.int p) := by
      have a0 := Int.emod_nonneg (z + 1) (b := 5) (by omega)
      have a1 := Int.emod_lt_of_pos (z + 1) (b := 5) (by omega)
      generalize (z + 1) % 5 = t at a0 a1
      have : t = 0 ∨ t = 1 ∨ t = 2 ∨ t = 3 ∨ t = 4 := by omega
      rcases this with rfl | rfl | rfl | rfl | rfl <;> exact ⟨_, by decide, rfl⟩
    generalize [D.int 2147483629, D.int 2147483587, D.int 2147483579, D.int 2147483563, D.int 2147483549] = ps at hq ⊢
    obtain ⟨q, q0, hq⟩ := hq
    have e5 : ∀ (R : Pd) (i : Int), fIx (.ref wl) (.int i) S' R = ∃ v, L2.atI [.int x, .int y, .int (z + 1)] i = some v ∧ R v S' := e4
    have e6 : ∀ (R : Pd), fIx (.ref wl) (.int 2) S' R = R (.int (z + 1)) S' := fun R => by rw [e5]; simp [L2.atI, L2.ixN]
    simp [-Bool.exists_bool, -s_seq, s_seqL, e6, hq]
    refine ⟨by decide +kernel, .inl ⟨by omega, by omega⟩, q0, later_of ?_⟩
    simp [-Bool.exists_bool]
    exact ⟨by decide +kernel, h0, .now (h _ _ (Int.emod_nonneg _ (by omega)) (Int.emod_lt_of_pos _ h0) fm wl')⟩
end
end L99
end

section
set_option Elab.async false
set_option linter.all false
set_option maxRecDepth 100000
set_option autoImplicit false
namespace L99
open SB PySem PySem.Spec L2
section
variable {ς : En} {S : Sto} {R : Pd} {RE : Px}
theorem p_cell_at {ns : List Int} (h : ∀ i, R (.int i) S) : φ__law_cell_at [.scr (ns.map .int), .int 0] S R RE := by
  refine ⟨rfl, ?_⟩
  simp [-Bool.exists_bool, -s_seq, s_seqL, w__law_cell_at, startE, N__law_cell_at, cmpLt]
  cases ns with
  | nil =>
    simp
    refine later_of ?_
    simp
    exact .now (h 0)
  | cons n r =>
    simp
    exact ⟨.int n, by
      have e : L2.ixN (D.int n :: r.map D.int).length 0 = some 0 := by
        unfold L2.ixN
        rw [if_pos (by omega), if_pos (by simp)]
        rfl
      unfold L2.atI
      rw [e]
      rfl, .now (h n)⟩
theorem p_well_of {cell : Int} (h : ∀ wl S', S wl = none → Fm [] S S' → Wel S' wl 0 → R (.ref wl) S') : φ__law_well_of [.int cell] S R RE := by
  refine ⟨rfl, ?_⟩
  simp [-Bool.exists_bool, w__law_well_of, startE, N__law_well_of, L2.CPow, cmpGe]
  have hv : ∀ b : Bool, ∃ x : Int, L2.atI [D.int 0, D.int cell] (if b = true then 1 else 0) = some (.int x) := fun b => by
    cases b <;> exact ⟨_, rfl⟩
  obtain ⟨x, hx⟩ := hv (decide (1000000000000000000 ≤ cell))
  have hm0 := Int.emod_nonneg cell (b := 2147483629) (by omega)
  have hm1 := Int.emod_lt_of_pos cell (b := 2147483629) (by omega)
  have e : ∀ (b : Bool) (R' : Pd), fInt [.bl b] S R' = R' (.int (b2iD b)) S := fun _ _ => rfl
  rw [e, f_ixL]
  refine ⟨.int x, hx, fun p hp => .now (h p _ hp (.new hp) ⟨x, _, 0, by simp, hm0, hm1, by omega, by omega⟩)⟩
theorem f_minI {i j : Int} : fMin [.int i, .int j] S R = R (.int (if j < i then j else i)) S := rfl
def dealB : WpS := (wSeq (wSet 7 (wOp fIx (wLst false (wCons (wC (.int 3)) (wCons (wC (.int 8)) (wCons (wC (.int 17)) (wCons (wC (.int 25)) (wCons (wC (.int 41)) (wCons (wC (.int 59)) wNil))))))) (wCall φ__law_draw [] (wCons (wVar 0) (wCons (wC (.int 6)) wNil)))))
  (wSeq (wSet 8 (wFun fMin (wCons (wVar 3) (wCons (wOp (fAdd false) (wC (.int 1)) (wCall φ__law_draw [] (wCons (wVar 0) (wCons (wC (.int 9)) wNil)))) wNil))))
  (wSeq (wSet 9 (wTup (wCons (wCall φ__law_draw [] (wCons (wVar 0) (wCons (wC (.int 2)) wNil))) (wCons (wVar 8) (wCons (wVar 7) (wCons (wCall φ__law_draw [] (wCons (wVar 0) (wCons (wC (.int 16)) wNil))) wNil))))))
  (wIf (wB (wAnd (wOp (fCmp cmpGt) (wVar 8) (wC (.int 0))) (wOp (fIn true) (wVar 7) (wVar 5)))) (wSeq (wExpr (wMt "list" fAppend (wVar 5) (wCons (wVar 7) wNil)))
  (wSeq (wSet 3 (wOp fSub (wVar 3) (wVar 8)))
  (wSet 4 (wOp (fAdd false) (wVar 4) (wTup (wCons (wVar 9) wNil)))))) wNx))))
theorem Wel.le {S : Sto} {wl : Addr} {c c' : Int} (h : Wel S wl c) (l : c ≤ c') : Wel S wl c' := by
  obtain ⟨x, y, z, e, a, b, d, f⟩ := h
  exact ⟨x, y, z, e, a, b, d, by omega⟩
theorem Wel.fm {S S' : Sto} {A : List Addr} {wl : Addr} {c : Int} (h : Wel S wl c) (f : Fm A S S') (n : wl ∉ A) : Wel S' wl c := by
  obtain ⟨x, y, z, e, a⟩ := h
  exact ⟨x, y, z, by rw [f wl n (by rw [e]; simp)]; exact e, a⟩
/-- the ties dealt so far -/
structure DealOk (whole left : Int) (ts : List Tie) : Prop where
  l0 : 0 ≤ left
  lw : left ≤ whole
  ok : ∀ t ∈ ts, TieOk t
  nd : (ts.map Tie.w).Nodup
theorem word_at {d : Int} (d0 : 0 ≤ d) (d6 : d < 6) : ∃ w : Int, L2.atI [D.int 3, D.int 8, D.int 17, D.int 25, D.int 41, D.int 59] d = some (.int w) ∧ 0 ≤ w ∧ w ≤ 59 := by
  have : d = 0 ∨ d = 1 ∨ d = 2 ∨ d = 3 ∨ d = 4 ∨ d = 5 := by omega
  rcases this with rfl | rfl | rfl | rfl | rfl | rfl <;> exact ⟨_, rfl, by decide, by decide⟩
theorem dEqI {i j : Int} : dEq (.int i) (.int j) = decide (i = j) := by
  by_cases h : i = j
  · subst h; simp [dEq, pyD, PyData.eqv]
  · simp [dEq, pyD, PyData.eqv, h]
theorem deal_turn {wl p : Addr} {n whole left c : Int} {ts : List Tie} {x6 x7 x8 x9 : Option D} {E : ES} {XE : PxE} (hwp : wl ≠ p) (w : Wel S wl c) (hc : c ≤ 900000) (ok : DealOk whole left ts) (hlen : ts.length ≤ 2) (hp : S p = some (.lst (ts.map fun t => .int t.w)))
    (h : ∀ left' ts' S' x7 x8 x9, DealOk whole left' ts' → ts'.length ≤ ts.length + 1 → Fm [wl, p] S S' → Wel S' wl (c + 4) → S' p = some (.lst (ts'.map fun t => .int t.w)) → E.nx [some (.ref wl), some (.int n), some (.int whole), some (.int left'), some (.tup (ts'.map tieD)), some (.ref p), x6, x7, x8, x9, none] S') :
    dealB [some (.ref wl), some (.int n), some (.int whole), some (.int left), some (.tup (ts.map tieD)), some (.ref p), x6, x7, x8, x9, none] S E XE := by
  refine And.intro sz_6 ⟨_, rfl, ?_⟩
  refine p_draw w (by omega) (by decide) (by decide) fun d1 S1 d10 d11 f1 w1 => ?_
  obtain ⟨wd, hw, w0, w59⟩ := word_at d10 d11
  refine (show fIx (.lst [D.int 3, D.int 8, D.int 17, D.int 25, D.int 41, D.int 59]) (.int d1) S1 _ from ?_)
  rw [f_ixL]
  refine ⟨_, hw, ?_⟩
  clear hw
  simp only [s_seqL]
  simp [-Bool.exists_bool, -s_seq]
  refine p_draw w1 (by omega) (by decide) (by decide) fun d2 S2 d20 d21 f2 w2 => ?_
  simp only [f_addI, f_minI]
  refine later_of ?_
  simp [-Bool.exists_bool, -s_seq, s_seqL]
  refine p_draw w2 (by omega) (by decide) (by decide) fun d3 S3 d30 d31 f3 w3 => ?_
  refine p_draw w3 (by omega) (by decide) (by decide) fun d4 S4 d40 d41 f4 w4 => ?_
  have fm : Fm [wl] S S4 := ((f1.trans f2).trans f3).trans f4
  have fm2 : Fm [wl, p] S S4 := fun b hb n => fm b (by simp at hb ⊢; exact hb.1) n
  have hp4 : S4 p = some (.lst (ts.map fun t => .int t.w)) := by rw [fm p (by simp; exact fun e => hwp e.symm) (by rw [hp]; simp)]; exact hp
  have w4' : Wel S4 wl (c + 4) := w4.le (by omega)
  have hin : ∀ R' : Pd, R' (.bl (!decide (wd ∈ ts.map Tie.w))) S4 → fIn true (.int wd) (.ref p) S4 R' := fun R' hR => by
    unfold fIn
    rw [contOf_refL hp4]
    refine ⟨ok_pl (plL_map fun _ _ => rfl) ?_, okI _, ?_⟩
    · have := dpL_map (f := fun t : Tie => D.int t.w) (k := 0) (m := ts) fun _ _ => Nat.le_refl _
      simp only [dp_lst]; omega
    · have e : ((ts.map fun t => D.int t.w).any fun z => dEq z (.int wd)) = decide (wd ∈ ts.map Tie.w) := by
        rw [Bool.eq_iff_iff]
        simp [dEqI]
      rw [e, Bool.true_xor]
      exact hR
  generalize ham : (if 1 + d2 < left then 1 + d2 else left) = amt
  have am9 : amt ≤ 9 := by rw [← ham]; split <;> omega
  have aml : amt ≤ left := by rw [← ham]; split <;> omega
  have al0 := ok.l0
  have alw := ok.lw
  refine later_of ?_
  by_cases ha : 0 < amt
  · by_cases hi : wd ∈ ts.map Tie.w
    · simp [-Bool.exists_bool, -s_seq, s_seqL, cmpGt, ha]
      refine hin _ ?_
      rw [decide_eq_true hi]
      simp [-Bool.exists_bool]
      exact h left ts S4 _ _ _ ok (Nat.le_succ _) fm2 w4' hp4
    · simp [-Bool.exists_bool, -s_seq, s_seqL, cmpGt, ha]
      refine hin _ ?_
      rw [decide_eq_false hi]
      simp [-Bool.exists_bool, -s_seq, s_seqL]
      refine ⟨tyM_refL hp4, p, _, .int wd, rfl, rfl, hp4, by simp; exact Nat.le_trans (Nat.succ_le_succ hlen) (by decide), later_of ?_⟩
      simp [-Bool.exists_bool, -s_seq, s_seqL]
      refine later_of ?_
      simp
      refine ⟨Nat.le_trans (Nat.succ_le_succ hlen) (by decide), ?_⟩
      have q := h (left - amt) (ts ++ [⟨d3, amt, wd, d4⟩]) (S4.set p (.lst ((ts.map fun t => .int t.w) ++ [.int wd]))) (some (.int wd)) (some (.int amt)) (some (.tup [.int d3, .int amt, .int wd, .int d4]))
        ⟨by omega, by omega, ?_, ?_⟩ (by simp) (fm2.trans (.set (by simp))) (w4'.fm (.set (A := [p]) (by simp)) (by simpa using hwp)) (by simp)
      · simpa [tieD] using q
      · intro t ht
        rcases List.mem_append.mp ht with ht | ht
        · exact ok.ok t ht
        · simp at ht; subst ht; exact ⟨d30, (by show d3 ≤ 1; omega), (by show 1 ≤ amt; omega), am9, w0, w59, d40, (by show d4 ≤ 15; omega)⟩
      · rw [List.map_append, List.nodup_append]
        refine ⟨ok.nd, by simp, ?_⟩
        intro x hx y hy e
        simp at hy
        subst hy
        exact hi (e ▸ hx)
  · simp [-Bool.exists_bool, -s_seq, s_seqL, cmpGt, ha]
    exact h left ts S4 _ _ _ ok (Nat.le_succ _) fm2 w4' hp4
end
end L99
end

section
set_option Elab.async false
set_option linter.all false
set_option maxRecDepth 100000
set_option autoImplicit false
namespace L99
open SB PySem PySem.Spec L2
section
variable {R : Pd} {RE : Px}
theorem deal_loop {wl p : Addr} {n whole : Int} {E : ES} {XE : PxE} (hwp : wl ≠ p) : ∀ (m : Nat) (lo left c : Int) (ts : List Tie) (S : Sto) (x6 x7 x8 x9 : Option D), Wel S wl c → c + 4 * m ≤ 900000 → DealOk whole left ts → ts.length + m ≤ 3 →
    S p = some (.lst (ts.map fun t => .int t.w)) →
    (∀ left' ts' S' x6 x7 x8 x9, DealOk whole left' ts' → ts'.length ≤ 3 → Fm [wl, p] S S' → Wel S' wl (c + 4 * m) → E.nx [some (.ref wl), some (.int n), some (.int whole), some (.int left'), some (.tup (ts'.map tieD)), some (.ref p), x6, x7, x8, x9, none] S') →
    forL none (.nm 6) dealB (rngD lo m) [some (.ref wl), some (.int n), some (.int whole), some (.int left), some (.tup (ts.map tieD)), some (.ref p), x6, x7, x8, x9, none] S E XE
  | 0, lo, left, c, ts, S, x6, x7, x8, x9, w, hc, ok, hl, hp, h => ⟨trivial, h left ts S _ _ _ _ ok (by omega) .refl (w.le (by omega))⟩
  | m + 1, lo, left, c, ts, S, x6, x7, x8, x9, w, hc, ok, hl, hp, h => by
    refine ⟨trivial, _, rfl, ?_⟩
    refine deal_turn (x6 := some (.int lo)) hwp w (by omega) ok (by omega) hp fun left' ts' S' x7 x8 x9 ok' hl' f' w' hp' => ?_
    refine deal_loop hwp m (lo + 1) left' (c + 4) ts' S' _ _ _ _ w' (by omega) ok' (by omega) hp' fun left2 ts2 S2 y6 y7 y8 y9 ok2 hl2 f2 w2 => ?_
    exact h left2 ts2 S2 _ _ _ _ ok2 hl2 (f'.trans f2) (w2.le (by omega))
theorem p_deal {S : Sto} {wl : Addr} {n whole c : Int} (w : Wel S wl c) (hc : c ≤ 800000) (n0 : 0 ≤ n) (n1 : n ≤ 1000) (h0 : 0 ≤ whole) (h1 : whole ≤ 1000) (h : ∀ st S', StnOk st → st.n = n → Fm [wl] S S' → Wel S' wl (c + 20) → R (stnD st) S') : φ__law_deal [.ref wl, .int n, .int whole] S R RE := by
  refine ⟨rfl, ?_⟩
  simp [-Bool.exists_bool, -s_seq, s_seqL, w__law_deal, startE, N__law_deal]
  refine later_of ?_
  simp [-Bool.exists_bool, -s_seq, s_seqL]
  refine later_of ?_
  simp [-Bool.exists_bool, -s_seq, s_seqL]
  intro p hp
  have hwp : wl ≠ p := fun e => by
    obtain ⟨_, _, _, e1, _⟩ := w
    rw [e, hp] at e1; cases e1
  refine later_of ?_
  have w' : Wel (S.set p (.lst [])) wl c := w.fm (.set (A := [p]) (by simp)) (by simpa using hwp)
  have f0 : Fm [wl] S (S.set p (.lst [])) := .new hp
  have hp0 : (S.set p (.lst [])) p = some (.lst []) := by simp
  generalize S.set p (.lst []) = S0 at w' f0 hp0
  simp only [s_seqL]
  refine Exists.intro _ (And.intro rfl ?_)
  refine p_draw w' (by omega) (by decide) (by decide) fun d S1 d0 d4 f1 w1 => ?_
  refine And.intro (by omega) (And.intro (by omega) ?_)
  have hp1 : S1 p = some (.lst (([] : List Tie).map fun t => .int t.w)) := by rw [f1 p (by simp; exact fun e => hwp e.symm) (by rw [hp0]; simp)]; exact hp0
  refine deal_loop hwp d.toNat 0 whole (c + 1) [] S1 none none none none w1 (by omega) ⟨h0, Int.le_refl _, (fun t ht => (by cases ht)), List.nodup_nil⟩ (by simp; omega) hp1 fun left ts S2 x6 x7 x8 x9 ok hl f2 w2 => ?_
  dsimp only
  refine later_of ?_
  have l0 := ok.l0
  have lw := ok.lw
  simp [-Bool.exists_bool, -s_seq, s_seqL]
  refine p_draw (w2.le (c' := c + 15) (by omega)) (by omega) (by omega) (by omega) fun e S3 e0 e1 f3 w3 => ?_
  refine later_of ?_
  simp
  have fin := h ⟨n, e, left - e, ts⟩ S3 ⟨n0, n1, e0, (by show e ≤ 1000; omega), (by show 0 ≤ left - e; omega), (by show left - e ≤ 1000; omega), hl, ok.ok, ok.nd⟩ rfl ?_ (w3.le (by omega))
  · exact .now fin
  · have g1 : Fm [wl, p] S S2 := fun b hb n => by
      have e1 := (f0.trans f1) b (by simp at hb ⊢; exact hb.1) n
      rw [f2 b hb (by rw [e1]; exact n), e1]
    intro b hb n
    by_cases hbp : b = p
    · subst hbp; exact absurd hp n
    · have e2 := g1 b (by simp at hb ⊢; exact ⟨hb, hbp⟩) n
      rw [f3 b hb (by rw [e2]; exact n), e2]
end
end L99
end

section
set_option Elab.async false
set_option linter.all false
set_option maxRecDepth 100000
set_option autoImplicit false
namespace L99
open SB PySem PySem.Spec L2
section
variable {S : Sto} {R : Pd} {RE : Px} {a : Ac}
/-! what stays good -/
theorem AcOk.le {k k' : Int} (oa : AcOk k a) (h : k ≤ k') : AcOk k' a := ⟨oa.p0, oa.p2, oa.s0, oa.s1, oa.old, oa.new, Int.le_trans oa.n h, oa.gp, oa.gd⟩
theorem step_ok {l : Ltr} {k : Int} (hk : k ≤ 900) (oa : AcOk k a) (ol : LtOk l) : AcOk (k + 1) (step a l).1 ∧ ∀ l', (step a l).2 = some l' → LtOk l' := by
  have hn := oa.n
  have h0 := oa.old.n0
  have stay : AcOk (k + 1) a ∧ ∀ l', (none : Option Ltr) = some l' → LtOk l' := ⟨oa.le (by omega), fun _ e => by cases e⟩
  unfold step
  by_cases hf : fitB a l = true
  · rw [if_pos hf]
    have hp := fit_pot hf
    unfold fitB at hf
    cases hw : a.w with
    | calm =>
      rw [hw] at hf
      have em : a.mine = a.old := by simp [Ac.mine, hw]
      cases l with
      | offer p s st =>
        simp [agB, em] at hf
        obtain ⟨_, rfl, rfl, e3, e4⟩ := hf
        obtain ⟨_, _, os⟩ := ol
        refine ⟨⟨oa.p0, oa.p2, oa.s0, oa.s1, oa.old, fun _ => ⟨os, e3, e4⟩, (by show a.old.n ≤ k + 1; omega), pl_ag .., dp_ag ..⟩, fun l' e => ?_⟩
        cases e
        exact ⟨⟨oa.p0, oa.p2⟩, ⟨by omega, by omega⟩, os, ⟨by omega, by omega⟩, h0, by omega⟩
      | _ => cases hf
    | offered =>
      rw [hw] at hf
      cases l with
      | accept p s st s2 n =>
        obtain ⟨on, n1, n2⟩ := oa.new (by rw [hw]; simp)
        refine ⟨⟨oa.p0, oa.p2, oa.s0, oa.s1, on, fun z => absurd rfl z, (by show a.new.n ≤ k + 1; omega), pl_ag .., dp_ag ..⟩, fun l' e => ?_⟩
        cases e
        exact ⟨⟨oa.p0, oa.p2⟩, ⟨by omega, by omega⟩, h0, by omega⟩
      | _ => cases hf
    | waiting =>
      rw [hw] at hf
      cases l with
      | struck p s n =>
        obtain ⟨on, n1, n2⟩ := oa.new (by rw [hw]; simp)
        exact ⟨⟨oa.p0, oa.p2, oa.s0, oa.s1, on, fun z => absurd rfl z, (by show a.new.n ≤ k + 1; omega), oa.gp, oa.gd⟩, fun l' e => by cases e⟩
      | _ => cases hf
  · rw [if_neg hf]
    exact stay
theorem off_ok {st : Stn} {k : Int} (hk : k ≤ 900) (oa : AcOk k a) (os : StnOk st) (ho : offO a st = .ok) : AcOk (k + 1) (offA a st) ∧ LtOk (offL a st) := by
  have hn := oa.n
  have h0 := oa.old.n0
  have on : StnOk (offN a st) := ⟨by show 0 ≤ a.old.n + 1; omega, by show a.old.n + 1 ≤ 1000; omega, os.l0, os.l1, os.r0, os.r1, os.len, os.ok, os.nd⟩
  have e : (offN a st).sum = a.old.sum := by
    unfold offO at ho
    split at ho
    · split at ho
      · assumption
      · cases ho
    · cases ho
  exact ⟨⟨oa.p0, oa.p2, oa.s0, oa.s1, oa.old, fun _ => ⟨on, rfl, e⟩, (by show a.old.n ≤ k + 1; omega), oa.gp, oa.gd⟩, ⟨oa.p0, oa.p2⟩, ⟨by omega, by omega⟩, on⟩
end
end L99
end

section
set_option Elab.async false
set_option linter.all false
set_option maxRecDepth 100000
set_option autoImplicit false
namespace L99
open SB PySem PySem.Spec L2
section
variable {ς : En} {S : Sto} {R : Pd} {RE : Px} {a : Ac}
@[simp] theorem s_isE {ad : Addr} {c C : String} {cs : List String} {we : WpE} : wIsE ad c C cs we ς S R RE = we ς S (fun x S1 => x = .ref ad ∧ c ∈ cs ∧ c ≠ "NoPot" ∧ R (.bl (subB c C)) S1) RE := rfl
theorem s_tryAs {cs : List String} {C : String} {i : Nat} {wb : WpS} {ws : Addr → String → WpS} {E : ES} {XE : PxE} : wTryAs cs C i wb ws ς S E XE = wb ς S E (fun c ς' S' => c ∈ cs ∧ if subB c C = true then ∀ a, ws a c (ς'.set i (some (.ref a))) S' (E.unset i) (fun _ _ _ => False) else XE c ς' S') := rfl
theorem f_eqT1 {x y z : Bool} {R : Pd} (h : R (.int ((([x, y].countP fun b => b == z) : Nat) : Int)) S) : fCount (.lst [.bl x, .bl y]) [.bl z] S R := by
  rw [f_countL]
  refine ⟨by cases x <;> cases y <;> decide, by cases z <;> decide, ?_⟩
  have e : ([D.bl x, D.bl y].countP fun b => dEq b (.bl z)) = [x, y].countP fun b => b == z := by cases x <;> cases y <;> cases z <;> decide
  rw [e]
  exact h
theorem f_idx0 {y : Bool} {R : Pd} (h : R (.int 0) S) : fIndex (.lst [.bl true, .bl y]) [.bl true] S R :=
  ⟨_, _, 0, rfl, rfl, by cases y <;> decide, by decide, by cases y <;> decide, h⟩
theorem f_idx1 {R : Pd} (h : R (.int 1) S) : fIndex (.lst [.bl false, .bl true]) [.bl true] S R :=
  ⟨_, _, 1, rfl, rfl, by decide, by decide, by decide, h⟩
/-- what a deed tells, or by which class it is refused -/
def offD (a : Ac) (st : Stn) : D := match offO a st with
  | .deed => .str "deed"
  | .stand => .str "stand"
  | .ok => .tup [acD (offA a st), ltD (offL a st)]
theorem p_done_o {st : Stn} {k : Int} (hk : k ≤ 900) (oa : AcOk k a) (os : StnOk st) (h : R (offD a st) S) : φ__law_done [acD a, .str "offer", .tup [shD st, tsD st]] S R RE := by
  refine ⟨rfl, ?_⟩
  simp [-Bool.exists_bool, -s_seq, s_seqL, w__law_done, startE, N__law_done]
  refine later_of ?_
  simp only [s_seqL, s_tryAs]
  simp [-Bool.exists_bool, L2.atI, L2.ixN]
  refine p_offered hk oa os ?_
  unfold offD at h
  cases ho : offO a st with
  | ok =>
    rw [ho] at h
    dsimp only at h ⊢
    refine later_of ?_
    simp
    exact .now h
  | deed =>
    rw [ho] at h
    dsimp only at h ⊢
    refine ⟨by decide, ?_⟩
    rw [if_pos (by decide)]
    intro ad
    simp [-Bool.exists_bool, -s_seq, s_seqL]
    refine later_of ?_
    have e1 : subB "NoDeed" "NoDeed" = true := by decide
    have e2 : subB "NoDeed" "NoStand" = false := by decide
    rw [e1, e2]
    simp [-Bool.exists_bool, -s_seq, s_seqL]
    refine ⟨by decide, by decide, ?_⟩
    rw [if_pos (by decide)]
    refine f_idx0 ?_
    simp [-Bool.exists_bool, L2.atI, L2.ixN, ES.unset]
    refine later_of ?_
    simp
    exact .now h
  | stand =>
    rw [ho] at h
    dsimp only at h ⊢
    refine ⟨by decide, ?_⟩
    rw [if_pos (by decide)]
    intro ad
    simp [-Bool.exists_bool, -s_seq, s_seqL]
    refine later_of ?_
    have e1 : subB "NoStand" "NoDeed" = false := by decide
    have e2 : subB "NoStand" "NoStand" = true := by decide
    rw [e1, e2]
    simp [-Bool.exists_bool, -s_seq, s_seqL]
    refine ⟨by decide, by decide, ?_⟩
    rw [if_pos (by decide)]
    refine f_idx1 ?_
    simp [-Bool.exists_bool, L2.atI, L2.ixN, ES.unset]
    refine later_of ?_
    simp
    exact .now h
theorem p_done_t {l : Ltr} {kd : String} {k : Int} (hkd : kd ≠ "offer") (hk : k ≤ 900) (oa : AcOk k a) (ol : LtOk l) (h : R (.tup [acD (step a l).1, optD (step a l).2]) S) : φ__law_done [acD a, .str (Str.ofString kd), ltD l] S R RE := by
  refine ⟨rfl, ?_⟩
  simp [-Bool.exists_bool, -s_seq, s_seqL, w__law_done, startE, N__law_done]
  refine later_of ?_
  simp only [s_seqL, s_tryAs]
  simp [-Bool.exists_bool, hkd]
  refine m_taken ?_
  refine p_taken hk oa ol ?_
  refine later_of ?_
  simp
  exact .now h
end
end L99
end

section
set_option Elab.async false
set_option linter.all false
set_option maxRecDepth 100000
set_option autoImplicit false
namespace L99
open SB PySem PySem.Spec L2
section
variable {S : Sto} {R : Pd} {RE : Px}
theorem pot_at {p d : Int} (p0 : 0 ≤ p) (p2 : p ≤ 2) (d0 : 0 ≤ d) (d4 : d < 4) : ∃ q : Int, L2.atI [D.int p, D.int p, D.int p, D.int ((p + 1) % 3)] d = some (.int q) ∧ 0 ≤ q ∧ q ≤ 2 := by
  have : d = 0 ∨ d = 1 ∨ d = 2 ∨ d = 3 := by omega
  rcases this with rfl | rfl | rfl | rfl
  · exact ⟨p, rfl, p0, p2⟩
  · exact ⟨p, rfl, p0, p2⟩
  · exact ⟨p, rfl, p0, p2⟩
  · exact ⟨(p + 1) % 3, rfl, by omega, by omega⟩
theorem six_at {x : Fin 6 → D} {d : Int} (d0 : 0 ≤ d) (d6 : d < 6) : ∃ i, L2.atI [x 0, x 1, x 2, x 3, x 4, x 5] d = some (x i) := by
  have : d = 0 ∨ d = 1 ∨ d = 2 ∨ d = 3 ∨ d = 4 ∨ d = 5 := by omega
  rcases this with rfl | rfl | rfl | rfl | rfl | rfl
  · exact ⟨0, rfl⟩
  · exact ⟨1, rfl⟩
  · exact ⟨2, rfl⟩
  · exact ⟨3, rfl⟩
  · exact ⟨4, rfl⟩
  · exact ⟨5, rfl⟩
theorem p_written {wl : Addr} {pot whole c : Int} (w : Wel S wl c) (hc : c ≤ 700000) (p0 : 0 ≤ pot) (p2 : pot ≤ 2) (h0 : 0 ≤ whole) (h1 : whole ≤ 900) (h : ∀ l S', LtOk l → Fm [wl] S S' → Wel S' wl (c + 40) → R (ltD l) S') : φ__law_written [.ref wl, .int pot, .int whole] S R RE := by
  refine ⟨rfl, ?_⟩
  simp [-Bool.exists_bool, -s_seq, s_seqL, w__law_written, startE, N__law_written]
  refine p_draw w (by omega) (by decide) (by decide) fun d1 S1 d10 d11 f1 w1 => ?_
  obtain ⟨q, hq, q0, q2⟩ := pot_at p0 p2 d10 d11
  rw [f_ixL]
  refine ⟨_, hq, later_of ?_⟩
  simp [-Bool.exists_bool, -s_seq, s_seqL]
  refine p_draw w1 (by omega) (by decide) (by decide) fun sd S2 d20 d21 f2 w2 => ?_
  refine later_of ?_
  simp [-Bool.exists_bool, -s_seq, s_seqL]
  refine p_draw w2 (by omega) (by decide) (by decide) fun n S3 d30 d31 f3 w3 => ?_
  refine p_draw w3 (by omega) (by decide) (by decide) fun x4 S4 d40 d41 f4 w4 => ?_
  simp [-Bool.exists_bool, -s_seq, s_seqL]
  have hx : 0 ≤ x4 / 4 ∧ x4 / 4 ≤ 1 := by omega
  refine ⟨by decide +kernel, p_deal w4 (by omega) d30 (by omega) (by omega) (by omega) fun st S5 os en f5 w5 => ?_⟩
  refine later_of ?_
  simp [-Bool.exists_bool, -s_seq, s_seqL]
  refine p_draw w5 (by omega) (by decide) (by decide) fun s2 S6 d60 d61 f6 w6 => ?_
  refine p_draw w6 (by omega) (by decide) (by decide) fun m S7 d70 d71 f7 w7 => ?_
  refine later_of ?_
  have f17 : Fm [wl] S S7 := (((((f1.trans f2).trans f3).trans f4).trans f5).trans f6).trans f7
  have ea : D.tup [.str "agree", .int q, .int sd, stnD st] = agD q sd st := rfl
  have es : D.tup [.str "strike", .int q, .int s2, .int m] = skD q s2 m := rfl
  rw [ea, es]
  simp [-Bool.exists_bool, -s_seq, s_seqL]
  refine later_of ?_
  simp [-Bool.exists_bool, -s_seq, s_seqL]
  refine p_draw w7 (by omega) (by decide) (by decide) fun d8 S8 d80 d81 f8 w8 => ?_
  have w8' : Wel S8 wl (c + 40) := w8.le (by omega)
  have f18 := f17.trans f8
  have o1 : LtOk (.offer q sd st) := ⟨⟨q0, q2⟩, ⟨d20, by omega⟩, os⟩
  have o2 : LtOk (.accept q sd st s2 m) := ⟨⟨q0, q2⟩, ⟨d20, by omega⟩, os, ⟨d60, by omega⟩, d70, by omega⟩
  have o3 : LtOk (.struck q s2 m) := ⟨⟨q0, q2⟩, ⟨d60, by omega⟩, d70, by omega⟩
  have o5 : LtOk (.ask q { st with n := 0 }) := ⟨⟨q0, q2⟩, ⟨Int.le_refl _, by show (0 : Int) ≤ 1000; decide, os.l0, os.l1, os.r0, os.r1, os.len, os.ok, os.nd⟩, rfl⟩
  have o6 : LtOk (.word q) := ⟨q0, q2⟩
  have get : ∀ l, LtOk l → Rz R (ltD l) S8 := fun l ol => .now (h l S8 ol f18 w8')
  rw [f_ixL]
  have : d8 = 0 ∨ d8 = 1 ∨ d8 = 2 ∨ d8 = 3 ∨ d8 = 4 ∨ d8 = 5 := by omega
  rcases this with rfl | rfl | rfl | rfl | rfl | rfl
  · exact ⟨_, rfl, get _ o1⟩
  · exact ⟨_, rfl, get _ o2⟩
  · exact ⟨_, rfl, get _ o3⟩
  · exact ⟨_, rfl, get _ o1⟩
  · exact ⟨_, rfl, get _ o5⟩
  · exact ⟨_, rfl, get _ o6⟩
end
end L99
end

section
set_option Elab.async false
set_option linter.all false
set_option maxRecDepth 100000
set_option autoImplicit false
namespace L99
open SB PySem PySem.Spec L2
section
variable {S : Sto} {R : Pd} {RE : Px}
/-- .. while a list of one's own stands still -/
theorem lc_mapG {α : Type} {gd : Option (Addr × SO)} {g : α → D} {t : Tg} {we : WpE} {ς : En} {p : Addr} {xs : List α} (f : α → D) (hgd : ∀ o, grd gd (S.set p o)) (hl : xs.length ≤ sizeLine)
    (hx : ∀ x ∈ xs, ∃ ς1, t.bind (g x) ς = some ς1 ∧ ∀ (S : Sto) (R : Pd), R (f x) S → we ς1 S R (fun _ _ => False)) (h : R (.lst (xs.map f)) S) (hp : S p = none) : lcL gd t wYes we p ς (xs.map g) [] (S.set p (.lst [])) (lcEnd false p R) := by
  have gen : ∀ (xs : List α) (acc : List D) (K : List D → Sto → Prop), xs.length + acc.length ≤ sizeLine → (∀ x ∈ xs, ∃ ς1, t.bind (g x) ς = some ς1 ∧ ∀ (S : Sto) (R : Pd), R (f x) S → we ς1 S R (fun _ _ => False)) →
      K (acc ++ xs.map f) (S.set p (.lst (acc ++ xs.map f))) → lcL gd t wYes we p ς (xs.map g) acc (S.set p (.lst acc)) K := by
    intro xs
    induction xs with
    | nil => intro acc K _ _ h; exact ⟨hgd _, by simp, by simpa using h⟩
    | cons x xs ih =>
      intro acc K hl hx h
      obtain ⟨ς1, e1, h1⟩ := hx x List.mem_cons_self
      refine ⟨hgd _, ς1, e1, ?_⟩
      simp only [s_yes, if_true]
      refine h1 _ _ ⟨by simp, by simp at hl; omega, ?_⟩
      rw [Sto.set_set]
      refine ih _ _ (by simp at hl ⊢; omega) (fun y hy => hx y (List.mem_cons_of_mem _ hy)) ?_
      simpa using h
  refine gen xs [] _ (by simpa using hl) hx ?_
  show R _ _
  simpa [Sto.del_none hp] using h
def pairD (a : Ac) : D := .tup [acD a, dueD a]
/-- all accounts tell what they should -/
theorem all_same {h : Addr} {held : List Ac} {k : Int} {ς : En} (hk : k ≤ 900) (oa : ∀ a ∈ held, AcOk k a) (hl : held.length ≤ 1000) (hS : S h = some (.lst (held.map pairD))) (h1 : ς[1]? = some (some (.ref h))) (hlen : ς.length = 15) (hR : R (.bl true) S) :
    wFun fAll (wCons (wLc false (wSrc (wVar 1)) (.tup (.cons (.nm 8) (.cons (.nm 13) .nil))) wYes (wCall φ__law_same [] (wCons (wVar 8) (wCons (wVar 13) wNil))) [8, 13]) wNil) ς S R RE := by
  simp only [s_fun, s_cons, s_lc, s_src, s_var, s_nil]
  refine ⟨.ref h, h1, held.map pairD, some (h, .lst (held.map pairD)), srcOf_ref hS, fun p hp => ?_⟩
  have hph : h ≠ p := fun e => by rw [e, hp] at hS; cases hS
  refine lc_mapG (fun _ => .bl true) (fun o => ?_) (sz1000 hl) (fun a ha => ⟨_, rfl, fun S R hR => ?_⟩) ?_ hp
  · show (S.set p o) h = _
    rw [Sto.set_ne hph]; exact hS
  · have l8 : 8 < (wipeE ς [8, 13]).length := by simp [wipeE, hlen]
    have l13 : 13 < (wipeE ς [8, 13]).length := by simp [wipeE, hlen]
    refine ⟨acD a, ?_, dueD a, ?_, ?_⟩
    · rw [List.getElem?_set_ne (by decide), List.getElem?_set_self l8]
    · rw [List.getElem?_set_self (by rw [List.length_set]; exact l13)]
    · exact p__law_same hk (oa a ha) hR
  · exact fAll_yes (by simp) hR
end
end L99
end

section
set_option Elab.async false
set_option linter.all false
set_option maxRecDepth 100000
set_option autoImplicit false
namespace L99
open SB PySem PySem.Spec L2
section
variable {S : Sto} {R : Pd} {RE : Px}
def turnB : WpS := (wSeq (wSet 12 (wCall φ__law_done [] (wCons (wVar 6) (wCons (wVar 5) (wCons (wVar 9) wNil)))))
  (wIf (wB (wOr (wIsTy "str" (wVar 12)) (wIsTy "str" (wVar 10)))) (wIf (wB (wOp (fEq true) (wVar 12) (wVar 10))) (wRet (wC (.bl false))) wNx) (wIf (wB (wOr (wNot (wCall φ__law_same [] (wCons (wOp fIx (wVar 12) (wC (.int 0))) (wCons (wOp fIx (wVar 10) (wC (.int 0))) wNil)))) (wOp (fEq true) (wOp fIx (wVar 12) (wC (.int 1))) (wOp fIx (wVar 10) (wC (.int 1)))))) (wRet (wC (.bl false))) wNx)))
/-- what was told is what is due -/
inductive Same (k : Int) : D → D → Prop
  | str (s : String) : Same k (.str (Str.ofString s)) (.str (Str.ofString s))
  | acc (b : Ac) (o : Option Ltr) : AcOk k b → (∀ l, o = some l → LtOk l) → Same k (.tup [acD b, optD o]) (.tup [dueD b, optD o])
theorem pl_opt (o : Option Ltr) : pl (optD o) = true := by cases o <;> simp [optD]
theorem dp_opt (o : Option Ltr) : dp (optD o) ≤ 5 := by
  cases o with
  | none => simp [optD]
  | some l => exact dp_lt l
theorem turn_ok {k : Int} {F W x5 x6 x9 : D} {c0 c1 c2 c3 c4 c7 c8 c11 c12 c13 c14 : Option D} {E : ES} {XE : PxE} (hk : k ≤ 900) (sm : Same k F W) (hd : ∀ (S : Sto) (R : Pd) (RE : Px), R F S → φ__law_done [x6, x5, x9] S R RE)
    (h : E.nx [c0, c1, c2, c3, c4, some x5, some x6, c7, c8, some x9, some W, c11, some F, c13, c14] S) :
    turnB [c0, c1, c2, c3, c4, some x5, some x6, c7, c8, some x9, some W, c11, c12, c13, c14] S E XE := by
  simp [-Bool.exists_bool, -s_seq, s_seqL, turnB]
  refine hd _ _ _ ?_
  refine later_of ?_
  cases sm with
  | str s =>
    simp [-Bool.exists_bool, tySub]
    exact h
  | acc b o ob ol =>
    simp [-Bool.exists_bool, tySub, L2.atI, L2.ixN]
    refine p__law_same hk ob ?_
    simp [-Bool.exists_bool, L2.atI, L2.ixN]
    refine f_eqP' true (pl_opt o) (pl_opt o) (Nat.le_trans (dp_opt o) (by decide)) (Nat.le_trans (dp_opt o) (by decide)) (by simp) ?_
    simp [-Bool.exists_bool]
    exact h
theorem turns_ok {k : Int} {F W x5 x6 x9 : D} {c0 c1 c2 c3 c4 c7 c8 c11 c12 c13 c14 : Option D} {E : ES} {XE : PxE} (hk : k ≤ 900) (sm : Same k F W) (hd : ∀ (S : Sto) (R : Pd) (RE : Px), R F S → φ__law_done [x6, x5, x9] S R RE)
    (h : E.nx [c0, c1, c2, c3, c4, some x5, some x6, c7, c8, some x9, some W, some (.int 1), some F, c13, c14] S) :
    forL none (.nm 11) turnB (rngD 0 2) [c0, c1, c2, c3, c4, some x5, some x6, c7, c8, some x9, some W, c11, c12, c13, c14] S E XE := by
  refine ⟨trivial, _, rfl, ?_⟩
  refine turn_ok (c11 := some (.int 0)) hk sm hd ?_
  refine ⟨trivial, _, rfl, ?_⟩
  refine turn_ok (c11 := some (.int (0 + 1))) hk sm hd ?_
  exact ⟨trivial, h⟩
end
end L99
end

section
set_option Elab.async false
set_option linter.all false
set_option maxRecDepth 100000
set_option autoImplicit false
namespace L99
open SB PySem PySem.Spec L2
section
variable {S : Sto} {R : Pd} {RE : Px}
def endB : WpS := (wSeq (wIf (wB (wNot (wIsTy "str" (wVar 12)))) (wSeq (wExpr (wMt "list" fAppend (wVar 1) (wCons (wTup (wCons (wOp fIx (wVar 12) (wC (.int 0))) (wCons (wOp fIx (wVar 10) (wC (.int 0))) wNil))) wNil)))
  (wExpr (wMt "list" fExtend (wVar 2) (wCons (wLc false (wSrc (wLst false (wCons (wOp fIx (wVar 12) (wC (.int 1))) wNil))) (.nm 14) (wB (wOp (fIs true) (wVar 14) (wC .non))) (wVar 14) [14]) wNil)))) wNx)
  (wRet (wFun fAll (wCons (wLc false (wSrc (wVar 1)) (.tup (.cons (.nm 8) (.cons (.nm 13) .nil))) wYes (wCall φ__law_same [] (wCons (wVar 8) (wCons (wVar 13) wNil))) [8, 13]) wNil))))
def ltL (o : Option Ltr) : List Ltr := match o with
  | none => []
  | some l => [l]
theorem is_lt {l : Ltr} {R : Pd} : fIs true (ltD l) .non S R = R (.bl true) S := by cases l <;> rfl
/-- where the accounts and the letters stand -/
structure Hs (k : Int) (h q : Addr) (held : List Ac) (letters : List Ltr) (S : Sto) : Prop where
  hS : S h = some (.lst (held.map pairD))
  qS : S q = some (.lst (letters.map ltD))
  oa : ∀ a ∈ held, AcOk k a
  ol : ∀ l ∈ letters, LtOk l
  ne : h ≠ q
theorem end_ok {k : Int} {h q : Addr} {held : List Ac} {letters : List Ltr} {F W : D} {c0 c3 c4 c5 c6 c7 c8 c9 c11 c13 c14 : Option D} (hk : k ≤ 900) (sm : Same k F W) (hs : Hs k h q held letters S) (l1 : held.length ≤ 900) (l2 : letters.length ≤ 900)
    (hR : ∀ held' letters' S', Hs k h q held' letters' S' → held'.length ≤ held.length + 1 → held.length ≤ held'.length → letters'.length ≤ letters.length + 1 → Fm [h, q] S S' → R (.bl true) S') :
    endB [c0, some (.ref h), some (.ref q), c3, c4, c5, c6, c7, c8, c9, some W, c11, some F, c13, c14] S ⟨fun _ S' => Rz R .non S', Rz R, fun _ _ => False, fun _ _ => False⟩ (fun c _ S' => RE c S') := by
  cases sm with
  | str s =>
    simp [-Bool.exists_bool, -s_seq, s_seqL, endB, tySub]
    refine later_of ?_
    exact all_same hk hs.oa (by omega) hs.hS rfl rfl (.now (hR held letters S hs (by omega) (by omega) (by omega) .refl))
  | acc b o ob ol =>
    simp [-Bool.exists_bool, -s_seq, s_seqL, endB, tySub]
    simp [-Bool.exists_bool, -s_seq, L2.atI, L2.ixN]
    refine ⟨tyM_refL hs.hS, h, _, _, rfl, rfl, hs.hS, sz1001 (by rw [List.length_map]; omega), later_of ?_⟩
    have eh : held.map pairD ++ [.tup [acD b, dueD b]] = (held ++ [b]).map pairD := by simp [pairD]
    rw [eh]
    have hS1 : (S.set h (.lst ((held ++ [b]).map pairD))) h = some (.lst ((held ++ [b]).map pairD)) := by simp
    have qS1 : (S.set h (.lst ((held ++ [b]).map pairD))) q = some (.lst (letters.map ltD)) := by rw [Sto.set_ne (fun e => hs.ne e.symm)]; exact hs.qS
    have f1 : Fm [h, q] S (S.set h (.lst ((held ++ [b]).map pairD))) := .set (by simp)
    have oa1 : ∀ a ∈ held ++ [b], AcOk k a := fun a ha => by
      rcases List.mem_append.mp ha with ha | ha
      · exact hs.oa a ha
      · simp at ha; subst ha; exact ob
    generalize S.set h (.lst ((held ++ [b]).map pairD)) = S1 at hS1 qS1 f1 ⊢
    have ext : ∀ ls : List Ltr, (∀ l ∈ ls, LtOk l) → ls.length ≤ 1 → (fExtend (.ref q) [.lst (ls.map ltD)] S1 fun _ S2 => later (wRet (wFun fAll (wCons (wLc false (wSrc (wVar 1)) (.tup (.cons (.nm 8) (.cons (.nm 13) .nil))) wYes (wCall φ__law_same [] (wCons (wVar 8) (wCons (wVar 13) wNil))) [8, 13]) wNil)))
        [c0, some (.ref h), some (.ref q), c3, c4, c5, c6, c7, c8, c9, some (.tup [dueD b, optD o]), c11, some (.tup [acD b, optD o]), c13, c14] S2 ⟨fun _ S' => Rz R .non S', Rz R, fun _ _ => False, fun _ _ => False⟩ (fun c _ S' => RE c S')) := fun ls hls hl1 => by
      have hne : h ≠ q := hs.ne
      refine ⟨q, _, _, ls.map ltD, rfl, rfl, qS1, rfl, sz1000 (by simp; omega), later_of ?_⟩
      have hS2 : (S1.set q (.lst (letters.map ltD ++ ls.map ltD))) h = some (.lst ((held ++ [b]).map pairD)) := by rw [Sto.set_ne hne]; exact hS1
      refine all_same hk oa1 (by simp; omega) hS2 rfl rfl (.now (hR (held ++ [b]) (letters ++ ls) _ ⟨hS2, by simp, oa1, fun l hl => ?_, hne⟩ (by simp) (by simp) (by simp; omega) (f1.trans (.set (by simp)))))
      rcases List.mem_append.mp hl with hl | hl
      · exact hs.ol l hl
      · exact hls l hl
    simp [-Bool.exists_bool, -s_seq, L2.atI, L2.ixN]
    refine ⟨tyM_refL qS1, fun p hp => ?_⟩
    cases o with
    | none =>
      refine ⟨trivial, _, rfl, ?_⟩
      simp [-Bool.exists_bool, wipeE, optD, lcL, grd, lcEnd, Sto.del_none hp]
      exact ext [] (fun _ h => by cases h) (by simp)
    | some l =>
      refine ⟨trivial, _, rfl, ?_⟩
      simp [-Bool.exists_bool, wipeE, optD, lcL, grd, lcEnd, is_lt, Sto.del_none hp]
      exact ext [l] (fun l' h => by simp at h; exact ol l' (by rw [h])) (by simp)
end
end L99
end

section
set_option Elab.async false
set_option linter.all false
set_option maxRecDepth 100000
set_option autoImplicit false
namespace L99
open SB PySem PySem.Spec L2
section
variable {S : Sto} {R : Pd} {RE : Px}
theorem kind_at {d : Int} (d0 : 0 ≤ d) (d5 : d < 5) : ∃ kd : String, L2.atI [D.str "offer", D.str "take", D.str "take", D.str "take", D.str "write"] d = some (.str (Str.ofString kd)) ∧ (kd = "offer" ∨ kd = "take" ∨ kd = "write") := by
  have : d = 0 ∨ d = 1 ∨ d = 2 ∨ d = 3 ∨ d = 4 := by omega
  rcases this with rfl | rfl | rfl | rfl | rfl
  · exact ⟨"offer", rfl, by simp⟩
  · exact ⟨"take", rfl, by simp⟩
  · exact ⟨"take", rfl, by simp⟩
  · exact ⟨"take", rfl, by simp⟩
  · exact ⟨"write", rfl, by simp⟩
theorem at_map {α : Type} {g : α → D} {l : List α} {d : Int} (d0 : 0 ≤ d) (d1 : d < l.length) : ∃ x ∈ l, L2.atI (l.map g) d = some (g x) := by
  have h : d.toNat < l.length := by omega
  refine ⟨l[d.toNat], List.getElem_mem h, ?_⟩
  unfold L2.atI L2.ixN
  rw [if_pos d0, if_pos (by rw [List.length_map]; exact d1)]
  simp [h]
theorem Hs.fm {k : Int} {h q : Addr} {held : List Ac} {letters : List Ltr} {S S' : Sto} {A : List Addr} (hs : Hs k h q held letters S) (f : Fm A S S') (nh : h ∉ A) (nq : q ∉ A) : Hs k h q held letters S' :=
  ⟨by rw [f h nh (by rw [hs.hS]; simp)]; exact hs.hS, by rw [f q nq (by rw [hs.qS]; simp)]; exact hs.qS, hs.oa, hs.ol, hs.ne⟩
theorem f_eqE {q : Addr} {letters : List Ltr} {R : Pd} (h : S q = some (.lst (letters.map ltD))) (hR : R (.bl (decide (letters = []))) S) : fEq false (.ref q) (.lst []) S R := by
  have hp : pl (.lst (letters.map ltD)) = true := plL_map fun l _ => pl_lt l
  have hd : dp (.lst (letters.map ltD)) ≤ 64 := by
    have := dpL_map (f := ltD) (k := 5) (m := letters) fun l _ => dp_lt l
    simp only [dp_lst]; omega
  have hv : view S (.ref q) = .lst (letters.map ltD) := by simp [view, h]
  unfold fEq
  rw [hv]
  refine ⟨ok_pl hp hd, ok_pl (x := .lst []) rfl (by decide), ?_⟩
  have e : dEq (.lst (letters.map ltD)) (.lst []) = decide (letters = []) := by
    rw [Bool.eq_iff_iff, dEq_pl hp rfl]
    simp
  show R (.bl (false ^^ dEq (.lst (letters.map ltD)) (.lst []))) S
  rw [e, Bool.false_xor]
  exact hR
theorem p_deed {k pot whole : Int} {wl h q : Addr} {held : List Ac} {letters : List Ltr} (hk0 : 0 ≤ k) (hk : k ≤ 800) (w : Wel S wl 0) (hs : Hs k h q held letters S) (nh : h ≠ wl) (nq : q ≠ wl) (l0 : 1 ≤ held.length) (l1 : held.length ≤ 800) (l2 : letters.length ≤ 800)
    (p0 : 0 ≤ pot) (p2 : pot ≤ 2) (h0 : 0 ≤ whole) (h1 : whole ≤ 100)
    (hR : ∀ held' letters' S', Hs (k + 1) h q held' letters' S' → held'.length ≤ held.length + 1 → held.length ≤ held'.length → letters'.length ≤ letters.length + 1 → Fm [wl, h, q] S S' → R (.bl true) S') :
    φ__law_deed_right [.ref wl, .ref h, .ref q, .int pot, .int whole] S R RE := by
  refine ⟨rfl, ?_⟩
  have es : startE N__law_deed_right [.ref wl, .ref h, .ref q, .int pot, .int whole] = [some (.ref wl), some (.ref h), some (.ref q), some (.int pot), some (.int whole), none, none, none, none, none, none, none, none, none, none] := rfl
  rw [es]
  refine And.intro sz_5 (Exists.intro _ (And.intro rfl ?_))
  refine p_draw w (by omega) (by decide) (by decide) fun d1 S1 d10 d11 f1 w1 => ?_
  obtain ⟨kd, hkd, hk3⟩ := kind_at d10 d11
  refine (show fIx (.lst [D.str "offer", D.str "take", D.str "take", D.str "take", D.str "write"]) (.int d1) S1 _ from ?_)
  rw [f_ixL]
  refine ⟨_, hkd, ?_⟩
  clear hkd
  have hs1 := hs.fm f1 (by simpa using nh) (by simpa using nq)
  simp only [s_seqL]
  have e1 : ∀ R' : Pd, fLen [.ref h] S1 R' = R' (.int held.length) S1 := fun R' => by simp [fLen, contOf_refL hs1.hS]
  simp [-Bool.exists_bool, -s_seq, e1]
  refine ⟨.inl ⟨by omega, by omega⟩, p_draw w1 (by omega) (by omega) (by omega) fun d2 S2 d20 d21 f2 w2 => ?_⟩
  have hs2 := hs1.fm f2 (by simpa using nh) (by simpa using nq)
  simp [-Bool.exists_bool, -s_seq]
  refine ⟨by decide +kernel, ?_⟩
  obtain ⟨a, ha, hat⟩ := at_map (g := pairD) (l := held) (d := d2 / 2) (by omega) (by omega)
  rw [f_ixR hs2.hS]
  refine ⟨_, hat, ?_⟩
  simp [-Bool.exists_bool, -s_seq, pairD]
  refine later_of ?_
  simp [-Bool.exists_bool, -s_seq, s_seqL]
  refine p_draw w2 (by omega) (by decide) (by decide) fun d3 S3 d30 d31 f3 w3 => ?_
  simp [-Bool.exists_bool, -s_seq, s_seqL]
  have hx : 0 ≤ d3 / 8 ∧ d3 / 8 ≤ 1 := by omega
  refine ⟨by decide +kernel, p_deal w3 (by omega) (by decide) (by decide) (by omega) (by omega) fun st S4 os en f4 w4 => later_of ?_⟩
  have hsl : ∀ R' : Pd, fSl false (stnD st) (some 1) none S4 R' = R' (.tup [shD st, tsD st]) S4 := fun R' => by simp [stnD, cutD, HT.sIx]
  simp [-Bool.exists_bool, -s_seq, s_seqL, hsl]
  refine later_of ?_
  have f14 : Fm [wl] S S4 := ((f1.trans f2).trans f3).trans f4
  have hs4 := hs.fm f14 (by simpa using nh) (by simpa using nq)
  have oa := hs.oa a ha
  have fin : ∀ (S5 : Sto) (F W x5 x9 : D) (c8 : Option D), Fm [wl] S S5 → Same (k + 1) F W → (∀ (S : Sto) (R : Pd) (RE : Px), R F S → φ__law_done [acD a, x5, x9] S R RE) →
      later (wSeq (wFor (wRange (wCons (wC (.int 2)) wNil)) (.nm 11) turnB) endB) [some (.ref wl), some (.ref h), some (.ref q), some (.int pot), some (.int whole), some x5, some (acD a), some (dueD a), c8, some x9, some W, none, none, none, none] S5
        ⟨fun _ S' => Rz R .non S', Rz R, fun _ _ => False, fun _ _ => False⟩ (fun c _ S' => RE c S') := fun S5 F W x5 x9 c8 f5 sm hd => by
    have hs5 := hs.fm f5 (by simpa using nh) (by simpa using nq)
    have hs5' : Hs (k + 1) h q held letters S5 := ⟨hs5.hS, hs5.qS, fun a ha => (hs5.oa a ha).le (by omega), hs5.ol, hs5.ne⟩
    refine And.intro (by decide) (And.intro (by decide) ?_)
    refine turns_ok (by omega) sm hd ?_
    refine end_ok (by omega) sm hs5' (by omega) (by omega) fun held' letters' S' hs' z1 z2 z3 f' => ?_
    refine hR held' letters' S' hs' z1 z2 z3 fun b hb n => ?_
    have e5 := f5 b (by simp at hb ⊢; exact hb.1) n
    rw [f' b (by simp at hb ⊢; exact hb.2) (by rw [e5]; exact n), e5]
  have offer : ∀ (c8 : Option D), True := fun _ => trivial
  rcases hk3 with rfl | rfl | rfl
  · simp [-Bool.exists_bool, -s_seq, s_seqL]
    refine later_of ?_
    simp [-Bool.exists_bool, -s_seq, s_seqL, L2.atI, L2.ixN]
    refine p__law_offered_of (by omega) oa os ?_
    cases ho : offO a st with
    | deed => exact fin S4 _ _ _ _ _ f14 (.str "deed") fun S R RE h => p_done_o (by omega) oa os (by unfold offD; rw [ho]; exact h)
    | stand => exact fin S4 _ _ _ _ _ f14 (.str "stand") fun S R RE h => p_done_o (by omega) oa os (by unfold offD; rw [ho]; exact h)
    | ok =>
      have q := off_ok (by omega) oa os ho
      exact fin S4 _ _ _ _ _ f14 (.acc (offA a st) (some (offL a st)) q.1 fun l e => by cases e; exact q.2) fun S R RE h => p_done_o (by omega) oa os (by unfold offD; rw [ho]; exact h)
  · simp [-Bool.exists_bool, -s_seq, s_seqL]
    refine f_eqE hs4.qS ?_
    by_cases hl : letters = []
    · simp [-Bool.exists_bool, -s_seq, s_seqL, hl]
      refine p_written w4 (by omega) p0 p2 h0 (by omega) fun l S5 ol f5 w5 => ?_
      refine later_of ?_
      simp [-Bool.exists_bool, -s_seq, s_seqL]
      refine p__law_taken (by omega) oa ol ?_
      have q := step_ok (by omega) oa ol
      exact fin S5 _ _ _ _ _ (f14.trans f5) (.acc (step a l).1 (step a l).2 q.1 q.2) fun S R RE h => p_done_t (by decide) (by omega) oa ol h
    · have hl0 : 0 < letters.length := List.length_pos_iff.mpr hl
      have e4 : ∀ (S : Sto) (R' : Pd), S q = some (.lst (letters.map ltD)) → fLen [.ref q] S R' = R' (.int letters.length) S := fun S R' hS => by simp [fLen, contOf_refL hS]
      simp [-Bool.exists_bool, -s_seq, s_seqL, hl, e4 S4 _ hs4.qS]
      refine p_draw w4 (by omega) (by omega) (by omega) fun d5 S5 d50 d51 f5 w5 => ?_
      have hs5 := hs4.fm f5 (by simpa using nh) (by simpa using nq)
      simp [-Bool.exists_bool, -s_seq, s_seqL, e4 S5 _ hs5.qS]
      refine p_draw w5 (by omega) (by omega) (by omega) fun d6 S6 d60 d61 f6 w6 => ?_
      have hs6 := hs5.fm f6 (by simpa using nh) (by simpa using nq)
      simp only [f_minI, f_sub]
      obtain ⟨l, hlm, hat2⟩ := at_map (g := ltD) (l := letters) (d := (letters.length : Int) - 1 - (if d6 < d5 then d6 else d5)) (by split <;> omega) (by split <;> omega)
      rw [f_ixR hs6.qS]
      refine ⟨_, hat2, later_of ?_⟩
      have ol := hs.ol l hlm
      simp [-Bool.exists_bool, -s_seq, s_seqL]
      refine p__law_taken (by omega) oa ol ?_
      have q := step_ok (by omega) oa ol
      exact fin S6 _ _ _ _ _ ((f14.trans f5).trans f6) (.acc (step a l).1 (step a l).2 q.1 q.2) fun S R RE h => p_done_t (by decide) (by omega) oa ol h
  · simp [-Bool.exists_bool, -s_seq, s_seqL]
    refine p_written w4 (by omega) p0 p2 h0 (by omega) fun l S5 ol f5 w5 => ?_
    refine later_of ?_
    simp [-Bool.exists_bool, -s_seq, s_seqL]
    refine p__law_taken (by omega) oa ol ?_
    have q := step_ok (by omega) oa ol
    exact fin S5 _ _ _ _ _ (f14.trans f5) (.acc (step a l).1 (step a l).2 q.1 q.2) fun S R RE h => p_done_t (by decide) (by omega) oa ol h
end
end L99
end

section
set_option Elab.async false
set_option linter.all false
set_option maxRecDepth 100000
set_option autoImplicit false
namespace L99
open SB PySem PySem.Spec L2
def deedB : WpS := wIf (wB (wNot (wCall φ__law_deed_right [] (wCons (wCall φ__law_well_of [] (wCons (wVar 7) wNil)) (wCons (wVar 4) (wCons (wVar 6) (wCons (wVar 2) (wCons (wFun fSum (wCons (wVar 3) wNil)) wNil)))))))) (wRet (wC (.bl false))) wNx
theorem f_sum2 {l r : Int} {S : Sto} {R : Pd} (h : R (.int (l + r)) S) : fSum [.lst [.int l, .int r]] S R := by
  rw [f_sumL]
  exact ⟨[l, r], rfl, by simpa using h⟩
theorem deeds {h q : Addr} {pot l r : Int} {c0 c1 c5 : Option D} {E : ES} {XE : PxE} (p0 : 0 ≤ pot) (p2 : pot ≤ 2) (l0 : 0 ≤ l) (l1 : l ≤ 40) (r0 : 0 ≤ r) (r1 : r ≤ 40) : ∀ (cs : List Int) (k : Int) (held : List Ac) (letters : List Ltr) (S : Sto) (c7 : Option D), 0 ≤ k → k + cs.length ≤ 800 → Hs k h q held letters S → 1 ≤ held.length → held.length + cs.length ≤ 800 → letters.length + cs.length ≤ 800 →
    (∀ S' c7, E.nx [c0, c1, some (.int pot), some (.lst [.int l, .int r]), some (.ref h), c5, some (.ref q), c7] S') →
    forL none (.nm 7) deedB (cs.map .int) [c0, c1, some (.int pot), some (.lst [.int l, .int r]), some (.ref h), c5, some (.ref q), c7] S E XE
  | [], k, held, letters, S, c7, k0, k1, hs, n0, n1, n2, hE => ⟨trivial, hE S c7⟩
  | c :: cs, k, held, letters, S, c7, k0, k1, hs, n0, n1, n2, hE => by
    simp only [List.length_cons] at k1 n1 n2
    refine ⟨trivial, _, rfl, ?_⟩
    simp [-Bool.exists_bool, deedB]
    refine p_well_of fun wl S1 e1 f1 w1 => ?_
    refine ⟨[l, r], rfl, ?_⟩
    have e : ([l, r] : List Int).sum = l + r := by simp
    rw [e]
    have hs1 := hs.fm f1 (by simp) (by simp)
    have nh : h ≠ wl := fun e => by
      have := hs.hS
      rw [e, e1] at this; cases this
    have nq : q ≠ wl := fun e => by
      have := hs.qS
      rw [e, e1] at this; cases this
    refine p_deed k0 (by omega) w1 hs1 nh nq n0 (by omega) (by omega) p0 p2 (by omega) (by omega) fun held' letters' S' hs' z1 z2 z3 f' => ?_
    simp [-Bool.exists_bool]
    exact deeds p0 p2 l0 l1 r0 r1 cs (k + 1) held' letters' S' _ (by omega) (by omega) hs' (by omega) (by omega) (by omega) hE
end L99
end

section
set_option Elab.async false
set_option linter.all false
set_option maxRecDepth 100000
set_option autoImplicit false
namespace L99
open SB PySem PySem.Spec L2
section
variable {S : Sto} {R : Pd} {RE : Px}
theorem pure_law (xs : List D) (S : Sto) (R : Pd) (RE : Px) (hh : φLaw 63 xs S R RE) : φ_law xs S R RE := by
  obtain ⟨ns, rfl, hn, rfl, hR⟩ := hh
  refine ⟨rfl, ?_⟩
  simp [-Bool.exists_bool, -s_seq, s_seqL, w_law, startE, N_law]
  refine p_cell_at fun i => p_well_of fun wl S1 e1 f1 w1 => later_of ?_
  simp [-Bool.exists_bool, -s_seq, s_seqL]
  refine p_draw w1 (by decide) (by decide) (by decide) fun pot S2 p0 p3 f2 w2 => later_of ?_
  simp [-Bool.exists_bool, -s_seq, s_seqL]
  refine p_draw w2 (by decide) (by decide) (by decide) fun l S3 l0 l1 f3 w3 => ?_
  refine p_draw w3 (by decide) (by decide) (by decide) fun r S4 r0 r1 f4 w4 => ?_
  refine later_of ?_
  simp [-Bool.exists_bool, -s_seq, s_seqL]
  intro h hS
  have ok0 : StnOk ⟨0, l, r, []⟩ := ⟨Int.le_refl _, by show (0 : Int) ≤ 1000; decide, l0, by show l ≤ 1000; omega, r0, by show r ≤ 1000; omega, Nat.zero_le _, (fun t ht => by cases ht), List.nodup_nil⟩
  refine later_of ?_
  simp only [s_seqL]
  refine And.intro (by decide) (And.intro (by decide) ?_)
  have hS0 : (S4.set h (.lst [])) h = some (.lst []) := by simp
  generalize S4.set h (.lst []) = S5 at hS0 ⊢
  refine ⟨trivial, _, rfl, ?_⟩
  simp [-Bool.exists_bool, -s_seq, L2.atI, L2.ixN]
  refine ⟨tyM_refL hS0, p_first_account ok0 (p__law_begun ?_)⟩
  refine ⟨h, _, _, rfl, rfl, hS0, by show 0 + 1 ≤ sizeLine; decide, ?_⟩
  have hS1 : (S5.set h (.lst ([] ++ [pairD ⟨pot, 0, .calm, ⟨0, l, r, []⟩, ⟨0, l, r, []⟩, .non⟩]))) h = some (.lst [pairD ⟨pot, 0, .calm, ⟨0, l, r, []⟩, ⟨0, l, r, []⟩, .non⟩]) := by simp
  show forL _ _ _ _ _ (S5.set h (.lst ([] ++ [pairD ⟨pot, 0, .calm, ⟨0, l, r, []⟩, ⟨0, l, r, []⟩, .non⟩]))) _ _
  generalize S5.set h (.lst ([] ++ [pairD ⟨pot, 0, .calm, ⟨0, l, r, []⟩, ⟨0, l, r, []⟩, .non⟩])) = S6 at hS1 ⊢
  refine ⟨trivial, _, rfl, ?_⟩
  simp [-Bool.exists_bool, -s_seq, L2.atI, L2.ixN]
  refine ⟨tyM_refL hS1, p_first_account ok0 (p__law_begun ?_)⟩
  refine ⟨h, _, _, rfl, rfl, hS1, by show 1 + 1 ≤ sizeLine; decide, ?_⟩
  have hS2 : (S6.set h (.lst ([pairD ⟨pot, 0, .calm, ⟨0, l, r, []⟩, ⟨0, l, r, []⟩, .non⟩] ++ [pairD ⟨pot, 1, .calm, ⟨0, l, r, []⟩, ⟨0, l, r, []⟩, .non⟩]))) h = some (.lst ([⟨pot, 0, .calm, ⟨0, l, r, []⟩, ⟨0, l, r, []⟩, .non⟩, ⟨pot, 1, .calm, ⟨0, l, r, []⟩, ⟨0, l, r, []⟩, .non⟩].map pairD)) := by simp
  show forL _ _ _ _ _ (S6.set h (.lst ([pairD ⟨pot, 0, .calm, ⟨0, l, r, []⟩, ⟨0, l, r, []⟩, .non⟩] ++ [pairD ⟨pot, 1, .calm, ⟨0, l, r, []⟩, ⟨0, l, r, []⟩, .non⟩]))) _ _
  generalize S6.set h (.lst ([pairD ⟨pot, 0, .calm, ⟨0, l, r, []⟩, ⟨0, l, r, []⟩, .non⟩] ++ [pairD ⟨pot, 1, .calm, ⟨0, l, r, []⟩, ⟨0, l, r, []⟩, .non⟩])) = S7 at hS2 ⊢
  refine ⟨trivial, ?_⟩
  dsimp only
  refine later_of ?_
  simp [-Bool.exists_bool, -s_seq, s_seqL]
  intro q hq
  have hne : h ≠ q := fun e => by rw [e, hq] at hS2; cases hS2
  refine later_of ?_
  have hS3 : (S7.set q (.lst [])) h = some (.lst ([⟨pot, 0, .calm, ⟨0, l, r, []⟩, ⟨0, l, r, []⟩, .non⟩, ⟨pot, 1, .calm, ⟨0, l, r, []⟩, ⟨0, l, r, []⟩, .non⟩].map pairD)) := by rw [Sto.set_ne hne]; exact hS2
  have qS3 : (S7.set q (.lst [])) q = some (.lst (([] : List Ltr).map ltD)) := by simp
  generalize S7.set q (.lst []) = S8 at hS3 qS3 ⊢
  have a0 : AcOk 0 ⟨pot, 0, .calm, ⟨0, l, r, []⟩, ⟨0, l, r, []⟩, .non⟩ := ⟨p0, by show pot ≤ 2; omega, Int.le_refl _, by show (0 : Int) ≤ 1; decide, ok0, fun e => absurd rfl e, Int.le_refl _, rfl, Nat.zero_le _⟩
  have a1 : AcOk 0 ⟨pot, 1, .calm, ⟨0, l, r, []⟩, ⟨0, l, r, []⟩, .non⟩ := ⟨p0, by show pot ≤ 2; omega, by show (0 : Int) ≤ 1; decide, Int.le_refl _, ok0, fun e => absurd rfl e, Int.le_refl _, rfl, Nat.zero_le _⟩
  have hs : Hs 0 h q [⟨pot, 0, .calm, ⟨0, l, r, []⟩, ⟨0, l, r, []⟩, .non⟩, ⟨pot, 1, .calm, ⟨0, l, r, []⟩, ⟨0, l, r, []⟩, .non⟩] [] S8 := ⟨hS3, qS3, fun a ha => by
    simp at ha
    rcases ha with rfl | rfl
    · exact a0
    · exact a1, (fun l (h : l ∈ []) => nomatch h), hne⟩
  have ec : cutD (ns.map D.int) (some 1) (some 31) = ((ns.drop (HT.sIx ns.length 0 (some 1))).take (HT.sIx ns.length ns.length (some 31) - HT.sIx ns.length 0 (some 1))).map D.int := by
    unfold cutD
    rw [List.length_map, List.map_take, List.map_drop]
  unfold wFor
  have hlen : (ns.map D.int).length ≤ 63 := by simpa using hn
  have hlc : ((ns.drop (HT.sIx ns.length 0 (some 1))).take (HT.sIx ns.length ns.length (some 31) - HT.sIx ns.length 0 (some 1))).length ≤ 63 := by
    rw [List.length_take, List.length_drop]
    omega
  generalize ((ns.drop (HT.sIx ns.length 0 (some 1))).take (HT.sIx ns.length ns.length (some 31) - HT.sIx ns.length 0 (some 1))) = cs at ec hlc
  simp [-Bool.exists_bool, -s_seq, s_seqL, fSl, ec, wSl, wPart]
  refine ⟨sz1000 (by omega), sz1000 (by omega), ?_⟩
  refine deeds (E := _) p0 (by omega) l0 (by omega) r0 (by omega) (5 :: 8 :: 13 :: 21 :: cs) 0 _ _ S8 none (Int.le_refl _) (by simp; omega) hs (by simp) (by simp; omega) (by simp; omega) fun S' c7 => ?_
  dsimp only
  refine later_of ?_
  simp
  exact .now (hR S')
end
end L99
end

section
set_option Elab.async false
set_option linter.all false
set_option maxRecDepth 100000
set_option maxHeartbeats 0
section
open SB PySem PySem.Spec L2 L99
theorem L99.facts {P : Program} {w : World} {K : PySem.W.Frag} {h : Heap} {mg : Str → Option Value} {f : Addr} (X : K.In h) (G : h.Ns mainGlobals mg) (hfa : mg ("law" : Str) = some (.ref f)) (c : He.SaysX fa fn ts [] ex w h K) :
    ∃ fd : FuncData, (∀ (s : Shared) (v : Value), BindsTo s fd ⟨[v], []⟩ [("script", v)]) ∧ ∀ base : Heap, K.In base → base.Ns mainGlobals mg → FnOk P w K mg base CXs 12 f fd ["script"] (spOf K (φLaw 63)) := by
  have hd : Hd w K mg := ⟨h, X, G, c⟩
  obtain ⟨fd, F⟩ := c.t.d.def_ 29 (d := mkDD (("law" : Str), none) "law" "law" (top 50) []) rfl
  have e := hfa.symm.trans (He.glo_ok X G (c.t.d.fact 115 (f := .glo "law") rfl))
  cases e
  have b := FunD.bindsA (ps := ["script"]) F fun _ _ _ _ _ _ us hl => match us, hl with | [_], _ => rfl
  refine ⟨fd, fun s v => b s [v] rfl, fun base _ _ => ?_⟩
  exact SB.FnOk.cxs ((k_law hd F).imp fun vs H Q E ⟨xs, S, R, RE, r, q, z, y⟩ => ⟨xs, S, R, RE, r, q, pure_law _ _ _ _ z, y⟩)
end
open PySem PySem.W PySem.Calls PyProof.Rows in
theorem PySem.Challenge.cw_sidebook_k99_whole_accounts_kept_for_eve_holds : PySem.Challenge.rw_sidebook_k99_whole_accounts_kept_for_eve.Holds := by
  w_on; o_law
  refine HandSHeadRun.head_any (r := OpenLaw.row PySem.Challenge.rw_sidebook_k99_whole_accounts_kept_for_eve) (q := view (OpenLaw.row PySem.Challenge.rw_sidebook_k99_whole_accounts_kept_for_eve).prog [50]) (H := L99.hk) (ob := L99.ob) (M := 6000) (loose := L99.names) (d := HandSHeadRun.topDef (OpenLaw.row PySem.Challenge.rw_sidebook_k99_whole_accounts_kept_for_eve).prog 50) (kwd := []) L99.ob_eq
    (by kernel_rfl) (fun s => by kernel_rfl) L99.run (by kernel_rfl) (by kernel_rfl) (by kernel_rfl) (by rfl) (by first | assumption | decide +kernel) (by decide +kernel) ⟨rfl, rfl, rfl, rfl, rfl, by decide +kernel⟩ ?hw ?hc
  case hw => w_witness2
  case hc =>
    refine L2.walk_ofE (l := PySem.Challenge.rw_sidebook_k99_whole_accounts_kept_for_eve) (n := 63) (k := 12) (x := "script") (CX := SB.CXs) rfl (by decide) (by kernel_rfl) ⟨rfl, by decide, by decide⟩ ?F (fun H s e s' z => SB.cxs_none H s e s' z)
    intro w mg fa h Y G hmg0
    obtain ⟨K, KX, c⟩ := Y
    have hmg : mg ("law" : PySem.Str) = some (.ref fa) := by
      have e : (HandSHeadRun.topDef (OpenLaw.row PySem.Challenge.rw_sidebook_k99_whole_accounts_kept_for_eve).prog 50).name = ("law" : PySem.Str) := by kernel_rfl
      rw [← e]
      exact hmg0
    obtain ⟨fd, hb, hF⟩ := L99.facts (P := (PySem.Challenge.rw_sidebook_k99_whole_accounts_kept_for_eve).prog) (w := w) KX G hmg c
    exact ⟨K, fd, SB.spOf K (SB.φLaw 63), KX, hb, fun H a ns hl _ hS => SB.law_sp (by decide) hl hS, hF⟩
end
