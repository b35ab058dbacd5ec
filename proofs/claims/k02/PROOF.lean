import PyProof.Rows.All
import Wide.All
import OpenK.AllK
import Wide.FinOn
import HandS.ForMost
import HandS.ForExc
import HandS.Walk
import HandS.IsInst
import HandS.StrMore
import HandS.TupAny
import PySem.Challenge.RW_macroasm_k02_names
set_option Elab.async false
set_option linter.all false
set_option maxRecDepth 100000
set_option maxHeartbeats 4000000
/-! Mx: a small functional language for the program's defs; part 1: data, how data stand in the heap, the store. -/
namespace Mx
open PySem PySem.Spec PyProof.Rows L2

/-- a text by its code points -/
def sOf (l : List Nat) : Str := ⟨l.toArray⟩
theorem sOf_list (l : List Nat) : (sOf l).cps.toList = l := by simp [sOf]
theorem sOf_of (s : Str) : sOf s.cps.toList = s := by simp [sOf]
theorem sOf_len (l : List Nat) : (sOf l).length = l.length := by simp [sOf, Str.length]
theorem sOf_inj {l m : List Nat} (h : sOf l = sOf m) : l = m := by
  have := congrArg (fun s : Str => s.cps.toList) h
  simpa [sOf] using this

/-- data -/
inductive IV where
  | non
  | bl (b : Bool)
  | int (i : Int)
  | str (l : List Nat)
  | tup (xs : List IV)
  | lst (xs : List IV)
  | dct (kvs : List (Key × IV))
  | ins (c : Nat) (fs : List (Str × IV))
  deriving Inhabited

/-- the heap in which nothing is tracked -/
def Hn : Hp := fun _ => none
theorem SqL.ofK {K : PySem.W.Frag} {H : Hp} {a : Addr} {xs : List V} (h : SqL K Hn a xs) : SqL K H a xs := by
  rcases h with (h | ⟨_, h⟩) | h
  · cases h
  · cases h
  · exact .inr h
theorem SqT.ofK {K : PySem.W.Frag} {H : Hp} {a : Addr} {xs : List V} (h : SqT K Hn a xs) : SqT K H a xs := by
  rcases h with (h | ⟨_, h⟩) | h
  · cases h
  · cases h
  · exact .inr h

mutual
/-- the value v is the datum d in the heap H; nothing of it is one of the changing objects O -/
inductive Rep (K : PySem.W.Frag) (cl : Nat → Option Addr) (O : List Addr) (H : Hp) : V → IV → Prop
  | non : Rep K cl O H .non .non
  | bl (b : Bool) : Rep K cl O H (.bl b) (.bl b)
  | int (i : Int) : Rep K cl O H (.int i) (.int i)
  | str (l : List Nat) : Rep K cl O H (.str (sOf l)) (.str l)
  | tupH {a : Addr} {vs : List V} {ds : List IV} : Rd H a (.tup vs) → a ∉ O → RepAll K cl O H vs ds → Rep K cl O H (.ref a) (.tup ds)
  | tupK {a : Addr} {vs : List V} {ds : List IV} : SqT K Hn a vs → RepAll K cl O H vs ds → Rep K cl O H (.ref a) (.tup ds)
  | lstH {a : Addr} {vs : List V} {ds : List IV} : Rd H a (.lst vs) → a ∉ O → RepAll K cl O H vs ds → Rep K cl O H (.ref a) (.lst ds)
  | lstK {a : Addr} {vs : List V} {ds : List IV} : SqL K Hn a vs → RepAll K cl O H vs ds → Rep K cl O H (.ref a) (.lst ds)
  | dctH {a : Addr} {kv : List (Key × V)} {ds : List (Key × IV)} : Rd H a (.dK kv) → a ∉ O → kv.map (·.1) = ds.map (·.1) → RepAll K cl O H (kv.map (·.2)) (ds.map (·.2)) → Rep K cl O H (.ref a) (.dct ds)
  | insH {a C dx : Addr} {c : Nat} {fs : List (Str × V)} {ds : List (Str × IV)} : H a = some (.ins C dx fs) → cl c = some C → a ∉ O → fs.map (·.1) = ds.map (·.1) → RepAll K cl O H (fs.map (·.2)) (ds.map (·.2)) → Rep K cl O H (.ref a) (.ins c ds)
inductive RepAll (K : PySem.W.Frag) (cl : Nat → Option Addr) (O : List Addr) (H : Hp) : List V → List IV → Prop
  | nil : RepAll K cl O H [] []
  | cons {v : V} {vs : List V} {d : IV} {ds : List IV} : Rep K cl O H v d → RepAll K cl O H vs ds → RepAll K cl O H (v :: vs) (d :: ds)
end

/-- all but what stands in O is as it was -/
def Keep (O : List Addr) (H H' : Hp) : Prop := ∀ a o, a ∉ O → H a = some o → H' a = some o
theorem Keep.refl (O : List Addr) (H : Hp) : Keep O H H := fun _ _ _ h => h
theorem Keep.trans {O : List Addr} {H H1 H2 : Hp} (a : Keep O H H1) (b : Keep O H1 H2) : Keep O H H2 := fun x o n h => b x o n (a x o n h)
theorem Keep.same {O : List Addr} {H H' : Hp} (h : Same H H') : Keep O H H' := fun a o _ e => h a o e
theorem same_new {H : Hp} {p : Addr} {o : HO} (h : H p = none) : Same H (upd H p o) := fun b x e => by
  rw [upd_ne (ne_of_none e h)]
  exact e
theorem Rd.keep {O : List Addr} {H H' : Hp} {a : Addr} {u : HO} (k : Keep O H H') (n : a ∉ O) (h : Rd H a u) : Rd H' a u := by
  rcases h with h | ⟨o, h⟩
  · exact .inl (k a _ n h)
  · exact .inr ⟨o, k a _ n h⟩
theorem Rd.some_of {H : Hp} {a : Addr} {u : HO} (h : Rd H a u) : H a ≠ none := by
  rcases h with h | ⟨o, h⟩ <;> (rw [h]; exact fun z => nomatch z)

section
variable {K : PySem.W.Frag} {cl : Nat → Option Addr} {O O' : List Addr} {H H' : Hp}
mutual
theorem Rep.keep (k : Keep O H H') : ∀ {v : V} {d : IV}, Rep K cl O H v d → Rep K cl O H' v d
  | _, _, .non => .non
  | _, _, .bl b => .bl b
  | _, _, .int i => .int i
  | _, _, .str l => .str l
  | _, _, .tupH h n r => .tupH (Rd.keep k n h) n (RepAll.keep k r)
  | _, _, .tupK h r => .tupK h (RepAll.keep k r)
  | _, _, .lstH h n r => .lstH (Rd.keep k n h) n (RepAll.keep k r)
  | _, _, .lstK h r => .lstK h (RepAll.keep k r)
  | _, _, .dctH h n e r => .dctH (Rd.keep k n h) n e (RepAll.keep k r)
  | _, _, .insH h c n e r => .insH (k _ _ n h) c n e (RepAll.keep k r)
theorem RepAll.keep (k : Keep O H H') : ∀ {vs : List V} {ds : List IV}, RepAll K cl O H vs ds → RepAll K cl O H' vs ds
  | _, _, .nil => .nil
  | _, _, .cons r t => .cons (Rep.keep k r) (RepAll.keep k t)
end
mutual
theorem Rep.less (k : ∀ a, a ∈ O' → a ∈ O) : ∀ {v : V} {d : IV}, Rep K cl O H v d → Rep K cl O' H v d
  | _, _, .non => .non
  | _, _, .bl b => .bl b
  | _, _, .int i => .int i
  | _, _, .str l => .str l
  | _, _, .tupH h n r => .tupH h (fun z => n (k _ z)) (RepAll.less k r)
  | _, _, .tupK h r => .tupK h (RepAll.less k r)
  | _, _, .lstH h n r => .lstH h (fun z => n (k _ z)) (RepAll.less k r)
  | _, _, .lstK h r => .lstK h (RepAll.less k r)
  | _, _, .dctH h n e r => .dctH h (fun z => n (k _ z)) e (RepAll.less k r)
  | _, _, .insH h c n e r => .insH h c (fun z => n (k _ z)) e (RepAll.less k r)
theorem RepAll.less (k : ∀ a, a ∈ O' → a ∈ O) : ∀ {vs : List V} {ds : List IV}, RepAll K cl O H vs ds → RepAll K cl O' H vs ds
  | _, _, .nil => .nil
  | _, _, .cons r t => .cons (Rep.less k r) (RepAll.less k t)
end
theorem notin_more {p a : Addr} (hp : H p = none) (h : H a ≠ none) (n : a ∉ O) : a ∉ p :: O := fun z => by
  rcases List.mem_cons.mp z with z | z
  · rw [z] at h; exact h hp
  · exact n z
mutual
theorem Rep.more {p : Addr} (hp : H p = none) : ∀ {v : V} {d : IV}, Rep K cl O H v d → Rep K cl (p :: O) H v d
  | _, _, .non => .non
  | _, _, .bl b => .bl b
  | _, _, .int i => .int i
  | _, _, .str l => .str l
  | _, _, .tupH h n r => .tupH h (notin_more hp (Rd.some_of h) n) (RepAll.more hp r)
  | _, _, .tupK h r => .tupK h (RepAll.more hp r)
  | _, _, .lstH h n r => .lstH h (notin_more hp (Rd.some_of h) n) (RepAll.more hp r)
  | _, _, .lstK h r => .lstK h (RepAll.more hp r)
  | _, _, .dctH h n e r => .dctH h (notin_more hp (Rd.some_of h) n) e (RepAll.more hp r)
  | _, _, .insH h c n e r => .insH h c (notin_more hp (by rw [h]; exact fun z => nomatch z) n) e (RepAll.more hp r)
theorem RepAll.more {p : Addr} (hp : H p = none) : ∀ {vs : List V} {ds : List IV}, RepAll K cl O H vs ds → RepAll K cl (p :: O) H vs ds
  | _, _, .nil => .nil
  | _, _, .cons r t => .cons (Rep.more hp r) (RepAll.more hp t)
end
theorem RepAll.length : ∀ {vs : List V} {ds : List IV}, RepAll K cl O H vs ds → vs.length = ds.length
  | _, _, .nil => rfl
  | _, _, .cons _ t => by rw [List.length_cons, List.length_cons, RepAll.length t]
theorem RepAll.get : ∀ {vs : List V} {ds : List IV} {i : Nat} {d : IV}, RepAll K cl O H vs ds → ds[i]? = some d → ∃ v, vs[i]? = some v ∧ Rep K cl O H v d
  | _, _, _, _, .nil, e => by simp at e
  | _, _, 0, _, .cons r _, e => by simp at e; subst e; exact ⟨_, rfl, r⟩
  | _, _, i + 1, _, .cons _ t, e => by
    obtain ⟨v, h1, h2⟩ := RepAll.get (i := i) t (by simpa using e)
    exact ⟨v, by simpa using h1, h2⟩
theorem RepAll.getV : ∀ {vs : List V} {ds : List IV} {i : Nat} {v : V}, RepAll K cl O H vs ds → vs[i]? = some v → ∃ d, ds[i]? = some d ∧ Rep K cl O H v d
  | _, _, _, _, .nil, e => by simp at e
  | _, _, 0, _, .cons r _, e => by simp at e; subst e; exact ⟨_, rfl, r⟩
  | _, _, i + 1, _, .cons _ t, e => by
    obtain ⟨v, h1, h2⟩ := RepAll.getV (i := i) t (by simpa using e)
    exact ⟨v, by simpa using h1, h2⟩
theorem RepAll.append : ∀ {vs ws : List V} {ds es : List IV}, RepAll K cl O H vs ds → RepAll K cl O H ws es → RepAll K cl O H (vs ++ ws) (ds ++ es)
  | _, _, _, _, .nil, s => s
  | _, _, _, _, .cons r t, s => .cons r (RepAll.append t s)
theorem RepAll.take : ∀ {vs : List V} {ds : List IV} (n : Nat), RepAll K cl O H vs ds → RepAll K cl O H (vs.take n) (ds.take n)
  | _, _, 0, _ => .nil
  | _, _, _ + 1, .nil => .nil
  | _, _, n + 1, .cons r t => .cons r (RepAll.take n t)
theorem RepAll.drop : ∀ {vs : List V} {ds : List IV} (n : Nat), RepAll K cl O H vs ds → RepAll K cl O H (vs.drop n) (ds.drop n)
  | _, _, 0, r => r
  | _, _, _ + 1, .nil => .nil
  | _, _, n + 1, .cons _ t => RepAll.drop n t
theorem RepAll.set {v : V} {d : IV} (r : Rep K cl O H v d) : ∀ {vs : List V} {ds : List IV} (i : Nat), RepAll K cl O H vs ds → RepAll K cl O H (vs.set i v) (ds.set i d)
  | _, _, _, .nil => .nil
  | _, _, 0, .cons _ t => .cons r t
  | _, _, i + 1, .cons q t => .cons q (RepAll.set r i t)
/-- a tuple, a list of the datum can be read -/
theorem Rep.tupI {v : V} {ds : List IV} (h : Rep K cl O H v (.tup ds)) : ∃ a vs, v = .ref a ∧ SqT K H a vs ∧ RepAll K cl O H vs ds := by
  cases h with
  | tupH h n r => exact ⟨_, _, rfl, .inl h, r⟩
  | tupK h r => exact ⟨_, _, rfl, SqT.ofK h, r⟩
theorem Rep.lstI {v : V} {ds : List IV} (h : Rep K cl O H v (.lst ds)) : ∃ a vs, v = .ref a ∧ SqL K H a vs ∧ RepAll K cl O H vs ds := by
  cases h with
  | lstH h n r => exact ⟨_, _, rfl, .inl h, r⟩
  | lstK h r => exact ⟨_, _, rfl, SqL.ofK h, r⟩
end

/-- what does not change while a def runs: O0, H0: the changing objects and the heap at its beginning; M: by parameters, the changing objects that were handed to it -/
structure Ct where
  K : PySem.W.Frag
  cl : Nat → Option Addr
  O0 : List Addr
  H0 : Hp
  M : List (Option Addr)

/-- a slot: empty; a datum; a changing object of the def's own; one that was handed to it -/
inductive Sl where
  | e
  | i (d : IV)
  | o (d : IV)
  | b (d : IV)
  deriving Inhabited
def Sl.mut : Sl → Option IV
  | .o d => some d
  | .b d => some d
  | _ => none

/-- the changing object at a is the datum -/
inductive Own (K : PySem.W.Frag) (cl : Nat → Option Addr) (O : List Addr) (H : Hp) (a : Addr) : IV → Prop
  | lst {vs : List V} {ds : List IV} : H a = some (.lst vs) → RepAll K cl O H vs ds → Own K cl O H a (.lst ds)
  | ins {C dx : Addr} {c : Nat} {fs : List (Str × V)} {ds : List (Str × IV)} : H a = some (.ins C dx fs) → cl c = some C → fs.map (·.1) = ds.map (·.1) → RepAll K cl O H (fs.map (·.2)) (ds.map (·.2)) → Own K cl O H a (.ins c ds)
theorem Own.some_of {K : PySem.W.Frag} {cl : Nat → Option Addr} {O : List Addr} {H : Hp} {a : Addr} {d : IV} (h : Own K cl O H a d) : H a ≠ none := by
  cases h with
  | lst h _ => rw [h]; exact fun z => nomatch z
  | ins h _ _ _ => rw [h]; exact fun z => nomatch z
/-- kept at a itself, and all that does not change -/
theorem Own.keep {K : PySem.W.Frag} {cl : Nat → Option Addr} {O : List Addr} {H H' : Hp} {a : Addr} {d : IV} (k : Keep O H H') (ha : ∀ o, H a = some o → H' a = some o) (h : Own K cl O H a d) : Own K cl O H' a d := by
  cases h with
  | lst h r => exact .lst (ha _ h) (r.keep k)
  | ins h c e r => exact .ins (ha _ h) c e (r.keep k)
theorem Own.less {K : PySem.W.Frag} {cl : Nat → Option Addr} {O O' : List Addr} {H : Hp} {a : Addr} {d : IV} (k : ∀ a, a ∈ O' → a ∈ O) (h : Own K cl O H a d) : Own K cl O' H a d := by
  cases h with
  | lst h r => exact .lst h (r.less k)
  | ins h c e r => exact .ins h c e (r.less k)
theorem Own.more {K : PySem.W.Frag} {cl : Nat → Option Addr} {O : List Addr} {H : Hp} {a p : Addr} {d : IV} (hp : H p = none) (h : Own K cl O H a d) : Own K cl (p :: O) H a d := by
  cases h with
  | lst h r => exact .lst h (r.more hp)
  | ins h c e r => exact .ins h c e (r.more hp)
/-- as a datum that is read (and is none of O) -/
theorem Own.rep {K : PySem.W.Frag} {cl : Nat → Option Addr} {O : List Addr} {H : Hp} {a : Addr} {d : IV} (n : a ∉ O) (h : Own K cl O H a d) : Rep K cl O H (.ref a) d := by
  cases h with
  | lst h r => exact .lstH (.inl h) n r
  | ins h c e r => exact .insH h c n e r

def SlR (C : Ct) (L O : List Addr) (H : Hp) (i : Nat) (s : Option V) : Sl → Prop
  | .e => True
  | .i d => ∃ v, s = some v ∧ Rep C.K C.cl O H v d
  | .o d => ∃ a, s = some (.ref a) ∧ a ∈ L ∧ a ∉ C.O0 ∧ C.H0 a = none ∧ Own C.K C.cl O H a d
  | .b d => ∃ a, s = some (.ref a) ∧ C.M[i]? = some (some a) ∧ Own C.K C.cl O H a d

/-- the def's slots σ and the heap H are the store ρ; L: the def's own changing objects -/
structure SRel (C : Ct) (L O : List Addr) (σ : L2.St) (ρ : List Sl) (H : Hp) : Prop where
  len : σ.length = ρ.length
  slot : ∀ (i : Nat) (s : Option V) (r : Sl), σ[i]? = some s → ρ[i]? = some r → SlR C L O H i s r
  lsub : ∀ a ∈ L, a ∈ O
  sub : ∀ a ∈ C.O0, a ∈ O
  msub : ∀ (i : Nat) (a : Addr), C.M[i]? = some (some a) → a ∈ C.O0
  live : ∀ a ∈ O, H a ≠ none
  apart : ∀ (i j : Nat) (r q : Sl) (a : Addr), i ≠ j → ρ[i]? = some r → ρ[j]? = some q → r.mut.isSome = true → q.mut.isSome = true → σ[i]? = some (some (.ref a)) → σ[j]? ≠ some (some (.ref a))
  frame : ∀ a o, C.H0 a = some o → some a ∉ C.M → H a = some o

section
variable {C : Ct} {L O : List Addr} {σ : L2.St} {ρ : List Sl} {H H' : Hp}
theorem SlR.same (h : Same H H') {i : Nat} {s : Option V} {r : Sl} (q : SlR C L O H i s r) : SlR C L O H' i s r := by
  cases r with
  | e => trivial
  | i d => obtain ⟨v, e, r⟩ := q; exact ⟨v, e, r.keep (.same h)⟩
  | o d => obtain ⟨a, e, n1, n2, n3, w⟩ := q; exact ⟨a, e, n1, n2, n3, w.keep (.same h) fun o => h a o⟩
  | b d => obtain ⟨a, e, n1, w⟩ := q; exact ⟨a, e, n1, w.keep (.same h) fun o => h a o⟩
/-- objects were made alone -/
theorem SRel.same (h : Same H H') (S : SRel C L O σ ρ H) : SRel C L O σ ρ H' :=
  ⟨S.len, fun i s r h1 h2 => (S.slot i s r h1 h2).same h, S.lsub, S.sub, S.msub, fun a ha z => (by
    cases e : H a with
    | none => exact S.live a ha e
    | some o => rw [h a o e] at z; cases z), S.apart, fun a o e n => h a o (S.frame a o e n)⟩
theorem mem_some_of {M : List (Option Addr)} {i : Nat} {a : Addr} (h : M[i]? = some (some a)) : some a ∈ M := List.mem_of_getElem? h
theorem SRel.fresh (S : SRel C L O σ ρ H) {p : Addr} (hp : H p = none) : C.H0 p = none ∧ p ∉ O ∧ p ∉ C.O0 := by
  have h1 : p ∉ O := fun z => S.live p z hp
  have h2 : p ∉ C.O0 := fun z => h1 (S.sub p z)
  refine ⟨?_, h1, h2⟩
  cases e : C.H0 p with
  | none => rfl
  | some o =>
    have n : some p ∉ C.M := fun z => by
      obtain ⟨i, hi⟩ := List.getElem?_of_mem z
      exact h2 (S.msub i p hi)
    rw [S.frame p o e n] at hp
    cases hp
/-- a datum is stored -/
theorem SRel.setI {v : V} {d : IV} (S : SRel C L O σ ρ H) (r : Rep C.K C.cl O H v d) (i : Nat) : SRel C L O (σ.set i (some v)) (ρ.set i (.i d)) H := by
  refine ⟨by rw [List.length_set, List.length_set, S.len], fun j s q h1 h2 => ?_, S.lsub, S.sub, S.msub, S.live, fun j k q q' a hjk h1 h2 m1 m2 e1 e2 => ?_, S.frame⟩
  · by_cases hj : i = j
    · subst hj
      rw [List.getElem?_set] at h1 h2
      simp only [if_true] at h1 h2
      split at h1
      · split at h2
        · cases h1; cases h2
          exact ⟨v, rfl, r⟩
        · cases h2
      · cases h1
    · rw [List.getElem?_set_ne hj] at h1 h2
      exact S.slot j s q h1 h2
  · by_cases hj : i = j
    · subst hj
      rw [List.getElem?_set] at h1
      simp only [if_true] at h1
      split at h1
      · cases h1; cases m1
      · cases h1
    · by_cases hk : i = k
      · subst hk
        rw [List.getElem?_set] at h2
        simp only [if_true] at h2
        split at h2
        · cases h2; cases m2
        · cases h2
      · rw [List.getElem?_set_ne hj] at h1 e1
        rw [List.getElem?_set_ne hk] at h2 e2
        exact S.apart j k q q' a hjk h1 h2 m1 m2 e1 e2
/-- a slot is forgotten -/
theorem SRel.setE {s : Option V} (S : SRel C L O σ ρ H) (i : Nat) : SRel C L O (σ.set i s) (ρ.set i .e) H := by
  refine ⟨by rw [List.length_set, List.length_set, S.len], fun j s' q h1 h2 => ?_, S.lsub, S.sub, S.msub, S.live, fun j k q q' a hjk h1 h2 m1 m2 e1 e2 => ?_, S.frame⟩
  · by_cases hj : i = j
    · subst hj
      rw [List.getElem?_set] at h2
      simp only [if_true] at h2
      split at h2
      · cases h2; trivial
      · cases h2
    · rw [List.getElem?_set_ne hj] at h1 h2
      exact S.slot j s' q h1 h2
  · by_cases hj : i = j
    · subst hj
      rw [List.getElem?_set] at h1
      simp only [if_true] at h1
      split at h1
      · cases h1; cases m1
      · cases h1
    · by_cases hk : i = k
      · subst hk
        rw [List.getElem?_set] at h2
        simp only [if_true] at h2
        split at h2
        · cases h2; cases m2
        · cases h2
      · rw [List.getElem?_set_ne hj] at h1 e1
        rw [List.getElem?_set_ne hk] at h2 e2
        exact S.apart j k q q' a hjk h1 h2 m1 m2 e1 e2
end
end Mx


/-! Mx, part 1b: what changes in the store. -/
namespace Mx
open PySem PySem.Spec PyProof.Rows L2
def Sl.put : Sl → IV → Sl
  | .o _, d => .o d
  | .b _, d => .b d
  | r, _ => r
theorem Sl.put_mut {r : Sl} {d : IV} : (r.put d).mut.isSome = r.mut.isSome := by cases r <;> rfl
section
variable {C : Ct} {L O O' : List Addr} {σ : L2.St} {ρ ρ' : List Sl} {H H' : Hp}
theorem SRel.mutAt (S : SRel C L O σ ρ H) {i : Nat} {r : Sl} {d : IV} (h : ρ[i]? = some r) (m : r.mut = some d) :
    ∃ a, σ[i]? = some (some (.ref a)) ∧ a ∈ O ∧ Own C.K C.cl O H a d ∧ (some a ∈ C.M ∨ C.H0 a = none) := by
  have hi : i < σ.length := by rw [S.len]; exact (List.getElem?_eq_some_iff.mp h).1
  have hs : σ[i]? = some σ[i] := List.getElem?_eq_getElem hi
  have q := S.slot i _ r hs h
  cases r with
  | e => cases m
  | i _ => cases m
  | o d' =>
    cases m
    obtain ⟨a, e, n1, n2, n3, w⟩ := q
    exact ⟨a, by rw [hs, e], S.lsub a n1, w, .inr n3⟩
  | b d' =>
    cases m
    obtain ⟨a, e, n1, w⟩ := q
    exact ⟨a, by rw [hs, e], S.sub a (S.msub i a n1), w, .inl (mem_some_of n1)⟩
/-- the changing objects A have changed -/
theorem SRel.change (S : SRel C L O σ ρ H) {A : List Addr} (hO : ∀ a ∈ O, a ∈ O') (hA : ∀ a ∈ A, some a ∈ C.M ∨ C.H0 a = none) (k : ∀ b o, b ∉ A → H b = some o → H' b = some o) (live : ∀ a ∈ O', H' a ≠ none)
    (hR : ∀ vs ds, RepAll C.K C.cl O H vs ds → RepAll C.K C.cl O' H' vs ds) (hl : ρ'.length = ρ.length)
    (hj : ∀ (j : Nat) (r : Sl), ρ[j]? = some r → (ρ'[j]? = some r ∧ ∀ a, r.mut.isSome = true → σ[j]? = some (some (.ref a)) → a ∉ A) ∨
      ∃ d' a, ρ'[j]? = some (r.put d') ∧ r.mut.isSome = true ∧ σ[j]? = some (some (.ref a)) ∧ Own C.K C.cl O' H' a d') : SRel C L O' σ ρ' H' := by
  have hR1 : ∀ {v d}, Rep C.K C.cl O H v d → Rep C.K C.cl O' H' v d := fun {v d} r => by
    have q := hR [v] [d] (.cons r .nil)
    cases q with
    | cons q _ => exact q
  have own : ∀ {a d}, Own C.K C.cl O H a d → a ∉ A → Own C.K C.cl O' H' a d := fun {a d} w n => by
    cases w with
    | lst h r => exact .lst (k _ _ n h) (hR _ _ r)
    | ins h c e r => exact .ins (k _ _ n h) c e (hR _ _ r)
  refine ⟨by rw [S.len, hl], fun i s q h1 h2 => ?_, fun a ha => hO a (S.lsub a ha), fun a ha => hO a (S.sub a ha), S.msub, live, fun i j q q' a hij h1 h2 m1 m2 e1 => ?_, fun a o e n => ?_⟩
  · have hi : i < ρ.length := by rw [← hl]; exact (List.getElem?_eq_some_iff.mp h2).1
    have hr : ρ[i]? = some ρ[i] := List.getElem?_eq_getElem hi
    have z := S.slot i s _ h1 hr
    rcases hj i _ hr with ⟨e, na⟩ | ⟨d', a, e, m, ea, w⟩
    · rw [e] at h2
      cases h2
      generalize ρ[i] = r at *
      cases r with
      | e => trivial
      | i d => obtain ⟨v, ev, r⟩ := z; exact ⟨v, ev, hR1 r⟩
      | o d =>
        obtain ⟨a, ea, n1, n2, n3, w⟩ := z
        exact ⟨a, ea, n1, n2, n3, own w (na a rfl (by rw [h1, ea]))⟩
      | b d =>
        obtain ⟨a, ea, n1, w⟩ := z
        exact ⟨a, ea, n1, own w (na a rfl (by rw [h1, ea]))⟩
    · rw [e] at h2
      cases h2
      rw [h1] at ea
      cases ea
      generalize ρ[i] = r at *
      cases r with
      | e => cases m
      | i d => cases m
      | o d =>
        obtain ⟨b, eb, n1, n2, n3, _⟩ := z
        cases eb
        exact ⟨_, rfl, n1, n2, n3, w⟩
      | b d =>
        obtain ⟨b, eb, n1, _⟩ := z
        cases eb
        exact ⟨_, rfl, n1, w⟩
  · have old : ∀ {i : Nat} {q : Sl}, ρ'[i]? = some q → q.mut.isSome = true → ∃ r : Sl, ρ[i]? = some r ∧ r.mut.isSome = true := fun {i q} h m => by
      have hi : i < ρ.length := by rw [← hl]; exact (List.getElem?_eq_some_iff.mp h).1
      refine ⟨ρ[i], List.getElem?_eq_getElem hi, ?_⟩
      rcases hj i _ (List.getElem?_eq_getElem hi) with ⟨e, _⟩ | ⟨d', a, e, m', _⟩
      · rw [e] at h; cases h; exact m
      · exact m'
    obtain ⟨r1, g1, k1⟩ := old h1 m1
    obtain ⟨r2, g2, k2⟩ := old h2 m2
    exact S.apart i j r1 r2 a hij g1 g2 k1 k2 e1
  · refine k a o (fun z => ?_) (S.frame a o e n)
    rcases hA a z with q | q
    · exact n q
    · rw [q] at e; cases e
/-- one changing object has changed -/
theorem SRel.put (S : SRel C L O σ ρ H) {i : Nat} {r : Sl} {a : Addr} {d' : IV} (h : ρ[i]? = some r) (m : r.mut.isSome = true) (ha : σ[i]? = some (some (.ref a))) (k : ∀ b o, b ≠ a → H b = some o → H' b = some o)
    (w : Own C.K C.cl O H' a d') : SRel C L O σ (ρ.set i (r.put d')) H' := by
  obtain ⟨d, ed⟩ := Option.isSome_iff_exists.mp m
  obtain ⟨a', ea, hO, _, hm⟩ := S.mutAt h ed
  rw [ha] at ea
  cases ea
  have kk : Keep O H H' := fun b o n e => k b o (fun z => n (z ▸ hO)) e
  refine S.change (A := [a]) (fun _ z => z) (fun b hb => ?_) (fun b o n e => k b o (fun z => n (by simp [z])) e) (fun b hb => ?_) (fun _ _ r => r.keep kk) (List.length_set ..) (fun j q hq => ?_)
  · have : b = a := by simpa using hb
    subst this
    exact hm
  · by_cases z : b = a
    · subst z; exact w.some_of
    · cases e : H b with
      | none => exact absurd e (S.live b hb)
      | some o => rw [k b o z e]; exact fun z => nomatch z
  · by_cases hij : i = j
    · subst hij
      rw [h] at hq
      cases hq
      refine .inr ⟨d', a, ?_, m, ha, w⟩
      rw [List.getElem?_set_self (List.getElem?_eq_some_iff.mp h).1]
    · refine .inl ⟨by rw [List.getElem?_set_ne hij]; exact hq, fun b mb eb hb => ?_⟩
      have : b = a := by simpa using hb
      subst this
      exact S.apart i j r q b hij h hq m mb ha eb
/-- a new object may become a changing one -/
theorem SRel.addO (S : SRel C L O σ ρ H) {p : Addr} (hp : H p = none) (k : Same H H') (hn : H' p ≠ none) : SRel C L (p :: O) σ ρ H' := by
  refine S.change (A := []) (fun a ha => List.mem_cons_of_mem _ ha) (fun _ z => nomatch z) (fun b o _ e => k b o e) (fun a ha => ?_) (fun _ _ r => (r.more hp).keep (.same k)) rfl (fun j r h => .inl ⟨h, fun _ _ _ z => nomatch z⟩)
  rcases List.mem_cons.mp ha with z | z
  · rw [z]; exact hn
  · exact (S.same k).live a z
theorem SRel.setO (S : SRel C L O σ ρ H) {p : Addr} {d : IV} (S' : SRel C L (p :: O) σ ρ H) (hp : p ∉ O) (h0 : C.H0 p = none) (w : Own C.K C.cl (p :: O) H p d) (i : Nat) : SRel C (p :: L) (p :: O) (σ.set i (some (.ref p))) (ρ.set i (.o d)) H := by
  have np0 : p ∉ C.O0 := fun z => hp (S.sub p z)
  have other : ∀ (j : Nat) (q : Sl), ρ[j]? = some q → q.mut.isSome = true → σ[j]? ≠ some (some (.ref p)) := fun j q hq m e => by
    obtain ⟨d, ed⟩ := Option.isSome_iff_exists.mp m
    obtain ⟨a, ea, hO, _⟩ := S.mutAt hq ed
    rw [e] at ea
    cases ea
    exact hp hO
  have lift : ∀ {j : Nat} {s : Option V} {q : Sl}, SlR C L (p :: O) H j s q → SlR C (p :: L) (p :: O) H j s q := fun {j s q} z => by
    cases q with
    | o d => obtain ⟨a, e, n1, r⟩ := z; exact ⟨a, e, List.mem_cons_of_mem _ n1, r⟩
    | _ => exact z
  refine ⟨by rw [List.length_set, List.length_set, S.len], fun j s q h1 h2 => ?_, fun a ha => ?_, S'.sub, S'.msub, S'.live, fun j k q q' a hjk h1 h2 m1 m2 e1 e2 => ?_, S'.frame⟩
  · by_cases hj : i = j
    · subst hj
      rw [List.getElem?_set] at h1 h2
      simp only [if_true] at h1 h2
      split at h1
      · split at h2
        · cases h1; cases h2
          exact ⟨p, rfl, List.mem_cons_self, np0, h0, w⟩
        · cases h2
      · cases h1
    · rw [List.getElem?_set_ne hj] at h1 h2
      exact lift (S'.slot j s q h1 h2)
  · rcases List.mem_cons.mp ha with z | z
    · rw [z]; exact List.mem_cons_self
    · exact S'.lsub a z
  · by_cases hj : i = j
    · subst hj
      rw [List.getElem?_set] at e1
      simp only [if_true] at e1
      split at e1
      · cases e1
        rw [List.getElem?_set_ne hjk] at h2 e2
        exact other k q' h2 m2 e2
      · cases e1
    · by_cases hk : i = k
      · subst hk
        rw [List.getElem?_set] at e2
        simp only [if_true] at e2
        split at e2
        · cases e2
          rw [List.getElem?_set_ne hj] at h1 e1
          exact other j q h1 m1 e1
        · cases e2
      · rw [List.getElem?_set_ne hj] at h1 e1
        rw [List.getElem?_set_ne hk] at h2 e2
        exact S.apart j k q q' a hjk h1 h2 m1 m2 e1 e2
/-- an object is none of the changing ones any more -/
theorem SRel.dropO {p : Addr} (S : SRel C L (p :: O) σ ρ H) (hL : ∀ a ∈ L, a ∈ O) (h0 : ∀ a ∈ C.O0, a ∈ O) : SRel C L O σ ρ H := by
  have le : ∀ a, a ∈ O → a ∈ p :: O := fun a h => List.mem_cons_of_mem _ h
  refine ⟨S.len, fun i s r h1 h2 => ?_, hL, h0, S.msub, fun a ha => S.live a (le a ha), S.apart, S.frame⟩
  have z := S.slot i s r h1 h2
  cases r with
  | e => trivial
  | i d => obtain ⟨v, e, r⟩ := z; exact ⟨v, e, r.less le⟩
  | o d => obtain ⟨a, e, n1, n2, n3, w⟩ := z; exact ⟨a, e, n1, n2, n3, w.less le⟩
  | b d => obtain ⟨a, e, n1, w⟩ := z; exact ⟨a, e, n1, w.less le⟩
end
end Mx


/-! Mx, part 2: the language and what it computes. -/
namespace Mx
open PySem PySem.Spec PyProof.Rows L2

inductive BOp where
  | add | sub | mul | fdiv | mod | pow
  deriving DecidableEq
inductive COp where
  | eq | ne | lt | le | gt | ge | isin | notin | is | isnt
  deriving DecidableEq
inductive BFn where
  | len | int | all | any | list | tuple | repr | str | ord | min | max
  deriving DecidableEq
inductive BMt where
  | join | split | part | upper | strip
  deriving DecidableEq

mutual
inductive E where
  | var (i : Nat)
  | view (i : Nat)
  | cst (d : IV)
  | glo (x : Str) (d : IV)
  | bin (o : BOp) (a b : E)
  | neg (a : E)
  | cmp (o : COp) (a b : E)
  | chn (o p : COp) (a b c : E)
  | and (es : Es)
  | or (es : Es)
  | not (a : E)
  | ite (c a b : E)
  | ix (a b : E)
  | sl (a : E) (lo hi : OE)
  | lst (es : Es)
  | tup (es : Es)
  | dct (ks : List Key) (es : Es)
  | fn (f : BFn) (es : Es)
  | isi (a : E) (t : String)
  | mt (m : BMt) (a : E) (es : Es)
  | call (f : Nat) (as : As)
  | callK (f : Nat) (as bs : Es) (ks : List Str) (perm : List Nat)
  | comp (tg : List Nat) (it : It) (c : OE) (e : E)
inductive OE where
  | no
  | yes (e : E)
inductive Es where
  | nil
  | cons (e : E) (r : Es)
inductive As where
  | nil
  | v (e : E) (r : As)
  | m (i : Nat) (r : As)
inductive It where
  | lst (e : E)
  | tup (e : E)
  | txt (e : E)
  | rng (a : E)
  | rng2 (a b : E)
  | enu (e : E)
end
mutual
inductive S where
  | asg (i : Nat) (e : E)
  | asgO (i : Nat) (e : E)
  | unp (is : List Nat) (e : E)
  | aug (i : Nat) (o : BOp) (e : E)
  | setI (i : Nat) (k v : E)
  | app (i : Nat) (e : E)
  | drop (e : E)
  | ret (e : E)
  | retN
  | retO (i : Nat)
  | ite (c : E) (a b : Ss)
  | whl (c : E) (b : Ss)
  | loop (tg : List Nat) (it : It) (b : Ss)
  | pass
  | brk
  | cnt
inductive Ss where
  | nil
  | cons (s : S) (r : Ss)
end

/-! ### what operations give -/
/-- the longest text, list -/
abbrev SZ : Nat := 16777216
def mulOk (i j : Int) : Bool := (decide (-(2 ^ 64) < i) && decide (i < 2 ^ 64)) || (decide (-(2 ^ 64) < j) && decide (j < 2 ^ 64))
def addD : IV → IV → Option IV
  | .int i, .int j => some (.int (i + j))
  | .str a, .str b => if a.length + b.length ≤ SZ then some (.str (a ++ b)) else none
  | .lst a, .lst b => if a.length + b.length ≤ SZ then some (.lst (a ++ b)) else none
  | .tup a, .tup b => if a.length + b.length ≤ SZ then some (.tup (a ++ b)) else none
  | _, _ => none
def subD : IV → IV → Option IV
  | .int i, .int j => some (.int (i - j))
  | _, _ => none
def mulD : IV → IV → Option IV
  | .int i, .int j => if mulOk i j = true then some (.int (i * j)) else none
  | .str a, .int n => if 1 ≤ n ∧ n ≤ SZ ∧ a ≠ [] ∧ a.length * n.toNat ≤ SZ then some (.str (List.replicate n.toNat a).flatten) else none
  | .lst a, .int n => if 0 ≤ n ∧ n ≤ SZ ∧ a.length * n.toNat ≤ SZ then some (.lst (List.replicate n.toNat a).flatten) else none
  | _, _ => none
def fdivD : IV → IV → Option IV
  | .int i, .int j => if 0 < j ∧ j < 1073741824 then some (.int (i / j)) else none
  | _, _ => none
def modD : IV → IV → Option IV
  | .int i, .int j => if 0 < j then some (.int (i % j)) else none
  | _, _ => none
def powD : IV → IV → Option IV
  | .int i, .int j => if 0 ≤ j ∧ j ≤ 1000000 ∧ i.natAbs < 18446744073709551616 then some (.int (i ^ j.toNat)) else none
  | _, _ => none
def binD : BOp → IV → IV → Option IV
  | .add => addD
  | .sub => subD
  | .mul => mulD
  | .fdiv => fdivD
  | .mod => modD
  | .pow => powD
/- data that == and repr look at -/
mutual
def IV.toP : IV → Option PyData
  | .non => some .none
  | .bl b => some (.bool b)
  | .int i => some (.int i)
  | .str l => some (.str (sOf l))
  | .tup xs => match IV.toPs xs with | some ps => some (.tuple ps) | none => none
  | .lst xs => match IV.toPs xs with | some ps => some (.list ps) | none => none
  | .dct _ => none
  | .ins _ _ => none
def IV.toPs : List IV → Option (List PyData)
  | [] => some []
  | x :: xs => match IV.toP x, IV.toPs xs with | some p, some ps => some (p :: ps) | _, _ => none
end
def eqD (x y : IV) : Option Bool := match x, y with
  | .int i, .int j => some (decide (i = j))
  | .str a, .str b => some (decide (a = b))
  | .bl a, .bl b => some (decide (a = b))
  | .non, .non => some true
  | .non, .int _ => some false
  | .int _, .non => some false
  | .non, .str _ => some false
  | .str _, .non => some false
  | .int _, .str _ => some false
  | .str _, .int _ => some false
  | x, y => match x.toP, y.toP with
    | some p, some q => if SeqAt.shaped p = true ∧ SeqAt.shaped q = true then some (PyData.eqv p q) else none
    | _, _ => none
def flatD : IV → Bool
  | .non => true
  | .bl _ => true
  | .int _ => true
  | .str _ => true
  | _ => false
def eqF : IV → IV → Bool
  | .non, .non => true
  | .bl a, .bl b => a == b
  | .bl a, .int b => (if a then 1 else 0) == b
  | .int a, .bl b => a == (if b then 1 else 0)
  | .int a, .int b => a == b
  | .str a, .str b => decide (a = b)
  | _, _ => false
def inD (x y : IV) : Option Bool := match y with
  | .str l => match x with
    | .str [c] => some (decide (c ∈ l))
    | _ => none
  | .tup ys => if flatD x = true ∧ ys.all flatD = true then some (ys.any fun y => eqF y x) else none
  | .lst ys => if flatD x = true ∧ ys.all flatD = true then some (ys.any fun y => eqF y x) else none
  | _ => none
def neD (x y : IV) : Option Bool := (eqD x y).map (!·)
def ninD (x y : IV) : Option Bool := (inD x y).map (!·)
def ltD : IV → IV → Option Bool
  | .int i, .int j => some (decide (i < j))
  | _, _ => none
def leD : IV → IV → Option Bool
  | .int i, .int j => some (decide (i ≤ j))
  | _, _ => none
def gtD : IV → IV → Option Bool
  | .int i, .int j => some (decide (j < i))
  | _, _ => none
def geD : IV → IV → Option Bool
  | .int i, .int j => some (decide (j ≤ i))
  | _, _ => none
def isD : IV → IV → Option Bool
  | .non, .non => some true
  | _, .non => some false
  | _, _ => none
def isntD (x y : IV) : Option Bool := (isD x y).map (!·)
def cmpD : COp → IV → IV → Option Bool
  | .eq => eqD
  | .ne => neD
  | .lt => ltD
  | .le => leD
  | .gt => gtD
  | .ge => geD
  | .isin => inD
  | .notin => ninD
  | .is => isD
  | .isnt => isntD
def ixD : IV → IV → Option IV
  | .str l, .int i => if l.length ≤ SZ then (atI l i).map fun c => .str [c] else none
  | .lst xs, .int i => atI xs i
  | .tup xs, .int i => atI xs i
  | _, _ => none
def cutL {α : Type} (xs : List α) (lo hi : Option Int) : List α := (xs.drop (HT.sIx xs.length 0 lo)).take (HT.sIx xs.length xs.length hi - HT.sIx xs.length 0 lo)
def slD : IV → Option Int → Option Int → Option IV
  | .str l, lo, hi => if l.length ≤ SZ then some (.str (cutL l lo hi)) else none
  | .lst xs, lo, hi => some (.lst (cutL xs lo hi))
  | .tup xs, lo, hi => some (.tup (cutL xs lo hi))
  | _, _, _ => none
def truD : IV → Option Bool
  | .bl b => some b
  | .non => some false
  | .int i => some (i != 0)
  | .str l => if l.length ≤ SZ then some (!l.isEmpty) else none
  | .lst xs => some (!xs.isEmpty)
  | .tup xs => some (!xs.isEmpty)
  | _ => none
def bools : List IV → Option (List Bool)
  | [] => some []
  | .bl b :: r => (bools r).map (b :: ·)
  | _ => none
def reprD (x : IV) : Option (List Nat) := match x.toP with
  | some p => if p.showable = true ∧ p.shown.length ≤ SZ ∧ p.depth ≤ 50 then some p.shown.cps.toList else none
  | none => none
def fnD : BFn → List IV → Option IV
  | .len, [.str l] => if l.length ≤ SZ then some (.int l.length) else none
  | .len, [.lst l] => some (.int l.length)
  | .len, [.tup l] => some (.int l.length)
  | .int, [.int i] => some (.int i)
  | .int, [.bl b] => some (.int (if b then 1 else 0))
  | .all, [.lst xs] => (bools xs).map fun bs => .bl (bs.all id)
  | .any, [.lst xs] => (bools xs).map fun bs => .bl (bs.any id)
  | .list, [.str l] => if l.length ≤ SZ then some (.lst (l.map fun c => .str [c])) else none
  | .list, [.lst l] => some (.lst l)
  | .list, [.tup l] => some (.lst l)
  | .tuple, [.lst l] => some (.tup l)
  | .tuple, [.tup l] => some (.tup l)
  | .repr, [.lst l] => (reprD (.lst l)).map .str
  | .repr, [.tup l] => (reprD (.tup l)).map .str
  | _, _ => none
/-- isinstance of a built-in class -/
def isiD : IV → String → Option Bool
  | .non, "str" => some false
  | .bl _, "str" => some false
  | .int _, "str" => some false
  | .str _, "str" => some true
  | .tup _, "str" => some false
  | .lst _, "str" => some false
  | .dct _, "str" => some false
  | .non, "int" => some false
  | .bl _, "int" => some true
  | .int _, "int" => some true
  | .str _, "int" => some false
  | .tup _, "int" => some false
  | .lst _, "int" => some false
  | .dct _, "int" => some false
  | .non, "bool" => some false
  | .bl _, "bool" => some true
  | .int _, "bool" => some false
  | .str _, "bool" => some false
  | .tup _, "bool" => some false
  | .lst _, "bool" => some false
  | .dct _, "bool" => some false
  | .non, "tuple" => some false
  | .bl _, "tuple" => some false
  | .int _, "tuple" => some false
  | .str _, "tuple" => some false
  | .tup _, "tuple" => some true
  | .lst _, "tuple" => some false
  | .dct _, "tuple" => some false
  | _, _ => none
def texts : List IV → Option (List (List Nat))
  | [] => some []
  | .str l :: r => (texts r).map (l :: ·)
  | _ => none
/-- the characters of ASCII -/
def ascii (l : List Nat) : Bool := l.all (· < 128)
def mtD : BMt → IV → List IV → Option IV
  | .join, .str s, [.lst xs] => match texts xs with
    | some ts => if (ts.map List.length).sum + ts.length * s.length ≤ SZ then some (.str (TL.joinL s ts)) else none
    | none => none
  | .split, .str a, [.str b] => if b ≠ [] ∧ ascii b = true ∧ a.length + 2 ≤ SZ then some (.lst ((TL.spl b 0 [] a).map .str)) else none
  | .part, .str a, [.str b] => if b ≠ [] ∧ a.length ≤ SZ then (match TL.par b [] a with
    | some (x, y) => some (.tup [.str x, .str b, .str y])
    | none => some (.tup [.str a, .str [], .str []])) else none
  | .upper, .str a, [] => if a.length ≤ 1000000 then some (.str (Txt.upper (sOf a)).cps.toList) else none
  | _, _, _ => none
def enumD {α : Type} (f : Nat → α → IV) : Nat → List α → List IV
  | _, [] => []
  | n, x :: r => f n x :: enumD f (n + 1) r

/-! ### runs -/
/-- an exception: its class, its fields -/
structure Xn where
  c : Nat
  fs : List IV
abbrev Out (α : Type) := Option (Except Xn α × List Sl)
abbrev R (α : Type) := List Sl → Out α
def rPure {α : Type} (a : α) : R α := fun ρ => some (.ok a, ρ)
def rBind {α β : Type} (m : R α) (f : α → R β) : R β := fun ρ => match m ρ with
  | none => none
  | some (.error x, ρ') => some (.error x, ρ')
  | some (.ok a, ρ') => f a ρ'
def rLift {α : Type} (o : Option α) : R α := fun ρ => match o with
  | some a => some (.ok a, ρ)
  | none => none
/-- in a comprehension nothing is raised -/
def rQuiet {α : Type} (m : R α) : R α := fun ρ => match m ρ with
  | some (.error _, _) => none
  | r => r
abbrev CS := Nat → List IV → Option (Except Xn IV × List IV)
def rVar (i : Nat) : R IV := fun ρ => match ρ[i]? with
  | some (.i d) => some (.ok d, ρ)
  | _ => none
def rView (i : Nat) : R IV := fun ρ => match ρ[i]? with
  | some (.o d) => some (.ok d, ρ)
  | some (.b d) => some (.ok d, ρ)
  | _ => none
def rAndV (a b : R IV) : R IV := rBind a fun x => match x with
  | .bl true => b
  | .bl false => rPure (.bl false)
  | _ => rLift none
def rOrV (a b : R IV) : R IV := rBind a fun x => match x with
  | .bl true => rPure (.bl true)
  | .bl false => b
  | _ => rLift none
def rNotV (a : R IV) : R IV := rBind a fun x => match x with
  | .bl b => rPure (.bl !b)
  | _ => rLift none
def rIf {α : Type} (c : R Bool) (a b : R α) : R α := rBind c fun t => if t = true then a else b
def argD (ρ : List Sl) : IV ⊕ Nat → Option IV
  | .inl d => some d
  | .inr i => ρ[i]?.bind Sl.mut
def argsD (ρ : List Sl) : List (IV ⊕ Nat) → Option (List IV)
  | [] => some []
  | x :: xs => match argD ρ x, argsD ρ xs with
    | some d, some ds => some (d :: ds)
    | _, _ => none
def putM : List (IV ⊕ Nat) → List IV → List Sl → List Sl
  | .inr i :: xs, m :: ms, ρ => putM xs ms (match ρ[i]? with | some r => ρ.set i (r.put m) | none => ρ)
  | .inl _ :: xs, _ :: ms, ρ => putM xs ms ρ
  | _, _, ρ => ρ
def rCall (cs : CS) (f : Nat) (xs : List (IV ⊕ Nat)) : R IV := fun ρ => match argsD ρ xs with
  | none => none
  | some ds => match cs f ds with
    | none => none
    | some (r, ms) => some (r, putM xs ms ρ)
def pick {α : Type} (ds : List α) : List Nat → Option (List α)
  | [] => some []
  | i :: is => match ds[i]?, pick ds is with
    | some d, some r => some (d :: r)
    | _, _ => none
def rCallK (cs : CS) (f : Nat) (perm : List Nat) (ds : List IV) : R IV := fun ρ => match pick ds perm with
  | none => none
  | some es => match cs f es with
    | none => none
    | some (r, _) => some (r, ρ)
def setTgs : List Nat → List IV → List Sl → List Sl
  | i :: is, d :: ds, ρ => setTgs is ds (ρ.set i (.i d))
  | _, _, ρ => ρ
def rTg (tg : List Nat) (d : IV) : R Unit := fun ρ => match tg with
  | [i] => some (.ok (), ρ.set i (.i d))
  | _ => match d with
    | .tup ds => if ds.length = tg.length then some (.ok (), setTgs tg ds ρ) else none
    | _ => none
def clear : List Nat → List Sl → List Sl
  | [], ρ => ρ
  | i :: is, ρ => clear is (ρ.set i .e)
def empty (tg : List Nat) (ρ : List Sl) : Bool := tg.all fun i => match ρ[i]? with
  | some .e => true
  | _ => false
def rClr (tg : List Nat) : R Unit := fun ρ => some (.ok (), clear tg ρ)
def rComp (tg : List Nat) (c : R Bool) (e : R IV) : List IV → R (List IV)
  | [] => rPure []
  | x :: xs => rBind (rTg tg x) fun _ => rBind c fun t => if t = true then rBind e fun y => rBind (rClr tg) fun _ => rBind (rComp tg c e xs) fun ys => rPure (y :: ys) else rBind (rClr tg) fun _ => rComp tg c e xs
def Sl.light : Sl → Bool
  | .e => true
  | .i _ => true
  | _ => false
/-- the slots of tg hold no changing object -/
def light (tg : List Nat) (ρ : List Sl) : Bool := tg.all fun i => match ρ[i]? with
  | some r => r.light
  | none => false
/-- the slots of tg as they were in ρ -/
def back : List Nat → List Sl → List Sl → List Sl
  | [], _, ρ' => ρ'
  | i :: is, ρ, ρ' => back is ρ (match ρ[i]? with | some r => ρ'.set i r | none => ρ')
def rList (tg : List Nat) (c : R Bool) (e : R IV) (xs : List IV) : R IV := fun ρ =>
  if light tg ρ = true ∧ xs.length ≤ SZ then match rComp tg c e xs (clear tg ρ) with
    | some (.ok ys, ρ') => some (.ok (.lst ys), back tg ρ ρ')
    | _ => none
  else none
def intI : IV → Option Int
  | .int i => some i
  | _ => none
def strI : IV → Option Unit
  | .str _ => some ()
  | _ => none
def seqL : IV → Option (List IV)
  | .lst xs => some xs
  | _ => none
def seqT : IV → Option (List IV)
  | .tup xs => some xs
  | _ => none
def seqS : IV → Option (List IV)
  | .str l => some (l.map fun c => .str [c])
  | _ => none
def seqR : IV → Option (List IV)
  | .int n => if -(2 ^ 62) ≤ n ∧ n < 2 ^ 62 then some ((List.range n.toNat).map fun i => .int (i : Nat)) else none
  | _ => none
def seqR2 : IV → IV → Option (List IV)
  | .int m, .int n => if -(2 ^ 62) ≤ m ∧ m < 2 ^ 62 ∧ -(2 ^ 62) ≤ n ∧ n < 2 ^ 62 then some ((List.range (n - m).toNat).map fun i => .int (m + (i : Nat))) else none
  | _, _ => none
def seqE : IV → Option (List IV)
  | .lst xs => some (enumD (fun n x => .tup [.int (n : Nat), x]) 0 xs)
  | _ => none

mutual
/-- an expression: its value, its truth -/
def ev (cs : CS) : E → R IV × R Bool
  | .var i => let v := rVar i; (v, rBind v fun d => rLift (truD d))
  | .view i => let v := rView i; (v, rBind v fun d => rLift (truD d))
  | .cst d => let v := rPure d; (v, rBind v fun d => rLift (truD d))
  | .glo _ d => let v := rPure d; (v, rBind v fun d => rLift (truD d))
  | .bin o a b => let v := rBind (ev cs a).1 fun x => rBind (ev cs b).1 fun y => rLift (binD o x y); (v, rBind v fun d => rLift (truD d))
  | .neg a => let v := rBind (ev cs a).1 fun x => match x with | .int i => rPure (.int (-i)) | _ => rLift none; (v, rBind v fun d => rLift (truD d))
  | .cmp o a b => let v := rBind (ev cs a).1 fun x => rBind (ev cs b).1 fun y => rLift ((cmpD o x y).map .bl); (v, rBind v fun d => rLift (truD d))
  | .chn o p a b c => let v := rBind (ev cs a).1 fun x => rBind (ev cs b).1 fun y => rBind (rLift (cmpD o x y)) fun t => if t = true then rBind (ev cs c).1 fun z => rLift ((cmpD p y z).map .bl) else rPure (.bl false)
    (v, rBind v fun d => rLift (truD d))
  | .and es => evAnd cs es
  | .or es => evOr cs es
  | .not a => (rNotV (ev cs a).1, rBind (ev cs a).2 fun t => rPure !t)
  | .ite c a b => let v := rIf (ev cs c).2 (ev cs a).1 (ev cs b).1; (v, rBind v fun d => rLift (truD d))
  | .ix a b => let v := rBind (ev cs a).1 fun x => rBind (ev cs b).1 fun y => rLift (ixD x y); (v, rBind v fun d => rLift (truD d))
  | .sl a lo hi => let v := rBind (ev cs a).1 fun x => rBind (evO cs lo) fun l => rBind (evO cs hi) fun h => rLift (slD x l h); (v, rBind v fun d => rLift (truD d))
  | .lst es => let v := rBind (evEs cs es) fun xs => rLift (if xs.length ≤ SZ then some (.lst xs) else none); (v, rBind v fun d => rLift (truD d))
  | .tup es => let v := rBind (evEs cs es) fun xs => rLift (if xs.length ≤ SZ then some (.tup xs) else none); (v, rBind v fun d => rLift (truD d))
  | .dct ks es => let v := rBind (evEs cs es) fun xs => rPure (.dct (ks.zip xs)); (v, rBind v fun d => rLift (truD d))
  | .fn f es => let v := rBind (evEs cs es) fun xs => rLift (fnD f xs); (v, rBind v fun d => rLift (truD d))
  | .isi a t => let v := rBind (ev cs a).1 fun x => rLift ((isiD x t).map .bl); (v, rBind v fun d => rLift (truD d))
  | .mt m a es => let v := rBind (ev cs a).1 fun x => rBind (rLift (strI x)) fun _ => rBind (evEs cs es) fun xs => rLift (mtD m x xs); (v, rBind v fun d => rLift (truD d))
  | .call f as => let v := rBind (evAs cs as) fun xs => rCall cs f xs; (v, rBind v fun d => rLift (truD d))
  | .callK f as bs _ perm => let v := rBind (evEs cs as) fun ds => rBind (evEs cs bs) fun es => rCallK cs f perm (ds ++ es); (v, rBind v fun d => rLift (truD d))
  | .comp tg it c e => let v := rBind (evIt cs it) fun xs => rList tg (evC cs c) (ev cs e).1 xs; (v, rBind v fun d => rLift (truD d))
def evAnd (cs : CS) : Es → R IV × R Bool
  | .nil => (rLift none, rLift none)
  | .cons e r => match r with
    | .nil => ev cs e
    | .cons e' r' => (rAndV (ev cs e).1 (evAnd cs (.cons e' r')).1, rIf (ev cs e).2 (evAnd cs (.cons e' r')).2 (rPure false))
def evOr (cs : CS) : Es → R IV × R Bool
  | .nil => (rLift none, rLift none)
  | .cons e r => match r with
    | .nil => ev cs e
    | .cons e' r' => (rOrV (ev cs e).1 (evOr cs (.cons e' r')).1, rIf (ev cs e).2 (rPure true) (evOr cs (.cons e' r')).2)
def evO (cs : CS) : OE → R (Option Int)
  | .no => rPure none
  | .yes e => rBind (ev cs e).1 fun x => rLift ((intI x).map some)
def evC (cs : CS) : OE → R Bool
  | .no => rPure true
  | .yes e => (ev cs e).2
def evEs (cs : CS) : Es → R (List IV)
  | .nil => rPure []
  | .cons e r => rBind (ev cs e).1 fun x => rBind (evEs cs r) fun xs => rPure (x :: xs)
def evAs (cs : CS) : As → R (List (IV ⊕ Nat))
  | .nil => rPure []
  | .v e r => rBind (ev cs e).1 fun x => rBind (evAs cs r) fun xs => rPure (.inl x :: xs)
  | .m i r => rBind (rView i) fun _ => rBind (evAs cs r) fun xs => rPure (.inr i :: xs)
def evIt (cs : CS) : It → R (List IV)
  | .lst e => rBind (ev cs e).1 fun x => rLift (seqL x)
  | .tup e => rBind (ev cs e).1 fun x => rLift (seqT x)
  | .txt e => rBind (ev cs e).1 fun x => rLift (seqS x)
  | .rng a => rBind (ev cs a).1 fun x => rLift (seqR x)
  | .rng2 a b => rBind (ev cs a).1 fun x => rBind (ev cs b).1 fun y => rLift (seqR2 x y)
  | .enu e => rBind (ev cs e).1 fun x => rLift (seqE x)
end
/-- how a statement ends -/
inductive Fl where
  | nx | rt (d : IV) | bk | ct
def rWhile (c : R Bool) (b : R Fl) : Nat → R Fl
  | 0 => fun _ => none
  | n + 1 => rBind c fun t => if t = true then rBind b fun f => match f with
    | .nx => rWhile c b n
    | .ct => rWhile c b n
    | .bk => rPure .nx
    | .rt d => rPure (.rt d) else rPure .nx
def rFor (tg : List Nat) (b : R Fl) : List IV → R Fl
  | [] => rPure .nx
  | x :: xs => rBind (rTg tg x) fun _ => rBind b fun f => match f with
    | .nx => rFor tg b xs
    | .ct => rFor tg b xs
    | .bk => rPure .nx
    | .rt d => rPure (.rt d)
def rSet (i : Nat) (r : Sl) : R Fl := fun ρ => some (.ok .nx, ρ.set i r)
def rPut (i : Nat) (g : IV → Option IV) : R Fl := fun ρ => match ρ[i]? with
  | some r => match r.mut with
    | some d => match g d with
      | some d' => some (.ok .nx, ρ.set i (r.put d'))
      | none => none
    | none => none
  | none => none
def setD (k v : IV) : IV → Option IV
  | .lst xs => match k with
    | .int i => (ixN xs.length i).map fun j => .lst (xs.set j v)
    | _ => none
  | _ => none
def appD (v : IV) : IV → Option IV
  | .lst xs => if xs.length < SZ then some (.lst (xs ++ [v])) else none
  | _ => none
mutual
def evS (cs : CS) (N : Nat) : S → R Fl
  | .asg i e => rBind (ev cs e).1 fun d => rSet i (.i d)
  | .asgO i e => rBind (ev cs e).1 fun d => rSet i (.o d)
  | .unp is e => rBind (ev cs e).1 fun d => rBind (rTg is d) fun _ => rPure .nx
  | .aug i o e => rBind (rVar i) fun x => rBind (ev cs e).1 fun y => rBind (rLift (binD o x y)) fun d => rSet i (.i d)
  | .setI i k v => rBind (ev cs v).1 fun y => rBind (rView i) fun _ => rBind (ev cs k).1 fun x => rPut i (setD x y)
  | .app i e => rBind (rView i) fun _ => rBind (ev cs e).1 fun x => rPut i (appD x)
  | .drop e => rBind (ev cs e).1 fun _ => rPure .nx
  | .ret e => rBind (ev cs e).1 fun d => rPure (.rt d)
  | .retN => rPure (.rt .non)
  | .retO i => fun ρ => match ρ[i]? with
    | some (.o d) => some (.ok (.rt d), ρ)
    | _ => none
  | .ite c a b => rIf (ev cs c).2 (evSs cs N a) (evSs cs N b)
  | .whl c b => rWhile (ev cs c).2 (evSs cs N b) N
  | .loop tg it b => rBind (evIt cs it) fun xs => rFor tg (evSs cs N b) xs
  | .pass => rPure .nx
  | .brk => rPure .bk
  | .cnt => rPure .ct
def evSs (cs : CS) (N : Nat) : Ss → R Fl
  | .nil => rPure .nx
  | .cons s r => rBind (evS cs N s) fun f => match f with
    | .nx => evSs cs N r
    | f => rPure f
end
/-- a def: its name, parameters, slots' names, which parameters change, whether it gives a new object, its body -/
structure Fn where
  name : Str
  ps : List Str
  ns : List Str
  muts : List Bool
  own : Bool
  body : Ss
  kws : List (Nat × List Str × List Nat) := []
def startA : List Bool → List IV → List Sl
  | m :: ms, d :: ds => (if m = true then Sl.b d else Sl.i d) :: startA ms ds
  | _, _ => []
def Fn.start (fn : Fn) (ds : List IV) : List Sl := startA fn.muts ds ++ List.replicate (fn.ns.length - fn.ps.length) .e
def mutsOf : List Bool → List Sl → Option (List IV)
  | [], _ => some []
  | false :: bs, _ :: ρ => (mutsOf bs ρ).map (IV.non :: ·)
  | true :: bs, .b d :: ρ => (mutsOf bs ρ).map (d :: ·)
  | _, _ => none
def endF (fn : Fn) : Out Fl → Option (Except Xn IV × List IV)
  | some (.ok (.rt d), ρ) => (mutsOf fn.muts ρ).map fun ms => (.ok d, ms)
  | some (.ok .nx, ρ) => if fn.own = true then none else (mutsOf fn.muts ρ).map fun ms => (.ok .non, ms)
  | some (.error x, ρ) => (mutsOf fn.muts ρ).map fun ms => (.error x, ms)
  | _ => none
def runF (T : Nat → Option Fn) (N : Nat) : Nat → CS
  | 0 => fun _ _ => none
  | n + 1 => fun f ds => match T f with
    | none => none
    | some fn => if ds.length = fn.ps.length then endF fn (evSs (runF T N n) N fn.body (fn.start ds)) else none
end Mx


/-! Mx, part 3: the operations are those of the model. -/
namespace Mx
open PySem PySem.Spec PyProof.Rows L2

/-- a datum that is read: also one of the changing objects -/
def RepX (K : PySem.W.Frag) (cl : Nat → Option Addr) (O : List Addr) (H : Hp) (v : V) (d : IV) : Prop := Rep K cl O H v d ∨ ∃ a, v = .ref a ∧ a ∈ O ∧ Own K cl O H a d
section
variable {K : PySem.W.Frag} {cl : Nat → Option Addr} {O : List Addr} {H H' : Hp} {v : V}
theorem RepX.same {d : IV} (k : Same H H') (h : RepX K cl O H v d) : RepX K cl O H' v d := by
  rcases h with h | ⟨a, e, n, w⟩
  · exact .inl (h.keep (.same k))
  · exact .inr ⟨a, e, n, w.keep (.same k) fun o => k a o⟩
theorem RepX.non (h : RepX K cl O H v .non) : v = .non := by
  rcases h with h | ⟨_, _, _, w⟩
  · cases h; rfl
  · cases w
theorem RepX.bl {b : Bool} (h : RepX K cl O H v (.bl b)) : v = .bl b := by
  rcases h with h | ⟨_, _, _, w⟩
  · cases h; rfl
  · cases w
theorem RepX.int {i : Int} (h : RepX K cl O H v (.int i)) : v = .int i := by
  rcases h with h | ⟨_, _, _, w⟩
  · cases h; rfl
  · cases w
theorem RepX.str {l : List Nat} (h : RepX K cl O H v (.str l)) : v = .str (sOf l) := by
  rcases h with h | ⟨_, _, _, w⟩
  · cases h; rfl
  · cases w
theorem RepX.lst {ds : List IV} (h : RepX K cl O H v (.lst ds)) : ∃ a vs, v = .ref a ∧ SqL K H a vs ∧ RepAll K cl O H vs ds := by
  rcases h with h | ⟨a, rfl, _, w⟩
  · exact h.lstI
  · cases w with
    | lst h r => exact ⟨a, _, rfl, SqL.of h, r⟩
theorem RepX.tup {ds : List IV} (h : RepX K cl O H v (.tup ds)) : ∃ a vs, v = .ref a ∧ SqT K H a vs ∧ RepAll K cl O H vs ds := by
  rcases h with h | ⟨a, rfl, _, w⟩
  · exact h.tupI
  · cases w
theorem RepX.tupR {ds : List IV} (h : RepX K cl O H v (.tup ds)) : Rep K cl O H v (.tup ds) := by
  rcases h with h | ⟨a, rfl, _, w⟩
  · exact h
  · cases w
theorem notin_of {p : Addr} (live : ∀ a ∈ O, H a ≠ none) (hp : H p = none) : p ∉ O := fun z => live p z hp
/-- a new list, a new tuple -/
theorem rep_newL {p : Addr} {vs : List V} {ds : List IV} (live : ∀ a ∈ O, H a ≠ none) (hp : H p = none) (r : RepAll K cl O H vs ds) : Rep K cl O (upd H p (.lst vs)) (.ref p) (.lst ds) :=
  .lstH (.inl upd_same) (notin_of live hp) (r.keep (.same (same_new hp)))
theorem rep_newT {p : Addr} {vs : List V} {ds : List IV} (live : ∀ a ∈ O, H a ≠ none) (hp : H p = none) (r : RepAll K cl O H vs ds) : Rep K cl O (upd H p (.tup vs)) (.ref p) (.tup ds) :=
  .tupH (.inl upd_same) (notin_of live hp) (r.keep (.same (same_new hp)))
theorem repAll_strs : ∀ ts : List (List Nat), RepAll K cl O H (ts.map fun t => V.str (sOf t)) (ts.map IV.str)
  | [] => .nil
  | t :: ts => .cons (.str t) (repAll_strs ts)
theorem RepAll.rep : ∀ {n : Nat} {vs : List V} {ds : List IV}, RepAll K cl O H vs ds → RepAll K cl O H (List.replicate n vs).flatten (List.replicate n ds).flatten
  | 0, _, _, _ => .nil
  | n + 1, _, _, r => by
    rw [List.replicate_succ, List.replicate_succ, List.flatten_cons, List.flatten_cons]
    exact r.append (RepAll.rep r)
end
/-- what an operation of two data gives -/
def r2D (K : PySem.W.Frag) (cl : Nat → Option Addr) (f : IV → IV → Option IV) : R2 := fun x y H Q =>
  ∃ O dx dy d, (∀ a ∈ O, H a ≠ none) ∧ RepX K cl O H x dx ∧ RepX K cl O H y dy ∧ f dx dy = some d ∧ ∀ v H', Same H H' → Rep K cl O H' v d → Q v H'
section
variable {X : Cx} {cl : Nat → Option Addr}
theorem szl {n : Nat} (h : n ≤ SZ) : n ≤ sizeLine := by rw [sizeLine_eq]; exact h
theorem op_catL : OpR X (binaryOp .Add) (fun x y H Q => ∃ a b xs ys, x = .ref a ∧ y = .ref b ∧ SqL X.K H a xs ∧ SqL X.K H b ys ∧ xs.length + ys.length ≤ sizeLine ∧ ∀ p, H p = none → Q (.ref p) (upd H p (.lst (xs ++ ys)))) := by
  intro pins s σ H x y v u Q I rx ry h
  obtain ⟨a, b, xs, ys, rfl, rfl, ha, hb, hz, q⟩ := h
  cases rx
  cases ry
  obtain ⟨its, r1, p1, _⟩ := I.list ha
  obtain ⟨jts, r2, p2, _⟩ := I.list hb
  obtain ⟨⟨c1, d1, t1, s1⟩, n1, ho1, hc1, hd1, ht1⟩ := id p1
  obtain ⟨⟨c2, d2, t2, s2⟩, n2, ho2, hc2, hd2, ht2⟩ := id p2
  simp only at hc1 hd1 ht1 hc2 hd2 ht2
  subst hc1 hd1 ht1 hc2 hd2 ht2
  have l1 := r1.length
  have l2 := r2.length
  refine concat_meets ⟨_, ho1, rfl⟩ ⟨_, ho2, rfl⟩ noFill_list_add seq_list_add PySem.F.slot_list_add PySem.F.entry_list_add (PySem.F.args_list_add_2 _ _)
    (list_addW a b its.toArray jts.toArray n1 n2 none none s1 s2 (by rw [List.size_toArray, List.size_toArray]; omega)) ⟨ho1, ho2, ?_⟩
  rw [show its.toArray ++ jts.toArray = (its ++ jts).toArray by simp]
  exact ⟨.ref _, _, I.lnew (t' := s.toks) (r1.append r2) (by rw [List.length_append]; omega), rfl, q _ I.fresh⟩
theorem opD_add : OpR X (binaryOp .Add) (r2D X.K cl addD) := by
  intro pins s σ H x y v u Q I rx ry h
  obtain ⟨O, dx, dy, d, live, hx, hy, hf, k⟩ := h
  unfold addD at hf
  split at hf
  · cases hf
    exact op_add pins s σ H x y v u Q I rx ry ⟨_, _, hx.int, hy.int, k _ _ (Same.refl H) (.int _)⟩
  · split at hf
    · rename_i hz
      cases hf
      refine op_add_str pins s σ H x y v u Q I rx ry ⟨_, _, hx.str, hy.str, ?_, k _ _ (Same.refl H) ?_⟩
      · rw [sOf_len, sOf_len]; exact szl hz
      · rename_i a b
        have e : sOf a ++ sOf b = sOf (a ++ b) := TL.ext_tl (by rw [TL.tl_append]; show (sOf a).cps.toList ++ (sOf b).cps.toList = (sOf (a ++ b)).cps.toList; rw [sOf_list, sOf_list, sOf_list])
        rw [e]
        exact .str _
    · cases hf
  · split at hf
    · rename_i hz
      cases hf
      obtain ⟨a, xs, rfl, ha, ra⟩ := hx.lst
      obtain ⟨b, ys, rfl, hb, rb⟩ := hy.lst
      exact op_catL pins s σ H _ _ v u Q I rx ry ⟨a, b, xs, ys, rfl, rfl, ha, hb, szl (by rw [ra.length, rb.length]; exact hz), fun p hp => k _ _ (same_new hp) (rep_newL live hp (ra.append rb))⟩
    · cases hf
  · split at hf
    · rename_i hz
      cases hf
      have hx' := hx.tupR
      have hy' := hy.tupR
      obtain ⟨a, xs, rfl, ha, ra⟩ := hx.tup
      obtain ⟨b, ys, rfl, hb, rb⟩ := hy.tup
      refine op_catA pins s σ H _ _ v u Q I rx ry ⟨a, b, xs, ys, rfl, rfl, ha, hb, szl (by rw [ra.length, rb.length]; exact hz), fun e => ?_, fun _ e => ?_, fun _ _ p hp => k _ _ (same_new hp) (rep_newT live hp (ra.append rb))⟩
      · subst e
        cases ra
        exact k _ _ (Same.refl H) hy'
      · subst e
        cases rb
        rw [List.append_nil] at k
        exact k _ _ (Same.refl H) hx'
    · cases hf
  all_goals cases hf
theorem opD_sub : OpR X (binaryOp .Sub) (r2D X.K cl subD) := by
  intro pins s σ H x y v u Q I rx ry h
  obtain ⟨O, dx, dy, d, live, hx, hy, hf, k⟩ := h
  unfold subD at hf
  split at hf
  rotate_left
  · cases hf
  cases hf
  exact op_sub pins s σ H x y v u Q I rx ry ⟨_, _, hx.int, hy.int, k _ _ (Same.refl H) (.int _)⟩
theorem mulOk_c {i j : Int} (h : mulOk i j = true) : CMul i j := by
  unfold mulOk at h
  simp only [Bool.or_eq_true, Bool.and_eq_true, decide_eq_true_eq] at h
  exact h
theorem cat_rep (x : Array Nat) : ∀ (n : Nat) (acc : Array Nat), ((List.replicate n x).foldl (· ++ ·) acc).toList = acc.toList ++ (List.replicate n x.toList).flatten
  | 0, acc => by simp
  | n + 1, acc => by
    rw [List.replicate_succ, List.foldl_cons, cat_rep x n, List.replicate_succ, List.flatten_cons]
    simp
theorem notLong {n : Nat} (h : n ≤ sizeLine) : Builtin.Str.tooLong n = false := by
  unfold Builtin.Str.tooLong
  exact decide_eq_false (by omega)
theorem op_repS : OpR X (binaryOp .Mult) (fun x y H Q => ∃ (z : List Nat) (n : Int), x = .str (sOf z) ∧ y = .int n ∧ 1 ≤ n ∧ n ≤ SZ ∧ z ≠ [] ∧ z.length * n.toNat ≤ SZ ∧ Q (.str (sOf (List.replicate n.toNat z).flatten)) H) := by
  intro pins s σ H x y v u Q I rx ry h
  obtain ⟨z, n, rfl, rfl, h1, h2, h3, h4, q⟩ := h
  obtain ⟨t, rfl⟩ := rx
  obtain ⟨t', rfl⟩ := ry
  have hl : (sOf z).length = z.length := sOf_len z
  have hb : (n : Int) ≤ 16777216 := h2
  refine PySem.P.mul_str ?_ (fun _ _ => ?_) (fun _ _ => ?_) ?_
  · rw [decide_eq_false (by omega), decide_eq_false (by omega)]; rfl
  · rw [hl]
    have e : z.length ≤ 16777216 := by
      have : z.length * 1 ≤ z.length * n.toNat := Nat.mul_le_mul_left _ (by omega)
      have h4' : z.length * n.toNat ≤ 16777216 := h4
      omega
    have : (16777216 : Int) ≤ (2 ^ 63 - 1) / n := (Int.le_ediv_iff_mul_le (by omega)).mpr (by omega)
    omega
  · rw [hl]
    have h4' : z.length * n.toNat ≤ 16777216 := h4
    exact notLong (szl h4)
  · rw [if_neg (by omega)]
    by_cases h5 : (n == 1 || (sOf z).length == 0) = true
    · rw [if_pos h5]
      have e1 : n = 1 := by
        rw [hl] at h5
        rcases Bool.or_eq_true_iff.mp h5 with e | e
        · simpa using e
        · have : z.length = 0 := by simpa using e
          exact absurd (List.length_eq_zero_iff.mp this) h3
      subst e1
      refine ⟨.str (sOf z), H, I, ⟨t, rfl⟩, ?_⟩
      have e2 : (List.replicate (1 : Int).toNat z).flatten = z := by simp
      rw [e2] at q
      exact q
    · rw [if_neg h5]
      have e5 : (⟨(List.replicate n.toNat (sOf z).cps).foldl (· ++ ·) #[]⟩ : Str) = sOf (List.replicate n.toNat z).flatten := by
        refine TL.ext_tl ?_
        show ((List.replicate n.toNat (sOf z).cps).foldl (· ++ ·) #[]).toList = (sOf _).cps.toList
        rw [cat_rep, sOf_list, sOf_list]
        simp
      rw [e5]
      refine ⟨?_, .str (sOf (List.replicate n.toNat z).flatten), H, I.tok _, ⟨s.toks, rfl⟩, q⟩
      rw [sOf_len]
      refine szl ?_
      simp only [List.length_flatten, List.map_replicate, List.sum_replicate_nat]
      rw [Nat.mul_comm]
      exact h4
end
end Mx


/-! Mx, part 3b: the operations are those of the model. -/
namespace Mx
open PySem PySem.Spec PyProof.Rows L2
section
variable {X : Cx} {cl : Nat → Option Addr}
theorem valsRep : ∀ {n : Nat} {vs : List V} {us : List Value}, Vals vs us → Vals (List.replicate n vs).flatten (List.replicate n us).flatten
  | 0, _, _, _ => .nil
  | n + 1, _, _, r => by
    rw [List.replicate_succ, List.replicate_succ, List.flatten_cons, List.flatten_cons]
    exact r.append (valsRep r)
theorem op_repL : OpR X (binaryOp .Mult) (fun x y H Q => ∃ l k xs, x = .ref l ∧ y = .int k ∧ SqL X.K H l xs ∧ 0 ≤ k ∧ k ≤ SZ ∧ xs.length * k.toNat ≤ SZ ∧ ∀ p, H p = none → Q (.ref p) (upd H p (.lst (List.replicate k.toNat xs).flatten))) := by
  intro pins s σ H x y v u Q I rx ry h
  obtain ⟨l, k, xs, rfl, rfl, hH, h1, h2, hz, q⟩ := h
  cases rx
  obtain ⟨t, rfl⟩ := ry
  obtain ⟨its, r1, p1, _⟩ := I.list hH
  obtain ⟨⟨c1, d1, t1, s1⟩, n1, ho1, hc1, hd1, ht1⟩ := id p1
  simp only at hc1 hd1 ht1
  subst hc1 hd1 ht1
  have l1 := r1.length
  have hk : (k : Int) ≤ 16777216 := h2
  have hz' : its.toArray.size * k.toNat ≤ 2 ^ 24 := by rw [List.size_toArray, ← l1]; exact hz
  refine wpAny_binaryOp_repeat_ref (T := "list") (U := "int") (by decide) ⟨_, ho1, rfl⟩ (fun s' => typeIs_int s' k t) noFill_list_mul F.fills_int_mul F.slot_int_rmul repeat_list F.slot_int_index.lookup
    (call_meets F.slot_int_rmul (typeIs_int s k t) F.entry_int_rmul (F.args_int_rmul_2 _ _) (lm_int_rmul_list_any k t l its.toArray n1 none s1)
      ⟨ho1, rfl, ⟨_, ho1, rfl⟩, call_meets F.slot_list_mul ⟨_, ho1, rfl⟩ F.entry_list_mul (F.args_list_mul_2 _ _)
        (lm_list_mul_any l its.toArray n1 none s1 k t (by simp [Builtin.List.listFitsIndex]; omega) (by omega) (by simp [Builtin.List.listTooLong, sizeLine]; omega)) ⟨ho1, ?_⟩⟩)
  rw [listMul_foldl_if]
  exact ⟨.ref _, _, I.lnew (t' := s.toks) (valsRep r1) (by rw [PyProof.Rows.lm_len_rep_flat, Nat.mul_comm]; exact szl hz), rfl, q _ I.fresh⟩
theorem opD_mul : OpR X (binaryOp .Mult) (r2D X.K cl mulD) := by
  intro pins s σ H x y v u Q I rx ry h
  obtain ⟨O, dx, dy, d, live, hx, hy, hf, k⟩ := h
  unfold mulD at hf
  split at hf
  · split at hf
    · rename_i hz
      cases hf
      exact op_mul pins s σ H x y v u Q I rx ry ⟨_, _, hx.int, hy.int, mulOk_c hz, k _ _ (Same.refl H) (.int _)⟩
    · cases hf
  · split at hf
    · rename_i hz
      cases hf
      obtain ⟨h1, h2, h3, h4⟩ := hz
      exact op_repS pins s σ H x y v u Q I rx ry ⟨_, _, hx.str, hy.int, h1, h2, h3, h4, k _ _ (Same.refl H) (.str _)⟩
    · cases hf
  · split at hf
    · rename_i hz
      cases hf
      obtain ⟨h1, h2, h3⟩ := hz
      obtain ⟨a, xs, rfl, ha, ra⟩ := hx.lst
      exact op_repL pins s σ H _ y v u Q I rx ry ⟨a, _, xs, rfl, hy.int, ha, h1, h2, by rw [ra.length]; exact h3, fun p hp => k _ _ (same_new hp) (rep_newL live hp ra.rep)⟩
    · cases hf
  · cases hf
theorem opD_fdiv : OpR X (binaryOp .FloorDiv) (r2D X.K cl fdivD) := by
  intro pins s σ H x y v u Q I rx ry h
  obtain ⟨O, dx, dy, d, live, hx, hy, hf, k⟩ := h
  unfold fdivD at hf
  split at hf
  · split at hf
    · rename_i hz
      cases hf
      exact op_fdiv pins s σ H x y v u Q I rx ry ⟨_, _, hx.int, hy.int, hz, k _ _ (Same.refl H) (.int _)⟩
    · cases hf
  · cases hf
theorem opD_mod : OpR X (binaryOp .Mod) (r2D X.K cl modD) := by
  intro pins s σ H x y v u Q I rx ry h
  obtain ⟨O, dx, dy, d, live, hx, hy, hf, k⟩ := h
  unfold modD at hf
  split at hf
  · split at hf
    · rename_i hz
      cases hf
      exact op_mod pins s σ H x y v u Q I rx ry ⟨_, _, hx.int, hy.int, hz, k _ _ (Same.refl H) (.int _)⟩
    · cases hf
  · cases hf
theorem opD_pow : OpR X (binaryOp .Pow) (r2D X.K cl powD) := by
  intro pins s σ H x y v u Q I rx ry h
  obtain ⟨O, dx, dy, d, live, hx, hy, hf, k⟩ := h
  unfold powD at hf
  split at hf
  · split at hf
    · rename_i hz
      cases hf
      exact op_pow pins s σ H x y v u Q I rx ry ⟨_, _, hx.int, hy.int, ⟨hz.1, hz.2.1, hz.2.2⟩, k _ _ (Same.refl H) (.int _)⟩
    · cases hf
  · cases hf
def opOf : BOp → Operator
  | .add => .Add
  | .sub => .Sub
  | .mul => .Mult
  | .fdiv => .FloorDiv
  | .mod => .Mod
  | .pow => .Pow
theorem opD (o : BOp) : OpR X (binaryOp (opOf o)) (r2D X.K cl (binD o)) := by
  cases o
  · exact opD_add
  · exact opD_sub
  · exact opD_mul
  · exact opD_fdiv
  · exact opD_mod
  · exact opD_pow
/-! ### comparisons -/
section
variable {K : PySem.W.Frag} {O : List Addr} {H : Hp}
mutual
theorem Rep.dp : ∀ {v : V} {d : IV} {p : PyData}, Rep K cl O H v d → d.toP = some p → Dp K H v p
  | _, _, _, .non, e => by cases e; exact .non
  | _, _, _, .bl b, e => by cases e; exact .bl b
  | _, _, _, .int i, e => by cases e; exact .int i
  | _, _, _, .str l, e => by cases e; exact .str _
  | _, _, _, .tupH (ds := ds) h n r, e => by
    unfold IV.toP at e
    split at e
    · rename_i ps hps; cases e; exact .tup (.inl h) (RepAll.dp r hps)
    · cases e
  | _, _, _, .tupK h r, e => by
    unfold IV.toP at e
    split at e
    · rename_i ps hps; cases e; exact .tup (SqT.ofK h) (RepAll.dp r hps)
    · cases e
  | _, _, _, .lstH h n r, e => by
    unfold IV.toP at e
    split at e
    · rename_i ps hps; cases e; exact .lst (.inl h) (RepAll.dp r hps)
    · cases e
  | _, _, _, .lstK h r, e => by
    unfold IV.toP at e
    split at e
    · rename_i ps hps; cases e; exact .lst (SqL.ofK h) (RepAll.dp r hps)
    · cases e
  | _, _, _, .dctH _ _ _ _, e => by cases e
  | _, _, _, .insH _ _ _ _ _, e => by cases e
theorem RepAll.dp : ∀ {vs : List V} {ds : List IV} {ps : List PyData}, RepAll K cl O H vs ds → IV.toPs ds = some ps → DpAll K H vs ps
  | _, _, _, .nil, e => by cases e; exact .nil
  | _, _, _, .cons r t, e => by
    unfold IV.toPs at e
    split at e
    · rename_i p ps hp hps; cases e; exact .cons (Rep.dp r hp) (RepAll.dp t hps)
    · cases e
end
theorem RepX.dp {v : V} {d : IV} {p : PyData} (h : RepX K cl O H v d) (e : d.toP = some p) : Dp K H v p := by
  rcases h with h | ⟨a, rfl, _, w⟩
  · exact h.dp e
  · cases w with
    | lst h r =>
      unfold IV.toP at e
      split at e
      · rename_i ps hps; cases e; exact .lst (SqL.of h) (r.dp hps)
      · cases e
    | ins _ _ _ _ => cases e
end
theorem decI {i j : Int} : decide (V.int i = V.int j) = decide (i = j) := by
  by_cases h : i = j
  · rw [decide_eq_true h, decide_eq_true (by rw [h])]
  · rw [decide_eq_false h, decide_eq_false fun z => h (V.int.inj z)]
theorem decS {a b : List Nat} : decide (V.str (sOf a) = V.str (sOf b)) = decide (a = b) := by
  by_cases h : a = b
  · rw [decide_eq_true h, decide_eq_true (by rw [h])]
  · rw [decide_eq_false h, decide_eq_false fun z => h (sOf_inj (V.str.inj z))]
theorem decB {a b : Bool} : decide (V.bl a = V.bl b) = decide (a = b) := by
  cases a <;> cases b <;> rfl
theorem eq_core {O : List Addr} {H : Hp} {x y : V} {dx dy : IV} {b : Bool} {K : PySem.W.Frag} (hx : RepX K cl O H x dx) (hy : RepX K cl O H y dy) (hf : eqD dx dy = some b) :
    (scal x y = true ∧ decide (x = y) = b) ∨ ∃ d e, Dp K H x d ∧ Dp K H y e ∧ SeqAt.shaped d = true ∧ SeqAt.shaped e = true ∧ PyData.eqv d e = b := by
  unfold eqD at hf
  split at hf
  · cases hf; rw [hx.int, hy.int]; exact .inl ⟨rfl, decI⟩
  · cases hf; rw [hx.str, hy.str]; exact .inl ⟨rfl, decS⟩
  · cases hf; rw [hx.bl, hy.bl]; exact .inl ⟨rfl, decB⟩
  · cases hf; rw [hx.non, hy.non]; exact .inl ⟨rfl, rfl⟩
  · cases hf; rw [hx.non, hy.int]; exact .inl ⟨rfl, decide_eq_false fun z => nomatch z⟩
  · cases hf; rw [hx.int, hy.non]; exact .inl ⟨rfl, decide_eq_false fun z => nomatch z⟩
  · cases hf; rw [hx.non, hy.str]; exact .inl ⟨rfl, decide_eq_false fun z => nomatch z⟩
  · cases hf; rw [hx.str, hy.non]; exact .inl ⟨rfl, decide_eq_false fun z => nomatch z⟩
  · cases hf; rw [hx.int, hy.str]; exact .inl ⟨rfl, decide_eq_false fun z => nomatch z⟩
  · cases hf; rw [hx.str, hy.int]; exact .inl ⟨rfl, decide_eq_false fun z => nomatch z⟩
  · split at hf
    · rename_i p q hp hq
      split at hf
      · rename_i hs
        cases hf
        exact .inr ⟨p, q, hx.dp hp, hy.dp hq, hs.1, hs.2, rfl⟩
      · cases hf
    · cases hf
theorem opD_eq (hu : X.A.units + 64 < cLine) : OpR X (compareOp .Eq) (r2D X.K cl fun x y => (eqD x y).map .bl) := by
  intro pins s σ H x y v u Q I rx ry h
  obtain ⟨O, dx, dy, d, live, hx, hy, hf, k⟩ := h
  obtain ⟨b, hb, rfl⟩ := Option.map_eq_some_iff.mp hf
  have q := k _ _ (Same.refl H) (.bl b)
  rcases eq_core hx hy hb with ⟨h1, h2⟩ | ⟨d, e, h1, h2, h3, h4, h5⟩
  · exact op_eq pins s σ H x y v u Q I rx ry ⟨h1, by rw [h2]; exact q⟩
  · exact op_eqD hu pins s σ H x y v u Q I rx ry ⟨d, e, h1, h2, h3, h4, by rw [h5]; exact q⟩
theorem opD_ne (hu : X.A.units + 64 < cLine) : OpR X (compareOp .NotEq) (r2D X.K cl fun x y => (neD x y).map .bl) := by
  intro pins s σ H x y v u Q I rx ry h
  obtain ⟨O, dx, dy, d, live, hx, hy, hf, k⟩ := h
  obtain ⟨b, hb, rfl⟩ := Option.map_eq_some_iff.mp hf
  have q := k _ _ (Same.refl H) (.bl b)
  unfold neD at hb
  obtain ⟨c, hc, rfl⟩ := Option.map_eq_some_iff.mp hb
  rcases eq_core hx hy hc with ⟨h1, h2⟩ | ⟨d, e, h1, h2, h3, h4, h5⟩
  · exact op_ne pins s σ H x y v u Q I rx ry ⟨h1, by rw [h2]; exact q⟩
  · exact op_neD hu pins s σ H x y v u Q I rx ry ⟨d, e, h1, h2, h3, h4, by rw [h5]; exact q⟩
theorem opD_lt : OpR X (compareOp .Lt) (r2D X.K cl fun x y => (ltD x y).map .bl) := by
  intro pins s σ H x y v u Q I rx ry h
  obtain ⟨O, dx, dy, d, live, hx, hy, hf, k⟩ := h
  obtain ⟨b, hb, rfl⟩ := Option.map_eq_some_iff.mp hf
  unfold ltD at hb
  split at hb
  · cases hb
    exact op_lt pins s σ H x y v u Q I rx ry ⟨_, _, hx.int, hy.int, k _ _ (Same.refl H) (.bl _)⟩
  · cases hb
theorem opD_le : OpR X (compareOp .LtE) (r2D X.K cl fun x y => (leD x y).map .bl) := by
  intro pins s σ H x y v u Q I rx ry h
  obtain ⟨O, dx, dy, d, live, hx, hy, hf, k⟩ := h
  obtain ⟨b, hb, rfl⟩ := Option.map_eq_some_iff.mp hf
  unfold leD at hb
  split at hb
  · cases hb
    exact op_le pins s σ H x y v u Q I rx ry ⟨_, _, hx.int, hy.int, k _ _ (Same.refl H) (.bl _)⟩
  · cases hb
theorem opD_gt : OpR X (compareOp .Gt) (r2D X.K cl fun x y => (gtD x y).map .bl) := by
  intro pins s σ H x y v u Q I rx ry h
  obtain ⟨O, dx, dy, d, live, hx, hy, hf, k⟩ := h
  obtain ⟨b, hb, rfl⟩ := Option.map_eq_some_iff.mp hf
  unfold gtD at hb
  split at hb
  · cases hb
    exact op_gt pins s σ H x y v u Q I rx ry ⟨_, _, hx.int, hy.int, k _ _ (Same.refl H) (.bl _)⟩
  · cases hb
theorem opD_ge : OpR X (compareOp .GtE) (r2D X.K cl fun x y => (geD x y).map .bl) := by
  intro pins s σ H x y v u Q I rx ry h
  obtain ⟨O, dx, dy, d, live, hx, hy, hf, k⟩ := h
  obtain ⟨b, hb, rfl⟩ := Option.map_eq_some_iff.mp hf
  unfold geD at hb
  split at hb
  · cases hb
    exact op_ge pins s σ H x y v u Q I rx ry ⟨_, _, hx.int, hy.int, k _ _ (Same.refl H) (.bl _)⟩
  · cases hb
theorem is_core {O : List Addr} {H : Hp} {x y : V} {dx dy : IV} {b : Bool} {K : PySem.W.Frag} (hx : RepX K cl O H x dx) (hy : RepX K cl O H y dy) (hf : isD dx dy = some b) : y = .non ∧ decide (x = .non) = b := by
  unfold isD at hf
  split at hf
  · cases hf; rw [hx.non, hy.non]; exact ⟨rfl, rfl⟩
  · cases hf
    rename_i h0
    refine ⟨hy.non, decide_eq_false fun e => ?_⟩
    subst e
    rcases hx with h | ⟨_, e, _⟩
    · cases h; exact h0 rfl
    · cases e
  · cases hf
theorem opD_is : OpR X (compareOp .Is) (r2D X.K cl fun x y => (isD x y).map .bl) := by
  intro pins s σ H x y v u Q I rx ry h
  obtain ⟨O, dx, dy, d, live, hx, hy, hf, k⟩ := h
  obtain ⟨b, hb, rfl⟩ := Option.map_eq_some_iff.mp hf
  obtain ⟨h1, h2⟩ := is_core hx hy hb
  exact op_isN pins s σ H x y v u Q I rx ry ⟨h1, by rw [h2]; exact k _ _ (Same.refl H) (.bl b)⟩
theorem opD_isnt : OpR X (compareOp .IsNot) (r2D X.K cl fun x y => (isntD x y).map .bl) := by
  intro pins s σ H x y v u Q I rx ry h
  obtain ⟨O, dx, dy, d, live, hx, hy, hf, k⟩ := h
  obtain ⟨b, hb, rfl⟩ := Option.map_eq_some_iff.mp hf
  unfold isntD at hb
  obtain ⟨c, hc, rfl⟩ := Option.map_eq_some_iff.mp hb
  obtain ⟨h1, h2⟩ := is_core hx hy hc
  exact op_notN pins s σ H x y v u Q I rx ry ⟨h1, by rw [h2]; exact k _ _ (Same.refl H) (.bl _)⟩
section
variable {K : PySem.W.Frag} {O : List Addr} {H : Hp}
theorem Rep.flat {v : V} {d : IV} (h : Rep K cl O H v d) (e : flatD d = true) : flatV v = true := by
  cases h <;> first | rfl | cases e
theorem RepX.repF {v : V} {d : IV} (h : RepX K cl O H v d) (e : flatD d = true) : Rep K cl O H v d := by
  rcases h with h | ⟨_, _, _, w⟩
  · exact h
  · cases w <;> cases e
theorem Rep.eqF {v w : V} {d e : IV} (h : Rep K cl O H v d) (h' : Rep K cl O H w e) (f : flatD d = true) (f' : flatD e = true) : eqV v w = eqF d e := by
  have hs : ∀ a b : List Nat, (sOf a == sOf b) = decide (a = b) := fun a b => by
    by_cases z : a = b
    · subst z; simp
    · rw [decide_eq_false z]
      exact beq_eq_false_iff_ne.mpr fun q => z (sOf_inj q)
  cases h <;> cases h' <;> first | rfl | exact hs _ _ | (cases f; done) | (cases f'; done)
theorem RepAll.anyF {w : V} {e : IV} (h' : Rep K cl O H w e) (f' : flatD e = true) : ∀ {vs : List V} {ds : List IV}, RepAll K cl O H vs ds → ds.all flatD = true → vs.all flatV = true ∧ (vs.any fun y => eqV y w) = (ds.any fun y => Mx.eqF y e)
  | _, _, .nil, _ => ⟨rfl, rfl⟩
  | _, _, .cons r t, f => by
    rw [List.all_cons, Bool.and_eq_true] at f
    obtain ⟨h1, h2⟩ := RepAll.anyF h' f' t f.2
    rw [List.all_cons, List.any_cons, List.any_cons, h1, h2, r.flat f.1, r.eqF h' f.1 f']
    exact ⟨rfl, rfl⟩
end
theorem in_core {O : List Addr} {H : Hp} {x y : V} {dx dy : IV} {b : Bool} {K : PySem.W.Frag} (hx : RepX K cl O H x dx) (hy : RepX K cl O H y dy) (hf : inD dx dy = some b) :
    (∃ (c : Nat) (z : Str), x = .str ⟨#[c]⟩ ∧ y = .str z ∧ decide (c ∈ z.cps.toList) = b) ∨ ∃ p xs, y = .ref p ∧ (SqL K H p xs ∨ SqT K H p xs) ∧ flatV x = true ∧ xs.all flatV = true ∧ inV x xs = b := by
  unfold inD at hf
  split at hf
  · rename_i l
    split at hf
    · rename_i c
      cases hf
      exact .inl ⟨c, sOf l, hx.str, hy.str, by rw [sOf_list]⟩
    · cases hf
  · split at hf
    · rename_i hz
      cases hf
      obtain ⟨a, xs, rfl, ha, ra⟩ := hy.tup
      have rx := hx.repF hz.1
      obtain ⟨h1, h2⟩ := ra.anyF rx hz.1 hz.2
      exact .inr ⟨a, xs, rfl, .inr ha, rx.flat hz.1, h1, h2⟩
    · cases hf
  · split at hf
    · rename_i hz
      cases hf
      obtain ⟨a, xs, rfl, ha, ra⟩ := hy.lst
      have rx := hx.repF hz.1
      obtain ⟨h1, h2⟩ := ra.anyF rx hz.1 hz.2
      exact .inr ⟨a, xs, rfl, .inl ha, rx.flat hz.1, h1, h2⟩
    · cases hf
  · cases hf
theorem opD_in : OpR X (compareOp .In) (r2D X.K cl fun x y => (inD x y).map .bl) := by
  intro pins s σ H x y v u Q I rx ry h
  obtain ⟨O, dx, dy, d, live, hx, hy, hf, k⟩ := h
  obtain ⟨b, hb, rfl⟩ := Option.map_eq_some_iff.mp hf
  have q := k _ _ (Same.refl H) (.bl b)
  rcases in_core hx hy hb with ⟨c, z, h1, h2, h3⟩ | ⟨p, xs, h1, h2, h3, h4, h5⟩
  · exact op_in_sign pins s σ H x y v u Q I rx ry ⟨c, z, h1, h2, by rw [h3]; exact q⟩
  · exact op_in_seq pins s σ H x y v u Q I rx ry ⟨p, xs, h1, h2, h3, h4, by rw [if_neg Bool.false_ne_true, h5]; exact q⟩
theorem opD_nin : OpR X (compareOp .NotIn) (r2D X.K cl fun x y => (ninD x y).map .bl) := by
  intro pins s σ H x y v u Q I rx ry h
  obtain ⟨O, dx, dy, d, live, hx, hy, hf, k⟩ := h
  obtain ⟨b, hb, rfl⟩ := Option.map_eq_some_iff.mp hf
  have q := k _ _ (Same.refl H) (.bl b)
  unfold ninD at hb
  obtain ⟨b, hc, rfl⟩ := Option.map_eq_some_iff.mp hb
  rcases in_core hx hy hc with ⟨c, z, h1, h2, h3⟩ | ⟨p, xs, h1, h2, h3, h4, h5⟩
  · exact op_notIn_sign pins s σ H x y v u Q I rx ry ⟨c, z, h1, h2, by rw [h3]; exact q⟩
  · exact op_notIn_seq pins s σ H x y v u Q I rx ry ⟨p, xs, h1, h2, h3, h4, by rw [if_pos rfl, h5]; exact q⟩
def copOf : COp → CmpOp
  | .eq => .Eq
  | .ne => .NotEq
  | .lt => .Lt
  | .le => .LtE
  | .gt => .Gt
  | .ge => .GtE
  | .isin => .In
  | .notin => .NotIn
  | .is => .Is
  | .isnt => .IsNot
theorem copD (hu : X.A.units + 64 < cLine) (o : COp) : OpR X (compareOp (copOf o)) (r2D X.K cl fun x y => (cmpD o x y).map .bl) := by
  cases o
  · exact opD_eq hu
  · exact opD_ne hu
  · exact opD_lt
  · exact opD_le
  · exact opD_gt
  · exact opD_ge
  · exact opD_in
  · exact opD_nin
  · exact opD_is
  · exact opD_isnt
end
end Mx


/-! Mx, part 3c: subscripts, slices, truth, built-in functions and methods. -/
namespace Mx
open PySem PySem.Spec PyProof.Rows L2
section
variable {X : Cx} {cl : Nat → Option Addr} {K : PySem.W.Frag} {O : List Addr} {H : Hp}
theorem RepAll.atI {vs : List V} {ds : List IV} {i : Int} {d : IV} (r : RepAll K cl O H vs ds) (h : L2.atI ds i = some d) : ∃ v, L2.atI vs i = some v ∧ Rep K cl O H v d := by
  unfold L2.atI at h ⊢
  rw [r.length]
  cases e : ixN ds.length i with
  | none => rw [e] at h; cases h
  | some j =>
    rw [e] at h
    exact r.get h
theorem ixD_ok : IxR X (r2D X.K cl ixD) := by
  intro value slice pins s σ H x y v u Q I rx ry h hs
  obtain ⟨O, dx, dy, d, live, hx, hy, hf, k⟩ := h
  unfold ixD at hf
  split at hf
  · split at hf
    · rename_i l i hz
      obtain ⟨c, hc, rfl⟩ := Option.map_eq_some_iff.mp hf
      exact ix_str value slice pins s σ H x y v u Q I rx ry ⟨sOf l, i, c, hx.str, hy.int, szl (by rw [sOf_len]; exact hz), by rw [sOf_list]; exact hc, k _ _ (Same.refl H) (.str [c])⟩ hs
    · cases hf
  · obtain ⟨a, xs, rfl, ha, ra⟩ := hx.lst
    obtain ⟨w, hw, rw'⟩ := ra.atI hf
    exact ix_list value slice pins s σ H _ y v u Q I rx ry ⟨a, xs, _, w, rfl, hy.int, ha, hw, k _ _ (Same.refl H) rw'⟩ hs
  · obtain ⟨a, xs, rfl, ha, ra⟩ := hx.tup
    obtain ⟨w, hw, rw'⟩ := ra.atI hf
    exact ix_tup value slice pins s σ H _ y v u Q I rx ry ⟨a, xs, _, w, rfl, hy.int, ha, hw, k _ _ (Same.refl H) rw'⟩ hs
  · cases hf
theorem RepAll.cut {vs : List V} {ds : List IV} (r : RepAll K cl O H vs ds) (lo hi : Option Int) : RepAll K cl O H (cutV vs lo hi) (cutL ds lo hi) := by
  unfold cutV cutL
  rw [r.length]
  exact (r.drop _).take _
theorem cutS_eq (l : List Nat) (lo hi : Option Int) : cutS (sOf l) lo hi = sOf (cutL l lo hi) := by
  unfold cutS cutL
  rw [sOf_list, sOf_len]
  rfl
def rSlD (K : PySem.W.Frag) (cl : Nat → Option Addr) : V → Option Int → Option Int → Hp → VK → Prop := fun x lo hi H Q =>
  ∃ O dx d, (∀ a ∈ O, H a ≠ none) ∧ RepX K cl O H x dx ∧ slD dx lo hi = some d ∧ ∀ v H', Same H H' → Rep K cl O H' v d → Q v H'
theorem slD_ok : L2.SlR X (rSlD X.K cl) := by
  intro pins s σ H x v vl vu lo hi sl Q I rx hs pl pu h
  obtain ⟨O, dx, d, live, hx, hf, k⟩ := h
  unfold slD at hf
  split at hf
  · split at hf
    · rename_i hz
      cases hf
      refine sl_str pins s σ H x v vl vu _ _ sl Q I rx hs pl pu ⟨_, hx.str, szl (by rw [sOf_len]; exact hz), ?_⟩
      rw [cutS_eq]
      exact k _ _ (Same.refl H) (.str _)
    · cases hf
  · cases hf
    obtain ⟨a, xs, rfl, ha, ra⟩ := hx.lst
    exact sl_list pins s σ H _ v vl vu _ _ sl Q I rx hs pl pu ⟨a, xs, rfl, ha, fun p hp => k _ _ (same_new hp) (rep_newL live hp (ra.cut _ _))⟩
  · cases hf
    have hx' := hx.tupR
    obtain ⟨a, xs, rfl, ha, ra⟩ := hx.tup
    refine sl_tupA pins s σ H _ v vl vu _ _ sl Q I rx hs pl pu ⟨a, xs, rfl, ha, fun e => ?_, fun _ p hp => k _ _ (same_new hp) (rep_newT live hp (ra.cut _ _))⟩
    rename_i ds
    have ec : cutL ds lo hi = ds := by
      unfold cutL
      rw [← ra.length, e.1, e.2]
      simp [ra.length]
    rw [ec] at k
    exact k _ _ (Same.refl H) hx'
  · cases hf
theorem truD_ok {x : V} {d : IV} {b : Bool} (hx : RepX K cl O H x d) (h : truD d = some b) : TruV K x H b := by
  unfold truD at h
  split at h
  · cases h; rw [hx.bl]; exact rfl
  · cases h; rw [hx.non]; exact rfl
  · cases h; rw [hx.int]; exact rfl
  · split at h
    · rename_i l hz
      cases h
      rw [hx.str]
      refine ⟨szl (by rw [sOf_len]; exact hz), ?_⟩
      rw [sOf_len]
      cases l with
      | nil => rfl
      | cons a r =>
        show true = ((((a :: r).length : Nat) : Int) != 0)
        rw [List.length_cons]
        exact (bne_iff_ne.mpr (by omega)).symm
    · cases h
  · cases h
    obtain ⟨a, xs, rfl, ha, ra⟩ := hx.lst
    refine .inl ⟨xs, ha, ?_⟩
    cases ra <;> rfl
  · cases h
    obtain ⟨a, xs, rfl, ha, ra⟩ := hx.tup
    refine .inr (.inl ⟨xs, ha, ?_⟩)
    cases ra <;> rfl
  · cases h
/-! ### built-in functions -/
def RepXs (K : PySem.W.Frag) (cl : Nat → Option Addr) (O : List Addr) (H : Hp) : List V → List IV → Prop
  | [], [] => True
  | v :: vs, d :: ds => RepX K cl O H v d ∧ RepXs K cl O H vs ds
  | _, _ => False
theorem RepXs.one {vs : List V} {d : IV} (h : RepXs K cl O H vs [d]) : ∃ v, vs = [v] ∧ RepX K cl O H v d := by
  match vs, h with
  | [v], h => exact ⟨v, rfl, h.1⟩
theorem RepXs.nil {vs : List V} (h : RepXs K cl O H vs []) : vs = [] := by
  match vs, h with
  | [], _ => rfl
def rND (K : PySem.W.Frag) (cl : Nat → Option Addr) (f : List IV → Option IV) : List V → Hp → VK → Prop := fun vs H Q =>
  ∃ O ds d, (∀ a ∈ O, H a ≠ none) ∧ RepXs K cl O H vs ds ∧ f ds = some d ∧ ∀ v H', Same H H' → Rep K cl O H' v d → Q v H'
theorem fn_len : CallR X (.builtin "len") (rND X.K cl (fnD .len)) := by
  intro pins s σ H xs us Q I r h
  obtain ⟨O, ds, d, live, hx, hf, k⟩ := h
  unfold fnD at hf
  split at hf <;> first | (rename_i q; cases q; done) | skip
  · split at hf
    · rename_i l _ hz
      cases hf
      obtain ⟨v, rfl, hv⟩ := hx.one
      refine call_len pins s σ H _ us Q I r ⟨v, l.length, rfl, ?_, k _ _ (Same.refl H) (.int _)⟩
      rw [hv.str]
      exact ⟨szl (by rw [sOf_len]; exact hz), (sOf_len l).symm⟩
    · cases hf
  · cases hf
    obtain ⟨v, rfl, hv⟩ := hx.one
    obtain ⟨a, xs, rfl, ha, ra⟩ := hv.lst
    exact call_len pins s σ H _ us Q I r ⟨_, _, rfl, .inl ⟨xs, ha, ra.length.symm⟩, k _ _ (Same.refl H) (.int _)⟩
  · cases hf
    obtain ⟨v, rfl, hv⟩ := hx.one
    obtain ⟨a, xs, rfl, ha, ra⟩ := hv.tup
    exact call_len pins s σ H _ us Q I r ⟨_, _, rfl, .inr ⟨xs, ha, ra.length.symm⟩, k _ _ (Same.refl H) (.int _)⟩
  · cases hf
theorem fn_int : CallR X (.type "int") (rND X.K cl (fnD .int)) := by
  intro pins s σ H xs us Q I r h
  obtain ⟨O, ds, d, live, hx, hf, k⟩ := h
  unfold fnD at hf
  split at hf <;> first | (rename_i q; cases q; done) | skip
  · cases hf
    obtain ⟨v, rfl, hv⟩ := hx.one
    exact call_int1 pins s σ H _ us Q I r (.inl ⟨_, by rw [hv.int], k _ _ (Same.refl H) (.int _)⟩)
  · cases hf
    obtain ⟨v, rfl, hv⟩ := hx.one
    exact call_int1 pins s σ H _ us Q I r (.inr ⟨_, by rw [hv.bl], k _ _ (Same.refl H) (.int _)⟩)
  · cases hf
theorem RepAll.bools : ∀ {vs : List V} {ds : List IV} {bs : List Bool}, RepAll K cl O H vs ds → Mx.bools ds = some bs → vs = bs.map V.bl
  | _, _, _, .nil, e => by cases e; rfl
  | _, _, _, .cons r t, e => by
    unfold Mx.bools at e
    split at e
    · rename_i h; cases h
    · rename_i h
      cases h
      obtain ⟨bs, hb, rfl⟩ := Option.map_eq_some_iff.mp e
      cases r
      rw [List.map_cons, RepAll.bools t hb]
    · cases e
theorem fn_all (hc : X.calm = true) : CallR X (.builtin "all") (rND X.K cl (fnD .all)) := by
  intro pins s σ H xs us Q I r h
  obtain ⟨O, ds, d, live, hx, hf, k⟩ := h
  unfold fnD at hf
  split at hf <;> first | (rename_i q; cases q; done) | skip
  · obtain ⟨bs, hb, rfl⟩ := Option.map_eq_some_iff.mp hf
    obtain ⟨v, rfl, hv⟩ := hx.one
    obtain ⟨a, xs, rfl, ha, ra⟩ := hv.lst
    rw [ra.bools hb] at ha
    exact cr_all hc pins s σ H _ us Q I r ⟨a, bs, rfl, ha, k _ _ (Same.refl H) (.bl _)⟩
  · cases hf
theorem fn_any (hc : X.calm = true) : CallR X (.builtin "any") (rND X.K cl (fnD .any)) := by
  intro pins s σ H xs us Q I r h
  obtain ⟨O, ds, d, live, hx, hf, k⟩ := h
  unfold fnD at hf
  split at hf <;> first | (rename_i q; cases q; done) | skip
  · obtain ⟨bs, hb, rfl⟩ := Option.map_eq_some_iff.mp hf
    obtain ⟨v, rfl, hv⟩ := hx.one
    obtain ⟨a, xs, rfl, ha, ra⟩ := hv.lst
    rw [ra.bools hb] at ha
    exact cr_any hc pins s σ H _ us Q I r ⟨a, bs, rfl, ha, k _ _ (Same.refl H) (.bl _)⟩
  · cases hf
theorem signs_vals : ∀ (l : List Nat) (its : List Value), its.length = l.length → (∀ (j : Nat) (v : Value), its[j]? = some v → ∃ (c : Nat) (u : Tok), l[j]? = some c ∧ v = .str ⟨#[c]⟩ u) → Vals (l.map fun c => V.str ⟨#[c]⟩) its
  | [], [], _, _ => .nil
  | c :: l, v :: its, hl, h => by
    obtain ⟨c', u, e1, e2⟩ := h 0 v rfl
    cases e1
    refine .cons ⟨u, e2⟩ (signs_vals l its (by simpa using hl) fun j w hw => ?_)
    obtain ⟨c', u, e1, e2⟩ := h (j + 1) w (by simpa using hw)
    exact ⟨c', u, by simpa using e1, e2⟩
  | [], _ :: _, hl, _ => by simp at hl
  | _ :: _, [], hl, _ => by simp at hl
theorem fn_list (hc : X.calm = true) : CallR X (.type "list") (rND X.K cl (fnD .list)) := by
  intro pins s σ H xs us Q I r h
  obtain ⟨O, ds, d, live, hx, hf, k⟩ := h
  unfold fnD at hf
  split at hf <;> first | (rename_i q; cases q; done) | skip
  · split at hf
    · rename_i l _ hz
      cases hf
      obtain ⟨v, rfl, hv⟩ := hx.one
      obtain ⟨u, rfl, ru⟩ := vals1 r
      rw [hv.str] at ru
      obtain ⟨t, rfl⟩ := ru
      have hsz : (sOf l).cps.size = l.length := by simp [sOf]
      refine PySem.call_list_str (I.ok.hd hc) (sOf l) t (fun h' tk acc c kp hS hacc => ?_) (by rw [hsz]; exact szl hz)
      have hv2 : Vals (l.map fun c => V.str ⟨#[c]⟩) acc.toList := signs_vals l acc.toList (by rw [Array.length_toList, hacc.1, hsz]) fun j v hj => by
        obtain ⟨c', u', h1, h2⟩ := hacc.2 j v (by simpa using hj)
        exact ⟨c', u', by simpa [sOf] using h1, h2⟩
      have new : ObjOk X.prog X.w (upd H s.heap.objs.size (.lst (l.map fun c => V.str ⟨#[c]⟩))) h' s.heap.objs.size (.lst (l.map fun c => V.str ⟨#[c]⟩)) :=
        ⟨by rw [List.length_map]; exact szl hz, acc.toList, c, hv2, by simpa using hS⟩
      have J : Inv X pins σ (upd H s.heap.objs.size (.lst (l.map fun c => V.str ⟨#[c]⟩))) { s with heap := h', toks := tk } := I.laid kp (Nat.le_refl _) new
      refine ⟨.ref s.heap.objs.size, _, J, rfl, k _ _ (same_new I.fresh) (rep_newL live I.fresh ?_)⟩
      have all : ∀ l : List Nat, RepAll X.K cl O H (l.map fun c => V.str ⟨#[c]⟩) (l.map fun c => IV.str [c]) := fun l => by
        induction l with
        | nil => exact .nil
        | cons c r ih => exact .cons (.str [c]) ih
      exact all l
    · cases hf
  · cases hf
    obtain ⟨v, rfl, hv⟩ := hx.one
    obtain ⟨a, xs, rfl, ha, ra⟩ := hv.lst
    exact call_list_of pins s σ H _ us Q I r ⟨a, xs, rfl, .inl ha, fun p hp => k _ _ (same_new hp) (rep_newL live hp ra)⟩
  · cases hf
    obtain ⟨v, rfl, hv⟩ := hx.one
    obtain ⟨a, xs, rfl, ha, ra⟩ := hv.tup
    exact call_list_of pins s σ H _ us Q I r ⟨a, xs, rfl, .inr ha, fun p hp => k _ _ (same_new hp) (rep_newL live hp ra)⟩
  · cases hf
theorem fn_tuple : CallR X (.type "tuple") (rND X.K cl (fnD .tuple)) := by
  intro pins s σ H xs us Q I r h
  obtain ⟨O, ds, d, live, hx, hf, k⟩ := h
  unfold fnD at hf
  split at hf <;> first | (rename_i q; cases q; done) | skip
  · cases hf
    obtain ⟨v, rfl, hv⟩ := hx.one
    obtain ⟨a, xs, rfl, ha, ra⟩ := hv.lst
    exact call_tuple_of pins s σ H _ us Q I r ⟨a, xs, rfl, .inl ⟨ha, fun p hp => k _ _ (same_new hp) (rep_newT live hp ra)⟩⟩
  · cases hf
    obtain ⟨v, rfl, hv⟩ := hx.one
    have hv' := hv.tupR
    obtain ⟨a, xs, rfl, ha, ra⟩ := hv.tup
    exact call_tuple_of pins s σ H _ us Q I r ⟨a, xs, rfl, .inr ⟨ha, k _ _ (Same.refl H) hv'⟩⟩
  · cases hf
mutual
theorem toP_noDict : ∀ {d : IV} {p : PyData}, d.toP = some p → p.hasDict = false
  | .non, _, e => by cases e; rfl
  | .bl _, _, e => by cases e; rfl
  | .int _, _, e => by cases e; rfl
  | .str _, _, e => by cases e; rfl
  | .tup xs, _, e => by
    unfold IV.toP at e
    split at e
    · rename_i ps hps; cases e; simp only [PyData.hasDict]; exact toPs_noDict hps
    · cases e
  | .lst xs, _, e => by
    unfold IV.toP at e
    split at e
    · rename_i ps hps; cases e; simp only [PyData.hasDict]; exact toPs_noDict hps
    · cases e
  | .dct _, _, e => by cases e
  | .ins _ _, _, e => by cases e
theorem toPs_noDict : ∀ {ds : List IV} {ps : List PyData}, IV.toPs ds = some ps → PyData.hasDictAll ps = false
  | [], _, e => by cases e; rfl
  | x :: xs, _, e => by
    unfold IV.toPs at e
    split at e
    · rename_i p ps hp hps
      cases e
      simp only [PyData.hasDictAll, toP_noDict hp, toPs_noDict hps, Bool.or_false]
    · cases e
end
theorem fn_repr (hg : X.A.guards = some []) (hu : X.A.units + 64 < cLine) : CallR X (.builtin "repr") (rND X.K cl (fnD .repr)) := by
  intro pins s σ H xs us Q I r h
  obtain ⟨O, ds, d, live, hx, hf, k⟩ := h
  have core : ∀ {dv : IV} {a : Addr} {w : List Nat}, RepX X.K cl O H (.ref a) dv → reprD dv = some w → Q (.str (sOf w)) H → wpAny (model X.prog X.w) X.A (call (.builtin "repr") [.ref a]) (EP X pins σ Q) X.xe s := fun {dv a w} hv hr q => by
    unfold reprD at hr
    split at hr
    · rename_i p hp
      split at hr
      · rename_i hz
        cases hr
        obtain ⟨as, rd⟩ := Dp.reads I p _ (.ref a) (hv.dp hp) rfl
        refine repr_of_reads' rd hz.1 (fun z => ?_) hg (by have := hz.2.2; omega) (fun _ _ e => e) (fun h' u tk kp => ?_) (szl hz.2.1)
        · rw [toP_noDict hp] at z; cases z
        · refine ⟨.str p.shown, H, I.kept (t' := tk) kp, ⟨u, rfl⟩, ?_⟩
          rw [sOf_of] at q
          exact q
      · cases hr
    · cases hr
  unfold fnD at hf
  split at hf <;> first | (rename_i q; cases q; done) | skip
  · obtain ⟨w, hw, rfl⟩ := Option.map_eq_some_iff.mp hf
    obtain ⟨v, rfl, hv⟩ := hx.one
    obtain ⟨u, rfl, ru⟩ := vals1 r
    obtain ⟨a, xs, rfl, _, _⟩ := id hv.lst
    cases ru
    exact core hv hw (k _ _ (Same.refl H) (.str _))
  · obtain ⟨w, hw, rfl⟩ := Option.map_eq_some_iff.mp hf
    obtain ⟨v, rfl, hv⟩ := hx.one
    obtain ⟨u, rfl, ru⟩ := vals1 r
    obtain ⟨a, xs, rfl, _, _⟩ := id hv.tup
    cases ru
    exact core hv hw (k _ _ (Same.refl H) (.str _))
  · cases hf
end
end Mx


/-! Mx, part 3d: isinstance, methods of texts. -/
namespace Mx
open PySem PySem.Spec PyProof.Rows L2
section
variable {X : Cx} {cl : Nat → Option Addr} {K : PySem.W.Frag} {O : List Addr} {H : Hp}
theorem Rd.tyL {a : Addr} {vs : List V} (h : Rd H a (.lst vs)) : TyX K H (.ref a) (.type "list") := by
  rcases h with h | ⟨o, h⟩
  · exact .base (.lst h)
  · exact .base (.frz h)
theorem SqL.ty {a : Addr} {vs : List V} (h : SqL K H a vs) : TyX K H (.ref a) (.type "list") := by
  rcases h with h | ⟨o, its, n, h1, h2, _⟩
  · exact Rd.tyL h
  · exact .kList h1 h2
theorem SqT.ty {a : Addr} {vs : List V} (h : SqT K H a vs) : TyX K H (.ref a) (.type "tuple") := by
  rcases h with (h | ⟨o, h⟩) | ⟨o, its, n, h1, h2, _⟩
  · exact .base (.tup h)
  · exact .fTuple h
  · exact .kTuple h1 h2
theorem RepX.tyD {v : V} {kvs : List (Key × IV)} (h : RepX K cl O H v (.dct kvs)) : TyX K H v (.type "dict") := by
  rcases h with h | ⟨_, _, _, w⟩
  · cases h with
    | dctH h n e r =>
      rcases h with h | ⟨o, h⟩
      · exact .base (.dK h)
      · exact .fDict h
  · cases w
theorem isi_kit {x : V} {d : IV} {t : String} {b : Bool} (hx : RepX K cl O H x d) (hf : isiD d t = some b) : ∃ ty, TyX K H x ty ∧ PySem.W.kitOne K ty (.type t) = some b := by
  have hl : ∀ {ds}, RepX K cl O H x (.lst ds) → TyX K H x (.type "list") := fun h => by
    obtain ⟨a, vs, rfl, ha, _⟩ := h.lst
    exact SqL.ty ha
  have ht : ∀ {ds}, RepX K cl O H x (.tup ds) → TyX K H x (.type "tuple") := fun h => by
    obtain ⟨a, vs, rfl, ha, _⟩ := h.tup
    exact SqT.ty ha
  have hn : RepX K cl O H x .non → TyX K H x (.type "NoneType") := fun h => by rw [h.non]; exact .base .non
  have hb : ∀ {b}, RepX K cl O H x (.bl b) → TyX K H x (.type "bool") := fun h => by rw [h.bl]; exact .base (.bl _)
  have hi : ∀ {b}, RepX K cl O H x (.int b) → TyX K H x (.type "int") := fun h => by rw [h.int]; exact .base (.int _)
  have hs : ∀ {b}, RepX K cl O H x (.str b) → TyX K H x (.type "str") := fun h => by rw [h.str]; exact .base (.str _)
  unfold isiD at hf
  split at hf
  all_goals first | (cases hf; done) | skip
  all_goals cases hf
  all_goals first
    | exact ⟨_, hn hx, kit_ty (by decide +kernel)⟩
    | exact ⟨_, hb hx, kit_ty (by decide +kernel)⟩
    | exact ⟨_, hi hx, kit_ty (by decide +kernel)⟩
    | exact ⟨_, hs hx, kit_ty (by decide +kernel)⟩
    | exact ⟨_, ht hx, kit_ty (by decide +kernel)⟩
    | exact ⟨_, hl hx, kit_ty (by decide +kernel)⟩
    | exact ⟨_, hx.tyD, kit_ty (by decide +kernel)⟩
/-! ### methods -/
def rMD (K : PySem.W.Frag) (cl : Nat → Option Addr) (f : IV → List IV → Option IV) : V → List V → Hp → VK → Prop := fun x xs H Q =>
  ∃ O dx ds d, (∀ a ∈ O, H a ≠ none) ∧ RepX K cl O H x dx ∧ RepXs K cl O H xs ds ∧ f dx ds = some d ∧ ∀ v H', Same H H' → Rep K cl O H' v d → Q v H'
theorem RepAll.texts : ∀ {vs : List V} {ds : List IV} {ts : List (List Nat)}, RepAll K cl O H vs ds → Mx.texts ds = some ts → vs = (ts.map sOf).map V.str
  | _, _, _, .nil, e => by cases e; rfl
  | _, _, _, .cons r t, e => by
    unfold Mx.texts at e
    split at e
    · rename_i h; cases h
    · rename_i h
      cases h
      obtain ⟨bs, hb, rfl⟩ := Option.map_eq_some_iff.mp e
      cases r
      rw [List.map_cons, List.map_cons, RepAll.texts t hb]
    · cases e
theorem join_sOf (s : List Nat) (ts : List (List Nat)) : Txt.join (sOf s) (ts.map sOf) = sOf (TL.joinL s ts) := by
  refine TL.ext_tl ?_
  rw [TL.join_eq, TL.tl_join]
  show TL.joinL (sOf s).cps.toList _ = (sOf _).cps.toList
  rw [sOf_list, sOf_list, List.map_map]
  congr 1
  conv => rhs; rw [← List.map_id ts]
  exact List.map_congr_left fun t _ => sOf_list t
theorem mt_joinD : MtR X "str.join" (rMD X.K cl (mtD .join)) := by
  intro pins s σ H x xs v us Q I rx rs h
  obtain ⟨O, dx, ds, d, live, hx, hxs, hf, k⟩ := h
  unfold mtD at hf
  split at hf <;> first | (rename_i q; cases q; done) | skip
  · split at hf
    · rename_i ts hts
      split at hf
      · rename_i hz
        cases hf
        obtain ⟨w, rfl, hw⟩ := hxs.one
        obtain ⟨a, vs, rfl, ha, ra⟩ := hw.lst
        rw [ra.texts hts] at ha
        refine mt_join pins s σ H x _ v us Q I rx rs ⟨_, a, ts.map sOf, hx.str, rfl, .inl ha, ?_, ?_⟩
        · rw [List.map_map, List.length_map, sOf_len, show (fun x => x.length) ∘ sOf = List.length from funext fun l => sOf_len l]
          exact hz
        · rw [join_sOf]
          exact k _ _ (Same.refl H) (.str _)
      · cases hf
    · cases hf
  · cases hf
theorem mt_splitD : MtR X "str.split" (rMD X.K cl (mtD .split)) := by
  intro pins s σ H x xs v us Q I rx rs h
  obtain ⟨O, dx, ds, d, live, hx, hxs, hf, k⟩ := h
  unfold mtD at hf
  split at hf <;> first | (rename_i q; cases q; done) | skip
  · split at hf
    · rename_i a b _ hz
      cases hf
      obtain ⟨w, rfl, hw⟩ := hxs.one
      have eb : TL.tl (sOf b) ≠ [] := by show (sOf b).cps.toList ≠ []; rw [sOf_list]; exact hz.1
      refine mt_split pins s σ H x _ v us Q I rx rs ⟨sOf a, sOf b, hx.str, by rw [hw.str], ?_, ?_, fun p hp => k _ _ (same_new hp) (rep_newL live hp ?_)⟩
      · rw [sOf_len]
        cases b with
        | nil => exact absurd rfl hz.1
        | cons c r => rfl
      · rw [sOf_len]; exact szl hz.2.2
      · have e : (Txt.split (sOf a) (sOf b)) = (TL.spl b 0 [] a).map sOf := by
          refine TL.map_tl_inj ?_
          rw [TL.split_spl _ _ eb (TL.kind_ok ?_), List.map_map]
          · show TL.spl (sOf b).cps.toList 0 [] (sOf a).cps.toList = _
            rw [sOf_list, sOf_list]
            conv => lhs; rw [← List.map_id (TL.spl b 0 [] a)]
            exact List.map_congr_left fun t _ => (sOf_list t).symm
          · have := hz.2.1
            unfold ascii at this
            rw [List.all_eq_true] at this
            rw [Array.all_eq_true']
            intro c hc
            have q := this c (by simpa [sOf] using hc)
            simp at q ⊢
            omega
        rw [e, List.map_map]
        exact repAll_strs _
    · cases hf
  · cases hf
theorem mt_partD : MtR X "str.partition" (rMD X.K cl (mtD .part)) := by
  intro pins s σ H x xs v us Q I rx rs h
  obtain ⟨O, dx, ds, d, live, hx, hxs, hf, k⟩ := h
  unfold mtD at hf
  split at hf <;> first | (rename_i q; cases q; done) | skip
  · split at hf
    · rename_i a b _ hz
      obtain ⟨w, rfl, hw⟩ := hxs.one
      have eb : TL.tl (sOf b) ≠ [] := by show (sOf b).cps.toList ≠ []; rw [sOf_list]; exact hz.1
      have hp := TL.partition_par (sOf a) (sOf b) eb
      have e1 : TL.tl (sOf a) = a := sOf_list a
      have e2 : TL.tl (sOf b) = b := sOf_list b
      rw [e1, e2] at hp
      refine mt_partition pins s σ H x _ v us Q I rx rs ⟨sOf a, sOf b, hx.str, by rw [hw.str], ?_, ?_, fun p np => k _ _ (same_new np) ?_⟩
      · rw [sOf_len]
        cases b with
        | nil => exact absurd rfl hz.1
        | cons c r => rfl
      · rw [sOf_len]; exact szl hz.2
      · split at hf
        · rename_i y z hyz
          cases hf
          rw [hyz] at hp
          have hp' : Txt.partition (sOf a) (sOf b) = (sOf y, sOf b, sOf z) := hp
          rw [hp']
          exact rep_newT live np (.cons (.str y) (.cons (.str b) (.cons (.str z) .nil)))
        · rename_i hyz
          cases hf
          rw [hyz] at hp
          have hp' : Txt.partition (sOf a) (sOf b) = (sOf a, sOf [], sOf []) := hp
          rw [hp']
          exact rep_newT live np (.cons (.str a) (.cons (.str []) (.cons (.str []) .nil)))
    · cases hf
  · cases hf
theorem mt_upperD : MtR X "str.upper" (rMD X.K cl (mtD .upper)) := by
  intro pins s σ H x xs v us Q I rx rs h
  obtain ⟨O, dx, ds, d, live, hx, hxs, hf, k⟩ := h
  unfold mtD at hf
  split at hf <;> first | (rename_i q; cases q; done) | skip
  · split at hf
    · rename_i a _ hz
      cases hf
      have e := hxs.nil
      subst e
      refine mt_upper pins s σ H x _ v us Q I rx rs ⟨sOf a, hx.str, rfl, by rw [sOf_len]; omega, ?_⟩
      have q := k (.str (sOf (Txt.upper (sOf a)).cps.toList)) H (Same.refl H) (.str _)
      rw [sOf_of] at q
      exact q
    · cases hf
  · cases hf
end
end Mx


/-! Mx, part 4a: when a term of the language is a given text (all of it is looked at by the kernel). -/
namespace Mx
open PySem PySem.Spec PyProof.Rows L2

def notStar : Expr → Bool
  | .Starred _ _ => false
  | _ => true
def notSlice : Expr → Bool
  | .Slice _ _ _ _ => false
  | _ => true
def notComp : Expr → Bool
  | .ListComp _ _ _ _ => false
  | .SetComp _ _ _ _ => false
  | .DictComp _ _ _ _ _ => false
  | _ => true
def noSuper : Expr → Bool
  | .Call (.Name _ _) [] [] _ => false
  | _ => true
def noSet : Expr → Bool
  | .Set _ _ _ => false
  | _ => true
mutual
def IV.beq : IV → IV → Bool
  | .non, .non => true
  | .bl a, .bl b => a == b
  | .int a, .int b => a == b
  | .str a, .str b => a == b
  | .tup a, .tup b => IV.beqs a b
  | .lst a, .lst b => IV.beqs a b
  | _, _ => false
def IV.beqs : List IV → List IV → Bool
  | [], [] => true
  | x :: xs, y :: ys => IV.beq x y && IV.beqs xs ys
  | _, _ => false
end
mutual
theorem IV.beq_eq : ∀ {x y : IV}, IV.beq x y = true → x = y
  | .non, .non, _ => rfl
  | .bl a, .bl b, h => by rw [show a = b from by simpa [IV.beq] using h]
  | .int a, .int b, h => by rw [show a = b from by simpa [IV.beq] using h]
  | .str a, .str b, h => by rw [show a = b from by simpa [IV.beq] using h]
  | .tup a, .tup b, h => by rw [IV.beqs_eq (show IV.beqs a b = true from h)]
  | .lst a, .lst b, h => by rw [IV.beqs_eq (show IV.beqs a b = true from h)]
theorem IV.beqs_eq : ∀ {xs ys : List IV}, IV.beqs xs ys = true → xs = ys
  | [], [], _ => rfl
  | x :: xs, y :: ys, h => by
    have h' : (IV.beq x y && IV.beqs xs ys) = true := h
    rw [Bool.and_eq_true] at h'
    rw [IV.beq_eq h'.1, IV.beqs_eq h'.2]
end
def E.isView : E → Bool
  | .view _ => true
  | _ => false
mutual
/-- no changing object is changed -/
def E.pure : E → Bool
  | .bin _ a b => a.pure && b.pure
  | .neg a => a.pure
  | .cmp _ a b => a.pure && b.pure
  | .chn _ _ a b c => a.pure && b.pure && c.pure
  | .and es => es.pure
  | .or es => es.pure
  | .not a => a.pure
  | .ite c a b => c.pure && a.pure && b.pure
  | .ix a b => a.pure && b.pure
  | .sl a lo hi => a.pure && lo.pure && hi.pure
  | .lst es => es.pure
  | .tup es => es.pure
  | .dct _ es => es.pure
  | .fn _ es => es.pure
  | .isi a _ => a.pure
  | .mt _ a es => a.pure && es.pure
  | .call _ as => as.pure
  | .callK _ as bs _ _ => as.pure && bs.pure
  | .comp _ it c e => it.pure && c.pure && e.pure
  | _ => true
def OE.pure : OE → Bool
  | .no => true
  | .yes e => e.pure
def Es.pure : Es → Bool
  | .nil => true
  | .cons e r => e.pure && r.pure
def As.pure : As → Bool
  | .nil => true
  | .v e r => e.pure && r.pure
  | .m _ _ => false
def It.pure : It → Bool
  | .lst e => e.pure
  | .tup e => e.pure
  | .txt e => e.pure
  | .rng a => a.pure
  | .rng2 a b => a.pure && b.pure
  | .enu e => e.pure
end
mutual
/-- it may be a test -/
def E.tst : E → Bool
  | .and es => es.tst
  | .or es => es.tst
  | .not a => a.tst
  | .ite _ _ _ => false
  | _ => true
def Es.tst : Es → Bool
  | .nil => true
  | .cons e r => e.tst && r.tst
end
def As.kinds : As → List Bool
  | .nil => []
  | .v _ r => false :: r.kinds
  | .m _ r => true :: r.kinds
def As.idx : As → List Nat
  | .nil => []
  | .v _ r => r.idx
  | .m i r => i :: r.idx
def Es.noView : Es → Bool
  | .nil => true
  | .cons e r => !e.isView && r.noView
structure Tab where
  fns : Nat → Option Fn
  glo : List (Str × IV)
  blt : List Str

def visB (sc : Scope) (x : Str) : Bool := match sc.names.lookup x with
  | some .local => true
  | some .cell => true
  | some .free => true
  | _ => false
def locB (sc : Scope) (x : Str) : Bool := match sc.names.lookup x with
  | some .local => true
  | some .cell => true
  | _ => false
def gloB (sc : Scope) (x : Str) : Bool := match sc.names.lookup x with
  | some .globalImplicit => true
  | _ => false
/-- a name of the def, in slot i -/
def slotB (N : List Str) (sc : Scope) (i : Nat) (x : Str) : Bool :=
  decide (N[i]? = some x) && visB sc x && !(x == ("__debug__" : Str)) && !(x == ("__classdict__" : Str))
def storeB (N : List Str) (sc : Scope) (i : Nat) (x : Str) : Bool := decide (N[i]? = some x) && locB sc x
def cstB : Const → IV → Bool
  | .none, .non => true
  | .bool a, .bl b => a == b
  | .int a, .int b => a == b
  | .str s, .str l => decide (s = sOf l)
  | _, _ => false
def keyB : Expr → Key → Bool
  | .Constant (.int a) _ _, .inl b => a == b
  | .Constant (.str a) _ _, .inr b => decide (a = b)
  | _, _ => false
def keysB : List (Option Expr) → List Key → Bool
  | [], [] => true
  | some x :: xs, k :: ks => keyB x k && keysB xs ks
  | _, _ => false
def fnName : BFn → Str
  | .len => "len"
  | .int => "int"
  | .all => "all"
  | .any => "any"
  | .list => "list"
  | .tuple => "tuple"
  | .repr => "repr"
  | .str => "str"
  | .ord => "ord"
  | .min => "min"
  | .max => "max"
def mtName : BMt → Str
  | .join => "join"
  | .split => "split"
  | .part => "partition"
  | .upper => "upper"
  | .strip => "strip"
def fnServed : BFn → Bool
  | .len => true
  | .int => true
  | .all => true
  | .any => true
  | .list => true
  | .tuple => true
  | .repr => true
  | _ => false
def mtAr : BMt → Nat
  | .upper => 0
  | _ => 1
def mtServed : BMt → Bool
  | .join => true
  | .split => true
  | .part => true
  | .upper => true
  | .strip => false
def tgsB (N : List Str) (sc : Scope) : List Nat → List Expr → Bool
  | [], [] => true
  | i :: is, .Name x _ :: xs => storeB N sc i x && tgsB N sc is xs
  | _, _ => false
def tgB (N : List Str) (sc : Scope) : List Nat → Expr → Bool
  | [i], .Name x _ => storeB N sc i x
  | is, .Tuple xs _ _ => tgsB N sc is xs && decide (2 ≤ is.length)
  | _, _ => false
def kwB : List Str → List Keyword → Bool
  | [], [] => true
  | k :: ks, ⟨some a, _, _⟩ :: r => decide (k = a) && kwB ks r
  | _, _ => false
def kwVals : List Keyword → List Expr
  | [] => []
  | ⟨_, v, _⟩ :: r => v :: kwVals r
mutual
def mE (T : Tab) (N : List Str) : E → Scope → Expr → Bool
  | .var i, sc, x => match x with
    | .Name y _ => slotB N sc i y
    | _ => false
  | .view i, sc, x => match x with
    | .Name y _ => slotB N sc i y
    | _ => false
  | .cst d, _, x => match x with
    | .Constant c _ _ => cstB c d
    | _ => false
  | .glo z d, sc, x => match x with
    | .Name y _ => decide (y = z) && gloB sc y && (T.glo.any fun p => decide (p.1 = z) && IV.beq p.2 d) && !(y == ("__debug__" : Str))
    | _ => false
  | .bin o a b, sc, x => match x with
    | .BinOp y p z _ => decide (p = opOf o) && mE T N a sc y && mE T N b sc z && (!a.isView || b.pure)
    | _ => false
  | .neg a, sc, x => match x with
    | .UnaryOp .USub y _ => mE T N a sc y
    | _ => false
  | .cmp o a b, sc, x => match x with
    | .Compare y [p] [z] _ => decide (p = copOf o) && mE T N a sc y && mE T N b sc z && (!a.isView || b.pure) && noSet z
    | _ => false
  | .chn o p a b c, sc, x => match x with
    | .Compare y [q, r] [z, w] _ => decide (q = copOf o) && decide (r = copOf p) && mE T N a sc y && mE T N b sc z && mE T N c sc w && !a.isView && !b.isView && noSet w
    | _ => false
  | .and es, sc, x => match x with
    | .BoolOp .And xs _ => mEs T N es sc xs && es.noView
    | _ => false
  | .or es, sc, x => match x with
    | .BoolOp .Or xs _ => mEs T N es sc xs && es.noView
    | _ => false
  | .not a, sc, x => match x with
    | .UnaryOp .Not y _ => mE T N a sc y
    | _ => false
  | .ite c a b, sc, x => match x with
    | .IfExp y z w _ => mE T N c sc y && c.tst && mE T N a sc z && mE T N b sc w && !a.isView && !b.isView
    | _ => false
  | .ix a b, sc, x => match x with
    | .Subscript y z _ => mE T N a sc y && mE T N b sc z && notSlice z && (!a.isView || b.pure)
    | _ => false
  | .sl a lo hi, sc, x => match x with
    | .Subscript y (.Slice l h none _) _ => mE T N a sc y && mO T N lo sc l && mO T N hi sc h && (!a.isView || (lo.pure && hi.pure))
    | _ => false
  | .lst es, sc, x => match x with
    | .List xs _ => mEs T N es sc xs && es.noView
    | _ => false
  | .tup es, sc, x => match x with
    | .Tuple xs _ _ => mEs T N es sc xs && es.noView
    | _ => false
  | .dct ks es, sc, x => match x with
    | .Dict keys vals _ => keysB keys ks && mEs T N es sc vals && es.noView && decide (ks.length = vals.length) && decide (0 < ks.length) && decide (ks.length ≤ 15) && decide ks.Nodup && es.pure
    | _ => false
  | .fn f es, sc, x => match x with
    | .Call (.Name y _) (z :: zs) [] _ => decide (y = fnName f) && fnServed f && gloB sc y && T.blt.contains y && mEs T N es sc (z :: zs)
    | _ => false
  | .isi a t, sc, x => match x with
    | .Call (.Name y _) [z, .Name w _] [] _ => decide (y = ("isinstance" : Str)) && gloB sc y && T.blt.contains y && mE T N a sc z && notStar z && decide (w = Str.ofString t) && gloB sc w && T.blt.contains w
        && (t == "str" || t == "int" || t == "bool" || t == "tuple")
    | _ => false
  | .mt m a es, sc, x => match x with
    | .Call (.Attribute o y p) xs [] q => decide (y = mtName m) && mtServed m && mE T N a sc o && mEs T N es sc xs && noSuper o && (p.endLine == q.line) && !a.isView && decide (xs.length = mtAr m)
    | _ => false
  | .call f as, sc, x => match x with
    | .Call (.Name y _) xs [] _ => match T.fns f with
      | some fn => decide (y = fn.name) && gloB sc y && mAs T N as sc xs && decide (as.kinds = fn.muts) && decide as.idx.Nodup && decide (fn.ps.length = xs.length) && decide (fn.muts.length = xs.length) && !(y == ("__debug__" : Str))
      | none => false
    | _ => false
  | .callK f as bs ks perm, sc, x => match x with
    | .Call (.Name y _) xs kws _ => match T.fns f with
      | some fn => decide (y = fn.name) && gloB sc y && kwB ks kws && mEs T N as sc xs && mEs T N bs sc (kwVals kws) && as.noView && bs.noView && fn.muts.all (fun b => !b) && decide (fn.muts.length = fn.ps.length)
          && decide ((xs.length, ks, perm) ∈ fn.kws) && decide (perm.length = fn.ps.length) && !(y == ("__debug__" : Str))
      | none => false
    | _ => false
  | .comp tg it c e, sc, x => match x with
    | .ListComp elt [⟨t, iter, ifs, 0⟩] scope _ => mIt T N it sc t iter && noSet iter && blkC N sc scope (tg.filterMap fun i => N[i]?.map fun n => (n, i)) && tgB N scope tg t && mC T N c scope ifs && mE T N e scope elt && !e.isView
        && tg.all (fun i => decide (i < N.length)) && decide tg.Nodup
    | _ => false
def mO (T : Tab) (N : List Str) : OE → Scope → Option Expr → Bool
  | .no, _, x => x.isNone
  | .yes e, sc, x => match x with
    | some y => mE T N e sc y
    | none => false
def mC (T : Tab) (N : List Str) : OE → Scope → List Expr → Bool
  | .no, _, xs => xs.isEmpty
  | .yes e, sc, xs => match xs with
    | [y] => mE T N e sc y && e.tst
    | _ => false
def mEs (T : Tab) (N : List Str) : Es → Scope → List Expr → Bool
  | .nil, _, xs => xs.isEmpty
  | .cons e r, sc, xs => match xs with
    | y :: ys => mE T N e sc y && mEs T N r sc ys && notStar y && (!e.isView || r.pure)
    | [] => false
def mAs (T : Tab) (N : List Str) : As → Scope → List Expr → Bool
  | .nil, _, xs => xs.isEmpty
  | .v e r, sc, xs => match xs with
    | y :: ys => mE T N e sc y && mAs T N r sc ys && notStar y && !e.isView
    | [] => false
  | .m i r, sc, xs => match xs with
    | .Name y _ :: ys => slotB N sc i y && mAs T N r sc ys
    | _ => false
def mIt (T : Tab) (N : List Str) : It → Scope → Expr → Expr → Bool
  | .lst e, sc, _, x => mE T N e sc x && !e.isView
  | .tup e, sc, _, x => mE T N e sc x && !e.isView
  | .txt e, sc, _, x => mE T N e sc x && !e.isView
  | .rng a, sc, _, x => match x with
    | .Call (.Name y _) [z] [] _ => decide (y = ("range" : Str)) && gloB sc y && T.blt.contains y && mE T N a sc z && notStar z && !a.isView
    | _ => false
  | .rng2 a b, sc, _, x => match x with
    | .Call (.Name y _) [z, w] [] _ => decide (y = ("range" : Str)) && gloB sc y && T.blt.contains y && mE T N a sc z && mE T N b sc w && notStar z && notStar w && !a.isView && !b.isView
    | _ => false
  | .enu e, sc, t, x => match t with
    | .Tuple _ _ _ => match x with
      | .Call (.Name y _) [z] [] _ => decide (y = ("enumerate" : Str)) && gloB sc y && T.blt.contains y && mE T N e sc z && notStar z && !e.isView
      | _ => false
    | _ => false
end
/-- name = [.. for ..] on one line -/
def swapB (sc : Scope) (t : Str) (p : Pos) : Expr → Bool
  | .ListComp a g s q => decide (sc.names.lookup t = some .local) && (p.line == (Expr.ListComp a g s q).pos.line) && !(s.names.any fun (n, k) => n == t && (k == .local || k == .cell))
  | _ => false
def mEO (T : Tab) (N : List Str) (e : E) (sc : Scope) (x : Expr) : Bool := mE T N e sc x && match e with
  | .lst _ => true
  | .call f _ => match T.fns f with
    | some fn => fn.own
    | none => false
  | _ => false
def isComp : E → Bool
  | .comp _ _ _ _ => true
  | _ => false
def notTup : Expr → Bool
  | .Tuple _ _ _ => false
  | _ => true
mutual
def mS (T : Tab) (N : List Str) (own : Bool) : S → Scope → Stmt → Bool
  | .asg i e, sc, x => match x with
    | .Assign [.Name y p] v _ => storeB N sc i y && mE T N e sc v && !e.isView && (notComp v || isComp e)
    | _ => false
  | .asgO i e, sc, x => match x with
    | .Assign [.Name y _] v _ => storeB N sc i y && mEO T N e sc v && notComp v
    | _ => false
  | .unp is e, sc, x => match x with
    | .Assign [.Tuple ts j p] v _ => tgB N sc is (.Tuple ts j p) && mE T N e sc v && !e.isView && notTup v
    | _ => false
  | .setI i k v, sc, x => match x with
    | .Assign [.Subscript (.Name y _) z _] w _ => slotB N sc i y && mE T N k sc z && mE T N v sc w && !k.isView && !v.isView && notSlice z && notComp w
    | _ => false
  | .drop e, sc, x => match x with
    | .Expr v _ => mE T N e sc v && notComp v
    | _ => false
  | .ret e, sc, x => match x with
    | .Return (some v) _ => if own = true then mEO T N e sc v else mE T N e sc v && !e.isView
    | _ => false
  | .retN, _, x => match x with
    | .Return none _ => !own
    | _ => false
  | .retO i, sc, x => match x with
    | .Return (some (.Name y _)) _ => own && slotB N sc i y
    | _ => false
  | .ite c a b, sc, x => match x with
    | .If y z w _ => mE T N c sc y && c.tst && mSs T N own a sc z && mSs T N own b sc w
    | _ => false
  | .whl c b, sc, x => match x with
    | .While y z [] _ => mE T N c sc y && c.tst && mSs T N own b sc z
    | _ => false
  | .loop tg it b, sc, x => match x with
    | .For t iter z [] _ => tgB N sc tg t && mIt T N it sc t iter && noSet iter && mSs T N own b sc z
    | _ => false
  | .pass, _, x => match x with
    | .Pass _ => true
    | _ => false
  | .brk, _, x => match x with
    | .Break _ => true
    | _ => false
  | .cnt, _, x => match x with
    | .Continue _ => true
    | _ => false
  | _, _, _ => false
def mSs (T : Tab) (N : List Str) (own : Bool) : Ss → Scope → List Stmt → Bool
  | .nil, _, xs => xs.isEmpty
  | .cons s r, sc, xs => match xs with
    | y :: ys => mS T N own s sc y && mSs T N own r sc ys
    | [] => false
end
end Mx


/-! Mx, part 4b: what a def promises; its call. -/
namespace Mx
open PySem PySem.Spec PyProof.Rows L2

/-- an exception of the program: its class, its fields -/
def XRep (K : PySem.W.Frag) (cl : Nat → Option Addr) (O : List Addr) (H : Hp) (c : Value) (dd : Option Addr) (x : Xn) : Prop :=
  ∃ A, cl x.c = some A ∧ c = .ref A ∧ ((x.fs = [] ∧ dd = none) ∨ ∃ d fs, dd = some d ∧ d ∉ O ∧ H d = some (.xd fs) ∧ RepAll K cl O H (fs.map (·.2)) x.fs)
def ArgR (K : PySem.W.Frag) (cl : Nat → Option Addr) (O : List Addr) (H : Hp) : List Bool → List V → List IV → Prop
  | [], [], [] => True
  | false :: ms, v :: vs, d :: ds => Rep K cl O H v d ∧ ArgR K cl O H ms vs ds
  | true :: ms, v :: vs, d :: ds => (∃ a, v = .ref a ∧ a ∈ O ∧ Own K cl O H a d) ∧ ArgR K cl O H ms vs ds
  | _, _, _ => False
def mutA : List Bool → List V → List (Option Addr)
  | true :: ms, .ref a :: vs => some a :: mutA ms vs
  | _ :: ms, _ :: vs => none :: mutA ms vs
  | _, _ => []
/-- the changing objects behind a call -/
def MutR (K : PySem.W.Frag) (cl : Nat → Option Addr) (O : List Addr) (H : Hp) : List Bool → List V → List IV → Prop
  | [], [], [] => True
  | false :: ms, _ :: vs, _ :: ds => MutR K cl O H ms vs ds
  | true :: ms, v :: vs, d :: ds => (∃ a, v = .ref a ∧ Own K cl O H a d) ∧ MutR K cl O H ms vs ds
  | _, _, _ => False
theorem MutR.less {K : PySem.W.Frag} {cl : Nat → Option Addr} {O O' : List Addr} {H : Hp} (k : ∀ a, a ∈ O' → a ∈ O) : ∀ {ms : List Bool} {vs : List V} {ds : List IV}, MutR K cl O H ms vs ds → MutR K cl O' H ms vs ds
  | [], [], [], _ => trivial
  | false :: ms, _ :: vs, _ :: ds, h => MutR.less (ms := ms) (vs := vs) (ds := ds) k h
  | true :: ms, v :: vs, d :: ds, h => by
    obtain ⟨⟨a, e, w⟩, h⟩ := (show (∃ a, v = .ref a ∧ Own K cl O H a d) ∧ MutR K cl O H ms vs ds from h)
    exact ⟨⟨a, e, w.less k⟩, MutR.less (ms := ms) (vs := vs) (ds := ds) k h⟩
def Fram (H H' : Hp) (M : List (Option Addr)) : Prop := ∀ a o, H a = some o → some a ∉ M → H' a = some o
/-- what is wanted behind a call -/
def fEnd (K : PySem.W.Frag) (cl : Nat → Option Addr) (O : List Addr) (H : Hp) (fn : Fn) (vs : List V) (Q : VK) (E : XK) : Option (Except Xn IV × List IV) → Prop
  | none => False
  | some (.ok d, ms) => if fn.own = true then ∀ p H', H p = none → Fram H H' (mutA fn.muts vs) → MutR K cl (p :: O) H' fn.muts vs ms → Own K cl (p :: O) H' p d → Q (.ref p) H'
    else ∀ v H', Fram H H' (mutA fn.muts vs) → MutR K cl O H' fn.muts vs ms → Rep K cl O H' v d → Q v H'
  | some (.error x, ms) => ∀ c dd H', Fram H H' (mutA fn.muts vs) → MutR K cl O H' fn.muts vs ms → XRep K cl O H' c dd x → E c dd H'
/-- a def's promise -/
def spF (cs : CS) (K : PySem.W.Frag) (cl : Nat → Option Addr) (f : Nat) (fn : Fn) : Sp := fun vs H Q E =>
  ∃ O ds, (∀ a ∈ O, H a ≠ none) ∧ vs.length = fn.ps.length ∧ ArgR K cl O H fn.muts vs ds ∧ ((mutA fn.muts vs).filterMap id).Nodup ∧ fEnd K cl O H fn vs Q E (cs f ds)
/-- the def at f keeps a promise, called where no repr is under way -/
structure FnR (P : Program) (w : World) (K : PySem.W.Frag) (mg : Str → Option Value) (base : Heap) (k : Nat) (f : Addr) (fd : FuncData) (ps : List Str) (sp : Sp) : Prop where
  len : ∀ vs H Q E, sp vs H Q E → vs.length = ps.length
  run : ∀ (A : Around) (outer : List Env) (s : Shared) (H : Hp) (args : Args) (us : List Value) (vs : List V) (Q : VK) (E : XK), A.guards = some [] → Room k A → Env0 P w K mg base A outer s H → BindsTo s fd args (ps.zip us) → Vals vs us → sp vs H Q E →
    codeAny (model P w) A (.call (.ref f) args) (CR (L2.CX P w) outer P w H s Q E) s
/-- keywords come to parameters so -/
def KwOk (K : PySem.W.Frag) (fd : FuncData) (ps : List Str) (p : Nat × List Str × List Nat) : Prop :=
  ∀ (s : Shared) (us ws zs : List Value), K.In s.heap → us.length = p.1 → ws.length = p.2.1.length → pick (us ++ ws) p.2.2 = some zs → BindsTo s fd ⟨us, p.2.1.zip ws⟩ (ps.zip zs)
structure Facts (T : Tab) (cs : CS) (k : Nat) (cl : Nat → Option Addr) (P : Program) (w : World) (K : PySem.W.Frag) (mg : Str → Option Value) (base : Heap) : Prop where
  glo : ∀ p ∈ T.glo, ∃ u v, mg p.1 = some u ∧ RelV v u ∧ ∀ O H, Rep K cl O H v p.2
  blt : ∀ x ∈ T.blt, mg x = none
  fns : ∀ f fn, T.fns f = some fn → ∃ a fd, mg fn.name = some (.ref a) ∧ PySem.W.keepIn K (.ref a) = true ∧ Binds K fd fn.ps [] ∧ (∀ p ∈ fn.kws, KwOk K fd fn.ps p) ∧ FnR P w K mg base k a fd fn.ps (spF cs K cl f fn)
section
variable {X : Cx} {W : WX} {k : Nat} {f : Addr} {fd : FuncData} {ps : List Str} {sp : Sp} {x : Str} {p pos : Pos}
def tCallR (sp : Sp) (W : WX) (t : TA) : TE := fun σ H Q => t σ H fun vs H1 => sp vs H1 Q (fun c d H' => W c d σ H')
theorem run_fnR {pins : List (Addr × Obj)} {σ : L2.St} {H : Hp} {s : Shared} {Q : VK} {args : Args} {us : List Value} {vs : List V} (F : FnR X.prog X.w X.K X.mg X.base k f fd ps sp) (hg : X.A.guards = some []) (hr : Room k X.A) (tk : Takes X W)
    (I : Inv X pins σ H s) (hb : BindsTo s fd args (ps.zip us)) (r : Vals vs us) (h : sp vs H Q (fun c d H' => W c d σ H')) : wpAny (model X.prog X.w) X.A (call (.ref f) args.pos args.kw) (EP X pins σ Q) X.xe s := by
  have go := F.run X.A X.stack s H args us vs Q _ hg hr I.env0 hb r h
  refine wpAny_call (codeAny_mono go fun res s' hq => ?_)
  cases res with
  | error e => exact passAt tk σ pins H s e s' I hq
  | ok fl =>
    cases fl with
    | ret u => exact I.after hq
    | next => exact hq.elim
    | brk => exact hq.elim
    | cont => exact hq.elim
theorem star_one {e : Expr} (h : notStar e = true) (es : List Expr) (env : Env) : starEach (e :: es) env = (false, eval e env) :: starEach es env := by
  cases e <;> first | rfl | cases h
theorem star_none : ∀ {es : List Expr} (env : Env) (pos : Pos), (es.all notStar) = true → (backTo pos (starEach es env)).any (·.1) = false
  | [], _, _, _ => rfl
  | e :: es, env, pos, h => by
    rw [List.all_cons, Bool.and_eq_true] at h
    rw [star_one h.1 es env]
    show (false || (backTo pos (starEach es env)).any (·.1)) = false
    rw [star_none env pos h.2]
    rfl
theorem fin_fnR {pins : List (Addr × Obj)} {σ : L2.St} {H : Hp} {s : Shared} {Q : VK} {us : List Value} {vs : List V} (F : FnR X.prog X.w X.K X.mg X.base k f fd ps sp) (hG : X.A.guards = some []) (hr : Room k X.A) (tk : Takes X W) (hb : Binds X.K fd ps [])
    (I : Inv X pins σ H s) (r : Vals vs us) (q : sp vs H Q (fun c d H' => W c d σ H')) : wpAny (model X.prog X.w) X.A (call (.ref f) us) (EP X pins σ Q) X.xe s := by
  have hl : (us ++ []).length = ps.length := by rw [List.append_nil, ← r.length]; exact F.len _ _ _ _ q
  have b := hb s us I.kIn hl
  rw [List.append_nil] at b
  exact run_fnR (args := ⟨us, []⟩) F hG hr tk I b r q
theorem pe_callR {e : Expr} {es : List Expr} {t : TA} (F : FnR X.prog X.w X.K X.mg X.base k f fd ps sp) (hG : X.A.guards = some []) (hr : Room k X.A) (tk : Takes X W) (hg : Gl X x) (hm : X.mg x = some (.ref f)) (hk : PySem.W.keepIn X.K (.ref f) = true) (hb : Binds X.K fd ps [])
    (ha : PA X (e :: es) t) (hs : (e :: es).all notStar = true) (hdb : (x == ("__debug__" : Str)) = false) : PE X (.Call (.Name x p) (e :: es) [] pos) (tCallR sp W t) := by
  refine ⟨fun pins s σ H Q I h => ?_⟩
  refine wpAny_Call_Name_kw (ld_glob I hg hm ?_ hdb)
  rw [List.all_cons, Bool.and_eq_true] at hs
  exact PySem.W.callWith_K (h₀ := X.base) I.ok.mod.kin hk (thn (ha.run pos pins s σ H _ I h) fun us s1 ⟨vs, H1, I1, r, q⟩ => ⟨I1.kIn, fin_fnR F hG hr tk hb I1 r q⟩) (star_one hs.1 es X.env) (star_none X.env pos hs.2)
theorem pe_callR0 (F : FnR X.prog X.w X.K X.mg X.base k f fd ps sp) (hG : X.A.guards = some []) (hr : Room k X.A) (tk : Takes X W) (hg : Gl X x) (hm : X.mg x = some (.ref f)) (hk : PySem.W.keepIn X.K (.ref f) = true) (hb : Binds X.K fd ps [])
    (hdb : (x == ("__debug__" : Str)) = false) : PE X (.Call (.Name x p) [] [] pos) (fun σ H Q => sp [] H Q (fun c d H' => W c d σ H')) := by
  refine ⟨fun pins s σ H Q I h => ?_⟩
  refine wpAny_Call_Name_kw (ld_glob I hg hm ?_ hdb)
  exact PySem.W.callWith_K0 I.kIn hk (fin_fnR (us := []) F hG hr tk hb I .nil h)
theorem pick_vals : ∀ {vs : List V} {us : List Value} {is : List Nat} {zs : List V}, Vals vs us → pick vs is = some zs → ∃ ws, pick us is = some ws ∧ Vals zs ws
  | _, _, [], _, _, e => by cases e; exact ⟨[], rfl, .nil⟩
  | vs, us, i :: is, zs, r, e => by
    unfold pick at e ⊢
    cases h1 : vs[i]? with
    | none => rw [h1] at e; cases e
    | some v =>
      cases h2 : pick vs is with
      | none => rw [h1, h2] at e; cases e
      | some rs =>
        rw [h1, h2] at e
        cases e
        obtain ⟨u, hu, ru⟩ := r.get h1
        obtain ⟨ws, hw, rw'⟩ := pick_vals r h2
        exact ⟨u :: ws, by rw [hu, hw], .cons ru rw'⟩
/-- f(e, .., k = v, ..): n values by place, the others by the names ks; perm: which of them is each parameter's -/
theorem pe_callRK {es : List Expr} {kws : List Keyword} {t tk' : TA} {n : Nat} {ks : List Str} {perm : List Nat} (F : FnR X.prog X.w X.K X.mg X.base k f fd ps sp) (hG : X.A.guards = some []) (hr : Room k X.A) (tk : Takes X W) (hg : Gl X x) (hm : X.mg x = some (.ref f))
    (hk : PySem.W.keepIn X.K (.ref f) = true) (hb : KwOk X.K fd ps (n, ks, perm)) (hn : es.length = n) (ha : PA X es t) (hkw : PK X kws tk') (hs : es.all notStar = true) (hdb : (x == ("__debug__" : Str)) = false)
    (hall : (backToKw pos (keywordEach kws X.env)).all (·.1.isSome) = true) (hks : (backToKw pos (keywordEach kws X.env)).filterMap (·.1) = ks)
    (hno : (backToKw pos (keywordEach kws X.env)).any (·.1.isNone) = false) (hnil : es = [] → t = tNil) :
    PE X (.Call (.Name x p) es kws pos) (fun σ H Q => t σ H fun vs H1 => vs.length = n ∧ tk' σ H1 fun zs H2 => zs.length = ks.length ∧ ∃ rs, pick (vs ++ zs) perm = some rs ∧ sp rs H2 Q (fun c d H' => W c d σ H')) := by
  refine ⟨fun pins s σ H Q I h => ?_⟩
  refine wpAny_Call_Name_kw (ld_glob I hg hm ?_ hdb)
  have fin : ∀ (us ws : List Value) (s2 : Shared) (vs zs : List V) (H2 : Hp), Inv X pins σ H2 s2 → Vals vs us → Vals zs ws → vs.length = n → (zs.length = ks.length ∧ ∃ rs, pick (vs ++ zs) perm = some rs ∧ sp rs H2 Q (fun c d H' => W c d σ H')) →
      wpAny (model X.prog X.w) X.A (call (.ref f) us (ks.zip ws)) (EP X pins σ Q) X.xe s2 := fun us ws s2 vs zs H2 I2 r rz hl q => by
    obtain ⟨hz, rs, hp, q⟩ := q
    obtain ⟨qs, hq, rq⟩ := pick_vals (r.append rz) hp
    exact run_fnR (args := ⟨us, ks.zip ws⟩) F hG hr tk I2 (hb s2 us ws qs I2.kIn (by rw [← r.length]; exact hl) (by rw [← rz.length]; exact hz) hq) rq q
  cases es with
  | nil =>
    have h' := h
    rw [hnil rfl] at h'
    refine PySem.W.callWith_KW0 (h₀ := X.base) I.ok.mod.kin hk hall (thn (hkw.run pos pins s σ H _ I h'.2) fun ws s2 ⟨zs, H2, I2, rz, q2⟩ => ⟨I2.kIn, ?_⟩) hno
    rw [hks]
    exact fin [] ws s2 [] zs H2 I2 .nil rz h'.1 q2
  | cons e es =>
    rw [List.all_cons, Bool.and_eq_true] at hs
    refine PySem.W.callWith_KW (h₀ := X.base) I.ok.mod.kin hk hall (thn (ha.run pos pins s σ H _ I h) fun us s1 ⟨vs, H1, I1, r, hl, q⟩ => ?_) ?_ (star_one hs.1 es X.env)
    · refine thn (hkw.run pos pins s1 σ H1 _ I1 q) fun ws s2 ⟨zs, H2, I2, rz, q2⟩ => ⟨I2.kIn, ?_⟩
      rw [hks]
      exact fin us ws s2 vs zs H2 I2 r rz hl q2
    · have : (backTo pos (starEach (e :: es) X.env)).any (·.1) = false := star_none X.env pos (by rw [List.all_cons, hs.1, hs.2]; rfl)
      rw [this, hno]
      rfl
end
end Mx


/-! Mx, part 4c: what a term of the language computes is what the text does: readings. -/
namespace Mx
open PySem PySem.Spec PyProof.Rows L2

def RlE (C : Ct) (vw : Bool) (O : List Addr) (H : Hp) (v : V) (d : IV) : Prop := RepX C.K C.cl O H v d ∧ (vw = false → Rep C.K C.cl O H v d)
def Post {α β : Type} (C : Ct) (L O : List Addr) (σ : L2.St) (W : WX) (pr : Bool) (Rl : Hp → β → α → Prop) (H : Hp) (r : Out α) (Q : β → Hp → Prop) : Prop := match r with
  | none => False
  | some (.ok a, ρ) => ∀ v H', Keep O H H' → (pr = true → Same H H') → SRel C L O σ ρ H' → Rl H' v a → Q v H'
  | some (.error x, ρ) => ∀ c dd H', Keep O H H' → SRel C L O σ ρ H' → XRep C.K C.cl O H' c dd x → W c dd σ H'
section
variable {α β γ δ : Type} {C : Ct} {L O : List Addr} {σ : L2.St} {W : WX} {pr pr' : Bool} {H H1 : Hp} {ρ : List Sl}
theorem Post.mono {Rl : Hp → β → α → Prop} {r : Out α} {Q : β → Hp → Prop} (k : Keep O H H1) (s : pr = true → Same H H1) (h : Post C L O σ W pr Rl H r Q) : Post C L O σ W pr Rl H1 r Q := by
  match r, h with
  | some (.ok a, ρ), h => exact fun v H' k' s' S q => h v H' (k.trans k') (fun e => (s e).trans (s' e)) S q
  | some (.error x, ρ), h => exact fun c dd H' k' S q => h c dd H' (k.trans k') S q
theorem Post.bind {m : R α} {f : α → R γ} {Rl : Hp → β → α → Prop} {Rl' : Hp → δ → γ → Prop} {Q : δ → Hp → Prop} {Q1 : β → Hp → Prop} (h : Post C L O σ W pr' Rl' H (rBind m f ρ) Q)
    (k : ∀ a ρ1 v H1, Keep O H H1 → (pr = true → Same H H1) → SRel C L O σ ρ1 H1 → Rl H1 v a → Post C L O σ W pr' Rl' H (f a ρ1) Q → Q1 v H1) : Post C L O σ W pr Rl H (m ρ) Q1 := by
  unfold rBind at h
  match hm : m ρ, h with
  | none, h => exact h
  | some (.error x, ρ1), h => exact h
  | some (.ok a, ρ1), h => exact fun v H1 k1 s1 S q => k a ρ1 v H1 k1 s1 S q h
end
/-- the reading of a run -/
def tR {α β : Type} (C : Ct) (W : WX) (pr : Bool) (Rl : List Addr → Hp → β → α → Prop) (m : R α) : L2.St → Hp → (β → Hp → Prop) → Prop := fun σ H Q =>
  ∃ L O ρ, SRel C L O σ ρ H ∧ Post C L O σ W pr (Rl O) H (m ρ) Q
def tE (cs : CS) (C : Ct) (W : WX) (e : E) : TE := tR C W e.pure (RlE C e.isView) (ev cs e).1
def tT (cs : CS) (C : Ct) (W : WX) (e : E) : TT := tR C W e.pure (fun _ _ b a => b = a) (ev cs e).2
def RlEs (C : Ct) (nv : Bool) (O : List Addr) (H : Hp) (vs : List V) (ds : List IV) : Prop := RepXs C.K C.cl O H vs ds ∧ (nv = true → RepAll C.K C.cl O H vs ds)
def tEs (cs : CS) (C : Ct) (W : WX) (es : Es) : TA := tR C W es.pure (RlEs C es.noView) (evEs cs es)
def tO (cs : CS) (C : Ct) (W : WX) (o : OE) : TO := tR C W o.pure (fun _ _ b a => b = a) (evO cs o)

/-- where a term is read -/
structure XOk (T : Tab) (cs : CS) (k : Nat) (C : Ct) (W : WX) (N : List Str) (sc : Scope) (X : Cx) : Prop where
  hN : X.N = N
  nd : N.Nodup
  visx : ∀ x, visB sc x = true → Vis X.env.scope x
  glox : ∀ x, sc.names.lookup x = some .globalImplicit → X.env.scope.names.lookup x = some .globalImplicit
  frex : ∀ x, sc.names.lookup x = some .cell ∨ sc.names.lookup x = some .free → X.env.scope.names.lookup x = some .cell ∨ X.env.scope.names.lookup x = some .free
  calm : X.calm = true
  gd : X.A.guards = some []
  room : Room k X.A
  tk : Takes X W
  po : PassesOwn (model X.prog X.w) X.A X.env X.xe
  CK : C.K = X.K
  facts : Facts T cs k C.cl X.prog X.w X.K X.mg X.base
/-- the names that may be stored to -/
def Sto (N : List Str) (sc : Scope) (X : Cx) : Prop := ∀ i x, storeB N sc i x = true → X.N[i]? = some x ∧ Loc X.env.scope x ∧ (X.fn x = true ∨ X.env.scope.names.lookup x = some .local)
section
variable {T : Tab} {cs : CS} {k : Nat} {C : Ct} {W : WX} {N : List Str} {sc : Scope} {X : Cx}
theorem _root_.L2.PE.imp {e : Expr} {t t' : TE} (h : PE X e t) (hi : ∀ σ H Q, t' σ H Q → t σ H Q) : PE X e t' := ⟨fun pins s σ H Q I q => h.run pins s σ H Q I (hi σ H Q q)⟩
theorem _root_.L2.PT.imp {e : Expr} {t t' : TT} (h : PT X e t) (hi : ∀ σ H Q, t' σ H Q → t σ H Q) : PT X e t' := ⟨fun pins s σ H Q I q => h.run pins s σ H Q I (hi σ H Q q)⟩
theorem _root_.L2.PA.imp {e : List Expr} {t t' : TA} (h : PA X e t) (hi : ∀ σ H Q, t' σ H Q → t σ H Q) : PA X e t' := ⟨fun pos pins s σ H Q I q => h.run pos pins s σ H Q I (hi σ H Q q)⟩
theorem XOk.vis (X' : XOk T cs k C W N sc X) {i : Nat} {x : Str} (h : slotB N sc i x = true) : X.N[i]? = some x ∧ Vis X.env.scope x ∧ (x == ("__debug__" : Str)) = false ∧ (x == ("__classdict__" : Str)) = false := by
  unfold slotB at h
  simp only [Bool.and_eq_true, Bool.not_eq_true', decide_eq_true_eq] at h
  obtain ⟨⟨⟨h1, h2⟩, h3⟩, h4⟩ := h
  exact ⟨by rw [X'.hN]; exact h1, X'.visx x h2, h3, h4⟩
theorem XOk.gl (X' : XOk T cs k C W N sc X) {x : Str} (h : gloB sc x = true) : Gl X x := by
  refine X'.glox x ?_
  unfold gloB at h
  split at h
  · assumption
  · cases h
theorem XOk.bl (X' : XOk T cs k C W N sc X) {x : Str} (h : T.blt.contains x = true) : X.mg x = none := X'.facts.blt x (by simpa using h)
theorem XOk.hu (X' : XOk T cs k C W N sc X) : X.A.units + 64 < cLine := X'.room.units

/-! ### two operands -/
theorem two_ok {a b : E} {pr : Bool} {f : IV → IV → Option IV} (hv : a.isView = true → b.pure = true) (hp : pr = true → a.pure = true ∧ b.pure = true) {σ : L2.St} {H : Hp} {Q : VK}
    (h : tR C W pr (RlE C false) (rBind (ev cs a).1 fun x => rBind (ev cs b).1 fun y => rLift (f x y)) σ H Q) : tOp (r2D C.K C.cl f) (tE cs C W a) (tE cs C W b) σ H Q := by
  obtain ⟨L, O, ρ, S, h⟩ := h
  refine ⟨L, O, ρ, S, h.bind fun x ρ1 v H1 k1 s1 S1 r1 h1 => ?_⟩
  refine ⟨L, O, ρ1, S1, (h1.mono k1 fun e => s1 (hp e).1).bind fun y ρ2 u H2 k2 s2 S2 r2 h2 => ?_⟩
  have rx : RepX C.K C.cl O H2 v x := by
    cases e : a.isView with
    | true => exact r1.1.same (s2 (hv e))
    | false => exact .inl ((r1.2 e).keep k2)
  unfold rLift at h2
  match hf : f x y, h2 with
  | none, h2 => exact h2.elim
  | some d, h2 => exact ⟨O, x, y, d, S2.live, rx, r2.1, hf, fun w H' sm rp => h2 w H' (k2.trans (.same sm)) (fun e => (s2 (hp e).2).trans sm) (S2.same sm) ⟨.inl rp, fun _ => rp⟩⟩
/-- a test that is a value's truth -/
theorem truth_ok {m : R IV} {vw pr : Bool} {t : TE} (ht : t = tR C W pr (RlE C vw) m) {σ : L2.St} {H : Hp} {Q : Bool → Hp → Prop} (h : tR C W pr (fun _ _ b a => b = a) (rBind m fun d => rLift (truD d)) σ H Q) :
    t σ H fun x H' => ∃ b, TruV C.K x H' b ∧ Q b H' := by
  subst ht
  obtain ⟨L, O, ρ, S, h⟩ := h
  refine ⟨L, O, ρ, S, h.bind fun x ρ1 v H1 k1 s1 S1 r1 h1 => ?_⟩
  unfold rLift at h1
  match hf : truD x, h1 with
  | none, h1 => exact h1.elim
  | some b, h1 => exact ⟨b, truD_ok r1.1 hf, h1 b H1 k1 s1 S1 rfl⟩
theorem bool_ok {m : R IV} {vw pr : Bool} {t : TE} (ht : t = tR C W pr (RlE C vw) m) (hb : ∀ ρ d ρ1, m ρ = some (.ok d, ρ1) → ∃ b, d = .bl b) {σ : L2.St} {H : Hp} {Q : Bool → Hp → Prop} (h : tR C W pr (fun _ _ b a => b = a) (rBind m fun d => rLift (truD d)) σ H Q) :
    t σ H fun x H' => ∃ b, x = .bl b ∧ Q b H' := by
  subst ht
  obtain ⟨L, O, ρ, S, h⟩ := h
  refine ⟨L, O, ρ, S, ?_⟩
  unfold rBind at h
  match hm : m ρ, h with
  | none, h => exact h
  | some (.error x, ρ1), h => exact h
  | some (.ok d, ρ1), h =>
    intro v H1 k1 s1 S1 r1
    obtain ⟨b, rfl⟩ := hb ρ d ρ1 hm
    exact ⟨b, r1.1.bl, h b H1 k1 s1 S1 rfl⟩
end
end Mx


/-! Mx, part 4d: the cases. -/
namespace Mx
open PySem PySem.Spec PyProof.Rows L2
section
variable {T : Tab} {cs : CS} {k : Nat} {C : Ct} {W : WX} {N : List Str} {sc : Scope} {X : Cx}
theorem Post.ok {α β : Type} {L O : List Addr} {σ : L2.St} {pr : Bool} {Rl : Hp → β → α → Prop} {H : Hp} {ρ : List Sl} {a : α} {v : β} {Q : β → Hp → Prop} (h : Post C L O σ W pr Rl H (some (.ok a, ρ)) Q) (S : SRel C L O σ ρ H) (r : Rl H v a) : Q v H :=
  h v H (Keep.refl O H) (fun _ => Same.refl H) S r
/-! ### names, constants -/
theorem c_var (X' : XOk T cs k C W N sc X) {i : Nat} {y : Str} {p : Pos} (h : slotB N sc i y = true) : PE X (.Name y p) (tE cs C W (.var i)) := by
  obtain ⟨h1, h2, h3, h4⟩ := X'.vis h
  refine (pe_var h1 h2 h3 h4).imp fun σ H Q ⟨L, O, ρ, S, q⟩ => ?_
  have q : Post C L O σ W true (RlE C false O) H (rVar i ρ) Q := q
  unfold rVar at q
  match hρ : ρ[i]?, q with
  | some (.i d), q =>
    have hi : i < σ.length := by rw [S.len]; exact (List.getElem?_eq_some_iff.mp hρ).1
    have hs : σ[i]? = some σ[i] := List.getElem?_eq_getElem hi
    obtain ⟨v, ev, r⟩ := S.slot i _ _ hs hρ
    exact ⟨v, by rw [hs, ev], q.ok S ⟨.inl r, fun _ => r⟩⟩
theorem c_view (X' : XOk T cs k C W N sc X) {i : Nat} {y : Str} {p : Pos} (h : slotB N sc i y = true) : PE X (.Name y p) (tE cs C W (.view i)) := by
  obtain ⟨h1, h2, h3, h4⟩ := X'.vis h
  refine (pe_var h1 h2 h3 h4).imp fun σ H Q ⟨L, O, ρ, S, q⟩ => ?_
  have q : Post C L O σ W true (RlE C true O) H (rView i ρ) Q := q
  have go : ∀ (r : Sl) (d : IV), ρ[i]? = some r → r.mut = some d → Post C L O σ W true (RlE C true O) H (some (.ok d, ρ)) Q → tVar i σ H Q := fun r d hr hm q => by
    obtain ⟨a, ea, hO, w, _⟩ := S.mutAt hr hm
    exact ⟨_, ea, q.ok S ⟨.inr ⟨a, rfl, hO, w⟩, fun z => nomatch z⟩⟩
  unfold rView at q
  match hρ : ρ[i]?, q with
  | some (.o d), q => exact go _ d hρ rfl q
  | some (.b d), q => exact go _ d hρ rfl q
theorem c_cst {c : Const} {d : IV} {j : Nat} {p : Pos} (h : cstB c d = true) : PE X (.Constant c j p) (tE cs C W (.cst d)) := by
  match c, d, h with
  | .none, .non, _ => exact pe_non.imp fun σ H Q ⟨L, O, ρ, S, q⟩ => Post.ok q S ⟨.inl .non, fun _ => .non⟩
  | .bool a, .bl b, h =>
    have e : a = b := by simpa [cstB] using h
    subst e
    exact pe_bl.imp fun σ H Q ⟨L, O, ρ, S, q⟩ => Post.ok q S ⟨.inl (.bl _), fun _ => .bl _⟩
  | .int a, .int b, h =>
    have e : a = b := by simpa [cstB] using h
    subst e
    exact pe_int.imp fun σ H Q ⟨L, O, ρ, S, q⟩ => Post.ok q S ⟨.inl (.int _), fun _ => .int _⟩
  | .str s, .str l, h =>
    have e : s = sOf l := by simpa [cstB] using h
    subst e
    exact pe_str.imp fun σ H Q ⟨L, O, ρ, S, q⟩ => Post.ok q S ⟨.inl (.str _), fun _ => .str _⟩
theorem c_glo (X' : XOk T cs k C W N sc X) {z y : Str} {d : IV} {p : Pos} (h1 : y = z) (h2 : gloB sc y = true) (h3 : (T.glo.any fun p => decide (p.1 = z) && IV.beq p.2 d) = true) (h4 : (y == ("__debug__" : Str)) = false) : PE X (.Name y p) (tE cs C W (.glo z d)) := by
  subst h1
  rw [List.any_eq_true] at h3
  obtain ⟨⟨x, d'⟩, hp, hq⟩ := h3
  rw [Bool.and_eq_true, decide_eq_true_eq] at hq
  obtain ⟨hx, hd⟩ := hq
  have hd' := IV.beq_eq hd
  subst hd'
  obtain ⟨u, v, hm, r, rep⟩ := X'.facts.glo _ hp
  have hm' : X.mg y = some u := by rw [← hx]; exact hm
  refine (pe_glob (X'.gl h2) hm' r h4).imp fun σ H Q ⟨L, O, ρ, S, q⟩ => ?_
  have rr : Rep C.K C.cl O H v d' := by rw [X'.CK]; exact rep O H
  exact Post.ok q S ⟨.inl rr, fun _ => rr⟩
/-! ### operators -/
theorem c_bin (X' : XOk T cs k C W N sc X) {o : BOp} {a b : E} {y z : Expr} {p : Pos} (hv : a.isView = true → b.pure = true) (ha : PE X y (tE cs C W a)) (hb : PE X z (tE cs C W b)) : PE X (.BinOp y (opOf o) z p) (tE cs C W (.bin o a b)) := by
  refine (pe_op (opD (cl := C.cl) o) ha hb).imp fun σ H Q q => ?_
  rw [← X'.CK]
  exact two_ok hv (fun e => by simpa [E.pure] using e) q
theorem c_cmp (X' : XOk T cs k C W N sc X) {o : COp} {a b : E} {y z : Expr} {p : Pos} (hv : a.isView = true → b.pure = true) (hz : noSet z = true) (ha : PE X y (tE cs C W a)) (hb : PE X z (tE cs C W b)) : PE X (.Compare y [copOf o] [z] p) (tE cs C W (.cmp o a b)) := by
  have hm : behindInMarks (copOf o) z = false := by cases z <;> first | rfl | cases hz
  refine (pe_cmpR (copD (cl := C.cl) X'.hu o) ha hb hm).imp fun σ H Q q => ?_
  rw [← X'.CK]
  exact two_ok hv (fun e => by simpa [E.pure] using e) q
theorem c_cmpT (X' : XOk T cs k C W N sc X) {o : COp} {a b : E} {y z : Expr} {p : Pos} (hv : a.isView = true → b.pure = true) (hz : noSet z = true) (ha : PE X y (tE cs C W a)) (hb : PE X z (tE cs C W b)) : PT X (.Compare y [copOf o] [z] p) (tT cs C W (.cmp o a b)) := by
  have hm : behindInMarks (copOf o) z = false := by cases z <;> first | rfl | cases hz
  refine (pt_cmpR (copD (cl := C.cl) X'.hu o) ha hb hm).imp fun σ H Q q => ?_
  rw [← X'.CK]
  show tOp _ _ _ σ H fun x H' => ∃ k, x = .bl k ∧ Q k H'
  refine two_ok (pr := (E.cmp o a b).pure) hv (fun e => by simpa [E.pure] using e) ?_
  refine bool_ok rfl (fun ρ d ρ1 hm => ?_) q
  unfold rBind at hm
  split at hm
  · cases hm
  · cases hm
  · dsimp only at hm
    split at hm
    · cases hm
    · cases hm
    · unfold rLift at hm
      split at hm
      · rename_i he
        cases hm
        obtain ⟨c, _, rfl⟩ := Option.map_eq_some_iff.mp he
        exact ⟨c, rfl⟩
      · cases hm
theorem c_neg {a : E} {y : Expr} {p : Pos} (ha : PE X y (tE cs C W a)) : PE X (.UnaryOp .USub y p) (tE cs C W (.neg a)) := by
  refine (pe_un un_neg ha).imp fun σ H Q ⟨L, O, ρ, S, q⟩ => ?_
  refine ⟨L, O, ρ, S, Post.bind q fun x ρ1 v H1 k1 s1 S1 r1 h1 => ?_⟩
  match x, r1, h1 with
  | .int i, r1, h1 => exact ⟨i, r1.1.int, h1 _ H1 k1 s1 S1 ⟨.inl (.int _), fun _ => .int _⟩⟩
theorem bind_okC {α β : Type} {m : R α} {f : α → R β} {ρ ρ2 : List Sl} {b : β} (h : rBind m f ρ = some (.ok b, ρ2)) : ∃ a ρ1, m ρ = some (.ok a, ρ1) ∧ f a ρ1 = some (.ok b, ρ2) := by
  unfold rBind at h
  match hm : m ρ, h with
  | some (.ok a, ρ1), h => exact ⟨a, ρ1, rfl, h⟩
  | some (.error x, ρ1), h => cases h
theorem chn_read {o o' : COp} {a b c : E} (hv : a.isView = false) (hv' : b.isView = false) {σ : L2.St} {H : Hp} {Q : VK} (h : tE cs C W (.chn o o' a b c) σ H Q) :
    tChain (r2D C.K C.cl fun x y => (cmpD o x y).map .bl) (r2D C.K C.cl fun x y => (cmpD o' x y).map .bl) (tE cs C W a) (tE cs C W b) (tE cs C W c) σ H Q := by
  obtain ⟨L, O, ρ, S, q⟩ := h
  have hp : (E.chn o o' a b c).pure = true → a.pure = true ∧ b.pure = true ∧ c.pure = true := fun e => by
    have e' : (a.pure && b.pure && c.pure) = true := e
    simpa [and_assoc] using e'
  refine ⟨L, O, ρ, S, Post.bind q fun x ρ1 v H1 k1 s1 S1 r1 h1 => ?_⟩
  refine ⟨L, O, ρ1, S1, Post.bind (h1.mono k1 fun e => s1 (hp e).1) fun y ρ2 u H2 k2 s2 S2 r2 h2 => ?_⟩
  have h2 := Post.mono k2 (fun e => s2 (hp e).2.1) h2
  unfold rBind rLift at h2
  match hf : cmpD o x y, h2 with
  | none, h2 => exact h2.elim
  | some t, h2 =>
    refine ⟨O, x, y, .bl t, S2.live, .inl ((r1.2 hv).keep k2), r2.1, (show (cmpD o x y).map IV.bl = some (IV.bl t) by rw [hf]; rfl), fun v1 H3 sm rp => ⟨t, by cases rp; rfl, ?_⟩⟩
    cases t with
    | false =>
      rw [if_neg Bool.false_ne_true]
      exact h2 (.bl false) H3 (.same sm) (fun _ => sm) (S2.same sm) ⟨.inl (.bl _), fun _ => .bl _⟩
    | true =>
      rw [if_pos rfl]
      have h2 : Post C L O σ W (E.chn o o' a b c).pure (RlE C false O) H2 ((rBind (ev cs c).1 fun z => rLift ((cmpD o' y z).map .bl)) ρ2) Q := h2
      refine ⟨L, O, ρ2, S2.same sm, Post.bind (h2.mono (.same sm) fun _ => sm) fun z ρ3 v3 H4 k4 s4 S4 r4 h4 => ?_⟩
      have h4 := Post.mono k4 (fun e => s4 (hp e).2.2) h4
      unfold rLift at h4
      match hg : (cmpD o' y z).map IV.bl, h4 with
      | none, h4 => exact h4.elim
      | some d, h4 => exact ⟨O, y, z, d, S4.live, .inl (((r2.2 hv').keep (.same sm)).keep k4), r4.1, hg, fun w H' sm' rp => h4 w H' (.same sm') (fun _ => sm') (S4.same sm') ⟨.inl rp, fun _ => rp⟩⟩
theorem c_chn (X' : XOk T cs k C W N sc X) {o o' : COp} {a b c : E} {y z w : Expr} {p : Pos} (hv : a.isView = false) (hv' : b.isView = false) (hz : noSet w = true) (ha : PE X y (tE cs C W a)) (hb : PE X z (tE cs C W b)) (hc : PE X w (tE cs C W c)) :
    PE X (.Compare y [copOf o, copOf o'] [z, w] p) (tE cs C W (.chn o o' a b c)) := by
  have hm : lastMarks [copOf o, copOf o'] [z, w] = false := by
    show behindInMarks (copOf o') w = false
    cases w <;> first | rfl | cases hz
  refine (pe_chain (copD (cl := C.cl) X'.hu o) (copD (cl := C.cl) X'.hu o') ha hb hc hm).imp fun σ H Q h => ?_
  rw [← X'.CK]
  exact chn_read hv hv' h
theorem c_chnT (X' : XOk T cs k C W N sc X) {o o' : COp} {a b c : E} {y z w : Expr} {p : Pos} (hv : a.isView = false) (hv' : b.isView = false) (hz : noSet w = true) (ha : PE X y (tE cs C W a)) (hb : PE X z (tE cs C W b)) (hc : PE X w (tE cs C W c)) :
    PT X (.Compare y [copOf o, copOf o'] [z, w] p) (tT cs C W (.chn o o' a b c)) := by
  have hm : lastMarks [copOf o, copOf o'] [z, w] = false := by
    show behindInMarks (copOf o') w = false
    cases w <;> first | rfl | cases hz
  refine (pt_chain (copD (cl := C.cl) X'.hu o) (copD (cl := C.cl) X'.hu o') ha hb hc hm).imp fun σ H Q h => ?_
  rw [← X'.CK]
  refine chn_read hv hv' (Q := fun x H' => ∃ k, x = .bl k ∧ Q k H') (bool_ok rfl (fun ρ d ρ1 hm => ?_) h)
  have hm : (rBind (ev cs a).1 fun x => rBind (ev cs b).1 fun y => rBind (rLift (cmpD o x y)) fun t => if t = true then rBind (ev cs c).1 fun z => rLift ((cmpD o' y z).map IV.bl) else rPure (.bl false)) ρ = some (.ok d, ρ1) := hm
  obtain ⟨x, ρ2, _, hm⟩ := bind_okC hm
  obtain ⟨y', ρ3, _, hm⟩ := bind_okC hm
  obtain ⟨t, ρ4, _, hm⟩ := bind_okC hm
  cases t with
  | false => rw [if_neg Bool.false_ne_true] at hm; cases hm; exact ⟨false, rfl⟩
  | true =>
    rw [if_pos rfl] at hm
    obtain ⟨z', ρ5, _, hm⟩ := bind_okC hm
    unfold rLift at hm
    cases hg : cmpD o' y' z' with
    | none => rw [hg] at hm; cases hm
    | some b => rw [hg] at hm; cases hm; exact ⟨b, rfl⟩
theorem c_not {a : E} {y : Expr} {p : Pos} (ha : PE X y (tE cs C W a)) : PE X (.UnaryOp .Not y p) (tE cs C W (.not a)) := by
  refine (pe_not ha).imp fun σ H Q ⟨L, O, ρ, S, q⟩ => ?_
  refine ⟨L, O, ρ, S, Post.bind q fun x ρ1 v H1 k1 s1 S1 r1 h1 => ?_⟩
  match x, r1, h1 with
  | .bl b, r1, h1 => exact ⟨b, r1.1.bl, h1 _ H1 k1 s1 S1 ⟨.inl (.bl _), fun _ => .bl _⟩⟩
theorem c_notT {a : E} {y : Expr} {p : Pos} (ha : PT X y (tT cs C W a)) : PT X (.UnaryOp .Not y p) (tT cs C W (.not a)) := by
  refine (pt_not ha).imp fun σ H Q ⟨L, O, ρ, S, q⟩ => ?_
  refine ⟨L, O, ρ, S, Post.bind q fun b ρ1 v H1 k1 s1 S1 r1 h1 => ?_⟩
  cases r1
  exact h1 _ H1 k1 s1 S1 rfl
theorem c_ite {c a b : E} {y z w : Expr} {p : Pos} (hv : a.isView = false) (hv' : b.isView = false) (hc : PT X y (tT cs C W c)) (ha : PE X z (tE cs C W a)) (hb : PE X w (tE cs C W b)) : PE X (.IfExp y z w p) (tE cs C W (.ite c a b)) := by
  refine (pe_ifExp hc ha hb).imp fun σ H Q ⟨L, O, ρ, S, q⟩ => ?_
  have hp : (E.ite c a b).pure = true → c.pure = true ∧ a.pure = true ∧ b.pure = true := fun e => by
    have e' : (c.pure && a.pure && b.pure) = true := e
    simpa [and_assoc] using e'
  have q : Post C L O σ W (E.ite c a b).pure (RlE C false O) H ((rBind (ev cs c).2 fun t => if t = true then (ev cs a).1 else (ev cs b).1) ρ) Q := q
  refine ⟨L, O, ρ, S, Post.bind q fun t ρ1 v H1 k1 s1 S1 r1 h1 => ?_⟩
  cases r1
  have h1 := Post.mono k1 (fun e => s1 (hp e).1) h1
  have fin : ∀ (e : E), e.isView = false → ((E.ite c a b).pure = true → e.pure = true) → Post C L O σ W (E.ite c a b).pure (RlE C false O) H1 ((ev cs e).1 ρ1) Q → tE cs C W e σ H1 Q := fun e hv hp h => by
    refine ⟨L, O, ρ1, S1, ?_⟩
    rw [hv]
    match hr : (ev cs e).1 ρ1, h with
    | some (.ok d, ρ2), h => exact fun v H2 k2 s2 S2 r2 => h v H2 k2 (fun z => s2 (hp z)) S2 r2
    | some (.error x, ρ2), h => exact h
  cases t with
  | true => rw [if_pos rfl]; exact fin a hv (fun e => (hp e).2.1) h1
  | false => rw [if_neg Bool.false_ne_true]; exact fin b hv' (fun e => (hp e).2.2) h1
/-! ### subscripts -/
theorem c_ix (X' : XOk T cs k C W N sc X) {a b : E} {y z : Expr} {p : Pos} (hv : a.isView = true → b.pure = true) (hz : notSlice z = true) (ha : PE X y (tE cs C W a)) (hb : PE X z (tE cs C W b)) : PE X (.Subscript y z p) (tE cs C W (.ix a b)) := by
  have hs : PlainIx z := fun o i => by cases z <;> first | rfl | cases hz
  refine (pe_ix (ixD_ok (cl := C.cl)) ha hb hs).imp fun σ H Q q => ?_
  rw [← X'.CK]
  exact two_ok hv (fun e => by simpa [E.pure] using e) q
theorem c_sl (X' : XOk T cs k C W N sc X) {a : E} {lo hi : OE} {y : Expr} {l h : Option Expr} {p p' : Pos} (hv : a.isView = true → lo.pure = true ∧ hi.pure = true) (ha : PE X y (tE cs C W a)) (hl : PO X l (tO cs C W lo)) (hh : PO X h (tO cs C W hi)) :
    PE X (.Subscript y (.Slice l h none p') p) (tE cs C W (.sl a lo hi)) := by
  refine (pe_slice (slD_ok (cl := C.cl)) ha hl hh).imp fun σ H Q ⟨L, O, ρ, S, q⟩ => ?_
  have hp : (E.sl a lo hi).pure = true → a.pure = true ∧ lo.pure = true ∧ hi.pure = true := fun e => by
    have e' : (a.pure && lo.pure && hi.pure) = true := e
    simpa [and_assoc] using e'
  rw [← X'.CK]
  refine ⟨L, O, ρ, S, Post.bind q fun x ρ1 v H1 k1 s1 S1 r1 h1 => ?_⟩
  refine ⟨L, O, ρ1, S1, Post.bind (h1.mono k1 fun e => s1 (hp e).1) fun i ρ2 i' H2 k2 s2 S2 r2 h2 => ?_⟩
  cases r2
  refine ⟨L, O, ρ2, S2, Post.bind (h2.mono k2 fun e => s2 (hp e).2.1) fun j ρ3 j' H3 k3 s3 S3 r3 h3 => ?_⟩
  cases r3
  have h3 := Post.mono k3 (fun e => s3 (hp e).2.2) h3
  have rx : RepX C.K C.cl O H3 v x := by
    cases e : a.isView with
    | true => exact (r1.1.same (s2 (hv e).1)).same (s3 (hv e).2)
    | false => exact .inl (((r1.2 e).keep k2).keep k3)
  unfold rLift at h3
  match hf : slD x i j, h3 with
  | none, h3 => exact h3.elim
  | some d, h3 => exact ⟨O, x, d, S3.live, rx, hf, fun w H' sm rp => h3 w H' (.same sm) (fun _ => sm) (S3.same sm) ⟨.inl rp, fun _ => rp⟩⟩
theorem c_no : PO X none (tO cs C W .no) := ⟨fun pins s σ H Q I ⟨L, O, ρ, S, q⟩ => po_none.run pins s σ H Q I (Post.ok q S rfl)⟩
theorem c_yes {e : E} {y : Expr} (he : PE X y (tE cs C W e)) : PO X (some y) (tO cs C W (.yes e)) := ⟨fun pins s σ H Q I ⟨L, O, ρ, S, q⟩ => by
  refine (po_some he).run pins s σ H Q I ⟨L, O, ρ, S, Post.bind q fun x ρ1 v H1 k1 s1 S1 r1 h1 => ?_⟩
  match x, r1, h1 with
  | .int i, r1, h1 => exact ⟨i, r1.1.int, h1 _ H1 k1 s1 S1 rfl⟩⟩
/-! ### lists of expressions -/
theorem c_nil : PA X [] (tEs cs C W .nil) := pa_nil.imp fun σ H Q ⟨L, O, ρ, S, q⟩ => Post.ok q S ⟨trivial, fun _ => .nil⟩
theorem cons_read {e : E} {r : Es} (hv : e.isView = true → r.pure = true) {σ : L2.St} {H : Hp} {Q : List V → Hp → Prop} (h : tEs cs C W (.cons e r) σ H Q) : tCons (tE cs C W e) (tEs cs C W r) σ H Q := by
  obtain ⟨L, O, ρ, S, q⟩ := h
  have hp : (Es.cons e r).pure = true → e.pure = true ∧ r.pure = true := fun z => by
    have z' : (e.pure && r.pure) = true := z
    simpa using z'
  refine ⟨L, O, ρ, S, Post.bind q fun x ρ1 v H1 k1 s1 S1 r1 h1 => ?_⟩
  refine ⟨L, O, ρ1, S1, Post.bind (h1.mono k1 fun e => s1 (hp e).1) fun xs ρ2 vs H2 k2 s2 S2 r2 h2 => ?_⟩
  have h2 := Post.mono k2 (fun e => s2 (hp e).2) h2
  have rx : RepX C.K C.cl O H2 v x := by
    cases z : e.isView with
    | true => exact r1.1.same (s2 (hv z))
    | false => exact .inl ((r1.2 z).keep k2)
  refine Post.ok h2 S2 ⟨⟨rx, r2.1⟩, fun z => ?_⟩
  have z' : (!e.isView && r.noView) = true := z
  rw [Bool.and_eq_true, Bool.not_eq_true'] at z'
  exact .cons ((r1.2 z'.1).keep k2) (r2.2 z'.2)
theorem c_cons {e : E} {r : Es} {y : Expr} {ys : List Expr} (hv : e.isView = true → r.pure = true) (hs : notStar y = true) (he : PE X y (tE cs C W e)) (hr : PA X ys (tEs cs C W r)) : PA X (y :: ys) (tEs cs C W (.cons e r)) :=
  (pa_cons he hr (star_one hs ys X.env)).imp fun σ H Q h => cons_read hv h
theorem c_lst {es : Es} {xs : List Expr} {p : Pos} (hn : es.noView = true) (h : PA X xs (tEs cs C W es)) : PE X (.List xs p) (tE cs C W (.lst es)) := by
  refine (pe_lst h).imp fun σ H Q ⟨L, O, ρ, S, q⟩ => ?_
  refine ⟨L, O, ρ, S, Post.bind q fun ds ρ1 vs H1 k1 s1 S1 r1 h1 => ?_⟩
  have h1 := Post.mono k1 s1 h1
  have ra := r1.2 hn
  unfold rLift at h1
  by_cases hz : ds.length ≤ SZ
  · rw [if_pos hz] at h1
    refine ⟨szl (by rw [ra.length]; exact hz), fun p hp => ?_⟩
    have rp := rep_newL S1.live hp ra
    exact h1 _ _ (.same (same_new hp)) (fun _ => same_new hp) (S1.same (same_new hp)) ⟨.inl rp, fun _ => rp⟩
  · rw [if_neg hz] at h1
    exact h1.elim
theorem c_tup {es : Es} {xs : List Expr} {p : Pos} {j : Nat} (hn : es.noView = true) (h : PA X xs (tEs cs C W es)) : PE X (.Tuple xs j p) (tE cs C W (.tup es)) := by
  refine (pe_tup h).imp fun σ H Q ⟨L, O, ρ, S, q⟩ => ?_
  refine ⟨L, O, ρ, S, Post.bind q fun ds ρ1 vs H1 k1 s1 S1 r1 h1 => ?_⟩
  have h1 := Post.mono k1 s1 h1
  have ra := r1.2 hn
  unfold rLift at h1
  by_cases hz : ds.length ≤ SZ
  · rw [if_pos hz] at h1
    refine ⟨szl (by rw [ra.length]; exact hz), fun p hp => ?_⟩
    have rp := rep_newT S1.live hp ra
    exact h1 _ _ (.same (same_new hp)) (fun _ => same_new hp) (S1.same (same_new hp)) ⟨.inl rp, fun _ => rp⟩
  · rw [if_neg hz] at h1
    exact h1.elim
end
end Mx


/-! Mx, part 4e: the cases: and, or, built-in functions, methods, calls. -/
namespace Mx
open PySem PySem.Spec PyProof.Rows L2
section
variable {T : Tab} {cs : CS} {k : Nat} {C : Ct} {W : WX} {N : List Str} {sc : Scope} {X : Cx}
def tAndE (cs : CS) (C : Ct) (W : WX) (es : Es) : TE := tR C W es.pure (RlE C false) (evAnd cs es).1
def tAndT (cs : CS) (C : Ct) (W : WX) (es : Es) : TT := tR C W es.pure (fun _ _ b a => b = a) (evAnd cs es).2
def tOrE (cs : CS) (C : Ct) (W : WX) (es : Es) : TE := tR C W es.pure (RlE C false) (evOr cs es).1
def tOrT (cs : CS) (C : Ct) (W : WX) (es : Es) : TT := tR C W es.pure (fun _ _ b a => b = a) (evOr cs es).2
theorem _root_.L2.PW.imp {e : Expr} {t t' : TT} (h : PW X e t) (hi : ∀ σ H Q, t' σ H Q → t σ H Q) : PW X e t' := ⟨fun wh pins s σ H Q I q => h.run wh pins s σ H Q I (hi σ H Q q)⟩
theorem one_pure {e : E} (h : e.pure = true) : (Es.cons e .nil).pure = true := by
  show (e.pure && true) = true
  rw [h]; rfl
theorem c_and1 {e : E} {y : Expr} {p : Pos} (hv : e.isView = false) (he : PE X y (tE cs C W e)) : PE X (.BoolOp .And [y] p) (tAndE cs C W (.cons e .nil)) := by
  refine (pe_one he).imp fun σ H Q ⟨L, O, ρ, S, q⟩ => ⟨L, O, ρ, S, ?_⟩
  rw [hv]
  have hp : (Es.cons e .nil).pure = e.pure := Bool.and_true _
  rw [hp] at q
  exact q
theorem c_or1 {e : E} {y : Expr} {p : Pos} (hv : e.isView = false) (he : PE X y (tE cs C W e)) : PE X (.BoolOp .Or [y] p) (tOrE cs C W (.cons e .nil)) := by
  refine (pe_one he).imp fun σ H Q ⟨L, O, ρ, S, q⟩ => ⟨L, O, ρ, S, ?_⟩
  rw [hv]
  have hp : (Es.cons e .nil).pure = e.pure := Bool.and_true _
  rw [hp] at q
  exact q
theorem c_and1T {e : E} {y : Expr} {p : Pos} (he : PT X y (tT cs C W e)) : PW X (.BoolOp .And [y] p) (tAndT cs C W (.cons e .nil)) := by
  refine (pw_and1 he).imp fun σ H Q ⟨L, O, ρ, S, q⟩ => ⟨L, O, ρ, S, ?_⟩
  have hp : (Es.cons e .nil).pure = e.pure := Bool.and_true _
  rw [hp] at q
  exact q
theorem c_or1T {e : E} {y : Expr} {p : Pos} (he : PT X y (tT cs C W e)) : PW X (.BoolOp .Or [y] p) (tOrT cs C W (.cons e .nil)) := by
  refine (pw_or1 he).imp fun σ H Q ⟨L, O, ρ, S, q⟩ => ⟨L, O, ρ, S, ?_⟩
  have hp : (Es.cons e .nil).pure = e.pure := Bool.and_true _
  rw [hp] at q
  exact q
theorem Post.pr {α β : Type} {L O : List Addr} {σ : L2.St} {pr pr' : Bool} {Rl : Hp → β → α → Prop} {H : Hp} {r : Out α} {Q : β → Hp → Prop} (hp : pr = true → pr' = true) (h : Post C L O σ W pr Rl H r Q) : Post C L O σ W pr' Rl H r Q := by
  match r, h with
  | some (.ok a, ρ), h => exact fun v H' k' s' S q => h v H' k' (fun e => s' (hp e)) S q
  | some (.error x, ρ), h => exact h
theorem c_and {e e' : E} {r : Es} {y z : Expr} {zs : List Expr} {p : Pos} (he : PE X y (tE cs C W e)) (hr : PE X (.BoolOp .And (z :: zs) p) (tAndE cs C W (.cons e' r))) : PE X (.BoolOp .And (y :: z :: zs) p) (tAndE cs C W (.cons e (.cons e' r))) := by
  refine (pe_and he hr).imp fun σ H Q ⟨L, O, ρ, S, q⟩ => ?_
  have hp : (Es.cons e (.cons e' r)).pure = true → e.pure = true ∧ (Es.cons e' r).pure = true := fun z => by
    have z' : (e.pure && (Es.cons e' r).pure) = true := z
    rw [Bool.and_eq_true] at z'
    exact z'
  refine ⟨L, O, ρ, S, Post.bind q fun x ρ1 v H1 k1 s1 S1 r1 h1 => ?_⟩
  match x, r1, h1 with
  | .bl true, r1, h1 => exact ⟨true, r1.1.bl, by rw [if_pos rfl]; exact ⟨L, O, ρ1, S1, (Post.mono k1 (fun e => s1 (hp e).1) h1).pr fun e => (hp e).2⟩⟩
  | .bl false, r1, h1 => exact ⟨false, r1.1.bl, by rw [if_neg Bool.false_ne_true]; exact Post.ok (Post.mono k1 (fun e => s1 (hp e).1) h1) S1 ⟨.inl (.bl _), fun _ => .bl _⟩⟩
theorem c_or {e e' : E} {r : Es} {y z : Expr} {zs : List Expr} {p : Pos} (he : PE X y (tE cs C W e)) (hr : PE X (.BoolOp .Or (z :: zs) p) (tOrE cs C W (.cons e' r))) : PE X (.BoolOp .Or (y :: z :: zs) p) (tOrE cs C W (.cons e (.cons e' r))) := by
  refine (pe_or he hr).imp fun σ H Q ⟨L, O, ρ, S, q⟩ => ?_
  have hp : (Es.cons e (.cons e' r)).pure = true → e.pure = true ∧ (Es.cons e' r).pure = true := fun z => by
    have z' : (e.pure && (Es.cons e' r).pure) = true := z
    rw [Bool.and_eq_true] at z'
    exact z'
  refine ⟨L, O, ρ, S, Post.bind q fun x ρ1 v H1 k1 s1 S1 r1 h1 => ?_⟩
  match x, r1, h1 with
  | .bl false, r1, h1 => exact ⟨false, r1.1.bl, by rw [if_neg Bool.false_ne_true]; exact ⟨L, O, ρ1, S1, (Post.mono k1 (fun e => s1 (hp e).1) h1).pr fun e => (hp e).2⟩⟩
  | .bl true, r1, h1 => exact ⟨true, r1.1.bl, by rw [if_pos rfl]; exact Post.ok (Post.mono k1 (fun e => s1 (hp e).1) h1) S1 ⟨.inl (.bl _), fun _ => .bl _⟩⟩
theorem c_andT {e e' : E} {r : Es} {y z : Expr} {zs : List Expr} {p : Pos} (he : PT X y (tT cs C W e)) (hr : PW X (.BoolOp .And (z :: zs) p) (tAndT cs C W (.cons e' r))) : PW X (.BoolOp .And (y :: z :: zs) p) (tAndT cs C W (.cons e (.cons e' r))) := by
  refine (pw_and he hr).imp fun σ H Q ⟨L, O, ρ, S, q⟩ => ?_
  have hp : (Es.cons e (.cons e' r)).pure = true → e.pure = true ∧ (Es.cons e' r).pure = true := fun z => by
    have z' : (e.pure && (Es.cons e' r).pure) = true := z
    rw [Bool.and_eq_true] at z'
    exact z'
  have q : Post C L O σ W (Es.cons e (.cons e' r)).pure (fun _ b a => b = a) H ((rBind (ev cs e).2 fun t => if t = true then (evAnd cs (.cons e' r)).2 else rPure false) ρ) Q := q
  refine ⟨L, O, ρ, S, Post.bind q fun t ρ1 v H1 k1 s1 S1 r1 h1 => ?_⟩
  cases r1
  cases t with
  | true => rw [if_pos rfl]; exact ⟨L, O, ρ1, S1, (Post.mono k1 (fun e => s1 (hp e).1) h1).pr fun e => (hp e).2⟩
  | false => rw [if_neg Bool.false_ne_true]; exact Post.ok (Post.mono k1 (fun e => s1 (hp e).1) h1) S1 rfl
theorem c_orT {e e' : E} {r : Es} {y z : Expr} {zs : List Expr} {p : Pos} (he : PT X y (tT cs C W e)) (hr : PW X (.BoolOp .Or (z :: zs) p) (tOrT cs C W (.cons e' r))) : PW X (.BoolOp .Or (y :: z :: zs) p) (tOrT cs C W (.cons e (.cons e' r))) := by
  refine (pw_or he hr).imp fun σ H Q ⟨L, O, ρ, S, q⟩ => ?_
  have hp : (Es.cons e (.cons e' r)).pure = true → e.pure = true ∧ (Es.cons e' r).pure = true := fun z => by
    have z' : (e.pure && (Es.cons e' r).pure) = true := z
    rw [Bool.and_eq_true] at z'
    exact z'
  have q : Post C L O σ W (Es.cons e (.cons e' r)).pure (fun _ b a => b = a) H ((rBind (ev cs e).2 fun t => if t = true then rPure true else (evOr cs (.cons e' r)).2) ρ) Q := q
  refine ⟨L, O, ρ, S, Post.bind q fun t ρ1 v H1 k1 s1 S1 r1 h1 => ?_⟩
  cases r1
  cases t with
  | false => rw [if_neg Bool.false_ne_true]; exact ⟨L, O, ρ1, S1, (Post.mono k1 (fun e => s1 (hp e).1) h1).pr fun e => (hp e).2⟩
  | true => rw [if_pos rfl]; exact Post.ok (Post.mono k1 (fun e => s1 (hp e).1) h1) S1 rfl
/-! ### built-in functions -/
theorem fn_read {f : List IV → Option IV} {es : Es} {σ : L2.St} {H : Hp} {Q : VK} (h : tR C W es.pure (RlE C false) (rBind (evEs cs es) fun xs => rLift (f xs)) σ H Q) : tCB (rND C.K C.cl f) (tEs cs C W es) σ H Q := by
  obtain ⟨L, O, ρ, S, q⟩ := h
  refine ⟨L, O, ρ, S, Post.bind q fun ds ρ1 vs H1 k1 s1 S1 r1 h1 => ?_⟩
  have h1 := Post.mono k1 s1 h1
  unfold rLift at h1
  match hf : f ds, h1 with
  | none, h1 => exact h1.elim
  | some d, h1 => exact ⟨O, ds, d, S1.live, r1.1, hf, fun w H' sm rp => h1 w H' (.same sm) (fun _ => sm) (S1.same sm) ⟨.inl rp, fun _ => rp⟩⟩
theorem all_star {es : Es} : ∀ {xs : List Expr} {sc : Scope} {T : Tab} {N : List Str}, mEs T N es sc xs = true → xs.all notStar = true := by
  intro xs
  induction xs generalizing es with
  | nil => intros; rfl
  | cons y ys ih =>
    intro sc T N h
    match es, h with
    | .cons e r, h =>
      unfold mEs at h
      simp only [Bool.and_eq_true] at h
      rw [List.all_cons, h.1.2, ih h.1.1.2]
      rfl
theorem c_fn (X' : XOk T cs k C W N sc X) {f : BFn} {es : Es} {y : Str} {z : Expr} {zs : List Expr} {p q : Pos} (hy : y = fnName f) (hf : fnServed f = true) (hg : gloB sc y = true) (hb : T.blt.contains y = true) (hs : (z :: zs).all notStar = true) (h : PA X (z :: zs) (tEs cs C W es)) :
    PE X (.Call (.Name y p) (z :: zs) [] q) (tE cs C W (.fn f es)) := by
  rw [List.all_cons, Bool.and_eq_true] at hs
  have s1 := star_one hs.1 zs X.env
  have s2 := star_none X.env q hs.2
  have g := X'.gl hg
  have m := X'.bl hb
  subst hy
  have fin : ∀ {t : TE}, PE X (.Call (.Name (fnName f) p) (z :: zs) [] q) (tCB (rND X.K C.cl (fnD f)) (tEs cs C W es)) → PE X (.Call (.Name (fnName f) p) (z :: zs) [] q) (tE cs C W (.fn f es)) := fun {t} hp => hp.imp fun σ H Q h => by
    rw [← X'.CK]
    exact fn_read h
  cases f with
  | len => exact fin (t := tC .non) (pe_callB fn_len g m (by decide +kernel) h (by decide) (by decide) s1 s2)
  | int => exact fin (t := tC .non) (pe_callTy fn_int g m (by decide +kernel) h (by decide) (by decide) s1 s2)
  | all => exact fin (t := tC .non) (pe_callB (fn_all X'.calm) g m (by decide +kernel) h (by decide) (by decide) s1 s2)
  | any => exact fin (t := tC .non) (pe_callB (fn_any X'.calm) g m (by decide +kernel) h (by decide) (by decide) s1 s2)
  | list => exact fin (t := tC .non) (pe_callTy (fn_list X'.calm) g m (by decide +kernel) h (by decide) (by decide) s1 s2)
  | tuple => exact fin (t := tC .non) (pe_callTy fn_tuple g m (by decide +kernel) h (by decide) (by decide) s1 s2)
  | repr => exact fin (t := tC .non) (pe_callB (fn_repr X'.gd X'.hu) g m (by decide +kernel) h (by decide) (by decide) s1 s2)
  | str => cases hf
  | ord => cases hf
  | min => cases hf
  | max => cases hf
theorem c_isi (X' : XOk T cs k C W N sc X) {a : E} {t : String} {y w : Str} {z : Expr} {p p2 q : Pos} (hy : y = ("isinstance" : Str)) (hg : gloB sc y = true) (hb : T.blt.contains y = true) (hz : notStar z = true) (hw : w = Str.ofString t) (hg2 : gloB sc w = true) (hb2 : T.blt.contains w = true)
    (ht : (t == "str" || t == "int" || t == "bool" || t == "tuple") = true) (h : PE X z (tE cs C W a)) : PE X (.Call (.Name y p) [z, .Name w p2] [] q) (tE cs C W (.isi a t)) := by
  have g := X'.gl hg
  have m := X'.bl hb
  have g2 := X'.gl hg2
  have m2 := X'.bl hb2
  subst hy
  have boot : bootBuiltins w = some (.type t) ∧ w ≠ "__name__" ∧ (w == ("__debug__" : Str)) = false := by
    subst hw
    simp only [Bool.or_eq_true, beq_iff_eq] at ht
    rcases ht with ((e | e) | e) | e <;> subst e <;> exact ⟨by decide +kernel, by decide +kernel, by decide +kernel⟩
  have hty : PE X (.Name w p2) (tC (.ty t)) := pe_bltn g2 m2 boot.1 rfl boot.2.1 boot.2.2
  have s2 : starEach [Expr.Name w p2] X.env = [(false, eval (.Name w p2) X.env)] := rfl
  refine (pe_callB call_isi g m (by decide +kernel) (pa_cons h (pa_cons hty pa_nil s2) (star_one hz _ X.env)) (by decide) (by decide) (star_one hz _ X.env) rfl).imp fun σ H Q ⟨L, O, ρ, S, q⟩ => ?_
  rw [← X'.CK]
  refine ⟨L, O, ρ, S, Post.bind q fun d ρ1 v H1 k1 s1 S1 r1 h1 => ?_⟩
  have h1 := Post.mono k1 s1 h1
  unfold rLift at h1
  match hf : isiD d t, h1 with
  | none, h1 => exact h1.elim
  | some b, h1 =>
    obtain ⟨ty, hty, hk⟩ := isi_kit r1.1 hf
    exact ⟨v, .ty t, ty, .type t, b, rfl, .ty t, hty, hk, Post.ok h1 S1 ⟨.inl (.bl _), fun _ => .bl _⟩⟩
/-! ### methods -/
theorem noSuper_ok {o : Expr} {n : Str} {env : Env} (h : noSuper o = true) : attributeBase o n env (eval o env) = eval o env := by
  unfold attributeBase
  split
  · cases h
  · rfl
theorem mt_read {m : BMt} {a : E} {es : Es} {b : E} (ha : a.isView = false) (he : es = .cons b .nil) {σ : L2.St} {H : Hp} {Q : VK} (h : tE cs C W (.mt m a es) σ H Q) : tM1 (rMD C.K C.cl (mtD m)) (tE cs C W a) (tE cs C W b) σ H Q := by
  subst he
  obtain ⟨L, O, ρ, S, q⟩ := h
  have hp : (E.mt m a (.cons b .nil)).pure = true → a.pure = true ∧ b.pure = true := fun e => by
    have e' : (a.pure && (b.pure && true)) = true := e
    simpa using e'
  refine ⟨L, O, ρ, S, Post.bind q fun x ρ1 v H1 k1 s1 S1 r1 h1 => ?_⟩
  have h1 := Post.mono k1 (fun e => s1 (hp e).1) h1
  match x, r1, h1 with
  | .str l, r1, h1 =>
    refine ⟨⟨_, r1.1.str⟩, L, O, ρ1, S1, ?_⟩
    have h1 : Post C L O σ W (E.mt m a (.cons b .nil)).pure (RlE C false O) H1 ((rBind (rBind (ev cs b).1 fun x => rBind (rPure []) fun xs => rPure (x :: xs)) fun xs => rLift (mtD m (.str l) xs)) ρ1) Q := h1
    have e2 : (rBind (rBind (ev cs b).1 fun x => rBind (rPure []) fun xs => rPure (x :: xs)) fun xs => rLift (mtD m (.str l) xs)) ρ1 = (rBind (ev cs b).1 fun x => rLift (mtD m (.str l) [x])) ρ1 := by
      unfold rBind
      match (ev cs b).1 ρ1 with
      | none => rfl
      | some (.error x, ρ2) => rfl
      | some (.ok x, ρ2) => rfl
    rw [e2] at h1
    refine Post.bind h1 fun y ρ2 u H2 k2 s2 S2 r2 h2 => ?_
    have h2 := Post.mono k2 (fun e => s2 (hp e).2) h2
    unfold rLift at h2
    match hf : mtD m (.str l) [y], h2 with
    | none, h2 => exact h2.elim
    | some d, h2 => exact ⟨O, .str l, [y], d, S2.live, .inl ((r1.2 ha).keep k2), ⟨r2.1, trivial⟩, hf, fun w H' sm rp => h2 w H' (.same sm) (fun _ => sm) (S2.same sm) ⟨.inl rp, fun _ => rp⟩⟩
theorem mt_read0 {m : BMt} {a : E} {σ : L2.St} {H : Hp} {Q : VK} (h : tE cs C W (.mt m a .nil) σ H Q) : tM0 (rMD C.K C.cl (mtD m)) (tE cs C W a) σ H Q := by
  obtain ⟨L, O, ρ, S, q⟩ := h
  have hp : (E.mt m a .nil).pure = true → a.pure = true := fun e => by
    have e' : (a.pure && true) = true := e
    simpa using e'
  refine ⟨L, O, ρ, S, Post.bind q fun x ρ1 v H1 k1 s1 S1 r1 h1 => ?_⟩
  have h1 := Post.mono k1 (fun e => s1 (hp e)) h1
  match x, r1, h1 with
  | .str l, r1, h1 =>
    refine ⟨⟨_, r1.1.str⟩, ?_⟩
    have h1 : Post C L O σ W (E.mt m a .nil).pure (RlE C false O) H1 (rLift (mtD m (.str l) []) ρ1) Q := h1
    unfold rLift at h1
    match hf : mtD m (.str l) [], h1 with
    | none, h1 => exact h1.elim
    | some d, h1 => exact ⟨O, .str l, [], d, S1.live, r1.1, trivial, hf, fun w H' sm rp => h1 w H' (.same sm) (fun _ => sm) (S1.same sm) ⟨.inl rp, fun _ => rp⟩⟩
theorem c_mt1 (X' : XOk T cs k C W N sc X) {m : BMt} {a b : E} {o z : Expr} {y : Str} {p q : Pos} (hy : y = mtName m) (hm : mtServed m = true) (hm0 : m ≠ .upper) (ho : noSuper o = true) (hl : (p.endLine == q.line) = true) (hv : a.isView = false) (hs : notStar z = true)
    (ha : PE X o (tE cs C W a)) (hb : PE X z (tE cs C W b)) : PE X (.Call (.Attribute o y p) [z] [] q) (tE cs C W (.mt m a (.cons b .nil))) := by
  subst hy
  have fin : PE X (.Call (.Attribute o (mtName m) p) [z] [] q) (tM1 (rMD X.K C.cl (mtD m)) (tE cs C W a) (tE cs C W b)) → PE X (.Call (.Attribute o (mtName m) p) [z] [] q) (tE cs C W (.mt m a (.cons b .nil))) := fun hp => hp.imp fun σ H Q h => by
    rw [← X'.CK]
    exact mt_read hv rfl h
  cases m with
  | join => exact fin (pe_m1 F.slot_str_join F.type_str_join mt_joinD ha hb (star_one hs [] X.env) (noSuper_ok ho) hl)
  | split => exact fin (pe_m1 F.slot_str_split F.type_str_split mt_splitD ha hb (star_one hs [] X.env) (noSuper_ok ho) hl)
  | part => exact fin (pe_m1 F.slot_str_partition F.type_str_partition mt_partD ha hb (star_one hs [] X.env) (noSuper_ok ho) hl)
  | upper => exact absurd rfl hm0
  | strip => cases hm
theorem c_mt0 (X' : XOk T cs k C W N sc X) {a : E} {o : Expr} {y : Str} {p q : Pos} (hy : y = mtName .upper) (ho : noSuper o = true) (hl : (p.endLine == q.line) = true) (ha : PE X o (tE cs C W a)) : PE X (.Call (.Attribute o y p) [] [] q) (tE cs C W (.mt .upper a .nil)) := by
  subst hy
  refine (pe_m0 (r := rMD X.K C.cl (mtD .upper)) F.slot_str_upper F.type_str_upper mt_upperD ha (noSuper_ok ho) hl).imp fun σ H Q h => ?_
  rw [← X'.CK]
  exact mt_read0 h
end
end Mx


/-! Mx, part 4f: calls of the program's own defs. -/
namespace Mx
open PySem PySem.Spec PyProof.Rows L2
def isR : IV ⊕ Nat → Bool
  | .inl _ => false
  | .inr _ => true
def idxX : List (IV ⊕ Nat) → List Nat
  | [] => []
  | .inl _ :: r => idxX r
  | .inr i :: r => i :: idxX r
theorem idx_mem : ∀ {xs : List (IV ⊕ Nat)} {j : Nat}, j ∈ idxX xs → ∃ t : Nat, xs[t]? = some (.inr j)
  | .inl _ :: r, j, h => by
    obtain ⟨t, e⟩ := idx_mem (xs := r) h
    exact ⟨t + 1, by simpa using e⟩
  | .inr i :: r, j, h => by
    rcases List.mem_cons.mp h with e | e
    · exact ⟨0, by simp [e]⟩
    · obtain ⟨t, e⟩ := idx_mem (xs := r) e
      exact ⟨t + 1, by simpa using e⟩
theorem mem_idx : ∀ {xs : List (IV ⊕ Nat)} {t j : Nat}, xs[t]? = some (.inr j) → j ∈ idxX xs
  | .inl _ :: r, 0, j, h => by simp at h
  | .inl _ :: r, t + 1, j, h => mem_idx (xs := r) (t := t) (by simpa using h)
  | .inr i :: r, 0, j, h => by
    have e : i = j := by simpa using h
    rw [e]; exact List.mem_cons_self
  | .inr i :: r, t + 1, j, h => List.mem_cons_of_mem _ (mem_idx (xs := r) (t := t) (by simpa using h))
section
variable {T : Tab} {cs : CS} {k : Nat} {C : Ct} {W : WX} {N : List Str} {sc : Scope} {X : Cx}
def RlA (C : Ct) (σ : L2.St) (O : List Addr) (H : Hp) : List V → List (IV ⊕ Nat) → Prop
  | [], [] => True
  | v :: vs, .inl d :: xs => Rep C.K C.cl O H v d ∧ RlA C σ O H vs xs
  | v :: vs, .inr i :: xs => σ[i]? = some (some v) ∧ RlA C σ O H vs xs
  | _, _ => False
theorem RlA.keep {σ : L2.St} {O : List Addr} {H H' : Hp} (kp : Keep O H H') : ∀ {vs : List V} {xs : List (IV ⊕ Nat)}, RlA C σ O H vs xs → RlA C σ O H' vs xs
  | [], [], _ => trivial
  | v :: vs, .inl d :: xs, h => ⟨h.1.keep kp, RlA.keep (vs := vs) (xs := xs) kp h.2⟩
  | v :: vs, .inr i :: xs, h => ⟨h.1, RlA.keep (vs := vs) (xs := xs) kp h.2⟩
theorem RlA.length {σ : L2.St} {O : List Addr} {H : Hp} : ∀ {vs : List V} {xs : List (IV ⊕ Nat)}, RlA C σ O H vs xs → vs.length = xs.length
  | [], [], _ => rfl
  | v :: vs, .inl d :: xs, h => by rw [List.length_cons, List.length_cons, RlA.length (vs := vs) (xs := xs) h.2]
  | v :: vs, .inr i :: xs, h => by rw [List.length_cons, List.length_cons, RlA.length (vs := vs) (xs := xs) h.2]
theorem RlA.at {σ : L2.St} {O : List Addr} {H : Hp} : ∀ {vs : List V} {xs : List (IV ⊕ Nat)} {t j : Nat}, RlA C σ O H vs xs → xs[t]? = some (.inr j) → ∃ v, vs[t]? = some v ∧ σ[j]? = some (some v)
  | [], [], t, j, h, e => by simp at e
  | v :: vs, .inl d :: xs, 0, j, h, e => by simp at e
  | v :: vs, .inl d :: xs, t + 1, j, h, e => by
    obtain ⟨u, h1, h2⟩ := RlA.at (vs := vs) (xs := xs) (t := t) h.2 (by simpa using e)
    exact ⟨u, by simpa using h1, h2⟩
  | v :: vs, .inr i :: xs, 0, j, h, e => by
    have e' : i = j := by simpa using e
    subst e'
    exact ⟨v, rfl, h.1⟩
  | v :: vs, .inr i :: xs, t + 1, j, h, e => by
    obtain ⟨u, h1, h2⟩ := RlA.at (vs := vs) (xs := xs) (t := t) h.2 (by simpa using e)
    exact ⟨u, by simpa using h1, h2⟩
def tAs (cs : CS) (C : Ct) (W : WX) (as : As) : TA := fun σ => tR C W as.pure (fun O H => RlA C σ O H) (evAs cs as) σ
theorem c_anil : PA X [] (tAs cs C W .nil) := pa_nil.imp fun σ H Q ⟨L, O, ρ, S, q⟩ => Post.ok q S trivial
theorem c_av {e : E} {r : As} {y : Expr} {ys : List Expr} (hv : e.isView = false) (hs : notStar y = true) (he : PE X y (tE cs C W e)) (hr : PA X ys (tAs cs C W r)) : PA X (y :: ys) (tAs cs C W (.v e r)) := by
  refine (pa_cons he hr (star_one hs ys X.env)).imp fun σ H Q ⟨L, O, ρ, S, q⟩ => ?_
  have hp : (As.v e r).pure = true → e.pure = true ∧ r.pure = true := fun z => by
    have z' : (e.pure && r.pure) = true := z
    simpa using z'
  refine ⟨L, O, ρ, S, Post.bind q fun x ρ1 v H1 k1 s1 S1 r1 h1 => ?_⟩
  refine ⟨L, O, ρ1, S1, Post.bind (h1.mono k1 fun e => s1 (hp e).1) fun xs ρ2 vs H2 k2 s2 S2 r2 h2 => ?_⟩
  have h2 := Post.mono k2 (fun e => s2 (hp e).2) h2
  exact Post.ok h2 S2 ⟨(r1.2 hv).keep k2, r2⟩
theorem c_am (X' : XOk T cs k C W N sc X) {i : Nat} {r : As} {y : Str} {p : Pos} {ys : List Expr} (h : slotB N sc i y = true) (hr : PA X ys (tAs cs C W r)) : PA X (.Name y p :: ys) (tAs cs C W (.m i r)) := by
  obtain ⟨h1, h2, h3, h4⟩ := X'.vis h
  refine (pa_cons (pe_var h1 h2 h3 h4) hr rfl).imp fun σ H Q ⟨L, O, ρ, S, q⟩ => ?_
  have q : Post C L O σ W false (fun H => RlA C σ O H) H ((rBind (rView i) fun _ => rBind (evAs cs r) fun xs => rPure (.inr i :: xs)) ρ) Q := q
  have go : ∀ (s : Sl) (d : IV), ρ[i]? = some s → s.mut = some d → Post C L O σ W false (fun H => RlA C σ O H) H ((rBind (evAs cs r) fun xs => rPure (.inr i :: xs)) ρ) Q → tCons (tVar i) (tAs cs C W r) σ H Q := fun s d hs hm q => by
    obtain ⟨a, ea, _⟩ := S.mutAt hs hm
    refine ⟨_, ea, L, O, ρ, S, Post.bind q fun xs ρ1 vs H1 k1 s1 S1 r1 h1 => ?_⟩
    have h1 := Post.mono (pr := false) k1 (fun e => Bool.noConfusion e) h1
    exact Post.ok h1 S1 ⟨ea, r1⟩
  unfold rBind rView at q
  match hρ : ρ[i]?, q with
  | some (.o d), q => exact go _ d hρ rfl q
  | some (.b d), q => exact go _ d hρ rfl q
/-! ### the arguments' shape -/
theorem bind_ok {α β : Type} {m : R α} {f : α → R β} {ρ ρ' : List Sl} {b : β} (h : rBind m f ρ = some (.ok b, ρ')) : ∃ a ρ1, m ρ = some (.ok a, ρ1) ∧ f a ρ1 = some (.ok b, ρ') := by
  unfold rBind at h
  match hm : m ρ, h with
  | some (.ok a, ρ1), h => exact ⟨a, ρ1, rfl, h⟩
theorem evAs_shape : ∀ (as : As) {ρ ρ' : List Sl} {xs : List (IV ⊕ Nat)}, evAs cs as ρ = some (.ok xs, ρ') → xs.map isR = as.kinds ∧ idxX xs = as.idx
  | .nil, ρ, ρ', xs, h => by
    unfold evAs rPure at h
    cases h
    exact ⟨rfl, rfl⟩
  | .v e r, ρ, ρ', xs, h => by
    unfold evAs at h
    obtain ⟨x, ρ1, _, h⟩ := bind_ok h
    obtain ⟨ys, ρ2, hy, h⟩ := bind_ok h
    unfold rPure at h
    cases h
    obtain ⟨h1, h2⟩ := evAs_shape r hy
    exact ⟨by rw [List.map_cons, h1]; rfl, h2⟩
  | .m i r, ρ, ρ', xs, h => by
    unfold evAs at h
    obtain ⟨_, _, _, h⟩ := bind_ok h
    obtain ⟨ys, ρ2, hy, h⟩ := bind_ok h
    unfold rPure at h
    cases h
    obtain ⟨h1, h2⟩ := evAs_shape r hy
    exact ⟨by rw [List.map_cons, h1]; rfl, by show i :: idxX ys = _; rw [h2]; rfl⟩
theorem argsD_at {ρ : List Sl} : ∀ {xs : List (IV ⊕ Nat)} {ds : List IV} {t j : Nat}, argsD ρ xs = some ds → xs[t]? = some (.inr j) → ∃ r d, ρ[j]? = some r ∧ r.mut = some d ∧ ds[t]? = some d
  | x :: xs, ds, t, j, h, e => by
    unfold argsD at h
    match h1 : argD ρ x, h2 : argsD ρ xs, h with
    | some d, some es, h =>
      cases h
      cases t with
      | zero =>
        have e' : x = .inr j := by simpa using e
        subst e'
        have h1 : ρ[j]?.bind Sl.mut = some d := h1
        match hr : ρ[j]?, h1 with
        | some r, h1 => exact ⟨r, d, rfl, h1, rfl⟩
      | succ t =>
        obtain ⟨r, d', h3, h4, h5⟩ := argsD_at (xs := xs) (t := t) h2 (by simpa using e)
        exact ⟨r, d', h3, h4, by simpa using h5⟩
theorem argR_of {L O : List Addr} {σ : L2.St} {ρ : List Sl} {H : Hp} (S : SRel C L O σ ρ H) : ∀ {xs : List (IV ⊕ Nat)} {ds : List IV} {vs : List V}, argsD ρ xs = some ds → RlA C σ O H vs xs → ArgR C.K C.cl O H (xs.map isR) vs ds
  | [], ds, [], h, _ => by
    unfold argsD at h
    cases h
    trivial
  | x :: xs, ds, v :: vs, h, r => by
    unfold argsD at h
    match h1 : argD ρ x, h2 : argsD ρ xs, h with
    | some d, some es, h =>
      cases h
      cases x with
      | inl d' =>
        cases h1
        exact ⟨r.1, argR_of S (xs := xs) (vs := vs) h2 r.2⟩
      | inr i =>
        have h1 : ρ[i]?.bind Sl.mut = some d := h1
        match hr : ρ[i]?, h1 with
        | some q, h1 =>
          obtain ⟨a, ea, hO, w, _⟩ := S.mutAt hr h1
          have ev : v = .ref a := by
            have := r.1
            rw [ea] at this
            cases this
            rfl
          exact ⟨⟨a, ev, hO, w⟩, argR_of S (xs := xs) (vs := vs) h2 r.2⟩
theorem mutA_mem {a : Addr} : ∀ {xs : List (IV ⊕ Nat)} {vs : List V}, xs.length = vs.length → some a ∈ mutA (xs.map isR) vs → ∃ t j : Nat, xs[t]? = some (.inr j) ∧ vs[t]? = some (.ref a)
  | x :: xs, v :: vs, hl, h => by
    have tail : some a ∈ mutA (xs.map isR) vs → ∃ t j : Nat, (x :: xs)[t]? = some (.inr j) ∧ (v :: vs)[t]? = some (.ref a) := fun h => by
      obtain ⟨t, j, h1, h2⟩ := mutA_mem (xs := xs) (vs := vs) (by simpa using hl) h
      exact ⟨t + 1, j, by simpa using h1, by simpa using h2⟩
    cases x with
    | inl d =>
      have h' : some a ∈ none :: mutA (xs.map isR) vs := by
        have : mutA (false :: xs.map isR) (v :: vs) = none :: mutA (xs.map isR) vs := by cases v <;> rfl
        rw [← this]; exact h
      rcases List.mem_cons.mp h' with e | e
      · cases e
      · exact tail e
    | inr i =>
      cases v with
      | ref b =>
        have h' : some a ∈ some b :: mutA (xs.map isR) vs := h
        rcases List.mem_cons.mp h' with e | e
        · cases e
          exact ⟨0, i, rfl, rfl⟩
        · exact tail e
      | _ =>
        have h' : some a ∈ none :: mutA (xs.map isR) vs := h
        rcases List.mem_cons.mp h' with e | e
        · cases e
        · exact tail e
  | [], [], _, h => nomatch h
theorem mutA_of {a : Addr} : ∀ {xs : List (IV ⊕ Nat)} {vs : List V} {t j : Nat}, xs[t]? = some (.inr j) → vs[t]? = some (.ref a) → some a ∈ mutA (xs.map isR) vs
  | x :: xs, v :: vs, 0, j, h1, h2 => by
    have e1 : x = .inr j := by simpa using h1
    have e2 : v = .ref a := by simpa using h2
    subst e1 e2
    exact List.mem_cons_self
  | x :: xs, v :: vs, t + 1, j, h1, h2 => by
    have q := mutA_of (xs := xs) (vs := vs) (t := t) (by simpa using h1) (by simpa using h2)
    cases x with
    | inl d =>
      have : mutA (false :: xs.map isR) (v :: vs) = none :: mutA (xs.map isR) vs := by cases v <;> rfl
      show some a ∈ mutA (false :: xs.map isR) (v :: vs)
      rw [this]; exact List.mem_cons_of_mem _ q
    | inr i =>
      cases v with
      | ref b => exact List.mem_cons_of_mem _ q
      | _ => exact List.mem_cons_of_mem _ q
theorem nodup_addr {L O : List Addr} {σ : L2.St} {ρ : List Sl} {H : Hp} (S : SRel C L O σ ρ H) : ∀ {xs : List (IV ⊕ Nat)} {ds : List IV} {vs : List V}, argsD ρ xs = some ds → RlA C σ O H vs xs → (idxX xs).Nodup → ((mutA (xs.map isR) vs).filterMap id).Nodup
  | [], ds, [], _, _, _ => List.nodup_nil
  | x :: xs, ds, v :: vs, h, r, hn => by
    have h0 := h
    unfold argsD at h
    match h1 : argD ρ x, h2 : argsD ρ xs, h with
    | some d, some es, h =>
      cases x with
      | inl d' =>
        have : mutA (false :: xs.map isR) (v :: vs) = none :: mutA (xs.map isR) vs := by cases v <;> rfl
        show ((mutA (false :: xs.map isR) (v :: vs)).filterMap id).Nodup
        rw [this]
        exact nodup_addr S (xs := xs) (vs := vs) h2 r.2 hn
      | inr i =>
        have hn' : i ∉ idxX xs ∧ (idxX xs).Nodup := List.nodup_cons.mp hn
        have ih := nodup_addr S (xs := xs) (vs := vs) h2 r.2 hn'.2
        have h1 : ρ[i]?.bind Sl.mut = some d := h1
        match hr : ρ[i]?, h1 with
        | some q, h1 =>
          obtain ⟨a, ea, hO, w, _⟩ := S.mutAt hr h1
          have ev : v = .ref a := by
            have := r.1
            rw [ea] at this
            cases this
            rfl
          subst ev
          show (a :: (mutA (xs.map isR) vs).filterMap id).Nodup
          refine List.nodup_cons.mpr ⟨fun hm => ?_, ih⟩
          obtain ⟨o, ho, e⟩ := List.mem_filterMap.mp hm
          have e' : o = some a := e
          subst e'
          obtain ⟨t, j, g1, g2⟩ := mutA_mem (xs := xs) (vs := vs) (RlA.length r.2).symm ho
          obtain ⟨r', d', g3, g4, _⟩ := argsD_at h2 g1
          obtain ⟨u, g5, g6⟩ := RlA.at r.2 g1
          rw [g2] at g5
          cases g5
          have hij : i ≠ j := fun z => hn'.1 (z ▸ mem_idx g1)
          exact S.apart i j q r' a hij hr g3 (by rw [show q.mut = some d from h1]; rfl) (by rw [g4]; rfl) ea g6
theorem putM_len : ∀ (xs : List (IV ⊕ Nat)) (ms : List IV) (ρ : List Sl), (putM xs ms ρ).length = ρ.length
  | .inr i :: xs, m :: ms, ρ => by
    unfold putM
    rw [putM_len]
    split
    · exact List.length_set ..
    · rfl
  | .inl _ :: xs, m :: ms, ρ => by
    unfold putM
    exact putM_len xs ms ρ
  | [], _, _ => by unfold putM; rfl
  | .inr _ :: _, [], _ => by unfold putM; rfl
  | .inl _ :: _, [], _ => by unfold putM; rfl
theorem putM_out : ∀ (xs : List (IV ⊕ Nat)) (ms : List IV) (ρ : List Sl) {j : Nat}, j ∉ idxX xs → (putM xs ms ρ)[j]? = ρ[j]?
  | .inr i :: xs, m :: ms, ρ, j, h => by
    have h' : j ≠ i ∧ j ∉ idxX xs := by simpa [idxX] using h
    unfold putM
    rw [putM_out xs ms _ h'.2]
    split
    · rw [List.getElem?_set_ne (Ne.symm h'.1)]
    · rfl
  | .inl _ :: xs, m :: ms, ρ, j, h => by
    unfold putM
    exact putM_out xs ms ρ h
  | [], _, _, _, _ => by unfold putM; rfl
  | .inr _ :: _, [], _, _, _ => by unfold putM; rfl
  | .inl _ :: _, [], _, _, _ => by unfold putM; rfl
theorem putM_in : ∀ (xs : List (IV ⊕ Nat)) (ms : List IV) (ρ : List Sl) {t j : Nat} {r : Sl} {m : IV}, (idxX xs).Nodup → xs[t]? = some (.inr j) → ms[t]? = some m → ρ[j]? = some r → (putM xs ms ρ)[j]? = some (r.put m)
  | .inr i :: xs, m :: ms, ρ, 0, j, r, m', hn, e1, e2, hr => by
    have e1' : i = j := by simpa using e1
    have e2' : m = m' := by simpa using e2
    subst e1' e2'
    have hn' : i ∉ idxX xs ∧ (idxX xs).Nodup := List.nodup_cons.mp hn
    unfold putM
    rw [putM_out xs ms _ hn'.1, hr]
    show (ρ.set i (r.put m))[i]? = _
    rw [List.getElem?_set_self (List.getElem?_eq_some_iff.mp hr).1]
  | .inr i :: xs, m :: ms, ρ, t + 1, j, r, m', hn, e1, e2, hr => by
    have hn' : i ∉ idxX xs ∧ (idxX xs).Nodup := List.nodup_cons.mp hn
    have g1 : xs[t]? = some (.inr j) := by simpa using e1
    have hij : i ≠ j := fun z => hn'.1 (z ▸ mem_idx g1)
    unfold putM
    refine putM_in xs ms _ hn'.2 g1 (by simpa using e2) ?_
    split
    · rw [List.getElem?_set_ne hij]; exact hr
    · exact hr
  | .inl _ :: xs, m :: ms, ρ, 0, j, r, m', hn, e1, e2, hr => by simp at e1
  | .inl _ :: xs, m :: ms, ρ, t + 1, j, r, m', hn, e1, e2, hr => by
    unfold putM
    exact putM_in xs ms ρ hn (by simpa using e1) (by simpa using e2) hr
theorem mutR_at {O : List Addr} {H : Hp} : ∀ {xs : List (IV ⊕ Nat)} {vs : List V} {ms : List IV} {t j : Nat}, MutR C.K C.cl O H (xs.map isR) vs ms → xs[t]? = some (.inr j) → ∃ a m, vs[t]? = some (.ref a) ∧ ms[t]? = some m ∧ Own C.K C.cl O H a m
  | .inl _ :: xs, v :: vs, m :: ms, 0, j, h, e => by simp at e
  | .inl _ :: xs, v :: vs, m :: ms, t + 1, j, h, e => by
    obtain ⟨a, m', h1, h2, h3⟩ := mutR_at (xs := xs) (vs := vs) (ms := ms) (t := t) h (by simpa using e)
    exact ⟨a, m', by simpa using h1, by simpa using h2, h3⟩
  | .inr i :: xs, v :: vs, m :: ms, 0, j, h, e => by
    obtain ⟨⟨a, ea, w⟩, _⟩ := (show (∃ a, v = .ref a ∧ Own C.K C.cl O H a m) ∧ MutR C.K C.cl O H (xs.map isR) vs ms from h)
    exact ⟨a, m, by simp [ea], rfl, w⟩
  | .inr i :: xs, v :: vs, m :: ms, t + 1, j, h, e => by
    obtain ⟨a, m', h1, h2, h3⟩ := mutR_at (xs := xs) (vs := vs) (ms := ms) (t := t) (show (∃ a, v = .ref a ∧ Own C.K C.cl O H a m) ∧ MutR C.K C.cl O H (xs.map isR) vs ms from h).2 (by simpa using e)
    exact ⟨a, m', by simpa using h1, by simpa using h2, h3⟩
/-- the caller's store behind a call -/
theorem call_back {L O O' : List Addr} {σ : L2.St} {ρ : List Sl} {H H' : Hp} {xs : List (IV ⊕ Nat)} {ds ms : List IV} {vs : List V} (S : SRel C L O σ ρ H) (ha : argsD ρ xs = some ds) (r : RlA C σ O H vs xs) (hn : (idxX xs).Nodup)
    (fr : Fram H H' (mutA (xs.map isR) vs)) (mr : MutR C.K C.cl O' H' (xs.map isR) vs ms) (hO : ∀ a ∈ O, a ∈ O') (live : ∀ a ∈ O', a ∉ O → H' a ≠ none) (hR : ∀ ws es, RepAll C.K C.cl O H ws es → RepAll C.K C.cl O' H' ws es) : SRel C L O' σ (putM xs ms ρ) H' := by
  have own : ∀ {a : Addr}, a ∈ (mutA (xs.map isR) vs).filterMap id → ∃ (t j : Nat) (q : Sl) (d : IV), xs[t]? = some (.inr j) ∧ vs[t]? = some (.ref a) ∧ ρ[j]? = some q ∧ q.mut = some d ∧ σ[j]? = some (some (.ref a)) := fun {a} h => by
    obtain ⟨o, ho, e⟩ := List.mem_filterMap.mp h
    have e' : o = some a := e
    subst e'
    obtain ⟨t, j, g1, g2⟩ := mutA_mem (RlA.length r).symm ho
    obtain ⟨q, d, g3, g4, _⟩ := argsD_at ha g1
    obtain ⟨u, g5, g6⟩ := RlA.at r g1
    rw [g2] at g5
    cases g5
    exact ⟨t, j, q, d, g1, g2, g3, g4, g6⟩
  have back : ∀ a, a ∉ (mutA (xs.map isR) vs).filterMap id → some a ∉ mutA (xs.map isR) vs := fun a n z => n (List.mem_filterMap.mpr ⟨some a, z, rfl⟩)
  refine S.change (A := (mutA (xs.map isR) vs).filterMap id) hO (fun a h => ?_) (fun b o n e => fr b o e (back b n)) (fun a h => ?_) hR (putM_len xs ms ρ) (fun j q hq => ?_)
  · obtain ⟨t, j, q, d, g1, g2, g3, g4, g5⟩ := own h
    obtain ⟨b, eb, _, _, hm⟩ := S.mutAt g3 g4
    rw [g5] at eb
    cases eb
    exact hm
  · by_cases h1 : a ∈ O
    · by_cases h2 : a ∈ (mutA (xs.map isR) vs).filterMap id
      · obtain ⟨t, j, q, d, g1, g2, _⟩ := own h2
        obtain ⟨b, m, e1, e2, w⟩ := mutR_at mr g1
        rw [g2] at e1
        cases e1
        exact w.some_of
      · cases e : H a with
        | none => exact absurd e (S.live a h1)
        | some o => rw [fr a o e (back a h2)]; exact fun z => nomatch z
    · exact live a h h1
  · by_cases hj : j ∈ idxX xs
    · obtain ⟨t, ht⟩ := idx_mem hj
      obtain ⟨q', d, g3, g4, _⟩ := argsD_at ha ht
      rw [hq] at g3
      cases g3
      obtain ⟨u, g5, g6⟩ := RlA.at r ht
      obtain ⟨a, m, e1, e2, w⟩ := mutR_at mr ht
      rw [e1] at g5
      cases g5
      exact .inr ⟨m, a, putM_in xs ms ρ hn ht e2 hq, by rw [g4]; rfl, g6, w⟩
    · refine .inl ⟨by rw [putM_out xs ms ρ hj]; exact hq, fun a mu ea hA => ?_⟩
      obtain ⟨t, i, q', d, g1, g2, g3, g4, g5⟩ := own hA
      have hij : i ≠ j := fun z => hj (z ▸ mem_idx g1)
      exact S.apart i j q' q a hij g3 hq (by rw [g4]; rfl) mu g5 ea
end
end Mx


/-! Mx, part 4g: calls of the program's own defs. -/
namespace Mx
open PySem PySem.Spec PyProof.Rows L2
section
variable {T : Tab} {cs : CS} {k : Nat} {C : Ct} {W : WX} {N : List Str} {sc : Scope} {X : Cx}
theorem Post.bindE {α β γ δ : Type} {L O : List Addr} {σ : L2.St} {pr pr' : Bool} {H : Hp} {ρ : List Sl} {m : R α} {f : α → R γ} {Rl : Hp → β → α → Prop} {Rl' : Hp → δ → γ → Prop} {Q : δ → Hp → Prop} {Q1 : β → Hp → Prop} (h : Post C L O σ W pr' Rl' H (rBind m f ρ) Q)
    (k : ∀ a ρ1 v H1, m ρ = some (.ok a, ρ1) → Keep O H H1 → (pr = true → Same H H1) → SRel C L O σ ρ1 H1 → Rl H1 v a → Post C L O σ W pr' Rl' H (f a ρ1) Q → Q1 v H1) : Post C L O σ W pr Rl H (m ρ) Q1 := by
  unfold rBind at h
  match hm : m ρ, h with
  | none, h => exact h
  | some (.error x, ρ1), h => exact h
  | some (.ok a, ρ1), h => exact fun v H1 k1 s1 S q => k a ρ1 v H1 hm k1 s1 S q h
/-- own: the wish behind an expression that gives a new object -/
def PostO (C : Ct) (L O : List Addr) (σ : L2.St) (W : WX) (H : Hp) (r : Out IV) (Q : VK) : Prop := match r with
  | none => False
  | some (.ok d, ρ) => ∀ p H', H p = none → p ∉ O → C.H0 p = none → Keep O H H' → SRel C L O σ ρ H' → SRel C L (p :: O) σ ρ H' → Own C.K C.cl (p :: O) H' p d → Q (.ref p) H'
  | some (.error x, ρ) => ∀ c dd H', Keep O H H' → SRel C L O σ ρ H' → XRep C.K C.cl O H' c dd x → W c dd σ H'
def tEO (cs : CS) (C : Ct) (W : WX) (e : E) : TE := fun σ H Q => ∃ L O ρ, SRel C L O σ ρ H ∧ PostO C L O σ W H ((ev cs e).1 ρ) Q
theorem Keep.none {O : List Addr} {H H' : Hp} {p : Addr} (k : Keep O H H') (n : p ∉ O) (h : H' p = none) : H p = none := by
  cases e : H p with
  | none => rfl
  | some o => rw [k p o n e] at h; cases h
theorem As.kinds_pure : ∀ {as : As}, as.pure = true → ∀ b ∈ as.kinds, b = false
  | .nil, _, b, h => nomatch h
  | .v e r, h, b, hb => by
    have h' : (e.pure && r.pure) = true := h
    rw [Bool.and_eq_true] at h'
    rcases List.mem_cons.mp hb with z | z
    · exact z
    · exact As.kinds_pure h'.2 b z
  | .m i r, h, _, _ => nomatch h
theorem mutA_pure : ∀ {ms : List Bool} {vs : List V}, (∀ b ∈ ms, b = false) → ∀ a, some a ∉ mutA ms vs
  | [], vs, _, a => by unfold mutA; exact fun z => nomatch z
  | b :: ms, [], _, a => by cases b <;> (unfold mutA; exact fun z => nomatch z)
  | b :: ms, v :: vs, h, a => by
    have e : b = false := h b List.mem_cons_self
    subst e
    have : mutA (false :: ms) (v :: vs) = none :: mutA ms vs := by cases v <;> rfl
    rw [this]
    intro z
    rcases List.mem_cons.mp z with z | z
    · cases z
    · exact mutA_pure (fun b hb => h b (List.mem_cons_of_mem _ hb)) a z
theorem mutA_live {K : PySem.W.Frag} {cl : Nat → Option Addr} {O : List Addr} {H : Hp} : ∀ {ms : List Bool} {vs : List V} {ds : List IV} {a : Addr}, ArgR K cl O H ms vs ds → some a ∈ mutA ms vs → a ∈ O
  | [], [], [], a, _, z => nomatch z
  | false :: ms, v :: vs, d :: ds, a, h, z => by
    have : mutA (false :: ms) (v :: vs) = none :: mutA ms vs := by cases v <;> rfl
    rw [this] at z
    rcases List.mem_cons.mp z with z | z
    · cases z
    · exact mutA_live (show ArgR K cl O H ms vs ds from h.2) z
  | true :: ms, v :: vs, d :: ds, a, h, z => by
    obtain ⟨⟨b, rfl, hb, _⟩, h9⟩ := (show (∃ a, v = .ref a ∧ a ∈ O ∧ Own K cl O H a d) ∧ ArgR K cl O H ms vs ds from h)
    rcases List.mem_cons.mp z with z | z
    · cases z; exact hb
    · exact mutA_live (ms := ms) (vs := vs) (ds := ds) h9 z
theorem fram_keep {O : List Addr} {H H' : Hp} {M : List (Option Addr)} (f : Fram H H' M) (h : ∀ a, some a ∈ M → a ∈ O) : Keep O H H' := fun a o n e => f a o e fun z => n (h a z)
theorem RlA.len_kinds {σ : L2.St} {O : List Addr} {H : Hp} {vs : List V} {xs : List (IV ⊕ Nat)} {ms : List Bool} (r : RlA C σ O H vs xs) (h : xs.map isR = ms) : vs.length = ms.length := by
  rw [r.length, ← h, List.length_map]
theorem call_read (CK : C.K = X.K) {f : Nat} {fn : Fn} {as : As} (hk : as.kinds = fn.muts) (hl : fn.muts.length = fn.ps.length) (hn : as.idx.Nodup) {σ : L2.St} {H : Hp} {Q : VK} (h : tE cs C W (.call f as) σ H Q) :
    tAs cs C W as σ H fun vs H1 => spF cs X.K C.cl f fn vs H1 Q (fun c d H' => W c d σ H') := by
  obtain ⟨L, O, ρ, S, q⟩ := h
  refine ⟨L, O, ρ, S, Post.bindE q fun xs ρ1 vs H1 hm k1 s1 S1 r1 h1 => ?_⟩
  have h1 := Post.mono k1 s1 h1
  obtain ⟨e1, e2⟩ := evAs_shape as hm
  rw [hk] at e1
  rw [← e2] at hn
  rw [← CK]
  unfold rCall at h1
  match hd : argsD ρ1 xs, h1 with
  | some ds, h1 =>
    have ar : ArgR C.K C.cl O H1 fn.muts vs ds := by rw [← e1]; exact argR_of S1 hd r1
    have nd : ((mutA fn.muts vs).filterMap id).Nodup := by rw [← e1]; exact nodup_addr S1 hd r1 hn
    have hin : ∀ a, some a ∈ mutA fn.muts vs → a ∈ O := fun a z => mutA_live ar z
    refine ⟨O, ds, S1.live, by rw [r1.len_kinds e1, hl], ar, nd, ?_⟩
    have pu : as.pure = true → ∀ a, some a ∉ mutA fn.muts vs := fun z => mutA_pure (by rw [← hk]; exact As.kinds_pure z)
    have back : ∀ {H' : Hp} {ms : List IV}, Fram H1 H' (mutA fn.muts vs) → MutR C.K C.cl O H' fn.muts vs ms → SRel C L O σ (putM xs ms ρ1) H' := fun {H' ms} fr mr => by
      rw [← e1] at fr mr hin
      exact call_back S1 hd r1 hn fr mr (fun _ z => z) (fun a z n => absurd z n) fun ws es r => r.keep (fram_keep fr hin)
    have h1 : Post C L O σ W (E.call f as).pure (RlE C (E.call f as).isView O) H1 ((match cs f ds with | none => none | some (r, ms) => some (r, putM xs ms ρ1) : Out IV)) Q := h1
    match hc : cs f ds, h1 with
    | none, h1 => exact h1.elim
    | some (.ok d, ms), h1 =>
      show if fn.own = true then _ else _
      cases ho : fn.own with
      | true =>
        rw [if_pos rfl]
        intro p H' hp fr mr w
        have np : p ∉ O := fun z => S1.live p z hp
        have le : ∀ a, a ∈ O → a ∈ p :: O := fun a z => List.mem_cons_of_mem _ z
        have rp := Own.rep np (w.less le)
        exact h1 _ H' (fram_keep fr hin) (fun z => fun a o e => fr a o e (pu z a)) (back fr (mr.less le)) ⟨.inl rp, fun _ => rp⟩
      | false =>
        rw [if_neg Bool.false_ne_true]
        intro v H' fr mr rp
        exact h1 _ H' (fram_keep fr hin) (fun z => fun a o e => fr a o e (pu z a)) (back fr mr) ⟨.inl rp, fun _ => rp⟩
    | some (.error x, ms), h1 => exact fun c dd H' fr mr xr => h1 c dd H' (fram_keep fr hin) (back fr mr) xr
theorem call_readO (CK : C.K = X.K) {f : Nat} {fn : Fn} {as : As} (ho : fn.own = true) (hk : as.kinds = fn.muts) (hl : fn.muts.length = fn.ps.length) (hn : as.idx.Nodup) {σ : L2.St} {H : Hp} {Q : VK} (h : tEO cs C W (.call f as) σ H Q) :
    tAs cs C W as σ H fun vs H1 => spF cs X.K C.cl f fn vs H1 Q (fun c d H' => W c d σ H') := by
  obtain ⟨L, O, ρ, S, q⟩ := h
  have q : PostO C L O σ W H ((rBind (evAs cs as) fun xs => rCall cs f xs) ρ) Q := q
  refine ⟨L, O, ρ, S, ?_⟩
  unfold rBind at q
  match hm : evAs cs as ρ, q with
  | none, q => exact q
  | some (.error x, ρ1), q => exact q
  | some (.ok xs, ρ1), q =>
    intro vs H1 k1 s1 S1 r1
    obtain ⟨e1, e2⟩ := evAs_shape as hm
    rw [hk] at e1
    rw [← e2] at hn
    rw [← CK]
    have q : PostO C L O σ W H (rCall cs f xs ρ1) Q := q
    unfold rCall at q
    match hd : argsD ρ1 xs, q with
    | some ds, q =>
      have ar : ArgR C.K C.cl O H1 fn.muts vs ds := by rw [← e1]; exact argR_of S1 hd r1
      have nd : ((mutA fn.muts vs).filterMap id).Nodup := by rw [← e1]; exact nodup_addr S1 hd r1 hn
      have hin : ∀ a, some a ∈ mutA fn.muts vs → a ∈ O := fun a z => mutA_live ar z
      refine ⟨O, ds, S1.live, by rw [r1.len_kinds e1, hl], ar, nd, ?_⟩
      have back : ∀ {H' : Hp} {ms : List IV}, Fram H1 H' (mutA fn.muts vs) → MutR C.K C.cl O H' fn.muts vs ms → SRel C L O σ (putM xs ms ρ1) H' := fun {H' ms} fr mr => by
        rw [← e1] at fr mr hin
        exact call_back S1 hd r1 hn fr mr (fun _ z => z) (fun a z n => absurd z n) fun ws es r => r.keep (fram_keep fr hin)
      have q : PostO C L O σ W H ((match cs f ds with | none => none | some (r, ms) => some (r, putM xs ms ρ1) : Out IV)) Q := q
      match hc : cs f ds, q with
      | none, q => exact q.elim
      | some (.ok d, ms), q =>
        show if fn.own = true then _ else _
        rw [if_pos ho]
        intro p H' hp fr mr w
        have np : p ∉ O := fun z => S1.live p z hp
        have le : ∀ a, a ∈ O → a ∈ p :: O := fun a z => List.mem_cons_of_mem _ z
        have S2 : SRel C L (p :: O) σ (putM xs ms ρ1) H' := by
          have fr' := fr
          have mr' := mr
          have hin' := hin
          rw [← e1] at fr' mr' hin'
          refine call_back S1 hd r1 hn fr' mr' le (fun a z n => ?_) fun ws es r => (r.more hp).keep (fram_keep fr' fun a z => le a (hin' a z))
          rcases List.mem_cons.mp z with z | z
          · rw [z]; exact w.some_of
          · exact absurd z n
        exact q p H' (k1.none np hp) np (S1.fresh hp).1 (k1.trans (fram_keep fr hin)) (back fr (mr.less le)) S2 w
      | some (.error x, ms), q => exact fun c dd H' fr mr xr => q c dd H' (k1.trans (fram_keep fr hin)) (back fr mr) xr
theorem as_star : ∀ {as : As} {xs : List Expr} {sc : Scope} {T : Tab} {N : List Str}, mAs T N as sc xs = true → xs.all notStar = true
  | .nil, xs, sc, T, N, h => by
    unfold mAs at h
    cases xs with
    | nil => rfl
    | cons y ys => cases h
  | .v e r, [], sc, T, N, h => rfl
  | .v e r, y :: ys, sc, T, N, h => by
    unfold mAs at h
    simp only [Bool.and_eq_true] at h
    rw [List.all_cons, h.1.2, as_star h.1.1.2]
    rfl
  | .m i r, xs, sc, T, N, h => by
    unfold mAs at h
    split at h
    · rw [Bool.and_eq_true] at h
      rw [List.all_cons, as_star h.2]
      rfl
    · cases h
theorem c_call (X' : XOk T cs k C W N sc X) {f : Nat} {fn : Fn} {as : As} {xs : List Expr} {y : Str} {p q : Pos} (hT : T.fns f = some fn) (hy : y = fn.name) (hg : gloB sc y = true) (hk : as.kinds = fn.muts) (hn : as.idx.Nodup) (hl : fn.muts.length = fn.ps.length)
    (hd : (y == ("__debug__" : Str)) = false) (hs : xs.all notStar = true) (ha : PA X xs (tAs cs C W as)) (h0 : xs = [] → as = .nil) : PE X (.Call (.Name y p) xs [] q) (tE cs C W (.call f as)) := by
  obtain ⟨a, fd, hm, hkp, hb, _, F⟩ := X'.facts.fns f fn hT
  have g := X'.gl hg
  subst hy
  cases xs with
  | nil =>
    refine (pe_callR0 F X'.gd X'.room X'.tk g hm hkp hb hd).imp fun σ H Q h => ?_
    have z := call_read X'.CK hk hl hn h
    rw [h0 rfl] at z
    obtain ⟨L, O, ρ, S, z⟩ := z
    exact Post.ok z S trivial
  | cons e es => exact (pe_callR F X'.gd X'.room X'.tk g hm hkp hb ha hs hd).imp fun σ H Q h => call_read X'.CK hk hl hn h
theorem c_callO (X' : XOk T cs k C W N sc X) {f : Nat} {fn : Fn} {as : As} {xs : List Expr} {y : Str} {p q : Pos} (hT : T.fns f = some fn) (ho : fn.own = true) (hy : y = fn.name) (hg : gloB sc y = true) (hk : as.kinds = fn.muts) (hn : as.idx.Nodup) (hl : fn.muts.length = fn.ps.length)
    (hd : (y == ("__debug__" : Str)) = false) (hs : xs.all notStar = true) (ha : PA X xs (tAs cs C W as)) (h0 : xs = [] → as = .nil) : PE X (.Call (.Name y p) xs [] q) (tEO cs C W (.call f as)) := by
  obtain ⟨a, fd, hm, hkp, hb, _, F⟩ := X'.facts.fns f fn hT
  have g := X'.gl hg
  subst hy
  cases xs with
  | nil =>
    refine (pe_callR0 F X'.gd X'.room X'.tk g hm hkp hb hd).imp fun σ H Q h => ?_
    have z := call_readO X'.CK ho hk hl hn h
    rw [h0 rfl] at z
    obtain ⟨L, O, ρ, S, z⟩ := z
    exact Post.ok z S trivial
  | cons e es => exact (pe_callR F X'.gd X'.room X'.tk g hm hkp hb ha hs hd).imp fun σ H Q h => call_readO X'.CK ho hk hl hn h
theorem c_lstO {es : Es} {xs : List Expr} {p : Pos} (hn : es.noView = true) (h : PA X xs (tEs cs C W es)) : PE X (.List xs p) (tEO cs C W (.lst es)) := by
  refine (pe_lst h).imp fun σ H Q ⟨L, O, ρ, S, q⟩ => ?_
  have q : PostO C L O σ W H ((rBind (evEs cs es) fun xs => rLift (if xs.length ≤ SZ then some (.lst xs) else none)) ρ) Q := q
  refine ⟨L, O, ρ, S, ?_⟩
  unfold rBind at q
  match hm : evEs cs es ρ, q with
  | none, q => exact q
  | some (.error x, ρ1), q => exact q
  | some (.ok ds, ρ1), q =>
    intro vs H1 k1 s1 S1 r1
    have ra := r1.2 hn
    have q : PostO C L O σ W H (rLift (if ds.length ≤ SZ then some (.lst ds) else none) ρ1) Q := q
    unfold rLift at q
    by_cases hz : ds.length ≤ SZ
    · rw [if_pos hz] at q
      refine ⟨szl (by rw [ra.length]; exact hz), fun p hp => ?_⟩
      have sm := same_new (o := HO.lst vs) hp
      exact q p _ (k1.none (fun z => S1.live p z hp) hp) (fun z => S1.live p z hp) (S1.fresh hp).1 (k1.trans (.same sm)) (S1.same sm) (S1.addO hp sm (by rw [upd_same]; exact fun z => nomatch z)) (.lst upd_same ((ra.more hp).keep (.same sm)))
    · rw [if_neg hz] at q
      exact q.elim
end
end Mx


/-! Mx, part 4h: targets, what is walked. -/
namespace Mx
open PySem PySem.Spec PyProof.Rows L2
/-- the changing objects grew from O to O' by new ones, all else is kept -/
structure Grow (O : List Addr) (H : Hp) (O' : List Addr) (H' : Hp) : Prop where
  keep : Keep O H H'
  sub : ∀ a ∈ O, a ∈ O'
  new : ∀ a ∈ O', a ∈ O ∨ H a = none
theorem Grow.refl (O : List Addr) (H : Hp) : Grow O H O H := ⟨Keep.refl O H, fun _ h => h, fun _ h => .inl h⟩
theorem Grow.out {O O' : List Addr} {H H' : Hp} (g : Grow O H O' H') {a : Addr} (h : H a ≠ none) (n : a ∉ O) : a ∉ O' := fun z => (g.new a z).elim n h
theorem Grow.trans {O O1 O2 : List Addr} {H H1 H2 : Hp} (g : Grow O H O1 H1) (g' : Grow O1 H1 O2 H2) : Grow O H O2 H2 := by
  refine ⟨fun a o n e => g'.keep a o (g.out (by rw [e]; exact fun z => nomatch z) n) (g.keep a o n e), fun a h => g'.sub a (g.sub a h), fun a h => ?_⟩
  rcases g'.new a h with z | z
  · exact g.new a z
  · by_cases ha : a ∈ O
    · exact .inl ha
    · right
      cases e : H a with
      | none => rfl
      | some o => rw [g.keep a o ha e] at z; cases z
theorem Grow.ofKeep {O : List Addr} {H H' : Hp} (k : Keep O H H') : Grow O H O H' := ⟨k, fun _ h => h, fun _ h => .inl h⟩
theorem Rd.ne {H : Hp} {a : Addr} {u : HO} (h : Rd H a u) : H a ≠ none := Rd.some_of h
section
variable {K : PySem.W.Frag} {cl : Nat → Option Addr} {O O' : List Addr} {H H' : Hp}
mutual
theorem Rep.grow (g : Grow O H O' H') : ∀ {v : V} {d : IV}, Rep K cl O H v d → Rep K cl O' H' v d
  | _, _, .non => .non
  | _, _, .bl b => .bl b
  | _, _, .int i => .int i
  | _, _, .str l => .str l
  | _, _, .tupH h n r => .tupH (Rd.keep g.keep n h) (g.out (Rd.some_of h) n) (RepAll.grow g r)
  | _, _, .tupK h r => .tupK h (RepAll.grow g r)
  | _, _, .lstH h n r => .lstH (Rd.keep g.keep n h) (g.out (Rd.some_of h) n) (RepAll.grow g r)
  | _, _, .lstK h r => .lstK h (RepAll.grow g r)
  | _, _, .dctH h n e r => .dctH (Rd.keep g.keep n h) (g.out (Rd.some_of h) n) e (RepAll.grow g r)
  | _, _, .insH h c n e r => .insH (g.keep _ _ n h) c (g.out (by rw [h]; exact fun z => nomatch z) n) e (RepAll.grow g r)
theorem RepAll.grow (g : Grow O H O' H') : ∀ {vs : List V} {ds : List IV}, RepAll K cl O H vs ds → RepAll K cl O' H' vs ds
  | _, _, .nil => .nil
  | _, _, .cons r rr => .cons (Rep.grow g r) (RepAll.grow g rr)
end
theorem Rep.lstW {v : V} {ds : List IV} (h : Rep K cl O H v (.lst ds)) : ∃ a vs, v = .ref a ∧ RepAll K cl O H vs ds ∧ ∀ O2 H2, Grow O H O2 H2 → SqL K H2 a vs := by
  cases h with
  | lstH h n r => exact ⟨_, _, rfl, r, fun O2 H2 g => .inl (Rd.keep g.keep n h)⟩
  | lstK h r => exact ⟨_, _, rfl, r, fun O2 H2 g => SqL.ofK h⟩
theorem Rep.tupW {v : V} {ds : List IV} (h : Rep K cl O H v (.tup ds)) : ∃ a vs, v = .ref a ∧ RepAll K cl O H vs ds ∧ ∀ O2 H2, Grow O H O2 H2 → SqT K H2 a vs := by
  cases h with
  | tupH h n r => exact ⟨_, _, rfl, r, fun O2 H2 g => .inl (Rd.keep g.keep n h)⟩
  | tupK h r => exact ⟨_, _, rfl, r, fun O2 H2 g => SqT.ofK h⟩
end
/-! ### targets -/
def gTgs : List Nat → TGs
  | [] => gNil
  | i :: is => gCons (gName i) (gTgs is)
def gTg (K : PySem.W.Frag) : List Nat → TG
  | [i] => gName i
  | is => gTup K is.length (gTgs is)
section
variable {T : Tab} {cs : CS} {k : Nat} {C : Ct} {W : WX} {N : List Str} {sc : Scope} {X : Cx}
theorem pgs_of (hn : X.N.Nodup) (st : Sto N sc X) : ∀ {is : List Nat} {xs : List Expr}, tgsB N sc is xs = true → PGs X xs (gTgs is) ∧ (assignEach xs X.env).length = is.length ∧ (assignEach xs X.env).findIdx? (·.1) = none
  | [], [], _ => ⟨pgs_nil, rfl, rfl⟩
  | i :: is, .Name x p :: xs, h => by
    have h' : (storeB N sc i x && tgsB N sc is xs) = true := h
    rw [Bool.and_eq_true] at h'
    obtain ⟨h1, h2, h3⟩ := st _ _ h'.1
    obtain ⟨r1, r2, r3⟩ := pgs_of hn st h'.2
    have e : assignEach (.Name x p :: xs) X.env = (false, assign (.Name x p) X.env) :: assignEach xs X.env := rfl
    refine ⟨pgs_cons (pg_name hn h1 h2 h3) r1 (by rw [e]; rfl), by rw [e, List.length_cons, r2]; rfl, ?_⟩
    rw [e, List.findIdx?_cons, r3]
    rfl
  | [], _ :: _, h => nomatch h
  | _ :: _, [], h => nomatch h
theorem pg_of (hn : X.N.Nodup) (hc : X.calm = true) (st : Sto N sc X) {tg : List Nat} {t : Expr} (h : tgB N sc tg t = true) : PG X t (gTg X.K tg) := by
  match tg, t, h with
  | [i], .Name x p, h =>
    obtain ⟨h1, h2, h3⟩ := st _ _ h
    exact pg_name hn h1 h2 h3
  | i :: j :: is, .Tuple xs kk p, h =>
    have h' : (tgsB N sc (i :: j :: is) xs && decide (2 ≤ (i :: j :: is).length)) = true := h
    rw [Bool.and_eq_true] at h'
    obtain ⟨r1, r2, r3⟩ := pgs_of hn st h'.1
    exact pg_tup hc r1 r2 r3
  | [i], .Tuple xs kk p, h =>
    have h' : (tgsB N sc [i] xs && decide (2 ≤ [i].length)) = true := h
    rw [Bool.and_eq_true, decide_eq_true_eq] at h'
    exact absurd h'.2 (fun z => by simp at z)
  | [], .Tuple xs kk p, h =>
    have h' : (tgsB N sc [] xs && decide (2 ≤ ([] : List Nat).length)) = true := h
    rw [Bool.and_eq_true, decide_eq_true_eq] at h'
    exact absurd h'.2 (by decide)
theorem set_out {α : Type} {l : List α} {i j : Nat} {x : α} (h : j ≠ i) : (l.set i x)[j]? = l[j]? := by
  rw [List.getElem?_set_ne (fun z => h z.symm)]
theorem tgs_read {L O : List Addr} {H : Hp} : ∀ {is : List Nat} {σ : L2.St} {ρ : List Sl} {vs : List V} {ds : List IV} {Q : L2.St → Hp → Prop}, SRel C L O σ ρ H → RepAll C.K C.cl O H vs ds → ds.length = is.length →
    (∀ σ', SRel C L O σ' (setTgs is ds ρ) H → (∀ j, j ∉ is → σ'[j]? = σ[j]?) → σ'.length = σ.length → Q σ' H) → gTgs is vs σ H Q
  | [], σ, ρ, _, _, Q, S, .nil, _, h => ⟨rfl, h σ S (fun _ _ => rfl) rfl⟩
  | i :: is, σ, ρ, _, _, Q, S, .cons (v := v) (vs := vs) (d := d) (ds := ds) r rr, hl, h => by
    refine ⟨v, vs, rfl, ?_⟩
    show gTgs is vs (σ.set i (some v)) H Q
    refine tgs_read (S.setI r i) rr (Nat.succ.inj hl) fun σ' S' hj hn => h σ' S' (fun j nj => ?_) (by rw [hn, List.length_set])
    rw [hj j fun z => nj (List.mem_cons_of_mem _ z), set_out (fun z : j = i => nj (z ▸ List.mem_cons_self))]
  | [], _, _, _, _, _, _, .cons _ _, hl, _ => nomatch hl
  | _ :: _, _, _, _, _, _, _, .nil, hl, _ => nomatch hl
theorem tg_read {L O : List Addr} {H : Hp} {tg : List Nat} {σ : L2.St} {ρ ρ' : List Sl} {v : V} {d : IV} {Q : L2.St → Hp → Prop} (S : SRel C L O σ ρ H) (r : Rep C.K C.cl O H v d) (e : rTg tg d ρ = some (.ok (), ρ'))
    (h : ∀ σ', SRel C L O σ' ρ' H → (∀ j, j ∉ tg → σ'[j]? = σ[j]?) → σ'.length = σ.length → Q σ' H) : gTg C.K tg v σ H Q := by
  have many : ∀ is : List Nat, tg = is → (∀ i, is ≠ [i]) → gTup C.K is.length (gTgs is) v σ H Q := fun is et hi => by
    subst et
    have e' : (match d with
      | .tup ds => if ds.length = tg.length then some ((.ok () : Except Xn Unit), setTgs tg ds ρ) else none
      | _ => none) = some (.ok (), ρ') := by
      rw [← e]
      unfold rTg
      match tg, hi with
      | [], _ => rfl
      | [i], hi => exact absurd rfl (hi i)
      | i :: j :: r, _ => rfl
    match d, r, e' with
    | .tup ds, r, e' =>
      have e' : (if ds.length = tg.length then some ((.ok () : Except Xn Unit), setTgs tg ds ρ) else none) = some (.ok (), ρ') := e'
      split at e'
      · rename_i hl
        cases e'
        obtain ⟨a, vs, rfl, hs, rr⟩ := r.tupI
        exact ⟨a, vs, rfl, hs, by rw [rr.length, hl], tgs_read S rr hl h⟩
      · cases e'
  match tg, e, h, many with
  | [i], e, h, _ =>
    cases e
    exact h _ (S.setI r i) (fun j nj => set_out fun z => nj (z ▸ List.mem_cons_self)) (List.length_set ..)
  | [], e, h, many => exact many [] rfl (fun i z => nomatch z)
  | i :: j :: is, e, h, many => exact many _ rfl (fun i z => nomatch z)
theorem rTg_ok {tg : List Nat} {d : IV} {ρ ρ' : List Sl} {x : Except Xn Unit} (h : rTg tg d ρ = some (x, ρ')) : x = .ok () := by
  unfold rTg at h
  split at h
  · cases h; rfl
  · split at h
    · split at h
      · cases h; rfl
      · cases h
    · cases h
/-! ### what is walked -/
/-- a walk that gives the data ds -/
def WalkD (C : Ct) (O : List Addr) (H : Hp) (J : L2.It) (ds : List IV) : Prop := ∃ G Y, Walk J ds.length G Y ∧ (∀ O2 H2, Grow O H O2 H2 → G H2) ∧
  ∀ (i : Nat) (O2 : List Addr) (H2 : Hp) (x : V) (H3 : Hp) (d : IV), Grow O H O2 H2 → (∀ a ∈ O2, H2 a ≠ none) → ds[i]? = some d → Y i H2 x H3 → Same H2 H3 ∧ Rep C.K C.cl O2 H3 x d
def tIt (cs : CS) (C : Ct) (W : WX) (it : It) : TI := tR C W it.pure (fun O H J ds => WalkD C O H J ds) (evIt cs it)
theorem _root_.L2.PI.imp {tg e : Expr} {t t' : TI} (h : PI X tg e t) (hi : ∀ σ H Q, t' σ H Q → t σ H Q) : PI X tg e t' := ⟨fun pins s σ H Q I q => h.run pins s σ H Q I (hi σ H Q q)⟩
theorem walkD_lst {O : List Addr} {H : Hp} {a : Addr} {vs : List V} {ds : List IV} (r : RepAll C.K C.cl O H vs ds) (hs : ∀ O2 H2, Grow O H O2 H2 → SqL C.K H2 a vs) : WalkD C O H (Itl C.K a) ds := by
  refine ⟨_, _, r.length ▸ walk_list (xs := vs), hs, fun i O2 H2 x H3 d g lv hd y => ?_⟩
  obtain ⟨rfl, hx⟩ := y
  obtain ⟨d', hd', rp⟩ := (r.grow g).getV hx
  rw [hd] at hd'
  cases hd'
  exact ⟨Same.refl _, rp⟩
theorem walkD_tup {O : List Addr} {H : Hp} {a : Addr} {vs : List V} {ds : List IV} (r : RepAll C.K C.cl O H vs ds) (hs : ∀ O2 H2, Grow O H O2 H2 → SqT C.K H2 a vs) : WalkD C O H (Itt C.K a) ds := by
  refine ⟨_, _, r.length ▸ walk_tup (xs := vs), hs, fun i O2 H2 x H3 d g lv hd y => ?_⟩
  obtain ⟨rfl, hx⟩ := y
  obtain ⟨d', hd', rp⟩ := (r.grow g).getV hx
  rw [hd] at hd'
  cases hd'
  exact ⟨Same.refl _, rp⟩
theorem walkD_str {O : List Addr} {H : Hp} {l : List Nat} : WalkD C O H (Its (sOf l)) (l.map fun c => .str [c]) := by
  have hn : (sOf l).cps.size = (l.map fun c => IV.str [c]).length := by rw [List.length_map]; simp [sOf]
  refine ⟨_, _, hn ▸ walk_str (z := sOf l), fun _ _ _ => trivial, fun i O2 H2 x H3 d g lv hd y => ?_⟩
  obtain ⟨rfl, c, hc, rfl⟩ := y
  have hc' : l[i]? = some c := by simpa [sOf] using hc
  rw [List.getElem?_map, hc'] at hd
  cases hd
  exact ⟨Same.refl _, .str [c]⟩
theorem walkD_rng {O : List Addr} {H : Hp} {lo : Int} {n : Nat} : WalkD C O H (Itr lo n) ((List.range n).map fun i => .int (lo + (i : Nat))) := by
  have hn : n = ((List.range n).map fun i => IV.int (lo + (i : Nat))).length := by rw [List.length_map, List.length_range]
  have w := walk_range (lo := lo) (n := n)
  have w : Walk (Itr lo n) ((List.range n).map fun i => IV.int (lo + (i : Nat))).length (fun _ => True) (YFn fun i => .int (lo + i)) := by rw [← hn]; exact w
  refine ⟨_, _, w, fun _ _ _ => trivial, fun i O2 H2 x H3 d g lv hd y => ?_⟩
  obtain ⟨rfl, rfl⟩ := y
  rw [List.getElem?_map] at hd
  cases hr : (List.range n)[i]? with
  | none => rw [hr] at hd; cases hd
  | some j =>
    rw [hr] at hd
    cases hd
    rw [List.getElem?_eq_some_iff] at hr
    obtain ⟨hi, e⟩ := hr
    rw [List.getElem_range] at e
    subst e
    exact ⟨Same.refl _, .int _⟩
theorem enumD_get {α : Type} {f : Nat → α → IV} : ∀ {l : List α} {n i : Nat}, (enumD f n l)[i]? = (l[i]?).map (f (n + i))
  | [], n, i => rfl
  | x :: r, n, 0 => rfl
  | x :: r, n, i + 1 => by
    show (enumD f (n + 1) r)[i]? = (r[i]?).map (f (n + (i + 1)))
    rw [enumD_get, show n + 1 + i = n + (i + 1) from by omega]
theorem enumD_len {α : Type} {f : Nat → α → IV} : ∀ {l : List α} {n : Nat}, (enumD f n l).length = l.length
  | [], n => rfl
  | x :: r, n => by show (enumD f (n + 1) r).length + 1 = _; rw [enumD_len]; rfl
theorem walkD_enum {O : List Addr} {H : Hp} {a : Addr} {vs : List V} {ds : List IV} (r : RepAll C.K C.cl O H vs ds) (hs : ∀ O2 H2, Grow O H O2 H2 → SqL C.K H2 a vs) : WalkD C O H (Ite C.K a) (enumD (fun n x => .tup [.int (n : Nat), x]) 0 ds) := by
  have hn : vs.length = (enumD (fun n x => IV.tup [.int (n : Nat), x]) 0 ds).length := by rw [enumD_len, r.length]
  refine ⟨_, _, hn ▸ walk_enum (xs := vs), hs, fun i O2 H2 x H3 d g lv hd y => ?_⟩
  obtain ⟨p, y1, y2, rfl, hp, rfl, e1, e2⟩ := y
  cases e1
  obtain ⟨d', hd', rp⟩ := (r.grow g).getV e2
  rw [enumD_get, hd'] at hd
  cases hd
  rw [Nat.zero_add]
  exact ⟨same_new hp, rep_newT lv hp (.cons (.int _) (.cons rp .nil))⟩
theorem it_one {e : E} {pr : Bool} {f : IV → Option (List IV)} {wi : TE → TI} (hv : e.isView = false) {σ : L2.St} {H : Hp} {R : L2.It → Hp → Prop} (h : tR C W e.pure (fun O H J ds => WalkD C O H J ds) (rBind (ev cs e).1 fun x => rLift (f x)) σ H R)
    {Q : VK} (hw : ∀ O H1 v d ds, Rep C.K C.cl O H1 v d → f d = some ds → (∀ J, WalkD C O H1 J ds → R J H1) → Q v H1) : tE cs C W e σ H Q := by
  obtain ⟨L, O, ρ, S, q⟩ := h
  refine ⟨L, O, ρ, S, q.bind fun d ρ1 v H1 k1 s1 S1 r1 h1 => ?_⟩
  unfold rLift at h1
  match hf : f d, h1 with
  | some ds, h1 => exact hw O H1 v d ds (r1.2 hv) hf fun J w => h1 J H1 k1 s1 S1 w
theorem i_lst (X' : XOk T cs k C W N sc X) {e : E} {t x : Expr} (hv : e.isView = false) (he : PE X x (tE cs C W e)) : PI X t x (tIt cs C W (.lst e)) := by
  refine (pi_list he).imp fun σ H R h => ?_
  refine it_one (pr := e.pure) (wi := iList X.K) hv h fun O H1 v d ds r hf hR => ?_
  match d, r, hf with
  | .lst xs, r, hf =>
    cases hf
    obtain ⟨a, vs, rfl, rr, hs⟩ := r.lstW
    rw [← X'.CK]
    exact ⟨a, rfl, ⟨vs, hs O H1 (Grow.refl O H1)⟩, hR _ (walkD_lst rr hs)⟩
theorem i_tup (X' : XOk T cs k C W N sc X) {e : E} {t x : Expr} (hv : e.isView = false) (he : PE X x (tE cs C W e)) : PI X t x (tIt cs C W (.tup e)) := by
  refine (pi_tup he).imp fun σ H R h => ?_
  refine it_one (pr := e.pure) (wi := iList X.K) hv h fun O H1 v d ds r hf hR => ?_
  match d, r, hf with
  | .tup xs, r, hf =>
    cases hf
    obtain ⟨a, vs, rfl, rr, hs⟩ := r.tupW
    rw [← X'.CK]
    exact ⟨a, rfl, ⟨vs, hs O H1 (Grow.refl O H1)⟩, hR _ (walkD_tup rr hs)⟩
theorem i_txt {e : E} {t x : Expr} (hv : e.isView = false) (he : PE X x (tE cs C W e)) : PI X t x (tIt cs C W (.txt e)) := by
  refine (pi_str he).imp fun σ H R h => ?_
  refine it_one (pr := e.pure) (wi := iList X.K) hv h fun O H1 v d ds r hf hR => ?_
  match d, r, hf with
  | .str l, r, hf =>
    cases hf
    cases r
    exact ⟨_, rfl, hR _ walkD_str⟩
theorem star1 {z : Expr} (h : notStar z = true) (env : Env) : starEach [z] env = [(false, eval z env)] := by rw [star_one h]; rfl
theorem i_rng (X' : XOk T cs k C W N sc X) {e : E} {t z : Expr} {y : Str} {p q : Pos} (hy : y = ("range" : Str)) (hg : gloB sc y = true) (hb : T.blt.contains y = true) (hz : notStar z = true) (hv : e.isView = false) (he : PE X z (tE cs C W e)) : PI X t (.Call (.Name y p) [z] [] q) (tIt cs C W (.rng e)) := by
  subst hy
  refine (pi_range1 (X'.gl hg) (X'.bl hb) (pa_cons he pa_nil (star1 hz _)) (star1 hz _)).imp fun σ H R h => ?_
  refine it_one (pr := e.pure) (wi := iList X.K) hv h fun O H1 v d ds r hf hR => ?_
  match d, r, hf with
  | .int n, r, hf =>
    cases r
    have hf : (if -(2 ^ 62) ≤ n ∧ n < 2 ^ 62 then some ((List.range n.toNat).map fun i => IV.int (i : Nat)) else none) = some ds := hf
    split at hf
    · rename_i hb
      cases hf
      refine ⟨n, rfl, hb.1, hb.2, hR _ ?_⟩
      have := walkD_rng (C := C) (O := O) (H := H1) (lo := 0) (n := n.toNat)
      simpa using this
    · cases hf
theorem i_enu (X' : XOk T cs k C W N sc X) {e : E} {z : Expr} {y : Str} {p q : Pos} {elts : List Expr} {kk : Nat} {tpos : Pos} (hy : y = ("enumerate" : Str)) (hg : gloB sc y = true) (hb : T.blt.contains y = true) (hz : notStar z = true) (hv : e.isView = false) (he : PE X z (tE cs C W e)) :
    PI X (.Tuple elts kk tpos) (.Call (.Name y p) [z] [] q) (tIt cs C W (.enu e)) := by
  subst hy
  refine (pi_enum (X'.gl hg) (X'.bl hb) (pa_cons he pa_nil (star1 hz _)) (star1 hz _)).imp fun σ H R h => ?_
  refine it_one (pr := e.pure) (wi := iList X.K) hv h fun O H1 v d ds r hf hR => ?_
  match d, r, hf with
  | .lst xs, r, hf =>
    cases hf
    obtain ⟨a, vs, rfl, rr, hs⟩ := r.lstW
    rw [← X'.CK]
    exact ⟨a, vs, rfl, hs O H1 (Grow.refl O H1), hR _ (walkD_enum rr hs)⟩
theorem i_rng2 (X' : XOk T cs k C W N sc X) {e e' : E} {t z w : Expr} {y : Str} {p q : Pos} (hy : y = ("range" : Str)) (hg : gloB sc y = true) (hb : T.blt.contains y = true) (hz : notStar z = true) (hz' : notStar w = true) (hv : e.isView = false) (hv' : e'.isView = false)
    (he : PE X z (tE cs C W e)) (he' : PE X w (tE cs C W e')) : PI X t (.Call (.Name y p) [z, w] [] q) (tIt cs C W (.rng2 e e')) := by
  subst hy
  have s2 : starEach [z, w] X.env = [(false, eval z X.env), (false, eval w X.env)] := by rw [star_one hz, star1 hz']
  refine (pi_range2 (X'.gl hg) (X'.bl hb) (pa_cons he (pa_cons he' pa_nil (star1 hz' _)) (star_one hz _ _)) s2 (star1 hz' _)).imp fun σ H R h => ?_
  obtain ⟨L, O, ρ, S, q⟩ := h
  refine ⟨L, O, ρ, S, q.bind fun d ρ1 v H1 k1 s1 S1 r1 h1 => ?_⟩
  refine ⟨L, O, ρ1, S1, (h1.mono k1 fun e => s1 (by simp [It.pure] at e; exact e.1)).bind fun d' ρ2 v' H2 k2 s2 S2 r2 h2 => ?_⟩
  have r1 := (r1.2 hv).keep k2
  have r2 := r2.2 hv'
  unfold rLift at h2
  match hf : seqR2 d d', h2 with
  | some ds, h2 =>
    match d, d', hf, r1, r2 with
    | .int m, .int n, hf, r1, r2 =>
      cases r1; cases r2
      have hf : (if -(2 ^ 62) ≤ m ∧ m < 2 ^ 62 ∧ -(2 ^ 62) ≤ n ∧ n < 2 ^ 62 then some ((List.range (n - m).toNat).map fun i => IV.int (m + (i : Nat))) else none) = some ds := hf
      split at hf
      · rename_i hb
        cases hf
        exact ⟨m, n, rfl, hb, h2 _ H2 k2 (fun e => s2 (by simp [It.pure] at e; exact e.2)) S2 walkD_rng⟩
      · cases hf
end
end Mx


/-! Mx, part 4i: comprehensions. -/
namespace Mx
open PySem PySem.Spec PyProof.Rows L2
section
variable {C : Ct} {L O : List Addr} {σ σ' : L2.St} {ρ ρ' : List Sl} {H : Hp} {D : Addr}
/-- slots forgotten or told anew, all but those of tg as they were -/
theorem SRel.swap (S : SRel C L O σ ρ H) {tg : List Nat} (hl : σ'.length = σ.length) (hr : ρ'.length = ρ.length) (h1 : ∀ j, j ∉ tg → σ'[j]? = σ[j]? ∧ ρ'[j]? = ρ[j]?) (h2 : ∀ j r, j ∈ tg → ρ'[j]? = some r → r = .e) : SRel C L O σ' ρ' H := by
  refine ⟨by rw [hl, hr, S.len], fun i s r e1 e2 => ?_, S.lsub, S.sub, S.msub, S.live, fun i j r q a hij e1 e2 m1 m2 e3 e4 => ?_, S.frame⟩
  · by_cases hi : i ∈ tg
    · rw [h2 i r hi e2]; trivial
    · obtain ⟨z1, z2⟩ := h1 i hi
      rw [z1] at e1; rw [z2] at e2
      exact S.slot i s r e1 e2
  · have hi : i ∉ tg := fun z => by rw [h2 i r z e1] at m1; cases m1
    have hj : j ∉ tg := fun z => by rw [h2 j q z e2] at m2; cases m2
    rw [(h1 i hi).2] at e1
    rw [(h1 i hi).1] at e3
    rw [(h1 j hj).2] at e2
    rw [(h1 j hj).1] at e4
    exact S.apart i j r q a hij e1 e2 m1 m2 e3 e4
theorem clear_len : ∀ {tg : List Nat} {ρ : List Sl}, (clear tg ρ).length = ρ.length
  | [], ρ => rfl
  | i :: is, ρ => by unfold clear; rw [clear_len, List.length_set]
theorem clear_out : ∀ {tg : List Nat} {ρ : List Sl} {j : Nat}, j ∉ tg → (clear tg ρ)[j]? = ρ[j]?
  | [], ρ, j, _ => rfl
  | i :: is, ρ, j, h => by
    unfold clear
    rw [clear_out fun z => h (List.mem_cons_of_mem _ z), set_out (fun z : j = i => h (z ▸ List.mem_cons_self))]
theorem clear_in : ∀ {tg : List Nat} {ρ : List Sl} {j : Nat}, j ∈ tg → j < ρ.length → (clear tg ρ)[j]? = some .e
  | i :: is, ρ, j, h, hl => by
    unfold clear
    by_cases hj : j ∈ is
    · exact clear_in hj (by rw [List.length_set]; exact hl)
    · have e : j = i := (List.mem_cons.mp h).resolve_right hj
      subst e
      rw [clear_out hj, List.getElem?_set_self hl]
theorem clear_e {tg : List Nat} {ρ : List Sl} {j : Nat} {r : Sl} (h : j ∈ tg) (e : (clear tg ρ)[j]? = some r) : r = .e := by
  have hl : j < ρ.length := by have := (List.getElem?_eq_some_iff.mp e).1; rw [clear_len] at this; exact this
  rw [clear_in h hl] at e
  cases e; rfl
theorem empty_at {tg : List Nat} {ρ : List Sl} (h : empty tg ρ = true) {j : Nat} (hj : j ∈ tg) : ρ[j]? = some .e := by
  unfold empty at h
  rw [List.all_eq_true] at h
  have z := h j hj
  split at z
  · assumption
  · cases z
theorem empty_clear {tg : List Nat} {ρ : List Sl} (h : ∀ j ∈ tg, j < ρ.length) : empty tg (clear tg ρ) = true := by
  unfold empty
  rw [List.all_eq_true]
  intro j hj
  rw [clear_in hj (h j hj)]
theorem light_at {tg : List Nat} {ρ : List Sl} (h : light tg ρ = true) {j : Nat} (hj : j ∈ tg) : ∃ r, ρ[j]? = some r ∧ r.light = true := by
  unfold light at h
  rw [List.all_eq_true] at h
  have z := h j hj
  split at z
  · rename_i r e; exact ⟨r, e, z⟩
  · cases z
theorem back_len : ∀ {tg : List Nat} {ρ ρ' : List Sl}, (back tg ρ ρ').length = ρ'.length
  | [], ρ, ρ' => rfl
  | i :: is, ρ, ρ' => by
    unfold back
    rw [back_len]
    split
    · rw [List.length_set]
    · rfl
theorem back_out : ∀ {tg : List Nat} {ρ ρ' : List Sl} {j : Nat}, j ∉ tg → (back tg ρ ρ')[j]? = ρ'[j]?
  | [], ρ, ρ', j, _ => rfl
  | i :: is, ρ, ρ', j, h => by
    unfold back
    rw [back_out fun z => h (List.mem_cons_of_mem _ z)]
    split
    · rw [set_out (fun z : j = i => h (z ▸ List.mem_cons_self))]
    · rfl
theorem back_in : ∀ {tg : List Nat} {ρ ρ' : List Sl} {j : Nat}, j ∈ tg → ρ.length = ρ'.length → (back tg ρ ρ')[j]? = ρ[j]?
  | i :: is, ρ, ρ', j, h, hl => by
    unfold back
    by_cases hj : j ∈ is
    · refine back_in hj ?_
      split
      · rw [List.length_set]; exact hl
      · exact hl
    · have e : j = i := (List.mem_cons.mp h).resolve_right hj
      subst e
      rw [back_out hj]
      cases hr : ρ[j]? with
      | none =>
        rw [List.getElem?_eq_none_iff] at hr
        exact List.getElem?_eq_none (by rw [← hl]; exact hr)
      | some r =>
        have := (List.getElem?_eq_some_iff.mp hr).1
        rw [List.getElem?_set_self (by rw [← hl]; exact this)]
/-- out of the comprehension -/
theorem SRel.back {σ : L2.St} {ρ ρ' : List Sl} {H' : Hp} {tg : List Nat} (S0 : SRel C L O σ ρ H) (S : SRel C L O (wipe σ tg) ρ' H') (hl : light tg ρ = true) (k : Keep O H H') : SRel C L O σ (back tg ρ ρ') H' := by
  have ln : ρ.length = ρ'.length := by rw [← S0.len, ← S.len, wipe_length]
  have nm : ∀ {j : Nat} {r : Sl}, (Mx.back tg ρ ρ')[j]? = some r → r.mut.isSome = true → j ∉ tg := fun {j r} e m hj => by
    rw [back_in hj ln] at e
    obtain ⟨r', e', z⟩ := light_at hl hj
    rw [e] at e'
    cases e'
    cases r with
    | e => cases m
    | i d => cases m
    | o d => cases z
    | b d => cases z
  refine ⟨by rw [back_len, ← ln, S0.len], fun i s r e1 e2 => ?_, S.lsub, S.sub, S.msub, S.live, fun i j r q a hij e1 e2 m1 m2 e3 e4 => ?_, S.frame⟩
  · by_cases hi : i ∈ tg
    · rw [back_in hi ln] at e2
      obtain ⟨r', e', z⟩ := light_at hl hi
      rw [e2] at e'
      cases e'
      have q := S0.slot i s r e1 e2
      cases r with
      | e => trivial
      | i d => obtain ⟨v, ev, rp⟩ := q; exact ⟨v, ev, rp.keep k⟩
      | o d => cases z
      | b d => cases z
    · rw [back_out hi] at e2
      rw [← wipe_out hi] at e1
      exact S.slot i s r e1 e2
  · have hi := nm e1 m1
    have hj := nm e2 m2
    rw [back_out hi] at e1
    rw [back_out hj] at e2
    rw [← wipe_out hi] at e3
    rw [← wipe_out hj] at e4
    exact S.apart i j r q a hij e1 e2 m1 m2 e3 e4
theorem wipe_in : ∀ {tg : List Nat} {σ : L2.St} {j : Nat}, j ∈ tg → j < σ.length → (wipe σ tg)[j]? = some none
  | i :: is, σ, j, h, hl => by
    unfold wipe
    by_cases hj : j = i
    · subst hj
      rw [List.getElem?_set_self (by rw [wipe_length]; exact hl)]
    · rw [set_out hj]
      exact wipe_in ((List.mem_cons.mp h).resolve_left hj) hl
theorem wipe_eq {tg : List Nat} (hl : σ'.length = σ.length) (h : ∀ j, j ∉ tg → σ'[j]? = (wipe σ tg)[j]?) : wipe σ' tg = wipe σ tg := by
  apply List.ext_getElem?
  intro j
  by_cases hj : j ∈ tg
  · by_cases hi : j < σ.length
    · rw [wipe_in hj hi, wipe_in hj (by rw [hl]; exact hi)]
    · rw [List.getElem?_eq_none (by rw [wipe_length, hl]; omega), List.getElem?_eq_none (by rw [wipe_length]; omega)]
  · rw [wipe_out hj, h j hj]
/-- the context in which the object at D stands as o -/
def Ct.with (C : Ct) (D : Addr) (o : HO) : Ct := { C with O0 := D :: C.O0, H0 := upd C.H0 D o }
theorem SRel.hold {o : HO} (S : SRel C L (D :: O) σ ρ H) (hL : ∀ a ∈ L, a ∈ O) (hD : D ∉ O) (h0 : C.H0 D = none) (e : H D = some o) : SRel (C.with D o) L (D :: O) σ ρ H := by
  refine ⟨S.len, fun i s r e1 e2 => ?_, S.lsub, fun a ha => ?_, fun i a ha => List.mem_cons_of_mem _ (S.msub i a ha), S.live, S.apart, fun a o' e1 e2 => ?_⟩
  · have z := S.slot i s r e1 e2
    cases r with
    | e => trivial
    | i d => exact z
    | b d => exact z
    | o d =>
      obtain ⟨a, ea, n1, n2, n3, w⟩ := z
      have na : a ≠ D := fun z => hD (z ▸ hL a n1)
      refine ⟨a, ea, n1, fun z => ?_, ?_, w⟩
      · rcases List.mem_cons.mp z with z | z
        · exact na z
        · exact n2 z
      · show upd C.H0 D o a = none
        rw [upd_ne na]; exact n3
  · rcases List.mem_cons.mp ha with z | z
    · rw [z]; exact List.mem_cons_self
    · exact S.sub a z
  · have e1 : upd C.H0 D o a = some o' := e1
    by_cases ha : a = D
    · subst ha
      rw [upd_same] at e1
      cases e1
      exact e
    · rw [upd_ne ha] at e1
      exact S.frame a o' e1 e2
theorem SRel.unhold {o : HO} (S : SRel (C.with D o) L (D :: O) σ ρ H) (h0 : C.H0 D = none) (hD : D ∉ O) (hs : ∀ a ∈ C.O0, a ∈ O) (ms : ∀ (i : Nat) (a : Addr), C.M[i]? = some (some a) → a ∈ C.O0) : SRel C L (D :: O) σ ρ H ∧ H D = some o := by
  refine ⟨⟨S.len, fun i s r e1 e2 => ?_, S.lsub, fun a ha => List.mem_cons_of_mem _ (hs a ha), ms, S.live, S.apart, fun a o' e1 e2 => ?_⟩, ?_⟩
  · have z := S.slot i s r e1 e2
    cases r with
    | e => trivial
    | i d => exact z
    | b d => exact z
    | o d =>
      obtain ⟨a, ea, n1, n2, n3, w⟩ := z
      have na : a ≠ D := fun z => n2 (z ▸ List.mem_cons_self)
      refine ⟨a, ea, n1, fun z => n2 (List.mem_cons_of_mem _ z), ?_, w⟩
      have n3 : upd C.H0 D o a = none := n3
      rw [upd_ne na] at n3; exact n3
  · have na : a ≠ D := fun z => by rw [z, h0] at e1; cases e1
    exact S.frame a o' (show upd C.H0 D o a = some o' by rw [upd_ne na]; exact e1) e2
  · refine S.frame D o (show upd C.H0 D o D = some o from upd_same) fun z => ?_
    obtain ⟨i, hi⟩ := List.getElem?_of_mem z
    exact hD (hs D (ms i D hi))
theorem SRel.poke (S : SRel C L (D :: O) σ ρ H) (hL : ∀ a ∈ L, a ∈ O) (hs : ∀ a ∈ C.O0, a ∈ O) (hD : D ∉ O) (h0 : C.H0 D = none) (o : HO) : SRel C L (D :: O) σ ρ (upd H D o) := by
  have k : Keep (D :: O) H (upd H D o) := fun a o' n e => by rw [upd_ne (fun z : a = D => n (z ▸ List.mem_cons_self))]; exact e
  refine S.change (A := [D]) (fun a ha => ha) (fun a ha => ?_) (fun b o' n e => by rw [upd_ne (fun z : b = D => n (z ▸ List.mem_cons_self))]; exact e) (fun a ha => ?_) (fun vs ds r => r.keep k) rfl (fun j r h => .inl ⟨h, fun a m ea z => ?_⟩)
  · have e : a = D := by simpa using ha
    rw [e]; exact .inr h0
  · by_cases e : a = D
    · rw [e, upd_same]; exact fun z => nomatch z
    · rw [upd_ne e]; exact S.live a ha
  · have e : a = D := by simpa using z
    subst e
    have q := S.slot j _ r ea h
    cases r with
    | e => cases m
    | i d => cases m
    | o d => obtain ⟨b, eb, n1, _⟩ := q; cases eb; exact hD (hL _ n1)
    | b d => obtain ⟨b, eb, n1, _⟩ := q; cases eb; exact hD (hs _ (S.msub _ _ n1))
end
abbrev W0 : WX := fun _ _ _ _ => False
section
variable {T : Tab} {cs : CS} {k : Nat} {C : Ct} {W : WX} {N : List Str} {sc : Scope} {X : Cx}
theorem XOk.with (X' : XOk T cs k C W N sc X) (D : Addr) (o : HO) : XOk T cs k (C.with D o) W N sc X :=
  ⟨X'.hN, X'.nd, X'.visx, X'.glox, X'.frex, X'.calm, X'.gd, X'.room, X'.tk, X'.po, X'.CK, X'.facts⟩
theorem lookup_rel {env : Env} : ∀ (names : List (Str × NameKind)) (x : Str), (names.map fun (n, k) => if (k == NameKind.free && env.scope.kind == .function && env.kindOf n == some .cell) then (n, NameKind.cell) else (n, k)).lookup x =
    (names.lookup x).map fun k => if (k == NameKind.free && env.scope.kind == .function && env.kindOf x == some .cell) then NameKind.cell else k
  | [], x => rfl
  | (n, k) :: r, x => by
    have ih := @lookup_rel env r x
    show List.lookup x ((if (k == NameKind.free && env.scope.kind == .function && env.kindOf n == some .cell) = true then (n, NameKind.cell) else (n, k)) :: _) = _
    cases hx : x == n with
    | true =>
      have e : x = n := eq_of_beq hx
      subst e
      by_cases hc : (k == NameKind.free && env.scope.kind == .function && env.kindOf x == some .cell) = true
      · rw [if_pos hc]; simp only [List.lookup_cons, hx, Option.map_some]; rw [if_pos hc]
      · rw [if_neg hc]; simp only [List.lookup_cons, hx, Option.map_some]; rw [if_neg hc]
    | false =>
      by_cases hc : (k == NameKind.free && env.scope.kind == .function && env.kindOf n == some .cell) = true
      · rw [if_pos hc]; simp only [List.lookup_cons, hx]; exact ih
      · rw [if_neg hc]; simp only [List.lookup_cons, hx]; exact ih
theorem rel_keep {scope : Scope} {env : Env} {x : Str} {k : NameKind} (h : scope.names.lookup x = some k) (hk : (k == NameKind.free) = false) : (relabel scope env).names.lookup x = some k := by
  have z := lookup_rel (env := env) scope.names x
  rw [h] at z
  simp only [hk, Bool.false_and, Option.map_some] at z
  exact z
theorem rel_free {scope : Scope} {env : Env} {x : Str} (h : scope.names.lookup x = some .free) : (relabel scope env).names.lookup x = some .cell ∨ (relabel scope env).names.lookup x = some .free := by
  have z := lookup_rel (env := env) scope.names x
  rw [h, Option.map_some] at z
  split at z
  · exact .inl z
  · exact .inr z
theorem XOk.blk (X' : XOk T cs k C W N sc X) (s : Shared) (H : Hp) (scope : Scope) (cl : List (Str × Addr)) (B : Addr) (fp : List Addr) : XOk T cs k C W0 N scope (X.blk s H scope (compEnvC scope cl B X.env) fp) := by
  refine ⟨X'.hN, X'.nd, fun x h => ?_, fun x h => rel_keep h rfl, fun x h => ?_, X'.calm, X'.gd, X'.room, takes0, PassesOwn.never, X'.CK, X'.facts⟩
  · unfold visB at h
    split at h
    · rename_i e; exact .inl (rel_keep e rfl)
    · rename_i e; exact .inr (.inl (rel_keep e rfl))
    · rename_i e; exact .inr (rel_free e)
    · cases h
  · rcases h with e | e
    · exact .inl (rel_keep e rfl)
    · exact rel_free e
theorem sto_blk (X' : XOk T cs k C W N sc X) (s : Shared) (H : Hp) (scope : Scope) (cl : List (Str × Addr)) (B : Addr) (fp : List Addr) : Sto N scope (X.blk s H scope (compEnvC scope cl B X.env) fp) := fun i x h => by
  unfold storeB at h
  rw [Bool.and_eq_true, decide_eq_true_eq] at h
  obtain ⟨h1, h2⟩ := h
  refine ⟨by rw [← X'.hN] at h1; exact h1, ?_⟩
  unfold locB at h2
  split at h2
  · rename_i e; exact ⟨.inl (rel_keep e rfl), .inr (rel_keep e rfl)⟩
  · rename_i e
    refine ⟨.inr (rel_keep e rfl), .inl ?_⟩
    show (scope.names.lookup x == some .cell) = true
    rw [e]; rfl
  · cases h2
def tC (cs : CS) (C : Ct) (W : WX) (c : OE) : TT := tR C W c.pure (fun _ _ b a => b = a) (evC cs c)
theorem own_ix {N : List Str} : ∀ {tg : List Nat}, tg.all (fun i => decide (i < N.length)) = true → (tg.filterMap fun i => N[i]?.map fun n => (n, i)).map (·.2) = tg
  | [], _ => rfl
  | i :: is, h => by
    rw [List.all_cons, Bool.and_eq_true, decide_eq_true_eq] at h
    rw [List.filterMap_cons, List.getElem?_eq_getElem h.1]
    show i :: _ = i :: is
    rw [own_ix h.2]
theorem rBind_ok {α β : Type} {m : R α} {f : α → R β} {ρ ρ2 : List Sl} {b : β} (h : rBind m f ρ = some (.ok b, ρ2)) : ∃ a ρ1, m ρ = some (.ok a, ρ1) ∧ f a ρ1 = some (.ok b, ρ2) := by
  unfold rBind at h
  match hm : m ρ, h with
  | some (.ok a, ρ1), h => exact ⟨a, ρ1, rfl, h⟩
  | some (.error x, ρ1), h => cases h
theorem lc_read {CK : C.K = X.K} {tg : List Nat} {it : It} {c : OE} {e : E} (hv : e.isView = false) {σ : L2.St} {H : Hp} {Q : VK} (h : tE cs C W (.comp tg it c e) σ H Q) :
    tLc (tIt cs C W it) (gTg X.K tg) (fun σ H Q => ∃ D o, tC cs (C.with D o) W0 c σ H Q) (fun σ H Q => ∃ D o, tE cs (C.with D o) W0 e σ H Q) tg σ H Q := by
  obtain ⟨L, O, ρ, S, q⟩ := h
  refine ⟨L, O, ρ, S, Post.bind q fun ds ρ1 J H1 k1 s1 S1 w h1 => ?_⟩
  have pp : (E.comp tg it c e).pure = true → it.pure = true ∧ c.pure = true ∧ e.pure = true := fun z => by
    have z : (it.pure && c.pure && e.pure) = true := z
    rw [Bool.and_eq_true, Bool.and_eq_true] at z
    exact ⟨z.1.1, z.1.2, z.2⟩
  have h1 := Post.mono k1 (fun z => s1 (pp z).1) h1
  intro D hD
  unfold rList at h1
  by_cases hc : light tg ρ1 = true ∧ ds.length ≤ SZ
  case neg => rw [if_neg hc] at h1; exact h1.elim
  rw [if_pos hc] at h1
  obtain ⟨hli, hz⟩ := hc
  have hr : ∃ ys ρ2, rComp tg (evC cs c) (ev cs e).1 ds (clear tg ρ1) = some (.ok ys, ρ2) := by
    match hm : rComp tg (evC cs c) (ev cs e).1 ds (clear tg ρ1), h1 with
    | some (.ok ys, ρ2), _ => exact ⟨ys, ρ2, rfl⟩
    | some (.error x, ρ2), h1 => exact h1.elim
    | none, h1 => exact h1.elim
  obtain ⟨ys, ρ2, hr⟩ := hr
  have h1 : Post C L O σ W (E.comp tg it c e).pure (RlE C false O) H1 (some (.ok (.lst ys), back tg ρ1 ρ2)) Q := by
    rw [hr] at h1
    exact h1
  obtain ⟨G, Y, wk, hG, hY⟩ := w
  obtain ⟨f0, f1, f2⟩ := S1.fresh hD
  have tl : ∀ j ∈ tg, j < σ.length := fun j hj => by
    obtain ⟨r, e', _⟩ := light_at hli hj
    rw [S1.len]; exact (List.getElem?_eq_some_iff.mp e').1
  have he : empty tg (clear tg ρ1) = true := empty_clear fun j hj => by rw [← S1.len]; exact tl j hj
  have gr : ∀ {H' : Hp}, Keep O H1 H' → Grow O H1 (D :: O) H' := fun {H'} kk => ⟨kk, fun a ha => List.mem_cons_of_mem _ ha, fun a ha => by
    rcases List.mem_cons.mp ha with z | z
    · rw [z]; exact .inr hD
    · exact .inl z⟩
  refine lc_it (g := gTg X.K tg) (tt := fun σ H Q => ∃ D o, tC cs (C.with D o) W0 c σ H Q) (te := fun σ H Q => ∃ D o, tE cs (C.with D o) W0 e σ H Q) (vs := tg) (σ := σ) (H1 := H1) (D := D) (Qd := fun H => Q (.ref D) H) wk (fun i H => ∃ (ρi : List Sl) (acc : List IV) (vs : List V) (zs : List IV), ys = acc ++ zs ∧ rComp tg (evC cs c) (ev cs e).1 (ds.drop i) ρi = some (.ok zs, ρ2) ∧ SRel C L (D :: O) (wipe σ tg) ρi H ∧ empty tg ρi = true ∧ H D = some (.lst vs) ∧
    RepAll C.K C.cl (D :: O) H vs acc ∧ Keep O H1 H ∧ ((E.comp tg it c e).pure = true → Same H1 H) ∧ acc.length ≤ i) ?_ ?_ ?_ ?_
  · refine ⟨clear tg ρ1, [], [], ys, rfl, hr, ?_, he, upd_same, .nil, .same (same_new hD), fun _ => same_new hD, Nat.zero_le _⟩
    have S2 := S1.addO hD (same_new (o := HO.lst []) hD) (by rw [upd_same]; exact fun z => nomatch z)
    exact S2.swap (tg := tg) (wipe_length _ _) clear_len (fun j hj => ⟨wipe_out hj, clear_out hj⟩) fun j r hj e => clear_e hj e
  · rintro i H2 _ ⟨ρi, acc, vs, zs, _, _, _, _, _, _, kk, _⟩
    exact hG O H2 (.ofKeep kk)
  · rintro i x H2 H3 hi ⟨ρi, acc, vs, zs, ey, hrc, Si, ei, hd, ra, kk, ks, hal⟩ y
    have hdi : ds[i]? = some ds[i] := List.getElem?_eq_getElem hi
    obtain ⟨sm, rx⟩ := hY i (D :: O) H2 x H3 ds[i] (gr kk) Si.live hdi y
    have edr : ds.drop i = ds[i] :: ds.drop (i + 1) := List.drop_eq_getElem_cons hi
    rw [edr] at hrc
    obtain ⟨u, ρa, hta, hrc⟩ := rBind_ok hrc
    obtain ⟨t, ρb, htb, hrc⟩ := rBind_ok hrc
    rw [← CK]
    refine tg_read (Si.same sm) rx hta fun σ2 S2 hj hl => ⟨wipe_eq (by rw [hl, wipe_length]) hj, ?_⟩
    have hD3 : H3 D = some (.lst vs) := sm D _ hd
    have lsub : ∀ a ∈ L, a ∈ O := S1.lsub
    refine ⟨D, .lst vs, L, D :: O, ρa, S2.hold lsub f1 f0 hD3, ?_⟩
    rw [htb]
    intro b H4 k4 s4 S4 eb
    subst eb
    obtain ⟨S4, hD4⟩ := S4.unhold f0 f1 S1.sub S1.msub
    have len2 : σ2.length = σ.length := by rw [hl, wipe_length]
    have wp : ∀ {ρx : List Sl} {Hx : Hp}, SRel C L (D :: O) σ2 ρx Hx → SRel C L (D :: O) (wipe σ tg) (clear tg ρx) Hx ∧ empty tg (clear tg ρx) = true := fun {ρx Hx} Sx => by
      refine ⟨Sx.swap (tg := tg) (by rw [wipe_length, len2]) clear_len (fun j nj => ⟨(hj j nj).symm, clear_out nj⟩) fun j r hj e => clear_e hj e, empty_clear fun j hj => ?_⟩
      rw [← Sx.len, len2]
      exact tl j hj
    have kD : ∀ {Ha Hb : Hp}, Keep O H1 Ha → Keep (D :: O) Ha Hb → Keep O H1 Hb := fun {Ha Hb} ka kb a o n ea => kb a o (fun z => by
      rcases List.mem_cons.mp z with z | z
      · rw [z, hD] at ea; cases ea
      · exact n z) (ka a o n ea)
    have k3 : Keep O H1 H3 := fun a o n ea => sm a o (kk a o n ea)
    cases b with
    | false =>
      rw [if_neg Bool.false_ne_true] at hrc ⊢
      obtain ⟨_, ρc, hcl, hrc⟩ := rBind_ok hrc
      cases hcl
      obtain ⟨W1, W2⟩ := wp S4
      exact ⟨_, acc, vs, zs, ey, hrc, W1, W2, hD4, (ra.keep (.same sm)).keep k4, kD k3 k4, fun z => ((ks z).trans sm).trans (s4 (pp z).2.1), Nat.le_succ_of_le hal⟩
    | true =>
      rw [if_pos rfl] at hrc ⊢
      obtain ⟨y', ρc, hye, hrc⟩ := rBind_ok hrc
      obtain ⟨_, ρd, hcl, hrc⟩ := rBind_ok hrc
      cases hcl
      obtain ⟨zs', ρe, hrz, hrc⟩ := rBind_ok hrc
      cases hrc
      refine ⟨D, .lst vs, L, D :: O, ρb, S4.hold lsub f1 f0 hD4, ?_⟩
      rw [hye]
      intro yv H5 k5 s5 S5 ry
      obtain ⟨S5, hD5⟩ := S5.unhold f0 f1 S1.sub S1.msub
      refine ⟨vs, hD5, ?_, ?_⟩
      · rw [ra.length, sizeLine_eq]
        exact Nat.lt_of_le_of_lt hal (Nat.lt_of_lt_of_le hi hz)
      · obtain ⟨W1, W2⟩ := wp (S5.poke lsub S1.sub f1 f0 (.lst (vs ++ [yv])))
        have kp : Keep (D :: O) H5 (upd H5 D (.lst (vs ++ [yv]))) := fun a o n e => by rw [upd_ne (fun z : a = D => n (z ▸ List.mem_cons_self))]; exact e
        have rr : RepAll C.K C.cl (D :: O) H5 (vs ++ [yv]) (acc ++ [y']) := (((ra.keep (.same sm)).keep k4).keep k5).append (.cons (ry.2 hv) .nil)
        refine ⟨_, acc ++ [y'], vs ++ [yv], zs', by rw [ey, List.append_assoc]; rfl, hrz, W1, W2, upd_same, rr.keep kp, kD (kD (kD k3 k4) k5) kp, fun z => ?_, by rw [List.length_append]; exact Nat.succ_le_succ hal⟩
        have sx := (((ks z).trans sm).trans (s4 (pp z).2.1)).trans (s5 (pp z).2.2)
        intro a o ea
        rw [upd_ne (fun z => by rw [z, hD] at ea; cases ea)]
        exact sx a o ea
  · rintro H2 ⟨ρi, acc, vs, zs, ey, hrc, Si, ei, hd, ra, kk, ks, hal⟩
    rw [List.drop_length] at hrc
    cases hrc
    rw [List.append_nil] at ey
    subst ey
    have S2 := Si.dropO S1.lsub S1.sub
    have S3 : SRel C L O σ (back tg ρ1 ρ2) H2 := S1.back S2 hli kk
    have rp : Rep C.K C.cl O H2 (.ref D) (.lst ys) := .lstH (.inl hd) f1 (ra.less fun a ha => List.mem_cons_of_mem _ ha)
    exact h1 _ H2 kk ks S3 ⟨.inl rp, fun _ => rp⟩
theorem noSet_ok {iter : Expr} (h : noSet iter = true) (env : Env) (x : Value) : foldedSetIterable iter env x = pure x := by
  cases iter <;> first | rfl | cases h
theorem c_comp (X' : XOk T cs k C W N sc X) {tg : List Nat} {it : It} {c : OE} {e : E} {t iter elt : Expr} {ifs : List Expr} {scope : Scope} {pos : Pos} (hi : PI X t iter (tIt cs C W it)) (hs : noSet iter = true)
    (hb : blkC N sc scope (tg.filterMap fun i => N[i]?.map fun n => (n, i)) = true) (ht : tgB N scope tg t = true) (hc : ∀ C' X'', XOk T cs k C' W0 N scope X'' → PTs X'' ifs (tC cs C' W0 c)) (he : ∀ C' X'', XOk T cs k C' W0 N scope X'' → PE X'' elt (tE cs C' W0 e))
    (hv : e.isView = false) (hl : tg.all (fun i => decide (i < N.length)) = true) : PE X (.ListComp elt [⟨t, iter, ifs, 0⟩] scope pos) (tE cs C W (.comp tg it c e)) := by
  have ok := blkOk_by hb
  have ok : BlkOk X.N X.env.scope scope (tg.filterMap fun i => N[i]?.map fun n => (n, i)) := by
    rw [X'.hN]
    exact ⟨ok.kind, ok.uniq, ok.ix, fun y hy e => X'.frex _ (ok.free y hy e), ok.own⟩
  have z := pe_lc (X := X) (elt := elt) (tg := t) (ifs := ifs) (pos := pos) (te := fun σ H Q => ∃ D o, tE cs (C.with D o) W0 e σ H Q) (tt := fun σ H Q => ∃ D o, tC cs (C.with D o) W0 c σ H Q) (g := gTg X.K tg) X'.calm (by rw [X'.hN]; exact X'.nd) hi ok (fun s H B cl fp => pg_of (X := X.blk s H scope (compEnvC scope cl B X.env) fp) (show X.N.Nodup by rw [X'.hN]; exact X'.nd) X'.calm (sto_blk X' s H scope cl B fp) ht)
    (fun s H B cl fp => ⟨fun pins s' σ H' Q I ⟨D, o, q⟩ => (hc _ _ ((X'.blk s H scope cl B fp).with D o)).run pins s' σ H' Q I q⟩)
    (fun s H B cl fp => ⟨fun pins s' σ H' Q I ⟨D, o, q⟩ => (he _ _ ((X'.blk s H scope cl B fp).with D o)).run pins s' σ H' Q I q⟩) (fun x => noSet_ok hs _ x)
  rw [own_ix hl] at z
  exact z.imp fun σ H Q h => lc_read (CK := X'.CK) hv h
end
end Mx


/-! Mx, part 4j: calls by keyword, dicts. -/
namespace Mx
open PySem PySem.Spec PyProof.Rows L2
section
variable {T : Tab} {cs : CS} {k : Nat} {C : Ct} {W : WX} {N : List Str} {sc : Scope} {X : Cx}
def Es.len : Es → Nat
  | .nil => 0
  | .cons _ r => r.len + 1
theorem mEs_len : ∀ {es : Es} {xs : List Expr}, mEs T N es sc xs = true → xs.length = es.len
  | .nil, xs, h => by
    unfold mEs at h
    cases xs with
    | nil => rfl
    | cons y ys => cases h
  | .cons e r, [], h => by unfold mEs at h; cases h
  | .cons e r, y :: ys, h => by
    unfold mEs at h
    simp only [Bool.and_eq_true] at h
    show ys.length + 1 = r.len + 1
    rw [mEs_len h.1.1.2]
theorem evEs_len : ∀ {es : Es} {ρ ρ' : List Sl} {ds : List IV}, evEs cs es ρ = some (.ok ds, ρ') → ds.length = es.len
  | .nil, ρ, ρ', ds, h => by unfold evEs at h; cases h; rfl
  | .cons e r, ρ, ρ', ds, h => by
    unfold evEs at h
    obtain ⟨x, ρ1, _, h⟩ := bind_okC h
    obtain ⟨xs, ρ2, h2, h⟩ := bind_okC h
    cases h
    show xs.length + 1 = r.len + 1
    rw [evEs_len h2]
theorem pick_rep {O : List Addr} {H : Hp} {vs : List V} {ds : List IV} (r : RepAll C.K C.cl O H vs ds) : ∀ {is : List Nat} {es : List IV}, pick ds is = some es → ∃ rs, pick vs is = some rs ∧ RepAll C.K C.cl O H rs es
  | [], es, h => by cases h; exact ⟨[], rfl, .nil⟩
  | i :: is, es, h => by
    unfold pick at h ⊢
    cases h1 : ds[i]? with
    | none => rw [h1] at h; cases h
    | some d =>
      cases h2 : pick ds is with
      | none => rw [h1, h2] at h; cases h
      | some e2 =>
        rw [h1, h2] at h
        cases h
        obtain ⟨v, hv, rv⟩ := r.get h1
        obtain ⟨rs, hr, rr⟩ := pick_rep r h2
        exact ⟨v :: rs, by rw [hv, hr], .cons rv rr⟩
theorem pick_len {α : Type} {ds : List α} : ∀ {is : List Nat} {es : List α}, pick ds is = some es → es.length = is.length
  | [], es, h => by cases h; rfl
  | i :: is, es, h => by
    unfold pick at h
    cases h1 : ds[i]? with
    | none => rw [h1] at h; cases h
    | some d =>
      cases h2 : pick ds is with
      | none => rw [h1, h2] at h; cases h
      | some e2 =>
        rw [h1, h2] at h
        cases h
        show e2.length + 1 = is.length + 1
        rw [pick_len h2]
theorem argR_all {O : List Addr} {H : Hp} : ∀ {ms : List Bool} {vs : List V} {ds : List IV}, (∀ b ∈ ms, b = false) → ms.length = ds.length → RepAll C.K C.cl O H vs ds → ArgR C.K C.cl O H ms vs ds
  | [], _, _, _, _, .nil => trivial
  | b :: ms, _, _, h, hl, .cons r rr => by
    have e : b = false := h b List.mem_cons_self
    subst e
    exact ⟨r, argR_all (fun b hb => h b (List.mem_cons_of_mem _ hb)) (Nat.succ.inj hl) rr⟩
  | [], _, _, _, hl, .cons _ _ => nomatch hl
  | _ :: _, _, _, _, hl, .nil => nomatch hl
theorem filter_none : ∀ {l : List (Option Addr)}, (∀ a, some a ∉ l) → l.filterMap id = []
  | [], _ => rfl
  | none :: l, h => filter_none (l := l) fun a z => h a (List.mem_cons_of_mem _ z)
  | some a :: l, h => absurd List.mem_cons_self (h a)
theorem callK_read (CK : C.K = X.K) {f : Nat} {fn : Fn} {as bs : Es} {ks : List Str} {perm : List Nat} {n : Nat} (ha : as.noView = true) (hb : bs.noView = true) (hm : ∀ b ∈ fn.muts, b = false) (hl : fn.muts.length = fn.ps.length) (hp : perm.length = fn.ps.length) (hn : as.len = n) (hk : bs.len = ks.length)
    {σ : L2.St} {H : Hp} {Q : VK} (h : tE cs C W (.callK f as bs ks perm) σ H Q) :
    tEs cs C W as σ H fun vs H1 => vs.length = n ∧ tEs cs C W bs σ H1 fun zs H2 => zs.length = ks.length ∧ ∃ rs, pick (vs ++ zs) perm = some rs ∧ spF cs X.K C.cl f fn rs H2 Q (fun c d H' => W c d σ H') := by
  obtain ⟨L, O, ρ, S, q⟩ := h
  have pp : (E.callK f as bs ks perm).pure = true → as.pure = true ∧ bs.pure = true := fun z => by
    have z : (as.pure && bs.pure) = true := z
    rwa [Bool.and_eq_true] at z
  refine ⟨L, O, ρ, S, Post.bindE q fun ds ρ1 vs H1 hm1 k1 s1 S1 r1 h1 => ?_⟩
  have r1 := r1.2 ha
  refine ⟨by rw [r1.length, evEs_len hm1, hn], L, O, ρ1, S1, Post.bindE (Post.mono k1 (fun z => s1 (pp z).1) h1) fun es ρ2 zs H2 hm2 k2 s2 S2 r2 h2 => ?_⟩
  have h2 := Post.mono k2 (fun z => s2 (pp z).2) h2
  have r2 := r2.2 hb
  refine ⟨by rw [r2.length, evEs_len hm2, hk], ?_⟩
  unfold rCallK at h2
  match hd : pick (ds ++ es) perm, h2 with
  | some ws, h2 =>
    obtain ⟨rs, hrs, rr⟩ := pick_rep ((r1.keep k2).append r2) hd
    refine ⟨rs, hrs, ?_⟩
    have wl := pick_len hd
    have no := mutA_pure (vs := rs) hm
    rw [← CK]
    refine ⟨O, ws, S2.live, by rw [rr.length, wl, hp], argR_all hm (by rw [hl, wl, hp]) rr, by rw [filter_none no]; exact List.nodup_nil, ?_⟩
    have sm : ∀ {H' : Hp}, Fram H2 H' (mutA fn.muts rs) → Same H2 H' := fun fr a o e => fr a o e (no a)
    have h2 : Post C L O σ W (E.callK f as bs ks perm).pure (RlE C (E.callK f as bs ks perm).isView O) H2 ((match cs f ws with | none => none | some (r, _) => some (r, ρ2) : Out IV)) Q := h2
    match hc : cs f ws, h2 with
    | none, h2 => exact h2.elim
    | some (.ok d, ms), h2 =>
      show if fn.own = true then _ else _
      cases ho : fn.own with
      | true =>
        rw [if_pos rfl]
        intro p H' hp' fr mr w
        have np : p ∉ O := fun z => S2.live p z hp'
        have rp := Own.rep np (w.less fun a z => List.mem_cons_of_mem _ z)
        exact h2 _ H' (.same (sm fr)) (fun _ => sm fr) (S2.same (sm fr)) ⟨.inl rp, fun _ => rp⟩
      | false =>
        rw [if_neg Bool.false_ne_true]
        intro v H' fr mr rp
        exact h2 _ H' (.same (sm fr)) (fun _ => sm fr) (S2.same (sm fr)) ⟨.inl rp, fun _ => rp⟩
    | some (.error x, ms), h2 => exact fun c dd H' fr mr xr => h2 c dd H' (.same (sm fr)) (S2.same (sm fr)) xr
theorem kw_all : ∀ {ks : List Str} {kws : List Keyword} {env : Env} (pos : Pos), kwB ks kws = true → (backToKw pos (keywordEach kws env)).all (·.1.isSome) = true ∧ (backToKw pos (keywordEach kws env)).filterMap (·.1) = ks ∧ (backToKw pos (keywordEach kws env)).any (·.1.isNone) = false
  | [], [], env, pos, _ => ⟨rfl, rfl, rfl⟩
  | k :: ks, ⟨some a, v, p⟩ :: r, env, pos, h => by
    have h' : (decide (k = a) && kwB ks r) = true := h
    rw [Bool.and_eq_true, decide_eq_true_eq] at h'
    obtain ⟨h1, h2, h3⟩ := kw_all (env := env) pos h'.2
    obtain ⟨rfl, _⟩ := h'
    refine ⟨?_, ?_, ?_⟩
    · show (true && (backToKw pos (keywordEach r env)).all (·.1.isSome)) = true
      rw [h1]; rfl
    · show k :: (backToKw pos (keywordEach r env)).filterMap (·.1) = k :: ks
      rw [h2]
    · show (false || (backToKw pos (keywordEach r env)).any (·.1.isNone)) = false
      rw [h3]; rfl
  | [], _ :: _, _, _, h => nomatch h
  | _ :: _, [], _, _, h => nomatch h
  | _ :: _, ⟨none, _, _⟩ :: _, _, _, h => nomatch h
theorem kw_len : ∀ {ks : List Str} {kws : List Keyword}, kwB ks kws = true → (kwVals kws).length = ks.length
  | [], [], _ => rfl
  | k :: ks, ⟨some a, v, p⟩ :: r, h => by
    have h' : (decide (k = a) && kwB ks r) = true := h
    rw [Bool.and_eq_true] at h'
    show (kwVals r).length + 1 = ks.length + 1
    rw [kw_len h'.2]
  | [], _ :: _, h => nomatch h
  | _ :: _, [], h => nomatch h
  | _ :: _, ⟨none, _, _⟩ :: _, h => nomatch h
theorem _root_.L2.PK.imp {e : List Keyword} {t t' : TA} (h : PK X e t) (hi : ∀ σ H Q, t' σ H Q → t σ H Q) : PK X e t' := ⟨fun pos pins s σ H Q I q => h.run pos pins s σ H Q I (hi σ H Q q)⟩
theorem c_knil : PK X [] (tEs cs C W .nil) := pk_nil.imp fun σ H Q ⟨L, O, ρ, S, q⟩ => Post.ok q S ⟨trivial, fun _ => .nil⟩
theorem c_kcons {e : E} {r : Es} {nm : Option Str} {y : Expr} {kp : Pos} {kws : List Keyword} (hv : e.isView = true → r.pure = true) (he : PE X y (tE cs C W e)) (hr : PK X kws (tEs cs C W r)) : PK X (⟨nm, y, kp⟩ :: kws) (tEs cs C W (.cons e r)) :=
  (pk_cons he hr).imp fun σ H Q h => cons_read hv h
theorem tEs_nil {σ : L2.St} {H : Hp} {Q : List V → Hp → Prop} (h : tEs cs C W .nil σ H Q) : tNil σ H Q := by
  obtain ⟨L, O, ρ, S, q⟩ := h
  exact Post.ok q S ⟨trivial, fun _ => .nil⟩
theorem c_callK (X' : XOk T cs k C W N sc X) {f : Nat} {fn : Fn} {as bs : Es} {ks : List Str} {perm : List Nat} {xs : List Expr} {kws : List Keyword} {y : Str} {p q : Pos} (hT : T.fns f = some fn) (hy : y = fn.name) (hg : gloB sc y = true) (hkw : kwB ks kws = true) (hma : mEs T N as sc xs = true) (hmb : mEs T N bs sc (kwVals kws) = true)
    (ha : as.noView = true) (hb : bs.noView = true) (hm : fn.muts.all (fun b => !b) = true) (hl : fn.muts.length = fn.ps.length) (hin : (xs.length, ks, perm) ∈ fn.kws) (hp : perm.length = fn.ps.length) (hd : (y == ("__debug__" : Str)) = false)
    (pa : PA X xs (tEs cs C W as)) (pk : PK X kws (tEs cs C W bs)) : PE X (.Call (.Name y p) xs kws q) (tE cs C W (.callK f as bs ks perm)) := by
  obtain ⟨a, fd, hm', hkp, _, hkw', F⟩ := X'.facts.fns f fn hT
  have g := X'.gl hg
  subst hy
  obtain ⟨k1, k2, k3⟩ := kw_all (env := X.env) q hkw
  have hmu : ∀ b ∈ fn.muts, b = false := fun b hb => by
    rw [List.all_eq_true] at hm
    have z := hm b hb
    simpa using z
  have rd : ∀ {σ H Q}, tE cs C W (.callK f as bs ks perm) σ H Q → _ := fun {σ H Q} h => callK_read (X := X) X'.CK ha hb hmu hl hp (mEs_len hma).symm (by rw [← mEs_len hmb, kw_len hkw]) h
  cases xs with
  | nil =>
    have e : as = .nil := by
      cases as with
      | nil => rfl
      | cons e r => unfold mEs at hma; cases hma
    subst e
    refine (pe_callRK (n := 0) (t := tNil) F X'.gd X'.room X'.tk g hm' hkp (hkw' _ hin) rfl pa_nil pk rfl hd k1 k2 k3 (fun _ => rfl)).imp fun σ H Q h => ?_
    exact tEs_nil (rd h)
  | cons x xs => exact (pe_callRK (n := (x :: xs).length) F X'.gd X'.room X'.tk g hm' hkp (hkw' _ hin) rfl pa pk (all_star hma) hd k1 k2 k3 (fun z => nomatch z)).imp fun σ H Q h => rd h
/-! ### a dict -/
def tKey (kk : Key) : TE := fun _ H Q => Q (kV kk) H
def trsOf (cs : CS) (C : Ct) (W : WX) : List Key → Es → List (TE × TE)
  | kk :: ks, .cons e r => (tKey kk, fun σ H Q => ∃ D o, tE cs (C.with D o) W e σ H Q) :: trsOf cs C W ks r
  | _, _ => []
theorem pairs_read {D : Addr} {o : HO} {L O : List Addr} {σ : L2.St} : ∀ {es : Es} {ks : List Key} {ρ : List Sl} {H : Hp} {pr : Bool} {Q : List (V × V) → Hp → Prop}, es.noView = true → ks.length = es.len → (pr = true → es.pure = true) → SRel (C.with D o) L O σ ρ H →
    Post (C.with D o) L O σ W pr (RlEs (C.with D o) true O) H (evEs cs es ρ) (fun vs H' => Q ((ks.map kV).zip vs) H') → tPairs (trsOf cs C W ks es) σ H Q
  | .nil, [], ρ, H, pr, Q, _, _, _, S, q => by
    have q : Post (C.with D o) L O σ W pr (RlEs (C.with D o) true O) H (some (.ok [], ρ)) (fun vs H' => Q ((([] : List Key).map kV).zip vs) H') := q
    have z := Post.ok (v := ([] : List V)) q S ⟨trivial, fun _ => .nil⟩
    exact z
  | .cons e r, kk :: ks, ρ, H, pr, Q, hv, hl, hp, S, q => by
    have hv' : (!e.isView && r.noView) = true := hv
    rw [Bool.and_eq_true, Bool.not_eq_true'] at hv'
    have hp' : pr = true → e.pure = true ∧ r.pure = true := fun z => by
      have z' : (e.pure && r.pure) = true := hp z
      rwa [Bool.and_eq_true] at z'
    refine ⟨D, o, L, O, ρ, S, Post.bind q fun x ρ1 v H1 k1 s1 S1 r1 h1 => ?_⟩
    have h1 := Post.mono k1 (fun z => s1 (hp' z).1) h1
    refine pairs_read (pr := pr) hv'.2 (Nat.succ.inj hl) (fun z => (hp' z).2) S1 ?_
    refine Post.bind (pr := pr) (Q1 := fun vs H' => Q ((kV kk, v) :: (ks.map kV).zip vs) H') h1 fun xs ρ2 vs H2 k2 s2 S2 r2 h2 => ?_
    have h2 := Post.mono k2 s2 h2
    exact Post.ok (v := v :: vs) h2 S2 ⟨⟨.inl ((r1.2 hv'.1).keep k2), r2.1⟩, fun _ => .cons ((r1.2 hv'.1).keep k2) (r2.2 rfl)⟩
  | .nil, _ :: _, _, _, _, _, _, hl, _, _, _ => nomatch hl
  | .cons _ _, [], _, _, _, _, _, hl, _, _, _ => nomatch hl
theorem merge_new : ∀ {kvs acc : List (Key × V)}, ((acc ++ kvs).map (·.1)).Nodup → mergeK acc kvs = acc ++ kvs
  | [], acc, _ => by unfold mergeK; simp
  | (kk, v) :: r, acc, h => by
    have hk : valV acc kk = none := by
      cases hv : valV acc kk with
      | none => rfl
      | some x =>
        have z : (acc.any fun kv => decide (kv.1 = kk)) = true := by rw [valV_any, hv]; rfl
        rw [List.any_eq_true] at z
        obtain ⟨y, hy, he⟩ := z
        rw [decide_eq_true_eq] at he
        rw [List.map_append, List.nodup_append] at h
        exact absurd he (h.2.2 y.1 (List.mem_map.mpr ⟨y, hy, rfl⟩) kk (List.mem_map.mpr ⟨(kk, v), List.mem_cons_self, rfl⟩))
    show mergeK (putK acc kk v) r = _
    rw [putK_new v hk, merge_new (by rw [List.append_assoc]; exact h), List.append_assoc]
    rfl
theorem zip_fst {α β : Type} : ∀ {xs : List α} {ys : List β}, xs.length = ys.length → (xs.zip ys).map (·.1) = xs
  | [], [], _ => rfl
  | x :: xs, y :: ys, h => by show x :: (xs.zip ys).map (·.1) = _; rw [zip_fst (Nat.succ.inj h)]
theorem zip_snd {α β : Type} : ∀ {xs : List α} {ys : List β}, xs.length = ys.length → (xs.zip ys).map (·.2) = ys
  | [], [], _ => rfl
  | x :: xs, y :: ys, h => by show y :: (xs.zip ys).map (·.2) = _; rw [zip_snd (Nat.succ.inj h)]
theorem zip_key : ∀ {ks : List Key} {vs : List V}, (ks.map kV).zip vs = (ks.zip vs).map fun kv => (kV kv.1, kv.2)
  | [], _ => rfl
  | _ :: _, [] => rfl
  | kk :: ks, v :: vs => by show (kV kk, v) :: (ks.map kV).zip vs = _; rw [zip_key]; rfl
theorem dct_read {ks : List Key} {es : Es} (hv : es.noView = true) (hl : ks.length = es.len) (h15 : ks.length ≤ 15) (hn : ks.Nodup) {σ : L2.St} {H : Hp} {Q : VK} (h : tE cs C W (.dct ks es) σ H Q) : tDisp (trsOf cs C W ks es) σ H Q := by
  obtain ⟨L, O, ρ, S, q⟩ := h
  have q : Post C L O σ W es.pure (RlE C false O) H ((rBind (evEs cs es) fun xs => rPure (.dct (ks.zip xs))) ρ) Q := q
  intro p hp
  obtain ⟨f0, f1, f2⟩ := S.fresh hp
  have sm := same_new (o := HO.dK []) hp
  have S1 := (S.addO hp sm (by rw [upd_same]; exact fun z => nomatch z)).hold S.lsub f1 f0 upd_same
  have kO : ∀ {H' : Hp}, Keep (p :: O) (upd H p (.dK [])) H' → Keep O H H' := fun kk a o n e => kk a o (fun z => by
    rcases List.mem_cons.mp z with z | z
    · rw [z, hp] at e; cases e
    · exact n z) (sm a o e)
  refine pairs_read (pr := es.pure) hv hl (fun z => z) S1 ?_
  unfold rBind at q
  match hm : evEs cs es ρ, q with
  | none, q => exact q.elim
  | some (.error x, ρ1), q =>
    intro c dd H' k' S' xr
    obtain ⟨S', _⟩ := S'.unhold f0 f1 S.sub S.msub
    refine q c dd H' (kO k') (S'.dropO S.lsub S.sub) ?_
    obtain ⟨A, h1, h2, h3⟩ := xr
    refine ⟨A, h1, h2, h3.imp (fun z => z) fun ⟨d, fs, e1, n, e2, r⟩ => ⟨d, fs, e1, fun z => n (List.mem_cons_of_mem _ z), e2, r.less fun a z => List.mem_cons_of_mem _ z⟩⟩
  | some (.ok ds, ρ1), q =>
    intro vs H2 k2 s2 S2 r2
    obtain ⟨S2, hp2⟩ := S2.unhold f0 f1 S.sub S.msub
    have ra : RepAll C.K C.cl (p :: O) H2 vs ds := r2.2 rfl
    have l1 : ks.length = ds.length := by rw [evEs_len hm, hl]
    have l2 : ks.length = vs.length := by rw [ra.length, l1]
    refine ⟨hp2, ks.zip vs, zip_key, by rw [List.length_zip, ← l2, Nat.min_self]; exact h15, ?_⟩
    rw [merge_new (by rw [List.nil_append, zip_fst l2]; exact hn), List.nil_append]
    have kp : Keep (p :: O) H2 (upd H2 p (.dK (ks.zip vs))) := fun a o n e => by rw [upd_ne (fun z : a = p => n (z ▸ List.mem_cons_self))]; exact e
    have rp : Rep C.K C.cl O (upd H2 p (.dK (ks.zip vs))) (.ref p) (.dct (ks.zip ds)) :=
      .dctH (.inl upd_same) f1 (by rw [zip_fst l1, zip_fst l2]) (by rw [zip_snd l1, zip_snd l2]; exact (ra.keep kp).less fun a z => List.mem_cons_of_mem _ z)
    refine q _ _ (kO (k2.trans kp)) (fun z => ?_) ((S2.poke S.lsub S.sub f1 f0 _).dropO S.lsub S.sub) ⟨.inl rp, fun _ => rp⟩
    intro a o e
    rw [upd_ne (fun z : a = p => by rw [z, hp] at e; cases e)]
    exact s2 z a o (sm a o e)
theorem keysB_ok : ∀ {keys : List (Option Expr)} {ks : List Key}, keysB keys ks = true → keys.all (·.isSome) = true ∧ keys.length = ks.length
  | [], [], _ => ⟨rfl, rfl⟩
  | some x :: xs, kk :: ks, h => by
    have h' : (keyB x kk && keysB xs ks) = true := h
    rw [Bool.and_eq_true] at h'
    obtain ⟨h1, h2⟩ := keysB_ok h'.2
    exact ⟨by rw [List.all_cons, h1]; rfl, by rw [List.length_cons, h2]; rfl⟩
  | [], _ :: _, h => nomatch h
  | some _ :: _, [], h => nomatch h
  | none :: _, [], h => nomatch h
  | none :: _, _ :: _, h => nomatch h
theorem key_ok {x : Expr} {kk : Key} (h : keyB x kk = true) : PE X x (tKey kk) := by
  match x, kk, h with
  | .Constant (.int a) _ _, .inl b, h =>
    have e : a = b := by simpa [keyB] using h
    subst e
    exact pe_int.imp fun σ H Q h => h
  | .Constant (.str a) _ _, .inr b, h =>
    have e : a = b := by simpa [keyB] using h
    subst e
    exact pe_str.imp fun σ H Q h => h
/-! ### a test by its value's truth -/
def plainT : Expr → Bool
  | .UnaryOp .Not _ _ => false
  | .BoolOp _ _ _ => false
  | .IfExp _ _ _ _ => false
  | .Compare _ _ _ _ => false
  | _ => true
theorem c_tru (X' : XOk T cs k C W N sc X) {e : E} {y : Expr} (hp : plainT y = true) (h2 : (ev cs e).2 = rBind (ev cs e).1 fun d => rLift (truD d)) (he : PE X y (tE cs C W e)) : PT X y (tT cs C W e) := by
  refine (pt_truth he (fun whole => ?_)).imp fun σ H Q h => ?_
  · cases y with
    | UnaryOp o a p => cases o <;> first | rfl | cases hp
    | BoolOp => cases hp
    | IfExp => cases hp
    | Compare => cases hp
    | _ => rfl
  · rw [← X'.CK]
    have h : tR C W e.pure (fun _ _ b a => b = a) (ev cs e).2 σ H Q := h
    rw [h2] at h
    exact truth_ok rfl h
end
end Mx


/-! Mx, part 4k: every expression. -/
namespace Mx
open PySem PySem.Spec PyProof.Rows L2
section
variable {T : Tab} {cs : CS} {k : Nat} {N : List Str}
theorem bnot {b : Bool} (h : (!b) = true) : b = false := by cases b <;> first | rfl | cases h
theorem bimp {a b : Bool} (h : (!a || b) = true) : a = true → b = true := fun z => by rw [z] at h; simpa using h
theorem bimp2 {a b c : Bool} (h : (!a || (b && c)) = true) : a = true → b = true ∧ c = true := fun z => by rw [z] at h; simpa using h
theorem both {C : Ct} {W : WX} {sc : Scope} {X : Cx} (X' : XOk T cs k C W N sc X) {e : E} {y : Expr} (hp : plainT y = true) (h2 : (ev cs e).2 = rBind (ev cs e).1 fun d => rLift (truD d)) (z : PE X y (tE cs C W e)) : PE X y (tE cs C W e) ∧ (e.tst = true → PT X y (tT cs C W e)) :=
  ⟨z, fun _ => c_tru X' hp h2 z⟩
mutual
theorem sE : ∀ (e : E) {C : Ct} {W : WX} {sc : Scope} {X : Cx} (X' : XOk T cs k C W N sc X) {x : Expr}, mE T N e sc x = true → PE X x (tE cs C W e) ∧ (e.tst = true → PT X x (tT cs C W e))
  | .var i, C, W, sc, X, X', x, h => by
    unfold mE at h
    split at h
    · exact both X' rfl rfl (c_var X' h)
    · cases h
  | .view i, C, W, sc, X, X', x, h => by
    unfold mE at h
    split at h
    · exact both X' rfl rfl (c_view X' h)
    · cases h
  | .cst d, C, W, sc, X, X', x, h => by
    unfold mE at h
    split at h
    · exact both X' rfl rfl (c_cst h)
    · cases h
  | .glo y d, C, W, sc, X, X', x, h => by
    unfold mE at h
    split at h
    · simp only [Bool.and_eq_true, decide_eq_true_eq] at h
      exact both X' rfl rfl (c_glo X' h.1.1.1 h.1.1.2 h.1.2 (bnot h.2))
    · cases h
  | .bin o a b, C, W, sc, X, X', x, h => by
    unfold mE at h
    split at h
    · simp only [Bool.and_eq_true, decide_eq_true_eq] at h
      obtain ⟨⟨⟨rfl, h1⟩, h2⟩, h3⟩ := h
      exact both X' rfl rfl (c_bin X' (o := o) (bimp h3) (sE a X' h1).1 (sE b X' h2).1)
    · cases h
  | .neg a, C, W, sc, X, X', x, h => by
    unfold mE at h
    split at h
    · exact both X' rfl rfl (c_neg (sE a X' h).1)
    · cases h
  | .cmp o a b, C, W, sc, X, X', x, h => by
    unfold mE at h
    split at h
    · simp only [Bool.and_eq_true, decide_eq_true_eq] at h
      obtain ⟨⟨⟨⟨rfl, h1⟩, h2⟩, h3⟩, h4⟩ := h
      exact ⟨c_cmp X' (bimp h3) h4 (sE a X' h1).1 (sE b X' h2).1, fun _ => c_cmpT X' (bimp h3) h4 (sE a X' h1).1 (sE b X' h2).1⟩
    · cases h
  | .chn o o' a b c, C, W, sc, X, X', x, h => by
    unfold mE at h
    split at h
    · simp only [Bool.and_eq_true, decide_eq_true_eq] at h
      obtain ⟨⟨⟨⟨⟨⟨⟨rfl, rfl⟩, h1⟩, h2⟩, h3⟩, h4⟩, h5⟩, h6⟩ := h
      exact ⟨c_chn X' (bnot h4) (bnot h5) h6 (sE a X' h1).1 (sE b X' h2).1 (sE c X' h3).1, fun _ => c_chnT X' (bnot h4) (bnot h5) h6 (sE a X' h1).1 (sE b X' h2).1 (sE c X' h3).1⟩
    · cases h
  | .and es, C, W, sc, X, X', x, h => by
    unfold mE at h
    split at h
    · rw [Bool.and_eq_true] at h
      exact ⟨(sEs es X' h.1).2.2.2.1 h.2 _, fun t => ((sEs es X' h.1).2.2.2.2.2.1 t _).pt⟩
    · cases h
  | .or es, C, W, sc, X, X', x, h => by
    unfold mE at h
    split at h
    · rw [Bool.and_eq_true] at h
      exact ⟨(sEs es X' h.1).2.2.2.2.1 h.2 _, fun t => ((sEs es X' h.1).2.2.2.2.2.2 t _).pt⟩
    · cases h
  | .not a, C, W, sc, X, X', x, h => by
    unfold mE at h
    split at h
    · exact ⟨c_not (sE a X' h).1, fun t => c_notT ((sE a X' h).2 t)⟩
    · cases h
  | .ite c a b, C, W, sc, X, X', x, h => by
    unfold mE at h
    split at h
    · simp only [Bool.and_eq_true] at h
      obtain ⟨⟨⟨⟨⟨h1, h2⟩, h3⟩, h4⟩, h5⟩, h6⟩ := h
      exact ⟨c_ite (bnot h5) (bnot h6) ((sE c X' h1).2 h2) (sE a X' h3).1 (sE b X' h4).1, fun t => nomatch t⟩
    · cases h
  | .ix a b, C, W, sc, X, X', x, h => by
    unfold mE at h
    split at h
    · simp only [Bool.and_eq_true] at h
      obtain ⟨⟨⟨h1, h2⟩, h3⟩, h4⟩ := h
      exact both X' rfl rfl (c_ix X' (bimp h4) h3 (sE a X' h1).1 (sE b X' h2).1)
    · cases h
  | .sl a lo hi, C, W, sc, X, X', x, h => by
    unfold mE at h
    split at h
    · simp only [Bool.and_eq_true] at h
      obtain ⟨⟨⟨h1, h2⟩, h3⟩, h4⟩ := h
      exact both X' rfl rfl (c_sl X' (bimp2 h4) (sE a X' h1).1 ((sO lo X' trivial).1 h2) ((sO hi X' trivial).1 h3))
    · cases h
  | .lst es, C, W, sc, X, X', x, h => by
    unfold mE at h
    split at h
    · rw [Bool.and_eq_true] at h
      exact both X' rfl rfl (c_lst h.2 (sEs es X' h.1).1)
    · cases h
  | .tup es, C, W, sc, X, X', x, h => by
    unfold mE at h
    split at h
    · rw [Bool.and_eq_true] at h
      exact both X' rfl rfl (c_tup h.2 (sEs es X' h.1).1)
    · cases h
  | .dct ks es, C, W, sc, X, X', x, h => by
    unfold mE at h
    split at h
    · rename_i keys vals p
      simp only [Bool.and_eq_true, decide_eq_true_eq] at h
      obtain ⟨⟨⟨⟨⟨⟨⟨h1, h2⟩, h3⟩, h4⟩, h5⟩, h6⟩, h7⟩, h8⟩ := h
      obtain ⟨k1, k2⟩ := keysB_ok h1
      have z : PE X (.Dict keys vals p) (tE cs C W (.dct ks es)) := by
        refine (pe_disp ((sEs es X' h2).2.2.1 keys ks p h1 (by rw [h4, mEs_len h2])) k1 (by rw [k2, h4]) (fun e => by rw [e] at k2; exact absurd k2.symm (Nat.ne_of_gt h5)) (by rw [k2]; exact h6)).imp fun σ H Q h => ?_
        exact dct_read h3 (by rw [h4, mEs_len h2]) h6 h7 h
      exact ⟨z, fun _ => c_tru X' rfl rfl z⟩
    · cases h
  | .fn f es, C, W, sc, X, X', x, h => by
    unfold mE at h
    split at h
    · simp only [Bool.and_eq_true, decide_eq_true_eq] at h
      obtain ⟨⟨⟨⟨h1, h2⟩, h3⟩, h4⟩, h5⟩ := h
      exact both X' rfl rfl (c_fn X' h1 h2 h3 h4 (all_star h5) (sEs es X' h5).1)
    · cases h
  | .isi a t, C, W, sc, X, X', x, h => by
    unfold mE at h
    split at h
    · simp only [Bool.and_eq_true, decide_eq_true_eq] at h
      obtain ⟨⟨⟨⟨⟨⟨⟨⟨h1, h2⟩, h3⟩, h4⟩, h5⟩, h6⟩, h7⟩, h8⟩, h9⟩ := h
      exact both X' rfl rfl (c_isi X' h1 h2 h3 h5 h6 h7 h8 h9 (sE a X' h4).1)
    · cases h
  | .mt m a es, C, W, sc, X, X', x, h => by
    unfold mE at h
    split at h
    · rename_i o y p xs q
      simp only [Bool.and_eq_true, decide_eq_true_eq] at h
      obtain ⟨⟨⟨⟨⟨⟨⟨h1, h2⟩, h3⟩, h4⟩, h5⟩, h6⟩, h7⟩, h8⟩ := h
      have z : PE X (.Call (.Attribute o y p) xs [] q) (tE cs C W (.mt m a es)) := by
        match es, xs, h4, h8 with
        | .nil, [], h4, h8 =>
          have e : m = .upper := by cases m <;> first | rfl | cases h8
          subst e
          exact c_mt0 X' h1 h5 h6 (sE a X' h3).1
        | .cons b .nil, [w], h4, h8 =>
          unfold mEs at h4
          simp only [Bool.and_eq_true] at h4
          exact c_mt1 X' h1 h2 (fun e => by rw [e] at h8; cases h8) h5 h6 (bnot h7) h4.1.2 (sE a X' h3).1 (sE b X' h4.1.1.1).1
        | .cons b (.cons c r), [w], h4, h8 =>
          have z := mEs_len h4
          exact absurd z.symm (by unfold Es.len Es.len; simp)
        | .nil, w :: ws, h4, h8 => exact absurd (mEs_len h4) (by unfold Es.len; simp)
        | .cons b r, [], h4, h8 => exact absurd (mEs_len h4).symm (by unfold Es.len; simp)
        | .cons b r, w :: w' :: ws, h4, h8 =>
          have z : mtAr m ≤ 1 := by cases m <;> decide
          rw [← h8] at z
          exact absurd z (by simp)
      exact ⟨z, fun _ => c_tru X' rfl rfl z⟩
    · cases h
  | .call f as, C, W, sc, X, X', x, h => by
    unfold mE at h
    split at h
    · split at h
      · rename_i fn hT
        simp only [Bool.and_eq_true, decide_eq_true_eq] at h
        obtain ⟨⟨⟨⟨⟨⟨⟨h1, h2⟩, h3⟩, h4⟩, h5⟩, h6⟩, h7⟩, h8⟩ := h
        refine both X' rfl rfl (c_call X' hT h1 h2 h4 h5 (by rw [h7, h6]) (bnot h8) (as_star h3) (sAs as X' h3) (fun e => ?_))
        subst e
        cases as with
        | nil => rfl
        | v e r => unfold mAs at h3; cases h3
        | m i r => unfold mAs at h3; cases h3
      · cases h
    · cases h
  | .callK f as bs ks perm, C, W, sc, X, X', x, h => by
    unfold mE at h
    split at h
    · split at h
      · rename_i fn hT
        simp only [Bool.and_eq_true, decide_eq_true_eq] at h
        obtain ⟨⟨⟨⟨⟨⟨⟨⟨⟨⟨⟨h1, h2⟩, h3⟩, h4⟩, h5⟩, h6⟩, h7⟩, h8⟩, h9⟩, h10⟩, h11⟩, h12⟩ := h
        exact both X' rfl rfl (c_callK X' hT h1 h2 h3 h4 h5 h6 h7 h8 h9 h10 h11 (bnot h12) (sEs as X' h4).1 ((sEs bs X' h5).2.1 _ rfl))
      · cases h
    · cases h
  | .comp tg it c e, C, W, sc, X, X', x, h => by
    unfold mE at h
    split at h
    · simp only [Bool.and_eq_true, decide_eq_true_eq] at h
      obtain ⟨⟨⟨⟨⟨⟨⟨⟨h1, h2⟩, h3⟩, h4⟩, h5⟩, h6⟩, h7⟩, h8⟩, h9⟩ := h
      exact both X' rfl rfl (c_comp X' (sIt it X' h1) h2 h3 h4 (fun C' X'' Y => (sO c (x := none) Y trivial).2 h5) (fun C' X'' Y => (sE e Y h6).1) (bnot h7) h8)
    · cases h
theorem sO : ∀ (o : OE) {C : Ct} {W : WX} {sc : Scope} {X : Cx} (X' : XOk T cs k C W N sc X) {x : Option Expr}, True → (mO T N o sc x = true → PO X x (tO cs C W o)) ∧ ∀ {xs : List Expr}, mC T N o sc xs = true → PTs X xs (tC cs C W o)
  | .no, C, W, sc, X, X', x, _ => by
    refine ⟨fun h => ?_, fun {xs} h => ?_⟩
    · unfold mO at h
      cases x with
      | none => exact c_no
      | some y => cases h
    · unfold mC at h
      cases xs with
      | nil => exact ⟨fun pins s σ H Q I ⟨L, O, ρ, S, q⟩ => pts_nil.run pins s σ H Q I (Post.ok q S rfl)⟩
      | cons y ys => cases h
  | .yes e, C, W, sc, X, X', x, _ => by
    refine ⟨fun h => ?_, fun {xs} h => ?_⟩
    · unfold mO at h
      split at h
      · exact c_yes (sE e X' h).1
      · cases h
    · unfold mC at h
      split at h
      · rw [Bool.and_eq_true] at h
        exact pts_one ((sE e X' h.1).2 h.2)
      · cases h
theorem sEs : ∀ (es : Es) {C : Ct} {W : WX} {sc : Scope} {X : Cx} (X' : XOk T cs k C W N sc X) {xs : List Expr}, mEs T N es sc xs = true → PA X xs (tEs cs C W es) ∧ (∀ kws, kwVals kws = xs → PK X kws (tEs cs C W es)) ∧
    (∀ keys ks pos, keysB keys ks = true → ks.length = es.len → PPs X pos keys xs (trsOf cs C W ks es)) ∧ (es.noView = true → ∀ p, PE X (.BoolOp .And xs p) (tAndE cs C W es)) ∧ (es.noView = true → ∀ p, PE X (.BoolOp .Or xs p) (tOrE cs C W es)) ∧
    (es.tst = true → ∀ p, PW X (.BoolOp .And xs p) (tAndT cs C W es)) ∧ (es.tst = true → ∀ p, PW X (.BoolOp .Or xs p) (tOrT cs C W es))
  | .nil, C, W, sc, X, X', xs, h => by
    unfold mEs at h
    cases xs with
    | cons y ys => cases h
    | nil =>
      refine ⟨c_nil, fun kws e => ?_, fun keys ks pos hk hkl => ?_, fun _ p => ⟨fun pins s σ H Q I ⟨L, O, ρ, S, q⟩ => q.elim⟩, fun _ p => ⟨fun pins s σ H Q I ⟨L, O, ρ, S, q⟩ => q.elim⟩, fun _ p => ⟨fun wh pins s σ H Q I ⟨L, O, ρ, S, q⟩ => q.elim⟩, fun _ p => ⟨fun wh pins s σ H Q I ⟨L, O, ρ, S, q⟩ => q.elim⟩⟩
      · cases kws with
        | nil => exact c_knil
        | cons y ys => obtain ⟨_, _, _⟩ := y; exact nomatch (show _ :: kwVals ys = [] from e)
      · match keys, ks, hk with
        | [], [], _ => exact pps_nil
        | some _ :: _, _ :: _, _ => exact absurd hkl (by unfold Es.len; simp)
  | .cons e r, C, W, sc, X, X', xs, h => by
    unfold mEs at h
    cases xs with
    | nil => cases h
    | cons y ys =>
      simp only [Bool.and_eq_true] at h
      obtain ⟨⟨⟨h1, h2⟩, h3⟩, h4⟩ := h
      have ie := sE e X' h1
      have ir := sEs r X' h2
      refine ⟨c_cons (bimp h4) h3 ie.1 ir.1, fun kws e => ?_, fun keys ks pos hk hkl => ?_, fun hv p => ?_, fun hv p => ?_, fun ht p => ?_, fun ht p => ?_⟩
      · cases kws with
        | nil => exact nomatch (show [] = y :: ys from e)
        | cons w ws =>
          obtain ⟨nm, v, kp⟩ := w
          obtain ⟨rfl, e2⟩ := List.cons.inj (show v :: kwVals ws = y :: ys from e)
          exact c_kcons (bimp h4) ie.1 (ir.2.1 ws e2)
      · match keys, ks, hk with
        | [], [], _ => exact absurd hkl (by unfold Es.len; simp)
        | some kx :: keys, kk :: ks, hk =>
          have hk' : (keyB kx kk && keysB keys ks) = true := hk
          rw [Bool.and_eq_true] at hk'
          exact pps_cons (key_ok hk'.1) ⟨fun pins s σ H Q I ⟨D, o, q⟩ => (sE e (X'.with D o) h1).1.run pins s σ H Q I q⟩ (ir.2.2.1 keys ks pos hk'.2 (Nat.succ.inj hkl))
      · have hv' : (!e.isView && r.noView) = true := hv
        rw [Bool.and_eq_true] at hv'
        match r, ys, h2, ir with
        | .nil, [], _, _ => exact c_and1 (bnot hv'.1) ie.1
        | .cons e' r', z :: zs, _, ir => exact c_and ie.1 (ir.2.2.2.1 hv'.2 p)
        | .nil, _ :: _, h2, _ => unfold mEs at h2; cases h2
        | .cons _ _, [], h2, _ => unfold mEs at h2; cases h2
      · have hv' : (!e.isView && r.noView) = true := hv
        rw [Bool.and_eq_true] at hv'
        match r, ys, h2, ir with
        | .nil, [], _, _ => exact c_or1 (bnot hv'.1) ie.1
        | .cons e' r', z :: zs, _, ir => exact c_or ie.1 (ir.2.2.2.2.1 hv'.2 p)
        | .nil, _ :: _, h2, _ => unfold mEs at h2; cases h2
        | .cons _ _, [], h2, _ => unfold mEs at h2; cases h2
      · have ht' : (e.tst && r.tst) = true := ht
        rw [Bool.and_eq_true] at ht'
        match r, ys, h2, ir with
        | .nil, [], _, _ => exact c_and1T (ie.2 ht'.1)
        | .cons e' r', z :: zs, _, ir => exact c_andT (ie.2 ht'.1) (ir.2.2.2.2.2.1 ht'.2 p)
        | .nil, _ :: _, h2, _ => unfold mEs at h2; cases h2
        | .cons _ _, [], h2, _ => unfold mEs at h2; cases h2
      · have ht' : (e.tst && r.tst) = true := ht
        rw [Bool.and_eq_true] at ht'
        match r, ys, h2, ir with
        | .nil, [], _, _ => exact c_or1T (ie.2 ht'.1)
        | .cons e' r', z :: zs, _, ir => exact c_orT (ie.2 ht'.1) (ir.2.2.2.2.2.2 ht'.2 p)
        | .nil, _ :: _, h2, _ => unfold mEs at h2; cases h2
        | .cons _ _, [], h2, _ => unfold mEs at h2; cases h2
theorem sAs : ∀ (as : As) {C : Ct} {W : WX} {sc : Scope} {X : Cx} (X' : XOk T cs k C W N sc X) {xs : List Expr}, mAs T N as sc xs = true → PA X xs (tAs cs C W as)
  | .nil, C, W, sc, X, X', xs, h => by
    unfold mAs at h
    cases xs with
    | nil => exact c_anil
    | cons y ys => cases h
  | .v e r, C, W, sc, X, X', xs, h => by
    unfold mAs at h
    split at h
    · simp only [Bool.and_eq_true] at h
      obtain ⟨⟨⟨h1, h2⟩, h3⟩, h4⟩ := h
      exact c_av (bnot h4) h3 (sE e X' h1).1 (sAs r X' h2)
    · cases h
  | .m i r, C, W, sc, X, X', xs, h => by
    unfold mAs at h
    split at h
    · rw [Bool.and_eq_true] at h
      exact c_am X' h.1 (sAs r X' h.2)
    · cases h
theorem sIt : ∀ (it : It) {C : Ct} {W : WX} {sc : Scope} {X : Cx} (X' : XOk T cs k C W N sc X) {t x : Expr}, mIt T N it sc t x = true → PI X t x (tIt cs C W it)
  | .lst e, C, W, sc, X, X', t, x, h => by
    unfold mIt at h
    rw [Bool.and_eq_true] at h
    exact i_lst X' (bnot h.2) (sE e X' h.1).1
  | .tup e, C, W, sc, X, X', t, x, h => by
    unfold mIt at h
    rw [Bool.and_eq_true] at h
    exact i_tup X' (bnot h.2) (sE e X' h.1).1
  | .txt e, C, W, sc, X, X', t, x, h => by
    unfold mIt at h
    rw [Bool.and_eq_true] at h
    exact i_txt (bnot h.2) (sE e X' h.1).1
  | .rng e, C, W, sc, X, X', t, x, h => by
    unfold mIt at h
    split at h
    · simp only [Bool.and_eq_true, decide_eq_true_eq] at h
      obtain ⟨⟨⟨⟨⟨h1, h2⟩, h3⟩, h4⟩, h5⟩, h6⟩ := h
      exact i_rng X' h1 h2 h3 h5 (bnot h6) (sE e X' h4).1
    · cases h
  | .rng2 e e', C, W, sc, X, X', t, x, h => by
    unfold mIt at h
    split at h
    · simp only [Bool.and_eq_true, decide_eq_true_eq] at h
      obtain ⟨⟨⟨⟨⟨⟨⟨⟨h1, h2⟩, h3⟩, h4⟩, h5⟩, h6⟩, h7⟩, h8⟩, h9⟩ := h
      exact i_rng2 X' h1 h2 h3 h6 h7 (bnot h8) (bnot h9) (sE e X' h4).1 (sE e' X' h5).1
    · cases h
  | .enu e, C, W, sc, X, X', t, x, h => by
    unfold mIt at h
    split at h
    · split at h
      · simp only [Bool.and_eq_true, decide_eq_true_eq] at h
        obtain ⟨⟨⟨⟨⟨h1, h2⟩, h3⟩, h4⟩, h5⟩, h6⟩ := h
        exact i_enu X' h1 h2 h3 h5 (bnot h6) (sE e X' h4).1
      · cases h
    · cases h
end
end
end Mx


/-! Mx, part 5a: statements. -/
namespace Mx
open PySem PySem.Spec PyProof.Rows L2
/-- what a def gives -/
def RtR (C : Ct) (own : Bool) (O : List Addr) (H : Hp) (v : V) (d : IV) : Prop :=
  if own = true then ∃ p, v = .ref p ∧ p ∈ O ∧ p ∉ C.O0 ∧ C.H0 p = none ∧ Own C.K C.cl O H p d else Rep C.K C.cl O H v d
def PostS (C : Ct) (W : WX) (own : Bool) (O : List Addr) (H : Hp) (r : Out Fl) (D : Ends) : Prop := match r with
  | none => False
  | some (.ok .nx, ρ) => ∀ L' O' σ' H', Grow O H O' H' → SRel C L' O' σ' ρ H' → D.nx σ' H'
  | some (.ok .bk, ρ) => ∀ L' O' σ' H', Grow O H O' H' → SRel C L' O' σ' ρ H' → D.bk σ' H'
  | some (.ok .ct, ρ) => ∀ L' O' σ' H', Grow O H O' H' → SRel C L' O' σ' ρ H' → D.ct σ' H'
  | some (.ok (.rt d), ρ) => ∀ L' O' σ' v H', Grow O H O' H' → SRel C L' O' σ' ρ H' → RtR C own O' H' v d → D.rt v H'
  | some (.error x, ρ) => ∀ L' O' σ' c dd H', Grow O H O' H' → SRel C L' O' σ' ρ H' → XRep C.K C.cl O' H' c dd x → W c dd σ' H'
def tSt (C : Ct) (W : WX) (own : Bool) (m : R Fl) : TS := fun D σ H => ∃ L O ρ, SRel C L O σ ρ H ∧ PostS C W own O H (m ρ) D
section
variable {C : Ct} {W : WX} {own : Bool} {L O O1 : List Addr} {σ : L2.St} {H H1 : Hp} {ρ : List Sl} {D : Ends}
theorem PostS.mono {r : Out Fl} (g : Grow O H O1 H1) (h : PostS C W own O H r D) : PostS C W own O1 H1 r D := by
  match r, h with
  | some (.ok .nx, ρ), h => exact fun L' O' σ' H' g' S => h L' O' σ' H' (g.trans g') S
  | some (.ok .bk, ρ), h => exact fun L' O' σ' H' g' S => h L' O' σ' H' (g.trans g') S
  | some (.ok .ct, ρ), h => exact fun L' O' σ' H' g' S => h L' O' σ' H' (g.trans g') S
  | some (.ok (.rt d), ρ), h => exact fun L' O' σ' v H' g' S r => h L' O' σ' v H' (g.trans g') S r
  | some (.error x, ρ), h => exact fun L' O' σ' c dd H' g' S r => h L' O' σ' c dd H' (g.trans g') S r
theorem PostS.bind {α β : Type} {pr : Bool} {m : R α} {f : α → R Fl} {Rl : Hp → β → α → Prop} {Q1 : β → Hp → Prop} (h : PostS C W own O H (rBind m f ρ) D)
    (k : ∀ a ρ1 v H1, Keep O H H1 → SRel C L O σ ρ1 H1 → Rl H1 v a → PostS C W own O H1 (f a ρ1) D → Q1 v H1) : Post C L O σ W pr Rl H (m ρ) Q1 := by
  unfold rBind at h
  match hm : m ρ, h with
  | none, h => exact h
  | some (.error x, ρ1), h => exact fun c dd H' k' S xr => h L O σ c dd H' (.ofKeep k') S xr
  | some (.ok a, ρ1), h => exact fun v H1 k1 s1 S q => k a ρ1 v H1 k1 S q (PostS.mono (.ofKeep k1) h)
theorem PostS.bindO {m : R IV} {f : IV → R Fl} {Q1 : VK} (h : PostS C W own O H (rBind m f ρ) D)
    (k : ∀ d ρ1 p H1, H p = none → p ∉ O → C.H0 p = none → Keep O H H1 → SRel C L O σ ρ1 H1 → SRel C L (p :: O) σ ρ1 H1 → Own C.K C.cl (p :: O) H1 p d → PostS C W own O H (f d ρ1) D → Q1 (.ref p) H1) : PostO C L O σ W H (m ρ) Q1 := by
  unfold rBind at h
  match hm : m ρ, h with
  | none, h => exact h
  | some (.error x, ρ1), h => exact fun c dd H' k' S xr => h L O σ c dd H' (.ofKeep k') S xr
  | some (.ok a, ρ1), h => exact fun p H1 hp np h0 k1 S S' w => k a ρ1 p H1 hp np h0 k1 S S' w h
theorem PostS.nx {ρ : List Sl} (h : PostS C W own O H (some (.ok .nx, ρ)) D) (S : SRel C L O σ ρ H) : D.nx σ H := h L O σ H (.refl O H) S
theorem Grow.cons {p : Addr} (k : Keep O H H1) (hp : H p = none) : Grow O H (p :: O) H1 := ⟨k, fun a h => List.mem_cons_of_mem _ h, fun a h => by
  rcases List.mem_cons.mp h with z | z
  · rw [z]; exact .inr hp
  · exact .inl z⟩
end
section
variable {T : Tab} {cs : CS} {k : Nat} {C : Ct} {W : WX} {N : List Str} {sc : Scope} {X : Cx} {own : Bool} {nF : Nat}
theorem _root_.L2.PS.imp {e : Stmt} {t t' : TS} (h : PS X e t) (hi : ∀ D σ H, t' D σ H → t D σ H) : PS X e t' := ⟨fun pins s σ H D I q => h.run pins s σ H D I (hi D σ H q)⟩
theorem _root_.L2.PSs.imp {e : List Stmt} {t t' : TS} (h : PSs X e t) (hi : ∀ D σ H, t' D σ H → t D σ H) : PSs X e t' := ⟨fun pins s σ H D I q => h.run pins s σ H D I (hi D σ H q)⟩
theorem notComp_ok {v : Expr} (h : notComp v = true) (t : Option Expr) (l : Nat) (env : Env) : swapsWith v t l env = pure false := by
  cases v <;> first | rfl | cases h
theorem swap_ok {a : Expr} {g : List Comprehension} {s : Scope} {q : Pos} {y : Str} {p : Pos} {l : Nat} {env : Env} (hk : env.scope.kind = .function) : swapsWith (.ListComp a g s q) (some (.Name y p)) l env = pure (swapB env.scope y p (.ListComp a g s q)) := by
  have e : env.blockKind = .function := by unfold Env.blockKind; rw [hk]; rfl
  show (pure (env.blockKind == .function && env.kindOf y == some .local && p.line == (Expr.ListComp a g s q).pos.line && !(s.names.any fun (n, k) => n == y && (k == .local || k == .cell))) : Sem Bool) = _
  rw [e]
  show pure ((env.scope.names.lookup y == some .local) && _ && _) = _
  have e2 : (env.scope.names.lookup y == some NameKind.local) = decide (env.scope.names.lookup y = some .local) := by
    by_cases hl : env.scope.names.lookup y = some .local
    · rw [hl]; rfl
    · rw [decide_eq_false hl]
      cases hv : env.scope.names.lookup y with
      | none => rfl
      | some kk => rw [hv] at hl; cases kk <;> first | rfl | exact absurd rfl hl
  rw [e2]
  rfl
/-- where a def's statements are read -/
structure XSt (T : Tab) (cs : CS) (k : Nat) (C : Ct) (W : WX) (N : List Str) (sc : Scope) (X : Cx) : Prop where
  ok : XOk T cs k C W N sc X
  hsc : X.env.scope = sc
  kind : sc.kind = .function
  sto : Sto N sc X
theorem XSt.nd (Y : XSt T cs k C W N sc X) : X.N.Nodup := by rw [Y.ok.hN]; exact Y.ok.nd
theorem s_comp (X' : XOk T cs k C W N sc X) {tg : List Nat} {it : It} {c : OE} {e : E} {t iter elt : Expr} {ifs : List Expr} {scope : Scope} {pos spos : Pos} {i : Nat} {y : Str} {py : Pos} (hy : X.N[i]? = some y) (hyl : X.env.scope.names.lookup y = some .local)
    (hsw : swapsWith (.ListComp elt [⟨t, iter, ifs, 0⟩] scope pos) (some (.Name y py)) spos.line X.env = pure true) (hi : PI X t iter (tIt cs C W it)) (hs : noSet iter = true)
    (hb : blkC N sc scope (tg.filterMap fun i => N[i]?.map fun n => (n, i)) = true) (ht : tgB N scope tg t = true) (hc : ∀ C' X'', XOk T cs k C' W0 N scope X'' → PTs X'' ifs (tC cs C' W0 c)) (he : ∀ C' X'', XOk T cs k C' W0 N scope X'' → PE X'' elt (tE cs C' W0 e))
    (hv : e.isView = false) (hl : tg.all (fun i => decide (i < N.length)) = true) : PS X (.Assign [.Name y py] (.ListComp elt [⟨t, iter, ifs, 0⟩] scope pos) spos) (tAsg (tE cs C W (.comp tg it c e)) (gName i)) := by
  have ok := blkOk_by hb
  have ok : BlkOk X.N X.env.scope scope (tg.filterMap fun i => N[i]?.map fun n => (n, i)) := by
    rw [X'.hN]
    exact ⟨ok.kind, ok.uniq, ok.ix, fun y hy e => X'.frex _ (ok.free y hy e), ok.own⟩
  have z := ps_setLc (X := X) (elt := elt) (tg := t) (ifs := ifs) (pos := pos) (te := fun σ H Q => ∃ D o, tE cs (C.with D o) W0 e σ H Q) (tt := fun σ H Q => ∃ D o, tC cs (C.with D o) W0 c σ H Q) (g := gTg X.K tg) X'.calm (by rw [X'.hN]; exact X'.nd) hy hyl hsw hi ok (fun s H B cl fp => pg_of (X := X.blk s H scope (compEnvC scope cl B X.env) fp) (show X.N.Nodup by rw [X'.hN]; exact X'.nd) X'.calm (sto_blk X' s H scope cl B fp) ht)
    (fun s H B cl fp => ⟨fun pins s' σ H' Q I ⟨D, o, q⟩ => (hc _ _ ((X'.blk s H scope cl B fp).with D o)).run pins s' σ H' Q I q⟩)
    (fun s H B cl fp => ⟨fun pins s' σ H' Q I ⟨D, o, q⟩ => (he _ _ ((X'.blk s H scope cl B fp).with D o)).run pins s' σ H' Q I q⟩) (fun x => noSet_ok hs _ x)
  rw [own_ix hl] at z
  exact z.imp fun D σ H h => lc_read (CK := X'.CK) hv h
/-! ### name = value -/
theorem asg_read {i : Nat} {e : E} (hv : e.isView = false) {D : Ends} {σ : L2.St} {H : Hp} (h : tSt C W own (evS cs nF (.asg i e)) D σ H) : tAsg (tE cs C W e) (gName i) D σ H := by
  obtain ⟨L, O, ρ, S, q⟩ := h
  refine ⟨L, O, ρ, S, PostS.bind q fun d ρ1 v H1 k1 S1 r1 h1 => ?_⟩
  exact PostS.nx h1 (S1.setI (r1.2 hv) i)
theorem s_asg (Y : XSt T cs k C W N sc X) {i : Nat} {e : E} {y : Str} {v : Expr} {p pos : Pos} (hs : storeB N sc i y = true) (hm : mE T N e sc v = true) (hv : e.isView = false) (hc : (notComp v || isComp e) = true) :
    PS X (.Assign [.Name y p] v pos) (tSt C W own (evS cs nF (.asg i e))) := by
  obtain ⟨h1, h2, h3⟩ := Y.sto i y hs
  have plain : swapsWith v (some (.Name y p)) pos.line X.env = pure false → PS X (.Assign [.Name y p] v pos) (tSt C W own (evS cs nF (.asg i e))) := fun hw =>
    (ps_set Y.nd h1 h2 (sE e Y.ok hm).1 hw h3).imp fun D σ H h => asg_read hv h
  rw [Bool.or_eq_true] at hc
  rcases hc with hc | hc
  · exact plain (notComp_ok hc _ _ _)
  · match e, hc, hv, hm, plain with
    | .comp tg it c e, _, hv, hm, plain =>
      unfold mE at hm
      split at hm
      · rename_i elt t iter ifs scope q _ _
        have kd : X.env.scope.kind = .function := by rw [Y.hsc]; exact Y.kind
        have sw := swap_ok (a := elt) (g := [⟨t, iter, ifs, 0⟩]) (s := scope) (q := q) (y := y) (p := p) (l := pos.line) kd
        cases hb : swapB X.env.scope y p (.ListComp elt [⟨t, iter, ifs, 0⟩] scope q) with
        | false => rw [hb] at sw; exact plain sw
        | true =>
          rw [hb] at sw
          have loc : X.env.scope.names.lookup y = some .local := by
            have hb : (decide (X.env.scope.names.lookup y = some .local) && (p.line == (Expr.ListComp elt [⟨t, iter, ifs, 0⟩] scope q).pos.line) && !(scope.names.any fun (n, k) => n == y && (k == .local || k == .cell))) = true := hb
            rw [Bool.and_eq_true, Bool.and_eq_true, decide_eq_true_eq] at hb
            exact hb.1.1
          simp only [Bool.and_eq_true, decide_eq_true_eq] at hm
          obtain ⟨⟨⟨⟨⟨⟨⟨⟨m1, m2⟩, m3⟩, m4⟩, m5⟩, m6⟩, m7⟩, m8⟩, m9⟩ := hm
          have z := s_comp Y.ok h1 loc sw (sIt it Y.ok m1) m2 m3 m4 (fun C' X'' Y => (sO c (x := none) Y trivial).2 m5) (fun C' X'' Y => (sE e Y m6).1) (bnot m7) m8
          exact z.imp fun D σ H h => asg_read hv h
      · cases hm
/-! ### name = a new object -/
theorem pe_own (X' : XOk T cs k C W N sc X) {e : E} {v : Expr} (h : mEO T N e sc v = true) : PE X v (tEO cs C W e) := by
  unfold mEO at h
  rw [Bool.and_eq_true] at h
  obtain ⟨h, h'⟩ := h
  match e, h, h' with
  | .lst es, h, _ =>
    unfold mE at h
    split at h
    · rw [Bool.and_eq_true] at h
      exact c_lstO h.2 (sEs es X' h.1).1
    · cases h
  | .call f as, h, h' =>
    unfold mE at h
    split at h
    · split at h
      · rename_i fn hT
        have h' : (match T.fns f with | some fn => fn.own | none => false) = true := h'
        rw [hT] at h'
        simp only [Bool.and_eq_true, decide_eq_true_eq] at h
        obtain ⟨⟨⟨⟨⟨⟨⟨h1, h2⟩, h3⟩, h4⟩, h5⟩, h6⟩, h7⟩, h8⟩ := h
        refine c_callO X' hT h' h1 h2 h4 h5 (by rw [h7, h6]) (bnot h8) (as_star h3) (sAs as X' h3) (fun e => ?_)
        subst e
        cases as with
        | nil => rfl
        | v e r => unfold mAs at h3; cases h3
        | m i r => unfold mAs at h3; cases h3
      · cases h
    · cases h
theorem s_asgO (Y : XSt T cs k C W N sc X) {i : Nat} {e : E} {y : Str} {v : Expr} {p pos : Pos} (hs : storeB N sc i y = true) (hm : mEO T N e sc v = true) (hc : notComp v = true) : PS X (.Assign [.Name y p] v pos) (tSt C W own (evS cs nF (.asgO i e))) := by
  obtain ⟨h1, h2, h3⟩ := Y.sto i y hs
  refine (ps_set Y.nd h1 h2 (pe_own Y.ok hm) (notComp_ok hc _ _ _) h3).imp fun D σ H ⟨L, O, ρ, S, q⟩ => ?_
  refine ⟨L, O, ρ, S, PostS.bindO q fun d ρ1 p H1 hp np h0 k1 S1 S1' w h1 => ?_⟩
  exact h1 (p :: L) (p :: O) _ H1 (.cons k1 hp) (S1.setO S1' np h0 w i)
/-! ### a, b = value -/
theorem s_unp (Y : XSt T cs k C W N sc X) {is : List Nat} {e : E} {ts : List Expr} {j : Nat} {v : Expr} {p pos : Pos} (ht : tgB N sc is (.Tuple ts j p) = true) (hm : mE T N e sc v = true) (hv : e.isView = false) (hn : notTup v = true) : PS X (.Assign [.Tuple ts j p] v pos) (tSt C W own (evS cs nF (.unp is e))) := by
  have hs : swapsWithSole [.Tuple ts j p] v pos.line X.env = pure false := by cases v <;> rfl
  have hw : swappedStores [.Tuple ts j p] v X.env = pure none := by cases v <;> first | rfl | cases hn
  refine (ps_asg (sE e Y.ok hm).1 (pg_of Y.nd Y.ok.calm Y.sto ht) hs hw rfl).imp fun D σ H ⟨L, O, ρ, S, q⟩ => ?_
  refine ⟨L, O, ρ, S, PostS.bind q fun d ρ1 v H1 k1 S1 r1 h1 => ?_⟩
  rw [← Y.ok.CK]
  unfold rBind at h1
  match ht : rTg is d ρ1, h1 with
  | none, h1 => exact h1.elim
  | some (.error x, ρ2), h1 => cases rTg_ok ht
  | some (.ok u, ρ2), h1 => exact tg_read S1 (r1.2 hv) ht fun σ' S' _ _ => PostS.nx h1 S'
/-! ### name[i] = value -/
theorem s_setI (Y : XSt T cs k C W N sc X) {i : Nat} {kk v : E} {y : Str} {z w : Expr} {p p' pos : Pos} (hs : slotB N sc i y = true) (hk : mE T N kk sc z = true) (hm : mE T N v sc w = true) (hkv : kk.isView = false) (hvv : v.isView = false) (hz : notSlice z = true) (hc : notComp w = true) :
    PS X (.Assign [.Subscript (.Name y p) z p'] w pos) (tSt C W own (evS cs nF (.setI i kk v))) := by
  obtain ⟨h1, h2, h3, h4⟩ := Y.ok.vis hs
  have hsw : swapsWithSole [.Subscript (.Name y p) z p'] w pos.line X.env = pure false := by cases w <;> first | rfl | cases hc
  have hw : swappedStores [.Subscript (.Name y p) z p'] w X.env = pure none := by cases w <;> rfl
  have ha : ∀ u, assign (.Subscript (.Name y p) z p') X.env u = (do
      let ov ← holding [u] (eval (.Name y p) X.env)
      let iv ← holding [u, ov] (eval z X.env)
      standAt p'
      holding [u, ov, iv] (setItem ov iv u)
      release [u, ov, iv] []) := fun u => by cases z <;> first | rfl | cases hz
  refine (ps_asg (sE v Y.ok hm).1 (pg_sub (pe_var h1 h2 h3 h4) (sE kk Y.ok hk).1 set_list ha) hsw hw rfl).imp fun D σ H ⟨L, O, ρ, S, q⟩ => ?_
  refine ⟨L, O, ρ, S, PostS.bind q fun dv ρ1 vv H1 k1 S1 r1 q1 => ?_⟩
  have rv := r1.2 hvv
  have q1 : PostS C W own O H1 ((rBind (rView i) fun _ => rBind (ev cs kk).1 fun x => rPut i (setD x dv)) ρ1) D := q1
  have hex : ∃ a, σ[i]? = some (some (.ref a)) ∧ PostS C W own O H1 ((rBind (ev cs kk).1 fun x => rPut i (setD x dv)) ρ1) D := by
    have go : ∀ (r : Sl) (d : IV), ρ1[i]? = some r → r.mut = some d → ∃ a, σ[i]? = some (some (.ref a)) := fun r d hr hm => by
      obtain ⟨a, ea, _⟩ := S1.mutAt hr hm
      exact ⟨a, ea⟩
    unfold rBind rView at q1
    match hr : ρ1[i]?, q1 with
    | some (.o d), q1 => obtain ⟨a, ea⟩ := go _ d hr rfl; exact ⟨a, ea, q1⟩
    | some (.b d), q1 => obtain ⟨a, ea⟩ := go _ d hr rfl; exact ⟨a, ea, q1⟩
  obtain ⟨a, ea, q1⟩ := hex
  refine ⟨.ref a, ea, ?_⟩
  refine ⟨L, O, ρ1, S1, PostS.bind q1 fun dk ρ2 vk H2 k2 S2 r2 q2 => ?_⟩
  have rk := r2.2 hkv
  unfold rPut at q2
  match hr : ρ2[i]?, q2 with
  | some r, q2 =>
    have q2 : PostS C W own O H2 ((match r.mut with
      | some d => match setD dk dv d with
        | some d' => some (.ok Fl.nx, ρ2.set i (r.put d'))
        | none => none
      | none => none : Out Fl)) D := q2
    match hmu : r.mut, q2 with
    | some d, q2 =>
      have q2 : PostS C W own O H2 ((match setD dk dv d with
        | some d' => some (.ok Fl.nx, ρ2.set i (r.put d'))
        | none => none : Out Fl)) D := q2
      match hd : setD dk dv d, q2 with
      | some d', q2 =>
        obtain ⟨a', ea', haO, ow, _⟩ := S2.mutAt hr hmu
        rw [ea] at ea'
        cases ea'
        match d, dk, hd, ow, rk with
        | .lst xs, .int n, hd, .lst (vs := vs) hH ra, rk =>
          cases rk
          have hd : ((ixN xs.length n).map fun j => IV.lst (xs.set j dv)) = some d' := hd
          cases hj : ixN xs.length n with
          | none => rw [hj] at hd; cases hd
          | some j =>
            rw [hj] at hd
            cases hd
            refine ⟨a, vs, n, j, rfl, rfl, hH, by rw [ra.length]; exact hj, ?_⟩
            have kp : Keep O H2 (upd H2 a (.lst (vs.set j vv))) := fun b o nb e => by rw [upd_ne (fun z : b = a => nb (z ▸ haO))]; exact e
            have S3 := S2.put (H' := upd H2 a (.lst (vs.set j vv))) (d' := .lst (xs.set j dv)) hr (by rw [hmu]; rfl) ea (fun b o nb e => by rw [upd_ne nb]; exact e) (.lst upd_same ((RepAll.set (rv.keep k2) j ra).keep kp))
            exact q2 L O _ _ (.ofKeep kp) S3
/-! ### the others -/
theorem s_drop (Y : XSt T cs k C W N sc X) {e : E} {v : Expr} {pos : Pos} (hm : mE T N e sc v = true) (hc : notComp v = true) : PS X (.Expr v pos) (tSt C W own (evS cs nF (.drop e))) := by
  refine (ps_expr (sE e Y.ok hm).1 (notComp_ok hc _ _ _)).imp fun D σ H ⟨L, O, ρ, S, q⟩ => ?_
  exact ⟨L, O, ρ, S, PostS.bind q fun d ρ1 v H1 k1 S1 r1 h1 => PostS.nx h1 S1⟩
theorem s_ret (Y : XSt T cs k C W N sc X) {e : E} {v : Expr} {pos : Pos} (hm : mE T N e sc v = true) (hv : e.isView = false) : PS X (.Return (some v) pos) (tSt C W false (evS cs nF (.ret e))) := by
  refine (ps_ret (sE e Y.ok hm).1).imp fun D σ H ⟨L, O, ρ, S, q⟩ => ?_
  exact ⟨L, O, ρ, S, PostS.bind q fun d ρ1 v H1 k1 S1 r1 h1 => h1 L O σ v H1 (.refl O H1) S1 (r1.2 hv)⟩
theorem s_retOwn (Y : XSt T cs k C W N sc X) {e : E} {v : Expr} {pos : Pos} (hm : mEO T N e sc v = true) : PS X (.Return (some v) pos) (tSt C W true (evS cs nF (.ret e))) := by
  refine (ps_ret (pe_own Y.ok hm)).imp fun D σ H ⟨L, O, ρ, S, q⟩ => ?_
  refine ⟨L, O, ρ, S, PostS.bindO q fun d ρ1 p H1 hp np h0 k1 S1 S1' w h1 => ?_⟩
  exact h1 L (p :: O) σ _ H1 (.cons k1 hp) S1' ⟨p, rfl, List.mem_cons_self, fun z => np (S1.sub p z), h0, w⟩
theorem s_retO (Y : XSt T cs k C W N sc X) {i : Nat} {y : Str} {p pos : Pos} (hs : slotB N sc i y = true) : PS X (.Return (some (.Name y p)) pos) (tSt C W true (evS cs nF (.retO i))) := by
  obtain ⟨h1, h2, h3, h4⟩ := Y.ok.vis hs
  refine (ps_ret (pe_var h1 h2 h3 h4)).imp fun D σ H ⟨L, O, ρ, S, q⟩ => ?_
  have q : PostS C W true O H ((match ρ[i]? with
    | some (.o d) => some (.ok (.rt d), ρ)
    | _ => none : Out Fl)) D := q
  match hr : ρ[i]?, q with
  | some (.o d), q =>
    have hi : i < σ.length := by rw [S.len]; exact (List.getElem?_eq_some_iff.mp hr).1
    have hs : σ[i]? = some σ[i] := List.getElem?_eq_getElem hi
    obtain ⟨a, ea, n1, n2, n3, w⟩ := S.slot i _ _ hs hr
    exact ⟨.ref a, by rw [hs, ea], q L O σ _ H (.refl O H) S ⟨a, rfl, S.lsub a n1, n2, n3, w⟩⟩
theorem s_retN {pos : Pos} : PS X (.Return none pos) (tSt C W false (evS cs nF .retN)) :=
  ps_retN.imp fun D σ H ⟨L, O, ρ, S, q⟩ => q L O σ .non H (.refl O H) S .non
theorem s_if {c : E} {a b : Ss} {y : Expr} {z w : List Stmt} {pos : Pos} (hc : PT X y (tT cs C W c)) (ha : PSs X z (tSt C W own (evSs cs nF a))) (hb : PSs X w (tSt C W own (evSs cs nF b))) : PS X (.If y z w pos) (tSt C W own (evS cs nF (.ite c a b))) := by
  refine (ps_if hc ha hb).imp fun D σ H ⟨L, O, ρ, S, q⟩ => ?_
  refine ⟨L, O, ρ, S, PostS.bind q fun t ρ1 b H1 k1 S1 r1 h1 => ?_⟩
  cases r1
  cases t with
  | true => rw [if_pos rfl] at h1 ⊢; exact ⟨L, O, ρ1, S1, h1⟩
  | false => rw [if_neg Bool.false_ne_true] at h1 ⊢; exact ⟨L, O, ρ1, S1, h1⟩
/-- the flow of a loop's body -/
theorem body_read {m : R Fl} {g : R Fl} {ρ : List Sl} {O : List Addr} {H : Hp} {D : Ends} {Nx : L2.St → Hp → Prop} (h : PostS C W own O H (rBind m (fun f => match f with | .nx => g | .ct => g | .bk => rPure .nx | .rt d => rPure (.rt d)) ρ) D)
    (k : ∀ ρ1 L' O' σ' H', Grow O H O' H' → SRel C L' O' σ' ρ1 H' → PostS C W own O' H' (g ρ1) D → Nx σ' H') : PostS C W own O H (m ρ) { D with nx := Nx, ct := Nx, bk := D.nx } := by
  unfold rBind at h
  match hm : m ρ, h with
  | none, h => exact h
  | some (.error x, ρ1), h => exact h
  | some (.ok .nx, ρ1), h => exact fun L' O' σ' H' g' S => k ρ1 L' O' σ' H' g' S (PostS.mono g' h)
  | some (.ok .ct, ρ1), h => exact fun L' O' σ' H' g' S => k ρ1 L' O' σ' H' g' S (PostS.mono g' h)
  | some (.ok .bk, ρ1), h => exact h
  | some (.ok (.rt d), ρ1), h => exact h
theorem s_whl (Y : XSt T cs k C W N sc X) {c : E} {b : Ss} {y : Expr} {z : List Stmt} {pos : Pos} (hc : PT X y (tT cs C W c)) (hb : PSs X z (tSt C W own (evSs cs nF b))) : PS X (.While y z [] pos) (tSt C W own (evS cs nF (.whl c b))) := by
  refine (ps_while Y.ok.po hc hb).imp fun D σ H ⟨L, O, ρ, S, q⟩ => ?_
  refine ⟨fun m σ H => ∃ L O ρ, SRel C L O σ ρ H ∧ PostS C W own O H (rWhile (ev cs c).2 (evSs cs nF b) m ρ) D, ⟨nF, L, O, ρ, S, q⟩, ?_⟩
  rintro m σ H ⟨L, O, ρ, S, q⟩
  cases m with
  | zero => exact q.elim
  | succ n =>
    refine ⟨L, O, ρ, S, PostS.bind q fun t ρ1 b' H1 k1 S1 r1 h1 => ?_⟩
    cases r1
    cases t with
    | false => rw [if_neg Bool.false_ne_true] at h1 ⊢; exact PostS.nx h1 S1
    | true =>
      rw [if_pos rfl] at h1 ⊢
      refine ⟨fun σ H => ∃ L O ρ, SRel C L O σ ρ H ∧ PostS C W own O H (rWhile (ev cs c).2 (evSs cs nF b) n ρ) D, fun σ' H' z => ⟨n, Nat.lt_succ_self n, z⟩, ?_⟩
      exact ⟨L, O, ρ1, S1, body_read h1 fun ρ2 L' O' σ' H' g' S' q' => ⟨L', O', ρ2, S', q'⟩⟩
theorem s_for (Y : XSt T cs k C W N sc X) {tg : List Nat} {it : It} {b : Ss} {t iter : Expr} {z : List Stmt} {pos : Pos} (ht : tgB N sc tg t = true) (hi : PI X t iter (tIt cs C W it)) (hs : noSet iter = true) (hb : PSs X z (tSt C W own (evSs cs nF b))) :
    PS X (.For t iter z [] pos) (tSt C W own (evS cs nF (.loop tg it b))) := by
  refine (ps_for Y.ok.po Y.ok.calm hi (pg_of Y.nd Y.ok.calm Y.sto ht) hb (fun x => noSet_ok hs _ x)).imp fun D σ H ⟨L, O, ρ, S, q⟩ => ?_
  refine ⟨L, O, ρ, S, PostS.bind q fun ds ρ1 J H1 k1 S1 w h1 => ?_⟩
  obtain ⟨G, Yy, wk, hG, hY⟩ := w
  refine for_it wk (fun i σ H => ∃ L' O' ρ', Grow O H1 O' H ∧ SRel C L' O' σ ρ' H ∧ PostS C W own O' H (rFor tg (evSs cs nF b) (ds.drop i) ρ') D) ⟨L, O, ρ1, .refl O H1, S1, h1⟩ ?_ ?_ ?_
  · rintro i σ2 H2 _ ⟨L', O', ρ', g, _⟩
    exact hG O' H2 g
  · rintro i x σ2 H2 H3 hi ⟨L', O', ρ', g, S2, q2⟩ y
    have hdi : ds[i]? = some ds[i] := List.getElem?_eq_getElem hi
    obtain ⟨sm, rx⟩ := hY i O' H2 x H3 ds[i] g S2.live hdi y
    rw [List.drop_eq_getElem_cons hi] at q2
    have q2 := PostS.mono (.ofKeep (.same sm)) q2
    have q2 : PostS C W own O' H3 ((rBind (rTg tg ds[i]) fun _ => rBind (evSs cs nF b) fun f => match f with | .nx => rFor tg (evSs cs nF b) (ds.drop (i + 1)) | .ct => rFor tg (evSs cs nF b) (ds.drop (i + 1)) | .bk => rPure .nx | .rt d => rPure (.rt d)) ρ') D := q2
    rw [← Y.ok.CK]
    unfold rBind at q2
    match hr : rTg tg ds[i] ρ', q2 with
    | none, q2 => exact q2.elim
    | some (.error e, ρ2), q2 => cases rTg_ok hr
    | some (.ok u, ρ2), q2 =>
      refine tg_read (S2.same sm) rx hr fun σ' S' _ _ => ⟨L', O', ρ2, S', ?_⟩
      exact body_read q2 fun ρ3 L3 O3 σ3 H4 g3 S3 q3 => ⟨L3, O3, ρ3, (g.trans (.ofKeep (.same sm))).trans g3, S3, q3⟩
  · rintro σ2 H2 ⟨L', O', ρ', g, S2, q2⟩
    rw [List.drop_length] at q2
    exact PostS.nx q2 S2
theorem s_nil : PSs X [] (tSt C W own (evSs cs nF .nil)) := pss_nil.imp fun D σ H ⟨L, O, ρ, S, q⟩ => PostS.nx q S
theorem s_cons {s : S} {r : Ss} {y : Stmt} {ys : List Stmt} (hs : PS X y (tSt C W own (evS cs nF s))) (hr : PSs X ys (tSt C W own (evSs cs nF r))) : PSs X (y :: ys) (tSt C W own (evSs cs nF (.cons s r))) := by
  refine (pss_cons hs hr).imp fun D σ H ⟨L, O, ρ, S, q⟩ => ?_
  refine ⟨L, O, ρ, S, ?_⟩
  have q : PostS C W own O H ((rBind (evS cs nF s) fun f => match f with | .nx => evSs cs nF r | f => rPure f) ρ) D := q
  unfold rBind at q
  match hm : evS cs nF s ρ, q with
  | none, q => exact q
  | some (.error x, ρ1), q => exact q
  | some (.ok .nx, ρ1), q => exact fun L' O' σ' H' g' S => ⟨L', O', ρ1, S, PostS.mono g' q⟩
  | some (.ok .ct, ρ1), q => exact q
  | some (.ok .bk, ρ1), q => exact q
  | some (.ok (.rt d), ρ1), q => exact q
mutual
theorem sS (Y : XSt T cs k C W N sc X) : ∀ (s : S) {x : Stmt}, mS T N own s sc x = true → PS X x (tSt C W own (evS cs nF s))
  | .asg i e, x, h => by
    unfold mS at h
    split at h
    · simp only [Bool.and_eq_true] at h
      exact s_asg Y h.1.1.1 h.1.1.2 (bnot h.1.2) h.2
    · cases h
  | .asgO i e, x, h => by
    unfold mS at h
    split at h
    · simp only [Bool.and_eq_true] at h
      exact s_asgO Y h.1.1 h.1.2 h.2
    · cases h
  | .unp is e, x, h => by
    unfold mS at h
    split at h
    · simp only [Bool.and_eq_true] at h
      exact s_unp Y h.1.1.1 h.1.1.2 (bnot h.1.2) h.2
    · cases h
  | .setI i kk v, x, h => by
    unfold mS at h
    split at h
    · simp only [Bool.and_eq_true] at h
      obtain ⟨⟨⟨⟨⟨⟨h1, h2⟩, h3⟩, h4⟩, h5⟩, h6⟩, h7⟩ := h
      exact s_setI Y h1 h2 h3 (bnot h4) (bnot h5) h6 h7
    · cases h
  | .drop e, x, h => by
    unfold mS at h
    split at h
    · rw [Bool.and_eq_true] at h
      exact s_drop Y h.1 h.2
    · cases h
  | .ret e, x, h => by
    unfold mS at h
    split at h
    · cases own with
      | true => rw [if_pos rfl] at h; exact s_retOwn Y h
      | false =>
        rw [if_neg Bool.false_ne_true, Bool.and_eq_true] at h
        exact s_ret Y h.1 (bnot h.2)
    · cases h
  | .retN, x, h => by
    unfold mS at h
    split at h
    · cases own with
      | true => cases h
      | false => exact s_retN
    · cases h
  | .retO i, x, h => by
    unfold mS at h
    split at h
    · rw [Bool.and_eq_true] at h
      obtain ⟨rfl, h⟩ := h
      exact s_retO Y h
    · cases h
  | .ite c a b, x, h => by
    unfold mS at h
    split at h
    · simp only [Bool.and_eq_true] at h
      exact s_if ((sE c Y.ok h.1.1.1).2 h.1.1.2) (sSs Y a h.1.2) (sSs Y b h.2)
    · cases h
  | .whl c b, x, h => by
    unfold mS at h
    split at h
    · simp only [Bool.and_eq_true] at h
      exact s_whl Y ((sE c Y.ok h.1.1).2 h.1.2) (sSs Y b h.2)
    · cases h
  | .loop tg it b, x, h => by
    unfold mS at h
    split at h
    · simp only [Bool.and_eq_true] at h
      exact s_for Y h.1.1.1 (sIt it Y.ok h.1.1.2) h.1.2 (sSs Y b h.2)
    · cases h
  | .pass, x, h => by
    unfold mS at h
    split at h
    · exact ps_pass.imp fun D σ H ⟨L, O, ρ, S, q⟩ => PostS.nx q S
    · cases h
  | .brk, x, h => by
    unfold mS at h
    split at h
    · exact ps_break.imp fun D σ H ⟨L, O, ρ, S, q⟩ => q L O σ H (.refl O H) S
    · cases h
  | .cnt, x, h => by
    unfold mS at h
    split at h
    · exact ps_continue.imp fun D σ H ⟨L, O, ρ, S, q⟩ => q L O σ H (.refl O H) S
    · cases h
  | .aug _ _ _, x, h => by unfold mS at h; cases h
  | .app _ _, x, h => by unfold mS at h; cases h
theorem sSs (Y : XSt T cs k C W N sc X) : ∀ (s : Ss) {xs : List Stmt}, mSs T N own s sc xs = true → PSs X xs (tSt C W own (evSs cs nF s))
  | .nil, xs, h => by
    unfold mSs at h
    cases xs with
    | nil => exact s_nil
    | cons y ys => cases h
  | .cons s r, xs, h => by
    unfold mSs at h
    split at h
    · rw [Bool.and_eq_true] at h
      exact s_cons (sS Y s h.1) (sSs Y r h.2)
    · cases h
end
end
end Mx


/-! Mx, part 5b: defs, the law. -/
namespace Mx
open PySem PySem.Spec PyProof.Rows L2
/-! ### a def by its body, where no repr is under way -/
section
variable {P : Program} {w : World} {K : PySem.W.Frag} {mg : Str → Option Value} {base : Heap} {k : Nat} {f : Addr} {name qual : Str} {params : Arguments}
variable {body : List Stmt} {scope : Scope} {dV kV doc pm cdv ct oc : Value} {an od : Option Addr} {osl : Array (Option Value)} {N ps : List Str} {sp : Sp}
abbrev cxM (P : Program) (w : World) (K : PySem.W.Frag) (mg : Str → Option Value) (base : Heap) (N : List Str) (qual : Str) (scope : Scope) (f : Addr) (cd : Value) (A : Around) (outer : List Env) (s : Shared) (H : Hp) (E : XK) : Cx :=
  cxOf (L2.CX P w) P w K mg base N qual scope f cd A outer s H E
theorem fnR_of (found : K.lookup f = some ⟨oc, od, .func (PySem.W.fnOf name qual params body scope dV kV doc pm an cdv ct), osl⟩) (code : PySem.W.codeIn K cdv qual = true) (sco : FnScope N ps scope)
    (len : ∀ vs H Q E, sp vs H Q E → vs.length = ps.length)
    (does : ∀ A outer s H vs Q E, Around.guards A = some [] → Room k (A.deeper (envOfC qual scope (Shared.heap s).objs.size f cdv)) → sp vs H Q E →
      ∃ t, PSs (cxM P w K mg base N qual scope f cdv A outer s H E) body t ∧ t ⟨fun _ H1 => Q .non H1, Q, fun _ _ => False, fun _ _ => False⟩ (start N vs) H) :
    FnR P w K mg base (k + 1) f (PySem.W.fnOf name qual params body scope dV kV doc pm an cdv ct) ps sp := by
  constructor
  · exact len
  intro A outer s H args us vs Q E gd room env bind rel promise
  have hKin : K.In s.heap := env.mod.kin.keeps fun b o e => (env.bs b o e).1
  have noLim : s.heap.NoLimit := env.mod.nolimit.keeps fun b o e => (env.bs b o e).1
  have kinds : ∀ y ∈ ps.zip us, scope.names.lookup y.1 = some .local ∨ scope.names.lookup y.1 = some .cell ∧ ((cellsFrom (s.heap.objs.size + 1) scope.names []).lookup y.1).isSome = true := by
    rintro ⟨n, v⟩ hy
    exact (sco.par n (List.of_mem_zip hy).1).imp id fun z => ⟨z, PySem.W.cellsFrom_some _ _ _ (.inl z)⟩
  apply codeAny_call_function room.depth (hKin _ _ found) rfl sco.co sco.gen rfl (PySem.W.codeRec_of hKin code)
  apply bind
  apply wpAny_newFunctionEnv_cells sco.kind kinds
  rintro _ rfl s1 entered
  obtain ⟨t, ht, hq⟩ := does A outer s H vs Q E gd (room.deeper _) promise
  have inv0 : Inv (cxM P w K mg base N qual scope f cdv A outer s H E) [] (start N vs) H s1 := inv_start sco room.hd env (len _ _ _ _ promise) rel entered
  refine ⟨noLim.keeps entered.toInCall.keep, codeAny_func (wpAny_mono (ht.run [] s1 _ H _ inv0 hq) ?_ fun _ _ z => z)⟩
  intro fl s' z
  match fl, z with
  | .ret u, ⟨v, _, H1, J, rv, q⟩ => exact ⟨v, H1, J.os, J.bare, J.base, J.hok, rv, q⟩
  | .next, ⟨_, H1, J, q⟩ => exact ⟨.non, H1, J.os, J.bare, J.base, J.hok, rfl, q⟩
  | .brk, ⟨_, _, _, q⟩ => exact q.elim
  | .cont, ⟨_, _, _, q⟩ => exact q.elim
end
/-! ### a def of the language -/
theorem startA_len : ∀ {ms : List Bool} {ds : List IV}, ms.length = ds.length → (startA ms ds).length = ds.length
  | [], [], _ => rfl
  | m :: ms, d :: ds, h => by show (startA ms ds).length + 1 = ds.length + 1; rw [startA_len (Nat.succ.inj h)]
theorem argR_len {K : PySem.W.Frag} {cl : Nat → Option Addr} {O : List Addr} {H : Hp} : ∀ {ms : List Bool} {vs : List V} {ds : List IV}, ArgR K cl O H ms vs ds → ms.length = ds.length ∧ vs.length = ds.length
  | [], [], [], _ => ⟨rfl, rfl⟩
  | false :: ms, v :: vs, d :: ds, h => by
    have z := argR_len (show ArgR K cl O H ms vs ds from h.2)
    exact ⟨congrArg Nat.succ z.1, congrArg Nat.succ z.2⟩
  | true :: ms, v :: vs, d :: ds, h => by
    have z := argR_len (show ArgR K cl O H ms vs ds from h.2)
    exact ⟨congrArg Nat.succ z.1, congrArg Nat.succ z.2⟩
theorem startA_slot {K : PySem.W.Frag} {cl : Nat → Option Addr} {O : List Addr} {H : Hp} : ∀ {ms : List Bool} {vs : List V} {ds : List IV}, ArgR K cl O H ms vs ds → ∀ {i : Nat} {r : Sl}, (startA ms ds)[i]? = some r →
    ∃ v d, vs[i]? = some v ∧ ((r = .i d ∧ Rep K cl O H v d) ∨ (r = .b d ∧ ∃ a, v = .ref a ∧ (mutA ms vs)[i]? = some (some a) ∧ Own K cl O H a d))
  | [], [], [], _, i, r, h => by cases i <;> cases h
  | false :: ms, v :: vs, d :: ds, h, 0, r, e => by cases e; exact ⟨v, d, rfl, .inl ⟨rfl, h.1⟩⟩
  | true :: ms, v :: vs, d :: ds, h, 0, r, e => by
    cases e
    obtain ⟨⟨a, rfl, _, w⟩, _⟩ := (show (∃ a, v = .ref a ∧ a ∈ O ∧ Own K cl O H a d) ∧ ArgR K cl O H ms vs ds from h)
    exact ⟨_, d, rfl, .inr ⟨rfl, a, rfl, rfl, w⟩⟩
  | false :: ms, v :: vs, d :: ds, h, i + 1, r, e => by
    obtain ⟨v', d', h1, h2⟩ := startA_slot (show ArgR K cl O H ms vs ds from h.2) (i := i) (r := r) e
    refine ⟨v', d', h1, h2.imp id fun ⟨z, a, z2, z3, z4⟩ => ⟨z, a, z2, ?_, z4⟩⟩
    have : mutA (false :: ms) (v :: vs) = none :: mutA ms vs := by cases v <;> rfl
    rw [this]
    exact z3
  | true :: ms, v :: vs, d :: ds, h, i + 1, r, e => by
    obtain ⟨⟨b, rfl, _⟩, hr⟩ := (show (∃ a, v = .ref a ∧ a ∈ O ∧ Own K cl O H a d) ∧ ArgR K cl O H ms vs ds from h)
    obtain ⟨v', d', h1, h2⟩ := startA_slot hr (i := i) (r := r) e
    exact ⟨v', d', h1, h2.imp id fun ⟨z, a, z2, z3, z4⟩ => ⟨z, a, z2, z3, z4⟩⟩
theorem nodup_two : ∀ {l : List (Option Addr)} {i j : Nat} {a : Addr}, (l.filterMap id).Nodup → l[i]? = some (some a) → l[j]? = some (some a) → i = j
  | x :: l, 0, 0, a, _, _, _ => rfl
  | x :: l, 0, j + 1, a, h, e1, e2 => by
    cases e1
    have h : (a :: l.filterMap id).Nodup := h
    rw [List.nodup_cons] at h
    exact absurd (show a ∈ l.filterMap id from List.mem_filterMap.mpr ⟨some a, List.mem_of_getElem? (show l[j]? = some (some a) from e2), rfl⟩) h.1
  | x :: l, i + 1, 0, a, h, e1, e2 => by
    cases e2
    have h : (a :: l.filterMap id).Nodup := h
    rw [List.nodup_cons] at h
    exact absurd (show a ∈ l.filterMap id from List.mem_filterMap.mpr ⟨some a, List.mem_of_getElem? (show l[i]? = some (some a) from e1), rfl⟩) h.1
  | x :: l, i + 1, j + 1, a, h, e1, e2 => by
    have h' : (l.filterMap id).Nodup := by
      cases x with
      | none => exact h
      | some b => have h : (b :: l.filterMap id).Nodup := h; exact (List.nodup_cons.mp h).2
    exact congrArg Nat.succ (nodup_two h' (show l[i]? = some (some a) from e1) (show l[j]? = some (some a) from e2))
theorem start_ok {K : PySem.W.Frag} {cl : Nat → Option Addr} {O : List Addr} {H : Hp} {fn : Fn} {vs : List V} {ds : List IV} (live : ∀ a ∈ O, H a ≠ none) (hl : vs.length = fn.ps.length) (ar : ArgR K cl O H fn.muts vs ds) (nd : ((mutA fn.muts vs).filterMap id).Nodup) :
    SRel ⟨K, cl, O, H, mutA fn.muts vs⟩ [] O (start fn.ns vs) (fn.start ds) H := by
  obtain ⟨l1, l2⟩ := argR_len ar
  have ls : (startA fn.muts ds).length = vs.length := by rw [startA_len l1, l2]
  have get : ∀ {i : Nat} {r : Sl}, (fn.start ds)[i]? = some r → (i < vs.length ∧ (startA fn.muts ds)[i]? = some r ∧ (start fn.ns vs)[i]? = some vs[i]?) ∨ r = .e := fun {i r} e => by
    unfold Fn.start at e
    by_cases hi : i < vs.length
    · rw [List.getElem?_append_left (by rw [ls]; exact hi)] at e
      refine .inl ⟨hi, e, ?_⟩
      unfold L2.start
      rw [List.getElem?_append_left (by rw [List.length_map]; exact hi), List.getElem?_map, List.getElem?_eq_getElem hi]
      rfl
    · rw [List.getElem?_append_right (by rw [ls]; exact Nat.le_of_not_lt hi), List.getElem?_replicate] at e
      split at e
      · cases e; exact .inr rfl
      · cases e
  have mutx : ∀ {i : Nat} {r : Sl} {a : Addr}, (fn.start ds)[i]? = some r → r.mut.isSome = true → (start fn.ns vs)[i]? = some (some (.ref a)) → (mutA fn.muts vs)[i]? = some (some a) := fun {i r a} e m es => by
    rcases get e with ⟨hi, e1, e2⟩ | rfl
    · obtain ⟨v, d, hv, h | h⟩ := startA_slot ar e1
      · rw [h.1] at m; cases m
      · obtain ⟨_, b, rfl, hm, _⟩ := h
        rw [e2, hv] at es
        cases es
        exact hm
    · cases m
  refine ⟨?_, fun i s r e1 e2 => ?_, fun a h => (nomatch h), fun a h => h, fun i a h => mutA_live ar (mem_some_of h), live, fun i j r q a hij e1 e2 m1 m2 e3 e4 => hij (nodup_two nd (mutx e1 m1 e3) (mutx e2 m2 e4)), fun a o e _ => e⟩
  · unfold L2.start Fn.start
    rw [List.length_append, List.length_append, List.length_map, List.length_replicate, List.length_replicate, ls, hl]
  · rcases get e2 with ⟨hi, e3, e4⟩ | rfl
    · rw [e4] at e1
      obtain ⟨v, d, hv, h | h⟩ := startA_slot ar e3
      · obtain ⟨rfl, rp⟩ := h
        rw [hv] at e1
        cases e1
        exact ⟨v, rfl, rp⟩
      · obtain ⟨rfl, a, rfl, hm, w⟩ := h
        rw [hv] at e1
        cases e1
        exact ⟨a, rfl, hm, w⟩
    · trivial
theorem mutR_of {K : PySem.W.Frag} {cl : Nat → Option Addr} {O : List Addr} {H : Hp} : ∀ {ms : List Bool} {vs : List V} {ρ : List Sl} {es : List IV}, vs.length = ms.length → mutsOf ms ρ = some es → (∀ (i : Nat) (d : IV), ρ[i]? = some (.b d) → ∃ a, (mutA ms vs)[i]? = some (some a) ∧ Own K cl O H a d) → MutR K cl O H ms vs es
  | [], [], ρ, es, _, e, _ => by cases e; trivial
  | false :: ms, v :: vs, r :: ρ, es, hl, e, h => by
    have e : (mutsOf ms ρ).map (IV.non :: ·) = some es := e
    cases hm : mutsOf ms ρ with
    | none => rw [hm] at e; cases e
    | some es' =>
      rw [hm] at e
      cases e
      refine mutR_of (ms := ms) (vs := vs) (ρ := ρ) (Nat.succ.inj hl) hm fun i d hd => ?_
      obtain ⟨a, ha, w⟩ := h (i + 1) d hd
      have : mutA (false :: ms) (v :: vs) = none :: mutA ms vs := by cases v <;> rfl
      rw [this] at ha
      exact ⟨a, ha, w⟩
  | true :: ms, v :: vs, .b d :: ρ, es, hl, e, h => by
    have e : (mutsOf ms ρ).map (d :: ·) = some es := e
    cases hm : mutsOf ms ρ with
    | none => rw [hm] at e; cases e
    | some es' =>
      rw [hm] at e
      cases e
      obtain ⟨a, ha, w⟩ := h 0 d rfl
      have ev : v = .ref a := by
        match v, ha with
        | .ref b, ha => cases ha; rfl
      subst ev
      refine ⟨⟨a, rfl, w⟩, mutR_of (ms := ms) (vs := vs) (ρ := ρ) (Nat.succ.inj hl) hm fun i d hd => ?_⟩
      exact h (i + 1) d hd
  | true :: ms, v :: vs, .i d :: ρ, es, hl, e, h => nomatch e
  | true :: ms, v :: vs, .o d :: ρ, es, hl, e, h => nomatch e
  | true :: ms, v :: vs, .e :: ρ, es, hl, e, h => nomatch e
  | false :: ms, v :: vs, [], es, hl, e, h => nomatch e
  | true :: ms, v :: vs, [], es, hl, e, h => nomatch e
  | [], _ :: _, _, _, hl, _, _ => nomatch hl
  | _ :: _, [], _, _, hl, _, _ => nomatch hl
theorem end_ok {C : Ct} {L' O' : List Addr} {σ' : L2.St} {ρ : List Sl} {H' : Hp} {fn : Fn} {vs : List V} {ms : List IV} {O2 : List Addr} (hl : vs.length = fn.muts.length) (hM : C.M = mutA fn.muts vs) (S : SRel C L' O' σ' ρ H') (hm : mutsOf fn.muts ρ = some ms) (h2 : ∀ a ∈ O2, a ∈ O') :
    MutR C.K C.cl O2 H' fn.muts vs ms := by
  refine mutR_of hl hm fun i d hd => ?_
  have hi : i < σ'.length := by rw [S.len]; exact (List.getElem?_eq_some_iff.mp hd).1
  obtain ⟨a, _, h1, w⟩ := S.slot i _ _ (List.getElem?_eq_getElem hi) hd
  exact ⟨a, by rw [← hM]; exact h1, w.less h2⟩
theorem xrep_less {K : PySem.W.Frag} {cl : Nat → Option Addr} {O O' : List Addr} {H : Hp} {c : Value} {dd : Option Addr} {x : Xn} (h2 : ∀ a ∈ O, a ∈ O') (h : XRep K cl O' H c dd x) : XRep K cl O H c dd x := by
  obtain ⟨A, h1, e2, h3⟩ := h
  exact ⟨A, h1, e2, h3.imp (fun z => z) fun ⟨d, fs, e1, n, e2, r⟩ => ⟨d, fs, e1, fun z => n (h2 _ z), e2, r.less h2⟩⟩
/-- what the body's end gives is what the call's end asks -/
theorem endF_ok {K : PySem.W.Frag} {cl : Nat → Option Addr} {O : List Addr} {H : Hp} {fn : Fn} {vs : List V} {Q : VK} {E : XK} {r : Out Fl} (hl : vs.length = fn.muts.length) (h : fEnd K cl O H fn vs Q E (endF fn r)) :
    PostS ⟨K, cl, O, H, mutA fn.muts vs⟩ (fun c dd _ H' => E c dd H') fn.own O H r ⟨fun _ H1 => Q .non H1, Q, fun _ _ => False, fun _ _ => False⟩ := by
  match r, h with
  | none, h => exact h
  | some (.ok .bk, ρ), h => exact h.elim
  | some (.ok .ct, ρ), h => exact h.elim
  | some (.ok .nx, ρ), h =>
    intro L' O' σ' H' g S
    have h : fEnd K cl O H fn vs Q E (if fn.own = true then none else (mutsOf fn.muts ρ).map fun ms => (.ok .non, ms)) := h
    cases ho : fn.own with
    | true => rw [if_pos ho] at h; exact h.elim
    | false =>
      rw [if_neg (by rw [ho]; exact Bool.false_ne_true)] at h
      cases hm : mutsOf fn.muts ρ with
      | none => rw [hm] at h; exact h.elim
      | some ms =>
        rw [hm] at h
        have h : if fn.own = true then _ else _ := h
        rw [if_neg (by rw [ho]; exact Bool.false_ne_true)] at h
        exact h _ H' S.frame (end_ok hl rfl S hm g.sub) .non
  | some (.ok (.rt d), ρ), h =>
    intro L' O' σ' v H' g S rt
    have h : fEnd K cl O H fn vs Q E ((mutsOf fn.muts ρ).map fun ms => (.ok d, ms)) := h
    cases hm : mutsOf fn.muts ρ with
    | none => rw [hm] at h; exact h.elim
    | some ms =>
      rw [hm] at h
      have h : if fn.own = true then _ else _ := h
      unfold RtR at rt
      cases ho : fn.own with
      | true =>
        rw [if_pos ho] at h rt
        obtain ⟨p, rfl, hp, _, h0, w⟩ := rt
        have le : ∀ a ∈ p :: O, a ∈ O' := fun a z => by
          rcases List.mem_cons.mp z with z | z
          · rw [z]; exact hp
          · exact g.sub a z
        exact h p H' h0 S.frame (end_ok hl rfl S hm le) (w.less le)
      | false =>
        rw [if_neg (by rw [ho]; exact Bool.false_ne_true)] at h rt
        exact h v H' S.frame (end_ok hl rfl S hm g.sub) (rt.less g.sub)
  | some (.error x, ρ), h =>
    intro L' O' σ' c dd H' g S xr
    have h : fEnd K cl O H fn vs Q E ((mutsOf fn.muts ρ).map fun ms => (.error x, ms)) := h
    cases hm : mutsOf fn.muts ρ with
    | none => rw [hm] at h; exact h.elim
    | some ms =>
      rw [hm] at h
      exact h c dd H' S.frame (end_ok hl rfl S hm g.sub) (xrep_less g.sub xr)
/-- what is known of a def of the text -/
structure FnI (T : Tab) (K : PySem.W.Frag) (mg : Str → Option Value) (fn : Fn) : Prop where
  ml : fn.muts.length = fn.ps.length
  ex : ∃ (f : Addr) (st : Stmt) (oc : Value) (od : Option Addr) (dV kV doc pm : Value) (an : Option Addr) (cdv ct : Value) (osl : Array (Option Value)),
    mg fn.name = some (.ref f) ∧ PySem.W.keepIn K (.ref f) = true ∧ K.lookup f = some ⟨oc, od, .func (PySem.W.fnOf fn.name fn.name (defArgs st) (defBody st) (defScope st) dV kV doc pm an cdv ct), osl⟩ ∧ PySem.W.codeIn K cdv fn.name = true ∧
    Binds K (PySem.W.fnOf fn.name fn.name (defArgs st) (defBody st) (defScope st) dV kV doc pm an cdv ct) fn.ps [] ∧ (∀ p ∈ fn.kws, KwOk K (PySem.W.fnOf fn.name fn.name (defArgs st) (defBody st) (defScope st) dV kV doc pm an cdv ct) fn.ps p) ∧
    FnScope fn.ns fn.ps (defScope st) ∧ mSs T fn.ns fn.own fn.body (defScope st) (defBody st) = true
section
variable {T : Tab} {nF : Nat} {cl : Nat → Option Addr} {P : Program} {w : World} {K : PySem.W.Frag} {mg : Str → Option Value} {base : Heap}
theorem sto_fn {N ps : List Str} {qual : Str} {scope : Scope} {f : Addr} {cd : Value} {A : Around} {outer : List Env} {s : Shared} {H : Hp} {E : XK} : Sto N scope (cxM P w K mg base N qual scope f cd A outer s H E) := fun i x h => by
  unfold storeB at h
  rw [Bool.and_eq_true, decide_eq_true_eq] at h
  refine ⟨h.1, ?_, .inl rfl⟩
  have h2 := h.2
  unfold locB at h2
  split at h2
  · rename_i e; exact .inl e
  · rename_i e; exact .inr e
  · cases h2
theorem fn_step {k f : Nat} {fn : Fn} (hf : T.fns f = some fn) (I : FnI T K mg fn) (F : Facts T (runF T.fns nF k) k cl P w K mg base) :
    ∃ a fd, mg fn.name = some (.ref a) ∧ PySem.W.keepIn K (.ref a) = true ∧ Binds K fd fn.ps [] ∧ (∀ p ∈ fn.kws, KwOk K fd fn.ps p) ∧ FnR P w K mg base (k + 1) a fd fn.ps (spF (runF T.fns nF (k + 1)) K cl f fn) := by
  obtain ⟨a, st, oc, od, dV, kV, doc, pm, an, cdv, ct, osl, h1, h2, h3, h4, h5, h6, h7, h8⟩ := I.ex
  refine ⟨a, _, h1, h2, h5, h6, fnR_of h3 h4 h7 (fun vs H Q E ⟨_, _, _, z, _⟩ => z) fun A outer s H vs Q E gd room ⟨O, ds, live, hl, ar, nd, q⟩ => ?_⟩
  have ok : XOk T (runF T.fns nF k) k ⟨K, cl, O, H, mutA fn.muts vs⟩ (fun c dd _ H' => E c dd H') fn.ns (defScope st) (cxM P w K mg base fn.ns fn.name (defScope st) a cdv A outer s H E) := by
    refine ⟨rfl, h7.nd, fun x h => ?_, fun x h => h, fun x h => h, rfl, gd, room, takes_of rfl rfl rfl rfl, passes_of rfl, rfl, F⟩
    unfold visB at h
    split at h
    · rename_i e; exact .inl e
    · rename_i e; exact .inr (.inl e)
    · rename_i e; exact .inr (.inr e)
    · cases h
  refine ⟨_, sSs (nF := nF) ⟨ok, rfl, h7.kind, sto_fn (ps := fn.ps)⟩ fn.body h8, [], O, fn.start ds, start_ok live hl ar nd, ?_⟩
  refine endF_ok (by rw [hl, I.ml]) ?_
  have e : runF T.fns nF (k + 1) f ds = endF fn (evSs (runF T.fns nF k) nF fn.body (fn.start ds)) := by
    show (match T.fns f with | none => none | some fn => if ds.length = fn.ps.length then endF fn (evSs (runF T.fns nF k) nF fn.body (fn.start ds)) else none) = _
    rw [hf]
    show (if ds.length = fn.ps.length then _ else _) = _
    rw [if_pos (by rw [← (argR_len ar).2, hl])]
  rw [← e]
  exact q
theorem facts_all (glo : ∀ p ∈ T.glo, ∃ u v, mg p.1 = some u ∧ RelV v u ∧ ∀ O H, Rep K cl O H v p.2) (blt : ∀ x ∈ T.blt, mg x = none) (fns : ∀ f fn, T.fns f = some fn → FnI T K mg fn) : ∀ k, Facts T (runF T.fns nF k) k cl P w K mg base
  | 0 => ⟨glo, blt, fun f fn hf => by
    obtain ⟨a, st, oc, od, dV, kV, doc, pm, an, cdv, ct, osl, h1, h2, h3, h4, h5, h6, h7, h8⟩ := (fns f fn hf).ex
    refine ⟨a, _, h1, h2, h5, h6, ⟨fun vs H Q E ⟨_, _, _, z, _⟩ => z, fun A outer s H args us vs Q E _ _ _ _ _ ⟨O, ds, _, _, _, _, q⟩ => ?_⟩⟩
    exact (show False from q).elim⟩
  | k + 1 => ⟨glo, blt, fun f fn hf => fn_step hf (fns f fn hf) (facts_all glo blt fns k)⟩
end
end Mx


/-! Mx, part 6: the law's head. -/
namespace Mx
open PySem PySem.Spec PyProof.Rows L2
theorem mapInts : ∀ (ns : List Int), (ns.map V.int).length = ns.length := fun ns => List.length_map ..
theorem rep_ints {K : PySem.W.Frag} {cl : Nat → Option Addr} {O : List Addr} {H : Hp} : ∀ ns : List Int, RepAll K cl O H (ns.map V.int) (ns.map IV.int)
  | [] => .nil
  | n :: ns => .cons (.int n) (rep_ints ns)
theorem rep_script {K : PySem.W.Frag} {cl : Nat → Option Addr} {H : Hp} {a : Addr} {ns : List Int} (h : SqL K H a (ns.map V.int)) : Rep K cl [] H (.ref a) (.lst (ns.map IV.int)) := by
  rcases h with h | h
  · exact .lstH h (fun z => nomatch z) (rep_ints ns)
  · exact .lstK (.inr h) (rep_ints ns)
section
variable {P : Program} {w : World} {K : PySem.W.Frag} {mg mb : Str → Option Value} {k : Nat} {fa a : Addr} {x : Str} {sp : Sp} {st : Shared} {vs : List Value} {ns : List Int}
/-- the call of the law, from a heap H in which at most the script is tracked -/
theorem call_from {H : Hp} (inK : K.In st.heap) (glob : st.heap.Ns mainGlobals mg) (bltn : st.heap.Ns builtinsNs mb) (same : ∀ y : Str, y ≠ "__name__" → mb y = bootBuiltins y) (lim : st.heap.NoLimit) (gens : st.gens = #[])
    (obj : st.heap.get? a = some { cls := .type "list", data := .seq vs.toArray }) (room : Room k callerA)
    (prom : ∀ bs : Heap, K.In bs → bs.Ns mainGlobals mg → ∃ fd, Binds K fd [x] [] ∧ FnR P w K mg bs k fa fd [x] sp)
    (hsp : sp [.ref a] H (fun v _ => v = .bl true) fun _ _ _ => False) (only : Only H) (hok : HOk P w H st.heap) (one : ∀ b, H b ≠ none → b = a) (out : H a ≠ none → K.lookup a = none) :
    codeAny (model P w) callerA (.call (.ref fa) ⟨[.ref a], []⟩) (fun r s' => r = .ok (.ret (.bool true)) ∧ OldK st.heap s'.heap ∧ s'.os = st.os ∧ AllBare s'.gens) st := by
  have isA : ∀ {b : Addr} {u : HO}, H b = some u → b = a := fun q => one _ (by rw [q]; exact fun z => nomatch z)
  -- no dict is tracked
  have noDict : ∀ {b : Addr} {o : Obj} {es : Array DictEntry} {ep : Nat}, st.heap.get? b = some o → o.data = .dict es ep → H b = none := by
    intro b o es ep e d
    cases q : H b with
    | none => rfl
    | some u =>
      cases isA q
      rw [obj] at e
      cases e
      exact nomatch (show Data.seq vs.toArray _ = Data.dict es ep from d)
  have nsUp : ∀ {b : Addr} {m : Str → Option Value}, st.heap.Ns b m → (hidT st.heap H).Ns b m := by
    rintro b m ⟨o, es, ep, e, d, r⟩
    exact ⟨o, es, ep, hidT_get e (noDict e d), d, r⟩
  have kUp : K.In (hidT st.heap H) := by
    intro b o e
    refine hidT_get (inK b o e) ?_
    cases q : H b with
    | none => rfl
    | some u =>
      cases isA q
      rw [out (by rw [q]; exact fun z => nomatch z)] at e
      cases e
  obtain ⟨mc, lim1, lim2⟩ := lim
  have env : Env0 P w K mg (hidT st.heap H) callerA [] st H := by
    constructor
    · rfl
    · exact ⟨kUp, nsUp glob, ⟨mb, nsUp bltn, same⟩, ⟨mc, nsUp lim1, lim2⟩⟩
    · exact fun b o e => of_hidT e
    · exact Nat.le_of_eq (hidT_size _ _)
    · trivial
    · exact fun b hb => nomatch (show b ∈ ([] : List Addr) from hb)
    · exact hok
    · exact .of_eq gens
  obtain ⟨fd, bnd, pr⟩ := prom _ kUp (nsUp glob)
  have go := pr.run callerA [] st H ⟨[.ref a], []⟩ [.ref a] [.ref a] _ _ rfl room env (bnd st [.ref a] inK rfl) (.cons rfl .nil) hsp
  refine codeAny_mono go ?_
  intro r s' h
  match r, h with
  | .error e, h =>
    obtain ⟨_, _, _, _, _, _, _, _, _, _, _, _, z⟩ := (show L2.CX P w [] H st (fun _ _ _ => False) e s' from h)
    exact z.elim
  | .ok .next, h => exact h.elim
  | .ok .brk, h => exact h.elim
  | .ok .cont, h => exact h.elim
  | .ok (.ret u), ⟨v, H', os, bare, un, hok', rel, ev⟩ =>
    have ev : v = .bl true := ev
    subst ev
    cases (show u = Value.bool true from rel)
    refine ⟨rfl, OldK.of_keep ?_, os, bare⟩
    intro b o e
    cases q : H b with
    | none => exact un.keep b o e q (fun z => nomatch (show b ∈ ([] : List Addr) from z)) (fun z => nomatch z)
    | some u =>
      obtain z | ⟨ob, xs, z⟩ := only b
      · rw [q] at z; cases z
      · have e1 := (hok b _ z).1
        have e2 := (hok' b _ (un.frzs b ob _ z)).1
        rw [e] at e1
        cases e1
        exact e2
theorem call_law (inK : K.In st.heap) (glob : st.heap.Ns mainGlobals mg) (bltn : st.heap.Ns builtinsNs mb) (same : ∀ y : Str, y ≠ "__name__" → mb y = bootBuiltins y) (lim : st.heap.NoLimit) (gens : st.gens = #[])
    (obj : st.heap.get? a = some { cls := .type "list", data := .seq vs.toArray }) (hin : IntsAre vs ns) (small : ns.length ≤ sizeLine) (room : Room k callerA)
    (prom : ∀ bs : Heap, K.In bs → bs.Ns mainGlobals mg → ∃ fd, Binds K fd [x] [] ∧ FnR P w K mg bs k fa fd [x] sp)
    (hsp : ∀ H : Hp, SqL K H a (ns.map V.int) → sp [.ref a] H (fun v _ => v = .bl true) fun _ _ _ => False) :
    codeAny (model P w) callerA (.call (.ref fa) ⟨[.ref a], []⟩) (fun r s' => r = .ok (.ret (.bool true)) ∧ OldK st.heap s'.heap ∧ s'.os = st.os ∧ AllBare s'.gens) st := by
  have rel := vals_ints hin
  have ln := hin.length
  cases hk : K.lookup a with
  | some o =>
    have e := inK a o hk
    rw [obj] at e
    cases e
    have sq : SqL K (fun _ => none) a (ns.map V.int) := .inr ⟨_, vs.toArray, _, hk, rfl, rfl, rfl, by rw [List.size_toArray, ln]; exact small, by simpa using rel⟩
    refine call_from inK glob bltn same lim gens obj room prom (hsp _ sq) (fun _ => .inl rfl) ?_ (fun b z => absurd rfl z) (fun z => absurd rfl z)
    intro b u z
    exact nomatch (show (none : Option HO) = some u from z)
  | none =>
    let T0 : HO := .frz { cls := .type "list", data := .seq vs.toArray } (.lst (ns.map V.int))
    have at1 : (fun b => if b = a then some T0 else none : Hp) a = some T0 := if_pos rfl
    refine call_from (H := fun b => if b = a then some T0 else none) inK glob bltn same lim gens obj room prom (hsp _ (.inl (.inr ⟨_, at1⟩))) ?_ ?_ ?_ (fun _ => hk)
    · intro b
      by_cases hb : b = a
      · exact .inr ⟨_, _, if_pos hb⟩
      · exact .inl (if_neg hb)
    · intro b u z
      by_cases hb : b = a
      · subst hb
        cases at1.symm.trans z
        exact ⟨obj, by rw [mapInts]; exact small, vs, _, rel, obj⟩
      · cases (if_neg hb).symm.trans z
    · intro b z
      by_cases hb : b = a
      · exact hb
      · exact absurd (if_neg hb) z
end
/-- the head's goal, from a run of the law's def -/
theorem walk_run {l : PySem.W.OpenLaw} {n k nF iL : Nat} {q : Program} {loose : List Str} {XP : (Str → Option Value) → Heap → Prop} {YP : World → Heap → Prop} {d : DefRec} {K : Params → PySem.W.Frag} {x : Str} {cl : Nat → Option Addr} {T : Tab} {fn : Fn}
    (hn : l.most = some n) (hn2 : n ≤ sizeLine) (hdf : d.params.defaults = []) (room : Room k callerA) (hY : ∀ (w : World) (h : Heap), YP w h → (K w.params).In h)
    (hfn : T.fns iL = some fn) (hnm : fn.name = d.name) (hps : fn.ps = [x]) (hmu : fn.muts = [false]) (how : fn.own = false)
    (fac : ∀ (w : World) (mg : Str → Option Value) (h : Heap), (K w.params).In h → h.Ns mainGlobals mg → (∀ p ∈ T.glo, ∃ u v, mg p.1 = some u ∧ RelV v u ∧ ∀ O H, Rep (K w.params) cl O H v p.2) ∧ (∀ y ∈ T.blt, mg y = none) ∧ ∀ f fn, T.fns f = some fn → FnI T (K w.params) mg fn)
    (run : ∀ ns : List Int, ns.length ≤ n → ∃ ms, runF T.fns nF k iL [.lst (ns.map .int)] = some (.ok (.bl true), ms)) :
    PySem.W.WalkO q loose XP YP l.row.toRowW d [] (fun f vs => PySem.call f vs) := by
  refine Att.attach_call hn hdf fun w s₀ s₁ mg mb fa o pm cd doc a vs ns G Y ho hd hcd hmg hobj hints hlen hg => ?_
  have inK := hY w _ Y
  obtain ⟨glo, blt, fns⟩ := fac w mg _ inK G.T.g
  refine call_law (x := x) (sp := spF (runF T.fns nF k) (K w.params) cl iL fn) inK G.T.g G.T.b G.T.builtins G.T.nolimit hg hobj hints (Nat.le_trans hlen hn2) room ?_ ?_
  · intro bs _ _
    obtain ⟨a', fd, e1, _, e3, _, e5⟩ := (facts_all (nF := nF) (P := l.prog) (w := w) (base := bs) glo blt fns k).fns iL fn hfn
    rw [hnm, hmg] at e1
    cases e1
    rw [hps] at e3 e5
    exact ⟨fd, e3, e5⟩
  · intro H sq
    obtain ⟨ms, hr⟩ := run ns hlen
    refine ⟨[], [.lst (ns.map IV.int)], fun _ z => (nomatch z), by rw [hps]; rfl, by rw [hmu]; exact ⟨rep_script sq, trivial⟩, by rw [hmu]; exact List.nodup_nil, ?_⟩
    rw [hr]
    show if fn.own = true then _ else _
    rw [if_neg (by rw [how]; exact Bool.false_ne_true)]
    intro v H' _ _ rp
    cases rp
    rfl
/-! ### what the top has written -/
def scopeB (N P : List Str) (sc : Scope) : Bool :=
  (match sc.kind with | .function => true | _ => false) && (!sc.isCoroutine && !sc.isGenerator) && (decide N.Nodup && decide (N.take P.length = P)) && (P.all (locB sc) && sc.names.all fun y => match y.2 with | .free => false | _ => true)
theorem scope_of {N P : List Str} {sc : Scope} (h : scopeB N P sc = true) : FnScope N P sc := by
  unfold scopeB at h
  simp only [Bool.and_eq_true, Bool.not_eq_true', decide_eq_true_eq, List.all_eq_true] at h
  obtain ⟨⟨⟨h1, h2, h3⟩, h4, h5⟩, h6, h7⟩ := h
  constructor
  · split at h1
    · assumption
    · cases h1
  · exact h2
  · exact h3
  · exact h4
  · exact h5
  · intro x hx
    have z := h6 x hx
    unfold locB at z
    split at z
    · rename_i e; exact .inl e
    · rename_i e; exact .inr e
    · cases z
  · intro y hy e
    have z := h7 y hy
    rw [e] at z
    cases z
def litB : Value → IV → Bool
  | .none, .non => true
  | .bool a, .bl b => a == b
  | .int a _, .int b => a == b
  | .str s _, .str l => decide (s = sOf l)
  | _, _ => false
def litsB : List Value → List IV → Bool
  | [], [] => true
  | u :: us, d :: ds => litB u d && litsB us ds
  | _, _ => false
theorem lit_ok {u : Value} {d : IV} (h : litB u d = true) : ∃ v, RelV v u ∧ ∀ (K : PySem.W.Frag) (cl : Nat → Option Addr) (O : List Addr) (H : Hp), Rep K cl O H v d := by
  match u, d, h with
  | .none, .non, _ => exact ⟨.non, rfl, fun _ _ _ _ => .non⟩
  | .bool a, .bl b, h => cases (show a = b by simpa [litB] using h); exact ⟨.bl a, rfl, fun _ _ _ _ => .bl a⟩
  | .int a t, .int b, h => cases (show a = b by simpa [litB] using h); exact ⟨.int a, ⟨t, rfl⟩, fun _ _ _ _ => .int a⟩
  | .str s t, .str l, h => cases (show s = sOf l by simpa [litB] using h); exact ⟨.str (sOf l), ⟨t, rfl⟩, fun _ _ _ _ => .str l⟩
theorem lits_ok : ∀ {us : List Value} {ds : List IV}, litsB us ds = true → ∃ vs, Vals vs us ∧ ∀ (K : PySem.W.Frag) (cl : Nat → Option Addr) (O : List Addr) (H : Hp), RepAll K cl O H vs ds
  | [], [], _ => ⟨[], .nil, fun _ _ _ _ => .nil⟩
  | u :: us, d :: ds, h => by
    have h' : (litB u d && litsB us ds) = true := h
    rw [Bool.and_eq_true] at h'
    obtain ⟨v, r, p⟩ := lit_ok h'.1
    obtain ⟨vs, rs, ps⟩ := lits_ok h'.2
    exact ⟨v :: vs, .cons r rs, fun K cl O H => .cons (p K cl O H) (ps K cl O H)⟩
  | [], _ :: _, h => nomatch h
  | _ :: _, [], h => nomatch h
def tupB (o : Obj) (ds : List IV) : Bool := (match o.cls with | .type n => n == "tuple" | _ => false) && match o.data with
  | .seq its _ => decide (its.size ≤ SZ) && litsB its.toList ds
  | _ => false
section
variable {K : PySem.W.Frag} {cl : Nat → Option Addr} {h : Heap} {mg : Str → Option Value}
theorem glo_lit {x : Str} {u : Value} {d : IV} (X : K.In h) (G : h.Ns mainGlobals mg) (a : PySem.W.nsIn K mainGlobals x = some (some u)) (e : litB u d = true) : ∃ u v, mg (x, d).1 = some u ∧ RelV v u ∧ ∀ O H, Rep K cl O H v (x, d).2 := by
  obtain ⟨v, r, p⟩ := lit_ok e
  exact ⟨u, v, PySem.W.mg_of X G a, r, fun O H => p K cl O H⟩
theorem glo_tup {x : Str} {p : Addr} {o : Obj} {ds : List IV} (X : K.In h) (G : h.Ns mainGlobals mg) (a : PySem.W.nsIn K mainGlobals x = some (some (.ref p))) (l : K.lookup p = some o) (e : tupB o ds = true) :
    ∃ u v, mg (x, IV.tup ds).1 = some u ∧ RelV v u ∧ ∀ O H, Rep K cl O H v (x, IV.tup ds).2 := by
  unfold tupB at e
  rw [Bool.and_eq_true] at e
  obtain ⟨e1, e2⟩ := e
  have hc : o.cls = .type "tuple" := by
    split at e1
    · rename_i n en
      rw [en, eq_of_beq e1]
    · cases e1
  split at e2
  · rename_i its n hd
    rw [Bool.and_eq_true, decide_eq_true_eq] at e2
    obtain ⟨vs, r, q⟩ := lits_ok e2.2
    exact ⟨.ref p, .ref p, PySem.W.mg_of X G a, rfl, fun O H => .tupK (.inr ⟨o, its, n, l, hc, hd, szl e2.1, r⟩) (q K cl O H)⟩
  · cases e2
theorem fni {T : Tab} {fn : Fn} {st : Stmt} {f : Addr} {oc : Value} {od an : Option Addr} {kV doc pm cdv ct : Value} {osl : Array (Option Value)} (X : K.In h) (G : h.Ns mainGlobals mg) (ml : fn.muts.length = fn.ps.length)
    (a : PySem.W.nsIn K mainGlobals fn.name = some (some (.ref f))) (l : K.lookup f = some ⟨oc, od, .func (PySem.W.fnOf fn.name fn.name (defArgs st) (defBody st) (defScope st) .none kV doc pm an cdv ct), osl⟩) (c : PySem.W.codeIn K cdv fn.name = true)
    (kp : PySem.W.keepIn K (.ref f) = true) (b : Binds K (PySem.W.fnOf fn.name fn.name (defArgs st) (defBody st) (defScope st) .none kV doc pm an cdv ct) fn.ps [])
    (kw : ∀ p ∈ fn.kws, KwOk K (PySem.W.fnOf fn.name fn.name (defArgs st) (defBody st) (defScope st) .none kV doc pm an cdv ct) fn.ps p) (sc : FnScope fn.ns fn.ps (defScope st)) (m : mSs T fn.ns fn.own fn.body (defScope st) (defBody st) = true) : FnI T K mg fn :=
  ⟨ml, f, st, oc, od, .none, kV, doc, pm, an, cdv, ct, osl, PySem.W.mg_of X G a, kp, l, c, b, kw, sc, m⟩
end
end Mx


/-! Mx, part 7: how runs are reckoned. -/
namespace Mx
open PySem PySem.Spec PyProof.Rows L2
/-- the run ends well, with Q -/
def Ok {α : Type} (r : Out α) (Q : α → List Sl → Prop) : Prop := match r with
  | some (.ok a, ρ) => Q a ρ
  | _ => False
section
variable {α β : Type} {ρ : List Sl}
theorem Ok.mono {r : Out α} {Q Q' : α → List Sl → Prop} (h : Ok r Q) (k : ∀ a ρ, Q a ρ → Q' a ρ) : Ok r Q' := by
  match r, h with
  | some (.ok a, ρ), h => exact k a ρ h
theorem Ok.eq {r : Out α} {Q : α → List Sl → Prop} (h : Ok r Q) : ∃ a ρ, r = some (.ok a, ρ) ∧ Q a ρ := by
  match r, h with
  | some (.ok a, ρ), h => exact ⟨a, ρ, rfl, h⟩
theorem Ok.of {r : Out α} {Q : α → List Sl → Prop} {a : α} {ρ : List Sl} (e : r = some (.ok a, ρ)) (h : Q a ρ) : Ok r Q := by subst e; exact h
theorem ok_some {a : α} {Q : α → List Sl → Prop} : Ok (some (.ok a, ρ)) Q = Q a ρ := rfl
theorem ok_pure {a : α} {Q : α → List Sl → Prop} : Ok (rPure a ρ) Q = Q a ρ := rfl
theorem ok_bind {m : R α} {f : α → R β} {Q : β → List Sl → Prop} : Ok (rBind m f ρ) Q = Ok (m ρ) (fun a ρ1 => Ok (f a ρ1) Q) := by
  unfold rBind
  match m ρ with
  | none => rfl
  | some (.ok a, ρ) => rfl
  | some (.error x, ρ) => rfl
theorem ok_lift {o : Option α} {Q : α → List Sl → Prop} : Ok (rLift o ρ) Q = (match o with | some a => Q a ρ | none => False) := by
  unfold rLift
  cases o <;> rfl
theorem ok_if {c : Bool} {a b : R α} {Q : α → List Sl → Prop} : Ok ((if c = true then a else b) ρ) Q = (if c = true then Ok (a ρ) Q else Ok (b ρ) Q) := by cases c <;> rfl
theorem ok_rIf {c : R Bool} {a b : R α} {Q : α → List Sl → Prop} : Ok (rIf c a b ρ) Q = Ok (c ρ) (fun t ρ1 => if t = true then Ok (a ρ1) Q else Ok (b ρ1) Q) := by
  unfold rIf
  rw [ok_bind]
  congr
  funext t ρ1
  exact ok_if
end
theorem ok_var {i : Nat} {ρ : List Sl} {Q : IV → List Sl → Prop} : Ok (rVar i ρ) Q = (match ρ[i]? with | some (.i d) => Q d ρ | _ => False) := by
  unfold rVar
  match ρ[i]? with
  | none => rfl
  | some .e => rfl
  | some (.i d) => rfl
  | some (.o d) => rfl
  | some (.b d) => rfl
theorem ok_view {i : Nat} {ρ : List Sl} {Q : IV → List Sl → Prop} : Ok (rView i ρ) Q = (match ρ[i]? with | some (.o d) => Q d ρ | some (.b d) => Q d ρ | _ => False) := by
  unfold rView
  match ρ[i]? with
  | none => rfl
  | some .e => rfl
  | some (.i d) => rfl
  | some (.o d) => rfl
  | some (.b d) => rfl
theorem ok_set {i : Nat} {r : Sl} {ρ : List Sl} {Q : Fl → List Sl → Prop} : Ok (rSet i r ρ) Q = Q .nx (ρ.set i r) := rfl
/-- a def's call ends well: its value, its changing arguments -/
def OkF (r : Option (Except Xn IV × List IV)) (Q : IV → List IV → Prop) : Prop := match r with
  | some (.ok d, ms) => Q d ms
  | _ => False
theorem OkF.eq {r : Option (Except Xn IV × List IV)} {Q : IV → List IV → Prop} (h : OkF r Q) : ∃ d ms, r = some (.ok d, ms) ∧ Q d ms := by
  match r, h with
  | some (.ok d, ms), h => exact ⟨d, ms, rfl, h⟩
theorem OkF.mono {r : Option (Except Xn IV × List IV)} {Q Q' : IV → List IV → Prop} (h : OkF r Q) (k : ∀ d ms, Q d ms → Q' d ms) : OkF r Q' := by
  match r, h with
  | some (.ok d, ms), h => exact k d ms h
/-- a call: the arguments at hand -/
theorem ok_call {cs : CS} {f : Nat} {xs : List (IV ⊕ Nat)} {ρ : List Sl} {Q : IV → List Sl → Prop} {ds : List IV} (e : argsD ρ xs = some ds) (h : OkF (cs f ds) fun d ms => Q d (putM xs ms ρ)) : Ok (rCall cs f xs ρ) Q := by
  unfold rCall
  rw [e]
  obtain ⟨d, ms, e2, q⟩ := h.eq
  show Ok (match cs f ds with | none => none | some (r, ms) => some (r, putM xs ms ρ)) Q
  rw [e2]
  exact q
/-- a def by its body -/
theorem okF_run {T : Nat → Option Fn} {N k f : Nat} {fn : Fn} {ds : List IV} {Q : IV → List IV → Prop} (hf : T f = some fn) (hl : ds.length = fn.ps.length)
    (h : Ok (evSs (runF T N k) N fn.body (fn.start ds)) fun fl ρ => match fl with
      | .rt d => ∃ ms, mutsOf fn.muts ρ = some ms ∧ Q d ms
      | .nx => fn.own = false ∧ ∃ ms, mutsOf fn.muts ρ = some ms ∧ Q .non ms
      | _ => False) : OkF (runF T N (k + 1) f ds) Q := by
  show OkF (match T f with | none => none | some fn => if ds.length = fn.ps.length then endF fn (evSs (runF T N k) N fn.body (fn.start ds)) else none) Q
  rw [hf]
  show OkF (if ds.length = fn.ps.length then endF fn (evSs (runF T N k) N fn.body (fn.start ds)) else none) Q
  rw [if_pos hl]
  obtain ⟨fl, ρ, e, q⟩ := h.eq
  rw [e]
  match fl, q with
  | .rt d, ⟨ms, e2, q⟩ =>
    show OkF ((mutsOf fn.muts ρ).map fun ms => (.ok d, ms)) Q
    rw [e2]
    exact q
  | .nx, ⟨ho, ms, e2, q⟩ =>
    show OkF (if fn.own = true then none else (mutsOf fn.muts ρ).map fun ms => (.ok .non, ms)) Q
    rw [if_neg (by rw [ho]; exact Bool.false_ne_true), e2]
    exact q
theorem ok_ss_nil {cs : CS} {N : Nat} {ρ : List Sl} {Q : Fl → List Sl → Prop} : Ok (evSs cs N .nil ρ) Q = Q .nx ρ := rfl
theorem ok_ss_cons {cs : CS} {N : Nat} {s : S} {r : Ss} {ρ : List Sl} {Q : Fl → List Sl → Prop} : Ok (evSs cs N (.cons s r) ρ) Q = Ok (evS cs N s ρ) (fun f ρ1 => match f with | .nx => Ok (evSs cs N r ρ1) Q | f => Q f ρ1) := by
  show Ok ((rBind (evS cs N s) fun f => match f with | .nx => evSs cs N r | f => rPure f) ρ) Q = _
  rw [ok_bind]
  congr
  funext f ρ1
  cases f <;> rfl
/-- a loop over data: an invariant by the turn -/
theorem ok_for {tg : List Nat} {b : R Fl} {Q : Fl → List Sl → Prop} (P : Nat → List Sl → Prop) : ∀ (xs : List IV) (n : Nat) {ρ : List Sl}, P n ρ →
    (∀ (i : Nat) (x : IV) (ρ : List Sl), xs[i]? = some x → P (n + i) ρ → Ok (rTg tg x ρ) fun _ ρ1 => Ok (b ρ1) fun f ρ2 => match f with | .nx => P (n + i + 1) ρ2 | .ct => P (n + i + 1) ρ2 | .bk => Q .nx ρ2 | .rt d => Q (.rt d) ρ2) →
    (∀ ρ, P (n + xs.length) ρ → Q .nx ρ) → Ok (rFor tg b xs ρ) Q
  | [], n, ρ, h, _, e => e ρ h
  | x :: xs, n, ρ, h, s, e => by
    show Ok ((rBind (rTg tg x) fun _ => rBind b fun f => match f with | .nx => rFor tg b xs | .ct => rFor tg b xs | .bk => rPure .nx | .rt d => rPure (.rt d)) ρ) Q
    rw [ok_bind]
    have go : ∀ {ρ2 : List Sl}, P (n + 1) ρ2 → Ok (rFor tg b xs ρ2) Q := fun {ρ2} hp => ok_for P xs (n + 1) hp (fun i y ρ hy hp => by
      have z := s (i + 1) y ρ hy (by rw [show n + (i + 1) = n + 1 + i from by omega]; exact hp)
      rw [show n + (i + 1) + 1 = n + 1 + i + 1 from by omega] at z
      exact z) (fun ρ hp => e ρ (by rw [show n + (x :: xs).length = n + 1 + xs.length from by rw [List.length_cons]; omega]; exact hp))
    refine (s 0 x ρ rfl h).mono fun _ ρ1 h1 => ?_
    rw [ok_bind]
    refine h1.mono fun f ρ2 h2 => ?_
    cases f with
    | nx => exact go h2
    | ct => exact go h2
    | bk => exact h2
    | rt d => exact h2
/-- a comprehension: an invariant by the turn and what has been gathered -/
theorem ok_comp {tg : List Nat} {c : R Bool} {e : R IV} {Q : List IV → List Sl → Prop} (P : Nat → List IV → List Sl → Prop) : ∀ (xs : List IV) (n : Nat) (acc : List IV) {ρ : List Sl}, P n acc ρ →
    (∀ (i : Nat) (x : IV) (acc : List IV) (ρ : List Sl), xs[i]? = some x → P (n + i) acc ρ → Ok (rTg tg x ρ) fun _ ρ1 => Ok (c ρ1) fun t ρ2 => if t = true then Ok (e ρ2) fun y ρ3 => P (n + i + 1) (acc ++ [y]) (clear tg ρ3) else P (n + i + 1) acc (clear tg ρ2)) →
    (∀ ys ρ, P (n + xs.length) (acc ++ ys) ρ → Q ys ρ) → Ok (rComp tg c e xs ρ) Q
  | [], n, acc, ρ, h, _, q => q [] ρ (by rw [List.append_nil]; exact h)
  | x :: xs, n, acc, ρ, h, s, q => by
    show Ok ((rBind (rTg tg x) fun _ => rBind c fun t => if t = true then rBind e fun y => rBind (rClr tg) fun _ => rBind (rComp tg c e xs) fun ys => rPure (y :: ys) else rBind (rClr tg) fun _ => rComp tg c e xs) ρ) Q
    rw [ok_bind]
    have go : ∀ {acc2 : List IV} {ρ2 : List Sl} {Q2 : List IV → List Sl → Prop}, P (n + 1) acc2 ρ2 → (∀ ys ρ, P (n + (x :: xs).length) (acc2 ++ ys) ρ → Q2 ys ρ) → Ok (rComp tg c e xs ρ2) Q2 := fun {acc2 ρ2 Q2} hp hq => ok_comp P xs (n + 1) acc2 hp (fun i y a ρ hy hp => by
      have z := s (i + 1) y a ρ hy (by rw [show n + (i + 1) = n + 1 + i from by omega]; exact hp)
      rw [show n + (i + 1) + 1 = n + 1 + i + 1 from by omega] at z
      exact z) (fun ys ρ hp => hq ys ρ (by rw [show n + (x :: xs).length = n + 1 + xs.length from by rw [List.length_cons]; omega]; exact hp))
    refine (s 0 x acc ρ rfl h).mono fun _ ρ1 h1 => ?_
    rw [ok_bind]
    refine h1.mono fun t ρ2 h2 => ?_
    cases t with
    | true =>
      rw [if_pos rfl] at h2 ⊢
      rw [ok_bind]
      refine h2.mono fun y ρ3 h3 => ?_
      rw [ok_bind]
      show Ok ((rBind (rComp tg c e xs) fun ys => rPure (y :: ys)) (clear tg ρ3)) Q
      rw [ok_bind]
      exact go h3 fun ys ρ hp => q (y :: ys) ρ (by rw [show acc ++ y :: ys = acc ++ [y] ++ ys from by rw [List.append_assoc]; rfl]; exact hp)
    | false =>
      rw [if_neg Bool.false_ne_true] at h2 ⊢
      rw [ok_bind]
      exact go h2 q
theorem ok_list {tg : List Nat} {c : R Bool} {e : R IV} {xs : List IV} {ρ : List Sl} {Q : IV → List Sl → Prop} (h1 : light tg ρ = true) (h2 : xs.length ≤ SZ) (h : Ok (rComp tg c e xs (clear tg ρ)) fun ys ρ' => Q (.lst ys) (back tg ρ ρ')) : Ok (rList tg c e xs ρ) Q := by
  unfold rList
  rw [if_pos ⟨h1, h2⟩]
  obtain ⟨ys, ρ', e, q⟩ := h.eq
  rw [e]
  exact q
/-- while: an invariant by a measure -/
theorem ok_while {c : R Bool} {b : R Fl} {Q : Fl → List Sl → Prop} (P : Nat → List Sl → Prop) (h : ∀ m ρ, P m ρ → Ok (c ρ) fun t ρ1 => if t = true then Ok (b ρ1) fun f ρ2 => match f with | .nx => ∃ m', m' < m ∧ P m' ρ2 | .ct => ∃ m', m' < m ∧ P m' ρ2 | .bk => Q .nx ρ2 | .rt d => Q (.rt d) ρ2 else Q .nx ρ1) :
    ∀ (N m : Nat) {ρ : List Sl}, m < N → P m ρ → Ok (rWhile c b N ρ) Q
  | 0, m, ρ, hm, _ => absurd hm (Nat.not_lt_zero _)
  | N + 1, m, ρ, hm, hp => by
    show Ok ((rBind c fun t => if t = true then rBind b fun f => match f with | .nx => rWhile c b N | .ct => rWhile c b N | .bk => rPure .nx | .rt d => rPure (.rt d) else rPure .nx) ρ) Q
    rw [ok_bind]
    refine (h m ρ hp).mono fun t ρ1 h1 => ?_
    cases t with
    | false => rw [if_neg Bool.false_ne_true] at h1 ⊢; exact h1
    | true =>
      rw [if_pos rfl] at h1 ⊢
      rw [ok_bind]
      refine h1.mono fun f ρ2 h2 => ?_
      cases f with
      | nx => obtain ⟨m', l, p⟩ := h2; exact ok_while P h N m' (by omega) p
      | ct => obtain ⟨m', l, p⟩ := h2; exact ok_while P h N m' (by omega) p
      | bk => exact h2
      | rt d => exact h2
end Mx


/-! Mx, part 8: runs reckoned by simp: each word, from the outside. -/
namespace Mx
open PySem PySem.Spec PyProof.Rows L2
def OkO {α : Type} (o : Option α) (Q : α → Prop) : Prop := match o with
  | some a => Q a
  | none => False
def OkS (r : Option Sl) (Q : Sl → Prop) : Prop := match r with
  | some s => Q s
  | none => False
section
variable {α β : Type} {ρ : List Sl} {cs : CS} {N : Nat} {Q : IV → List Sl → Prop} {B : Bool → List Sl → Prop} {F : Fl → List Sl → Prop}
@[simp ↓] theorem okO_some {a : α} {Q : α → Prop} : OkO (some a) Q = Q a := rfl
@[simp ↓] theorem okO_none {Q : α → Prop} : OkO (none : Option α) Q = False := rfl
theorem okO_map {o : Option α} {f : α → β} {Q : β → Prop} : OkO (o.map f) Q = OkO o fun a => Q (f a) := by cases o <;> rfl
theorem ok_lift' {o : Option α} {Q : α → List Sl → Prop} : Ok (rLift o ρ) Q = OkO o fun a => Q a ρ := by cases o <;> rfl
@[simp ↓] theorem okE_var {i : Nat} : Ok ((ev cs (.var i)).1 ρ) Q = OkO ρ[i]? (fun r => match r with | .i d => Q d ρ | _ => False) := by
  show Ok (rVar i ρ) Q = _
  rw [ok_var]
  match ρ[i]? with
  | none => rfl
  | some .e => rfl
  | some (.i d) => rfl
  | some (.o d) => rfl
  | some (.b d) => rfl
@[simp ↓] theorem okE_view {i : Nat} : Ok ((ev cs (.view i)).1 ρ) Q = OkO ρ[i]? (fun r => match r with | .o d => Q d ρ | .b d => Q d ρ | _ => False) := by
  show Ok (rView i ρ) Q = _
  rw [ok_view]
  match ρ[i]? with
  | none => rfl
  | some .e => rfl
  | some (.i d) => rfl
  | some (.o d) => rfl
  | some (.b d) => rfl
@[simp ↓] theorem okE_cst {d : IV} : Ok ((ev cs (.cst d)).1 ρ) Q = Q d ρ := rfl
@[simp ↓] theorem okE_glo {x : Str} {d : IV} : Ok ((ev cs (.glo x d)).1 ρ) Q = Q d ρ := rfl
@[simp ↓] theorem okE_bin {o : BOp} {a b : E} : Ok ((ev cs (.bin o a b)).1 ρ) Q = Ok ((ev cs a).1 ρ) fun x ρ1 => Ok ((ev cs b).1 ρ1) fun y ρ2 => OkO (binD o x y) fun d => Q d ρ2 := by
  show Ok ((rBind (ev cs a).1 fun x => rBind (ev cs b).1 fun y => rLift (binD o x y)) ρ) Q = _
  simp only [ok_bind, ok_lift']
@[simp ↓] theorem okE_cmp {o : COp} {a b : E} : Ok ((ev cs (.cmp o a b)).1 ρ) Q = Ok ((ev cs a).1 ρ) fun x ρ1 => Ok ((ev cs b).1 ρ1) fun y ρ2 => OkO (cmpD o x y) fun t => Q (.bl t) ρ2 := by
  show Ok ((rBind (ev cs a).1 fun x => rBind (ev cs b).1 fun y => rLift ((cmpD o x y).map .bl)) ρ) Q = _
  simp only [ok_bind, ok_lift', okO_map]
theorem okT {e : E} (h : (ev cs e).2 = rBind (ev cs e).1 fun d => rLift (truD d)) : Ok ((ev cs e).2 ρ) B = Ok ((ev cs e).1 ρ) fun d ρ1 => OkO (truD d) fun t => B t ρ1 := by
  rw [h]
  simp only [ok_bind, ok_lift']
@[simp ↓] theorem okT_cmp {o : COp} {a b : E} : Ok ((ev cs (.cmp o a b)).2 ρ) B = Ok ((ev cs a).1 ρ) fun x ρ1 => Ok ((ev cs b).1 ρ1) fun y ρ2 => OkO (cmpD o x y) fun t => B t ρ2 := by
  rw [okT rfl, okE_cmp]
  rfl
@[simp ↓] theorem okE_chn {o o' : COp} {a b c : E} : Ok ((ev cs (.chn o o' a b c)).1 ρ) Q = Ok ((ev cs a).1 ρ) fun x ρ1 => Ok ((ev cs b).1 ρ1) fun y ρ2 => OkO (cmpD o x y) fun t => if t = true then Ok ((ev cs c).1 ρ2) fun z ρ3 => OkO (cmpD o' y z) fun t => Q (.bl t) ρ3 else Q (.bl false) ρ2 := by
  show Ok ((rBind (ev cs a).1 fun x => rBind (ev cs b).1 fun y => rBind (rLift (cmpD o x y)) fun t => if t = true then rBind (ev cs c).1 fun z => rLift ((cmpD o' y z).map .bl) else rPure (.bl false)) ρ) Q = _
  simp only [ok_bind, ok_lift', okO_map, ok_if, ok_pure]
@[simp ↓] theorem okT_chn {o o' : COp} {a b c : E} : Ok ((ev cs (.chn o o' a b c)).2 ρ) B = Ok ((ev cs a).1 ρ) fun x ρ1 => Ok ((ev cs b).1 ρ1) fun y ρ2 => OkO (cmpD o x y) fun t => if t = true then Ok ((ev cs c).1 ρ2) fun z ρ3 => OkO (cmpD o' y z) fun t => B t ρ3 else B false ρ2 := by
  rw [okT rfl, okE_chn]
  rfl
@[simp ↓] theorem okE_not {a : E} : Ok ((ev cs (.not a)).1 ρ) Q = Ok ((ev cs a).1 ρ) fun x ρ1 => match x with | .bl b => Q (.bl !b) ρ1 | _ => False := by
  show Ok ((rBind (ev cs a).1 fun x => match x with | .bl b => rPure (.bl !b) | _ => rLift none) ρ) Q = _
  rw [ok_bind]
  congr
  funext x ρ1
  cases x <;> rfl
@[simp ↓] theorem okT_not {a : E} : Ok ((ev cs (.not a)).2 ρ) B = Ok ((ev cs a).2 ρ) fun t ρ1 => B (!t) ρ1 := by
  show Ok ((rBind (ev cs a).2 fun t => rPure !t) ρ) B = _
  rw [ok_bind]
  rfl
@[simp ↓] theorem okE_neg {a : E} : Ok ((ev cs (.neg a)).1 ρ) Q = Ok ((ev cs a).1 ρ) fun x ρ1 => match x with | .int i => Q (.int (-i)) ρ1 | _ => False := by
  show Ok ((rBind (ev cs a).1 fun x => match x with | .int i => rPure (.int (-i)) | _ => rLift none) ρ) Q = _
  rw [ok_bind]
  congr
  funext x ρ1
  cases x <;> rfl
@[simp ↓] theorem okE_ite {c a b : E} : Ok ((ev cs (.ite c a b)).1 ρ) Q = Ok ((ev cs c).2 ρ) fun t ρ1 => if t = true then Ok ((ev cs a).1 ρ1) Q else Ok ((ev cs b).1 ρ1) Q := ok_rIf
@[simp ↓] theorem okE_ix {a b : E} : Ok ((ev cs (.ix a b)).1 ρ) Q = Ok ((ev cs a).1 ρ) fun x ρ1 => Ok ((ev cs b).1 ρ1) fun y ρ2 => OkO (ixD x y) fun d => Q d ρ2 := by
  show Ok ((rBind (ev cs a).1 fun x => rBind (ev cs b).1 fun y => rLift (ixD x y)) ρ) Q = _
  simp only [ok_bind, ok_lift']
@[simp ↓] theorem okO_no {Q : Option Int → List Sl → Prop} : Ok (evO cs .no ρ) Q = Q none ρ := rfl
@[simp ↓] theorem okO_yes {e : E} {Q : Option Int → List Sl → Prop} : Ok (evO cs (.yes e) ρ) Q = Ok ((ev cs e).1 ρ) fun x ρ1 => match x with | .int i => Q (some i) ρ1 | _ => False := by
  show Ok ((rBind (ev cs e).1 fun x => rLift ((intI x).map some)) ρ) Q = _
  rw [ok_bind]
  congr
  funext x ρ1
  cases x <;> rfl
@[simp ↓] theorem okE_sl {a : E} {lo hi : OE} : Ok ((ev cs (.sl a lo hi)).1 ρ) Q = Ok ((ev cs a).1 ρ) fun x ρ1 => Ok (evO cs lo ρ1) fun l ρ2 => Ok (evO cs hi ρ2) fun h ρ3 => OkO (slD x l h) fun d => Q d ρ3 := by
  show Ok ((rBind (ev cs a).1 fun x => rBind (evO cs lo) fun l => rBind (evO cs hi) fun h => rLift (slD x l h)) ρ) Q = _
  simp only [ok_bind, ok_lift']
@[simp ↓] theorem okEs_nil {Q : List IV → List Sl → Prop} : Ok (evEs cs .nil ρ) Q = Q [] ρ := rfl
@[simp ↓] theorem okEs_cons {e : E} {r : Es} {Q : List IV → List Sl → Prop} : Ok (evEs cs (.cons e r) ρ) Q = Ok ((ev cs e).1 ρ) fun x ρ1 => Ok (evEs cs r ρ1) fun xs ρ2 => Q (x :: xs) ρ2 := by
  show Ok ((rBind (ev cs e).1 fun x => rBind (evEs cs r) fun xs => rPure (x :: xs)) ρ) Q = _
  simp only [ok_bind, ok_pure]
@[simp ↓] theorem okE_lst {es : Es} : Ok ((ev cs (.lst es)).1 ρ) Q = Ok (evEs cs es ρ) fun xs ρ1 => if xs.length ≤ SZ then Q (.lst xs) ρ1 else False := by
  show Ok ((rBind (evEs cs es) fun xs => rLift (if xs.length ≤ SZ then some (.lst xs) else none)) ρ) Q = _
  rw [ok_bind]
  congr
  funext xs ρ1
  by_cases h : xs.length ≤ SZ
  · rw [if_pos h, if_pos h]; rfl
  · rw [if_neg h, if_neg h]; rfl
@[simp ↓] theorem okE_tup {es : Es} : Ok ((ev cs (.tup es)).1 ρ) Q = Ok (evEs cs es ρ) fun xs ρ1 => if xs.length ≤ SZ then Q (.tup xs) ρ1 else False := by
  show Ok ((rBind (evEs cs es) fun xs => rLift (if xs.length ≤ SZ then some (.tup xs) else none)) ρ) Q = _
  rw [ok_bind]
  congr
  funext xs ρ1
  by_cases h : xs.length ≤ SZ
  · rw [if_pos h, if_pos h]; rfl
  · rw [if_neg h, if_neg h]; rfl
@[simp ↓] theorem okE_dct {ks : List Key} {es : Es} : Ok ((ev cs (.dct ks es)).1 ρ) Q = Ok (evEs cs es ρ) fun xs ρ1 => Q (.dct (ks.zip xs)) ρ1 := by
  show Ok ((rBind (evEs cs es) fun xs => rPure (.dct (ks.zip xs))) ρ) Q = _
  simp only [ok_bind, ok_pure]
@[simp ↓] theorem okE_fn {f : BFn} {es : Es} : Ok ((ev cs (.fn f es)).1 ρ) Q = Ok (evEs cs es ρ) fun xs ρ1 => OkO (fnD f xs) fun d => Q d ρ1 := by
  show Ok ((rBind (evEs cs es) fun xs => rLift (fnD f xs)) ρ) Q = _
  simp only [ok_bind, ok_lift']
@[simp ↓] theorem okT_fn {f : BFn} {es : Es} : Ok ((ev cs (.fn f es)).2 ρ) B = Ok (evEs cs es ρ) fun xs ρ1 => OkO (fnD f xs) fun d => OkO (truD d) fun t => B t ρ1 := by
  rw [okT rfl, okE_fn]
@[simp ↓] theorem okE_isi {a : E} {t : String} : Ok ((ev cs (.isi a t)).1 ρ) Q = Ok ((ev cs a).1 ρ) fun x ρ1 => OkO (isiD x t) fun b => Q (.bl b) ρ1 := by
  show Ok ((rBind (ev cs a).1 fun x => rLift ((isiD x t).map .bl)) ρ) Q = _
  simp only [ok_bind, ok_lift', okO_map]
@[simp ↓] theorem okT_isi {a : E} {t : String} : Ok ((ev cs (.isi a t)).2 ρ) B = Ok ((ev cs a).1 ρ) fun x ρ1 => OkO (isiD x t) fun b => B b ρ1 := by
  rw [okT rfl, okE_isi]
  rfl
@[simp ↓] theorem okE_mt {m : BMt} {a : E} {es : Es} : Ok ((ev cs (.mt m a es)).1 ρ) Q = Ok ((ev cs a).1 ρ) fun x ρ1 => OkO (strI x) fun _ => Ok (evEs cs es ρ1) fun xs ρ2 => OkO (mtD m x xs) fun d => Q d ρ2 := by
  show Ok ((rBind (ev cs a).1 fun x => rBind (rLift (strI x)) fun _ => rBind (evEs cs es) fun xs => rLift (mtD m x xs)) ρ) Q = _
  simp only [ok_bind, ok_lift']
@[simp] theorem strI_str {l : List Nat} : strI (.str l) = some () := rfl
@[simp ↓] theorem okE_call {f : Nat} {as : As} : Ok ((ev cs (.call f as)).1 ρ) Q = Ok (evAs cs as ρ) fun xs ρ1 => OkO (argsD ρ1 xs) fun ds => OkF (cs f ds) fun d ms => Q d (putM xs ms ρ1) := by
  show Ok ((rBind (evAs cs as) fun xs => rCall cs f xs) ρ) Q = _
  rw [ok_bind]
  congr
  funext xs ρ1
  unfold rCall
  cases argsD ρ1 xs with
  | none => rfl
  | some ds =>
    show Ok (match cs f ds with | none => none | some (r, ms) => some (r, putM xs ms ρ1)) Q = _
    match h : cs f ds with
    | none => simp only [okO_some, h]; rfl
    | some (.ok d, ms) => simp only [okO_some, h]; rfl
    | some (.error x, ms) => simp only [okO_some, h]; rfl
@[simp ↓] theorem okT_call {f : Nat} {as : As} : Ok ((ev cs (.call f as)).2 ρ) B = Ok (evAs cs as ρ) fun xs ρ1 => OkO (argsD ρ1 xs) fun ds => OkF (cs f ds) fun d ms => OkO (truD d) fun t => B t (putM xs ms ρ1) := by
  rw [okT rfl, okE_call]
@[simp ↓] theorem okE_callK {f : Nat} {as bs : Es} {ks : List Str} {perm : List Nat} : Ok ((ev cs (.callK f as bs ks perm)).1 ρ) Q = Ok (evEs cs as ρ) fun ds ρ1 => Ok (evEs cs bs ρ1) fun es ρ2 => OkO (pick (ds ++ es) perm) fun ws => OkF (cs f ws) fun d _ => Q d ρ2 := by
  show Ok ((rBind (evEs cs as) fun ds => rBind (evEs cs bs) fun es => rCallK cs f perm (ds ++ es)) ρ) Q = _
  rw [ok_bind]
  congr
  funext ds ρ1
  rw [ok_bind]
  congr
  funext es ρ2
  unfold rCallK
  cases pick (ds ++ es) perm with
  | none => rfl
  | some ws =>
    show Ok (match cs f ws with | none => none | some (r, _) => some (r, ρ2)) Q = _
    match h : cs f ws with
    | none => simp only [okO_some, h]; rfl
    | some (.ok d, ms) => simp only [okO_some, h]; rfl
    | some (.error x, ms) => simp only [okO_some, h]; rfl
@[simp ↓] theorem okAs_nil {Q : List (IV ⊕ Nat) → List Sl → Prop} : Ok (evAs cs .nil ρ) Q = Q [] ρ := rfl
@[simp ↓] theorem okAs_v {e : E} {r : As} {Q : List (IV ⊕ Nat) → List Sl → Prop} : Ok (evAs cs (.v e r) ρ) Q = Ok ((ev cs e).1 ρ) fun x ρ1 => Ok (evAs cs r ρ1) fun xs ρ2 => Q (.inl x :: xs) ρ2 := by
  show Ok ((rBind (ev cs e).1 fun x => rBind (evAs cs r) fun xs => rPure (.inl x :: xs)) ρ) Q = _
  simp only [ok_bind, ok_pure]
@[simp ↓] theorem okAs_m {i : Nat} {r : As} {Q : List (IV ⊕ Nat) → List Sl → Prop} : Ok (evAs cs (.m i r) ρ) Q = OkO ρ[i]? (fun s => match s with | .o _ => Ok (evAs cs r ρ) fun xs ρ2 => Q (.inr i :: xs) ρ2 | .b _ => Ok (evAs cs r ρ) fun xs ρ2 => Q (.inr i :: xs) ρ2 | _ => False) := by
  show Ok ((rBind (rView i) fun _ => rBind (evAs cs r) fun xs => rPure (.inr i :: xs)) ρ) Q = _
  simp only [ok_bind, ok_pure, ok_view]
  match ρ[i]? with
  | none => rfl
  | some .e => rfl
  | some (.i d) => rfl
  | some (.o d) => rfl
  | some (.b d) => rfl
@[simp ↓] theorem okE_comp {tg : List Nat} {it : It} {c : OE} {e : E} : Ok ((ev cs (.comp tg it c e)).1 ρ) Q = Ok (evIt cs it ρ) fun xs ρ1 => Ok (rList tg (evC cs c) (ev cs e).1 xs ρ1) Q := by
  show Ok ((rBind (evIt cs it) fun xs => rList tg (evC cs c) (ev cs e).1 xs) ρ) Q = _
  rw [ok_bind]
@[simp ↓] theorem okA1 {e : E} : Ok ((evAnd cs (.cons e .nil)).1 ρ) Q = Ok ((ev cs e).1 ρ) Q := rfl
@[simp ↓] theorem okAT1 {e : E} : Ok ((evAnd cs (.cons e .nil)).2 ρ) B = Ok ((ev cs e).2 ρ) B := rfl
@[simp ↓] theorem okO1 {e : E} : Ok ((evOr cs (.cons e .nil)).1 ρ) Q = Ok ((ev cs e).1 ρ) Q := rfl
@[simp ↓] theorem okOT1 {e : E} : Ok ((evOr cs (.cons e .nil)).2 ρ) B = Ok ((ev cs e).2 ρ) B := rfl
@[simp ↓] theorem okA2 {e e' : E} {r : Es} : Ok ((evAnd cs (.cons e (.cons e' r))).1 ρ) Q = Ok ((ev cs e).1 ρ) fun x ρ1 => match x with | .bl t => if t = true then Ok ((evAnd cs (.cons e' r)).1 ρ1) Q else Q (.bl false) ρ1 | _ => False := by
  show Ok ((rBind (ev cs e).1 fun x => match x with | .bl true => (evAnd cs (.cons e' r)).1 | .bl false => rPure (.bl false) | _ => rLift none) ρ) Q = _
  rw [ok_bind]
  congr
  funext x ρ1
  match x with
  | .bl true => rfl
  | .bl false => rfl
  | .non => rfl
  | .int _ => rfl
  | .str _ => rfl
  | .tup _ => rfl
  | .lst _ => rfl
  | .dct _ => rfl
  | .ins _ _ => rfl
@[simp ↓] theorem okO2 {e e' : E} {r : Es} : Ok ((evOr cs (.cons e (.cons e' r))).1 ρ) Q = Ok ((ev cs e).1 ρ) fun x ρ1 => match x with | .bl t => if t = true then Q (.bl true) ρ1 else Ok ((evOr cs (.cons e' r)).1 ρ1) Q | _ => False := by
  show Ok ((rBind (ev cs e).1 fun x => match x with | .bl true => rPure (.bl true) | .bl false => (evOr cs (.cons e' r)).1 | _ => rLift none) ρ) Q = _
  rw [ok_bind]
  congr
  funext x ρ1
  match x with
  | .bl true => rfl
  | .bl false => rfl
  | .non => rfl
  | .int _ => rfl
  | .str _ => rfl
  | .tup _ => rfl
  | .lst _ => rfl
  | .dct _ => rfl
  | .ins _ _ => rfl
@[simp ↓] theorem okAT2 {e e' : E} {r : Es} : Ok ((evAnd cs (.cons e (.cons e' r))).2 ρ) B = Ok ((ev cs e).2 ρ) fun t ρ1 => if t = true then Ok ((evAnd cs (.cons e' r)).2 ρ1) B else B false ρ1 := by
  show Ok (rIf (ev cs e).2 (evAnd cs (.cons e' r)).2 (rPure false) ρ) B = _
  rw [ok_rIf]
  rfl
@[simp ↓] theorem okOT2 {e e' : E} {r : Es} : Ok ((evOr cs (.cons e (.cons e' r))).2 ρ) B = Ok ((ev cs e).2 ρ) fun t ρ1 => if t = true then B true ρ1 else Ok ((evOr cs (.cons e' r)).2 ρ1) B := by
  show Ok (rIf (ev cs e).2 (rPure true) (evOr cs (.cons e' r)).2 ρ) B = _
  rw [ok_rIf]
  rfl
@[simp ↓] theorem okE_and {es : Es} : Ok ((ev cs (.and es)).1 ρ) Q = Ok ((evAnd cs es).1 ρ) Q := rfl
@[simp ↓] theorem okT_and {es : Es} : Ok ((ev cs (.and es)).2 ρ) B = Ok ((evAnd cs es).2 ρ) B := rfl
@[simp ↓] theorem okE_or {es : Es} : Ok ((ev cs (.or es)).1 ρ) Q = Ok ((evOr cs es).1 ρ) Q := rfl
@[simp ↓] theorem okT_or {es : Es} : Ok ((ev cs (.or es)).2 ρ) B = Ok ((evOr cs es).2 ρ) B := rfl
@[simp ↓] theorem okC_no {B : Bool → List Sl → Prop} : Ok (evC cs .no ρ) B = B true ρ := rfl
@[simp ↓] theorem okC_yes {e : E} : Ok (evC cs (.yes e) ρ) B = Ok ((ev cs e).2 ρ) B := rfl
@[simp ↓] theorem okI_lst {e : E} {Q : List IV → List Sl → Prop} : Ok (evIt cs (.lst e) ρ) Q = Ok ((ev cs e).1 ρ) fun x ρ1 => OkO (seqL x) fun xs => Q xs ρ1 := by
  show Ok ((rBind (ev cs e).1 fun x => rLift (seqL x)) ρ) Q = _
  simp only [ok_bind, ok_lift']
@[simp ↓] theorem okI_tup {e : E} {Q : List IV → List Sl → Prop} : Ok (evIt cs (.tup e) ρ) Q = Ok ((ev cs e).1 ρ) fun x ρ1 => OkO (seqT x) fun xs => Q xs ρ1 := by
  show Ok ((rBind (ev cs e).1 fun x => rLift (seqT x)) ρ) Q = _
  simp only [ok_bind, ok_lift']
@[simp ↓] theorem okI_txt {e : E} {Q : List IV → List Sl → Prop} : Ok (evIt cs (.txt e) ρ) Q = Ok ((ev cs e).1 ρ) fun x ρ1 => OkO (seqS x) fun xs => Q xs ρ1 := by
  show Ok ((rBind (ev cs e).1 fun x => rLift (seqS x)) ρ) Q = _
  simp only [ok_bind, ok_lift']
@[simp ↓] theorem okI_rng {e : E} {Q : List IV → List Sl → Prop} : Ok (evIt cs (.rng e) ρ) Q = Ok ((ev cs e).1 ρ) fun x ρ1 => OkO (seqR x) fun xs => Q xs ρ1 := by
  show Ok ((rBind (ev cs e).1 fun x => rLift (seqR x)) ρ) Q = _
  simp only [ok_bind, ok_lift']
@[simp ↓] theorem okI_enu {e : E} {Q : List IV → List Sl → Prop} : Ok (evIt cs (.enu e) ρ) Q = Ok ((ev cs e).1 ρ) fun x ρ1 => OkO (seqE x) fun xs => Q xs ρ1 := by
  show Ok ((rBind (ev cs e).1 fun x => rLift (seqE x)) ρ) Q = _
  simp only [ok_bind, ok_lift']
/-! ### statements -/
@[simp ↓] theorem okS_asg {i : Nat} {e : E} : Ok (evS cs N (.asg i e) ρ) F = Ok ((ev cs e).1 ρ) fun d ρ1 => F .nx (ρ1.set i (.i d)) := by
  show Ok ((rBind (ev cs e).1 fun d => rSet i (.i d)) ρ) F = _
  simp only [ok_bind, ok_set]
@[simp ↓] theorem okS_asgO {i : Nat} {e : E} : Ok (evS cs N (.asgO i e) ρ) F = Ok ((ev cs e).1 ρ) fun d ρ1 => F .nx (ρ1.set i (.o d)) := by
  show Ok ((rBind (ev cs e).1 fun d => rSet i (.o d)) ρ) F = _
  simp only [ok_bind, ok_set]
@[simp ↓] theorem okS_unp {is : List Nat} {e : E} : Ok (evS cs N (.unp is e) ρ) F = Ok ((ev cs e).1 ρ) fun d ρ1 => Ok (rTg is d ρ1) fun _ ρ2 => F .nx ρ2 := by
  show Ok ((rBind (ev cs e).1 fun d => rBind (rTg is d) fun _ => rPure .nx) ρ) F = _
  simp only [ok_bind, ok_pure]
@[simp ↓] theorem okS_setI {i : Nat} {k v : E} : Ok (evS cs N (.setI i k v) ρ) F = Ok ((ev cs v).1 ρ) fun y ρ1 => Ok ((ev cs (.view i)).1 ρ1) fun _ ρ2 => Ok ((ev cs k).1 ρ2) fun x ρ3 => OkO ρ3[i]? fun r => OkO r.mut fun d => OkO (setD x y d) fun d' => F .nx (ρ3.set i (r.put d')) := by
  show Ok ((rBind (ev cs v).1 fun y => rBind (rView i) fun _ => rBind (ev cs k).1 fun x => rPut i (setD x y)) ρ) F = _
  simp only [ok_bind]
  congr
  funext y ρ1
  show _ = Ok (rView i ρ1) _
  congr
  funext u ρ2
  congr
  funext x ρ3
  unfold rPut
  cases ρ3[i]? with
  | none => rfl
  | some r =>
    show Ok (match r.mut with | some d => (match setD x y d with | some d' => some (.ok Fl.nx, ρ3.set i (r.put d')) | none => none) | none => none) F = _
    simp only [okO_some]
    cases hr : r.mut with
    | none => rfl
    | some d =>
      show Ok (match setD x y d with | some d' => some (.ok Fl.nx, ρ3.set i (r.put d')) | none => none) F = _
      simp only [okO_some]
      cases setD x y d <;> rfl
@[simp ↓] theorem okS_drop {e : E} : Ok (evS cs N (.drop e) ρ) F = Ok ((ev cs e).1 ρ) fun _ ρ1 => F .nx ρ1 := by
  show Ok ((rBind (ev cs e).1 fun _ => rPure .nx) ρ) F = _
  simp only [ok_bind, ok_pure]
@[simp ↓] theorem okS_ret {e : E} : Ok (evS cs N (.ret e) ρ) F = Ok ((ev cs e).1 ρ) fun d ρ1 => F (.rt d) ρ1 := by
  show Ok ((rBind (ev cs e).1 fun d => rPure (.rt d)) ρ) F = _
  simp only [ok_bind, ok_pure]
@[simp ↓] theorem okS_retN : Ok (evS cs N .retN ρ) F = F (.rt .non) ρ := rfl
@[simp ↓] theorem okS_ite {c : E} {a b : Ss} : Ok (evS cs N (.ite c a b) ρ) F = Ok ((ev cs c).2 ρ) fun t ρ1 => if t = true then Ok (evSs cs N a ρ1) F else Ok (evSs cs N b ρ1) F := ok_rIf
@[simp ↓] theorem okS_pass : Ok (evS cs N .pass ρ) F = F .nx ρ := rfl
@[simp ↓] theorem okS_brk : Ok (evS cs N .brk ρ) F = F .bk ρ := rfl
@[simp ↓] theorem okS_cnt : Ok (evS cs N .cnt ρ) F = F .ct ρ := rfl
@[simp ↓] theorem okS_loop {tg : List Nat} {it : It} {b : Ss} : Ok (evS cs N (.loop tg it b) ρ) F = Ok (evIt cs it ρ) fun xs ρ1 => Ok (rFor tg (evSs cs N b) xs ρ1) F := by
  show Ok ((rBind (evIt cs it) fun xs => rFor tg (evSs cs N b) xs) ρ) F = _
  rw [ok_bind]
@[simp ↓] theorem okS_whl {c : E} {b : Ss} : Ok (evS cs N (.whl c b) ρ) F = Ok (rWhile (ev cs c).2 (evSs cs N b) N ρ) F := rfl
@[simp ↓] theorem okSs_nil : Ok (evSs cs N .nil ρ) F = F .nx ρ := rfl
@[simp ↓] theorem okSs_cons {s : S} {r : Ss} : Ok (evSs cs N (.cons s r) ρ) F = Ok (evS cs N s ρ) (fun f ρ1 => match f with | .nx => Ok (evSs cs N r ρ1) F | f => F f ρ1) := ok_ss_cons
/-! ### operations on known data -/
@[simp] theorem b_addI {i j : Int} : binD .add (.int i) (.int j) = some (.int (i + j)) := rfl
@[simp] theorem b_subI {i j : Int} : binD .sub (.int i) (.int j) = some (.int (i - j)) := rfl
theorem b_mulI {i j : Int} (h : mulOk i j = true) : binD .mul (.int i) (.int j) = some (.int (i * j)) := if_pos h
theorem b_addS {a b : List Nat} (h : a.length + b.length ≤ SZ) : binD .add (.str a) (.str b) = some (.str (a ++ b)) := if_pos h
theorem b_addL {a b : List IV} (h : a.length + b.length ≤ SZ) : binD .add (.lst a) (.lst b) = some (.lst (a ++ b)) := if_pos h
theorem b_modI {i j : Int} (h : 0 < j) : binD .mod (.int i) (.int j) = some (.int (i % j)) := if_pos h
theorem b_fdivI {i j : Int} (h : 0 < j) (h' : j < 1073741824) : binD .fdiv (.int i) (.int j) = some (.int (i / j)) := if_pos ⟨h, h'⟩
@[simp] theorem c_ltI {i j : Int} : cmpD .lt (.int i) (.int j) = some (decide (i < j)) := rfl
@[simp] theorem c_leI {i j : Int} : cmpD .le (.int i) (.int j) = some (decide (i ≤ j)) := rfl
@[simp] theorem c_gtI {i j : Int} : cmpD .gt (.int i) (.int j) = some (decide (j < i)) := rfl
@[simp] theorem c_geI {i j : Int} : cmpD .ge (.int i) (.int j) = some (decide (j ≤ i)) := rfl
@[simp] theorem c_eqI {i j : Int} : cmpD .eq (.int i) (.int j) = some (decide (i = j)) := rfl
@[simp] theorem c_neI {i j : Int} : cmpD .ne (.int i) (.int j) = some (!decide (i = j)) := rfl
@[simp] theorem c_eqS {i j : List Nat} : cmpD .eq (.str i) (.str j) = some (decide (i = j)) := rfl
@[simp] theorem c_neS {i j : List Nat} : cmpD .ne (.str i) (.str j) = some (!decide (i = j)) := rfl
@[simp] theorem c_in1 {c : Nat} {l : List Nat} : cmpD .isin (.str [c]) (.str l) = some (decide (c ∈ l)) := rfl
@[simp] theorem t_bl {b : Bool} : truD (.bl b) = some b := rfl
@[simp] theorem f_intI {i : Int} : fnD .int [.int i] = some (.int i) := rfl
theorem f_lenS {l : List Nat} (h : l.length ≤ SZ) : fnD .len [.str l] = some (.int l.length) := if_pos h
@[simp] theorem f_lenL {l : List IV} : fnD .len [.lst l] = some (.int l.length) := rfl
@[simp] theorem f_lenT {l : List IV} : fnD .len [.tup l] = some (.int l.length) := rfl
@[simp] theorem seqL_l {l : List IV} : seqL (.lst l) = some l := rfl
@[simp] theorem seqT_l {l : List IV} : seqT (.tup l) = some l := rfl
@[simp] theorem seqS_l {l : List Nat} : seqS (.str l) = some (l.map fun c => .str [c]) := rfl
@[simp] theorem tg_one {i : Nat} {d : IV} {Q : Unit → List Sl → Prop} : Ok (rTg [i] d ρ) Q = Q () (ρ.set i (.i d)) := rfl
@[simp] theorem args_nil : argsD ρ [] = some [] := rfl
@[simp] theorem args_inl {d : IV} {xs : List (IV ⊕ Nat)} : argsD ρ (.inl d :: xs) = (argsD ρ xs).map (d :: ·) := by
  show (match some d, argsD ρ xs with | some d, some ds => some (d :: ds) | _, _ => none) = _
  cases argsD ρ xs <;> rfl
@[simp] theorem args_inr {i : Nat} {xs : List (IV ⊕ Nat)} : argsD ρ (.inr i :: xs) = (ρ[i]?.bind Sl.mut).bind fun d => (argsD ρ xs).map (d :: ·) := by
  show (match ρ[i]?.bind Sl.mut, argsD ρ xs with | some d, some ds => some (d :: ds) | _, _ => none) = _
  cases ρ[i]?.bind Sl.mut <;> cases argsD ρ xs <;> rfl
@[simp] theorem mut_o {d : IV} : (Sl.o d).mut = some d := rfl
@[simp] theorem mut_b {d : IV} : (Sl.b d).mut = some d := rfl
@[simp] theorem put_o {d e : IV} : (Sl.o d).put e = .o e := rfl
@[simp] theorem put_b {d e : IV} : (Sl.b d).put e = .b e := rfl
@[simp] theorem putM_nil {ms : List IV} : putM [] ms ρ = ρ := rfl
@[simp] theorem putM_inl {d m : IV} {xs : List (IV ⊕ Nat)} {ms : List IV} : putM (.inl d :: xs) (m :: ms) ρ = putM xs ms ρ := rfl
@[simp] theorem putM_inr {i : Nat} {m : IV} {xs : List (IV ⊕ Nat)} {ms : List IV} : putM (.inr i :: xs) (m :: ms) ρ = putM xs ms (match ρ[i]? with | some r => ρ.set i (r.put m) | none => ρ) := rfl
end
/-! ### comprehensions that change nothing -/
theorem set_self {ρ : List Sl} {i : Nat} {r : Sl} (h : ρ[i]? = some r) : ρ.set i r = ρ := by
  apply List.ext_getElem?
  intro j
  by_cases hj : i = j
  · subst hj
    rw [h, List.getElem?_set_self (List.getElem?_eq_some_iff.mp h).1]
  · rw [List.getElem?_set_ne hj]
theorem back1 {ρ : List Sl} {i : Nat} {r s : Sl} (h : ρ[i]? = some r) : back [i] ρ (ρ.set i s) = ρ := by
  show (match ρ[i]? with | some r => (ρ.set i s).set i r | none => ρ.set i s) = ρ
  rw [h]
  show (ρ.set i s).set i r = ρ
  rw [List.set_set, set_self h]
theorem take_next {α : Type} {xs : List α} {n : Nat} {x : α} (h : xs[n]? = some x) : xs.take (n + 1) = xs.take n ++ [x] := by
  rw [List.take_add_one, h]
  rfl
theorem ok_map1 {i : Nat} {c : R Bool} {e : R IV} {xs : List IV} {ρ : List Sl} {Q : IV → List Sl → Prop} {r : Sl} (f : IV → IV) (hi : ρ[i]? = some r) (hr : r.light = true) (hl : xs.length ≤ SZ) (hc : ∀ ρ Q, Ok (c ρ) Q = Q true ρ)
    (h : ∀ x ∈ xs, Ok (e (ρ.set i (.i x))) fun y ρ3 => y = f x ∧ ρ3 = ρ.set i (.i x)) (q : Q (.lst (xs.map f)) ρ) : Ok (rList [i] c e xs ρ) Q := by
  refine ok_list (by simp [light, hi, hr]) hl ?_
  refine ok_comp (fun n acc ρ' => acc = (xs.take n).map f ∧ ρ' = ρ.set i .e) xs 0 [] ⟨rfl, rfl⟩ ?_ ?_
  · rintro j x acc ρ' hx ⟨rfl, rfl⟩
    show Ok (c ((ρ.set i .e).set i (.i x))) _
    rw [hc, if_pos rfl, List.set_set]
    refine (h x (List.mem_of_getElem? hx)).mono fun y ρ3 ⟨e1, e2⟩ => ⟨?_, ?_⟩
    · rw [Nat.zero_add, take_next hx, List.map_append, e1]
      rfl
    · rw [e2]
      show (ρ.set i (.i x)).set i .e = _
      rw [List.set_set]
  · rintro ys ρ' ⟨e1, rfl⟩
    rw [Nat.zero_add, List.take_length, List.nil_append] at e1
    rw [e1, back1 hi]
    exact q
theorem ok_filter1 {i : Nat} {c : R Bool} {e : R IV} {xs : List IV} {ρ : List Sl} {Q : IV → List Sl → Prop} {r : Sl} (p : IV → Bool) (hi : ρ[i]? = some r) (hr : r.light = true) (hl : xs.length ≤ SZ)
    (hc : ∀ x ∈ xs, Ok (c (ρ.set i (.i x))) fun t ρ2 => t = p x ∧ ρ2 = ρ.set i (.i x)) (he : ∀ x ∈ xs, Ok (e (ρ.set i (.i x))) fun y ρ3 => y = x ∧ ρ3 = ρ.set i (.i x)) (q : Q (.lst (xs.filter p)) ρ) : Ok (rList [i] c e xs ρ) Q := by
  refine ok_list (by simp [light, hi, hr]) hl ?_
  refine ok_comp (fun n acc ρ' => acc = (xs.take n).filter p ∧ ρ' = ρ.set i .e) xs 0 [] ⟨rfl, rfl⟩ ?_ ?_
  · rintro j x acc ρ' hx ⟨rfl, rfl⟩
    show Ok (c ((ρ.set i .e).set i (.i x))) _
    rw [List.set_set]
    have hm := List.mem_of_getElem? hx
    have cl : clear [i] (ρ.set i (.i x)) = ρ.set i .e := by
      show (ρ.set i (.i x)).set i .e = _
      rw [List.set_set]
    refine (hc x hm).mono fun t ρ2 ⟨e1, e2⟩ => ?_
    subst e1; subst e2
    cases hp : p x with
    | true =>
      rw [if_pos rfl]
      refine (he x hm).mono fun y ρ3 ⟨e1, e2⟩ => ⟨?_, by rw [e2, cl]⟩
      rw [Nat.zero_add, take_next hx, List.filter_append, e1]
      simp [hp]
    | false =>
      rw [if_neg Bool.false_ne_true]
      refine ⟨?_, cl⟩
      rw [Nat.zero_add, take_next hx, List.filter_append]
      simp [hp]
  · rintro ys ρ' ⟨e1, rfl⟩
    rw [Nat.zero_add, List.take_length, List.nil_append] at e1
    rw [e1, back1 hi]
    exact q
@[simp] theorem pick_nil {α : Type} {ds : List α} : pick ds [] = some [] := rfl
@[simp] theorem pick_cons {α : Type} {ds : List α} {i : Nat} {is : List Nat} : pick ds (i :: is) = (ds[i]?).bind fun d => (pick ds is).map (d :: ·) := by
  show (match ds[i]?, pick ds is with | some d, some r => some (d :: r) | _, _ => none) = _
  cases ds[i]? <;> cases pick ds is <;> rfl
/-- one statement, what follows it kept shut -/
theorem ok_step {cs : CS} {N : Nat} {s : S} {r : Ss} {ρ : List Sl} {F : Fl → List Sl → Prop} (h : ∀ K : Fl → List Sl → Prop, (∀ ρ1, Ok (evSs cs N r ρ1) F → K .nx ρ1) → (∀ d ρ1, F (.rt d) ρ1 → K (.rt d) ρ1) → Ok (evS cs N s ρ) K) : Ok (evSs cs N (.cons s r) ρ) F := by
  rw [ok_ss_cons]
  exact h _ (fun ρ1 z => z) (fun d ρ1 z => z)
/-- an expression, what follows it kept shut -/
theorem ok_shut {α : Type} {m : R α} {ρ : List Sl} {Q : α → List Sl → Prop} (h : ∀ K : α → List Sl → Prop, (∀ a ρ1, Q a ρ1 → K a ρ1) → Ok (m ρ) K) : Ok (m ρ) Q := h Q fun _ _ z => z
theorem joinL_len (s : List Nat) : ∀ ts : List (List Nat), (TL.joinL s ts).length ≤ (ts.map List.length).sum + ts.length * s.length
  | [] => by simp [TL.joinL]
  | [p] => by simp [TL.joinL]
  | p :: q :: r => by
    have z := joinL_len s (q :: r)
    show (p ++ (s ++ TL.joinL s (q :: r))).length ≤ _
    simp only [List.length_append, List.map_cons, List.sum_cons, List.length_cons, Nat.add_mul, Nat.one_mul] at z ⊢
    omega
/-- texts, each at most m long -/
def Txs (m : Nat) (xs : List IV) : Prop := ∃ ts, texts xs = some ts ∧ ∀ t ∈ ts, t.length ≤ m
theorem texts_app : ∀ {xs ys : List IV} {ts us : List (List Nat)}, texts xs = some ts → texts ys = some us → texts (xs ++ ys) = some (ts ++ us)
  | [], ys, ts, us, h, h' => by cases h; exact h'
  | .str l :: xs, ys, ts, us, h, h' => by
    have h : (texts xs).map (l :: ·) = some ts := h
    cases hx : texts xs with
    | none => rw [hx] at h; cases h
    | some vs =>
      rw [hx] at h
      cases h
      show (texts (xs ++ ys)).map (l :: ·) = _
      rw [texts_app hx h']
      rfl
theorem Txs.snoc {m : Nat} {xs : List IV} {l : List Nat} (h : Txs m xs) (hl : l.length ≤ m) : Txs m (xs ++ [.str l]) := by
  obtain ⟨ts, e, a⟩ := h
  refine ⟨ts ++ [l], texts_app e rfl, fun t ht => ?_⟩
  rcases List.mem_append.mp ht with z | z
  · exact a t z
  · cases List.mem_singleton.mp z; exact hl
theorem Txs.nil {m : Nat} : Txs m [] := ⟨[], rfl, fun _ z => nomatch z⟩
theorem texts_len : ∀ {xs : List IV} {ts : List (List Nat)}, texts xs = some ts → ts.length = xs.length
  | [], ts, h => by cases h; rfl
  | .str l :: xs, ts, h => by
    have h : (texts xs).map (l :: ·) = some ts := h
    cases hx : texts xs with
    | none => rw [hx] at h; cases h
    | some vs =>
      rw [hx] at h
      cases h
      rw [List.length_cons, texts_len hx]; rfl
theorem sum_le {m : Nat} : ∀ {ts : List (List Nat)}, (∀ t ∈ ts, t.length ≤ m) → (ts.map List.length).sum ≤ ts.length * m
  | [], _ => by simp
  | t :: ts, h => by
    have z := sum_le (m := m) (ts := ts) fun u hu => h u (List.mem_cons_of_mem _ hu)
    have := h t List.mem_cons_self
    simp only [List.map_cons, List.sum_cons, List.length_cons, Nat.add_mul, Nat.one_mul]
    omega
theorem join_ok {m : Nat} {s : List Nat} {xs : List IV} (h : Txs m xs) (hz : xs.length * (m + s.length) ≤ SZ) : ∃ l, mtD .join (.str s) [.lst xs] = some (.str l) ∧ l.length ≤ xs.length * (m + s.length) := by
  obtain ⟨ts, e, a⟩ := h
  have z := sum_le a
  have ln := texts_len e
  have jl := joinL_len s ts
  rw [ln] at z jl
  rw [Nat.mul_add] at hz ⊢
  refine ⟨TL.joinL s ts, ?_, by omega⟩
  show (match texts xs with | some ts => if (ts.map List.length).sum + ts.length * s.length ≤ SZ then some (IV.str (TL.joinL s ts)) else none | none => none) = _
  rw [e]
  show (if (ts.map List.length).sum + ts.length * s.length ≤ SZ then some (IV.str (TL.joinL s ts)) else none) = _
  rw [if_pos (by rw [ln]; omega)]
/-- one statement that does not leave the def, by what it brings about -/
theorem ok_mid {cs : CS} {N : Nat} {s : S} {r : Ss} {ρ : List Sl} {F : Fl → List Sl → Prop} (M : List Sl → Prop) (h1 : Ok (evS cs N s ρ) fun f ρ1 => f = .nx ∧ M ρ1) (h2 : ∀ ρ1, M ρ1 → Ok (evSs cs N r ρ1) F) : Ok (evSs cs N (.cons s r) ρ) F := by
  rw [ok_ss_cons]
  refine h1.mono fun f ρ1 ⟨e, m⟩ => ?_
  subst e
  exact h2 ρ1 m
@[simp] theorem in_tup {l : List Nat} {ys : List IV} (h : ys.all flatD = true) : cmpD .isin (.str l) (.tup ys) = some (ys.any fun y => eqF y (.str l)) := if_pos ⟨rfl, h⟩
end Mx


/-! K02: the text in the language of Mx. -/
namespace K02
open PySem PySem.Spec PyProof.Rows L2 Mx
def top (i : Nat) : Stmt := PySem.Challenge.pw_macroasm_k02_names.main.body.getD i (.Pass ⟨0, 0, 0, 0⟩)
def w_0 : List Nat := [65, 66, 67, 68, 69, 70, 71, 72, 73, 74, 75, 76, 77, 78, 79, 80, 81, 82, 83, 84, 85, 86, 87, 88, 89, 90, 97, 98, 99, 100, 101, 102, 103, 104, 105, 106, 107, 108, 109, 110, 111, 112, 113, 114, 115, 116, 117, 118, 119, 120, 121, 122, 95]
def w_1 : List Nat := [65, 66, 67, 68, 69, 70, 71, 72, 73, 74, 75, 76, 77, 78, 79, 80, 81, 82, 83, 84, 85, 86, 87, 88, 89, 90, 97, 98, 99, 100, 101, 102, 103, 104, 105, 106, 107, 108, 109, 110, 111, 112, 113, 114, 115, 116, 117, 118, 119, 120, 121, 122, 95, 48, 49, 50, 51, 52, 53, 54, 55, 56, 57]
def w_2 : List Nat := [48, 49, 50, 51, 52, 53, 54, 55, 56, 57]
def w_3 : List Nat := [101, 110, 100, 109, 97, 99, 114, 111]
def w_4 : List Nat := [101, 110, 100, 114, 101, 112, 101, 97, 116]
def w_5 : List Nat := [115, 101, 99, 116, 105, 111, 110]
def w_6 : List Nat := [101, 110, 100, 115, 99, 111, 112, 101]
def w_7 : List Nat := [97, 98, 95, 90, 122, 48, 57, 120, 81]
def w_8 : List Nat := [49, 48, 48, 48, 48, 48, 48, 48, 48, 48]
def w_9 : List Nat := [57, 57, 57, 57, 57, 57, 57, 57, 57]
def w_10 : List Nat := [97, 46, 98, 64, 50, 46, 99]
def w_11 : List Nat := [97, 64, 49, 46, 98, 64, 48, 50]
def b_name_end : Ss := (.cons (.asg 2 (.var 1))
  (.cons (.whl (.and (.cons (.cmp .lt (.var 2) (.fn .len (.cons (.var 0) .nil))) (.cons (.cmp .lt (.bin .sub (.var 2) (.var 1)) (.glo "MAX_NAME" (.int 40))) (.cons (.cmp .isin (.ix (.var 0) (.var 2)) (.glo "NAME_SIGNS" (.str w_1))) (.cons (.or (.cons (.cmp .gt (.var 2) (.var 1)) (.cons (.cmp .isin (.ix (.var 0) (.var 1)) (.glo "LETTERS" (.str w_0))) .nil))) .nil)))))
  (.cons (.asg 2 (.bin .add (.var 2) (.cst (.int 1)))) .nil))
  (.cons (.ret (.var 2)) .nil)))
def f_name_end : Fn := { name := "name_end", ps := ["line", "at"], ns := ["line", "at", "end"], muts := [false, false], own := false, body := b_name_end, kws := [] }
def b_made_end : Ss := (.cons (.asg 2 (.call 0 (.v (.var 0) (.v (.var 1) .nil))))
  (.cons (.asg 3 (.bin .add (.var 2) (.cst (.int 1))))
  (.cons (.whl (.and (.cons (.cmp .gt (.var 2) (.var 1)) (.cons (.cmp .eq (.sl (.var 0) (.yes (.var 2)) (.yes (.bin .add (.var 2) (.cst (.int 1))))) (.cst (.str [64]))) (.cons (.cmp .lt (.var 3) (.fn .len (.cons (.var 0) .nil))) (.cons (.cmp .isin (.ix (.var 0) (.var 3)) (.glo "DIGITS" (.str w_2))) .nil)))))
  (.cons (.asg 3 (.bin .add (.var 3) (.cst (.int 1)))) .nil))
  (.cons (.ret (.ite (.and (.cons (.chn .lt .le (.cst (.int 1)) (.bin .sub (.var 3) (.var 2)) (.bin .add (.glo "MAX_MADE" (.int 9)) (.cst (.int 1)))) (.cons (.cmp .ne (.ix (.var 0) (.bin .add (.var 2) (.cst (.int 1)))) (.cst (.str [48]))) .nil))) (.var 3) (.var 2))) .nil))))
def f_made_end : Fn := { name := "made_end", ps := ["line", "at"], ns := ["line", "at", "end", "far"], muts := [false, false], own := false, body := b_made_end, kws := [] }
def b_is_name : Ss := (.cons (.ret (.and (.cons (.isi (.var 0) "str") (.cons (.cmp .ne (.var 0) (.cst (.str []))) (.cons (.cmp .eq (.call 0 (.v (.var 0) (.v (.cst (.int 0)) .nil))) (.fn .len (.cons (.var 0) .nil))) .nil))))) .nil)
def f_is_name : Fn := { name := "is_name", ps := ["value"], ns := ["value"], muts := [false], own := false, body := b_is_name, kws := [(0, ["value"], [0])] }
def b_is_reserved : Ss := (.cons (.ret (.and (.cons (.isi (.var 0) "str") (.cons (.cmp .isin (.var 0) (.glo "RESERVED" (.tup [(.str [109, 111, 100]), (.str [109, 97, 99, 114, 111]), (.str w_3), (.str [114, 101, 112, 101, 97, 116]), (.str w_4), (.str [105, 102]), (.str [105, 102, 115, 97, 109, 101]), (.str [101, 108, 115, 101]), (.str [101, 110, 100, 105, 102]), (.str [115, 101, 116]), (.str w_5), (.str [98, 121, 116, 101]), (.str [119, 111, 114, 100]), (.str [108, 111, 110, 103]), (.str [116, 101, 120, 116]), (.str [115, 112, 97, 99, 101]), (.str [97, 108, 105, 103, 110]), (.str [115, 99, 111, 112, 101]), (.str w_6), (.str [101, 120, 112, 111, 114, 116]), (.str [105, 109, 112, 111, 114, 116])]))) .nil)))) .nil)
def f_is_reserved : Fn := { name := "is_reserved", ps := ["value"], ns := ["value"], muts := [false], own := false, body := b_is_reserved, kws := [(0, ["value"], [0])] }
def b_is_used : Ss := (.cons (.ite (.or (.cons (.not (.isi (.var 0) "str")) (.cons (.cmp .eq (.var 0) (.cst (.str []))) .nil)))
  (.cons (.ret (.cst (.bl false))) .nil)
  .nil)
  (.cons (.ite (.cmp .eq (.ix (.var 0) (.cst (.int 0))) (.cst (.str [46])))
  (.cons (.ret (.call 2 (.v (.sl (.var 0) (.yes (.cst (.int 1))) .no) .nil))) .nil)
  .nil)
  (.cons (.asg 1 (.mt .split (.var 0) (.cons (.cst (.str [46])) .nil)))
  (.cons (.ret (.and (.cons (.cmp .le (.fn .len (.cons (.var 1) .nil)) (.glo "MAX_PATH" (.int 8))) (.cons (.fn .all (.cons (.comp [2] (.lst (.var 1)) .no (.and (.cons (.cmp .ne (.var 2) (.cst (.str []))) (.cons (.cmp .eq (.call 1 (.v (.var 2) (.v (.cst (.int 0)) .nil))) (.fn .len (.cons (.var 2) .nil))) .nil)))) .nil)) .nil)))) .nil))))
def f_is_used : Fn := { name := "is_used", ps := ["value"], ns := ["value", "names", "name"], muts := [false], own := false, body := b_is_used, kws := [(0, ["value"], [0])] }
def b__law_mixed : Ss := (.cons (.asg 0 (.bin .mod (.fn .int (.cons (.bin .mul (.bin .add (.bin .add (.bin .mod (.fn .int (.cons (.var 0) .nil)) (.cst (.int 2147483647))) (.bin .mul (.bin .mul (.cst (.int 7919)) (.var 1)) (.var 1))) (.bin .mul (.cst (.int 31)) (.var 1))) (.cst (.int 48271))) .nil)) (.cst (.int 2147483647))))
  (.cons (.ret (.bin .mod (.fn .int (.cons (.bin .mul (.var 0) (.bin .add (.cst (.int 69621)) (.bin .mul (.cst (.int 2)) (.var 1)))) .nil)) (.cst (.int 2147483629)))) .nil))
def f__law_mixed : Fn := { name := "_law_mixed", ps := ["_law_number", "_law_k"], ns := ["_law_number", "_law_k"], muts := [false, false], own := false, body := b__law_mixed, kws := [] }
def b__law_stream : Ss := (.cons (.ret (.lst (.cons (.ite (.cmp .ge (.var 0) (.bin .pow (.cst (.int 10)) (.cst (.int 18)))) (.var 0) (.cst (.int 0))) (.cons (.cst (.int 0)) (.cons (.call 5 (.v (.var 0) (.v (.var 1) .nil))) .nil))))) .nil)
def f__law_stream : Fn := { name := "_law_stream", ps := ["_law_item", "_law_k"], ns := ["_law_item", "_law_k"], muts := [false, false], own := true, body := b__law_stream, kws := [] }
def b__law_draw : Ss := (.cons (.setI 0 (.cst (.int 1)) (.bin .add (.ix (.view 0) (.cst (.int 1))) (.cst (.int 1))))
  (.cons (.ite (.cmp .eq (.ix (.view 0) (.cst (.int 0))) (.cst (.int 0)))
  (.cons (.ret (.bin .mod (.fn .int (.cons (.call 5 (.v (.call 5 (.v (.ix (.view 0) (.cst (.int 2))) (.v (.ix (.view 0) (.cst (.int 1))) .nil))) (.v (.cst (.int 7)) .nil))) .nil)) (.var 1))) .nil)
  .nil)
  (.cons (.asg 2 (.bin .mod (.fn .int (.cons (.ix (.view 0) (.cst (.int 0))) .nil)) (.var 1)))
  (.cons (.setI 0 (.cst (.int 0)) (.bin .fdiv (.ix (.view 0) (.cst (.int 0))) (.var 1)))
  (.cons (.ret (.var 2)) .nil)))))
def f__law_draw : Fn := { name := "_law_draw", ps := ["_law_stream_here", "_law_top"], ns := ["_law_stream_here", "_law_top", "_law_number"], muts := [true, false], own := false, body := b__law_draw, kws := [] }
def b__law_pick : Ss := (.cons (.ret (.ix (.var 1) (.call 7 (.m 0 (.v (.fn .len (.cons (.var 1) .nil)) .nil))))) .nil)
def f__law_pick : Fn := { name := "_law_pick", ps := ["_law_stream_here", "_law_some"], ns := ["_law_stream_here", "_law_some"], muts := [true, false], own := false, body := b__law_pick, kws := [] }
def b__law_letters : Ss := (.cons (.ret (.cst (.str w_0))) .nil)
def f__law_letters : Fn := { name := "_law_letters", ps := [], ns := [], muts := [], own := false, body := b__law_letters, kws := [] }
def b__law_is_name : Ss := (.cons (.asg 1 (.comp [2] (.txt (.var 0)) (.yes (.cmp .isin (.var 2) (.bin .add (.call 9 .nil) (.cst (.str w_2))))) (.var 2)))
  (.cons (.ret (.and (.cons (.chn .le .le (.cst (.int 1)) (.fn .len (.cons (.var 0) .nil)) (.cst (.int 40))) (.cons (.cmp .eq (.fn .len (.cons (.var 1) .nil)) (.fn .len (.cons (.var 0) .nil))) (.cons (.cmp .isin (.ix (.var 0) (.cst (.int 0))) (.call 9 .nil)) .nil))))) .nil))
def f__law_is_name : Fn := { name := "_law_is_name", ps := ["_law_word_here"], ns := ["_law_word_here", "_law_fit", "_law_one"], muts := [false], own := false, body := b__law_is_name, kws := [] }
def b__law_is_part : Ss := (.cons (.unp [1, 2, 3] (.mt .part (.var 0) (.cons (.cst (.str [64])) .nil)))
  (.cons (.ite (.cmp .eq (.var 2) (.cst (.str [])))
  (.cons (.ret (.call 10 (.v (.var 0) .nil))) .nil)
  .nil)
  (.cons (.asg 4 (.comp [5] (.txt (.var 3)) (.yes (.cmp .isin (.var 5) (.cst (.str w_2)))) (.var 5)))
  (.cons (.ret (.and (.cons (.call 10 (.v (.var 1) .nil)) (.cons (.chn .le .le (.cst (.int 1)) (.fn .len (.cons (.var 3) .nil)) (.cst (.int 9))) (.cons (.cmp .eq (.fn .len (.cons (.var 4) .nil)) (.fn .len (.cons (.var 3) .nil))) (.cons (.cmp .ne (.ix (.var 3) (.cst (.int 0))) (.cst (.str [48]))) .nil)))))) .nil))))
def f__law_is_part : Fn := { name := "_law_is_part", ps := ["_law_word_here"], ns := ["_law_word_here", "_law_front", "_law_mark", "_law_count", "_law_digits", "_law_one"], muts := [false], own := false, body := b__law_is_part, kws := [] }
def b__law_is_used : Ss := (.cons (.ite (.cmp .eq (.sl (.var 0) .no (.yes (.cst (.int 1)))) (.cst (.str [46])))
  (.cons (.ret (.call 10 (.v (.sl (.var 0) (.yes (.cst (.int 1))) .no) .nil))) .nil)
  .nil)
  (.cons (.asg 1 (.mt .split (.var 0) (.cons (.cst (.str [46])) .nil)))
  (.cons (.ret (.and (.cons (.cmp .le (.fn .len (.cons (.var 1) .nil)) (.cst (.int 8))) (.cons (.fn .all (.cons (.comp [2] (.lst (.var 1)) .no (.call 11 (.v (.var 2) .nil))) .nil)) .nil)))) .nil)))
def f__law_is_used : Fn := { name := "_law_is_used", ps := ["_law_word_here"], ns := ["_law_word_here", "_law_parts", "_law_part_here"], muts := [false], own := false, body := b__law_is_used, kws := [] }
def b__law_reserved : Ss := (.cons (.asg 0 (.lst (.cons (.cst (.str [109, 111, 100])) (.cons (.cst (.str [109, 97, 99, 114, 111])) (.cons (.cst (.str w_3)) (.cons (.cst (.str [114, 101, 112, 101, 97, 116])) (.cons (.cst (.str w_4)) (.cons (.cst (.str [105, 102])) (.cons (.cst (.str [105, 102, 115, 97, 109, 101])) (.cons (.cst (.str [101, 108, 115, 101])) (.cons (.cst (.str [101, 110, 100, 105, 102])) (.cons (.cst (.str [115, 101, 116])) (.cons (.cst (.str w_5)) .nil)))))))))))))
  (.cons (.ret (.bin .add (.var 0) (.lst (.cons (.cst (.str [98, 121, 116, 101])) (.cons (.cst (.str [119, 111, 114, 100])) (.cons (.cst (.str [108, 111, 110, 103])) (.cons (.cst (.str [116, 101, 120, 116])) (.cons (.cst (.str [115, 112, 97, 99, 101])) (.cons (.cst (.str [97, 108, 105, 103, 110])) (.cons (.cst (.str [115, 99, 111, 112, 101])) (.cons (.cst (.str w_6)) (.cons (.cst (.str [101, 120, 112, 111, 114, 116])) (.cons (.cst (.str [105, 109, 112, 111, 114, 116])) .nil))))))))))))) .nil))
def f__law_reserved : Fn := { name := "_law_reserved", ps := [], ns := ["_law_found"], muts := [], own := false, body := b__law_reserved, kws := [] }
def b__law_word : Ss := (.cons (.asg 1 (.call 8 (.m 0 (.v (.lst (.cons (.cst (.int 1)) (.cons (.cst (.int 2)) (.cons (.cst (.int 3)) (.cons (.cst (.int 4)) (.cons (.cst (.int 39)) (.cons (.cst (.int 40)) (.cons (.cst (.int 41)) (.cons (.bin .add (.cst (.int 1)) (.call 7 (.m 0 (.v (.cst (.int 43)) .nil)))) .nil))))))))) .nil))))
  (.cons (.asg 2 (.mt .join (.cst (.str [])) (.cons (.comp [3] (.rng (.var 1)) .no (.call 8 (.m 0 (.v (.fn .list (.cons (.cst (.str w_7)) .nil)) .nil)))) .nil)))
  (.cons (.ite (.and (.cons (.cmp .gt (.call 7 (.m 0 (.v (.cst (.int 3)) .nil))) (.cst (.int 0))) (.cons (.cmp .isin (.sl (.var 2) .no (.yes (.cst (.int 1)))) (.tup (.cons (.cst (.str [48])) (.cons (.cst (.str [57])) .nil)))) .nil)))
  (.cons (.asg 2 (.bin .add (.cst (.str [107])) (.sl (.var 2) (.yes (.cst (.int 1))) .no))) .nil)
  .nil)
  (.cons (.ite (.cmp .eq (.call 7 (.m 0 (.v (.cst (.int 4)) .nil))) (.cst (.int 0)))
  (.cons (.asg 4 (.call 7 (.m 0 (.v (.bin .add (.fn .len (.cons (.var 2) .nil)) (.cst (.int 1))) .nil))))
    (.cons (.asg 2 (.bin .add (.bin .add (.sl (.var 2) .no (.yes (.var 4))) (.call 8 (.m 0 (.v (.lst (.cons (.cst (.str [32])) (.cons (.cst (.str [45])) (.cons (.cst (.str [64])) (.cons (.cst (.str [36])) (.cons (.cst (.str [10])) (.cons (.cst (.str [46])) (.cons (.cst (.str [126])) (.cons (.cst (.str [91])) .nil))))))))) .nil)))) (.sl (.var 2) (.yes (.var 4)) .no))) .nil))
  .nil)
  (.cons (.ret (.var 2)) .nil)))))
def f__law_word : Fn := { name := "_law_word", ps := ["_law_stream_here"], ns := ["_law_stream_here", "_law_size", "_law_word_here", "_law_turn", "_law_at"], muts := [true], own := false, body := b__law_word, kws := [] }
def b__law_part : Ss := (.cons (.asg 1 (.call 8 (.m 0 (.v (.lst (.cons (.cst (.str [97])) (.cons (.cst (.str [98, 50])) (.cons (.cst (.str [95])) (.cons (.cst (.str [103, 111])) (.cons (.cst (.str [109, 111, 100])) (.cons (.cst (.str [76, 57])) .nil))))))) .nil))))
  (.cons (.ite (.cmp .eq (.call 7 (.m 0 (.v (.cst (.int 3)) .nil))) (.cst (.int 0)))
  (.cons (.asg 1 (.call 14 (.m 0 .nil))) .nil)
  .nil)
  (.cons (.ite (.cmp .gt (.call 7 (.m 0 (.v (.cst (.int 3)) .nil))) (.cst (.int 0)))
  (.cons (.ret (.var 1)) .nil)
  .nil)
  (.cons (.asg 2 (.lst (.cons (.cst (.str [49])) (.cons (.cst (.str [48])) (.cons (.cst (.str [])) (.cons (.cst (.str [49, 50])) (.cons (.cst (.str [48, 49, 50])) (.cons (.cst (.str w_9)) (.cons (.cst (.str w_8)) (.cons (.cst (.str [51, 120])) (.cons (.cst (.str [52, 64, 53])) (.cons (.cst (.str [43, 54])) (.cons (.cst (.str [32, 55])) .nil)))))))))))))
  (.cons (.ret (.bin .add (.bin .add (.var 1) (.cst (.str [64]))) (.call 8 (.m 0 (.v (.var 2) .nil))))) .nil)))))
def f__law_part : Fn := { name := "_law_part", ps := ["_law_stream_here"], ns := ["_law_stream_here", "_law_word_here", "_law_some"], muts := [true], own := false, body := b__law_part, kws := [] }
def b__law_right : Ss := (.cons (.asg 1 (.lst (.cons (.call 10 (.v (.var 0) .nil)) (.cons (.cmp .isin (.var 0) (.call 13 .nil)) (.cons (.call 12 (.v (.var 0) .nil)) .nil)))))
  (.cons (.asg 2 (.lst (.cons (.call 2 (.v (.var 0) .nil)) (.cons (.call 3 (.v (.var 0) .nil)) (.cons (.call 4 (.v (.var 0) .nil)) .nil)))))
  (.cons (.asg 3 (.lst (.cons (.callK 2 .nil (.cons (.var 0) .nil) ["value"] [0]) (.cons (.callK 3 .nil (.cons (.var 0) .nil) ["value"] [0]) (.cons (.callK 4 .nil (.cons (.var 0) .nil) ["value"] [0]) .nil)))))
  (.cons (.ret (.and (.cons (.cmp .eq (.fn .repr (.cons (.var 2) .nil)) (.fn .repr (.cons (.var 1) .nil))) (.cons (.cmp .eq (.fn .repr (.cons (.var 3) .nil)) (.fn .repr (.cons (.var 1) .nil))) .nil)))) .nil))))
def f__law_right : Fn := { name := "_law_right", ps := ["_law_word_here"], ns := ["_law_word_here", "_law_due", "_law_told", "_law_named"], muts := [false], own := false, body := b__law_right, kws := [] }
def b_law : Ss := (.cons (.loop [1, 2] (.enu (.sl (.bin .add (.var 0) (.lst (.cons (.cst (.int 0)) .nil))) .no (.yes (.cst (.int 8)))))
  (.cons (.asgO 3 (.call 6 (.v (.var 2) (.v (.var 1) .nil))))
    (.cons (.loop [4] (.rng (.cst (.int 4)))
    (.cons (.asg 5 (.call 14 (.m 3 .nil)))
      (.cons (.asg 6 (.comp [7] (.rng (.call 8 (.m 3 (.v (.lst (.cons (.cst (.int 1)) (.cons (.cst (.int 2)) (.cons (.cst (.int 2)) (.cons (.cst (.int 3)) (.cons (.cst (.int 8)) (.cons (.cst (.int 9)) (.cons (.cst (.int 10)) .nil)))))))) .nil)))) .no (.call 15 (.m 3 .nil))))
      (.cons (.asg 8 (.call 8 (.m 3 (.v (.call 13 .nil) .nil))))
      (.cons (.asg 8 (.call 8 (.m 3 (.v (.lst (.cons (.mt .upper (.var 8) .nil) (.cons (.bin .add (.var 8) (.cst (.str [95]))) (.cons (.sl (.var 8) .no (.yes (.neg (.cst (.int 1))))) (.cons (.bin .add (.cst (.str [32])) (.var 8)) (.cons (.bin .add (.var 8) (.cst (.str [115]))) (.cons (.var 8) .nil))))))) .nil))))
      (.cons (.loop [9] (.tup (.tup (.cons (.var 5) (.cons (.mt .join (.cst (.str [46])) (.cons (.var 6) .nil)) (.cons (.bin .add (.cst (.str [46])) (.var 5)) (.cons (.bin .add (.cst (.str [46])) (.ix (.var 6) (.cst (.int 0)))) (.cons (.bin .add (.var 5) (.cst (.str [46]))) (.cons (.bin .add (.cst (.str [46, 46])) (.var 5)) (.cons (.var 8) (.cons (.bin .add (.cst (.str [46])) (.var 8)) .nil))))))))))
      (.cons (.ite (.not (.call 16 (.v (.var 9) .nil)))
        (.cons (.ret (.cst (.bl false))) .nil)
        .nil) .nil)) .nil))))))
    (.cons (.asg 10 (.call 8 (.m 3 (.v (.lst (.cons (.cst .non) (.cons (.cst (.bl true)) (.cons (.cst (.int 5)) (.cons (.tup (.cons (.cst (.str [97])) .nil)) (.cons (.lst (.cons (.cst (.str [109, 111, 100])) .nil)) (.cons (.dct [.inr "a"] (.cons (.cst (.int 1)) .nil)) (.cons (.tup .nil) (.cons (.bin .sub (.cst (.int 0)) (.bin .mod (.fn .int (.cons (.var 2) .nil)) (.bin .pow (.cst (.int 10)) (.cst (.int 20))))) .nil))))))))) .nil))))
    (.cons (.ite (.cmp .ne (.lst (.cons (.call 2 (.v (.var 10) .nil)) (.cons (.call 3 (.v (.var 10) .nil)) (.cons (.call 4 (.v (.var 10) .nil)) .nil)))) (.bin .mul (.lst (.cons (.cst (.bl false)) .nil)) (.cst (.int 3))))
    (.cons (.ret (.cst (.bl false))) .nil)
    .nil) .nil)))))
  (.cons (.asg 11 (.bin .add (.call 13 .nil) (.lst (.cons (.cst (.str [])) (.cons (.cst (.str [46])) (.cons (.cst (.str [64])) (.cons (.cst (.str [97, 64])) (.cons (.cst (.str [64, 49])) (.cons (.bin .mul (.cst (.str [97])) (.cst (.int 40))) (.cons (.bin .mul (.cst (.str [97])) (.cst (.int 41))) (.cons (.cst (.str w_10)) (.cons (.cst (.str [46, 97, 64, 50])) (.cons (.cst (.str [46, 97, 46, 98])) (.cons (.cst (.str [97, 46, 46, 98])) .nil))))))))))))))
  (.cons (.asg 11 (.bin .add (.var 11) (.lst (.cons (.cst (.str w_11)) (.cons (.mt .join (.cst (.str [46])) (.cons (.bin .mul (.lst (.cons (.cst (.str [97])) .nil)) (.cst (.int 8))) .nil)) (.cons (.mt .join (.cst (.str [46])) (.cons (.bin .mul (.lst (.cons (.cst (.str [97])) .nil)) (.cst (.int 9))) .nil)) (.cons (.bin .add (.cst (.str [46])) (.bin .mul (.cst (.str [97])) (.cst (.int 40)))) (.cons (.bin .add (.cst (.str [46])) (.bin .mul (.cst (.str [97])) (.cst (.int 41)))) .nil))))))))
  (.cons (.asg 11 (.bin .add (.var 11) (.lst (.cons (.bin .add (.bin .add (.bin .mul (.cst (.str [97])) (.cst (.int 40))) (.cst (.str [64]))) (.bin .mul (.cst (.str [57])) (.cst (.int 9)))) (.cons (.bin .add (.cst (.str [97, 64])) (.bin .mul (.cst (.str [49])) (.cst (.int 5000)))) (.cons (.bin .add (.cst (.str [97, 46, 98, 64])) (.bin .mul (.cst (.str [57])) (.cst (.int 5000)))) .nil))))))
  (.cons (.ret (.cmp .eq (.comp [9] (.lst (.var 11)) (.yes (.not (.call 16 (.v (.var 9) .nil)))) (.var 9)) (.lst .nil))) .nil)))))
def f_law : Fn := { name := "law", ps := ["_law_script"], ns := ["_law_script", "_law_k", "_law_item", "_law_stream_here", "_law_turn", "_law_word_here", "_law_parts", "_law_place", "_law_bent", "_law_one", "_law_odd", "_law_some"], muts := [false], own := false, body := b_law, kws := [] }
def fns : List Fn := [f_name_end, f_made_end, f_is_name, f_is_reserved, f_is_used, f__law_mixed, f__law_stream, f__law_draw, f__law_pick, f__law_letters, f__law_is_name, f__law_is_part, f__law_is_used, f__law_reserved, f__law_word, f__law_part, f__law_right, f_law]
def glo : List (Str × IV) := [("LETTERS", (.str w_0)), ("NAME_SIGNS", (.str w_1)), ("MAX_NAME", (.int 40)), ("DIGITS", (.str w_2)), ("MAX_MADE", (.int 9)), ("RESERVED", (.tup [(.str [109, 111, 100]), (.str [109, 97, 99, 114, 111]), (.str w_3), (.str [114, 101, 112, 101, 97, 116]), (.str w_4), (.str [105, 102]), (.str [105, 102, 115, 97, 109, 101]), (.str [101, 108, 115, 101]), (.str [101, 110, 100, 105, 102]), (.str [115, 101, 116]), (.str w_5), (.str [98, 121, 116, 101]), (.str [119, 111, 114, 100]), (.str [108, 111, 110, 103]), (.str [116, 101, 120, 116]), (.str [115, 112, 97, 99, 101]), (.str [97, 108, 105, 103, 110]), (.str [115, 99, 111, 112, 101]), (.str w_6), (.str [101, 120, 112, 111, 114, 116]), (.str [105, 109, 112, 111, 114, 116])])), ("MAX_PATH", (.int 8))]
def blt : List Str := ["all", "enumerate", "int", "isinstance", "len", "list", "range", "repr", "str"]
def T : Tab := ⟨fun i => fns[i]?, glo, blt⟩
theorem m_name_end : mSs T f_name_end.ns f_name_end.own f_name_end.body (defScope (top 7)) (defBody (top 7)) = true := by decide +kernel
theorem s_name_end : FnScope f_name_end.ns f_name_end.ps (defScope (top 7)) := scope_of (by decide +kernel)
theorem m_made_end : mSs T f_made_end.ns f_made_end.own f_made_end.body (defScope (top 8)) (defBody (top 8)) = true := by decide +kernel
theorem s_made_end : FnScope f_made_end.ns f_made_end.ps (defScope (top 8)) := scope_of (by decide +kernel)
theorem m_is_name : mSs T f_is_name.ns f_is_name.own f_is_name.body (defScope (top 11)) (defBody (top 11)) = true := by decide +kernel
theorem s_is_name : FnScope f_is_name.ns f_is_name.ps (defScope (top 11)) := scope_of (by decide +kernel)
theorem m_is_reserved : mSs T f_is_reserved.ns f_is_reserved.own f_is_reserved.body (defScope (top 12)) (defBody (top 12)) = true := by decide +kernel
theorem s_is_reserved : FnScope f_is_reserved.ns f_is_reserved.ps (defScope (top 12)) := scope_of (by decide +kernel)
theorem m_is_used : mSs T f_is_used.ns f_is_used.own f_is_used.body (defScope (top 13)) (defBody (top 13)) = true := by decide +kernel
theorem s_is_used : FnScope f_is_used.ns f_is_used.ps (defScope (top 13)) := scope_of (by decide +kernel)
theorem m__law_mixed : mSs T f__law_mixed.ns f__law_mixed.own f__law_mixed.body (defScope (top 15)) (defBody (top 15)) = true := by decide +kernel
theorem s__law_mixed : FnScope f__law_mixed.ns f__law_mixed.ps (defScope (top 15)) := scope_of (by decide +kernel)
theorem m__law_stream : mSs T f__law_stream.ns f__law_stream.own f__law_stream.body (defScope (top 16)) (defBody (top 16)) = true := by decide +kernel
theorem s__law_stream : FnScope f__law_stream.ns f__law_stream.ps (defScope (top 16)) := scope_of (by decide +kernel)
theorem m__law_draw : mSs T f__law_draw.ns f__law_draw.own f__law_draw.body (defScope (top 17)) (defBody (top 17)) = true := by decide +kernel
theorem s__law_draw : FnScope f__law_draw.ns f__law_draw.ps (defScope (top 17)) := scope_of (by decide +kernel)
theorem m__law_pick : mSs T f__law_pick.ns f__law_pick.own f__law_pick.body (defScope (top 18)) (defBody (top 18)) = true := by decide +kernel
theorem s__law_pick : FnScope f__law_pick.ns f__law_pick.ps (defScope (top 18)) := scope_of (by decide +kernel)
theorem m__law_letters : mSs T f__law_letters.ns f__law_letters.own f__law_letters.body (defScope (top 19)) (defBody (top 19)) = true := by decide +kernel
theorem s__law_letters : FnScope f__law_letters.ns f__law_letters.ps (defScope (top 19)) := scope_of (by decide +kernel)
theorem m__law_is_name : mSs T f__law_is_name.ns f__law_is_name.own f__law_is_name.body (defScope (top 20)) (defBody (top 20)) = true := by decide +kernel
theorem s__law_is_name : FnScope f__law_is_name.ns f__law_is_name.ps (defScope (top 20)) := scope_of (by decide +kernel)
theorem m__law_is_part : mSs T f__law_is_part.ns f__law_is_part.own f__law_is_part.body (defScope (top 21)) (defBody (top 21)) = true := by decide +kernel
theorem s__law_is_part : FnScope f__law_is_part.ns f__law_is_part.ps (defScope (top 21)) := scope_of (by decide +kernel)
theorem m__law_is_used : mSs T f__law_is_used.ns f__law_is_used.own f__law_is_used.body (defScope (top 22)) (defBody (top 22)) = true := by decide +kernel
theorem s__law_is_used : FnScope f__law_is_used.ns f__law_is_used.ps (defScope (top 22)) := scope_of (by decide +kernel)
theorem m__law_reserved : mSs T f__law_reserved.ns f__law_reserved.own f__law_reserved.body (defScope (top 23)) (defBody (top 23)) = true := by decide +kernel
theorem s__law_reserved : FnScope f__law_reserved.ns f__law_reserved.ps (defScope (top 23)) := scope_of (by decide +kernel)
theorem m__law_word : mSs T f__law_word.ns f__law_word.own f__law_word.body (defScope (top 24)) (defBody (top 24)) = true := by decide +kernel
theorem s__law_word : FnScope f__law_word.ns f__law_word.ps (defScope (top 24)) := scope_of (by decide +kernel)
theorem m__law_part : mSs T f__law_part.ns f__law_part.own f__law_part.body (defScope (top 25)) (defBody (top 25)) = true := by decide +kernel
theorem s__law_part : FnScope f__law_part.ns f__law_part.ps (defScope (top 25)) := scope_of (by decide +kernel)
theorem m__law_right : mSs T f__law_right.ns f__law_right.own f__law_right.body (defScope (top 26)) (defBody (top 26)) = true := by decide +kernel
theorem s__law_right : FnScope f__law_right.ns f__law_right.ps (defScope (top 26)) := scope_of (by decide +kernel)
theorem m_law : mSs T f_law.ns f_law.own f_law.body (defScope (top 27)) (defBody (top 27)) = true := by decide +kernel
theorem s_law : FnScope f_law.ns f_law.ps (defScope (top 27)) := scope_of (by decide +kernel)
theorem all_mk {K : PySem.W.Frag} {cl : Nat → Option Addr} {h : Heap} {mg : Str → Option Value} (X : K.In h) (G : h.Ns mainGlobals mg)
    {gu0 : Value}
    {gu1 : Value}
    {gu2 : Value}
    {gu3 : Value}
    {gu4 : Value}
    {ga5 : Addr} {go5 : Obj}
    {gu6 : Value}
    {f0 : Addr} {od0 an0 : Option Addr} {sl0 : Array (Option Value)} {oc0 kV0 dc0 pm0 cd0 ct0 : Value}
    {f1 : Addr} {od1 an1 : Option Addr} {sl1 : Array (Option Value)} {oc1 kV1 dc1 pm1 cd1 ct1 : Value}
    {f2 : Addr} {od2 an2 : Option Addr} {sl2 : Array (Option Value)} {oc2 kV2 dc2 pm2 cd2 ct2 : Value}
    {f3 : Addr} {od3 an3 : Option Addr} {sl3 : Array (Option Value)} {oc3 kV3 dc3 pm3 cd3 ct3 : Value}
    {f4 : Addr} {od4 an4 : Option Addr} {sl4 : Array (Option Value)} {oc4 kV4 dc4 pm4 cd4 ct4 : Value}
    {f5 : Addr} {od5 an5 : Option Addr} {sl5 : Array (Option Value)} {oc5 kV5 dc5 pm5 cd5 ct5 : Value}
    {f6 : Addr} {od6 an6 : Option Addr} {sl6 : Array (Option Value)} {oc6 kV6 dc6 pm6 cd6 ct6 : Value}
    {f7 : Addr} {od7 an7 : Option Addr} {sl7 : Array (Option Value)} {oc7 kV7 dc7 pm7 cd7 ct7 : Value}
    {f8 : Addr} {od8 an8 : Option Addr} {sl8 : Array (Option Value)} {oc8 kV8 dc8 pm8 cd8 ct8 : Value}
    {f9 : Addr} {od9 an9 : Option Addr} {sl9 : Array (Option Value)} {oc9 kV9 dc9 pm9 cd9 ct9 : Value}
    {f10 : Addr} {od10 an10 : Option Addr} {sl10 : Array (Option Value)} {oc10 kV10 dc10 pm10 cd10 ct10 : Value}
    {f11 : Addr} {od11 an11 : Option Addr} {sl11 : Array (Option Value)} {oc11 kV11 dc11 pm11 cd11 ct11 : Value}
    {f12 : Addr} {od12 an12 : Option Addr} {sl12 : Array (Option Value)} {oc12 kV12 dc12 pm12 cd12 ct12 : Value}
    {f13 : Addr} {od13 an13 : Option Addr} {sl13 : Array (Option Value)} {oc13 kV13 dc13 pm13 cd13 ct13 : Value}
    {f14 : Addr} {od14 an14 : Option Addr} {sl14 : Array (Option Value)} {oc14 kV14 dc14 pm14 cd14 ct14 : Value}
    {f15 : Addr} {od15 an15 : Option Addr} {sl15 : Array (Option Value)} {oc15 kV15 dc15 pm15 cd15 ct15 : Value}
    {f16 : Addr} {od16 an16 : Option Addr} {sl16 : Array (Option Value)} {oc16 kV16 dc16 pm16 cd16 ct16 : Value}
    {f17 : Addr} {od17 an17 : Option Addr} {sl17 : Array (Option Value)} {oc17 kV17 dc17 pm17 cd17 ct17 : Value}
    (g0 : PySem.W.nsIn K mainGlobals "LETTERS" = some (some gu0)) (gt0 : litB gu0 (.str w_0) = true)
    (g1 : PySem.W.nsIn K mainGlobals "NAME_SIGNS" = some (some gu1)) (gt1 : litB gu1 (.str w_1) = true)
    (g2 : PySem.W.nsIn K mainGlobals "MAX_NAME" = some (some gu2)) (gt2 : litB gu2 (.int 40) = true)
    (g3 : PySem.W.nsIn K mainGlobals "DIGITS" = some (some gu3)) (gt3 : litB gu3 (.str w_2) = true)
    (g4 : PySem.W.nsIn K mainGlobals "MAX_MADE" = some (some gu4)) (gt4 : litB gu4 (.int 9) = true)
    (g5 : PySem.W.nsIn K mainGlobals "RESERVED" = some (some (.ref ga5))) (gl5 : K.lookup ga5 = some go5) (gt5 : tupB go5 [(.str [109, 111, 100]), (.str [109, 97, 99, 114, 111]), (.str w_3), (.str [114, 101, 112, 101, 97, 116]), (.str w_4), (.str [105, 102]), (.str [105, 102, 115, 97, 109, 101]), (.str [101, 108, 115, 101]), (.str [101, 110, 100, 105, 102]), (.str [115, 101, 116]), (.str w_5), (.str [98, 121, 116, 101]), (.str [119, 111, 114, 100]), (.str [108, 111, 110, 103]), (.str [116, 101, 120, 116]), (.str [115, 112, 97, 99, 101]), (.str [97, 108, 105, 103, 110]), (.str [115, 99, 111, 112, 101]), (.str w_6), (.str [101, 120, 112, 111, 114, 116]), (.str [105, 109, 112, 111, 114, 116])] = true)
    (g6 : PySem.W.nsIn K mainGlobals "MAX_PATH" = some (some gu6)) (gt6 : litB gu6 (.int 8) = true)
    (b0 : PySem.W.nsIn K mainGlobals "all" = some none)
    (b1 : PySem.W.nsIn K mainGlobals "enumerate" = some none)
    (b2 : PySem.W.nsIn K mainGlobals "int" = some none)
    (b3 : PySem.W.nsIn K mainGlobals "isinstance" = some none)
    (b4 : PySem.W.nsIn K mainGlobals "len" = some none)
    (b5 : PySem.W.nsIn K mainGlobals "list" = some none)
    (b6 : PySem.W.nsIn K mainGlobals "range" = some none)
    (b7 : PySem.W.nsIn K mainGlobals "repr" = some none)
    (b8 : PySem.W.nsIn K mainGlobals "str" = some none)
    (a0 : PySem.W.nsIn K mainGlobals "name_end" = some (some (.ref f0))) (l0 : K.lookup f0 = some ⟨oc0, od0, .func (PySem.W.fnOf "name_end" "name_end" (defArgs (top 7)) (defBody (top 7)) (defScope (top 7)) .none kV0 dc0 pm0 an0 cd0 ct0), sl0⟩) (c0 : PySem.W.codeIn K cd0 "name_end" = true) (k0 : PySem.W.keepIn K (.ref f0) = true)
    (a1 : PySem.W.nsIn K mainGlobals "made_end" = some (some (.ref f1))) (l1 : K.lookup f1 = some ⟨oc1, od1, .func (PySem.W.fnOf "made_end" "made_end" (defArgs (top 8)) (defBody (top 8)) (defScope (top 8)) .none kV1 dc1 pm1 an1 cd1 ct1), sl1⟩) (c1 : PySem.W.codeIn K cd1 "made_end" = true) (k1 : PySem.W.keepIn K (.ref f1) = true)
    (a2 : PySem.W.nsIn K mainGlobals "is_name" = some (some (.ref f2))) (l2 : K.lookup f2 = some ⟨oc2, od2, .func (PySem.W.fnOf "is_name" "is_name" (defArgs (top 11)) (defBody (top 11)) (defScope (top 11)) .none kV2 dc2 pm2 an2 cd2 ct2), sl2⟩) (c2 : PySem.W.codeIn K cd2 "is_name" = true) (k2 : PySem.W.keepIn K (.ref f2) = true)
    (a3 : PySem.W.nsIn K mainGlobals "is_reserved" = some (some (.ref f3))) (l3 : K.lookup f3 = some ⟨oc3, od3, .func (PySem.W.fnOf "is_reserved" "is_reserved" (defArgs (top 12)) (defBody (top 12)) (defScope (top 12)) .none kV3 dc3 pm3 an3 cd3 ct3), sl3⟩) (c3 : PySem.W.codeIn K cd3 "is_reserved" = true) (k3 : PySem.W.keepIn K (.ref f3) = true)
    (a4 : PySem.W.nsIn K mainGlobals "is_used" = some (some (.ref f4))) (l4 : K.lookup f4 = some ⟨oc4, od4, .func (PySem.W.fnOf "is_used" "is_used" (defArgs (top 13)) (defBody (top 13)) (defScope (top 13)) .none kV4 dc4 pm4 an4 cd4 ct4), sl4⟩) (c4 : PySem.W.codeIn K cd4 "is_used" = true) (k4 : PySem.W.keepIn K (.ref f4) = true)
    (a5 : PySem.W.nsIn K mainGlobals "_law_mixed" = some (some (.ref f5))) (l5 : K.lookup f5 = some ⟨oc5, od5, .func (PySem.W.fnOf "_law_mixed" "_law_mixed" (defArgs (top 15)) (defBody (top 15)) (defScope (top 15)) .none kV5 dc5 pm5 an5 cd5 ct5), sl5⟩) (c5 : PySem.W.codeIn K cd5 "_law_mixed" = true) (k5 : PySem.W.keepIn K (.ref f5) = true)
    (a6 : PySem.W.nsIn K mainGlobals "_law_stream" = some (some (.ref f6))) (l6 : K.lookup f6 = some ⟨oc6, od6, .func (PySem.W.fnOf "_law_stream" "_law_stream" (defArgs (top 16)) (defBody (top 16)) (defScope (top 16)) .none kV6 dc6 pm6 an6 cd6 ct6), sl6⟩) (c6 : PySem.W.codeIn K cd6 "_law_stream" = true) (k6 : PySem.W.keepIn K (.ref f6) = true)
    (a7 : PySem.W.nsIn K mainGlobals "_law_draw" = some (some (.ref f7))) (l7 : K.lookup f7 = some ⟨oc7, od7, .func (PySem.W.fnOf "_law_draw" "_law_draw" (defArgs (top 17)) (defBody (top 17)) (defScope (top 17)) .none kV7 dc7 pm7 an7 cd7 ct7), sl7⟩) (c7 : PySem.W.codeIn K cd7 "_law_draw" = true) (k7 : PySem.W.keepIn K (.ref f7) = true)
    (a8 : PySem.W.nsIn K mainGlobals "_law_pick" = some (some (.ref f8))) (l8 : K.lookup f8 = some ⟨oc8, od8, .func (PySem.W.fnOf "_law_pick" "_law_pick" (defArgs (top 18)) (defBody (top 18)) (defScope (top 18)) .none kV8 dc8 pm8 an8 cd8 ct8), sl8⟩) (c8 : PySem.W.codeIn K cd8 "_law_pick" = true) (k8 : PySem.W.keepIn K (.ref f8) = true)
    (a9 : PySem.W.nsIn K mainGlobals "_law_letters" = some (some (.ref f9))) (l9 : K.lookup f9 = some ⟨oc9, od9, .func (PySem.W.fnOf "_law_letters" "_law_letters" (defArgs (top 19)) (defBody (top 19)) (defScope (top 19)) .none kV9 dc9 pm9 an9 cd9 ct9), sl9⟩) (c9 : PySem.W.codeIn K cd9 "_law_letters" = true) (k9 : PySem.W.keepIn K (.ref f9) = true)
    (a10 : PySem.W.nsIn K mainGlobals "_law_is_name" = some (some (.ref f10))) (l10 : K.lookup f10 = some ⟨oc10, od10, .func (PySem.W.fnOf "_law_is_name" "_law_is_name" (defArgs (top 20)) (defBody (top 20)) (defScope (top 20)) .none kV10 dc10 pm10 an10 cd10 ct10), sl10⟩) (c10 : PySem.W.codeIn K cd10 "_law_is_name" = true) (k10 : PySem.W.keepIn K (.ref f10) = true)
    (a11 : PySem.W.nsIn K mainGlobals "_law_is_part" = some (some (.ref f11))) (l11 : K.lookup f11 = some ⟨oc11, od11, .func (PySem.W.fnOf "_law_is_part" "_law_is_part" (defArgs (top 21)) (defBody (top 21)) (defScope (top 21)) .none kV11 dc11 pm11 an11 cd11 ct11), sl11⟩) (c11 : PySem.W.codeIn K cd11 "_law_is_part" = true) (k11 : PySem.W.keepIn K (.ref f11) = true)
    (a12 : PySem.W.nsIn K mainGlobals "_law_is_used" = some (some (.ref f12))) (l12 : K.lookup f12 = some ⟨oc12, od12, .func (PySem.W.fnOf "_law_is_used" "_law_is_used" (defArgs (top 22)) (defBody (top 22)) (defScope (top 22)) .none kV12 dc12 pm12 an12 cd12 ct12), sl12⟩) (c12 : PySem.W.codeIn K cd12 "_law_is_used" = true) (k12 : PySem.W.keepIn K (.ref f12) = true)
    (a13 : PySem.W.nsIn K mainGlobals "_law_reserved" = some (some (.ref f13))) (l13 : K.lookup f13 = some ⟨oc13, od13, .func (PySem.W.fnOf "_law_reserved" "_law_reserved" (defArgs (top 23)) (defBody (top 23)) (defScope (top 23)) .none kV13 dc13 pm13 an13 cd13 ct13), sl13⟩) (c13 : PySem.W.codeIn K cd13 "_law_reserved" = true) (k13 : PySem.W.keepIn K (.ref f13) = true)
    (a14 : PySem.W.nsIn K mainGlobals "_law_word" = some (some (.ref f14))) (l14 : K.lookup f14 = some ⟨oc14, od14, .func (PySem.W.fnOf "_law_word" "_law_word" (defArgs (top 24)) (defBody (top 24)) (defScope (top 24)) .none kV14 dc14 pm14 an14 cd14 ct14), sl14⟩) (c14 : PySem.W.codeIn K cd14 "_law_word" = true) (k14 : PySem.W.keepIn K (.ref f14) = true)
    (a15 : PySem.W.nsIn K mainGlobals "_law_part" = some (some (.ref f15))) (l15 : K.lookup f15 = some ⟨oc15, od15, .func (PySem.W.fnOf "_law_part" "_law_part" (defArgs (top 25)) (defBody (top 25)) (defScope (top 25)) .none kV15 dc15 pm15 an15 cd15 ct15), sl15⟩) (c15 : PySem.W.codeIn K cd15 "_law_part" = true) (k15 : PySem.W.keepIn K (.ref f15) = true)
    (a16 : PySem.W.nsIn K mainGlobals "_law_right" = some (some (.ref f16))) (l16 : K.lookup f16 = some ⟨oc16, od16, .func (PySem.W.fnOf "_law_right" "_law_right" (defArgs (top 26)) (defBody (top 26)) (defScope (top 26)) .none kV16 dc16 pm16 an16 cd16 ct16), sl16⟩) (c16 : PySem.W.codeIn K cd16 "_law_right" = true) (k16 : PySem.W.keepIn K (.ref f16) = true)
    (a17 : PySem.W.nsIn K mainGlobals "law" = some (some (.ref f17))) (l17 : K.lookup f17 = some ⟨oc17, od17, .func (PySem.W.fnOf "law" "law" (defArgs (top 27)) (defBody (top 27)) (defScope (top 27)) .none kV17 dc17 pm17 an17 cd17 ct17), sl17⟩) (c17 : PySem.W.codeIn K cd17 "law" = true) (k17 : PySem.W.keepIn K (.ref f17) = true)
    : (∀ p ∈ T.glo, ∃ u v, mg p.1 = some u ∧ RelV v u ∧ ∀ O H, Rep K cl O H v p.2) ∧ (∀ y ∈ T.blt, mg y = none) ∧ ∀ f fn, T.fns f = some fn → FnI T K mg fn := by
  have F0 : FnI T K mg f_name_end := fni X G rfl a0 l0 c0 k0 (.all fun us hl => match us, hl with | [_, _], _ => rfl) (fun p hp => nomatch hp) s_name_end m_name_end
  have F1 : FnI T K mg f_made_end := fni X G rfl a1 l1 c1 k1 (.all fun us hl => match us, hl with | [_, _], _ => rfl) (fun p hp => nomatch hp) s_made_end m_made_end
  have F2 : FnI T K mg f_is_name := fni X G rfl a2 l2 c2 k2 (.all fun us hl => match us, hl with | [_], _ => rfl) (fun p hp => by
      simp only [f_is_name, List.mem_cons, List.not_mem_nil, or_false] at hp
      rcases hp with rfl
      exact fun s us ws zs _ h1 h2 h3 => match us, ws, h1, h2, h3 with | [], [_], _, _, h3 => by cases h3; exact .of_eq rfl) s_is_name m_is_name
  have F3 : FnI T K mg f_is_reserved := fni X G rfl a3 l3 c3 k3 (.all fun us hl => match us, hl with | [_], _ => rfl) (fun p hp => by
      simp only [f_is_reserved, List.mem_cons, List.not_mem_nil, or_false] at hp
      rcases hp with rfl
      exact fun s us ws zs _ h1 h2 h3 => match us, ws, h1, h2, h3 with | [], [_], _, _, h3 => by cases h3; exact .of_eq rfl) s_is_reserved m_is_reserved
  have F4 : FnI T K mg f_is_used := fni X G rfl a4 l4 c4 k4 (.all fun us hl => match us, hl with | [_], _ => rfl) (fun p hp => by
      simp only [f_is_used, List.mem_cons, List.not_mem_nil, or_false] at hp
      rcases hp with rfl
      exact fun s us ws zs _ h1 h2 h3 => match us, ws, h1, h2, h3 with | [], [_], _, _, h3 => by cases h3; exact .of_eq rfl) s_is_used m_is_used
  have F5 : FnI T K mg f__law_mixed := fni X G rfl a5 l5 c5 k5 (.all fun us hl => match us, hl with | [_, _], _ => rfl) (fun p hp => nomatch hp) s__law_mixed m__law_mixed
  have F6 : FnI T K mg f__law_stream := fni X G rfl a6 l6 c6 k6 (.all fun us hl => match us, hl with | [_, _], _ => rfl) (fun p hp => nomatch hp) s__law_stream m__law_stream
  have F7 : FnI T K mg f__law_draw := fni X G rfl a7 l7 c7 k7 (.all fun us hl => match us, hl with | [_, _], _ => rfl) (fun p hp => nomatch hp) s__law_draw m__law_draw
  have F8 : FnI T K mg f__law_pick := fni X G rfl a8 l8 c8 k8 (.all fun us hl => match us, hl with | [_, _], _ => rfl) (fun p hp => nomatch hp) s__law_pick m__law_pick
  have F9 : FnI T K mg f__law_letters := fni X G rfl a9 l9 c9 k9 (.all fun us hl => match us, hl with | [], _ => rfl) (fun p hp => nomatch hp) s__law_letters m__law_letters
  have F10 : FnI T K mg f__law_is_name := fni X G rfl a10 l10 c10 k10 (.all fun us hl => match us, hl with | [_], _ => rfl) (fun p hp => nomatch hp) s__law_is_name m__law_is_name
  have F11 : FnI T K mg f__law_is_part := fni X G rfl a11 l11 c11 k11 (.all fun us hl => match us, hl with | [_], _ => rfl) (fun p hp => nomatch hp) s__law_is_part m__law_is_part
  have F12 : FnI T K mg f__law_is_used := fni X G rfl a12 l12 c12 k12 (.all fun us hl => match us, hl with | [_], _ => rfl) (fun p hp => nomatch hp) s__law_is_used m__law_is_used
  have F13 : FnI T K mg f__law_reserved := fni X G rfl a13 l13 c13 k13 (.all fun us hl => match us, hl with | [], _ => rfl) (fun p hp => nomatch hp) s__law_reserved m__law_reserved
  have F14 : FnI T K mg f__law_word := fni X G rfl a14 l14 c14 k14 (.all fun us hl => match us, hl with | [_], _ => rfl) (fun p hp => nomatch hp) s__law_word m__law_word
  have F15 : FnI T K mg f__law_part := fni X G rfl a15 l15 c15 k15 (.all fun us hl => match us, hl with | [_], _ => rfl) (fun p hp => nomatch hp) s__law_part m__law_part
  have F16 : FnI T K mg f__law_right := fni X G rfl a16 l16 c16 k16 (.all fun us hl => match us, hl with | [_], _ => rfl) (fun p hp => nomatch hp) s__law_right m__law_right
  have F17 : FnI T K mg f_law := fni X G rfl a17 l17 c17 k17 (.all fun us hl => match us, hl with | [_], _ => rfl) (fun p hp => nomatch hp) s_law m_law
  refine ⟨fun p => ?_, fun y => ?_, fun f fn hf => ?_⟩
  · exact (fun h => (List.mem_cons.mp h).elim (fun e => by subst e; exact glo_lit X G g0 gt0) (fun h => (List.mem_cons.mp h).elim (fun e => by subst e; exact glo_lit X G g1 gt1) (fun h => (List.mem_cons.mp h).elim (fun e => by subst e; exact glo_lit X G g2 gt2) (fun h => (List.mem_cons.mp h).elim (fun e => by subst e; exact glo_lit X G g3 gt3) (fun h => (List.mem_cons.mp h).elim (fun e => by subst e; exact glo_lit X G g4 gt4) (fun h => (List.mem_cons.mp h).elim (fun e => by subst e; exact glo_tup X G g5 gl5 gt5) (fun h => (List.mem_cons.mp h).elim (fun e => by subst e; exact glo_lit X G g6 gt6) (fun h => (nomatch h)))))))) : p ∈ glo → ∃ u v, mg p.1 = some u ∧ RelV v u ∧ ∀ O H, Rep K cl O H v p.2)
  · exact (fun h => (List.mem_cons.mp h).elim (fun e => by subst e; exact PySem.W.mg_none_of X G b0) (fun h => (List.mem_cons.mp h).elim (fun e => by subst e; exact PySem.W.mg_none_of X G b1) (fun h => (List.mem_cons.mp h).elim (fun e => by subst e; exact PySem.W.mg_none_of X G b2) (fun h => (List.mem_cons.mp h).elim (fun e => by subst e; exact PySem.W.mg_none_of X G b3) (fun h => (List.mem_cons.mp h).elim (fun e => by subst e; exact PySem.W.mg_none_of X G b4) (fun h => (List.mem_cons.mp h).elim (fun e => by subst e; exact PySem.W.mg_none_of X G b5) (fun h => (List.mem_cons.mp h).elim (fun e => by subst e; exact PySem.W.mg_none_of X G b6) (fun h => (List.mem_cons.mp h).elim (fun e => by subst e; exact PySem.W.mg_none_of X G b7) (fun h => (List.mem_cons.mp h).elim (fun e => by subst e; exact PySem.W.mg_none_of X G b8) (fun h => (nomatch h)))))))))) : y ∈ blt → mg y = none)
  · exact (fun h => (List.mem_cons.mp h).elim (fun e => by subst e; exact F0) (fun h => (List.mem_cons.mp h).elim (fun e => by subst e; exact F1) (fun h => (List.mem_cons.mp h).elim (fun e => by subst e; exact F2) (fun h => (List.mem_cons.mp h).elim (fun e => by subst e; exact F3) (fun h => (List.mem_cons.mp h).elim (fun e => by subst e; exact F4) (fun h => (List.mem_cons.mp h).elim (fun e => by subst e; exact F5) (fun h => (List.mem_cons.mp h).elim (fun e => by subst e; exact F6) (fun h => (List.mem_cons.mp h).elim (fun e => by subst e; exact F7) (fun h => (List.mem_cons.mp h).elim (fun e => by subst e; exact F8) (fun h => (List.mem_cons.mp h).elim (fun e => by subst e; exact F9) (fun h => (List.mem_cons.mp h).elim (fun e => by subst e; exact F10) (fun h => (List.mem_cons.mp h).elim (fun e => by subst e; exact F11) (fun h => (List.mem_cons.mp h).elim (fun e => by subst e; exact F12) (fun h => (List.mem_cons.mp h).elim (fun e => by subst e; exact F13) (fun h => (List.mem_cons.mp h).elim (fun e => by subst e; exact F14) (fun h => (List.mem_cons.mp h).elim (fun e => by subst e; exact F15) (fun h => (List.mem_cons.mp h).elim (fun e => by subst e; exact F16) (fun h => (List.mem_cons.mp h).elim (fun e => by subst e; exact F17) (fun h => (nomatch h))))))))))))))))))) : fn ∈ fns → FnI T K mg fn) (List.mem_of_getElem? hf)
end K02


namespace K02
open PySem PySem.Spec PyProof.Rows L2 Mx
def mixed (n k : Int) : Int := ((n % 2147483647 + 7919 * k * k + 31 * k) * 48271 % 2147483647) * (69621 + 2 * k) % 2147483629
theorem mulOk_l {i j : Int} (h1 : -(2 ^ 64) < i) (h2 : i < 2 ^ 64) : mulOk i j = true := by
  unfold mulOk; rw [decide_eq_true h1, decide_eq_true h2]; rfl
theorem mulOk_r {i j : Int} (h1 : -(2 ^ 64) < j) (h2 : j < 2 ^ 64) : mulOk i j = true := by
  unfold mulOk; rw [decide_eq_true h1, decide_eq_true h2]; simp
theorem r_mixed {N k : Nat} (n c : Int) (h0 : 0 ≤ c) (h1 : c < 2 ^ 40) : OkF (runF T.fns N (k + 1) 5 [.int n, .int c]) fun d ms => d = .int (mixed n c) ∧ ms = [.non, .non] := by
  refine okF_run (fn := f__law_mixed) rfl rfl ?_
  have m1 : mulOk 7919 c = true := mulOk_l (by decide) (by decide)
  have m2 : mulOk (7919 * c) c = true := mulOk_r (by omega) (by omega)
  have m3 : mulOk 31 c = true := mulOk_l (by decide) (by decide)
  have m4 : ∀ x : Int, mulOk x 48271 = true := fun x => mulOk_r (by decide) (by decide)
  have m5 : mulOk 2 c = true := mulOk_l (by decide) (by decide)
  have m6 : ∀ x : Int, mulOk x (69621 + 2 * c) = true := fun x => mulOk_r (by omega) (by omega)
  simp [f__law_mixed, b__law_mixed, Fn.start, startA, b_mulI, b_modI, m1, m2, m3, m4, m5, m6, mutsOf, mixed]
/-- a stream: its counter at most n -/
def St (n : Nat) (s : IV) : Prop := ∃ a b c : Int, s = .lst [.int a, .int b, .int c] ∧ 0 ≤ b ∧ b ≤ n
theorem St.mono {n m : Nat} {s : IV} (h : St n s) (l : n ≤ m) : St m s := by
  obtain ⟨a, b, c, e, h1, h2⟩ := h
  exact ⟨a, b, c, e, h1, by omega⟩
theorem r_stream {N k : Nat} (i c : Int) (h0 : 0 ≤ c) (h1 : c < 2 ^ 40) : OkF (runF T.fns N (k + 2) 6 [.int i, .int c]) fun d ms => St 0 d ∧ ms = [.non, .non] := by
  refine okF_run (fn := f__law_stream) rfl rfl ?_
  have p : binD .pow (.int 10) (.int 18) = some (.int (10 ^ 18)) := rfl
  simp [f__law_stream, b__law_stream, Fn.start, startA, p]
  split
  · refine (r_mixed i c h0 h1).mono fun d ms ⟨e1, e2⟩ => ?_
    subst e1; subst e2
    simp [mutsOf, St, SZ]
    exact ⟨_, 0, ⟨rfl, rfl⟩, by decide, by decide⟩
  · refine (r_mixed i c h0 h1).mono fun d ms ⟨e1, e2⟩ => ?_
    subst e1; subst e2
    simp [mutsOf, St, SZ]
    exact ⟨_, 0, ⟨rfl, rfl⟩, by decide, by decide⟩
theorem mixed_nn (n k : Int) : 0 ≤ mixed n k := Int.emod_nonneg _ (by decide)
theorem r_draw {N k n : Nat} {s : IV} {top : Int} (hs : St n s) (hn : n < 2 ^ 39) (h0 : 0 < top) (h1 : top < 1073741824) : OkF (runF T.fns N (k + 2) 7 [s, .int top]) fun d ms => ∃ v s', d = .int v ∧ 0 ≤ v ∧ v < top ∧ ms = [s', .non] ∧ St (n + 1) s' := by
  obtain ⟨a, b, c, rfl, hb0, hb1⟩ := hs
  refine okF_run (fn := f__law_draw) rfl rfl ?_
  have i1 : ∀ x y z : Int, ixD (.lst [.int x, .int y, .int z]) (.int 0) = some (.int x) := fun _ _ _ => rfl
  have i2 : ∀ x y z : Int, ixD (.lst [.int x, .int y, .int z]) (.int 1) = some (.int y) := fun _ _ _ => rfl
  have i3 : ∀ x y z : Int, ixD (.lst [.int x, .int y, .int z]) (.int 2) = some (.int z) := fun _ _ _ => rfl
  have s1 : ∀ x y z w : Int, setD (.int 1) (.int w) (.lst [.int x, .int y, .int z]) = some (.lst [.int x, .int w, .int z]) := fun _ _ _ _ => rfl
  have s0 : ∀ x y z w : Int, setD (.int 0) (.int w) (.lst [.int x, .int y, .int z]) = some (.lst [.int w, .int y, .int z]) := fun _ _ _ _ => rfl
  have st : ∀ x : Int, St (n + 1) (.lst [.int x, .int (b + 1), .int c]) := fun x => ⟨x, b + 1, c, rfl, by omega, by omega⟩
  simp [f__law_draw, b__law_draw, Fn.start, startA, i1, i2, i3, s0, s1]
  split
  · refine (r_mixed c (b + 1) (by omega) (by omega)).mono fun d ms ⟨e1, e2⟩ => ?_
    subst e1; subst e2
    simp
    refine (r_mixed (mixed c (b + 1)) 7 (by decide) (by decide)).mono fun d ms ⟨e1, e2⟩ => ?_
    subst e1; subst e2
    simp [b_modI h0, mutsOf, Int.emod_nonneg _ (Int.ne_of_gt h0), Int.emod_lt_of_pos _ h0, st]
  · simp [b_modI h0, b_fdivI h0 h1, mutsOf, Int.emod_nonneg _ (Int.ne_of_gt h0), Int.emod_lt_of_pos _ h0, st, i1, i2, i3, s0, s1]
theorem atI_mem {xs : List IV} {v : Int} (h0 : 0 ≤ v) (h1 : v < xs.length) : ∃ d, atI xs v = some d ∧ d ∈ xs := by
  have hn : v.toNat < xs.length := by omega
  refine ⟨xs[v.toNat], ?_, List.getElem_mem hn⟩
  unfold atI ixN
  rw [if_pos h0, if_pos h1]
  show xs[v.toNat]? = _
  exact List.getElem?_eq_getElem hn
theorem r_pick {N k n : Nat} {s : IV} {xs : List IV} (hs : St n s) (hn : n < 2 ^ 39) (h0 : xs ≠ []) (h1 : xs.length < 1000) : OkF (runF T.fns N (k + 3) 8 [s, .lst xs]) fun d ms => d ∈ xs ∧ ∃ s', ms = [s', .non] ∧ St (n + 1) s' := by
  refine okF_run (fn := f__law_pick) rfl rfl ?_
  simp [f__law_pick, b__law_pick, Fn.start, startA]
  have hl : 0 < xs.length := List.length_pos_iff.mpr h0
  refine (r_draw hs hn (by omega) (by omega)).mono fun d ms ⟨v, s', e1, v0, v1, e2, hs'⟩ => ?_
  subst e1; subst e2
  obtain ⟨d, ed, hd⟩ := atI_mem v0 v1
  have e : ixD (.lst xs) (.int v) = some d := ed
  simp [e, mutsOf, hd, hs']
end K02


namespace K02
open PySem PySem.Spec PyProof.Rows L2 Mx
abbrev SG : List Nat := w_1
abbrev LE : List Nat := w_0
abbrev DI : List Nat := w_2
theorem le_sg {c : Nat} (h : c ∈ LE) : c ∈ SG := by
  have z : (LE.all fun c => decide (c ∈ SG)) = true := by decide +kernel
  rw [List.all_eq_true] at z
  exact of_decide_eq_true (z c h)
theorem at_no {c : Nat} (h : c ∈ SG) : c ≠ 64 := by
  have z : (SG.all fun c => decide (c ≠ 64)) = true := by decide +kernel
  rw [List.all_eq_true] at z
  exact of_decide_eq_true (z c h)
/-- how many signs of a name stand ahead, at most n -/
def runN : Nat → List Nat → Nat
  | 0, _ => 0
  | _, [] => 0
  | n + 1, c :: r => if c ∈ SG then runN n r + 1 else 0
def nEnd : List Nat → Nat
  | [] => 0
  | c :: r => if c ∈ LE then runN 40 (c :: r) else 0
theorem runN_le : ∀ (n : Nat) (l : List Nat), runN n l ≤ n ∧ runN n l ≤ l.length
  | 0, l => ⟨Nat.le_refl _, Nat.zero_le _⟩
  | n + 1, [] => ⟨Nat.zero_le _, Nat.zero_le _⟩
  | n + 1, c :: r => by
    have z := runN_le n r
    unfold runN
    split
    · exact ⟨Nat.succ_le_succ z.1, Nat.succ_le_succ z.2⟩
    · exact ⟨Nat.zero_le _, Nat.zero_le _⟩
/-- one more sign stands there just below the end -/
theorem runN_lt : ∀ (n : Nat) (l : List Nat) (e : Nat), e ≤ runN n l → ((e < n ∧ ∃ c, l[e]? = some c ∧ c ∈ SG) ↔ e < runN n l)
  | 0, l, e, h => by
    have : runN 0 l = 0 := by unfold runN; rfl
    rw [this] at h ⊢
    constructor
    · exact fun z => absurd z.1 (Nat.not_lt_zero _)
    · exact fun z => absurd z (Nat.not_lt_zero _)
  | n + 1, [], e, h => by
    have : runN (n + 1) [] = 0 := by unfold runN; rfl
    rw [this] at h ⊢
    constructor
    · rintro ⟨_, c, hc, _⟩; cases hc
    · exact fun z => absurd z (Nat.not_lt_zero _)
  | n + 1, c :: r, 0, h => by
    unfold runN
    by_cases hc : c ∈ SG
    · rw [if_pos hc]
      exact ⟨fun _ => Nat.succ_pos _, fun _ => ⟨Nat.succ_pos _, c, rfl, hc⟩⟩
    · rw [if_neg hc]
      constructor
      · rintro ⟨_, d, hd, hs⟩; cases hd; exact absurd hs hc
      · exact fun z => absurd z (Nat.not_lt_zero _)
  | n + 1, c :: r, e + 1, h => by
    unfold runN at h ⊢
    by_cases hc : c ∈ SG
    · rw [if_pos hc] at h ⊢
      have z := runN_lt n r e (Nat.le_of_succ_le_succ h)
      constructor
      · rintro ⟨h1, d, h2, h3⟩
        exact Nat.succ_lt_succ (z.mp ⟨Nat.lt_of_succ_lt_succ h1, d, h2, h3⟩)
      · intro h1
        obtain ⟨h2, d, h3, h4⟩ := z.mpr (Nat.lt_of_succ_lt_succ h1)
        exact ⟨Nat.succ_lt_succ h2, d, h3, h4⟩
    · rw [if_neg hc] at h
      exact absurd h (Nat.not_succ_le_zero _)
theorem atI_nat {α : Type} {xs : List α} {n : Nat} : atI xs (n : Int) = xs[n]? := by
  unfold atI ixN
  rw [if_pos (Int.natCast_nonneg n)]
  by_cases h : n < xs.length
  · rw [if_pos (by omega)]
    show xs[(n : Int).toNat]? = _
    rw [Int.toNat_natCast]
  · rw [if_neg (by omega)]
    exact (List.getElem?_eq_none (by omega)).symm
theorem ixS {l : List Nat} {n : Nat} (h : l.length ≤ SZ) : ixD (.str l) (.int n) = (l[n]?).map fun c => .str [c] := by
  show (if l.length ≤ SZ then (atI l (n : Int)).map fun c => IV.str [c] else none) = _
  rw [if_pos h, atI_nat]
theorem nEnd_le (l : List Nat) : nEnd l ≤ 40 ∧ nEnd l ≤ l.length := by
  cases l with
  | nil => exact ⟨Nat.zero_le _, Nat.zero_le _⟩
  | cons c r =>
    by_cases h : c ∈ LE
    · rw [show nEnd (c :: r) = runN 40 (c :: r) from if_pos h]
      exact runN_le 40 (c :: r)
    · rw [show nEnd (c :: r) = 0 from if_neg h]
      exact ⟨Nat.zero_le _, Nat.zero_le _⟩
theorem nEnd_lt {l : List Nat} {e : Nat} (he : e ≤ nEnd l) : e < nEnd l ↔ e < 40 ∧ (∃ c, l[e]? = some c ∧ c ∈ SG) ∧ (0 < e ∨ ∃ c, l[0]? = some c ∧ c ∈ LE) := by
  cases l with
  | nil =>
    constructor
    · exact fun z => absurd z (Nat.not_lt_zero _)
    · rintro ⟨_, ⟨c, hc, _⟩, _⟩; cases hc
  | cons c r =>
    by_cases h : c ∈ LE
    · rw [show nEnd (c :: r) = runN 40 (c :: r) from if_pos h] at he ⊢
      rw [← runN_lt 40 (c :: r) e he]
      exact ⟨fun ⟨z1, z2⟩ => ⟨z1, z2, .inr ⟨c, rfl, h⟩⟩, fun ⟨z1, z2, _⟩ => ⟨z1, z2⟩⟩
    · rw [show nEnd (c :: r) = 0 from if_neg h] at he ⊢
      constructor
      · exact fun z => absurd z (Nat.not_lt_zero _)
      · rintro ⟨_, _, z | ⟨d, hd, z⟩⟩
        · omega
        · cases hd; exact absurd z h
theorem r_name_end {N k : Nat} (hN : 100 ≤ N) (l : List Nat) (hl : l.length ≤ SZ) : OkF (runF T.fns N (k + 1) 0 [.str l, .int 0]) fun d ms => d = .int (nEnd l) ∧ ms = [.non, .non] := by
  refine okF_run (fn := f_name_end) rfl rfl ?_
  simp only [f_name_end, b_name_end, Fn.start, startA]
  simp only [↓okSs_cons, ↓okS_asg, ↓okE_var, ↓okS_whl]
  simp only [List.length_cons, List.length_nil, List.replicate, List.cons_append, List.nil_append, List.getElem?_cons_succ, List.getElem?_cons_zero, ↓okO_some, List.set, Bool.false_eq_true, if_false]
  refine ok_while (fun m ρ => ∃ e : Nat, ρ = [.i (.str l), .i (.int 0), .i (.int e)] ∧ e ≤ nEnd l ∧ m = nEnd l - e) ?_ N (nEnd l) (by have := (nEnd_le l).1; omega) ⟨0, rfl, Nat.zero_le _, rfl⟩
  rintro m ρ ⟨e, rfl, he, rfl⟩
  have i0 : ixD (.str l) (.int 0) = (l[0]?).map fun c => .str [c] := ixS (n := 0) hl
  have key := nEnd_lt he
  have done : ¬ (e < nEnd l) → e = nEnd l := fun z => Nat.le_antisymm he (Nat.le_of_not_lt z)
  have next : e < nEnd l → ∃ m', m' < nEnd l - e ∧ ∃ e_1 : Nat, (e : Int) + 1 = (e_1 : Int) ∧ e_1 ≤ nEnd l ∧ m' = nEnd l - e_1 := fun z => ⟨nEnd l - (e + 1), by omega, e + 1, by omega, by omega, rfl⟩
  simp [f_lenS hl, ixS hl, mutsOf, i0]
  by_cases h1 : e < l.length
  case neg =>
    rw [if_neg h1, done fun z => ?_]
    obtain ⟨_, ⟨c, hc, _⟩, _⟩ := key.mp z
    exact h1 (List.getElem?_eq_some_iff.mp hc).1
  rw [if_pos h1]
  by_cases h2 : (e : Int) < 40
  case neg =>
    rw [if_neg h2, done fun z => h2 ?_]
    have := (key.mp z).1
    omega
  rw [if_pos h2, List.getElem?_eq_getElem h1]
  simp
  by_cases h3 : l[e] ∈ SG
  case neg =>
    rw [if_neg h3, done fun z => h3 ?_]
    obtain ⟨_, ⟨c, hc, hs⟩, _⟩ := key.mp z
    rw [List.getElem?_eq_getElem h1] at hc
    cases hc; exact hs
  rw [if_pos h3]
  by_cases h4 : 0 < e
  · rw [if_pos h4]
    exact next (key.mpr ⟨by omega, ⟨_, List.getElem?_eq_getElem h1, h3⟩, .inl h4⟩)
  rw [if_neg h4]
  have h0 : 0 < l.length := by omega
  rw [List.getElem?_eq_getElem h0]
  simp
  by_cases h5 : l[0] ∈ LE
  · rw [if_pos h5]
    exact next (key.mpr ⟨by omega, ⟨_, List.getElem?_eq_getElem h1, h3⟩, .inr ⟨_, List.getElem?_eq_getElem h0, h5⟩⟩)
  · rw [if_neg h5, done fun z => ?_]
    obtain ⟨_, _, z | ⟨c, hc, hs⟩⟩ := key.mp z
    · exact h4 z
    · rw [List.getElem?_eq_getElem h0] at hc
      cases hc; exact h5 hs
end K02


namespace K02
open PySem PySem.Spec PyProof.Rows L2 Mx
def dRun : List Nat → Nat
  | [] => 0
  | c :: r => if c ∈ DI then dRun r + 1 else 0
/-- how many digits stand behind the mark -/
def jEnd (l : List Nat) : Nat := if 0 < nEnd l ∧ l[nEnd l]? = some 64 then dRun (l.drop (nEnd l + 1)) else 0
def mEnd (l : List Nat) : Nat := if 1 ≤ jEnd l ∧ jEnd l ≤ 9 ∧ l[nEnd l + 1]? ≠ some 48 then nEnd l + 1 + jEnd l else nEnd l
theorem dRun_le : ∀ l : List Nat, dRun l ≤ l.length
  | [] => Nat.le_refl _
  | c :: r => by
    have := dRun_le r
    unfold dRun
    split
    · exact Nat.succ_le_succ this
    · exact Nat.zero_le _
theorem dRun_lt : ∀ (l : List Nat) (j : Nat), j ≤ dRun l → ((∃ c, l[j]? = some c ∧ c ∈ DI) ↔ j < dRun l)
  | [], j, h => by
    constructor
    · rintro ⟨c, hc, _⟩; cases hc
    · exact fun z => absurd z (Nat.not_lt_zero _)
  | c :: r, 0, h => by
    unfold dRun
    by_cases hc : c ∈ DI
    · rw [if_pos hc]
      exact ⟨fun _ => Nat.succ_pos _, fun _ => ⟨c, rfl, hc⟩⟩
    · rw [if_neg hc]
      constructor
      · rintro ⟨d, hd, hs⟩; cases hd; exact absurd hs hc
      · exact fun z => absurd z (Nat.not_lt_zero _)
  | c :: r, j + 1, h => by
    unfold dRun at h ⊢
    by_cases hc : c ∈ DI
    · rw [if_pos hc] at h ⊢
      have z := dRun_lt r j (Nat.le_of_succ_le_succ h)
      exact ⟨fun ⟨d, h2, h3⟩ => Nat.succ_lt_succ (z.mp ⟨d, h2, h3⟩), fun h1 => z.mpr (Nat.lt_of_succ_lt_succ h1)⟩
    · rw [if_neg hc] at h
      exact absurd h (Nat.not_succ_le_zero _)
theorem jEnd_lt {l : List Nat} {j : Nat} (h : j ≤ jEnd l) : j < jEnd l ↔ 0 < nEnd l ∧ l[nEnd l]? = some 64 ∧ ∃ c, l[nEnd l + 1 + j]? = some c ∧ c ∈ DI := by
  by_cases hc : 0 < nEnd l ∧ l[nEnd l]? = some 64
  · rw [show jEnd l = dRun (l.drop (nEnd l + 1)) from if_pos hc] at h ⊢
    rw [← dRun_lt _ j h, List.getElem?_drop]
    exact ⟨fun z => ⟨hc.1, hc.2, z⟩, fun z => z.2.2⟩
  · rw [show jEnd l = 0 from if_neg hc]
    exact ⟨fun z => absurd z (Nat.not_lt_zero _), fun z => absurd ⟨z.1, z.2.1⟩ hc⟩
theorem jEnd_le (l : List Nat) : jEnd l ≤ l.length := by
  by_cases hc : 0 < nEnd l ∧ l[nEnd l]? = some 64
  · rw [show jEnd l = dRun (l.drop (nEnd l + 1)) from if_pos hc]
    have := dRun_le (l.drop (nEnd l + 1))
    rw [List.length_drop] at this
    omega
  · rw [show jEnd l = 0 from if_neg hc]
    exact Nat.zero_le _
theorem cut_nat {α : Type} {l : List α} {a b : Nat} : cutL l (some (a : Int)) (some (b : Int)) = (l.drop a).take (b - a) := by
  unfold cutL
  rw [HT.sIx_nat, HT.sIx_nat]
  by_cases h : a ≤ l.length
  · rw [Nat.min_eq_left h]
    by_cases h2 : b ≤ l.length
    · rw [Nat.min_eq_left h2]
    · rw [Nat.min_eq_right (by omega), List.take_of_length_le (by rw [List.length_drop]; omega), List.take_of_length_le (by rw [List.length_drop]; omega)]
  · rw [List.drop_of_length_le (by omega), List.drop_of_length_le (by omega)]
    simp
theorem take_one {l : List Nat} {e c : Nat} : (l.drop e).take 1 = [c] ↔ l[e]? = some c := by
  rw [← List.head?_drop]
  cases l.drop e with
  | nil => simp
  | cons d r => simp
theorem r_made_end {N k : Nat} (l : List Nat) (hN : l.length + 100 ≤ N) (hl : l.length ≤ SZ) : OkF (runF T.fns N (k + 2) 1 [.str l, .int 0]) fun d ms => d = .int (mEnd l) ∧ ms = [.non, .non] := by
  refine okF_run (fn := f_made_end) rfl rfl ?_
  simp only [f_made_end, b_made_end, Fn.start, startA]
  simp
  refine (r_name_end (by omega) l hl).mono fun d ms ⟨e1, e2⟩ => ?_
  subst e1; subst e2
  simp
  refine ok_while (fun m ρ => ∃ j : Nat, ρ = [.i (.str l), .i (.int 0), .i (.int (nEnd l)), .i (.int ((nEnd l + 1 + j : Nat) : Int))] ∧ j ≤ jEnd l ∧ m = jEnd l - j) ?_ N (jEnd l) (by have := jEnd_le l; omega) ⟨0, by simp, Nat.zero_le _, rfl⟩
  rintro m ρ ⟨j, rfl, hj, rfl⟩
  have key := jEnd_lt hj
  have sl : slD (.str l) (some (nEnd l : Int)) (some ((nEnd l : Int) + 1)) = some (.str ((l.drop (nEnd l)).take 1)) := by
    show (if l.length ≤ SZ then some (IV.str (cutL l (some (nEnd l : Int)) (some ((nEnd l : Int) + 1)))) else none) = _
    rw [if_pos hl, show ((nEnd l : Int) + 1) = ((nEnd l + 1 : Nat) : Int) from rfl, cut_nat]
    congr 4
    omega
  have ixa : ∀ n : Nat, n < l.length → ixD (.str l) (.int (n : Int)) = some (.str [l[n]!]) := fun n hn => by
    rw [ixS hl, List.getElem?_eq_getElem hn, List.getElem!_eq_getElem?_getD, List.getElem?_eq_getElem hn]
    rfl
  have i1 : ixD (.str l) (.int ((nEnd l : Int) + 1)) = (l[nEnd l + 1]?).map fun c => .str [c] := ixS (n := nEnd l + 1) hl
  have i2 : ixD (.str l) (.int ((nEnd l : Int) + 1 + (j : Int))) = (l[nEnd l + 1 + j]?).map fun c => .str [c] := ixS (n := nEnd l + 1 + j) hl
  have done : ¬ (j < jEnd l) → j = jEnd l := fun z => Nat.le_antisymm hj (Nat.le_of_not_lt z)
  have fin : j = jEnd l → if 1 < (nEnd l : Int) + 1 + (j : Int) - (nEnd l : Int) then
      if (nEnd l : Int) + 1 + (j : Int) - (nEnd l : Int) ≤ 10 then
        OkO ((l[nEnd l + 1]?).map fun c => IV.str [c]) fun d =>
          OkO (cmpD COp.ne d (IV.str [48])) fun t =>
            if t = true then (nEnd l : Int) + 1 + (j : Int) = (mEnd l : Int) else (nEnd l : Int) = (mEnd l : Int)
      else (nEnd l : Int) = (mEnd l : Int)
    else (nEnd l : Int) = (mEnd l : Int) := by
    intro ej
    by_cases h1 : 1 ≤ j
    · rw [if_pos (by omega)]
      have h0 := (jEnd_lt (l := l) (j := 0) (Nat.zero_le _)).mp (by omega)
      obtain ⟨_, _, c, hc, _⟩ := h0
      have hc : l[nEnd l + 1]? = some c := hc
      by_cases h2 : j ≤ 9
      · rw [if_pos (by omega), hc]
        simp
        by_cases h3 : c = 48
        · rw [if_pos h3, show mEnd l = nEnd l from if_neg fun z => z.2.2 (by rw [hc, h3])]
        · rw [if_neg h3, show mEnd l = nEnd l + 1 + jEnd l from if_pos ⟨by omega, by omega, by rw [hc]; simpa using h3⟩]
          omega
      · rw [if_neg (by omega), show mEnd l = nEnd l from if_neg fun z => h2 (by omega)]
    · rw [if_neg (by omega), show mEnd l = nEnd l from if_neg fun z => h1 (by omega)]
  simp [sl, f_lenS hl, i1, i2, mutsOf, take_one]
  by_cases h1 : 0 < nEnd l
  case neg => rw [if_neg h1]; exact fin (done fun z => h1 (key.mp z).1)
  rw [if_pos h1]
  by_cases h2 : l[nEnd l]? = some 64
  case neg => rw [if_neg h2]; exact fin (done fun z => h2 (key.mp z).2.1)
  rw [if_pos h2]
  by_cases h3 : nEnd l + 1 + j < l.length
  case neg =>
    rw [if_neg (by omega)]
    refine fin (done fun z => h3 ?_)
    obtain ⟨_, _, c, hc, _⟩ := key.mp z
    exact (List.getElem?_eq_some_iff.mp hc).1
  rw [if_pos (by omega), List.getElem?_eq_getElem h3]
  simp
  by_cases h4 : l[nEnd l + 1 + j] ∈ DI
  · rw [if_pos h4]
    have z := key.mpr ⟨h1, h2, _, List.getElem?_eq_getElem h3, h4⟩
    exact ⟨jEnd l - (j + 1), by omega, j + 1, by omega, by omega, rfl⟩
  · rw [if_neg h4]
    refine fin (done fun z => h4 ?_)
    obtain ⟨_, _, c, hc, hd⟩ := key.mp z
    rw [List.getElem?_eq_getElem h3] at hc
    cases hc; exact hd
end K02


namespace K02
open PySem PySem.Spec PyProof.Rows L2 Mx
def isN (l : List Nat) : Bool := decide (l ≠ [] ∧ nEnd l = l.length)
def RES : List IV := [.str [109, 111, 100], .str [109, 97, 99, 114, 111], .str w_3, .str [114, 101, 112, 101, 97, 116], .str w_4, .str [105, 102], .str [105, 102, 115, 97, 109, 101], .str [101, 108, 115, 101], .str [101, 110, 100, 105, 102], .str [115, 101, 116], .str w_5,
  .str [98, 121, 116, 101], .str [119, 111, 114, 100], .str [108, 111, 110, 103], .str [116, 101, 120, 116], .str [115, 112, 97, 99, 101], .str [97, 108, 105, 103, 110], .str [115, 99, 111, 112, 101], .str w_6, .str [101, 120, 112, 111, 114, 116], .str [105, 109, 112, 111, 114, 116]]
def isR (l : List Nat) : Bool := RES.any fun y => eqF y (.str l)
def isP (l : List Nat) : Bool := decide (l ≠ [] ∧ mEnd l = l.length)
def isU (l : List Nat) : Bool := match l with
  | [] => false
  | c :: r => if c = 46 then isN r else decide ((TL.spl [46] 0 [] (c :: r)).length ≤ 8) && (TL.spl [46] 0 [] (c :: r)).all isP
def isT : IV → Bool
  | .str _ => true
  | _ => false
theorem r_is_name {N k : Nat} (l : List Nat) (hN : l.length + 100 ≤ N) (hl : l.length ≤ SZ) : OkF (runF T.fns N (k + 2) 2 [.str l]) fun d ms => d = .bl (isN l) ∧ ms = [.non] := by
  refine okF_run (fn := f_is_name) rfl rfl ?_
  simp only [f_is_name, b_is_name, Fn.start, startA]
  have i1 : isiD (.str l) "str" = some true := rfl
  simp [i1, f_lenS hl, mutsOf, isN]
  by_cases h : l = []
  · subst h
    simp
  · simp [h]
    refine (r_name_end (by omega) l hl).mono fun d ms ⟨e1, e2⟩ => ?_
    subst e1; subst e2
    simp [f_lenS hl, mutsOf, h]
    omega
theorem r_is_reserved {N k : Nat} (l : List Nat) : OkF (runF T.fns N (k + 1) 3 [.str l]) fun d ms => d = .bl (isR l) ∧ ms = [.non] := by
  refine okF_run (fn := f_is_reserved) rfl rfl ?_
  simp only [f_is_reserved, b_is_reserved, Fn.start, startA]
  have i1 : isiD (.str l) "str" = some true := rfl
  have i2 : cmpD .isin (.str l) (.tup RES) = some (isR l) := rfl
  have i3 : ∀ x, x = RES → cmpD .isin (.str l) (.tup x) = some (isR l) := fun x e => by rw [e]; exact i2
  simp [i1, mutsOf]
  show OkO (cmpD .isin (.str l) (.tup RES)) _
  rw [i2]
  rfl
theorem spl_len : ∀ (r acc : List Nat) (n : List Nat), n ∈ TL.spl [46] 0 acc r → n.length ≤ acc.length + r.length
  | [], acc, n, h => by
    rw [TL.spl_nil] at h
    cases List.mem_singleton.mp h
    omega
  | c :: r, acc, n, h => by
    cases hp : TL.pre [46] (c :: r) with
    | true =>
      rw [TL.spl_hit hp] at h
      rcases List.mem_cons.mp h with z | z
      · rw [z]; omega
      · have := spl_len r [] n z
        rw [List.length_nil] at this
        rw [List.length_cons]; omega
    | false =>
      rw [TL.spl_miss hp] at h
      have := spl_len r (acc ++ [c]) n h
      rw [List.length_append, List.length_singleton] at this
      rw [List.length_cons]; omega
theorem spl_cnt : ∀ (r acc : List Nat), (TL.spl [46] 0 acc r).length ≤ r.length + 1
  | [], acc => by rw [TL.spl_nil]; exact Nat.le_refl _
  | c :: r, acc => by
    cases hp : TL.pre [46] (c :: r) with
    | true =>
      rw [TL.spl_hit hp]
      have := spl_cnt r []
      rw [List.length_cons, List.length_cons]
      exact Nat.succ_le_succ this
    | false =>
      rw [TL.spl_miss hp]
      have := spl_cnt r (acc ++ [c])
      rw [List.length_cons]; omega
theorem bools_map {ns : List (List Nat)} {p : List Nat → Bool} : bools (ns.map fun n => IV.bl (p n)) = some (ns.map p) := by
  induction ns with
  | nil => rfl
  | cons n ns ih =>
    show (bools (ns.map fun n => IV.bl (p n))).map (p n :: ·) = _
    rw [ih]
    rfl
/-- of a name in a list of names -/
def onS (p : List Nat → Bool) : IV → IV
  | .str l => .bl (p l)
  | _ => .non
theorem r_is_used {N k : Nat} (l : List Nat) (hN : l.length + 100 ≤ N) (hl : l.length + 2 ≤ SZ) : OkF (runF T.fns N (k + 3) 4 [.str l]) fun d ms => d = .bl (isU l) ∧ ms = [.non] := by
  refine okF_run (fn := f_is_used) rfl rfl ?_
  simp only [f_is_used, b_is_used, Fn.start, startA]
  have i1 : isiD (.str l) "str" = some true := rfl
  cases l with
  | nil => simp [i1, mutsOf, isU]
  | cons c r =>
    have hl' : (c :: r).length ≤ SZ := by omega
    have i0 : ixD (.str (c :: r)) (.int 0) = some (.str [c]) := ixS (n := 0) hl'
    simp [i1, mutsOf, i0]
    by_cases hc : c = 46
    · rw [if_pos hc]
      have sl : slD (.str (c :: r)) (some 1) none = some (.str r) := by
        show (if (c :: r).length ≤ SZ then some (IV.str (cutL (c :: r) (some 1) none)) else none) = _
        rw [if_pos hl']
        congr 2
        unfold cutL
        rw [HT.sIx_none, show HT.sIx (c :: r).length 0 (some 1) = min 1 (c :: r).length from HT.sIx_nat _ _ 1, Nat.min_eq_left (by simp)]
        simp
      simp [sl]
      refine (r_is_name r (by simp at hN; omega) (by simp at hl; omega)).mono fun d ms ⟨e1, e2⟩ => ?_
      subst e1; subst e2
      simp [mutsOf, isU, hc]
    · rw [if_neg hc]
      have sp : mtD .split (.str (c :: r)) [.str [46]] = some (.lst ((TL.spl [46] 0 [] (c :: r)).map .str)) := if_pos ⟨by simp, rfl, hl⟩
      simp [sp, f_lenL, mutsOf, isU, hc]
      generalize hns : TL.spl [46] 0 [] (c :: r) = ns
      by_cases h8 : (ns.length : Int) ≤ 8
      · rw [if_pos h8]
        refine ok_map1 (onS isP) rfl rfl ?_ (fun ρ Q => rfl) ?_ ?_
        · rw [List.length_map, ← hns]
          have := spl_cnt (c :: r) []
          omega
        · intro x hx
          obtain ⟨n, hn, rfl⟩ := List.mem_map.mp hx
          have nl : n.length ≤ (c :: r).length := by
            have := spl_len (c :: r) [] n (by rw [hns]; exact hn)
            simpa using this
          simp [onS, isP]
          by_cases hn0 : n = []
          · simp [hn0]
          · simp [hn0]
            refine (r_made_end n (by omega) (by omega)).mono fun d ms ⟨e1, e2⟩ => ?_
            subst e1; subst e2
            simp [f_lenS (show n.length ≤ SZ by omega)]
            omega
        · have hb : fnD .all [.lst ((ns.map IV.str).map (onS isP))] = some (.bl ((ns.map isP).all id)) := by
            show ((bools ((ns.map IV.str).map (onS isP))).map fun bs => IV.bl (bs.all id)) = _
            rw [List.map_map, show (onS isP ∘ IV.str) = fun n => IV.bl (isP n) from rfl, bools_map]
            rfl
          simp only [hb]
          simp [mutsOf]
          omega
      · rw [if_neg h8]
        have : ¬ (ns.length ≤ 8) := by omega
        trace_state
        simp [this]
end K02


namespace K02
open PySem PySem.Spec PyProof.Rows L2 Mx
/-! ### plain laws of names -/
theorem sg_eq : LE ++ DI = SG := by decide +kernel
theorem at_nsg : (64 : Nat) ∉ SG := by decide +kernel
theorem at_nle : (64 : Nat) ∉ LE := by decide +kernel
theorem runN_all : ∀ (n : Nat) (l : List Nat), runN n l = l.length ↔ l.length ≤ n ∧ ∀ c ∈ l, c ∈ SG
  | 0, [] => by simp [runN]
  | 0, c :: r => by simp [runN]
  | n + 1, [] => by simp [runN]
  | n + 1, c :: r => by
    have z := runN_all n r
    unfold runN
    by_cases hc : c ∈ SG
    · rw [if_pos hc, List.length_cons, Nat.add_right_cancel_iff, z]
      simp only [List.length_cons, List.mem_cons, forall_eq_or_imp, Nat.add_le_add_iff_right]
      exact ⟨fun h => ⟨h.1, hc, h.2⟩, fun h => ⟨h.1, h.2.2⟩⟩
    · rw [if_neg hc]
      constructor
      · intro h; cases h
      · intro h; exact absurd (h.2 c List.mem_cons_self) hc
theorem isN_iff (l : List Nat) : isN l = true ↔ (1 ≤ l.length ∧ l.length ≤ 40) ∧ (∀ c ∈ l, c ∈ SG) ∧ ∃ c, l[0]? = some c ∧ c ∈ LE := by
  unfold isN
  rw [decide_eq_true_eq]
  cases l with
  | nil => simp
  | cons c r =>
    by_cases hc : c ∈ LE
    · rw [show nEnd (c :: r) = runN 40 (c :: r) from if_pos hc, runN_all]
      exact ⟨fun h => ⟨⟨by simp, h.2.1⟩, h.2.2, c, rfl, hc⟩, fun h => ⟨by simp, h.1.2, h.2.1⟩⟩
    · rw [show nEnd (c :: r) = 0 from if_neg hc]
      constructor
      · intro h; exact absurd h.2 (by simp)
      · rintro ⟨_, _, d, hd, h⟩; cases hd; exact absurd h hc
theorem runN_app : ∀ (n : Nat) (x y : List Nat), runN n (x ++ 64 :: y) = runN n x
  | 0, x, y => by simp [runN]
  | n + 1, [], y => by
    show (if (64 : Nat) ∈ SG then _ else 0) = 0
    rw [if_neg at_nsg]
  | n + 1, c :: r, y => by
    show (if c ∈ SG then runN n (r ++ 64 :: y) + 1 else 0) = if c ∈ SG then runN n r + 1 else 0
    rw [runN_app n r y]
theorem nEnd_app (x y : List Nat) : nEnd (x ++ 64 :: y) = nEnd x := by
  cases x with
  | nil =>
    show (if (64 : Nat) ∈ LE then runN 40 (64 :: y) else 0) = 0
    rw [if_neg at_nle]
  | cons c r =>
    show (if c ∈ LE then runN 40 (c :: r ++ 64 :: y) else 0) = if c ∈ LE then runN 40 (c :: r) else 0
    rw [runN_app]
theorem dRun_all : ∀ l : List Nat, dRun l = l.length ↔ ∀ c ∈ l, c ∈ DI
  | [] => by simp [dRun]
  | c :: r => by
    have z := dRun_all r
    unfold dRun
    by_cases hc : c ∈ DI
    · rw [if_pos hc, List.length_cons, Nat.add_right_cancel_iff, z]
      simp only [List.mem_cons, forall_eq_or_imp]
      exact ⟨fun h => ⟨hc, h⟩, fun h => h.2⟩
    · rw [if_neg hc]
      constructor
      · intro h; cases h
      · intro h; exact absurd (h c List.mem_cons_self) hc
theorem isP_no {l : List Nat} (h : 64 ∉ l) : isP l = isN l := by
  have hj : jEnd l = 0 := if_neg fun z => h (List.mem_of_getElem? z.2)
  have hm : mEnd l = nEnd l := if_neg fun z => by rw [hj] at z; exact absurd z.1 (by decide)
  unfold isP isN
  rw [hm]
theorem isP_at {x y : List Nat} (h : 64 ∉ x) : isP (x ++ 64 :: y) = true ↔ isN x = true ∧ (1 ≤ y.length ∧ y.length ≤ 9) ∧ (∀ c ∈ y, c ∈ DI) ∧ y[0]? ≠ some 48 := by
  have ne : nEnd (x ++ 64 :: y) = nEnd x := nEnd_app x y
  have le := (nEnd_le x).2
  have ln : (x ++ 64 :: y).length = x.length + 1 + y.length := by simp; omega
  have hP : isP (x ++ 64 :: y) = true ↔ mEnd (x ++ 64 :: y) = (x ++ 64 :: y).length := by
    unfold isP; rw [decide_eq_true_eq]; simp
  rw [hP, ln]
  by_cases hx : nEnd x = x.length ∧ x ≠ []
  · obtain ⟨hx, hx0⟩ := hx
    have pos : 0 < x.length := List.length_pos_iff.mpr hx0
    have g1 : (x ++ 64 :: y)[x.length]? = some 64 := by rw [List.getElem?_append_right (Nat.le_refl _), Nat.sub_self]; rfl
    have g2 : (x ++ 64 :: y)[x.length + 1]? = y[0]? := by rw [List.getElem?_append_right (by omega), show x.length + 1 - x.length = 0 + 1 from by omega, List.getElem?_cons_succ]
    have dr : (x ++ 64 :: y).drop (x.length + 1) = y := by rw [← List.drop_drop, List.drop_left]; rfl
    have hj : jEnd (x ++ 64 :: y) = dRun y := by
      unfold jEnd
      rw [ne, hx, dr, if_pos ⟨pos, g1⟩]
    have dl := dRun_le y
    have hN : isN x = true := by unfold isN; rw [decide_eq_true_eq]; exact ⟨hx0, hx⟩
    unfold mEnd
    rw [hj, ne, hx, g2]
    by_cases hc : 1 ≤ dRun y ∧ dRun y ≤ 9 ∧ y[0]? ≠ some 48
    · rw [if_pos hc, ← dRun_all]
      constructor
      · intro e
        have e : dRun y = y.length := by omega
        exact ⟨hN, ⟨by omega, by omega⟩, e, hc.2.2⟩
      · rintro ⟨_, _, e, _⟩
        rw [e]
    · rw [if_neg hc, ← dRun_all]
      constructor
      · intro e; omega
      · rintro ⟨_, ⟨h1, h2⟩, e, h3⟩
        exact absurd ⟨by omega, by omega, h3⟩ hc
  · have hN : isN x = false := by
      unfold isN
      rw [decide_eq_false_iff_not]
      exact fun z => hx ⟨z.2, z.1⟩
    have hj : jEnd (x ++ 64 :: y) = 0 := by
      refine if_neg fun z => ?_
      rw [ne] at z
      by_cases hl : nEnd x < x.length
      · rw [List.getElem?_append_left hl] at z
        exact h (List.mem_of_getElem? z.2)
      · refine hx ⟨by omega, fun e => ?_⟩
        rw [e] at z
        exact absurd z.1 (by decide)
    have hm : mEnd (x ++ 64 :: y) = nEnd x := by
      unfold mEnd
      rw [hj, if_neg (fun z => absurd z.1 (by decide)), ne]
    rw [hm, hN]
    constructor
    · intro e; omega
    · intro z; cases z.1
/-! ### the law's own defs -/
theorem r_letters {N k : Nat} : OkF (runF T.fns N (k + 1) 9 []) fun d ms => d = .str LE ∧ ms = [] := by
  refine okF_run (fn := f__law_letters) rfl rfl ?_
  simp [f__law_letters, b__law_letters, Fn.start, startA, mutsOf]
def sgB (p : Nat → Bool) : IV → Bool
  | .str [c] => p c
  | _ => false
theorem filt {l : List Nat} (p : Nat → Bool) : (l.map fun c => IV.str [c]).filter (sgB p) = (l.filter p).map fun c => IV.str [c] := by
  rw [List.filter_map]
  rfl
theorem filt_len {l : List Nat} {S : List Nat} : ((l.filter fun c => decide (c ∈ S)).length = l.length) ↔ ∀ c ∈ l, c ∈ S := by
  rw [List.length_filter_eq_length_iff]
  simp
theorem r_law_is_name {N k : Nat} (l : List Nat) (hl : l.length ≤ SZ) : OkF (runF T.fns N (k + 2) 10 [.str l]) fun d ms => d = .bl (isN l) ∧ ms = [.non] := by
  refine okF_run (fn := f__law_is_name) rfl rfl ?_
  simp only [f__law_is_name, b__law_is_name, Fn.start, startA]
  simp
  refine ok_filter1 (sgB fun c => decide (c ∈ SG)) rfl rfl (by rw [List.length_map]; exact hl) ?_ ?_ ?_
  · intro x hx
    obtain ⟨c, _, rfl⟩ := List.mem_map.mp hx
    simp
    refine r_letters.mono fun d ms ⟨e1, e2⟩ => ?_
    subst e1; subst e2
    have e : binD .add (.str LE) (.str w_2) = some (.str SG) := by rw [b_addS (by decide)]; rw [← sg_eq]
    simp [e, sgB]
  · intro x hx
    simp
  · rw [filt]
    simp [f_lenS hl, mutsOf]
    have no : (isN l = true → False) → isN l = false := fun h => by
      cases e : isN l with
      | false => rfl
      | true => exact (h e).elim
    have key := isN_iff l
    by_cases h1 : 1 ≤ l.length
    case neg => rw [if_neg (by omega)]; exact no fun z => h1 (key.mp z).1.1
    rw [if_pos (by omega)]
    by_cases h2 : l.length ≤ 40
    case neg => rw [if_neg (by omega)]; exact no fun z => h2 (key.mp z).1.2
    rw [if_pos (by omega)]
    by_cases h3 : (l.filter fun c => decide (c ∈ SG)).length = l.length
    case neg => rw [if_neg (by omega)]; exact no fun z => h3 (filt_len.mpr (key.mp z).2.1)
    rw [if_pos (by omega)]
    have h0 : 0 < l.length := by omega
    have i0 : ixD (.str l) (.int 0) = some (.str [l[0]]) := by rw [show (0 : Int) = ((0 : Nat) : Int) from rfl, ixS hl, List.getElem?_eq_getElem h0]; rfl
    rw [i0]
    simp
    refine r_letters.mono fun d ms ⟨e1, e2⟩ => ?_
    subst e1; subst e2
    simp
    by_cases h4 : l[0] ∈ LE
    · rw [decide_eq_true h4, key.mpr ⟨⟨h1, h2⟩, filt_len.mp h3, _, List.getElem?_eq_getElem h0, h4⟩]
    · rw [decide_eq_false h4, no fun z => ?_]
      obtain ⟨_, _, c, hc, h⟩ := key.mp z
      rw [List.getElem?_eq_getElem h0] at hc
      cases hc; exact h4 h
theorem tg3 {ρ : List Sl} {x y z : IV} {i j k : Nat} {Q : Unit → List Sl → Prop} : Ok (rTg [i, j, k] (.tup [x, y, z]) ρ) Q = Q () (((ρ.set i (.i x)).set j (.i y)).set k (.i z)) := rfl
theorem r_law_is_part {N k : Nat} (l : List Nat) (hl : l.length ≤ SZ) : OkF (runF T.fns N (k + 3) 11 [.str l]) fun d ms => d = .bl (isP l) ∧ ms = [.non] := by
  refine okF_run (fn := f__law_is_part) rfl rfl ?_
  simp only [f__law_is_part, b__law_is_part, Fn.start, startA]
  by_cases hm : 64 ∈ l
  · obtain ⟨x, y, rfl, hx⟩ := List.eq_append_cons_of_mem hm
    have xl : x.length ≤ SZ := by rw [List.length_append] at hl; omega
    have yl : y.length ≤ SZ := by rw [List.length_append, List.length_cons] at hl; omega
    have pt : mtD .part (.str (x ++ 64 :: y)) [.str [64]] = some (.tup [.str x, .str [64], .str y]) := by
      have e := TL.par_part1 (s := 64) (S := []) (p := x) (rest := y) (acc := []) hx
      rw [List.nil_append] at e
      show (if ([64] : List Nat) ≠ [] ∧ (x ++ 64 :: y).length ≤ SZ then (match TL.par [64] [] (x ++ 64 :: y) with | some (x, y) => some (IV.tup [.str x, .str [64], .str y]) | none => some (.tup [.str (x ++ 64 :: y), .str [], .str []])) else none) = _
      rw [if_pos ⟨by simp, hl⟩, show x ++ 64 :: y = x ++ ([64] ++ y) from rfl, e]
    simp [pt, tg3]
    refine ok_filter1 (sgB fun c => decide (c ∈ DI)) rfl rfl (by rw [List.length_map]; exact yl) ?_ ?_ ?_
    · intro z hz
      obtain ⟨c, _, rfl⟩ := List.mem_map.mp hz
      simp [sgB]
    · intro z hz
      simp
    rw [filt]
    simp
    refine (r_law_is_name x xl).mono fun d ms ⟨e1, e2⟩ => ?_
    subst e1; subst e2
    have key := isP_at (y := y) hx
    have no : (isP (x ++ 64 :: y) = true → False) → isP (x ++ 64 :: y) = false := fun h => by
      cases e : isP (x ++ 64 :: y) with
      | false => rfl
      | true => exact (h e).elim
    simp [f_lenS yl, mutsOf]
    cases hN : isN x with
    | false =>
      simp
      exact no fun z => by rw [key] at z; rw [hN] at z; exact absurd z.1 (by decide)
    | true =>
      simp
      by_cases h1 : 1 ≤ y.length
      case neg => rw [if_neg (by omega)]; exact no fun z => h1 (key.mp z).2.1.1
      rw [if_pos (by omega)]
      by_cases h2 : y.length ≤ 9
      case neg => rw [if_neg (by omega)]; exact no fun z => h2 (key.mp z).2.1.2
      rw [if_pos (by omega)]
      by_cases h3 : (y.filter fun c => decide (c ∈ DI)).length = y.length
      case neg => rw [if_neg (by omega)]; exact no fun z => h3 (filt_len.mpr (key.mp z).2.2.1)
      rw [if_pos (by omega)]
      have h0 : 0 < y.length := by omega
      have i0 : ixD (.str y) (.int 0) = some (.str [y[0]]) := by rw [show (0 : Int) = ((0 : Nat) : Int) from rfl, ixS yl, List.getElem?_eq_getElem h0]; rfl
      rw [i0]
      simp
      by_cases h4 : y[0] = 48
      · rw [decide_eq_true h4, no fun z => ?_]
        · rfl
        · exact (key.mp z).2.2.2 (by rw [List.getElem?_eq_getElem h0, h4])
      · rw [decide_eq_false h4, key.mpr ⟨hN, ⟨h1, h2⟩, filt_len.mp h3, by rw [List.getElem?_eq_getElem h0]; simpa using h4⟩]
        rfl
  · have pt : mtD .part (.str l) [.str [64]] = some (.tup [.str l, .str [], .str []]) := by
      have e := TL.par_none1 (s := 64) (S := []) (p := l) (acc := []) hm
      show (if ([64] : List Nat) ≠ [] ∧ l.length ≤ SZ then (match TL.par [64] [] l with | some (x, y) => some (IV.tup [.str x, .str [64], .str y]) | none => some (.tup [.str l, .str [], .str []])) else none) = _
      rw [if_pos ⟨by simp, hl⟩, e]
    simp [pt, tg3]
    refine (r_law_is_name l hl).mono fun d ms ⟨e1, e2⟩ => ?_
    subst e1; subst e2
    simp [mutsOf, isP_no hm]
theorem r_reserved {N k : Nat} : OkF (runF T.fns N (k + 1) 13 []) fun d ms => d = .lst RES ∧ ms = [] := by
  refine okF_run (fn := f__law_reserved) rfl rfl ?_
  simp [f__law_reserved, b__law_reserved, Fn.start, startA, mutsOf, SZ, b_addL]
  rfl
theorem r_law_is_used {N k : Nat} (l : List Nat) (hl : l.length + 2 ≤ SZ) : OkF (runF T.fns N (k + 4) 12 [.str l]) fun d ms => d = .bl (isU l) ∧ ms = [.non] := by
  refine okF_run (fn := f__law_is_used) rfl rfl ?_
  simp only [f__law_is_used, b__law_is_used, Fn.start, startA]
  have hl' : l.length ≤ SZ := by omega
  have s1 : slD (.str l) none (some 1) = some (.str (l.take 1)) := by
    show (if l.length ≤ SZ then some (IV.str (cutL l none (some 1))) else none) = _
    rw [if_pos hl']
    congr 2
    unfold cutL
    rw [HT.sIx_none, show HT.sIx l.length l.length (some 1) = min 1 l.length from HT.sIx_nat _ _ 1]
    simp
  simp [s1]
  by_cases hc : l.take 1 = [46]
  · rw [if_pos hc]
    obtain ⟨r, rfl⟩ : ∃ r, l = 46 :: r := by
      cases l with
      | nil => cases hc
      | cons c r => simp at hc; exact ⟨r, by rw [hc]⟩
    have sl : slD (.str (46 :: r)) (some 1) none = some (.str r) := by
      show (if (46 :: r).length ≤ SZ then some (IV.str (cutL (46 :: r) (some 1) none)) else none) = _
      rw [if_pos hl']
      congr 2
      unfold cutL
      rw [HT.sIx_none, show HT.sIx (46 :: r).length 0 (some 1) = min 1 (46 :: r).length from HT.sIx_nat _ _ 1, Nat.min_eq_left (by simp)]
      simp
    simp [sl]
    refine (r_law_is_name r (by simp at hl; omega)).mono fun d ms ⟨e1, e2⟩ => ?_
    subst e1; subst e2
    simp [mutsOf, isU]
  · rw [if_neg hc]
    have sp : mtD .split (.str l) [.str [46]] = some (.lst ((TL.spl [46] 0 [] l).map .str)) := if_pos ⟨by simp, rfl, hl⟩
    have hU : isU l = (decide ((TL.spl [46] 0 [] l).length ≤ 8) && (TL.spl [46] 0 [] l).all isP) := by
      cases l with
      | nil => rfl
      | cons c r => exact if_neg fun z => hc (by rw [z]; rfl)
    rw [hU]
    simp [sp, mutsOf]
    generalize hns : TL.spl [46] 0 [] l = ns
    by_cases h8 : (ns.length : Int) ≤ 8
    · rw [if_pos h8]
      refine ok_map1 (onS isP) rfl rfl ?_ (fun ρ Q => rfl) ?_ ?_
      · rw [List.length_map, ← hns]
        have := spl_cnt l []
        omega
      · intro x hx
        obtain ⟨n, hn, rfl⟩ := List.mem_map.mp hx
        have nl : n.length ≤ l.length := by
          have := spl_len l [] n (by rw [hns]; exact hn)
          simpa using this
        simp [onS]
        refine (r_law_is_part n (by omega)).mono fun d ms ⟨e1, e2⟩ => ?_
        subst e1; subst e2
        simp
      · have hb : fnD .all [.lst ((ns.map IV.str).map (onS isP))] = some (.bl ((ns.map isP).all id)) := by
          show ((bools ((ns.map IV.str).map (onS isP))).map fun bs => IV.bl (bs.all id)) = _
          rw [List.map_map, show (onS isP ∘ IV.str) = fun n => IV.bl (isP n) from rfl, bools_map]
          rfl
        simp only [hb]
        simp [mutsOf]
        omega
    · rw [if_neg h8]
      have : ¬ (ns.length ≤ 8) := by omega
      simp [this]
def bs3 (a b c : Bool) : IV := .lst [.bl a, .bl b, .bl c]
theorem repr3 (a b c : Bool) : ∃ t, fnD .repr [bs3 a b c] = some (.str t) := by
  have z : (reprD (bs3 a b c)).isSome = true := by cases a <;> cases b <;> cases c <;> decide +kernel
  obtain ⟨t, et⟩ := Option.isSome_iff_exists.mp z
  exact ⟨t, by show (reprD (bs3 a b c)).map IV.str = _; rw [et]; rfl⟩
theorem r_right {N k : Nat} (l : List Nat) (hN : l.length + 100 ≤ N) (hl : l.length + 2 ≤ SZ) : OkF (runF T.fns N (k + 5) 16 [.str l]) fun d ms => d = .bl true ∧ ms = [.non] := by
  refine okF_run (fn := f__law_right) rfl rfl ?_
  simp only [f__law_right, b__law_right, Fn.start, startA]
  have hl' : l.length ≤ SZ := by omega
  simp
  refine (r_law_is_name l hl').mono fun d ms ⟨e1, e2⟩ => ?_
  subst e1; subst e2
  simp
  refine r_reserved.mono fun d ms ⟨e1, e2⟩ => ?_
  subst e1; subst e2
  have i2 : cmpD .isin (.str l) (.lst RES) = some (isR l) := rfl
  simp [i2]
  refine (r_law_is_used l hl).mono fun d ms ⟨e1, e2⟩ => ?_
  subst e1; subst e2
  simp [SZ]
  refine (r_is_name l hN hl').mono fun d ms ⟨e1, e2⟩ => ?_
  subst e1; subst e2
  simp
  refine (r_is_reserved l).mono fun d ms ⟨e1, e2⟩ => ?_
  subst e1; subst e2
  simp
  refine (r_is_used l hN hl).mono fun d ms ⟨e1, e2⟩ => ?_
  subst e1; subst e2
  simp [SZ]
  refine (r_is_name l hN hl').mono fun d ms ⟨e1, e2⟩ => ?_
  subst e1; subst e2
  refine (r_is_reserved l).mono fun d ms ⟨e1, e2⟩ => ?_
  subst e1; subst e2
  refine (r_is_used l hN hl).mono fun d ms ⟨e1, e2⟩ => ?_
  subst e1; subst e2
  obtain ⟨t, et⟩ := repr3 (isN l) (isR l) (isU l)
  have et : fnD .repr [.lst [.bl (isN l), .bl (isR l), .bl (isU l)]] = some (.str t) := et
  simp [et, mutsOf]
end K02


namespace K02
open PySem PySem.Spec PyProof.Rows L2 Mx
theorem seqR_ok {z : Int} (h0 : 0 ≤ z) (h1 : z < 2 ^ 62) : seqR (.int z) = some ((List.range z.toNat).map fun i => .int (i : Nat)) := if_pos ⟨by omega, h1⟩
theorem len_range {z : Int} : ((List.range z.toNat).map fun i => IV.int (i : Nat)).length = z.toNat := by rw [List.length_map, List.length_range]
theorem sl_to {l : List Nat} {a : Nat} (h : l.length ≤ SZ) : slD (.str l) none (some (a : Int)) = some (.str (l.take a)) := by
  show (if l.length ≤ SZ then some (IV.str (cutL l none (some (a : Int)))) else none) = _
  rw [if_pos h]
  congr 2
  unfold cutL
  rw [HT.sIx_none, HT.sIx_nat, List.drop_zero, Nat.sub_zero]
  by_cases ha : a ≤ l.length
  · rw [Nat.min_eq_left ha]
  · rw [Nat.min_eq_right (by omega), List.take_of_length_le (Nat.le_refl _), List.take_of_length_le (by omega)]
theorem sl_from {l : List Nat} {a : Nat} (h : l.length ≤ SZ) : slD (.str l) (some (a : Int)) none = some (.str (l.drop a)) := by
  show (if l.length ≤ SZ then some (IV.str (cutL l (some (a : Int)) none)) else none) = _
  rw [if_pos h]
  congr 2
  unfold cutL
  rw [HT.sIx_none, HT.sIx_nat]
  by_cases ha : a ≤ l.length
  · rw [Nat.min_eq_left ha, List.take_of_length_le (by rw [List.length_drop]; omega)]
  · rw [Nat.min_eq_right (by omega), List.drop_of_length_le (show l.length ≤ a by omega), List.drop_of_length_le (Nat.le_refl l.length)]
    simp
theorem r_word {N k n : Nat} {s : IV} (hs : St n s) (hn : n < 2 ^ 38) : OkF (runF T.fns N (k + 4) 14 [s]) fun d ms => ∃ l s', d = .str l ∧ l.length ≤ 60 ∧ ms = [s'] ∧ St (n + 100) s' := by
  refine okF_run (fn := f__law_word) rfl rfl ?_
  simp only [f__law_word, b__law_word, Fn.start, startA]
  refine ok_step fun K hK hR => ?_
  simp
  refine (r_draw hs (by omega) (by decide) (by decide)).mono fun d ms ⟨v, s1, e1, v0, v1, e2, hs1⟩ => ?_
  subst e1; subst e2
  simp [SZ]
  refine (r_pick hs1 (by omega) (by simp) (by simp)).mono fun d ms ⟨hd, s2, e2, hs2⟩ => ?_
  subst e2
  obtain ⟨z, rfl, z0, z1⟩ : ∃ z : Int, d = .int z ∧ 1 ≤ z ∧ z ≤ 44 := by
    simp at hd
    rcases hd with h | h | h | h | h | h | h | h <;> exact ⟨_, h, by omega, by omega⟩
  simp
  refine hK _ ?_
  clear hK hR K
  refine ok_step fun K hK hR => ?_
  rw [okS_asg, okE_mt]
  simp [seqR_ok (show 0 ≤ z by omega) (show z < 2 ^ 62 by omega)]
  refine ok_list rfl (by rw [len_range]; show z.toNat ≤ 16777216; omega) ?_
  refine ok_comp (fun j acc ρ => ∃ s', ρ = [.b s', .i (.int z), .e, .e, .e] ∧ St (n + 2 + j) s' ∧ Txs 1 acc ∧ acc.length = j) _ 0 [] ⟨s2, rfl, hs2, .nil, rfl⟩ ?_ ?_
  · rintro j x acc ρ hx ⟨s', rfl, hs', ha, hl⟩
    have hj : j < 44 := by
      have := (List.getElem?_eq_some_iff.mp hx).1
      rw [len_range] at this
      omega
    simp
    refine (r_pick (xs := (w_7).map fun c => IV.str [c]) hs' (by omega) (by decide) (by decide)).mono fun d ms ⟨hd, s3, e2, hs3⟩ => ?_
    subst e2
    obtain ⟨c, _, rfl⟩ := List.mem_map.mp hd
    simp [clear]
    exact ⟨hs3.mono (by omega), ha.snoc (by simp), by omega⟩
  · rintro ys ρ ⟨s3, rfl, hs3, ha, hl⟩
    rw [len_range, Nat.zero_add] at hl hs3
    rw [List.nil_append] at ha hl
    obtain ⟨l, el, ll⟩ := join_ok (s := []) ha (by rw [hl]; show z.toNat * (1 + 0) ≤ 16777216; omega)
    simp [el, back]
    refine hK _ ?_
    clear hK hR K
    have hs3 : St (n + 46) s3 := hs3.mono (by omega)
    have ll : l.length ≤ 44 := by rw [hl] at ll; simp at ll; omega
    have lz : l.length ≤ SZ := by show l.length ≤ 16777216; omega
    refine ok_mid (fun ρ => ∃ s' l', ρ = [.b s', .i (.int z), .i (.str l'), .e, .e] ∧ St (n + 50) s' ∧ l'.length ≤ 45) ?_ ?_
    · simp
      refine (r_draw hs3 (by omega) (by decide) (by decide)).mono fun d ms ⟨v, s4, e1, v0, v1, e2, hs4⟩ => ?_
      subst e1; subst e2
      have s1' : slD (.str l) none (some 1) = some (.str (l.take 1)) := sl_to (a := 1) lz
      have s2' : slD (.str l) (some 1) none = some (.str l.tail) := by rw [← List.drop_one]; exact sl_from (a := 1) lz
      have hs4 : St (n + 50) s4 := hs4.mono (by omega)
      have ad : binD .add (.str [107]) (.str l.tail) = some (.str (107 :: l.tail)) := b_addS (by simp; show 1 + (l.length - 1) ≤ 16777216; omega)
      simp [s1', s2', SZ, flatD, ad]
      split
      · split
        · exact ⟨s4, _, ⟨rfl, rfl⟩, hs4, by simp; omega⟩
        · exact ⟨s4, l, ⟨rfl, rfl⟩, hs4, by omega⟩
      · exact ⟨s4, l, ⟨rfl, rfl⟩, hs4, by omega⟩
    · rintro ρ ⟨s4, l', rfl, hs4, hl'⟩
      have lz' : l'.length ≤ SZ := by show l'.length ≤ 16777216; omega
      refine ok_mid (fun ρ => ∃ s' l' a, ρ = [.b s', .i (.int z), .i (.str l'), .e, a] ∧ St (n + 60) s' ∧ l'.length ≤ 50) ?_ ?_
      · simp
        refine (r_draw hs4 (by omega) (by decide) (by decide)).mono fun d ms ⟨v, s5, e1, v0, v1, e2, hs5⟩ => ?_
        subst e1; subst e2
        simp [f_lenS lz']
        by_cases hv : v = 0
        · rw [if_pos hv]
          refine (r_draw (top := (l'.length : Int) + 1) hs5 (by omega) (by omega) (by omega)).mono fun d ms ⟨v, s6, e1, v0, v1, e2, hs6⟩ => ?_
          subst e1; subst e2
          obtain ⟨a, rfl⟩ : ∃ a : Nat, v = a := ⟨v.toNat, by omega⟩
          simp [sl_to lz', sl_from lz', SZ]
          refine (r_pick hs6 (by omega) (by simp) (by simp)).mono fun d ms ⟨hd, s7, e2, hs7⟩ => ?_
          subst e2
          obtain ⟨c, rfl⟩ : ∃ c, d = .str [c] := by
            simp at hd
            rcases hd with h | h | h | h | h | h | h | h <;> exact ⟨_, h⟩
          have a1 : binD .add (.str (l'.take a)) (.str [c]) = some (.str (l'.take a ++ [c])) := b_addS (by simp; show min a l'.length + 1 ≤ 16777216; omega)
          have a2 : binD .add (.str (l'.take a ++ [c])) (.str (l'.drop a)) = some (.str (l'.take a ++ [c] ++ l'.drop a)) := b_addS (by simp; show min a l'.length + 1 + (l'.length - a) ≤ 16777216; omega)
          simp [a1, sl_from lz', a2]
          exact ⟨s7, _, ⟨rfl, rfl⟩, hs7.mono (by omega), by simp; omega⟩
        · rw [if_neg hv]
          exact ⟨s5, l', ⟨rfl, rfl⟩, hs5.mono (by omega), by omega⟩
      · rintro ρ ⟨s5, l2, a, rfl, hs5, hl2⟩
        simp [mutsOf]
        exact ⟨by omega, hs5.mono (by omega)⟩
end K02


namespace K02
open PySem PySem.Spec PyProof.Rows L2 Mx
theorem o_is_name {N k : Nat} {d : IV} (h : isiD d "str" = some false) : OkF (runF T.fns N (k + 1) 2 [d]) fun d ms => d = .bl false ∧ ms = [.non] := by
  refine okF_run (fn := f_is_name) rfl rfl ?_
  simp [f_is_name, b_is_name, Fn.start, startA, h, mutsOf]
theorem o_is_reserved {N k : Nat} {d : IV} (h : isiD d "str" = some false) : OkF (runF T.fns N (k + 1) 3 [d]) fun d ms => d = .bl false ∧ ms = [.non] := by
  refine okF_run (fn := f_is_reserved) rfl rfl ?_
  simp [f_is_reserved, b_is_reserved, Fn.start, startA, h, mutsOf]
theorem o_is_used {N k : Nat} {d : IV} (h : isiD d "str" = some false) : OkF (runF T.fns N (k + 1) 4 [d]) fun d ms => d = .bl false ∧ ms = [.non] := by
  refine okF_run (fn := f_is_used) rfl rfl ?_
  simp only [f_is_used, b_is_used, Fn.start, startA]
  refine ok_step fun K hK hR => ?_
  simp [h]
  refine hR _ _ ?_
  simp [mutsOf]
theorem r_part {N k n : Nat} {s : IV} (hs : St n s) (hn : n < 2 ^ 37) : OkF (runF T.fns N (k + 5) 15 [s]) fun d ms => ∃ l s', d = .str l ∧ l.length ≤ 80 ∧ ms = [s'] ∧ St (n + 120) s' := by
  refine okF_run (fn := f__law_part) rfl rfl ?_
  simp only [f__law_part, b__law_part, Fn.start, startA]
  refine ok_mid (fun ρ => ∃ s' l, ρ = [.b s', .i (.str l), .e] ∧ St (n + 1) s' ∧ l.length ≤ 60) ?_ ?_
  · simp [SZ]
    refine (r_pick hs (by omega) (by simp) (by simp)).mono fun d ms ⟨hd, s2, e2, hs2⟩ => ?_
    subst e2
    obtain ⟨l, rfl, ll⟩ : ∃ l, d = .str l ∧ l.length ≤ 60 := by
      simp at hd
      rcases hd with h | h | h | h | h | h <;> exact ⟨_, h, by decide⟩
    simp
    exact ⟨s2, l, ⟨rfl, rfl⟩, hs2, ll⟩
  rintro ρ ⟨s1, l, rfl, hs1, ll⟩
  refine ok_mid (fun ρ => ∃ s' l, ρ = [.b s', .i (.str l), .e] ∧ St (n + 110) s' ∧ l.length ≤ 60) ?_ ?_
  · simp
    refine (r_draw hs1 (by omega) (by decide) (by decide)).mono fun d ms ⟨v, s2, e1, v0, v1, e2, hs2⟩ => ?_
    subst e1; subst e2
    simp
    by_cases hv : v = 0
    · rw [if_pos hv]
      refine (r_word hs2 (by omega)).mono fun d ms ⟨l2, s3, e1, l3, e2, hs3⟩ => ?_
      subst e1; subst e2
      simp
      exact ⟨s3, l2, ⟨rfl, rfl⟩, hs3.mono (by omega), l3⟩
    · rw [if_neg hv]
      exact ⟨s2, l, ⟨rfl, rfl⟩, hs2.mono (by omega), ll⟩
  rintro ρ ⟨s2, l, rfl, hs2, ll⟩
  refine ok_step fun K hK hR => ?_
  simp
  refine (r_draw hs2 (by omega) (by decide) (by decide)).mono fun d ms ⟨v, s3, e1, v0, v1, e2, hs3⟩ => ?_
  subst e1; subst e2
  simp
  by_cases hv : 0 < v
  · rw [if_pos hv]
    refine hR _ _ ?_
    simp [mutsOf]
    exact ⟨by omega, hs3.mono (by omega)⟩
  rw [if_neg hv]
  refine hK _ ?_
  clear hK hR K
  have a1 : binD .add (.str l) (.str [64]) = some (.str (l ++ [64])) := b_addS (by simp; show l.length + 1 ≤ 16777216; omega)
  simp [SZ, a1]
  refine (r_pick hs3 (by omega) (by simp) (by simp)).mono fun d ms ⟨hd, s4, e2, hs4⟩ => ?_
  subst e2
  obtain ⟨t, rfl, tl⟩ : ∃ t, d = .str t ∧ t.length ≤ 12 := by
    simp at hd
    rcases hd with h | h | h | h | h | h | h | h | h | h | h <;> exact ⟨_, h, by decide⟩
  have a2 : binD .add (.str (l ++ [64])) (.str t) = some (.str (l ++ [64] ++ t)) := b_addS (by simp; show l.length + 1 + t.length ≤ 16777216; omega)
  simp [a2, mutsOf]
  exact ⟨by omega, hs4.mono (by omega)⟩
theorem upper_ok {d : IV} (h : d ∈ RES) : ∃ l u, d = .str l ∧ l.length ≤ 20 ∧ mtD .upper d [] = some (.str u) ∧ u.length ≤ 20 := by
  have z : (RES.all fun d => match d with | .str l => decide (l.length ≤ 20) && (match mtD .upper d [] with | some (.str u) => decide (u.length ≤ 20) | _ => false) | _ => false) = true := by decide +kernel
  rw [List.all_eq_true] at z
  have q := z d h
  match d, q with
  | .str l, q =>
    have q : (decide (l.length ≤ 20) && (match mtD .upper (.str l) [] with | some (.str u) => decide (u.length ≤ 20) | _ => false)) = true := q
    rw [Bool.and_eq_true, decide_eq_true_eq] at q
    obtain ⟨q1, q2⟩ := q
    split at q2
    · rename_i u eu
      exact ⟨l, u, rfl, q1, eu, of_decide_eq_true q2⟩
    · cases q2
end K02


namespace K02
open PySem PySem.Spec PyProof.Rows L2 Mx
abbrev Nn : Nat := 100000
abbrev CC : CS := runF T.fns Nn 8
/-- a text of at most m signs -/
def Tx (m : Nat) (d : IV) : Prop := ∃ l, d = .str l ∧ l.length ≤ m
theorem right_ok {d : IV} (h : Tx 12000 d) : OkF (CC 16 [d]) fun e ms => e = .bl true ∧ ms = [.non] := by
  obtain ⟨l, rfl, hl⟩ := h
  exact r_right (k := 3) l (by show l.length + 100 ≤ 100000; omega) (by show l.length + 2 ≤ 16777216; omega)
theorem addTx {a b : Nat} {l m : List Nat} (hl : l.length ≤ a) (hm : m.length ≤ b) (h : a + b ≤ SZ) : ∃ r, binD .add (.str l) (.str m) = some (.str r) ∧ r.length ≤ a + b := ⟨l ++ m, b_addS (by omega), by rw [List.length_append]; omega⟩
theorem Txs.head {m : Nat} {xs : List IV} (h : Txs m xs) (h0 : 0 < xs.length) : ∃ l, xs[0]? = some (.str l) ∧ l.length ≤ m := by
  obtain ⟨ts, e, a⟩ := h
  match xs, e with
  | .str l :: r, e =>
    have e : (texts r).map (l :: ·) = some ts := e
    cases hr : texts r with
    | none => rw [hr] at e; cases e
    | some us =>
      rw [hr] at e
      cases e
      exact ⟨l, rfl, a l List.mem_cons_self⟩
/-- one turn of the inner loop -/
theorem turn_ok {n : Nat} {sc k it s : IV} {a4 a5 a6 a7 a8 a9 a10 a11 : Sl} {F : Fl → List Sl → Prop} (hs : St n s) (hn : n < 2 ^ 30) (h7 : a7.light = true) (h9 : a9.light = true)
    (hF : ∀ s' b5 b6 b7 b8 b9, St (n + 2000) s' → b7.light = true → b9.light = true → F .nx [.i sc, .i k, .i it, .o s', a4, b5, b6, b7, b8, b9, a10, a11]) :
    Ok (evSs CC Nn (match b_law with | .cons (.loop _ _ (.cons _ (.cons (.loop _ _ b) _))) _ => b | _ => .nil) [.i sc, .i k, .i it, .o s, a4, a5, a6, a7, a8, a9, a10, a11]) F := by
  simp only [b_law]
  refine ok_mid (fun ρ => ∃ s' l, ρ = [.i sc, .i k, .i it, .o s', a4, .i (.str l), a6, a7, a8, a9, a10, a11] ∧ St (n + 100) s' ∧ l.length ≤ 60) ?_ ?_
  · simp
    refine (r_word (k := 4) hs (by omega)).mono fun d ms ⟨l2, s3, e1, l3, e2, hs3⟩ => ?_
    subst e1; subst e2
    simp
    exact ⟨s3, l2, ⟨rfl, rfl⟩, hs3, l3⟩
  rintro ρ ⟨s1, l, rfl, hs1, ll⟩
  refine ok_mid (fun ρ => ∃ s' xs, ρ = [.i sc, .i k, .i it, .o s', a4, .i (.str l), .i (.lst xs), a7, a8, a9, a10, a11] ∧ St (n + 1500) s' ∧ Txs 80 xs ∧ 0 < xs.length ∧ xs.length ≤ 10) ?_ ?_
  · simp [SZ]
    refine (r_pick (k := 5) hs1 (by omega) (by simp) (by simp)).mono fun d ms ⟨hd, s2, e2, hs2⟩ => ?_
    subst e2
    obtain ⟨z, rfl, z0, z1⟩ : ∃ z : Int, d = .int z ∧ 1 ≤ z ∧ z ≤ 10 := by
      simp at hd
      rcases hd with h | h | h | h | h | h <;> exact ⟨_, h, by omega, by omega⟩
    simp [seqR_ok (show 0 ≤ z by omega) (show z < 2 ^ 62 by omega)]
    refine ok_list (by simp [light, h7]) (by rw [len_range]; show z.toNat ≤ 16777216; omega) ?_
    refine ok_comp (fun j acc ρ => ∃ s', ρ = [.i sc, .i k, .i it, .o s', a4, .i (.str l), a6, .e, a8, a9, a10, a11] ∧ St (n + 101 + 120 * j) s' ∧ Txs 80 acc ∧ acc.length = j) _ 0 [] ⟨s2, rfl, hs2, .nil, rfl⟩ ?_ ?_
    · rintro j x acc ρ hx ⟨s', rfl, hs', ha, hl⟩
      have hj : j < 10 := by
        have := (List.getElem?_eq_some_iff.mp hx).1
        rw [len_range] at this
        omega
      simp
      refine (r_part (k := 3) hs' (by omega)).mono fun d ms ⟨l2, s3, e1, l3, e2, hs3⟩ => ?_
      subst e1; subst e2
      simp [clear]
      exact ⟨hs3.mono (by omega), ha.snoc l3, by omega⟩
    · rintro ys ρ ⟨s3, rfl, hs3, ha, hl⟩
      rw [len_range, Nat.zero_add] at hl hs3
      rw [List.nil_append] at ha hl
      simp [back]
      exact ⟨s3, ys, ⟨rfl, rfl⟩, hs3.mono (by omega), ha, by omega, by omega⟩
  rintro ρ ⟨s2, xs, rfl, hs2, hxs, x0, x1⟩
  refine ok_mid (fun ρ => ∃ s' d, ρ = [.i sc, .i k, .i it, .o s', a4, .i (.str l), .i (.lst xs), a7, .i d, a9, a10, a11] ∧ St (n + 1510) s' ∧ d ∈ RES) ?_ ?_
  · simp
    refine (r_reserved (k := 7)).mono fun d ms ⟨e1, e2⟩ => ?_
    subst e1; subst e2
    refine (r_pick (k := 5) hs2 (by omega) (by decide) (by decide)).mono fun d ms ⟨hd, s3, e2, hs3⟩ => ?_
    subst e2
    simp
    exact ⟨s3, d, ⟨rfl, rfl⟩, hs3.mono (by omega), hd⟩
  rintro ρ ⟨s3, d, rfl, hs3, hd⟩
  obtain ⟨w, u, rfl, wl, eu, ul⟩ := upper_ok hd
  refine ok_mid (fun ρ => ∃ s' w, ρ = [.i sc, .i k, .i it, .o s', a4, .i (.str l), .i (.lst xs), a7, .i (.str w), a9, a10, a11] ∧ St (n + 1520) s' ∧ w.length ≤ 30) ?_ ?_
  · have wz : w.length ≤ SZ := by show w.length ≤ 16777216; omega
    obtain ⟨r1, e1, q1⟩ := addTx (b := 1) (m := [95]) wl (by simp) (by decide)
    obtain ⟨r2, e2, q2⟩ := addTx (a := 1) (l := [32]) (by simp) wl (by decide)
    obtain ⟨r3, e3, q3⟩ := addTx (b := 1) (m := [115]) wl (by simp) (by decide)
    have e4 : slD (.str w) none (some (-1)) = some (.str (cutL w none (some (-1)))) := if_pos wz
    have q4 : (cutL w none (some (-1))).length ≤ 20 := by
      unfold cutL
      rw [List.length_take, List.length_drop]
      omega
    simp [eu, e1, e2, e3, e4, SZ]
    refine (r_pick (k := 5) hs3 (by omega) (by simp) (by simp)).mono fun d ms ⟨hd, s4, e5, hs4⟩ => ?_
    subst e5
    obtain ⟨t, rfl, tl⟩ : ∃ t, d = .str t ∧ t.length ≤ 30 := by
      simp at hd
      rcases hd with h | h | h | h | h | h <;> exact ⟨_, h, by omega⟩
    simp
    exact ⟨s4, t, ⟨rfl, rfl⟩, hs4.mono (by omega), tl⟩
  rintro ρ ⟨s4, w, rfl, hs4, wl⟩
  refine ok_step fun K hK hR => ?_
  obtain ⟨jn, ej, qj⟩ := join_ok (s := [46]) hxs (by show xs.length * (80 + 1) ≤ 16777216; omega)
  have qj : jn.length ≤ 810 := by
    have : xs.length * (80 + [46].length) ≤ 810 := by show xs.length * 81 ≤ 810; omega
    omega
  obtain ⟨p0, ep, qp⟩ := Txs.head hxs x0
  have ep : ixD (.lst xs) (.int 0) = some (.str p0) := by
    show atI xs ((0 : Nat) : Int) = _
    rw [atI_nat]; exact ep
  obtain ⟨r1, e1, q1⟩ := addTx (a := 1) (l := [46]) (by simp) ll (by decide)
  obtain ⟨r2, e2, q2⟩ := addTx (a := 1) (l := [46]) (by simp) qp (by decide)
  obtain ⟨r3, e3, q3⟩ := addTx (b := 1) (m := [46]) ll (by simp) (by decide)
  obtain ⟨r4, e4, q4⟩ := addTx (a := 2) (l := [46, 46]) (by simp) ll (by decide)
  obtain ⟨r5, e5, q5⟩ := addTx (a := 1) (l := [46]) (by simp) wl (by decide)
  simp [ej, ep, e1, e2, e3, e4, e5, SZ]
  refine ok_for (fun _ ρ => ∃ b9 : Sl, b9.light = true ∧ ρ = [.i sc, .i k, .i it, .o s4, a4, .i (.str l), .i (.lst xs), a7, .i (.str w), b9, a10, a11]) _ 0 ⟨a9, h9, rfl⟩ ?_ ?_
  · rintro i x ρ hx ⟨b9, _, rfl⟩
    have ht : Tx 12000 x := by
      have hm := List.mem_of_getElem? hx
      simp at hm
      rcases hm with h | h | h | h | h | h | h | h <;> exact ⟨_, h, by omega⟩
    simp
    refine (right_ok ht).mono fun d ms ⟨e1, e2⟩ => ?_
    subst e1; subst e2
    simp
    rfl
  · rintro ρ ⟨b9, h9', rfl⟩
    refine hK _ ?_
    rw [okSs_nil]
    exact hF s4 _ _ _ _ _ (hs4.mono (by omega)) h7 h9'

/-- the body of the outer loop -/
def outB : Ss := match b_law with | .cons (.loop _ _ b) _ => b | _ => .nil
theorem f3_ne : cmpD .ne (.lst [.bl false, .bl false, .bl false]) (.lst [.bl false, .bl false, .bl false]) = some false := by decide +kernel
theorem mul3 : binD .mul (.lst [.bl false]) (.int 3) = some (.lst [.bl false, .bl false, .bl false]) := rfl
theorem outer_ok {sc : IV} {j : Nat} {x : Int} {a3 a4 a5 a6 a7 a8 a9 a10 a11 : Sl} {F : Fl → List Sl → Prop} (hj : j < 100) (h7 : a7.light = true) (h9 : a9.light = true)
    (hF : ∀ b3 b4 b5 b6 b7 b8 b9 b10, b7.light = true → b9.light = true → F .nx [.i sc, .i (.int j), .i (.int x), b3, b4, b5, b6, b7, b8, b9, b10, a11]) :
    Ok (evSs CC Nn outB [.i sc, .i (.int j), .i (.int x), a3, a4, a5, a6, a7, a8, a9, a10, a11]) F := by
  have tb := @turn_ok
  simp only [b_law] at tb
  simp only [outB, b_law]
  refine ok_mid (fun ρ => ∃ s, ρ = [.i sc, .i (.int j), .i (.int x), .o s, a4, a5, a6, a7, a8, a9, a10, a11] ∧ St 0 s) ?_ ?_
  · simp
    refine (r_stream (k := 6) x j (by omega) (by omega)).mono fun d ms ⟨e1, e2⟩ => ?_
    subst e2
    simp
    exact e1
  rintro ρ ⟨s, rfl, hs⟩
  refine ok_mid (fun ρ => ∃ s b4 b5 b6 b7 b8 b9, ρ = [.i sc, .i (.int j), .i (.int x), .o s, b4, b5, b6, b7, b8, b9, a10, a11] ∧ St 8000 s ∧ b7.light = true ∧ b9.light = true) ?_ ?_
  · simp [seqR_ok (show (0 : Int) ≤ 4 by decide) (show (4 : Int) < 2 ^ 62 by decide)]
    refine ok_for (fun i ρ => ∃ s b4 b5 b6 b7 b8 b9, ρ = [.i sc, .i (.int j), .i (.int x), .o s, b4, b5, b6, b7, b8, b9, a10, a11] ∧ St (2000 * i) s ∧ b7.light = true ∧ b9.light = true) _ 0 ⟨s, a4, a5, a6, a7, a8, a9, rfl, hs, h7, h9⟩ ?_ ?_
    · rintro i y ρ hy ⟨s, b4, b5, b6, b7, b8, b9, rfl, hs, h7, h9⟩
      have hi : i < 4 := by
        have := (List.getElem?_eq_some_iff.mp hy).1
        simpa using this
      rw [tg_one]
      refine tb hs (by omega) h7 h9 ?_
      intro s' c5 c6 c7 c8 c9 hs' g7 g9
      exact ⟨s', _, c5, c6, c7, c8, c9, rfl, hs'.mono (by omega), g7, g9⟩
    · rintro ρ ⟨s, b4, b5, b6, b7, b8, b9, rfl, hs, h7, h9⟩
      exact ⟨rfl, s, b4, b5, b6, b7, b8, b9, rfl, hs.mono (by simp), h7, h9⟩
  rintro ρ ⟨s, b4, b5, b6, b7, b8, b9, rfl, hs, h7, h9⟩
  refine ok_mid (fun ρ => ∃ s d, ρ = [.i sc, .i (.int j), .i (.int x), .o s, b4, b5, b6, b7, b8, b9, .i d, a11] ∧ isiD d "str" = some false) ?_ ?_
  · have p : binD .pow (.int 10) (.int 20) = some (.int (10 ^ 20)) := rfl
    have m : binD .mod (.int x) (.int (10 ^ 20)) = some (.int (x % 10 ^ 20)) := b_modI (by decide)
    simp [SZ, p]
    rw [show (100000000000000000000 : Int) = 10 ^ 20 from rfl, m]
    simp
    refine (r_pick (k := 5) hs (by omega) (by simp) (by simp)).mono fun d ms ⟨hd, s4, e5, hs4⟩ => ?_
    subst e5
    have hs : isiD d "str" = some false := by
      simp at hd
      rcases hd with h | h | h | h | h | h | h | h <;> (rw [h]; rfl)
    simp
    exact ⟨s4, d, ⟨rfl, rfl⟩, hs⟩
  rintro ρ ⟨s, d, rfl, hd⟩
  refine ok_step fun K hK hR => ?_
  simp
  refine (o_is_name (k := 7) hd).mono fun e ms ⟨e1, e2⟩ => ?_
  subst e1; subst e2
  simp
  refine (o_is_reserved (k := 7) hd).mono fun e ms ⟨e1, e2⟩ => ?_
  subst e1; subst e2
  simp
  refine (o_is_used (k := 7) hd).mono fun e ms ⟨e1, e2⟩ => ?_
  subst e1; subst e2
  simp [SZ, mul3, f3_ne]
  refine hK _ ?_
  rw [okSs_nil]
  exact hF _ _ _ _ _ _ _ _ h7 h9
theorem rep_ok {c : Nat} {n : Int} (h0 : 1 ≤ n) (h1 : n ≤ 5000) : ∃ l, binD .mul (.str [c]) (.int n) = some (.str l) ∧ l.length ≤ 5000 := by
  refine ⟨_, if_pos ⟨h0, by show n ≤ 16777216; omega, by simp, by show 1 * n.toNat ≤ 16777216; omega⟩, ?_⟩
  simp
  omega
theorem repL_ok {n : Int} (h0 : 1 ≤ n) (h1 : n ≤ 10) : ∃ xs, binD .mul (.lst [.str [97]]) (.int n) = some (.lst xs) ∧ Txs 1 xs ∧ xs.length ≤ 10 := by
  obtain ⟨k, rfl⟩ : ∃ k : Nat, n = k := ⟨n.toNat, by omega⟩
  refine ⟨_, if_pos ⟨by omega, by show (k : Int) ≤ 16777216; omega, by show 1 * (k : Int).toNat ≤ 16777216; omega⟩, ?_, ?_⟩
  · rw [Int.toNat_natCast]
    clear h0 h1
    induction k with
    | zero => exact .nil
    | succ k ih =>
      rw [List.replicate_succ', List.flatten_append]
      exact ih.snoc (by simp)
  · simp
    omega
theorem tg2 {ρ : List Sl} {x y : IV} {i j : Nat} {Q : Unit → List Sl → Prop} : Ok (rTg [i, j] (.tup [x, y]) ρ) Q = Q () ((ρ.set i (.i x)).set j (.i y)) := rfl
theorem seqE_l {xs : List IV} : seqE (.lst xs) = some (enumD (fun n x => .tup [.int (n : Nat), x]) 0 xs) := rfl
theorem Txs.app {m : Nat} {xs ys : List IV} (h : Txs m xs) (h' : Txs m ys) : Txs m (xs ++ ys) := by
  obtain ⟨ts, e, a⟩ := h
  obtain ⟨us, e', a'⟩ := h'
  refine ⟨ts ++ us, texts_app e e', fun t ht => ?_⟩
  rcases List.mem_append.mp ht with z | z
  · exact a t z
  · exact a' t z
theorem Txs.cons {m : Nat} {xs : List IV} {l : List Nat} (hl : l.length ≤ m) (h : Txs m xs) : Txs m (.str l :: xs) := by
  have z := Txs.app (Txs.snoc (m := m) .nil hl) h
  exact z
theorem Txs.all {m : Nat} {xs : List IV} (h : Txs m xs) : ∀ x ∈ xs, Tx m x := by
  obtain ⟨ts, e, a⟩ := h
  induction xs generalizing ts with
  | nil => exact fun x z => nomatch z
  | cons y r ih =>
    match y, e with
    | .str l, e =>
      have e : (texts r).map (l :: ·) = some ts := e
      cases hr : texts r with
      | none => rw [hr] at e; cases e
      | some us =>
        rw [hr] at e
        cases e
        intro x hx
        rcases List.mem_cons.mp hx with z | z
        · rw [z]; exact ⟨l, rfl, a l List.mem_cons_self⟩
        · exact ih us hr (fun t ht => a t (List.mem_cons_of_mem _ ht)) x z
theorem res_tx : Txs 12000 RES := by
  have z : ∃ ts, texts RES = some ts ∧ (ts.all fun t => decide (t.length ≤ 12000)) = true := ⟨_, rfl, by decide +kernel⟩
  obtain ⟨ts, e, a⟩ := z
  exact ⟨ts, e, fun t ht => of_decide_eq_true (List.all_eq_true.mp a t ht)⟩
theorem run_law (ns : List Int) (h : ns.length ≤ 63) : ∃ ms, runF T.fns 100000 9 17 [.lst (ns.map .int)] = some (.ok (.bl true), ms) := by
  suffices z : OkF (runF T.fns 100000 9 17 [.lst (ns.map .int)]) fun d _ => d = .bl true by
    obtain ⟨d, ms, e, rfl⟩ := z.eq
    exact ⟨ms, e⟩
  refine okF_run (fn := f_law) rfl rfl ?_
  have ob := @outer_ok
  simp only [outB, b_law] at ob
  simp only [f_law, b_law, Fn.start, startA]
  simp only [List.length_cons, List.length_nil, List.replicate, List.cons_append, List.nil_append, Bool.false_eq_true, if_false]
  refine ok_mid (fun ρ => ∃ a1 a2 a3 a4 a5 a6 a7 a8 a9 a10, ρ = [.i (.lst (ns.map .int)), a1, a2, a3, a4, a5, a6, a7, a8, a9, a10, .e] ∧ a9.light = true) ?_ ?_
  · have ad : binD .add (.lst (ns.map .int)) (.lst [.int 0]) = some (.lst (ns.map .int ++ [.int 0])) := b_addL (by simp; show ns.length + 1 ≤ 16777216; omega)
    have sl : slD (.lst (ns.map .int ++ [.int 0])) none (some 8) = some (.lst (cutL (ns.map .int ++ [.int 0]) none (some 8))) := rfl
    simp [SZ, ad, sl, seqE_l]
    generalize hxs : cutL (ns.map IV.int ++ [IV.int 0]) none (some 8) = xs
    have xl : xs.length ≤ 8 := by
      rw [← hxs]
      unfold cutL
      rw [List.length_take, List.length_drop, HT.sIx_none, show HT.sIx (ns.map IV.int ++ [IV.int 0]).length (ns.map IV.int ++ [IV.int 0]).length (some 8) = min 8 (ns.map IV.int ++ [IV.int 0]).length from HT.sIx_nat _ _ 8]
      omega
    have xi : ∀ x ∈ xs, ∃ v : Int, x = .int v := by
      intro x hx
      rw [← hxs] at hx
      unfold cutL at hx
      have hx := List.mem_of_mem_drop (List.mem_of_mem_take hx)
      rcases List.mem_append.mp hx with z | z
      · obtain ⟨v, _, e⟩ := List.mem_map.mp z
        exact ⟨v, e.symm⟩
      · exact ⟨0, List.mem_singleton.mp z⟩
    refine ok_for (fun _ ρ => ∃ a1 a2 a3 a4 a5 a6 a7 a8 a9 a10, ρ = [.i (.lst (ns.map .int)), a1, a2, a3, a4, a5, a6, a7, a8, a9, a10, .e] ∧ a7.light = true ∧ a9.light = true) _ 0 ⟨_, _, _, _, _, _, _, _, _, _, rfl, rfl, rfl⟩ ?_ ?_
    · rintro i y ρ hy ⟨a1, a2, a3, a4, a5, a6, a7, a8, a9, a10, rfl, h7, h9⟩
      rw [enumD_get] at hy
      cases hx : xs[i]? with
      | none => rw [hx] at hy; cases hy
      | some x =>
        rw [hx] at hy
        cases hy
        have hi : i < 8 := Nat.lt_of_lt_of_le (List.getElem?_eq_some_iff.mp hx).1 xl
        obtain ⟨v, rfl⟩ := xi x (List.mem_of_getElem? hx)
        rw [tg2]
        refine ob (j := 0 + i) (by omega) h7 h9 ?_
        intro b3 b4 b5 b6 b7 b8 b9 b10 g7 g9
        exact ⟨_, _, b3, b4, b5, b6, b7, b8, b9, b10, rfl, g7, g9⟩
    · rintro ρ ⟨a1, a2, a3, a4, a5, a6, a7, a8, a9, a10, rfl, h7, h9⟩
      exact ⟨rfl, a1, a2, a3, a4, a5, a6, a7, a8, a9, ⟨a10, rfl⟩, h9⟩
  rintro ρ ⟨a1, a2, a3, a4, a5, a6, a7, a8, a9, a10, rfl, h9⟩
  obtain ⟨l40, e40, q40⟩ := rep_ok (c := 97) (n := 40) (by decide) (by decide)
  obtain ⟨l41, e41, q41⟩ := rep_ok (c := 97) (n := 41) (by decide) (by decide)
  obtain ⟨l9, e9, q9⟩ := rep_ok (c := 57) (n := 9) (by decide) (by decide)
  obtain ⟨l1k, e1k, q1k⟩ := rep_ok (c := 49) (n := 5000) (by decide) (by decide)
  obtain ⟨l9k, e9k, q9k⟩ := rep_ok (c := 57) (n := 5000) (by decide) (by decide)
  obtain ⟨x8, ex8, tx8, lx8⟩ := repL_ok (n := 8) (by decide) (by decide)
  obtain ⟨x9, ex9, tx9, lx9⟩ := repL_ok (n := 9) (by decide) (by decide)
  obtain ⟨j8, ej8, qj8⟩ := join_ok (s := [46]) tx8 (by show x8.length * 2 ≤ 16777216; omega)
  obtain ⟨j9, ej9, qj9⟩ := join_ok (s := [46]) tx9 (by show x9.length * 2 ≤ 16777216; omega)
  have qj8 : j8.length ≤ 20 := Nat.le_trans qj8 (by show x8.length * 2 ≤ 20; omega)
  have qj9 : j9.length ≤ 20 := Nat.le_trans qj9 (by show x9.length * 2 ≤ 20; omega)
  refine ok_mid (fun ρ => ∃ xs, ρ = [.i (.lst (ns.map .int)), a1, a2, a3, a4, a5, a6, a7, a8, a9, a10, .i (.lst xs)] ∧ Txs 12000 xs ∧ xs.length ≤ 100) ?_ ?_
  · simp
    refine (r_reserved (k := 7)).mono fun d ms ⟨e1, e2⟩ => ?_
    subst e1; subst e2
    simp [e40, e41, SZ]
    rw [b_addL (by simp; decide)]
    simp
    exact ⟨Txs.app res_tx (Txs.cons (by simp) (Txs.cons (by simp) (Txs.cons (by simp) (Txs.cons (by simp) (Txs.cons (by simp) (Txs.cons (by omega) (Txs.cons (by omega) (Txs.cons (by decide) (Txs.cons (by simp) (Txs.cons (by simp) (Txs.cons (by simp) Txs.nil))))))))))), by decide⟩
  rintro ρ ⟨xs, rfl, hxs, xl⟩
  obtain ⟨r1, f1, g1⟩ := addTx (a := 1) (l := [46]) (by simp) q40 (by decide)
  obtain ⟨r2, f2, g2⟩ := addTx (a := 1) (l := [46]) (by simp) q41 (by decide)
  refine ok_mid (fun ρ => ∃ xs, ρ = [.i (.lst (ns.map .int)), a1, a2, a3, a4, a5, a6, a7, a8, a9, a10, .i (.lst xs)] ∧ Txs 12000 xs ∧ xs.length ≤ 200) ?_ ?_
  · simp [e40, e41, ex8, ex9, ej8, ej9, f1, f2, SZ]
    rw [b_addL (by simp; show xs.length + 5 ≤ 16777216; omega)]
    simp
    exact ⟨Txs.app hxs (Txs.cons (by decide) (Txs.cons (by omega) (Txs.cons (by omega) (Txs.cons (by omega) (Txs.cons (by omega) Txs.nil))))), by omega⟩
  clear hxs xl xs
  rintro ρ ⟨xs, rfl, hxs, xl⟩
  obtain ⟨r3, f3, g3⟩ := addTx (b := 1) (m := [64]) q40 (by simp) (by decide)
  obtain ⟨r4, f4, g4⟩ := addTx g3 q9 (by decide)
  obtain ⟨r5, f5, g5⟩ := addTx (a := 2) (l := [97, 64]) (by simp) q1k (by decide)
  obtain ⟨r6, f6, g6⟩ := addTx (a := 4) (l := [97, 46, 98, 64]) (by simp) q9k (by decide)
  refine ok_mid (fun ρ => ∃ xs, ρ = [.i (.lst (ns.map .int)), a1, a2, a3, a4, a5, a6, a7, a8, a9, a10, .i (.lst xs)] ∧ Txs 12000 xs ∧ xs.length ≤ 300) ?_ ?_
  · simp [e40, e9, e1k, e9k, f3, f4, f5, f6, SZ]
    rw [b_addL (by simp; show xs.length + 3 ≤ 16777216; omega)]
    simp
    exact ⟨Txs.app hxs (Txs.cons (by omega) (Txs.cons (by omega) (Txs.cons (by omega) Txs.nil))), by omega⟩
  clear hxs xl xs
  rintro ρ ⟨xs, rfl, hxs, xl⟩
  refine ok_step fun K hK hR => ?_
  simp
  refine ok_filter1 (fun _ => false) rfl h9 (by show xs.length ≤ 16777216; omega) ?_ ?_ ?_
  · intro x hx
    simp
    refine (right_ok (Txs.all hxs x hx)).mono fun d ms ⟨e1, e2⟩ => ?_
    subst e1; subst e2
    simp
  · intro x hx
    simp
  · have e : (xs.filter fun _ => false) = [] := by simp
    rw [e]
    have e2 : cmpD .eq (.lst []) (.lst []) = some true := by decide +kernel
    simp [e2, SZ]
    refine hR _ _ ?_
    simp [mutsOf]
end K02


open PySem PySem.W PyProof.Rows
set_option maxRecDepth 100000 in
set_option maxHeartbeats 0 in
theorem PySem.Challenge.cw_macroasm_k02_names_holds : PySem.Challenge.rw_macroasm_k02_names.Holds := by
  w_on; o_law; k_head; (case hw => w_witness2)
  k_fill
  refine Mx.walk_run (l := PySem.Challenge.rw_macroasm_k02_names) (n := 63) (k := 9) (nF := 100000) (iL := 17) (x := "_law_script") (cl := fun _ => none) (T := K02.T) (fn := K02.f_law) rfl (by decide) rfl ⟨rfl, by decide, by decide⟩ (fun w h Y => PySem.W.kIn_of Y) rfl rfl rfl rfl rfl ?F K02.run_law
  case F =>
    intro w mg h KX G
    refine' K02.all_mk KX G ?z_g0 ?z_gt0 ?z_g1 ?z_gt1 ?z_g2 ?z_gt2 ?z_g3 ?z_gt3 ?z_g4 ?z_gt4 ?z_g5 ?z_gl5 ?z_gt5 ?z_g6 ?z_gt6 ?z_b0 ?z_b1 ?z_b2 ?z_b3 ?z_b4 ?z_b5 ?z_b6 ?z_b7 ?z_b8 ?z_a0 ?z_l0 ?z_c0 ?z_k0 ?z_a1 ?z_l1 ?z_c1 ?z_k1 ?z_a2 ?z_l2 ?z_c2 ?z_k2 ?z_a3 ?z_l3 ?z_c3 ?z_k3 ?z_a4 ?z_l4 ?z_c4 ?z_k4 ?z_a5 ?z_l5 ?z_c5 ?z_k5 ?z_a6 ?z_l6 ?z_c6 ?z_k6 ?z_a7 ?z_l7 ?z_c7 ?z_k7 ?z_a8 ?z_l8 ?z_c8 ?z_k8 ?z_a9 ?z_l9 ?z_c9 ?z_k9 ?z_a10 ?z_l10 ?z_c10 ?z_k10 ?z_a11 ?z_l11 ?z_c11 ?z_k11 ?z_a12 ?z_l12 ?z_c12 ?z_k12 ?z_a13 ?z_l13 ?z_c13 ?z_k13 ?z_a14 ?z_l14 ?z_c14 ?z_k14 ?z_a15 ?z_l15 ?z_c15 ?z_k15 ?z_a16 ?z_l16 ?z_c16 ?z_k16 ?z_a17 ?z_l17 ?z_c17 ?z_k17
    (case z_g0 => k_is)
    (case z_gt0 => decide +kernel)
    (case z_g1 => k_is)
    (case z_gt1 => decide +kernel)
    (case z_g2 => k_is)
    (case z_gt2 => decide +kernel)
    (case z_g3 => k_is)
    (case z_gt3 => decide +kernel)
    (case z_g4 => k_is)
    (case z_gt4 => decide +kernel)
    (case z_g5 => k_is)
    (case z_gl5 => k_is)
    (case z_gt5 => decide +kernel)
    (case z_g6 => k_is)
    (case z_gt6 => decide +kernel)
    (case z_b0 => k_is)
    (case z_b1 => k_is)
    (case z_b2 => k_is)
    (case z_b3 => k_is)
    (case z_b4 => k_is)
    (case z_b5 => k_is)
    (case z_b6 => k_is)
    (case z_b7 => k_is)
    (case z_b8 => k_is)
    (case z_a0 => k_is)
    (case z_l0 => k_is)
    (case z_c0 => k_is)
    (case z_k0 => k_is)
    (case z_a1 => k_is)
    (case z_l1 => k_is)
    (case z_c1 => k_is)
    (case z_k1 => k_is)
    (case z_a2 => k_is)
    (case z_l2 => k_is)
    (case z_c2 => k_is)
    (case z_k2 => k_is)
    (case z_a3 => k_is)
    (case z_l3 => k_is)
    (case z_c3 => k_is)
    (case z_k3 => k_is)
    (case z_a4 => k_is)
    (case z_l4 => k_is)
    (case z_c4 => k_is)
    (case z_k4 => k_is)
    (case z_a5 => k_is)
    (case z_l5 => k_is)
    (case z_c5 => k_is)
    (case z_k5 => k_is)
    (case z_a6 => k_is)
    (case z_l6 => k_is)
    (case z_c6 => k_is)
    (case z_k6 => k_is)
    (case z_a7 => k_is)
    (case z_l7 => k_is)
    (case z_c7 => k_is)
    (case z_k7 => k_is)
    (case z_a8 => k_is)
    (case z_l8 => k_is)
    (case z_c8 => k_is)
    (case z_k8 => k_is)
    (case z_a9 => k_is)
    (case z_l9 => k_is)
    (case z_c9 => k_is)
    (case z_k9 => k_is)
    (case z_a10 => k_is)
    (case z_l10 => k_is)
    (case z_c10 => k_is)
    (case z_k10 => k_is)
    (case z_a11 => k_is)
    (case z_l11 => k_is)
    (case z_c11 => k_is)
    (case z_k11 => k_is)
    (case z_a12 => k_is)
    (case z_l12 => k_is)
    (case z_c12 => k_is)
    (case z_k12 => k_is)
    (case z_a13 => k_is)
    (case z_l13 => k_is)
    (case z_c13 => k_is)
    (case z_k13 => k_is)
    (case z_a14 => k_is)
    (case z_l14 => k_is)
    (case z_c14 => k_is)
    (case z_k14 => k_is)
    (case z_a15 => k_is)
    (case z_l15 => k_is)
    (case z_c15 => k_is)
    (case z_k15 => k_is)
    (case z_a16 => k_is)
    (case z_l16 => k_is)
    (case z_c16 => k_is)
    (case z_k16 => k_is)
    (case z_a17 => k_is)
    (case z_l17 => k_is)
    (case z_c17 => k_is)
    (case z_k17 => k_is)
#print axioms PySem.Challenge.cw_macroasm_k02_names_holds


