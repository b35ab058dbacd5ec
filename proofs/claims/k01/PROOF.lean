import PyProof.Rows.All
import Wide.All
import OpenK.AllK
import Wide.FinOn
import HandS.ForMost
import HandS.ForExc
import HandS.Walk
import HandS.IsInst
import HandS.StrMore
import HandS.TupAny
import HandS.ExcInit
import KE.KExcSuper
import KE.KExcMake
import KE.KExcIs
import KE.KExcLine
import PySem.Challenge.RW_macroasm_k01_error_classes
import PyProof.Rows.StrJoinMade
set_option Elab.async false
set_option linter.all false
set_option maxRecDepth 100000
set_option maxHeartbeats 4000000
/-! Mx: a small functional language for the program's defs; part 1: data, how data stand in the heap, the store. -/
namespace Mx
open PySem PySem.Spec PyProof.Rows L2

/-- a text by its code points -/
def sOf (l : List Nat) : Str := ⟨l.toArray⟩
theorem sOf_list (l : List Nat) : (sOf l).cps.toList = l := by simp [sOf]
theorem sOf_of (s : Str) : sOf s.cps.toList = s := by simp [sOf]
theorem sOf_len (l : List Nat) : (sOf l).length = l.length := by simp [sOf, Str.length]
theorem sOf_inj {l m : List Nat} (h : sOf l = sOf m) : l = m := by
  have := congrArg (fun s : Str => s.cps.toList) h
  simpa [sOf] using this

/-- data -/
inductive IV where
  | non
  | bl (b : Bool)
  | int (i : Int)
  | str (l : List Nat)
  | tup (xs : List IV)
  | lst (xs : List IV)
  | dct (kvs : List (Key × IV))
  | ins (c : Nat) (fs : List (Str × IV))
  | exc (c : Nat) (fs : List (Str × IV))
  deriving Inhabited

/-- the heap in which nothing is tracked -/
def Hn : Hp := fun _ => none
theorem SqL.ofK {K : PySem.W.Frag} {H : Hp} {a : Addr} {xs : List V} (h : SqL K Hn a xs) : SqL K H a xs := by
  rcases h with (h | ⟨_, h⟩) | h
  · cases h
  · cases h
  · exact .inr h
theorem SqT.ofK {K : PySem.W.Frag} {H : Hp} {a : Addr} {xs : List V} (h : SqT K Hn a xs) : SqT K H a xs := by
  rcases h with (h | ⟨_, h⟩) | h
  · cases h
  · cases h
  · exact .inr h

/-- the dict of an exception: none, or at dx -/
def XD (O : List Addr) (H : Hp) (fs : List (Str × V)) : Option Addr → Prop
  | none => fs = []
  | some dx => H dx = some (exd dx fs) ∧ dx ∉ O
mutual
/-- the value v is the datum d in the heap H; nothing of it is one of the changing objects O -/
inductive Rep (K : PySem.W.Frag) (cl : Nat → Option Addr) (O : List Addr) (H : Hp) : V → IV → Prop
  | non : Rep K cl O H .non .non
  | bl (b : Bool) : Rep K cl O H (.bl b) (.bl b)
  | int (i : Int) : Rep K cl O H (.int i) (.int i)
  | str (l : List Nat) : Rep K cl O H (.str (sOf l)) (.str l)
  | tupH {a : Addr} {vs : List V} {ds : List IV} : Rd H a (.tup vs) → a ∉ O → RepAll K cl O H vs ds → Rep K cl O H (.ref a) (.tup ds)
  | tupK {a : Addr} {vs : List V} {ds : List IV} : SqT K Hn a vs → RepAll K cl O H vs ds → Rep K cl O H (.ref a) (.tup ds)
  | lstH {a : Addr} {vs : List V} {ds : List IV} : Rd H a (.lst vs) → a ∉ O → RepAll K cl O H vs ds → Rep K cl O H (.ref a) (.lst ds)
  | lstK {a : Addr} {vs : List V} {ds : List IV} : SqL K Hn a vs → RepAll K cl O H vs ds → Rep K cl O H (.ref a) (.lst ds)
  | dctH {a : Addr} {kv : List (Key × V)} {ds : List (Key × IV)} : Rd H a (.dK kv) → a ∉ O → kv.map (·.1) = ds.map (·.1) → RepAll K cl O H (kv.map (·.2)) (ds.map (·.2)) → Rep K cl O H (.ref a) (.dct ds)
  | insH {a C dx : Addr} {c : Nat} {fs : List (Str × V)} {ds : List (Str × IV)} : H a = some (.ins C dx fs) → cl c = some C → a ∉ O → fs.map (·.1) = ds.map (·.1) → RepAll K cl O H (fs.map (·.2)) (ds.map (·.2)) → Rep K cl O H (.ref a) (.ins c ds)
  | exc {a C : Addr} {dd : Option Addr} {c : Nat} {fs : List (Str × V)} {ds : List (Str × IV)} : H a = some (exo a C dd) → cl c = some C → a ∉ O → XD O H fs dd → fs.map (·.1) = ds.map (·.1) → RepAll K cl O H (fs.map (·.2)) (ds.map (·.2)) → Rep K cl O H (.ref a) (.exc c ds)
inductive RepAll (K : PySem.W.Frag) (cl : Nat → Option Addr) (O : List Addr) (H : Hp) : List V → List IV → Prop
  | nil : RepAll K cl O H [] []
  | cons {v : V} {vs : List V} {d : IV} {ds : List IV} : Rep K cl O H v d → RepAll K cl O H vs ds → RepAll K cl O H (v :: vs) (d :: ds)
end

/-- all but what stands in O is as it was -/
def Keep (O : List Addr) (H H' : Hp) : Prop := ∀ a o, a ∉ O → H a = some o → H' a = some o
theorem Keep.refl (O : List Addr) (H : Hp) : Keep O H H := fun _ _ _ h => h
theorem Keep.trans {O : List Addr} {H H1 H2 : Hp} (a : Keep O H H1) (b : Keep O H1 H2) : Keep O H H2 := fun x o n h => b x o n (a x o n h)
theorem Keep.same {O : List Addr} {H H' : Hp} (h : Same H H') : Keep O H H' := fun a o _ e => h a o e
theorem same_new {H : Hp} {p : Addr} {o : HO} (h : H p = none) : Same H (upd H p o) := fun b x e => by
  rw [upd_ne (ne_of_none e h)]
  exact e
theorem Rd.keep {O : List Addr} {H H' : Hp} {a : Addr} {u : HO} (k : Keep O H H') (n : a ∉ O) (h : Rd H a u) : Rd H' a u := by
  rcases h with h | ⟨o, h⟩
  · exact .inl (k a _ n h)
  · exact .inr ⟨o, k a _ n h⟩
theorem Rd.some_of {H : Hp} {a : Addr} {u : HO} (h : Rd H a u) : H a ≠ none := by
  rcases h with h | ⟨o, h⟩ <;> (rw [h]; exact fun z => nomatch z)

theorem XD.keep {O : List Addr} {H H' : Hp} {fs : List (Str × V)} (k : Keep O H H') : ∀ {dd : Option Addr}, XD O H fs dd → XD O H' fs dd
  | none, h => h
  | some _, h => ⟨k _ _ h.2 h.1, h.2⟩
theorem XD.less {O O' : List Addr} {H : Hp} {fs : List (Str × V)} (k : ∀ a, a ∈ O' → a ∈ O) : ∀ {dd : Option Addr}, XD O H fs dd → XD O' H fs dd
  | none, h => h
  | some _, h => ⟨h.1, fun z => h.2 (k _ z)⟩
theorem XD.more {O : List Addr} {H : Hp} {fs : List (Str × V)} {p : Addr} (hp : H p = none) : ∀ {dd : Option Addr}, XD O H fs dd → XD (p :: O) H fs dd
  | none, h => h
  | some dx, h => ⟨h.1, fun z => (List.mem_cons.mp z).elim (fun e => by have h1 := h.1; rw [e, hp] at h1; cases h1) h.2⟩
section
variable {K : PySem.W.Frag} {cl : Nat → Option Addr} {O O' : List Addr} {H H' : Hp}
mutual
theorem Rep.keep (k : Keep O H H') : ∀ {v : V} {d : IV}, Rep K cl O H v d → Rep K cl O H' v d
  | _, _, .non => .non
  | _, _, .bl b => .bl b
  | _, _, .int i => .int i
  | _, _, .str l => .str l
  | _, _, .tupH h n r => .tupH (Rd.keep k n h) n (RepAll.keep k r)
  | _, _, .tupK h r => .tupK h (RepAll.keep k r)
  | _, _, .lstH h n r => .lstH (Rd.keep k n h) n (RepAll.keep k r)
  | _, _, .lstK h r => .lstK h (RepAll.keep k r)
  | _, _, .dctH h n e r => .dctH (Rd.keep k n h) n e (RepAll.keep k r)
  | _, _, .insH h c n e r => .insH (k _ _ n h) c n e (RepAll.keep k r)
  | _, _, .exc h c n x e r => .exc (k _ _ n h) c n (x.keep k) e (RepAll.keep k r)
theorem RepAll.keep (k : Keep O H H') : ∀ {vs : List V} {ds : List IV}, RepAll K cl O H vs ds → RepAll K cl O H' vs ds
  | _, _, .nil => .nil
  | _, _, .cons r t => .cons (Rep.keep k r) (RepAll.keep k t)
end
mutual
theorem Rep.less (k : ∀ a, a ∈ O' → a ∈ O) : ∀ {v : V} {d : IV}, Rep K cl O H v d → Rep K cl O' H v d
  | _, _, .non => .non
  | _, _, .bl b => .bl b
  | _, _, .int i => .int i
  | _, _, .str l => .str l
  | _, _, .tupH h n r => .tupH h (fun z => n (k _ z)) (RepAll.less k r)
  | _, _, .tupK h r => .tupK h (RepAll.less k r)
  | _, _, .lstH h n r => .lstH h (fun z => n (k _ z)) (RepAll.less k r)
  | _, _, .lstK h r => .lstK h (RepAll.less k r)
  | _, _, .dctH h n e r => .dctH h (fun z => n (k _ z)) e (RepAll.less k r)
  | _, _, .insH h c n e r => .insH h c (fun z => n (k _ z)) e (RepAll.less k r)
  | _, _, .exc h c n x e r => .exc h c (fun z => n (k _ z)) (x.less k) e (RepAll.less k r)
theorem RepAll.less (k : ∀ a, a ∈ O' → a ∈ O) : ∀ {vs : List V} {ds : List IV}, RepAll K cl O H vs ds → RepAll K cl O' H vs ds
  | _, _, .nil => .nil
  | _, _, .cons r t => .cons (Rep.less k r) (RepAll.less k t)
end
theorem notin_more {p a : Addr} (hp : H p = none) (h : H a ≠ none) (n : a ∉ O) : a ∉ p :: O := fun z => by
  rcases List.mem_cons.mp z with z | z
  · rw [z] at h; exact h hp
  · exact n z
mutual
theorem Rep.more {p : Addr} (hp : H p = none) : ∀ {v : V} {d : IV}, Rep K cl O H v d → Rep K cl (p :: O) H v d
  | _, _, .non => .non
  | _, _, .bl b => .bl b
  | _, _, .int i => .int i
  | _, _, .str l => .str l
  | _, _, .tupH h n r => .tupH h (notin_more hp (Rd.some_of h) n) (RepAll.more hp r)
  | _, _, .tupK h r => .tupK h (RepAll.more hp r)
  | _, _, .lstH h n r => .lstH h (notin_more hp (Rd.some_of h) n) (RepAll.more hp r)
  | _, _, .lstK h r => .lstK h (RepAll.more hp r)
  | _, _, .dctH h n e r => .dctH h (notin_more hp (Rd.some_of h) n) e (RepAll.more hp r)
  | _, _, .insH h c n e r => .insH h c (notin_more hp (by rw [h]; exact fun z => nomatch z) n) e (RepAll.more hp r)
  | _, _, .exc h c n x e r => .exc h c (notin_more hp (by rw [h]; exact fun z => nomatch z) n) (x.more hp) e (RepAll.more hp r)
theorem RepAll.more {p : Addr} (hp : H p = none) : ∀ {vs : List V} {ds : List IV}, RepAll K cl O H vs ds → RepAll K cl (p :: O) H vs ds
  | _, _, .nil => .nil
  | _, _, .cons r t => .cons (Rep.more hp r) (RepAll.more hp t)
end
theorem RepAll.length : ∀ {vs : List V} {ds : List IV}, RepAll K cl O H vs ds → vs.length = ds.length
  | _, _, .nil => rfl
  | _, _, .cons _ t => by rw [List.length_cons, List.length_cons, RepAll.length t]
theorem RepAll.get : ∀ {vs : List V} {ds : List IV} {i : Nat} {d : IV}, RepAll K cl O H vs ds → ds[i]? = some d → ∃ v, vs[i]? = some v ∧ Rep K cl O H v d
  | _, _, _, _, .nil, e => by simp at e
  | _, _, 0, _, .cons r _, e => by simp at e; subst e; exact ⟨_, rfl, r⟩
  | _, _, i + 1, _, .cons _ t, e => by
    obtain ⟨v, h1, h2⟩ := RepAll.get (i := i) t (by simpa using e)
    exact ⟨v, by simpa using h1, h2⟩
theorem RepAll.getV : ∀ {vs : List V} {ds : List IV} {i : Nat} {v : V}, RepAll K cl O H vs ds → vs[i]? = some v → ∃ d, ds[i]? = some d ∧ Rep K cl O H v d
  | _, _, _, _, .nil, e => by simp at e
  | _, _, 0, _, .cons r _, e => by simp at e; subst e; exact ⟨_, rfl, r⟩
  | _, _, i + 1, _, .cons _ t, e => by
    obtain ⟨v, h1, h2⟩ := RepAll.getV (i := i) t (by simpa using e)
    exact ⟨v, by simpa using h1, h2⟩
theorem RepAll.append : ∀ {vs ws : List V} {ds es : List IV}, RepAll K cl O H vs ds → RepAll K cl O H ws es → RepAll K cl O H (vs ++ ws) (ds ++ es)
  | _, _, _, _, .nil, s => s
  | _, _, _, _, .cons r t, s => .cons r (RepAll.append t s)
theorem RepAll.take : ∀ {vs : List V} {ds : List IV} (n : Nat), RepAll K cl O H vs ds → RepAll K cl O H (vs.take n) (ds.take n)
  | _, _, 0, _ => .nil
  | _, _, _ + 1, .nil => .nil
  | _, _, n + 1, .cons r t => .cons r (RepAll.take n t)
theorem RepAll.drop : ∀ {vs : List V} {ds : List IV} (n : Nat), RepAll K cl O H vs ds → RepAll K cl O H (vs.drop n) (ds.drop n)
  | _, _, 0, r => r
  | _, _, _ + 1, .nil => .nil
  | _, _, n + 1, .cons _ t => RepAll.drop n t
theorem RepAll.set {v : V} {d : IV} (r : Rep K cl O H v d) : ∀ {vs : List V} {ds : List IV} (i : Nat), RepAll K cl O H vs ds → RepAll K cl O H (vs.set i v) (ds.set i d)
  | _, _, _, .nil => .nil
  | _, _, 0, .cons _ t => .cons r t
  | _, _, i + 1, .cons q t => .cons q (RepAll.set r i t)
/-- a tuple, a list of the datum can be read -/
theorem Rep.tupI {v : V} {ds : List IV} (h : Rep K cl O H v (.tup ds)) : ∃ a vs, v = .ref a ∧ SqT K H a vs ∧ RepAll K cl O H vs ds := by
  cases h with
  | tupH h n r => exact ⟨_, _, rfl, .inl h, r⟩
  | tupK h r => exact ⟨_, _, rfl, SqT.ofK h, r⟩
theorem Rep.lstI {v : V} {ds : List IV} (h : Rep K cl O H v (.lst ds)) : ∃ a vs, v = .ref a ∧ SqL K H a vs ∧ RepAll K cl O H vs ds := by
  cases h with
  | lstH h n r => exact ⟨_, _, rfl, .inl h, r⟩
  | lstK h r => exact ⟨_, _, rfl, SqL.ofK h, r⟩
end

/-- what does not change while a def runs: O0, H0: the changing objects and the heap at its beginning; M: by parameters, the changing objects that were handed to it -/
structure Ct where
  K : PySem.W.Frag
  cl : Nat → Option Addr
  O0 : List Addr
  H0 : Hp
  M : List (Option Addr)

/-- a slot: empty; a datum; a changing object of the def's own; one that was handed to it -/
inductive Sl where
  | e
  | i (d : IV)
  | o (d : IV)
  | b (d : IV)
  deriving Inhabited
def Sl.mut : Sl → Option IV
  | .o d => some d
  | .b d => some d
  | _ => none

/-- the changing object at a is the datum -/
inductive Own (K : PySem.W.Frag) (cl : Nat → Option Addr) (O : List Addr) (H : Hp) (a : Addr) : IV → Prop
  | lst {vs : List V} {ds : List IV} : H a = some (.lst vs) → RepAll K cl O H vs ds → Own K cl O H a (.lst ds)
  | ins {C dx : Addr} {c : Nat} {fs : List (Str × V)} {ds : List (Str × IV)} : H a = some (.ins C dx fs) → cl c = some C → fs.map (·.1) = ds.map (·.1) → RepAll K cl O H (fs.map (·.2)) (ds.map (·.2)) → Own K cl O H a (.ins c ds)
theorem Own.some_of {K : PySem.W.Frag} {cl : Nat → Option Addr} {O : List Addr} {H : Hp} {a : Addr} {d : IV} (h : Own K cl O H a d) : H a ≠ none := by
  cases h with
  | lst h _ => rw [h]; exact fun z => nomatch z
  | ins h _ _ _ => rw [h]; exact fun z => nomatch z
/-- kept at a itself, and all that does not change -/
theorem Own.keep {K : PySem.W.Frag} {cl : Nat → Option Addr} {O : List Addr} {H H' : Hp} {a : Addr} {d : IV} (k : Keep O H H') (ha : ∀ o, H a = some o → H' a = some o) (h : Own K cl O H a d) : Own K cl O H' a d := by
  cases h with
  | lst h r => exact .lst (ha _ h) (r.keep k)
  | ins h c e r => exact .ins (ha _ h) c e (r.keep k)
theorem Own.less {K : PySem.W.Frag} {cl : Nat → Option Addr} {O O' : List Addr} {H : Hp} {a : Addr} {d : IV} (k : ∀ a, a ∈ O' → a ∈ O) (h : Own K cl O H a d) : Own K cl O' H a d := by
  cases h with
  | lst h r => exact .lst h (r.less k)
  | ins h c e r => exact .ins h c e (r.less k)
theorem Own.more {K : PySem.W.Frag} {cl : Nat → Option Addr} {O : List Addr} {H : Hp} {a p : Addr} {d : IV} (hp : H p = none) (h : Own K cl O H a d) : Own K cl (p :: O) H a d := by
  cases h with
  | lst h r => exact .lst h (r.more hp)
  | ins h c e r => exact .ins h c e (r.more hp)
/-- as a datum that is read (and is none of O) -/
theorem Own.rep {K : PySem.W.Frag} {cl : Nat → Option Addr} {O : List Addr} {H : Hp} {a : Addr} {d : IV} (n : a ∉ O) (h : Own K cl O H a d) : Rep K cl O H (.ref a) d := by
  cases h with
  | lst h r => exact .lstH (.inl h) n r
  | ins h c e r => exact .insH h c n e r

def SlR (C : Ct) (L O : List Addr) (H : Hp) (i : Nat) (s : Option V) : Sl → Prop
  | .e => True
  | .i d => ∃ v, s = some v ∧ Rep C.K C.cl O H v d
  | .o d => ∃ a, s = some (.ref a) ∧ a ∈ L ∧ a ∉ C.O0 ∧ C.H0 a = none ∧ Own C.K C.cl O H a d
  | .b d => ∃ a, s = some (.ref a) ∧ C.M[i]? = some (some a) ∧ Own C.K C.cl O H a d

/-- the def's slots σ and the heap H are the store ρ; L: the def's own changing objects -/
structure SRel (C : Ct) (L O : List Addr) (σ : L2.St) (ρ : List Sl) (H : Hp) : Prop where
  len : σ.length = ρ.length
  slot : ∀ (i : Nat) (s : Option V) (r : Sl), σ[i]? = some s → ρ[i]? = some r → SlR C L O H i s r
  lsub : ∀ a ∈ L, a ∈ O
  sub : ∀ a ∈ C.O0, a ∈ O
  msub : ∀ (i : Nat) (a : Addr), C.M[i]? = some (some a) → a ∈ C.O0
  live : ∀ a ∈ O, H a ≠ none
  apart : ∀ (i j : Nat) (r q : Sl) (a : Addr), i ≠ j → ρ[i]? = some r → ρ[j]? = some q → r.mut.isSome = true → q.mut.isSome = true → σ[i]? = some (some (.ref a)) → σ[j]? ≠ some (some (.ref a))
  frame : ∀ a o, C.H0 a = some o → some a ∉ C.M → H a = some o

section
variable {C : Ct} {L O : List Addr} {σ : L2.St} {ρ : List Sl} {H H' : Hp}
theorem SlR.same (h : Same H H') {i : Nat} {s : Option V} {r : Sl} (q : SlR C L O H i s r) : SlR C L O H' i s r := by
  cases r with
  | e => trivial
  | i d => obtain ⟨v, e, r⟩ := q; exact ⟨v, e, r.keep (.same h)⟩
  | o d => obtain ⟨a, e, n1, n2, n3, w⟩ := q; exact ⟨a, e, n1, n2, n3, w.keep (.same h) fun o => h a o⟩
  | b d => obtain ⟨a, e, n1, w⟩ := q; exact ⟨a, e, n1, w.keep (.same h) fun o => h a o⟩
/-- objects were made alone -/
theorem SRel.same (h : Same H H') (S : SRel C L O σ ρ H) : SRel C L O σ ρ H' :=
  ⟨S.len, fun i s r h1 h2 => (S.slot i s r h1 h2).same h, S.lsub, S.sub, S.msub, fun a ha z => (by
    cases e : H a with
    | none => exact S.live a ha e
    | some o => rw [h a o e] at z; cases z), S.apart, fun a o e n => h a o (S.frame a o e n)⟩
theorem mem_some_of {M : List (Option Addr)} {i : Nat} {a : Addr} (h : M[i]? = some (some a)) : some a ∈ M := List.mem_of_getElem? h
theorem SRel.fresh (S : SRel C L O σ ρ H) {p : Addr} (hp : H p = none) : C.H0 p = none ∧ p ∉ O ∧ p ∉ C.O0 := by
  have h1 : p ∉ O := fun z => S.live p z hp
  have h2 : p ∉ C.O0 := fun z => h1 (S.sub p z)
  refine ⟨?_, h1, h2⟩
  cases e : C.H0 p with
  | none => rfl
  | some o =>
    have n : some p ∉ C.M := fun z => by
      obtain ⟨i, hi⟩ := List.getElem?_of_mem z
      exact h2 (S.msub i p hi)
    rw [S.frame p o e n] at hp
    cases hp
/-- a datum is stored -/
theorem SRel.setI {v : V} {d : IV} (S : SRel C L O σ ρ H) (r : Rep C.K C.cl O H v d) (i : Nat) : SRel C L O (σ.set i (some v)) (ρ.set i (.i d)) H := by
  refine ⟨by rw [List.length_set, List.length_set, S.len], fun j s q h1 h2 => ?_, S.lsub, S.sub, S.msub, S.live, fun j k q q' a hjk h1 h2 m1 m2 e1 e2 => ?_, S.frame⟩
  · by_cases hj : i = j
    · subst hj
      rw [List.getElem?_set] at h1 h2
      simp only [if_true] at h1 h2
      split at h1
      · split at h2
        · cases h1; cases h2
          exact ⟨v, rfl, r⟩
        · cases h2
      · cases h1
    · rw [List.getElem?_set_ne hj] at h1 h2
      exact S.slot j s q h1 h2
  · by_cases hj : i = j
    · subst hj
      rw [List.getElem?_set] at h1
      simp only [if_true] at h1
      split at h1
      · cases h1; cases m1
      · cases h1
    · by_cases hk : i = k
      · subst hk
        rw [List.getElem?_set] at h2
        simp only [if_true] at h2
        split at h2
        · cases h2; cases m2
        · cases h2
      · rw [List.getElem?_set_ne hj] at h1 e1
        rw [List.getElem?_set_ne hk] at h2 e2
        exact S.apart j k q q' a hjk h1 h2 m1 m2 e1 e2
/-- a slot is forgotten -/
theorem SRel.setE {s : Option V} (S : SRel C L O σ ρ H) (i : Nat) : SRel C L O (σ.set i s) (ρ.set i .e) H := by
  refine ⟨by rw [List.length_set, List.length_set, S.len], fun j s' q h1 h2 => ?_, S.lsub, S.sub, S.msub, S.live, fun j k q q' a hjk h1 h2 m1 m2 e1 e2 => ?_, S.frame⟩
  · by_cases hj : i = j
    · subst hj
      rw [List.getElem?_set] at h2
      simp only [if_true] at h2
      split at h2
      · cases h2; trivial
      · cases h2
    · rw [List.getElem?_set_ne hj] at h1 h2
      exact S.slot j s' q h1 h2
  · by_cases hj : i = j
    · subst hj
      rw [List.getElem?_set] at h1
      simp only [if_true] at h1
      split at h1
      · cases h1; cases m1
      · cases h1
    · by_cases hk : i = k
      · subst hk
        rw [List.getElem?_set] at h2
        simp only [if_true] at h2
        split at h2
        · cases h2; cases m2
        · cases h2
      · rw [List.getElem?_set_ne hj] at h1 e1
        rw [List.getElem?_set_ne hk] at h2 e2
        exact S.apart j k q q' a hjk h1 h2 m1 m2 e1 e2
end
end Mx


/-! Mx, part 1b: what changes in the store. -/
namespace Mx
open PySem PySem.Spec PyProof.Rows L2
def Sl.put : Sl → IV → Sl
  | .o _, d => .o d
  | .b _, d => .b d
  | r, _ => r
theorem Sl.put_mut {r : Sl} {d : IV} : (r.put d).mut.isSome = r.mut.isSome := by cases r <;> rfl
section
variable {C : Ct} {L O O' : List Addr} {σ : L2.St} {ρ ρ' : List Sl} {H H' : Hp}
theorem SRel.mutAt (S : SRel C L O σ ρ H) {i : Nat} {r : Sl} {d : IV} (h : ρ[i]? = some r) (m : r.mut = some d) :
    ∃ a, σ[i]? = some (some (.ref a)) ∧ a ∈ O ∧ Own C.K C.cl O H a d ∧ (some a ∈ C.M ∨ C.H0 a = none) := by
  have hi : i < σ.length := by rw [S.len]; exact (List.getElem?_eq_some_iff.mp h).1
  have hs : σ[i]? = some σ[i] := List.getElem?_eq_getElem hi
  have q := S.slot i _ r hs h
  cases r with
  | e => cases m
  | i _ => cases m
  | o d' =>
    cases m
    obtain ⟨a, e, n1, n2, n3, w⟩ := q
    exact ⟨a, by rw [hs, e], S.lsub a n1, w, .inr n3⟩
  | b d' =>
    cases m
    obtain ⟨a, e, n1, w⟩ := q
    exact ⟨a, by rw [hs, e], S.sub a (S.msub i a n1), w, .inl (mem_some_of n1)⟩
/-- the changing objects A have changed -/
theorem SRel.change (S : SRel C L O σ ρ H) {A : List Addr} (hO : ∀ a ∈ O, a ∈ O') (hA : ∀ a ∈ A, some a ∈ C.M ∨ C.H0 a = none) (k : ∀ b o, b ∉ A → H b = some o → H' b = some o) (live : ∀ a ∈ O', H' a ≠ none)
    (hR : ∀ vs ds, RepAll C.K C.cl O H vs ds → RepAll C.K C.cl O' H' vs ds) (hl : ρ'.length = ρ.length)
    (hj : ∀ (j : Nat) (r : Sl), ρ[j]? = some r → (ρ'[j]? = some r ∧ ∀ a, r.mut.isSome = true → σ[j]? = some (some (.ref a)) → a ∉ A) ∨
      ∃ d' a, ρ'[j]? = some (r.put d') ∧ r.mut.isSome = true ∧ σ[j]? = some (some (.ref a)) ∧ Own C.K C.cl O' H' a d') : SRel C L O' σ ρ' H' := by
  have hR1 : ∀ {v d}, Rep C.K C.cl O H v d → Rep C.K C.cl O' H' v d := fun {v d} r => by
    have q := hR [v] [d] (.cons r .nil)
    cases q with
    | cons q _ => exact q
  have own : ∀ {a d}, Own C.K C.cl O H a d → a ∉ A → Own C.K C.cl O' H' a d := fun {a d} w n => by
    cases w with
    | lst h r => exact .lst (k _ _ n h) (hR _ _ r)
    | ins h c e r => exact .ins (k _ _ n h) c e (hR _ _ r)
  refine ⟨by rw [S.len, hl], fun i s q h1 h2 => ?_, fun a ha => hO a (S.lsub a ha), fun a ha => hO a (S.sub a ha), S.msub, live, fun i j q q' a hij h1 h2 m1 m2 e1 => ?_, fun a o e n => ?_⟩
  · have hi : i < ρ.length := by rw [← hl]; exact (List.getElem?_eq_some_iff.mp h2).1
    have hr : ρ[i]? = some ρ[i] := List.getElem?_eq_getElem hi
    have z := S.slot i s _ h1 hr
    rcases hj i _ hr with ⟨e, na⟩ | ⟨d', a, e, m, ea, w⟩
    · rw [e] at h2
      cases h2
      generalize ρ[i] = r at *
      cases r with
      | e => trivial
      | i d => obtain ⟨v, ev, r⟩ := z; exact ⟨v, ev, hR1 r⟩
      | o d =>
        obtain ⟨a, ea, n1, n2, n3, w⟩ := z
        exact ⟨a, ea, n1, n2, n3, own w (na a rfl (by rw [h1, ea]))⟩
      | b d =>
        obtain ⟨a, ea, n1, w⟩ := z
        exact ⟨a, ea, n1, own w (na a rfl (by rw [h1, ea]))⟩
    · rw [e] at h2
      cases h2
      rw [h1] at ea
      cases ea
      generalize ρ[i] = r at *
      cases r with
      | e => cases m
      | i d => cases m
      | o d =>
        obtain ⟨b, eb, n1, n2, n3, _⟩ := z
        cases eb
        exact ⟨_, rfl, n1, n2, n3, w⟩
      | b d =>
        obtain ⟨b, eb, n1, _⟩ := z
        cases eb
        exact ⟨_, rfl, n1, w⟩
  · have old : ∀ {i : Nat} {q : Sl}, ρ'[i]? = some q → q.mut.isSome = true → ∃ r : Sl, ρ[i]? = some r ∧ r.mut.isSome = true := fun {i q} h m => by
      have hi : i < ρ.length := by rw [← hl]; exact (List.getElem?_eq_some_iff.mp h).1
      refine ⟨ρ[i], List.getElem?_eq_getElem hi, ?_⟩
      rcases hj i _ (List.getElem?_eq_getElem hi) with ⟨e, _⟩ | ⟨d', a, e, m', _⟩
      · rw [e] at h; cases h; exact m
      · exact m'
    obtain ⟨r1, g1, k1⟩ := old h1 m1
    obtain ⟨r2, g2, k2⟩ := old h2 m2
    exact S.apart i j r1 r2 a hij g1 g2 k1 k2 e1
  · refine k a o (fun z => ?_) (S.frame a o e n)
    rcases hA a z with q | q
    · exact n q
    · rw [q] at e; cases e
/-- one changing object has changed -/
theorem SRel.put (S : SRel C L O σ ρ H) {i : Nat} {r : Sl} {a : Addr} {d' : IV} (h : ρ[i]? = some r) (m : r.mut.isSome = true) (ha : σ[i]? = some (some (.ref a))) (k : ∀ b o, b ≠ a → H b = some o → H' b = some o)
    (w : Own C.K C.cl O H' a d') : SRel C L O σ (ρ.set i (r.put d')) H' := by
  obtain ⟨d, ed⟩ := Option.isSome_iff_exists.mp m
  obtain ⟨a', ea, hO, _, hm⟩ := S.mutAt h ed
  rw [ha] at ea
  cases ea
  have kk : Keep O H H' := fun b o n e => k b o (fun z => n (z ▸ hO)) e
  refine S.change (A := [a]) (fun _ z => z) (fun b hb => ?_) (fun b o n e => k b o (fun z => n (by simp [z])) e) (fun b hb => ?_) (fun _ _ r => r.keep kk) (List.length_set ..) (fun j q hq => ?_)
  · have : b = a := by simpa using hb
    subst this
    exact hm
  · by_cases z : b = a
    · subst z; exact w.some_of
    · cases e : H b with
      | none => exact absurd e (S.live b hb)
      | some o => rw [k b o z e]; exact fun z => nomatch z
  · by_cases hij : i = j
    · subst hij
      rw [h] at hq
      cases hq
      refine .inr ⟨d', a, ?_, m, ha, w⟩
      rw [List.getElem?_set_self (List.getElem?_eq_some_iff.mp h).1]
    · refine .inl ⟨by rw [List.getElem?_set_ne hij]; exact hq, fun b mb eb hb => ?_⟩
      have : b = a := by simpa using hb
      subst this
      exact S.apart i j r q b hij h hq m mb ha eb
/-- a new object may become a changing one -/
theorem SRel.addO (S : SRel C L O σ ρ H) {p : Addr} (hp : H p = none) (k : Same H H') (hn : H' p ≠ none) : SRel C L (p :: O) σ ρ H' := by
  refine S.change (A := []) (fun a ha => List.mem_cons_of_mem _ ha) (fun _ z => nomatch z) (fun b o _ e => k b o e) (fun a ha => ?_) (fun _ _ r => (r.more hp).keep (.same k)) rfl (fun j r h => .inl ⟨h, fun _ _ _ z => nomatch z⟩)
  rcases List.mem_cons.mp ha with z | z
  · rw [z]; exact hn
  · exact (S.same k).live a z
theorem SRel.setO (S : SRel C L O σ ρ H) {p : Addr} {d : IV} (S' : SRel C L (p :: O) σ ρ H) (hp : p ∉ O) (h0 : C.H0 p = none) (w : Own C.K C.cl (p :: O) H p d) (i : Nat) : SRel C (p :: L) (p :: O) (σ.set i (some (.ref p))) (ρ.set i (.o d)) H := by
  have np0 : p ∉ C.O0 := fun z => hp (S.sub p z)
  have other : ∀ (j : Nat) (q : Sl), ρ[j]? = some q → q.mut.isSome = true → σ[j]? ≠ some (some (.ref p)) := fun j q hq m e => by
    obtain ⟨d, ed⟩ := Option.isSome_iff_exists.mp m
    obtain ⟨a, ea, hO, _⟩ := S.mutAt hq ed
    rw [e] at ea
    cases ea
    exact hp hO
  have lift : ∀ {j : Nat} {s : Option V} {q : Sl}, SlR C L (p :: O) H j s q → SlR C (p :: L) (p :: O) H j s q := fun {j s q} z => by
    cases q with
    | o d => obtain ⟨a, e, n1, r⟩ := z; exact ⟨a, e, List.mem_cons_of_mem _ n1, r⟩
    | _ => exact z
  refine ⟨by rw [List.length_set, List.length_set, S.len], fun j s q h1 h2 => ?_, fun a ha => ?_, S'.sub, S'.msub, S'.live, fun j k q q' a hjk h1 h2 m1 m2 e1 e2 => ?_, S'.frame⟩
  · by_cases hj : i = j
    · subst hj
      rw [List.getElem?_set] at h1 h2
      simp only [if_true] at h1 h2
      split at h1
      · split at h2
        · cases h1; cases h2
          exact ⟨p, rfl, List.mem_cons_self, np0, h0, w⟩
        · cases h2
      · cases h1
    · rw [List.getElem?_set_ne hj] at h1 h2
      exact lift (S'.slot j s q h1 h2)
  · rcases List.mem_cons.mp ha with z | z
    · rw [z]; exact List.mem_cons_self
    · exact S'.lsub a z
  · by_cases hj : i = j
    · subst hj
      rw [List.getElem?_set] at e1
      simp only [if_true] at e1
      split at e1
      · cases e1
        rw [List.getElem?_set_ne hjk] at h2 e2
        exact other k q' h2 m2 e2
      · cases e1
    · by_cases hk : i = k
      · subst hk
        rw [List.getElem?_set] at e2
        simp only [if_true] at e2
        split at e2
        · cases e2
          rw [List.getElem?_set_ne hj] at h1 e1
          exact other j q h1 m1 e1
        · cases e2
      · rw [List.getElem?_set_ne hj] at h1 e1
        rw [List.getElem?_set_ne hk] at h2 e2
        exact S.apart j k q q' a hjk h1 h2 m1 m2 e1 e2
/-- an object is none of the changing ones any more -/
theorem SRel.dropO {p : Addr} (S : SRel C L (p :: O) σ ρ H) (hL : ∀ a ∈ L, a ∈ O) (h0 : ∀ a ∈ C.O0, a ∈ O) : SRel C L O σ ρ H := by
  have le : ∀ a, a ∈ O → a ∈ p :: O := fun a h => List.mem_cons_of_mem _ h
  refine ⟨S.len, fun i s r h1 h2 => ?_, hL, h0, S.msub, fun a ha => S.live a (le a ha), S.apart, S.frame⟩
  have z := S.slot i s r h1 h2
  cases r with
  | e => trivial
  | i d => obtain ⟨v, e, r⟩ := z; exact ⟨v, e, r.less le⟩
  | o d => obtain ⟨a, e, n1, n2, n3, w⟩ := z; exact ⟨a, e, n1, n2, n3, w.less le⟩
  | b d => obtain ⟨a, e, n1, w⟩ := z; exact ⟨a, e, n1, w.less le⟩
end
end Mx


/-! Mx, part 2: the language and what it computes. -/
namespace Mx
open PySem PySem.Spec PyProof.Rows L2

inductive BOp where
  | add | sub | mul | fdiv | mod | pow
  deriving DecidableEq
inductive COp where
  | eq | ne | lt | le | gt | ge | isin | notin | is | isnt
  deriving DecidableEq
inductive BFn where
  | len | int | all | any | list | tuple | repr | str | ord | min | max
  deriving DecidableEq
inductive BMt where
  | join | split | part | upper | strip
  deriving DecidableEq

/-- operations with one operand -/
inductive P1 where
  | fld (f : Str) (cs : List Nat)
  | isx (xs : List Str) (tup : Bool) (ys ns : List Nat)
  deriving DecidableEq

mutual
inductive E where
  | var (i : Nat)
  | view (i : Nat)
  | cst (d : IV)
  | glo (x : Str) (d : IV)
  | bin (o : BOp) (a b : E)
  | neg (a : E)
  | cmp (o : COp) (a b : E)
  | chn (o p : COp) (a b c : E)
  | and (es : Es)
  | or (es : Es)
  | not (a : E)
  | ite (c a b : E)
  | ix (a b : E)
  | sl (a : E) (lo hi : OE)
  | lst (es : Es)
  | tup (es : Es)
  | dct (ks : List Key) (es : Es)
  | fn (f : BFn) (es : Es)
  | isi (a : E) (t : String)
  | mt (m : BMt) (a : E) (es : Es)
  | call (f : Nat) (as : As)
  | callK (f : Nat) (as bs : Es) (ks : List Str) (perm : List Nat)
  | comp (tg : List Nat) (it : It) (c : OE) (e : E)
  | pr1 (p : P1) (a : E)
  | mk (c : Nat) (ps : List Str) (es : Es)
  | mkK (c : Nat) (ps : List Str) (as bs : Es) (ks : List Str) (perm : List Nat)
inductive OE where
  | no
  | yes (e : E)
inductive Es where
  | nil
  | cons (e : E) (r : Es)
inductive As where
  | nil
  | v (e : E) (r : As)
  | m (i : Nat) (r : As)
inductive It where
  | lst (e : E)
  | tup (e : E)
  | txt (e : E)
  | rng (a : E)
  | rng2 (a b : E)
  | enu (e : E)
end
mutual
inductive S where
  | asg (i : Nat) (e : E)
  | asgO (i : Nat) (e : E)
  | unp (is : List Nat) (e : E)
  | aug (i : Nat) (o : BOp) (e : E)
  | setI (i : Nat) (k v : E)
  | app (i : Nat) (e : E)
  | drop (e : E)
  | ret (e : E)
  | retN
  | retO (i : Nat)
  | ite (c : E) (a b : Ss)
  | whl (c : E) (b : Ss)
  | loop (tg : List Nat) (it : It) (b : Ss)
  | pass
  | brk
  | cnt
inductive Ss where
  | nil
  | cons (s : S) (r : Ss)
end

/-! ### what operations give -/
/-- the longest text, list -/
abbrev SZ : Nat := 16777216
def mulOk (i j : Int) : Bool := (decide (-(2 ^ 64) < i) && decide (i < 2 ^ 64)) || (decide (-(2 ^ 64) < j) && decide (j < 2 ^ 64))
def addD : IV → IV → Option IV
  | .int i, .int j => some (.int (i + j))
  | .str a, .str b => if a.length + b.length ≤ SZ then some (.str (a ++ b)) else none
  | .lst a, .lst b => if a.length + b.length ≤ SZ then some (.lst (a ++ b)) else none
  | .tup a, .tup b => if a.length + b.length ≤ SZ then some (.tup (a ++ b)) else none
  | _, _ => none
def subD : IV → IV → Option IV
  | .int i, .int j => some (.int (i - j))
  | _, _ => none
def mulD : IV → IV → Option IV
  | .int i, .int j => if mulOk i j = true then some (.int (i * j)) else none
  | .str a, .int n => if 1 ≤ n ∧ n ≤ SZ ∧ a ≠ [] ∧ a.length * n.toNat ≤ SZ then some (.str (List.replicate n.toNat a).flatten) else none
  | .lst a, .int n => if 0 ≤ n ∧ n ≤ SZ ∧ a.length * n.toNat ≤ SZ then some (.lst (List.replicate n.toNat a).flatten) else none
  | _, _ => none
def fdivD : IV → IV → Option IV
  | .int i, .int j => if 0 < j ∧ j < 1073741824 then some (.int (i / j)) else none
  | _, _ => none
def modD : IV → IV → Option IV
  | .int i, .int j => if 0 < j then some (.int (i % j)) else none
  | _, _ => none
def powD : IV → IV → Option IV
  | .int i, .int j => if 0 ≤ j ∧ j ≤ 1000000 ∧ i.natAbs < 18446744073709551616 then some (.int (i ^ j.toNat)) else none
  | _, _ => none
def binD : BOp → IV → IV → Option IV
  | .add => addD
  | .sub => subD
  | .mul => mulD
  | .fdiv => fdivD
  | .mod => modD
  | .pow => powD
/- data that == and repr look at -/
mutual
def IV.toP : IV → Option PyData
  | .non => some .none
  | .bl b => some (.bool b)
  | .int i => some (.int i)
  | .str l => some (.str (sOf l))
  | .tup xs => match IV.toPs xs with | some ps => some (.tuple ps) | none => none
  | .lst xs => match IV.toPs xs with | some ps => some (.list ps) | none => none
  | .dct _ => none
  | .ins _ _ => none
  | .exc _ _ => none
def IV.toPs : List IV → Option (List PyData)
  | [] => some []
  | x :: xs => match IV.toP x, IV.toPs xs with | some p, some ps => some (p :: ps) | _, _ => none
end
def eqD (x y : IV) : Option Bool := match x, y with
  | .int i, .int j => some (decide (i = j))
  | .str a, .str b => some (decide (a = b))
  | .bl a, .bl b => some (decide (a = b))
  | .non, .non => some true
  | .non, .int _ => some false
  | .int _, .non => some false
  | .non, .str _ => some false
  | .str _, .non => some false
  | .int _, .str _ => some false
  | .str _, .int _ => some false
  | x, y => match x.toP, y.toP with
    | some p, some q => if SeqAt.shaped p = true ∧ SeqAt.shaped q = true then some (PyData.eqv p q) else none
    | _, _ => none
def flatD : IV → Bool
  | .non => true
  | .bl _ => true
  | .int _ => true
  | .str _ => true
  | _ => false
def eqF : IV → IV → Bool
  | .non, .non => true
  | .bl a, .bl b => a == b
  | .bl a, .int b => (if a then 1 else 0) == b
  | .int a, .bl b => a == (if b then 1 else 0)
  | .int a, .int b => a == b
  | .str a, .str b => decide (a = b)
  | _, _ => false
def inD (x y : IV) : Option Bool := match y with
  | .str l => match x with
    | .str [c] => some (decide (c ∈ l))
    | _ => none
  | .tup ys => if flatD x = true ∧ ys.all flatD = true then some (ys.any fun y => eqF y x) else none
  | .lst ys => if flatD x = true ∧ ys.all flatD = true then some (ys.any fun y => eqF y x) else none
  | _ => none
def neD (x y : IV) : Option Bool := (eqD x y).map (!·)
def ninD (x y : IV) : Option Bool := (inD x y).map (!·)
def ltD : IV → IV → Option Bool
  | .int i, .int j => some (decide (i < j))
  | _, _ => none
def leD : IV → IV → Option Bool
  | .int i, .int j => some (decide (i ≤ j))
  | _, _ => none
def gtD : IV → IV → Option Bool
  | .int i, .int j => some (decide (j < i))
  | _, _ => none
def geD : IV → IV → Option Bool
  | .int i, .int j => some (decide (j ≤ i))
  | _, _ => none
def isD : IV → IV → Option Bool
  | .non, .non => some true
  | _, .non => some false
  | _, _ => none
def isntD (x y : IV) : Option Bool := (isD x y).map (!·)
def cmpD : COp → IV → IV → Option Bool
  | .eq => eqD
  | .ne => neD
  | .lt => ltD
  | .le => leD
  | .gt => gtD
  | .ge => geD
  | .isin => inD
  | .notin => ninD
  | .is => isD
  | .isnt => isntD
def ixD : IV → IV → Option IV
  | .str l, .int i => if l.length ≤ SZ then (atI l i).map fun c => .str [c] else none
  | .lst xs, .int i => atI xs i
  | .tup xs, .int i => atI xs i
  | _, _ => none
def cutL {α : Type} (xs : List α) (lo hi : Option Int) : List α := (xs.drop (HT.sIx xs.length 0 lo)).take (HT.sIx xs.length xs.length hi - HT.sIx xs.length 0 lo)
def slD : IV → Option Int → Option Int → Option IV
  | .str l, lo, hi => if l.length ≤ SZ then some (.str (cutL l lo hi)) else none
  | .lst xs, lo, hi => some (.lst (cutL xs lo hi))
  | .tup xs, lo, hi => some (.tup (cutL xs lo hi))
  | _, _, _ => none
def truD : IV → Option Bool
  | .bl b => some b
  | .non => some false
  | .int i => some (i != 0)
  | .str l => if l.length ≤ SZ then some (!l.isEmpty) else none
  | .lst xs => some (!xs.isEmpty)
  | .tup xs => some (!xs.isEmpty)
  | _ => none
def bools : List IV → Option (List Bool)
  | [] => some []
  | .bl b :: r => (bools r).map (b :: ·)
  | _ => none
def keyP : Key → PyData
  | .inl i => .int i
  | .inr s => .str s
def kvP : List (Key × IV) → Option (List (PyData × PyData))
  | [] => some []
  | (k, x) :: xs => match x.toP, kvP xs with
    | some p, some ps => if flatD x = true then some ((keyP k, p) :: ps) else none
    | _, _ => none
/-- data that repr looks at in a list: dicts of plain values too -/
def IV.toR : IV → Option PyData
  | .dct kvs => match kvP kvs with | some ps => some (.dict ps) | none => none
  | x => x.toP
def IV.toRs : List IV → Option (List PyData)
  | [] => some []
  | x :: xs => match x.toR, IV.toRs xs with | some p, some ps => some (p :: ps) | _, _ => none
def reprL (xs : List IV) : Option (List Nat) := match IV.toRs xs with
  | some ps => if (PyData.list ps).showable = true ∧ (PyData.list ps).shown.length ≤ SZ ∧ (PyData.list ps).depth ≤ 50 then some (PyData.list ps).shown.cps.toList else none
  | none => none
def reprD (x : IV) : Option (List Nat) := match x.toP with
  | some p => if p.showable = true ∧ p.shown.length ≤ SZ ∧ p.depth ≤ 50 then some p.shown.cps.toList else none
  | none => none
def fnD : BFn → List IV → Option IV
  | .len, [.str l] => if l.length ≤ SZ then some (.int l.length) else none
  | .len, [.lst l] => some (.int l.length)
  | .len, [.tup l] => some (.int l.length)
  | .int, [.int i] => some (.int i)
  | .int, [.bl b] => some (.int (if b then 1 else 0))
  | .all, [.lst xs] => (bools xs).map fun bs => .bl (bs.all id)
  | .any, [.lst xs] => (bools xs).map fun bs => .bl (bs.any id)
  | .list, [.str l] => if l.length ≤ SZ then some (.lst (l.map fun c => .str [c])) else none
  | .list, [.lst l] => some (.lst l)
  | .list, [.tup l] => some (.lst l)
  | .tuple, [.lst l] => some (.tup l)
  | .tuple, [.tup l] => some (.tup l)
  | .repr, [.lst l] => (reprL l).map .str
  | .repr, [.tup l] => (reprD (.tup l)).map .str
  | _, _ => none
/-- isinstance of a built-in class -/
def isiD : IV → String → Option Bool
  | .non, "str" => some false
  | .bl _, "str" => some false
  | .int _, "str" => some false
  | .str _, "str" => some true
  | .tup _, "str" => some false
  | .lst _, "str" => some false
  | .dct _, "str" => some false
  | .non, "int" => some false
  | .bl _, "int" => some true
  | .int _, "int" => some true
  | .str _, "int" => some false
  | .tup _, "int" => some false
  | .lst _, "int" => some false
  | .dct _, "int" => some false
  | .non, "bool" => some false
  | .bl _, "bool" => some true
  | .int _, "bool" => some false
  | .str _, "bool" => some false
  | .tup _, "bool" => some false
  | .lst _, "bool" => some false
  | .dct _, "bool" => some false
  | .non, "tuple" => some false
  | .bl _, "tuple" => some false
  | .int _, "tuple" => some false
  | .str _, "tuple" => some false
  | .tup _, "tuple" => some true
  | .lst _, "tuple" => some false
  | .dct _, "tuple" => some false
  | _, _ => none
def texts : List IV → Option (List (List Nat))
  | [] => some []
  | .str l :: r => (texts r).map (l :: ·)
  | _ => none
/-- the characters of ASCII -/
def ascii (l : List Nat) : Bool := l.all (· < 128)
def mtD : BMt → IV → List IV → Option IV
  | .join, .str s, [.lst xs] => match texts xs with
    | some ts => if (ts.map List.length).sum + ts.length * s.length ≤ SZ then some (.str (TL.joinL s ts)) else none
    | none => none
  | .split, .str a, [.str b] => if b ≠ [] ∧ ascii b = true ∧ a.length + 2 ≤ SZ then some (.lst ((TL.spl b 0 [] a).map .str)) else none
  | .part, .str a, [.str b] => if b ≠ [] ∧ a.length ≤ SZ then (match TL.par b [] a with
    | some (x, y) => some (.tup [.str x, .str b, .str y])
    | none => some (.tup [.str a, .str [], .str []])) else none
  | .upper, .str a, [] => if a.length ≤ 1000000 then some (.str (Txt.upper (sOf a)).cps.toList) else none
  | _, _, _ => none
def fldD (f : Str) (cs : List Nat) : IV → Option IV
  | .exc c fs => if c ∈ cs then fs.lookup f else none
  | _ => none
def isxD (ys ns : List Nat) : IV → Option IV
  | .exc c _ => if c ∈ ys then some (.bl true) else if c ∈ ns then some (.bl false) else none
  | _ => none
def pr1D : P1 → IV → Option IV
  | .fld f cs => fldD f cs
  | .isx _ _ ys ns => isxD ys ns
def mkD (c : Nat) (ps : List Str) (ds : List IV) : Option IV := if ds.length = ps.length then some (.exc c (ps.zip ds)) else none
def enumD {α : Type} (f : Nat → α → IV) : Nat → List α → List IV
  | _, [] => []
  | n, x :: r => f n x :: enumD f (n + 1) r

/-! ### runs -/
/-- an exception: its class, its fields -/
structure Xn where
  c : Nat
  fs : List IV
abbrev Out (α : Type) := Option (Except Xn α × List Sl)
abbrev R (α : Type) := List Sl → Out α
def rPure {α : Type} (a : α) : R α := fun ρ => some (.ok a, ρ)
def rBind {α β : Type} (m : R α) (f : α → R β) : R β := fun ρ => match m ρ with
  | none => none
  | some (.error x, ρ') => some (.error x, ρ')
  | some (.ok a, ρ') => f a ρ'
def rLift {α : Type} (o : Option α) : R α := fun ρ => match o with
  | some a => some (.ok a, ρ)
  | none => none
/-- in a comprehension nothing is raised -/
def rQuiet {α : Type} (m : R α) : R α := fun ρ => match m ρ with
  | some (.error _, _) => none
  | r => r
abbrev CS := Nat → List IV → Option (Except Xn IV × List IV)
def rVar (i : Nat) : R IV := fun ρ => match ρ[i]? with
  | some (.i d) => some (.ok d, ρ)
  | _ => none
def rView (i : Nat) : R IV := fun ρ => match ρ[i]? with
  | some (.o d) => some (.ok d, ρ)
  | some (.b d) => some (.ok d, ρ)
  | _ => none
def rAndV (a b : R IV) : R IV := rBind a fun x => match x with
  | .bl true => b
  | .bl false => rPure (.bl false)
  | _ => rLift none
def rOrV (a b : R IV) : R IV := rBind a fun x => match x with
  | .bl true => rPure (.bl true)
  | .bl false => b
  | _ => rLift none
def rNotV (a : R IV) : R IV := rBind a fun x => match x with
  | .bl b => rPure (.bl !b)
  | _ => rLift none
def rIf {α : Type} (c : R Bool) (a b : R α) : R α := rBind c fun t => if t = true then a else b
def argD (ρ : List Sl) : IV ⊕ Nat → Option IV
  | .inl d => some d
  | .inr i => ρ[i]?.bind Sl.mut
def argsD (ρ : List Sl) : List (IV ⊕ Nat) → Option (List IV)
  | [] => some []
  | x :: xs => match argD ρ x, argsD ρ xs with
    | some d, some ds => some (d :: ds)
    | _, _ => none
def putM : List (IV ⊕ Nat) → List IV → List Sl → List Sl
  | .inr i :: xs, m :: ms, ρ => putM xs ms (match ρ[i]? with | some r => ρ.set i (r.put m) | none => ρ)
  | .inl _ :: xs, _ :: ms, ρ => putM xs ms ρ
  | _, _, ρ => ρ
def rCall (cs : CS) (f : Nat) (xs : List (IV ⊕ Nat)) : R IV := fun ρ => match argsD ρ xs with
  | none => none
  | some ds => match cs f ds with
    | none => none
    | some (r, ms) => some (r, putM xs ms ρ)
def pick {α : Type} (ds : List α) : List Nat → Option (List α)
  | [] => some []
  | i :: is => match ds[i]?, pick ds is with
    | some d, some r => some (d :: r)
    | _, _ => none
def rCallK (cs : CS) (f : Nat) (perm : List Nat) (ds : List IV) : R IV := fun ρ => match pick ds perm with
  | none => none
  | some es => match cs f es with
    | none => none
    | some (r, _) => some (r, ρ)
def setTgs : List Nat → List IV → List Sl → List Sl
  | i :: is, d :: ds, ρ => setTgs is ds (ρ.set i (.i d))
  | _, _, ρ => ρ
def rTg (tg : List Nat) (d : IV) : R Unit := fun ρ => match tg with
  | [i] => some (.ok (), ρ.set i (.i d))
  | _ => match d with
    | .tup ds => if ds.length = tg.length then some (.ok (), setTgs tg ds ρ) else none
    | _ => none
def clear : List Nat → List Sl → List Sl
  | [], ρ => ρ
  | i :: is, ρ => clear is (ρ.set i .e)
def empty (tg : List Nat) (ρ : List Sl) : Bool := tg.all fun i => match ρ[i]? with
  | some .e => true
  | _ => false
def rClr (tg : List Nat) : R Unit := fun ρ => some (.ok (), clear tg ρ)
def rComp (tg : List Nat) (c : R Bool) (e : R IV) : List IV → R (List IV)
  | [] => rPure []
  | x :: xs => rBind (rTg tg x) fun _ => rBind c fun t => if t = true then rBind e fun y => rBind (rClr tg) fun _ => rBind (rComp tg c e xs) fun ys => rPure (y :: ys) else rBind (rClr tg) fun _ => rComp tg c e xs
def Sl.light : Sl → Bool
  | .e => true
  | .i _ => true
  | _ => false
/-- the slots of tg hold no changing object -/
def light (tg : List Nat) (ρ : List Sl) : Bool := tg.all fun i => match ρ[i]? with
  | some r => r.light
  | none => false
/-- the slots of tg as they were in ρ -/
def back : List Nat → List Sl → List Sl → List Sl
  | [], _, ρ' => ρ'
  | i :: is, ρ, ρ' => back is ρ (match ρ[i]? with | some r => ρ'.set i r | none => ρ')
def rList (tg : List Nat) (c : R Bool) (e : R IV) (xs : List IV) : R IV := fun ρ =>
  if light tg ρ = true ∧ xs.length ≤ SZ then match rComp tg c e xs (clear tg ρ) with
    | some (.ok ys, ρ') => some (.ok (.lst ys), back tg ρ ρ')
    | _ => none
  else none
def intI : IV → Option Int
  | .int i => some i
  | _ => none
def strI : IV → Option Unit
  | .str _ => some ()
  | _ => none
def seqL : IV → Option (List IV)
  | .lst xs => some xs
  | _ => none
def seqT : IV → Option (List IV)
  | .tup xs => some xs
  | _ => none
def seqS : IV → Option (List IV)
  | .str l => some (l.map fun c => .str [c])
  | _ => none
def seqR : IV → Option (List IV)
  | .int n => if -(2 ^ 62) ≤ n ∧ n < 2 ^ 62 then some ((List.range n.toNat).map fun i => .int (i : Nat)) else none
  | _ => none
def seqR2 : IV → IV → Option (List IV)
  | .int m, .int n => if -(2 ^ 62) ≤ m ∧ m < 2 ^ 62 ∧ -(2 ^ 62) ≤ n ∧ n < 2 ^ 62 then some ((List.range (n - m).toNat).map fun i => .int (m + (i : Nat))) else none
  | _, _ => none
def seqE : IV → Option (List IV)
  | .lst xs => some (enumD (fun n x => .tup [.int (n : Nat), x]) 0 xs)
  | _ => none

mutual
/-- an expression: its value, its truth -/
def ev (cs : CS) : E → R IV × R Bool
  | .var i => let v := rVar i; (v, rBind v fun d => rLift (truD d))
  | .view i => let v := rView i; (v, rBind v fun d => rLift (truD d))
  | .cst d => let v := rPure d; (v, rBind v fun d => rLift (truD d))
  | .glo _ d => let v := rPure d; (v, rBind v fun d => rLift (truD d))
  | .bin o a b => let v := rBind (ev cs a).1 fun x => rBind (ev cs b).1 fun y => rLift (binD o x y); (v, rBind v fun d => rLift (truD d))
  | .neg a => let v := rBind (ev cs a).1 fun x => match x with | .int i => rPure (.int (-i)) | _ => rLift none; (v, rBind v fun d => rLift (truD d))
  | .cmp o a b => let v := rBind (ev cs a).1 fun x => rBind (ev cs b).1 fun y => rLift ((cmpD o x y).map .bl); (v, rBind v fun d => rLift (truD d))
  | .chn o p a b c => let v := rBind (ev cs a).1 fun x => rBind (ev cs b).1 fun y => rBind (rLift (cmpD o x y)) fun t => if t = true then rBind (ev cs c).1 fun z => rLift ((cmpD p y z).map .bl) else rPure (.bl false)
    (v, rBind v fun d => rLift (truD d))
  | .and es => evAnd cs es
  | .or es => evOr cs es
  | .not a => (rNotV (ev cs a).1, rBind (ev cs a).2 fun t => rPure !t)
  | .ite c a b => let v := rIf (ev cs c).2 (ev cs a).1 (ev cs b).1; (v, rBind v fun d => rLift (truD d))
  | .ix a b => let v := rBind (ev cs a).1 fun x => rBind (ev cs b).1 fun y => rLift (ixD x y); (v, rBind v fun d => rLift (truD d))
  | .sl a lo hi => let v := rBind (ev cs a).1 fun x => rBind (evO cs lo) fun l => rBind (evO cs hi) fun h => rLift (slD x l h); (v, rBind v fun d => rLift (truD d))
  | .lst es => let v := rBind (evEs cs es) fun xs => rLift (if xs.length ≤ SZ then some (.lst xs) else none); (v, rBind v fun d => rLift (truD d))
  | .tup es => let v := rBind (evEs cs es) fun xs => rLift (if xs.length ≤ SZ then some (.tup xs) else none); (v, rBind v fun d => rLift (truD d))
  | .dct ks es => let v := rBind (evEs cs es) fun xs => rPure (.dct (ks.zip xs)); (v, rBind v fun d => rLift (truD d))
  | .fn f es => let v := rBind (evEs cs es) fun xs => rLift (fnD f xs); (v, rBind v fun d => rLift (truD d))
  | .isi a t => let v := rBind (ev cs a).1 fun x => rLift ((isiD x t).map .bl); (v, rBind v fun d => rLift (truD d))
  | .mt m a es => let v := rBind (ev cs a).1 fun x => rBind (rLift (strI x)) fun _ => rBind (evEs cs es) fun xs => rLift (mtD m x xs); (v, rBind v fun d => rLift (truD d))
  | .call f as => let v := rBind (evAs cs as) fun xs => rCall cs f xs; (v, rBind v fun d => rLift (truD d))
  | .callK f as bs _ perm => let v := rBind (evEs cs as) fun ds => rBind (evEs cs bs) fun es => rCallK cs f perm (ds ++ es); (v, rBind v fun d => rLift (truD d))
  | .comp tg it c e => let v := rBind (evIt cs it) fun xs => rList tg (evC cs c) (ev cs e).1 xs; (v, rBind v fun d => rLift (truD d))
  | .pr1 p a => let v := rBind (ev cs a).1 fun x => rLift (pr1D p x); (v, rBind v fun d => rLift (truD d))
  | .mk c ps es => let v := rBind (evEs cs es) fun xs => rLift (mkD c ps xs); (v, rBind v fun d => rLift (truD d))
  | .mkK c ps as bs _ perm => let v := rBind (evEs cs as) fun ds => rBind (evEs cs bs) fun es => rLift (match pick (ds ++ es) perm with | some zs => mkD c ps zs | none => none); (v, rBind v fun d => rLift (truD d))
def evAnd (cs : CS) : Es → R IV × R Bool
  | .nil => (rLift none, rLift none)
  | .cons e r => match r with
    | .nil => ev cs e
    | .cons e' r' => (rAndV (ev cs e).1 (evAnd cs (.cons e' r')).1, rIf (ev cs e).2 (evAnd cs (.cons e' r')).2 (rPure false))
def evOr (cs : CS) : Es → R IV × R Bool
  | .nil => (rLift none, rLift none)
  | .cons e r => match r with
    | .nil => ev cs e
    | .cons e' r' => (rOrV (ev cs e).1 (evOr cs (.cons e' r')).1, rIf (ev cs e).2 (rPure true) (evOr cs (.cons e' r')).2)
def evO (cs : CS) : OE → R (Option Int)
  | .no => rPure none
  | .yes e => rBind (ev cs e).1 fun x => rLift ((intI x).map some)
def evC (cs : CS) : OE → R Bool
  | .no => rPure true
  | .yes e => (ev cs e).2
def evEs (cs : CS) : Es → R (List IV)
  | .nil => rPure []
  | .cons e r => rBind (ev cs e).1 fun x => rBind (evEs cs r) fun xs => rPure (x :: xs)
def evAs (cs : CS) : As → R (List (IV ⊕ Nat))
  | .nil => rPure []
  | .v e r => rBind (ev cs e).1 fun x => rBind (evAs cs r) fun xs => rPure (.inl x :: xs)
  | .m i r => rBind (rView i) fun _ => rBind (evAs cs r) fun xs => rPure (.inr i :: xs)
def evIt (cs : CS) : It → R (List IV)
  | .lst e => rBind (ev cs e).1 fun x => rLift (seqL x)
  | .tup e => rBind (ev cs e).1 fun x => rLift (seqT x)
  | .txt e => rBind (ev cs e).1 fun x => rLift (seqS x)
  | .rng a => rBind (ev cs a).1 fun x => rLift (seqR x)
  | .rng2 a b => rBind (ev cs a).1 fun x => rBind (ev cs b).1 fun y => rLift (seqR2 x y)
  | .enu e => rBind (ev cs e).1 fun x => rLift (seqE x)
end
/-- how a statement ends -/
inductive Fl where
  | nx | rt (d : IV) | bk | ct
def rWhile (c : R Bool) (b : R Fl) : Nat → R Fl
  | 0 => fun _ => none
  | n + 1 => rBind c fun t => if t = true then rBind b fun f => match f with
    | .nx => rWhile c b n
    | .ct => rWhile c b n
    | .bk => rPure .nx
    | .rt d => rPure (.rt d) else rPure .nx
def rFor (tg : List Nat) (b : R Fl) : List IV → R Fl
  | [] => rPure .nx
  | x :: xs => rBind (rTg tg x) fun _ => rBind b fun f => match f with
    | .nx => rFor tg b xs
    | .ct => rFor tg b xs
    | .bk => rPure .nx
    | .rt d => rPure (.rt d)
def rSet (i : Nat) (r : Sl) : R Fl := fun ρ => some (.ok .nx, ρ.set i r)
def rPut (i : Nat) (g : IV → Option IV) : R Fl := fun ρ => match ρ[i]? with
  | some r => match r.mut with
    | some d => match g d with
      | some d' => some (.ok .nx, ρ.set i (r.put d'))
      | none => none
    | none => none
  | none => none
def setD (k v : IV) : IV → Option IV
  | .lst xs => match k with
    | .int i => (ixN xs.length i).map fun j => .lst (xs.set j v)
    | _ => none
  | _ => none
def appD (v : IV) : IV → Option IV
  | .lst xs => if xs.length < SZ then some (.lst (xs ++ [v])) else none
  | _ => none
mutual
def evS (cs : CS) (N : Nat) : S → R Fl
  | .asg i e => rBind (ev cs e).1 fun d => rSet i (.i d)
  | .asgO i e => rBind (ev cs e).1 fun d => rSet i (.o d)
  | .unp is e => rBind (ev cs e).1 fun d => rBind (rTg is d) fun _ => rPure .nx
  | .aug i o e => rBind (rVar i) fun x => rBind (ev cs e).1 fun y => rBind (rLift (binD o x y)) fun d => rSet i (.i d)
  | .setI i k v => rBind (ev cs v).1 fun y => rBind (rView i) fun _ => rBind (ev cs k).1 fun x => rPut i (setD x y)
  | .app i e => rBind (rView i) fun d => rBind (rLift (seqL d)) fun _ => rBind (ev cs e).1 fun x => rPut i (appD x)
  | .drop e => rBind (ev cs e).1 fun _ => rPure .nx
  | .ret e => rBind (ev cs e).1 fun d => rPure (.rt d)
  | .retN => rPure (.rt .non)
  | .retO i => fun ρ => match ρ[i]? with
    | some (.o d) => some (.ok (.rt d), ρ)
    | _ => none
  | .ite c a b => rIf (ev cs c).2 (evSs cs N a) (evSs cs N b)
  | .whl c b => rWhile (ev cs c).2 (evSs cs N b) N
  | .loop tg it b => rBind (evIt cs it) fun xs => rFor tg (evSs cs N b) xs
  | .pass => rPure .nx
  | .brk => rPure .bk
  | .cnt => rPure .ct
def evSs (cs : CS) (N : Nat) : Ss → R Fl
  | .nil => rPure .nx
  | .cons s r => rBind (evS cs N s) fun f => match f with
    | .nx => evSs cs N r
    | f => rPure f
end
/-- a def: its name, parameters, slots' names, which parameters change, whether it gives a new object, its body -/
structure Fn where
  name : Str
  ps : List Str
  ns : List Str
  muts : List Bool
  own : Bool
  body : Ss
  kws : List (Nat × List Str × List Nat) := []
def startA : List Bool → List IV → List Sl
  | m :: ms, d :: ds => (if m = true then Sl.b d else Sl.i d) :: startA ms ds
  | _, _ => []
def Fn.start (fn : Fn) (ds : List IV) : List Sl := startA fn.muts ds ++ List.replicate (fn.ns.length - fn.ps.length) .e
def mutsOf : List Bool → List Sl → Option (List IV)
  | [], _ => some []
  | false :: bs, _ :: ρ => (mutsOf bs ρ).map (IV.non :: ·)
  | true :: bs, .b d :: ρ => (mutsOf bs ρ).map (d :: ·)
  | _, _ => none
def endF (fn : Fn) : Out Fl → Option (Except Xn IV × List IV)
  | some (.ok (.rt d), ρ) => (mutsOf fn.muts ρ).map fun ms => (.ok d, ms)
  | some (.ok .nx, ρ) => if fn.own = true then none else (mutsOf fn.muts ρ).map fun ms => (.ok .non, ms)
  | some (.error x, ρ) => (mutsOf fn.muts ρ).map fun ms => (.error x, ms)
  | _ => none
def runF (T : Nat → Option Fn) (N : Nat) : Nat → CS
  | 0 => fun _ _ => none
  | n + 1 => fun f ds => match T f with
    | none => none
    | some fn => if ds.length = fn.ps.length then endF fn (evSs (runF T N n) N fn.body (fn.start ds)) else none
end Mx


/-! Mx, part 3: the operations are those of the model. -/
namespace Mx
open PySem PySem.Spec PyProof.Rows L2

/-- a datum that is read: also one of the changing objects -/
def RepX (K : PySem.W.Frag) (cl : Nat → Option Addr) (O : List Addr) (H : Hp) (v : V) (d : IV) : Prop := Rep K cl O H v d ∨ ∃ a, v = .ref a ∧ a ∈ O ∧ Own K cl O H a d
section
variable {K : PySem.W.Frag} {cl : Nat → Option Addr} {O : List Addr} {H H' : Hp} {v : V}
theorem RepX.same {d : IV} (k : Same H H') (h : RepX K cl O H v d) : RepX K cl O H' v d := by
  rcases h with h | ⟨a, e, n, w⟩
  · exact .inl (h.keep (.same k))
  · exact .inr ⟨a, e, n, w.keep (.same k) fun o => k a o⟩
theorem RepX.non (h : RepX K cl O H v .non) : v = .non := by
  rcases h with h | ⟨_, _, _, w⟩
  · cases h; rfl
  · cases w
theorem RepX.bl {b : Bool} (h : RepX K cl O H v (.bl b)) : v = .bl b := by
  rcases h with h | ⟨_, _, _, w⟩
  · cases h; rfl
  · cases w
theorem RepX.int {i : Int} (h : RepX K cl O H v (.int i)) : v = .int i := by
  rcases h with h | ⟨_, _, _, w⟩
  · cases h; rfl
  · cases w
theorem RepX.str {l : List Nat} (h : RepX K cl O H v (.str l)) : v = .str (sOf l) := by
  rcases h with h | ⟨_, _, _, w⟩
  · cases h; rfl
  · cases w
theorem RepX.lst {ds : List IV} (h : RepX K cl O H v (.lst ds)) : ∃ a vs, v = .ref a ∧ SqL K H a vs ∧ RepAll K cl O H vs ds := by
  rcases h with h | ⟨a, rfl, _, w⟩
  · exact h.lstI
  · cases w with
    | lst h r => exact ⟨a, _, rfl, SqL.of h, r⟩
theorem RepX.tup {ds : List IV} (h : RepX K cl O H v (.tup ds)) : ∃ a vs, v = .ref a ∧ SqT K H a vs ∧ RepAll K cl O H vs ds := by
  rcases h with h | ⟨a, rfl, _, w⟩
  · exact h.tupI
  · cases w
theorem RepX.tupR {ds : List IV} (h : RepX K cl O H v (.tup ds)) : Rep K cl O H v (.tup ds) := by
  rcases h with h | ⟨a, rfl, _, w⟩
  · exact h
  · cases w
theorem notin_of {p : Addr} (live : ∀ a ∈ O, H a ≠ none) (hp : H p = none) : p ∉ O := fun z => live p z hp
/-- a new list, a new tuple -/
theorem rep_newL {p : Addr} {vs : List V} {ds : List IV} (live : ∀ a ∈ O, H a ≠ none) (hp : H p = none) (r : RepAll K cl O H vs ds) : Rep K cl O (upd H p (.lst vs)) (.ref p) (.lst ds) :=
  .lstH (.inl upd_same) (notin_of live hp) (r.keep (.same (same_new hp)))
theorem rep_newT {p : Addr} {vs : List V} {ds : List IV} (live : ∀ a ∈ O, H a ≠ none) (hp : H p = none) (r : RepAll K cl O H vs ds) : Rep K cl O (upd H p (.tup vs)) (.ref p) (.tup ds) :=
  .tupH (.inl upd_same) (notin_of live hp) (r.keep (.same (same_new hp)))
theorem repAll_strs : ∀ ts : List (List Nat), RepAll K cl O H (ts.map fun t => V.str (sOf t)) (ts.map IV.str)
  | [] => .nil
  | t :: ts => .cons (.str t) (repAll_strs ts)
theorem RepAll.rep : ∀ {n : Nat} {vs : List V} {ds : List IV}, RepAll K cl O H vs ds → RepAll K cl O H (List.replicate n vs).flatten (List.replicate n ds).flatten
  | 0, _, _, _ => .nil
  | n + 1, _, _, r => by
    rw [List.replicate_succ, List.replicate_succ, List.flatten_cons, List.flatten_cons]
    exact r.append (RepAll.rep r)
end
/-- what an operation of two data gives -/
def r2D (K : PySem.W.Frag) (cl : Nat → Option Addr) (f : IV → IV → Option IV) : R2 := fun x y H Q =>
  ∃ O dx dy d, (∀ a ∈ O, H a ≠ none) ∧ RepX K cl O H x dx ∧ RepX K cl O H y dy ∧ f dx dy = some d ∧ ∀ v H', Same H H' → Rep K cl O H' v d → Q v H'
section
variable {X : Cx} {cl : Nat → Option Addr}
theorem szl {n : Nat} (h : n ≤ SZ) : n ≤ sizeLine := by rw [sizeLine_eq]; exact h
theorem op_catL : OpR X (binaryOp .Add) (fun x y H Q => ∃ a b xs ys, x = .ref a ∧ y = .ref b ∧ SqL X.K H a xs ∧ SqL X.K H b ys ∧ xs.length + ys.length ≤ sizeLine ∧ ∀ p, H p = none → Q (.ref p) (upd H p (.lst (xs ++ ys)))) := by
  intro pins s σ H x y v u Q I rx ry h
  obtain ⟨a, b, xs, ys, rfl, rfl, ha, hb, hz, q⟩ := h
  cases rx
  cases ry
  obtain ⟨its, r1, p1, _⟩ := I.list ha
  obtain ⟨jts, r2, p2, _⟩ := I.list hb
  obtain ⟨⟨c1, d1, t1, s1⟩, n1, ho1, hc1, hd1, ht1⟩ := id p1
  obtain ⟨⟨c2, d2, t2, s2⟩, n2, ho2, hc2, hd2, ht2⟩ := id p2
  simp only at hc1 hd1 ht1 hc2 hd2 ht2
  subst hc1 hd1 ht1 hc2 hd2 ht2
  have l1 := r1.length
  have l2 := r2.length
  refine concat_meets ⟨_, ho1, rfl⟩ ⟨_, ho2, rfl⟩ noFill_list_add seq_list_add PySem.F.slot_list_add PySem.F.entry_list_add (PySem.F.args_list_add_2 _ _)
    (list_addW a b its.toArray jts.toArray n1 n2 none none s1 s2 (by rw [List.size_toArray, List.size_toArray]; omega)) ⟨ho1, ho2, ?_⟩
  rw [show its.toArray ++ jts.toArray = (its ++ jts).toArray by simp]
  exact ⟨.ref _, _, I.lnew (t' := s.toks) (r1.append r2) (by rw [List.length_append]; omega), rfl, q _ I.fresh⟩
theorem opD_add : OpR X (binaryOp .Add) (r2D X.K cl addD) := by
  intro pins s σ H x y v u Q I rx ry h
  obtain ⟨O, dx, dy, d, live, hx, hy, hf, k⟩ := h
  unfold addD at hf
  split at hf
  · cases hf
    exact op_add pins s σ H x y v u Q I rx ry ⟨_, _, hx.int, hy.int, k _ _ (Same.refl H) (.int _)⟩
  · split at hf
    · rename_i hz
      cases hf
      refine op_add_str pins s σ H x y v u Q I rx ry ⟨_, _, hx.str, hy.str, ?_, k _ _ (Same.refl H) ?_⟩
      · rw [sOf_len, sOf_len]; exact szl hz
      · rename_i a b
        have e : sOf a ++ sOf b = sOf (a ++ b) := TL.ext_tl (by rw [TL.tl_append]; show (sOf a).cps.toList ++ (sOf b).cps.toList = (sOf (a ++ b)).cps.toList; rw [sOf_list, sOf_list, sOf_list])
        rw [e]
        exact .str _
    · cases hf
  · split at hf
    · rename_i hz
      cases hf
      obtain ⟨a, xs, rfl, ha, ra⟩ := hx.lst
      obtain ⟨b, ys, rfl, hb, rb⟩ := hy.lst
      exact op_catL pins s σ H _ _ v u Q I rx ry ⟨a, b, xs, ys, rfl, rfl, ha, hb, szl (by rw [ra.length, rb.length]; exact hz), fun p hp => k _ _ (same_new hp) (rep_newL live hp (ra.append rb))⟩
    · cases hf
  · split at hf
    · rename_i hz
      cases hf
      have hx' := hx.tupR
      have hy' := hy.tupR
      obtain ⟨a, xs, rfl, ha, ra⟩ := hx.tup
      obtain ⟨b, ys, rfl, hb, rb⟩ := hy.tup
      refine op_catA pins s σ H _ _ v u Q I rx ry ⟨a, b, xs, ys, rfl, rfl, ha, hb, szl (by rw [ra.length, rb.length]; exact hz), fun e => ?_, fun _ e => ?_, fun _ _ p hp => k _ _ (same_new hp) (rep_newT live hp (ra.append rb))⟩
      · subst e
        cases ra
        exact k _ _ (Same.refl H) hy'
      · subst e
        cases rb
        rw [List.append_nil] at k
        exact k _ _ (Same.refl H) hx'
    · cases hf
  all_goals cases hf
theorem opD_sub : OpR X (binaryOp .Sub) (r2D X.K cl subD) := by
  intro pins s σ H x y v u Q I rx ry h
  obtain ⟨O, dx, dy, d, live, hx, hy, hf, k⟩ := h
  unfold subD at hf
  split at hf
  rotate_left
  · cases hf
  cases hf
  exact op_sub pins s σ H x y v u Q I rx ry ⟨_, _, hx.int, hy.int, k _ _ (Same.refl H) (.int _)⟩
theorem mulOk_c {i j : Int} (h : mulOk i j = true) : CMul i j := by
  unfold mulOk at h
  simp only [Bool.or_eq_true, Bool.and_eq_true, decide_eq_true_eq] at h
  exact h
theorem cat_rep (x : Array Nat) : ∀ (n : Nat) (acc : Array Nat), ((List.replicate n x).foldl (· ++ ·) acc).toList = acc.toList ++ (List.replicate n x.toList).flatten
  | 0, acc => by simp
  | n + 1, acc => by
    rw [List.replicate_succ, List.foldl_cons, cat_rep x n, List.replicate_succ, List.flatten_cons]
    simp
theorem notLong {n : Nat} (h : n ≤ sizeLine) : Builtin.Str.tooLong n = false := by
  unfold Builtin.Str.tooLong
  exact decide_eq_false (by omega)
theorem op_repS : OpR X (binaryOp .Mult) (fun x y H Q => ∃ (z : List Nat) (n : Int), x = .str (sOf z) ∧ y = .int n ∧ 1 ≤ n ∧ n ≤ SZ ∧ z ≠ [] ∧ z.length * n.toNat ≤ SZ ∧ Q (.str (sOf (List.replicate n.toNat z).flatten)) H) := by
  intro pins s σ H x y v u Q I rx ry h
  obtain ⟨z, n, rfl, rfl, h1, h2, h3, h4, q⟩ := h
  obtain ⟨t, rfl⟩ := rx
  obtain ⟨t', rfl⟩ := ry
  have hl : (sOf z).length = z.length := sOf_len z
  have hb : (n : Int) ≤ 16777216 := h2
  refine PySem.P.mul_str ?_ (fun _ _ => ?_) (fun _ _ => ?_) ?_
  · rw [decide_eq_false (by omega), decide_eq_false (by omega)]; rfl
  · rw [hl]
    have e : z.length ≤ 16777216 := by
      have : z.length * 1 ≤ z.length * n.toNat := Nat.mul_le_mul_left _ (by omega)
      have h4' : z.length * n.toNat ≤ 16777216 := h4
      omega
    have : (16777216 : Int) ≤ (2 ^ 63 - 1) / n := (Int.le_ediv_iff_mul_le (by omega)).mpr (by omega)
    omega
  · rw [hl]
    have h4' : z.length * n.toNat ≤ 16777216 := h4
    exact notLong (szl h4)
  · rw [if_neg (by omega)]
    by_cases h5 : (n == 1 || (sOf z).length == 0) = true
    · rw [if_pos h5]
      have e1 : n = 1 := by
        rw [hl] at h5
        rcases Bool.or_eq_true_iff.mp h5 with e | e
        · simpa using e
        · have : z.length = 0 := by simpa using e
          exact absurd (List.length_eq_zero_iff.mp this) h3
      subst e1
      refine ⟨.str (sOf z), H, I, ⟨t, rfl⟩, ?_⟩
      have e2 : (List.replicate (1 : Int).toNat z).flatten = z := by simp
      rw [e2] at q
      exact q
    · rw [if_neg h5]
      have e5 : (⟨(List.replicate n.toNat (sOf z).cps).foldl (· ++ ·) #[]⟩ : Str) = sOf (List.replicate n.toNat z).flatten := by
        refine TL.ext_tl ?_
        show ((List.replicate n.toNat (sOf z).cps).foldl (· ++ ·) #[]).toList = (sOf _).cps.toList
        rw [cat_rep, sOf_list, sOf_list]
        simp
      rw [e5]
      refine ⟨?_, .str (sOf (List.replicate n.toNat z).flatten), H, I.tok _, ⟨s.toks, rfl⟩, q⟩
      rw [sOf_len]
      refine szl ?_
      simp only [List.length_flatten, List.map_replicate, List.sum_replicate_nat]
      rw [Nat.mul_comm]
      exact h4
end
end Mx


/-! Mx, part 3b: the operations are those of the model. -/
namespace Mx
open PySem PySem.Spec PyProof.Rows L2
section
variable {X : Cx} {cl : Nat → Option Addr}
theorem valsRep : ∀ {n : Nat} {vs : List V} {us : List Value}, Vals vs us → Vals (List.replicate n vs).flatten (List.replicate n us).flatten
  | 0, _, _, _ => .nil
  | n + 1, _, _, r => by
    rw [List.replicate_succ, List.replicate_succ, List.flatten_cons, List.flatten_cons]
    exact r.append (valsRep r)
theorem op_repL : OpR X (binaryOp .Mult) (fun x y H Q => ∃ l k xs, x = .ref l ∧ y = .int k ∧ SqL X.K H l xs ∧ 0 ≤ k ∧ k ≤ SZ ∧ xs.length * k.toNat ≤ SZ ∧ ∀ p, H p = none → Q (.ref p) (upd H p (.lst (List.replicate k.toNat xs).flatten))) := by
  intro pins s σ H x y v u Q I rx ry h
  obtain ⟨l, k, xs, rfl, rfl, hH, h1, h2, hz, q⟩ := h
  cases rx
  obtain ⟨t, rfl⟩ := ry
  obtain ⟨its, r1, p1, _⟩ := I.list hH
  obtain ⟨⟨c1, d1, t1, s1⟩, n1, ho1, hc1, hd1, ht1⟩ := id p1
  simp only at hc1 hd1 ht1
  subst hc1 hd1 ht1
  have l1 := r1.length
  have hk : (k : Int) ≤ 16777216 := h2
  have hz' : its.toArray.size * k.toNat ≤ 2 ^ 24 := by rw [List.size_toArray, ← l1]; exact hz
  refine wpAny_binaryOp_repeat_ref (T := "list") (U := "int") (by decide) ⟨_, ho1, rfl⟩ (fun s' => typeIs_int s' k t) noFill_list_mul F.fills_int_mul F.slot_int_rmul repeat_list F.slot_int_index.lookup
    (call_meets F.slot_int_rmul (typeIs_int s k t) F.entry_int_rmul (F.args_int_rmul_2 _ _) (lm_int_rmul_list_any k t l its.toArray n1 none s1)
      ⟨ho1, rfl, ⟨_, ho1, rfl⟩, call_meets F.slot_list_mul ⟨_, ho1, rfl⟩ F.entry_list_mul (F.args_list_mul_2 _ _)
        (lm_list_mul_any l its.toArray n1 none s1 k t (by simp [Builtin.List.listFitsIndex]; omega) (by omega) (by simp [Builtin.List.listTooLong, sizeLine]; omega)) ⟨ho1, ?_⟩⟩)
  rw [listMul_foldl_if]
  exact ⟨.ref _, _, I.lnew (t' := s.toks) (valsRep r1) (by rw [PyProof.Rows.lm_len_rep_flat, Nat.mul_comm]; exact szl hz), rfl, q _ I.fresh⟩
theorem opD_mul : OpR X (binaryOp .Mult) (r2D X.K cl mulD) := by
  intro pins s σ H x y v u Q I rx ry h
  obtain ⟨O, dx, dy, d, live, hx, hy, hf, k⟩ := h
  unfold mulD at hf
  split at hf
  · split at hf
    · rename_i hz
      cases hf
      exact op_mul pins s σ H x y v u Q I rx ry ⟨_, _, hx.int, hy.int, mulOk_c hz, k _ _ (Same.refl H) (.int _)⟩
    · cases hf
  · split at hf
    · rename_i hz
      cases hf
      obtain ⟨h1, h2, h3, h4⟩ := hz
      exact op_repS pins s σ H x y v u Q I rx ry ⟨_, _, hx.str, hy.int, h1, h2, h3, h4, k _ _ (Same.refl H) (.str _)⟩
    · cases hf
  · split at hf
    · rename_i hz
      cases hf
      obtain ⟨h1, h2, h3⟩ := hz
      obtain ⟨a, xs, rfl, ha, ra⟩ := hx.lst
      exact op_repL pins s σ H _ y v u Q I rx ry ⟨a, _, xs, rfl, hy.int, ha, h1, h2, by rw [ra.length]; exact h3, fun p hp => k _ _ (same_new hp) (rep_newL live hp ra.rep)⟩
    · cases hf
  · cases hf
theorem opD_fdiv : OpR X (binaryOp .FloorDiv) (r2D X.K cl fdivD) := by
  intro pins s σ H x y v u Q I rx ry h
  obtain ⟨O, dx, dy, d, live, hx, hy, hf, k⟩ := h
  unfold fdivD at hf
  split at hf
  · split at hf
    · rename_i hz
      cases hf
      exact op_fdiv pins s σ H x y v u Q I rx ry ⟨_, _, hx.int, hy.int, hz, k _ _ (Same.refl H) (.int _)⟩
    · cases hf
  · cases hf
theorem opD_mod : OpR X (binaryOp .Mod) (r2D X.K cl modD) := by
  intro pins s σ H x y v u Q I rx ry h
  obtain ⟨O, dx, dy, d, live, hx, hy, hf, k⟩ := h
  unfold modD at hf
  split at hf
  · split at hf
    · rename_i hz
      cases hf
      exact op_mod pins s σ H x y v u Q I rx ry ⟨_, _, hx.int, hy.int, hz, k _ _ (Same.refl H) (.int _)⟩
    · cases hf
  · cases hf
theorem opD_pow : OpR X (binaryOp .Pow) (r2D X.K cl powD) := by
  intro pins s σ H x y v u Q I rx ry h
  obtain ⟨O, dx, dy, d, live, hx, hy, hf, k⟩ := h
  unfold powD at hf
  split at hf
  · split at hf
    · rename_i hz
      cases hf
      exact op_pow pins s σ H x y v u Q I rx ry ⟨_, _, hx.int, hy.int, ⟨hz.1, hz.2.1, hz.2.2⟩, k _ _ (Same.refl H) (.int _)⟩
    · cases hf
  · cases hf
def opOf : BOp → Operator
  | .add => .Add
  | .sub => .Sub
  | .mul => .Mult
  | .fdiv => .FloorDiv
  | .mod => .Mod
  | .pow => .Pow
theorem opD (o : BOp) : OpR X (binaryOp (opOf o)) (r2D X.K cl (binD o)) := by
  cases o
  · exact opD_add
  · exact opD_sub
  · exact opD_mul
  · exact opD_fdiv
  · exact opD_mod
  · exact opD_pow
/-! ### comparisons -/
section
variable {K : PySem.W.Frag} {O : List Addr} {H : Hp}
mutual
theorem Rep.dp : ∀ {v : V} {d : IV} {p : PyData}, Rep K cl O H v d → d.toP = some p → Dp K H v p
  | _, _, _, .non, e => by cases e; exact .non
  | _, _, _, .bl b, e => by cases e; exact .bl b
  | _, _, _, .int i, e => by cases e; exact .int i
  | _, _, _, .str l, e => by cases e; exact .str _
  | _, _, _, .tupH (ds := ds) h n r, e => by
    unfold IV.toP at e
    split at e
    · rename_i ps hps; cases e; exact .tup (.inl h) (RepAll.dp r hps)
    · cases e
  | _, _, _, .tupK h r, e => by
    unfold IV.toP at e
    split at e
    · rename_i ps hps; cases e; exact .tup (SqT.ofK h) (RepAll.dp r hps)
    · cases e
  | _, _, _, .lstH h n r, e => by
    unfold IV.toP at e
    split at e
    · rename_i ps hps; cases e; exact .lst (.inl h) (RepAll.dp r hps)
    · cases e
  | _, _, _, .lstK h r, e => by
    unfold IV.toP at e
    split at e
    · rename_i ps hps; cases e; exact .lst (SqL.ofK h) (RepAll.dp r hps)
    · cases e
  | _, _, _, .dctH _ _ _ _, e => by cases e
  | _, _, _, .insH _ _ _ _ _, e => by cases e
  | _, _, _, .exc _ _ _ _ _ _, e => by cases e
theorem RepAll.dp : ∀ {vs : List V} {ds : List IV} {ps : List PyData}, RepAll K cl O H vs ds → IV.toPs ds = some ps → DpAll K H vs ps
  | _, _, _, .nil, e => by cases e; exact .nil
  | _, _, _, .cons r t, e => by
    unfold IV.toPs at e
    split at e
    · rename_i p ps hp hps; cases e; exact .cons (Rep.dp r hp) (RepAll.dp t hps)
    · cases e
end
theorem RepX.dp {v : V} {d : IV} {p : PyData} (h : RepX K cl O H v d) (e : d.toP = some p) : Dp K H v p := by
  rcases h with h | ⟨a, rfl, _, w⟩
  · exact h.dp e
  · cases w with
    | lst h r =>
      unfold IV.toP at e
      split at e
      · rename_i ps hps; cases e; exact .lst (SqL.of h) (r.dp hps)
      · cases e
    | ins _ _ _ _ => cases e
end
theorem decI {i j : Int} : decide (V.int i = V.int j) = decide (i = j) := by
  by_cases h : i = j
  · rw [decide_eq_true h, decide_eq_true (by rw [h])]
  · rw [decide_eq_false h, decide_eq_false fun z => h (V.int.inj z)]
theorem decS {a b : List Nat} : decide (V.str (sOf a) = V.str (sOf b)) = decide (a = b) := by
  by_cases h : a = b
  · rw [decide_eq_true h, decide_eq_true (by rw [h])]
  · rw [decide_eq_false h, decide_eq_false fun z => h (sOf_inj (V.str.inj z))]
theorem decB {a b : Bool} : decide (V.bl a = V.bl b) = decide (a = b) := by
  cases a <;> cases b <;> rfl
theorem eq_core {O : List Addr} {H : Hp} {x y : V} {dx dy : IV} {b : Bool} {K : PySem.W.Frag} (hx : RepX K cl O H x dx) (hy : RepX K cl O H y dy) (hf : eqD dx dy = some b) :
    (scal x y = true ∧ decide (x = y) = b) ∨ ∃ d e, Dp K H x d ∧ Dp K H y e ∧ SeqAt.shaped d = true ∧ SeqAt.shaped e = true ∧ PyData.eqv d e = b := by
  unfold eqD at hf
  split at hf
  · cases hf; rw [hx.int, hy.int]; exact .inl ⟨rfl, decI⟩
  · cases hf; rw [hx.str, hy.str]; exact .inl ⟨rfl, decS⟩
  · cases hf; rw [hx.bl, hy.bl]; exact .inl ⟨rfl, decB⟩
  · cases hf; rw [hx.non, hy.non]; exact .inl ⟨rfl, rfl⟩
  · cases hf; rw [hx.non, hy.int]; exact .inl ⟨rfl, decide_eq_false fun z => nomatch z⟩
  · cases hf; rw [hx.int, hy.non]; exact .inl ⟨rfl, decide_eq_false fun z => nomatch z⟩
  · cases hf; rw [hx.non, hy.str]; exact .inl ⟨rfl, decide_eq_false fun z => nomatch z⟩
  · cases hf; rw [hx.str, hy.non]; exact .inl ⟨rfl, decide_eq_false fun z => nomatch z⟩
  · cases hf; rw [hx.int, hy.str]; exact .inl ⟨rfl, decide_eq_false fun z => nomatch z⟩
  · cases hf; rw [hx.str, hy.int]; exact .inl ⟨rfl, decide_eq_false fun z => nomatch z⟩
  · split at hf
    · rename_i p q hp hq
      split at hf
      · rename_i hs
        cases hf
        exact .inr ⟨p, q, hx.dp hp, hy.dp hq, hs.1, hs.2, rfl⟩
      · cases hf
    · cases hf
theorem opD_eq (hu : X.A.units + 64 < cLine) : OpR X (compareOp .Eq) (r2D X.K cl fun x y => (eqD x y).map .bl) := by
  intro pins s σ H x y v u Q I rx ry h
  obtain ⟨O, dx, dy, d, live, hx, hy, hf, k⟩ := h
  obtain ⟨b, hb, rfl⟩ := Option.map_eq_some_iff.mp hf
  have q := k _ _ (Same.refl H) (.bl b)
  rcases eq_core hx hy hb with ⟨h1, h2⟩ | ⟨d, e, h1, h2, h3, h4, h5⟩
  · exact op_eq pins s σ H x y v u Q I rx ry ⟨h1, by rw [h2]; exact q⟩
  · exact op_eqD hu pins s σ H x y v u Q I rx ry ⟨d, e, h1, h2, h3, h4, by rw [h5]; exact q⟩
theorem opD_ne (hu : X.A.units + 64 < cLine) : OpR X (compareOp .NotEq) (r2D X.K cl fun x y => (neD x y).map .bl) := by
  intro pins s σ H x y v u Q I rx ry h
  obtain ⟨O, dx, dy, d, live, hx, hy, hf, k⟩ := h
  obtain ⟨b, hb, rfl⟩ := Option.map_eq_some_iff.mp hf
  have q := k _ _ (Same.refl H) (.bl b)
  unfold neD at hb
  obtain ⟨c, hc, rfl⟩ := Option.map_eq_some_iff.mp hb
  rcases eq_core hx hy hc with ⟨h1, h2⟩ | ⟨d, e, h1, h2, h3, h4, h5⟩
  · exact op_ne pins s σ H x y v u Q I rx ry ⟨h1, by rw [h2]; exact q⟩
  · exact op_neD hu pins s σ H x y v u Q I rx ry ⟨d, e, h1, h2, h3, h4, by rw [h5]; exact q⟩
theorem opD_lt : OpR X (compareOp .Lt) (r2D X.K cl fun x y => (ltD x y).map .bl) := by
  intro pins s σ H x y v u Q I rx ry h
  obtain ⟨O, dx, dy, d, live, hx, hy, hf, k⟩ := h
  obtain ⟨b, hb, rfl⟩ := Option.map_eq_some_iff.mp hf
  unfold ltD at hb
  split at hb
  · cases hb
    exact op_lt pins s σ H x y v u Q I rx ry ⟨_, _, hx.int, hy.int, k _ _ (Same.refl H) (.bl _)⟩
  · cases hb
theorem opD_le : OpR X (compareOp .LtE) (r2D X.K cl fun x y => (leD x y).map .bl) := by
  intro pins s σ H x y v u Q I rx ry h
  obtain ⟨O, dx, dy, d, live, hx, hy, hf, k⟩ := h
  obtain ⟨b, hb, rfl⟩ := Option.map_eq_some_iff.mp hf
  unfold leD at hb
  split at hb
  · cases hb
    exact op_le pins s σ H x y v u Q I rx ry ⟨_, _, hx.int, hy.int, k _ _ (Same.refl H) (.bl _)⟩
  · cases hb
theorem opD_gt : OpR X (compareOp .Gt) (r2D X.K cl fun x y => (gtD x y).map .bl) := by
  intro pins s σ H x y v u Q I rx ry h
  obtain ⟨O, dx, dy, d, live, hx, hy, hf, k⟩ := h
  obtain ⟨b, hb, rfl⟩ := Option.map_eq_some_iff.mp hf
  unfold gtD at hb
  split at hb
  · cases hb
    exact op_gt pins s σ H x y v u Q I rx ry ⟨_, _, hx.int, hy.int, k _ _ (Same.refl H) (.bl _)⟩
  · cases hb
theorem opD_ge : OpR X (compareOp .GtE) (r2D X.K cl fun x y => (geD x y).map .bl) := by
  intro pins s σ H x y v u Q I rx ry h
  obtain ⟨O, dx, dy, d, live, hx, hy, hf, k⟩ := h
  obtain ⟨b, hb, rfl⟩ := Option.map_eq_some_iff.mp hf
  unfold geD at hb
  split at hb
  · cases hb
    exact op_ge pins s σ H x y v u Q I rx ry ⟨_, _, hx.int, hy.int, k _ _ (Same.refl H) (.bl _)⟩
  · cases hb
theorem is_core {O : List Addr} {H : Hp} {x y : V} {dx dy : IV} {b : Bool} {K : PySem.W.Frag} (hx : RepX K cl O H x dx) (hy : RepX K cl O H y dy) (hf : isD dx dy = some b) : y = .non ∧ decide (x = .non) = b := by
  unfold isD at hf
  split at hf
  · cases hf; rw [hx.non, hy.non]; exact ⟨rfl, rfl⟩
  · cases hf
    rename_i h0
    refine ⟨hy.non, decide_eq_false fun e => ?_⟩
    subst e
    rcases hx with h | ⟨_, e, _⟩
    · cases h; exact h0 rfl
    · cases e
  · cases hf
theorem opD_is : OpR X (compareOp .Is) (r2D X.K cl fun x y => (isD x y).map .bl) := by
  intro pins s σ H x y v u Q I rx ry h
  obtain ⟨O, dx, dy, d, live, hx, hy, hf, k⟩ := h
  obtain ⟨b, hb, rfl⟩ := Option.map_eq_some_iff.mp hf
  obtain ⟨h1, h2⟩ := is_core hx hy hb
  exact op_isN pins s σ H x y v u Q I rx ry ⟨h1, by rw [h2]; exact k _ _ (Same.refl H) (.bl b)⟩
theorem opD_isnt : OpR X (compareOp .IsNot) (r2D X.K cl fun x y => (isntD x y).map .bl) := by
  intro pins s σ H x y v u Q I rx ry h
  obtain ⟨O, dx, dy, d, live, hx, hy, hf, k⟩ := h
  obtain ⟨b, hb, rfl⟩ := Option.map_eq_some_iff.mp hf
  unfold isntD at hb
  obtain ⟨c, hc, rfl⟩ := Option.map_eq_some_iff.mp hb
  obtain ⟨h1, h2⟩ := is_core hx hy hc
  exact op_notN pins s σ H x y v u Q I rx ry ⟨h1, by rw [h2]; exact k _ _ (Same.refl H) (.bl _)⟩
section
variable {K : PySem.W.Frag} {O : List Addr} {H : Hp}
theorem Rep.flat {v : V} {d : IV} (h : Rep K cl O H v d) (e : flatD d = true) : flatV v = true := by
  cases h <;> first | rfl | cases e
theorem RepX.repF {v : V} {d : IV} (h : RepX K cl O H v d) (e : flatD d = true) : Rep K cl O H v d := by
  rcases h with h | ⟨_, _, _, w⟩
  · exact h
  · cases w <;> cases e
theorem Rep.eqF {v w : V} {d e : IV} (h : Rep K cl O H v d) (h' : Rep K cl O H w e) (f : flatD d = true) (f' : flatD e = true) : eqV v w = eqF d e := by
  have hs : ∀ a b : List Nat, (sOf a == sOf b) = decide (a = b) := fun a b => by
    by_cases z : a = b
    · subst z; simp
    · rw [decide_eq_false z]
      exact beq_eq_false_iff_ne.mpr fun q => z (sOf_inj q)
  cases h <;> cases h' <;> first | rfl | exact hs _ _ | (cases f; done) | (cases f'; done)
theorem RepAll.anyF {w : V} {e : IV} (h' : Rep K cl O H w e) (f' : flatD e = true) : ∀ {vs : List V} {ds : List IV}, RepAll K cl O H vs ds → ds.all flatD = true → vs.all flatV = true ∧ (vs.any fun y => eqV y w) = (ds.any fun y => Mx.eqF y e)
  | _, _, .nil, _ => ⟨rfl, rfl⟩
  | _, _, .cons r t, f => by
    rw [List.all_cons, Bool.and_eq_true] at f
    obtain ⟨h1, h2⟩ := RepAll.anyF h' f' t f.2
    rw [List.all_cons, List.any_cons, List.any_cons, h1, h2, r.flat f.1, r.eqF h' f.1 f']
    exact ⟨rfl, rfl⟩
end
theorem in_core {O : List Addr} {H : Hp} {x y : V} {dx dy : IV} {b : Bool} {K : PySem.W.Frag} (hx : RepX K cl O H x dx) (hy : RepX K cl O H y dy) (hf : inD dx dy = some b) :
    (∃ (c : Nat) (z : Str), x = .str ⟨#[c]⟩ ∧ y = .str z ∧ decide (c ∈ z.cps.toList) = b) ∨ ∃ p xs, y = .ref p ∧ (SqL K H p xs ∨ SqT K H p xs) ∧ flatV x = true ∧ xs.all flatV = true ∧ inV x xs = b := by
  unfold inD at hf
  split at hf
  · rename_i l
    split at hf
    · rename_i c
      cases hf
      exact .inl ⟨c, sOf l, hx.str, hy.str, by rw [sOf_list]⟩
    · cases hf
  · split at hf
    · rename_i hz
      cases hf
      obtain ⟨a, xs, rfl, ha, ra⟩ := hy.tup
      have rx := hx.repF hz.1
      obtain ⟨h1, h2⟩ := ra.anyF rx hz.1 hz.2
      exact .inr ⟨a, xs, rfl, .inr ha, rx.flat hz.1, h1, h2⟩
    · cases hf
  · split at hf
    · rename_i hz
      cases hf
      obtain ⟨a, xs, rfl, ha, ra⟩ := hy.lst
      have rx := hx.repF hz.1
      obtain ⟨h1, h2⟩ := ra.anyF rx hz.1 hz.2
      exact .inr ⟨a, xs, rfl, .inl ha, rx.flat hz.1, h1, h2⟩
    · cases hf
  · cases hf
theorem opD_in : OpR X (compareOp .In) (r2D X.K cl fun x y => (inD x y).map .bl) := by
  intro pins s σ H x y v u Q I rx ry h
  obtain ⟨O, dx, dy, d, live, hx, hy, hf, k⟩ := h
  obtain ⟨b, hb, rfl⟩ := Option.map_eq_some_iff.mp hf
  have q := k _ _ (Same.refl H) (.bl b)
  rcases in_core hx hy hb with ⟨c, z, h1, h2, h3⟩ | ⟨p, xs, h1, h2, h3, h4, h5⟩
  · exact op_in_sign pins s σ H x y v u Q I rx ry ⟨c, z, h1, h2, by rw [h3]; exact q⟩
  · exact op_in_seq pins s σ H x y v u Q I rx ry ⟨p, xs, h1, h2, h3, h4, by rw [if_neg Bool.false_ne_true, h5]; exact q⟩
theorem opD_nin : OpR X (compareOp .NotIn) (r2D X.K cl fun x y => (ninD x y).map .bl) := by
  intro pins s σ H x y v u Q I rx ry h
  obtain ⟨O, dx, dy, d, live, hx, hy, hf, k⟩ := h
  obtain ⟨b, hb, rfl⟩ := Option.map_eq_some_iff.mp hf
  have q := k _ _ (Same.refl H) (.bl b)
  unfold ninD at hb
  obtain ⟨b, hc, rfl⟩ := Option.map_eq_some_iff.mp hb
  rcases in_core hx hy hc with ⟨c, z, h1, h2, h3⟩ | ⟨p, xs, h1, h2, h3, h4, h5⟩
  · exact op_notIn_sign pins s σ H x y v u Q I rx ry ⟨c, z, h1, h2, by rw [h3]; exact q⟩
  · exact op_notIn_seq pins s σ H x y v u Q I rx ry ⟨p, xs, h1, h2, h3, h4, by rw [if_pos rfl, h5]; exact q⟩
def copOf : COp → CmpOp
  | .eq => .Eq
  | .ne => .NotEq
  | .lt => .Lt
  | .le => .LtE
  | .gt => .Gt
  | .ge => .GtE
  | .isin => .In
  | .notin => .NotIn
  | .is => .Is
  | .isnt => .IsNot
theorem copD (hu : X.A.units + 64 < cLine) (o : COp) : OpR X (compareOp (copOf o)) (r2D X.K cl fun x y => (cmpD o x y).map .bl) := by
  cases o
  · exact opD_eq hu
  · exact opD_ne hu
  · exact opD_lt
  · exact opD_le
  · exact opD_gt
  · exact opD_ge
  · exact opD_in
  · exact opD_nin
  · exact opD_is
  · exact opD_isnt
end
end Mx


/-! Mx, part 3c: subscripts, slices, truth, built-in functions and methods. -/
namespace Mx
open PySem PySem.Spec PyProof.Rows L2
section
variable {X : Cx} {cl : Nat → Option Addr} {K : PySem.W.Frag} {O : List Addr} {H : Hp}
theorem RepAll.atI {vs : List V} {ds : List IV} {i : Int} {d : IV} (r : RepAll K cl O H vs ds) (h : L2.atI ds i = some d) : ∃ v, L2.atI vs i = some v ∧ Rep K cl O H v d := by
  unfold L2.atI at h ⊢
  rw [r.length]
  cases e : ixN ds.length i with
  | none => rw [e] at h; cases h
  | some j =>
    rw [e] at h
    exact r.get h
theorem ixD_ok : IxR X (r2D X.K cl ixD) := by
  intro value slice pins s σ H x y v u Q I rx ry h hs
  obtain ⟨O, dx, dy, d, live, hx, hy, hf, k⟩ := h
  unfold ixD at hf
  split at hf
  · split at hf
    · rename_i l i hz
      obtain ⟨c, hc, rfl⟩ := Option.map_eq_some_iff.mp hf
      exact ix_str value slice pins s σ H x y v u Q I rx ry ⟨sOf l, i, c, hx.str, hy.int, szl (by rw [sOf_len]; exact hz), by rw [sOf_list]; exact hc, k _ _ (Same.refl H) (.str [c])⟩ hs
    · cases hf
  · obtain ⟨a, xs, rfl, ha, ra⟩ := hx.lst
    obtain ⟨w, hw, rw'⟩ := ra.atI hf
    exact ix_list value slice pins s σ H _ y v u Q I rx ry ⟨a, xs, _, w, rfl, hy.int, ha, hw, k _ _ (Same.refl H) rw'⟩ hs
  · obtain ⟨a, xs, rfl, ha, ra⟩ := hx.tup
    obtain ⟨w, hw, rw'⟩ := ra.atI hf
    exact ix_tup value slice pins s σ H _ y v u Q I rx ry ⟨a, xs, _, w, rfl, hy.int, ha, hw, k _ _ (Same.refl H) rw'⟩ hs
  · cases hf
theorem RepAll.cut {vs : List V} {ds : List IV} (r : RepAll K cl O H vs ds) (lo hi : Option Int) : RepAll K cl O H (cutV vs lo hi) (cutL ds lo hi) := by
  unfold cutV cutL
  rw [r.length]
  exact (r.drop _).take _
theorem cutS_eq (l : List Nat) (lo hi : Option Int) : cutS (sOf l) lo hi = sOf (cutL l lo hi) := by
  unfold cutS cutL
  rw [sOf_list, sOf_len]
  rfl
def rSlD (K : PySem.W.Frag) (cl : Nat → Option Addr) : V → Option Int → Option Int → Hp → VK → Prop := fun x lo hi H Q =>
  ∃ O dx d, (∀ a ∈ O, H a ≠ none) ∧ RepX K cl O H x dx ∧ slD dx lo hi = some d ∧ ∀ v H', Same H H' → Rep K cl O H' v d → Q v H'
theorem slD_ok : L2.SlR X (rSlD X.K cl) := by
  intro pins s σ H x v vl vu lo hi sl Q I rx hs pl pu h
  obtain ⟨O, dx, d, live, hx, hf, k⟩ := h
  unfold slD at hf
  split at hf
  · split at hf
    · rename_i hz
      cases hf
      refine sl_str pins s σ H x v vl vu _ _ sl Q I rx hs pl pu ⟨_, hx.str, szl (by rw [sOf_len]; exact hz), ?_⟩
      rw [cutS_eq]
      exact k _ _ (Same.refl H) (.str _)
    · cases hf
  · cases hf
    obtain ⟨a, xs, rfl, ha, ra⟩ := hx.lst
    exact sl_list pins s σ H _ v vl vu _ _ sl Q I rx hs pl pu ⟨a, xs, rfl, ha, fun p hp => k _ _ (same_new hp) (rep_newL live hp (ra.cut _ _))⟩
  · cases hf
    have hx' := hx.tupR
    obtain ⟨a, xs, rfl, ha, ra⟩ := hx.tup
    refine sl_tupA pins s σ H _ v vl vu _ _ sl Q I rx hs pl pu ⟨a, xs, rfl, ha, fun e => ?_, fun _ p hp => k _ _ (same_new hp) (rep_newT live hp (ra.cut _ _))⟩
    rename_i ds
    have ec : cutL ds lo hi = ds := by
      unfold cutL
      rw [← ra.length, e.1, e.2]
      simp [ra.length]
    rw [ec] at k
    exact k _ _ (Same.refl H) hx'
  · cases hf
theorem truD_ok {x : V} {d : IV} {b : Bool} (hx : RepX K cl O H x d) (h : truD d = some b) : TruV K x H b := by
  unfold truD at h
  split at h
  · cases h; rw [hx.bl]; exact rfl
  · cases h; rw [hx.non]; exact rfl
  · cases h; rw [hx.int]; exact rfl
  · split at h
    · rename_i l hz
      cases h
      rw [hx.str]
      refine ⟨szl (by rw [sOf_len]; exact hz), ?_⟩
      rw [sOf_len]
      cases l with
      | nil => rfl
      | cons a r =>
        show true = ((((a :: r).length : Nat) : Int) != 0)
        rw [List.length_cons]
        exact (bne_iff_ne.mpr (by omega)).symm
    · cases h
  · cases h
    obtain ⟨a, xs, rfl, ha, ra⟩ := hx.lst
    refine .inl ⟨xs, ha, ?_⟩
    cases ra <;> rfl
  · cases h
    obtain ⟨a, xs, rfl, ha, ra⟩ := hx.tup
    refine .inr (.inl ⟨xs, ha, ?_⟩)
    cases ra <;> rfl
  · cases h
/-! ### built-in functions -/
def RepXs (K : PySem.W.Frag) (cl : Nat → Option Addr) (O : List Addr) (H : Hp) : List V → List IV → Prop
  | [], [] => True
  | v :: vs, d :: ds => RepX K cl O H v d ∧ RepXs K cl O H vs ds
  | _, _ => False
theorem RepXs.one {vs : List V} {d : IV} (h : RepXs K cl O H vs [d]) : ∃ v, vs = [v] ∧ RepX K cl O H v d := by
  match vs, h with
  | [v], h => exact ⟨v, rfl, h.1⟩
theorem RepXs.nil {vs : List V} (h : RepXs K cl O H vs []) : vs = [] := by
  match vs, h with
  | [], _ => rfl
def rND (K : PySem.W.Frag) (cl : Nat → Option Addr) (f : List IV → Option IV) : List V → Hp → VK → Prop := fun vs H Q =>
  ∃ O ds d, (∀ a ∈ O, H a ≠ none) ∧ RepXs K cl O H vs ds ∧ f ds = some d ∧ ∀ v H', Same H H' → Rep K cl O H' v d → Q v H'
theorem fn_len : CallR X (.builtin "len") (rND X.K cl (fnD .len)) := by
  intro pins s σ H xs us Q I r h
  obtain ⟨O, ds, d, live, hx, hf, k⟩ := h
  unfold fnD at hf
  split at hf <;> first | (rename_i q; cases q; done) | skip
  · split at hf
    · rename_i l _ hz
      cases hf
      obtain ⟨v, rfl, hv⟩ := hx.one
      refine call_len pins s σ H _ us Q I r ⟨v, l.length, rfl, ?_, k _ _ (Same.refl H) (.int _)⟩
      rw [hv.str]
      exact ⟨szl (by rw [sOf_len]; exact hz), (sOf_len l).symm⟩
    · cases hf
  · cases hf
    obtain ⟨v, rfl, hv⟩ := hx.one
    obtain ⟨a, xs, rfl, ha, ra⟩ := hv.lst
    exact call_len pins s σ H _ us Q I r ⟨_, _, rfl, .inl ⟨xs, ha, ra.length.symm⟩, k _ _ (Same.refl H) (.int _)⟩
  · cases hf
    obtain ⟨v, rfl, hv⟩ := hx.one
    obtain ⟨a, xs, rfl, ha, ra⟩ := hv.tup
    exact call_len pins s σ H _ us Q I r ⟨_, _, rfl, .inr ⟨xs, ha, ra.length.symm⟩, k _ _ (Same.refl H) (.int _)⟩
  · cases hf
theorem fn_int : CallR X (.type "int") (rND X.K cl (fnD .int)) := by
  intro pins s σ H xs us Q I r h
  obtain ⟨O, ds, d, live, hx, hf, k⟩ := h
  unfold fnD at hf
  split at hf <;> first | (rename_i q; cases q; done) | skip
  · cases hf
    obtain ⟨v, rfl, hv⟩ := hx.one
    exact call_int1 pins s σ H _ us Q I r (.inl ⟨_, by rw [hv.int], k _ _ (Same.refl H) (.int _)⟩)
  · cases hf
    obtain ⟨v, rfl, hv⟩ := hx.one
    exact call_int1 pins s σ H _ us Q I r (.inr ⟨_, by rw [hv.bl], k _ _ (Same.refl H) (.int _)⟩)
  · cases hf
theorem RepAll.bools : ∀ {vs : List V} {ds : List IV} {bs : List Bool}, RepAll K cl O H vs ds → Mx.bools ds = some bs → vs = bs.map V.bl
  | _, _, _, .nil, e => by cases e; rfl
  | _, _, _, .cons r t, e => by
    unfold Mx.bools at e
    split at e
    · rename_i h; cases h
    · rename_i h
      cases h
      obtain ⟨bs, hb, rfl⟩ := Option.map_eq_some_iff.mp e
      cases r
      rw [List.map_cons, RepAll.bools t hb]
    · cases e
theorem fn_all (hc : X.calm = true) : CallR X (.builtin "all") (rND X.K cl (fnD .all)) := by
  intro pins s σ H xs us Q I r h
  obtain ⟨O, ds, d, live, hx, hf, k⟩ := h
  unfold fnD at hf
  split at hf <;> first | (rename_i q; cases q; done) | skip
  · obtain ⟨bs, hb, rfl⟩ := Option.map_eq_some_iff.mp hf
    obtain ⟨v, rfl, hv⟩ := hx.one
    obtain ⟨a, xs, rfl, ha, ra⟩ := hv.lst
    rw [ra.bools hb] at ha
    exact cr_all hc pins s σ H _ us Q I r ⟨a, bs, rfl, ha, k _ _ (Same.refl H) (.bl _)⟩
  · cases hf
theorem fn_any (hc : X.calm = true) : CallR X (.builtin "any") (rND X.K cl (fnD .any)) := by
  intro pins s σ H xs us Q I r h
  obtain ⟨O, ds, d, live, hx, hf, k⟩ := h
  unfold fnD at hf
  split at hf <;> first | (rename_i q; cases q; done) | skip
  · obtain ⟨bs, hb, rfl⟩ := Option.map_eq_some_iff.mp hf
    obtain ⟨v, rfl, hv⟩ := hx.one
    obtain ⟨a, xs, rfl, ha, ra⟩ := hv.lst
    rw [ra.bools hb] at ha
    exact cr_any hc pins s σ H _ us Q I r ⟨a, bs, rfl, ha, k _ _ (Same.refl H) (.bl _)⟩
  · cases hf
theorem signs_vals : ∀ (l : List Nat) (its : List Value), its.length = l.length → (∀ (j : Nat) (v : Value), its[j]? = some v → ∃ (c : Nat) (u : Tok), l[j]? = some c ∧ v = .str ⟨#[c]⟩ u) → Vals (l.map fun c => V.str ⟨#[c]⟩) its
  | [], [], _, _ => .nil
  | c :: l, v :: its, hl, h => by
    obtain ⟨c', u, e1, e2⟩ := h 0 v rfl
    cases e1
    refine .cons ⟨u, e2⟩ (signs_vals l its (by simpa using hl) fun j w hw => ?_)
    obtain ⟨c', u, e1, e2⟩ := h (j + 1) w (by simpa using hw)
    exact ⟨c', u, by simpa using e1, e2⟩
  | [], _ :: _, hl, _ => by simp at hl
  | _ :: _, [], hl, _ => by simp at hl
theorem fn_list (hc : X.calm = true) : CallR X (.type "list") (rND X.K cl (fnD .list)) := by
  intro pins s σ H xs us Q I r h
  obtain ⟨O, ds, d, live, hx, hf, k⟩ := h
  unfold fnD at hf
  split at hf <;> first | (rename_i q; cases q; done) | skip
  · split at hf
    · rename_i l _ hz
      cases hf
      obtain ⟨v, rfl, hv⟩ := hx.one
      obtain ⟨u, rfl, ru⟩ := vals1 r
      rw [hv.str] at ru
      obtain ⟨t, rfl⟩ := ru
      have hsz : (sOf l).cps.size = l.length := by simp [sOf]
      refine PySem.call_list_str (I.ok.hd hc) (sOf l) t (fun h' tk acc c kp hS hacc => ?_) (by rw [hsz]; exact szl hz)
      have hv2 : Vals (l.map fun c => V.str ⟨#[c]⟩) acc.toList := signs_vals l acc.toList (by rw [Array.length_toList, hacc.1, hsz]) fun j v hj => by
        obtain ⟨c', u', h1, h2⟩ := hacc.2 j v (by simpa using hj)
        exact ⟨c', u', by simpa [sOf] using h1, h2⟩
      have new : ObjOk X.prog X.w (upd H s.heap.objs.size (.lst (l.map fun c => V.str ⟨#[c]⟩))) h' s.heap.objs.size (.lst (l.map fun c => V.str ⟨#[c]⟩)) :=
        ⟨by rw [List.length_map]; exact szl hz, acc.toList, c, hv2, by simpa using hS⟩
      have J : Inv X pins σ (upd H s.heap.objs.size (.lst (l.map fun c => V.str ⟨#[c]⟩))) { s with heap := h', toks := tk } := I.laid kp (Nat.le_refl _) new
      refine ⟨.ref s.heap.objs.size, _, J, rfl, k _ _ (same_new I.fresh) (rep_newL live I.fresh ?_)⟩
      have all : ∀ l : List Nat, RepAll X.K cl O H (l.map fun c => V.str ⟨#[c]⟩) (l.map fun c => IV.str [c]) := fun l => by
        induction l with
        | nil => exact .nil
        | cons c r ih => exact .cons (.str [c]) ih
      exact all l
    · cases hf
  · cases hf
    obtain ⟨v, rfl, hv⟩ := hx.one
    obtain ⟨a, xs, rfl, ha, ra⟩ := hv.lst
    exact call_list_of pins s σ H _ us Q I r ⟨a, xs, rfl, .inl ha, fun p hp => k _ _ (same_new hp) (rep_newL live hp ra)⟩
  · cases hf
    obtain ⟨v, rfl, hv⟩ := hx.one
    obtain ⟨a, xs, rfl, ha, ra⟩ := hv.tup
    exact call_list_of pins s σ H _ us Q I r ⟨a, xs, rfl, .inr ha, fun p hp => k _ _ (same_new hp) (rep_newL live hp ra)⟩
  · cases hf
theorem fn_tuple : CallR X (.type "tuple") (rND X.K cl (fnD .tuple)) := by
  intro pins s σ H xs us Q I r h
  obtain ⟨O, ds, d, live, hx, hf, k⟩ := h
  unfold fnD at hf
  split at hf <;> first | (rename_i q; cases q; done) | skip
  · cases hf
    obtain ⟨v, rfl, hv⟩ := hx.one
    obtain ⟨a, xs, rfl, ha, ra⟩ := hv.lst
    exact call_tuple_of pins s σ H _ us Q I r ⟨a, xs, rfl, .inl ⟨ha, fun p hp => k _ _ (same_new hp) (rep_newT live hp ra)⟩⟩
  · cases hf
    obtain ⟨v, rfl, hv⟩ := hx.one
    have hv' := hv.tupR
    obtain ⟨a, xs, rfl, ha, ra⟩ := hv.tup
    exact call_tuple_of pins s σ H _ us Q I r ⟨a, xs, rfl, .inr ⟨ha, k _ _ (Same.refl H) hv'⟩⟩
  · cases hf
mutual
theorem toP_noDict : ∀ {d : IV} {p : PyData}, d.toP = some p → p.hasDict = false
  | .non, _, e => by cases e; rfl
  | .bl _, _, e => by cases e; rfl
  | .int _, _, e => by cases e; rfl
  | .str _, _, e => by cases e; rfl
  | .tup xs, _, e => by
    unfold IV.toP at e
    split at e
    · rename_i ps hps; cases e; simp only [PyData.hasDict]; exact toPs_noDict hps
    · cases e
  | .lst xs, _, e => by
    unfold IV.toP at e
    split at e
    · rename_i ps hps; cases e; simp only [PyData.hasDict]; exact toPs_noDict hps
    · cases e
  | .dct _, _, e => by cases e
  | .ins _ _, _, e => by cases e
  | .exc _ _, _, e => by cases e
theorem toPs_noDict : ∀ {ds : List IV} {ps : List PyData}, IV.toPs ds = some ps → PyData.hasDictAll ps = false
  | [], _, e => by cases e; rfl
  | x :: xs, _, e => by
    unfold IV.toPs at e
    split at e
    · rename_i p ps hp hps
      cases e
      simp only [PyData.hasDictAll, toP_noDict hp, toPs_noDict hps, Bool.or_false]
    · cases e
end
theorem flat_reads {h : Heap} {cl : Nat → Option Addr} {O : List Addr} {H : Hp} {v : V} {d : IV} {p : PyData} {u : Value} (r : Rep X.K cl O H v d) (f : flatD d = true) (e : d.toP = some p) (ru : RelV v u) : Reads h u p [] := by
  cases r with
  | non => cases e; cases ru; exact .none
  | bl b => cases e; cases ru; exact .bool b
  | int i => cases e; obtain ⟨t, rfl⟩ := ru; exact .int i t
  | str l => cases e; obtain ⟨t, rfl⟩ := ru; exact .str _ t
  | _ => cases f
theorem kv_reads {h : Heap} {cl : Nat → Option Addr} {O : List Addr} {H : Hp} : ∀ {kv : List (Key × V)} {ds : List (Key × IV)} {ps : List (PyData × PyData)} {vs : List (Key × Value)} {es : List DictEntry}, kvP ds = some ps → kv.map (·.1) = ds.map (·.1) → RepAll X.K cl O H (kv.map (·.2)) (ds.map (·.2)) → KV kv vs → Pairs (mixKind X.prog X.w) es vs →
    ReadsAll h (es.map (·.key)) (ps.map (·.1)) [] ∧ ReadsAll h (es.map (·.val)) (ps.map (·.2)) []
  | [], ds, ps, vs, es, hp, hk, hr, hv, hs => by
    cases ds with
    | cons d ds => cases hk
    | nil => cases hp; cases hv; cases hs; exact ⟨.nil, .nil⟩
  | (k, v) :: kv, ds, ps, vs, es, hp, hk, hr, hv, hs => by
    cases ds with
    | nil => cases hk
    | cons d ds =>
      obtain ⟨k', x⟩ := d
      simp only [List.map_cons, List.cons.injEq] at hk
      obtain ⟨rfl, hk⟩ := hk
      cases hv with
      | cons a1 a2 =>
        rename_i q qs
        obtain ⟨kq, vq⟩ := q
        cases hs with
        | @cons e _ es' _ b1 b2 b3 =>
          obtain ⟨e1, e2⟩ := a1
          simp only at e1 e2 b1 b2
          subst e1
          cases hr with
          | cons r1 r2 =>
            unfold kvP at hp
            split at hp
            · rename_i p ps' hx hps
              split at hp
              · rename_i hf
                cases hp
                obtain ⟨z1, z2⟩ := kv_reads (h := h) hps hk r2 a2 b3
                have zk : Reads h e.key (keyP k) [] := by
                  rcases keyIs_shape b1 with ⟨i, t, h1, h2⟩ | ⟨y, t, h1, h2⟩
                  · rw [h1, h2]; exact .int i t
                  · rw [h1, h2]; exact .str y t
                refine ⟨.cons zk z1, ?_⟩
                rw [List.map_cons, List.map_cons, b2]
                exact .cons (flat_reads r1 hf hx e2) z2
              · cases hp
            · cases hp
theorem el_reads {pins : List (Addr × Obj)} {σ : L2.St} {H : Hp} {s : Shared} {O : List Addr} (I : Inv X pins σ H s) {v : V} {d : IV} {p : PyData} {u : Value} (r : Rep X.K cl O H v d) (e : d.toR = some p) (ru : RelV v u) : ∃ as, Reads s.heap u p as ∧ (p.hasDict = true → sysModules ∉ as) := by
  have plain : d.toP = some p → ∃ as, Reads s.heap u p as ∧ (p.hasDict = true → sysModules ∉ as) := fun e => by
    obtain ⟨as, rd⟩ := Dp.reads I p v u (r.dp e) ru
    exact ⟨as, rd, fun z => by rw [toP_noDict e] at z; cases z⟩
  cases r with
  | @dctH a kv ds h n ek q =>
    have e : (match kvP ds with | some ps => some (PyData.dict ps) | none => none) = some p := e
    cases hps : kvP ds with
    | some ps =>
      rw [hps] at e
      cases e; cases ru
      have ok : ObjOk X.prog X.w H s.heap a (.dK kv) := by
        rcases h with h | ⟨o, h⟩
        · exact I.hok a _ h
        · exact (show _ ∧ _ from I.hok a _ h).2
      obtain ⟨_, low, vs, hkv, o, es, ep, ho, hx, hd, _, hp, _⟩ := ok
      obtain ⟨k1, k2⟩ := kv_reads (h := s.heap) hps ek q hkv hp
      exact ⟨_, Reads.dict ho hx.1 hd k1 k2, fun _ z => by
        have z' : sysModules = a := by simpa using z
        rw [z'] at low
        exact absurd low (by simp)⟩
    | none => rw [hps] at e; cases e
  | _ => exact plain e
theorem els_repr {pins : List (Addr × Obj)} {σ : L2.St} {H : Hp} {s : Shared} {O : List Addr} (I : Inv X pins σ H s) : ∀ {vs : List V} {ds : List IV} {ps : List PyData} {us : List Value}, RepAll X.K cl O H vs ds → IV.toRs ds = some ps → Vals vs us → PyData.showableAll ps = true → (∀ t ∈ PyData.shownAll ps, t.length ≤ sizeLine) →
    (∃ as, ReadsAll s.heap us ps as) ∧ ∃ bs, ReadAtMost s.heap (PyData.depthAll ps) bs ∧ ReprAllK X.prog X.w bs s.heap (PyData.depthAll ps) us (PyData.shownAll ps)
  | _, _, _, _, .nil, e, r, _, _ => by cases e; cases r; exact ⟨⟨_, .nil⟩, [], (fun _ z => nomatch z), .nil⟩
  | _, _, _, _, .cons q t, e, r, hs, hz => by
    unfold IV.toRs at e
    split at e
    · rename_i p ps hp hps
      cases e
      cases r with
      | cons r1 r2 =>
        have hs' : p.showable = true ∧ PyData.showableAll ps = true := by simpa [PyData.showableAll] using hs
        obtain ⟨as, h1, n1⟩ := el_reads I q hp r1
        obtain ⟨b1, m1, k1⟩ := ReprK.of_reads (prog := X.prog) (w := X.w) h1 hs'.1 n1 (hz _ (by simp only [PyData.shownAll]; exact List.mem_cons_self ..))
        obtain ⟨⟨cs, h2⟩, b2, m2, k2⟩ := els_repr I t hps r2 hs'.2 (fun t ht => hz t (by simp only [PyData.shownAll]; exact List.mem_cons_of_mem _ ht))
        refine ⟨⟨_, .cons h1 h2⟩, b1 ++ b2, ?_, ?_⟩
        · simp only [PyData.depthAll]
          exact (m1.mono (Nat.le_max_left _ _)).append (m2.mono (Nat.le_max_right _ _))
        · simp only [PyData.depthAll, PyData.shownAll]
          exact .cons ((k1.more fun b hb => List.mem_append_left _ hb).level_le (Nat.le_max_left ..)) (k2.more_le (fun b hb => List.mem_append_right _ hb) (Nat.le_max_right ..))
    · cases e
/-- repr of a list -/
theorem repr_list (hg : X.A.guards = some []) (hu : X.A.units + 64 < cLine) {pins : List (Addr × Obj)} {σ : L2.St} {H : Hp} {s : Shared} {O : List Addr} (I : Inv X pins σ H s) {a : Addr} {vs : List V} {ds : List IV} {w : List Nat} {Q : VK} (sq : SqL X.K H a vs) (ra : RepAll X.K cl O H vs ds) (hr : reprL ds = some w) (q : Q (.str (sOf w)) H) :
    wpAny (model X.prog X.w) X.A (call (.builtin "repr") [.ref a]) (EP X pins σ Q) X.xe s := by
  unfold reprL at hr
  split at hr
  · rename_i ps hps
    split at hr
    · rename_i hz
      cases hr
      obtain ⟨z1, z2, z3⟩ := hz
      obtain ⟨its, rv, ⟨o, n, ho, hc, _, hd⟩, _⟩ := I.list sq
      have z2' : (listText (PyData.shownAll ps)).length ≤ sizeLine := by simpa only [PyData.shown] using szl z2
      obtain ⟨⟨as, rd⟩, bs, mb, hk⟩ := els_repr I ra hps rv (by simpa [PyData.showable] using z1) (fun t ht => Nat.le_trans (listText_mem_le ht) z2')
      have rl : Reads s.heap (.ref a) (.list ps) _ := .list ho hc hd rd
      have na : a ∉ bs := not_mem_of_deeper rl (by simp only [PyData.depth]; omega) mb
      have dep : PyData.depthAll ps + 1 ≤ 50 := by simpa only [PyData.depth] using z3
      have hQ : ∀ (h' : Heap) (u : Tok) (tk : Nat), (∀ b o, s.heap.get? b = some o → h'.get? b = some o) → EP X pins σ Q (.str (PyData.list ps).shown u) { s with heap := h', toks := tk } := fun h' u tk kp => ⟨.str (PyData.list ps).shown, H, I.kept (t' := tk) kp, ⟨u, rfl⟩, by rw [sOf_of] at q; exact q⟩
      refine call_repr_slot (T := "list") (idr := "list.__repr__") (by omega) ⟨o, ho, hc⟩ F.slot_list_repr.toG ?_
      simp only [PyData.shown] at hQ
      cases its with
      | nil =>
        cases rd
        simp only [PyData.shownAll, listText_nil] at hQ
        exact call_list_repr_empty ⟨o, ho, hc⟩ ho hd ⟨_, _, rfl, hQ s.heap _ _ fun _ _ e => e⟩
      | cons x l => exact call_list_reprK ho hc hd na (by simpa using hk.length_eq) (fun i y e => hk.item i y (by simpa using e)) hg (fun b _ => Clear.nil b) (by show X.A.units + 1 + _ < cLine; omega) (fun _ _ e => e) (fun h' u tk kp => ⟨_, _, rfl, hQ h' u tk kp⟩) z2'
    · cases hr
  · cases hr
theorem fn_repr (hg : X.A.guards = some []) (hu : X.A.units + 64 < cLine) : CallR X (.builtin "repr") (rND X.K cl (fnD .repr)) := by
  intro pins s σ H xs us Q I r h
  obtain ⟨O, ds, d, live, hx, hf, k⟩ := h
  have core : ∀ {dv : IV} {a : Addr} {w : List Nat}, RepX X.K cl O H (.ref a) dv → reprD dv = some w → Q (.str (sOf w)) H → wpAny (model X.prog X.w) X.A (call (.builtin "repr") [.ref a]) (EP X pins σ Q) X.xe s := fun {dv a w} hv hr q => by
    unfold reprD at hr
    split at hr
    · rename_i p hp
      split at hr
      · rename_i hz
        cases hr
        obtain ⟨as, rd⟩ := Dp.reads I p _ (.ref a) (hv.dp hp) rfl
        refine repr_of_reads' rd hz.1 (fun z => ?_) hg (by have := hz.2.2; omega) (fun _ _ e => e) (fun h' u tk kp => ?_) (szl hz.2.1)
        · rw [toP_noDict hp] at z; cases z
        · refine ⟨.str p.shown, H, I.kept (t' := tk) kp, ⟨u, rfl⟩, ?_⟩
          rw [sOf_of] at q
          exact q
      · cases hr
    · cases hr
  unfold fnD at hf
  split at hf <;> first | (rename_i q; cases q; done) | skip
  · obtain ⟨w, hw, rfl⟩ := Option.map_eq_some_iff.mp hf
    obtain ⟨v, rfl, hv⟩ := hx.one
    obtain ⟨u, rfl, ru⟩ := vals1 r
    obtain ⟨a, xs, rfl, sq, ra⟩ := id hv.lst
    cases ru
    exact repr_list hg hu I sq ra hw (k _ _ (Same.refl H) (.str _))
  · obtain ⟨w, hw, rfl⟩ := Option.map_eq_some_iff.mp hf
    obtain ⟨v, rfl, hv⟩ := hx.one
    obtain ⟨u, rfl, ru⟩ := vals1 r
    obtain ⟨a, xs, rfl, _, _⟩ := id hv.tup
    cases ru
    exact core hv hw (k _ _ (Same.refl H) (.str _))
  · cases hf
end
end Mx


/-! Mx, part 3d: isinstance, methods of texts. -/
namespace Mx
open PySem PySem.Spec PyProof.Rows L2
section
variable {X : Cx} {cl : Nat → Option Addr} {K : PySem.W.Frag} {O : List Addr} {H : Hp}
theorem Rd.tyL {a : Addr} {vs : List V} (h : Rd H a (.lst vs)) : TyX K H (.ref a) (.type "list") := by
  rcases h with h | ⟨o, h⟩
  · exact .base (.lst h)
  · exact .base (.frz h)
theorem SqL.ty {a : Addr} {vs : List V} (h : SqL K H a vs) : TyX K H (.ref a) (.type "list") := by
  rcases h with h | ⟨o, its, n, h1, h2, _⟩
  · exact Rd.tyL h
  · exact .kList h1 h2
theorem SqT.ty {a : Addr} {vs : List V} (h : SqT K H a vs) : TyX K H (.ref a) (.type "tuple") := by
  rcases h with (h | ⟨o, h⟩) | ⟨o, its, n, h1, h2, _⟩
  · exact .base (.tup h)
  · exact .fTuple h
  · exact .kTuple h1 h2
theorem RepX.tyD {v : V} {kvs : List (Key × IV)} (h : RepX K cl O H v (.dct kvs)) : TyX K H v (.type "dict") := by
  rcases h with h | ⟨_, _, _, w⟩
  · cases h with
    | dctH h n e r =>
      rcases h with h | ⟨o, h⟩
      · exact .base (.dK h)
      · exact .fDict h
  · cases w
theorem isi_kit {x : V} {d : IV} {t : String} {b : Bool} (hx : RepX K cl O H x d) (hf : isiD d t = some b) : ∃ ty, TyX K H x ty ∧ PySem.W.kitOne K ty (.type t) = some b := by
  have hl : ∀ {ds}, RepX K cl O H x (.lst ds) → TyX K H x (.type "list") := fun h => by
    obtain ⟨a, vs, rfl, ha, _⟩ := h.lst
    exact SqL.ty ha
  have ht : ∀ {ds}, RepX K cl O H x (.tup ds) → TyX K H x (.type "tuple") := fun h => by
    obtain ⟨a, vs, rfl, ha, _⟩ := h.tup
    exact SqT.ty ha
  have hn : RepX K cl O H x .non → TyX K H x (.type "NoneType") := fun h => by rw [h.non]; exact .base .non
  have hb : ∀ {b}, RepX K cl O H x (.bl b) → TyX K H x (.type "bool") := fun h => by rw [h.bl]; exact .base (.bl _)
  have hi : ∀ {b}, RepX K cl O H x (.int b) → TyX K H x (.type "int") := fun h => by rw [h.int]; exact .base (.int _)
  have hs : ∀ {b}, RepX K cl O H x (.str b) → TyX K H x (.type "str") := fun h => by rw [h.str]; exact .base (.str _)
  unfold isiD at hf
  split at hf
  all_goals first | (cases hf; done) | skip
  all_goals cases hf
  all_goals first
    | exact ⟨_, hn hx, kit_ty (by decide +kernel)⟩
    | exact ⟨_, hb hx, kit_ty (by decide +kernel)⟩
    | exact ⟨_, hi hx, kit_ty (by decide +kernel)⟩
    | exact ⟨_, hs hx, kit_ty (by decide +kernel)⟩
    | exact ⟨_, ht hx, kit_ty (by decide +kernel)⟩
    | exact ⟨_, hl hx, kit_ty (by decide +kernel)⟩
    | exact ⟨_, hx.tyD, kit_ty (by decide +kernel)⟩
/-! ### methods -/
def rMD (K : PySem.W.Frag) (cl : Nat → Option Addr) (f : IV → List IV → Option IV) : V → List V → Hp → VK → Prop := fun x xs H Q =>
  ∃ O dx ds d, (∀ a ∈ O, H a ≠ none) ∧ RepX K cl O H x dx ∧ RepXs K cl O H xs ds ∧ f dx ds = some d ∧ ∀ v H', Same H H' → Rep K cl O H' v d → Q v H'
theorem RepAll.texts : ∀ {vs : List V} {ds : List IV} {ts : List (List Nat)}, RepAll K cl O H vs ds → Mx.texts ds = some ts → vs = (ts.map sOf).map V.str
  | _, _, _, .nil, e => by cases e; rfl
  | _, _, _, .cons r t, e => by
    unfold Mx.texts at e
    split at e
    · rename_i h; cases h
    · rename_i h
      cases h
      obtain ⟨bs, hb, rfl⟩ := Option.map_eq_some_iff.mp e
      cases r
      rw [List.map_cons, List.map_cons, RepAll.texts t hb]
    · cases e
theorem join_sOf (s : List Nat) (ts : List (List Nat)) : Txt.join (sOf s) (ts.map sOf) = sOf (TL.joinL s ts) := by
  refine TL.ext_tl ?_
  rw [TL.join_eq, TL.tl_join]
  show TL.joinL (sOf s).cps.toList _ = (sOf _).cps.toList
  rw [sOf_list, sOf_list, List.map_map]
  congr 1
  conv => rhs; rw [← List.map_id ts]
  exact List.map_congr_left fun t _ => sOf_list t
theorem mt_joinD : MtR X "str.join" (rMD X.K cl (mtD .join)) := by
  intro pins s σ H x xs v us Q I rx rs h
  obtain ⟨O, dx, ds, d, live, hx, hxs, hf, k⟩ := h
  unfold mtD at hf
  split at hf <;> first | (rename_i q; cases q; done) | skip
  · split at hf
    · rename_i ts hts
      split at hf
      · rename_i hz
        cases hf
        obtain ⟨w, rfl, hw⟩ := hxs.one
        obtain ⟨a, vs, rfl, ha, ra⟩ := hw.lst
        rw [ra.texts hts] at ha
        refine mt_join pins s σ H x _ v us Q I rx rs ⟨_, a, ts.map sOf, hx.str, rfl, .inl ha, ?_, ?_⟩
        · rw [List.map_map, List.length_map, sOf_len, show (fun x => x.length) ∘ sOf = List.length from funext fun l => sOf_len l]
          exact hz
        · rw [join_sOf]
          exact k _ _ (Same.refl H) (.str _)
      · cases hf
    · cases hf
  · cases hf
theorem mt_splitD : MtR X "str.split" (rMD X.K cl (mtD .split)) := by
  intro pins s σ H x xs v us Q I rx rs h
  obtain ⟨O, dx, ds, d, live, hx, hxs, hf, k⟩ := h
  unfold mtD at hf
  split at hf <;> first | (rename_i q; cases q; done) | skip
  · split at hf
    · rename_i a b _ hz
      cases hf
      obtain ⟨w, rfl, hw⟩ := hxs.one
      have eb : TL.tl (sOf b) ≠ [] := by show (sOf b).cps.toList ≠ []; rw [sOf_list]; exact hz.1
      refine mt_split pins s σ H x _ v us Q I rx rs ⟨sOf a, sOf b, hx.str, by rw [hw.str], ?_, ?_, fun p hp => k _ _ (same_new hp) (rep_newL live hp ?_)⟩
      · rw [sOf_len]
        cases b with
        | nil => exact absurd rfl hz.1
        | cons c r => rfl
      · rw [sOf_len]; exact szl hz.2.2
      · have e : (Txt.split (sOf a) (sOf b)) = (TL.spl b 0 [] a).map sOf := by
          refine TL.map_tl_inj ?_
          rw [TL.split_spl _ _ eb (TL.kind_ok ?_), List.map_map]
          · show TL.spl (sOf b).cps.toList 0 [] (sOf a).cps.toList = _
            rw [sOf_list, sOf_list]
            conv => lhs; rw [← List.map_id (TL.spl b 0 [] a)]
            exact List.map_congr_left fun t _ => (sOf_list t).symm
          · have := hz.2.1
            unfold ascii at this
            rw [List.all_eq_true] at this
            rw [Array.all_eq_true']
            intro c hc
            have q := this c (by simpa [sOf] using hc)
            simp at q ⊢
            omega
        rw [e, List.map_map]
        exact repAll_strs _
    · cases hf
  · cases hf
theorem mt_partD : MtR X "str.partition" (rMD X.K cl (mtD .part)) := by
  intro pins s σ H x xs v us Q I rx rs h
  obtain ⟨O, dx, ds, d, live, hx, hxs, hf, k⟩ := h
  unfold mtD at hf
  split at hf <;> first | (rename_i q; cases q; done) | skip
  · split at hf
    · rename_i a b _ hz
      obtain ⟨w, rfl, hw⟩ := hxs.one
      have eb : TL.tl (sOf b) ≠ [] := by show (sOf b).cps.toList ≠ []; rw [sOf_list]; exact hz.1
      have hp := TL.partition_par (sOf a) (sOf b) eb
      have e1 : TL.tl (sOf a) = a := sOf_list a
      have e2 : TL.tl (sOf b) = b := sOf_list b
      rw [e1, e2] at hp
      refine mt_partition pins s σ H x _ v us Q I rx rs ⟨sOf a, sOf b, hx.str, by rw [hw.str], ?_, ?_, fun p np => k _ _ (same_new np) ?_⟩
      · rw [sOf_len]
        cases b with
        | nil => exact absurd rfl hz.1
        | cons c r => rfl
      · rw [sOf_len]; exact szl hz.2
      · split at hf
        · rename_i y z hyz
          cases hf
          rw [hyz] at hp
          have hp' : Txt.partition (sOf a) (sOf b) = (sOf y, sOf b, sOf z) := hp
          rw [hp']
          exact rep_newT live np (.cons (.str y) (.cons (.str b) (.cons (.str z) .nil)))
        · rename_i hyz
          cases hf
          rw [hyz] at hp
          have hp' : Txt.partition (sOf a) (sOf b) = (sOf a, sOf [], sOf []) := hp
          rw [hp']
          exact rep_newT live np (.cons (.str a) (.cons (.str []) (.cons (.str []) .nil)))
    · cases hf
  · cases hf
theorem mt_upperD : MtR X "str.upper" (rMD X.K cl (mtD .upper)) := by
  intro pins s σ H x xs v us Q I rx rs h
  obtain ⟨O, dx, ds, d, live, hx, hxs, hf, k⟩ := h
  unfold mtD at hf
  split at hf <;> first | (rename_i q; cases q; done) | skip
  · split at hf
    · rename_i a _ hz
      cases hf
      have e := hxs.nil
      subst e
      refine mt_upper pins s σ H x _ v us Q I rx rs ⟨sOf a, hx.str, rfl, by rw [sOf_len]; omega, ?_⟩
      have q := k (.str (sOf (Txt.upper (sOf a)).cps.toList)) H (Same.refl H) (.str _)
      rw [sOf_of] at q
      exact q
    · cases hf
  · cases hf
end
end Mx


/-! Mx, part 4a: when a term of the language is a given text (all of it is looked at by the kernel). -/
namespace Mx
open PySem PySem.Spec PyProof.Rows L2

def notStar : Expr → Bool
  | .Starred _ _ => false
  | _ => true
def notSlice : Expr → Bool
  | .Slice _ _ _ _ => false
  | _ => true
def notComp : Expr → Bool
  | .ListComp _ _ _ _ => false
  | .SetComp _ _ _ _ => false
  | .DictComp _ _ _ _ _ => false
  | _ => true
def noSuper : Expr → Bool
  | .Call (.Name _ _) [] [] _ => false
  | _ => true
def noSet : Expr → Bool
  | .Set _ _ _ => false
  | _ => true
mutual
def IV.beq : IV → IV → Bool
  | .non, .non => true
  | .bl a, .bl b => a == b
  | .int a, .int b => a == b
  | .str a, .str b => a == b
  | .tup a, .tup b => IV.beqs a b
  | .lst a, .lst b => IV.beqs a b
  | _, _ => false
def IV.beqs : List IV → List IV → Bool
  | [], [] => true
  | x :: xs, y :: ys => IV.beq x y && IV.beqs xs ys
  | _, _ => false
end
mutual
theorem IV.beq_eq : ∀ {x y : IV}, IV.beq x y = true → x = y
  | .non, .non, _ => rfl
  | .bl a, .bl b, h => by rw [show a = b from by simpa [IV.beq] using h]
  | .int a, .int b, h => by rw [show a = b from by simpa [IV.beq] using h]
  | .str a, .str b, h => by rw [show a = b from by simpa [IV.beq] using h]
  | .tup a, .tup b, h => by rw [IV.beqs_eq (show IV.beqs a b = true from h)]
  | .lst a, .lst b, h => by rw [IV.beqs_eq (show IV.beqs a b = true from h)]
theorem IV.beqs_eq : ∀ {xs ys : List IV}, IV.beqs xs ys = true → xs = ys
  | [], [], _ => rfl
  | x :: xs, y :: ys, h => by
    have h' : (IV.beq x y && IV.beqs xs ys) = true := h
    rw [Bool.and_eq_true] at h'
    rw [IV.beq_eq h'.1, IV.beqs_eq h'.2]
end
def E.isView : E → Bool
  | .view _ => true
  | _ => false
mutual
/-- no changing object is changed -/
def E.pure : E → Bool
  | .bin _ a b => a.pure && b.pure
  | .neg a => a.pure
  | .cmp _ a b => a.pure && b.pure
  | .chn _ _ a b c => a.pure && b.pure && c.pure
  | .and es => es.pure
  | .or es => es.pure
  | .not a => a.pure
  | .ite c a b => c.pure && a.pure && b.pure
  | .ix a b => a.pure && b.pure
  | .sl a lo hi => a.pure && lo.pure && hi.pure
  | .lst es => es.pure
  | .tup es => es.pure
  | .dct _ es => es.pure
  | .fn _ es => es.pure
  | .isi a _ => a.pure
  | .mt _ a es => a.pure && es.pure
  | .call _ as => as.pure
  | .callK _ as bs _ _ => as.pure && bs.pure
  | .comp _ it c e => it.pure && c.pure && e.pure
  | .pr1 _ a => a.pure
  | .mk _ _ es => es.pure
  | .mkK _ _ as bs _ _ => as.pure && bs.pure
  | _ => true
def OE.pure : OE → Bool
  | .no => true
  | .yes e => e.pure
def Es.pure : Es → Bool
  | .nil => true
  | .cons e r => e.pure && r.pure
def As.pure : As → Bool
  | .nil => true
  | .v e r => e.pure && r.pure
  | .m _ _ => false
def It.pure : It → Bool
  | .lst e => e.pure
  | .tup e => e.pure
  | .txt e => e.pure
  | .rng a => a.pure
  | .rng2 a b => a.pure && b.pure
  | .enu e => e.pure
end
mutual
/-- it may be a test -/
def E.tst : E → Bool
  | .and es => es.tst
  | .or es => es.tst
  | .not a => a.tst
  | .ite _ _ _ => false
  | _ => true
def Es.tst : Es → Bool
  | .nil => true
  | .cons e r => e.tst && r.tst
end
def As.kinds : As → List Bool
  | .nil => []
  | .v _ r => false :: r.kinds
  | .m _ r => true :: r.kinds
def As.idx : As → List Nat
  | .nil => []
  | .v _ r => r.idx
  | .m i r => i :: r.idx
def Es.noView : Es → Bool
  | .nil => true
  | .cons e r => !e.isView && r.noView
/-- an exception class: its name, its fields, whether it has an own __init__, the ways it is called by keywords -/
structure Xc where
  name : Str
  ps : List Str
  own : Bool
  kws : List (Nat × List Str × List Nat)
structure Tab where
  fns : Nat → Option Fn
  glo : List (Str × IV)
  blt : List Str
  xcls : Nat → Option Xc
  isx : List (List Str × Bool × List Nat × List Nat)

def visB (sc : Scope) (x : Str) : Bool := match sc.names.lookup x with
  | some .local => true
  | some .cell => true
  | some .free => true
  | _ => false
def locB (sc : Scope) (x : Str) : Bool := match sc.names.lookup x with
  | some .local => true
  | some .cell => true
  | _ => false
def gloB (sc : Scope) (x : Str) : Bool := match sc.names.lookup x with
  | some .globalImplicit => true
  | _ => false
/-- a name of the def, in slot i -/
def slotB (N : List Str) (sc : Scope) (i : Nat) (x : Str) : Bool :=
  decide (N[i]? = some x) && visB sc x && !(x == ("__debug__" : Str)) && !(x == ("__classdict__" : Str))
def storeB (N : List Str) (sc : Scope) (i : Nat) (x : Str) : Bool := decide (N[i]? = some x) && locB sc x
def cstB : Const → IV → Bool
  | .none, .non => true
  | .bool a, .bl b => a == b
  | .int a, .int b => a == b
  | .str s, .str l => decide (s = sOf l)
  | _, _ => false
def keyB : Expr → Key → Bool
  | .Constant (.int a) _ _, .inl b => a == b
  | .Constant (.str a) _ _, .inr b => decide (a = b)
  | _, _ => false
def keysB : List (Option Expr) → List Key → Bool
  | [], [] => true
  | some x :: xs, k :: ks => keyB x k && keysB xs ks
  | _, _ => false
def fnName : BFn → Str
  | .len => "len"
  | .int => "int"
  | .all => "all"
  | .any => "any"
  | .list => "list"
  | .tuple => "tuple"
  | .repr => "repr"
  | .str => "str"
  | .ord => "ord"
  | .min => "min"
  | .max => "max"
def mtName : BMt → Str
  | .join => "join"
  | .split => "split"
  | .part => "partition"
  | .upper => "upper"
  | .strip => "strip"
def fnServed : BFn → Bool
  | .len => true
  | .int => true
  | .all => true
  | .any => true
  | .list => true
  | .tuple => true
  | .repr => true
  | _ => false
def mtAr : BMt → Nat
  | .upper => 0
  | _ => 1
def mtServed : BMt → Bool
  | .join => true
  | .split => true
  | .part => true
  | .upper => true
  | .strip => false
def tgsB (N : List Str) (sc : Scope) : List Nat → List Expr → Bool
  | [], [] => true
  | i :: is, .Name x _ :: xs => storeB N sc i x && tgsB N sc is xs
  | _, _ => false
def tgB (N : List Str) (sc : Scope) : List Nat → Expr → Bool
  | [i], .Name x _ => storeB N sc i x
  | is, .Tuple xs _ _ => tgsB N sc is xs && decide (2 ≤ is.length)
  | _, _ => false
def kwB : List Str → List Keyword → Bool
  | [], [] => true
  | k :: ks, ⟨some a, _, _⟩ :: r => decide (k = a) && kwB ks r
  | _, _ => false
def kwVals : List Keyword → List Expr
  | [] => []
  | ⟨_, v, _⟩ :: r => v :: kwVals r
/-- names of classes -/
def namesB (sc : Scope) : List Str → List Expr → Bool
  | [], [] => true
  | x :: xs, .Name y _ :: ys => decide (y = x) && (gloB sc y && (!(y == ("__debug__" : Str)) && namesB sc xs ys))
  | _, _ => false
def isxW (sc : Scope) (xs : List Str) : Bool → Expr → Bool
  | false, w => namesB sc xs [w]
  | true, .Tuple ws _ _ => namesB sc xs ws && decide (ws.length ≤ 50)
  | _, _ => false
/-- an operation with one operand: the operand -/
def mP1 (T : Tab) (sc : Scope) : P1 → Expr → Option Expr
  | .fld f cs, .Attribute o y _ => if (decide (y = f) && (noSuper o && cs.all fun c => match T.xcls c with | some xc => decide (f ∈ xc.ps) | none => false)) = true then some o else none
  | .isx xs tup ys ns, .Call (.Name y _) [z, w] [] _ => if (decide (y = ("isinstance" : Str)) && (gloB sc y && (T.blt.contains y && (notStar z && (decide ((xs, tup, ys, ns) ∈ T.isx) && isxW sc xs tup w))))) = true then some z else none
  | _, _ => none
mutual
def mE (T : Tab) (N : List Str) : E → Scope → Expr → Bool
  | .var i, sc, x => match x with
    | .Name y _ => slotB N sc i y
    | _ => false
  | .view i, sc, x => match x with
    | .Name y _ => slotB N sc i y
    | _ => false
  | .cst d, _, x => match x with
    | .Constant c _ _ => cstB c d
    | _ => false
  | .glo z d, sc, x => match x with
    | .Name y _ => decide (y = z) && gloB sc y && (T.glo.any fun p => decide (p.1 = z) && IV.beq p.2 d) && !(y == ("__debug__" : Str))
    | _ => false
  | .bin o a b, sc, x => match x with
    | .BinOp y p z _ => decide (p = opOf o) && mE T N a sc y && mE T N b sc z && (!a.isView || b.pure)
    | _ => false
  | .neg a, sc, x => match x with
    | .UnaryOp .USub y _ => mE T N a sc y
    | _ => false
  | .cmp o a b, sc, x => match x with
    | .Compare y [p] [z] _ => decide (p = copOf o) && mE T N a sc y && mE T N b sc z && (!a.isView || b.pure) && noSet z
    | _ => false
  | .chn o p a b c, sc, x => match x with
    | .Compare y [q, r] [z, w] _ => decide (q = copOf o) && decide (r = copOf p) && mE T N a sc y && mE T N b sc z && mE T N c sc w && !a.isView && !b.isView && noSet w
    | _ => false
  | .and es, sc, x => match x with
    | .BoolOp .And xs _ => mEs T N es sc xs && es.noView
    | _ => false
  | .or es, sc, x => match x with
    | .BoolOp .Or xs _ => mEs T N es sc xs && es.noView
    | _ => false
  | .not a, sc, x => match x with
    | .UnaryOp .Not y _ => mE T N a sc y
    | _ => false
  | .ite c a b, sc, x => match x with
    | .IfExp y z w _ => mE T N c sc y && c.tst && mE T N a sc z && mE T N b sc w && !a.isView && !b.isView
    | _ => false
  | .ix a b, sc, x => match x with
    | .Subscript y z _ => mE T N a sc y && mE T N b sc z && notSlice z && (!a.isView || b.pure)
    | _ => false
  | .sl a lo hi, sc, x => match x with
    | .Subscript y (.Slice l h none _) _ => mE T N a sc y && mO T N lo sc l && mO T N hi sc h && (!a.isView || (lo.pure && hi.pure))
    | _ => false
  | .lst es, sc, x => match x with
    | .List xs _ => mEs T N es sc xs && es.noView
    | _ => false
  | .tup es, sc, x => match x with
    | .Tuple xs _ _ => mEs T N es sc xs && es.noView
    | _ => false
  | .dct ks es, sc, x => match x with
    | .Dict keys vals _ => keysB keys ks && mEs T N es sc vals && es.noView && decide (ks.length = vals.length) && decide (0 < ks.length) && decide (ks.length ≤ 15) && decide ks.Nodup && es.pure
    | _ => false
  | .fn f es, sc, x => match x with
    | .Call (.Name y _) (z :: zs) [] _ => decide (y = fnName f) && fnServed f && gloB sc y && T.blt.contains y && mEs T N es sc (z :: zs)
    | _ => false
  | .isi a t, sc, x => match x with
    | .Call (.Name y _) [z, .Name w _] [] _ => decide (y = ("isinstance" : Str)) && gloB sc y && T.blt.contains y && mE T N a sc z && notStar z && decide (w = Str.ofString t) && gloB sc w && T.blt.contains w
        && (t == "str" || t == "int" || t == "bool" || t == "tuple")
    | _ => false
  | .mt m a es, sc, x => match x with
    | .Call (.Attribute o y p) xs [] q => decide (y = mtName m) && mtServed m && mE T N a sc o && mEs T N es sc xs && noSuper o && (p.endLine == q.line) && !a.isView && decide (xs.length = mtAr m)
    | _ => false
  | .call f as, sc, x => match x with
    | .Call (.Name y _) xs [] _ => match T.fns f with
      | some fn => decide (y = fn.name) && gloB sc y && mAs T N as sc xs && decide (as.kinds = fn.muts) && decide as.idx.Nodup && decide (fn.ps.length = xs.length) && decide (fn.muts.length = xs.length) && !(y == ("__debug__" : Str))
      | none => false
    | _ => false
  | .callK f as bs ks perm, sc, x => match x with
    | .Call (.Name y _) xs kws _ => match T.fns f with
      | some fn => decide (y = fn.name) && gloB sc y && kwB ks kws && mEs T N as sc xs && mEs T N bs sc (kwVals kws) && as.noView && bs.noView && fn.muts.all (fun b => !b) && decide (fn.muts.length = fn.ps.length)
          && decide ((xs.length, ks, perm) ∈ fn.kws) && decide (perm.length = fn.ps.length) && !(y == ("__debug__" : Str))
      | none => false
    | _ => false
  | .comp tg it c e, sc, x => match x with
    | .ListComp elt [⟨t, iter, ifs, 0⟩] scope _ => mIt T N it sc t iter && noSet iter && blkC N sc scope (tg.filterMap fun i => N[i]?.map fun n => (n, i)) && tgB N scope tg t && mC T N c scope ifs && mE T N e scope elt && !e.isView
        && tg.all (fun i => decide (i < N.length)) && decide tg.Nodup
    | _ => false
  | .pr1 p a, sc, x => match mP1 T sc p x with
    | some y => mE T N a sc y && !a.isView
    | none => false
  | .mk c ps es, sc, x => match x with
    | .Call (.Name y _) xs [] _ => match T.xcls c with
      | some xc => decide (y = xc.name) && gloB sc y && mEs T N es sc xs && es.noView && decide (xc.ps = ps) && !(y == ("__debug__" : Str)) && decide (xs.length ≤ 100) && (T.xcls 0).isSome
      | none => false
    | _ => false
  | .mkK c ps as bs ks perm, sc, x => match x with
    | .Call (.Name y _) xs kws _ => match T.xcls c with
      | some xc => decide (y = xc.name) && gloB sc y && kwB ks kws && mEs T N as sc xs && mEs T N bs sc (kwVals kws) && as.noView && bs.noView && decide ((xs.length, ks, perm) ∈ xc.kws) && decide (xc.ps = ps) && !(y == ("__debug__" : Str)) && decide (xs.length ≤ 100) && (T.xcls 0).isSome
      | none => false
    | _ => false
def mO (T : Tab) (N : List Str) : OE → Scope → Option Expr → Bool
  | .no, _, x => x.isNone
  | .yes e, sc, x => match x with
    | some y => mE T N e sc y
    | none => false
def mC (T : Tab) (N : List Str) : OE → Scope → List Expr → Bool
  | .no, _, xs => xs.isEmpty
  | .yes e, sc, xs => match xs with
    | [y] => mE T N e sc y && e.tst
    | _ => false
def mEs (T : Tab) (N : List Str) : Es → Scope → List Expr → Bool
  | .nil, _, xs => xs.isEmpty
  | .cons e r, sc, xs => match xs with
    | y :: ys => mE T N e sc y && mEs T N r sc ys && notStar y && (!e.isView || r.pure)
    | [] => false
def mAs (T : Tab) (N : List Str) : As → Scope → List Expr → Bool
  | .nil, _, xs => xs.isEmpty
  | .v e r, sc, xs => match xs with
    | y :: ys => mE T N e sc y && mAs T N r sc ys && notStar y && !e.isView
    | [] => false
  | .m i r, sc, xs => match xs with
    | .Name y _ :: ys => slotB N sc i y && mAs T N r sc ys
    | _ => false
def mIt (T : Tab) (N : List Str) : It → Scope → Expr → Expr → Bool
  | .lst e, sc, _, x => mE T N e sc x && !e.isView
  | .tup e, sc, _, x => mE T N e sc x && !e.isView
  | .txt e, sc, _, x => mE T N e sc x && !e.isView
  | .rng a, sc, _, x => match x with
    | .Call (.Name y _) [z] [] _ => decide (y = ("range" : Str)) && gloB sc y && T.blt.contains y && mE T N a sc z && notStar z && !a.isView
    | _ => false
  | .rng2 a b, sc, _, x => match x with
    | .Call (.Name y _) [z, w] [] _ => decide (y = ("range" : Str)) && gloB sc y && T.blt.contains y && mE T N a sc z && mE T N b sc w && notStar z && notStar w && !a.isView && !b.isView
    | _ => false
  | .enu e, sc, t, x => match t with
    | .Tuple _ _ _ => match x with
      | .Call (.Name y _) [z] [] _ => decide (y = ("enumerate" : Str)) && gloB sc y && T.blt.contains y && mE T N e sc z && notStar z && !e.isView
      | _ => false
    | _ => false
end
/-- name = [.. for ..] on one line -/
def swapB (sc : Scope) (t : Str) (p : Pos) : Expr → Bool
  | .ListComp a g s q => decide (sc.names.lookup t = some .local) && (p.line == (Expr.ListComp a g s q).pos.line) && !(s.names.any fun (n, k) => n == t && (k == .local || k == .cell))
  | _ => false
def mEO (T : Tab) (N : List Str) (e : E) (sc : Scope) (x : Expr) : Bool := mE T N e sc x && match e with
  | .lst _ => true
  | .call f _ => match T.fns f with
    | some fn => fn.own
    | none => false
  | _ => false
def isComp : E → Bool
  | .comp _ _ _ _ => true
  | _ => false
def notTup : Expr → Bool
  | .Tuple _ _ _ => false
  | _ => true
mutual
def mS (T : Tab) (N : List Str) (own : Bool) : S → Scope → Stmt → Bool
  | .asg i e, sc, x => match x with
    | .Assign [.Name y p] v _ => storeB N sc i y && mE T N e sc v && !e.isView && (notComp v || isComp e)
    | _ => false
  | .asgO i e, sc, x => match x with
    | .Assign [.Name y _] v _ => storeB N sc i y && mEO T N e sc v && notComp v
    | _ => false
  | .unp is e, sc, x => match x with
    | .Assign [.Tuple ts j p] v _ => tgB N sc is (.Tuple ts j p) && mE T N e sc v && !e.isView && notTup v
    | _ => false
  | .setI i k v, sc, x => match x with
    | .Assign [.Subscript (.Name y _) z _] w _ => slotB N sc i y && mE T N k sc z && mE T N v sc w && !k.isView && !v.isView && notSlice z && notComp w
    | _ => false
  | .app i e, sc, x => match x with
    | .Expr (.Call (.Attribute (.Name y _) m p) [v] [] q) _ => decide (m = ("append" : Str)) && slotB N sc i y && mE T N e sc v && !e.isView && notStar v && (p.endLine == q.line)
    | _ => false
  | .drop e, sc, x => match x with
    | .Expr v _ => mE T N e sc v && notComp v
    | _ => false
  | .ret e, sc, x => match x with
    | .Return (some v) _ => if own = true then mEO T N e sc v else mE T N e sc v && !e.isView
    | _ => false
  | .retN, _, x => match x with
    | .Return none _ => !own
    | _ => false
  | .retO i, sc, x => match x with
    | .Return (some (.Name y _)) _ => own && slotB N sc i y
    | _ => false
  | .ite c a b, sc, x => match x with
    | .If y z w _ => mE T N c sc y && c.tst && mSs T N own a sc z && mSs T N own b sc w
    | _ => false
  | .whl c b, sc, x => match x with
    | .While y z [] _ => mE T N c sc y && c.tst && mSs T N own b sc z
    | _ => false
  | .loop tg it b, sc, x => match x with
    | .For t iter z [] _ => tgB N sc tg t && mIt T N it sc t iter && noSet iter && mSs T N own b sc z
    | _ => false
  | .pass, _, x => match x with
    | .Pass _ => true
    | _ => false
  | .brk, _, x => match x with
    | .Break _ => true
    | _ => false
  | .cnt, _, x => match x with
    | .Continue _ => true
    | _ => false
  | _, _, _ => false
def mSs (T : Tab) (N : List Str) (own : Bool) : Ss → Scope → List Stmt → Bool
  | .nil, _, xs => xs.isEmpty
  | .cons s r, sc, xs => match xs with
    | y :: ys => mS T N own s sc y && mSs T N own r sc ys
    | [] => false
end
end Mx


/-! Mx: exceptions of the program, made: the heap. -/
namespace Mx
open PySem PySem.Spec PyProof.Rows L2 PySem.W PySem.Calls PySem.Builtin PySem.Builtin.ObjectAttr

/-- what a built-in exception class gives -/
structure XBase (B newId i : String) (bmB : List Value) : Prop where
  fb : ExcBaseFacts B newId i bmB
  kf : KxsFacts B i
  sf : StoreFacts B bmB "object.__setattr__" "object"
theorem xb_ValueError : XBase "ValueError" "ValueError.__new__" "ValueError.__init__" [.type "ValueError", .type "Exception", .type "BaseException", .type "object"] := ⟨F.excBase_ValueError, kxs_ValueError, F.store_ValueError⟩
theorem xb_ArithmeticError : XBase "ArithmeticError" "ArithmeticError.__new__" "ArithmeticError.__init__" [.type "ArithmeticError", .type "Exception", .type "BaseException", .type "object"] := ⟨F.excBase_ArithmeticError, kxs_ArithmeticError, F.store_ArithmeticError⟩
theorem xb_LookupError : XBase "LookupError" "LookupError.__new__" "LookupError.__init__" [.type "LookupError", .type "Exception", .type "BaseException", .type "object"] := ⟨F.excBase_LookupError, kxs_LookupError, F.store_LookupError⟩
theorem xb_RuntimeError : XBase "RuntimeError" "RuntimeError.__new__" "RuntimeError.__init__" [.type "RuntimeError", .type "Exception", .type "BaseException", .type "object"] := ⟨F.excBase_RuntimeError, kxs_RuntimeError, F.store_RuntimeError⟩
theorem xb_OverflowError : XBase "OverflowError" "OverflowError.__new__" "OverflowError.__init__" [.type "OverflowError", .type "ArithmeticError", .type "Exception", .type "BaseException", .type "object"] := ⟨F.excBase_OverflowError, kxs_OverflowError, F.store_OverflowError⟩
theorem xb_Exception : XBase "Exception" "Exception.__new__" "Exception.__init__" [.type "Exception", .type "BaseException", .type "object"] := ⟨F.excBase_Exception, kxs_Exception, F.store_Exception⟩

/-- what the written part says of an exception class -/
structure XCls (K : Frag) (C : Addr) (B newId i : String) (bmB : List Value) : Prop where
  base : XBase B newId i bmB
  ini : excInitIn K C bmB newId = true
  ovr : excOver K C bmB = true
  hd : hasDictIn K C = true
  sa : findIn K (.ref C) "__setattr__" = some (some (.builtin "object.__setattr__"))
  kC : keepIn K (.ref C) = true

section
variable {prog : Program} {w : World} {A : Around} {E : Value → Shared → Prop} {K : Frag} {hp : Heap} {g : Array GenState} {d : Drawn} {t : Nat} {os : OsState} {B newId i : String} {bmB : List Value} {C x : Addr}
/-- x.name = v, the first one -/
theorem x_new {t1 : Addr} {name : Str} {v : Value} {Q : Unit → Shared → Prop} (T : XCls K C B newId i bmB) (X : K.In hp) (hx : hp.get? x = some (excObj C t1 none .none)) (no : findIn K (.ref C) name = some none)
    (hq : ∀ h' tk' dx, (∀ b o, b ≠ x → hp.get? b = some o → h'.get? b = some o) → hp.objs.size ≤ dx → dx ≠ x → h'.get? x = some (excObj C t1 (some dx) .none) → h'.Ns1 dx (fun y => if y = name then some v else none) → Q () ⟨h', g, d, tk', os⟩) :
    wpAny (model prog w) A (setAttr (.ref x) name v) Q E ⟨hp, g, d, t, os⟩ := by
  refine set_plain X (ox := excObj C t1 none .none) (od := none) ⟨hx, rfl, rfl, trivial⟩ T.sa (osa_openX (od := none) T.base.sf X ⟨hx, rfl, rfl, trivial⟩ T.ovr (r := none) (by unfold takerIn; rw [no]; rfl) fun b => ?_)
  obtain ⟨cd, hc, hd'⟩ := any_some (show (clsIn K C).any (·.hasDict) = true from T.hd)
  have hcls : Looks (model prog w) hp (classData C) cd := looks_clsIn X hc
  have hxs : x ≠ hp.objs.size := Nat.ne_of_lt (Heap.lt_size hx)
  obtain ⟨nm, bs, mro, ns, qn, hdd, sn, sb, ab, col, del⟩ := cd
  dsimp only at hd'
  subst hd'
  show wpAny _ _ (storeInOwnDict (.ref x) (.ref C) (.str name _) name v b) _ _ _
  unfold storeInOwnDict ownDictForStores
  repeat (first | with_reducible refine HandSPX.store_in_new ?_ ?_ | with_reducible refine wpAny_loadPart_at hx ?_ | with_reducible refine hcls.at ?_ | wp_step)
  · exact ⟨_, #[], _, (Heap.get?_update_ne _ _ _ _ hxs.symm).trans (Heap.get?_push_at rfl rfl), rfl, fun e he => absurd he (by simp), fun _ => rfl⟩
  · intro h' tk' hn' hs
    have hx₁ : (hp.push { cls := .type "dict", data := .dict #[] }).get? x = some (excObj C t1 none .none) := Heap.get?_push_of_some _ hx
    refine hq h' tk' hp.objs.size (fun b o hb ho => ?_) (Nat.le_refl _) hxs.symm ?_ hn'
    · exact (hs.2 b (Nat.ne_of_lt (Heap.lt_size ho))).trans ((Heap.get?_update_ne _ _ _ _ hb).trans (Heap.get?_push_of_some _ ho))
    · exact (hs.2 x hxs).trans (Heap.get?_update_self _ hx₁ rfl)
/-- x.name = v, a further one -/
theorem x_old {t1 dx : Addr} {name : Str} {v : Value} {m0 : Str → Option Value} {nl : List Str} {Q : Unit → Shared → Prop} (T : XCls K C B newId i bmB) (X : K.In hp) (hx : hp.get? x = some (excObj C t1 (some dx) .none)) (hns : hp.Ns1 dx m0) (hw : Within m0 nl) (hz : nl.length ≤ 1000) (no : findIn K (.ref C) name = some none)
    (hq : ∀ h' tk', (∀ b o, b ≠ dx → hp.get? b = some o → h'.get? b = some o) → h'.Ns1 dx (fun y => if y = name then some v else m0 y) → Q () ⟨h', g, d, tk', os⟩) :
    wpAny (model prog w) A (setAttr (.ref x) name v) Q E ⟨hp, g, d, t, os⟩ := by
  obtain ⟨oD, esD, epD, hoD, hdD, _⟩ := hns.count hw
  refine set_plain X (ox := excObj C t1 (some dx) .none) (od := some oD) ⟨hx, rfl, rfl, hoD⟩ T.sa (osa_openX (od := some oD) T.base.sf X ⟨hx, rfl, rfl, hoD⟩ T.ovr (r := none) (by unfold takerIn; rw [no]; rfl) fun b => ?_)
  obtain ⟨cd, hc, hd'⟩ := any_some (show (clsIn K C).any (·.hasDict) = true from T.hd)
  have hcls : Looks (model prog w) hp (classData C) cd := looks_clsIn X hc
  obtain ⟨nm, bs, mro, ns, qn, hdd, sn, sb, ab, col, del⟩ := cd
  dsimp only at hd'
  subst hd'
  show wpAny _ _ (storeInOwnDict (.ref x) (.ref C) (.str name _) name v b) _ _ _
  unfold storeInOwnDict ownDictForStores
  repeat (first | with_reducible refine OEX.store_in_old hns hw hz ?_ | with_reducible refine wpAny_loadPart_at hx ?_ | with_reducible refine hcls.at ?_ | wp_step)
  intro h' tk' hn' hs
  exact hq h' tk' (fun b o hb ho => (hs.2 b hb).trans ho) hn'
end

/-! ### C(e, .., k = v, ..): keywords go past the builtin new, to the own __init__ -/
section
variable {prog : Program} {w : World} {A : Around} {E : Value → Shared → Prop} {R : Result → Shared → Prop} {hp : Heap} {g : Array GenState} {d : Drawn} {t : Nat} {os : OsState} {co : Obj} {kw : List (Str × Value)} {us : List Value}
variable {nm q : Str} {C N : Addr} {bs bm bmB : List Value} {hdct : Bool} {sn : List Str} {sub : List Value} {ab : Bool} {col : Option Bool} {dd : Option Addr} {k0 k1 k2 k3 k5 : Option Value} {B nw i : String}
theorem kx_check (F : ExcBaseFacts B nw i bmB) (hT : ∀ X : String, bm.contains (.type X) = bmB.contains (.type X)) (hC : hp.get? C = some (excClassObj nm q C N bs bm hdct sn sub ab col dd k0 k1 k2 k3 k5 nw)) {Q : Unit → Shared → Prop} (z : Q () ⟨hp, g, d, t, os⟩) :
    wpAny (model prog w) A (checkBuiltinCall nw ⟨.ref C :: us, kw⟩) Q E ⟨hp, g, d, t, os⟩ := by
  have c1 : (Value.ref C :: bm).contains (.type B) = true := by rw [List.contains_cons, hT, F.hasB, Bool.or_true]
  have c2 := F.noStar; simp only [checkBuiltinCall, F.newKind, F.newSplit, F.newRow]
  repeat (first | (refine wpAny_loadPart_at hC ?_) | (refine wpAny_isSubtype_exc hC ?_; rw [c1]) | (refine wpAny_staticBase_exc hC ?_) | (refine wpAny_madeBy_exc hC ?_) | (simp only [bne_self_eq_false, Bool.false_eq_true, if_false]) | wp_step)
  exact z
theorem kx_new (F : ExcBaseFacts B nw i bmB) (hT : ∀ X : String, bm.contains (.type X) = bmB.contains (.type X)) (hC : hp.get? C = some (excClassObj nm q C N bs bm hdct sn sub ab col dd k0 k1 k2 k3 k5 nw)) (hl : us.length ≤ sizeLine)
    (z : R (.ok (.ret (.ref (hp.objs.size + 1)))) ⟨(hp.push (excTup us)).push (excObj C hp.objs.size none .none), g, d, t, os⟩) : codeAny (model prog w) A (.builtin nw ⟨.ref C :: us, kw⟩) R ⟨hp, g, d, t, os⟩ := by
  have c0 := F.ends; have c1 : (Value.ref C :: bm).contains (.type B) = true := by rw [List.contains_cons, hT, F.hasB, Bool.or_true]
  have c2 : (Value.ref C :: bm).contains (.type "AttributeError") = false := (List.contains_cons ..).trans (by rw [hT, F.noAttr]; rfl)
  have c3 : (Value.ref C :: bm).contains (.type "NameError") = false := (List.contains_cons ..).trans (by rw [hT, F.noName]; rfl)
  refine codeAny_builtinAt F.entry (by
    unfold Builtin.«BaseException.__new__»
    refine PySem.wpAt_bind (show _root_.PySem.wpAt _ _ _ (stack >>= _) _ _ _ from PySem.wpAt_bind (PySem.wpAt_stack fun p below => PySem.wpAt_of_wpAny ?_))
    wp_walk; refine PySem.wpAt_of_wpAny ?_; rw [F.owner]
    repeat (first | (with_reducible refine wpAny_madeHere_exc F.canon hC ?_) | (with_reducible refine wpAny_loadPart_at hC ?_) | (with_reducible refine wpAny_isSubtype_exc hC ?_; first | rw [c1] | rw [c2] | rw [c3]) | wp_step)
    (show R _ _); rw [Heap.size_push]; exact z)
theorem kx_type (F : ExcBaseFacts B nw i bmB) (hT : ∀ X : String, bm.contains (.type X) = bmB.contains (.type X)) {fI : Addr} {Q : Fin → Shared → Prop} (hC : hp.get? C = some (excClassObj nm q C N bs bm hdct sn sub ab col dd k0 k1 k2 k3 k5 nw))
    (hi : W.Looks (model prog w) hp (typeLookup (.ref C) "__init__") (some (.ref fI))) (hb : ∀ self, W.Looks (model prog w) hp (bindSpecial (.ref fI) self) (.ref fI, [self])) (hl : us.length ≤ sizeLine)
    (z : codeAny (model prog w) A (.call (.ref fI) ⟨.ref (hp.objs.size + 1) :: us, kw⟩) (fun r s' => match r with | .ok (.ret v) => v = .none ∧ Q (.done (.ret (.ref (hp.objs.size + 1)))) s' | .ok _ => False | .error e => E e s') ⟨(hp.push (excTup us)).push (excObj C hp.objs.size none .none), g, d, t, os⟩) :
    wpAny (model prog w) A (Builtin.«type.__call__» ⟨.ref C :: us, kw⟩) Q E ⟨hp, g, d, t, os⟩ := by
  repeat (first | (with_reducible refine wpAny_loadPart_at hC ?_) | (with_reducible refine wpAny_madeBy_exc hC ?_) | wp_step)
  refine codeAny_call_builtin_code (Code.quiet_builtin _ F.quiet) (kx_check F hT hC (kx_new F hT hC hl (show wpAny _ _ _ _ _ _ from ?_)))
  have up : ∀ b o, hp.get? b = some o → ((hp.push (excTup us)).push (excObj C hp.objs.size none .none)).get? b = some o := fun b o e => Heap.get?_push_of_some _ (Heap.get?_push_of_some _ e)
  have nw : ((hp.push (excTup us)).push (excObj C hp.objs.size none .none)).get? (hp.objs.size + 1) = some (excObj C hp.objs.size none .none) := by heap_get
  have hC1 := up _ _ hC; have self : (Value.ref C :: bm).contains (.ref C) = true := by simp
  unfold isInstance; repeat (first | (with_reducible refine wpAny_loadPart_at nw ?_) | (with_reducible refine wpAny_isSubtype_exc hC1 ?_; rw [self]) | wp_step)
  (show wpAny _ _ (typeLookup (.ref C) _) _ _ _); refine (hi.keeps up).at (wpAny_holding (wpAny_bind (((hb (.ref (hp.objs.size + 1))).keeps up).at (wpAny_bind (wpAny_call (codeAny_mono z fun r s' y => ?_))))))
  rcases r with e | (v | _ | _ | _) <;> first | exact y | exact y.elim | skip
  obtain ⟨rfl, y⟩ := y; first | exact wpAny_pure (wpAny_pure y) | (wp_walk; exact y)
theorem kx_checkT (hC : hp.get? C = some (excClassObj nm q C N bs bm hdct sn sub ab col dd k0 k1 k2 k3 k5 nw)) {Q : Unit → Shared → Prop} (z : Q () ⟨hp, g, d, t, os⟩) :
    wpAny (model prog w) A (checkBuiltinCall "type.__call__" ⟨.ref C :: us, kw⟩) Q E ⟨hp, g, d, t, os⟩ := by
  have c1 := tc_sub; have c2 : (⟨hp, g, d, t, os⟩ : Shared).TypeIs (.ref C) "type" := ⟨_, hC, rfl⟩
  simp only [checkBuiltinCall, tc_kind, tc_split]
  repeat (any_goals (first | assumption | (with_reducible refine wpAny_loadPart_at hC ?_) | (with_reducible refine wpAny_onRaise ?_) | (with_reducible refine wpAny_map ?_) | wp_step))
theorem kx_call (F : ExcBaseFacts B nw i bmB) (hT : ∀ X : String, bm.contains (.type X) = bmB.contains (.type X)) {fI : Addr} (hC : hp.get? C = some (excClassObj nm q C N bs bm hdct sn sub ab col dd k0 k1 k2 k3 k5 nw))
    (hi : W.Looks (model prog w) hp (typeLookup (.ref C) "__init__") (some (.ref fI))) (hb : ∀ self, W.Looks (model prog w) hp (bindSpecial (.ref fI) self) (.ref fI, [self])) (hl : us.length ≤ sizeLine)
    (z : codeAny (model prog w) (A.under (.builtin "type.__call__" ⟨.ref C :: us, kw⟩)) (.call (.ref fI) ⟨.ref (hp.objs.size + 1) :: us, kw⟩) (W.InitBack (hp.objs.size + 1) R) ⟨(hp.push (excTup us)).push (excObj C hp.objs.size none .none), g, d, t, os⟩) :
    codeAny (model prog w) A (.call (.ref C) ⟨us, kw⟩) R ⟨hp, g, d, t, os⟩ := by
  have c1 := tc_lookup; have c2 := tc_bind (.ref C); have c3 : (⟨hp, g, d, t, os⟩ : Shared).TypeIs (.ref C) "type" := ⟨_, hC, rfl⟩
  refine codeAny_of_tree (show wpAny _ _ (callAny (.ref C) _) _ _ _ from ?_)
  repeat (any_goals (first | assumption | (with_reducible refine wpAny_loadPart_at hC ?_) | wp_step))
  refine ⟨rfl, codeAny_call_builtin_at (Code.quiet_builtin _ (by decide +kernel)) entry_typeCall (kx_checkT hC (kx_type F hT hC hi hb hl (codeAny_mono z fun r s' y => ?_)))⟩
  rcases r with e | (v | _ | _ | _) <;> exact y
end
end Mx


/-! Mx: exceptions of the program: their own __init__. -/
namespace Mx
open PySem PySem.Spec PyProof.Rows L2 PySem.W PySem.Calls

def storesB : List Str → List Stmt → Bool
  | [], [] => true
  | f :: fs, .Assign [.Attribute (.Name s _) f' _] (.Name y _) _ :: r => decide (s = "self") && (decide (f' = f) && (decide (y = f) && storesB fs r))
  | _, _ => false
def initB (fs : List Str) : List Stmt → Bool
  | .Expr (.Call (.Attribute (.Call (.Name s _) [] [] _) a p) [.Constant (.str _) _ _] [] q) _ :: r => decide (s = "super") && (decide (a = "__init__") && ((p.endLine == q.line) && storesB fs r))
  | _ => false
theorem storesB_nil {r : List Stmt} (h : storesB [] r = true) : r = [] := by
  cases r with
  | nil => rfl
  | cons a r => simp [storesB] at h
theorem storesB_cons {f : Str} {fs : List Str} {b : List Stmt} (h : storesB (f :: fs) b = true) : ∃ p1 p2 p3 p4 r, b = .Assign [.Attribute (.Name "self" p1) f p2] (.Name f p3) p4 :: r ∧ storesB fs r = true := by
  unfold storesB at h
  split at h
  · rename_i h1; cases h1
  · rename_i h1
    cases h1
    simp only [Bool.and_eq_true, decide_eq_true_eq] at h
    obtain ⟨rfl, rfl, rfl, h⟩ := h
    exact ⟨_, _, _, _, _, rfl, h⟩
  · cases h
theorem initB_ok {fs : List Str} {b : List Stmt} (h : initB fs b = true) : ∃ p0 p1 p2 p3 p4 p5 s k r, b = .Expr (.Call (.Attribute (.Call (.Name "super" p0) [] [] p1) "__init__" p2) [.Constant (.str s) k p3] [] p4) p5 :: r ∧ (p2.endLine == p4.line) = true ∧ storesB fs r = true := by
  unfold initB at h
  split at h
  · simp only [Bool.and_eq_true, decide_eq_true_eq] at h
    obtain ⟨rfl, rfl, hl, h⟩ := h
    exact ⟨_, _, _, _, _, _, _, _, _, rfl, hl, h⟩
  · cases h

/-- an exception that is being made: hp0 the heap ahead of it, L the dict of the names of its __init__ -/
structure XMkS (hp0 : Heap) (C x L : Addr) (m : Str → Option Value) (dd : Option Addr) (fs : List (Str × Value)) (h : Heap) : Prop where
  stay : ∀ b o, hp0.get? b = some o → h.get? b = some o
  ns : h.Ns L m
  xL : L ≠ x
  x0 : hp0.objs.size ≤ x
  at_ : ∃ t1, h.get? x = some (excObj C t1 dd .none)
  dct : match dd with | none => fs = [] | some dx => dx ≠ x ∧ dx ≠ L ∧ hp0.objs.size ≤ dx ∧ ∃ mA, h.Ns1 dx mA ∧ ∀ f, mA f = fs.lookup f
theorem lookupV_put (f g : Str) (y : Value) (fs : List (Str × Value)) : ((f, y) :: fs).lookup g = if g = f then some y else fs.lookup g := by
  by_cases h : g = f
  · subst h; simp [List.lookup]
  · have e : (g == f) = false := by simpa using h
    rw [if_neg h]; simp [List.lookup, e]
theorem lookupV_mem {y : Str} : ∀ {fs : List (Str × Value)}, fs.lookup y ≠ none → y ∈ fs.map (·.1)
  | [], h => absurd rfl h
  | (f, z) :: l, h => by
    rw [lookupV_put] at h
    by_cases e : y = f
    · rw [e]; exact List.mem_cons_self ..
    · rw [if_neg e] at h
      exact List.mem_cons_of_mem _ (lookupV_mem h)
theorem withinV {fs : List (Str × Value)} {mA : Str → Option Value} (r : ∀ f, mA f = fs.lookup f) : Within mA (fs.map (·.1)) := fun y hy => lookupV_mem (by rw [← r y]; exact hy)
theorem ns_keep {h h' : Heap} {L : Addr} {m : Str → Option Value} (n : h.Ns L m) (k : ∀ o, h.get? L = some o → h'.get? L = some o) : h'.Ns L m := by
  obtain ⟨o, es, ep, ho, r⟩ := n
  exact ⟨o, es, ep, k o ho, r⟩
theorem size_ne {h : Heap} {b x : Addr} {o : Obj} (e : h.get? b = some o) (n : h.objs.size ≤ x) : b ≠ x := Nat.ne_of_lt (Nat.lt_of_lt_of_le (Heap.lt_size e) n)
theorem ns_lt {h : Heap} {L : Addr} {m : Str → Option Value} (n : h.Ns L m) : L < h.objs.size := by
  obtain ⟨o, es, ep, ho, r⟩ := n
  exact Heap.lt_size ho
section
variable {prog : Program} {w : World} {A : Around} {E : Value → Shared → Prop} {K : Frag} {hp0 : Heap} {g : Array GenState} {d : Drawn} {os : OsState} {B newId i : String} {bmB : List Value} {C x L : Addr} {m : Str → Option Value} {env : Env} {c : Code}
theorem stores_run (T : XCls K C B newId i bmB) (X : K.In hp0) (hk : env.scope.kind = .function) (hL : env.locals = L) (ms : m "self" = some (.ref x)) (ks : env.kindOf "self" = some .local) {Q : Flow → Shared → Prop} :
    ∀ {fs : List Str} {body : List Stmt} {vs : List (Str × Value)} {dd : Option Addr} {h : Heap} {t : Nat}, storesB fs body = true → (∀ f ∈ fs, ∃ v, m f = some v ∧ env.kindOf f = some .local ∧ (f == ("__debug__" : Str)) = false ∧ findIn K (.ref C) f = some none) → fs.length + vs.length ≤ 1000 → XMkS hp0 C x L m dd vs h →
      (∀ dd' h' t', XMkS hp0 C x L m dd' (fs.foldl (fun l f => (f, (m f).getD .none) :: l) vs) h' → Q .next ⟨h', g, d, t', os⟩) → _root_.PySem.wpAt (model prog w) A c (execs body env) Q E ⟨h, g, d, t, os⟩
  | [], body, vs, dd, h, t, hb, _, _, S, z => by
    cases storesB_nil hb
    exact PySem.wpAt_of_wpAny (wpAny_pure (z dd h t S))
  | f :: fs, body, vs, dd, h, t, hb, hf, hz, S, z => by
    obtain ⟨p1, p2, p3, p4, r, rfl, hb2⟩ := storesB_cons hb
    obtain ⟨v, mv, kf, kd, no⟩ := hf f (List.mem_cons_self ..)
    have hf' := fun y hy => hf y (List.mem_cons_of_mem _ hy)
    have mvd : (m f).getD .none = v := by rw [mv]; rfl
    have hNs : ∀ {h : Heap}, h.Ns L m → h.Ns env.locals m := fun n => by rw [hL]; exact n
    have XK : K.In h := X.keeps S.stay
    refine ks_wpAt_execs_cons (ks_wpAt_Assign_Attr (PySem.wpAt_of_wpAny (wpAny_Name (wpAny_loadName_local hk kf (hNs S.ns) mv (wpAny_Name (wpAny_loadName_local hk ks (hNs S.ns) ms ?_) (by decide))) kd)))
    obtain ⟨t1, hx⟩ := S.at_
    cases dd with
    | none =>
      have e0 : vs = [] := S.dct
      subst e0
      refine x_new T XK hx no fun h' tk' dx k1 sz ne1 hx' hn => ?_
      have Lne : dx ≠ L := fun q => absurd (ns_lt S.ns) (by rw [← q]; exact Nat.not_lt.mpr sz)
      have sz0 : hp0.objs.size ≤ dx := Nat.le_trans S.x0 (Nat.le_trans (Nat.le_of_lt (Heap.lt_size hx)) sz)
      refine stores_run T X hk hL ms ks (vs := [(f, v)]) (dd := some dx) hb2 hf' (by simp only [List.length_cons, List.length_nil] at hz ⊢; omega) ⟨fun b o e => k1 b o (size_ne e S.x0) (S.stay b o e), ns_keep S.ns fun o e => k1 L o S.xL e, S.xL, S.x0, ⟨t1, hx'⟩, ne1, Lne, sz0, _, hn, fun y => (lookupV_put f y v []).symm⟩ fun dd' h2 t2 S2 => z dd' h2 t2 (by
        simp only [List.foldl_cons, mvd]; exact S2)
    | some dx =>
      obtain ⟨ne1, Lne, sz0, mA, hn, hA⟩ := S.dct
      refine x_old T XK hx hn (withinV hA) (by rw [List.length_map]; simp only [List.length_cons] at hz; omega) no fun h' tk' k1 hn' => ?_
      refine stores_run T X hk hL ms ks (vs := (f, v) :: vs) (dd := some dx) hb2 hf' (by simp only [List.length_cons] at hz ⊢; omega) ⟨fun b o e => k1 b o (size_ne e sz0) (S.stay b o e), ns_keep S.ns fun o e => k1 L o (Ne.symm Lne) e, S.xL, S.x0, ⟨t1, k1 x _ (Ne.symm ne1) hx⟩, ne1, Lne, sz0, _, hn', fun y => by
        show (if y = f then some v else mA y) = _; rw [lookupV_put, hA y]⟩ fun dd' h2 t2 S2 => z dd' h2 t2 (by simp only [List.foldl_cons, mvd]; exact S2)
end
end Mx


/-! Mx: exceptions of the program: super().__init__(text), the whole of __init__, C(..). -/
namespace Mx
open PySem PySem.Spec PyProof.Rows L2 PySem.W PySem.Calls
def isG : Option NameKind → Bool
  | some .globalImplicit => true
  | _ => false
def isF : Option NameKind → Bool
  | some .free => true
  | _ => false
def isL : Option NameKind → Bool
  | some .local => true
  | _ => false
theorem isK0 {k : Option NameKind} (h : isG k = true) : k = some .globalImplicit := by unfold isG at h; split at h <;> first | rfl | cases h
theorem isK1 {k : Option NameKind} (h : isF k = true) : k = some .free := by unfold isF at h; split at h <;> first | rfl | cases h
theorem isK2 {k : Option NameKind} (h : isL k = true) : k = some .local := by unfold isL at h; split at h <;> first | rfl | cases h
def scB (fs : List Str) (sc : Scope) : Bool :=
  (match sc.kind with | .function => true | _ => false) && ((!sc.isCoroutine && !sc.isGenerator) && ((isG (sc.names.lookup ("super" : Str)) && (isF (sc.names.lookup ("__class__" : Str)) && isL (sc.names.lookup ("self" : Str)))) &&
    ((fs.all fun f => isL (sc.names.lookup f) && !(f == ("__debug__" : Str))) && (decide ((("self" : Str) :: fs).Nodup) && sc.names.all fun y => match y.2 with | .cell => false | _ => true))))
/-- the own __init__ of an exception class: the function, its parts -/
structure XInit (P : Program) (K : Frag) (C fI : Addr) (B i : String) (fd : FuncData) (ps : List Str) : Prop where
  find : findIn K (.ref C) "__init__" = some (some (.ref fI))
  sup : ks_superIn K C C "__init__" = some (some (.builtin i))
  subB : subIn K (.ref C) (.type B) = some true
  mroC : mroIn K C (.ref C) = some true
  no : ∀ f ∈ ps, findIn K (.ref C) f = some none
  few : ps.length ≤ 100
  top : (P.main.scope.names.lookup ("super" : Str)).isSome = false
  opq : nsIn K cStatics "thirdparty.any" = some none
  ex : ∃ (name qual : Str) (params : Arguments) (body : List Stmt) (scope : Scope) (dV kV doc pm : Value) (an : Option Addr) (cda cc : Addr) (ct : Value) (od : Option Addr) (osl : Array (Option Value)) (ar : Arg) (ccl cl : Value) (cdd cld : Option Addr) (ccs csl : Array (Option Value)) (vs : Array Value) (file : Str) (tf : Tok),
    fd = ksFn name qual params body scope dV kV doc pm an (.ref cda) ct cc ∧ K.lookup fI = some ⟨.type "function", od, .func fd, osl⟩ ∧ codeIn K (.ref cda) qual = true ∧ K.lookup cda = some ⟨ccl, cdd, .fields vs, ccs⟩ ∧ vs[2]? = some (.str file tf) ∧ ((P.main.file : Str) == file) = true ∧
    K.lookup cc = some ⟨cl, cld, .cell (some (.ref C)), csl⟩ ∧ (params.posonlyargs ++ params.args).head? = some ar ∧ ar.arg = "self" ∧ initB ps body = true ∧ scB ps scope = true
theorem lookup_of {y : Str} {v : Value} : ∀ {l : List (Str × Value)}, (l.map (·.1)).Nodup → (y, v) ∈ l → l.lookup y = some v
  | [], _, h => nomatch h
  | (f, z) :: l, n, h => by
    rw [lookupV_put]
    rw [List.map_cons, List.nodup_cons] at n
    rcases List.mem_cons.mp h with h | h
    · cases h; rw [if_pos rfl]
    · have : y ≠ f := fun e => n.1 (by rw [← e]; exact List.mem_map_of_mem (f := (·.1)) h)
      rw [if_neg this]; exact lookup_of n.2 h
theorem xzip_fst : ∀ {ps : List Str} {zs : List Value}, zs.length = ps.length → (ps.zip zs).map (·.1) = ps
  | [], [], _ => rfl
  | p :: ps, z :: zs, h => by rw [List.zip_cons_cons, List.map_cons, xzip_fst (by simpa using h)]
theorem zip_has {y : Str} : ∀ {ps : List Str} {zs : List Value}, zs.length = ps.length → y ∈ ps → ∃ v, (y, v) ∈ ps.zip zs
  | [], [], _, h => nomatch h
  | p :: ps, z :: zs, h, hy => by
    rcases List.mem_cons.mp hy with e | e
    · exact ⟨z, by rw [e]; exact List.mem_cons_self ..⟩
    · obtain ⟨v, q⟩ := zip_has (ps := ps) (zs := zs) (by simpa using h) e
      exact ⟨v, List.mem_cons_of_mem _ q⟩
theorem lookup_none {y : Str} : ∀ {l : List (Str × Value)}, y ∉ l.map (·.1) → l.lookup y = none := fun {l} h => by
  cases e : l.lookup y with
  | none => rfl
  | some v => exact absurd (lookupV_mem (y := y) (fs := l) (by rw [e]; exact fun z => nomatch z)) h
theorem fold_lookup (m : Str → Option Value) (y : Str) : ∀ (ps : List Str) (vs : List (Str × Value)), (ps.foldl (fun l f => (f, (m f).getD .none) :: l) vs).lookup y = if y ∈ ps then some ((m y).getD .none) else vs.lookup y
  | [], vs => by simp
  | p :: ps, vs => by
    rw [List.foldl_cons, fold_lookup m y ps, lookupV_put]
    by_cases h1 : y ∈ ps
    · rw [if_pos h1, if_pos (List.mem_cons_of_mem _ h1)]
    · rw [if_neg h1]
      by_cases h2 : y = p
      · rw [if_pos h2, if_pos (by rw [h2]; exact List.mem_cons_self ..), h2]
      · rw [if_neg h2, if_neg fun z => (List.mem_cons.mp z).elim h2 h1]
theorem fold_nil {m : Str → Option Value} : ∀ {ps : List Str} {vs : List (Str × Value)}, ps.foldl (fun l f => (f, (m f).getD .none) :: l) vs = [] → ps = []
  | [], _, _ => rfl
  | p :: ps, vs, h => by
    rw [List.foldl_cons] at h
    have e := fold_nil h
    subst e
    simp at h
/-- the exception at x is made: hp0 the heap ahead of it -/
def Made (hp0 : Heap) (C x : Addr) (ps : List Str) (zs : List Value) (dd : Option Addr) (h : Heap) : Prop :=
  (∀ b o, hp0.get? b = some o → h.get? b = some o) ∧ (∃ t1, h.get? x = some (excObj C t1 dd .none)) ∧ match dd with | none => ps = [] | some dx => dx ≠ x ∧ hp0.objs.size ≤ dx ∧ ∃ mA, h.Ns1 dx mA ∧ ∀ f, mA f = (ps.zip zs).lookup f
theorem inter_no {env : Env} (h : env.scope.kind = .function) : interactive env = false := by
  unfold interactive
  rw [h]
  rfl
/-- a method call with one argument, written on one line -/
theorem eval_m1 {o e : Expr} {name : Str} {apos pos : Pos} {env : Env} (hs : starEach [e] env = [(false, eval e env)]) (hl : (apos.endLine == pos.line) = true) : eval (.Call (.Attribute o name apos) [e] [] pos) env = (do
      let ov ← attributeBase o name env (eval o env)
      standAt apos.atName
      let (f, first) ← holding [ov] (getMethod ov name (do return (← importBound o env).getD true))
      callWith pos f first (backTo pos (starEach [e] env)) []) := by
  have n : methodCallForm 1 (backTo pos (starEach [e] env)) [] = true := by rw [hs]; rfl
  show (attributeBase o name env (eval o env) >>= fun ov => standAt apos.atName >>= fun _ => methodCall o name apos pos env ov 1 (backTo pos (starEach [e] env)) []) = _
  unfold methodCall calleeOf methodCallPos
  simp only [n, hl, Bool.not_true, Bool.false_or, if_true, pure_bind]
section
variable {prog : Program} {w : World} {A : Around} {R : Result → Shared → Prop} {K : Frag} {hp0 hp : Heap} {g : Array GenState} {d : Drawn} {t : Nat} {os : OsState} {B newId i : String} {bmB : List Value} {C x fI t1 : Addr} {mg mb : Str → Option Value} {fd : FuncData} {ps : List Str}
/-- the bound __init__ of the built-in class, called -/
theorem bound_run {u : Addr} {v : Value} {E : Value → Shared → Prop} {Q : Value → Shared → Prop} (T : XCls K C B newId i bmB) (X : K.In hp) (hu : hp.get? u = some (kxs_mw i x)) (hx : hp.get? x = some (excObj C t1 none .none))
    (z : ∀ h' t', (∀ b o, b ≠ x → hp.get? b = some o → h'.get? b = some o) → h'.get? x = some (excObj C t' none .none) → Q .none ⟨h', g, d, t, os⟩) : wpAny (model prog w) A (call (.ref u) [v]) Q E ⟨hp, g, d, t, os⟩ := by
  obtain ⟨nm, N', qn, bs, bm, hdct, sn, sub, ab, col, dd, k0, k1, k2, k3, k5, hC, hT⟩ := excInit_of X T.ini
  have FB := T.base.fb
  refine wpAny_call (codeAny_of_tree (show wpAny _ A.in1 (callAny (.ref u) ⟨[v], []⟩) _ _ _ from ?_))
  simp only [callAny]; refine wpAny_bind (wpAny_load hu ?_)
  simp only [kxs_mw, show (Value.type "method-wrapper" == Value.type "method" || Value.type "method-wrapper" == Value.type "builtin_function_or_method" || Value.type "method-wrapper" == Value.type "method-wrapper") = true by decide, if_true]; refine KFB.if_so (by decide) (wpAny_bind (check_bound_init FB.toExcCallFacts hC hx rfl (wpAny_bind (wpAny_pure (wpAny_pure ⟨plainId_quiet FB.init.plain _, codeAny_builtin FB.initEntry ?_⟩)))))
  exact exc_init_tree (cls := .ref C) (t0 := t1) (dv := none) (c2 := .none) (c3 := .none) (b4 := .bool false) hx (show 1 ≤ sizeLine by rw [sizeLine_eq]; omega) fun h' k e' _ => z h' _ k e'
/-- the whole of __init__ -/
theorem init_run {args : Args} {zs : List Value} (T : XCls K C B newId i bmB) (J : XInit prog K C fI B i fd ps) (X : K.In hp0) (gl : hp0.Ns mainGlobals mg) (hmg : mg "super" = none) (bl : hp0.Ns builtinsNs mb) (hmb : mb "super" = some (.type "super")) (lim : hp0.NoLimit)
    (stay : ∀ b o, hp0.get? b = some o → hp.get? b = some o) (x0 : hp0.objs.size ≤ x) (hx : hp.get? x = some (excObj C t1 none .none)) (room : A.depth < recursionLimit) (hl : zs.length = ps.length) (hb : BindsTo ⟨hp, g, d, t, os⟩ fd args ((("self" : Str) :: ps).zip (.ref x :: zs)))
    (z : ∀ dd h' t', Made hp0 C x ps zs dd h' → R (.ok (.ret .none)) ⟨h', g, d, t', os⟩) : codeAny (model prog w) A (.call (.ref fI) args) R ⟨hp, g, d, t, os⟩ := by
  obtain ⟨name, qual, params, body, scope, dV, kV, doc, pm, an, cda, cc, ct, od, osl, ar, ccl, cl, cdd, cld, ccs, csl, vs, file, tf, rfl, lf, lc, lk, h2, hfile, lcc, har, ear, hib, hsc⟩ := J.ex
  obtain ⟨p0, p1, p2, p3, p4, p5, tx, kd, r, rfl, hln, hst⟩ := initB_ok hib
  unfold scB at hsc
  simp only [Bool.and_eq_true, Bool.not_eq_true', List.all_eq_true, decide_eq_true_eq] at hsc
  obtain ⟨q1, ⟨q2, q3⟩, ⟨q4, q5, q6⟩, q7, q8, q9⟩ := hsc
  have kind : scope.kind = .function := by split at q1 <;> first | assumption | cases q1
  have cells : ∀ y ∈ scope.names, y.2 ≠ .cell := fun y hy e => by have := q9 y hy; rw [e] at this; cases this
  have XK : K.In hp := X.keeps stay
  have zl : (Value.ref x :: zs).length = (("self" : Str) :: ps).length := by simp [hl]
  have fst := xzip_fst zl
  have nd : (((("self" : Str) :: ps).zip (Value.ref x :: zs)).map (·.1)).Nodup := by rw [fst]; exact q8
  have ndr : (((("self" : Str) :: ps).zip (Value.ref x :: zs)).reverse.map (·.1)).Nodup := by rw [List.map_reverse]; exact (List.reverse_perm _).nodup_iff.mpr nd
  have mOf : ∀ {y : Str} {v : Value}, (y, v) ∈ (("self" : Str) :: ps).zip (Value.ref x :: zs) → ((("self" : Str) :: ps).zip (Value.ref x :: zs)).reverse.lookup y = some v := fun h => lookup_of ndr (List.mem_reverse.mpr h)
  have lcl : ∀ y ∈ (("self" : Str) :: ps).zip (Value.ref x :: zs), scope.names.lookup y.1 = some .local := fun y hy => by
    have hy' : y.1 ∈ (("self" : Str) :: ps) := by rw [← fst]; exact List.mem_map_of_mem (f := (·.1)) hy
    rcases List.mem_cons.mp hy' with e | e
    · rw [e]; exact isK2 q6
    · exact isK2 (q7 _ e).1
  refine ks_codeAny_call_defAt room (XK _ _ lf) rfl (lim.keeps stay) (codeRec_of XK lc) rfl hb cells lcl (fun h₀ ns k₀ => ?_) q2 q3 kind
  have X1 : K.In h₀ := XK.keeps k₀
  have hx1 := k₀ _ _ hx
  have Lx : hp.objs.size ≠ x := fun e => absurd (Heap.lt_size hx) (by rw [e]; exact Nat.lt_irrefl _)
  obtain ⟨cdC, hcC, _⟩ := any_some (show (clsIn K C).any (·.hasDict) = true from T.hd)
  obtain ⟨oC, gC, dC⟩ : ∃ oC, h₀.get? C = some oC ∧ oC.data = .cls cdC := by
    have hcC' := hcC
    unfold clsIn at hcC'
    split at hcC'
    · rename_i c dd cd' sl ho; cases hcC'; exact ⟨_, X1 _ _ ho, rfl⟩
    · cases hcC'
  have I1 : InstAt h₀ x (excObj C t1 none .none) C none := ⟨hx1, rfl, rfl, trivial⟩
  have hp1 : hp0.StaysIn h₀ := fun b o e => k₀ b o (stay b o e)
  refine ks_wpAt_execs_cons (ks_wpAt_Expr_any (hi := inter_no kind) (ks_wpAt_MethodCall (he := eval_m1 rfl hln) (ks_wpAt_super_base (isK0 q4) (isK1 q5) (by decide) rfl (X1 _ _ lf) rfl har rfl (X1 _ _ lk) rfl h2 hfile J.top ?_)))
  refine ks_loadName_global kind (isK0 q4) (loadGlobal_builtin (gl.keeps hp1) hmg (bl.keeps hp1) hmb ⟨rfl, wpAny_loadName_free kind (isK1 q5) rfl ⟨_, X1 _ _ lcc, rfl⟩ ?_⟩)
  rw [ear]
  refine wpAny_loadName_local kind (isK2 q6) ns (mOf (by rw [List.zip_cons_cons]; exact List.mem_cons_self ..)) (ks_wpAny_isType_cls gC dC ⟨rfl, ks_wpAny_call_super gC dC hx1 rfl (fun c e => by cases e) (looks_mroIn X1 J.mroC) fun h1 so k1 => ?_⟩)
  have X2 : K.In h1 := X1.keeps k1
  have I2 : InstAt h1 x (excObj C t1 none .none) C none := ⟨k1 _ _ hx1, rfl, rfl, trivial⟩
  have sup := J.sup
  unfold ks_superIn at sup
  rw [hcC] at sup
  refine kxs_getMethod T.base.kf so (looks_opaque X2 J.opq) (l₀ := cdC.mro) (fun A Q E s k q => wpAny_bind ((looks_clsIn X2 hcC) A _ E s k (wpAny_pure q))) rfl X2 sup (I2.type.andThen (looks_subIn X2 J.subB)) (ks_ne X2 I2 hcC) (by decide) ?_
  have gu : (h1.push (kxs_mw i x)).get? h1.objs.size = some (kxs_mw i x) := Heap.get?_push_at rfl rfl
  have k2 : ∀ b o, h1.get? b = some o → (h1.push (kxs_mw i x)).get? b = some o := fun b o e => Heap.get?_push_of_some _ e
  refine kxs_callWith (i := i) (x := x) rfl (evalArgs_plain (Calls.spliced_cons (lit_str (x := tx) (k := kd) (pos := p3) _ fun v tk _ => Calls.spliced_nil ⟨gu, ?_⟩)))
  refine bound_run T (X2.keeps k2) gu (k2 _ _ (k1 _ _ hx1)) fun h3 t3 k3 hx3 => ?_
  have up : ∀ b o, b ≠ x → h₀.get? b = some o → h3.get? b = some o := fun b o n e => k3 b o n (k2 b o (k1 b o e))
  refine stores_run (env := callEnv (ksFn name qual params _ scope dV kV doc pm an (.ref cda) ct cc) hp.objs.size fI) (m := fun y => ((("self" : Str) :: ps).zip (Value.ref x :: zs)).reverse.lookup y) (vs := []) (dd := none) (L := hp.objs.size) T X kind rfl (mOf (by rw [List.zip_cons_cons]; exact List.mem_cons_self ..)) (isK2 q6) hst (fun f hf => ?_) (by have := J.few; simp only [List.length_nil]; omega)
    ⟨fun b o e => up b o (size_ne e x0) (hp1 b o e), ns_keep ns fun o e => up _ o Lx e, Lx, x0, ⟨_, hx3⟩, rfl⟩ fun dd h4 t4 S => ?_
  · obtain ⟨v, hv⟩ := zip_has (ps := ("self" : Str) :: ps) zl (List.mem_cons_of_mem _ hf)
    exact ⟨v, mOf hv, isK2 (q7 f hf).1, (q7 f hf).2, J.no f hf⟩
  · refine z dd h4 t4 ⟨S.stay, S.at_, ?_⟩
    have D := S.dct
    cases dd with
    | none => exact fold_nil D
    | some dx =>
      obtain ⟨n1, n2, n3, mA, hn, hA⟩ := D
      refine ⟨n1, n3, mA, hn, fun f => ?_⟩
      rw [hA f, fold_lookup]
      have q8' := (List.nodup_cons.mp q8).2
      by_cases hf : f ∈ ps
      · obtain ⟨v, hv⟩ := zip_has hl hf
        rw [if_pos hf, mOf (v := v) (by rw [List.zip_cons_cons]; exact List.mem_cons_of_mem _ hv), lookup_of (by rw [xzip_fst hl]; exact q8') hv]
        rfl
      · rw [if_neg hf, lookup_none (l := ps.zip zs) (by rw [xzip_fst hl]; exact hf)]
        rfl
end
end Mx


/-! Mx, part 4b: what a def promises; its call. -/
namespace Mx
open PySem PySem.Spec PyProof.Rows L2

/-- an exception of the program: its class, its fields -/
def XRep (K : PySem.W.Frag) (cl : Nat → Option Addr) (O : List Addr) (H : Hp) (c : Value) (dd : Option Addr) (x : Xn) : Prop :=
  ∃ A, cl x.c = some A ∧ c = .ref A ∧ ((x.fs = [] ∧ dd = none) ∨ ∃ d fs, dd = some d ∧ d ∉ O ∧ H d = some (.xd fs) ∧ RepAll K cl O H (fs.map (·.2)) x.fs)
def ArgR (K : PySem.W.Frag) (cl : Nat → Option Addr) (O : List Addr) (H : Hp) : List Bool → List V → List IV → Prop
  | [], [], [] => True
  | false :: ms, v :: vs, d :: ds => Rep K cl O H v d ∧ ArgR K cl O H ms vs ds
  | true :: ms, v :: vs, d :: ds => (∃ a, v = .ref a ∧ a ∈ O ∧ Own K cl O H a d) ∧ ArgR K cl O H ms vs ds
  | _, _, _ => False
def mutA : List Bool → List V → List (Option Addr)
  | true :: ms, .ref a :: vs => some a :: mutA ms vs
  | _ :: ms, _ :: vs => none :: mutA ms vs
  | _, _ => []
/-- the changing objects behind a call -/
def MutR (K : PySem.W.Frag) (cl : Nat → Option Addr) (O : List Addr) (H : Hp) : List Bool → List V → List IV → Prop
  | [], [], [] => True
  | false :: ms, _ :: vs, _ :: ds => MutR K cl O H ms vs ds
  | true :: ms, v :: vs, d :: ds => (∃ a, v = .ref a ∧ Own K cl O H a d) ∧ MutR K cl O H ms vs ds
  | _, _, _ => False
theorem MutR.less {K : PySem.W.Frag} {cl : Nat → Option Addr} {O O' : List Addr} {H : Hp} (k : ∀ a, a ∈ O' → a ∈ O) : ∀ {ms : List Bool} {vs : List V} {ds : List IV}, MutR K cl O H ms vs ds → MutR K cl O' H ms vs ds
  | [], [], [], _ => trivial
  | false :: ms, _ :: vs, _ :: ds, h => MutR.less (ms := ms) (vs := vs) (ds := ds) k h
  | true :: ms, v :: vs, d :: ds, h => by
    obtain ⟨⟨a, e, w⟩, h⟩ := (show (∃ a, v = .ref a ∧ Own K cl O H a d) ∧ MutR K cl O H ms vs ds from h)
    exact ⟨⟨a, e, w.less k⟩, MutR.less (ms := ms) (vs := vs) (ds := ds) k h⟩
def Fram (H H' : Hp) (M : List (Option Addr)) : Prop := ∀ a o, H a = some o → some a ∉ M → H' a = some o
/-- what is wanted behind a call -/
def fEnd (K : PySem.W.Frag) (cl : Nat → Option Addr) (O : List Addr) (H : Hp) (fn : Fn) (vs : List V) (Q : VK) (E : XK) : Option (Except Xn IV × List IV) → Prop
  | none => False
  | some (.ok d, ms) => if fn.own = true then ∀ p H', H p = none → Fram H H' (mutA fn.muts vs) → MutR K cl (p :: O) H' fn.muts vs ms → Own K cl (p :: O) H' p d → Q (.ref p) H'
    else ∀ v H', Fram H H' (mutA fn.muts vs) → MutR K cl O H' fn.muts vs ms → Rep K cl O H' v d → Q v H'
  | some (.error x, ms) => ∀ c dd H', Fram H H' (mutA fn.muts vs) → MutR K cl O H' fn.muts vs ms → XRep K cl O H' c dd x → E c dd H'
/-- a def's promise -/
def spF (cs : CS) (K : PySem.W.Frag) (cl : Nat → Option Addr) (f : Nat) (fn : Fn) : Sp := fun vs H Q E =>
  ∃ O ds, (∀ a ∈ O, H a ≠ none) ∧ vs.length = fn.ps.length ∧ ArgR K cl O H fn.muts vs ds ∧ ((mutA fn.muts vs).filterMap id).Nodup ∧ fEnd K cl O H fn vs Q E (cs f ds)
/-- the def at f keeps a promise, called where no repr is under way -/
structure FnR (P : Program) (w : World) (K : PySem.W.Frag) (mg : Str → Option Value) (base : Heap) (k : Nat) (f : Addr) (fd : FuncData) (ps : List Str) (sp : Sp) : Prop where
  len : ∀ vs H Q E, sp vs H Q E → vs.length = ps.length
  run : ∀ (A : Around) (outer : List Env) (s : Shared) (H : Hp) (args : Args) (us : List Value) (vs : List V) (Q : VK) (E : XK), A.guards = some [] → Room k A → Env0 P w K mg base A outer s H → BindsTo s fd args (ps.zip us) → Vals vs us → sp vs H Q E →
    codeAny (model P w) A (.call (.ref f) args) (CR (L2.CX P w) outer P w H s Q E) s
/-- keywords come to parameters so -/
def KwOk (K : PySem.W.Frag) (fd : FuncData) (ps : List Str) (p : Nat × List Str × List Nat) : Prop :=
  ∀ (s : Shared) (us ws zs : List Value), K.In s.heap → us.length = p.1 → ws.length = p.2.1.length → pick (us ++ ws) p.2.2 = some zs → BindsTo s fd ⟨us, p.2.1.zip ws⟩ (ps.zip zs)
/-- what reading the fields and isinstance ask of an exception class -/
structure XGet (K : PySem.W.Frag) (C : Addr) : Prop where
  ga : PySem.W.findIn K (.ref C) "__getattribute__" = some (some (.builtin "BaseException.__getattribute__"))
  gg : PySem.W.findIn K (.ref C) "__getattr__" = some none
  sub : PySem.W.subIn K (.ref C) (.type "BaseException") = some true
  ca : PySem.W.findIn K (.ref C) "__class__" = some (some (.builtin "object.__class__"))
  cn : PySem.W.specialIn K (.builtin "object.__class__") "__get__" = some (some (.builtin "getset_descriptor.__get__"))
  ct : PySem.W.takesIn K (.builtin "object.__class__") = some true
  cm : PySem.W.mroIn K C (.type "object") = some true
  hd : PySem.W.hasDictIn K C = true
/-- an exception class -/
def XF (P : Program) (K : PySem.W.Frag) (mg : Str → Option Value) (cl : Nat → Option Addr) (c : Nat) (xc : Xc) : Prop :=
  ∃ C B newId i bmB, cl c = some C ∧ mg xc.name = some (.ref C) ∧ XCls K C B newId i bmB ∧ XGet K C ∧ (∀ f ∈ xc.ps, PySem.W.findIn K (.ref C) f = some none) ∧ xc.ps.length ≤ 100 ∧
    if xc.own = true then ∃ fI fd, XInit P K C fI B i fd xc.ps ∧ PySem.W.isFn K (.ref fI) = true ∧ Binds K fd (("self" : Str) :: xc.ps) [] ∧ ∀ p ∈ xc.kws, KwOk K fd (("self" : Str) :: xc.ps) (p.1 + 1, p.2.1, 0 :: p.2.2.map (· + 1))
    else xc.ps = [] ∧ xc.kws = [] ∧ PySem.W.findIn K (.ref C) "__init__" = some (some (.builtin i))
/-- what a name of a class gives -/
def NmV (mg : Str → Option Value) (x : Str) (v : V) (u : Value) : Prop := (∃ D, mg x = some (.ref D) ∧ v = .ref D ∧ u = .ref D) ∨ ∃ n, mg x = none ∧ bootBuiltins x = some (.type n) ∧ x ≠ "__name__" ∧ v = .ty n ∧ u = .type n
inductive NmVs (mg : Str → Option Value) : List Str → List V → List Value → Prop
  | nil : NmVs mg [] [] []
  | cons {x : Str} {v : V} {u : Value} {xs : List Str} {vs : List V} {us : List Value} : NmV mg x v u → NmVs mg xs vs us → NmVs mg (x :: xs) (v :: vs) (u :: us)
/-- isinstance with classes: which exceptions are theirs, which are not -/
def XI (K : PySem.W.Frag) (mg : Str → Option Value) (cl : Nat → Option Addr) (q : List Str × Bool × List Nat × List Nat) : Prop :=
  ∃ vs us, NmVs mg q.1 vs us ∧ (∀ c ∈ q.2.2.1, ∀ C, cl c = some C → XGet K C ∧ PySem.W.kitAny K (.ref C) us = some true) ∧ ∀ c ∈ q.2.2.2, ∀ C, cl c = some C → XGet K C ∧ PySem.W.kitAny K (.ref C) us = some false
structure Facts (T : Tab) (cs : CS) (k : Nat) (cl : Nat → Option Addr) (P : Program) (w : World) (K : PySem.W.Frag) (mg : Str → Option Value) (base : Heap) : Prop where
  glo : ∀ p ∈ T.glo, ∃ u v, mg p.1 = some u ∧ RelV v u ∧ ∀ O H, Rep K cl O H v p.2
  blt : ∀ x ∈ T.blt, mg x = none
  xcls : ∀ c xc, T.xcls c = some xc → XF P K mg cl c xc
  isx : ∀ q ∈ T.isx, XI K mg cl q
  sup : T.xcls 0 ≠ none → mg "super" = none
  fns : ∀ f fn, T.fns f = some fn → ∃ a fd, mg fn.name = some (.ref a) ∧ PySem.W.keepIn K (.ref a) = true ∧ Binds K fd fn.ps [] ∧ (∀ p ∈ fn.kws, KwOk K fd fn.ps p) ∧ FnR P w K mg base k a fd fn.ps (spF cs K cl f fn)
section
variable {X : Cx} {W : WX} {k : Nat} {f : Addr} {fd : FuncData} {ps : List Str} {sp : Sp} {x : Str} {p pos : Pos}
def tCallR (sp : Sp) (W : WX) (t : TA) : TE := fun σ H Q => t σ H fun vs H1 => sp vs H1 Q (fun c d H' => W c d σ H')
theorem run_fnR {pins : List (Addr × Obj)} {σ : L2.St} {H : Hp} {s : Shared} {Q : VK} {args : Args} {us : List Value} {vs : List V} (F : FnR X.prog X.w X.K X.mg X.base k f fd ps sp) (hg : X.A.guards = some []) (hr : Room k X.A) (tk : Takes X W)
    (I : Inv X pins σ H s) (hb : BindsTo s fd args (ps.zip us)) (r : Vals vs us) (h : sp vs H Q (fun c d H' => W c d σ H')) : wpAny (model X.prog X.w) X.A (call (.ref f) args.pos args.kw) (EP X pins σ Q) X.xe s := by
  have go := F.run X.A X.stack s H args us vs Q _ hg hr I.env0 hb r h
  refine wpAny_call (codeAny_mono go fun res s' hq => ?_)
  cases res with
  | error e => exact passAt tk σ pins H s e s' I hq
  | ok fl =>
    cases fl with
    | ret u => exact I.after hq
    | next => exact hq.elim
    | brk => exact hq.elim
    | cont => exact hq.elim
theorem star_one {e : Expr} (h : notStar e = true) (es : List Expr) (env : Env) : starEach (e :: es) env = (false, eval e env) :: starEach es env := by
  cases e <;> first | rfl | cases h
theorem star_none : ∀ {es : List Expr} (env : Env) (pos : Pos), (es.all notStar) = true → (backTo pos (starEach es env)).any (·.1) = false
  | [], _, _, _ => rfl
  | e :: es, env, pos, h => by
    rw [List.all_cons, Bool.and_eq_true] at h
    rw [star_one h.1 es env]
    show (false || (backTo pos (starEach es env)).any (·.1)) = false
    rw [star_none env pos h.2]
    rfl
theorem fin_fnR {pins : List (Addr × Obj)} {σ : L2.St} {H : Hp} {s : Shared} {Q : VK} {us : List Value} {vs : List V} (F : FnR X.prog X.w X.K X.mg X.base k f fd ps sp) (hG : X.A.guards = some []) (hr : Room k X.A) (tk : Takes X W) (hb : Binds X.K fd ps [])
    (I : Inv X pins σ H s) (r : Vals vs us) (q : sp vs H Q (fun c d H' => W c d σ H')) : wpAny (model X.prog X.w) X.A (call (.ref f) us) (EP X pins σ Q) X.xe s := by
  have hl : (us ++ []).length = ps.length := by rw [List.append_nil, ← r.length]; exact F.len _ _ _ _ q
  have b := hb s us I.kIn hl
  rw [List.append_nil] at b
  exact run_fnR (args := ⟨us, []⟩) F hG hr tk I b r q
theorem pe_callR {e : Expr} {es : List Expr} {t : TA} (F : FnR X.prog X.w X.K X.mg X.base k f fd ps sp) (hG : X.A.guards = some []) (hr : Room k X.A) (tk : Takes X W) (hg : Gl X x) (hm : X.mg x = some (.ref f)) (hk : PySem.W.keepIn X.K (.ref f) = true) (hb : Binds X.K fd ps [])
    (ha : PA X (e :: es) t) (hs : (e :: es).all notStar = true) (hdb : (x == ("__debug__" : Str)) = false) : PE X (.Call (.Name x p) (e :: es) [] pos) (tCallR sp W t) := by
  refine ⟨fun pins s σ H Q I h => ?_⟩
  refine wpAny_Call_Name_kw (ld_glob I hg hm ?_ hdb)
  rw [List.all_cons, Bool.and_eq_true] at hs
  exact PySem.W.callWith_K (h₀ := X.base) I.ok.mod.kin hk (thn (ha.run pos pins s σ H _ I h) fun us s1 ⟨vs, H1, I1, r, q⟩ => ⟨I1.kIn, fin_fnR F hG hr tk hb I1 r q⟩) (star_one hs.1 es X.env) (star_none X.env pos hs.2)
theorem pe_callR0 (F : FnR X.prog X.w X.K X.mg X.base k f fd ps sp) (hG : X.A.guards = some []) (hr : Room k X.A) (tk : Takes X W) (hg : Gl X x) (hm : X.mg x = some (.ref f)) (hk : PySem.W.keepIn X.K (.ref f) = true) (hb : Binds X.K fd ps [])
    (hdb : (x == ("__debug__" : Str)) = false) : PE X (.Call (.Name x p) [] [] pos) (fun σ H Q => sp [] H Q (fun c d H' => W c d σ H')) := by
  refine ⟨fun pins s σ H Q I h => ?_⟩
  refine wpAny_Call_Name_kw (ld_glob I hg hm ?_ hdb)
  exact PySem.W.callWith_K0 I.kIn hk (fin_fnR (us := []) F hG hr tk hb I .nil h)
theorem pick_vals : ∀ {vs : List V} {us : List Value} {is : List Nat} {zs : List V}, Vals vs us → pick vs is = some zs → ∃ ws, pick us is = some ws ∧ Vals zs ws
  | _, _, [], _, _, e => by cases e; exact ⟨[], rfl, .nil⟩
  | vs, us, i :: is, zs, r, e => by
    unfold pick at e ⊢
    cases h1 : vs[i]? with
    | none => rw [h1] at e; cases e
    | some v =>
      cases h2 : pick vs is with
      | none => rw [h1, h2] at e; cases e
      | some rs =>
        rw [h1, h2] at e
        cases e
        obtain ⟨u, hu, ru⟩ := r.get h1
        obtain ⟨ws, hw, rw'⟩ := pick_vals r h2
        exact ⟨u :: ws, by rw [hu, hw], .cons ru rw'⟩
/-- f(e, .., k = v, ..): n values by place, the others by the names ks; perm: which of them is each parameter's -/
theorem pe_callRK {es : List Expr} {kws : List Keyword} {t tk' : TA} {n : Nat} {ks : List Str} {perm : List Nat} (F : FnR X.prog X.w X.K X.mg X.base k f fd ps sp) (hG : X.A.guards = some []) (hr : Room k X.A) (tk : Takes X W) (hg : Gl X x) (hm : X.mg x = some (.ref f))
    (hk : PySem.W.keepIn X.K (.ref f) = true) (hb : KwOk X.K fd ps (n, ks, perm)) (hn : es.length = n) (ha : PA X es t) (hkw : PK X kws tk') (hs : es.all notStar = true) (hdb : (x == ("__debug__" : Str)) = false)
    (hall : (backToKw pos (keywordEach kws X.env)).all (·.1.isSome) = true) (hks : (backToKw pos (keywordEach kws X.env)).filterMap (·.1) = ks)
    (hno : (backToKw pos (keywordEach kws X.env)).any (·.1.isNone) = false) (hnil : es = [] → t = tNil) :
    PE X (.Call (.Name x p) es kws pos) (fun σ H Q => t σ H fun vs H1 => vs.length = n ∧ tk' σ H1 fun zs H2 => zs.length = ks.length ∧ ∃ rs, pick (vs ++ zs) perm = some rs ∧ sp rs H2 Q (fun c d H' => W c d σ H')) := by
  refine ⟨fun pins s σ H Q I h => ?_⟩
  refine wpAny_Call_Name_kw (ld_glob I hg hm ?_ hdb)
  have fin : ∀ (us ws : List Value) (s2 : Shared) (vs zs : List V) (H2 : Hp), Inv X pins σ H2 s2 → Vals vs us → Vals zs ws → vs.length = n → (zs.length = ks.length ∧ ∃ rs, pick (vs ++ zs) perm = some rs ∧ sp rs H2 Q (fun c d H' => W c d σ H')) →
      wpAny (model X.prog X.w) X.A (call (.ref f) us (ks.zip ws)) (EP X pins σ Q) X.xe s2 := fun us ws s2 vs zs H2 I2 r rz hl q => by
    obtain ⟨hz, rs, hp, q⟩ := q
    obtain ⟨qs, hq, rq⟩ := pick_vals (r.append rz) hp
    exact run_fnR (args := ⟨us, ks.zip ws⟩) F hG hr tk I2 (hb s2 us ws qs I2.kIn (by rw [← r.length]; exact hl) (by rw [← rz.length]; exact hz) hq) rq q
  cases es with
  | nil =>
    have h' := h
    rw [hnil rfl] at h'
    refine PySem.W.callWith_KW0 (h₀ := X.base) I.ok.mod.kin hk hall (thn (hkw.run pos pins s σ H _ I h'.2) fun ws s2 ⟨zs, H2, I2, rz, q2⟩ => ⟨I2.kIn, ?_⟩) hno
    rw [hks]
    exact fin [] ws s2 [] zs H2 I2 .nil rz h'.1 q2
  | cons e es =>
    rw [List.all_cons, Bool.and_eq_true] at hs
    refine PySem.W.callWith_KW (h₀ := X.base) I.ok.mod.kin hk hall (thn (ha.run pos pins s σ H _ I h) fun us s1 ⟨vs, H1, I1, r, hl, q⟩ => ?_) ?_ (star_one hs.1 es X.env)
    · refine thn (hkw.run pos pins s1 σ H1 _ I1 q) fun ws s2 ⟨zs, H2, I2, rz, q2⟩ => ⟨I2.kIn, ?_⟩
      rw [hks]
      exact fin us ws s2 vs zs H2 I2 r rz hl q2
    · have : (backTo pos (starEach (e :: es) X.env)).any (·.1) = false := star_none X.env pos (by rw [List.all_cons, hs.1, hs.2]; rfl)
      rw [this, hno]
      rfl
end
end Mx


/-! Mx: exceptions of the program: rules over the hand layer. -/
namespace Mx
open PySem PySem.Spec PyProof.Rows L2
section
variable {X : Cx} {pins : List (Addr × Obj)} {σ : L2.St} {H : Hp} {s : Shared}
/-- two new objects laid and tracked -/
theorem laid2 {h' : Heap} {a b : Addr} {oa ob : HO} {t' : Nat} (I : Inv X pins σ H s) (k : ∀ c u, s.heap.get? c = some u → h'.get? c = some u) (ha : s.heap.objs.size ≤ a) (hb : s.heap.objs.size ≤ b) (ne : b ≠ a)
    (na : ObjOk X.prog X.w (upd (upd H b ob) a oa) h' a oa) (nb : ObjOk X.prog X.w (upd (upd H b ob) a oa) h' b ob) : Inv X pins σ (upd (upd H b ob) a oa) { s with heap := h', toks := t' } := by
  have Ha : H a = none := I.hok.fresh ha
  have Hb : H b = none := I.hok.fresh hb
  have lt : ∀ {c : Addr} {o : Obj}, s.heap.get? c = some o → c ≠ a ∧ c ≠ b := fun {c o} q => ⟨Nat.ne_of_lt (Nat.lt_of_lt_of_le (Heap.lt_size q) ha), Nat.ne_of_lt (Nat.lt_of_lt_of_le (Heap.lt_size q) hb)⟩
  have old : ∀ {c : Addr} {o : HO}, H c = some o → upd (upd H b ob) a oa c = some o := fun {c o} q => by rw [upd_ne (ne_of_none q Ha), upd_ne (ne_of_none q Hb)]; exact q
  refine I.un (t' := t') ⟨fun c u q _ _ _ => k c u q, fun c u q _ _ _ => ⟨u.slots, k c u q⟩, fun c u q n _ => ?_, fun c u q _ => ⟨u, k c u q⟩, fun c xs q => old q, fun c u v q => old q, fun c ps q => ⟨#[], by rw [old q]; simp⟩⟩ fun c o q => ?_
  · rw [upd_ne (lt q).1, upd_ne (lt q).2]; exact n
  · by_cases hc : c = a
    · subst hc
      rw [upd_same] at q
      cases q
      exact na
    · rw [upd_ne hc] at q
      by_cases hd : c = b
      · subst hd
        rw [upd_same] at q
        cases q
        exact nb
      · rw [upd_ne hd] at q
        exact (I.hok c o q).stay (fun e v _ z => k e v z) (fun e he => old he) (fun e xs he => old he)
theorem zip_V : ∀ {ps : List Str} {rs : List V} {qs : List Value} {f : Str}, Vals rs qs → RelO ((ps.zip rs).lookup f) ((ps.zip qs).lookup f)
  | [], _, _, _, _ => trivial
  | _ :: _, [], _, _, r => by cases r; trivial
  | p :: ps, v :: rs, _, f, r => by
    cases r with
    | @cons _ u _ qs r1 r2 =>
      rw [List.zip_cons_cons, List.zip_cons_cons, lookup_put, lookupV_put]
      by_cases h : f = p
      · rw [if_pos h, if_pos h]; exact r1
      · rw [if_neg h, if_neg h]; exact zip_V r2
theorem zipF : ∀ {ps : List Str} {rs : List V} {ds : List IV}, rs.length = ps.length → rs.length = ds.length → (ps.zip rs).map (·.1) = (ps.zip ds).map (·.1) ∧ (ps.zip rs).map (·.2) = rs ∧ (ps.zip ds).map (·.2) = ds
  | [], [], [], _, _ => ⟨rfl, rfl, rfl⟩
  | p :: ps, r :: rs, d :: ds, h1, h2 => by
    obtain ⟨z1, z2, z3⟩ := zipF (ps := ps) (rs := rs) (ds := ds) (by simpa using h1) (by simpa using h2)
    simp only [List.zip_cons_cons, List.map_cons, z1, z2, z3, and_self]
  | [], _ :: _, _, h, _ => by simp at h
  | _ :: _, [], _, h, _ => by simp at h
  | _, [], _ :: _, _, h => by simp at h
  | _, _ :: _, [], _, h => by simp at h
/-- what a made exception is for -/
def spX (K : PySem.W.Frag) (cl : Nat → Option Addr) (c : Nat) (ps : List Str) : List V → Hp → VK → Prop := fun rs H Q =>
  ∃ O ds, (∀ a ∈ O, H a ≠ none) ∧ RepAll K cl O H rs ds ∧ rs.length = ps.length ∧ ∀ v H', Same H H' → Rep K cl O H' v (.exc c (ps.zip ds)) → Q v H'
theorem rep_exc {K : PySem.W.Frag} {cl : Nat → Option Addr} {c : Nat} {C a : Addr} {ps : List Str} {rs : List V} {ds : List IV} {O : List Addr} {dx : Addr} (live : ∀ a ∈ O, H a ≠ none) (hcl : cl c = some C) (ha : H a = none) (hd : H dx = none) (ne : dx ≠ a) (hl : rs.length = ps.length) (r : RepAll K cl O H rs ds) :
    Rep K cl O (upd (upd H dx (exd dx (ps.zip rs))) a (exo a C (some dx))) (.ref a) (.exc c (ps.zip ds)) := by
  obtain ⟨z1, z2, z3⟩ := zipF hl r.length
  have na : a ∉ O := fun z => live a z ha
  have nd : dx ∉ O := fun z => live dx z hd
  have sm : Same H (upd (upd H dx (exd dx (ps.zip rs))) a (exo a C (some dx))) := fun b x e => by rw [upd_ne (ne_of_none e ha), upd_ne (ne_of_none e hd)]; exact e
  exact .exc upd_same hcl na ⟨by rw [upd_ne ne, upd_same], nd⟩ z1 (by rw [z2, z3]; exact r.keep (.same sm))
/-- C(..) -/
theorem mk_run {T : Xc} {cl : Nat → Option Addr} {c : Nat} {C : Addr} {us : List Value} {kw : List (Str × Value)} {rs : List V} {qs : List Value} {Q : VK} {B newId i : String} {bmB : List Value} {fI : Addr} {fd : FuncData} (hcl : cl c = some C) (TC : XCls X.K C B newId i bmB) (J : XInit X.prog X.K C fI B i fd T.ps) (hfn : PySem.W.isFn X.K (.ref fI) = true)
    (sup : X.mg "super" = none) (I : Inv X pins σ H s) (hr : X.A.depth + 1 < recursionLimit) (rq : Vals rs qs) (hus : us.length ≤ sizeLine) (hb : ∀ (s : Shared) (x : Addr), X.K.In s.heap → BindsTo s fd ⟨.ref x :: us, kw⟩ (((("self" : Str)) :: T.ps).zip (.ref x :: qs))) (q : spX X.K cl c T.ps rs H Q) :
    wpAny (model X.prog X.w) X.A (call (.ref C) us kw) (EP X pins σ Q) X.xe s := by
  obtain ⟨O, ds, live, ra, hl, k⟩ := q
  obtain ⟨nm, N', qn, bs, bm, hdct, sn, sub, ab, col, dd, k0, k1, k2, k3, k5, hC, hT⟩ := PySem.W.excInit_of I.kIn TC.ini
  obtain ⟨oI, hoI, hcI⟩ : ∃ oI, s.heap.get? fI = some oI ∧ oI.cls = .type "function" := by
    obtain ⟨o, ho, hc⟩ := Option.map_eq_some_iff.mp (show (X.K.lookup fI).map (·.cls) = some (.type "function") from beq_iff_eq.mp hfn)
    exact ⟨o, I.kIn _ _ ho, hc⟩
  obtain ⟨mb, hmb, hbt⟩ := I.ok.mod.blt
  have gl := I.ok.mod.glob.keeps I.bk
  have bl := hmb.keeps I.bk
  have lim := I.ok.mod.nolimit.keeps I.bk
  have KI := I.kIn
  have hqs : qs.length = T.ps.length := by rw [← rq.length, hl]
  obtain ⟨hp, g, d, t, os⟩ := s
  have up : ∀ b o, hp.get? b = some o → ((hp.push (PySem.W.excTup us)).push (PySem.W.excObj C hp.objs.size none .none)).get? b = some o := fun b o e => Heap.get?_push_of_some _ (Heap.get?_push_of_some _ e)
  have nw : ((hp.push (PySem.W.excTup us)).push (PySem.W.excObj C hp.objs.size none .none)).get? (hp.objs.size + 1) = some (PySem.W.excObj C hp.objs.size none .none) := by heap_get
  refine wpAny_call (kx_call TC.base.fb hT hC (PySem.W.looks_findIn KI J.find) (fun self => PySem.W.exc_bind hoI hcI self) hus ?_)
  refine init_run (hp0 := hp) (mg := X.mg) (mb := mb) TC J KI gl sup bl ((hbt _ (by decide +kernel)).trans (by decide +kernel)) lim up (Nat.le_succ _) nw (by rw [make_depth]; exact hr) hqs (hb ⟨_, g, d, t, os⟩ (hp.objs.size + 1) (KI.keeps up)) fun dd' h' t' M => ?_
  obtain ⟨st, ⟨t1, hx⟩, D⟩ := M
  refine ⟨rfl, ?_⟩
  have ha0 : H (hp.objs.size + 1) = none := I.hok.fresh (Nat.le_succ _)
  cases dd' with
  | none =>
    have e : T.ps = [] := D
    have er : rs = [] := List.eq_nil_of_length_eq_zero (by rw [hl, e]; rfl)
    have ed : ds = [] := List.eq_nil_of_length_eq_zero (by rw [← ra.length, er]; rfl)
    have J1 := I.laid (t' := t') (a := hp.objs.size + 1) (o := exo (hp.objs.size + 1) C none) (h' := h') st (Nat.le_succ _) (exo_ok hx)
    refine ⟨.ref (hp.objs.size + 1), _, J1, rfl, k _ _ (same_new ha0) ?_⟩
    rw [e, ed]
    exact .exc (fs := []) (ds := []) upd_same hcl (fun z => live _ z ha0) rfl rfl .nil
  | some dx =>
    obtain ⟨ne, sz, mA, hn, hA⟩ := D
    have hd0 : H dx = none := I.hok.fresh sz
    have rel : ∀ f, RelO ((T.ps.zip rs).lookup f) (mA f) := fun f => by rw [hA f]; exact zip_V rq
    have J1 := laid2 (t' := t') (oa := exo (hp.objs.size + 1) C (some dx)) (ob := exd dx (T.ps.zip rs)) I st (Nat.le_succ _) sz ne (exo_ok hx) (exd_ok hn rel)
    refine ⟨.ref (hp.objs.size + 1), _, J1, rfl, k _ _ (fun b x e => by rw [upd_ne (ne_of_none e ha0), upd_ne (ne_of_none e hd0)]; exact e) (rep_exc live hcl ha0 hd0 ne hl ra)⟩
/-- C(), no own __init__ -/
theorem mk_run0 {cl : Nat → Option Addr} {c : Nat} {C : Addr} {Q : VK} {B newId i : String} {bmB : List Value} (hcl : cl c = some C) (TC : XCls X.K C B newId i bmB) (hi : PySem.W.findIn X.K (.ref C) "__init__" = some (some (.builtin i))) (I : Inv X pins σ H s) (q : spX X.K cl c [] [] H Q) :
    wpAny (model X.prog X.w) X.A (call (.ref C) []) (EP X pins σ Q) X.xe s := by
  obtain ⟨O, ds, live, ra, hl, k⟩ := q
  cases ra
  obtain ⟨nm, N', qn, bs, bm, hdct, sn, sub, ab, col, dd, k0, k1, k2, k3, k5, hC, hT⟩ := PySem.W.excInit_of I.kIn TC.ini
  have L := PySem.W.looks_findIn (M := model X.prog X.w) I.kIn hi
  obtain ⟨hp, g, d, t, os⟩ := s
  refine PySem.W.call_B TC.base.fb hT hC L (Nat.zero_le _) fun h' st hx _ => ?_
  have ha0 : H (hp.objs.size + 1) = none := I.hok.fresh (Nat.le_succ _)
  have J1 := I.laid (t' := t) (a := hp.objs.size + 1) (o := exo (hp.objs.size + 1) C none) (h' := h') st (Nat.le_succ _) (exo_ok hx)
  exact ⟨.ref (hp.objs.size + 1), _, J1, rfl, k _ _ (same_new ha0) (.exc (fs := []) (ds := []) upd_same hcl (fun z => live _ z ha0) rfl rfl .nil)⟩
end
end Mx


/-! Mx, part 4c: what a term of the language computes is what the text does: readings. -/
namespace Mx
open PySem PySem.Spec PyProof.Rows L2

def RlE (C : Ct) (vw : Bool) (O : List Addr) (H : Hp) (v : V) (d : IV) : Prop := RepX C.K C.cl O H v d ∧ (vw = false → Rep C.K C.cl O H v d)
def Post {α β : Type} (C : Ct) (L O : List Addr) (σ : L2.St) (W : WX) (pr : Bool) (Rl : Hp → β → α → Prop) (H : Hp) (r : Out α) (Q : β → Hp → Prop) : Prop := match r with
  | none => False
  | some (.ok a, ρ) => ∀ v H', Keep O H H' → (pr = true → Same H H') → SRel C L O σ ρ H' → Rl H' v a → Q v H'
  | some (.error x, ρ) => ∀ c dd H', Keep O H H' → SRel C L O σ ρ H' → XRep C.K C.cl O H' c dd x → W c dd σ H'
section
variable {α β γ δ : Type} {C : Ct} {L O : List Addr} {σ : L2.St} {W : WX} {pr pr' : Bool} {H H1 : Hp} {ρ : List Sl}
theorem Post.mono {Rl : Hp → β → α → Prop} {r : Out α} {Q : β → Hp → Prop} (k : Keep O H H1) (s : pr = true → Same H H1) (h : Post C L O σ W pr Rl H r Q) : Post C L O σ W pr Rl H1 r Q := by
  match r, h with
  | some (.ok a, ρ), h => exact fun v H' k' s' S q => h v H' (k.trans k') (fun e => (s e).trans (s' e)) S q
  | some (.error x, ρ), h => exact fun c dd H' k' S q => h c dd H' (k.trans k') S q
theorem Post.bind {m : R α} {f : α → R γ} {Rl : Hp → β → α → Prop} {Rl' : Hp → δ → γ → Prop} {Q : δ → Hp → Prop} {Q1 : β → Hp → Prop} (h : Post C L O σ W pr' Rl' H (rBind m f ρ) Q)
    (k : ∀ a ρ1 v H1, Keep O H H1 → (pr = true → Same H H1) → SRel C L O σ ρ1 H1 → Rl H1 v a → Post C L O σ W pr' Rl' H (f a ρ1) Q → Q1 v H1) : Post C L O σ W pr Rl H (m ρ) Q1 := by
  unfold rBind at h
  match hm : m ρ, h with
  | none, h => exact h
  | some (.error x, ρ1), h => exact h
  | some (.ok a, ρ1), h => exact fun v H1 k1 s1 S q => k a ρ1 v H1 k1 s1 S q h
end
/-- the reading of a run -/
def tR {α β : Type} (C : Ct) (W : WX) (pr : Bool) (Rl : List Addr → Hp → β → α → Prop) (m : R α) : L2.St → Hp → (β → Hp → Prop) → Prop := fun σ H Q =>
  ∃ L O ρ, SRel C L O σ ρ H ∧ Post C L O σ W pr (Rl O) H (m ρ) Q
def tE (cs : CS) (C : Ct) (W : WX) (e : E) : TE := tR C W e.pure (RlE C e.isView) (ev cs e).1
def tT (cs : CS) (C : Ct) (W : WX) (e : E) : TT := tR C W e.pure (fun _ _ b a => b = a) (ev cs e).2
def RlEs (C : Ct) (nv : Bool) (O : List Addr) (H : Hp) (vs : List V) (ds : List IV) : Prop := RepXs C.K C.cl O H vs ds ∧ (nv = true → RepAll C.K C.cl O H vs ds)
def tEs (cs : CS) (C : Ct) (W : WX) (es : Es) : TA := tR C W es.pure (RlEs C es.noView) (evEs cs es)
def tO (cs : CS) (C : Ct) (W : WX) (o : OE) : TO := tR C W o.pure (fun _ _ b a => b = a) (evO cs o)

/-- where a term is read -/
structure XOk (T : Tab) (cs : CS) (k : Nat) (C : Ct) (W : WX) (N : List Str) (sc : Scope) (X : Cx) : Prop where
  hN : X.N = N
  nd : N.Nodup
  visx : ∀ x, visB sc x = true → Vis X.env.scope x
  glox : ∀ x, sc.names.lookup x = some .globalImplicit → X.env.scope.names.lookup x = some .globalImplicit
  frex : ∀ x, sc.names.lookup x = some .cell ∨ sc.names.lookup x = some .free → X.env.scope.names.lookup x = some .cell ∨ X.env.scope.names.lookup x = some .free
  calm : X.calm = true
  gd : X.A.guards = some []
  room : Room k X.A
  tk : Takes X W
  po : PassesOwn (model X.prog X.w) X.A X.env X.xe
  CK : C.K = X.K
  facts : Facts T cs k C.cl X.prog X.w X.K X.mg X.base
/-- the names that may be stored to -/
def Sto (N : List Str) (sc : Scope) (X : Cx) : Prop := ∀ i x, storeB N sc i x = true → X.N[i]? = some x ∧ Loc X.env.scope x ∧ (X.fn x = true ∨ X.env.scope.names.lookup x = some .local)
section
variable {T : Tab} {cs : CS} {k : Nat} {C : Ct} {W : WX} {N : List Str} {sc : Scope} {X : Cx}
theorem _root_.L2.PE.imp {e : Expr} {t t' : TE} (h : PE X e t) (hi : ∀ σ H Q, t' σ H Q → t σ H Q) : PE X e t' := ⟨fun pins s σ H Q I q => h.run pins s σ H Q I (hi σ H Q q)⟩
theorem _root_.L2.PT.imp {e : Expr} {t t' : TT} (h : PT X e t) (hi : ∀ σ H Q, t' σ H Q → t σ H Q) : PT X e t' := ⟨fun pins s σ H Q I q => h.run pins s σ H Q I (hi σ H Q q)⟩
theorem _root_.L2.PA.imp {e : List Expr} {t t' : TA} (h : PA X e t) (hi : ∀ σ H Q, t' σ H Q → t σ H Q) : PA X e t' := ⟨fun pos pins s σ H Q I q => h.run pos pins s σ H Q I (hi σ H Q q)⟩
theorem XOk.vis (X' : XOk T cs k C W N sc X) {i : Nat} {x : Str} (h : slotB N sc i x = true) : X.N[i]? = some x ∧ Vis X.env.scope x ∧ (x == ("__debug__" : Str)) = false ∧ (x == ("__classdict__" : Str)) = false := by
  unfold slotB at h
  simp only [Bool.and_eq_true, Bool.not_eq_true', decide_eq_true_eq] at h
  obtain ⟨⟨⟨h1, h2⟩, h3⟩, h4⟩ := h
  exact ⟨by rw [X'.hN]; exact h1, X'.visx x h2, h3, h4⟩
theorem XOk.gl (X' : XOk T cs k C W N sc X) {x : Str} (h : gloB sc x = true) : Gl X x := by
  refine X'.glox x ?_
  unfold gloB at h
  split at h
  · assumption
  · cases h
theorem XOk.bl (X' : XOk T cs k C W N sc X) {x : Str} (h : T.blt.contains x = true) : X.mg x = none := X'.facts.blt x (by simpa using h)
theorem XOk.hu (X' : XOk T cs k C W N sc X) : X.A.units + 64 < cLine := X'.room.units

/-! ### two operands -/
theorem two_ok {a b : E} {pr : Bool} {f : IV → IV → Option IV} (hv : a.isView = true → b.pure = true) (hp : pr = true → a.pure = true ∧ b.pure = true) {σ : L2.St} {H : Hp} {Q : VK}
    (h : tR C W pr (RlE C false) (rBind (ev cs a).1 fun x => rBind (ev cs b).1 fun y => rLift (f x y)) σ H Q) : tOp (r2D C.K C.cl f) (tE cs C W a) (tE cs C W b) σ H Q := by
  obtain ⟨L, O, ρ, S, h⟩ := h
  refine ⟨L, O, ρ, S, h.bind fun x ρ1 v H1 k1 s1 S1 r1 h1 => ?_⟩
  refine ⟨L, O, ρ1, S1, (h1.mono k1 fun e => s1 (hp e).1).bind fun y ρ2 u H2 k2 s2 S2 r2 h2 => ?_⟩
  have rx : RepX C.K C.cl O H2 v x := by
    cases e : a.isView with
    | true => exact r1.1.same (s2 (hv e))
    | false => exact .inl ((r1.2 e).keep k2)
  unfold rLift at h2
  match hf : f x y, h2 with
  | none, h2 => exact h2.elim
  | some d, h2 => exact ⟨O, x, y, d, S2.live, rx, r2.1, hf, fun w H' sm rp => h2 w H' (k2.trans (.same sm)) (fun e => (s2 (hp e).2).trans sm) (S2.same sm) ⟨.inl rp, fun _ => rp⟩⟩
/-- a test that is a value's truth -/
theorem truth_ok {m : R IV} {vw pr : Bool} {t : TE} (ht : t = tR C W pr (RlE C vw) m) {σ : L2.St} {H : Hp} {Q : Bool → Hp → Prop} (h : tR C W pr (fun _ _ b a => b = a) (rBind m fun d => rLift (truD d)) σ H Q) :
    t σ H fun x H' => ∃ b, TruV C.K x H' b ∧ Q b H' := by
  subst ht
  obtain ⟨L, O, ρ, S, h⟩ := h
  refine ⟨L, O, ρ, S, h.bind fun x ρ1 v H1 k1 s1 S1 r1 h1 => ?_⟩
  unfold rLift at h1
  match hf : truD x, h1 with
  | none, h1 => exact h1.elim
  | some b, h1 => exact ⟨b, truD_ok r1.1 hf, h1 b H1 k1 s1 S1 rfl⟩
theorem bool_ok {m : R IV} {vw pr : Bool} {t : TE} (ht : t = tR C W pr (RlE C vw) m) (hb : ∀ ρ d ρ1, m ρ = some (.ok d, ρ1) → ∃ b, d = .bl b) {σ : L2.St} {H : Hp} {Q : Bool → Hp → Prop} (h : tR C W pr (fun _ _ b a => b = a) (rBind m fun d => rLift (truD d)) σ H Q) :
    t σ H fun x H' => ∃ b, x = .bl b ∧ Q b H' := by
  subst ht
  obtain ⟨L, O, ρ, S, h⟩ := h
  refine ⟨L, O, ρ, S, ?_⟩
  unfold rBind at h
  match hm : m ρ, h with
  | none, h => exact h
  | some (.error x, ρ1), h => exact h
  | some (.ok d, ρ1), h =>
    intro v H1 k1 s1 S1 r1
    obtain ⟨b, rfl⟩ := hb ρ d ρ1 hm
    exact ⟨b, r1.1.bl, h b H1 k1 s1 S1 rfl⟩
end
end Mx


/-! Mx, part 4d: the cases. -/
namespace Mx
open PySem PySem.Spec PyProof.Rows L2
section
variable {T : Tab} {cs : CS} {k : Nat} {C : Ct} {W : WX} {N : List Str} {sc : Scope} {X : Cx}
theorem Post.ok {α β : Type} {L O : List Addr} {σ : L2.St} {pr : Bool} {Rl : Hp → β → α → Prop} {H : Hp} {ρ : List Sl} {a : α} {v : β} {Q : β → Hp → Prop} (h : Post C L O σ W pr Rl H (some (.ok a, ρ)) Q) (S : SRel C L O σ ρ H) (r : Rl H v a) : Q v H :=
  h v H (Keep.refl O H) (fun _ => Same.refl H) S r
/-! ### names, constants -/
theorem c_var (X' : XOk T cs k C W N sc X) {i : Nat} {y : Str} {p : Pos} (h : slotB N sc i y = true) : PE X (.Name y p) (tE cs C W (.var i)) := by
  obtain ⟨h1, h2, h3, h4⟩ := X'.vis h
  refine (pe_var h1 h2 h3 h4).imp fun σ H Q ⟨L, O, ρ, S, q⟩ => ?_
  have q : Post C L O σ W true (RlE C false O) H (rVar i ρ) Q := q
  unfold rVar at q
  match hρ : ρ[i]?, q with
  | some (.i d), q =>
    have hi : i < σ.length := by rw [S.len]; exact (List.getElem?_eq_some_iff.mp hρ).1
    have hs : σ[i]? = some σ[i] := List.getElem?_eq_getElem hi
    obtain ⟨v, ev, r⟩ := S.slot i _ _ hs hρ
    exact ⟨v, by rw [hs, ev], q.ok S ⟨.inl r, fun _ => r⟩⟩
theorem c_view (X' : XOk T cs k C W N sc X) {i : Nat} {y : Str} {p : Pos} (h : slotB N sc i y = true) : PE X (.Name y p) (tE cs C W (.view i)) := by
  obtain ⟨h1, h2, h3, h4⟩ := X'.vis h
  refine (pe_var h1 h2 h3 h4).imp fun σ H Q ⟨L, O, ρ, S, q⟩ => ?_
  have q : Post C L O σ W true (RlE C true O) H (rView i ρ) Q := q
  have go : ∀ (r : Sl) (d : IV), ρ[i]? = some r → r.mut = some d → Post C L O σ W true (RlE C true O) H (some (.ok d, ρ)) Q → tVar i σ H Q := fun r d hr hm q => by
    obtain ⟨a, ea, hO, w, _⟩ := S.mutAt hr hm
    exact ⟨_, ea, q.ok S ⟨.inr ⟨a, rfl, hO, w⟩, fun z => nomatch z⟩⟩
  unfold rView at q
  match hρ : ρ[i]?, q with
  | some (.o d), q => exact go _ d hρ rfl q
  | some (.b d), q => exact go _ d hρ rfl q
theorem c_cst {c : Const} {d : IV} {j : Nat} {p : Pos} (h : cstB c d = true) : PE X (.Constant c j p) (tE cs C W (.cst d)) := by
  match c, d, h with
  | .none, .non, _ => exact pe_non.imp fun σ H Q ⟨L, O, ρ, S, q⟩ => Post.ok q S ⟨.inl .non, fun _ => .non⟩
  | .bool a, .bl b, h =>
    have e : a = b := by simpa [cstB] using h
    subst e
    exact pe_bl.imp fun σ H Q ⟨L, O, ρ, S, q⟩ => Post.ok q S ⟨.inl (.bl _), fun _ => .bl _⟩
  | .int a, .int b, h =>
    have e : a = b := by simpa [cstB] using h
    subst e
    exact pe_int.imp fun σ H Q ⟨L, O, ρ, S, q⟩ => Post.ok q S ⟨.inl (.int _), fun _ => .int _⟩
  | .str s, .str l, h =>
    have e : s = sOf l := by simpa [cstB] using h
    subst e
    exact pe_str.imp fun σ H Q ⟨L, O, ρ, S, q⟩ => Post.ok q S ⟨.inl (.str _), fun _ => .str _⟩
theorem c_glo (X' : XOk T cs k C W N sc X) {z y : Str} {d : IV} {p : Pos} (h1 : y = z) (h2 : gloB sc y = true) (h3 : (T.glo.any fun p => decide (p.1 = z) && IV.beq p.2 d) = true) (h4 : (y == ("__debug__" : Str)) = false) : PE X (.Name y p) (tE cs C W (.glo z d)) := by
  subst h1
  rw [List.any_eq_true] at h3
  obtain ⟨⟨x, d'⟩, hp, hq⟩ := h3
  rw [Bool.and_eq_true, decide_eq_true_eq] at hq
  obtain ⟨hx, hd⟩ := hq
  have hd' := IV.beq_eq hd
  subst hd'
  obtain ⟨u, v, hm, r, rep⟩ := X'.facts.glo _ hp
  have hm' : X.mg y = some u := by rw [← hx]; exact hm
  refine (pe_glob (X'.gl h2) hm' r h4).imp fun σ H Q ⟨L, O, ρ, S, q⟩ => ?_
  have rr : Rep C.K C.cl O H v d' := by rw [X'.CK]; exact rep O H
  exact Post.ok q S ⟨.inl rr, fun _ => rr⟩
/-! ### operators -/
theorem c_bin (X' : XOk T cs k C W N sc X) {o : BOp} {a b : E} {y z : Expr} {p : Pos} (hv : a.isView = true → b.pure = true) (ha : PE X y (tE cs C W a)) (hb : PE X z (tE cs C W b)) : PE X (.BinOp y (opOf o) z p) (tE cs C W (.bin o a b)) := by
  refine (pe_op (opD (cl := C.cl) o) ha hb).imp fun σ H Q q => ?_
  rw [← X'.CK]
  exact two_ok hv (fun e => by simpa [E.pure] using e) q
theorem c_cmp (X' : XOk T cs k C W N sc X) {o : COp} {a b : E} {y z : Expr} {p : Pos} (hv : a.isView = true → b.pure = true) (hz : noSet z = true) (ha : PE X y (tE cs C W a)) (hb : PE X z (tE cs C W b)) : PE X (.Compare y [copOf o] [z] p) (tE cs C W (.cmp o a b)) := by
  have hm : behindInMarks (copOf o) z = false := by cases z <;> first | rfl | cases hz
  refine (pe_cmpR (copD (cl := C.cl) X'.hu o) ha hb hm).imp fun σ H Q q => ?_
  rw [← X'.CK]
  exact two_ok hv (fun e => by simpa [E.pure] using e) q
theorem c_cmpT (X' : XOk T cs k C W N sc X) {o : COp} {a b : E} {y z : Expr} {p : Pos} (hv : a.isView = true → b.pure = true) (hz : noSet z = true) (ha : PE X y (tE cs C W a)) (hb : PE X z (tE cs C W b)) : PT X (.Compare y [copOf o] [z] p) (tT cs C W (.cmp o a b)) := by
  have hm : behindInMarks (copOf o) z = false := by cases z <;> first | rfl | cases hz
  refine (pt_cmpR (copD (cl := C.cl) X'.hu o) ha hb hm).imp fun σ H Q q => ?_
  rw [← X'.CK]
  show tOp _ _ _ σ H fun x H' => ∃ k, x = .bl k ∧ Q k H'
  refine two_ok (pr := (E.cmp o a b).pure) hv (fun e => by simpa [E.pure] using e) ?_
  refine bool_ok rfl (fun ρ d ρ1 hm => ?_) q
  unfold rBind at hm
  split at hm
  · cases hm
  · cases hm
  · dsimp only at hm
    split at hm
    · cases hm
    · cases hm
    · unfold rLift at hm
      split at hm
      · rename_i he
        cases hm
        obtain ⟨c, _, rfl⟩ := Option.map_eq_some_iff.mp he
        exact ⟨c, rfl⟩
      · cases hm
theorem c_neg {a : E} {y : Expr} {p : Pos} (ha : PE X y (tE cs C W a)) : PE X (.UnaryOp .USub y p) (tE cs C W (.neg a)) := by
  refine (pe_un un_neg ha).imp fun σ H Q ⟨L, O, ρ, S, q⟩ => ?_
  refine ⟨L, O, ρ, S, Post.bind q fun x ρ1 v H1 k1 s1 S1 r1 h1 => ?_⟩
  match x, r1, h1 with
  | .int i, r1, h1 => exact ⟨i, r1.1.int, h1 _ H1 k1 s1 S1 ⟨.inl (.int _), fun _ => .int _⟩⟩
theorem bind_okC {α β : Type} {m : R α} {f : α → R β} {ρ ρ2 : List Sl} {b : β} (h : rBind m f ρ = some (.ok b, ρ2)) : ∃ a ρ1, m ρ = some (.ok a, ρ1) ∧ f a ρ1 = some (.ok b, ρ2) := by
  unfold rBind at h
  match hm : m ρ, h with
  | some (.ok a, ρ1), h => exact ⟨a, ρ1, rfl, h⟩
  | some (.error x, ρ1), h => cases h
theorem chn_read {o o' : COp} {a b c : E} (hv : a.isView = false) (hv' : b.isView = false) {σ : L2.St} {H : Hp} {Q : VK} (h : tE cs C W (.chn o o' a b c) σ H Q) :
    tChain (r2D C.K C.cl fun x y => (cmpD o x y).map .bl) (r2D C.K C.cl fun x y => (cmpD o' x y).map .bl) (tE cs C W a) (tE cs C W b) (tE cs C W c) σ H Q := by
  obtain ⟨L, O, ρ, S, q⟩ := h
  have hp : (E.chn o o' a b c).pure = true → a.pure = true ∧ b.pure = true ∧ c.pure = true := fun e => by
    have e' : (a.pure && b.pure && c.pure) = true := e
    simpa [and_assoc] using e'
  refine ⟨L, O, ρ, S, Post.bind q fun x ρ1 v H1 k1 s1 S1 r1 h1 => ?_⟩
  refine ⟨L, O, ρ1, S1, Post.bind (h1.mono k1 fun e => s1 (hp e).1) fun y ρ2 u H2 k2 s2 S2 r2 h2 => ?_⟩
  have h2 := Post.mono k2 (fun e => s2 (hp e).2.1) h2
  unfold rBind rLift at h2
  match hf : cmpD o x y, h2 with
  | none, h2 => exact h2.elim
  | some t, h2 =>
    refine ⟨O, x, y, .bl t, S2.live, .inl ((r1.2 hv).keep k2), r2.1, (show (cmpD o x y).map IV.bl = some (IV.bl t) by rw [hf]; rfl), fun v1 H3 sm rp => ⟨t, by cases rp; rfl, ?_⟩⟩
    cases t with
    | false =>
      rw [if_neg Bool.false_ne_true]
      exact h2 (.bl false) H3 (.same sm) (fun _ => sm) (S2.same sm) ⟨.inl (.bl _), fun _ => .bl _⟩
    | true =>
      rw [if_pos rfl]
      have h2 : Post C L O σ W (E.chn o o' a b c).pure (RlE C false O) H2 ((rBind (ev cs c).1 fun z => rLift ((cmpD o' y z).map .bl)) ρ2) Q := h2
      refine ⟨L, O, ρ2, S2.same sm, Post.bind (h2.mono (.same sm) fun _ => sm) fun z ρ3 v3 H4 k4 s4 S4 r4 h4 => ?_⟩
      have h4 := Post.mono k4 (fun e => s4 (hp e).2.2) h4
      unfold rLift at h4
      match hg : (cmpD o' y z).map IV.bl, h4 with
      | none, h4 => exact h4.elim
      | some d, h4 => exact ⟨O, y, z, d, S4.live, .inl (((r2.2 hv').keep (.same sm)).keep k4), r4.1, hg, fun w H' sm' rp => h4 w H' (.same sm') (fun _ => sm') (S4.same sm') ⟨.inl rp, fun _ => rp⟩⟩
theorem c_chn (X' : XOk T cs k C W N sc X) {o o' : COp} {a b c : E} {y z w : Expr} {p : Pos} (hv : a.isView = false) (hv' : b.isView = false) (hz : noSet w = true) (ha : PE X y (tE cs C W a)) (hb : PE X z (tE cs C W b)) (hc : PE X w (tE cs C W c)) :
    PE X (.Compare y [copOf o, copOf o'] [z, w] p) (tE cs C W (.chn o o' a b c)) := by
  have hm : lastMarks [copOf o, copOf o'] [z, w] = false := by
    show behindInMarks (copOf o') w = false
    cases w <;> first | rfl | cases hz
  refine (pe_chain (copD (cl := C.cl) X'.hu o) (copD (cl := C.cl) X'.hu o') ha hb hc hm).imp fun σ H Q h => ?_
  rw [← X'.CK]
  exact chn_read hv hv' h
theorem c_chnT (X' : XOk T cs k C W N sc X) {o o' : COp} {a b c : E} {y z w : Expr} {p : Pos} (hv : a.isView = false) (hv' : b.isView = false) (hz : noSet w = true) (ha : PE X y (tE cs C W a)) (hb : PE X z (tE cs C W b)) (hc : PE X w (tE cs C W c)) :
    PT X (.Compare y [copOf o, copOf o'] [z, w] p) (tT cs C W (.chn o o' a b c)) := by
  have hm : lastMarks [copOf o, copOf o'] [z, w] = false := by
    show behindInMarks (copOf o') w = false
    cases w <;> first | rfl | cases hz
  refine (pt_chain (copD (cl := C.cl) X'.hu o) (copD (cl := C.cl) X'.hu o') ha hb hc hm).imp fun σ H Q h => ?_
  rw [← X'.CK]
  refine chn_read hv hv' (Q := fun x H' => ∃ k, x = .bl k ∧ Q k H') (bool_ok rfl (fun ρ d ρ1 hm => ?_) h)
  have hm : (rBind (ev cs a).1 fun x => rBind (ev cs b).1 fun y => rBind (rLift (cmpD o x y)) fun t => if t = true then rBind (ev cs c).1 fun z => rLift ((cmpD o' y z).map IV.bl) else rPure (.bl false)) ρ = some (.ok d, ρ1) := hm
  obtain ⟨x, ρ2, _, hm⟩ := bind_okC hm
  obtain ⟨y', ρ3, _, hm⟩ := bind_okC hm
  obtain ⟨t, ρ4, _, hm⟩ := bind_okC hm
  cases t with
  | false => rw [if_neg Bool.false_ne_true] at hm; cases hm; exact ⟨false, rfl⟩
  | true =>
    rw [if_pos rfl] at hm
    obtain ⟨z', ρ5, _, hm⟩ := bind_okC hm
    unfold rLift at hm
    cases hg : cmpD o' y' z' with
    | none => rw [hg] at hm; cases hm
    | some b => rw [hg] at hm; cases hm; exact ⟨b, rfl⟩
theorem c_not {a : E} {y : Expr} {p : Pos} (ha : PE X y (tE cs C W a)) : PE X (.UnaryOp .Not y p) (tE cs C W (.not a)) := by
  refine (pe_not ha).imp fun σ H Q ⟨L, O, ρ, S, q⟩ => ?_
  refine ⟨L, O, ρ, S, Post.bind q fun x ρ1 v H1 k1 s1 S1 r1 h1 => ?_⟩
  match x, r1, h1 with
  | .bl b, r1, h1 => exact ⟨b, r1.1.bl, h1 _ H1 k1 s1 S1 ⟨.inl (.bl _), fun _ => .bl _⟩⟩
theorem c_notT {a : E} {y : Expr} {p : Pos} (ha : PT X y (tT cs C W a)) : PT X (.UnaryOp .Not y p) (tT cs C W (.not a)) := by
  refine (pt_not ha).imp fun σ H Q ⟨L, O, ρ, S, q⟩ => ?_
  refine ⟨L, O, ρ, S, Post.bind q fun b ρ1 v H1 k1 s1 S1 r1 h1 => ?_⟩
  cases r1
  exact h1 _ H1 k1 s1 S1 rfl
theorem c_ite {c a b : E} {y z w : Expr} {p : Pos} (hv : a.isView = false) (hv' : b.isView = false) (hc : PT X y (tT cs C W c)) (ha : PE X z (tE cs C W a)) (hb : PE X w (tE cs C W b)) : PE X (.IfExp y z w p) (tE cs C W (.ite c a b)) := by
  refine (pe_ifExp hc ha hb).imp fun σ H Q ⟨L, O, ρ, S, q⟩ => ?_
  have hp : (E.ite c a b).pure = true → c.pure = true ∧ a.pure = true ∧ b.pure = true := fun e => by
    have e' : (c.pure && a.pure && b.pure) = true := e
    simpa [and_assoc] using e'
  have q : Post C L O σ W (E.ite c a b).pure (RlE C false O) H ((rBind (ev cs c).2 fun t => if t = true then (ev cs a).1 else (ev cs b).1) ρ) Q := q
  refine ⟨L, O, ρ, S, Post.bind q fun t ρ1 v H1 k1 s1 S1 r1 h1 => ?_⟩
  cases r1
  have h1 := Post.mono k1 (fun e => s1 (hp e).1) h1
  have fin : ∀ (e : E), e.isView = false → ((E.ite c a b).pure = true → e.pure = true) → Post C L O σ W (E.ite c a b).pure (RlE C false O) H1 ((ev cs e).1 ρ1) Q → tE cs C W e σ H1 Q := fun e hv hp h => by
    refine ⟨L, O, ρ1, S1, ?_⟩
    rw [hv]
    match hr : (ev cs e).1 ρ1, h with
    | some (.ok d, ρ2), h => exact fun v H2 k2 s2 S2 r2 => h v H2 k2 (fun z => s2 (hp z)) S2 r2
    | some (.error x, ρ2), h => exact h
  cases t with
  | true => rw [if_pos rfl]; exact fin a hv (fun e => (hp e).2.1) h1
  | false => rw [if_neg Bool.false_ne_true]; exact fin b hv' (fun e => (hp e).2.2) h1
/-! ### subscripts -/
theorem c_ix (X' : XOk T cs k C W N sc X) {a b : E} {y z : Expr} {p : Pos} (hv : a.isView = true → b.pure = true) (hz : notSlice z = true) (ha : PE X y (tE cs C W a)) (hb : PE X z (tE cs C W b)) : PE X (.Subscript y z p) (tE cs C W (.ix a b)) := by
  have hs : PlainIx z := fun o i => by cases z <;> first | rfl | cases hz
  refine (pe_ix (ixD_ok (cl := C.cl)) ha hb hs).imp fun σ H Q q => ?_
  rw [← X'.CK]
  exact two_ok hv (fun e => by simpa [E.pure] using e) q
theorem c_sl (X' : XOk T cs k C W N sc X) {a : E} {lo hi : OE} {y : Expr} {l h : Option Expr} {p p' : Pos} (hv : a.isView = true → lo.pure = true ∧ hi.pure = true) (ha : PE X y (tE cs C W a)) (hl : PO X l (tO cs C W lo)) (hh : PO X h (tO cs C W hi)) :
    PE X (.Subscript y (.Slice l h none p') p) (tE cs C W (.sl a lo hi)) := by
  refine (pe_slice (slD_ok (cl := C.cl)) ha hl hh).imp fun σ H Q ⟨L, O, ρ, S, q⟩ => ?_
  have hp : (E.sl a lo hi).pure = true → a.pure = true ∧ lo.pure = true ∧ hi.pure = true := fun e => by
    have e' : (a.pure && lo.pure && hi.pure) = true := e
    simpa [and_assoc] using e'
  rw [← X'.CK]
  refine ⟨L, O, ρ, S, Post.bind q fun x ρ1 v H1 k1 s1 S1 r1 h1 => ?_⟩
  refine ⟨L, O, ρ1, S1, Post.bind (h1.mono k1 fun e => s1 (hp e).1) fun i ρ2 i' H2 k2 s2 S2 r2 h2 => ?_⟩
  cases r2
  refine ⟨L, O, ρ2, S2, Post.bind (h2.mono k2 fun e => s2 (hp e).2.1) fun j ρ3 j' H3 k3 s3 S3 r3 h3 => ?_⟩
  cases r3
  have h3 := Post.mono k3 (fun e => s3 (hp e).2.2) h3
  have rx : RepX C.K C.cl O H3 v x := by
    cases e : a.isView with
    | true => exact (r1.1.same (s2 (hv e).1)).same (s3 (hv e).2)
    | false => exact .inl (((r1.2 e).keep k2).keep k3)
  unfold rLift at h3
  match hf : slD x i j, h3 with
  | none, h3 => exact h3.elim
  | some d, h3 => exact ⟨O, x, d, S3.live, rx, hf, fun w H' sm rp => h3 w H' (.same sm) (fun _ => sm) (S3.same sm) ⟨.inl rp, fun _ => rp⟩⟩
theorem c_no : PO X none (tO cs C W .no) := ⟨fun pins s σ H Q I ⟨L, O, ρ, S, q⟩ => po_none.run pins s σ H Q I (Post.ok q S rfl)⟩
theorem c_yes {e : E} {y : Expr} (he : PE X y (tE cs C W e)) : PO X (some y) (tO cs C W (.yes e)) := ⟨fun pins s σ H Q I ⟨L, O, ρ, S, q⟩ => by
  refine (po_some he).run pins s σ H Q I ⟨L, O, ρ, S, Post.bind q fun x ρ1 v H1 k1 s1 S1 r1 h1 => ?_⟩
  match x, r1, h1 with
  | .int i, r1, h1 => exact ⟨i, r1.1.int, h1 _ H1 k1 s1 S1 rfl⟩⟩
/-! ### lists of expressions -/
theorem c_nil : PA X [] (tEs cs C W .nil) := pa_nil.imp fun σ H Q ⟨L, O, ρ, S, q⟩ => Post.ok q S ⟨trivial, fun _ => .nil⟩
theorem cons_read {e : E} {r : Es} (hv : e.isView = true → r.pure = true) {σ : L2.St} {H : Hp} {Q : List V → Hp → Prop} (h : tEs cs C W (.cons e r) σ H Q) : tCons (tE cs C W e) (tEs cs C W r) σ H Q := by
  obtain ⟨L, O, ρ, S, q⟩ := h
  have hp : (Es.cons e r).pure = true → e.pure = true ∧ r.pure = true := fun z => by
    have z' : (e.pure && r.pure) = true := z
    simpa using z'
  refine ⟨L, O, ρ, S, Post.bind q fun x ρ1 v H1 k1 s1 S1 r1 h1 => ?_⟩
  refine ⟨L, O, ρ1, S1, Post.bind (h1.mono k1 fun e => s1 (hp e).1) fun xs ρ2 vs H2 k2 s2 S2 r2 h2 => ?_⟩
  have h2 := Post.mono k2 (fun e => s2 (hp e).2) h2
  have rx : RepX C.K C.cl O H2 v x := by
    cases z : e.isView with
    | true => exact r1.1.same (s2 (hv z))
    | false => exact .inl ((r1.2 z).keep k2)
  refine Post.ok h2 S2 ⟨⟨rx, r2.1⟩, fun z => ?_⟩
  have z' : (!e.isView && r.noView) = true := z
  rw [Bool.and_eq_true, Bool.not_eq_true'] at z'
  exact .cons ((r1.2 z'.1).keep k2) (r2.2 z'.2)
theorem c_cons {e : E} {r : Es} {y : Expr} {ys : List Expr} (hv : e.isView = true → r.pure = true) (hs : notStar y = true) (he : PE X y (tE cs C W e)) (hr : PA X ys (tEs cs C W r)) : PA X (y :: ys) (tEs cs C W (.cons e r)) :=
  (pa_cons he hr (star_one hs ys X.env)).imp fun σ H Q h => cons_read hv h
theorem c_lst {es : Es} {xs : List Expr} {p : Pos} (hn : es.noView = true) (h : PA X xs (tEs cs C W es)) : PE X (.List xs p) (tE cs C W (.lst es)) := by
  refine (pe_lst h).imp fun σ H Q ⟨L, O, ρ, S, q⟩ => ?_
  refine ⟨L, O, ρ, S, Post.bind q fun ds ρ1 vs H1 k1 s1 S1 r1 h1 => ?_⟩
  have h1 := Post.mono k1 s1 h1
  have ra := r1.2 hn
  unfold rLift at h1
  by_cases hz : ds.length ≤ SZ
  · rw [if_pos hz] at h1
    refine ⟨szl (by rw [ra.length]; exact hz), fun p hp => ?_⟩
    have rp := rep_newL S1.live hp ra
    exact h1 _ _ (.same (same_new hp)) (fun _ => same_new hp) (S1.same (same_new hp)) ⟨.inl rp, fun _ => rp⟩
  · rw [if_neg hz] at h1
    exact h1.elim
theorem c_tup {es : Es} {xs : List Expr} {p : Pos} {j : Nat} (hn : es.noView = true) (h : PA X xs (tEs cs C W es)) : PE X (.Tuple xs j p) (tE cs C W (.tup es)) := by
  refine (pe_tup h).imp fun σ H Q ⟨L, O, ρ, S, q⟩ => ?_
  refine ⟨L, O, ρ, S, Post.bind q fun ds ρ1 vs H1 k1 s1 S1 r1 h1 => ?_⟩
  have h1 := Post.mono k1 s1 h1
  have ra := r1.2 hn
  unfold rLift at h1
  by_cases hz : ds.length ≤ SZ
  · rw [if_pos hz] at h1
    refine ⟨szl (by rw [ra.length]; exact hz), fun p hp => ?_⟩
    have rp := rep_newT S1.live hp ra
    exact h1 _ _ (.same (same_new hp)) (fun _ => same_new hp) (S1.same (same_new hp)) ⟨.inl rp, fun _ => rp⟩
  · rw [if_neg hz] at h1
    exact h1.elim
end
end Mx


/-! Mx, part 4e: the cases: and, or, built-in functions, methods, calls. -/
namespace Mx
open PySem PySem.Spec PyProof.Rows L2
section
variable {T : Tab} {cs : CS} {k : Nat} {C : Ct} {W : WX} {N : List Str} {sc : Scope} {X : Cx}
def tAndE (cs : CS) (C : Ct) (W : WX) (es : Es) : TE := tR C W es.pure (RlE C false) (evAnd cs es).1
def tAndT (cs : CS) (C : Ct) (W : WX) (es : Es) : TT := tR C W es.pure (fun _ _ b a => b = a) (evAnd cs es).2
def tOrE (cs : CS) (C : Ct) (W : WX) (es : Es) : TE := tR C W es.pure (RlE C false) (evOr cs es).1
def tOrT (cs : CS) (C : Ct) (W : WX) (es : Es) : TT := tR C W es.pure (fun _ _ b a => b = a) (evOr cs es).2
theorem _root_.L2.PW.imp {e : Expr} {t t' : TT} (h : PW X e t) (hi : ∀ σ H Q, t' σ H Q → t σ H Q) : PW X e t' := ⟨fun wh pins s σ H Q I q => h.run wh pins s σ H Q I (hi σ H Q q)⟩
theorem one_pure {e : E} (h : e.pure = true) : (Es.cons e .nil).pure = true := by
  show (e.pure && true) = true
  rw [h]; rfl
theorem c_and1 {e : E} {y : Expr} {p : Pos} (hv : e.isView = false) (he : PE X y (tE cs C W e)) : PE X (.BoolOp .And [y] p) (tAndE cs C W (.cons e .nil)) := by
  refine (pe_one he).imp fun σ H Q ⟨L, O, ρ, S, q⟩ => ⟨L, O, ρ, S, ?_⟩
  rw [hv]
  have hp : (Es.cons e .nil).pure = e.pure := Bool.and_true _
  rw [hp] at q
  exact q
theorem c_or1 {e : E} {y : Expr} {p : Pos} (hv : e.isView = false) (he : PE X y (tE cs C W e)) : PE X (.BoolOp .Or [y] p) (tOrE cs C W (.cons e .nil)) := by
  refine (pe_one he).imp fun σ H Q ⟨L, O, ρ, S, q⟩ => ⟨L, O, ρ, S, ?_⟩
  rw [hv]
  have hp : (Es.cons e .nil).pure = e.pure := Bool.and_true _
  rw [hp] at q
  exact q
theorem c_and1T {e : E} {y : Expr} {p : Pos} (he : PT X y (tT cs C W e)) : PW X (.BoolOp .And [y] p) (tAndT cs C W (.cons e .nil)) := by
  refine (pw_and1 he).imp fun σ H Q ⟨L, O, ρ, S, q⟩ => ⟨L, O, ρ, S, ?_⟩
  have hp : (Es.cons e .nil).pure = e.pure := Bool.and_true _
  rw [hp] at q
  exact q
theorem c_or1T {e : E} {y : Expr} {p : Pos} (he : PT X y (tT cs C W e)) : PW X (.BoolOp .Or [y] p) (tOrT cs C W (.cons e .nil)) := by
  refine (pw_or1 he).imp fun σ H Q ⟨L, O, ρ, S, q⟩ => ⟨L, O, ρ, S, ?_⟩
  have hp : (Es.cons e .nil).pure = e.pure := Bool.and_true _
  rw [hp] at q
  exact q
theorem Post.pr {α β : Type} {L O : List Addr} {σ : L2.St} {pr pr' : Bool} {Rl : Hp → β → α → Prop} {H : Hp} {r : Out α} {Q : β → Hp → Prop} (hp : pr = true → pr' = true) (h : Post C L O σ W pr Rl H r Q) : Post C L O σ W pr' Rl H r Q := by
  match r, h with
  | some (.ok a, ρ), h => exact fun v H' k' s' S q => h v H' k' (fun e => s' (hp e)) S q
  | some (.error x, ρ), h => exact h
theorem c_and {e e' : E} {r : Es} {y z : Expr} {zs : List Expr} {p : Pos} (he : PE X y (tE cs C W e)) (hr : PE X (.BoolOp .And (z :: zs) p) (tAndE cs C W (.cons e' r))) : PE X (.BoolOp .And (y :: z :: zs) p) (tAndE cs C W (.cons e (.cons e' r))) := by
  refine (pe_and he hr).imp fun σ H Q ⟨L, O, ρ, S, q⟩ => ?_
  have hp : (Es.cons e (.cons e' r)).pure = true → e.pure = true ∧ (Es.cons e' r).pure = true := fun z => by
    have z' : (e.pure && (Es.cons e' r).pure) = true := z
    rw [Bool.and_eq_true] at z'
    exact z'
  refine ⟨L, O, ρ, S, Post.bind q fun x ρ1 v H1 k1 s1 S1 r1 h1 => ?_⟩
  match x, r1, h1 with
  | .bl true, r1, h1 => exact ⟨true, r1.1.bl, by rw [if_pos rfl]; exact ⟨L, O, ρ1, S1, (Post.mono k1 (fun e => s1 (hp e).1) h1).pr fun e => (hp e).2⟩⟩
  | .bl false, r1, h1 => exact ⟨false, r1.1.bl, by rw [if_neg Bool.false_ne_true]; exact Post.ok (Post.mono k1 (fun e => s1 (hp e).1) h1) S1 ⟨.inl (.bl _), fun _ => .bl _⟩⟩
theorem c_or {e e' : E} {r : Es} {y z : Expr} {zs : List Expr} {p : Pos} (he : PE X y (tE cs C W e)) (hr : PE X (.BoolOp .Or (z :: zs) p) (tOrE cs C W (.cons e' r))) : PE X (.BoolOp .Or (y :: z :: zs) p) (tOrE cs C W (.cons e (.cons e' r))) := by
  refine (pe_or he hr).imp fun σ H Q ⟨L, O, ρ, S, q⟩ => ?_
  have hp : (Es.cons e (.cons e' r)).pure = true → e.pure = true ∧ (Es.cons e' r).pure = true := fun z => by
    have z' : (e.pure && (Es.cons e' r).pure) = true := z
    rw [Bool.and_eq_true] at z'
    exact z'
  refine ⟨L, O, ρ, S, Post.bind q fun x ρ1 v H1 k1 s1 S1 r1 h1 => ?_⟩
  match x, r1, h1 with
  | .bl false, r1, h1 => exact ⟨false, r1.1.bl, by rw [if_neg Bool.false_ne_true]; exact ⟨L, O, ρ1, S1, (Post.mono k1 (fun e => s1 (hp e).1) h1).pr fun e => (hp e).2⟩⟩
  | .bl true, r1, h1 => exact ⟨true, r1.1.bl, by rw [if_pos rfl]; exact Post.ok (Post.mono k1 (fun e => s1 (hp e).1) h1) S1 ⟨.inl (.bl _), fun _ => .bl _⟩⟩
theorem c_andT {e e' : E} {r : Es} {y z : Expr} {zs : List Expr} {p : Pos} (he : PT X y (tT cs C W e)) (hr : PW X (.BoolOp .And (z :: zs) p) (tAndT cs C W (.cons e' r))) : PW X (.BoolOp .And (y :: z :: zs) p) (tAndT cs C W (.cons e (.cons e' r))) := by
  refine (pw_and he hr).imp fun σ H Q ⟨L, O, ρ, S, q⟩ => ?_
  have hp : (Es.cons e (.cons e' r)).pure = true → e.pure = true ∧ (Es.cons e' r).pure = true := fun z => by
    have z' : (e.pure && (Es.cons e' r).pure) = true := z
    rw [Bool.and_eq_true] at z'
    exact z'
  have q : Post C L O σ W (Es.cons e (.cons e' r)).pure (fun _ b a => b = a) H ((rBind (ev cs e).2 fun t => if t = true then (evAnd cs (.cons e' r)).2 else rPure false) ρ) Q := q
  refine ⟨L, O, ρ, S, Post.bind q fun t ρ1 v H1 k1 s1 S1 r1 h1 => ?_⟩
  cases r1
  cases t with
  | true => rw [if_pos rfl]; exact ⟨L, O, ρ1, S1, (Post.mono k1 (fun e => s1 (hp e).1) h1).pr fun e => (hp e).2⟩
  | false => rw [if_neg Bool.false_ne_true]; exact Post.ok (Post.mono k1 (fun e => s1 (hp e).1) h1) S1 rfl
theorem c_orT {e e' : E} {r : Es} {y z : Expr} {zs : List Expr} {p : Pos} (he : PT X y (tT cs C W e)) (hr : PW X (.BoolOp .Or (z :: zs) p) (tOrT cs C W (.cons e' r))) : PW X (.BoolOp .Or (y :: z :: zs) p) (tOrT cs C W (.cons e (.cons e' r))) := by
  refine (pw_or he hr).imp fun σ H Q ⟨L, O, ρ, S, q⟩ => ?_
  have hp : (Es.cons e (.cons e' r)).pure = true → e.pure = true ∧ (Es.cons e' r).pure = true := fun z => by
    have z' : (e.pure && (Es.cons e' r).pure) = true := z
    rw [Bool.and_eq_true] at z'
    exact z'
  have q : Post C L O σ W (Es.cons e (.cons e' r)).pure (fun _ b a => b = a) H ((rBind (ev cs e).2 fun t => if t = true then rPure true else (evOr cs (.cons e' r)).2) ρ) Q := q
  refine ⟨L, O, ρ, S, Post.bind q fun t ρ1 v H1 k1 s1 S1 r1 h1 => ?_⟩
  cases r1
  cases t with
  | false => rw [if_neg Bool.false_ne_true]; exact ⟨L, O, ρ1, S1, (Post.mono k1 (fun e => s1 (hp e).1) h1).pr fun e => (hp e).2⟩
  | true => rw [if_pos rfl]; exact Post.ok (Post.mono k1 (fun e => s1 (hp e).1) h1) S1 rfl
/-! ### built-in functions -/
theorem fn_read {f : List IV → Option IV} {es : Es} {σ : L2.St} {H : Hp} {Q : VK} (h : tR C W es.pure (RlE C false) (rBind (evEs cs es) fun xs => rLift (f xs)) σ H Q) : tCB (rND C.K C.cl f) (tEs cs C W es) σ H Q := by
  obtain ⟨L, O, ρ, S, q⟩ := h
  refine ⟨L, O, ρ, S, Post.bind q fun ds ρ1 vs H1 k1 s1 S1 r1 h1 => ?_⟩
  have h1 := Post.mono k1 s1 h1
  unfold rLift at h1
  match hf : f ds, h1 with
  | none, h1 => exact h1.elim
  | some d, h1 => exact ⟨O, ds, d, S1.live, r1.1, hf, fun w H' sm rp => h1 w H' (.same sm) (fun _ => sm) (S1.same sm) ⟨.inl rp, fun _ => rp⟩⟩
theorem all_star {es : Es} : ∀ {xs : List Expr} {sc : Scope} {T : Tab} {N : List Str}, mEs T N es sc xs = true → xs.all notStar = true := by
  intro xs
  induction xs generalizing es with
  | nil => intros; rfl
  | cons y ys ih =>
    intro sc T N h
    match es, h with
    | .cons e r, h =>
      unfold mEs at h
      simp only [Bool.and_eq_true] at h
      rw [List.all_cons, h.1.2, ih h.1.1.2]
      rfl
theorem c_fn (X' : XOk T cs k C W N sc X) {f : BFn} {es : Es} {y : Str} {z : Expr} {zs : List Expr} {p q : Pos} (hy : y = fnName f) (hf : fnServed f = true) (hg : gloB sc y = true) (hb : T.blt.contains y = true) (hs : (z :: zs).all notStar = true) (h : PA X (z :: zs) (tEs cs C W es)) :
    PE X (.Call (.Name y p) (z :: zs) [] q) (tE cs C W (.fn f es)) := by
  rw [List.all_cons, Bool.and_eq_true] at hs
  have s1 := star_one hs.1 zs X.env
  have s2 := star_none X.env q hs.2
  have g := X'.gl hg
  have m := X'.bl hb
  subst hy
  have fin : ∀ {t : TE}, PE X (.Call (.Name (fnName f) p) (z :: zs) [] q) (tCB (rND X.K C.cl (fnD f)) (tEs cs C W es)) → PE X (.Call (.Name (fnName f) p) (z :: zs) [] q) (tE cs C W (.fn f es)) := fun {t} hp => hp.imp fun σ H Q h => by
    rw [← X'.CK]
    exact fn_read h
  cases f with
  | len => exact fin (t := tC .non) (pe_callB fn_len g m (by decide +kernel) h (by decide) (by decide) s1 s2)
  | int => exact fin (t := tC .non) (pe_callTy fn_int g m (by decide +kernel) h (by decide) (by decide) s1 s2)
  | all => exact fin (t := tC .non) (pe_callB (fn_all X'.calm) g m (by decide +kernel) h (by decide) (by decide) s1 s2)
  | any => exact fin (t := tC .non) (pe_callB (fn_any X'.calm) g m (by decide +kernel) h (by decide) (by decide) s1 s2)
  | list => exact fin (t := tC .non) (pe_callTy (fn_list X'.calm) g m (by decide +kernel) h (by decide) (by decide) s1 s2)
  | tuple => exact fin (t := tC .non) (pe_callTy fn_tuple g m (by decide +kernel) h (by decide) (by decide) s1 s2)
  | repr => exact fin (t := tC .non) (pe_callB (fn_repr X'.gd X'.hu) g m (by decide +kernel) h (by decide) (by decide) s1 s2)
  | str => cases hf
  | ord => cases hf
  | min => cases hf
  | max => cases hf
theorem c_isi (X' : XOk T cs k C W N sc X) {a : E} {t : String} {y w : Str} {z : Expr} {p p2 q : Pos} (hy : y = ("isinstance" : Str)) (hg : gloB sc y = true) (hb : T.blt.contains y = true) (hz : notStar z = true) (hw : w = Str.ofString t) (hg2 : gloB sc w = true) (hb2 : T.blt.contains w = true)
    (ht : (t == "str" || t == "int" || t == "bool" || t == "tuple") = true) (h : PE X z (tE cs C W a)) : PE X (.Call (.Name y p) [z, .Name w p2] [] q) (tE cs C W (.isi a t)) := by
  have g := X'.gl hg
  have m := X'.bl hb
  have g2 := X'.gl hg2
  have m2 := X'.bl hb2
  subst hy
  have boot : bootBuiltins w = some (.type t) ∧ w ≠ "__name__" ∧ (w == ("__debug__" : Str)) = false := by
    subst hw
    simp only [Bool.or_eq_true, beq_iff_eq] at ht
    rcases ht with ((e | e) | e) | e <;> subst e <;> exact ⟨by decide +kernel, by decide +kernel, by decide +kernel⟩
  have hty : PE X (.Name w p2) (tC (.ty t)) := pe_bltn g2 m2 boot.1 rfl boot.2.1 boot.2.2
  have s2 : starEach [Expr.Name w p2] X.env = [(false, eval (.Name w p2) X.env)] := rfl
  refine (pe_callB call_isi g m (by decide +kernel) (pa_cons h (pa_cons hty pa_nil s2) (star_one hz _ X.env)) (by decide) (by decide) (star_one hz _ X.env) rfl).imp fun σ H Q ⟨L, O, ρ, S, q⟩ => ?_
  rw [← X'.CK]
  refine ⟨L, O, ρ, S, Post.bind q fun d ρ1 v H1 k1 s1 S1 r1 h1 => ?_⟩
  have h1 := Post.mono k1 s1 h1
  unfold rLift at h1
  match hf : isiD d t, h1 with
  | none, h1 => exact h1.elim
  | some b, h1 =>
    obtain ⟨ty, hty, hk⟩ := isi_kit r1.1 hf
    exact ⟨v, .ty t, ty, .type t, b, rfl, .ty t, hty, hk, Post.ok h1 S1 ⟨.inl (.bl _), fun _ => .bl _⟩⟩
/-! ### methods -/
theorem noSuper_ok {o : Expr} {n : Str} {env : Env} (h : noSuper o = true) : attributeBase o n env (eval o env) = eval o env := by
  unfold attributeBase
  split
  · cases h
  · rfl
theorem mt_read {m : BMt} {a : E} {es : Es} {b : E} (ha : a.isView = false) (he : es = .cons b .nil) {σ : L2.St} {H : Hp} {Q : VK} (h : tE cs C W (.mt m a es) σ H Q) : tM1 (rMD C.K C.cl (mtD m)) (tE cs C W a) (tE cs C W b) σ H Q := by
  subst he
  obtain ⟨L, O, ρ, S, q⟩ := h
  have hp : (E.mt m a (.cons b .nil)).pure = true → a.pure = true ∧ b.pure = true := fun e => by
    have e' : (a.pure && (b.pure && true)) = true := e
    simpa using e'
  refine ⟨L, O, ρ, S, Post.bind q fun x ρ1 v H1 k1 s1 S1 r1 h1 => ?_⟩
  have h1 := Post.mono k1 (fun e => s1 (hp e).1) h1
  match x, r1, h1 with
  | .str l, r1, h1 =>
    refine ⟨⟨_, r1.1.str⟩, L, O, ρ1, S1, ?_⟩
    have h1 : Post C L O σ W (E.mt m a (.cons b .nil)).pure (RlE C false O) H1 ((rBind (rBind (ev cs b).1 fun x => rBind (rPure []) fun xs => rPure (x :: xs)) fun xs => rLift (mtD m (.str l) xs)) ρ1) Q := h1
    have e2 : (rBind (rBind (ev cs b).1 fun x => rBind (rPure []) fun xs => rPure (x :: xs)) fun xs => rLift (mtD m (.str l) xs)) ρ1 = (rBind (ev cs b).1 fun x => rLift (mtD m (.str l) [x])) ρ1 := by
      unfold rBind
      match (ev cs b).1 ρ1 with
      | none => rfl
      | some (.error x, ρ2) => rfl
      | some (.ok x, ρ2) => rfl
    rw [e2] at h1
    refine Post.bind h1 fun y ρ2 u H2 k2 s2 S2 r2 h2 => ?_
    have h2 := Post.mono k2 (fun e => s2 (hp e).2) h2
    unfold rLift at h2
    match hf : mtD m (.str l) [y], h2 with
    | none, h2 => exact h2.elim
    | some d, h2 => exact ⟨O, .str l, [y], d, S2.live, .inl ((r1.2 ha).keep k2), ⟨r2.1, trivial⟩, hf, fun w H' sm rp => h2 w H' (.same sm) (fun _ => sm) (S2.same sm) ⟨.inl rp, fun _ => rp⟩⟩
theorem mt_read0 {m : BMt} {a : E} {σ : L2.St} {H : Hp} {Q : VK} (h : tE cs C W (.mt m a .nil) σ H Q) : tM0 (rMD C.K C.cl (mtD m)) (tE cs C W a) σ H Q := by
  obtain ⟨L, O, ρ, S, q⟩ := h
  have hp : (E.mt m a .nil).pure = true → a.pure = true := fun e => by
    have e' : (a.pure && true) = true := e
    simpa using e'
  refine ⟨L, O, ρ, S, Post.bind q fun x ρ1 v H1 k1 s1 S1 r1 h1 => ?_⟩
  have h1 := Post.mono k1 (fun e => s1 (hp e)) h1
  match x, r1, h1 with
  | .str l, r1, h1 =>
    refine ⟨⟨_, r1.1.str⟩, ?_⟩
    have h1 : Post C L O σ W (E.mt m a .nil).pure (RlE C false O) H1 (rLift (mtD m (.str l) []) ρ1) Q := h1
    unfold rLift at h1
    match hf : mtD m (.str l) [], h1 with
    | none, h1 => exact h1.elim
    | some d, h1 => exact ⟨O, .str l, [], d, S1.live, r1.1, trivial, hf, fun w H' sm rp => h1 w H' (.same sm) (fun _ => sm) (S1.same sm) ⟨.inl rp, fun _ => rp⟩⟩
theorem c_mt1 (X' : XOk T cs k C W N sc X) {m : BMt} {a b : E} {o z : Expr} {y : Str} {p q : Pos} (hy : y = mtName m) (hm : mtServed m = true) (hm0 : m ≠ .upper) (ho : noSuper o = true) (hl : (p.endLine == q.line) = true) (hv : a.isView = false) (hs : notStar z = true)
    (ha : PE X o (tE cs C W a)) (hb : PE X z (tE cs C W b)) : PE X (.Call (.Attribute o y p) [z] [] q) (tE cs C W (.mt m a (.cons b .nil))) := by
  subst hy
  have fin : PE X (.Call (.Attribute o (mtName m) p) [z] [] q) (tM1 (rMD X.K C.cl (mtD m)) (tE cs C W a) (tE cs C W b)) → PE X (.Call (.Attribute o (mtName m) p) [z] [] q) (tE cs C W (.mt m a (.cons b .nil))) := fun hp => hp.imp fun σ H Q h => by
    rw [← X'.CK]
    exact mt_read hv rfl h
  cases m with
  | join => exact fin (pe_m1 F.slot_str_join F.type_str_join mt_joinD ha hb (star_one hs [] X.env) (noSuper_ok ho) hl)
  | split => exact fin (pe_m1 F.slot_str_split F.type_str_split mt_splitD ha hb (star_one hs [] X.env) (noSuper_ok ho) hl)
  | part => exact fin (pe_m1 F.slot_str_partition F.type_str_partition mt_partD ha hb (star_one hs [] X.env) (noSuper_ok ho) hl)
  | upper => exact absurd rfl hm0
  | strip => cases hm
theorem c_mt0 (X' : XOk T cs k C W N sc X) {a : E} {o : Expr} {y : Str} {p q : Pos} (hy : y = mtName .upper) (ho : noSuper o = true) (hl : (p.endLine == q.line) = true) (ha : PE X o (tE cs C W a)) : PE X (.Call (.Attribute o y p) [] [] q) (tE cs C W (.mt .upper a .nil)) := by
  subst hy
  refine (pe_m0 (r := rMD X.K C.cl (mtD .upper)) F.slot_str_upper F.type_str_upper mt_upperD ha (noSuper_ok ho) hl).imp fun σ H Q h => ?_
  rw [← X'.CK]
  exact mt_read0 h
end
end Mx


/-! Mx, part 4f: calls of the program's own defs. -/
namespace Mx
open PySem PySem.Spec PyProof.Rows L2
def isR : IV ⊕ Nat → Bool
  | .inl _ => false
  | .inr _ => true
def idxX : List (IV ⊕ Nat) → List Nat
  | [] => []
  | .inl _ :: r => idxX r
  | .inr i :: r => i :: idxX r
theorem idx_mem : ∀ {xs : List (IV ⊕ Nat)} {j : Nat}, j ∈ idxX xs → ∃ t : Nat, xs[t]? = some (.inr j)
  | .inl _ :: r, j, h => by
    obtain ⟨t, e⟩ := idx_mem (xs := r) h
    exact ⟨t + 1, by simpa using e⟩
  | .inr i :: r, j, h => by
    rcases List.mem_cons.mp h with e | e
    · exact ⟨0, by simp [e]⟩
    · obtain ⟨t, e⟩ := idx_mem (xs := r) e
      exact ⟨t + 1, by simpa using e⟩
theorem mem_idx : ∀ {xs : List (IV ⊕ Nat)} {t j : Nat}, xs[t]? = some (.inr j) → j ∈ idxX xs
  | .inl _ :: r, 0, j, h => by simp at h
  | .inl _ :: r, t + 1, j, h => mem_idx (xs := r) (t := t) (by simpa using h)
  | .inr i :: r, 0, j, h => by
    have e : i = j := by simpa using h
    rw [e]; exact List.mem_cons_self
  | .inr i :: r, t + 1, j, h => List.mem_cons_of_mem _ (mem_idx (xs := r) (t := t) (by simpa using h))
section
variable {T : Tab} {cs : CS} {k : Nat} {C : Ct} {W : WX} {N : List Str} {sc : Scope} {X : Cx}
def RlA (C : Ct) (σ : L2.St) (O : List Addr) (H : Hp) : List V → List (IV ⊕ Nat) → Prop
  | [], [] => True
  | v :: vs, .inl d :: xs => Rep C.K C.cl O H v d ∧ RlA C σ O H vs xs
  | v :: vs, .inr i :: xs => σ[i]? = some (some v) ∧ RlA C σ O H vs xs
  | _, _ => False
theorem RlA.keep {σ : L2.St} {O : List Addr} {H H' : Hp} (kp : Keep O H H') : ∀ {vs : List V} {xs : List (IV ⊕ Nat)}, RlA C σ O H vs xs → RlA C σ O H' vs xs
  | [], [], _ => trivial
  | v :: vs, .inl d :: xs, h => ⟨h.1.keep kp, RlA.keep (vs := vs) (xs := xs) kp h.2⟩
  | v :: vs, .inr i :: xs, h => ⟨h.1, RlA.keep (vs := vs) (xs := xs) kp h.2⟩
theorem RlA.length {σ : L2.St} {O : List Addr} {H : Hp} : ∀ {vs : List V} {xs : List (IV ⊕ Nat)}, RlA C σ O H vs xs → vs.length = xs.length
  | [], [], _ => rfl
  | v :: vs, .inl d :: xs, h => by rw [List.length_cons, List.length_cons, RlA.length (vs := vs) (xs := xs) h.2]
  | v :: vs, .inr i :: xs, h => by rw [List.length_cons, List.length_cons, RlA.length (vs := vs) (xs := xs) h.2]
theorem RlA.at {σ : L2.St} {O : List Addr} {H : Hp} : ∀ {vs : List V} {xs : List (IV ⊕ Nat)} {t j : Nat}, RlA C σ O H vs xs → xs[t]? = some (.inr j) → ∃ v, vs[t]? = some v ∧ σ[j]? = some (some v)
  | [], [], t, j, h, e => by simp at e
  | v :: vs, .inl d :: xs, 0, j, h, e => by simp at e
  | v :: vs, .inl d :: xs, t + 1, j, h, e => by
    obtain ⟨u, h1, h2⟩ := RlA.at (vs := vs) (xs := xs) (t := t) h.2 (by simpa using e)
    exact ⟨u, by simpa using h1, h2⟩
  | v :: vs, .inr i :: xs, 0, j, h, e => by
    have e' : i = j := by simpa using e
    subst e'
    exact ⟨v, rfl, h.1⟩
  | v :: vs, .inr i :: xs, t + 1, j, h, e => by
    obtain ⟨u, h1, h2⟩ := RlA.at (vs := vs) (xs := xs) (t := t) h.2 (by simpa using e)
    exact ⟨u, by simpa using h1, h2⟩
def tAs (cs : CS) (C : Ct) (W : WX) (as : As) : TA := fun σ => tR C W as.pure (fun O H => RlA C σ O H) (evAs cs as) σ
theorem c_anil : PA X [] (tAs cs C W .nil) := pa_nil.imp fun σ H Q ⟨L, O, ρ, S, q⟩ => Post.ok q S trivial
theorem c_av {e : E} {r : As} {y : Expr} {ys : List Expr} (hv : e.isView = false) (hs : notStar y = true) (he : PE X y (tE cs C W e)) (hr : PA X ys (tAs cs C W r)) : PA X (y :: ys) (tAs cs C W (.v e r)) := by
  refine (pa_cons he hr (star_one hs ys X.env)).imp fun σ H Q ⟨L, O, ρ, S, q⟩ => ?_
  have hp : (As.v e r).pure = true → e.pure = true ∧ r.pure = true := fun z => by
    have z' : (e.pure && r.pure) = true := z
    simpa using z'
  refine ⟨L, O, ρ, S, Post.bind q fun x ρ1 v H1 k1 s1 S1 r1 h1 => ?_⟩
  refine ⟨L, O, ρ1, S1, Post.bind (h1.mono k1 fun e => s1 (hp e).1) fun xs ρ2 vs H2 k2 s2 S2 r2 h2 => ?_⟩
  have h2 := Post.mono k2 (fun e => s2 (hp e).2) h2
  exact Post.ok h2 S2 ⟨(r1.2 hv).keep k2, r2⟩
theorem c_am (X' : XOk T cs k C W N sc X) {i : Nat} {r : As} {y : Str} {p : Pos} {ys : List Expr} (h : slotB N sc i y = true) (hr : PA X ys (tAs cs C W r)) : PA X (.Name y p :: ys) (tAs cs C W (.m i r)) := by
  obtain ⟨h1, h2, h3, h4⟩ := X'.vis h
  refine (pa_cons (pe_var h1 h2 h3 h4) hr rfl).imp fun σ H Q ⟨L, O, ρ, S, q⟩ => ?_
  have q : Post C L O σ W false (fun H => RlA C σ O H) H ((rBind (rView i) fun _ => rBind (evAs cs r) fun xs => rPure (.inr i :: xs)) ρ) Q := q
  have go : ∀ (s : Sl) (d : IV), ρ[i]? = some s → s.mut = some d → Post C L O σ W false (fun H => RlA C σ O H) H ((rBind (evAs cs r) fun xs => rPure (.inr i :: xs)) ρ) Q → tCons (tVar i) (tAs cs C W r) σ H Q := fun s d hs hm q => by
    obtain ⟨a, ea, _⟩ := S.mutAt hs hm
    refine ⟨_, ea, L, O, ρ, S, Post.bind q fun xs ρ1 vs H1 k1 s1 S1 r1 h1 => ?_⟩
    have h1 := Post.mono (pr := false) k1 (fun e => Bool.noConfusion e) h1
    exact Post.ok h1 S1 ⟨ea, r1⟩
  unfold rBind rView at q
  match hρ : ρ[i]?, q with
  | some (.o d), q => exact go _ d hρ rfl q
  | some (.b d), q => exact go _ d hρ rfl q
/-! ### the arguments' shape -/
theorem bind_ok {α β : Type} {m : R α} {f : α → R β} {ρ ρ' : List Sl} {b : β} (h : rBind m f ρ = some (.ok b, ρ')) : ∃ a ρ1, m ρ = some (.ok a, ρ1) ∧ f a ρ1 = some (.ok b, ρ') := by
  unfold rBind at h
  match hm : m ρ, h with
  | some (.ok a, ρ1), h => exact ⟨a, ρ1, rfl, h⟩
theorem evAs_shape : ∀ (as : As) {ρ ρ' : List Sl} {xs : List (IV ⊕ Nat)}, evAs cs as ρ = some (.ok xs, ρ') → xs.map isR = as.kinds ∧ idxX xs = as.idx
  | .nil, ρ, ρ', xs, h => by
    unfold evAs rPure at h
    cases h
    exact ⟨rfl, rfl⟩
  | .v e r, ρ, ρ', xs, h => by
    unfold evAs at h
    obtain ⟨x, ρ1, _, h⟩ := bind_ok h
    obtain ⟨ys, ρ2, hy, h⟩ := bind_ok h
    unfold rPure at h
    cases h
    obtain ⟨h1, h2⟩ := evAs_shape r hy
    exact ⟨by rw [List.map_cons, h1]; rfl, h2⟩
  | .m i r, ρ, ρ', xs, h => by
    unfold evAs at h
    obtain ⟨_, _, _, h⟩ := bind_ok h
    obtain ⟨ys, ρ2, hy, h⟩ := bind_ok h
    unfold rPure at h
    cases h
    obtain ⟨h1, h2⟩ := evAs_shape r hy
    exact ⟨by rw [List.map_cons, h1]; rfl, by show i :: idxX ys = _; rw [h2]; rfl⟩
theorem argsD_at {ρ : List Sl} : ∀ {xs : List (IV ⊕ Nat)} {ds : List IV} {t j : Nat}, argsD ρ xs = some ds → xs[t]? = some (.inr j) → ∃ r d, ρ[j]? = some r ∧ r.mut = some d ∧ ds[t]? = some d
  | x :: xs, ds, t, j, h, e => by
    unfold argsD at h
    match h1 : argD ρ x, h2 : argsD ρ xs, h with
    | some d, some es, h =>
      cases h
      cases t with
      | zero =>
        have e' : x = .inr j := by simpa using e
        subst e'
        have h1 : ρ[j]?.bind Sl.mut = some d := h1
        match hr : ρ[j]?, h1 with
        | some r, h1 => exact ⟨r, d, rfl, h1, rfl⟩
      | succ t =>
        obtain ⟨r, d', h3, h4, h5⟩ := argsD_at (xs := xs) (t := t) h2 (by simpa using e)
        exact ⟨r, d', h3, h4, by simpa using h5⟩
theorem argR_of {L O : List Addr} {σ : L2.St} {ρ : List Sl} {H : Hp} (S : SRel C L O σ ρ H) : ∀ {xs : List (IV ⊕ Nat)} {ds : List IV} {vs : List V}, argsD ρ xs = some ds → RlA C σ O H vs xs → ArgR C.K C.cl O H (xs.map isR) vs ds
  | [], ds, [], h, _ => by
    unfold argsD at h
    cases h
    trivial
  | x :: xs, ds, v :: vs, h, r => by
    unfold argsD at h
    match h1 : argD ρ x, h2 : argsD ρ xs, h with
    | some d, some es, h =>
      cases h
      cases x with
      | inl d' =>
        cases h1
        exact ⟨r.1, argR_of S (xs := xs) (vs := vs) h2 r.2⟩
      | inr i =>
        have h1 : ρ[i]?.bind Sl.mut = some d := h1
        match hr : ρ[i]?, h1 with
        | some q, h1 =>
          obtain ⟨a, ea, hO, w, _⟩ := S.mutAt hr h1
          have ev : v = .ref a := by
            have := r.1
            rw [ea] at this
            cases this
            rfl
          exact ⟨⟨a, ev, hO, w⟩, argR_of S (xs := xs) (vs := vs) h2 r.2⟩
theorem mutA_mem {a : Addr} : ∀ {xs : List (IV ⊕ Nat)} {vs : List V}, xs.length = vs.length → some a ∈ mutA (xs.map isR) vs → ∃ t j : Nat, xs[t]? = some (.inr j) ∧ vs[t]? = some (.ref a)
  | x :: xs, v :: vs, hl, h => by
    have tail : some a ∈ mutA (xs.map isR) vs → ∃ t j : Nat, (x :: xs)[t]? = some (.inr j) ∧ (v :: vs)[t]? = some (.ref a) := fun h => by
      obtain ⟨t, j, h1, h2⟩ := mutA_mem (xs := xs) (vs := vs) (by simpa using hl) h
      exact ⟨t + 1, j, by simpa using h1, by simpa using h2⟩
    cases x with
    | inl d =>
      have h' : some a ∈ none :: mutA (xs.map isR) vs := by
        have : mutA (false :: xs.map isR) (v :: vs) = none :: mutA (xs.map isR) vs := by cases v <;> rfl
        rw [← this]; exact h
      rcases List.mem_cons.mp h' with e | e
      · cases e
      · exact tail e
    | inr i =>
      cases v with
      | ref b =>
        have h' : some a ∈ some b :: mutA (xs.map isR) vs := h
        rcases List.mem_cons.mp h' with e | e
        · cases e
          exact ⟨0, i, rfl, rfl⟩
        · exact tail e
      | _ =>
        have h' : some a ∈ none :: mutA (xs.map isR) vs := h
        rcases List.mem_cons.mp h' with e | e
        · cases e
        · exact tail e
  | [], [], _, h => nomatch h
theorem mutA_of {a : Addr} : ∀ {xs : List (IV ⊕ Nat)} {vs : List V} {t j : Nat}, xs[t]? = some (.inr j) → vs[t]? = some (.ref a) → some a ∈ mutA (xs.map isR) vs
  | x :: xs, v :: vs, 0, j, h1, h2 => by
    have e1 : x = .inr j := by simpa using h1
    have e2 : v = .ref a := by simpa using h2
    subst e1 e2
    exact List.mem_cons_self
  | x :: xs, v :: vs, t + 1, j, h1, h2 => by
    have q := mutA_of (xs := xs) (vs := vs) (t := t) (by simpa using h1) (by simpa using h2)
    cases x with
    | inl d =>
      have : mutA (false :: xs.map isR) (v :: vs) = none :: mutA (xs.map isR) vs := by cases v <;> rfl
      show some a ∈ mutA (false :: xs.map isR) (v :: vs)
      rw [this]; exact List.mem_cons_of_mem _ q
    | inr i =>
      cases v with
      | ref b => exact List.mem_cons_of_mem _ q
      | _ => exact List.mem_cons_of_mem _ q
theorem nodup_addr {L O : List Addr} {σ : L2.St} {ρ : List Sl} {H : Hp} (S : SRel C L O σ ρ H) : ∀ {xs : List (IV ⊕ Nat)} {ds : List IV} {vs : List V}, argsD ρ xs = some ds → RlA C σ O H vs xs → (idxX xs).Nodup → ((mutA (xs.map isR) vs).filterMap id).Nodup
  | [], ds, [], _, _, _ => List.nodup_nil
  | x :: xs, ds, v :: vs, h, r, hn => by
    have h0 := h
    unfold argsD at h
    match h1 : argD ρ x, h2 : argsD ρ xs, h with
    | some d, some es, h =>
      cases x with
      | inl d' =>
        have : mutA (false :: xs.map isR) (v :: vs) = none :: mutA (xs.map isR) vs := by cases v <;> rfl
        show ((mutA (false :: xs.map isR) (v :: vs)).filterMap id).Nodup
        rw [this]
        exact nodup_addr S (xs := xs) (vs := vs) h2 r.2 hn
      | inr i =>
        have hn' : i ∉ idxX xs ∧ (idxX xs).Nodup := List.nodup_cons.mp hn
        have ih := nodup_addr S (xs := xs) (vs := vs) h2 r.2 hn'.2
        have h1 : ρ[i]?.bind Sl.mut = some d := h1
        match hr : ρ[i]?, h1 with
        | some q, h1 =>
          obtain ⟨a, ea, hO, w, _⟩ := S.mutAt hr h1
          have ev : v = .ref a := by
            have := r.1
            rw [ea] at this
            cases this
            rfl
          subst ev
          show (a :: (mutA (xs.map isR) vs).filterMap id).Nodup
          refine List.nodup_cons.mpr ⟨fun hm => ?_, ih⟩
          obtain ⟨o, ho, e⟩ := List.mem_filterMap.mp hm
          have e' : o = some a := e
          subst e'
          obtain ⟨t, j, g1, g2⟩ := mutA_mem (xs := xs) (vs := vs) (RlA.length r.2).symm ho
          obtain ⟨r', d', g3, g4, _⟩ := argsD_at h2 g1
          obtain ⟨u, g5, g6⟩ := RlA.at r.2 g1
          rw [g2] at g5
          cases g5
          have hij : i ≠ j := fun z => hn'.1 (z ▸ mem_idx g1)
          exact S.apart i j q r' a hij hr g3 (by rw [show q.mut = some d from h1]; rfl) (by rw [g4]; rfl) ea g6
theorem putM_len : ∀ (xs : List (IV ⊕ Nat)) (ms : List IV) (ρ : List Sl), (putM xs ms ρ).length = ρ.length
  | .inr i :: xs, m :: ms, ρ => by
    unfold putM
    rw [putM_len]
    split
    · exact List.length_set ..
    · rfl
  | .inl _ :: xs, m :: ms, ρ => by
    unfold putM
    exact putM_len xs ms ρ
  | [], _, _ => by unfold putM; rfl
  | .inr _ :: _, [], _ => by unfold putM; rfl
  | .inl _ :: _, [], _ => by unfold putM; rfl
theorem putM_out : ∀ (xs : List (IV ⊕ Nat)) (ms : List IV) (ρ : List Sl) {j : Nat}, j ∉ idxX xs → (putM xs ms ρ)[j]? = ρ[j]?
  | .inr i :: xs, m :: ms, ρ, j, h => by
    have h' : j ≠ i ∧ j ∉ idxX xs := by simpa [idxX] using h
    unfold putM
    rw [putM_out xs ms _ h'.2]
    split
    · rw [List.getElem?_set_ne (Ne.symm h'.1)]
    · rfl
  | .inl _ :: xs, m :: ms, ρ, j, h => by
    unfold putM
    exact putM_out xs ms ρ h
  | [], _, _, _, _ => by unfold putM; rfl
  | .inr _ :: _, [], _, _, _ => by unfold putM; rfl
  | .inl _ :: _, [], _, _, _ => by unfold putM; rfl
theorem putM_in : ∀ (xs : List (IV ⊕ Nat)) (ms : List IV) (ρ : List Sl) {t j : Nat} {r : Sl} {m : IV}, (idxX xs).Nodup → xs[t]? = some (.inr j) → ms[t]? = some m → ρ[j]? = some r → (putM xs ms ρ)[j]? = some (r.put m)
  | .inr i :: xs, m :: ms, ρ, 0, j, r, m', hn, e1, e2, hr => by
    have e1' : i = j := by simpa using e1
    have e2' : m = m' := by simpa using e2
    subst e1' e2'
    have hn' : i ∉ idxX xs ∧ (idxX xs).Nodup := List.nodup_cons.mp hn
    unfold putM
    rw [putM_out xs ms _ hn'.1, hr]
    show (ρ.set i (r.put m))[i]? = _
    rw [List.getElem?_set_self (List.getElem?_eq_some_iff.mp hr).1]
  | .inr i :: xs, m :: ms, ρ, t + 1, j, r, m', hn, e1, e2, hr => by
    have hn' : i ∉ idxX xs ∧ (idxX xs).Nodup := List.nodup_cons.mp hn
    have g1 : xs[t]? = some (.inr j) := by simpa using e1
    have hij : i ≠ j := fun z => hn'.1 (z ▸ mem_idx g1)
    unfold putM
    refine putM_in xs ms _ hn'.2 g1 (by simpa using e2) ?_
    split
    · rw [List.getElem?_set_ne hij]; exact hr
    · exact hr
  | .inl _ :: xs, m :: ms, ρ, 0, j, r, m', hn, e1, e2, hr => by simp at e1
  | .inl _ :: xs, m :: ms, ρ, t + 1, j, r, m', hn, e1, e2, hr => by
    unfold putM
    exact putM_in xs ms ρ hn (by simpa using e1) (by simpa using e2) hr
theorem mutR_at {O : List Addr} {H : Hp} : ∀ {xs : List (IV ⊕ Nat)} {vs : List V} {ms : List IV} {t j : Nat}, MutR C.K C.cl O H (xs.map isR) vs ms → xs[t]? = some (.inr j) → ∃ a m, vs[t]? = some (.ref a) ∧ ms[t]? = some m ∧ Own C.K C.cl O H a m
  | .inl _ :: xs, v :: vs, m :: ms, 0, j, h, e => by simp at e
  | .inl _ :: xs, v :: vs, m :: ms, t + 1, j, h, e => by
    obtain ⟨a, m', h1, h2, h3⟩ := mutR_at (xs := xs) (vs := vs) (ms := ms) (t := t) h (by simpa using e)
    exact ⟨a, m', by simpa using h1, by simpa using h2, h3⟩
  | .inr i :: xs, v :: vs, m :: ms, 0, j, h, e => by
    obtain ⟨⟨a, ea, w⟩, _⟩ := (show (∃ a, v = .ref a ∧ Own C.K C.cl O H a m) ∧ MutR C.K C.cl O H (xs.map isR) vs ms from h)
    exact ⟨a, m, by simp [ea], rfl, w⟩
  | .inr i :: xs, v :: vs, m :: ms, t + 1, j, h, e => by
    obtain ⟨a, m', h1, h2, h3⟩ := mutR_at (xs := xs) (vs := vs) (ms := ms) (t := t) (show (∃ a, v = .ref a ∧ Own C.K C.cl O H a m) ∧ MutR C.K C.cl O H (xs.map isR) vs ms from h).2 (by simpa using e)
    exact ⟨a, m', by simpa using h1, by simpa using h2, h3⟩
/-- the caller's store behind a call -/
theorem call_back {L O O' : List Addr} {σ : L2.St} {ρ : List Sl} {H H' : Hp} {xs : List (IV ⊕ Nat)} {ds ms : List IV} {vs : List V} (S : SRel C L O σ ρ H) (ha : argsD ρ xs = some ds) (r : RlA C σ O H vs xs) (hn : (idxX xs).Nodup)
    (fr : Fram H H' (mutA (xs.map isR) vs)) (mr : MutR C.K C.cl O' H' (xs.map isR) vs ms) (hO : ∀ a ∈ O, a ∈ O') (live : ∀ a ∈ O', a ∉ O → H' a ≠ none) (hR : ∀ ws es, RepAll C.K C.cl O H ws es → RepAll C.K C.cl O' H' ws es) : SRel C L O' σ (putM xs ms ρ) H' := by
  have own : ∀ {a : Addr}, a ∈ (mutA (xs.map isR) vs).filterMap id → ∃ (t j : Nat) (q : Sl) (d : IV), xs[t]? = some (.inr j) ∧ vs[t]? = some (.ref a) ∧ ρ[j]? = some q ∧ q.mut = some d ∧ σ[j]? = some (some (.ref a)) := fun {a} h => by
    obtain ⟨o, ho, e⟩ := List.mem_filterMap.mp h
    have e' : o = some a := e
    subst e'
    obtain ⟨t, j, g1, g2⟩ := mutA_mem (RlA.length r).symm ho
    obtain ⟨q, d, g3, g4, _⟩ := argsD_at ha g1
    obtain ⟨u, g5, g6⟩ := RlA.at r g1
    rw [g2] at g5
    cases g5
    exact ⟨t, j, q, d, g1, g2, g3, g4, g6⟩
  have back : ∀ a, a ∉ (mutA (xs.map isR) vs).filterMap id → some a ∉ mutA (xs.map isR) vs := fun a n z => n (List.mem_filterMap.mpr ⟨some a, z, rfl⟩)
  refine S.change (A := (mutA (xs.map isR) vs).filterMap id) hO (fun a h => ?_) (fun b o n e => fr b o e (back b n)) (fun a h => ?_) hR (putM_len xs ms ρ) (fun j q hq => ?_)
  · obtain ⟨t, j, q, d, g1, g2, g3, g4, g5⟩ := own h
    obtain ⟨b, eb, _, _, hm⟩ := S.mutAt g3 g4
    rw [g5] at eb
    cases eb
    exact hm
  · by_cases h1 : a ∈ O
    · by_cases h2 : a ∈ (mutA (xs.map isR) vs).filterMap id
      · obtain ⟨t, j, q, d, g1, g2, _⟩ := own h2
        obtain ⟨b, m, e1, e2, w⟩ := mutR_at mr g1
        rw [g2] at e1
        cases e1
        exact w.some_of
      · cases e : H a with
        | none => exact absurd e (S.live a h1)
        | some o => rw [fr a o e (back a h2)]; exact fun z => nomatch z
    · exact live a h h1
  · by_cases hj : j ∈ idxX xs
    · obtain ⟨t, ht⟩ := idx_mem hj
      obtain ⟨q', d, g3, g4, _⟩ := argsD_at ha ht
      rw [hq] at g3
      cases g3
      obtain ⟨u, g5, g6⟩ := RlA.at r ht
      obtain ⟨a, m, e1, e2, w⟩ := mutR_at mr ht
      rw [e1] at g5
      cases g5
      exact .inr ⟨m, a, putM_in xs ms ρ hn ht e2 hq, by rw [g4]; rfl, g6, w⟩
    · refine .inl ⟨by rw [putM_out xs ms ρ hj]; exact hq, fun a mu ea hA => ?_⟩
      obtain ⟨t, i, q', d, g1, g2, g3, g4, g5⟩ := own hA
      have hij : i ≠ j := fun z => hj (z ▸ mem_idx g1)
      exact S.apart i j q' q a hij g3 hq (by rw [g4]; rfl) mu g5 ea
end
end Mx


/-! Mx, part 4g: calls of the program's own defs. -/
namespace Mx
open PySem PySem.Spec PyProof.Rows L2
section
variable {T : Tab} {cs : CS} {k : Nat} {C : Ct} {W : WX} {N : List Str} {sc : Scope} {X : Cx}
theorem Post.bindE {α β γ δ : Type} {L O : List Addr} {σ : L2.St} {pr pr' : Bool} {H : Hp} {ρ : List Sl} {m : R α} {f : α → R γ} {Rl : Hp → β → α → Prop} {Rl' : Hp → δ → γ → Prop} {Q : δ → Hp → Prop} {Q1 : β → Hp → Prop} (h : Post C L O σ W pr' Rl' H (rBind m f ρ) Q)
    (k : ∀ a ρ1 v H1, m ρ = some (.ok a, ρ1) → Keep O H H1 → (pr = true → Same H H1) → SRel C L O σ ρ1 H1 → Rl H1 v a → Post C L O σ W pr' Rl' H (f a ρ1) Q → Q1 v H1) : Post C L O σ W pr Rl H (m ρ) Q1 := by
  unfold rBind at h
  match hm : m ρ, h with
  | none, h => exact h
  | some (.error x, ρ1), h => exact h
  | some (.ok a, ρ1), h => exact fun v H1 k1 s1 S q => k a ρ1 v H1 hm k1 s1 S q h
/-- own: the wish behind an expression that gives a new object -/
def PostO (C : Ct) (L O : List Addr) (σ : L2.St) (W : WX) (H : Hp) (r : Out IV) (Q : VK) : Prop := match r with
  | none => False
  | some (.ok d, ρ) => ∀ p H', H p = none → p ∉ O → C.H0 p = none → Keep O H H' → SRel C L O σ ρ H' → SRel C L (p :: O) σ ρ H' → Own C.K C.cl (p :: O) H' p d → Q (.ref p) H'
  | some (.error x, ρ) => ∀ c dd H', Keep O H H' → SRel C L O σ ρ H' → XRep C.K C.cl O H' c dd x → W c dd σ H'
def tEO (cs : CS) (C : Ct) (W : WX) (e : E) : TE := fun σ H Q => ∃ L O ρ, SRel C L O σ ρ H ∧ PostO C L O σ W H ((ev cs e).1 ρ) Q
theorem Keep.none {O : List Addr} {H H' : Hp} {p : Addr} (k : Keep O H H') (n : p ∉ O) (h : H' p = none) : H p = none := by
  cases e : H p with
  | none => rfl
  | some o => rw [k p o n e] at h; cases h
theorem As.kinds_pure : ∀ {as : As}, as.pure = true → ∀ b ∈ as.kinds, b = false
  | .nil, _, b, h => nomatch h
  | .v e r, h, b, hb => by
    have h' : (e.pure && r.pure) = true := h
    rw [Bool.and_eq_true] at h'
    rcases List.mem_cons.mp hb with z | z
    · exact z
    · exact As.kinds_pure h'.2 b z
  | .m i r, h, _, _ => nomatch h
theorem mutA_pure : ∀ {ms : List Bool} {vs : List V}, (∀ b ∈ ms, b = false) → ∀ a, some a ∉ mutA ms vs
  | [], vs, _, a => by unfold mutA; exact fun z => nomatch z
  | b :: ms, [], _, a => by cases b <;> (unfold mutA; exact fun z => nomatch z)
  | b :: ms, v :: vs, h, a => by
    have e : b = false := h b List.mem_cons_self
    subst e
    have : mutA (false :: ms) (v :: vs) = none :: mutA ms vs := by cases v <;> rfl
    rw [this]
    intro z
    rcases List.mem_cons.mp z with z | z
    · cases z
    · exact mutA_pure (fun b hb => h b (List.mem_cons_of_mem _ hb)) a z
theorem mutA_live {K : PySem.W.Frag} {cl : Nat → Option Addr} {O : List Addr} {H : Hp} : ∀ {ms : List Bool} {vs : List V} {ds : List IV} {a : Addr}, ArgR K cl O H ms vs ds → some a ∈ mutA ms vs → a ∈ O
  | [], [], [], a, _, z => nomatch z
  | false :: ms, v :: vs, d :: ds, a, h, z => by
    have : mutA (false :: ms) (v :: vs) = none :: mutA ms vs := by cases v <;> rfl
    rw [this] at z
    rcases List.mem_cons.mp z with z | z
    · cases z
    · exact mutA_live (show ArgR K cl O H ms vs ds from h.2) z
  | true :: ms, v :: vs, d :: ds, a, h, z => by
    obtain ⟨⟨b, rfl, hb, _⟩, h9⟩ := (show (∃ a, v = .ref a ∧ a ∈ O ∧ Own K cl O H a d) ∧ ArgR K cl O H ms vs ds from h)
    rcases List.mem_cons.mp z with z | z
    · cases z; exact hb
    · exact mutA_live (ms := ms) (vs := vs) (ds := ds) h9 z
theorem fram_keep {O : List Addr} {H H' : Hp} {M : List (Option Addr)} (f : Fram H H' M) (h : ∀ a, some a ∈ M → a ∈ O) : Keep O H H' := fun a o n e => f a o e fun z => n (h a z)
theorem RlA.len_kinds {σ : L2.St} {O : List Addr} {H : Hp} {vs : List V} {xs : List (IV ⊕ Nat)} {ms : List Bool} (r : RlA C σ O H vs xs) (h : xs.map isR = ms) : vs.length = ms.length := by
  rw [r.length, ← h, List.length_map]
theorem call_read (CK : C.K = X.K) {f : Nat} {fn : Fn} {as : As} (hk : as.kinds = fn.muts) (hl : fn.muts.length = fn.ps.length) (hn : as.idx.Nodup) {σ : L2.St} {H : Hp} {Q : VK} (h : tE cs C W (.call f as) σ H Q) :
    tAs cs C W as σ H fun vs H1 => spF cs X.K C.cl f fn vs H1 Q (fun c d H' => W c d σ H') := by
  obtain ⟨L, O, ρ, S, q⟩ := h
  refine ⟨L, O, ρ, S, Post.bindE q fun xs ρ1 vs H1 hm k1 s1 S1 r1 h1 => ?_⟩
  have h1 := Post.mono k1 s1 h1
  obtain ⟨e1, e2⟩ := evAs_shape as hm
  rw [hk] at e1
  rw [← e2] at hn
  rw [← CK]
  unfold rCall at h1
  match hd : argsD ρ1 xs, h1 with
  | some ds, h1 =>
    have ar : ArgR C.K C.cl O H1 fn.muts vs ds := by rw [← e1]; exact argR_of S1 hd r1
    have nd : ((mutA fn.muts vs).filterMap id).Nodup := by rw [← e1]; exact nodup_addr S1 hd r1 hn
    have hin : ∀ a, some a ∈ mutA fn.muts vs → a ∈ O := fun a z => mutA_live ar z
    refine ⟨O, ds, S1.live, by rw [r1.len_kinds e1, hl], ar, nd, ?_⟩
    have pu : as.pure = true → ∀ a, some a ∉ mutA fn.muts vs := fun z => mutA_pure (by rw [← hk]; exact As.kinds_pure z)
    have back : ∀ {H' : Hp} {ms : List IV}, Fram H1 H' (mutA fn.muts vs) → MutR C.K C.cl O H' fn.muts vs ms → SRel C L O σ (putM xs ms ρ1) H' := fun {H' ms} fr mr => by
      rw [← e1] at fr mr hin
      exact call_back S1 hd r1 hn fr mr (fun _ z => z) (fun a z n => absurd z n) fun ws es r => r.keep (fram_keep fr hin)
    have h1 : Post C L O σ W (E.call f as).pure (RlE C (E.call f as).isView O) H1 ((match cs f ds with | none => none | some (r, ms) => some (r, putM xs ms ρ1) : Out IV)) Q := h1
    match hc : cs f ds, h1 with
    | none, h1 => exact h1.elim
    | some (.ok d, ms), h1 =>
      show if fn.own = true then _ else _
      cases ho : fn.own with
      | true =>
        rw [if_pos rfl]
        intro p H' hp fr mr w
        have np : p ∉ O := fun z => S1.live p z hp
        have le : ∀ a, a ∈ O → a ∈ p :: O := fun a z => List.mem_cons_of_mem _ z
        have rp := Own.rep np (w.less le)
        exact h1 _ H' (fram_keep fr hin) (fun z => fun a o e => fr a o e (pu z a)) (back fr (mr.less le)) ⟨.inl rp, fun _ => rp⟩
      | false =>
        rw [if_neg Bool.false_ne_true]
        intro v H' fr mr rp
        exact h1 _ H' (fram_keep fr hin) (fun z => fun a o e => fr a o e (pu z a)) (back fr mr) ⟨.inl rp, fun _ => rp⟩
    | some (.error x, ms), h1 => exact fun c dd H' fr mr xr => h1 c dd H' (fram_keep fr hin) (back fr mr) xr
theorem call_readO (CK : C.K = X.K) {f : Nat} {fn : Fn} {as : As} (ho : fn.own = true) (hk : as.kinds = fn.muts) (hl : fn.muts.length = fn.ps.length) (hn : as.idx.Nodup) {σ : L2.St} {H : Hp} {Q : VK} (h : tEO cs C W (.call f as) σ H Q) :
    tAs cs C W as σ H fun vs H1 => spF cs X.K C.cl f fn vs H1 Q (fun c d H' => W c d σ H') := by
  obtain ⟨L, O, ρ, S, q⟩ := h
  have q : PostO C L O σ W H ((rBind (evAs cs as) fun xs => rCall cs f xs) ρ) Q := q
  refine ⟨L, O, ρ, S, ?_⟩
  unfold rBind at q
  match hm : evAs cs as ρ, q with
  | none, q => exact q
  | some (.error x, ρ1), q => exact q
  | some (.ok xs, ρ1), q =>
    intro vs H1 k1 s1 S1 r1
    obtain ⟨e1, e2⟩ := evAs_shape as hm
    rw [hk] at e1
    rw [← e2] at hn
    rw [← CK]
    have q : PostO C L O σ W H (rCall cs f xs ρ1) Q := q
    unfold rCall at q
    match hd : argsD ρ1 xs, q with
    | some ds, q =>
      have ar : ArgR C.K C.cl O H1 fn.muts vs ds := by rw [← e1]; exact argR_of S1 hd r1
      have nd : ((mutA fn.muts vs).filterMap id).Nodup := by rw [← e1]; exact nodup_addr S1 hd r1 hn
      have hin : ∀ a, some a ∈ mutA fn.muts vs → a ∈ O := fun a z => mutA_live ar z
      refine ⟨O, ds, S1.live, by rw [r1.len_kinds e1, hl], ar, nd, ?_⟩
      have back : ∀ {H' : Hp} {ms : List IV}, Fram H1 H' (mutA fn.muts vs) → MutR C.K C.cl O H' fn.muts vs ms → SRel C L O σ (putM xs ms ρ1) H' := fun {H' ms} fr mr => by
        rw [← e1] at fr mr hin
        exact call_back S1 hd r1 hn fr mr (fun _ z => z) (fun a z n => absurd z n) fun ws es r => r.keep (fram_keep fr hin)
      have q : PostO C L O σ W H ((match cs f ds with | none => none | some (r, ms) => some (r, putM xs ms ρ1) : Out IV)) Q := q
      match hc : cs f ds, q with
      | none, q => exact q.elim
      | some (.ok d, ms), q =>
        show if fn.own = true then _ else _
        rw [if_pos ho]
        intro p H' hp fr mr w
        have np : p ∉ O := fun z => S1.live p z hp
        have le : ∀ a, a ∈ O → a ∈ p :: O := fun a z => List.mem_cons_of_mem _ z
        have S2 : SRel C L (p :: O) σ (putM xs ms ρ1) H' := by
          have fr' := fr
          have mr' := mr
          have hin' := hin
          rw [← e1] at fr' mr' hin'
          refine call_back S1 hd r1 hn fr' mr' le (fun a z n => ?_) fun ws es r => (r.more hp).keep (fram_keep fr' fun a z => le a (hin' a z))
          rcases List.mem_cons.mp z with z | z
          · rw [z]; exact w.some_of
          · exact absurd z n
        exact q p H' (k1.none np hp) np (S1.fresh hp).1 (k1.trans (fram_keep fr hin)) (back fr (mr.less le)) S2 w
      | some (.error x, ms), q => exact fun c dd H' fr mr xr => q c dd H' (k1.trans (fram_keep fr hin)) (back fr mr) xr
theorem as_star : ∀ {as : As} {xs : List Expr} {sc : Scope} {T : Tab} {N : List Str}, mAs T N as sc xs = true → xs.all notStar = true
  | .nil, xs, sc, T, N, h => by
    unfold mAs at h
    cases xs with
    | nil => rfl
    | cons y ys => cases h
  | .v e r, [], sc, T, N, h => rfl
  | .v e r, y :: ys, sc, T, N, h => by
    unfold mAs at h
    simp only [Bool.and_eq_true] at h
    rw [List.all_cons, h.1.2, as_star h.1.1.2]
    rfl
  | .m i r, xs, sc, T, N, h => by
    unfold mAs at h
    split at h
    · rw [Bool.and_eq_true] at h
      rw [List.all_cons, as_star h.2]
      rfl
    · cases h
theorem c_call (X' : XOk T cs k C W N sc X) {f : Nat} {fn : Fn} {as : As} {xs : List Expr} {y : Str} {p q : Pos} (hT : T.fns f = some fn) (hy : y = fn.name) (hg : gloB sc y = true) (hk : as.kinds = fn.muts) (hn : as.idx.Nodup) (hl : fn.muts.length = fn.ps.length)
    (hd : (y == ("__debug__" : Str)) = false) (hs : xs.all notStar = true) (ha : PA X xs (tAs cs C W as)) (h0 : xs = [] → as = .nil) : PE X (.Call (.Name y p) xs [] q) (tE cs C W (.call f as)) := by
  obtain ⟨a, fd, hm, hkp, hb, _, F⟩ := X'.facts.fns f fn hT
  have g := X'.gl hg
  subst hy
  cases xs with
  | nil =>
    refine (pe_callR0 F X'.gd X'.room X'.tk g hm hkp hb hd).imp fun σ H Q h => ?_
    have z := call_read X'.CK hk hl hn h
    rw [h0 rfl] at z
    obtain ⟨L, O, ρ, S, z⟩ := z
    exact Post.ok z S trivial
  | cons e es => exact (pe_callR F X'.gd X'.room X'.tk g hm hkp hb ha hs hd).imp fun σ H Q h => call_read X'.CK hk hl hn h
theorem c_callO (X' : XOk T cs k C W N sc X) {f : Nat} {fn : Fn} {as : As} {xs : List Expr} {y : Str} {p q : Pos} (hT : T.fns f = some fn) (ho : fn.own = true) (hy : y = fn.name) (hg : gloB sc y = true) (hk : as.kinds = fn.muts) (hn : as.idx.Nodup) (hl : fn.muts.length = fn.ps.length)
    (hd : (y == ("__debug__" : Str)) = false) (hs : xs.all notStar = true) (ha : PA X xs (tAs cs C W as)) (h0 : xs = [] → as = .nil) : PE X (.Call (.Name y p) xs [] q) (tEO cs C W (.call f as)) := by
  obtain ⟨a, fd, hm, hkp, hb, _, F⟩ := X'.facts.fns f fn hT
  have g := X'.gl hg
  subst hy
  cases xs with
  | nil =>
    refine (pe_callR0 F X'.gd X'.room X'.tk g hm hkp hb hd).imp fun σ H Q h => ?_
    have z := call_readO X'.CK ho hk hl hn h
    rw [h0 rfl] at z
    obtain ⟨L, O, ρ, S, z⟩ := z
    exact Post.ok z S trivial
  | cons e es => exact (pe_callR F X'.gd X'.room X'.tk g hm hkp hb ha hs hd).imp fun σ H Q h => call_readO X'.CK ho hk hl hn h
theorem c_lstO {es : Es} {xs : List Expr} {p : Pos} (hn : es.noView = true) (h : PA X xs (tEs cs C W es)) : PE X (.List xs p) (tEO cs C W (.lst es)) := by
  refine (pe_lst h).imp fun σ H Q ⟨L, O, ρ, S, q⟩ => ?_
  have q : PostO C L O σ W H ((rBind (evEs cs es) fun xs => rLift (if xs.length ≤ SZ then some (.lst xs) else none)) ρ) Q := q
  refine ⟨L, O, ρ, S, ?_⟩
  unfold rBind at q
  match hm : evEs cs es ρ, q with
  | none, q => exact q
  | some (.error x, ρ1), q => exact q
  | some (.ok ds, ρ1), q =>
    intro vs H1 k1 s1 S1 r1
    have ra := r1.2 hn
    have q : PostO C L O σ W H (rLift (if ds.length ≤ SZ then some (.lst ds) else none) ρ1) Q := q
    unfold rLift at q
    by_cases hz : ds.length ≤ SZ
    · rw [if_pos hz] at q
      refine ⟨szl (by rw [ra.length]; exact hz), fun p hp => ?_⟩
      have sm := same_new (o := HO.lst vs) hp
      exact q p _ (k1.none (fun z => S1.live p z hp) hp) (fun z => S1.live p z hp) (S1.fresh hp).1 (k1.trans (.same sm)) (S1.same sm) (S1.addO hp sm (by rw [upd_same]; exact fun z => nomatch z)) (.lst upd_same ((ra.more hp).keep (.same sm)))
    · rw [if_neg hz] at q
      exact q.elim
end
end Mx


/-! Mx, part 4h: targets, what is walked. -/
namespace Mx
open PySem PySem.Spec PyProof.Rows L2
/-- the changing objects grew from O to O' by new ones, all else is kept -/
structure Grow (O : List Addr) (H : Hp) (O' : List Addr) (H' : Hp) : Prop where
  keep : Keep O H H'
  sub : ∀ a ∈ O, a ∈ O'
  new : ∀ a ∈ O', a ∈ O ∨ H a = none
theorem Grow.refl (O : List Addr) (H : Hp) : Grow O H O H := ⟨Keep.refl O H, fun _ h => h, fun _ h => .inl h⟩
theorem Grow.out {O O' : List Addr} {H H' : Hp} (g : Grow O H O' H') {a : Addr} (h : H a ≠ none) (n : a ∉ O) : a ∉ O' := fun z => (g.new a z).elim n h
theorem Grow.trans {O O1 O2 : List Addr} {H H1 H2 : Hp} (g : Grow O H O1 H1) (g' : Grow O1 H1 O2 H2) : Grow O H O2 H2 := by
  refine ⟨fun a o n e => g'.keep a o (g.out (by rw [e]; exact fun z => nomatch z) n) (g.keep a o n e), fun a h => g'.sub a (g.sub a h), fun a h => ?_⟩
  rcases g'.new a h with z | z
  · exact g.new a z
  · by_cases ha : a ∈ O
    · exact .inl ha
    · right
      cases e : H a with
      | none => rfl
      | some o => rw [g.keep a o ha e] at z; cases z
theorem Grow.ofKeep {O : List Addr} {H H' : Hp} (k : Keep O H H') : Grow O H O H' := ⟨k, fun _ h => h, fun _ h => .inl h⟩
theorem Rd.ne {H : Hp} {a : Addr} {u : HO} (h : Rd H a u) : H a ≠ none := Rd.some_of h
section
variable {K : PySem.W.Frag} {cl : Nat → Option Addr} {O O' : List Addr} {H H' : Hp}
theorem XD.grow {fs : List (Str × V)} (g : Grow O H O' H') : ∀ {dd : Option Addr}, XD O H fs dd → XD O' H' fs dd
  | none, h => h
  | some _, h => ⟨g.keep _ _ h.2 h.1, g.out (by rw [h.1]; exact fun z => nomatch z) h.2⟩
mutual
theorem Rep.grow (g : Grow O H O' H') : ∀ {v : V} {d : IV}, Rep K cl O H v d → Rep K cl O' H' v d
  | _, _, .non => .non
  | _, _, .bl b => .bl b
  | _, _, .int i => .int i
  | _, _, .str l => .str l
  | _, _, .tupH h n r => .tupH (Rd.keep g.keep n h) (g.out (Rd.some_of h) n) (RepAll.grow g r)
  | _, _, .tupK h r => .tupK h (RepAll.grow g r)
  | _, _, .lstH h n r => .lstH (Rd.keep g.keep n h) (g.out (Rd.some_of h) n) (RepAll.grow g r)
  | _, _, .lstK h r => .lstK h (RepAll.grow g r)
  | _, _, .dctH h n e r => .dctH (Rd.keep g.keep n h) (g.out (Rd.some_of h) n) e (RepAll.grow g r)
  | _, _, .insH h c n e r => .insH (g.keep _ _ n h) c (g.out (by rw [h]; exact fun z => nomatch z) n) e (RepAll.grow g r)
  | _, _, .exc h c n x e r => .exc (g.keep _ _ n h) c (g.out (by rw [h]; exact fun z => nomatch z) n) (XD.grow g x) e (RepAll.grow g r)
theorem RepAll.grow (g : Grow O H O' H') : ∀ {vs : List V} {ds : List IV}, RepAll K cl O H vs ds → RepAll K cl O' H' vs ds
  | _, _, .nil => .nil
  | _, _, .cons r rr => .cons (Rep.grow g r) (RepAll.grow g rr)
end
theorem Rep.lstW {v : V} {ds : List IV} (h : Rep K cl O H v (.lst ds)) : ∃ a vs, v = .ref a ∧ RepAll K cl O H vs ds ∧ ∀ O2 H2, Grow O H O2 H2 → SqL K H2 a vs := by
  cases h with
  | lstH h n r => exact ⟨_, _, rfl, r, fun O2 H2 g => .inl (Rd.keep g.keep n h)⟩
  | lstK h r => exact ⟨_, _, rfl, r, fun O2 H2 g => SqL.ofK h⟩
theorem Rep.tupW {v : V} {ds : List IV} (h : Rep K cl O H v (.tup ds)) : ∃ a vs, v = .ref a ∧ RepAll K cl O H vs ds ∧ ∀ O2 H2, Grow O H O2 H2 → SqT K H2 a vs := by
  cases h with
  | tupH h n r => exact ⟨_, _, rfl, r, fun O2 H2 g => .inl (Rd.keep g.keep n h)⟩
  | tupK h r => exact ⟨_, _, rfl, r, fun O2 H2 g => SqT.ofK h⟩
end
/-! ### targets -/
def gTgs : List Nat → TGs
  | [] => gNil
  | i :: is => gCons (gName i) (gTgs is)
def gTg (K : PySem.W.Frag) : List Nat → TG
  | [i] => gName i
  | is => gTup K is.length (gTgs is)
section
variable {T : Tab} {cs : CS} {k : Nat} {C : Ct} {W : WX} {N : List Str} {sc : Scope} {X : Cx}
theorem pgs_of (hn : X.N.Nodup) (st : Sto N sc X) : ∀ {is : List Nat} {xs : List Expr}, tgsB N sc is xs = true → PGs X xs (gTgs is) ∧ (assignEach xs X.env).length = is.length ∧ (assignEach xs X.env).findIdx? (·.1) = none
  | [], [], _ => ⟨pgs_nil, rfl, rfl⟩
  | i :: is, .Name x p :: xs, h => by
    have h' : (storeB N sc i x && tgsB N sc is xs) = true := h
    rw [Bool.and_eq_true] at h'
    obtain ⟨h1, h2, h3⟩ := st _ _ h'.1
    obtain ⟨r1, r2, r3⟩ := pgs_of hn st h'.2
    have e : assignEach (.Name x p :: xs) X.env = (false, assign (.Name x p) X.env) :: assignEach xs X.env := rfl
    refine ⟨pgs_cons (pg_name hn h1 h2 h3) r1 (by rw [e]; rfl), by rw [e, List.length_cons, r2]; rfl, ?_⟩
    rw [e, List.findIdx?_cons, r3]
    rfl
  | [], _ :: _, h => nomatch h
  | _ :: _, [], h => nomatch h
theorem pg_of (hn : X.N.Nodup) (hc : X.calm = true) (st : Sto N sc X) {tg : List Nat} {t : Expr} (h : tgB N sc tg t = true) : PG X t (gTg X.K tg) := by
  match tg, t, h with
  | [i], .Name x p, h =>
    obtain ⟨h1, h2, h3⟩ := st _ _ h
    exact pg_name hn h1 h2 h3
  | i :: j :: is, .Tuple xs kk p, h =>
    have h' : (tgsB N sc (i :: j :: is) xs && decide (2 ≤ (i :: j :: is).length)) = true := h
    rw [Bool.and_eq_true] at h'
    obtain ⟨r1, r2, r3⟩ := pgs_of hn st h'.1
    exact pg_tup hc r1 r2 r3
  | [i], .Tuple xs kk p, h =>
    have h' : (tgsB N sc [i] xs && decide (2 ≤ [i].length)) = true := h
    rw [Bool.and_eq_true, decide_eq_true_eq] at h'
    exact absurd h'.2 (fun z => by simp at z)
  | [], .Tuple xs kk p, h =>
    have h' : (tgsB N sc [] xs && decide (2 ≤ ([] : List Nat).length)) = true := h
    rw [Bool.and_eq_true, decide_eq_true_eq] at h'
    exact absurd h'.2 (by decide)
theorem set_out {α : Type} {l : List α} {i j : Nat} {x : α} (h : j ≠ i) : (l.set i x)[j]? = l[j]? := by
  rw [List.getElem?_set_ne (fun z => h z.symm)]
theorem tgs_read {L O : List Addr} {H : Hp} : ∀ {is : List Nat} {σ : L2.St} {ρ : List Sl} {vs : List V} {ds : List IV} {Q : L2.St → Hp → Prop}, SRel C L O σ ρ H → RepAll C.K C.cl O H vs ds → ds.length = is.length →
    (∀ σ', SRel C L O σ' (setTgs is ds ρ) H → (∀ j, j ∉ is → σ'[j]? = σ[j]?) → σ'.length = σ.length → Q σ' H) → gTgs is vs σ H Q
  | [], σ, ρ, _, _, Q, S, .nil, _, h => ⟨rfl, h σ S (fun _ _ => rfl) rfl⟩
  | i :: is, σ, ρ, _, _, Q, S, .cons (v := v) (vs := vs) (d := d) (ds := ds) r rr, hl, h => by
    refine ⟨v, vs, rfl, ?_⟩
    show gTgs is vs (σ.set i (some v)) H Q
    refine tgs_read (S.setI r i) rr (Nat.succ.inj hl) fun σ' S' hj hn => h σ' S' (fun j nj => ?_) (by rw [hn, List.length_set])
    rw [hj j fun z => nj (List.mem_cons_of_mem _ z), set_out (fun z : j = i => nj (z ▸ List.mem_cons_self))]
  | [], _, _, _, _, _, _, .cons _ _, hl, _ => nomatch hl
  | _ :: _, _, _, _, _, _, _, .nil, hl, _ => nomatch hl
theorem tg_read {L O : List Addr} {H : Hp} {tg : List Nat} {σ : L2.St} {ρ ρ' : List Sl} {v : V} {d : IV} {Q : L2.St → Hp → Prop} (S : SRel C L O σ ρ H) (r : Rep C.K C.cl O H v d) (e : rTg tg d ρ = some (.ok (), ρ'))
    (h : ∀ σ', SRel C L O σ' ρ' H → (∀ j, j ∉ tg → σ'[j]? = σ[j]?) → σ'.length = σ.length → Q σ' H) : gTg C.K tg v σ H Q := by
  have many : ∀ is : List Nat, tg = is → (∀ i, is ≠ [i]) → gTup C.K is.length (gTgs is) v σ H Q := fun is et hi => by
    subst et
    have e' : (match d with
      | .tup ds => if ds.length = tg.length then some ((.ok () : Except Xn Unit), setTgs tg ds ρ) else none
      | _ => none) = some (.ok (), ρ') := by
      rw [← e]
      unfold rTg
      match tg, hi with
      | [], _ => rfl
      | [i], hi => exact absurd rfl (hi i)
      | i :: j :: r, _ => rfl
    match d, r, e' with
    | .tup ds, r, e' =>
      have e' : (if ds.length = tg.length then some ((.ok () : Except Xn Unit), setTgs tg ds ρ) else none) = some (.ok (), ρ') := e'
      split at e'
      · rename_i hl
        cases e'
        obtain ⟨a, vs, rfl, hs, rr⟩ := r.tupI
        exact ⟨a, vs, rfl, hs, by rw [rr.length, hl], tgs_read S rr hl h⟩
      · cases e'
  match tg, e, h, many with
  | [i], e, h, _ =>
    cases e
    exact h _ (S.setI r i) (fun j nj => set_out fun z => nj (z ▸ List.mem_cons_self)) (List.length_set ..)
  | [], e, h, many => exact many [] rfl (fun i z => nomatch z)
  | i :: j :: is, e, h, many => exact many _ rfl (fun i z => nomatch z)
theorem rTg_ok {tg : List Nat} {d : IV} {ρ ρ' : List Sl} {x : Except Xn Unit} (h : rTg tg d ρ = some (x, ρ')) : x = .ok () := by
  unfold rTg at h
  split at h
  · cases h; rfl
  · split at h
    · split at h
      · cases h; rfl
      · cases h
    · cases h
/-! ### what is walked -/
/-- a walk that gives the data ds -/
def WalkD (C : Ct) (O : List Addr) (H : Hp) (J : L2.It) (ds : List IV) : Prop := ∃ G Y, Walk J ds.length G Y ∧ (∀ O2 H2, Grow O H O2 H2 → G H2) ∧
  ∀ (i : Nat) (O2 : List Addr) (H2 : Hp) (x : V) (H3 : Hp) (d : IV), Grow O H O2 H2 → (∀ a ∈ O2, H2 a ≠ none) → ds[i]? = some d → Y i H2 x H3 → Same H2 H3 ∧ Rep C.K C.cl O2 H3 x d
def tIt (cs : CS) (C : Ct) (W : WX) (it : It) : TI := tR C W it.pure (fun O H J ds => WalkD C O H J ds) (evIt cs it)
theorem _root_.L2.PI.imp {tg e : Expr} {t t' : TI} (h : PI X tg e t) (hi : ∀ σ H Q, t' σ H Q → t σ H Q) : PI X tg e t' := ⟨fun pins s σ H Q I q => h.run pins s σ H Q I (hi σ H Q q)⟩
theorem walkD_lst {O : List Addr} {H : Hp} {a : Addr} {vs : List V} {ds : List IV} (r : RepAll C.K C.cl O H vs ds) (hs : ∀ O2 H2, Grow O H O2 H2 → SqL C.K H2 a vs) : WalkD C O H (Itl C.K a) ds := by
  refine ⟨_, _, r.length ▸ walk_list (xs := vs), hs, fun i O2 H2 x H3 d g lv hd y => ?_⟩
  obtain ⟨rfl, hx⟩ := y
  obtain ⟨d', hd', rp⟩ := (r.grow g).getV hx
  rw [hd] at hd'
  cases hd'
  exact ⟨Same.refl _, rp⟩
theorem walkD_tup {O : List Addr} {H : Hp} {a : Addr} {vs : List V} {ds : List IV} (r : RepAll C.K C.cl O H vs ds) (hs : ∀ O2 H2, Grow O H O2 H2 → SqT C.K H2 a vs) : WalkD C O H (Itt C.K a) ds := by
  refine ⟨_, _, r.length ▸ walk_tup (xs := vs), hs, fun i O2 H2 x H3 d g lv hd y => ?_⟩
  obtain ⟨rfl, hx⟩ := y
  obtain ⟨d', hd', rp⟩ := (r.grow g).getV hx
  rw [hd] at hd'
  cases hd'
  exact ⟨Same.refl _, rp⟩
theorem walkD_str {O : List Addr} {H : Hp} {l : List Nat} : WalkD C O H (Its (sOf l)) (l.map fun c => .str [c]) := by
  have hn : (sOf l).cps.size = (l.map fun c => IV.str [c]).length := by rw [List.length_map]; simp [sOf]
  refine ⟨_, _, hn ▸ walk_str (z := sOf l), fun _ _ _ => trivial, fun i O2 H2 x H3 d g lv hd y => ?_⟩
  obtain ⟨rfl, c, hc, rfl⟩ := y
  have hc' : l[i]? = some c := by simpa [sOf] using hc
  rw [List.getElem?_map, hc'] at hd
  cases hd
  exact ⟨Same.refl _, .str [c]⟩
theorem walkD_rng {O : List Addr} {H : Hp} {lo : Int} {n : Nat} : WalkD C O H (Itr lo n) ((List.range n).map fun i => .int (lo + (i : Nat))) := by
  have hn : n = ((List.range n).map fun i => IV.int (lo + (i : Nat))).length := by rw [List.length_map, List.length_range]
  have w := walk_range (lo := lo) (n := n)
  have w : Walk (Itr lo n) ((List.range n).map fun i => IV.int (lo + (i : Nat))).length (fun _ => True) (YFn fun i => .int (lo + i)) := by rw [← hn]; exact w
  refine ⟨_, _, w, fun _ _ _ => trivial, fun i O2 H2 x H3 d g lv hd y => ?_⟩
  obtain ⟨rfl, rfl⟩ := y
  rw [List.getElem?_map] at hd
  cases hr : (List.range n)[i]? with
  | none => rw [hr] at hd; cases hd
  | some j =>
    rw [hr] at hd
    cases hd
    rw [List.getElem?_eq_some_iff] at hr
    obtain ⟨hi, e⟩ := hr
    rw [List.getElem_range] at e
    subst e
    exact ⟨Same.refl _, .int _⟩
theorem enumD_get {α : Type} {f : Nat → α → IV} : ∀ {l : List α} {n i : Nat}, (enumD f n l)[i]? = (l[i]?).map (f (n + i))
  | [], n, i => rfl
  | x :: r, n, 0 => rfl
  | x :: r, n, i + 1 => by
    show (enumD f (n + 1) r)[i]? = (r[i]?).map (f (n + (i + 1)))
    rw [enumD_get, show n + 1 + i = n + (i + 1) from by omega]
theorem enumD_len {α : Type} {f : Nat → α → IV} : ∀ {l : List α} {n : Nat}, (enumD f n l).length = l.length
  | [], n => rfl
  | x :: r, n => by show (enumD f (n + 1) r).length + 1 = _; rw [enumD_len]; rfl
theorem walkD_enum {O : List Addr} {H : Hp} {a : Addr} {vs : List V} {ds : List IV} (r : RepAll C.K C.cl O H vs ds) (hs : ∀ O2 H2, Grow O H O2 H2 → SqL C.K H2 a vs) : WalkD C O H (Ite C.K a) (enumD (fun n x => .tup [.int (n : Nat), x]) 0 ds) := by
  have hn : vs.length = (enumD (fun n x => IV.tup [.int (n : Nat), x]) 0 ds).length := by rw [enumD_len, r.length]
  refine ⟨_, _, hn ▸ walk_enum (xs := vs), hs, fun i O2 H2 x H3 d g lv hd y => ?_⟩
  obtain ⟨p, y1, y2, rfl, hp, rfl, e1, e2⟩ := y
  cases e1
  obtain ⟨d', hd', rp⟩ := (r.grow g).getV e2
  rw [enumD_get, hd'] at hd
  cases hd
  rw [Nat.zero_add]
  exact ⟨same_new hp, rep_newT lv hp (.cons (.int _) (.cons rp .nil))⟩
theorem it_one {e : E} {pr : Bool} {f : IV → Option (List IV)} {wi : TE → TI} (hv : e.isView = false) {σ : L2.St} {H : Hp} {R : L2.It → Hp → Prop} (h : tR C W e.pure (fun O H J ds => WalkD C O H J ds) (rBind (ev cs e).1 fun x => rLift (f x)) σ H R)
    {Q : VK} (hw : ∀ O H1 v d ds, Rep C.K C.cl O H1 v d → f d = some ds → (∀ J, WalkD C O H1 J ds → R J H1) → Q v H1) : tE cs C W e σ H Q := by
  obtain ⟨L, O, ρ, S, q⟩ := h
  refine ⟨L, O, ρ, S, q.bind fun d ρ1 v H1 k1 s1 S1 r1 h1 => ?_⟩
  unfold rLift at h1
  match hf : f d, h1 with
  | some ds, h1 => exact hw O H1 v d ds (r1.2 hv) hf fun J w => h1 J H1 k1 s1 S1 w
theorem i_lst (X' : XOk T cs k C W N sc X) {e : E} {t x : Expr} (hv : e.isView = false) (he : PE X x (tE cs C W e)) : PI X t x (tIt cs C W (.lst e)) := by
  refine (pi_list he).imp fun σ H R h => ?_
  refine it_one (pr := e.pure) (wi := iList X.K) hv h fun O H1 v d ds r hf hR => ?_
  match d, r, hf with
  | .lst xs, r, hf =>
    cases hf
    obtain ⟨a, vs, rfl, rr, hs⟩ := r.lstW
    rw [← X'.CK]
    exact ⟨a, rfl, ⟨vs, hs O H1 (Grow.refl O H1)⟩, hR _ (walkD_lst rr hs)⟩
theorem i_tup (X' : XOk T cs k C W N sc X) {e : E} {t x : Expr} (hv : e.isView = false) (he : PE X x (tE cs C W e)) : PI X t x (tIt cs C W (.tup e)) := by
  refine (pi_tup he).imp fun σ H R h => ?_
  refine it_one (pr := e.pure) (wi := iList X.K) hv h fun O H1 v d ds r hf hR => ?_
  match d, r, hf with
  | .tup xs, r, hf =>
    cases hf
    obtain ⟨a, vs, rfl, rr, hs⟩ := r.tupW
    rw [← X'.CK]
    exact ⟨a, rfl, ⟨vs, hs O H1 (Grow.refl O H1)⟩, hR _ (walkD_tup rr hs)⟩
theorem i_txt {e : E} {t x : Expr} (hv : e.isView = false) (he : PE X x (tE cs C W e)) : PI X t x (tIt cs C W (.txt e)) := by
  refine (pi_str he).imp fun σ H R h => ?_
  refine it_one (pr := e.pure) (wi := iList X.K) hv h fun O H1 v d ds r hf hR => ?_
  match d, r, hf with
  | .str l, r, hf =>
    cases hf
    cases r
    exact ⟨_, rfl, hR _ walkD_str⟩
theorem star1 {z : Expr} (h : notStar z = true) (env : Env) : starEach [z] env = [(false, eval z env)] := by rw [star_one h]; rfl
theorem i_rng (X' : XOk T cs k C W N sc X) {e : E} {t z : Expr} {y : Str} {p q : Pos} (hy : y = ("range" : Str)) (hg : gloB sc y = true) (hb : T.blt.contains y = true) (hz : notStar z = true) (hv : e.isView = false) (he : PE X z (tE cs C W e)) : PI X t (.Call (.Name y p) [z] [] q) (tIt cs C W (.rng e)) := by
  subst hy
  refine (pi_range1 (X'.gl hg) (X'.bl hb) (pa_cons he pa_nil (star1 hz _)) (star1 hz _)).imp fun σ H R h => ?_
  refine it_one (pr := e.pure) (wi := iList X.K) hv h fun O H1 v d ds r hf hR => ?_
  match d, r, hf with
  | .int n, r, hf =>
    cases r
    have hf : (if -(2 ^ 62) ≤ n ∧ n < 2 ^ 62 then some ((List.range n.toNat).map fun i => IV.int (i : Nat)) else none) = some ds := hf
    split at hf
    · rename_i hb
      cases hf
      refine ⟨n, rfl, hb.1, hb.2, hR _ ?_⟩
      have := walkD_rng (C := C) (O := O) (H := H1) (lo := 0) (n := n.toNat)
      simpa using this
    · cases hf
theorem i_enu (X' : XOk T cs k C W N sc X) {e : E} {z : Expr} {y : Str} {p q : Pos} {elts : List Expr} {kk : Nat} {tpos : Pos} (hy : y = ("enumerate" : Str)) (hg : gloB sc y = true) (hb : T.blt.contains y = true) (hz : notStar z = true) (hv : e.isView = false) (he : PE X z (tE cs C W e)) :
    PI X (.Tuple elts kk tpos) (.Call (.Name y p) [z] [] q) (tIt cs C W (.enu e)) := by
  subst hy
  refine (pi_enum (X'.gl hg) (X'.bl hb) (pa_cons he pa_nil (star1 hz _)) (star1 hz _)).imp fun σ H R h => ?_
  refine it_one (pr := e.pure) (wi := iList X.K) hv h fun O H1 v d ds r hf hR => ?_
  match d, r, hf with
  | .lst xs, r, hf =>
    cases hf
    obtain ⟨a, vs, rfl, rr, hs⟩ := r.lstW
    rw [← X'.CK]
    exact ⟨a, vs, rfl, hs O H1 (Grow.refl O H1), hR _ (walkD_enum rr hs)⟩
theorem i_rng2 (X' : XOk T cs k C W N sc X) {e e' : E} {t z w : Expr} {y : Str} {p q : Pos} (hy : y = ("range" : Str)) (hg : gloB sc y = true) (hb : T.blt.contains y = true) (hz : notStar z = true) (hz' : notStar w = true) (hv : e.isView = false) (hv' : e'.isView = false)
    (he : PE X z (tE cs C W e)) (he' : PE X w (tE cs C W e')) : PI X t (.Call (.Name y p) [z, w] [] q) (tIt cs C W (.rng2 e e')) := by
  subst hy
  have s2 : starEach [z, w] X.env = [(false, eval z X.env), (false, eval w X.env)] := by rw [star_one hz, star1 hz']
  refine (pi_range2 (X'.gl hg) (X'.bl hb) (pa_cons he (pa_cons he' pa_nil (star1 hz' _)) (star_one hz _ _)) s2 (star1 hz' _)).imp fun σ H R h => ?_
  obtain ⟨L, O, ρ, S, q⟩ := h
  refine ⟨L, O, ρ, S, q.bind fun d ρ1 v H1 k1 s1 S1 r1 h1 => ?_⟩
  refine ⟨L, O, ρ1, S1, (h1.mono k1 fun e => s1 (by simp [It.pure] at e; exact e.1)).bind fun d' ρ2 v' H2 k2 s2 S2 r2 h2 => ?_⟩
  have r1 := (r1.2 hv).keep k2
  have r2 := r2.2 hv'
  unfold rLift at h2
  match hf : seqR2 d d', h2 with
  | some ds, h2 =>
    match d, d', hf, r1, r2 with
    | .int m, .int n, hf, r1, r2 =>
      cases r1; cases r2
      have hf : (if -(2 ^ 62) ≤ m ∧ m < 2 ^ 62 ∧ -(2 ^ 62) ≤ n ∧ n < 2 ^ 62 then some ((List.range (n - m).toNat).map fun i => IV.int (m + (i : Nat))) else none) = some ds := hf
      split at hf
      · rename_i hb
        cases hf
        exact ⟨m, n, rfl, hb, h2 _ H2 k2 (fun e => s2 (by simp [It.pure] at e; exact e.2)) S2 walkD_rng⟩
      · cases hf
end
end Mx


/-! Mx, part 4i: comprehensions. -/
namespace Mx
open PySem PySem.Spec PyProof.Rows L2
section
variable {C : Ct} {L O : List Addr} {σ σ' : L2.St} {ρ ρ' : List Sl} {H : Hp} {D : Addr}
/-- slots forgotten or told anew, all but those of tg as they were -/
theorem SRel.swap (S : SRel C L O σ ρ H) {tg : List Nat} (hl : σ'.length = σ.length) (hr : ρ'.length = ρ.length) (h1 : ∀ j, j ∉ tg → σ'[j]? = σ[j]? ∧ ρ'[j]? = ρ[j]?) (h2 : ∀ j r, j ∈ tg → ρ'[j]? = some r → r = .e) : SRel C L O σ' ρ' H := by
  refine ⟨by rw [hl, hr, S.len], fun i s r e1 e2 => ?_, S.lsub, S.sub, S.msub, S.live, fun i j r q a hij e1 e2 m1 m2 e3 e4 => ?_, S.frame⟩
  · by_cases hi : i ∈ tg
    · rw [h2 i r hi e2]; trivial
    · obtain ⟨z1, z2⟩ := h1 i hi
      rw [z1] at e1; rw [z2] at e2
      exact S.slot i s r e1 e2
  · have hi : i ∉ tg := fun z => by rw [h2 i r z e1] at m1; cases m1
    have hj : j ∉ tg := fun z => by rw [h2 j q z e2] at m2; cases m2
    rw [(h1 i hi).2] at e1
    rw [(h1 i hi).1] at e3
    rw [(h1 j hj).2] at e2
    rw [(h1 j hj).1] at e4
    exact S.apart i j r q a hij e1 e2 m1 m2 e3 e4
theorem clear_len : ∀ {tg : List Nat} {ρ : List Sl}, (clear tg ρ).length = ρ.length
  | [], ρ => rfl
  | i :: is, ρ => by unfold clear; rw [clear_len, List.length_set]
theorem clear_out : ∀ {tg : List Nat} {ρ : List Sl} {j : Nat}, j ∉ tg → (clear tg ρ)[j]? = ρ[j]?
  | [], ρ, j, _ => rfl
  | i :: is, ρ, j, h => by
    unfold clear
    rw [clear_out fun z => h (List.mem_cons_of_mem _ z), set_out (fun z : j = i => h (z ▸ List.mem_cons_self))]
theorem clear_in : ∀ {tg : List Nat} {ρ : List Sl} {j : Nat}, j ∈ tg → j < ρ.length → (clear tg ρ)[j]? = some .e
  | i :: is, ρ, j, h, hl => by
    unfold clear
    by_cases hj : j ∈ is
    · exact clear_in hj (by rw [List.length_set]; exact hl)
    · have e : j = i := (List.mem_cons.mp h).resolve_right hj
      subst e
      rw [clear_out hj, List.getElem?_set_self hl]
theorem clear_e {tg : List Nat} {ρ : List Sl} {j : Nat} {r : Sl} (h : j ∈ tg) (e : (clear tg ρ)[j]? = some r) : r = .e := by
  have hl : j < ρ.length := by have := (List.getElem?_eq_some_iff.mp e).1; rw [clear_len] at this; exact this
  rw [clear_in h hl] at e
  cases e; rfl
theorem empty_at {tg : List Nat} {ρ : List Sl} (h : empty tg ρ = true) {j : Nat} (hj : j ∈ tg) : ρ[j]? = some .e := by
  unfold empty at h
  rw [List.all_eq_true] at h
  have z := h j hj
  split at z
  · assumption
  · cases z
theorem empty_clear {tg : List Nat} {ρ : List Sl} (h : ∀ j ∈ tg, j < ρ.length) : empty tg (clear tg ρ) = true := by
  unfold empty
  rw [List.all_eq_true]
  intro j hj
  rw [clear_in hj (h j hj)]
theorem light_at {tg : List Nat} {ρ : List Sl} (h : light tg ρ = true) {j : Nat} (hj : j ∈ tg) : ∃ r, ρ[j]? = some r ∧ r.light = true := by
  unfold light at h
  rw [List.all_eq_true] at h
  have z := h j hj
  split at z
  · rename_i r e; exact ⟨r, e, z⟩
  · cases z
theorem back_len : ∀ {tg : List Nat} {ρ ρ' : List Sl}, (back tg ρ ρ').length = ρ'.length
  | [], ρ, ρ' => rfl
  | i :: is, ρ, ρ' => by
    unfold back
    rw [back_len]
    split
    · rw [List.length_set]
    · rfl
theorem back_out : ∀ {tg : List Nat} {ρ ρ' : List Sl} {j : Nat}, j ∉ tg → (back tg ρ ρ')[j]? = ρ'[j]?
  | [], ρ, ρ', j, _ => rfl
  | i :: is, ρ, ρ', j, h => by
    unfold back
    rw [back_out fun z => h (List.mem_cons_of_mem _ z)]
    split
    · rw [set_out (fun z : j = i => h (z ▸ List.mem_cons_self))]
    · rfl
theorem back_in : ∀ {tg : List Nat} {ρ ρ' : List Sl} {j : Nat}, j ∈ tg → ρ.length = ρ'.length → (back tg ρ ρ')[j]? = ρ[j]?
  | i :: is, ρ, ρ', j, h, hl => by
    unfold back
    by_cases hj : j ∈ is
    · refine back_in hj ?_
      split
      · rw [List.length_set]; exact hl
      · exact hl
    · have e : j = i := (List.mem_cons.mp h).resolve_right hj
      subst e
      rw [back_out hj]
      cases hr : ρ[j]? with
      | none =>
        rw [List.getElem?_eq_none_iff] at hr
        exact List.getElem?_eq_none (by rw [← hl]; exact hr)
      | some r =>
        have := (List.getElem?_eq_some_iff.mp hr).1
        rw [List.getElem?_set_self (by rw [← hl]; exact this)]
/-- out of the comprehension -/
theorem SRel.back {σ : L2.St} {ρ ρ' : List Sl} {H' : Hp} {tg : List Nat} (S0 : SRel C L O σ ρ H) (S : SRel C L O (wipe σ tg) ρ' H') (hl : light tg ρ = true) (k : Keep O H H') : SRel C L O σ (back tg ρ ρ') H' := by
  have ln : ρ.length = ρ'.length := by rw [← S0.len, ← S.len, wipe_length]
  have nm : ∀ {j : Nat} {r : Sl}, (Mx.back tg ρ ρ')[j]? = some r → r.mut.isSome = true → j ∉ tg := fun {j r} e m hj => by
    rw [back_in hj ln] at e
    obtain ⟨r', e', z⟩ := light_at hl hj
    rw [e] at e'
    cases e'
    cases r with
    | e => cases m
    | i d => cases m
    | o d => cases z
    | b d => cases z
  refine ⟨by rw [back_len, ← ln, S0.len], fun i s r e1 e2 => ?_, S.lsub, S.sub, S.msub, S.live, fun i j r q a hij e1 e2 m1 m2 e3 e4 => ?_, S.frame⟩
  · by_cases hi : i ∈ tg
    · rw [back_in hi ln] at e2
      obtain ⟨r', e', z⟩ := light_at hl hi
      rw [e2] at e'
      cases e'
      have q := S0.slot i s r e1 e2
      cases r with
      | e => trivial
      | i d => obtain ⟨v, ev, rp⟩ := q; exact ⟨v, ev, rp.keep k⟩
      | o d => cases z
      | b d => cases z
    · rw [back_out hi] at e2
      rw [← wipe_out hi] at e1
      exact S.slot i s r e1 e2
  · have hi := nm e1 m1
    have hj := nm e2 m2
    rw [back_out hi] at e1
    rw [back_out hj] at e2
    rw [← wipe_out hi] at e3
    rw [← wipe_out hj] at e4
    exact S.apart i j r q a hij e1 e2 m1 m2 e3 e4
theorem wipe_in : ∀ {tg : List Nat} {σ : L2.St} {j : Nat}, j ∈ tg → j < σ.length → (wipe σ tg)[j]? = some none
  | i :: is, σ, j, h, hl => by
    unfold wipe
    by_cases hj : j = i
    · subst hj
      rw [List.getElem?_set_self (by rw [wipe_length]; exact hl)]
    · rw [set_out hj]
      exact wipe_in ((List.mem_cons.mp h).resolve_left hj) hl
theorem wipe_eq {tg : List Nat} (hl : σ'.length = σ.length) (h : ∀ j, j ∉ tg → σ'[j]? = (wipe σ tg)[j]?) : wipe σ' tg = wipe σ tg := by
  apply List.ext_getElem?
  intro j
  by_cases hj : j ∈ tg
  · by_cases hi : j < σ.length
    · rw [wipe_in hj hi, wipe_in hj (by rw [hl]; exact hi)]
    · rw [List.getElem?_eq_none (by rw [wipe_length, hl]; omega), List.getElem?_eq_none (by rw [wipe_length]; omega)]
  · rw [wipe_out hj, h j hj]
/-- the context in which the object at D stands as o -/
def Ct.with (C : Ct) (D : Addr) (o : HO) : Ct := { C with O0 := D :: C.O0, H0 := upd C.H0 D o }
theorem SRel.hold {o : HO} (S : SRel C L (D :: O) σ ρ H) (hL : ∀ a ∈ L, a ∈ O) (hD : D ∉ O) (h0 : C.H0 D = none) (e : H D = some o) : SRel (C.with D o) L (D :: O) σ ρ H := by
  refine ⟨S.len, fun i s r e1 e2 => ?_, S.lsub, fun a ha => ?_, fun i a ha => List.mem_cons_of_mem _ (S.msub i a ha), S.live, S.apart, fun a o' e1 e2 => ?_⟩
  · have z := S.slot i s r e1 e2
    cases r with
    | e => trivial
    | i d => exact z
    | b d => exact z
    | o d =>
      obtain ⟨a, ea, n1, n2, n3, w⟩ := z
      have na : a ≠ D := fun z => hD (z ▸ hL a n1)
      refine ⟨a, ea, n1, fun z => ?_, ?_, w⟩
      · rcases List.mem_cons.mp z with z | z
        · exact na z
        · exact n2 z
      · show upd C.H0 D o a = none
        rw [upd_ne na]; exact n3
  · rcases List.mem_cons.mp ha with z | z
    · rw [z]; exact List.mem_cons_self
    · exact S.sub a z
  · have e1 : upd C.H0 D o a = some o' := e1
    by_cases ha : a = D
    · subst ha
      rw [upd_same] at e1
      cases e1
      exact e
    · rw [upd_ne ha] at e1
      exact S.frame a o' e1 e2
theorem SRel.unhold {o : HO} (S : SRel (C.with D o) L (D :: O) σ ρ H) (h0 : C.H0 D = none) (hD : D ∉ O) (hs : ∀ a ∈ C.O0, a ∈ O) (ms : ∀ (i : Nat) (a : Addr), C.M[i]? = some (some a) → a ∈ C.O0) : SRel C L (D :: O) σ ρ H ∧ H D = some o := by
  refine ⟨⟨S.len, fun i s r e1 e2 => ?_, S.lsub, fun a ha => List.mem_cons_of_mem _ (hs a ha), ms, S.live, S.apart, fun a o' e1 e2 => ?_⟩, ?_⟩
  · have z := S.slot i s r e1 e2
    cases r with
    | e => trivial
    | i d => exact z
    | b d => exact z
    | o d =>
      obtain ⟨a, ea, n1, n2, n3, w⟩ := z
      have na : a ≠ D := fun z => n2 (z ▸ List.mem_cons_self)
      refine ⟨a, ea, n1, fun z => n2 (List.mem_cons_of_mem _ z), ?_, w⟩
      have n3 : upd C.H0 D o a = none := n3
      rw [upd_ne na] at n3; exact n3
  · have na : a ≠ D := fun z => by rw [z, h0] at e1; cases e1
    exact S.frame a o' (show upd C.H0 D o a = some o' by rw [upd_ne na]; exact e1) e2
  · refine S.frame D o (show upd C.H0 D o D = some o from upd_same) fun z => ?_
    obtain ⟨i, hi⟩ := List.getElem?_of_mem z
    exact hD (hs D (ms i D hi))
theorem SRel.poke (S : SRel C L (D :: O) σ ρ H) (hL : ∀ a ∈ L, a ∈ O) (hs : ∀ a ∈ C.O0, a ∈ O) (hD : D ∉ O) (h0 : C.H0 D = none) (o : HO) : SRel C L (D :: O) σ ρ (upd H D o) := by
  have k : Keep (D :: O) H (upd H D o) := fun a o' n e => by rw [upd_ne (fun z : a = D => n (z ▸ List.mem_cons_self))]; exact e
  refine S.change (A := [D]) (fun a ha => ha) (fun a ha => ?_) (fun b o' n e => by rw [upd_ne (fun z : b = D => n (z ▸ List.mem_cons_self))]; exact e) (fun a ha => ?_) (fun vs ds r => r.keep k) rfl (fun j r h => .inl ⟨h, fun a m ea z => ?_⟩)
  · have e : a = D := by simpa using ha
    rw [e]; exact .inr h0
  · by_cases e : a = D
    · rw [e, upd_same]; exact fun z => nomatch z
    · rw [upd_ne e]; exact S.live a ha
  · have e : a = D := by simpa using z
    subst e
    have q := S.slot j _ r ea h
    cases r with
    | e => cases m
    | i d => cases m
    | o d => obtain ⟨b, eb, n1, _⟩ := q; cases eb; exact hD (hL _ n1)
    | b d => obtain ⟨b, eb, n1, _⟩ := q; cases eb; exact hD (hs _ (S.msub _ _ n1))
end
abbrev W0 : WX := fun _ _ _ _ => False
section
variable {T : Tab} {cs : CS} {k : Nat} {C : Ct} {W : WX} {N : List Str} {sc : Scope} {X : Cx}
theorem XOk.with (X' : XOk T cs k C W N sc X) (D : Addr) (o : HO) : XOk T cs k (C.with D o) W N sc X :=
  ⟨X'.hN, X'.nd, X'.visx, X'.glox, X'.frex, X'.calm, X'.gd, X'.room, X'.tk, X'.po, X'.CK, X'.facts⟩
theorem lookup_rel {env : Env} : ∀ (names : List (Str × NameKind)) (x : Str), (names.map fun (n, k) => if (k == NameKind.free && env.scope.kind == .function && env.kindOf n == some .cell) then (n, NameKind.cell) else (n, k)).lookup x =
    (names.lookup x).map fun k => if (k == NameKind.free && env.scope.kind == .function && env.kindOf x == some .cell) then NameKind.cell else k
  | [], x => rfl
  | (n, k) :: r, x => by
    have ih := @lookup_rel env r x
    show List.lookup x ((if (k == NameKind.free && env.scope.kind == .function && env.kindOf n == some .cell) = true then (n, NameKind.cell) else (n, k)) :: _) = _
    cases hx : x == n with
    | true =>
      have e : x = n := eq_of_beq hx
      subst e
      by_cases hc : (k == NameKind.free && env.scope.kind == .function && env.kindOf x == some .cell) = true
      · rw [if_pos hc]; simp only [List.lookup_cons, hx, Option.map_some]; rw [if_pos hc]
      · rw [if_neg hc]; simp only [List.lookup_cons, hx, Option.map_some]; rw [if_neg hc]
    | false =>
      by_cases hc : (k == NameKind.free && env.scope.kind == .function && env.kindOf n == some .cell) = true
      · rw [if_pos hc]; simp only [List.lookup_cons, hx]; exact ih
      · rw [if_neg hc]; simp only [List.lookup_cons, hx]; exact ih
theorem rel_keep {scope : Scope} {env : Env} {x : Str} {k : NameKind} (h : scope.names.lookup x = some k) (hk : (k == NameKind.free) = false) : (relabel scope env).names.lookup x = some k := by
  have z := lookup_rel (env := env) scope.names x
  rw [h] at z
  simp only [hk, Bool.false_and, Option.map_some] at z
  exact z
theorem rel_free {scope : Scope} {env : Env} {x : Str} (h : scope.names.lookup x = some .free) : (relabel scope env).names.lookup x = some .cell ∨ (relabel scope env).names.lookup x = some .free := by
  have z := lookup_rel (env := env) scope.names x
  rw [h, Option.map_some] at z
  split at z
  · exact .inl z
  · exact .inr z
theorem XOk.blk (X' : XOk T cs k C W N sc X) (s : Shared) (H : Hp) (scope : Scope) (cl : List (Str × Addr)) (B : Addr) (fp : List Addr) : XOk T cs k C W0 N scope (X.blk s H scope (compEnvC scope cl B X.env) fp) := by
  refine ⟨X'.hN, X'.nd, fun x h => ?_, fun x h => rel_keep h rfl, fun x h => ?_, X'.calm, X'.gd, X'.room, takes0, PassesOwn.never, X'.CK, X'.facts⟩
  · unfold visB at h
    split at h
    · rename_i e; exact .inl (rel_keep e rfl)
    · rename_i e; exact .inr (.inl (rel_keep e rfl))
    · rename_i e; exact .inr (rel_free e)
    · cases h
  · rcases h with e | e
    · exact .inl (rel_keep e rfl)
    · exact rel_free e
theorem sto_blk (X' : XOk T cs k C W N sc X) (s : Shared) (H : Hp) (scope : Scope) (cl : List (Str × Addr)) (B : Addr) (fp : List Addr) : Sto N scope (X.blk s H scope (compEnvC scope cl B X.env) fp) := fun i x h => by
  unfold storeB at h
  rw [Bool.and_eq_true, decide_eq_true_eq] at h
  obtain ⟨h1, h2⟩ := h
  refine ⟨by rw [← X'.hN] at h1; exact h1, ?_⟩
  unfold locB at h2
  split at h2
  · rename_i e; exact ⟨.inl (rel_keep e rfl), .inr (rel_keep e rfl)⟩
  · rename_i e
    refine ⟨.inr (rel_keep e rfl), .inl ?_⟩
    show (scope.names.lookup x == some .cell) = true
    rw [e]; rfl
  · cases h2
def tC (cs : CS) (C : Ct) (W : WX) (c : OE) : TT := tR C W c.pure (fun _ _ b a => b = a) (evC cs c)
theorem own_ix {N : List Str} : ∀ {tg : List Nat}, tg.all (fun i => decide (i < N.length)) = true → (tg.filterMap fun i => N[i]?.map fun n => (n, i)).map (·.2) = tg
  | [], _ => rfl
  | i :: is, h => by
    rw [List.all_cons, Bool.and_eq_true, decide_eq_true_eq] at h
    rw [List.filterMap_cons, List.getElem?_eq_getElem h.1]
    show i :: _ = i :: is
    rw [own_ix h.2]
theorem rBind_ok {α β : Type} {m : R α} {f : α → R β} {ρ ρ2 : List Sl} {b : β} (h : rBind m f ρ = some (.ok b, ρ2)) : ∃ a ρ1, m ρ = some (.ok a, ρ1) ∧ f a ρ1 = some (.ok b, ρ2) := by
  unfold rBind at h
  match hm : m ρ, h with
  | some (.ok a, ρ1), h => exact ⟨a, ρ1, rfl, h⟩
  | some (.error x, ρ1), h => cases h
theorem lc_read {CK : C.K = X.K} {tg : List Nat} {it : It} {c : OE} {e : E} (hv : e.isView = false) {σ : L2.St} {H : Hp} {Q : VK} (h : tE cs C W (.comp tg it c e) σ H Q) :
    tLc (tIt cs C W it) (gTg X.K tg) (fun σ H Q => ∃ D o, tC cs (C.with D o) W0 c σ H Q) (fun σ H Q => ∃ D o, tE cs (C.with D o) W0 e σ H Q) tg σ H Q := by
  obtain ⟨L, O, ρ, S, q⟩ := h
  refine ⟨L, O, ρ, S, Post.bind q fun ds ρ1 J H1 k1 s1 S1 w h1 => ?_⟩
  have pp : (E.comp tg it c e).pure = true → it.pure = true ∧ c.pure = true ∧ e.pure = true := fun z => by
    have z : (it.pure && c.pure && e.pure) = true := z
    rw [Bool.and_eq_true, Bool.and_eq_true] at z
    exact ⟨z.1.1, z.1.2, z.2⟩
  have h1 := Post.mono k1 (fun z => s1 (pp z).1) h1
  intro D hD
  unfold rList at h1
  by_cases hc : light tg ρ1 = true ∧ ds.length ≤ SZ
  case neg => rw [if_neg hc] at h1; exact h1.elim
  rw [if_pos hc] at h1
  obtain ⟨hli, hz⟩ := hc
  have hr : ∃ ys ρ2, rComp tg (evC cs c) (ev cs e).1 ds (clear tg ρ1) = some (.ok ys, ρ2) := by
    match hm : rComp tg (evC cs c) (ev cs e).1 ds (clear tg ρ1), h1 with
    | some (.ok ys, ρ2), _ => exact ⟨ys, ρ2, rfl⟩
    | some (.error x, ρ2), h1 => exact h1.elim
    | none, h1 => exact h1.elim
  obtain ⟨ys, ρ2, hr⟩ := hr
  have h1 : Post C L O σ W (E.comp tg it c e).pure (RlE C false O) H1 (some (.ok (.lst ys), back tg ρ1 ρ2)) Q := by
    rw [hr] at h1
    exact h1
  obtain ⟨G, Y, wk, hG, hY⟩ := w
  obtain ⟨f0, f1, f2⟩ := S1.fresh hD
  have tl : ∀ j ∈ tg, j < σ.length := fun j hj => by
    obtain ⟨r, e', _⟩ := light_at hli hj
    rw [S1.len]; exact (List.getElem?_eq_some_iff.mp e').1
  have he : empty tg (clear tg ρ1) = true := empty_clear fun j hj => by rw [← S1.len]; exact tl j hj
  have gr : ∀ {H' : Hp}, Keep O H1 H' → Grow O H1 (D :: O) H' := fun {H'} kk => ⟨kk, fun a ha => List.mem_cons_of_mem _ ha, fun a ha => by
    rcases List.mem_cons.mp ha with z | z
    · rw [z]; exact .inr hD
    · exact .inl z⟩
  refine lc_it (g := gTg X.K tg) (tt := fun σ H Q => ∃ D o, tC cs (C.with D o) W0 c σ H Q) (te := fun σ H Q => ∃ D o, tE cs (C.with D o) W0 e σ H Q) (vs := tg) (σ := σ) (H1 := H1) (D := D) (Qd := fun H => Q (.ref D) H) wk (fun i H => ∃ (ρi : List Sl) (acc : List IV) (vs : List V) (zs : List IV), ys = acc ++ zs ∧ rComp tg (evC cs c) (ev cs e).1 (ds.drop i) ρi = some (.ok zs, ρ2) ∧ SRel C L (D :: O) (wipe σ tg) ρi H ∧ empty tg ρi = true ∧ H D = some (.lst vs) ∧
    RepAll C.K C.cl (D :: O) H vs acc ∧ Keep O H1 H ∧ ((E.comp tg it c e).pure = true → Same H1 H) ∧ acc.length ≤ i) ?_ ?_ ?_ ?_
  · refine ⟨clear tg ρ1, [], [], ys, rfl, hr, ?_, he, upd_same, .nil, .same (same_new hD), fun _ => same_new hD, Nat.zero_le _⟩
    have S2 := S1.addO hD (same_new (o := HO.lst []) hD) (by rw [upd_same]; exact fun z => nomatch z)
    exact S2.swap (tg := tg) (wipe_length _ _) clear_len (fun j hj => ⟨wipe_out hj, clear_out hj⟩) fun j r hj e => clear_e hj e
  · rintro i H2 _ ⟨ρi, acc, vs, zs, _, _, _, _, _, _, kk, _⟩
    exact hG O H2 (.ofKeep kk)
  · rintro i x H2 H3 hi ⟨ρi, acc, vs, zs, ey, hrc, Si, ei, hd, ra, kk, ks, hal⟩ y
    have hdi : ds[i]? = some ds[i] := List.getElem?_eq_getElem hi
    obtain ⟨sm, rx⟩ := hY i (D :: O) H2 x H3 ds[i] (gr kk) Si.live hdi y
    have edr : ds.drop i = ds[i] :: ds.drop (i + 1) := List.drop_eq_getElem_cons hi
    rw [edr] at hrc
    obtain ⟨u, ρa, hta, hrc⟩ := rBind_ok hrc
    obtain ⟨t, ρb, htb, hrc⟩ := rBind_ok hrc
    rw [← CK]
    refine tg_read (Si.same sm) rx hta fun σ2 S2 hj hl => ⟨wipe_eq (by rw [hl, wipe_length]) hj, ?_⟩
    have hD3 : H3 D = some (.lst vs) := sm D _ hd
    have lsub : ∀ a ∈ L, a ∈ O := S1.lsub
    refine ⟨D, .lst vs, L, D :: O, ρa, S2.hold lsub f1 f0 hD3, ?_⟩
    rw [htb]
    intro b H4 k4 s4 S4 eb
    subst eb
    obtain ⟨S4, hD4⟩ := S4.unhold f0 f1 S1.sub S1.msub
    have len2 : σ2.length = σ.length := by rw [hl, wipe_length]
    have wp : ∀ {ρx : List Sl} {Hx : Hp}, SRel C L (D :: O) σ2 ρx Hx → SRel C L (D :: O) (wipe σ tg) (clear tg ρx) Hx ∧ empty tg (clear tg ρx) = true := fun {ρx Hx} Sx => by
      refine ⟨Sx.swap (tg := tg) (by rw [wipe_length, len2]) clear_len (fun j nj => ⟨(hj j nj).symm, clear_out nj⟩) fun j r hj e => clear_e hj e, empty_clear fun j hj => ?_⟩
      rw [← Sx.len, len2]
      exact tl j hj
    have kD : ∀ {Ha Hb : Hp}, Keep O H1 Ha → Keep (D :: O) Ha Hb → Keep O H1 Hb := fun {Ha Hb} ka kb a o n ea => kb a o (fun z => by
      rcases List.mem_cons.mp z with z | z
      · rw [z, hD] at ea; cases ea
      · exact n z) (ka a o n ea)
    have k3 : Keep O H1 H3 := fun a o n ea => sm a o (kk a o n ea)
    cases b with
    | false =>
      rw [if_neg Bool.false_ne_true] at hrc ⊢
      obtain ⟨_, ρc, hcl, hrc⟩ := rBind_ok hrc
      cases hcl
      obtain ⟨W1, W2⟩ := wp S4
      exact ⟨_, acc, vs, zs, ey, hrc, W1, W2, hD4, (ra.keep (.same sm)).keep k4, kD k3 k4, fun z => ((ks z).trans sm).trans (s4 (pp z).2.1), Nat.le_succ_of_le hal⟩
    | true =>
      rw [if_pos rfl] at hrc ⊢
      obtain ⟨y', ρc, hye, hrc⟩ := rBind_ok hrc
      obtain ⟨_, ρd, hcl, hrc⟩ := rBind_ok hrc
      cases hcl
      obtain ⟨zs', ρe, hrz, hrc⟩ := rBind_ok hrc
      cases hrc
      refine ⟨D, .lst vs, L, D :: O, ρb, S4.hold lsub f1 f0 hD4, ?_⟩
      rw [hye]
      intro yv H5 k5 s5 S5 ry
      obtain ⟨S5, hD5⟩ := S5.unhold f0 f1 S1.sub S1.msub
      refine ⟨vs, hD5, ?_, ?_⟩
      · rw [ra.length, sizeLine_eq]
        exact Nat.lt_of_le_of_lt hal (Nat.lt_of_lt_of_le hi hz)
      · obtain ⟨W1, W2⟩ := wp (S5.poke lsub S1.sub f1 f0 (.lst (vs ++ [yv])))
        have kp : Keep (D :: O) H5 (upd H5 D (.lst (vs ++ [yv]))) := fun a o n e => by rw [upd_ne (fun z : a = D => n (z ▸ List.mem_cons_self))]; exact e
        have rr : RepAll C.K C.cl (D :: O) H5 (vs ++ [yv]) (acc ++ [y']) := (((ra.keep (.same sm)).keep k4).keep k5).append (.cons (ry.2 hv) .nil)
        refine ⟨_, acc ++ [y'], vs ++ [yv], zs', by rw [ey, List.append_assoc]; rfl, hrz, W1, W2, upd_same, rr.keep kp, kD (kD (kD k3 k4) k5) kp, fun z => ?_, by rw [List.length_append]; exact Nat.succ_le_succ hal⟩
        have sx := (((ks z).trans sm).trans (s4 (pp z).2.1)).trans (s5 (pp z).2.2)
        intro a o ea
        rw [upd_ne (fun z => by rw [z, hD] at ea; cases ea)]
        exact sx a o ea
  · rintro H2 ⟨ρi, acc, vs, zs, ey, hrc, Si, ei, hd, ra, kk, ks, hal⟩
    rw [List.drop_length] at hrc
    cases hrc
    rw [List.append_nil] at ey
    subst ey
    have S2 := Si.dropO S1.lsub S1.sub
    have S3 : SRel C L O σ (back tg ρ1 ρ2) H2 := S1.back S2 hli kk
    have rp : Rep C.K C.cl O H2 (.ref D) (.lst ys) := .lstH (.inl hd) f1 (ra.less fun a ha => List.mem_cons_of_mem _ ha)
    exact h1 _ H2 kk ks S3 ⟨.inl rp, fun _ => rp⟩
theorem noSet_ok {iter : Expr} (h : noSet iter = true) (env : Env) (x : Value) : foldedSetIterable iter env x = pure x := by
  cases iter <;> first | rfl | cases h
theorem c_comp (X' : XOk T cs k C W N sc X) {tg : List Nat} {it : It} {c : OE} {e : E} {t iter elt : Expr} {ifs : List Expr} {scope : Scope} {pos : Pos} (hi : PI X t iter (tIt cs C W it)) (hs : noSet iter = true)
    (hb : blkC N sc scope (tg.filterMap fun i => N[i]?.map fun n => (n, i)) = true) (ht : tgB N scope tg t = true) (hc : ∀ C' X'', XOk T cs k C' W0 N scope X'' → PTs X'' ifs (tC cs C' W0 c)) (he : ∀ C' X'', XOk T cs k C' W0 N scope X'' → PE X'' elt (tE cs C' W0 e))
    (hv : e.isView = false) (hl : tg.all (fun i => decide (i < N.length)) = true) : PE X (.ListComp elt [⟨t, iter, ifs, 0⟩] scope pos) (tE cs C W (.comp tg it c e)) := by
  have ok := blkOk_by hb
  have ok : BlkOk X.N X.env.scope scope (tg.filterMap fun i => N[i]?.map fun n => (n, i)) := by
    rw [X'.hN]
    exact ⟨ok.kind, ok.uniq, ok.ix, fun y hy e => X'.frex _ (ok.free y hy e), ok.own⟩
  have z := pe_lc (X := X) (elt := elt) (tg := t) (ifs := ifs) (pos := pos) (te := fun σ H Q => ∃ D o, tE cs (C.with D o) W0 e σ H Q) (tt := fun σ H Q => ∃ D o, tC cs (C.with D o) W0 c σ H Q) (g := gTg X.K tg) X'.calm (by rw [X'.hN]; exact X'.nd) hi ok (fun s H B cl fp => pg_of (X := X.blk s H scope (compEnvC scope cl B X.env) fp) (show X.N.Nodup by rw [X'.hN]; exact X'.nd) X'.calm (sto_blk X' s H scope cl B fp) ht)
    (fun s H B cl fp => ⟨fun pins s' σ H' Q I ⟨D, o, q⟩ => (hc _ _ ((X'.blk s H scope cl B fp).with D o)).run pins s' σ H' Q I q⟩)
    (fun s H B cl fp => ⟨fun pins s' σ H' Q I ⟨D, o, q⟩ => (he _ _ ((X'.blk s H scope cl B fp).with D o)).run pins s' σ H' Q I q⟩) (fun x => noSet_ok hs _ x)
  rw [own_ix hl] at z
  exact z.imp fun σ H Q h => lc_read (CK := X'.CK) hv h
end
end Mx


/-! Mx, part 4j: calls by keyword, dicts. -/
namespace Mx
open PySem PySem.Spec PyProof.Rows L2
section
variable {T : Tab} {cs : CS} {k : Nat} {C : Ct} {W : WX} {N : List Str} {sc : Scope} {X : Cx}
def Es.len : Es → Nat
  | .nil => 0
  | .cons _ r => r.len + 1
theorem mEs_len : ∀ {es : Es} {xs : List Expr}, mEs T N es sc xs = true → xs.length = es.len
  | .nil, xs, h => by
    unfold mEs at h
    cases xs with
    | nil => rfl
    | cons y ys => cases h
  | .cons e r, [], h => by unfold mEs at h; cases h
  | .cons e r, y :: ys, h => by
    unfold mEs at h
    simp only [Bool.and_eq_true] at h
    show ys.length + 1 = r.len + 1
    rw [mEs_len h.1.1.2]
theorem evEs_len : ∀ {es : Es} {ρ ρ' : List Sl} {ds : List IV}, evEs cs es ρ = some (.ok ds, ρ') → ds.length = es.len
  | .nil, ρ, ρ', ds, h => by unfold evEs at h; cases h; rfl
  | .cons e r, ρ, ρ', ds, h => by
    unfold evEs at h
    obtain ⟨x, ρ1, _, h⟩ := bind_okC h
    obtain ⟨xs, ρ2, h2, h⟩ := bind_okC h
    cases h
    show xs.length + 1 = r.len + 1
    rw [evEs_len h2]
theorem pick_rep {O : List Addr} {H : Hp} {vs : List V} {ds : List IV} (r : RepAll C.K C.cl O H vs ds) : ∀ {is : List Nat} {es : List IV}, pick ds is = some es → ∃ rs, pick vs is = some rs ∧ RepAll C.K C.cl O H rs es
  | [], es, h => by cases h; exact ⟨[], rfl, .nil⟩
  | i :: is, es, h => by
    unfold pick at h ⊢
    cases h1 : ds[i]? with
    | none => rw [h1] at h; cases h
    | some d =>
      cases h2 : pick ds is with
      | none => rw [h1, h2] at h; cases h
      | some e2 =>
        rw [h1, h2] at h
        cases h
        obtain ⟨v, hv, rv⟩ := r.get h1
        obtain ⟨rs, hr, rr⟩ := pick_rep r h2
        exact ⟨v :: rs, by rw [hv, hr], .cons rv rr⟩
theorem pick_len {α : Type} {ds : List α} : ∀ {is : List Nat} {es : List α}, pick ds is = some es → es.length = is.length
  | [], es, h => by cases h; rfl
  | i :: is, es, h => by
    unfold pick at h
    cases h1 : ds[i]? with
    | none => rw [h1] at h; cases h
    | some d =>
      cases h2 : pick ds is with
      | none => rw [h1, h2] at h; cases h
      | some e2 =>
        rw [h1, h2] at h
        cases h
        show e2.length + 1 = is.length + 1
        rw [pick_len h2]
theorem argR_all {O : List Addr} {H : Hp} : ∀ {ms : List Bool} {vs : List V} {ds : List IV}, (∀ b ∈ ms, b = false) → ms.length = ds.length → RepAll C.K C.cl O H vs ds → ArgR C.K C.cl O H ms vs ds
  | [], _, _, _, _, .nil => trivial
  | b :: ms, _, _, h, hl, .cons r rr => by
    have e : b = false := h b List.mem_cons_self
    subst e
    exact ⟨r, argR_all (fun b hb => h b (List.mem_cons_of_mem _ hb)) (Nat.succ.inj hl) rr⟩
  | [], _, _, _, hl, .cons _ _ => nomatch hl
  | _ :: _, _, _, _, hl, .nil => nomatch hl
theorem filter_none : ∀ {l : List (Option Addr)}, (∀ a, some a ∉ l) → l.filterMap id = []
  | [], _ => rfl
  | none :: l, h => filter_none (l := l) fun a z => h a (List.mem_cons_of_mem _ z)
  | some a :: l, h => absurd List.mem_cons_self (h a)
theorem callK_read (CK : C.K = X.K) {f : Nat} {fn : Fn} {as bs : Es} {ks : List Str} {perm : List Nat} {n : Nat} (ha : as.noView = true) (hb : bs.noView = true) (hm : ∀ b ∈ fn.muts, b = false) (hl : fn.muts.length = fn.ps.length) (hp : perm.length = fn.ps.length) (hn : as.len = n) (hk : bs.len = ks.length)
    {σ : L2.St} {H : Hp} {Q : VK} (h : tE cs C W (.callK f as bs ks perm) σ H Q) :
    tEs cs C W as σ H fun vs H1 => vs.length = n ∧ tEs cs C W bs σ H1 fun zs H2 => zs.length = ks.length ∧ ∃ rs, pick (vs ++ zs) perm = some rs ∧ spF cs X.K C.cl f fn rs H2 Q (fun c d H' => W c d σ H') := by
  obtain ⟨L, O, ρ, S, q⟩ := h
  have pp : (E.callK f as bs ks perm).pure = true → as.pure = true ∧ bs.pure = true := fun z => by
    have z : (as.pure && bs.pure) = true := z
    rwa [Bool.and_eq_true] at z
  refine ⟨L, O, ρ, S, Post.bindE q fun ds ρ1 vs H1 hm1 k1 s1 S1 r1 h1 => ?_⟩
  have r1 := r1.2 ha
  refine ⟨by rw [r1.length, evEs_len hm1, hn], L, O, ρ1, S1, Post.bindE (Post.mono k1 (fun z => s1 (pp z).1) h1) fun es ρ2 zs H2 hm2 k2 s2 S2 r2 h2 => ?_⟩
  have h2 := Post.mono k2 (fun z => s2 (pp z).2) h2
  have r2 := r2.2 hb
  refine ⟨by rw [r2.length, evEs_len hm2, hk], ?_⟩
  unfold rCallK at h2
  match hd : pick (ds ++ es) perm, h2 with
  | some ws, h2 =>
    obtain ⟨rs, hrs, rr⟩ := pick_rep ((r1.keep k2).append r2) hd
    refine ⟨rs, hrs, ?_⟩
    have wl := pick_len hd
    have no := mutA_pure (vs := rs) hm
    rw [← CK]
    refine ⟨O, ws, S2.live, by rw [rr.length, wl, hp], argR_all hm (by rw [hl, wl, hp]) rr, by rw [filter_none no]; exact List.nodup_nil, ?_⟩
    have sm : ∀ {H' : Hp}, Fram H2 H' (mutA fn.muts rs) → Same H2 H' := fun fr a o e => fr a o e (no a)
    have h2 : Post C L O σ W (E.callK f as bs ks perm).pure (RlE C (E.callK f as bs ks perm).isView O) H2 ((match cs f ws with | none => none | some (r, _) => some (r, ρ2) : Out IV)) Q := h2
    match hc : cs f ws, h2 with
    | none, h2 => exact h2.elim
    | some (.ok d, ms), h2 =>
      show if fn.own = true then _ else _
      cases ho : fn.own with
      | true =>
        rw [if_pos rfl]
        intro p H' hp' fr mr w
        have np : p ∉ O := fun z => S2.live p z hp'
        have rp := Own.rep np (w.less fun a z => List.mem_cons_of_mem _ z)
        exact h2 _ H' (.same (sm fr)) (fun _ => sm fr) (S2.same (sm fr)) ⟨.inl rp, fun _ => rp⟩
      | false =>
        rw [if_neg Bool.false_ne_true]
        intro v H' fr mr rp
        exact h2 _ H' (.same (sm fr)) (fun _ => sm fr) (S2.same (sm fr)) ⟨.inl rp, fun _ => rp⟩
    | some (.error x, ms), h2 => exact fun c dd H' fr mr xr => h2 c dd H' (.same (sm fr)) (S2.same (sm fr)) xr
theorem kw_all : ∀ {ks : List Str} {kws : List Keyword} {env : Env} (pos : Pos), kwB ks kws = true → (backToKw pos (keywordEach kws env)).all (·.1.isSome) = true ∧ (backToKw pos (keywordEach kws env)).filterMap (·.1) = ks ∧ (backToKw pos (keywordEach kws env)).any (·.1.isNone) = false
  | [], [], env, pos, _ => ⟨rfl, rfl, rfl⟩
  | k :: ks, ⟨some a, v, p⟩ :: r, env, pos, h => by
    have h' : (decide (k = a) && kwB ks r) = true := h
    rw [Bool.and_eq_true, decide_eq_true_eq] at h'
    obtain ⟨h1, h2, h3⟩ := kw_all (env := env) pos h'.2
    obtain ⟨rfl, _⟩ := h'
    refine ⟨?_, ?_, ?_⟩
    · show (true && (backToKw pos (keywordEach r env)).all (·.1.isSome)) = true
      rw [h1]; rfl
    · show k :: (backToKw pos (keywordEach r env)).filterMap (·.1) = k :: ks
      rw [h2]
    · show (false || (backToKw pos (keywordEach r env)).any (·.1.isNone)) = false
      rw [h3]; rfl
  | [], _ :: _, _, _, h => nomatch h
  | _ :: _, [], _, _, h => nomatch h
  | _ :: _, ⟨none, _, _⟩ :: _, _, _, h => nomatch h
theorem kw_len : ∀ {ks : List Str} {kws : List Keyword}, kwB ks kws = true → (kwVals kws).length = ks.length
  | [], [], _ => rfl
  | k :: ks, ⟨some a, v, p⟩ :: r, h => by
    have h' : (decide (k = a) && kwB ks r) = true := h
    rw [Bool.and_eq_true] at h'
    show (kwVals r).length + 1 = ks.length + 1
    rw [kw_len h'.2]
  | [], _ :: _, h => nomatch h
  | _ :: _, [], h => nomatch h
  | _ :: _, ⟨none, _, _⟩ :: _, h => nomatch h
theorem _root_.L2.PK.imp {e : List Keyword} {t t' : TA} (h : PK X e t) (hi : ∀ σ H Q, t' σ H Q → t σ H Q) : PK X e t' := ⟨fun pos pins s σ H Q I q => h.run pos pins s σ H Q I (hi σ H Q q)⟩
theorem c_knil : PK X [] (tEs cs C W .nil) := pk_nil.imp fun σ H Q ⟨L, O, ρ, S, q⟩ => Post.ok q S ⟨trivial, fun _ => .nil⟩
theorem c_kcons {e : E} {r : Es} {nm : Option Str} {y : Expr} {kp : Pos} {kws : List Keyword} (hv : e.isView = true → r.pure = true) (he : PE X y (tE cs C W e)) (hr : PK X kws (tEs cs C W r)) : PK X (⟨nm, y, kp⟩ :: kws) (tEs cs C W (.cons e r)) :=
  (pk_cons he hr).imp fun σ H Q h => cons_read hv h
theorem tEs_nil {σ : L2.St} {H : Hp} {Q : List V → Hp → Prop} (h : tEs cs C W .nil σ H Q) : tNil σ H Q := by
  obtain ⟨L, O, ρ, S, q⟩ := h
  exact Post.ok q S ⟨trivial, fun _ => .nil⟩
theorem c_callK (X' : XOk T cs k C W N sc X) {f : Nat} {fn : Fn} {as bs : Es} {ks : List Str} {perm : List Nat} {xs : List Expr} {kws : List Keyword} {y : Str} {p q : Pos} (hT : T.fns f = some fn) (hy : y = fn.name) (hg : gloB sc y = true) (hkw : kwB ks kws = true) (hma : mEs T N as sc xs = true) (hmb : mEs T N bs sc (kwVals kws) = true)
    (ha : as.noView = true) (hb : bs.noView = true) (hm : fn.muts.all (fun b => !b) = true) (hl : fn.muts.length = fn.ps.length) (hin : (xs.length, ks, perm) ∈ fn.kws) (hp : perm.length = fn.ps.length) (hd : (y == ("__debug__" : Str)) = false)
    (pa : PA X xs (tEs cs C W as)) (pk : PK X kws (tEs cs C W bs)) : PE X (.Call (.Name y p) xs kws q) (tE cs C W (.callK f as bs ks perm)) := by
  obtain ⟨a, fd, hm', hkp, _, hkw', F⟩ := X'.facts.fns f fn hT
  have g := X'.gl hg
  subst hy
  obtain ⟨k1, k2, k3⟩ := kw_all (env := X.env) q hkw
  have hmu : ∀ b ∈ fn.muts, b = false := fun b hb => by
    rw [List.all_eq_true] at hm
    have z := hm b hb
    simpa using z
  have rd : ∀ {σ H Q}, tE cs C W (.callK f as bs ks perm) σ H Q → _ := fun {σ H Q} h => callK_read (X := X) X'.CK ha hb hmu hl hp (mEs_len hma).symm (by rw [← mEs_len hmb, kw_len hkw]) h
  cases xs with
  | nil =>
    have e : as = .nil := by
      cases as with
      | nil => rfl
      | cons e r => unfold mEs at hma; cases hma
    subst e
    refine (pe_callRK (n := 0) (t := tNil) F X'.gd X'.room X'.tk g hm' hkp (hkw' _ hin) rfl pa_nil pk rfl hd k1 k2 k3 (fun _ => rfl)).imp fun σ H Q h => ?_
    exact tEs_nil (rd h)
  | cons x xs => exact (pe_callRK (n := (x :: xs).length) F X'.gd X'.room X'.tk g hm' hkp (hkw' _ hin) rfl pa pk (all_star hma) hd k1 k2 k3 (fun z => nomatch z)).imp fun σ H Q h => rd h
/-! ### a dict -/
def tKey (kk : Key) : TE := fun _ H Q => Q (kV kk) H
def trsOf (cs : CS) (C : Ct) (W : WX) : List Key → Es → List (TE × TE)
  | kk :: ks, .cons e r => (tKey kk, fun σ H Q => ∃ D o, tE cs (C.with D o) W e σ H Q) :: trsOf cs C W ks r
  | _, _ => []
theorem pairs_read {D : Addr} {o : HO} {L O : List Addr} {σ : L2.St} : ∀ {es : Es} {ks : List Key} {ρ : List Sl} {H : Hp} {pr : Bool} {Q : List (V × V) → Hp → Prop}, es.noView = true → ks.length = es.len → (pr = true → es.pure = true) → SRel (C.with D o) L O σ ρ H →
    Post (C.with D o) L O σ W pr (RlEs (C.with D o) true O) H (evEs cs es ρ) (fun vs H' => Q ((ks.map kV).zip vs) H') → tPairs (trsOf cs C W ks es) σ H Q
  | .nil, [], ρ, H, pr, Q, _, _, _, S, q => by
    have q : Post (C.with D o) L O σ W pr (RlEs (C.with D o) true O) H (some (.ok [], ρ)) (fun vs H' => Q ((([] : List Key).map kV).zip vs) H') := q
    have z := Post.ok (v := ([] : List V)) q S ⟨trivial, fun _ => .nil⟩
    exact z
  | .cons e r, kk :: ks, ρ, H, pr, Q, hv, hl, hp, S, q => by
    have hv' : (!e.isView && r.noView) = true := hv
    rw [Bool.and_eq_true, Bool.not_eq_true'] at hv'
    have hp' : pr = true → e.pure = true ∧ r.pure = true := fun z => by
      have z' : (e.pure && r.pure) = true := hp z
      rwa [Bool.and_eq_true] at z'
    refine ⟨D, o, L, O, ρ, S, Post.bind q fun x ρ1 v H1 k1 s1 S1 r1 h1 => ?_⟩
    have h1 := Post.mono k1 (fun z => s1 (hp' z).1) h1
    refine pairs_read (pr := pr) hv'.2 (Nat.succ.inj hl) (fun z => (hp' z).2) S1 ?_
    refine Post.bind (pr := pr) (Q1 := fun vs H' => Q ((kV kk, v) :: (ks.map kV).zip vs) H') h1 fun xs ρ2 vs H2 k2 s2 S2 r2 h2 => ?_
    have h2 := Post.mono k2 s2 h2
    exact Post.ok (v := v :: vs) h2 S2 ⟨⟨.inl ((r1.2 hv'.1).keep k2), r2.1⟩, fun _ => .cons ((r1.2 hv'.1).keep k2) (r2.2 rfl)⟩
  | .nil, _ :: _, _, _, _, _, _, hl, _, _, _ => nomatch hl
  | .cons _ _, [], _, _, _, _, _, hl, _, _, _ => nomatch hl
theorem merge_new : ∀ {kvs acc : List (Key × V)}, ((acc ++ kvs).map (·.1)).Nodup → mergeK acc kvs = acc ++ kvs
  | [], acc, _ => by unfold mergeK; simp
  | (kk, v) :: r, acc, h => by
    have hk : valV acc kk = none := by
      cases hv : valV acc kk with
      | none => rfl
      | some x =>
        have z : (acc.any fun kv => decide (kv.1 = kk)) = true := by rw [valV_any, hv]; rfl
        rw [List.any_eq_true] at z
        obtain ⟨y, hy, he⟩ := z
        rw [decide_eq_true_eq] at he
        rw [List.map_append, List.nodup_append] at h
        exact absurd he (h.2.2 y.1 (List.mem_map.mpr ⟨y, hy, rfl⟩) kk (List.mem_map.mpr ⟨(kk, v), List.mem_cons_self, rfl⟩))
    show mergeK (putK acc kk v) r = _
    rw [putK_new v hk, merge_new (by rw [List.append_assoc]; exact h), List.append_assoc]
    rfl
theorem zip_fst {α β : Type} : ∀ {xs : List α} {ys : List β}, xs.length = ys.length → (xs.zip ys).map (·.1) = xs
  | [], [], _ => rfl
  | x :: xs, y :: ys, h => by show x :: (xs.zip ys).map (·.1) = _; rw [zip_fst (Nat.succ.inj h)]
theorem zip_snd {α β : Type} : ∀ {xs : List α} {ys : List β}, xs.length = ys.length → (xs.zip ys).map (·.2) = ys
  | [], [], _ => rfl
  | x :: xs, y :: ys, h => by show y :: (xs.zip ys).map (·.2) = _; rw [zip_snd (Nat.succ.inj h)]
theorem zip_key : ∀ {ks : List Key} {vs : List V}, (ks.map kV).zip vs = (ks.zip vs).map fun kv => (kV kv.1, kv.2)
  | [], _ => rfl
  | _ :: _, [] => rfl
  | kk :: ks, v :: vs => by show (kV kk, v) :: (ks.map kV).zip vs = _; rw [zip_key]; rfl
theorem dct_read {ks : List Key} {es : Es} (hv : es.noView = true) (hl : ks.length = es.len) (h15 : ks.length ≤ 15) (hn : ks.Nodup) {σ : L2.St} {H : Hp} {Q : VK} (h : tE cs C W (.dct ks es) σ H Q) : tDisp (trsOf cs C W ks es) σ H Q := by
  obtain ⟨L, O, ρ, S, q⟩ := h
  have q : Post C L O σ W es.pure (RlE C false O) H ((rBind (evEs cs es) fun xs => rPure (.dct (ks.zip xs))) ρ) Q := q
  intro p hp
  obtain ⟨f0, f1, f2⟩ := S.fresh hp
  have sm := same_new (o := HO.dK []) hp
  have S1 := (S.addO hp sm (by rw [upd_same]; exact fun z => nomatch z)).hold S.lsub f1 f0 upd_same
  have kO : ∀ {H' : Hp}, Keep (p :: O) (upd H p (.dK [])) H' → Keep O H H' := fun kk a o n e => kk a o (fun z => by
    rcases List.mem_cons.mp z with z | z
    · rw [z, hp] at e; cases e
    · exact n z) (sm a o e)
  refine pairs_read (pr := es.pure) hv hl (fun z => z) S1 ?_
  unfold rBind at q
  match hm : evEs cs es ρ, q with
  | none, q => exact q.elim
  | some (.error x, ρ1), q =>
    intro c dd H' k' S' xr
    obtain ⟨S', _⟩ := S'.unhold f0 f1 S.sub S.msub
    refine q c dd H' (kO k') (S'.dropO S.lsub S.sub) ?_
    obtain ⟨A, h1, h2, h3⟩ := xr
    refine ⟨A, h1, h2, h3.imp (fun z => z) fun ⟨d, fs, e1, n, e2, r⟩ => ⟨d, fs, e1, fun z => n (List.mem_cons_of_mem _ z), e2, r.less fun a z => List.mem_cons_of_mem _ z⟩⟩
  | some (.ok ds, ρ1), q =>
    intro vs H2 k2 s2 S2 r2
    obtain ⟨S2, hp2⟩ := S2.unhold f0 f1 S.sub S.msub
    have ra : RepAll C.K C.cl (p :: O) H2 vs ds := r2.2 rfl
    have l1 : ks.length = ds.length := by rw [evEs_len hm, hl]
    have l2 : ks.length = vs.length := by rw [ra.length, l1]
    refine ⟨hp2, ks.zip vs, zip_key, by rw [List.length_zip, ← l2, Nat.min_self]; exact h15, ?_⟩
    rw [merge_new (by rw [List.nil_append, zip_fst l2]; exact hn), List.nil_append]
    have kp : Keep (p :: O) H2 (upd H2 p (.dK (ks.zip vs))) := fun a o n e => by rw [upd_ne (fun z : a = p => n (z ▸ List.mem_cons_self))]; exact e
    have rp : Rep C.K C.cl O (upd H2 p (.dK (ks.zip vs))) (.ref p) (.dct (ks.zip ds)) :=
      .dctH (.inl upd_same) f1 (by rw [zip_fst l1, zip_fst l2]) (by rw [zip_snd l1, zip_snd l2]; exact (ra.keep kp).less fun a z => List.mem_cons_of_mem _ z)
    refine q _ _ (kO (k2.trans kp)) (fun z => ?_) ((S2.poke S.lsub S.sub f1 f0 _).dropO S.lsub S.sub) ⟨.inl rp, fun _ => rp⟩
    intro a o e
    rw [upd_ne (fun z : a = p => by rw [z, hp] at e; cases e)]
    exact s2 z a o (sm a o e)
theorem keysB_ok : ∀ {keys : List (Option Expr)} {ks : List Key}, keysB keys ks = true → keys.all (·.isSome) = true ∧ keys.length = ks.length
  | [], [], _ => ⟨rfl, rfl⟩
  | some x :: xs, kk :: ks, h => by
    have h' : (keyB x kk && keysB xs ks) = true := h
    rw [Bool.and_eq_true] at h'
    obtain ⟨h1, h2⟩ := keysB_ok h'.2
    exact ⟨by rw [List.all_cons, h1]; rfl, by rw [List.length_cons, h2]; rfl⟩
  | [], _ :: _, h => nomatch h
  | some _ :: _, [], h => nomatch h
  | none :: _, [], h => nomatch h
  | none :: _, _ :: _, h => nomatch h
theorem key_ok {x : Expr} {kk : Key} (h : keyB x kk = true) : PE X x (tKey kk) := by
  match x, kk, h with
  | .Constant (.int a) _ _, .inl b, h =>
    have e : a = b := by simpa [keyB] using h
    subst e
    exact pe_int.imp fun σ H Q h => h
  | .Constant (.str a) _ _, .inr b, h =>
    have e : a = b := by simpa [keyB] using h
    subst e
    exact pe_str.imp fun σ H Q h => h
/-! ### a test by its value's truth -/
def plainT : Expr → Bool
  | .UnaryOp .Not _ _ => false
  | .BoolOp _ _ _ => false
  | .IfExp _ _ _ _ => false
  | .Compare _ _ _ _ => false
  | _ => true
theorem c_tru (X' : XOk T cs k C W N sc X) {e : E} {y : Expr} (hp : plainT y = true) (h2 : (ev cs e).2 = rBind (ev cs e).1 fun d => rLift (truD d)) (he : PE X y (tE cs C W e)) : PT X y (tT cs C W e) := by
  refine (pt_truth he (fun whole => ?_)).imp fun σ H Q h => ?_
  · cases y with
    | UnaryOp o a p => cases o <;> first | rfl | cases hp
    | BoolOp => cases hp
    | IfExp => cases hp
    | Compare => cases hp
    | _ => rfl
  · rw [← X'.CK]
    have h : tR C W e.pure (fun _ _ b a => b = a) (ev cs e).2 σ H Q := h
    rw [h2] at h
    exact truth_ok rfl h
end
end Mx


/-! Mx, part 4l: exceptions: made, read, asked for their class. -/
namespace Mx
open PySem PySem.Spec PyProof.Rows L2
section
variable {X : Cx}
theorem inst_exc {pins : List (Addr × Obj)} {σ : L2.St} {H : Hp} {s : Shared} {a C : Addr} {dd : Option Addr} {O : List Addr} {fs : List (Str × V)} (I : Inv X pins σ H s) (ha : H a = some (exo a C dd)) (xd : XD O H fs dd) : ∃ ox od, PySem.W.InstAt s.heap a ox C od ∧ ∀ dx, dd = some dx → ∃ oD mA, od = some oD ∧ s.heap.Ns1 dx mA ∧ (∀ f, RelO (fs.lookup f) (mA f)) ∧ s.heap.get? dx = some oD := by
  obtain ⟨t1, hx⟩ := exo_at I.hok ha
  cases dd with
  | none => exact ⟨_, none, ⟨hx, rfl, rfl, trivial⟩, fun _ z => nomatch z⟩
  | some dx =>
    obtain ⟨mA, hn, hr⟩ := exd_at I.hok xd.1
    obtain ⟨oD, es, ep, ho, r⟩ := id hn
    exact ⟨_, some oD, ⟨hx, rfl, rfl, ho⟩, fun dy z => by cases z; exact ⟨oD, mA, rfl, hn, hr, ho⟩⟩
def rIsx (K : PySem.W.Frag) : List V → Hp → VK → Prop := fun xs H Q => ∃ (a C : Addr) (dd : Option Addr) (O : List Addr) (fs : List (Str × V)) (v : V) (u : Value) (b : Bool), xs = [.ref a, v] ∧ ClsV v u ∧ H a = some (exo a C dd) ∧ XD O H fs dd ∧ XGet K C ∧ PySem.W.kitOne K (.ref C) u = some b ∧ Q (.bl b) H
def rIsxT (K : PySem.W.Frag) : List V → Hp → VK → Prop := fun xs H Q => ∃ (a C tp : Addr) (dd : Option Addr) (O : List Addr) (fs : List (Str × V)) (vs : List V) (us : List Value) (b : Bool), xs = [.ref a, .ref tp] ∧ H tp = some (.tup vs) ∧ Paired ClsV vs us ∧ H a = some (exo a C dd) ∧ XD O H fs dd ∧ XGet K C ∧ PySem.W.kitAny K (.ref C) us = some b ∧ Q (.bl b) H
theorem kit_x {K : PySem.W.Frag} {C a : Addr} {ox : Obj} {od : Option Obj} (G : XGet K C) : PySem.W.KitX K (.ref a) (.ref C) (fun h => PySem.W.InstAt h a ox C od) := by
  obtain ⟨cd, hc, _⟩ := PySem.W.any_some (show (PySem.W.clsIn K C).any (·.hasDict) = true from G.hd)
  exact PySem.W.kitx_exc (by rw [hc]; rfl) G.ga G.gg G.sub G.ca G.cn G.ct G.cm
theorem call_isx : CallR X (.builtin "isinstance") (rIsx X.K) := by
  intro pins s σ H xs us Q I r h
  obtain ⟨a, C, dd, O, fs, v, u, b, rfl, k, ha, xd, G, e, q⟩ := h
  obtain ⟨u1, u2, rfl, r1, r2⟩ := vals2 r
  cases (show u1 = Value.ref a from r1)
  have e2 := k.eq r2
  subst e2
  obtain ⟨ox, od, J, _⟩ := inst_exc I ha xd
  exact PySem.W.kia_one (kit_x G) I.kIn J e (fun z => nomatch z) fun tk => ⟨.bl b, H, I.tok tk, rfl, q⟩
theorem call_isxT : CallR X (.builtin "isinstance") (rIsxT X.K) := by
  intro pins s σ H xs us Q I r h
  obtain ⟨a, C, tp, dd, O, fs, vs, ws, b, rfl, hT, k, ha, xd, G, e, q⟩ := h
  obtain ⟨u1, u2, rfl, r1, r2⟩ := vals2 r
  cases (show u1 = Value.ref a from r1)
  cases (show u2 = Value.ref tp from r2)
  obtain ⟨ox, od, J, _⟩ := inst_exc I ha xd
  obtain ⟨_, its, rv, o, h1, h2, n, h3⟩ := (show ObjOk X.prog X.w H s.heap tp (.tup vs) from I.hok tp _ hT)
  have e3 := ClsV.all k rv
  subst e3
  obtain ⟨oc, od', dt, sl⟩ := o
  simp only at h2 h3
  subst h2 h3
  exact PySem.W.kia_tup (kit_x G) I.kIn J h1 e (fun z => nomatch z) fun tk => ⟨.bl b, H, I.tok tk, rfl, q⟩
/-- the names of classes -/
def tKs (vs : List V) : TA := fun _ H Q => Q vs H
theorem pa_names {sc : Scope} {mg : Str → Option Value} (hm : X.mg = mg) (gl : ∀ {y}, gloB sc y = true → Gl X y) : ∀ {xs : List Str} {vs : List V} {us : List Value} {ys : List Expr}, NmVs mg xs vs us → namesB sc xs ys = true → PA X ys (tKs vs) ∧ Paired ClsV vs us
  | _, _, _, ys, .nil, h => by
    cases ys with
    | nil => exact ⟨pa_nil, .nil⟩
    | cons y ys => cases h
  | _, _, _, ys, .cons (x := x) (v := v) (u := u) hv r, h => by
    match ys, h with
    | .Name y p :: ys, h =>
      have h' : (decide (y = x) && (gloB sc y && (!(y == ("__debug__" : Str)) && namesB sc _ ys))) = true := h
      simp only [Bool.and_eq_true, decide_eq_true_eq, Bool.not_eq_true'] at h'
      obtain ⟨rfl, h1, h2, h3⟩ := h'
      obtain ⟨q1, q2⟩ := pa_names hm gl r h3
      subst hm
      rcases hv with ⟨D, m, rfl, rfl⟩ | ⟨n, m, bt, nn, rfl, rfl⟩
      · exact ⟨pa_cons (pe_glob (v := .ref D) (gl h1) m rfl h2) q1 rfl, .cons (.own D) q2⟩
      · exact ⟨pa_cons (pe_bltn (v := .ty n) (gl h1) m bt rfl nn h2) q1 rfl, .cons (.ty n) q2⟩
end
section
variable {T : Tab} {cs : CS} {k : Nat} {C : Ct} {W : WX} {N : List Str} {sc : Scope} {X : Cx}
theorem tE_mono {e : E} {σ : L2.St} {H : Hp} {Q Q' : VK} (h : tE cs C W e σ H Q) (f : ∀ v H1, Q v H1 → Q' v H1) : tE cs C W e σ H Q' := by
  obtain ⟨L, O, ρ, S, q⟩ := h
  refine ⟨L, O, ρ, S, ?_⟩
  match hr : (ev cs e).1 ρ, q with
  | some (.ok a, ρ'), q => exact fun v H' k s S r => f v H' (q v H' k s S r)
  | some (.error x, ρ'), q => exact q
theorem isx_in {K : PySem.W.Frag} {cl : Nat → Option Addr} {q : List Str × Bool × List Nat × List Nat} {c : Nat} {fs : List (Str × IV)} {d : IV} {us : List Value} (F1 : ∀ c ∈ q.2.2.1, ∀ C, cl c = some C → XGet K C ∧ PySem.W.kitAny K (.ref C) us = some true) (F2 : ∀ c ∈ q.2.2.2, ∀ C, cl c = some C → XGet K C ∧ PySem.W.kitAny K (.ref C) us = some false)
    (h : isxD q.2.2.1 q.2.2.2 (.exc c fs) = some d) {A : Addr} (hc : cl c = some A) : ∃ b, d = .bl b ∧ XGet K A ∧ PySem.W.kitAny K (.ref A) us = some b := by
  have h : (if c ∈ q.2.2.1 then some (IV.bl true) else if c ∈ q.2.2.2 then some (.bl false) else none) = some d := h
  split at h
  · rename_i z; cases h; exact ⟨true, rfl, F1 c z A hc⟩
  · split at h
    · rename_i z; cases h; exact ⟨false, rfl, F2 c z A hc⟩
    · cases h
theorem kit1 {K : PySem.W.Frag} {t u : Value} {b : Bool} (h : PySem.W.kitAny K t [u] = some b) : PySem.W.kitOne K t u = some b := by
  unfold PySem.W.kitAny at h
  split at h
  · rename_i e; rw [e]; exact h
  · rename_i e; rw [e]; exact h
  · cases h
theorem names_len {sc : Scope} : ∀ {xs : List Str} {ys : List Expr}, namesB sc xs ys = true → xs.length = ys.length
  | [], [], _ => rfl
  | x :: xs, .Name y _ :: ys, h => by
    have h' : (decide (y = x) && (gloB sc y && (!(y == ("__debug__" : Str)) && namesB sc xs ys))) = true := h
    simp only [Bool.and_eq_true] at h'
    rw [List.length_cons, List.length_cons, names_len h'.2.2.2]
  | [], _ :: _, h => nomatch h
  | _ :: _, [], h => nomatch h
theorem vs_len {mg : Str → Option Value} {n : Nat} : ∀ {xs : List Str} {vs : List V} {us : List Value}, NmVs mg xs vs us → xs.length = n → n = vs.length
  | _, _, _, .nil, h => h.symm
  | _, _, _, .cons _ r, h => by subst h; rw [List.length_cons, List.length_cons, vs_len r rfl]
theorem one_name {sc : Scope} {mg : Str → Option Value} {xs : List Str} {vs : List V} {us : List Value} {w : Expr} (nv : NmVs mg xs vs us) (h : namesB sc xs [w] = true) : ∃ x1 v1 u1, xs = [x1] ∧ vs = [v1] ∧ us = [u1] ∧ notStar w = true := by
  cases nv with
  | nil => cases h
  | cons a r =>
    cases r with
    | nil =>
      refine ⟨_, _, _, rfl, rfl, rfl, ?_⟩
      unfold namesB at h
      split at h
      · rename_i e _; cases e
      · rename_i e1 e2; cases e2; rfl
      · cases h
    | cons b r => exact absurd (names_len h) (by simp)
theorem c_isx (X' : XOk T cs k C W N sc X) {a : E} {xs : List Str} {tup : Bool} {ys ns : List Nat} {x y : Expr} (hm : mP1 T sc (.isx xs tup ys ns) x = some y) (hv : a.isView = false) (h : PE X y (tE cs C W a)) : PE X x (tE cs C W (.pr1 (.isx xs tup ys ns) a)) := by
  unfold mP1 at hm
  split at hm
  · rename_i he; cases he
  · rename_i xs' tup' ys' ns' y0 p0 z w p1 he
    cases he
    split at hm
    · rename_i hz
      cases hm
      simp only [Bool.and_eq_true, decide_eq_true_eq] at hz
      obtain ⟨rfl, h2, h3, h4, h5, h6⟩ := hz
      obtain ⟨vs, us, nv, F1, F2⟩ := X'.facts.isx _ h5
      have g := X'.gl h2
      have m := X'.bl h3
      have rd : ∀ {σ : L2.St} {H : Hp} {Q : VK}, tE cs C W (.pr1 (.isx xs tup ys ns) a) σ H Q → tE cs C W a σ H fun v H1 => ∃ (p A : Addr) (dd : Option Addr) (O : List Addr) (fs : List (Str × V)) (b : Bool), v = .ref p ∧ H1 p = some (exo p A dd) ∧ XD O H1 fs dd ∧ XGet X.K A ∧ PySem.W.kitAny X.K (.ref A) us = some b ∧ ∀ H2, Same H1 H2 → Q (.bl b) H2 := fun {σ H Q} ⟨L, O, ρ, S, q⟩ => by
        refine ⟨L, O, ρ, S, Post.bind q fun d ρ1 v H1 k1 s1 S1 r1 h1 => ?_⟩
        have h1 := Post.mono k1 s1 h1
        unfold rLift at h1
        have rr := r1.2 hv
        cases hf : pr1D (.isx xs tup ys ns) d with
        | none => rw [hf] at h1; exact h1.elim
        | some e =>
          rw [hf] at h1
          have h9 := h1
          match d, rr, hf with
          | .exc c ds, .exc (a := p) (C := A) (dd := dd) (fs := fs) e1 e2 e3 e4 e5 e6, hf =>
            obtain ⟨b, rfl, G, kk⟩ := isx_in (q := (xs, tup, ys, ns)) (fs := ds) F1 F2 hf e2
            exact ⟨p, A, dd, O, fs, b, rfl, e1, e4, G, kk, fun H2 sm => h9 _ H2 (.same sm) (fun _ => sm) (S1.same sm) ⟨.inl (.bl _), fun _ => .bl _⟩⟩
      unfold isxW at h6
      split at h6
      · rename_i w'
        obtain ⟨q1, q2⟩ := pa_names rfl (fun {y} => X'.gl) nv h6
        obtain ⟨x1, v1, u1, rfl, rfl, rfl, hw⟩ := one_name nv h6
        cases q2 with
        | cons k1 _ =>
          refine (pe_callB call_isx g m (by decide +kernel) (pa_cons h q1 (star_one h4 _ X.env)) (by decide) (by decide) (star_one h4 _ X.env) (star_none X.env _ (by rw [List.all_cons, hw]; rfl))).imp fun σ H Q z => ?_
          refine tE_mono (rd z) fun v H1 ⟨p, A, dd, O, fs, b, e0, e1, e2, G, kk, q⟩ => ?_
          exact ⟨p, A, dd, O, fs, v1, u1, b, by rw [e0], k1, e1, e2, G, kit1 kk, q H1 (Same.refl _)⟩
      · rename_i ws j pw
        rw [Bool.and_eq_true, decide_eq_true_eq] at h6
        obtain ⟨q1, q2⟩ := pa_names rfl (fun {y} => X'.gl) nv h6.1
        refine (pe_callB call_isxT g m (by decide +kernel) (pa_cons h (pa_cons (pe_tup q1) pa_nil rfl) (star_one h4 _ X.env)) (by decide) (by decide) (star_one h4 _ X.env) rfl).imp fun σ H Q z => ?_
        refine tE_mono (rd z) fun v H1 ⟨p, A, dd, O, fs, b, e0, e1, e2, G, kk, q⟩ => ?_
        refine ⟨by rw [← vs_len nv (names_len h6.1)]; exact Nat.le_trans h6.2 (by rw [sizeLine_eq]; omega), fun tp hp => ?_⟩
        have sm := same_new (o := .tup vs) hp
        exact ⟨p, A, tp, dd, O, fs, vs, us, b, by rw [e0], upd_same, q2, sm _ _ e1, e2.keep (.same sm), G, kk, q _ sm⟩
      · cases h6
    · cases hm
  · cases hm
theorem lookup_rep {K : PySem.W.Frag} {cl : Nat → Option Addr} {O : List Addr} {H : Hp} {f : Str} {d : IV} : ∀ {fs : List (Str × V)} {ds : List (Str × IV)}, fs.map (·.1) = ds.map (·.1) → RepAll K cl O H (fs.map (·.2)) (ds.map (·.2)) → ds.lookup f = some d → ∃ v, fs.lookup f = some v ∧ Rep K cl O H v d
  | [], [], _, _, h => nomatch h
  | (x, v) :: fs, (y, e) :: ds, hk, hr, h => by
    simp only [List.map_cons, List.cons.injEq] at hk
    obtain ⟨rfl, hk⟩ := hk
    cases hr with
    | cons r1 r2 =>
      rw [lookup_put]
      by_cases q : f = x
      · subst q
        rw [if_pos rfl]
        simp [List.lookup] at h
        subst h
        exact ⟨v, rfl, r1⟩
      · rw [if_neg q]
        have e' : (f == x) = false := by simpa using q
        simp only [List.lookup, e'] at h
        exact lookup_rep hk r2 h
  | [], _ :: _, hk, _, _ => nomatch hk
  | _ :: _, [], hk, _, _ => nomatch hk
theorem c_fld (X' : XOk T cs k C W N sc X) {a : E} {f : Str} {cs' : List Nat} {x y : Expr} (hm : mP1 T sc (.fld f cs') x = some y) (hv : a.isView = false) (h : PE X y (tE cs C W a)) : PE X x (tE cs C W (.pr1 (.fld f cs') a)) := by
  unfold mP1 at hm
  split at hm
  · rename_i f' cs'' o y0 p he
    cases he
    split at hm
    · rename_i hz
      cases hm
      simp only [Bool.and_eq_true, decide_eq_true_eq, List.all_eq_true] at hz
      obtain ⟨rfl, h2, h3⟩ := hz
      refine ⟨fun pins s σ H Q I z => ?_⟩
      refine attr_of (noSuper_ok h2) (thn (h.run pins s σ H (fun v H1 => ∃ (p A dx : Addr) (fs : List (Str × V)) (w : V), v = .ref p ∧ H1 p = some (exo p A (some dx)) ∧ H1 dx = some (exd dx fs) ∧ XGet X.K A ∧ PySem.W.findIn X.K (.ref A) y0 = some none ∧ fs.lookup y0 = some w ∧ Q w H1) I ?_) fun u s1 hh => ?_)
      · obtain ⟨L, O, ρ, S, q⟩ := z
        refine ⟨L, O, ρ, S, Post.bind q fun d ρ1 v H1 k1 s1 S1 r1 h1 => ?_⟩
        have h1 := Post.mono k1 s1 h1
        unfold rLift at h1
        have rr := r1.2 hv
        cases hf : pr1D (.fld y0 cs') d with
        | none => rw [hf] at h1; exact h1.elim
        | some e =>
          rw [hf] at h1
          have h9 := h1
          match d, rr, hf with
          | .exc c ds, .exc (a := p) (C := A) (dd := dd) (fs := fs) e1 e2 e3 e4 e5 e6, hf =>
            have hf : (if c ∈ cs' then ds.lookup y0 else none) = some e := hf
            split at hf
            · rename_i hc
              have hc' := h3 c hc
              split at hc'
              · rename_i xc hxc
                obtain ⟨A', B, nI, i, bmB, g1, g2, g3, g4, g5, _⟩ := X'.facts.xcls c xc hxc
                rw [e2] at g1
                cases g1
                obtain ⟨w, hw, rw'⟩ := lookup_rep e5 e6 hf
                cases dd with
                | none =>
                  have e4 : fs = [] := e4
                  rw [e4] at hw
                  cases hw
                | some dx => exact ⟨p, A, dx, fs, w, rfl, e1, e4.1, g4, g5 _ (by simpa using hc'), hw, h9 _ H1 (Keep.refl _ _) (fun _ => Same.refl _) S1 ⟨.inl rw', fun _ => rw'⟩⟩
              · cases hc'
            · cases hf
      · obtain ⟨v, H1, I1, rx, p, A, dx, fs, w, e0, e1, e2, G, no, hw, q⟩ := hh
        subst e0
        obtain rfl : u = Value.ref p := rx
        obtain ⟨t1, hx⟩ := exo_at I1.hok e1
        obtain ⟨mA, hns, hr⟩ := exd_at I1.hok e2
        obtain ⟨od, ho, hl⟩ := lookIn_ns hns
        obtain ⟨uw, hu, ru⟩ := RelO.some_of (v := w) (o := mA y0) (by rw [← hw]; exact hr y0)
        have J : PySem.W.InstAt s1.heap p _ A (some od) := ⟨hx, rfl, rfl, ho⟩
        exact HandSPX.exc_get I1.kIn J G.ga G.gg G.sub (PySem.W.findObj_own G.hd no rfl (by rw [hl, hu])) (handed_of ru) ⟨w, H1, I1.tok _, ru, q⟩
    · cases hm
  · rename_i he; cases he
  · cases hm
theorem c_pr1 (X' : XOk T cs k C W N sc X) {a : E} {p : P1} {x y : Expr} (hm : mP1 T sc p x = some y) (hv : a.isView = false) (h : PE X y (tE cs C W a)) : PE X x (tE cs C W (.pr1 p a)) := by
  cases p with
  | fld f cs' => exact c_fld X' hm hv h
  | isx xs tup ys ns => exact c_isx X' hm hv h
theorem room1 (X' : XOk T cs k C W N sc X) : X.A.depth + 1 < recursionLimit := by have := X'.room.dp; omega
theorem mk_fin (X' : XOk T cs k C W N sc X) {c : Nat} {xc : Xc} (hT : T.xcls c = some xc) (sup : X.mg "super" = none) {A : Addr} (hA : X.mg xc.name = some (.ref A)) {pins : List (Addr × Obj)} {σ : L2.St} {H : Hp} {s : Shared} {us : List Value} {vs : List V} {Q : VK} (I : Inv X pins σ H s) (r : Vals vs us) (q : spX X.K C.cl c xc.ps vs H Q) :
    wpAny (model X.prog X.w) X.A (call (.ref A) us) (EP X pins σ Q) X.xe s := by
  obtain ⟨A', B, nI, i, bmB, g1, g2, g3, g4, g5, g6, g7⟩ := X'.facts.xcls c xc hT
  rw [hA] at g2
  cases g2
  have hl : vs.length = xc.ps.length := by obtain ⟨_, _, _, _, z, _⟩ := q; exact z
  cases ho : xc.own with
  | true =>
    rw [ho, if_pos rfl] at g7
    obtain ⟨fI, fd, J, hfn, hb, _⟩ := g7
    refine mk_run (T := xc) g1 g3 J hfn sup I (room1 X') r (by rw [← r.length, hl, sizeLine_eq]; omega) (fun s x KI => ?_) q
    have b := hb s (.ref x :: us) KI (by simp [← r.length, hl])
    rw [List.append_nil] at b
    exact b
  | false =>
    rw [ho, if_neg Bool.false_ne_true] at g7
    obtain ⟨hps, _, hi⟩ := g7
    have ev : vs = [] := List.eq_nil_of_length_eq_zero (by rw [hl, hps]; rfl)
    subst ev
    cases r
    rw [hps] at q
    exact mk_run0 g1 g3 hi I q
theorem xcls_sup (X' : XOk T cs k C W N sc X) (z : T.xcls 0 ≠ none) : X.mg "super" = none := X'.facts.sup z
theorem mk_read {c : Nat} {ps : List Str} {es : Es} (nv : es.noView = true) {σ : L2.St} {H : Hp} {Q : VK} (h : tE cs C W (.mk c ps es) σ H Q) : tEs cs C W es σ H fun vs H1 => spX C.K C.cl c ps vs H1 Q := by
  obtain ⟨L, O, ρ, S, q⟩ := h
  refine ⟨L, O, ρ, S, Post.bind q fun ds ρ1 vs H1 k1 s1 S1 r1 h1 => ?_⟩
  have h1 := Post.mono k1 s1 h1
  have ra := r1.2 nv
  unfold rLift mkD at h1
  by_cases hz : ds.length = ps.length
  · rw [if_pos hz] at h1
    exact ⟨O, ds, S1.live, ra, by rw [ra.length, hz], fun w H' sm rp => h1 w H' (.same sm) (fun _ => sm) (S1.same sm) ⟨.inl rp, fun _ => rp⟩⟩
  · rw [if_neg hz] at h1
    exact h1.elim
theorem c_mk (X' : XOk T cs k C W N sc X) {c : Nat} {xc : Xc} {es : Es} {xs : List Expr} {y : Str} {p q : Pos} (hT : T.xcls c = some xc) (h0 : T.xcls 0 ≠ none) (hy : y = xc.name) (hg : gloB sc y = true) (hma : mEs T N es sc xs = true) (nv : es.noView = true) (hd : (y == ("__debug__" : Str)) = false) (pa : PA X xs (tEs cs C W es)) :
    PE X (.Call (.Name y p) xs [] q) (tE cs C W (.mk c xc.ps es)) := by
  obtain ⟨A, B, nI, i, bmB, g1, g2, g3, _⟩ := X'.facts.xcls c xc hT
  have g := X'.gl hg
  have sup := xcls_sup X' h0
  subst hy
  refine ⟨fun pins s σ H Q I z => ?_⟩
  have z := mk_read nv z
  rw [X'.CK] at z
  refine wpAny_Call_Name_kw (ld_glob I g g2 ?_ hd)
  cases xs with
  | nil =>
    have e : es = .nil := by
      cases es with
      | nil => rfl
      | cons e r => unfold mEs at hma; cases hma
    subst e
    exact PySem.W.callWith_K0 I.kIn g3.kC (mk_fin X' hT sup g2 I .nil (tEs_nil z))
  | cons x xs =>
    have hs := all_star hma
    rw [List.all_cons, Bool.and_eq_true] at hs
    exact PySem.W.callWith_K (h₀ := X.base) I.ok.mod.kin g3.kC (thn (pa.run q pins s σ H _ I z) fun us s1 ⟨vs, H1, I1, r, z1⟩ => ⟨I1.kIn, mk_fin X' hT sup g2 I1 r z1⟩) (star_one hs.1 xs X.env) (star_none X.env q hs.2)
theorem mkK_read {c : Nat} {ps : List Str} {as bs : Es} {ks : List Str} {perm : List Nat} {n : Nat} (ha : as.noView = true) (hb : bs.noView = true) (hn : as.len = n) (hk : bs.len = ks.length) {σ : L2.St} {H : Hp} {Q : VK} (h : tE cs C W (.mkK c ps as bs ks perm) σ H Q) :
    tEs cs C W as σ H fun vs H1 => vs.length = n ∧ tEs cs C W bs σ H1 fun zs H2 => zs.length = ks.length ∧ ∃ rs, pick (vs ++ zs) perm = some rs ∧ spX C.K C.cl c ps rs H2 Q := by
  obtain ⟨L, O, ρ, S, q⟩ := h
  have pp : (E.mkK c ps as bs ks perm).pure = true → as.pure = true ∧ bs.pure = true := fun z => by
    have z : (as.pure && bs.pure) = true := z
    rwa [Bool.and_eq_true] at z
  refine ⟨L, O, ρ, S, Post.bindE q fun ds ρ1 vs H1 hm1 k1 s1 S1 r1 h1 => ?_⟩
  have r1 := r1.2 ha
  refine ⟨by rw [r1.length, evEs_len hm1, hn], L, O, ρ1, S1, Post.bindE (Post.mono k1 (fun z => s1 (pp z).1) h1) fun es ρ2 zs H2 hm2 k2 s2 S2 r2 h2 => ?_⟩
  have h2 := Post.mono k2 (fun z => s2 (pp z).2) h2
  have r2 := r2.2 hb
  refine ⟨by rw [r2.length, evEs_len hm2, hk], ?_⟩
  unfold rLift mkD at h2
  match hd : pick (ds ++ es) perm, h2 with
  | none, h2 => exact h2.elim
  | some ws, h2 =>
    obtain ⟨rs, hrs, rr⟩ := pick_rep ((r1.keep k2).append r2) hd
    refine ⟨rs, hrs, ?_⟩
    dsimp only at h2
    by_cases hz : ws.length = ps.length
    · rw [if_pos hz] at h2
      exact ⟨O, ws, S2.live, rr, by rw [rr.length, hz], fun w H' sm rp => h2 w H' (.same sm) (fun _ => sm) (S2.same sm) ⟨.inl rp, fun _ => rp⟩⟩
    · rw [if_neg hz] at h2
      exact h2.elim
theorem pick_succ {α : Type} {x : α} : ∀ {l : List α} {is : List Nat} {zs : List α}, pick l is = some zs → pick (x :: l) (is.map (· + 1)) = some zs
  | _, [], _, h => h
  | l, i :: is, zs, h => by
    unfold pick at h
    simp only [List.map_cons]
    unfold pick
    rw [List.getElem?_cons_succ]
    match h1 : l[i]?, h2 : pick l is, h with
    | some d, some r, h => rw [pick_succ h2]; exact h
theorem mkK_fin (X' : XOk T cs k C W N sc X) {c : Nat} {xc : Xc} (hT : T.xcls c = some xc) (sup : X.mg "super" = none) {A : Addr} (hA : X.mg xc.name = some (.ref A)) {pins : List (Addr × Obj)} {σ : L2.St} {H : Hp} {s : Shared} {us ws : List Value} {vs zs rs : List V} {Q : VK} {n : Nat} {ks : List Str} {perm : List Nat} (hin : (n, ks, perm) ∈ xc.kws) (hn : n ≤ 100)
    (I : Inv X pins σ H s) (r : Vals vs us) (rz : Vals zs ws) (h1 : vs.length = n) (h2 : zs.length = ks.length) (h3 : pick (vs ++ zs) perm = some rs) (q : spX X.K C.cl c xc.ps rs H Q) :
    wpAny (model X.prog X.w) X.A (call (.ref A) us (ks.zip ws)) (EP X pins σ Q) X.xe s := by
  obtain ⟨A', B, nI, i, bmB, g1, g2, g3, g4, g5, g6, g7⟩ := X'.facts.xcls c xc hT
  rw [hA] at g2
  cases g2
  cases ho : xc.own with
  | true =>
    rw [ho, if_pos rfl] at g7
    obtain ⟨fI, fd, J, hfn, _, hk⟩ := g7
    obtain ⟨qs, hq, rq⟩ := pick_vals (r.append rz) h3
    refine mk_run (T := xc) g1 g3 J hfn sup I (room1 X') rq (by rw [← r.length, h1, sizeLine_eq]; omega) (fun s x KI => ?_) q
    refine hk _ hin s (.ref x :: us) ws (.ref x :: qs) KI (by simp [← r.length, h1]) (by rw [← rz.length, h2]) ?_
    show pick (.ref x :: (us ++ ws)) (0 :: perm.map (· + 1)) = _
    unfold pick
    rw [pick_succ hq]
    rfl
  | false =>
    rw [ho, if_neg Bool.false_ne_true] at g7
    rw [g7.2.1] at hin
    cases hin
theorem c_mkK (X' : XOk T cs k C W N sc X) {c : Nat} {xc : Xc} {as bs : Es} {ks : List Str} {perm : List Nat} {xs : List Expr} {kws : List Keyword} {y : Str} {p q : Pos} (hT : T.xcls c = some xc) (h0 : T.xcls 0 ≠ none) (hy : y = xc.name) (hg : gloB sc y = true) (hkw : kwB ks kws = true) (hma : mEs T N as sc xs = true) (hmb : mEs T N bs sc (kwVals kws) = true)
    (ha : as.noView = true) (hb : bs.noView = true) (hin : (xs.length, ks, perm) ∈ xc.kws) (hd : (y == ("__debug__" : Str)) = false) (hl : xs.length ≤ 100) (pa : PA X xs (tEs cs C W as)) (pk : PK X kws (tEs cs C W bs)) : PE X (.Call (.Name y p) xs kws q) (tE cs C W (.mkK c xc.ps as bs ks perm)) := by
  obtain ⟨A, B, nI, i, bmB, g1, g2, g3, _⟩ := X'.facts.xcls c xc hT
  have g := X'.gl hg
  have sup := xcls_sup X' h0
  subst hy
  obtain ⟨k1, k2, k3⟩ := kw_all (env := X.env) q hkw
  refine ⟨fun pins s σ H Q I z => ?_⟩
  have z := mkK_read ha hb (mEs_len hma).symm (by rw [← mEs_len hmb, kw_len hkw]) z
  rw [X'.CK] at z
  refine wpAny_Call_Name_kw (ld_glob I g g2 ?_ hd)
  cases xs with
  | nil =>
    have e : as = .nil := by
      cases as with
      | nil => rfl
      | cons e r => unfold mEs at hma; cases hma
    subst e
    obtain ⟨z0, z⟩ := tEs_nil z
    refine PySem.W.callWith_KW0 (h₀ := X.base) I.ok.mod.kin g3.kC k1 (thn (pk.run q pins s σ H _ I z) fun ws s2 ⟨zs, H2, I2, rz, h2, rs, h3, z3⟩ => ⟨I2.kIn, ?_⟩) k3
    rw [k2]
    exact mkK_fin X' hT sup g2 hin hl I2 (us := []) .nil rz rfl h2 h3 z3
  | cons x xs =>
    have hs := all_star hma
    have hs' := hs
    rw [List.all_cons, Bool.and_eq_true] at hs
    refine PySem.W.callWith_KW (h₀ := X.base) I.ok.mod.kin g3.kC k1 (thn (pa.run q pins s σ H _ I z) fun us s1 ⟨vs, H1, I1, r, hl1, z1⟩ => thn (pk.run q pins s1 σ H1 _ I1 z1) fun ws s2 ⟨zs, H2, I2, rz, h2, rs, h3, z3⟩ => ⟨I2.kIn, ?_⟩) (by rw [star_none X.env q hs', k3]; rfl) (star_one hs.1 xs X.env)
    rw [k2]
    exact mkK_fin X' hT sup g2 hin hl I2 r rz hl1 h2 h3 z3
end
end Mx


/-! Mx, part 4k: every expression. -/
namespace Mx
open PySem PySem.Spec PyProof.Rows L2
section
variable {T : Tab} {cs : CS} {k : Nat} {N : List Str}
theorem bnot {b : Bool} (h : (!b) = true) : b = false := by cases b <;> first | rfl | cases h
theorem bimp {a b : Bool} (h : (!a || b) = true) : a = true → b = true := fun z => by rw [z] at h; simpa using h
theorem bimp2 {a b c : Bool} (h : (!a || (b && c)) = true) : a = true → b = true ∧ c = true := fun z => by rw [z] at h; simpa using h
theorem both {C : Ct} {W : WX} {sc : Scope} {X : Cx} (X' : XOk T cs k C W N sc X) {e : E} {y : Expr} (hp : plainT y = true) (h2 : (ev cs e).2 = rBind (ev cs e).1 fun d => rLift (truD d)) (z : PE X y (tE cs C W e)) : PE X y (tE cs C W e) ∧ (e.tst = true → PT X y (tT cs C W e)) :=
  ⟨z, fun _ => c_tru X' hp h2 z⟩
theorem p1_plain {T : Tab} {sc : Scope} {p : P1} {x y : Expr} (h : mP1 T sc p x = some y) : plainT x = true := by
  unfold mP1 at h
  split at h
  · rfl
  · rfl
  · cases h
mutual
theorem sE : ∀ (e : E) {C : Ct} {W : WX} {sc : Scope} {X : Cx} (X' : XOk T cs k C W N sc X) {x : Expr}, mE T N e sc x = true → PE X x (tE cs C W e) ∧ (e.tst = true → PT X x (tT cs C W e))
  | .var i, C, W, sc, X, X', x, h => by
    unfold mE at h
    split at h
    · exact both X' rfl rfl (c_var X' h)
    · cases h
  | .view i, C, W, sc, X, X', x, h => by
    unfold mE at h
    split at h
    · exact both X' rfl rfl (c_view X' h)
    · cases h
  | .cst d, C, W, sc, X, X', x, h => by
    unfold mE at h
    split at h
    · exact both X' rfl rfl (c_cst h)
    · cases h
  | .glo y d, C, W, sc, X, X', x, h => by
    unfold mE at h
    split at h
    · simp only [Bool.and_eq_true, decide_eq_true_eq] at h
      exact both X' rfl rfl (c_glo X' h.1.1.1 h.1.1.2 h.1.2 (bnot h.2))
    · cases h
  | .bin o a b, C, W, sc, X, X', x, h => by
    unfold mE at h
    split at h
    · simp only [Bool.and_eq_true, decide_eq_true_eq] at h
      obtain ⟨⟨⟨rfl, h1⟩, h2⟩, h3⟩ := h
      exact both X' rfl rfl (c_bin X' (o := o) (bimp h3) (sE a X' h1).1 (sE b X' h2).1)
    · cases h
  | .neg a, C, W, sc, X, X', x, h => by
    unfold mE at h
    split at h
    · exact both X' rfl rfl (c_neg (sE a X' h).1)
    · cases h
  | .cmp o a b, C, W, sc, X, X', x, h => by
    unfold mE at h
    split at h
    · simp only [Bool.and_eq_true, decide_eq_true_eq] at h
      obtain ⟨⟨⟨⟨rfl, h1⟩, h2⟩, h3⟩, h4⟩ := h
      exact ⟨c_cmp X' (bimp h3) h4 (sE a X' h1).1 (sE b X' h2).1, fun _ => c_cmpT X' (bimp h3) h4 (sE a X' h1).1 (sE b X' h2).1⟩
    · cases h
  | .chn o o' a b c, C, W, sc, X, X', x, h => by
    unfold mE at h
    split at h
    · simp only [Bool.and_eq_true, decide_eq_true_eq] at h
      obtain ⟨⟨⟨⟨⟨⟨⟨rfl, rfl⟩, h1⟩, h2⟩, h3⟩, h4⟩, h5⟩, h6⟩ := h
      exact ⟨c_chn X' (bnot h4) (bnot h5) h6 (sE a X' h1).1 (sE b X' h2).1 (sE c X' h3).1, fun _ => c_chnT X' (bnot h4) (bnot h5) h6 (sE a X' h1).1 (sE b X' h2).1 (sE c X' h3).1⟩
    · cases h
  | .and es, C, W, sc, X, X', x, h => by
    unfold mE at h
    split at h
    · rw [Bool.and_eq_true] at h
      exact ⟨(sEs es X' h.1).2.2.2.1 h.2 _, fun t => ((sEs es X' h.1).2.2.2.2.2.1 t _).pt⟩
    · cases h
  | .or es, C, W, sc, X, X', x, h => by
    unfold mE at h
    split at h
    · rw [Bool.and_eq_true] at h
      exact ⟨(sEs es X' h.1).2.2.2.2.1 h.2 _, fun t => ((sEs es X' h.1).2.2.2.2.2.2 t _).pt⟩
    · cases h
  | .not a, C, W, sc, X, X', x, h => by
    unfold mE at h
    split at h
    · exact ⟨c_not (sE a X' h).1, fun t => c_notT ((sE a X' h).2 t)⟩
    · cases h
  | .ite c a b, C, W, sc, X, X', x, h => by
    unfold mE at h
    split at h
    · simp only [Bool.and_eq_true] at h
      obtain ⟨⟨⟨⟨⟨h1, h2⟩, h3⟩, h4⟩, h5⟩, h6⟩ := h
      exact ⟨c_ite (bnot h5) (bnot h6) ((sE c X' h1).2 h2) (sE a X' h3).1 (sE b X' h4).1, fun t => nomatch t⟩
    · cases h
  | .ix a b, C, W, sc, X, X', x, h => by
    unfold mE at h
    split at h
    · simp only [Bool.and_eq_true] at h
      obtain ⟨⟨⟨h1, h2⟩, h3⟩, h4⟩ := h
      exact both X' rfl rfl (c_ix X' (bimp h4) h3 (sE a X' h1).1 (sE b X' h2).1)
    · cases h
  | .sl a lo hi, C, W, sc, X, X', x, h => by
    unfold mE at h
    split at h
    · simp only [Bool.and_eq_true] at h
      obtain ⟨⟨⟨h1, h2⟩, h3⟩, h4⟩ := h
      exact both X' rfl rfl (c_sl X' (bimp2 h4) (sE a X' h1).1 ((sO lo X' trivial).1 h2) ((sO hi X' trivial).1 h3))
    · cases h
  | .lst es, C, W, sc, X, X', x, h => by
    unfold mE at h
    split at h
    · rw [Bool.and_eq_true] at h
      exact both X' rfl rfl (c_lst h.2 (sEs es X' h.1).1)
    · cases h
  | .tup es, C, W, sc, X, X', x, h => by
    unfold mE at h
    split at h
    · rw [Bool.and_eq_true] at h
      exact both X' rfl rfl (c_tup h.2 (sEs es X' h.1).1)
    · cases h
  | .dct ks es, C, W, sc, X, X', x, h => by
    unfold mE at h
    split at h
    · rename_i keys vals p
      simp only [Bool.and_eq_true, decide_eq_true_eq] at h
      obtain ⟨⟨⟨⟨⟨⟨⟨h1, h2⟩, h3⟩, h4⟩, h5⟩, h6⟩, h7⟩, h8⟩ := h
      obtain ⟨k1, k2⟩ := keysB_ok h1
      have z : PE X (.Dict keys vals p) (tE cs C W (.dct ks es)) := by
        refine (pe_disp ((sEs es X' h2).2.2.1 keys ks p h1 (by rw [h4, mEs_len h2])) k1 (by rw [k2, h4]) (fun e => by rw [e] at k2; exact absurd k2.symm (Nat.ne_of_gt h5)) (by rw [k2]; exact h6)).imp fun σ H Q h => ?_
        exact dct_read h3 (by rw [h4, mEs_len h2]) h6 h7 h
      exact ⟨z, fun _ => c_tru X' rfl rfl z⟩
    · cases h
  | .fn f es, C, W, sc, X, X', x, h => by
    unfold mE at h
    split at h
    · simp only [Bool.and_eq_true, decide_eq_true_eq] at h
      obtain ⟨⟨⟨⟨h1, h2⟩, h3⟩, h4⟩, h5⟩ := h
      exact both X' rfl rfl (c_fn X' h1 h2 h3 h4 (all_star h5) (sEs es X' h5).1)
    · cases h
  | .isi a t, C, W, sc, X, X', x, h => by
    unfold mE at h
    split at h
    · simp only [Bool.and_eq_true, decide_eq_true_eq] at h
      obtain ⟨⟨⟨⟨⟨⟨⟨⟨h1, h2⟩, h3⟩, h4⟩, h5⟩, h6⟩, h7⟩, h8⟩, h9⟩ := h
      exact both X' rfl rfl (c_isi X' h1 h2 h3 h5 h6 h7 h8 h9 (sE a X' h4).1)
    · cases h
  | .mt m a es, C, W, sc, X, X', x, h => by
    unfold mE at h
    split at h
    · rename_i o y p xs q
      simp only [Bool.and_eq_true, decide_eq_true_eq] at h
      obtain ⟨⟨⟨⟨⟨⟨⟨h1, h2⟩, h3⟩, h4⟩, h5⟩, h6⟩, h7⟩, h8⟩ := h
      have z : PE X (.Call (.Attribute o y p) xs [] q) (tE cs C W (.mt m a es)) := by
        match es, xs, h4, h8 with
        | .nil, [], h4, h8 =>
          have e : m = .upper := by cases m <;> first | rfl | cases h8
          subst e
          exact c_mt0 X' h1 h5 h6 (sE a X' h3).1
        | .cons b .nil, [w], h4, h8 =>
          unfold mEs at h4
          simp only [Bool.and_eq_true] at h4
          exact c_mt1 X' h1 h2 (fun e => by rw [e] at h8; cases h8) h5 h6 (bnot h7) h4.1.2 (sE a X' h3).1 (sE b X' h4.1.1.1).1
        | .cons b (.cons c r), [w], h4, h8 =>
          have z := mEs_len h4
          exact absurd z.symm (by unfold Es.len Es.len; simp)
        | .nil, w :: ws, h4, h8 => exact absurd (mEs_len h4) (by unfold Es.len; simp)
        | .cons b r, [], h4, h8 => exact absurd (mEs_len h4).symm (by unfold Es.len; simp)
        | .cons b r, w :: w' :: ws, h4, h8 =>
          have z : mtAr m ≤ 1 := by cases m <;> decide
          rw [← h8] at z
          exact absurd z (by simp)
      exact ⟨z, fun _ => c_tru X' rfl rfl z⟩
    · cases h
  | .call f as, C, W, sc, X, X', x, h => by
    unfold mE at h
    split at h
    · split at h
      · rename_i fn hT
        simp only [Bool.and_eq_true, decide_eq_true_eq] at h
        obtain ⟨⟨⟨⟨⟨⟨⟨h1, h2⟩, h3⟩, h4⟩, h5⟩, h6⟩, h7⟩, h8⟩ := h
        refine both X' rfl rfl (c_call X' hT h1 h2 h4 h5 (by rw [h7, h6]) (bnot h8) (as_star h3) (sAs as X' h3) (fun e => ?_))
        subst e
        cases as with
        | nil => rfl
        | v e r => unfold mAs at h3; cases h3
        | m i r => unfold mAs at h3; cases h3
      · cases h
    · cases h
  | .callK f as bs ks perm, C, W, sc, X, X', x, h => by
    unfold mE at h
    split at h
    · split at h
      · rename_i fn hT
        simp only [Bool.and_eq_true, decide_eq_true_eq] at h
        obtain ⟨⟨⟨⟨⟨⟨⟨⟨⟨⟨⟨h1, h2⟩, h3⟩, h4⟩, h5⟩, h6⟩, h7⟩, h8⟩, h9⟩, h10⟩, h11⟩, h12⟩ := h
        exact both X' rfl rfl (c_callK X' hT h1 h2 h3 h4 h5 h6 h7 h8 h9 h10 h11 (bnot h12) (sEs as X' h4).1 ((sEs bs X' h5).2.1 _ rfl))
      · cases h
    · cases h
  | .comp tg it c e, C, W, sc, X, X', x, h => by
    unfold mE at h
    split at h
    · simp only [Bool.and_eq_true, decide_eq_true_eq] at h
      obtain ⟨⟨⟨⟨⟨⟨⟨⟨h1, h2⟩, h3⟩, h4⟩, h5⟩, h6⟩, h7⟩, h8⟩, h9⟩ := h
      exact both X' rfl rfl (c_comp X' (sIt it X' h1) h2 h3 h4 (fun C' X'' Y => (sO c (x := none) Y trivial).2 h5) (fun C' X'' Y => (sE e Y h6).1) (bnot h7) h8)
    · cases h
  | .pr1 p a, C, W, sc, X, X', x, h => by
    unfold mE at h
    split at h
    · rename_i y hm
      rw [Bool.and_eq_true] at h
      exact both X' (p1_plain hm) rfl (c_pr1 X' hm (bnot h.2) (sE a X' h.1).1)
    · cases h
  | .mk c ps es, C, W, sc, X, X', x, h => by
    unfold mE at h
    split at h
    · split at h
      · rename_i xc hT
        simp only [Bool.and_eq_true, decide_eq_true_eq] at h
        obtain ⟨⟨⟨⟨⟨⟨⟨h1, h2⟩, h3⟩, h4⟩, h5⟩, h6⟩, h7⟩, h8⟩ := h
        subst h5
        exact both X' rfl rfl (c_mk X' hT (fun z => by rw [z] at h8; cases h8) h1 h2 h3 h4 (bnot h6) (sEs es X' h3).1)
      · cases h
    · cases h
  | .mkK c ps as bs ks perm, C, W, sc, X, X', x, h => by
    unfold mE at h
    split at h
    · split at h
      · rename_i xc hT
        simp only [Bool.and_eq_true, decide_eq_true_eq] at h
        obtain ⟨⟨⟨⟨⟨⟨⟨⟨⟨⟨⟨h1, h2⟩, h3⟩, h4⟩, h5⟩, h6⟩, h7⟩, h8⟩, h9⟩, h10⟩, h11⟩, h12⟩ := h
        subst h9
        exact both X' rfl rfl (c_mkK X' hT (fun z => by rw [z] at h12; cases h12) h1 h2 h3 h4 h5 h6 h7 h8 (bnot h10) h11 (sEs as X' h4).1 ((sEs bs X' h5).2.1 _ rfl))
      · cases h
    · cases h
theorem sO : ∀ (o : OE) {C : Ct} {W : WX} {sc : Scope} {X : Cx} (X' : XOk T cs k C W N sc X) {x : Option Expr}, True → (mO T N o sc x = true → PO X x (tO cs C W o)) ∧ ∀ {xs : List Expr}, mC T N o sc xs = true → PTs X xs (tC cs C W o)
  | .no, C, W, sc, X, X', x, _ => by
    refine ⟨fun h => ?_, fun {xs} h => ?_⟩
    · unfold mO at h
      cases x with
      | none => exact c_no
      | some y => cases h
    · unfold mC at h
      cases xs with
      | nil => exact ⟨fun pins s σ H Q I ⟨L, O, ρ, S, q⟩ => pts_nil.run pins s σ H Q I (Post.ok q S rfl)⟩
      | cons y ys => cases h
  | .yes e, C, W, sc, X, X', x, _ => by
    refine ⟨fun h => ?_, fun {xs} h => ?_⟩
    · unfold mO at h
      split at h
      · exact c_yes (sE e X' h).1
      · cases h
    · unfold mC at h
      split at h
      · rw [Bool.and_eq_true] at h
        exact pts_one ((sE e X' h.1).2 h.2)
      · cases h
theorem sEs : ∀ (es : Es) {C : Ct} {W : WX} {sc : Scope} {X : Cx} (X' : XOk T cs k C W N sc X) {xs : List Expr}, mEs T N es sc xs = true → PA X xs (tEs cs C W es) ∧ (∀ kws, kwVals kws = xs → PK X kws (tEs cs C W es)) ∧
    (∀ keys ks pos, keysB keys ks = true → ks.length = es.len → PPs X pos keys xs (trsOf cs C W ks es)) ∧ (es.noView = true → ∀ p, PE X (.BoolOp .And xs p) (tAndE cs C W es)) ∧ (es.noView = true → ∀ p, PE X (.BoolOp .Or xs p) (tOrE cs C W es)) ∧
    (es.tst = true → ∀ p, PW X (.BoolOp .And xs p) (tAndT cs C W es)) ∧ (es.tst = true → ∀ p, PW X (.BoolOp .Or xs p) (tOrT cs C W es))
  | .nil, C, W, sc, X, X', xs, h => by
    unfold mEs at h
    cases xs with
    | cons y ys => cases h
    | nil =>
      refine ⟨c_nil, fun kws e => ?_, fun keys ks pos hk hkl => ?_, fun _ p => ⟨fun pins s σ H Q I ⟨L, O, ρ, S, q⟩ => q.elim⟩, fun _ p => ⟨fun pins s σ H Q I ⟨L, O, ρ, S, q⟩ => q.elim⟩, fun _ p => ⟨fun wh pins s σ H Q I ⟨L, O, ρ, S, q⟩ => q.elim⟩, fun _ p => ⟨fun wh pins s σ H Q I ⟨L, O, ρ, S, q⟩ => q.elim⟩⟩
      · cases kws with
        | nil => exact c_knil
        | cons y ys => obtain ⟨_, _, _⟩ := y; exact nomatch (show _ :: kwVals ys = [] from e)
      · match keys, ks, hk with
        | [], [], _ => exact pps_nil
        | some _ :: _, _ :: _, _ => exact absurd hkl (by unfold Es.len; simp)
  | .cons e r, C, W, sc, X, X', xs, h => by
    unfold mEs at h
    cases xs with
    | nil => cases h
    | cons y ys =>
      simp only [Bool.and_eq_true] at h
      obtain ⟨⟨⟨h1, h2⟩, h3⟩, h4⟩ := h
      have ie := sE e X' h1
      have ir := sEs r X' h2
      refine ⟨c_cons (bimp h4) h3 ie.1 ir.1, fun kws e => ?_, fun keys ks pos hk hkl => ?_, fun hv p => ?_, fun hv p => ?_, fun ht p => ?_, fun ht p => ?_⟩
      · cases kws with
        | nil => exact nomatch (show [] = y :: ys from e)
        | cons w ws =>
          obtain ⟨nm, v, kp⟩ := w
          obtain ⟨rfl, e2⟩ := List.cons.inj (show v :: kwVals ws = y :: ys from e)
          exact c_kcons (bimp h4) ie.1 (ir.2.1 ws e2)
      · match keys, ks, hk with
        | [], [], _ => exact absurd hkl (by unfold Es.len; simp)
        | some kx :: keys, kk :: ks, hk =>
          have hk' : (keyB kx kk && keysB keys ks) = true := hk
          rw [Bool.and_eq_true] at hk'
          exact pps_cons (key_ok hk'.1) ⟨fun pins s σ H Q I ⟨D, o, q⟩ => (sE e (X'.with D o) h1).1.run pins s σ H Q I q⟩ (ir.2.2.1 keys ks pos hk'.2 (Nat.succ.inj hkl))
      · have hv' : (!e.isView && r.noView) = true := hv
        rw [Bool.and_eq_true] at hv'
        match r, ys, h2, ir with
        | .nil, [], _, _ => exact c_and1 (bnot hv'.1) ie.1
        | .cons e' r', z :: zs, _, ir => exact c_and ie.1 (ir.2.2.2.1 hv'.2 p)
        | .nil, _ :: _, h2, _ => unfold mEs at h2; cases h2
        | .cons _ _, [], h2, _ => unfold mEs at h2; cases h2
      · have hv' : (!e.isView && r.noView) = true := hv
        rw [Bool.and_eq_true] at hv'
        match r, ys, h2, ir with
        | .nil, [], _, _ => exact c_or1 (bnot hv'.1) ie.1
        | .cons e' r', z :: zs, _, ir => exact c_or ie.1 (ir.2.2.2.2.1 hv'.2 p)
        | .nil, _ :: _, h2, _ => unfold mEs at h2; cases h2
        | .cons _ _, [], h2, _ => unfold mEs at h2; cases h2
      · have ht' : (e.tst && r.tst) = true := ht
        rw [Bool.and_eq_true] at ht'
        match r, ys, h2, ir with
        | .nil, [], _, _ => exact c_and1T (ie.2 ht'.1)
        | .cons e' r', z :: zs, _, ir => exact c_andT (ie.2 ht'.1) (ir.2.2.2.2.2.1 ht'.2 p)
        | .nil, _ :: _, h2, _ => unfold mEs at h2; cases h2
        | .cons _ _, [], h2, _ => unfold mEs at h2; cases h2
      · have ht' : (e.tst && r.tst) = true := ht
        rw [Bool.and_eq_true] at ht'
        match r, ys, h2, ir with
        | .nil, [], _, _ => exact c_or1T (ie.2 ht'.1)
        | .cons e' r', z :: zs, _, ir => exact c_orT (ie.2 ht'.1) (ir.2.2.2.2.2.2 ht'.2 p)
        | .nil, _ :: _, h2, _ => unfold mEs at h2; cases h2
        | .cons _ _, [], h2, _ => unfold mEs at h2; cases h2
theorem sAs : ∀ (as : As) {C : Ct} {W : WX} {sc : Scope} {X : Cx} (X' : XOk T cs k C W N sc X) {xs : List Expr}, mAs T N as sc xs = true → PA X xs (tAs cs C W as)
  | .nil, C, W, sc, X, X', xs, h => by
    unfold mAs at h
    cases xs with
    | nil => exact c_anil
    | cons y ys => cases h
  | .v e r, C, W, sc, X, X', xs, h => by
    unfold mAs at h
    split at h
    · simp only [Bool.and_eq_true] at h
      obtain ⟨⟨⟨h1, h2⟩, h3⟩, h4⟩ := h
      exact c_av (bnot h4) h3 (sE e X' h1).1 (sAs r X' h2)
    · cases h
  | .m i r, C, W, sc, X, X', xs, h => by
    unfold mAs at h
    split at h
    · rw [Bool.and_eq_true] at h
      exact c_am X' h.1 (sAs r X' h.2)
    · cases h
theorem sIt : ∀ (it : It) {C : Ct} {W : WX} {sc : Scope} {X : Cx} (X' : XOk T cs k C W N sc X) {t x : Expr}, mIt T N it sc t x = true → PI X t x (tIt cs C W it)
  | .lst e, C, W, sc, X, X', t, x, h => by
    unfold mIt at h
    rw [Bool.and_eq_true] at h
    exact i_lst X' (bnot h.2) (sE e X' h.1).1
  | .tup e, C, W, sc, X, X', t, x, h => by
    unfold mIt at h
    rw [Bool.and_eq_true] at h
    exact i_tup X' (bnot h.2) (sE e X' h.1).1
  | .txt e, C, W, sc, X, X', t, x, h => by
    unfold mIt at h
    rw [Bool.and_eq_true] at h
    exact i_txt (bnot h.2) (sE e X' h.1).1
  | .rng e, C, W, sc, X, X', t, x, h => by
    unfold mIt at h
    split at h
    · simp only [Bool.and_eq_true, decide_eq_true_eq] at h
      obtain ⟨⟨⟨⟨⟨h1, h2⟩, h3⟩, h4⟩, h5⟩, h6⟩ := h
      exact i_rng X' h1 h2 h3 h5 (bnot h6) (sE e X' h4).1
    · cases h
  | .rng2 e e', C, W, sc, X, X', t, x, h => by
    unfold mIt at h
    split at h
    · simp only [Bool.and_eq_true, decide_eq_true_eq] at h
      obtain ⟨⟨⟨⟨⟨⟨⟨⟨h1, h2⟩, h3⟩, h4⟩, h5⟩, h6⟩, h7⟩, h8⟩, h9⟩ := h
      exact i_rng2 X' h1 h2 h3 h6 h7 (bnot h8) (bnot h9) (sE e X' h4).1 (sE e' X' h5).1
    · cases h
  | .enu e, C, W, sc, X, X', t, x, h => by
    unfold mIt at h
    split at h
    · split at h
      · simp only [Bool.and_eq_true, decide_eq_true_eq] at h
        obtain ⟨⟨⟨⟨⟨h1, h2⟩, h3⟩, h4⟩, h5⟩, h6⟩ := h
        exact i_enu X' h1 h2 h3 h5 (bnot h6) (sE e X' h4).1
      · cases h
    · cases h
end
end
end Mx


/-! Mx, part 5a: statements. -/
namespace Mx
open PySem PySem.Spec PyProof.Rows L2
/-- what a def gives -/
def RtR (C : Ct) (own : Bool) (O : List Addr) (H : Hp) (v : V) (d : IV) : Prop :=
  if own = true then ∃ p, v = .ref p ∧ p ∈ O ∧ p ∉ C.O0 ∧ C.H0 p = none ∧ Own C.K C.cl O H p d else Rep C.K C.cl O H v d
def PostS (C : Ct) (W : WX) (own : Bool) (O : List Addr) (H : Hp) (r : Out Fl) (D : Ends) : Prop := match r with
  | none => False
  | some (.ok .nx, ρ) => ∀ L' O' σ' H', Grow O H O' H' → SRel C L' O' σ' ρ H' → D.nx σ' H'
  | some (.ok .bk, ρ) => ∀ L' O' σ' H', Grow O H O' H' → SRel C L' O' σ' ρ H' → D.bk σ' H'
  | some (.ok .ct, ρ) => ∀ L' O' σ' H', Grow O H O' H' → SRel C L' O' σ' ρ H' → D.ct σ' H'
  | some (.ok (.rt d), ρ) => ∀ L' O' σ' v H', Grow O H O' H' → SRel C L' O' σ' ρ H' → RtR C own O' H' v d → D.rt v H'
  | some (.error x, ρ) => ∀ L' O' σ' c dd H', Grow O H O' H' → SRel C L' O' σ' ρ H' → XRep C.K C.cl O' H' c dd x → W c dd σ' H'
def tSt (C : Ct) (W : WX) (own : Bool) (m : R Fl) : TS := fun D σ H => ∃ L O ρ, SRel C L O σ ρ H ∧ PostS C W own O H (m ρ) D
section
variable {C : Ct} {W : WX} {own : Bool} {L O O1 : List Addr} {σ : L2.St} {H H1 : Hp} {ρ : List Sl} {D : Ends}
theorem PostS.mono {r : Out Fl} (g : Grow O H O1 H1) (h : PostS C W own O H r D) : PostS C W own O1 H1 r D := by
  match r, h with
  | some (.ok .nx, ρ), h => exact fun L' O' σ' H' g' S => h L' O' σ' H' (g.trans g') S
  | some (.ok .bk, ρ), h => exact fun L' O' σ' H' g' S => h L' O' σ' H' (g.trans g') S
  | some (.ok .ct, ρ), h => exact fun L' O' σ' H' g' S => h L' O' σ' H' (g.trans g') S
  | some (.ok (.rt d), ρ), h => exact fun L' O' σ' v H' g' S r => h L' O' σ' v H' (g.trans g') S r
  | some (.error x, ρ), h => exact fun L' O' σ' c dd H' g' S r => h L' O' σ' c dd H' (g.trans g') S r
theorem PostS.bind {α β : Type} {pr : Bool} {m : R α} {f : α → R Fl} {Rl : Hp → β → α → Prop} {Q1 : β → Hp → Prop} (h : PostS C W own O H (rBind m f ρ) D)
    (k : ∀ a ρ1 v H1, Keep O H H1 → SRel C L O σ ρ1 H1 → Rl H1 v a → PostS C W own O H1 (f a ρ1) D → Q1 v H1) : Post C L O σ W pr Rl H (m ρ) Q1 := by
  unfold rBind at h
  match hm : m ρ, h with
  | none, h => exact h
  | some (.error x, ρ1), h => exact fun c dd H' k' S xr => h L O σ c dd H' (.ofKeep k') S xr
  | some (.ok a, ρ1), h => exact fun v H1 k1 s1 S q => k a ρ1 v H1 k1 S q (PostS.mono (.ofKeep k1) h)
theorem PostS.bindO {m : R IV} {f : IV → R Fl} {Q1 : VK} (h : PostS C W own O H (rBind m f ρ) D)
    (k : ∀ d ρ1 p H1, H p = none → p ∉ O → C.H0 p = none → Keep O H H1 → SRel C L O σ ρ1 H1 → SRel C L (p :: O) σ ρ1 H1 → Own C.K C.cl (p :: O) H1 p d → PostS C W own O H (f d ρ1) D → Q1 (.ref p) H1) : PostO C L O σ W H (m ρ) Q1 := by
  unfold rBind at h
  match hm : m ρ, h with
  | none, h => exact h
  | some (.error x, ρ1), h => exact fun c dd H' k' S xr => h L O σ c dd H' (.ofKeep k') S xr
  | some (.ok a, ρ1), h => exact fun p H1 hp np h0 k1 S S' w => k a ρ1 p H1 hp np h0 k1 S S' w h
theorem PostS.nx {ρ : List Sl} (h : PostS C W own O H (some (.ok .nx, ρ)) D) (S : SRel C L O σ ρ H) : D.nx σ H := h L O σ H (.refl O H) S
theorem Grow.cons {p : Addr} (k : Keep O H H1) (hp : H p = none) : Grow O H (p :: O) H1 := ⟨k, fun a h => List.mem_cons_of_mem _ h, fun a h => by
  rcases List.mem_cons.mp h with z | z
  · rw [z]; exact .inr hp
  · exact .inl z⟩
end
section
variable {T : Tab} {cs : CS} {k : Nat} {C : Ct} {W : WX} {N : List Str} {sc : Scope} {X : Cx} {own : Bool} {nF : Nat}
theorem _root_.L2.PS.imp {e : Stmt} {t t' : TS} (h : PS X e t) (hi : ∀ D σ H, t' D σ H → t D σ H) : PS X e t' := ⟨fun pins s σ H D I q => h.run pins s σ H D I (hi D σ H q)⟩
theorem _root_.L2.PSs.imp {e : List Stmt} {t t' : TS} (h : PSs X e t) (hi : ∀ D σ H, t' D σ H → t D σ H) : PSs X e t' := ⟨fun pins s σ H D I q => h.run pins s σ H D I (hi D σ H q)⟩
theorem notComp_ok {v : Expr} (h : notComp v = true) (t : Option Expr) (l : Nat) (env : Env) : swapsWith v t l env = pure false := by
  cases v <;> first | rfl | cases h
theorem swap_ok {a : Expr} {g : List Comprehension} {s : Scope} {q : Pos} {y : Str} {p : Pos} {l : Nat} {env : Env} (hk : env.scope.kind = .function) : swapsWith (.ListComp a g s q) (some (.Name y p)) l env = pure (swapB env.scope y p (.ListComp a g s q)) := by
  have e : env.blockKind = .function := by unfold Env.blockKind; rw [hk]; rfl
  show (pure (env.blockKind == .function && env.kindOf y == some .local && p.line == (Expr.ListComp a g s q).pos.line && !(s.names.any fun (n, k) => n == y && (k == .local || k == .cell))) : Sem Bool) = _
  rw [e]
  show pure ((env.scope.names.lookup y == some .local) && _ && _) = _
  have e2 : (env.scope.names.lookup y == some NameKind.local) = decide (env.scope.names.lookup y = some .local) := by
    by_cases hl : env.scope.names.lookup y = some .local
    · rw [hl]; rfl
    · rw [decide_eq_false hl]
      cases hv : env.scope.names.lookup y with
      | none => rfl
      | some kk => rw [hv] at hl; cases kk <;> first | rfl | exact absurd rfl hl
  rw [e2]
  rfl
/-- where a def's statements are read -/
structure XSt (T : Tab) (cs : CS) (k : Nat) (C : Ct) (W : WX) (N : List Str) (sc : Scope) (X : Cx) : Prop where
  ok : XOk T cs k C W N sc X
  hsc : X.env.scope = sc
  kind : sc.kind = .function
  sto : Sto N sc X
theorem XSt.nd (Y : XSt T cs k C W N sc X) : X.N.Nodup := by rw [Y.ok.hN]; exact Y.ok.nd
theorem s_comp (X' : XOk T cs k C W N sc X) {tg : List Nat} {it : It} {c : OE} {e : E} {t iter elt : Expr} {ifs : List Expr} {scope : Scope} {pos spos : Pos} {i : Nat} {y : Str} {py : Pos} (hy : X.N[i]? = some y) (hyl : X.env.scope.names.lookup y = some .local)
    (hsw : swapsWith (.ListComp elt [⟨t, iter, ifs, 0⟩] scope pos) (some (.Name y py)) spos.line X.env = pure true) (hi : PI X t iter (tIt cs C W it)) (hs : noSet iter = true)
    (hb : blkC N sc scope (tg.filterMap fun i => N[i]?.map fun n => (n, i)) = true) (ht : tgB N scope tg t = true) (hc : ∀ C' X'', XOk T cs k C' W0 N scope X'' → PTs X'' ifs (tC cs C' W0 c)) (he : ∀ C' X'', XOk T cs k C' W0 N scope X'' → PE X'' elt (tE cs C' W0 e))
    (hv : e.isView = false) (hl : tg.all (fun i => decide (i < N.length)) = true) : PS X (.Assign [.Name y py] (.ListComp elt [⟨t, iter, ifs, 0⟩] scope pos) spos) (tAsg (tE cs C W (.comp tg it c e)) (gName i)) := by
  have ok := blkOk_by hb
  have ok : BlkOk X.N X.env.scope scope (tg.filterMap fun i => N[i]?.map fun n => (n, i)) := by
    rw [X'.hN]
    exact ⟨ok.kind, ok.uniq, ok.ix, fun y hy e => X'.frex _ (ok.free y hy e), ok.own⟩
  have z := ps_setLc (X := X) (elt := elt) (tg := t) (ifs := ifs) (pos := pos) (te := fun σ H Q => ∃ D o, tE cs (C.with D o) W0 e σ H Q) (tt := fun σ H Q => ∃ D o, tC cs (C.with D o) W0 c σ H Q) (g := gTg X.K tg) X'.calm (by rw [X'.hN]; exact X'.nd) hy hyl hsw hi ok (fun s H B cl fp => pg_of (X := X.blk s H scope (compEnvC scope cl B X.env) fp) (show X.N.Nodup by rw [X'.hN]; exact X'.nd) X'.calm (sto_blk X' s H scope cl B fp) ht)
    (fun s H B cl fp => ⟨fun pins s' σ H' Q I ⟨D, o, q⟩ => (hc _ _ ((X'.blk s H scope cl B fp).with D o)).run pins s' σ H' Q I q⟩)
    (fun s H B cl fp => ⟨fun pins s' σ H' Q I ⟨D, o, q⟩ => (he _ _ ((X'.blk s H scope cl B fp).with D o)).run pins s' σ H' Q I q⟩) (fun x => noSet_ok hs _ x)
  rw [own_ix hl] at z
  exact z.imp fun D σ H h => lc_read (CK := X'.CK) hv h
/-! ### name = value -/
theorem asg_read {i : Nat} {e : E} (hv : e.isView = false) {D : Ends} {σ : L2.St} {H : Hp} (h : tSt C W own (evS cs nF (.asg i e)) D σ H) : tAsg (tE cs C W e) (gName i) D σ H := by
  obtain ⟨L, O, ρ, S, q⟩ := h
  refine ⟨L, O, ρ, S, PostS.bind q fun d ρ1 v H1 k1 S1 r1 h1 => ?_⟩
  exact PostS.nx h1 (S1.setI (r1.2 hv) i)
theorem s_asg (Y : XSt T cs k C W N sc X) {i : Nat} {e : E} {y : Str} {v : Expr} {p pos : Pos} (hs : storeB N sc i y = true) (hm : mE T N e sc v = true) (hv : e.isView = false) (hc : (notComp v || isComp e) = true) :
    PS X (.Assign [.Name y p] v pos) (tSt C W own (evS cs nF (.asg i e))) := by
  obtain ⟨h1, h2, h3⟩ := Y.sto i y hs
  have plain : swapsWith v (some (.Name y p)) pos.line X.env = pure false → PS X (.Assign [.Name y p] v pos) (tSt C W own (evS cs nF (.asg i e))) := fun hw =>
    (ps_set Y.nd h1 h2 (sE e Y.ok hm).1 hw h3).imp fun D σ H h => asg_read hv h
  rw [Bool.or_eq_true] at hc
  rcases hc with hc | hc
  · exact plain (notComp_ok hc _ _ _)
  · match e, hc, hv, hm, plain with
    | .comp tg it c e, _, hv, hm, plain =>
      unfold mE at hm
      split at hm
      · rename_i elt t iter ifs scope q _ _
        have kd : X.env.scope.kind = .function := by rw [Y.hsc]; exact Y.kind
        have sw := swap_ok (a := elt) (g := [⟨t, iter, ifs, 0⟩]) (s := scope) (q := q) (y := y) (p := p) (l := pos.line) kd
        cases hb : swapB X.env.scope y p (.ListComp elt [⟨t, iter, ifs, 0⟩] scope q) with
        | false => rw [hb] at sw; exact plain sw
        | true =>
          rw [hb] at sw
          have loc : X.env.scope.names.lookup y = some .local := by
            have hb : (decide (X.env.scope.names.lookup y = some .local) && (p.line == (Expr.ListComp elt [⟨t, iter, ifs, 0⟩] scope q).pos.line) && !(scope.names.any fun (n, k) => n == y && (k == .local || k == .cell))) = true := hb
            rw [Bool.and_eq_true, Bool.and_eq_true, decide_eq_true_eq] at hb
            exact hb.1.1
          simp only [Bool.and_eq_true, decide_eq_true_eq] at hm
          obtain ⟨⟨⟨⟨⟨⟨⟨⟨m1, m2⟩, m3⟩, m4⟩, m5⟩, m6⟩, m7⟩, m8⟩, m9⟩ := hm
          have z := s_comp Y.ok h1 loc sw (sIt it Y.ok m1) m2 m3 m4 (fun C' X'' Y => (sO c (x := none) Y trivial).2 m5) (fun C' X'' Y => (sE e Y m6).1) (bnot m7) m8
          exact z.imp fun D σ H h => asg_read hv h
      · cases hm
/-! ### name = a new object -/
theorem pe_own (X' : XOk T cs k C W N sc X) {e : E} {v : Expr} (h : mEO T N e sc v = true) : PE X v (tEO cs C W e) := by
  unfold mEO at h
  rw [Bool.and_eq_true] at h
  obtain ⟨h, h'⟩ := h
  match e, h, h' with
  | .lst es, h, _ =>
    unfold mE at h
    split at h
    · rw [Bool.and_eq_true] at h
      exact c_lstO h.2 (sEs es X' h.1).1
    · cases h
  | .call f as, h, h' =>
    unfold mE at h
    split at h
    · split at h
      · rename_i fn hT
        have h' : (match T.fns f with | some fn => fn.own | none => false) = true := h'
        rw [hT] at h'
        simp only [Bool.and_eq_true, decide_eq_true_eq] at h
        obtain ⟨⟨⟨⟨⟨⟨⟨h1, h2⟩, h3⟩, h4⟩, h5⟩, h6⟩, h7⟩, h8⟩ := h
        refine c_callO X' hT h' h1 h2 h4 h5 (by rw [h7, h6]) (bnot h8) (as_star h3) (sAs as X' h3) (fun e => ?_)
        subst e
        cases as with
        | nil => rfl
        | v e r => unfold mAs at h3; cases h3
        | m i r => unfold mAs at h3; cases h3
      · cases h
    · cases h
theorem s_asgO (Y : XSt T cs k C W N sc X) {i : Nat} {e : E} {y : Str} {v : Expr} {p pos : Pos} (hs : storeB N sc i y = true) (hm : mEO T N e sc v = true) (hc : notComp v = true) : PS X (.Assign [.Name y p] v pos) (tSt C W own (evS cs nF (.asgO i e))) := by
  obtain ⟨h1, h2, h3⟩ := Y.sto i y hs
  refine (ps_set Y.nd h1 h2 (pe_own Y.ok hm) (notComp_ok hc _ _ _) h3).imp fun D σ H ⟨L, O, ρ, S, q⟩ => ?_
  refine ⟨L, O, ρ, S, PostS.bindO q fun d ρ1 p H1 hp np h0 k1 S1 S1' w h1 => ?_⟩
  exact h1 (p :: L) (p :: O) _ H1 (.cons k1 hp) (S1.setO S1' np h0 w i)
/-! ### a, b = value -/
theorem s_unp (Y : XSt T cs k C W N sc X) {is : List Nat} {e : E} {ts : List Expr} {j : Nat} {v : Expr} {p pos : Pos} (ht : tgB N sc is (.Tuple ts j p) = true) (hm : mE T N e sc v = true) (hv : e.isView = false) (hn : notTup v = true) : PS X (.Assign [.Tuple ts j p] v pos) (tSt C W own (evS cs nF (.unp is e))) := by
  have hs : swapsWithSole [.Tuple ts j p] v pos.line X.env = pure false := by cases v <;> rfl
  have hw : swappedStores [.Tuple ts j p] v X.env = pure none := by cases v <;> first | rfl | cases hn
  refine (ps_asg (sE e Y.ok hm).1 (pg_of Y.nd Y.ok.calm Y.sto ht) hs hw rfl).imp fun D σ H ⟨L, O, ρ, S, q⟩ => ?_
  refine ⟨L, O, ρ, S, PostS.bind q fun d ρ1 v H1 k1 S1 r1 h1 => ?_⟩
  rw [← Y.ok.CK]
  unfold rBind at h1
  match ht : rTg is d ρ1, h1 with
  | none, h1 => exact h1.elim
  | some (.error x, ρ2), h1 => cases rTg_ok ht
  | some (.ok u, ρ2), h1 => exact tg_read S1 (r1.2 hv) ht fun σ' S' _ _ => PostS.nx h1 S'
/-! ### name[i] = value -/
theorem s_setI (Y : XSt T cs k C W N sc X) {i : Nat} {kk v : E} {y : Str} {z w : Expr} {p p' pos : Pos} (hs : slotB N sc i y = true) (hk : mE T N kk sc z = true) (hm : mE T N v sc w = true) (hkv : kk.isView = false) (hvv : v.isView = false) (hz : notSlice z = true) (hc : notComp w = true) :
    PS X (.Assign [.Subscript (.Name y p) z p'] w pos) (tSt C W own (evS cs nF (.setI i kk v))) := by
  obtain ⟨h1, h2, h3, h4⟩ := Y.ok.vis hs
  have hsw : swapsWithSole [.Subscript (.Name y p) z p'] w pos.line X.env = pure false := by cases w <;> first | rfl | cases hc
  have hw : swappedStores [.Subscript (.Name y p) z p'] w X.env = pure none := by cases w <;> rfl
  have ha : ∀ u, assign (.Subscript (.Name y p) z p') X.env u = (do
      let ov ← holding [u] (eval (.Name y p) X.env)
      let iv ← holding [u, ov] (eval z X.env)
      standAt p'
      holding [u, ov, iv] (setItem ov iv u)
      release [u, ov, iv] []) := fun u => by cases z <;> first | rfl | cases hz
  refine (ps_asg (sE v Y.ok hm).1 (pg_sub (pe_var h1 h2 h3 h4) (sE kk Y.ok hk).1 set_list ha) hsw hw rfl).imp fun D σ H ⟨L, O, ρ, S, q⟩ => ?_
  refine ⟨L, O, ρ, S, PostS.bind q fun dv ρ1 vv H1 k1 S1 r1 q1 => ?_⟩
  have rv := r1.2 hvv
  have q1 : PostS C W own O H1 ((rBind (rView i) fun _ => rBind (ev cs kk).1 fun x => rPut i (setD x dv)) ρ1) D := q1
  have hex : ∃ a, σ[i]? = some (some (.ref a)) ∧ PostS C W own O H1 ((rBind (ev cs kk).1 fun x => rPut i (setD x dv)) ρ1) D := by
    have go : ∀ (r : Sl) (d : IV), ρ1[i]? = some r → r.mut = some d → ∃ a, σ[i]? = some (some (.ref a)) := fun r d hr hm => by
      obtain ⟨a, ea, _⟩ := S1.mutAt hr hm
      exact ⟨a, ea⟩
    unfold rBind rView at q1
    match hr : ρ1[i]?, q1 with
    | some (.o d), q1 => obtain ⟨a, ea⟩ := go _ d hr rfl; exact ⟨a, ea, q1⟩
    | some (.b d), q1 => obtain ⟨a, ea⟩ := go _ d hr rfl; exact ⟨a, ea, q1⟩
  obtain ⟨a, ea, q1⟩ := hex
  refine ⟨.ref a, ea, ?_⟩
  refine ⟨L, O, ρ1, S1, PostS.bind q1 fun dk ρ2 vk H2 k2 S2 r2 q2 => ?_⟩
  have rk := r2.2 hkv
  unfold rPut at q2
  match hr : ρ2[i]?, q2 with
  | some r, q2 =>
    have q2 : PostS C W own O H2 ((match r.mut with
      | some d => match setD dk dv d with
        | some d' => some (.ok Fl.nx, ρ2.set i (r.put d'))
        | none => none
      | none => none : Out Fl)) D := q2
    match hmu : r.mut, q2 with
    | some d, q2 =>
      have q2 : PostS C W own O H2 ((match setD dk dv d with
        | some d' => some (.ok Fl.nx, ρ2.set i (r.put d'))
        | none => none : Out Fl)) D := q2
      match hd : setD dk dv d, q2 with
      | some d', q2 =>
        obtain ⟨a', ea', haO, ow, _⟩ := S2.mutAt hr hmu
        rw [ea] at ea'
        cases ea'
        match d, dk, hd, ow, rk with
        | .lst xs, .int n, hd, .lst (vs := vs) hH ra, rk =>
          cases rk
          have hd : ((ixN xs.length n).map fun j => IV.lst (xs.set j dv)) = some d' := hd
          cases hj : ixN xs.length n with
          | none => rw [hj] at hd; cases hd
          | some j =>
            rw [hj] at hd
            cases hd
            refine ⟨a, vs, n, j, rfl, rfl, hH, by rw [ra.length]; exact hj, ?_⟩
            have kp : Keep O H2 (upd H2 a (.lst (vs.set j vv))) := fun b o nb e => by rw [upd_ne (fun z : b = a => nb (z ▸ haO))]; exact e
            have S3 := S2.put (H' := upd H2 a (.lst (vs.set j vv))) (d' := .lst (xs.set j dv)) hr (by rw [hmu]; rfl) ea (fun b o nb e => by rw [upd_ne nb]; exact e) (.lst upd_same ((RepAll.set (rv.keep k2) j ra).keep kp))
            exact q2 L O _ _ (.ofKeep kp) S3
/-! ### name.append(value) -/
theorem s_app (Y : XSt T cs k C W N sc X) {i : Nat} {e : E} {y m : Str} {v : Expr} {p p' q pos : Pos} (hm : m = ("append" : Str)) (hs : slotB N sc i y = true) (he : mE T N e sc v = true) (hv : e.isView = false) (hst : notStar v = true) (hl : (p'.endLine == q.line) = true) :
    PS X (.Expr (.Call (.Attribute (.Name y p) m p') [v] [] q) pos) (tSt C W own (evS cs nF (.app i e))) := by
  subst hm
  obtain ⟨h1, h2, h3, h4⟩ := Y.ok.vis hs
  have few : ((backTo q (starEach [v] X.env)).all (fun x => !x.1) && (backToKw q (keywordEach [] X.env)).all (fun x => x.1.isSome) && decide (([v] : List Expr).length + ([] : List Keyword).length + (if ([] : List Keyword).isEmpty then 0 else 1) < 30)) = true := by
    rw [star1 hst]; rfl
  refine (ps_expr (pe_bm F.plainAttrs_list F.slot_list_append F.type_list_append mt_append (pe_var h1 h2 h3 h4) (pa_cons (sE e Y.ok he).1 pa_nil (star1 hst _)) rfl few hl (star1 hst _) rfl) rfl).imp fun D σ H ⟨L, O, ρ, S, q⟩ => ?_
  have q : PostS C W own O H ((rBind (rView i) fun d => rBind (rLift (seqL d)) fun _ => rBind (ev cs e).1 fun x => rPut i (appD x)) ρ) D := q
  have hex : ∃ a xs, σ[i]? = some (some (.ref a)) ∧ Own C.K C.cl O H a (.lst xs) ∧ PostS C W own O H ((rBind (ev cs e).1 fun x => rPut i (appD x)) ρ) D := by
    have go : ∀ (r : Sl) (d : IV), ρ[i]? = some r → r.mut = some d → PostS C W own O H ((rBind (rLift (seqL d)) fun _ => rBind (ev cs e).1 fun x => rPut i (appD x)) ρ) D → ∃ a xs, σ[i]? = some (some (.ref a)) ∧ Own C.K C.cl O H a (.lst xs) ∧ PostS C W own O H ((rBind (ev cs e).1 fun x => rPut i (appD x)) ρ) D := fun r d hr hm q => by
      obtain ⟨a, ea, _, w, _⟩ := S.mutAt hr hm
      match d, w, q with
      | .lst xs, w, q => exact ⟨a, xs, ea, w, q⟩
    unfold rBind rView at q
    match hr : ρ[i]?, q with
    | some (.o d), q => exact go _ d hr rfl q
    | some (.b d), q => exact go _ d hr rfl q
  obtain ⟨a, xs, ea, w, q⟩ := hex
  have ty : tyV X.K "list" (.ref a) H := by
    cases w with
    | lst h r => exact .inl ⟨rfl, _, .inl (.inl h)⟩
  refine ⟨.ref a, ea, ty, L, O, ρ, S, PostS.bind q fun dv ρ1 vv H1 k1 S1 r1 q1 => ?_⟩
  have rv := r1.2 hv
  unfold rPut at q1
  match hr : ρ1[i]?, q1 with
  | some r, q1 =>
    have q1 : PostS C W own O H1 ((match r.mut with
      | some d => (match appD dv d with
        | some d' => some (.ok Fl.nx, ρ1.set i (r.put d'))
        | none => none)
      | none => none : Out Fl)) D := q1
    match hmu : r.mut, q1 with
    | some d, q1 =>
      have q1 : PostS C W own O H1 ((match appD dv d with
        | some d' => some (.ok Fl.nx, ρ1.set i (r.put d'))
        | none => none : Out Fl)) D := q1
      match hd : appD dv d, q1 with
      | some d', q1 =>
        obtain ⟨a', ea', haO, ow, _⟩ := S1.mutAt hr hmu
        rw [ea] at ea'
        cases ea'
        match d, hd, ow with
        | .lst ys, hd, .lst (vs := vs) hH ra =>
          have hd : (if ys.length < SZ then some (IV.lst (ys ++ [dv])) else none) = some d' := hd
          by_cases hz : ys.length < SZ
          case neg => rw [if_neg hz] at hd; cases hd
          rw [if_pos hz] at hd
          cases hd
          refine ⟨a, vs, vv, rfl, rfl, hH, by rw [ra.length, sizeLine_eq]; exact hz, ?_⟩
          have kp : Keep O H1 (upd H1 a (.lst (vs ++ [vv]))) := fun b o nb e => by rw [upd_ne (fun z : b = a => nb (z ▸ haO))]; exact e
          have S3 := S1.put (H' := upd H1 a (.lst (vs ++ [vv]))) (d' := .lst (ys ++ [dv])) hr (by rw [hmu]; rfl) ea (fun b o nb e => by rw [upd_ne nb]; exact e) (.lst upd_same ((ra.append (.cons rv .nil)).keep kp))
          exact q1 L O _ _ (.ofKeep kp) S3
/-! ### the others -/
theorem s_drop (Y : XSt T cs k C W N sc X) {e : E} {v : Expr} {pos : Pos} (hm : mE T N e sc v = true) (hc : notComp v = true) : PS X (.Expr v pos) (tSt C W own (evS cs nF (.drop e))) := by
  refine (ps_expr (sE e Y.ok hm).1 (notComp_ok hc _ _ _)).imp fun D σ H ⟨L, O, ρ, S, q⟩ => ?_
  exact ⟨L, O, ρ, S, PostS.bind q fun d ρ1 v H1 k1 S1 r1 h1 => PostS.nx h1 S1⟩
theorem s_ret (Y : XSt T cs k C W N sc X) {e : E} {v : Expr} {pos : Pos} (hm : mE T N e sc v = true) (hv : e.isView = false) : PS X (.Return (some v) pos) (tSt C W false (evS cs nF (.ret e))) := by
  refine (ps_ret (sE e Y.ok hm).1).imp fun D σ H ⟨L, O, ρ, S, q⟩ => ?_
  exact ⟨L, O, ρ, S, PostS.bind q fun d ρ1 v H1 k1 S1 r1 h1 => h1 L O σ v H1 (.refl O H1) S1 (r1.2 hv)⟩
theorem s_retOwn (Y : XSt T cs k C W N sc X) {e : E} {v : Expr} {pos : Pos} (hm : mEO T N e sc v = true) : PS X (.Return (some v) pos) (tSt C W true (evS cs nF (.ret e))) := by
  refine (ps_ret (pe_own Y.ok hm)).imp fun D σ H ⟨L, O, ρ, S, q⟩ => ?_
  refine ⟨L, O, ρ, S, PostS.bindO q fun d ρ1 p H1 hp np h0 k1 S1 S1' w h1 => ?_⟩
  exact h1 L (p :: O) σ _ H1 (.cons k1 hp) S1' ⟨p, rfl, List.mem_cons_self, fun z => np (S1.sub p z), h0, w⟩
theorem s_retO (Y : XSt T cs k C W N sc X) {i : Nat} {y : Str} {p pos : Pos} (hs : slotB N sc i y = true) : PS X (.Return (some (.Name y p)) pos) (tSt C W true (evS cs nF (.retO i))) := by
  obtain ⟨h1, h2, h3, h4⟩ := Y.ok.vis hs
  refine (ps_ret (pe_var h1 h2 h3 h4)).imp fun D σ H ⟨L, O, ρ, S, q⟩ => ?_
  have q : PostS C W true O H ((match ρ[i]? with
    | some (.o d) => some (.ok (.rt d), ρ)
    | _ => none : Out Fl)) D := q
  match hr : ρ[i]?, q with
  | some (.o d), q =>
    have hi : i < σ.length := by rw [S.len]; exact (List.getElem?_eq_some_iff.mp hr).1
    have hs : σ[i]? = some σ[i] := List.getElem?_eq_getElem hi
    obtain ⟨a, ea, n1, n2, n3, w⟩ := S.slot i _ _ hs hr
    exact ⟨.ref a, by rw [hs, ea], q L O σ _ H (.refl O H) S ⟨a, rfl, S.lsub a n1, n2, n3, w⟩⟩
theorem s_retN {pos : Pos} : PS X (.Return none pos) (tSt C W false (evS cs nF .retN)) :=
  ps_retN.imp fun D σ H ⟨L, O, ρ, S, q⟩ => q L O σ .non H (.refl O H) S .non
theorem s_if {c : E} {a b : Ss} {y : Expr} {z w : List Stmt} {pos : Pos} (hc : PT X y (tT cs C W c)) (ha : PSs X z (tSt C W own (evSs cs nF a))) (hb : PSs X w (tSt C W own (evSs cs nF b))) : PS X (.If y z w pos) (tSt C W own (evS cs nF (.ite c a b))) := by
  refine (ps_if hc ha hb).imp fun D σ H ⟨L, O, ρ, S, q⟩ => ?_
  refine ⟨L, O, ρ, S, PostS.bind q fun t ρ1 b H1 k1 S1 r1 h1 => ?_⟩
  cases r1
  cases t with
  | true => rw [if_pos rfl] at h1 ⊢; exact ⟨L, O, ρ1, S1, h1⟩
  | false => rw [if_neg Bool.false_ne_true] at h1 ⊢; exact ⟨L, O, ρ1, S1, h1⟩
/-- the flow of a loop's body -/
theorem body_read {m : R Fl} {g : R Fl} {ρ : List Sl} {O : List Addr} {H : Hp} {D : Ends} {Nx : L2.St → Hp → Prop} (h : PostS C W own O H (rBind m (fun f => match f with | .nx => g | .ct => g | .bk => rPure .nx | .rt d => rPure (.rt d)) ρ) D)
    (k : ∀ ρ1 L' O' σ' H', Grow O H O' H' → SRel C L' O' σ' ρ1 H' → PostS C W own O' H' (g ρ1) D → Nx σ' H') : PostS C W own O H (m ρ) { D with nx := Nx, ct := Nx, bk := D.nx } := by
  unfold rBind at h
  match hm : m ρ, h with
  | none, h => exact h
  | some (.error x, ρ1), h => exact h
  | some (.ok .nx, ρ1), h => exact fun L' O' σ' H' g' S => k ρ1 L' O' σ' H' g' S (PostS.mono g' h)
  | some (.ok .ct, ρ1), h => exact fun L' O' σ' H' g' S => k ρ1 L' O' σ' H' g' S (PostS.mono g' h)
  | some (.ok .bk, ρ1), h => exact h
  | some (.ok (.rt d), ρ1), h => exact h
theorem s_whl (Y : XSt T cs k C W N sc X) {c : E} {b : Ss} {y : Expr} {z : List Stmt} {pos : Pos} (hc : PT X y (tT cs C W c)) (hb : PSs X z (tSt C W own (evSs cs nF b))) : PS X (.While y z [] pos) (tSt C W own (evS cs nF (.whl c b))) := by
  refine (ps_while Y.ok.po hc hb).imp fun D σ H ⟨L, O, ρ, S, q⟩ => ?_
  refine ⟨fun m σ H => ∃ L O ρ, SRel C L O σ ρ H ∧ PostS C W own O H (rWhile (ev cs c).2 (evSs cs nF b) m ρ) D, ⟨nF, L, O, ρ, S, q⟩, ?_⟩
  rintro m σ H ⟨L, O, ρ, S, q⟩
  cases m with
  | zero => exact q.elim
  | succ n =>
    refine ⟨L, O, ρ, S, PostS.bind q fun t ρ1 b' H1 k1 S1 r1 h1 => ?_⟩
    cases r1
    cases t with
    | false => rw [if_neg Bool.false_ne_true] at h1 ⊢; exact PostS.nx h1 S1
    | true =>
      rw [if_pos rfl] at h1 ⊢
      refine ⟨fun σ H => ∃ L O ρ, SRel C L O σ ρ H ∧ PostS C W own O H (rWhile (ev cs c).2 (evSs cs nF b) n ρ) D, fun σ' H' z => ⟨n, Nat.lt_succ_self n, z⟩, ?_⟩
      exact ⟨L, O, ρ1, S1, body_read h1 fun ρ2 L' O' σ' H' g' S' q' => ⟨L', O', ρ2, S', q'⟩⟩
theorem s_for (Y : XSt T cs k C W N sc X) {tg : List Nat} {it : It} {b : Ss} {t iter : Expr} {z : List Stmt} {pos : Pos} (ht : tgB N sc tg t = true) (hi : PI X t iter (tIt cs C W it)) (hs : noSet iter = true) (hb : PSs X z (tSt C W own (evSs cs nF b))) :
    PS X (.For t iter z [] pos) (tSt C W own (evS cs nF (.loop tg it b))) := by
  refine (ps_for Y.ok.po Y.ok.calm hi (pg_of Y.nd Y.ok.calm Y.sto ht) hb (fun x => noSet_ok hs _ x)).imp fun D σ H ⟨L, O, ρ, S, q⟩ => ?_
  refine ⟨L, O, ρ, S, PostS.bind q fun ds ρ1 J H1 k1 S1 w h1 => ?_⟩
  obtain ⟨G, Yy, wk, hG, hY⟩ := w
  refine for_it wk (fun i σ H => ∃ L' O' ρ', Grow O H1 O' H ∧ SRel C L' O' σ ρ' H ∧ PostS C W own O' H (rFor tg (evSs cs nF b) (ds.drop i) ρ') D) ⟨L, O, ρ1, .refl O H1, S1, h1⟩ ?_ ?_ ?_
  · rintro i σ2 H2 _ ⟨L', O', ρ', g, _⟩
    exact hG O' H2 g
  · rintro i x σ2 H2 H3 hi ⟨L', O', ρ', g, S2, q2⟩ y
    have hdi : ds[i]? = some ds[i] := List.getElem?_eq_getElem hi
    obtain ⟨sm, rx⟩ := hY i O' H2 x H3 ds[i] g S2.live hdi y
    rw [List.drop_eq_getElem_cons hi] at q2
    have q2 := PostS.mono (.ofKeep (.same sm)) q2
    have q2 : PostS C W own O' H3 ((rBind (rTg tg ds[i]) fun _ => rBind (evSs cs nF b) fun f => match f with | .nx => rFor tg (evSs cs nF b) (ds.drop (i + 1)) | .ct => rFor tg (evSs cs nF b) (ds.drop (i + 1)) | .bk => rPure .nx | .rt d => rPure (.rt d)) ρ') D := q2
    rw [← Y.ok.CK]
    unfold rBind at q2
    match hr : rTg tg ds[i] ρ', q2 with
    | none, q2 => exact q2.elim
    | some (.error e, ρ2), q2 => cases rTg_ok hr
    | some (.ok u, ρ2), q2 =>
      refine tg_read (S2.same sm) rx hr fun σ' S' _ _ => ⟨L', O', ρ2, S', ?_⟩
      exact body_read q2 fun ρ3 L3 O3 σ3 H4 g3 S3 q3 => ⟨L3, O3, ρ3, (g.trans (.ofKeep (.same sm))).trans g3, S3, q3⟩
  · rintro σ2 H2 ⟨L', O', ρ', g, S2, q2⟩
    rw [List.drop_length] at q2
    exact PostS.nx q2 S2
theorem s_nil : PSs X [] (tSt C W own (evSs cs nF .nil)) := pss_nil.imp fun D σ H ⟨L, O, ρ, S, q⟩ => PostS.nx q S
theorem s_cons {s : S} {r : Ss} {y : Stmt} {ys : List Stmt} (hs : PS X y (tSt C W own (evS cs nF s))) (hr : PSs X ys (tSt C W own (evSs cs nF r))) : PSs X (y :: ys) (tSt C W own (evSs cs nF (.cons s r))) := by
  refine (pss_cons hs hr).imp fun D σ H ⟨L, O, ρ, S, q⟩ => ?_
  refine ⟨L, O, ρ, S, ?_⟩
  have q : PostS C W own O H ((rBind (evS cs nF s) fun f => match f with | .nx => evSs cs nF r | f => rPure f) ρ) D := q
  unfold rBind at q
  match hm : evS cs nF s ρ, q with
  | none, q => exact q
  | some (.error x, ρ1), q => exact q
  | some (.ok .nx, ρ1), q => exact fun L' O' σ' H' g' S => ⟨L', O', ρ1, S, PostS.mono g' q⟩
  | some (.ok .ct, ρ1), q => exact q
  | some (.ok .bk, ρ1), q => exact q
  | some (.ok (.rt d), ρ1), q => exact q
mutual
theorem sS (Y : XSt T cs k C W N sc X) : ∀ (s : S) {x : Stmt}, mS T N own s sc x = true → PS X x (tSt C W own (evS cs nF s))
  | .asg i e, x, h => by
    unfold mS at h
    split at h
    · simp only [Bool.and_eq_true] at h
      exact s_asg Y h.1.1.1 h.1.1.2 (bnot h.1.2) h.2
    · cases h
  | .asgO i e, x, h => by
    unfold mS at h
    split at h
    · simp only [Bool.and_eq_true] at h
      exact s_asgO Y h.1.1 h.1.2 h.2
    · cases h
  | .unp is e, x, h => by
    unfold mS at h
    split at h
    · simp only [Bool.and_eq_true] at h
      exact s_unp Y h.1.1.1 h.1.1.2 (bnot h.1.2) h.2
    · cases h
  | .setI i kk v, x, h => by
    unfold mS at h
    split at h
    · simp only [Bool.and_eq_true] at h
      obtain ⟨⟨⟨⟨⟨⟨h1, h2⟩, h3⟩, h4⟩, h5⟩, h6⟩, h7⟩ := h
      exact s_setI Y h1 h2 h3 (bnot h4) (bnot h5) h6 h7
    · cases h
  | .drop e, x, h => by
    unfold mS at h
    split at h
    · rw [Bool.and_eq_true] at h
      exact s_drop Y h.1 h.2
    · cases h
  | .ret e, x, h => by
    unfold mS at h
    split at h
    · cases own with
      | true => rw [if_pos rfl] at h; exact s_retOwn Y h
      | false =>
        rw [if_neg Bool.false_ne_true, Bool.and_eq_true] at h
        exact s_ret Y h.1 (bnot h.2)
    · cases h
  | .retN, x, h => by
    unfold mS at h
    split at h
    · cases own with
      | true => cases h
      | false => exact s_retN
    · cases h
  | .retO i, x, h => by
    unfold mS at h
    split at h
    · rw [Bool.and_eq_true] at h
      obtain ⟨rfl, h⟩ := h
      exact s_retO Y h
    · cases h
  | .ite c a b, x, h => by
    unfold mS at h
    split at h
    · simp only [Bool.and_eq_true] at h
      exact s_if ((sE c Y.ok h.1.1.1).2 h.1.1.2) (sSs Y a h.1.2) (sSs Y b h.2)
    · cases h
  | .whl c b, x, h => by
    unfold mS at h
    split at h
    · simp only [Bool.and_eq_true] at h
      exact s_whl Y ((sE c Y.ok h.1.1).2 h.1.2) (sSs Y b h.2)
    · cases h
  | .loop tg it b, x, h => by
    unfold mS at h
    split at h
    · simp only [Bool.and_eq_true] at h
      exact s_for Y h.1.1.1 (sIt it Y.ok h.1.1.2) h.1.2 (sSs Y b h.2)
    · cases h
  | .pass, x, h => by
    unfold mS at h
    split at h
    · exact ps_pass.imp fun D σ H ⟨L, O, ρ, S, q⟩ => PostS.nx q S
    · cases h
  | .brk, x, h => by
    unfold mS at h
    split at h
    · exact ps_break.imp fun D σ H ⟨L, O, ρ, S, q⟩ => q L O σ H (.refl O H) S
    · cases h
  | .cnt, x, h => by
    unfold mS at h
    split at h
    · exact ps_continue.imp fun D σ H ⟨L, O, ρ, S, q⟩ => q L O σ H (.refl O H) S
    · cases h
  | .aug _ _ _, x, h => by unfold mS at h; cases h
  | .app i e, x, h => by
    unfold mS at h
    split at h
    · simp only [Bool.and_eq_true, decide_eq_true_eq] at h
      obtain ⟨⟨⟨⟨⟨h1, h2⟩, h3⟩, h4⟩, h5⟩, h6⟩ := h
      exact s_app Y h1 h2 h3 (bnot h4) h5 h6
    · cases h
theorem sSs (Y : XSt T cs k C W N sc X) : ∀ (s : Ss) {xs : List Stmt}, mSs T N own s sc xs = true → PSs X xs (tSt C W own (evSs cs nF s))
  | .nil, xs, h => by
    unfold mSs at h
    cases xs with
    | nil => exact s_nil
    | cons y ys => cases h
  | .cons s r, xs, h => by
    unfold mSs at h
    split at h
    · rw [Bool.and_eq_true] at h
      exact s_cons (sS Y s h.1) (sSs Y r h.2)
    · cases h
end
end
end Mx


/-! Mx, part 5b: defs, the law. -/
namespace Mx
open PySem PySem.Spec PyProof.Rows L2
/-! ### a def by its body, where no repr is under way -/
section
variable {P : Program} {w : World} {K : PySem.W.Frag} {mg : Str → Option Value} {base : Heap} {k : Nat} {f : Addr} {name qual : Str} {params : Arguments}
variable {body : List Stmt} {scope : Scope} {dV kV doc pm cdv ct oc : Value} {an od : Option Addr} {osl : Array (Option Value)} {N ps : List Str} {sp : Sp}
abbrev cxM (P : Program) (w : World) (K : PySem.W.Frag) (mg : Str → Option Value) (base : Heap) (N : List Str) (qual : Str) (scope : Scope) (f : Addr) (cd : Value) (A : Around) (outer : List Env) (s : Shared) (H : Hp) (E : XK) : Cx :=
  cxOf (L2.CX P w) P w K mg base N qual scope f cd A outer s H E
theorem fnR_of (found : K.lookup f = some ⟨oc, od, .func (PySem.W.fnOf name qual params body scope dV kV doc pm an cdv ct), osl⟩) (code : PySem.W.codeIn K cdv qual = true) (sco : FnScope N ps scope)
    (len : ∀ vs H Q E, sp vs H Q E → vs.length = ps.length)
    (does : ∀ A outer s H vs Q E, Around.guards A = some [] → Room k (A.deeper (envOfC qual scope (Shared.heap s).objs.size f cdv)) → sp vs H Q E →
      ∃ t, PSs (cxM P w K mg base N qual scope f cdv A outer s H E) body t ∧ t ⟨fun _ H1 => Q .non H1, Q, fun _ _ => False, fun _ _ => False⟩ (start N vs) H) :
    FnR P w K mg base (k + 1) f (PySem.W.fnOf name qual params body scope dV kV doc pm an cdv ct) ps sp := by
  constructor
  · exact len
  intro A outer s H args us vs Q E gd room env bind rel promise
  have hKin : K.In s.heap := env.mod.kin.keeps fun b o e => (env.bs b o e).1
  have noLim : s.heap.NoLimit := env.mod.nolimit.keeps fun b o e => (env.bs b o e).1
  have kinds : ∀ y ∈ ps.zip us, scope.names.lookup y.1 = some .local ∨ scope.names.lookup y.1 = some .cell ∧ ((cellsFrom (s.heap.objs.size + 1) scope.names []).lookup y.1).isSome = true := by
    rintro ⟨n, v⟩ hy
    exact (sco.par n (List.of_mem_zip hy).1).imp id fun z => ⟨z, PySem.W.cellsFrom_some _ _ _ (.inl z)⟩
  apply codeAny_call_function room.depth (hKin _ _ found) rfl sco.co sco.gen rfl (PySem.W.codeRec_of hKin code)
  apply bind
  apply wpAny_newFunctionEnv_cells sco.kind kinds
  rintro _ rfl s1 entered
  obtain ⟨t, ht, hq⟩ := does A outer s H vs Q E gd (room.deeper _) promise
  have inv0 : Inv (cxM P w K mg base N qual scope f cdv A outer s H E) [] (start N vs) H s1 := inv_start sco room.hd env (len _ _ _ _ promise) rel entered
  refine ⟨noLim.keeps entered.toInCall.keep, codeAny_func (wpAny_mono (ht.run [] s1 _ H _ inv0 hq) ?_ fun _ _ z => z)⟩
  intro fl s' z
  match fl, z with
  | .ret u, ⟨v, _, H1, J, rv, q⟩ => exact ⟨v, H1, J.os, J.bare, J.base, J.hok, rv, q⟩
  | .next, ⟨_, H1, J, q⟩ => exact ⟨.non, H1, J.os, J.bare, J.base, J.hok, rfl, q⟩
  | .brk, ⟨_, _, _, q⟩ => exact q.elim
  | .cont, ⟨_, _, _, q⟩ => exact q.elim
end
/-! ### a def of the language -/
theorem startA_len : ∀ {ms : List Bool} {ds : List IV}, ms.length = ds.length → (startA ms ds).length = ds.length
  | [], [], _ => rfl
  | m :: ms, d :: ds, h => by show (startA ms ds).length + 1 = ds.length + 1; rw [startA_len (Nat.succ.inj h)]
theorem argR_len {K : PySem.W.Frag} {cl : Nat → Option Addr} {O : List Addr} {H : Hp} : ∀ {ms : List Bool} {vs : List V} {ds : List IV}, ArgR K cl O H ms vs ds → ms.length = ds.length ∧ vs.length = ds.length
  | [], [], [], _ => ⟨rfl, rfl⟩
  | false :: ms, v :: vs, d :: ds, h => by
    have z := argR_len (show ArgR K cl O H ms vs ds from h.2)
    exact ⟨congrArg Nat.succ z.1, congrArg Nat.succ z.2⟩
  | true :: ms, v :: vs, d :: ds, h => by
    have z := argR_len (show ArgR K cl O H ms vs ds from h.2)
    exact ⟨congrArg Nat.succ z.1, congrArg Nat.succ z.2⟩
theorem startA_slot {K : PySem.W.Frag} {cl : Nat → Option Addr} {O : List Addr} {H : Hp} : ∀ {ms : List Bool} {vs : List V} {ds : List IV}, ArgR K cl O H ms vs ds → ∀ {i : Nat} {r : Sl}, (startA ms ds)[i]? = some r →
    ∃ v d, vs[i]? = some v ∧ ((r = .i d ∧ Rep K cl O H v d) ∨ (r = .b d ∧ ∃ a, v = .ref a ∧ (mutA ms vs)[i]? = some (some a) ∧ Own K cl O H a d))
  | [], [], [], _, i, r, h => by cases i <;> cases h
  | false :: ms, v :: vs, d :: ds, h, 0, r, e => by cases e; exact ⟨v, d, rfl, .inl ⟨rfl, h.1⟩⟩
  | true :: ms, v :: vs, d :: ds, h, 0, r, e => by
    cases e
    obtain ⟨⟨a, rfl, _, w⟩, _⟩ := (show (∃ a, v = .ref a ∧ a ∈ O ∧ Own K cl O H a d) ∧ ArgR K cl O H ms vs ds from h)
    exact ⟨_, d, rfl, .inr ⟨rfl, a, rfl, rfl, w⟩⟩
  | false :: ms, v :: vs, d :: ds, h, i + 1, r, e => by
    obtain ⟨v', d', h1, h2⟩ := startA_slot (show ArgR K cl O H ms vs ds from h.2) (i := i) (r := r) e
    refine ⟨v', d', h1, h2.imp id fun ⟨z, a, z2, z3, z4⟩ => ⟨z, a, z2, ?_, z4⟩⟩
    have : mutA (false :: ms) (v :: vs) = none :: mutA ms vs := by cases v <;> rfl
    rw [this]
    exact z3
  | true :: ms, v :: vs, d :: ds, h, i + 1, r, e => by
    obtain ⟨⟨b, rfl, _⟩, hr⟩ := (show (∃ a, v = .ref a ∧ a ∈ O ∧ Own K cl O H a d) ∧ ArgR K cl O H ms vs ds from h)
    obtain ⟨v', d', h1, h2⟩ := startA_slot hr (i := i) (r := r) e
    exact ⟨v', d', h1, h2.imp id fun ⟨z, a, z2, z3, z4⟩ => ⟨z, a, z2, z3, z4⟩⟩
theorem nodup_two : ∀ {l : List (Option Addr)} {i j : Nat} {a : Addr}, (l.filterMap id).Nodup → l[i]? = some (some a) → l[j]? = some (some a) → i = j
  | x :: l, 0, 0, a, _, _, _ => rfl
  | x :: l, 0, j + 1, a, h, e1, e2 => by
    cases e1
    have h : (a :: l.filterMap id).Nodup := h
    rw [List.nodup_cons] at h
    exact absurd (show a ∈ l.filterMap id from List.mem_filterMap.mpr ⟨some a, List.mem_of_getElem? (show l[j]? = some (some a) from e2), rfl⟩) h.1
  | x :: l, i + 1, 0, a, h, e1, e2 => by
    cases e2
    have h : (a :: l.filterMap id).Nodup := h
    rw [List.nodup_cons] at h
    exact absurd (show a ∈ l.filterMap id from List.mem_filterMap.mpr ⟨some a, List.mem_of_getElem? (show l[i]? = some (some a) from e1), rfl⟩) h.1
  | x :: l, i + 1, j + 1, a, h, e1, e2 => by
    have h' : (l.filterMap id).Nodup := by
      cases x with
      | none => exact h
      | some b => have h : (b :: l.filterMap id).Nodup := h; exact (List.nodup_cons.mp h).2
    exact congrArg Nat.succ (nodup_two h' (show l[i]? = some (some a) from e1) (show l[j]? = some (some a) from e2))
theorem start_ok {K : PySem.W.Frag} {cl : Nat → Option Addr} {O : List Addr} {H : Hp} {fn : Fn} {vs : List V} {ds : List IV} (live : ∀ a ∈ O, H a ≠ none) (hl : vs.length = fn.ps.length) (ar : ArgR K cl O H fn.muts vs ds) (nd : ((mutA fn.muts vs).filterMap id).Nodup) :
    SRel ⟨K, cl, O, H, mutA fn.muts vs⟩ [] O (start fn.ns vs) (fn.start ds) H := by
  obtain ⟨l1, l2⟩ := argR_len ar
  have ls : (startA fn.muts ds).length = vs.length := by rw [startA_len l1, l2]
  have get : ∀ {i : Nat} {r : Sl}, (fn.start ds)[i]? = some r → (i < vs.length ∧ (startA fn.muts ds)[i]? = some r ∧ (start fn.ns vs)[i]? = some vs[i]?) ∨ r = .e := fun {i r} e => by
    unfold Fn.start at e
    by_cases hi : i < vs.length
    · rw [List.getElem?_append_left (by rw [ls]; exact hi)] at e
      refine .inl ⟨hi, e, ?_⟩
      unfold L2.start
      rw [List.getElem?_append_left (by rw [List.length_map]; exact hi), List.getElem?_map, List.getElem?_eq_getElem hi]
      rfl
    · rw [List.getElem?_append_right (by rw [ls]; exact Nat.le_of_not_lt hi), List.getElem?_replicate] at e
      split at e
      · cases e; exact .inr rfl
      · cases e
  have mutx : ∀ {i : Nat} {r : Sl} {a : Addr}, (fn.start ds)[i]? = some r → r.mut.isSome = true → (start fn.ns vs)[i]? = some (some (.ref a)) → (mutA fn.muts vs)[i]? = some (some a) := fun {i r a} e m es => by
    rcases get e with ⟨hi, e1, e2⟩ | rfl
    · obtain ⟨v, d, hv, h | h⟩ := startA_slot ar e1
      · rw [h.1] at m; cases m
      · obtain ⟨_, b, rfl, hm, _⟩ := h
        rw [e2, hv] at es
        cases es
        exact hm
    · cases m
  refine ⟨?_, fun i s r e1 e2 => ?_, fun a h => (nomatch h), fun a h => h, fun i a h => mutA_live ar (mem_some_of h), live, fun i j r q a hij e1 e2 m1 m2 e3 e4 => hij (nodup_two nd (mutx e1 m1 e3) (mutx e2 m2 e4)), fun a o e _ => e⟩
  · unfold L2.start Fn.start
    rw [List.length_append, List.length_append, List.length_map, List.length_replicate, List.length_replicate, ls, hl]
  · rcases get e2 with ⟨hi, e3, e4⟩ | rfl
    · rw [e4] at e1
      obtain ⟨v, d, hv, h | h⟩ := startA_slot ar e3
      · obtain ⟨rfl, rp⟩ := h
        rw [hv] at e1
        cases e1
        exact ⟨v, rfl, rp⟩
      · obtain ⟨rfl, a, rfl, hm, w⟩ := h
        rw [hv] at e1
        cases e1
        exact ⟨a, rfl, hm, w⟩
    · trivial
theorem mutR_of {K : PySem.W.Frag} {cl : Nat → Option Addr} {O : List Addr} {H : Hp} : ∀ {ms : List Bool} {vs : List V} {ρ : List Sl} {es : List IV}, vs.length = ms.length → mutsOf ms ρ = some es → (∀ (i : Nat) (d : IV), ρ[i]? = some (.b d) → ∃ a, (mutA ms vs)[i]? = some (some a) ∧ Own K cl O H a d) → MutR K cl O H ms vs es
  | [], [], ρ, es, _, e, _ => by cases e; trivial
  | false :: ms, v :: vs, r :: ρ, es, hl, e, h => by
    have e : (mutsOf ms ρ).map (IV.non :: ·) = some es := e
    cases hm : mutsOf ms ρ with
    | none => rw [hm] at e; cases e
    | some es' =>
      rw [hm] at e
      cases e
      refine mutR_of (ms := ms) (vs := vs) (ρ := ρ) (Nat.succ.inj hl) hm fun i d hd => ?_
      obtain ⟨a, ha, w⟩ := h (i + 1) d hd
      have : mutA (false :: ms) (v :: vs) = none :: mutA ms vs := by cases v <;> rfl
      rw [this] at ha
      exact ⟨a, ha, w⟩
  | true :: ms, v :: vs, .b d :: ρ, es, hl, e, h => by
    have e : (mutsOf ms ρ).map (d :: ·) = some es := e
    cases hm : mutsOf ms ρ with
    | none => rw [hm] at e; cases e
    | some es' =>
      rw [hm] at e
      cases e
      obtain ⟨a, ha, w⟩ := h 0 d rfl
      have ev : v = .ref a := by
        match v, ha with
        | .ref b, ha => cases ha; rfl
      subst ev
      refine ⟨⟨a, rfl, w⟩, mutR_of (ms := ms) (vs := vs) (ρ := ρ) (Nat.succ.inj hl) hm fun i d hd => ?_⟩
      exact h (i + 1) d hd
  | true :: ms, v :: vs, .i d :: ρ, es, hl, e, h => nomatch e
  | true :: ms, v :: vs, .o d :: ρ, es, hl, e, h => nomatch e
  | true :: ms, v :: vs, .e :: ρ, es, hl, e, h => nomatch e
  | false :: ms, v :: vs, [], es, hl, e, h => nomatch e
  | true :: ms, v :: vs, [], es, hl, e, h => nomatch e
  | [], _ :: _, _, _, hl, _, _ => nomatch hl
  | _ :: _, [], _, _, hl, _, _ => nomatch hl
theorem end_ok {C : Ct} {L' O' : List Addr} {σ' : L2.St} {ρ : List Sl} {H' : Hp} {fn : Fn} {vs : List V} {ms : List IV} {O2 : List Addr} (hl : vs.length = fn.muts.length) (hM : C.M = mutA fn.muts vs) (S : SRel C L' O' σ' ρ H') (hm : mutsOf fn.muts ρ = some ms) (h2 : ∀ a ∈ O2, a ∈ O') :
    MutR C.K C.cl O2 H' fn.muts vs ms := by
  refine mutR_of hl hm fun i d hd => ?_
  have hi : i < σ'.length := by rw [S.len]; exact (List.getElem?_eq_some_iff.mp hd).1
  obtain ⟨a, _, h1, w⟩ := S.slot i _ _ (List.getElem?_eq_getElem hi) hd
  exact ⟨a, by rw [← hM]; exact h1, w.less h2⟩
theorem xrep_less {K : PySem.W.Frag} {cl : Nat → Option Addr} {O O' : List Addr} {H : Hp} {c : Value} {dd : Option Addr} {x : Xn} (h2 : ∀ a ∈ O, a ∈ O') (h : XRep K cl O' H c dd x) : XRep K cl O H c dd x := by
  obtain ⟨A, h1, e2, h3⟩ := h
  exact ⟨A, h1, e2, h3.imp (fun z => z) fun ⟨d, fs, e1, n, e2, r⟩ => ⟨d, fs, e1, fun z => n (h2 _ z), e2, r.less h2⟩⟩
/-- what the body's end gives is what the call's end asks -/
theorem endF_ok {K : PySem.W.Frag} {cl : Nat → Option Addr} {O : List Addr} {H : Hp} {fn : Fn} {vs : List V} {Q : VK} {E : XK} {r : Out Fl} (hl : vs.length = fn.muts.length) (h : fEnd K cl O H fn vs Q E (endF fn r)) :
    PostS ⟨K, cl, O, H, mutA fn.muts vs⟩ (fun c dd _ H' => E c dd H') fn.own O H r ⟨fun _ H1 => Q .non H1, Q, fun _ _ => False, fun _ _ => False⟩ := by
  match r, h with
  | none, h => exact h
  | some (.ok .bk, ρ), h => exact h.elim
  | some (.ok .ct, ρ), h => exact h.elim
  | some (.ok .nx, ρ), h =>
    intro L' O' σ' H' g S
    have h : fEnd K cl O H fn vs Q E (if fn.own = true then none else (mutsOf fn.muts ρ).map fun ms => (.ok .non, ms)) := h
    cases ho : fn.own with
    | true => rw [if_pos ho] at h; exact h.elim
    | false =>
      rw [if_neg (by rw [ho]; exact Bool.false_ne_true)] at h
      cases hm : mutsOf fn.muts ρ with
      | none => rw [hm] at h; exact h.elim
      | some ms =>
        rw [hm] at h
        have h : if fn.own = true then _ else _ := h
        rw [if_neg (by rw [ho]; exact Bool.false_ne_true)] at h
        exact h _ H' S.frame (end_ok hl rfl S hm g.sub) .non
  | some (.ok (.rt d), ρ), h =>
    intro L' O' σ' v H' g S rt
    have h : fEnd K cl O H fn vs Q E ((mutsOf fn.muts ρ).map fun ms => (.ok d, ms)) := h
    cases hm : mutsOf fn.muts ρ with
    | none => rw [hm] at h; exact h.elim
    | some ms =>
      rw [hm] at h
      have h : if fn.own = true then _ else _ := h
      unfold RtR at rt
      cases ho : fn.own with
      | true =>
        rw [if_pos ho] at h rt
        obtain ⟨p, rfl, hp, _, h0, w⟩ := rt
        have le : ∀ a ∈ p :: O, a ∈ O' := fun a z => by
          rcases List.mem_cons.mp z with z | z
          · rw [z]; exact hp
          · exact g.sub a z
        exact h p H' h0 S.frame (end_ok hl rfl S hm le) (w.less le)
      | false =>
        rw [if_neg (by rw [ho]; exact Bool.false_ne_true)] at h rt
        exact h v H' S.frame (end_ok hl rfl S hm g.sub) (rt.less g.sub)
  | some (.error x, ρ), h =>
    intro L' O' σ' c dd H' g S xr
    have h : fEnd K cl O H fn vs Q E ((mutsOf fn.muts ρ).map fun ms => (.error x, ms)) := h
    cases hm : mutsOf fn.muts ρ with
    | none => rw [hm] at h; exact h.elim
    | some ms =>
      rw [hm] at h
      exact h c dd H' S.frame (end_ok hl rfl S hm g.sub) (xrep_less g.sub xr)
/-- what is known of a def of the text -/
structure FnI (T : Tab) (K : PySem.W.Frag) (mg : Str → Option Value) (fn : Fn) : Prop where
  ml : fn.muts.length = fn.ps.length
  ex : ∃ (f : Addr) (st : Stmt) (oc : Value) (od : Option Addr) (dV kV doc pm : Value) (an : Option Addr) (cdv ct : Value) (osl : Array (Option Value)),
    mg fn.name = some (.ref f) ∧ PySem.W.keepIn K (.ref f) = true ∧ K.lookup f = some ⟨oc, od, .func (PySem.W.fnOf fn.name fn.name (defArgs st) (defBody st) (defScope st) dV kV doc pm an cdv ct), osl⟩ ∧ PySem.W.codeIn K cdv fn.name = true ∧
    Binds K (PySem.W.fnOf fn.name fn.name (defArgs st) (defBody st) (defScope st) dV kV doc pm an cdv ct) fn.ps [] ∧ (∀ p ∈ fn.kws, KwOk K (PySem.W.fnOf fn.name fn.name (defArgs st) (defBody st) (defScope st) dV kV doc pm an cdv ct) fn.ps p) ∧
    FnScope fn.ns fn.ps (defScope st) ∧ mSs T fn.ns fn.own fn.body (defScope st) (defBody st) = true
section
variable {T : Tab} {nF : Nat} {cl : Nat → Option Addr} {P : Program} {w : World} {K : PySem.W.Frag} {mg : Str → Option Value} {base : Heap}
theorem sto_fn {N ps : List Str} {qual : Str} {scope : Scope} {f : Addr} {cd : Value} {A : Around} {outer : List Env} {s : Shared} {H : Hp} {E : XK} : Sto N scope (cxM P w K mg base N qual scope f cd A outer s H E) := fun i x h => by
  unfold storeB at h
  rw [Bool.and_eq_true, decide_eq_true_eq] at h
  refine ⟨h.1, ?_, .inl rfl⟩
  have h2 := h.2
  unfold locB at h2
  split at h2
  · rename_i e; exact .inl e
  · rename_i e; exact .inr e
  · cases h2
theorem fn_step {k f : Nat} {fn : Fn} (hf : T.fns f = some fn) (I : FnI T K mg fn) (F : Facts T (runF T.fns nF k) k cl P w K mg base) :
    ∃ a fd, mg fn.name = some (.ref a) ∧ PySem.W.keepIn K (.ref a) = true ∧ Binds K fd fn.ps [] ∧ (∀ p ∈ fn.kws, KwOk K fd fn.ps p) ∧ FnR P w K mg base (k + 1) a fd fn.ps (spF (runF T.fns nF (k + 1)) K cl f fn) := by
  obtain ⟨a, st, oc, od, dV, kV, doc, pm, an, cdv, ct, osl, h1, h2, h3, h4, h5, h6, h7, h8⟩ := I.ex
  refine ⟨a, _, h1, h2, h5, h6, fnR_of h3 h4 h7 (fun vs H Q E ⟨_, _, _, z, _⟩ => z) fun A outer s H vs Q E gd room ⟨O, ds, live, hl, ar, nd, q⟩ => ?_⟩
  have ok : XOk T (runF T.fns nF k) k ⟨K, cl, O, H, mutA fn.muts vs⟩ (fun c dd _ H' => E c dd H') fn.ns (defScope st) (cxM P w K mg base fn.ns fn.name (defScope st) a cdv A outer s H E) := by
    refine ⟨rfl, h7.nd, fun x h => ?_, fun x h => h, fun x h => h, rfl, gd, room, takes_of rfl rfl rfl rfl, passes_of rfl, rfl, F⟩
    unfold visB at h
    split at h
    · rename_i e; exact .inl e
    · rename_i e; exact .inr (.inl e)
    · rename_i e; exact .inr (.inr e)
    · cases h
  refine ⟨_, sSs (nF := nF) ⟨ok, rfl, h7.kind, sto_fn (ps := fn.ps)⟩ fn.body h8, [], O, fn.start ds, start_ok live hl ar nd, ?_⟩
  refine endF_ok (by rw [hl, I.ml]) ?_
  have e : runF T.fns nF (k + 1) f ds = endF fn (evSs (runF T.fns nF k) nF fn.body (fn.start ds)) := by
    show (match T.fns f with | none => none | some fn => if ds.length = fn.ps.length then endF fn (evSs (runF T.fns nF k) nF fn.body (fn.start ds)) else none) = _
    rw [hf]
    show (if ds.length = fn.ps.length then _ else _) = _
    rw [if_pos (by rw [← (argR_len ar).2, hl])]
  rw [← e]
  exact q
theorem facts_all (glo : ∀ p ∈ T.glo, ∃ u v, mg p.1 = some u ∧ RelV v u ∧ ∀ O H, Rep K cl O H v p.2) (blt : ∀ x ∈ T.blt, mg x = none) (xcs : ∀ c xc, T.xcls c = some xc → XF P K mg cl c xc) (isx : ∀ q ∈ T.isx, XI K mg cl q) (sup : T.xcls 0 ≠ none → mg "super" = none) (fns : ∀ f fn, T.fns f = some fn → FnI T K mg fn) : ∀ k, Facts T (runF T.fns nF k) k cl P w K mg base
  | 0 => ⟨glo, blt, xcs, isx, sup, fun f fn hf => by
    obtain ⟨a, st, oc, od, dV, kV, doc, pm, an, cdv, ct, osl, h1, h2, h3, h4, h5, h6, h7, h8⟩ := (fns f fn hf).ex
    refine ⟨a, _, h1, h2, h5, h6, ⟨fun vs H Q E ⟨_, _, _, z, _⟩ => z, fun A outer s H args us vs Q E _ _ _ _ _ ⟨O, ds, _, _, _, _, q⟩ => ?_⟩⟩
    exact (show False from q).elim⟩
  | k + 1 => ⟨glo, blt, xcs, isx, sup, fun f fn hf => fn_step hf (fns f fn hf) (facts_all glo blt xcs isx sup fns k)⟩
end
end Mx


/-! Mx, part 6: the law's head. -/
namespace Mx
open PySem PySem.Spec PyProof.Rows L2
theorem mapInts : ∀ (ns : List Int), (ns.map V.int).length = ns.length := fun ns => List.length_map ..
theorem rep_ints {K : PySem.W.Frag} {cl : Nat → Option Addr} {O : List Addr} {H : Hp} : ∀ ns : List Int, RepAll K cl O H (ns.map V.int) (ns.map IV.int)
  | [] => .nil
  | n :: ns => .cons (.int n) (rep_ints ns)
theorem rep_script {K : PySem.W.Frag} {cl : Nat → Option Addr} {H : Hp} {a : Addr} {ns : List Int} (h : SqL K H a (ns.map V.int)) : Rep K cl [] H (.ref a) (.lst (ns.map IV.int)) := by
  rcases h with h | h
  · exact .lstH h (fun z => nomatch z) (rep_ints ns)
  · exact .lstK (.inr h) (rep_ints ns)
section
variable {P : Program} {w : World} {K : PySem.W.Frag} {mg mb : Str → Option Value} {k : Nat} {fa a : Addr} {x : Str} {sp : Sp} {st : Shared} {vs : List Value} {ns : List Int}
/-- the call of the law, from a heap H in which at most the script is tracked -/
theorem call_from {H : Hp} (inK : K.In st.heap) (glob : st.heap.Ns mainGlobals mg) (bltn : st.heap.Ns builtinsNs mb) (same : ∀ y : Str, y ≠ "__name__" → mb y = bootBuiltins y) (lim : st.heap.NoLimit) (gens : st.gens = #[])
    (obj : st.heap.get? a = some { cls := .type "list", data := .seq vs.toArray }) (room : Room k callerA)
    (prom : ∀ bs : Heap, K.In bs → bs.Ns mainGlobals mg → ∃ fd, Binds K fd [x] [] ∧ FnR P w K mg bs k fa fd [x] sp)
    (hsp : sp [.ref a] H (fun v _ => v = .bl true) fun _ _ _ => False) (only : Only H) (hok : HOk P w H st.heap) (one : ∀ b, H b ≠ none → b = a) (out : H a ≠ none → K.lookup a = none) :
    codeAny (model P w) callerA (.call (.ref fa) ⟨[.ref a], []⟩) (fun r s' => r = .ok (.ret (.bool true)) ∧ OldK st.heap s'.heap ∧ s'.os = st.os ∧ AllBare s'.gens) st := by
  have isA : ∀ {b : Addr} {u : HO}, H b = some u → b = a := fun q => one _ (by rw [q]; exact fun z => nomatch z)
  -- no dict is tracked
  have noDict : ∀ {b : Addr} {o : Obj} {es : Array DictEntry} {ep : Nat}, st.heap.get? b = some o → o.data = .dict es ep → H b = none := by
    intro b o es ep e d
    cases q : H b with
    | none => rfl
    | some u =>
      cases isA q
      rw [obj] at e
      cases e
      exact nomatch (show Data.seq vs.toArray _ = Data.dict es ep from d)
  have nsUp : ∀ {b : Addr} {m : Str → Option Value}, st.heap.Ns b m → (hidT st.heap H).Ns b m := by
    rintro b m ⟨o, es, ep, e, d, r⟩
    exact ⟨o, es, ep, hidT_get e (noDict e d), d, r⟩
  have kUp : K.In (hidT st.heap H) := by
    intro b o e
    refine hidT_get (inK b o e) ?_
    cases q : H b with
    | none => rfl
    | some u =>
      cases isA q
      rw [out (by rw [q]; exact fun z => nomatch z)] at e
      cases e
  obtain ⟨mc, lim1, lim2⟩ := lim
  have env : Env0 P w K mg (hidT st.heap H) callerA [] st H := by
    constructor
    · rfl
    · exact ⟨kUp, nsUp glob, ⟨mb, nsUp bltn, same⟩, ⟨mc, nsUp lim1, lim2⟩⟩
    · exact fun b o e => of_hidT e
    · exact Nat.le_of_eq (hidT_size _ _)
    · trivial
    · exact fun b hb => nomatch (show b ∈ ([] : List Addr) from hb)
    · exact hok
    · exact .of_eq gens
  obtain ⟨fd, bnd, pr⟩ := prom _ kUp (nsUp glob)
  have go := pr.run callerA [] st H ⟨[.ref a], []⟩ [.ref a] [.ref a] _ _ rfl room env (bnd st [.ref a] inK rfl) (.cons rfl .nil) hsp
  refine codeAny_mono go ?_
  intro r s' h
  match r, h with
  | .error e, h =>
    obtain ⟨_, _, _, _, _, _, _, _, _, _, _, _, z⟩ := (show L2.CX P w [] H st (fun _ _ _ => False) e s' from h)
    exact z.elim
  | .ok .next, h => exact h.elim
  | .ok .brk, h => exact h.elim
  | .ok .cont, h => exact h.elim
  | .ok (.ret u), ⟨v, H', os, bare, un, hok', rel, ev⟩ =>
    have ev : v = .bl true := ev
    subst ev
    cases (show u = Value.bool true from rel)
    refine ⟨rfl, OldK.of_keep ?_, os, bare⟩
    intro b o e
    cases q : H b with
    | none => exact un.keep b o e q (fun z => nomatch (show b ∈ ([] : List Addr) from z)) (fun z => nomatch z)
    | some u =>
      obtain z | ⟨ob, xs, z⟩ := only b
      · rw [q] at z; cases z
      · have e1 := (hok b _ z).1
        have e2 := (hok' b _ (un.frzs b ob _ z)).1
        rw [e] at e1
        cases e1
        exact e2
theorem call_law (inK : K.In st.heap) (glob : st.heap.Ns mainGlobals mg) (bltn : st.heap.Ns builtinsNs mb) (same : ∀ y : Str, y ≠ "__name__" → mb y = bootBuiltins y) (lim : st.heap.NoLimit) (gens : st.gens = #[])
    (obj : st.heap.get? a = some { cls := .type "list", data := .seq vs.toArray }) (hin : IntsAre vs ns) (small : ns.length ≤ sizeLine) (room : Room k callerA)
    (prom : ∀ bs : Heap, K.In bs → bs.Ns mainGlobals mg → ∃ fd, Binds K fd [x] [] ∧ FnR P w K mg bs k fa fd [x] sp)
    (hsp : ∀ H : Hp, SqL K H a (ns.map V.int) → sp [.ref a] H (fun v _ => v = .bl true) fun _ _ _ => False) :
    codeAny (model P w) callerA (.call (.ref fa) ⟨[.ref a], []⟩) (fun r s' => r = .ok (.ret (.bool true)) ∧ OldK st.heap s'.heap ∧ s'.os = st.os ∧ AllBare s'.gens) st := by
  have rel := vals_ints hin
  have ln := hin.length
  cases hk : K.lookup a with
  | some o =>
    have e := inK a o hk
    rw [obj] at e
    cases e
    have sq : SqL K (fun _ => none) a (ns.map V.int) := .inr ⟨_, vs.toArray, _, hk, rfl, rfl, rfl, by rw [List.size_toArray, ln]; exact small, by simpa using rel⟩
    refine call_from inK glob bltn same lim gens obj room prom (hsp _ sq) (fun _ => .inl rfl) ?_ (fun b z => absurd rfl z) (fun z => absurd rfl z)
    intro b u z
    exact nomatch (show (none : Option HO) = some u from z)
  | none =>
    let T0 : HO := .frz { cls := .type "list", data := .seq vs.toArray } (.lst (ns.map V.int))
    have at1 : (fun b => if b = a then some T0 else none : Hp) a = some T0 := if_pos rfl
    refine call_from (H := fun b => if b = a then some T0 else none) inK glob bltn same lim gens obj room prom (hsp _ (.inl (.inr ⟨_, at1⟩))) ?_ ?_ ?_ (fun _ => hk)
    · intro b
      by_cases hb : b = a
      · exact .inr ⟨_, _, if_pos hb⟩
      · exact .inl (if_neg hb)
    · intro b u z
      by_cases hb : b = a
      · subst hb
        cases at1.symm.trans z
        exact ⟨obj, by rw [mapInts]; exact small, vs, _, rel, obj⟩
      · cases (if_neg hb).symm.trans z
    · intro b z
      by_cases hb : b = a
      · exact hb
      · exact absurd (if_neg hb) z
end
/-- the head's goal, from a run of the law's def -/
theorem walk_run {l : PySem.W.OpenLaw} {n k nF iL : Nat} {q : Program} {loose : List Str} {XP : (Str → Option Value) → Heap → Prop} {YP : World → Heap → Prop} {d : DefRec} {K : Params → PySem.W.Frag} {x : Str} {T : Tab} {fn : Fn}
    (hn : l.most = some n) (hn2 : n ≤ sizeLine) (hdf : d.params.defaults = []) (room : Room k callerA) (hY : ∀ (w : World) (h : Heap), YP w h → (K w.params).In h)
    (hfn : T.fns iL = some fn) (hnm : fn.name = d.name) (hps : fn.ps = [x]) (hmu : fn.muts = [false]) (how : fn.own = false)
    (fac : ∀ (w : World) (mg : Str → Option Value) (h : Heap), (K w.params).In h → h.Ns mainGlobals mg → ∃ cl : Nat → Option Addr, (∀ p ∈ T.glo, ∃ u v, mg p.1 = some u ∧ RelV v u ∧ ∀ O H, Rep (K w.params) cl O H v p.2) ∧ (∀ y ∈ T.blt, mg y = none) ∧ (∀ c xc, T.xcls c = some xc → XF l.prog (K w.params) mg cl c xc) ∧ (∀ q ∈ T.isx, XI (K w.params) mg cl q) ∧ (T.xcls 0 ≠ none → mg "super" = none) ∧ ∀ f fn, T.fns f = some fn → FnI T (K w.params) mg fn)
    (run : ∀ ns : List Int, ns.length ≤ n → ∃ ms, runF T.fns nF k iL [.lst (ns.map .int)] = some (.ok (.bl true), ms)) :
    PySem.W.WalkO q loose XP YP l.row.toRowW d [] (fun f vs => PySem.call f vs) := by
  refine Att.attach_call hn hdf fun w s₀ s₁ mg mb fa o pm cd doc a vs ns G Y ho hd hcd hmg hobj hints hlen hg => ?_
  have inK := hY w _ Y
  obtain ⟨cl, glo, blt, xcs, isx, sup, fns⟩ := fac w mg _ inK G.T.g
  refine call_law (x := x) (sp := spF (runF T.fns nF k) (K w.params) cl iL fn) inK G.T.g G.T.b G.T.builtins G.T.nolimit hg hobj hints (Nat.le_trans hlen hn2) room ?_ ?_
  · intro bs _ _
    obtain ⟨a', fd, e1, _, e3, _, e5⟩ := (facts_all (nF := nF) (P := l.prog) (w := w) (base := bs) glo blt xcs isx sup fns k).fns iL fn hfn
    rw [hnm, hmg] at e1
    cases e1
    rw [hps] at e3 e5
    exact ⟨fd, e3, e5⟩
  · intro H sq
    obtain ⟨ms, hr⟩ := run ns hlen
    refine ⟨[], [.lst (ns.map IV.int)], fun _ z => (nomatch z), by rw [hps]; rfl, by rw [hmu]; exact ⟨rep_script sq, trivial⟩, by rw [hmu]; exact List.nodup_nil, ?_⟩
    rw [hr]
    show if fn.own = true then _ else _
    rw [if_neg (by rw [how]; exact Bool.false_ne_true)]
    intro v H' _ _ rp
    cases rp
    rfl
inductive AllQ {α : Type} (p : α → Prop) : List α → Prop
  | nil : AllQ p []
  | cons {x : α} {xs : List α} : p x → AllQ p xs → AllQ p (x :: xs)
theorem AllQ.mem {α : Type} {p : α → Prop} : ∀ {l : List α}, AllQ p l → ∀ x ∈ l, p x
  | _, .nil, _, h => nomatch h
  | _, .cons a r, x, h => by
    rcases List.mem_cons.mp h with e | e
    · rw [e]; exact a
    · exact AllQ.mem r x e
/-! ### what the top has written -/
def scopeB (N P : List Str) (sc : Scope) : Bool :=
  (match sc.kind with | .function => true | _ => false) && (!sc.isCoroutine && !sc.isGenerator) && (decide N.Nodup && decide (N.take P.length = P)) && (P.all (locB sc) && sc.names.all fun y => match y.2 with | .free => false | _ => true)
theorem scope_of {N P : List Str} {sc : Scope} (h : scopeB N P sc = true) : FnScope N P sc := by
  unfold scopeB at h
  simp only [Bool.and_eq_true, Bool.not_eq_true', decide_eq_true_eq, List.all_eq_true] at h
  obtain ⟨⟨⟨h1, h2, h3⟩, h4, h5⟩, h6, h7⟩ := h
  constructor
  · split at h1
    · assumption
    · cases h1
  · exact h2
  · exact h3
  · exact h4
  · exact h5
  · intro x hx
    have z := h6 x hx
    unfold locB at z
    split at z
    · rename_i e; exact .inl e
    · rename_i e; exact .inr e
    · cases z
  · intro y hy e
    have z := h7 y hy
    rw [e] at z
    cases z
def litB : Value → IV → Bool
  | .none, .non => true
  | .bool a, .bl b => a == b
  | .int a _, .int b => a == b
  | .str s _, .str l => decide (s = sOf l)
  | _, _ => false
def litsB : List Value → List IV → Bool
  | [], [] => true
  | u :: us, d :: ds => litB u d && litsB us ds
  | _, _ => false
theorem lit_ok {u : Value} {d : IV} (h : litB u d = true) : ∃ v, RelV v u ∧ ∀ (K : PySem.W.Frag) (cl : Nat → Option Addr) (O : List Addr) (H : Hp), Rep K cl O H v d := by
  match u, d, h with
  | .none, .non, _ => exact ⟨.non, rfl, fun _ _ _ _ => .non⟩
  | .bool a, .bl b, h => cases (show a = b by simpa [litB] using h); exact ⟨.bl a, rfl, fun _ _ _ _ => .bl a⟩
  | .int a t, .int b, h => cases (show a = b by simpa [litB] using h); exact ⟨.int a, ⟨t, rfl⟩, fun _ _ _ _ => .int a⟩
  | .str s t, .str l, h => cases (show s = sOf l by simpa [litB] using h); exact ⟨.str (sOf l), ⟨t, rfl⟩, fun _ _ _ _ => .str l⟩
theorem lits_ok : ∀ {us : List Value} {ds : List IV}, litsB us ds = true → ∃ vs, Vals vs us ∧ ∀ (K : PySem.W.Frag) (cl : Nat → Option Addr) (O : List Addr) (H : Hp), RepAll K cl O H vs ds
  | [], [], _ => ⟨[], .nil, fun _ _ _ _ => .nil⟩
  | u :: us, d :: ds, h => by
    have h' : (litB u d && litsB us ds) = true := h
    rw [Bool.and_eq_true] at h'
    obtain ⟨v, r, p⟩ := lit_ok h'.1
    obtain ⟨vs, rs, ps⟩ := lits_ok h'.2
    exact ⟨v :: vs, .cons r rs, fun K cl O H => .cons (p K cl O H) (ps K cl O H)⟩
  | [], _ :: _, h => nomatch h
  | _ :: _, [], h => nomatch h
def tupB (o : Obj) (ds : List IV) : Bool := (match o.cls with | .type n => n == "tuple" | _ => false) && match o.data with
  | .seq its _ => decide (its.size ≤ SZ) && litsB its.toList ds
  | _ => false
section
variable {K : PySem.W.Frag} {cl : Nat → Option Addr} {h : Heap} {mg : Str → Option Value}
theorem glo_lit {x : Str} {u : Value} {d : IV} (X : K.In h) (G : h.Ns mainGlobals mg) (a : PySem.W.nsIn K mainGlobals x = some (some u)) (e : litB u d = true) : ∃ u v, mg (x, d).1 = some u ∧ RelV v u ∧ ∀ O H, Rep K cl O H v (x, d).2 := by
  obtain ⟨v, r, p⟩ := lit_ok e
  exact ⟨u, v, PySem.W.mg_of X G a, r, fun O H => p K cl O H⟩
theorem glo_tup {x : Str} {p : Addr} {o : Obj} {ds : List IV} (X : K.In h) (G : h.Ns mainGlobals mg) (a : PySem.W.nsIn K mainGlobals x = some (some (.ref p))) (l : K.lookup p = some o) (e : tupB o ds = true) :
    ∃ u v, mg (x, IV.tup ds).1 = some u ∧ RelV v u ∧ ∀ O H, Rep K cl O H v (x, IV.tup ds).2 := by
  unfold tupB at e
  rw [Bool.and_eq_true] at e
  obtain ⟨e1, e2⟩ := e
  have hc : o.cls = .type "tuple" := by
    split at e1
    · rename_i n en
      rw [en, eq_of_beq e1]
    · cases e1
  split at e2
  · rename_i its n hd
    rw [Bool.and_eq_true, decide_eq_true_eq] at e2
    obtain ⟨vs, r, q⟩ := lits_ok e2.2
    exact ⟨.ref p, .ref p, PySem.W.mg_of X G a, rfl, fun O H => .tupK (.inr ⟨o, its, n, l, hc, hd, szl e2.1, r⟩) (q K cl O H)⟩
  · cases e2
theorem fni {T : Tab} {fn : Fn} {st : Stmt} {f : Addr} {oc : Value} {od an : Option Addr} {kV doc pm cdv ct : Value} {osl : Array (Option Value)} (X : K.In h) (G : h.Ns mainGlobals mg) (ml : fn.muts.length = fn.ps.length)
    (a : PySem.W.nsIn K mainGlobals fn.name = some (some (.ref f))) (l : K.lookup f = some ⟨oc, od, .func (PySem.W.fnOf fn.name fn.name (defArgs st) (defBody st) (defScope st) .none kV doc pm an cdv ct), osl⟩) (c : PySem.W.codeIn K cdv fn.name = true)
    (kp : PySem.W.keepIn K (.ref f) = true) (b : Binds K (PySem.W.fnOf fn.name fn.name (defArgs st) (defBody st) (defScope st) .none kV doc pm an cdv ct) fn.ps [])
    (kw : ∀ p ∈ fn.kws, KwOk K (PySem.W.fnOf fn.name fn.name (defArgs st) (defBody st) (defScope st) .none kV doc pm an cdv ct) fn.ps p) (sc : FnScope fn.ns fn.ps (defScope st)) (m : mSs T fn.ns fn.own fn.body (defScope st) (defBody st) = true) : FnI T K mg fn :=
  ⟨ml, f, st, oc, od, .none, kV, doc, pm, an, cdv, ct, osl, PySem.W.mg_of X G a, kp, l, c, b, kw, sc, m⟩
end
end Mx


/-! Mx, part 6b: what the top has written of exception classes. -/
namespace Mx
open PySem PySem.Spec PyProof.Rows L2
def clsBody : Stmt → List Stmt
  | .ClassDef _ _ _ body _ _ _ _ _ _ _ => body
  | _ => []
def headB (p : Arguments) : Bool := match (p.posonlyargs ++ p.args).head? with
  | some ar => decide (ar.arg = ("self" : Str))
  | none => false
def initOk (ps : List Str) (st : Stmt) : Bool := headB (defArgs st) && (initB ps (defBody st) && scB ps (defScope st))
def fileB (P : Program) (vs : Array Value) : Bool := match (vs[2]? : Option Value) with
  | some (Value.str f _) => ((P.main.file : Str) == f)
  | _ => false
def NoF (K : PySem.W.Frag) (C : Addr) : List Str → Prop
  | [] => True
  | f :: fs => PySem.W.findIn K (.ref C) f = some none ∧ NoF K C fs
theorem NoF.all {K : PySem.W.Frag} {C : Addr} : ∀ {ps : List Str}, NoF K C ps → ∀ f ∈ ps, PySem.W.findIn K (.ref C) f = some none
  | _ :: _, h, f, hf => (List.mem_cons.mp hf).elim (fun e => by rw [e]; exact h.1) fun e => h.2.all f e
/-- what all exception classes share -/
structure XK (P : Program) (K : PySem.W.Frag) : Prop where
  cn : PySem.W.specialIn K (.builtin "object.__class__") "__get__" = some (some (.builtin "getset_descriptor.__get__"))
  ctk : PySem.W.takesIn K (.builtin "object.__class__") = some true
  top : (P.main.scope.names.lookup ("super" : Str)).isSome = false
  opq : PySem.W.nsIn K cStatics "thirdparty.any" = some none
theorem xk_mk {P : Program} {K : PySem.W.Frag} {h : Heap} (X : K.In h) (cn : PySem.W.specialIn K (.builtin "object.__class__") "__get__" = some (some (.builtin "getset_descriptor.__get__"))) (ctk : PySem.W.takesIn K (.builtin "object.__class__") = some true) (top : (P.main.scope.names.lookup ("super" : Str)).isSome = false) (opq : PySem.W.nsIn K cStatics "thirdparty.any" = some none) : XK P K := ⟨cn, ctk, top, opq⟩
def XFC (P : Program) (K : PySem.W.Frag) (mg : Str → Option Value) (C : Addr) (xc : Xc) : Prop := (∀ cl c, cl c = some C → XF P K mg cl c xc) ∧ XGet K C
section
variable {P : Program} {K : PySem.W.Frag} {h : Heap} {mg : Str → Option Value} {cl : Nat → Option Addr} {c : Nat} {xc : Xc} {C fI : Addr} {B newId i : String} {bmB : List Value}
theorem xf_own {st : Stmt} {qual : Str} {dV kV doc pm ct ccl cl' : Value} {an od cdd cld : Option Addr} {cda cc : Addr} {osl ccs csl : Array (Option Value)} {vs : Array Value} (xk : XK P K) (X : K.In h) (G : h.Ns mainGlobals mg) (ho : xc.own = true) (few : xc.ps.length ≤ 100)
    (a : PySem.W.nsIn K mainGlobals xc.name = some (some (.ref C))) (base : XBase B newId i bmB) (ini : PySem.W.excInitIn K C bmB newId = true) (ovr : PySem.W.excOver K C bmB = true) (hd : PySem.W.hasDictIn K C = true)
    (sa : PySem.W.findIn K (.ref C) "__setattr__" = some (some (.builtin "object.__setattr__"))) (kC : PySem.W.keepIn K (.ref C) = true)
    (ga : PySem.W.findIn K (.ref C) "__getattribute__" = some (some (.builtin "BaseException.__getattribute__"))) (gg : PySem.W.findIn K (.ref C) "__getattr__" = some none) (sub : PySem.W.subIn K (.ref C) (.type "BaseException") = some true)
    (ca : PySem.W.findIn K (.ref C) "__class__" = some (some (.builtin "object.__class__"))) (cm : PySem.W.mroIn K C (.type "object") = some true)
    (no : NoF K C xc.ps) (find : PySem.W.findIn K (.ref C) "__init__" = some (some (.ref fI))) (sup : PySem.W.ks_superIn K C C "__init__" = some (some (.builtin i))) (subB : PySem.W.subIn K (.ref C) (.type B) = some true) (mroC : PySem.W.mroIn K C (.ref C) = some true)
    (hfn : PySem.W.isFn K (.ref fI) = true)
    (lf : K.lookup fI = some ⟨.type "function", od, .func (PySem.W.ksFn "__init__" qual (defArgs st) (defBody st) (defScope st) dV kV doc pm an (.ref cda) ct cc), osl⟩) (lc : PySem.W.codeIn K (.ref cda) qual = true) (lk : K.lookup cda = some ⟨ccl, cdd, .fields vs, ccs⟩) (file : fileB P vs = true)
    (lcc : K.lookup cc = some ⟨cl', cld, .cell (some (.ref C)), csl⟩) (ok : initOk xc.ps st = true) (b : Binds K (PySem.W.ksFn "__init__" qual (defArgs st) (defBody st) (defScope st) dV kV doc pm an (.ref cda) ct cc) (("self" : Str) :: xc.ps) [])
    (kw : ∀ p ∈ xc.kws, KwOk K (PySem.W.ksFn "__init__" qual (defArgs st) (defBody st) (defScope st) dV kV doc pm an (.ref cda) ct cc) (("self" : Str) :: xc.ps) (p.1 + 1, p.2.1, 0 :: p.2.2.map (· + 1)))   : XFC P K mg C xc := by
  unfold initOk headB at ok
  simp only [Bool.and_eq_true] at ok
  obtain ⟨o1, o2, o3⟩ := ok
  split at o1
  · rename_i ar har
    unfold fileB at file
    split at file
    · rename_i f tf hf
      refine ⟨fun cl c hcl => ⟨C, B, newId, i, bmB, hcl, PySem.W.mg_of X G a, ⟨base, ini, ovr, hd, sa, kC⟩, ⟨ga, gg, sub, ca, xk.cn, xk.ctk, cm, hd⟩, no.all, few, ?_⟩, ⟨ga, gg, sub, ca, xk.cn, xk.ctk, cm, hd⟩⟩
      rw [if_pos ho]
      exact ⟨fI, _, ⟨find, sup, subB, mroC, no.all, few, xk.top, xk.opq, _, _, _, _, _, _, _, _, _, _, _, _, _, _, _, _, _, _, _, _, _, _, _, _, _, rfl, lf, lc, lk, hf, file, lcc, har, of_decide_eq_true o1, o2, o3⟩, hfn, b, kw⟩
    · cases file
  · cases o1
theorem xf_none (xk : XK P K) (X : K.In h) (G : h.Ns mainGlobals mg) (ho : xc.own = false) (hps : xc.ps = []) (hkw : xc.kws = [])
    (a : PySem.W.nsIn K mainGlobals xc.name = some (some (.ref C))) (base : XBase B newId i bmB) (ini : PySem.W.excInitIn K C bmB newId = true) (ovr : PySem.W.excOver K C bmB = true) (hd : PySem.W.hasDictIn K C = true)
    (sa : PySem.W.findIn K (.ref C) "__setattr__" = some (some (.builtin "object.__setattr__"))) (kC : PySem.W.keepIn K (.ref C) = true)
    (ga : PySem.W.findIn K (.ref C) "__getattribute__" = some (some (.builtin "BaseException.__getattribute__"))) (gg : PySem.W.findIn K (.ref C) "__getattr__" = some none) (sub : PySem.W.subIn K (.ref C) (.type "BaseException") = some true)
    (ca : PySem.W.findIn K (.ref C) "__class__" = some (some (.builtin "object.__class__"))) (cm : PySem.W.mroIn K C (.type "object") = some true)
    (find : PySem.W.findIn K (.ref C) "__init__" = some (some (.builtin i))) : XFC P K mg C xc := by
  have n1 : ∀ f ∈ xc.ps, PySem.W.findIn K (.ref C) f = some none := fun f hf => by rw [hps] at hf; cases hf
  have n2 : xc.ps.length ≤ 100 := by rw [hps]; exact Nat.zero_le _
  refine ⟨fun cl c hcl => ⟨C, B, newId, i, bmB, hcl, PySem.W.mg_of X G a, ⟨base, ini, ovr, hd, sa, kC⟩, ⟨ga, gg, sub, ca, xk.cn, xk.ctk, cm, hd⟩, n1, n2, ?_⟩, ⟨ga, gg, sub, ca, xk.cn, xk.ctk, cm, hd⟩⟩
  rw [if_neg (by rw [ho]; exact Bool.false_ne_true)]
  exact ⟨hps, hkw, find⟩
theorem xs_all {as : List Addr} {xcs : List Xc} (p : Paired (XFC P K mg) as xcs) : ∀ (c : Nat) (xc : Xc), xcs[c]? = some xc → ∃ C, as[c]? = some C ∧ XFC P K mg C xc := by
  induction p with
  | nil => intro c xc h; simp at h
  | cons a r ih =>
    intro c xc h
    cases c with
    | zero => simp at h; subst h; exact ⟨_, rfl, a⟩
    | succ c =>
      obtain ⟨C, h1, h2⟩ := ih c xc (by simpa using h)
      exact ⟨C, by simpa using h1, h2⟩
/-! ### isinstance -/
/-- the mro of a class -/
def mroOfK (K : PySem.W.Frag) (C : Addr) (M : List Value) : Prop := ∃ cd, PySem.W.clsIn K C = some cd ∧ cd.mro = M
/-- u is a class that isinstance knows -/
def ClsOk (K : PySem.W.Frag) : Value → Prop
  | .ref D => ∃ cd, PySem.W.clsIn K D = some cd ∧ PySem.W.typeIn K (.ref D) = some (.type "type")
  | .type T => PySem.W.kitMeta T = true
  | _ => False
theorem kit_mro {M : List Value} {u : Value} (m : mroOfK K C M) (ne : M.isEmpty = false) (hself : M.contains (.ref C) = true) (o : ClsOk K u) : PySem.W.kitOne K (.ref C) u = some (M.contains u) := by
  obtain ⟨cd, hc, rfl⟩ := m
  unfold PySem.W.kitOne
  by_cases e : (Value.ref C == u) = true
  · rw [if_pos e, ← eq_of_beq e, hself]
  · rw [if_neg e]
    have sb : PySem.W.subIn K (.ref C) u = some (cd.mro.contains u) := by
      show PySem.W.mroIn K C u = _
      unfold PySem.W.mroIn
      rw [hc, Option.bind_some, if_neg (by rw [ne]; decide)]
    cases u with
    | ref D =>
      obtain ⟨cd', h1, h2⟩ := o
      unfold PySem.W.kitCls
      dsimp only
      rw [h1, h2, if_pos (by simp), sb]
    | type T =>
      unfold PySem.W.kitCls
      dsimp only
      rw [if_pos (show PySem.W.kitMeta T = true from o), sb]
    | _ => exact o.elim
/-- the answer for several classes -/
theorem kit_all {M : List Value} (m : mroOfK K C M) (ne : M.isEmpty = false) (hself : M.contains (.ref C) = true) : ∀ {us : List Value}, (∀ u ∈ us, ClsOk K u) → PySem.W.kitAny K (.ref C) us = some (us.any fun u => M.contains u)
  | [], _ => rfl
  | u :: us, h => by
    unfold PySem.W.kitAny
    rw [kit_mro m ne hself (h u (List.mem_cons_self ..))]
    cases e : M.contains u with
    | true => simp only [List.any_cons, e, Bool.true_or]
    | false => simp only [List.any_cons, e, Bool.false_or]; exact kit_all m ne hself fun v hv => h v (List.mem_cons_of_mem _ hv)
/-- the tables: addresses of the classes, their mros -/
structure XTab (K : PySem.W.Frag) (cl : Nat → Option Addr) (as : List (Addr × List Value)) : Prop where
  cl : ∀ c, cl c = as[c]?.map (·.1)
  mro : ∀ p ∈ as, mroOfK K p.1 p.2 ∧ XGet K p.1
def tabB (as : List (Addr × List Value)) : Bool := as.all fun p => !p.2.isEmpty && p.2.contains (.ref p.1)
def isxB (as : List (Addr × List Value)) (us : List Value) (ys ns : List Nat) : Bool := ys.all (fun c => match as[c]? with | some p => us.any fun u => p.2.contains u | none => true) && ns.all (fun c => match as[c]? with | some p => !(us.any fun u => p.2.contains u) | none => true)
theorem xi_mk {as : List (Addr × List Value)} {q : List Str × Bool × List Nat × List Nat} {vs : List V} {us : List Value} (t : XTab K cl as) (tb : tabB as = true) (nv : NmVs mg q.1 vs us) (ok : ∀ u ∈ us, ClsOk K u) (b : isxB as us q.2.2.1 q.2.2.2 = true) : XI K mg cl q := by
  unfold isxB at b
  rw [Bool.and_eq_true, List.all_eq_true, List.all_eq_true] at b
  unfold tabB at tb
  rw [List.all_eq_true] at tb
  have one : ∀ c C, cl c = some C → ∃ p, as[c]? = some p ∧ p.1 = C ∧ XGet K C ∧ PySem.W.kitAny K (.ref C) us = some (us.any fun u => p.2.contains u) := fun c C h => by
    rw [t.cl] at h
    obtain ⟨p, hp, rfl⟩ := Option.map_eq_some_iff.mp h
    have mp := List.mem_of_getElem? hp
    obtain ⟨m1, m2⟩ := t.mro p mp
    have z := tb p mp
    rw [Bool.and_eq_true, Bool.not_eq_true'] at z
    exact ⟨p, hp, rfl, m2, kit_all m1 z.1 z.2 ok⟩
  refine ⟨vs, us, nv, fun c hc C h => ?_, fun c hc C h => ?_⟩
  · obtain ⟨p, hp, _, g, k⟩ := one c C h
    have z := b.1 c hc
    rw [hp] at z
    exact ⟨g, by rw [k]; exact congrArg some z⟩
  · obtain ⟨p, hp, _, g, k⟩ := one c C h
    have z := b.2 c hc
    rw [hp] at z
    exact ⟨g, by rw [k]; simpa using z⟩
theorem nm_own {x : Str} {D : Addr} {xs : List Str} {vs : List V} {us : List Value} (X : K.In h) (G : h.Ns mainGlobals mg) (a : PySem.W.nsIn K mainGlobals x = some (some (.ref D))) (r : NmVs mg xs vs us) : NmVs mg (x :: xs) (.ref D :: vs) (.ref D :: us) := .cons (.inl ⟨D, PySem.W.mg_of X G a, rfl, rfl⟩) r
theorem nm_blt {x : Str} {n : String} {xs : List Str} {vs : List V} {us : List Value} (X : K.In h) (G : h.Ns mainGlobals mg) (a : PySem.W.nsIn K mainGlobals x = some none) (b : bootBuiltins x = some (.type n)) (e : x ≠ "__name__") (r : NmVs mg xs vs us) : NmVs mg (x :: xs) (.ty n :: vs) (.type n :: us) := .cons (.inr ⟨n, PySem.W.mg_none_of X G a, b, e, rfl, rfl⟩) r
end
end Mx


/-! Mx, part 7: how runs are reckoned. -/
namespace Mx
open PySem PySem.Spec PyProof.Rows L2
/-- the run ends well, with Q -/
def Ok {α : Type} (r : Out α) (Q : α → List Sl → Prop) : Prop := match r with
  | some (.ok a, ρ) => Q a ρ
  | _ => False
section
variable {α β : Type} {ρ : List Sl}
theorem Ok.mono {r : Out α} {Q Q' : α → List Sl → Prop} (h : Ok r Q) (k : ∀ a ρ, Q a ρ → Q' a ρ) : Ok r Q' := by
  match r, h with
  | some (.ok a, ρ), h => exact k a ρ h
theorem Ok.eq {r : Out α} {Q : α → List Sl → Prop} (h : Ok r Q) : ∃ a ρ, r = some (.ok a, ρ) ∧ Q a ρ := by
  match r, h with
  | some (.ok a, ρ), h => exact ⟨a, ρ, rfl, h⟩
theorem Ok.of {r : Out α} {Q : α → List Sl → Prop} {a : α} {ρ : List Sl} (e : r = some (.ok a, ρ)) (h : Q a ρ) : Ok r Q := by subst e; exact h
theorem ok_some {a : α} {Q : α → List Sl → Prop} : Ok (some (.ok a, ρ)) Q = Q a ρ := rfl
theorem ok_pure {a : α} {Q : α → List Sl → Prop} : Ok (rPure a ρ) Q = Q a ρ := rfl
theorem ok_bind {m : R α} {f : α → R β} {Q : β → List Sl → Prop} : Ok (rBind m f ρ) Q = Ok (m ρ) (fun a ρ1 => Ok (f a ρ1) Q) := by
  unfold rBind
  match m ρ with
  | none => rfl
  | some (.ok a, ρ) => rfl
  | some (.error x, ρ) => rfl
theorem ok_lift {o : Option α} {Q : α → List Sl → Prop} : Ok (rLift o ρ) Q = (match o with | some a => Q a ρ | none => False) := by
  unfold rLift
  cases o <;> rfl
theorem ok_if {c : Bool} {a b : R α} {Q : α → List Sl → Prop} : Ok ((if c = true then a else b) ρ) Q = (if c = true then Ok (a ρ) Q else Ok (b ρ) Q) := by cases c <;> rfl
theorem ok_rIf {c : R Bool} {a b : R α} {Q : α → List Sl → Prop} : Ok (rIf c a b ρ) Q = Ok (c ρ) (fun t ρ1 => if t = true then Ok (a ρ1) Q else Ok (b ρ1) Q) := by
  unfold rIf
  rw [ok_bind]
  congr
  funext t ρ1
  exact ok_if
end
theorem ok_var {i : Nat} {ρ : List Sl} {Q : IV → List Sl → Prop} : Ok (rVar i ρ) Q = (match ρ[i]? with | some (.i d) => Q d ρ | _ => False) := by
  unfold rVar
  match ρ[i]? with
  | none => rfl
  | some .e => rfl
  | some (.i d) => rfl
  | some (.o d) => rfl
  | some (.b d) => rfl
theorem ok_view {i : Nat} {ρ : List Sl} {Q : IV → List Sl → Prop} : Ok (rView i ρ) Q = (match ρ[i]? with | some (.o d) => Q d ρ | some (.b d) => Q d ρ | _ => False) := by
  unfold rView
  match ρ[i]? with
  | none => rfl
  | some .e => rfl
  | some (.i d) => rfl
  | some (.o d) => rfl
  | some (.b d) => rfl
theorem ok_set {i : Nat} {r : Sl} {ρ : List Sl} {Q : Fl → List Sl → Prop} : Ok (rSet i r ρ) Q = Q .nx (ρ.set i r) := rfl
/-- a def's call ends well: its value, its changing arguments -/
def OkF (r : Option (Except Xn IV × List IV)) (Q : IV → List IV → Prop) : Prop := match r with
  | some (.ok d, ms) => Q d ms
  | _ => False
theorem OkF.eq {r : Option (Except Xn IV × List IV)} {Q : IV → List IV → Prop} (h : OkF r Q) : ∃ d ms, r = some (.ok d, ms) ∧ Q d ms := by
  match r, h with
  | some (.ok d, ms), h => exact ⟨d, ms, rfl, h⟩
theorem OkF.mono {r : Option (Except Xn IV × List IV)} {Q Q' : IV → List IV → Prop} (h : OkF r Q) (k : ∀ d ms, Q d ms → Q' d ms) : OkF r Q' := by
  match r, h with
  | some (.ok d, ms), h => exact k d ms h
/-- a call: the arguments at hand -/
theorem ok_call {cs : CS} {f : Nat} {xs : List (IV ⊕ Nat)} {ρ : List Sl} {Q : IV → List Sl → Prop} {ds : List IV} (e : argsD ρ xs = some ds) (h : OkF (cs f ds) fun d ms => Q d (putM xs ms ρ)) : Ok (rCall cs f xs ρ) Q := by
  unfold rCall
  rw [e]
  obtain ⟨d, ms, e2, q⟩ := h.eq
  show Ok (match cs f ds with | none => none | some (r, ms) => some (r, putM xs ms ρ)) Q
  rw [e2]
  exact q
/-- a def by its body -/
theorem okF_run {T : Nat → Option Fn} {N k f : Nat} {fn : Fn} {ds : List IV} {Q : IV → List IV → Prop} (hf : T f = some fn) (hl : ds.length = fn.ps.length)
    (h : Ok (evSs (runF T N k) N fn.body (fn.start ds)) fun fl ρ => match fl with
      | .rt d => ∃ ms, mutsOf fn.muts ρ = some ms ∧ Q d ms
      | .nx => fn.own = false ∧ ∃ ms, mutsOf fn.muts ρ = some ms ∧ Q .non ms
      | _ => False) : OkF (runF T N (k + 1) f ds) Q := by
  show OkF (match T f with | none => none | some fn => if ds.length = fn.ps.length then endF fn (evSs (runF T N k) N fn.body (fn.start ds)) else none) Q
  rw [hf]
  show OkF (if ds.length = fn.ps.length then endF fn (evSs (runF T N k) N fn.body (fn.start ds)) else none) Q
  rw [if_pos hl]
  obtain ⟨fl, ρ, e, q⟩ := h.eq
  rw [e]
  match fl, q with
  | .rt d, ⟨ms, e2, q⟩ =>
    show OkF ((mutsOf fn.muts ρ).map fun ms => (.ok d, ms)) Q
    rw [e2]
    exact q
  | .nx, ⟨ho, ms, e2, q⟩ =>
    show OkF (if fn.own = true then none else (mutsOf fn.muts ρ).map fun ms => (.ok .non, ms)) Q
    rw [if_neg (by rw [ho]; exact Bool.false_ne_true), e2]
    exact q
theorem ok_ss_nil {cs : CS} {N : Nat} {ρ : List Sl} {Q : Fl → List Sl → Prop} : Ok (evSs cs N .nil ρ) Q = Q .nx ρ := rfl
theorem ok_ss_cons {cs : CS} {N : Nat} {s : S} {r : Ss} {ρ : List Sl} {Q : Fl → List Sl → Prop} : Ok (evSs cs N (.cons s r) ρ) Q = Ok (evS cs N s ρ) (fun f ρ1 => match f with | .nx => Ok (evSs cs N r ρ1) Q | f => Q f ρ1) := by
  show Ok ((rBind (evS cs N s) fun f => match f with | .nx => evSs cs N r | f => rPure f) ρ) Q = _
  rw [ok_bind]
  congr
  funext f ρ1
  cases f <;> rfl
/-- a loop over data: an invariant by the turn -/
theorem ok_for {tg : List Nat} {b : R Fl} {Q : Fl → List Sl → Prop} (P : Nat → List Sl → Prop) : ∀ (xs : List IV) (n : Nat) {ρ : List Sl}, P n ρ →
    (∀ (i : Nat) (x : IV) (ρ : List Sl), xs[i]? = some x → P (n + i) ρ → Ok (rTg tg x ρ) fun _ ρ1 => Ok (b ρ1) fun f ρ2 => match f with | .nx => P (n + i + 1) ρ2 | .ct => P (n + i + 1) ρ2 | .bk => Q .nx ρ2 | .rt d => Q (.rt d) ρ2) →
    (∀ ρ, P (n + xs.length) ρ → Q .nx ρ) → Ok (rFor tg b xs ρ) Q
  | [], n, ρ, h, _, e => e ρ h
  | x :: xs, n, ρ, h, s, e => by
    show Ok ((rBind (rTg tg x) fun _ => rBind b fun f => match f with | .nx => rFor tg b xs | .ct => rFor tg b xs | .bk => rPure .nx | .rt d => rPure (.rt d)) ρ) Q
    rw [ok_bind]
    have go : ∀ {ρ2 : List Sl}, P (n + 1) ρ2 → Ok (rFor tg b xs ρ2) Q := fun {ρ2} hp => ok_for P xs (n + 1) hp (fun i y ρ hy hp => by
      have z := s (i + 1) y ρ hy (by rw [show n + (i + 1) = n + 1 + i from by omega]; exact hp)
      rw [show n + (i + 1) + 1 = n + 1 + i + 1 from by omega] at z
      exact z) (fun ρ hp => e ρ (by rw [show n + (x :: xs).length = n + 1 + xs.length from by rw [List.length_cons]; omega]; exact hp))
    refine (s 0 x ρ rfl h).mono fun _ ρ1 h1 => ?_
    rw [ok_bind]
    refine h1.mono fun f ρ2 h2 => ?_
    cases f with
    | nx => exact go h2
    | ct => exact go h2
    | bk => exact h2
    | rt d => exact h2
/-- a comprehension: an invariant by the turn and what has been gathered -/
theorem ok_comp {tg : List Nat} {c : R Bool} {e : R IV} {Q : List IV → List Sl → Prop} (P : Nat → List IV → List Sl → Prop) : ∀ (xs : List IV) (n : Nat) (acc : List IV) {ρ : List Sl}, P n acc ρ →
    (∀ (i : Nat) (x : IV) (acc : List IV) (ρ : List Sl), xs[i]? = some x → P (n + i) acc ρ → Ok (rTg tg x ρ) fun _ ρ1 => Ok (c ρ1) fun t ρ2 => if t = true then Ok (e ρ2) fun y ρ3 => P (n + i + 1) (acc ++ [y]) (clear tg ρ3) else P (n + i + 1) acc (clear tg ρ2)) →
    (∀ ys ρ, P (n + xs.length) (acc ++ ys) ρ → Q ys ρ) → Ok (rComp tg c e xs ρ) Q
  | [], n, acc, ρ, h, _, q => q [] ρ (by rw [List.append_nil]; exact h)
  | x :: xs, n, acc, ρ, h, s, q => by
    show Ok ((rBind (rTg tg x) fun _ => rBind c fun t => if t = true then rBind e fun y => rBind (rClr tg) fun _ => rBind (rComp tg c e xs) fun ys => rPure (y :: ys) else rBind (rClr tg) fun _ => rComp tg c e xs) ρ) Q
    rw [ok_bind]
    have go : ∀ {acc2 : List IV} {ρ2 : List Sl} {Q2 : List IV → List Sl → Prop}, P (n + 1) acc2 ρ2 → (∀ ys ρ, P (n + (x :: xs).length) (acc2 ++ ys) ρ → Q2 ys ρ) → Ok (rComp tg c e xs ρ2) Q2 := fun {acc2 ρ2 Q2} hp hq => ok_comp P xs (n + 1) acc2 hp (fun i y a ρ hy hp => by
      have z := s (i + 1) y a ρ hy (by rw [show n + (i + 1) = n + 1 + i from by omega]; exact hp)
      rw [show n + (i + 1) + 1 = n + 1 + i + 1 from by omega] at z
      exact z) (fun ys ρ hp => hq ys ρ (by rw [show n + (x :: xs).length = n + 1 + xs.length from by rw [List.length_cons]; omega]; exact hp))
    refine (s 0 x acc ρ rfl h).mono fun _ ρ1 h1 => ?_
    rw [ok_bind]
    refine h1.mono fun t ρ2 h2 => ?_
    cases t with
    | true =>
      rw [if_pos rfl] at h2 ⊢
      rw [ok_bind]
      refine h2.mono fun y ρ3 h3 => ?_
      rw [ok_bind]
      show Ok ((rBind (rComp tg c e xs) fun ys => rPure (y :: ys)) (clear tg ρ3)) Q
      rw [ok_bind]
      exact go h3 fun ys ρ hp => q (y :: ys) ρ (by rw [show acc ++ y :: ys = acc ++ [y] ++ ys from by rw [List.append_assoc]; rfl]; exact hp)
    | false =>
      rw [if_neg Bool.false_ne_true] at h2 ⊢
      rw [ok_bind]
      exact go h2 q
theorem ok_list {tg : List Nat} {c : R Bool} {e : R IV} {xs : List IV} {ρ : List Sl} {Q : IV → List Sl → Prop} (h1 : light tg ρ = true) (h2 : xs.length ≤ SZ) (h : Ok (rComp tg c e xs (clear tg ρ)) fun ys ρ' => Q (.lst ys) (back tg ρ ρ')) : Ok (rList tg c e xs ρ) Q := by
  unfold rList
  rw [if_pos ⟨h1, h2⟩]
  obtain ⟨ys, ρ', e, q⟩ := h.eq
  rw [e]
  exact q
/-- while: an invariant by a measure -/
theorem ok_while {c : R Bool} {b : R Fl} {Q : Fl → List Sl → Prop} (P : Nat → List Sl → Prop) (h : ∀ m ρ, P m ρ → Ok (c ρ) fun t ρ1 => if t = true then Ok (b ρ1) fun f ρ2 => match f with | .nx => ∃ m', m' < m ∧ P m' ρ2 | .ct => ∃ m', m' < m ∧ P m' ρ2 | .bk => Q .nx ρ2 | .rt d => Q (.rt d) ρ2 else Q .nx ρ1) :
    ∀ (N m : Nat) {ρ : List Sl}, m < N → P m ρ → Ok (rWhile c b N ρ) Q
  | 0, m, ρ, hm, _ => absurd hm (Nat.not_lt_zero _)
  | N + 1, m, ρ, hm, hp => by
    show Ok ((rBind c fun t => if t = true then rBind b fun f => match f with | .nx => rWhile c b N | .ct => rWhile c b N | .bk => rPure .nx | .rt d => rPure (.rt d) else rPure .nx) ρ) Q
    rw [ok_bind]
    refine (h m ρ hp).mono fun t ρ1 h1 => ?_
    cases t with
    | false => rw [if_neg Bool.false_ne_true] at h1 ⊢; exact h1
    | true =>
      rw [if_pos rfl] at h1 ⊢
      rw [ok_bind]
      refine h1.mono fun f ρ2 h2 => ?_
      cases f with
      | nx => obtain ⟨m', l, p⟩ := h2; exact ok_while P h N m' (by omega) p
      | ct => obtain ⟨m', l, p⟩ := h2; exact ok_while P h N m' (by omega) p
      | bk => exact h2
      | rt d => exact h2
end Mx


/-! Mx, part 8: runs reckoned by simp: each word, from the outside. -/
namespace Mx
open PySem PySem.Spec PyProof.Rows L2
def OkO {α : Type} (o : Option α) (Q : α → Prop) : Prop := match o with
  | some a => Q a
  | none => False
def OkS (r : Option Sl) (Q : Sl → Prop) : Prop := match r with
  | some s => Q s
  | none => False
section
variable {α β : Type} {ρ : List Sl} {cs : CS} {N : Nat} {Q : IV → List Sl → Prop} {B : Bool → List Sl → Prop} {F : Fl → List Sl → Prop}
@[simp ↓] theorem okO_some {a : α} {Q : α → Prop} : OkO (some a) Q = Q a := rfl
@[simp ↓] theorem okO_none {Q : α → Prop} : OkO (none : Option α) Q = False := rfl
theorem okO_map {o : Option α} {f : α → β} {Q : β → Prop} : OkO (o.map f) Q = OkO o fun a => Q (f a) := by cases o <;> rfl
theorem ok_lift' {o : Option α} {Q : α → List Sl → Prop} : Ok (rLift o ρ) Q = OkO o fun a => Q a ρ := by cases o <;> rfl
@[simp ↓] theorem okE_var {i : Nat} : Ok ((ev cs (.var i)).1 ρ) Q = OkO ρ[i]? (fun r => match r with | .i d => Q d ρ | _ => False) := by
  show Ok (rVar i ρ) Q = _
  rw [ok_var]
  match ρ[i]? with
  | none => rfl
  | some .e => rfl
  | some (.i d) => rfl
  | some (.o d) => rfl
  | some (.b d) => rfl
@[simp ↓] theorem okE_view {i : Nat} : Ok ((ev cs (.view i)).1 ρ) Q = OkO ρ[i]? (fun r => match r with | .o d => Q d ρ | .b d => Q d ρ | _ => False) := by
  show Ok (rView i ρ) Q = _
  rw [ok_view]
  match ρ[i]? with
  | none => rfl
  | some .e => rfl
  | some (.i d) => rfl
  | some (.o d) => rfl
  | some (.b d) => rfl
@[simp ↓] theorem okE_cst {d : IV} : Ok ((ev cs (.cst d)).1 ρ) Q = Q d ρ := rfl
@[simp ↓] theorem okE_glo {x : Str} {d : IV} : Ok ((ev cs (.glo x d)).1 ρ) Q = Q d ρ := rfl
@[simp ↓] theorem okE_bin {o : BOp} {a b : E} : Ok ((ev cs (.bin o a b)).1 ρ) Q = Ok ((ev cs a).1 ρ) fun x ρ1 => Ok ((ev cs b).1 ρ1) fun y ρ2 => OkO (binD o x y) fun d => Q d ρ2 := by
  show Ok ((rBind (ev cs a).1 fun x => rBind (ev cs b).1 fun y => rLift (binD o x y)) ρ) Q = _
  simp only [ok_bind, ok_lift']
@[simp ↓] theorem okE_cmp {o : COp} {a b : E} : Ok ((ev cs (.cmp o a b)).1 ρ) Q = Ok ((ev cs a).1 ρ) fun x ρ1 => Ok ((ev cs b).1 ρ1) fun y ρ2 => OkO (cmpD o x y) fun t => Q (.bl t) ρ2 := by
  show Ok ((rBind (ev cs a).1 fun x => rBind (ev cs b).1 fun y => rLift ((cmpD o x y).map .bl)) ρ) Q = _
  simp only [ok_bind, ok_lift', okO_map]
theorem okT {e : E} (h : (ev cs e).2 = rBind (ev cs e).1 fun d => rLift (truD d)) : Ok ((ev cs e).2 ρ) B = Ok ((ev cs e).1 ρ) fun d ρ1 => OkO (truD d) fun t => B t ρ1 := by
  rw [h]
  simp only [ok_bind, ok_lift']
@[simp ↓] theorem okT_cmp {o : COp} {a b : E} : Ok ((ev cs (.cmp o a b)).2 ρ) B = Ok ((ev cs a).1 ρ) fun x ρ1 => Ok ((ev cs b).1 ρ1) fun y ρ2 => OkO (cmpD o x y) fun t => B t ρ2 := by
  rw [okT rfl, okE_cmp]
  rfl
@[simp ↓] theorem okE_chn {o o' : COp} {a b c : E} : Ok ((ev cs (.chn o o' a b c)).1 ρ) Q = Ok ((ev cs a).1 ρ) fun x ρ1 => Ok ((ev cs b).1 ρ1) fun y ρ2 => OkO (cmpD o x y) fun t => if t = true then Ok ((ev cs c).1 ρ2) fun z ρ3 => OkO (cmpD o' y z) fun t => Q (.bl t) ρ3 else Q (.bl false) ρ2 := by
  show Ok ((rBind (ev cs a).1 fun x => rBind (ev cs b).1 fun y => rBind (rLift (cmpD o x y)) fun t => if t = true then rBind (ev cs c).1 fun z => rLift ((cmpD o' y z).map .bl) else rPure (.bl false)) ρ) Q = _
  simp only [ok_bind, ok_lift', okO_map, ok_if, ok_pure]
@[simp ↓] theorem okT_chn {o o' : COp} {a b c : E} : Ok ((ev cs (.chn o o' a b c)).2 ρ) B = Ok ((ev cs a).1 ρ) fun x ρ1 => Ok ((ev cs b).1 ρ1) fun y ρ2 => OkO (cmpD o x y) fun t => if t = true then Ok ((ev cs c).1 ρ2) fun z ρ3 => OkO (cmpD o' y z) fun t => B t ρ3 else B false ρ2 := by
  rw [okT rfl, okE_chn]
  rfl
@[simp ↓] theorem okE_not {a : E} : Ok ((ev cs (.not a)).1 ρ) Q = Ok ((ev cs a).1 ρ) fun x ρ1 => match x with | .bl b => Q (.bl !b) ρ1 | _ => False := by
  show Ok ((rBind (ev cs a).1 fun x => match x with | .bl b => rPure (.bl !b) | _ => rLift none) ρ) Q = _
  rw [ok_bind]
  congr
  funext x ρ1
  cases x <;> rfl
@[simp ↓] theorem okT_not {a : E} : Ok ((ev cs (.not a)).2 ρ) B = Ok ((ev cs a).2 ρ) fun t ρ1 => B (!t) ρ1 := by
  show Ok ((rBind (ev cs a).2 fun t => rPure !t) ρ) B = _
  rw [ok_bind]
  rfl
@[simp ↓] theorem okE_neg {a : E} : Ok ((ev cs (.neg a)).1 ρ) Q = Ok ((ev cs a).1 ρ) fun x ρ1 => match x with | .int i => Q (.int (-i)) ρ1 | _ => False := by
  show Ok ((rBind (ev cs a).1 fun x => match x with | .int i => rPure (.int (-i)) | _ => rLift none) ρ) Q = _
  rw [ok_bind]
  congr
  funext x ρ1
  cases x <;> rfl
@[simp ↓] theorem okE_ite {c a b : E} : Ok ((ev cs (.ite c a b)).1 ρ) Q = Ok ((ev cs c).2 ρ) fun t ρ1 => if t = true then Ok ((ev cs a).1 ρ1) Q else Ok ((ev cs b).1 ρ1) Q := ok_rIf
@[simp ↓] theorem okE_ix {a b : E} : Ok ((ev cs (.ix a b)).1 ρ) Q = Ok ((ev cs a).1 ρ) fun x ρ1 => Ok ((ev cs b).1 ρ1) fun y ρ2 => OkO (ixD x y) fun d => Q d ρ2 := by
  show Ok ((rBind (ev cs a).1 fun x => rBind (ev cs b).1 fun y => rLift (ixD x y)) ρ) Q = _
  simp only [ok_bind, ok_lift']
@[simp ↓] theorem okO_no {Q : Option Int → List Sl → Prop} : Ok (evO cs .no ρ) Q = Q none ρ := rfl
@[simp ↓] theorem okO_yes {e : E} {Q : Option Int → List Sl → Prop} : Ok (evO cs (.yes e) ρ) Q = Ok ((ev cs e).1 ρ) fun x ρ1 => match x with | .int i => Q (some i) ρ1 | _ => False := by
  show Ok ((rBind (ev cs e).1 fun x => rLift ((intI x).map some)) ρ) Q = _
  rw [ok_bind]
  congr
  funext x ρ1
  cases x <;> rfl
@[simp ↓] theorem okE_sl {a : E} {lo hi : OE} : Ok ((ev cs (.sl a lo hi)).1 ρ) Q = Ok ((ev cs a).1 ρ) fun x ρ1 => Ok (evO cs lo ρ1) fun l ρ2 => Ok (evO cs hi ρ2) fun h ρ3 => OkO (slD x l h) fun d => Q d ρ3 := by
  show Ok ((rBind (ev cs a).1 fun x => rBind (evO cs lo) fun l => rBind (evO cs hi) fun h => rLift (slD x l h)) ρ) Q = _
  simp only [ok_bind, ok_lift']
@[simp ↓] theorem okEs_nil {Q : List IV → List Sl → Prop} : Ok (evEs cs .nil ρ) Q = Q [] ρ := rfl
@[simp ↓] theorem okEs_cons {e : E} {r : Es} {Q : List IV → List Sl → Prop} : Ok (evEs cs (.cons e r) ρ) Q = Ok ((ev cs e).1 ρ) fun x ρ1 => Ok (evEs cs r ρ1) fun xs ρ2 => Q (x :: xs) ρ2 := by
  show Ok ((rBind (ev cs e).1 fun x => rBind (evEs cs r) fun xs => rPure (x :: xs)) ρ) Q = _
  simp only [ok_bind, ok_pure]
@[simp ↓] theorem okE_lst {es : Es} : Ok ((ev cs (.lst es)).1 ρ) Q = Ok (evEs cs es ρ) fun xs ρ1 => if xs.length ≤ SZ then Q (.lst xs) ρ1 else False := by
  show Ok ((rBind (evEs cs es) fun xs => rLift (if xs.length ≤ SZ then some (.lst xs) else none)) ρ) Q = _
  rw [ok_bind]
  congr
  funext xs ρ1
  by_cases h : xs.length ≤ SZ
  · rw [if_pos h, if_pos h]; rfl
  · rw [if_neg h, if_neg h]; rfl
@[simp ↓] theorem okE_tup {es : Es} : Ok ((ev cs (.tup es)).1 ρ) Q = Ok (evEs cs es ρ) fun xs ρ1 => if xs.length ≤ SZ then Q (.tup xs) ρ1 else False := by
  show Ok ((rBind (evEs cs es) fun xs => rLift (if xs.length ≤ SZ then some (.tup xs) else none)) ρ) Q = _
  rw [ok_bind]
  congr
  funext xs ρ1
  by_cases h : xs.length ≤ SZ
  · rw [if_pos h, if_pos h]; rfl
  · rw [if_neg h, if_neg h]; rfl
@[simp ↓] theorem okE_dct {ks : List Key} {es : Es} : Ok ((ev cs (.dct ks es)).1 ρ) Q = Ok (evEs cs es ρ) fun xs ρ1 => Q (.dct (ks.zip xs)) ρ1 := by
  show Ok ((rBind (evEs cs es) fun xs => rPure (.dct (ks.zip xs))) ρ) Q = _
  simp only [ok_bind, ok_pure]
@[simp ↓] theorem okE_fn {f : BFn} {es : Es} : Ok ((ev cs (.fn f es)).1 ρ) Q = Ok (evEs cs es ρ) fun xs ρ1 => OkO (fnD f xs) fun d => Q d ρ1 := by
  show Ok ((rBind (evEs cs es) fun xs => rLift (fnD f xs)) ρ) Q = _
  simp only [ok_bind, ok_lift']
@[simp ↓] theorem okT_fn {f : BFn} {es : Es} : Ok ((ev cs (.fn f es)).2 ρ) B = Ok (evEs cs es ρ) fun xs ρ1 => OkO (fnD f xs) fun d => OkO (truD d) fun t => B t ρ1 := by
  rw [okT rfl, okE_fn]
@[simp ↓] theorem okE_pr1 {p : P1} {a : E} : Ok ((ev cs (.pr1 p a)).1 ρ) Q = Ok ((ev cs a).1 ρ) fun x ρ1 => OkO (pr1D p x) fun d => Q d ρ1 := by
  show Ok ((rBind (ev cs a).1 fun x => rLift (pr1D p x)) ρ) Q = _
  simp only [ok_bind, ok_lift']
@[simp ↓] theorem okT_pr1 {p : P1} {a : E} : Ok ((ev cs (.pr1 p a)).2 ρ) B = Ok ((ev cs a).1 ρ) fun x ρ1 => OkO (pr1D p x) fun d => OkO (truD d) fun t => B t ρ1 := by
  rw [okT rfl, okE_pr1]
@[simp ↓] theorem okE_mk {c : Nat} {ps : List Str} {es : Es} : Ok ((ev cs (.mk c ps es)).1 ρ) Q = Ok (evEs cs es ρ) fun xs ρ1 => OkO (mkD c ps xs) fun d => Q d ρ1 := by
  show Ok ((rBind (evEs cs es) fun xs => rLift (mkD c ps xs)) ρ) Q = _
  simp only [ok_bind, ok_lift']
@[simp ↓] theorem okE_mkK {c : Nat} {ps : List Str} {as bs : Es} {ks : List Str} {perm : List Nat} : Ok ((ev cs (.mkK c ps as bs ks perm)).1 ρ) Q = Ok (evEs cs as ρ) fun ds ρ1 => Ok (evEs cs bs ρ1) fun es ρ2 => OkO (match pick (ds ++ es) perm with | some zs => mkD c ps zs | none => none) fun d => Q d ρ2 := by
  show Ok ((rBind (evEs cs as) fun ds => rBind (evEs cs bs) fun es => rLift (match pick (ds ++ es) perm with | some zs => mkD c ps zs | none => none)) ρ) Q = _
  simp only [ok_bind, ok_lift']
@[simp ↓] theorem okE_isi {a : E} {t : String} : Ok ((ev cs (.isi a t)).1 ρ) Q = Ok ((ev cs a).1 ρ) fun x ρ1 => OkO (isiD x t) fun b => Q (.bl b) ρ1 := by
  show Ok ((rBind (ev cs a).1 fun x => rLift ((isiD x t).map .bl)) ρ) Q = _
  simp only [ok_bind, ok_lift', okO_map]
@[simp ↓] theorem okT_isi {a : E} {t : String} : Ok ((ev cs (.isi a t)).2 ρ) B = Ok ((ev cs a).1 ρ) fun x ρ1 => OkO (isiD x t) fun b => B b ρ1 := by
  rw [okT rfl, okE_isi]
  rfl
@[simp ↓] theorem okE_mt {m : BMt} {a : E} {es : Es} : Ok ((ev cs (.mt m a es)).1 ρ) Q = Ok ((ev cs a).1 ρ) fun x ρ1 => OkO (strI x) fun _ => Ok (evEs cs es ρ1) fun xs ρ2 => OkO (mtD m x xs) fun d => Q d ρ2 := by
  show Ok ((rBind (ev cs a).1 fun x => rBind (rLift (strI x)) fun _ => rBind (evEs cs es) fun xs => rLift (mtD m x xs)) ρ) Q = _
  simp only [ok_bind, ok_lift']
@[simp] theorem strI_str {l : List Nat} : strI (.str l) = some () := rfl
@[simp ↓] theorem okE_call {f : Nat} {as : As} : Ok ((ev cs (.call f as)).1 ρ) Q = Ok (evAs cs as ρ) fun xs ρ1 => OkO (argsD ρ1 xs) fun ds => OkF (cs f ds) fun d ms => Q d (putM xs ms ρ1) := by
  show Ok ((rBind (evAs cs as) fun xs => rCall cs f xs) ρ) Q = _
  rw [ok_bind]
  congr
  funext xs ρ1
  unfold rCall
  cases argsD ρ1 xs with
  | none => rfl
  | some ds =>
    show Ok (match cs f ds with | none => none | some (r, ms) => some (r, putM xs ms ρ1)) Q = _
    match h : cs f ds with
    | none => simp only [okO_some, h]; rfl
    | some (.ok d, ms) => simp only [okO_some, h]; rfl
    | some (.error x, ms) => simp only [okO_some, h]; rfl
@[simp ↓] theorem okT_call {f : Nat} {as : As} : Ok ((ev cs (.call f as)).2 ρ) B = Ok (evAs cs as ρ) fun xs ρ1 => OkO (argsD ρ1 xs) fun ds => OkF (cs f ds) fun d ms => OkO (truD d) fun t => B t (putM xs ms ρ1) := by
  rw [okT rfl, okE_call]
@[simp ↓] theorem okE_callK {f : Nat} {as bs : Es} {ks : List Str} {perm : List Nat} : Ok ((ev cs (.callK f as bs ks perm)).1 ρ) Q = Ok (evEs cs as ρ) fun ds ρ1 => Ok (evEs cs bs ρ1) fun es ρ2 => OkO (pick (ds ++ es) perm) fun ws => OkF (cs f ws) fun d _ => Q d ρ2 := by
  show Ok ((rBind (evEs cs as) fun ds => rBind (evEs cs bs) fun es => rCallK cs f perm (ds ++ es)) ρ) Q = _
  rw [ok_bind]
  congr
  funext ds ρ1
  rw [ok_bind]
  congr
  funext es ρ2
  unfold rCallK
  cases pick (ds ++ es) perm with
  | none => rfl
  | some ws =>
    show Ok (match cs f ws with | none => none | some (r, _) => some (r, ρ2)) Q = _
    match h : cs f ws with
    | none => simp only [okO_some, h]; rfl
    | some (.ok d, ms) => simp only [okO_some, h]; rfl
    | some (.error x, ms) => simp only [okO_some, h]; rfl
@[simp ↓] theorem okAs_nil {Q : List (IV ⊕ Nat) → List Sl → Prop} : Ok (evAs cs .nil ρ) Q = Q [] ρ := rfl
@[simp ↓] theorem okAs_v {e : E} {r : As} {Q : List (IV ⊕ Nat) → List Sl → Prop} : Ok (evAs cs (.v e r) ρ) Q = Ok ((ev cs e).1 ρ) fun x ρ1 => Ok (evAs cs r ρ1) fun xs ρ2 => Q (.inl x :: xs) ρ2 := by
  show Ok ((rBind (ev cs e).1 fun x => rBind (evAs cs r) fun xs => rPure (.inl x :: xs)) ρ) Q = _
  simp only [ok_bind, ok_pure]
@[simp ↓] theorem okAs_m {i : Nat} {r : As} {Q : List (IV ⊕ Nat) → List Sl → Prop} : Ok (evAs cs (.m i r) ρ) Q = OkO ρ[i]? (fun s => match s with | .o _ => Ok (evAs cs r ρ) fun xs ρ2 => Q (.inr i :: xs) ρ2 | .b _ => Ok (evAs cs r ρ) fun xs ρ2 => Q (.inr i :: xs) ρ2 | _ => False) := by
  show Ok ((rBind (rView i) fun _ => rBind (evAs cs r) fun xs => rPure (.inr i :: xs)) ρ) Q = _
  simp only [ok_bind, ok_pure, ok_view]
  match ρ[i]? with
  | none => rfl
  | some .e => rfl
  | some (.i d) => rfl
  | some (.o d) => rfl
  | some (.b d) => rfl
@[simp ↓] theorem okE_comp {tg : List Nat} {it : It} {c : OE} {e : E} : Ok ((ev cs (.comp tg it c e)).1 ρ) Q = Ok (evIt cs it ρ) fun xs ρ1 => Ok (rList tg (evC cs c) (ev cs e).1 xs ρ1) Q := by
  show Ok ((rBind (evIt cs it) fun xs => rList tg (evC cs c) (ev cs e).1 xs) ρ) Q = _
  rw [ok_bind]
@[simp ↓] theorem okA1 {e : E} : Ok ((evAnd cs (.cons e .nil)).1 ρ) Q = Ok ((ev cs e).1 ρ) Q := rfl
@[simp ↓] theorem okAT1 {e : E} : Ok ((evAnd cs (.cons e .nil)).2 ρ) B = Ok ((ev cs e).2 ρ) B := rfl
@[simp ↓] theorem okO1 {e : E} : Ok ((evOr cs (.cons e .nil)).1 ρ) Q = Ok ((ev cs e).1 ρ) Q := rfl
@[simp ↓] theorem okOT1 {e : E} : Ok ((evOr cs (.cons e .nil)).2 ρ) B = Ok ((ev cs e).2 ρ) B := rfl
@[simp ↓] theorem okA2 {e e' : E} {r : Es} : Ok ((evAnd cs (.cons e (.cons e' r))).1 ρ) Q = Ok ((ev cs e).1 ρ) fun x ρ1 => match x with | .bl t => if t = true then Ok ((evAnd cs (.cons e' r)).1 ρ1) Q else Q (.bl false) ρ1 | _ => False := by
  show Ok ((rBind (ev cs e).1 fun x => match x with | .bl true => (evAnd cs (.cons e' r)).1 | .bl false => rPure (.bl false) | _ => rLift none) ρ) Q = _
  rw [ok_bind]
  congr
  funext x ρ1
  match x with
  | .bl true => rfl
  | .bl false => rfl
  | .non => rfl
  | .int _ => rfl
  | .str _ => rfl
  | .tup _ => rfl
  | .lst _ => rfl
  | .dct _ => rfl
  | .ins _ _ => rfl
  | .exc _ _ => rfl
@[simp ↓] theorem okO2 {e e' : E} {r : Es} : Ok ((evOr cs (.cons e (.cons e' r))).1 ρ) Q = Ok ((ev cs e).1 ρ) fun x ρ1 => match x with | .bl t => if t = true then Q (.bl true) ρ1 else Ok ((evOr cs (.cons e' r)).1 ρ1) Q | _ => False := by
  show Ok ((rBind (ev cs e).1 fun x => match x with | .bl true => rPure (.bl true) | .bl false => (evOr cs (.cons e' r)).1 | _ => rLift none) ρ) Q = _
  rw [ok_bind]
  congr
  funext x ρ1
  match x with
  | .bl true => rfl
  | .bl false => rfl
  | .non => rfl
  | .int _ => rfl
  | .str _ => rfl
  | .tup _ => rfl
  | .lst _ => rfl
  | .dct _ => rfl
  | .ins _ _ => rfl
  | .exc _ _ => rfl
@[simp ↓] theorem okAT2 {e e' : E} {r : Es} : Ok ((evAnd cs (.cons e (.cons e' r))).2 ρ) B = Ok ((ev cs e).2 ρ) fun t ρ1 => if t = true then Ok ((evAnd cs (.cons e' r)).2 ρ1) B else B false ρ1 := by
  show Ok (rIf (ev cs e).2 (evAnd cs (.cons e' r)).2 (rPure false) ρ) B = _
  rw [ok_rIf]
  rfl
@[simp ↓] theorem okOT2 {e e' : E} {r : Es} : Ok ((evOr cs (.cons e (.cons e' r))).2 ρ) B = Ok ((ev cs e).2 ρ) fun t ρ1 => if t = true then B true ρ1 else Ok ((evOr cs (.cons e' r)).2 ρ1) B := by
  show Ok (rIf (ev cs e).2 (rPure true) (evOr cs (.cons e' r)).2 ρ) B = _
  rw [ok_rIf]
  rfl
@[simp ↓] theorem okE_and {es : Es} : Ok ((ev cs (.and es)).1 ρ) Q = Ok ((evAnd cs es).1 ρ) Q := rfl
@[simp ↓] theorem okT_and {es : Es} : Ok ((ev cs (.and es)).2 ρ) B = Ok ((evAnd cs es).2 ρ) B := rfl
@[simp ↓] theorem okE_or {es : Es} : Ok ((ev cs (.or es)).1 ρ) Q = Ok ((evOr cs es).1 ρ) Q := rfl
@[simp ↓] theorem okT_or {es : Es} : Ok ((ev cs (.or es)).2 ρ) B = Ok ((evOr cs es).2 ρ) B := rfl
@[simp ↓] theorem okC_no {B : Bool → List Sl → Prop} : Ok (evC cs .no ρ) B = B true ρ := rfl
@[simp ↓] theorem okC_yes {e : E} : Ok (evC cs (.yes e) ρ) B = Ok ((ev cs e).2 ρ) B := rfl
@[simp ↓] theorem okI_lst {e : E} {Q : List IV → List Sl → Prop} : Ok (evIt cs (.lst e) ρ) Q = Ok ((ev cs e).1 ρ) fun x ρ1 => OkO (seqL x) fun xs => Q xs ρ1 := by
  show Ok ((rBind (ev cs e).1 fun x => rLift (seqL x)) ρ) Q = _
  simp only [ok_bind, ok_lift']
@[simp ↓] theorem okI_tup {e : E} {Q : List IV → List Sl → Prop} : Ok (evIt cs (.tup e) ρ) Q = Ok ((ev cs e).1 ρ) fun x ρ1 => OkO (seqT x) fun xs => Q xs ρ1 := by
  show Ok ((rBind (ev cs e).1 fun x => rLift (seqT x)) ρ) Q = _
  simp only [ok_bind, ok_lift']
@[simp ↓] theorem okI_txt {e : E} {Q : List IV → List Sl → Prop} : Ok (evIt cs (.txt e) ρ) Q = Ok ((ev cs e).1 ρ) fun x ρ1 => OkO (seqS x) fun xs => Q xs ρ1 := by
  show Ok ((rBind (ev cs e).1 fun x => rLift (seqS x)) ρ) Q = _
  simp only [ok_bind, ok_lift']
@[simp ↓] theorem okI_rng {e : E} {Q : List IV → List Sl → Prop} : Ok (evIt cs (.rng e) ρ) Q = Ok ((ev cs e).1 ρ) fun x ρ1 => OkO (seqR x) fun xs => Q xs ρ1 := by
  show Ok ((rBind (ev cs e).1 fun x => rLift (seqR x)) ρ) Q = _
  simp only [ok_bind, ok_lift']
@[simp ↓] theorem okI_enu {e : E} {Q : List IV → List Sl → Prop} : Ok (evIt cs (.enu e) ρ) Q = Ok ((ev cs e).1 ρ) fun x ρ1 => OkO (seqE x) fun xs => Q xs ρ1 := by
  show Ok ((rBind (ev cs e).1 fun x => rLift (seqE x)) ρ) Q = _
  simp only [ok_bind, ok_lift']
/-! ### statements -/
@[simp ↓] theorem okS_asg {i : Nat} {e : E} : Ok (evS cs N (.asg i e) ρ) F = Ok ((ev cs e).1 ρ) fun d ρ1 => F .nx (ρ1.set i (.i d)) := by
  show Ok ((rBind (ev cs e).1 fun d => rSet i (.i d)) ρ) F = _
  simp only [ok_bind, ok_set]
@[simp ↓] theorem okS_asgO {i : Nat} {e : E} : Ok (evS cs N (.asgO i e) ρ) F = Ok ((ev cs e).1 ρ) fun d ρ1 => F .nx (ρ1.set i (.o d)) := by
  show Ok ((rBind (ev cs e).1 fun d => rSet i (.o d)) ρ) F = _
  simp only [ok_bind, ok_set]
@[simp ↓] theorem okS_unp {is : List Nat} {e : E} : Ok (evS cs N (.unp is e) ρ) F = Ok ((ev cs e).1 ρ) fun d ρ1 => Ok (rTg is d ρ1) fun _ ρ2 => F .nx ρ2 := by
  show Ok ((rBind (ev cs e).1 fun d => rBind (rTg is d) fun _ => rPure .nx) ρ) F = _
  simp only [ok_bind, ok_pure]
@[simp ↓] theorem okS_setI {i : Nat} {k v : E} : Ok (evS cs N (.setI i k v) ρ) F = Ok ((ev cs v).1 ρ) fun y ρ1 => Ok ((ev cs (.view i)).1 ρ1) fun _ ρ2 => Ok ((ev cs k).1 ρ2) fun x ρ3 => OkO ρ3[i]? fun r => OkO r.mut fun d => OkO (setD x y d) fun d' => F .nx (ρ3.set i (r.put d')) := by
  show Ok ((rBind (ev cs v).1 fun y => rBind (rView i) fun _ => rBind (ev cs k).1 fun x => rPut i (setD x y)) ρ) F = _
  simp only [ok_bind]
  congr
  funext y ρ1
  show _ = Ok (rView i ρ1) _
  congr
  funext u ρ2
  congr
  funext x ρ3
  unfold rPut
  cases ρ3[i]? with
  | none => rfl
  | some r =>
    show Ok (match r.mut with | some d => (match setD x y d with | some d' => some (.ok Fl.nx, ρ3.set i (r.put d')) | none => none) | none => none) F = _
    simp only [okO_some]
    cases hr : r.mut with
    | none => rfl
    | some d =>
      show Ok (match setD x y d with | some d' => some (.ok Fl.nx, ρ3.set i (r.put d')) | none => none) F = _
      simp only [okO_some]
      cases setD x y d <;> rfl
@[simp ↓] theorem okS_drop {e : E} : Ok (evS cs N (.drop e) ρ) F = Ok ((ev cs e).1 ρ) fun _ ρ1 => F .nx ρ1 := by
  show Ok ((rBind (ev cs e).1 fun _ => rPure .nx) ρ) F = _
  simp only [ok_bind, ok_pure]
@[simp ↓] theorem okS_ret {e : E} : Ok (evS cs N (.ret e) ρ) F = Ok ((ev cs e).1 ρ) fun d ρ1 => F (.rt d) ρ1 := by
  show Ok ((rBind (ev cs e).1 fun d => rPure (.rt d)) ρ) F = _
  simp only [ok_bind, ok_pure]
@[simp ↓] theorem okS_retN : Ok (evS cs N .retN ρ) F = F (.rt .non) ρ := rfl
@[simp ↓] theorem okS_ite {c : E} {a b : Ss} : Ok (evS cs N (.ite c a b) ρ) F = Ok ((ev cs c).2 ρ) fun t ρ1 => if t = true then Ok (evSs cs N a ρ1) F else Ok (evSs cs N b ρ1) F := ok_rIf
@[simp ↓] theorem okS_pass : Ok (evS cs N .pass ρ) F = F .nx ρ := rfl
@[simp ↓] theorem okS_brk : Ok (evS cs N .brk ρ) F = F .bk ρ := rfl
@[simp ↓] theorem okS_cnt : Ok (evS cs N .cnt ρ) F = F .ct ρ := rfl
@[simp ↓] theorem okS_loop {tg : List Nat} {it : It} {b : Ss} : Ok (evS cs N (.loop tg it b) ρ) F = Ok (evIt cs it ρ) fun xs ρ1 => Ok (rFor tg (evSs cs N b) xs ρ1) F := by
  show Ok ((rBind (evIt cs it) fun xs => rFor tg (evSs cs N b) xs) ρ) F = _
  rw [ok_bind]
@[simp ↓] theorem okS_whl {c : E} {b : Ss} : Ok (evS cs N (.whl c b) ρ) F = Ok (rWhile (ev cs c).2 (evSs cs N b) N ρ) F := rfl
@[simp ↓] theorem okSs_nil : Ok (evSs cs N .nil ρ) F = F .nx ρ := rfl
@[simp ↓] theorem okSs_cons {s : S} {r : Ss} : Ok (evSs cs N (.cons s r) ρ) F = Ok (evS cs N s ρ) (fun f ρ1 => match f with | .nx => Ok (evSs cs N r ρ1) F | f => F f ρ1) := ok_ss_cons
/-! ### operations on known data -/
@[simp] theorem b_addI {i j : Int} : binD .add (.int i) (.int j) = some (.int (i + j)) := rfl
@[simp] theorem b_subI {i j : Int} : binD .sub (.int i) (.int j) = some (.int (i - j)) := rfl
theorem b_mulI {i j : Int} (h : mulOk i j = true) : binD .mul (.int i) (.int j) = some (.int (i * j)) := if_pos h
theorem b_addS {a b : List Nat} (h : a.length + b.length ≤ SZ) : binD .add (.str a) (.str b) = some (.str (a ++ b)) := if_pos h
theorem b_addL {a b : List IV} (h : a.length + b.length ≤ SZ) : binD .add (.lst a) (.lst b) = some (.lst (a ++ b)) := if_pos h
theorem b_modI {i j : Int} (h : 0 < j) : binD .mod (.int i) (.int j) = some (.int (i % j)) := if_pos h
theorem b_fdivI {i j : Int} (h : 0 < j) (h' : j < 1073741824) : binD .fdiv (.int i) (.int j) = some (.int (i / j)) := if_pos ⟨h, h'⟩
@[simp] theorem c_ltI {i j : Int} : cmpD .lt (.int i) (.int j) = some (decide (i < j)) := rfl
@[simp] theorem c_leI {i j : Int} : cmpD .le (.int i) (.int j) = some (decide (i ≤ j)) := rfl
@[simp] theorem c_gtI {i j : Int} : cmpD .gt (.int i) (.int j) = some (decide (j < i)) := rfl
@[simp] theorem c_geI {i j : Int} : cmpD .ge (.int i) (.int j) = some (decide (j ≤ i)) := rfl
@[simp] theorem c_eqI {i j : Int} : cmpD .eq (.int i) (.int j) = some (decide (i = j)) := rfl
@[simp] theorem c_neI {i j : Int} : cmpD .ne (.int i) (.int j) = some (!decide (i = j)) := rfl
@[simp] theorem c_eqS {i j : List Nat} : cmpD .eq (.str i) (.str j) = some (decide (i = j)) := rfl
@[simp] theorem c_neS {i j : List Nat} : cmpD .ne (.str i) (.str j) = some (!decide (i = j)) := rfl
@[simp] theorem c_in1 {c : Nat} {l : List Nat} : cmpD .isin (.str [c]) (.str l) = some (decide (c ∈ l)) := rfl
@[simp] theorem t_bl {b : Bool} : truD (.bl b) = some b := rfl
@[simp] theorem f_intI {i : Int} : fnD .int [.int i] = some (.int i) := rfl
theorem f_lenS {l : List Nat} (h : l.length ≤ SZ) : fnD .len [.str l] = some (.int l.length) := if_pos h
@[simp] theorem f_lenL {l : List IV} : fnD .len [.lst l] = some (.int l.length) := rfl
@[simp] theorem f_lenT {l : List IV} : fnD .len [.tup l] = some (.int l.length) := rfl
@[simp] theorem seqL_l {l : List IV} : seqL (.lst l) = some l := rfl
@[simp] theorem seqT_l {l : List IV} : seqT (.tup l) = some l := rfl
@[simp] theorem seqS_l {l : List Nat} : seqS (.str l) = some (l.map fun c => .str [c]) := rfl
@[simp] theorem tg_one {i : Nat} {d : IV} {Q : Unit → List Sl → Prop} : Ok (rTg [i] d ρ) Q = Q () (ρ.set i (.i d)) := rfl
@[simp] theorem args_nil : argsD ρ [] = some [] := rfl
@[simp] theorem args_inl {d : IV} {xs : List (IV ⊕ Nat)} : argsD ρ (.inl d :: xs) = (argsD ρ xs).map (d :: ·) := by
  show (match some d, argsD ρ xs with | some d, some ds => some (d :: ds) | _, _ => none) = _
  cases argsD ρ xs <;> rfl
@[simp] theorem args_inr {i : Nat} {xs : List (IV ⊕ Nat)} : argsD ρ (.inr i :: xs) = (ρ[i]?.bind Sl.mut).bind fun d => (argsD ρ xs).map (d :: ·) := by
  show (match ρ[i]?.bind Sl.mut, argsD ρ xs with | some d, some ds => some (d :: ds) | _, _ => none) = _
  cases ρ[i]?.bind Sl.mut <;> cases argsD ρ xs <;> rfl
@[simp] theorem mut_o {d : IV} : (Sl.o d).mut = some d := rfl
@[simp] theorem mut_b {d : IV} : (Sl.b d).mut = some d := rfl
@[simp] theorem put_o {d e : IV} : (Sl.o d).put e = .o e := rfl
@[simp] theorem put_b {d e : IV} : (Sl.b d).put e = .b e := rfl
@[simp] theorem putM_nil {ms : List IV} : putM [] ms ρ = ρ := rfl
@[simp] theorem putM_inl {d m : IV} {xs : List (IV ⊕ Nat)} {ms : List IV} : putM (.inl d :: xs) (m :: ms) ρ = putM xs ms ρ := rfl
@[simp] theorem putM_inr {i : Nat} {m : IV} {xs : List (IV ⊕ Nat)} {ms : List IV} : putM (.inr i :: xs) (m :: ms) ρ = putM xs ms (match ρ[i]? with | some r => ρ.set i (r.put m) | none => ρ) := rfl
end
/-! ### comprehensions that change nothing -/
theorem set_self {ρ : List Sl} {i : Nat} {r : Sl} (h : ρ[i]? = some r) : ρ.set i r = ρ := by
  apply List.ext_getElem?
  intro j
  by_cases hj : i = j
  · subst hj
    rw [h, List.getElem?_set_self (List.getElem?_eq_some_iff.mp h).1]
  · rw [List.getElem?_set_ne hj]
theorem back1 {ρ : List Sl} {i : Nat} {r s : Sl} (h : ρ[i]? = some r) : back [i] ρ (ρ.set i s) = ρ := by
  show (match ρ[i]? with | some r => (ρ.set i s).set i r | none => ρ.set i s) = ρ
  rw [h]
  show (ρ.set i s).set i r = ρ
  rw [List.set_set, set_self h]
theorem take_next {α : Type} {xs : List α} {n : Nat} {x : α} (h : xs[n]? = some x) : xs.take (n + 1) = xs.take n ++ [x] := by
  rw [List.take_add_one, h]
  rfl
theorem ok_map1 {i : Nat} {c : R Bool} {e : R IV} {xs : List IV} {ρ : List Sl} {Q : IV → List Sl → Prop} {r : Sl} (f : IV → IV) (hi : ρ[i]? = some r) (hr : r.light = true) (hl : xs.length ≤ SZ) (hc : ∀ ρ Q, Ok (c ρ) Q = Q true ρ)
    (h : ∀ x ∈ xs, Ok (e (ρ.set i (.i x))) fun y ρ3 => y = f x ∧ ρ3 = ρ.set i (.i x)) (q : Q (.lst (xs.map f)) ρ) : Ok (rList [i] c e xs ρ) Q := by
  refine ok_list (by simp [light, hi, hr]) hl ?_
  refine ok_comp (fun n acc ρ' => acc = (xs.take n).map f ∧ ρ' = ρ.set i .e) xs 0 [] ⟨rfl, rfl⟩ ?_ ?_
  · rintro j x acc ρ' hx ⟨rfl, rfl⟩
    show Ok (c ((ρ.set i .e).set i (.i x))) _
    rw [hc, if_pos rfl, List.set_set]
    refine (h x (List.mem_of_getElem? hx)).mono fun y ρ3 ⟨e1, e2⟩ => ⟨?_, ?_⟩
    · rw [Nat.zero_add, take_next hx, List.map_append, e1]
      rfl
    · rw [e2]
      show (ρ.set i (.i x)).set i .e = _
      rw [List.set_set]
  · rintro ys ρ' ⟨e1, rfl⟩
    rw [Nat.zero_add, List.take_length, List.nil_append] at e1
    rw [e1, back1 hi]
    exact q
theorem ok_filter1 {i : Nat} {c : R Bool} {e : R IV} {xs : List IV} {ρ : List Sl} {Q : IV → List Sl → Prop} {r : Sl} (p : IV → Bool) (hi : ρ[i]? = some r) (hr : r.light = true) (hl : xs.length ≤ SZ)
    (hc : ∀ x ∈ xs, Ok (c (ρ.set i (.i x))) fun t ρ2 => t = p x ∧ ρ2 = ρ.set i (.i x)) (he : ∀ x ∈ xs, Ok (e (ρ.set i (.i x))) fun y ρ3 => y = x ∧ ρ3 = ρ.set i (.i x)) (q : Q (.lst (xs.filter p)) ρ) : Ok (rList [i] c e xs ρ) Q := by
  refine ok_list (by simp [light, hi, hr]) hl ?_
  refine ok_comp (fun n acc ρ' => acc = (xs.take n).filter p ∧ ρ' = ρ.set i .e) xs 0 [] ⟨rfl, rfl⟩ ?_ ?_
  · rintro j x acc ρ' hx ⟨rfl, rfl⟩
    show Ok (c ((ρ.set i .e).set i (.i x))) _
    rw [List.set_set]
    have hm := List.mem_of_getElem? hx
    have cl : clear [i] (ρ.set i (.i x)) = ρ.set i .e := by
      show (ρ.set i (.i x)).set i .e = _
      rw [List.set_set]
    refine (hc x hm).mono fun t ρ2 ⟨e1, e2⟩ => ?_
    subst e1; subst e2
    cases hp : p x with
    | true =>
      rw [if_pos rfl]
      refine (he x hm).mono fun y ρ3 ⟨e1, e2⟩ => ⟨?_, by rw [e2, cl]⟩
      rw [Nat.zero_add, take_next hx, List.filter_append, e1]
      simp [hp]
    | false =>
      rw [if_neg Bool.false_ne_true]
      refine ⟨?_, cl⟩
      rw [Nat.zero_add, take_next hx, List.filter_append]
      simp [hp]
  · rintro ys ρ' ⟨e1, rfl⟩
    rw [Nat.zero_add, List.take_length, List.nil_append] at e1
    rw [e1, back1 hi]
    exact q
@[simp] theorem pick_nil {α : Type} {ds : List α} : pick ds [] = some [] := rfl
@[simp] theorem pick_cons {α : Type} {ds : List α} {i : Nat} {is : List Nat} : pick ds (i :: is) = (ds[i]?).bind fun d => (pick ds is).map (d :: ·) := by
  show (match ds[i]?, pick ds is with | some d, some r => some (d :: r) | _, _ => none) = _
  cases ds[i]? <;> cases pick ds is <;> rfl
/-- one statement, what follows it kept shut -/
theorem ok_step {cs : CS} {N : Nat} {s : S} {r : Ss} {ρ : List Sl} {F : Fl → List Sl → Prop} (h : ∀ K : Fl → List Sl → Prop, (∀ ρ1, Ok (evSs cs N r ρ1) F → K .nx ρ1) → (∀ d ρ1, F (.rt d) ρ1 → K (.rt d) ρ1) → Ok (evS cs N s ρ) K) : Ok (evSs cs N (.cons s r) ρ) F := by
  rw [ok_ss_cons]
  exact h _ (fun ρ1 z => z) (fun d ρ1 z => z)
/-- an expression, what follows it kept shut -/
theorem ok_shut {α : Type} {m : R α} {ρ : List Sl} {Q : α → List Sl → Prop} (h : ∀ K : α → List Sl → Prop, (∀ a ρ1, Q a ρ1 → K a ρ1) → Ok (m ρ) K) : Ok (m ρ) Q := h Q fun _ _ z => z
theorem joinL_len (s : List Nat) : ∀ ts : List (List Nat), (TL.joinL s ts).length ≤ (ts.map List.length).sum + ts.length * s.length
  | [] => by simp [TL.joinL]
  | [p] => by simp [TL.joinL]
  | p :: q :: r => by
    have z := joinL_len s (q :: r)
    show (p ++ (s ++ TL.joinL s (q :: r))).length ≤ _
    simp only [List.length_append, List.map_cons, List.sum_cons, List.length_cons, Nat.add_mul, Nat.one_mul] at z ⊢
    omega
/-- texts, each at most m long -/
def Txs (m : Nat) (xs : List IV) : Prop := ∃ ts, texts xs = some ts ∧ ∀ t ∈ ts, t.length ≤ m
theorem texts_app : ∀ {xs ys : List IV} {ts us : List (List Nat)}, texts xs = some ts → texts ys = some us → texts (xs ++ ys) = some (ts ++ us)
  | [], ys, ts, us, h, h' => by cases h; exact h'
  | .str l :: xs, ys, ts, us, h, h' => by
    have h : (texts xs).map (l :: ·) = some ts := h
    cases hx : texts xs with
    | none => rw [hx] at h; cases h
    | some vs =>
      rw [hx] at h
      cases h
      show (texts (xs ++ ys)).map (l :: ·) = _
      rw [texts_app hx h']
      rfl
theorem Txs.snoc {m : Nat} {xs : List IV} {l : List Nat} (h : Txs m xs) (hl : l.length ≤ m) : Txs m (xs ++ [.str l]) := by
  obtain ⟨ts, e, a⟩ := h
  refine ⟨ts ++ [l], texts_app e rfl, fun t ht => ?_⟩
  rcases List.mem_append.mp ht with z | z
  · exact a t z
  · cases List.mem_singleton.mp z; exact hl
theorem Txs.nil {m : Nat} : Txs m [] := ⟨[], rfl, fun _ z => nomatch z⟩
theorem texts_len : ∀ {xs : List IV} {ts : List (List Nat)}, texts xs = some ts → ts.length = xs.length
  | [], ts, h => by cases h; rfl
  | .str l :: xs, ts, h => by
    have h : (texts xs).map (l :: ·) = some ts := h
    cases hx : texts xs with
    | none => rw [hx] at h; cases h
    | some vs =>
      rw [hx] at h
      cases h
      rw [List.length_cons, texts_len hx]; rfl
theorem sum_le {m : Nat} : ∀ {ts : List (List Nat)}, (∀ t ∈ ts, t.length ≤ m) → (ts.map List.length).sum ≤ ts.length * m
  | [], _ => by simp
  | t :: ts, h => by
    have z := sum_le (m := m) (ts := ts) fun u hu => h u (List.mem_cons_of_mem _ hu)
    have := h t List.mem_cons_self
    simp only [List.map_cons, List.sum_cons, List.length_cons, Nat.add_mul, Nat.one_mul]
    omega
theorem join_ok {m : Nat} {s : List Nat} {xs : List IV} (h : Txs m xs) (hz : xs.length * (m + s.length) ≤ SZ) : ∃ l, mtD .join (.str s) [.lst xs] = some (.str l) ∧ l.length ≤ xs.length * (m + s.length) := by
  obtain ⟨ts, e, a⟩ := h
  have z := sum_le a
  have ln := texts_len e
  have jl := joinL_len s ts
  rw [ln] at z jl
  rw [Nat.mul_add] at hz ⊢
  refine ⟨TL.joinL s ts, ?_, by omega⟩
  show (match texts xs with | some ts => if (ts.map List.length).sum + ts.length * s.length ≤ SZ then some (IV.str (TL.joinL s ts)) else none | none => none) = _
  rw [e]
  show (if (ts.map List.length).sum + ts.length * s.length ≤ SZ then some (IV.str (TL.joinL s ts)) else none) = _
  rw [if_pos (by rw [ln]; omega)]
/-- one statement that does not leave the def, by what it brings about -/
theorem ok_mid {cs : CS} {N : Nat} {s : S} {r : Ss} {ρ : List Sl} {F : Fl → List Sl → Prop} (M : List Sl → Prop) (h1 : Ok (evS cs N s ρ) fun f ρ1 => f = .nx ∧ M ρ1) (h2 : ∀ ρ1, M ρ1 → Ok (evSs cs N r ρ1) F) : Ok (evSs cs N (.cons s r) ρ) F := by
  rw [ok_ss_cons]
  refine h1.mono fun f ρ1 ⟨e, m⟩ => ?_
  subst e
  exact h2 ρ1 m
@[simp] theorem in_tup {l : List Nat} {ys : List IV} (h : ys.all flatD = true) : cmpD .isin (.str l) (.tup ys) = some (ys.any fun y => eqF y (.str l)) := if_pos ⟨rfl, h⟩
end Mx


/-! K01: the text in the language of Mx. -/
namespace K01
open PySem PySem.Spec PyProof.Rows L2 Mx
def top (i : Nat) : Stmt := PySem.Challenge.pw_macroasm_k01_error_classes.main.body.getD i (.Pass ⟨0, 0, 0, 0⟩)
def b__law_mixed : Ss := (.cons (.asg 0 (.bin .mod (.fn .int (.cons (.bin .mul (.bin .add (.bin .add (.bin .mod (.fn .int (.cons (.var 0) .nil)) (.cst (.int 2147483647))) (.bin .mul (.bin .mul (.cst (.int 7919)) (.var 1)) (.var 1))) (.bin .mul (.cst (.int 31)) (.var 1))) (.cst (.int 48271))) .nil)) (.cst (.int 2147483647))))
  (.cons (.ret (.bin .mod (.fn .int (.cons (.bin .mul (.var 0) (.bin .add (.cst (.int 69621)) (.bin .mul (.cst (.int 2)) (.var 1)))) .nil)) (.cst (.int 2147483629)))) .nil))
def f__law_mixed : Fn := { name := "_law_mixed", ps := ["_law_number", "_law_k"], ns := ["_law_number", "_law_k"], muts := [false, false], own := false, body := b__law_mixed, kws := [] }
def b__law_stream : Ss := (.cons (.ret (.lst (.cons (.ite (.cmp .ge (.var 0) (.bin .pow (.cst (.int 10)) (.cst (.int 18)))) (.var 0) (.cst (.int 0))) (.cons (.cst (.int 0)) (.cons (.call 0 (.v (.var 0) (.v (.var 1) .nil))) .nil))))) .nil)
def f__law_stream : Fn := { name := "_law_stream", ps := ["_law_item", "_law_k"], ns := ["_law_item", "_law_k"], muts := [false, false], own := true, body := b__law_stream, kws := [] }
def b__law_draw : Ss := (.cons (.setI 0 (.cst (.int 1)) (.bin .add (.ix (.view 0) (.cst (.int 1))) (.cst (.int 1))))
  (.cons (.ite (.cmp .eq (.ix (.view 0) (.cst (.int 0))) (.cst (.int 0)))
  (.cons (.ret (.bin .mod (.fn .int (.cons (.call 0 (.v (.call 0 (.v (.ix (.view 0) (.cst (.int 2))) (.v (.ix (.view 0) (.cst (.int 1))) .nil))) (.v (.cst (.int 7)) .nil))) .nil)) (.var 1))) .nil)
  .nil)
  (.cons (.asg 2 (.bin .mod (.fn .int (.cons (.ix (.view 0) (.cst (.int 0))) .nil)) (.var 1)))
  (.cons (.setI 0 (.cst (.int 0)) (.bin .fdiv (.ix (.view 0) (.cst (.int 0))) (.var 1)))
  (.cons (.ret (.var 2)) .nil)))))
def f__law_draw : Fn := { name := "_law_draw", ps := ["_law_stream_here", "_law_top"], ns := ["_law_stream_here", "_law_top", "_law_number"], muts := [true, false], own := false, body := b__law_draw, kws := [] }
def b__law_pick : Ss := (.cons (.ret (.ix (.var 1) (.call 2 (.m 0 (.v (.fn .len (.cons (.var 1) .nil)) .nil))))) .nil)
def f__law_pick : Fn := { name := "_law_pick", ps := ["_law_stream_here", "_law_some"], ns := ["_law_stream_here", "_law_some"], muts := [true, false], own := false, body := b__law_pick, kws := [] }
def b__law_made : Ss := (.cons (.asg 1 (.lst (.cons (.mk 1 ["column"] (.cons (.var 0) .nil)) (.cons (.mk 2 ["given"] (.cons (.var 0) .nil)) (.cons (.mk 3 ["index"] (.cons (.var 0) .nil)) (.cons (.mk 4 ["line"] (.cons (.var 0) .nil)) (.cons (.mk 5 ["given"] (.cons (.var 0) .nil)) (.cons (.mk 6 ["row", "word"] (.cons (.var 0) (.cons (.cst (.int 1)) .nil))) .nil))))))))
  (.cons (.asg 1 (.bin .add (.var 1) (.lst (.cons (.mk 7 ["row", "form"] (.cons (.var 0) (.cons (.cst (.int 2)) .nil))) (.cons (.mk 8 ["given"] (.cons (.var 0) .nil)) (.cons (.mk 9 ["given"] (.cons (.var 0) .nil)) (.cons (.mk 10 ["given"] (.cons (.var 0) .nil)) (.cons (.mk 11 ["path"] (.cons (.var 0) .nil)) .nil))))))))
  (.cons (.asg 1 (.bin .add (.var 1) (.lst (.cons (.mk 12 [] .nil) (.cons (.mk 13 ["given"] (.cons (.var 0) .nil)) .nil)))))
  (.cons (.asg 1 (.bin .add (.var 1) (.lst (.cons (.mk 14 ["path"] (.cons (.var 0) .nil)) (.cons (.mk 15 ["given"] (.cons (.var 0) .nil)) (.cons (.mk 16 ["address"] (.cons (.var 0) .nil)) (.cons (.mk 17 ["names"] (.cons (.var 0) .nil)) (.cons (.mk 18 ["names"] (.cons (.var 0) .nil)) (.cons (.mk 19 ["path"] (.cons (.var 0) .nil)) (.cons (.mk 20 ["names"] (.cons (.var 0) .nil)) .nil))))))))))
  (.cons (.ret (.bin .add (.var 1) (.lst (.cons (.mk 21 ["section", "index"] (.cons (.var 0) (.cons (.cst (.int 3)) .nil))) (.cons (.mk 22 [] .nil) (.cons (.mk 23 ["limit"] (.cons (.var 0) .nil)) (.cons (.mk 0 ["origin", "cause"] (.cons (.var 0) (.cons (.cst (.int 4)) .nil))) .nil))))))) .nil)))))
def f__law_made : Fn := { name := "_law_made", ps := ["_law_one"], ns := ["_law_one", "_law_found"], muts := [false], own := false, body := b__law_made, kws := [] }
def b__law_named : Ss := (.cons (.asg 1 (.lst (.cons (.mkK 1 ["column"] .nil (.cons (.var 0) .nil) ["column"] [0]) (.cons (.mkK 2 ["given"] .nil (.cons (.var 0) .nil) ["given"] [0]) (.cons (.mkK 3 ["index"] .nil (.cons (.var 0) .nil) ["index"] [0]) (.cons (.mkK 4 ["line"] .nil (.cons (.var 0) .nil) ["line"] [0]) (.cons (.mkK 5 ["given"] .nil (.cons (.var 0) .nil) ["given"] [0]) .nil)))))))
  (.cons (.asg 1 (.bin .add (.var 1) (.lst (.cons (.mkK 6 ["row", "word"] .nil (.cons (.cst (.int 1)) (.cons (.var 0) .nil)) ["word", "row"] [1, 0]) (.cons (.mkK 7 ["row", "form"] .nil (.cons (.cst (.int 2)) (.cons (.var 0) .nil)) ["form", "row"] [1, 0]) (.cons (.mkK 8 ["given"] .nil (.cons (.var 0) .nil) ["given"] [0]) (.cons (.mkK 9 ["given"] .nil (.cons (.var 0) .nil) ["given"] [0]) .nil)))))))
  (.cons (.asg 1 (.bin .add (.var 1) (.lst (.cons (.mkK 10 ["given"] .nil (.cons (.var 0) .nil) ["given"] [0]) (.cons (.mkK 11 ["path"] .nil (.cons (.var 0) .nil) ["path"] [0]) (.cons (.mk 12 [] .nil) (.cons (.mkK 13 ["given"] .nil (.cons (.var 0) .nil) ["given"] [0]) (.cons (.mkK 14 ["path"] .nil (.cons (.var 0) .nil) ["path"] [0]) .nil))))))))
  (.cons (.asg 1 (.bin .add (.var 1) (.lst (.cons (.mkK 15 ["given"] .nil (.cons (.var 0) .nil) ["given"] [0]) (.cons (.mkK 16 ["address"] .nil (.cons (.var 0) .nil) ["address"] [0]) (.cons (.mkK 17 ["names"] .nil (.cons (.var 0) .nil) ["names"] [0]) (.cons (.mkK 18 ["names"] .nil (.cons (.var 0) .nil) ["names"] [0]) .nil)))))))
  (.cons (.asg 1 (.bin .add (.var 1) (.lst (.cons (.mkK 19 ["path"] .nil (.cons (.var 0) .nil) ["path"] [0]) (.cons (.mkK 20 ["names"] .nil (.cons (.var 0) .nil) ["names"] [0]) (.cons (.mkK 21 ["section", "index"] .nil (.cons (.cst (.int 3)) (.cons (.var 0) .nil)) ["index", "section"] [1, 0]) (.cons (.mk 22 [] .nil) .nil)))))))
  (.cons (.ret (.bin .add (.var 1) (.lst (.cons (.mkK 23 ["limit"] .nil (.cons (.var 0) .nil) ["limit"] [0]) (.cons (.mkK 0 ["origin", "cause"] .nil (.cons (.cst (.int 4)) (.cons (.var 0) .nil)) ["cause", "origin"] [1, 0]) .nil))))) .nil))))))
def f__law_named : Fn := { name := "_law_named", ps := ["_law_one"], ns := ["_law_one", "_law_found"], muts := [false], own := false, body := b__law_named, kws := [] }
def b__law_kinds : Ss := (.cons (.asg 1 (.lst (.cons (.pr1 (.isx ["BadLine"] false [1] [0, 2, 3, 4, 5, 6, 7, 8, 9, 10, 11, 12, 13, 14, 15, 16, 17, 18, 19, 20, 21, 22, 23]) (.var 0)) (.cons (.pr1 (.isx ["BadName"] false [2] [0, 1, 3, 4, 5, 6, 7, 8, 9, 10, 11, 12, 13, 14, 15, 16, 17, 18, 19, 20, 21, 22, 23]) (.var 0)) (.cons (.pr1 (.isx ["BadOperands"] false [3] [0, 1, 2, 4, 5, 6, 7, 8, 9, 10, 11, 12, 13, 14, 15, 16, 17, 18, 19, 20, 21, 22, 23]) (.var 0)) .nil)))))
  (.cons (.asg 1 (.bin .add (.var 1) (.lst (.cons (.pr1 (.isx ["BadBlock"] false [4] [0, 1, 2, 3, 5, 6, 7, 8, 9, 10, 11, 12, 13, 14, 15, 16, 17, 18, 19, 20, 21, 22, 23]) (.var 0)) (.cons (.pr1 (.isx ["BadCall"] false [5] [0, 1, 2, 3, 4, 6, 7, 8, 9, 10, 11, 12, 13, 14, 15, 16, 17, 18, 19, 20, 21, 22, 23]) (.var 0)) (.cons (.pr1 (.isx ["BadText"] false [6] [0, 1, 2, 3, 4, 5, 7, 8, 9, 10, 11, 12, 13, 14, 15, 16, 17, 18, 19, 20, 21, 22, 23]) (.var 0)) .nil))))))
  (.cons (.asg 1 (.bin .add (.var 1) (.lst (.cons (.pr1 (.isx ["BadTable"] false [7] [0, 1, 2, 3, 4, 5, 6, 8, 9, 10, 11, 12, 13, 14, 15, 16, 17, 18, 19, 20, 21, 22, 23]) (.var 0)) (.cons (.pr1 (.isx ["BadNumber"] false [8] [0, 1, 2, 3, 4, 5, 6, 7, 9, 10, 11, 12, 13, 14, 15, 16, 17, 18, 19, 20, 21, 22, 23]) (.var 0)) (.cons (.pr1 (.isx ["BadObject"] false [9] [0, 1, 2, 3, 4, 5, 6, 7, 8, 10, 11, 12, 13, 14, 15, 16, 17, 18, 19, 20, 21, 22, 23]) (.var 0)) .nil))))))
  (.cons (.asg 1 (.bin .add (.var 1) (.lst (.cons (.pr1 (.isx ["BadTree"] false [10] [0, 1, 2, 3, 4, 5, 6, 7, 8, 9, 11, 12, 13, 14, 15, 16, 17, 18, 19, 20, 21, 22, 23]) (.var 0)) (.cons (.pr1 (.isx ["NotPlain"] false [11] [0, 1, 2, 3, 4, 5, 6, 7, 8, 9, 10, 12, 13, 14, 15, 16, 17, 18, 19, 20, 21, 22, 23]) (.var 0)) (.cons (.pr1 (.isx ["DividedByZero"] false [12] [0, 1, 2, 3, 4, 5, 6, 7, 8, 9, 10, 11, 13, 14, 15, 16, 17, 18, 19, 20, 21, 22, 23]) (.var 0)) .nil))))))
  (.cons (.asg 1 (.bin .add (.var 1) (.lst (.cons (.pr1 (.isx ["BadShift"] false [13] [0, 1, 2, 3, 4, 5, 6, 7, 8, 9, 10, 11, 12, 14, 15, 16, 17, 18, 19, 20, 21, 22, 23]) (.var 0)) (.cons (.pr1 (.isx ["NoName"] false [14] [0, 1, 2, 3, 4, 5, 6, 7, 8, 9, 10, 11, 12, 13, 15, 16, 17, 18, 19, 20, 21, 22, 23]) (.var 0)) (.cons (.pr1 (.isx ["NoInstruction"] false [15] [0, 1, 2, 3, 4, 5, 6, 7, 8, 9, 10, 11, 12, 13, 14, 16, 17, 18, 19, 20, 21, 22, 23]) (.var 0)) .nil))))))
  (.cons (.asg 1 (.bin .add (.var 1) (.lst (.cons (.pr1 (.isx ["NoOrigin"] false [16] [0, 1, 2, 3, 4, 5, 6, 7, 8, 9, 10, 11, 12, 13, 14, 15, 17, 18, 19, 20, 21, 22, 23]) (.var 0)) (.cons (.pr1 (.isx ["Ring"] false [17] [0, 1, 2, 3, 4, 5, 6, 7, 8, 9, 10, 11, 12, 13, 14, 15, 16, 18, 19, 20, 21, 22, 23]) (.var 0)) (.cons (.pr1 (.isx ["Cycle"] false [18] [0, 1, 2, 3, 4, 5, 6, 7, 8, 9, 10, 11, 12, 13, 14, 15, 16, 17, 19, 20, 21, 22, 23]) (.var 0)) .nil))))))
  (.cons (.asg 1 (.bin .add (.var 1) (.lst (.cons (.pr1 (.isx ["Taken"] false [19] [0, 1, 2, 3, 4, 5, 6, 7, 8, 9, 10, 11, 12, 13, 14, 15, 16, 17, 18, 20, 21, 22, 23]) (.var 0)) (.cons (.pr1 (.isx ["Unresolved"] false [20] [0, 1, 2, 3, 4, 5, 6, 7, 8, 9, 10, 11, 12, 13, 14, 15, 16, 17, 18, 19, 21, 22, 23]) (.var 0)) (.cons (.pr1 (.isx ["OutOfRange"] false [21] [0, 1, 2, 3, 4, 5, 6, 7, 8, 9, 10, 11, 12, 13, 14, 15, 16, 17, 18, 19, 20, 22, 23]) (.var 0)) .nil))))))
  (.cons (.ret (.bin .add (.var 1) (.lst (.cons (.pr1 (.isx ["NothingLeft"] false [22] [0, 1, 2, 3, 4, 5, 6, 7, 8, 9, 10, 11, 12, 13, 14, 15, 16, 17, 18, 19, 20, 21, 23]) (.var 0)) (.cons (.pr1 (.isx ["TooLarge"] false [23] [0, 1, 2, 3, 4, 5, 6, 7, 8, 9, 10, 11, 12, 13, 14, 15, 16, 17, 18, 19, 20, 21, 22]) (.var 0)) (.cons (.pr1 (.isx ["Trouble"] false [0] [1, 2, 3, 4, 5, 6, 7, 8, 9, 10, 11, 12, 13, 14, 15, 16, 17, 18, 19, 20, 21, 22, 23]) (.var 0)) .nil)))))) .nil))))))))
def f__law_kinds : Fn := { name := "_law_kinds", ps := ["_law_error"], ns := ["_law_error", "_law_found"], muts := [false], own := false, body := b__law_kinds, kws := [] }
def b__law_families : Ss := (.cons (.asg 1 (.lst (.cons (.pr1 (.isx ["TextError"] false [1, 2, 3, 4, 5, 6, 7, 8, 9, 10] [0, 11, 12, 13, 14, 15, 16, 17, 18, 19, 20, 21, 22, 23]) (.var 0)) (.cons (.pr1 (.isx ["ValueTrouble"] false [11, 12, 13] [0, 1, 2, 3, 4, 5, 6, 7, 8, 9, 10, 14, 15, 16, 17, 18, 19, 20, 21, 22, 23]) (.var 0)) (.cons (.pr1 (.isx ["LookupTrouble"] false [14, 15, 16] [0, 1, 2, 3, 4, 5, 6, 7, 8, 9, 10, 11, 12, 13, 17, 18, 19, 20, 21, 22, 23]) (.var 0)) .nil)))))
  (.cons (.asg 1 (.bin .add (.var 1) (.lst (.cons (.pr1 (.isx ["StateTrouble"] false [17, 18, 19, 20, 21, 22] [0, 1, 2, 3, 4, 5, 6, 7, 8, 9, 10, 11, 12, 13, 14, 15, 16, 23]) (.var 0)) (.cons (.pr1 (.isx ["LimitTrouble"] false [23] [0, 1, 2, 3, 4, 5, 6, 7, 8, 9, 10, 11, 12, 13, 14, 15, 16, 17, 18, 19, 20, 21, 22]) (.var 0)) (.cons (.pr1 (.isx ["ValueError"] false [1, 2, 3, 4, 5, 6, 7, 8, 9, 10] [0, 11, 12, 13, 14, 15, 16, 17, 18, 19, 20, 21, 22, 23]) (.var 0)) .nil))))))
  (.cons (.asg 1 (.bin .add (.var 1) (.lst (.cons (.pr1 (.isx ["ArithmeticError"] false [11, 12, 13, 23] [0, 1, 2, 3, 4, 5, 6, 7, 8, 9, 10, 14, 15, 16, 17, 18, 19, 20, 21, 22]) (.var 0)) (.cons (.pr1 (.isx ["LookupError"] false [14, 15, 16] [0, 1, 2, 3, 4, 5, 6, 7, 8, 9, 10, 11, 12, 13, 17, 18, 19, 20, 21, 22, 23]) (.var 0)) .nil)))))
  (.cons (.asg 1 (.bin .add (.var 1) (.lst (.cons (.pr1 (.isx ["RuntimeError"] false [17, 18, 19, 20, 21, 22] [0, 1, 2, 3, 4, 5, 6, 7, 8, 9, 10, 11, 12, 13, 14, 15, 16, 23]) (.var 0)) (.cons (.pr1 (.isx ["OverflowError"] false [23] [0, 1, 2, 3, 4, 5, 6, 7, 8, 9, 10, 11, 12, 13, 14, 15, 16, 17, 18, 19, 20, 21, 22]) (.var 0)) .nil)))))
  (.cons (.ret (.bin .add (.var 1) (.lst (.cons (.pr1 (.isx ["KeyError", "IndexError", "NotImplementedError", "ZeroDivisionError"] true [] [0, 1, 2, 3, 4, 5, 6, 7, 8, 9, 10, 11, 12, 13, 14, 15, 16, 17, 18, 19, 20, 21, 22, 23]) (.var 0)) .nil)))) .nil)))))
def f__law_families : Fn := { name := "_law_families", ps := ["_law_error"], ns := ["_law_error", "_law_found"], muts := [false], own := false, body := b__law_families, kws := [] }
def b__law_fields : Ss := (.cons (.asg 1 (.lst (.cons (.pr1 (.fld "column" [1]) (.ix (.var 0) (.cst (.int 0)))) (.cons (.pr1 (.fld "given" [2, 5, 8, 9, 10, 13, 15]) (.ix (.var 0) (.cst (.int 1)))) (.cons (.pr1 (.fld "index" [3, 21]) (.ix (.var 0) (.cst (.int 2)))) (.cons (.pr1 (.fld "line" [4]) (.ix (.var 0) (.cst (.int 3)))) (.cons (.pr1 (.fld "given" [2, 5, 8, 9, 10, 13, 15]) (.ix (.var 0) (.cst (.int 4)))) (.cons (.pr1 (.fld "row" [6, 7]) (.ix (.var 0) (.cst (.int 5)))) (.cons (.pr1 (.fld "word" [6]) (.ix (.var 0) (.cst (.int 5)))) .nil)))))))))
  (.cons (.asg 1 (.bin .add (.var 1) (.lst (.cons (.pr1 (.fld "row" [6, 7]) (.ix (.var 0) (.cst (.int 6)))) (.cons (.pr1 (.fld "form" [7]) (.ix (.var 0) (.cst (.int 6)))) (.cons (.pr1 (.fld "given" [2, 5, 8, 9, 10, 13, 15]) (.ix (.var 0) (.cst (.int 7)))) (.cons (.pr1 (.fld "given" [2, 5, 8, 9, 10, 13, 15]) (.ix (.var 0) (.cst (.int 8)))) (.cons (.pr1 (.fld "given" [2, 5, 8, 9, 10, 13, 15]) (.ix (.var 0) (.cst (.int 9)))) (.cons (.pr1 (.fld "path" [11, 14, 19]) (.ix (.var 0) (.cst (.int 10)))) .nil)))))))))
  (.cons (.asg 1 (.bin .add (.var 1) (.lst (.cons (.pr1 (.fld "given" [2, 5, 8, 9, 10, 13, 15]) (.ix (.var 0) (.cst (.int 12)))) (.cons (.pr1 (.fld "path" [11, 14, 19]) (.ix (.var 0) (.cst (.int 13)))) (.cons (.pr1 (.fld "given" [2, 5, 8, 9, 10, 13, 15]) (.ix (.var 0) (.cst (.int 14)))) (.cons (.pr1 (.fld "address" [16]) (.ix (.var 0) (.cst (.int 15)))) (.cons (.pr1 (.fld "names" [17, 18, 20]) (.ix (.var 0) (.cst (.int 16)))) (.cons (.pr1 (.fld "names" [17, 18, 20]) (.ix (.var 0) (.cst (.int 17)))) .nil)))))))))
  (.cons (.asg 1 (.bin .add (.var 1) (.lst (.cons (.pr1 (.fld "path" [11, 14, 19]) (.ix (.var 0) (.cst (.int 18)))) (.cons (.pr1 (.fld "names" [17, 18, 20]) (.ix (.var 0) (.cst (.int 19)))) (.cons (.pr1 (.fld "section" [21]) (.ix (.var 0) (.cst (.int 20)))) (.cons (.pr1 (.fld "index" [3, 21]) (.ix (.var 0) (.cst (.int 20)))) (.cons (.pr1 (.fld "limit" [23]) (.ix (.var 0) (.cst (.int 22)))) .nil))))))))
  (.cons (.ret (.bin .add (.var 1) (.lst (.cons (.pr1 (.fld "origin" [0]) (.ix (.var 0) (.cst (.int 23)))) (.cons (.pr1 (.fld "cause" [0]) (.ix (.var 0) (.cst (.int 23)))) .nil))))) .nil)))))
def f__law_fields : Fn := { name := "_law_fields", ps := ["_law_some"], ns := ["_law_some", "_law_found"], muts := [false], own := false, body := b__law_fields, kws := [] }
def b__law_right : Ss := (.cons (.asg 2 (.bin .add (.bin .add (.bin .add (.bin .add (.bin .add (.bin .mul (.lst (.cons (.var 1) .nil)) (.cst (.int 6))) (.lst (.cons (.cst (.int 1)) (.cons (.var 1) (.cons (.cst (.int 2)) .nil))))) (.bin .mul (.lst (.cons (.var 1) .nil)) (.cst (.int 13)))) (.lst (.cons (.cst (.int 3)) .nil))) (.bin .mul (.lst (.cons (.var 1) .nil)) (.cst (.int 2)))) (.lst (.cons (.cst (.int 4)) .nil))))
  (.cons (.ite (.cmp .ne (.fn .repr (.cons (.call 8 (.v (.var 0) .nil)) .nil)) (.fn .repr (.cons (.var 2) .nil)))
  (.cons (.ret (.cst (.bl false))) .nil)
  .nil)
  (.cons (.loop [3, 4] (.enu (.var 0))
  (.cons (.ite (.cmp .ne (.call 6 (.v (.var 4) .nil)) (.comp [5] (.rng (.cst (.int 24))) .no (.cmp .eq (.var 5) (.var 3))))
    (.cons (.ret (.cst (.bl false))) .nil)
    .nil)
    (.cons (.asg 6 (.ite (.cmp .lt (.var 3) (.cst (.int 10))) (.cst (.int 0)) (.ite (.cmp .lt (.var 3) (.cst (.int 13))) (.cst (.int 1)) (.ite (.cmp .lt (.var 3) (.cst (.int 16))) (.cst (.int 2)) (.ite (.cmp .lt (.var 3) (.cst (.int 22))) (.cst (.int 3)) (.ite (.cmp .eq (.var 3) (.cst (.int 22))) (.cst (.int 4)) (.cst (.int 9))))))))
    (.cons (.asg 7 (.bin .add (.comp [5] (.tup (.tup (.cons (.cst (.int 0)) (.cons (.cst (.int 1)) (.cons (.cst (.int 2)) (.cons (.cst (.int 3)) (.cons (.cst (.int 4)) (.cons (.cst (.int 0)) .nil)))))))) .no (.cmp .eq (.var 6) (.var 5))) (.lst (.cons (.cmp .isin (.var 6) (.tup (.cons (.cst (.int 1)) (.cons (.cst (.int 4)) .nil)))) .nil))))
    (.cons (.ite (.cmp .ne (.call 7 (.v (.var 4) .nil)) (.bin .add (.bin .add (.var 7) (.comp [5] (.tup (.tup (.cons (.cst (.int 2)) (.cons (.cst (.int 3)) (.cons (.cst (.int 4)) .nil))))) .no (.cmp .eq (.var 6) (.var 5)))) (.lst (.cons (.cst (.bl false)) .nil))))
    (.cons (.ret (.cst (.bl false))) .nil)
    .nil) .nil)))))
  (.cons (.ret (.cst (.bl true))) .nil))))
def f__law_right : Fn := { name := "_law_right", ps := ["_law_some", "_law_one"], ns := ["_law_some", "_law_one", "_law_due", "_law_k", "_law_error", "_law_at", "_law_family", "_law_known"], muts := [false, false], own := false, body := b__law_right, kws := [] }
def b_law : Ss := (.cons (.loop [1, 2] (.enu (.sl (.bin .add (.var 0) (.lst (.cons (.cst (.int 0)) .nil))) .no (.yes (.cst (.int 8)))))
  (.cons (.asgO 3 (.call 1 (.v (.var 2) (.v (.var 1) .nil))))
    (.cons (.asg 4 (.bin .mod (.fn .int (.cons (.var 2) .nil)) (.bin .pow (.cst (.int 10)) (.cst (.int 30)))))
    (.cons (.asg 5 (.lst (.cons (.cst .non) (.cons (.cst (.bl true)) (.cons (.cst (.int 0)) (.cons (.cst (.str [])) (.cons (.tup (.cons (.cst (.int 2)) (.cons (.cst (.int 5)) .nil))) (.cons (.tup (.cons (.cst (.str [97])) (.cons (.cst (.int 1)) .nil))) (.cons (.lst (.cons (.cst (.int 1)) (.cons (.cst (.str [120])) .nil))) (.cons (.dct [.inr "a"] (.cons (.cst (.int 1)) .nil)) (.cons (.bin .sub (.cst (.int 0)) (.var 4)) (.cons (.tup .nil) .nil))))))))))))
    (.cons (.asg 6 (.call 3 (.m 3 (.v (.var 5) .nil))))
    (.cons (.ite (.or (.cons (.not (.call 9 (.v (.call 4 (.v (.var 6) .nil)) (.v (.var 6) .nil)))) (.cons (.not (.call 9 (.v (.call 5 (.v (.var 6) .nil)) (.v (.var 6) .nil)))) .nil)))
    (.cons (.ret (.cst (.bl false))) .nil)
    .nil)
    (.cons (.ite (.or (.cons (.not (.call 9 (.v (.call 4 (.v (.var 4) .nil)) (.v (.var 4) .nil)))) (.cons (.not (.call 9 (.v (.call 5 (.v (.cst .non) .nil)) (.v (.cst .non) .nil)))) .nil)))
    (.cons (.ret (.cst (.bl false))) .nil)
    .nil) .nil)))))))
  (.cons (.ret (.cst (.bl true))) .nil))
def f_law : Fn := { name := "law", ps := ["_law_script"], ns := ["_law_script", "_law_k", "_law_item", "_law_stream_here", "_law_small", "_law_some", "_law_one"], muts := [false], own := false, body := b_law, kws := [] }
abbrev bm_ArithmeticError : List Value := [.type "ArithmeticError", .type "Exception", .type "BaseException", .type "object"]
abbrev bm_Exception : List Value := [.type "Exception", .type "BaseException", .type "object"]
abbrev bm_LookupError : List Value := [.type "LookupError", .type "Exception", .type "BaseException", .type "object"]
abbrev bm_OverflowError : List Value := [.type "OverflowError", .type "ArithmeticError", .type "Exception", .type "BaseException", .type "object"]
abbrev bm_RuntimeError : List Value := [.type "RuntimeError", .type "Exception", .type "BaseException", .type "object"]
abbrev bm_ValueError : List Value := [.type "ValueError", .type "Exception", .type "BaseException", .type "object"]
def fns : List Fn := [f__law_mixed, f__law_stream, f__law_draw, f__law_pick, f__law_made, f__law_named, f__law_kinds, f__law_families, f__law_fields, f__law_right, f_law]
def glo : List (Str × IV) := []
def blt : List Str := ["enumerate", "int", "isinstance", "len", "range", "repr"]
def xc_Trouble : Xc := { name := "Trouble", ps := ["origin", "cause"], own := true, kws := [(0, ["cause", "origin"], [1, 0])] }
def xc_BadLine : Xc := { name := "BadLine", ps := ["column"], own := true, kws := [(0, ["column"], [0])] }
def xc_BadName : Xc := { name := "BadName", ps := ["given"], own := true, kws := [(0, ["given"], [0])] }
def xc_BadOperands : Xc := { name := "BadOperands", ps := ["index"], own := true, kws := [(0, ["index"], [0])] }
def xc_BadBlock : Xc := { name := "BadBlock", ps := ["line"], own := true, kws := [(0, ["line"], [0])] }
def xc_BadCall : Xc := { name := "BadCall", ps := ["given"], own := true, kws := [(0, ["given"], [0])] }
def xc_BadText : Xc := { name := "BadText", ps := ["row", "word"], own := true, kws := [(0, ["word", "row"], [1, 0])] }
def xc_BadTable : Xc := { name := "BadTable", ps := ["row", "form"], own := true, kws := [(0, ["form", "row"], [1, 0])] }
def xc_BadNumber : Xc := { name := "BadNumber", ps := ["given"], own := true, kws := [(0, ["given"], [0])] }
def xc_BadObject : Xc := { name := "BadObject", ps := ["given"], own := true, kws := [(0, ["given"], [0])] }
def xc_BadTree : Xc := { name := "BadTree", ps := ["given"], own := true, kws := [(0, ["given"], [0])] }
def xc_NotPlain : Xc := { name := "NotPlain", ps := ["path"], own := true, kws := [(0, ["path"], [0])] }
def xc_DividedByZero : Xc := { name := "DividedByZero", ps := [], own := false, kws := [] }
def xc_BadShift : Xc := { name := "BadShift", ps := ["given"], own := true, kws := [(0, ["given"], [0])] }
def xc_NoName : Xc := { name := "NoName", ps := ["path"], own := true, kws := [(0, ["path"], [0])] }
def xc_NoInstruction : Xc := { name := "NoInstruction", ps := ["given"], own := true, kws := [(0, ["given"], [0])] }
def xc_NoOrigin : Xc := { name := "NoOrigin", ps := ["address"], own := true, kws := [(0, ["address"], [0])] }
def xc_Ring : Xc := { name := "Ring", ps := ["names"], own := true, kws := [(0, ["names"], [0])] }
def xc_Cycle : Xc := { name := "Cycle", ps := ["names"], own := true, kws := [(0, ["names"], [0])] }
def xc_Taken : Xc := { name := "Taken", ps := ["path"], own := true, kws := [(0, ["path"], [0])] }
def xc_Unresolved : Xc := { name := "Unresolved", ps := ["names"], own := true, kws := [(0, ["names"], [0])] }
def xc_OutOfRange : Xc := { name := "OutOfRange", ps := ["section", "index"], own := true, kws := [(0, ["index", "section"], [1, 0])] }
def xc_NothingLeft : Xc := { name := "NothingLeft", ps := [], own := false, kws := [] }
def xc_TooLarge : Xc := { name := "TooLarge", ps := ["limit"], own := true, kws := [(0, ["limit"], [0])] }
def xcs : List Xc := [xc_Trouble, xc_BadLine, xc_BadName, xc_BadOperands, xc_BadBlock, xc_BadCall, xc_BadText, xc_BadTable, xc_BadNumber, xc_BadObject, xc_BadTree, xc_NotPlain, xc_DividedByZero, xc_BadShift, xc_NoName, xc_NoInstruction, xc_NoOrigin, xc_Ring, xc_Cycle, xc_Taken, xc_Unresolved, xc_OutOfRange, xc_NothingLeft, xc_TooLarge]
def isx_0 : List Str × Bool × List Nat × List Nat := (["BadOperands"], false, [3], [0, 1, 2, 4, 5, 6, 7, 8, 9, 10, 11, 12, 13, 14, 15, 16, 17, 18, 19, 20, 21, 22, 23])
def isx_1 : List Str × Bool × List Nat × List Nat := (["BadName"], false, [2], [0, 1, 3, 4, 5, 6, 7, 8, 9, 10, 11, 12, 13, 14, 15, 16, 17, 18, 19, 20, 21, 22, 23])
def isx_2 : List Str × Bool × List Nat × List Nat := (["BadLine"], false, [1], [0, 2, 3, 4, 5, 6, 7, 8, 9, 10, 11, 12, 13, 14, 15, 16, 17, 18, 19, 20, 21, 22, 23])
def isx_3 : List Str × Bool × List Nat × List Nat := (["BadText"], false, [6], [0, 1, 2, 3, 4, 5, 7, 8, 9, 10, 11, 12, 13, 14, 15, 16, 17, 18, 19, 20, 21, 22, 23])
def isx_4 : List Str × Bool × List Nat × List Nat := (["BadCall"], false, [5], [0, 1, 2, 3, 4, 6, 7, 8, 9, 10, 11, 12, 13, 14, 15, 16, 17, 18, 19, 20, 21, 22, 23])
def isx_5 : List Str × Bool × List Nat × List Nat := (["BadBlock"], false, [4], [0, 1, 2, 3, 5, 6, 7, 8, 9, 10, 11, 12, 13, 14, 15, 16, 17, 18, 19, 20, 21, 22, 23])
def isx_6 : List Str × Bool × List Nat × List Nat := (["BadObject"], false, [9], [0, 1, 2, 3, 4, 5, 6, 7, 8, 10, 11, 12, 13, 14, 15, 16, 17, 18, 19, 20, 21, 22, 23])
def isx_7 : List Str × Bool × List Nat × List Nat := (["BadNumber"], false, [8], [0, 1, 2, 3, 4, 5, 6, 7, 9, 10, 11, 12, 13, 14, 15, 16, 17, 18, 19, 20, 21, 22, 23])
def isx_8 : List Str × Bool × List Nat × List Nat := (["BadTable"], false, [7], [0, 1, 2, 3, 4, 5, 6, 8, 9, 10, 11, 12, 13, 14, 15, 16, 17, 18, 19, 20, 21, 22, 23])
def isx_9 : List Str × Bool × List Nat × List Nat := (["DividedByZero"], false, [12], [0, 1, 2, 3, 4, 5, 6, 7, 8, 9, 10, 11, 13, 14, 15, 16, 17, 18, 19, 20, 21, 22, 23])
def isx_10 : List Str × Bool × List Nat × List Nat := (["NotPlain"], false, [11], [0, 1, 2, 3, 4, 5, 6, 7, 8, 9, 10, 12, 13, 14, 15, 16, 17, 18, 19, 20, 21, 22, 23])
def isx_11 : List Str × Bool × List Nat × List Nat := (["BadTree"], false, [10], [0, 1, 2, 3, 4, 5, 6, 7, 8, 9, 11, 12, 13, 14, 15, 16, 17, 18, 19, 20, 21, 22, 23])
def isx_12 : List Str × Bool × List Nat × List Nat := (["NoInstruction"], false, [15], [0, 1, 2, 3, 4, 5, 6, 7, 8, 9, 10, 11, 12, 13, 14, 16, 17, 18, 19, 20, 21, 22, 23])
def isx_13 : List Str × Bool × List Nat × List Nat := (["NoName"], false, [14], [0, 1, 2, 3, 4, 5, 6, 7, 8, 9, 10, 11, 12, 13, 15, 16, 17, 18, 19, 20, 21, 22, 23])
def isx_14 : List Str × Bool × List Nat × List Nat := (["BadShift"], false, [13], [0, 1, 2, 3, 4, 5, 6, 7, 8, 9, 10, 11, 12, 14, 15, 16, 17, 18, 19, 20, 21, 22, 23])
def isx_15 : List Str × Bool × List Nat × List Nat := (["Cycle"], false, [18], [0, 1, 2, 3, 4, 5, 6, 7, 8, 9, 10, 11, 12, 13, 14, 15, 16, 17, 19, 20, 21, 22, 23])
def isx_16 : List Str × Bool × List Nat × List Nat := (["Ring"], false, [17], [0, 1, 2, 3, 4, 5, 6, 7, 8, 9, 10, 11, 12, 13, 14, 15, 16, 18, 19, 20, 21, 22, 23])
def isx_17 : List Str × Bool × List Nat × List Nat := (["NoOrigin"], false, [16], [0, 1, 2, 3, 4, 5, 6, 7, 8, 9, 10, 11, 12, 13, 14, 15, 17, 18, 19, 20, 21, 22, 23])
def isx_18 : List Str × Bool × List Nat × List Nat := (["OutOfRange"], false, [21], [0, 1, 2, 3, 4, 5, 6, 7, 8, 9, 10, 11, 12, 13, 14, 15, 16, 17, 18, 19, 20, 22, 23])
def isx_19 : List Str × Bool × List Nat × List Nat := (["Unresolved"], false, [20], [0, 1, 2, 3, 4, 5, 6, 7, 8, 9, 10, 11, 12, 13, 14, 15, 16, 17, 18, 19, 21, 22, 23])
def isx_20 : List Str × Bool × List Nat × List Nat := (["Taken"], false, [19], [0, 1, 2, 3, 4, 5, 6, 7, 8, 9, 10, 11, 12, 13, 14, 15, 16, 17, 18, 20, 21, 22, 23])
def isx_21 : List Str × Bool × List Nat × List Nat := (["Trouble"], false, [0], [1, 2, 3, 4, 5, 6, 7, 8, 9, 10, 11, 12, 13, 14, 15, 16, 17, 18, 19, 20, 21, 22, 23])
def isx_22 : List Str × Bool × List Nat × List Nat := (["TooLarge"], false, [23], [0, 1, 2, 3, 4, 5, 6, 7, 8, 9, 10, 11, 12, 13, 14, 15, 16, 17, 18, 19, 20, 21, 22])
def isx_23 : List Str × Bool × List Nat × List Nat := (["NothingLeft"], false, [22], [0, 1, 2, 3, 4, 5, 6, 7, 8, 9, 10, 11, 12, 13, 14, 15, 16, 17, 18, 19, 20, 21, 23])
def isx_24 : List Str × Bool × List Nat × List Nat := (["LookupTrouble"], false, [14, 15, 16], [0, 1, 2, 3, 4, 5, 6, 7, 8, 9, 10, 11, 12, 13, 17, 18, 19, 20, 21, 22, 23])
def isx_25 : List Str × Bool × List Nat × List Nat := (["ValueTrouble"], false, [11, 12, 13], [0, 1, 2, 3, 4, 5, 6, 7, 8, 9, 10, 14, 15, 16, 17, 18, 19, 20, 21, 22, 23])
def isx_26 : List Str × Bool × List Nat × List Nat := (["TextError"], false, [1, 2, 3, 4, 5, 6, 7, 8, 9, 10], [0, 11, 12, 13, 14, 15, 16, 17, 18, 19, 20, 21, 22, 23])
def isx_27 : List Str × Bool × List Nat × List Nat := (["ValueError"], false, [1, 2, 3, 4, 5, 6, 7, 8, 9, 10], [0, 11, 12, 13, 14, 15, 16, 17, 18, 19, 20, 21, 22, 23])
def isx_28 : List Str × Bool × List Nat × List Nat := (["LimitTrouble"], false, [23], [0, 1, 2, 3, 4, 5, 6, 7, 8, 9, 10, 11, 12, 13, 14, 15, 16, 17, 18, 19, 20, 21, 22])
def isx_29 : List Str × Bool × List Nat × List Nat := (["StateTrouble"], false, [17, 18, 19, 20, 21, 22], [0, 1, 2, 3, 4, 5, 6, 7, 8, 9, 10, 11, 12, 13, 14, 15, 16, 23])
def isx_30 : List Str × Bool × List Nat × List Nat := (["LookupError"], false, [14, 15, 16], [0, 1, 2, 3, 4, 5, 6, 7, 8, 9, 10, 11, 12, 13, 17, 18, 19, 20, 21, 22, 23])
def isx_31 : List Str × Bool × List Nat × List Nat := (["ArithmeticError"], false, [11, 12, 13, 23], [0, 1, 2, 3, 4, 5, 6, 7, 8, 9, 10, 14, 15, 16, 17, 18, 19, 20, 21, 22])
def isx_32 : List Str × Bool × List Nat × List Nat := (["OverflowError"], false, [23], [0, 1, 2, 3, 4, 5, 6, 7, 8, 9, 10, 11, 12, 13, 14, 15, 16, 17, 18, 19, 20, 21, 22])
def isx_33 : List Str × Bool × List Nat × List Nat := (["RuntimeError"], false, [17, 18, 19, 20, 21, 22], [0, 1, 2, 3, 4, 5, 6, 7, 8, 9, 10, 11, 12, 13, 14, 15, 16, 23])
def isx_34 : List Str × Bool × List Nat × List Nat := (["KeyError", "IndexError", "NotImplementedError", "ZeroDivisionError"], true, [], [0, 1, 2, 3, 4, 5, 6, 7, 8, 9, 10, 11, 12, 13, 14, 15, 16, 17, 18, 19, 20, 21, 22, 23])
def isx : List (List Str × Bool × List Nat × List Nat) := [isx_0, isx_1, isx_2, isx_3, isx_4, isx_5, isx_6, isx_7, isx_8, isx_9, isx_10, isx_11, isx_12, isx_13, isx_14, isx_15, isx_16, isx_17, isx_18, isx_19, isx_20, isx_21, isx_22, isx_23, isx_24, isx_25, isx_26, isx_27, isx_28, isx_29, isx_30, isx_31, isx_32, isx_33, isx_34]
def T : Tab := ⟨fun i => fns[i]?, glo, blt, fun i => xcs[i]?, isx⟩
def inTop (i j : Nat) : Stmt := (clsBody (top i)).getD j (.Pass ⟨0, 0, 0, 0⟩)
theorem i_Trouble : initOk ["origin", "cause"] (inTop 6 0) = true := by decide +kernel
theorem i_BadLine : initOk ["column"] (inTop 7 0) = true := by decide +kernel
theorem i_BadName : initOk ["given"] (inTop 8 0) = true := by decide +kernel
theorem i_BadOperands : initOk ["index"] (inTop 9 0) = true := by decide +kernel
theorem i_BadBlock : initOk ["line"] (inTop 10 0) = true := by decide +kernel
theorem i_BadCall : initOk ["given"] (inTop 11 0) = true := by decide +kernel
theorem i_BadText : initOk ["row", "word"] (inTop 12 0) = true := by decide +kernel
theorem i_BadTable : initOk ["row", "form"] (inTop 13 0) = true := by decide +kernel
theorem i_BadNumber : initOk ["given"] (inTop 14 0) = true := by decide +kernel
theorem i_BadObject : initOk ["given"] (inTop 15 0) = true := by decide +kernel
theorem i_BadTree : initOk ["given"] (inTop 16 0) = true := by decide +kernel
theorem i_NotPlain : initOk ["path"] (inTop 17 0) = true := by decide +kernel
theorem i_BadShift : initOk ["given"] (inTop 19 0) = true := by decide +kernel
theorem i_NoName : initOk ["path"] (inTop 20 0) = true := by decide +kernel
theorem i_NoInstruction : initOk ["given"] (inTop 21 0) = true := by decide +kernel
theorem i_NoOrigin : initOk ["address"] (inTop 22 0) = true := by decide +kernel
theorem i_Ring : initOk ["names"] (inTop 23 0) = true := by decide +kernel
theorem i_Cycle : initOk ["names"] (inTop 24 0) = true := by decide +kernel
theorem i_Taken : initOk ["path"] (inTop 25 0) = true := by decide +kernel
theorem i_Unresolved : initOk ["names"] (inTop 26 0) = true := by decide +kernel
theorem i_OutOfRange : initOk ["section", "index"] (inTop 27 0) = true := by decide +kernel
theorem i_TooLarge : initOk ["limit"] (inTop 29 0) = true := by decide +kernel
theorem x_Trouble {P : Program} {K : PySem.W.Frag} {h : Heap} {mg : Str → Option Value} {C fI cda cc : Addr} {kV doc pm ct ccl cl2 : Value} {an od cdd cld : Option Addr} {osl ccs csl : Array (Option Value)} {vs : Array Value} (xk : XK P K) (X : K.In h) (G : h.Ns mainGlobals mg) (a : PySem.W.nsIn K mainGlobals "Trouble" = some (some (.ref C))) (ini : PySem.W.excInitIn K C bm_Exception "Exception.__new__" = true) (ovr : PySem.W.excOver K C bm_Exception = true) (hd : PySem.W.hasDictIn K C = true) (sa : PySem.W.findIn K (.ref C) "__setattr__" = some (some (.builtin "object.__setattr__"))) (kC : PySem.W.keepIn K (.ref C) = true) (ga : PySem.W.findIn K (.ref C) "__getattribute__" = some (some (.builtin "BaseException.__getattribute__"))) (gg : PySem.W.findIn K (.ref C) "__getattr__" = some none) (sub : PySem.W.subIn K (.ref C) (.type "BaseException") = some true) (ca : PySem.W.findIn K (.ref C) "__class__" = some (some (.builtin "object.__class__"))) (cm : PySem.W.mroIn K C (.type "object") = some true) (n_origin : PySem.W.findIn K (.ref C) "origin" = some none) (n_cause : PySem.W.findIn K (.ref C) "cause" = some none) (find : PySem.W.findIn K (.ref C) "__init__" = some (some (.ref fI))) (sup : PySem.W.ks_superIn K C C "__init__" = some (some (.builtin "Exception.__init__"))) (subB : PySem.W.subIn K (.ref C) (.type "Exception") = some true) (mroC : PySem.W.mroIn K C (.ref C) = some true) (hfn : PySem.W.isFn K (.ref fI) = true) (lf : K.lookup fI = some ⟨.type "function", od, .func (PySem.W.ksFn "__init__" "Trouble.__init__" (defArgs (inTop 6 0)) (defBody (inTop 6 0)) (defScope (inTop 6 0)) .none kV doc pm an (.ref cda) ct cc), osl⟩) (lc : PySem.W.codeIn K (.ref cda) "Trouble.__init__" = true) (lk : K.lookup cda = some ⟨ccl, cdd, .fields vs, ccs⟩) (file : fileB P vs = true) (lcc : K.lookup cc = some ⟨cl2, cld, .cell (some (.ref C)), csl⟩) : XFC P K mg C xc_Trouble :=
  xf_own xk X G rfl (by decide) a xb_Exception ini ovr hd sa kC ga gg sub ca cm ⟨n_origin, n_cause, trivial⟩ find sup subB mroC hfn lf lc lk file lcc i_Trouble (.all fun us hl => match us, hl with | [_, _, _], _ => rfl) (fun p hp => by
      simp only [xc_Trouble, List.mem_cons, List.not_mem_nil, or_false] at hp
      rcases hp with rfl
      exact fun s us ws zs _ h1 h2 h3 => match us, ws, h1, h2, h3 with | [_], [_, _], _, _, h3 => by cases h3; exact .of_eq rfl)
theorem x_BadLine {P : Program} {K : PySem.W.Frag} {h : Heap} {mg : Str → Option Value} {C fI cda cc : Addr} {kV doc pm ct ccl cl2 : Value} {an od cdd cld : Option Addr} {osl ccs csl : Array (Option Value)} {vs : Array Value} (xk : XK P K) (X : K.In h) (G : h.Ns mainGlobals mg) (a : PySem.W.nsIn K mainGlobals "BadLine" = some (some (.ref C))) (ini : PySem.W.excInitIn K C bm_ValueError "ValueError.__new__" = true) (ovr : PySem.W.excOver K C bm_ValueError = true) (hd : PySem.W.hasDictIn K C = true) (sa : PySem.W.findIn K (.ref C) "__setattr__" = some (some (.builtin "object.__setattr__"))) (kC : PySem.W.keepIn K (.ref C) = true) (ga : PySem.W.findIn K (.ref C) "__getattribute__" = some (some (.builtin "BaseException.__getattribute__"))) (gg : PySem.W.findIn K (.ref C) "__getattr__" = some none) (sub : PySem.W.subIn K (.ref C) (.type "BaseException") = some true) (ca : PySem.W.findIn K (.ref C) "__class__" = some (some (.builtin "object.__class__"))) (cm : PySem.W.mroIn K C (.type "object") = some true) (n_column : PySem.W.findIn K (.ref C) "column" = some none) (find : PySem.W.findIn K (.ref C) "__init__" = some (some (.ref fI))) (sup : PySem.W.ks_superIn K C C "__init__" = some (some (.builtin "ValueError.__init__"))) (subB : PySem.W.subIn K (.ref C) (.type "ValueError") = some true) (mroC : PySem.W.mroIn K C (.ref C) = some true) (hfn : PySem.W.isFn K (.ref fI) = true) (lf : K.lookup fI = some ⟨.type "function", od, .func (PySem.W.ksFn "__init__" "BadLine.__init__" (defArgs (inTop 7 0)) (defBody (inTop 7 0)) (defScope (inTop 7 0)) .none kV doc pm an (.ref cda) ct cc), osl⟩) (lc : PySem.W.codeIn K (.ref cda) "BadLine.__init__" = true) (lk : K.lookup cda = some ⟨ccl, cdd, .fields vs, ccs⟩) (file : fileB P vs = true) (lcc : K.lookup cc = some ⟨cl2, cld, .cell (some (.ref C)), csl⟩) : XFC P K mg C xc_BadLine :=
  xf_own xk X G rfl (by decide) a xb_ValueError ini ovr hd sa kC ga gg sub ca cm ⟨n_column, trivial⟩ find sup subB mroC hfn lf lc lk file lcc i_BadLine (.all fun us hl => match us, hl with | [_, _], _ => rfl) (fun p hp => by
      simp only [xc_BadLine, List.mem_cons, List.not_mem_nil, or_false] at hp
      rcases hp with rfl
      exact fun s us ws zs _ h1 h2 h3 => match us, ws, h1, h2, h3 with | [_], [_], _, _, h3 => by cases h3; exact .of_eq rfl)
theorem x_BadName {P : Program} {K : PySem.W.Frag} {h : Heap} {mg : Str → Option Value} {C fI cda cc : Addr} {kV doc pm ct ccl cl2 : Value} {an od cdd cld : Option Addr} {osl ccs csl : Array (Option Value)} {vs : Array Value} (xk : XK P K) (X : K.In h) (G : h.Ns mainGlobals mg) (a : PySem.W.nsIn K mainGlobals "BadName" = some (some (.ref C))) (ini : PySem.W.excInitIn K C bm_ValueError "ValueError.__new__" = true) (ovr : PySem.W.excOver K C bm_ValueError = true) (hd : PySem.W.hasDictIn K C = true) (sa : PySem.W.findIn K (.ref C) "__setattr__" = some (some (.builtin "object.__setattr__"))) (kC : PySem.W.keepIn K (.ref C) = true) (ga : PySem.W.findIn K (.ref C) "__getattribute__" = some (some (.builtin "BaseException.__getattribute__"))) (gg : PySem.W.findIn K (.ref C) "__getattr__" = some none) (sub : PySem.W.subIn K (.ref C) (.type "BaseException") = some true) (ca : PySem.W.findIn K (.ref C) "__class__" = some (some (.builtin "object.__class__"))) (cm : PySem.W.mroIn K C (.type "object") = some true) (n_given : PySem.W.findIn K (.ref C) "given" = some none) (find : PySem.W.findIn K (.ref C) "__init__" = some (some (.ref fI))) (sup : PySem.W.ks_superIn K C C "__init__" = some (some (.builtin "ValueError.__init__"))) (subB : PySem.W.subIn K (.ref C) (.type "ValueError") = some true) (mroC : PySem.W.mroIn K C (.ref C) = some true) (hfn : PySem.W.isFn K (.ref fI) = true) (lf : K.lookup fI = some ⟨.type "function", od, .func (PySem.W.ksFn "__init__" "BadName.__init__" (defArgs (inTop 8 0)) (defBody (inTop 8 0)) (defScope (inTop 8 0)) .none kV doc pm an (.ref cda) ct cc), osl⟩) (lc : PySem.W.codeIn K (.ref cda) "BadName.__init__" = true) (lk : K.lookup cda = some ⟨ccl, cdd, .fields vs, ccs⟩) (file : fileB P vs = true) (lcc : K.lookup cc = some ⟨cl2, cld, .cell (some (.ref C)), csl⟩) : XFC P K mg C xc_BadName :=
  xf_own xk X G rfl (by decide) a xb_ValueError ini ovr hd sa kC ga gg sub ca cm ⟨n_given, trivial⟩ find sup subB mroC hfn lf lc lk file lcc i_BadName (.all fun us hl => match us, hl with | [_, _], _ => rfl) (fun p hp => by
      simp only [xc_BadName, List.mem_cons, List.not_mem_nil, or_false] at hp
      rcases hp with rfl
      exact fun s us ws zs _ h1 h2 h3 => match us, ws, h1, h2, h3 with | [_], [_], _, _, h3 => by cases h3; exact .of_eq rfl)
theorem x_BadOperands {P : Program} {K : PySem.W.Frag} {h : Heap} {mg : Str → Option Value} {C fI cda cc : Addr} {kV doc pm ct ccl cl2 : Value} {an od cdd cld : Option Addr} {osl ccs csl : Array (Option Value)} {vs : Array Value} (xk : XK P K) (X : K.In h) (G : h.Ns mainGlobals mg) (a : PySem.W.nsIn K mainGlobals "BadOperands" = some (some (.ref C))) (ini : PySem.W.excInitIn K C bm_ValueError "ValueError.__new__" = true) (ovr : PySem.W.excOver K C bm_ValueError = true) (hd : PySem.W.hasDictIn K C = true) (sa : PySem.W.findIn K (.ref C) "__setattr__" = some (some (.builtin "object.__setattr__"))) (kC : PySem.W.keepIn K (.ref C) = true) (ga : PySem.W.findIn K (.ref C) "__getattribute__" = some (some (.builtin "BaseException.__getattribute__"))) (gg : PySem.W.findIn K (.ref C) "__getattr__" = some none) (sub : PySem.W.subIn K (.ref C) (.type "BaseException") = some true) (ca : PySem.W.findIn K (.ref C) "__class__" = some (some (.builtin "object.__class__"))) (cm : PySem.W.mroIn K C (.type "object") = some true) (n_index : PySem.W.findIn K (.ref C) "index" = some none) (find : PySem.W.findIn K (.ref C) "__init__" = some (some (.ref fI))) (sup : PySem.W.ks_superIn K C C "__init__" = some (some (.builtin "ValueError.__init__"))) (subB : PySem.W.subIn K (.ref C) (.type "ValueError") = some true) (mroC : PySem.W.mroIn K C (.ref C) = some true) (hfn : PySem.W.isFn K (.ref fI) = true) (lf : K.lookup fI = some ⟨.type "function", od, .func (PySem.W.ksFn "__init__" "BadOperands.__init__" (defArgs (inTop 9 0)) (defBody (inTop 9 0)) (defScope (inTop 9 0)) .none kV doc pm an (.ref cda) ct cc), osl⟩) (lc : PySem.W.codeIn K (.ref cda) "BadOperands.__init__" = true) (lk : K.lookup cda = some ⟨ccl, cdd, .fields vs, ccs⟩) (file : fileB P vs = true) (lcc : K.lookup cc = some ⟨cl2, cld, .cell (some (.ref C)), csl⟩) : XFC P K mg C xc_BadOperands :=
  xf_own xk X G rfl (by decide) a xb_ValueError ini ovr hd sa kC ga gg sub ca cm ⟨n_index, trivial⟩ find sup subB mroC hfn lf lc lk file lcc i_BadOperands (.all fun us hl => match us, hl with | [_, _], _ => rfl) (fun p hp => by
      simp only [xc_BadOperands, List.mem_cons, List.not_mem_nil, or_false] at hp
      rcases hp with rfl
      exact fun s us ws zs _ h1 h2 h3 => match us, ws, h1, h2, h3 with | [_], [_], _, _, h3 => by cases h3; exact .of_eq rfl)
theorem x_BadBlock {P : Program} {K : PySem.W.Frag} {h : Heap} {mg : Str → Option Value} {C fI cda cc : Addr} {kV doc pm ct ccl cl2 : Value} {an od cdd cld : Option Addr} {osl ccs csl : Array (Option Value)} {vs : Array Value} (xk : XK P K) (X : K.In h) (G : h.Ns mainGlobals mg) (a : PySem.W.nsIn K mainGlobals "BadBlock" = some (some (.ref C))) (ini : PySem.W.excInitIn K C bm_ValueError "ValueError.__new__" = true) (ovr : PySem.W.excOver K C bm_ValueError = true) (hd : PySem.W.hasDictIn K C = true) (sa : PySem.W.findIn K (.ref C) "__setattr__" = some (some (.builtin "object.__setattr__"))) (kC : PySem.W.keepIn K (.ref C) = true) (ga : PySem.W.findIn K (.ref C) "__getattribute__" = some (some (.builtin "BaseException.__getattribute__"))) (gg : PySem.W.findIn K (.ref C) "__getattr__" = some none) (sub : PySem.W.subIn K (.ref C) (.type "BaseException") = some true) (ca : PySem.W.findIn K (.ref C) "__class__" = some (some (.builtin "object.__class__"))) (cm : PySem.W.mroIn K C (.type "object") = some true) (n_line : PySem.W.findIn K (.ref C) "line" = some none) (find : PySem.W.findIn K (.ref C) "__init__" = some (some (.ref fI))) (sup : PySem.W.ks_superIn K C C "__init__" = some (some (.builtin "ValueError.__init__"))) (subB : PySem.W.subIn K (.ref C) (.type "ValueError") = some true) (mroC : PySem.W.mroIn K C (.ref C) = some true) (hfn : PySem.W.isFn K (.ref fI) = true) (lf : K.lookup fI = some ⟨.type "function", od, .func (PySem.W.ksFn "__init__" "BadBlock.__init__" (defArgs (inTop 10 0)) (defBody (inTop 10 0)) (defScope (inTop 10 0)) .none kV doc pm an (.ref cda) ct cc), osl⟩) (lc : PySem.W.codeIn K (.ref cda) "BadBlock.__init__" = true) (lk : K.lookup cda = some ⟨ccl, cdd, .fields vs, ccs⟩) (file : fileB P vs = true) (lcc : K.lookup cc = some ⟨cl2, cld, .cell (some (.ref C)), csl⟩) : XFC P K mg C xc_BadBlock :=
  xf_own xk X G rfl (by decide) a xb_ValueError ini ovr hd sa kC ga gg sub ca cm ⟨n_line, trivial⟩ find sup subB mroC hfn lf lc lk file lcc i_BadBlock (.all fun us hl => match us, hl with | [_, _], _ => rfl) (fun p hp => by
      simp only [xc_BadBlock, List.mem_cons, List.not_mem_nil, or_false] at hp
      rcases hp with rfl
      exact fun s us ws zs _ h1 h2 h3 => match us, ws, h1, h2, h3 with | [_], [_], _, _, h3 => by cases h3; exact .of_eq rfl)
theorem x_BadCall {P : Program} {K : PySem.W.Frag} {h : Heap} {mg : Str → Option Value} {C fI cda cc : Addr} {kV doc pm ct ccl cl2 : Value} {an od cdd cld : Option Addr} {osl ccs csl : Array (Option Value)} {vs : Array Value} (xk : XK P K) (X : K.In h) (G : h.Ns mainGlobals mg) (a : PySem.W.nsIn K mainGlobals "BadCall" = some (some (.ref C))) (ini : PySem.W.excInitIn K C bm_ValueError "ValueError.__new__" = true) (ovr : PySem.W.excOver K C bm_ValueError = true) (hd : PySem.W.hasDictIn K C = true) (sa : PySem.W.findIn K (.ref C) "__setattr__" = some (some (.builtin "object.__setattr__"))) (kC : PySem.W.keepIn K (.ref C) = true) (ga : PySem.W.findIn K (.ref C) "__getattribute__" = some (some (.builtin "BaseException.__getattribute__"))) (gg : PySem.W.findIn K (.ref C) "__getattr__" = some none) (sub : PySem.W.subIn K (.ref C) (.type "BaseException") = some true) (ca : PySem.W.findIn K (.ref C) "__class__" = some (some (.builtin "object.__class__"))) (cm : PySem.W.mroIn K C (.type "object") = some true) (n_given : PySem.W.findIn K (.ref C) "given" = some none) (find : PySem.W.findIn K (.ref C) "__init__" = some (some (.ref fI))) (sup : PySem.W.ks_superIn K C C "__init__" = some (some (.builtin "ValueError.__init__"))) (subB : PySem.W.subIn K (.ref C) (.type "ValueError") = some true) (mroC : PySem.W.mroIn K C (.ref C) = some true) (hfn : PySem.W.isFn K (.ref fI) = true) (lf : K.lookup fI = some ⟨.type "function", od, .func (PySem.W.ksFn "__init__" "BadCall.__init__" (defArgs (inTop 11 0)) (defBody (inTop 11 0)) (defScope (inTop 11 0)) .none kV doc pm an (.ref cda) ct cc), osl⟩) (lc : PySem.W.codeIn K (.ref cda) "BadCall.__init__" = true) (lk : K.lookup cda = some ⟨ccl, cdd, .fields vs, ccs⟩) (file : fileB P vs = true) (lcc : K.lookup cc = some ⟨cl2, cld, .cell (some (.ref C)), csl⟩) : XFC P K mg C xc_BadCall :=
  xf_own xk X G rfl (by decide) a xb_ValueError ini ovr hd sa kC ga gg sub ca cm ⟨n_given, trivial⟩ find sup subB mroC hfn lf lc lk file lcc i_BadCall (.all fun us hl => match us, hl with | [_, _], _ => rfl) (fun p hp => by
      simp only [xc_BadCall, List.mem_cons, List.not_mem_nil, or_false] at hp
      rcases hp with rfl
      exact fun s us ws zs _ h1 h2 h3 => match us, ws, h1, h2, h3 with | [_], [_], _, _, h3 => by cases h3; exact .of_eq rfl)
theorem x_BadText {P : Program} {K : PySem.W.Frag} {h : Heap} {mg : Str → Option Value} {C fI cda cc : Addr} {kV doc pm ct ccl cl2 : Value} {an od cdd cld : Option Addr} {osl ccs csl : Array (Option Value)} {vs : Array Value} (xk : XK P K) (X : K.In h) (G : h.Ns mainGlobals mg) (a : PySem.W.nsIn K mainGlobals "BadText" = some (some (.ref C))) (ini : PySem.W.excInitIn K C bm_ValueError "ValueError.__new__" = true) (ovr : PySem.W.excOver K C bm_ValueError = true) (hd : PySem.W.hasDictIn K C = true) (sa : PySem.W.findIn K (.ref C) "__setattr__" = some (some (.builtin "object.__setattr__"))) (kC : PySem.W.keepIn K (.ref C) = true) (ga : PySem.W.findIn K (.ref C) "__getattribute__" = some (some (.builtin "BaseException.__getattribute__"))) (gg : PySem.W.findIn K (.ref C) "__getattr__" = some none) (sub : PySem.W.subIn K (.ref C) (.type "BaseException") = some true) (ca : PySem.W.findIn K (.ref C) "__class__" = some (some (.builtin "object.__class__"))) (cm : PySem.W.mroIn K C (.type "object") = some true) (n_row : PySem.W.findIn K (.ref C) "row" = some none) (n_word : PySem.W.findIn K (.ref C) "word" = some none) (find : PySem.W.findIn K (.ref C) "__init__" = some (some (.ref fI))) (sup : PySem.W.ks_superIn K C C "__init__" = some (some (.builtin "ValueError.__init__"))) (subB : PySem.W.subIn K (.ref C) (.type "ValueError") = some true) (mroC : PySem.W.mroIn K C (.ref C) = some true) (hfn : PySem.W.isFn K (.ref fI) = true) (lf : K.lookup fI = some ⟨.type "function", od, .func (PySem.W.ksFn "__init__" "BadText.__init__" (defArgs (inTop 12 0)) (defBody (inTop 12 0)) (defScope (inTop 12 0)) .none kV doc pm an (.ref cda) ct cc), osl⟩) (lc : PySem.W.codeIn K (.ref cda) "BadText.__init__" = true) (lk : K.lookup cda = some ⟨ccl, cdd, .fields vs, ccs⟩) (file : fileB P vs = true) (lcc : K.lookup cc = some ⟨cl2, cld, .cell (some (.ref C)), csl⟩) : XFC P K mg C xc_BadText :=
  xf_own xk X G rfl (by decide) a xb_ValueError ini ovr hd sa kC ga gg sub ca cm ⟨n_row, n_word, trivial⟩ find sup subB mroC hfn lf lc lk file lcc i_BadText (.all fun us hl => match us, hl with | [_, _, _], _ => rfl) (fun p hp => by
      simp only [xc_BadText, List.mem_cons, List.not_mem_nil, or_false] at hp
      rcases hp with rfl
      exact fun s us ws zs _ h1 h2 h3 => match us, ws, h1, h2, h3 with | [_], [_, _], _, _, h3 => by cases h3; exact .of_eq rfl)
theorem x_BadTable {P : Program} {K : PySem.W.Frag} {h : Heap} {mg : Str → Option Value} {C fI cda cc : Addr} {kV doc pm ct ccl cl2 : Value} {an od cdd cld : Option Addr} {osl ccs csl : Array (Option Value)} {vs : Array Value} (xk : XK P K) (X : K.In h) (G : h.Ns mainGlobals mg) (a : PySem.W.nsIn K mainGlobals "BadTable" = some (some (.ref C))) (ini : PySem.W.excInitIn K C bm_ValueError "ValueError.__new__" = true) (ovr : PySem.W.excOver K C bm_ValueError = true) (hd : PySem.W.hasDictIn K C = true) (sa : PySem.W.findIn K (.ref C) "__setattr__" = some (some (.builtin "object.__setattr__"))) (kC : PySem.W.keepIn K (.ref C) = true) (ga : PySem.W.findIn K (.ref C) "__getattribute__" = some (some (.builtin "BaseException.__getattribute__"))) (gg : PySem.W.findIn K (.ref C) "__getattr__" = some none) (sub : PySem.W.subIn K (.ref C) (.type "BaseException") = some true) (ca : PySem.W.findIn K (.ref C) "__class__" = some (some (.builtin "object.__class__"))) (cm : PySem.W.mroIn K C (.type "object") = some true) (n_row : PySem.W.findIn K (.ref C) "row" = some none) (n_form : PySem.W.findIn K (.ref C) "form" = some none) (find : PySem.W.findIn K (.ref C) "__init__" = some (some (.ref fI))) (sup : PySem.W.ks_superIn K C C "__init__" = some (some (.builtin "ValueError.__init__"))) (subB : PySem.W.subIn K (.ref C) (.type "ValueError") = some true) (mroC : PySem.W.mroIn K C (.ref C) = some true) (hfn : PySem.W.isFn K (.ref fI) = true) (lf : K.lookup fI = some ⟨.type "function", od, .func (PySem.W.ksFn "__init__" "BadTable.__init__" (defArgs (inTop 13 0)) (defBody (inTop 13 0)) (defScope (inTop 13 0)) .none kV doc pm an (.ref cda) ct cc), osl⟩) (lc : PySem.W.codeIn K (.ref cda) "BadTable.__init__" = true) (lk : K.lookup cda = some ⟨ccl, cdd, .fields vs, ccs⟩) (file : fileB P vs = true) (lcc : K.lookup cc = some ⟨cl2, cld, .cell (some (.ref C)), csl⟩) : XFC P K mg C xc_BadTable :=
  xf_own xk X G rfl (by decide) a xb_ValueError ini ovr hd sa kC ga gg sub ca cm ⟨n_row, n_form, trivial⟩ find sup subB mroC hfn lf lc lk file lcc i_BadTable (.all fun us hl => match us, hl with | [_, _, _], _ => rfl) (fun p hp => by
      simp only [xc_BadTable, List.mem_cons, List.not_mem_nil, or_false] at hp
      rcases hp with rfl
      exact fun s us ws zs _ h1 h2 h3 => match us, ws, h1, h2, h3 with | [_], [_, _], _, _, h3 => by cases h3; exact .of_eq rfl)
theorem x_BadNumber {P : Program} {K : PySem.W.Frag} {h : Heap} {mg : Str → Option Value} {C fI cda cc : Addr} {kV doc pm ct ccl cl2 : Value} {an od cdd cld : Option Addr} {osl ccs csl : Array (Option Value)} {vs : Array Value} (xk : XK P K) (X : K.In h) (G : h.Ns mainGlobals mg) (a : PySem.W.nsIn K mainGlobals "BadNumber" = some (some (.ref C))) (ini : PySem.W.excInitIn K C bm_ValueError "ValueError.__new__" = true) (ovr : PySem.W.excOver K C bm_ValueError = true) (hd : PySem.W.hasDictIn K C = true) (sa : PySem.W.findIn K (.ref C) "__setattr__" = some (some (.builtin "object.__setattr__"))) (kC : PySem.W.keepIn K (.ref C) = true) (ga : PySem.W.findIn K (.ref C) "__getattribute__" = some (some (.builtin "BaseException.__getattribute__"))) (gg : PySem.W.findIn K (.ref C) "__getattr__" = some none) (sub : PySem.W.subIn K (.ref C) (.type "BaseException") = some true) (ca : PySem.W.findIn K (.ref C) "__class__" = some (some (.builtin "object.__class__"))) (cm : PySem.W.mroIn K C (.type "object") = some true) (n_given : PySem.W.findIn K (.ref C) "given" = some none) (find : PySem.W.findIn K (.ref C) "__init__" = some (some (.ref fI))) (sup : PySem.W.ks_superIn K C C "__init__" = some (some (.builtin "ValueError.__init__"))) (subB : PySem.W.subIn K (.ref C) (.type "ValueError") = some true) (mroC : PySem.W.mroIn K C (.ref C) = some true) (hfn : PySem.W.isFn K (.ref fI) = true) (lf : K.lookup fI = some ⟨.type "function", od, .func (PySem.W.ksFn "__init__" "BadNumber.__init__" (defArgs (inTop 14 0)) (defBody (inTop 14 0)) (defScope (inTop 14 0)) .none kV doc pm an (.ref cda) ct cc), osl⟩) (lc : PySem.W.codeIn K (.ref cda) "BadNumber.__init__" = true) (lk : K.lookup cda = some ⟨ccl, cdd, .fields vs, ccs⟩) (file : fileB P vs = true) (lcc : K.lookup cc = some ⟨cl2, cld, .cell (some (.ref C)), csl⟩) : XFC P K mg C xc_BadNumber :=
  xf_own xk X G rfl (by decide) a xb_ValueError ini ovr hd sa kC ga gg sub ca cm ⟨n_given, trivial⟩ find sup subB mroC hfn lf lc lk file lcc i_BadNumber (.all fun us hl => match us, hl with | [_, _], _ => rfl) (fun p hp => by
      simp only [xc_BadNumber, List.mem_cons, List.not_mem_nil, or_false] at hp
      rcases hp with rfl
      exact fun s us ws zs _ h1 h2 h3 => match us, ws, h1, h2, h3 with | [_], [_], _, _, h3 => by cases h3; exact .of_eq rfl)
theorem x_BadObject {P : Program} {K : PySem.W.Frag} {h : Heap} {mg : Str → Option Value} {C fI cda cc : Addr} {kV doc pm ct ccl cl2 : Value} {an od cdd cld : Option Addr} {osl ccs csl : Array (Option Value)} {vs : Array Value} (xk : XK P K) (X : K.In h) (G : h.Ns mainGlobals mg) (a : PySem.W.nsIn K mainGlobals "BadObject" = some (some (.ref C))) (ini : PySem.W.excInitIn K C bm_ValueError "ValueError.__new__" = true) (ovr : PySem.W.excOver K C bm_ValueError = true) (hd : PySem.W.hasDictIn K C = true) (sa : PySem.W.findIn K (.ref C) "__setattr__" = some (some (.builtin "object.__setattr__"))) (kC : PySem.W.keepIn K (.ref C) = true) (ga : PySem.W.findIn K (.ref C) "__getattribute__" = some (some (.builtin "BaseException.__getattribute__"))) (gg : PySem.W.findIn K (.ref C) "__getattr__" = some none) (sub : PySem.W.subIn K (.ref C) (.type "BaseException") = some true) (ca : PySem.W.findIn K (.ref C) "__class__" = some (some (.builtin "object.__class__"))) (cm : PySem.W.mroIn K C (.type "object") = some true) (n_given : PySem.W.findIn K (.ref C) "given" = some none) (find : PySem.W.findIn K (.ref C) "__init__" = some (some (.ref fI))) (sup : PySem.W.ks_superIn K C C "__init__" = some (some (.builtin "ValueError.__init__"))) (subB : PySem.W.subIn K (.ref C) (.type "ValueError") = some true) (mroC : PySem.W.mroIn K C (.ref C) = some true) (hfn : PySem.W.isFn K (.ref fI) = true) (lf : K.lookup fI = some ⟨.type "function", od, .func (PySem.W.ksFn "__init__" "BadObject.__init__" (defArgs (inTop 15 0)) (defBody (inTop 15 0)) (defScope (inTop 15 0)) .none kV doc pm an (.ref cda) ct cc), osl⟩) (lc : PySem.W.codeIn K (.ref cda) "BadObject.__init__" = true) (lk : K.lookup cda = some ⟨ccl, cdd, .fields vs, ccs⟩) (file : fileB P vs = true) (lcc : K.lookup cc = some ⟨cl2, cld, .cell (some (.ref C)), csl⟩) : XFC P K mg C xc_BadObject :=
  xf_own xk X G rfl (by decide) a xb_ValueError ini ovr hd sa kC ga gg sub ca cm ⟨n_given, trivial⟩ find sup subB mroC hfn lf lc lk file lcc i_BadObject (.all fun us hl => match us, hl with | [_, _], _ => rfl) (fun p hp => by
      simp only [xc_BadObject, List.mem_cons, List.not_mem_nil, or_false] at hp
      rcases hp with rfl
      exact fun s us ws zs _ h1 h2 h3 => match us, ws, h1, h2, h3 with | [_], [_], _, _, h3 => by cases h3; exact .of_eq rfl)
theorem x_BadTree {P : Program} {K : PySem.W.Frag} {h : Heap} {mg : Str → Option Value} {C fI cda cc : Addr} {kV doc pm ct ccl cl2 : Value} {an od cdd cld : Option Addr} {osl ccs csl : Array (Option Value)} {vs : Array Value} (xk : XK P K) (X : K.In h) (G : h.Ns mainGlobals mg) (a : PySem.W.nsIn K mainGlobals "BadTree" = some (some (.ref C))) (ini : PySem.W.excInitIn K C bm_ValueError "ValueError.__new__" = true) (ovr : PySem.W.excOver K C bm_ValueError = true) (hd : PySem.W.hasDictIn K C = true) (sa : PySem.W.findIn K (.ref C) "__setattr__" = some (some (.builtin "object.__setattr__"))) (kC : PySem.W.keepIn K (.ref C) = true) (ga : PySem.W.findIn K (.ref C) "__getattribute__" = some (some (.builtin "BaseException.__getattribute__"))) (gg : PySem.W.findIn K (.ref C) "__getattr__" = some none) (sub : PySem.W.subIn K (.ref C) (.type "BaseException") = some true) (ca : PySem.W.findIn K (.ref C) "__class__" = some (some (.builtin "object.__class__"))) (cm : PySem.W.mroIn K C (.type "object") = some true) (n_given : PySem.W.findIn K (.ref C) "given" = some none) (find : PySem.W.findIn K (.ref C) "__init__" = some (some (.ref fI))) (sup : PySem.W.ks_superIn K C C "__init__" = some (some (.builtin "ValueError.__init__"))) (subB : PySem.W.subIn K (.ref C) (.type "ValueError") = some true) (mroC : PySem.W.mroIn K C (.ref C) = some true) (hfn : PySem.W.isFn K (.ref fI) = true) (lf : K.lookup fI = some ⟨.type "function", od, .func (PySem.W.ksFn "__init__" "BadTree.__init__" (defArgs (inTop 16 0)) (defBody (inTop 16 0)) (defScope (inTop 16 0)) .none kV doc pm an (.ref cda) ct cc), osl⟩) (lc : PySem.W.codeIn K (.ref cda) "BadTree.__init__" = true) (lk : K.lookup cda = some ⟨ccl, cdd, .fields vs, ccs⟩) (file : fileB P vs = true) (lcc : K.lookup cc = some ⟨cl2, cld, .cell (some (.ref C)), csl⟩) : XFC P K mg C xc_BadTree :=
  xf_own xk X G rfl (by decide) a xb_ValueError ini ovr hd sa kC ga gg sub ca cm ⟨n_given, trivial⟩ find sup subB mroC hfn lf lc lk file lcc i_BadTree (.all fun us hl => match us, hl with | [_, _], _ => rfl) (fun p hp => by
      simp only [xc_BadTree, List.mem_cons, List.not_mem_nil, or_false] at hp
      rcases hp with rfl
      exact fun s us ws zs _ h1 h2 h3 => match us, ws, h1, h2, h3 with | [_], [_], _, _, h3 => by cases h3; exact .of_eq rfl)
theorem x_NotPlain {P : Program} {K : PySem.W.Frag} {h : Heap} {mg : Str → Option Value} {C fI cda cc : Addr} {kV doc pm ct ccl cl2 : Value} {an od cdd cld : Option Addr} {osl ccs csl : Array (Option Value)} {vs : Array Value} (xk : XK P K) (X : K.In h) (G : h.Ns mainGlobals mg) (a : PySem.W.nsIn K mainGlobals "NotPlain" = some (some (.ref C))) (ini : PySem.W.excInitIn K C bm_ArithmeticError "ArithmeticError.__new__" = true) (ovr : PySem.W.excOver K C bm_ArithmeticError = true) (hd : PySem.W.hasDictIn K C = true) (sa : PySem.W.findIn K (.ref C) "__setattr__" = some (some (.builtin "object.__setattr__"))) (kC : PySem.W.keepIn K (.ref C) = true) (ga : PySem.W.findIn K (.ref C) "__getattribute__" = some (some (.builtin "BaseException.__getattribute__"))) (gg : PySem.W.findIn K (.ref C) "__getattr__" = some none) (sub : PySem.W.subIn K (.ref C) (.type "BaseException") = some true) (ca : PySem.W.findIn K (.ref C) "__class__" = some (some (.builtin "object.__class__"))) (cm : PySem.W.mroIn K C (.type "object") = some true) (n_path : PySem.W.findIn K (.ref C) "path" = some none) (find : PySem.W.findIn K (.ref C) "__init__" = some (some (.ref fI))) (sup : PySem.W.ks_superIn K C C "__init__" = some (some (.builtin "ArithmeticError.__init__"))) (subB : PySem.W.subIn K (.ref C) (.type "ArithmeticError") = some true) (mroC : PySem.W.mroIn K C (.ref C) = some true) (hfn : PySem.W.isFn K (.ref fI) = true) (lf : K.lookup fI = some ⟨.type "function", od, .func (PySem.W.ksFn "__init__" "NotPlain.__init__" (defArgs (inTop 17 0)) (defBody (inTop 17 0)) (defScope (inTop 17 0)) .none kV doc pm an (.ref cda) ct cc), osl⟩) (lc : PySem.W.codeIn K (.ref cda) "NotPlain.__init__" = true) (lk : K.lookup cda = some ⟨ccl, cdd, .fields vs, ccs⟩) (file : fileB P vs = true) (lcc : K.lookup cc = some ⟨cl2, cld, .cell (some (.ref C)), csl⟩) : XFC P K mg C xc_NotPlain :=
  xf_own xk X G rfl (by decide) a xb_ArithmeticError ini ovr hd sa kC ga gg sub ca cm ⟨n_path, trivial⟩ find sup subB mroC hfn lf lc lk file lcc i_NotPlain (.all fun us hl => match us, hl with | [_, _], _ => rfl) (fun p hp => by
      simp only [xc_NotPlain, List.mem_cons, List.not_mem_nil, or_false] at hp
      rcases hp with rfl
      exact fun s us ws zs _ h1 h2 h3 => match us, ws, h1, h2, h3 with | [_], [_], _, _, h3 => by cases h3; exact .of_eq rfl)
theorem x_DividedByZero {P : Program} {K : PySem.W.Frag} {h : Heap} {mg : Str → Option Value} {C : Addr} (xk : XK P K) (X : K.In h) (G : h.Ns mainGlobals mg) (a : PySem.W.nsIn K mainGlobals "DividedByZero" = some (some (.ref C))) (ini : PySem.W.excInitIn K C bm_ArithmeticError "ArithmeticError.__new__" = true) (ovr : PySem.W.excOver K C bm_ArithmeticError = true) (hd : PySem.W.hasDictIn K C = true) (sa : PySem.W.findIn K (.ref C) "__setattr__" = some (some (.builtin "object.__setattr__"))) (kC : PySem.W.keepIn K (.ref C) = true) (ga : PySem.W.findIn K (.ref C) "__getattribute__" = some (some (.builtin "BaseException.__getattribute__"))) (gg : PySem.W.findIn K (.ref C) "__getattr__" = some none) (sub : PySem.W.subIn K (.ref C) (.type "BaseException") = some true) (ca : PySem.W.findIn K (.ref C) "__class__" = some (some (.builtin "object.__class__"))) (cm : PySem.W.mroIn K C (.type "object") = some true) (find : PySem.W.findIn K (.ref C) "__init__" = some (some (.builtin "ArithmeticError.__init__"))) : XFC P K mg C xc_DividedByZero :=
  xf_none xk X G rfl rfl rfl a xb_ArithmeticError ini ovr hd sa kC ga gg sub ca cm find
theorem x_BadShift {P : Program} {K : PySem.W.Frag} {h : Heap} {mg : Str → Option Value} {C fI cda cc : Addr} {kV doc pm ct ccl cl2 : Value} {an od cdd cld : Option Addr} {osl ccs csl : Array (Option Value)} {vs : Array Value} (xk : XK P K) (X : K.In h) (G : h.Ns mainGlobals mg) (a : PySem.W.nsIn K mainGlobals "BadShift" = some (some (.ref C))) (ini : PySem.W.excInitIn K C bm_ArithmeticError "ArithmeticError.__new__" = true) (ovr : PySem.W.excOver K C bm_ArithmeticError = true) (hd : PySem.W.hasDictIn K C = true) (sa : PySem.W.findIn K (.ref C) "__setattr__" = some (some (.builtin "object.__setattr__"))) (kC : PySem.W.keepIn K (.ref C) = true) (ga : PySem.W.findIn K (.ref C) "__getattribute__" = some (some (.builtin "BaseException.__getattribute__"))) (gg : PySem.W.findIn K (.ref C) "__getattr__" = some none) (sub : PySem.W.subIn K (.ref C) (.type "BaseException") = some true) (ca : PySem.W.findIn K (.ref C) "__class__" = some (some (.builtin "object.__class__"))) (cm : PySem.W.mroIn K C (.type "object") = some true) (n_given : PySem.W.findIn K (.ref C) "given" = some none) (find : PySem.W.findIn K (.ref C) "__init__" = some (some (.ref fI))) (sup : PySem.W.ks_superIn K C C "__init__" = some (some (.builtin "ArithmeticError.__init__"))) (subB : PySem.W.subIn K (.ref C) (.type "ArithmeticError") = some true) (mroC : PySem.W.mroIn K C (.ref C) = some true) (hfn : PySem.W.isFn K (.ref fI) = true) (lf : K.lookup fI = some ⟨.type "function", od, .func (PySem.W.ksFn "__init__" "BadShift.__init__" (defArgs (inTop 19 0)) (defBody (inTop 19 0)) (defScope (inTop 19 0)) .none kV doc pm an (.ref cda) ct cc), osl⟩) (lc : PySem.W.codeIn K (.ref cda) "BadShift.__init__" = true) (lk : K.lookup cda = some ⟨ccl, cdd, .fields vs, ccs⟩) (file : fileB P vs = true) (lcc : K.lookup cc = some ⟨cl2, cld, .cell (some (.ref C)), csl⟩) : XFC P K mg C xc_BadShift :=
  xf_own xk X G rfl (by decide) a xb_ArithmeticError ini ovr hd sa kC ga gg sub ca cm ⟨n_given, trivial⟩ find sup subB mroC hfn lf lc lk file lcc i_BadShift (.all fun us hl => match us, hl with | [_, _], _ => rfl) (fun p hp => by
      simp only [xc_BadShift, List.mem_cons, List.not_mem_nil, or_false] at hp
      rcases hp with rfl
      exact fun s us ws zs _ h1 h2 h3 => match us, ws, h1, h2, h3 with | [_], [_], _, _, h3 => by cases h3; exact .of_eq rfl)
theorem x_NoName {P : Program} {K : PySem.W.Frag} {h : Heap} {mg : Str → Option Value} {C fI cda cc : Addr} {kV doc pm ct ccl cl2 : Value} {an od cdd cld : Option Addr} {osl ccs csl : Array (Option Value)} {vs : Array Value} (xk : XK P K) (X : K.In h) (G : h.Ns mainGlobals mg) (a : PySem.W.nsIn K mainGlobals "NoName" = some (some (.ref C))) (ini : PySem.W.excInitIn K C bm_LookupError "LookupError.__new__" = true) (ovr : PySem.W.excOver K C bm_LookupError = true) (hd : PySem.W.hasDictIn K C = true) (sa : PySem.W.findIn K (.ref C) "__setattr__" = some (some (.builtin "object.__setattr__"))) (kC : PySem.W.keepIn K (.ref C) = true) (ga : PySem.W.findIn K (.ref C) "__getattribute__" = some (some (.builtin "BaseException.__getattribute__"))) (gg : PySem.W.findIn K (.ref C) "__getattr__" = some none) (sub : PySem.W.subIn K (.ref C) (.type "BaseException") = some true) (ca : PySem.W.findIn K (.ref C) "__class__" = some (some (.builtin "object.__class__"))) (cm : PySem.W.mroIn K C (.type "object") = some true) (n_path : PySem.W.findIn K (.ref C) "path" = some none) (find : PySem.W.findIn K (.ref C) "__init__" = some (some (.ref fI))) (sup : PySem.W.ks_superIn K C C "__init__" = some (some (.builtin "LookupError.__init__"))) (subB : PySem.W.subIn K (.ref C) (.type "LookupError") = some true) (mroC : PySem.W.mroIn K C (.ref C) = some true) (hfn : PySem.W.isFn K (.ref fI) = true) (lf : K.lookup fI = some ⟨.type "function", od, .func (PySem.W.ksFn "__init__" "NoName.__init__" (defArgs (inTop 20 0)) (defBody (inTop 20 0)) (defScope (inTop 20 0)) .none kV doc pm an (.ref cda) ct cc), osl⟩) (lc : PySem.W.codeIn K (.ref cda) "NoName.__init__" = true) (lk : K.lookup cda = some ⟨ccl, cdd, .fields vs, ccs⟩) (file : fileB P vs = true) (lcc : K.lookup cc = some ⟨cl2, cld, .cell (some (.ref C)), csl⟩) : XFC P K mg C xc_NoName :=
  xf_own xk X G rfl (by decide) a xb_LookupError ini ovr hd sa kC ga gg sub ca cm ⟨n_path, trivial⟩ find sup subB mroC hfn lf lc lk file lcc i_NoName (.all fun us hl => match us, hl with | [_, _], _ => rfl) (fun p hp => by
      simp only [xc_NoName, List.mem_cons, List.not_mem_nil, or_false] at hp
      rcases hp with rfl
      exact fun s us ws zs _ h1 h2 h3 => match us, ws, h1, h2, h3 with | [_], [_], _, _, h3 => by cases h3; exact .of_eq rfl)
theorem x_NoInstruction {P : Program} {K : PySem.W.Frag} {h : Heap} {mg : Str → Option Value} {C fI cda cc : Addr} {kV doc pm ct ccl cl2 : Value} {an od cdd cld : Option Addr} {osl ccs csl : Array (Option Value)} {vs : Array Value} (xk : XK P K) (X : K.In h) (G : h.Ns mainGlobals mg) (a : PySem.W.nsIn K mainGlobals "NoInstruction" = some (some (.ref C))) (ini : PySem.W.excInitIn K C bm_LookupError "LookupError.__new__" = true) (ovr : PySem.W.excOver K C bm_LookupError = true) (hd : PySem.W.hasDictIn K C = true) (sa : PySem.W.findIn K (.ref C) "__setattr__" = some (some (.builtin "object.__setattr__"))) (kC : PySem.W.keepIn K (.ref C) = true) (ga : PySem.W.findIn K (.ref C) "__getattribute__" = some (some (.builtin "BaseException.__getattribute__"))) (gg : PySem.W.findIn K (.ref C) "__getattr__" = some none) (sub : PySem.W.subIn K (.ref C) (.type "BaseException") = some true) (ca : PySem.W.findIn K (.ref C) "__class__" = some (some (.builtin "object.__class__"))) (cm : PySem.W.mroIn K C (.type "object") = some true) (n_given : PySem.W.findIn K (.ref C) "given" = some none) (find : PySem.W.findIn K (.ref C) "__init__" = some (some (.ref fI))) (sup : PySem.W.ks_superIn K C C "__init__" = some (some (.builtin "LookupError.__init__"))) (subB : PySem.W.subIn K (.ref C) (.type "LookupError") = some true) (mroC : PySem.W.mroIn K C (.ref C) = some true) (hfn : PySem.W.isFn K (.ref fI) = true) (lf : K.lookup fI = some ⟨.type "function", od, .func (PySem.W.ksFn "__init__" "NoInstruction.__init__" (defArgs (inTop 21 0)) (defBody (inTop 21 0)) (defScope (inTop 21 0)) .none kV doc pm an (.ref cda) ct cc), osl⟩) (lc : PySem.W.codeIn K (.ref cda) "NoInstruction.__init__" = true) (lk : K.lookup cda = some ⟨ccl, cdd, .fields vs, ccs⟩) (file : fileB P vs = true) (lcc : K.lookup cc = some ⟨cl2, cld, .cell (some (.ref C)), csl⟩) : XFC P K mg C xc_NoInstruction :=
  xf_own xk X G rfl (by decide) a xb_LookupError ini ovr hd sa kC ga gg sub ca cm ⟨n_given, trivial⟩ find sup subB mroC hfn lf lc lk file lcc i_NoInstruction (.all fun us hl => match us, hl with | [_, _], _ => rfl) (fun p hp => by
      simp only [xc_NoInstruction, List.mem_cons, List.not_mem_nil, or_false] at hp
      rcases hp with rfl
      exact fun s us ws zs _ h1 h2 h3 => match us, ws, h1, h2, h3 with | [_], [_], _, _, h3 => by cases h3; exact .of_eq rfl)
theorem x_NoOrigin {P : Program} {K : PySem.W.Frag} {h : Heap} {mg : Str → Option Value} {C fI cda cc : Addr} {kV doc pm ct ccl cl2 : Value} {an od cdd cld : Option Addr} {osl ccs csl : Array (Option Value)} {vs : Array Value} (xk : XK P K) (X : K.In h) (G : h.Ns mainGlobals mg) (a : PySem.W.nsIn K mainGlobals "NoOrigin" = some (some (.ref C))) (ini : PySem.W.excInitIn K C bm_LookupError "LookupError.__new__" = true) (ovr : PySem.W.excOver K C bm_LookupError = true) (hd : PySem.W.hasDictIn K C = true) (sa : PySem.W.findIn K (.ref C) "__setattr__" = some (some (.builtin "object.__setattr__"))) (kC : PySem.W.keepIn K (.ref C) = true) (ga : PySem.W.findIn K (.ref C) "__getattribute__" = some (some (.builtin "BaseException.__getattribute__"))) (gg : PySem.W.findIn K (.ref C) "__getattr__" = some none) (sub : PySem.W.subIn K (.ref C) (.type "BaseException") = some true) (ca : PySem.W.findIn K (.ref C) "__class__" = some (some (.builtin "object.__class__"))) (cm : PySem.W.mroIn K C (.type "object") = some true) (n_address : PySem.W.findIn K (.ref C) "address" = some none) (find : PySem.W.findIn K (.ref C) "__init__" = some (some (.ref fI))) (sup : PySem.W.ks_superIn K C C "__init__" = some (some (.builtin "LookupError.__init__"))) (subB : PySem.W.subIn K (.ref C) (.type "LookupError") = some true) (mroC : PySem.W.mroIn K C (.ref C) = some true) (hfn : PySem.W.isFn K (.ref fI) = true) (lf : K.lookup fI = some ⟨.type "function", od, .func (PySem.W.ksFn "__init__" "NoOrigin.__init__" (defArgs (inTop 22 0)) (defBody (inTop 22 0)) (defScope (inTop 22 0)) .none kV doc pm an (.ref cda) ct cc), osl⟩) (lc : PySem.W.codeIn K (.ref cda) "NoOrigin.__init__" = true) (lk : K.lookup cda = some ⟨ccl, cdd, .fields vs, ccs⟩) (file : fileB P vs = true) (lcc : K.lookup cc = some ⟨cl2, cld, .cell (some (.ref C)), csl⟩) : XFC P K mg C xc_NoOrigin :=
  xf_own xk X G rfl (by decide) a xb_LookupError ini ovr hd sa kC ga gg sub ca cm ⟨n_address, trivial⟩ find sup subB mroC hfn lf lc lk file lcc i_NoOrigin (.all fun us hl => match us, hl with | [_, _], _ => rfl) (fun p hp => by
      simp only [xc_NoOrigin, List.mem_cons, List.not_mem_nil, or_false] at hp
      rcases hp with rfl
      exact fun s us ws zs _ h1 h2 h3 => match us, ws, h1, h2, h3 with | [_], [_], _, _, h3 => by cases h3; exact .of_eq rfl)
theorem x_Ring {P : Program} {K : PySem.W.Frag} {h : Heap} {mg : Str → Option Value} {C fI cda cc : Addr} {kV doc pm ct ccl cl2 : Value} {an od cdd cld : Option Addr} {osl ccs csl : Array (Option Value)} {vs : Array Value} (xk : XK P K) (X : K.In h) (G : h.Ns mainGlobals mg) (a : PySem.W.nsIn K mainGlobals "Ring" = some (some (.ref C))) (ini : PySem.W.excInitIn K C bm_RuntimeError "RuntimeError.__new__" = true) (ovr : PySem.W.excOver K C bm_RuntimeError = true) (hd : PySem.W.hasDictIn K C = true) (sa : PySem.W.findIn K (.ref C) "__setattr__" = some (some (.builtin "object.__setattr__"))) (kC : PySem.W.keepIn K (.ref C) = true) (ga : PySem.W.findIn K (.ref C) "__getattribute__" = some (some (.builtin "BaseException.__getattribute__"))) (gg : PySem.W.findIn K (.ref C) "__getattr__" = some none) (sub : PySem.W.subIn K (.ref C) (.type "BaseException") = some true) (ca : PySem.W.findIn K (.ref C) "__class__" = some (some (.builtin "object.__class__"))) (cm : PySem.W.mroIn K C (.type "object") = some true) (n_names : PySem.W.findIn K (.ref C) "names" = some none) (find : PySem.W.findIn K (.ref C) "__init__" = some (some (.ref fI))) (sup : PySem.W.ks_superIn K C C "__init__" = some (some (.builtin "RuntimeError.__init__"))) (subB : PySem.W.subIn K (.ref C) (.type "RuntimeError") = some true) (mroC : PySem.W.mroIn K C (.ref C) = some true) (hfn : PySem.W.isFn K (.ref fI) = true) (lf : K.lookup fI = some ⟨.type "function", od, .func (PySem.W.ksFn "__init__" "Ring.__init__" (defArgs (inTop 23 0)) (defBody (inTop 23 0)) (defScope (inTop 23 0)) .none kV doc pm an (.ref cda) ct cc), osl⟩) (lc : PySem.W.codeIn K (.ref cda) "Ring.__init__" = true) (lk : K.lookup cda = some ⟨ccl, cdd, .fields vs, ccs⟩) (file : fileB P vs = true) (lcc : K.lookup cc = some ⟨cl2, cld, .cell (some (.ref C)), csl⟩) : XFC P K mg C xc_Ring :=
  xf_own xk X G rfl (by decide) a xb_RuntimeError ini ovr hd sa kC ga gg sub ca cm ⟨n_names, trivial⟩ find sup subB mroC hfn lf lc lk file lcc i_Ring (.all fun us hl => match us, hl with | [_, _], _ => rfl) (fun p hp => by
      simp only [xc_Ring, List.mem_cons, List.not_mem_nil, or_false] at hp
      rcases hp with rfl
      exact fun s us ws zs _ h1 h2 h3 => match us, ws, h1, h2, h3 with | [_], [_], _, _, h3 => by cases h3; exact .of_eq rfl)
theorem x_Cycle {P : Program} {K : PySem.W.Frag} {h : Heap} {mg : Str → Option Value} {C fI cda cc : Addr} {kV doc pm ct ccl cl2 : Value} {an od cdd cld : Option Addr} {osl ccs csl : Array (Option Value)} {vs : Array Value} (xk : XK P K) (X : K.In h) (G : h.Ns mainGlobals mg) (a : PySem.W.nsIn K mainGlobals "Cycle" = some (some (.ref C))) (ini : PySem.W.excInitIn K C bm_RuntimeError "RuntimeError.__new__" = true) (ovr : PySem.W.excOver K C bm_RuntimeError = true) (hd : PySem.W.hasDictIn K C = true) (sa : PySem.W.findIn K (.ref C) "__setattr__" = some (some (.builtin "object.__setattr__"))) (kC : PySem.W.keepIn K (.ref C) = true) (ga : PySem.W.findIn K (.ref C) "__getattribute__" = some (some (.builtin "BaseException.__getattribute__"))) (gg : PySem.W.findIn K (.ref C) "__getattr__" = some none) (sub : PySem.W.subIn K (.ref C) (.type "BaseException") = some true) (ca : PySem.W.findIn K (.ref C) "__class__" = some (some (.builtin "object.__class__"))) (cm : PySem.W.mroIn K C (.type "object") = some true) (n_names : PySem.W.findIn K (.ref C) "names" = some none) (find : PySem.W.findIn K (.ref C) "__init__" = some (some (.ref fI))) (sup : PySem.W.ks_superIn K C C "__init__" = some (some (.builtin "RuntimeError.__init__"))) (subB : PySem.W.subIn K (.ref C) (.type "RuntimeError") = some true) (mroC : PySem.W.mroIn K C (.ref C) = some true) (hfn : PySem.W.isFn K (.ref fI) = true) (lf : K.lookup fI = some ⟨.type "function", od, .func (PySem.W.ksFn "__init__" "Cycle.__init__" (defArgs (inTop 24 0)) (defBody (inTop 24 0)) (defScope (inTop 24 0)) .none kV doc pm an (.ref cda) ct cc), osl⟩) (lc : PySem.W.codeIn K (.ref cda) "Cycle.__init__" = true) (lk : K.lookup cda = some ⟨ccl, cdd, .fields vs, ccs⟩) (file : fileB P vs = true) (lcc : K.lookup cc = some ⟨cl2, cld, .cell (some (.ref C)), csl⟩) : XFC P K mg C xc_Cycle :=
  xf_own xk X G rfl (by decide) a xb_RuntimeError ini ovr hd sa kC ga gg sub ca cm ⟨n_names, trivial⟩ find sup subB mroC hfn lf lc lk file lcc i_Cycle (.all fun us hl => match us, hl with | [_, _], _ => rfl) (fun p hp => by
      simp only [xc_Cycle, List.mem_cons, List.not_mem_nil, or_false] at hp
      rcases hp with rfl
      exact fun s us ws zs _ h1 h2 h3 => match us, ws, h1, h2, h3 with | [_], [_], _, _, h3 => by cases h3; exact .of_eq rfl)
theorem x_Taken {P : Program} {K : PySem.W.Frag} {h : Heap} {mg : Str → Option Value} {C fI cda cc : Addr} {kV doc pm ct ccl cl2 : Value} {an od cdd cld : Option Addr} {osl ccs csl : Array (Option Value)} {vs : Array Value} (xk : XK P K) (X : K.In h) (G : h.Ns mainGlobals mg) (a : PySem.W.nsIn K mainGlobals "Taken" = some (some (.ref C))) (ini : PySem.W.excInitIn K C bm_RuntimeError "RuntimeError.__new__" = true) (ovr : PySem.W.excOver K C bm_RuntimeError = true) (hd : PySem.W.hasDictIn K C = true) (sa : PySem.W.findIn K (.ref C) "__setattr__" = some (some (.builtin "object.__setattr__"))) (kC : PySem.W.keepIn K (.ref C) = true) (ga : PySem.W.findIn K (.ref C) "__getattribute__" = some (some (.builtin "BaseException.__getattribute__"))) (gg : PySem.W.findIn K (.ref C) "__getattr__" = some none) (sub : PySem.W.subIn K (.ref C) (.type "BaseException") = some true) (ca : PySem.W.findIn K (.ref C) "__class__" = some (some (.builtin "object.__class__"))) (cm : PySem.W.mroIn K C (.type "object") = some true) (n_path : PySem.W.findIn K (.ref C) "path" = some none) (find : PySem.W.findIn K (.ref C) "__init__" = some (some (.ref fI))) (sup : PySem.W.ks_superIn K C C "__init__" = some (some (.builtin "RuntimeError.__init__"))) (subB : PySem.W.subIn K (.ref C) (.type "RuntimeError") = some true) (mroC : PySem.W.mroIn K C (.ref C) = some true) (hfn : PySem.W.isFn K (.ref fI) = true) (lf : K.lookup fI = some ⟨.type "function", od, .func (PySem.W.ksFn "__init__" "Taken.__init__" (defArgs (inTop 25 0)) (defBody (inTop 25 0)) (defScope (inTop 25 0)) .none kV doc pm an (.ref cda) ct cc), osl⟩) (lc : PySem.W.codeIn K (.ref cda) "Taken.__init__" = true) (lk : K.lookup cda = some ⟨ccl, cdd, .fields vs, ccs⟩) (file : fileB P vs = true) (lcc : K.lookup cc = some ⟨cl2, cld, .cell (some (.ref C)), csl⟩) : XFC P K mg C xc_Taken :=
  xf_own xk X G rfl (by decide) a xb_RuntimeError ini ovr hd sa kC ga gg sub ca cm ⟨n_path, trivial⟩ find sup subB mroC hfn lf lc lk file lcc i_Taken (.all fun us hl => match us, hl with | [_, _], _ => rfl) (fun p hp => by
      simp only [xc_Taken, List.mem_cons, List.not_mem_nil, or_false] at hp
      rcases hp with rfl
      exact fun s us ws zs _ h1 h2 h3 => match us, ws, h1, h2, h3 with | [_], [_], _, _, h3 => by cases h3; exact .of_eq rfl)
theorem x_Unresolved {P : Program} {K : PySem.W.Frag} {h : Heap} {mg : Str → Option Value} {C fI cda cc : Addr} {kV doc pm ct ccl cl2 : Value} {an od cdd cld : Option Addr} {osl ccs csl : Array (Option Value)} {vs : Array Value} (xk : XK P K) (X : K.In h) (G : h.Ns mainGlobals mg) (a : PySem.W.nsIn K mainGlobals "Unresolved" = some (some (.ref C))) (ini : PySem.W.excInitIn K C bm_RuntimeError "RuntimeError.__new__" = true) (ovr : PySem.W.excOver K C bm_RuntimeError = true) (hd : PySem.W.hasDictIn K C = true) (sa : PySem.W.findIn K (.ref C) "__setattr__" = some (some (.builtin "object.__setattr__"))) (kC : PySem.W.keepIn K (.ref C) = true) (ga : PySem.W.findIn K (.ref C) "__getattribute__" = some (some (.builtin "BaseException.__getattribute__"))) (gg : PySem.W.findIn K (.ref C) "__getattr__" = some none) (sub : PySem.W.subIn K (.ref C) (.type "BaseException") = some true) (ca : PySem.W.findIn K (.ref C) "__class__" = some (some (.builtin "object.__class__"))) (cm : PySem.W.mroIn K C (.type "object") = some true) (n_names : PySem.W.findIn K (.ref C) "names" = some none) (find : PySem.W.findIn K (.ref C) "__init__" = some (some (.ref fI))) (sup : PySem.W.ks_superIn K C C "__init__" = some (some (.builtin "RuntimeError.__init__"))) (subB : PySem.W.subIn K (.ref C) (.type "RuntimeError") = some true) (mroC : PySem.W.mroIn K C (.ref C) = some true) (hfn : PySem.W.isFn K (.ref fI) = true) (lf : K.lookup fI = some ⟨.type "function", od, .func (PySem.W.ksFn "__init__" "Unresolved.__init__" (defArgs (inTop 26 0)) (defBody (inTop 26 0)) (defScope (inTop 26 0)) .none kV doc pm an (.ref cda) ct cc), osl⟩) (lc : PySem.W.codeIn K (.ref cda) "Unresolved.__init__" = true) (lk : K.lookup cda = some ⟨ccl, cdd, .fields vs, ccs⟩) (file : fileB P vs = true) (lcc : K.lookup cc = some ⟨cl2, cld, .cell (some (.ref C)), csl⟩) : XFC P K mg C xc_Unresolved :=
  xf_own xk X G rfl (by decide) a xb_RuntimeError ini ovr hd sa kC ga gg sub ca cm ⟨n_names, trivial⟩ find sup subB mroC hfn lf lc lk file lcc i_Unresolved (.all fun us hl => match us, hl with | [_, _], _ => rfl) (fun p hp => by
      simp only [xc_Unresolved, List.mem_cons, List.not_mem_nil, or_false] at hp
      rcases hp with rfl
      exact fun s us ws zs _ h1 h2 h3 => match us, ws, h1, h2, h3 with | [_], [_], _, _, h3 => by cases h3; exact .of_eq rfl)
theorem x_OutOfRange {P : Program} {K : PySem.W.Frag} {h : Heap} {mg : Str → Option Value} {C fI cda cc : Addr} {kV doc pm ct ccl cl2 : Value} {an od cdd cld : Option Addr} {osl ccs csl : Array (Option Value)} {vs : Array Value} (xk : XK P K) (X : K.In h) (G : h.Ns mainGlobals mg) (a : PySem.W.nsIn K mainGlobals "OutOfRange" = some (some (.ref C))) (ini : PySem.W.excInitIn K C bm_RuntimeError "RuntimeError.__new__" = true) (ovr : PySem.W.excOver K C bm_RuntimeError = true) (hd : PySem.W.hasDictIn K C = true) (sa : PySem.W.findIn K (.ref C) "__setattr__" = some (some (.builtin "object.__setattr__"))) (kC : PySem.W.keepIn K (.ref C) = true) (ga : PySem.W.findIn K (.ref C) "__getattribute__" = some (some (.builtin "BaseException.__getattribute__"))) (gg : PySem.W.findIn K (.ref C) "__getattr__" = some none) (sub : PySem.W.subIn K (.ref C) (.type "BaseException") = some true) (ca : PySem.W.findIn K (.ref C) "__class__" = some (some (.builtin "object.__class__"))) (cm : PySem.W.mroIn K C (.type "object") = some true) (n_section : PySem.W.findIn K (.ref C) "section" = some none) (n_index : PySem.W.findIn K (.ref C) "index" = some none) (find : PySem.W.findIn K (.ref C) "__init__" = some (some (.ref fI))) (sup : PySem.W.ks_superIn K C C "__init__" = some (some (.builtin "RuntimeError.__init__"))) (subB : PySem.W.subIn K (.ref C) (.type "RuntimeError") = some true) (mroC : PySem.W.mroIn K C (.ref C) = some true) (hfn : PySem.W.isFn K (.ref fI) = true) (lf : K.lookup fI = some ⟨.type "function", od, .func (PySem.W.ksFn "__init__" "OutOfRange.__init__" (defArgs (inTop 27 0)) (defBody (inTop 27 0)) (defScope (inTop 27 0)) .none kV doc pm an (.ref cda) ct cc), osl⟩) (lc : PySem.W.codeIn K (.ref cda) "OutOfRange.__init__" = true) (lk : K.lookup cda = some ⟨ccl, cdd, .fields vs, ccs⟩) (file : fileB P vs = true) (lcc : K.lookup cc = some ⟨cl2, cld, .cell (some (.ref C)), csl⟩) : XFC P K mg C xc_OutOfRange :=
  xf_own xk X G rfl (by decide) a xb_RuntimeError ini ovr hd sa kC ga gg sub ca cm ⟨n_section, n_index, trivial⟩ find sup subB mroC hfn lf lc lk file lcc i_OutOfRange (.all fun us hl => match us, hl with | [_, _, _], _ => rfl) (fun p hp => by
      simp only [xc_OutOfRange, List.mem_cons, List.not_mem_nil, or_false] at hp
      rcases hp with rfl
      exact fun s us ws zs _ h1 h2 h3 => match us, ws, h1, h2, h3 with | [_], [_, _], _, _, h3 => by cases h3; exact .of_eq rfl)
theorem x_NothingLeft {P : Program} {K : PySem.W.Frag} {h : Heap} {mg : Str → Option Value} {C : Addr} (xk : XK P K) (X : K.In h) (G : h.Ns mainGlobals mg) (a : PySem.W.nsIn K mainGlobals "NothingLeft" = some (some (.ref C))) (ini : PySem.W.excInitIn K C bm_RuntimeError "RuntimeError.__new__" = true) (ovr : PySem.W.excOver K C bm_RuntimeError = true) (hd : PySem.W.hasDictIn K C = true) (sa : PySem.W.findIn K (.ref C) "__setattr__" = some (some (.builtin "object.__setattr__"))) (kC : PySem.W.keepIn K (.ref C) = true) (ga : PySem.W.findIn K (.ref C) "__getattribute__" = some (some (.builtin "BaseException.__getattribute__"))) (gg : PySem.W.findIn K (.ref C) "__getattr__" = some none) (sub : PySem.W.subIn K (.ref C) (.type "BaseException") = some true) (ca : PySem.W.findIn K (.ref C) "__class__" = some (some (.builtin "object.__class__"))) (cm : PySem.W.mroIn K C (.type "object") = some true) (find : PySem.W.findIn K (.ref C) "__init__" = some (some (.builtin "RuntimeError.__init__"))) : XFC P K mg C xc_NothingLeft :=
  xf_none xk X G rfl rfl rfl a xb_RuntimeError ini ovr hd sa kC ga gg sub ca cm find
theorem x_TooLarge {P : Program} {K : PySem.W.Frag} {h : Heap} {mg : Str → Option Value} {C fI cda cc : Addr} {kV doc pm ct ccl cl2 : Value} {an od cdd cld : Option Addr} {osl ccs csl : Array (Option Value)} {vs : Array Value} (xk : XK P K) (X : K.In h) (G : h.Ns mainGlobals mg) (a : PySem.W.nsIn K mainGlobals "TooLarge" = some (some (.ref C))) (ini : PySem.W.excInitIn K C bm_OverflowError "OverflowError.__new__" = true) (ovr : PySem.W.excOver K C bm_OverflowError = true) (hd : PySem.W.hasDictIn K C = true) (sa : PySem.W.findIn K (.ref C) "__setattr__" = some (some (.builtin "object.__setattr__"))) (kC : PySem.W.keepIn K (.ref C) = true) (ga : PySem.W.findIn K (.ref C) "__getattribute__" = some (some (.builtin "BaseException.__getattribute__"))) (gg : PySem.W.findIn K (.ref C) "__getattr__" = some none) (sub : PySem.W.subIn K (.ref C) (.type "BaseException") = some true) (ca : PySem.W.findIn K (.ref C) "__class__" = some (some (.builtin "object.__class__"))) (cm : PySem.W.mroIn K C (.type "object") = some true) (n_limit : PySem.W.findIn K (.ref C) "limit" = some none) (find : PySem.W.findIn K (.ref C) "__init__" = some (some (.ref fI))) (sup : PySem.W.ks_superIn K C C "__init__" = some (some (.builtin "OverflowError.__init__"))) (subB : PySem.W.subIn K (.ref C) (.type "OverflowError") = some true) (mroC : PySem.W.mroIn K C (.ref C) = some true) (hfn : PySem.W.isFn K (.ref fI) = true) (lf : K.lookup fI = some ⟨.type "function", od, .func (PySem.W.ksFn "__init__" "TooLarge.__init__" (defArgs (inTop 29 0)) (defBody (inTop 29 0)) (defScope (inTop 29 0)) .none kV doc pm an (.ref cda) ct cc), osl⟩) (lc : PySem.W.codeIn K (.ref cda) "TooLarge.__init__" = true) (lk : K.lookup cda = some ⟨ccl, cdd, .fields vs, ccs⟩) (file : fileB P vs = true) (lcc : K.lookup cc = some ⟨cl2, cld, .cell (some (.ref C)), csl⟩) : XFC P K mg C xc_TooLarge :=
  xf_own xk X G rfl (by decide) a xb_OverflowError ini ovr hd sa kC ga gg sub ca cm ⟨n_limit, trivial⟩ find sup subB mroC hfn lf lc lk file lcc i_TooLarge (.all fun us hl => match us, hl with | [_, _], _ => rfl) (fun p hp => by
      simp only [xc_TooLarge, List.mem_cons, List.not_mem_nil, or_false] at hp
      rcases hp with rfl
      exact fun s us ws zs _ h1 h2 h3 => match us, ws, h1, h2, h3 with | [_], [_], _, _, h3 => by cases h3; exact .of_eq rfl)
theorem m__law_mixed : mSs T f__law_mixed.ns f__law_mixed.own f__law_mixed.body (defScope (top 31)) (defBody (top 31)) = true := by decide +kernel
theorem s__law_mixed : FnScope f__law_mixed.ns f__law_mixed.ps (defScope (top 31)) := scope_of (by decide +kernel)
theorem m__law_stream : mSs T f__law_stream.ns f__law_stream.own f__law_stream.body (defScope (top 32)) (defBody (top 32)) = true := by decide +kernel
theorem s__law_stream : FnScope f__law_stream.ns f__law_stream.ps (defScope (top 32)) := scope_of (by decide +kernel)
theorem m__law_draw : mSs T f__law_draw.ns f__law_draw.own f__law_draw.body (defScope (top 33)) (defBody (top 33)) = true := by decide +kernel
theorem s__law_draw : FnScope f__law_draw.ns f__law_draw.ps (defScope (top 33)) := scope_of (by decide +kernel)
theorem m__law_pick : mSs T f__law_pick.ns f__law_pick.own f__law_pick.body (defScope (top 34)) (defBody (top 34)) = true := by decide +kernel
theorem s__law_pick : FnScope f__law_pick.ns f__law_pick.ps (defScope (top 34)) := scope_of (by decide +kernel)
theorem m__law_made : mSs T f__law_made.ns f__law_made.own f__law_made.body (defScope (top 35)) (defBody (top 35)) = true := by decide +kernel
theorem s__law_made : FnScope f__law_made.ns f__law_made.ps (defScope (top 35)) := scope_of (by decide +kernel)
theorem m__law_named : mSs T f__law_named.ns f__law_named.own f__law_named.body (defScope (top 36)) (defBody (top 36)) = true := by decide +kernel
theorem s__law_named : FnScope f__law_named.ns f__law_named.ps (defScope (top 36)) := scope_of (by decide +kernel)
theorem m__law_kinds : mSs T f__law_kinds.ns f__law_kinds.own f__law_kinds.body (defScope (top 37)) (defBody (top 37)) = true := by decide +kernel
theorem s__law_kinds : FnScope f__law_kinds.ns f__law_kinds.ps (defScope (top 37)) := scope_of (by decide +kernel)
theorem m__law_families : mSs T f__law_families.ns f__law_families.own f__law_families.body (defScope (top 38)) (defBody (top 38)) = true := by decide +kernel
theorem s__law_families : FnScope f__law_families.ns f__law_families.ps (defScope (top 38)) := scope_of (by decide +kernel)
theorem m__law_fields : mSs T f__law_fields.ns f__law_fields.own f__law_fields.body (defScope (top 39)) (defBody (top 39)) = true := by decide +kernel
theorem s__law_fields : FnScope f__law_fields.ns f__law_fields.ps (defScope (top 39)) := scope_of (by decide +kernel)
theorem m__law_right : mSs T f__law_right.ns f__law_right.own f__law_right.body (defScope (top 40)) (defBody (top 40)) = true := by decide +kernel
theorem s__law_right : FnScope f__law_right.ns f__law_right.ps (defScope (top 40)) := scope_of (by decide +kernel)
theorem m_law : mSs T f_law.ns f_law.own f_law.body (defScope (top 41)) (defBody (top 41)) = true := by decide +kernel
theorem s_law : FnScope f_law.ns f_law.ps (defScope (top 41)) := scope_of (by decide +kernel)
theorem kmeta_ValueError : PySem.W.kitMeta "ValueError" = true := by decide +kernel
theorem boot_ValueError : bootBuiltins "ValueError" = some (.type "ValueError") := by decide +kernel
theorem kmeta_LookupError : PySem.W.kitMeta "LookupError" = true := by decide +kernel
theorem boot_LookupError : bootBuiltins "LookupError" = some (.type "LookupError") := by decide +kernel
theorem kmeta_ArithmeticError : PySem.W.kitMeta "ArithmeticError" = true := by decide +kernel
theorem boot_ArithmeticError : bootBuiltins "ArithmeticError" = some (.type "ArithmeticError") := by decide +kernel
theorem kmeta_OverflowError : PySem.W.kitMeta "OverflowError" = true := by decide +kernel
theorem boot_OverflowError : bootBuiltins "OverflowError" = some (.type "OverflowError") := by decide +kernel
theorem kmeta_RuntimeError : PySem.W.kitMeta "RuntimeError" = true := by decide +kernel
theorem boot_RuntimeError : bootBuiltins "RuntimeError" = some (.type "RuntimeError") := by decide +kernel
theorem kmeta_KeyError : PySem.W.kitMeta "KeyError" = true := by decide +kernel
theorem boot_KeyError : bootBuiltins "KeyError" = some (.type "KeyError") := by decide +kernel
theorem kmeta_IndexError : PySem.W.kitMeta "IndexError" = true := by decide +kernel
theorem boot_IndexError : bootBuiltins "IndexError" = some (.type "IndexError") := by decide +kernel
theorem kmeta_NotImplementedError : PySem.W.kitMeta "NotImplementedError" = true := by decide +kernel
theorem boot_NotImplementedError : bootBuiltins "NotImplementedError" = some (.type "NotImplementedError") := by decide +kernel
theorem kmeta_ZeroDivisionError : PySem.W.kitMeta "ZeroDivisionError" = true := by decide +kernel
theorem boot_ZeroDivisionError : bootBuiltins "ZeroDivisionError" = some (.type "ZeroDivisionError") := by decide +kernel
theorem all_mk {P : Program} {K : PySem.W.Frag} {h : Heap} {mg : Str → Option Value} (X : K.In h) (G : h.Ns mainGlobals mg)
    {f0 : Addr} {od0 an0 : Option Addr} {sl0 : Array (Option Value)} {oc0 kV0 dc0 pm0 cd0 ct0 : Value}
    {f1 : Addr} {od1 an1 : Option Addr} {sl1 : Array (Option Value)} {oc1 kV1 dc1 pm1 cd1 ct1 : Value}
    {f2 : Addr} {od2 an2 : Option Addr} {sl2 : Array (Option Value)} {oc2 kV2 dc2 pm2 cd2 ct2 : Value}
    {f3 : Addr} {od3 an3 : Option Addr} {sl3 : Array (Option Value)} {oc3 kV3 dc3 pm3 cd3 ct3 : Value}
    {f4 : Addr} {od4 an4 : Option Addr} {sl4 : Array (Option Value)} {oc4 kV4 dc4 pm4 cd4 ct4 : Value}
    {f5 : Addr} {od5 an5 : Option Addr} {sl5 : Array (Option Value)} {oc5 kV5 dc5 pm5 cd5 ct5 : Value}
    {f6 : Addr} {od6 an6 : Option Addr} {sl6 : Array (Option Value)} {oc6 kV6 dc6 pm6 cd6 ct6 : Value}
    {f7 : Addr} {od7 an7 : Option Addr} {sl7 : Array (Option Value)} {oc7 kV7 dc7 pm7 cd7 ct7 : Value}
    {f8 : Addr} {od8 an8 : Option Addr} {sl8 : Array (Option Value)} {oc8 kV8 dc8 pm8 cd8 ct8 : Value}
    {f9 : Addr} {od9 an9 : Option Addr} {sl9 : Array (Option Value)} {oc9 kV9 dc9 pm9 cd9 ct9 : Value}
    {f10 : Addr} {od10 an10 : Option Addr} {sl10 : Array (Option Value)} {oc10 kV10 dc10 pm10 cd10 ct10 : Value}
    {C0 : Addr} {kd0 : ClassData}
    {C1 : Addr} {kd1 : ClassData}
    {C2 : Addr} {kd2 : ClassData}
    {C3 : Addr} {kd3 : ClassData}
    {C4 : Addr} {kd4 : ClassData}
    {C5 : Addr} {kd5 : ClassData}
    {C6 : Addr} {kd6 : ClassData}
    {C7 : Addr} {kd7 : ClassData}
    {C8 : Addr} {kd8 : ClassData}
    {C9 : Addr} {kd9 : ClassData}
    {C10 : Addr} {kd10 : ClassData}
    {C11 : Addr} {kd11 : ClassData}
    {C12 : Addr} {kd12 : ClassData}
    {C13 : Addr} {kd13 : ClassData}
    {C14 : Addr} {kd14 : ClassData}
    {C15 : Addr} {kd15 : ClassData}
    {C16 : Addr} {kd16 : ClassData}
    {C17 : Addr} {kd17 : ClassData}
    {C18 : Addr} {kd18 : ClassData}
    {C19 : Addr} {kd19 : ClassData}
    {C20 : Addr} {kd20 : ClassData}
    {C21 : Addr} {kd21 : ClassData}
    {C22 : Addr} {kd22 : ClassData}
    {C23 : Addr} {kd23 : ClassData}
    {D_LookupTrouble : Addr} {cdf_LookupTrouble : ClassData}
    {D_ValueTrouble : Addr} {cdf_ValueTrouble : ClassData}
    {D_TextError : Addr} {cdf_TextError : ClassData}
    {D_LimitTrouble : Addr} {cdf_LimitTrouble : ClassData}
    {D_StateTrouble : Addr} {cdf_StateTrouble : ClassData}
    (b0 : PySem.W.nsIn K mainGlobals "enumerate" = some none)
    (b1 : PySem.W.nsIn K mainGlobals "int" = some none)
    (b2 : PySem.W.nsIn K mainGlobals "isinstance" = some none)
    (b3 : PySem.W.nsIn K mainGlobals "len" = some none)
    (b4 : PySem.W.nsIn K mainGlobals "range" = some none)
    (b5 : PySem.W.nsIn K mainGlobals "repr" = some none)
    (a0 : PySem.W.nsIn K mainGlobals "_law_mixed" = some (some (.ref f0))) (l0 : K.lookup f0 = some ⟨oc0, od0, .func (PySem.W.fnOf "_law_mixed" "_law_mixed" (defArgs (top 31)) (defBody (top 31)) (defScope (top 31)) .none kV0 dc0 pm0 an0 cd0 ct0), sl0⟩) (c0 : PySem.W.codeIn K cd0 "_law_mixed" = true) (k0 : PySem.W.keepIn K (.ref f0) = true)
    (a1 : PySem.W.nsIn K mainGlobals "_law_stream" = some (some (.ref f1))) (l1 : K.lookup f1 = some ⟨oc1, od1, .func (PySem.W.fnOf "_law_stream" "_law_stream" (defArgs (top 32)) (defBody (top 32)) (defScope (top 32)) .none kV1 dc1 pm1 an1 cd1 ct1), sl1⟩) (c1 : PySem.W.codeIn K cd1 "_law_stream" = true) (k1 : PySem.W.keepIn K (.ref f1) = true)
    (a2 : PySem.W.nsIn K mainGlobals "_law_draw" = some (some (.ref f2))) (l2 : K.lookup f2 = some ⟨oc2, od2, .func (PySem.W.fnOf "_law_draw" "_law_draw" (defArgs (top 33)) (defBody (top 33)) (defScope (top 33)) .none kV2 dc2 pm2 an2 cd2 ct2), sl2⟩) (c2 : PySem.W.codeIn K cd2 "_law_draw" = true) (k2 : PySem.W.keepIn K (.ref f2) = true)
    (a3 : PySem.W.nsIn K mainGlobals "_law_pick" = some (some (.ref f3))) (l3 : K.lookup f3 = some ⟨oc3, od3, .func (PySem.W.fnOf "_law_pick" "_law_pick" (defArgs (top 34)) (defBody (top 34)) (defScope (top 34)) .none kV3 dc3 pm3 an3 cd3 ct3), sl3⟩) (c3 : PySem.W.codeIn K cd3 "_law_pick" = true) (k3 : PySem.W.keepIn K (.ref f3) = true)
    (a4 : PySem.W.nsIn K mainGlobals "_law_made" = some (some (.ref f4))) (l4 : K.lookup f4 = some ⟨oc4, od4, .func (PySem.W.fnOf "_law_made" "_law_made" (defArgs (top 35)) (defBody (top 35)) (defScope (top 35)) .none kV4 dc4 pm4 an4 cd4 ct4), sl4⟩) (c4 : PySem.W.codeIn K cd4 "_law_made" = true) (k4 : PySem.W.keepIn K (.ref f4) = true)
    (a5 : PySem.W.nsIn K mainGlobals "_law_named" = some (some (.ref f5))) (l5 : K.lookup f5 = some ⟨oc5, od5, .func (PySem.W.fnOf "_law_named" "_law_named" (defArgs (top 36)) (defBody (top 36)) (defScope (top 36)) .none kV5 dc5 pm5 an5 cd5 ct5), sl5⟩) (c5 : PySem.W.codeIn K cd5 "_law_named" = true) (k5 : PySem.W.keepIn K (.ref f5) = true)
    (a6 : PySem.W.nsIn K mainGlobals "_law_kinds" = some (some (.ref f6))) (l6 : K.lookup f6 = some ⟨oc6, od6, .func (PySem.W.fnOf "_law_kinds" "_law_kinds" (defArgs (top 37)) (defBody (top 37)) (defScope (top 37)) .none kV6 dc6 pm6 an6 cd6 ct6), sl6⟩) (c6 : PySem.W.codeIn K cd6 "_law_kinds" = true) (k6 : PySem.W.keepIn K (.ref f6) = true)
    (a7 : PySem.W.nsIn K mainGlobals "_law_families" = some (some (.ref f7))) (l7 : K.lookup f7 = some ⟨oc7, od7, .func (PySem.W.fnOf "_law_families" "_law_families" (defArgs (top 38)) (defBody (top 38)) (defScope (top 38)) .none kV7 dc7 pm7 an7 cd7 ct7), sl7⟩) (c7 : PySem.W.codeIn K cd7 "_law_families" = true) (k7 : PySem.W.keepIn K (.ref f7) = true)
    (a8 : PySem.W.nsIn K mainGlobals "_law_fields" = some (some (.ref f8))) (l8 : K.lookup f8 = some ⟨oc8, od8, .func (PySem.W.fnOf "_law_fields" "_law_fields" (defArgs (top 39)) (defBody (top 39)) (defScope (top 39)) .none kV8 dc8 pm8 an8 cd8 ct8), sl8⟩) (c8 : PySem.W.codeIn K cd8 "_law_fields" = true) (k8 : PySem.W.keepIn K (.ref f8) = true)
    (a9 : PySem.W.nsIn K mainGlobals "_law_right" = some (some (.ref f9))) (l9 : K.lookup f9 = some ⟨oc9, od9, .func (PySem.W.fnOf "_law_right" "_law_right" (defArgs (top 40)) (defBody (top 40)) (defScope (top 40)) .none kV9 dc9 pm9 an9 cd9 ct9), sl9⟩) (c9 : PySem.W.codeIn K cd9 "_law_right" = true) (k9 : PySem.W.keepIn K (.ref f9) = true)
    (a10 : PySem.W.nsIn K mainGlobals "law" = some (some (.ref f10))) (l10 : K.lookup f10 = some ⟨oc10, od10, .func (PySem.W.fnOf "law" "law" (defArgs (top 41)) (defBody (top 41)) (defScope (top 41)) .none kV10 dc10 pm10 an10 cd10 ct10), sl10⟩) (c10 : PySem.W.codeIn K cd10 "law" = true) (k10 : PySem.W.keepIn K (.ref f10) = true)
    (sup : PySem.W.nsIn K mainGlobals "super" = some none)
    (x0 : XFC P K mg C0 xc_Trouble) (m0 : PySem.W.clsIn K C0 = some kd0)
    (x1 : XFC P K mg C1 xc_BadLine) (m1 : PySem.W.clsIn K C1 = some kd1)
    (x2 : XFC P K mg C2 xc_BadName) (m2 : PySem.W.clsIn K C2 = some kd2)
    (x3 : XFC P K mg C3 xc_BadOperands) (m3 : PySem.W.clsIn K C3 = some kd3)
    (x4 : XFC P K mg C4 xc_BadBlock) (m4 : PySem.W.clsIn K C4 = some kd4)
    (x5 : XFC P K mg C5 xc_BadCall) (m5 : PySem.W.clsIn K C5 = some kd5)
    (x6 : XFC P K mg C6 xc_BadText) (m6 : PySem.W.clsIn K C6 = some kd6)
    (x7 : XFC P K mg C7 xc_BadTable) (m7 : PySem.W.clsIn K C7 = some kd7)
    (x8 : XFC P K mg C8 xc_BadNumber) (m8 : PySem.W.clsIn K C8 = some kd8)
    (x9 : XFC P K mg C9 xc_BadObject) (m9 : PySem.W.clsIn K C9 = some kd9)
    (x10 : XFC P K mg C10 xc_BadTree) (m10 : PySem.W.clsIn K C10 = some kd10)
    (x11 : XFC P K mg C11 xc_NotPlain) (m11 : PySem.W.clsIn K C11 = some kd11)
    (x12 : XFC P K mg C12 xc_DividedByZero) (m12 : PySem.W.clsIn K C12 = some kd12)
    (x13 : XFC P K mg C13 xc_BadShift) (m13 : PySem.W.clsIn K C13 = some kd13)
    (x14 : XFC P K mg C14 xc_NoName) (m14 : PySem.W.clsIn K C14 = some kd14)
    (x15 : XFC P K mg C15 xc_NoInstruction) (m15 : PySem.W.clsIn K C15 = some kd15)
    (x16 : XFC P K mg C16 xc_NoOrigin) (m16 : PySem.W.clsIn K C16 = some kd16)
    (x17 : XFC P K mg C17 xc_Ring) (m17 : PySem.W.clsIn K C17 = some kd17)
    (x18 : XFC P K mg C18 xc_Cycle) (m18 : PySem.W.clsIn K C18 = some kd18)
    (x19 : XFC P K mg C19 xc_Taken) (m19 : PySem.W.clsIn K C19 = some kd19)
    (x20 : XFC P K mg C20 xc_Unresolved) (m20 : PySem.W.clsIn K C20 = some kd20)
    (x21 : XFC P K mg C21 xc_OutOfRange) (m21 : PySem.W.clsIn K C21 = some kd21)
    (x22 : XFC P K mg C22 xc_NothingLeft) (m22 : PySem.W.clsIn K C22 = some kd22)
    (x23 : XFC P K mg C23 xc_TooLarge) (m23 : PySem.W.clsIn K C23 = some kd23)
    (tb : tabB [(C0, kd0.mro), (C1, kd1.mro), (C2, kd2.mro), (C3, kd3.mro), (C4, kd4.mro), (C5, kd5.mro), (C6, kd6.mro), (C7, kd7.mro), (C8, kd8.mro), (C9, kd9.mro), (C10, kd10.mro), (C11, kd11.mro), (C12, kd12.mro), (C13, kd13.mro), (C14, kd14.mro), (C15, kd15.mro), (C16, kd16.mro), (C17, kd17.mro), (C18, kd18.mro), (C19, kd19.mro), (C20, kd20.mro), (C21, kd21.mro), (C22, kd22.mro), (C23, kd23.mro)] = true)
    (ty_BadOperands : PySem.W.typeIn K (.ref C3) = some (.type "type")) (an_BadOperands : PySem.W.nsIn K mainGlobals "BadOperands" = some (some (.ref C3)))
    (ty_BadName : PySem.W.typeIn K (.ref C2) = some (.type "type")) (an_BadName : PySem.W.nsIn K mainGlobals "BadName" = some (some (.ref C2)))
    (ty_BadLine : PySem.W.typeIn K (.ref C1) = some (.type "type")) (an_BadLine : PySem.W.nsIn K mainGlobals "BadLine" = some (some (.ref C1)))
    (ty_BadText : PySem.W.typeIn K (.ref C6) = some (.type "type")) (an_BadText : PySem.W.nsIn K mainGlobals "BadText" = some (some (.ref C6)))
    (ty_BadCall : PySem.W.typeIn K (.ref C5) = some (.type "type")) (an_BadCall : PySem.W.nsIn K mainGlobals "BadCall" = some (some (.ref C5)))
    (ty_BadBlock : PySem.W.typeIn K (.ref C4) = some (.type "type")) (an_BadBlock : PySem.W.nsIn K mainGlobals "BadBlock" = some (some (.ref C4)))
    (ty_BadObject : PySem.W.typeIn K (.ref C9) = some (.type "type")) (an_BadObject : PySem.W.nsIn K mainGlobals "BadObject" = some (some (.ref C9)))
    (ty_BadNumber : PySem.W.typeIn K (.ref C8) = some (.type "type")) (an_BadNumber : PySem.W.nsIn K mainGlobals "BadNumber" = some (some (.ref C8)))
    (ty_BadTable : PySem.W.typeIn K (.ref C7) = some (.type "type")) (an_BadTable : PySem.W.nsIn K mainGlobals "BadTable" = some (some (.ref C7)))
    (ty_DividedByZero : PySem.W.typeIn K (.ref C12) = some (.type "type")) (an_DividedByZero : PySem.W.nsIn K mainGlobals "DividedByZero" = some (some (.ref C12)))
    (ty_NotPlain : PySem.W.typeIn K (.ref C11) = some (.type "type")) (an_NotPlain : PySem.W.nsIn K mainGlobals "NotPlain" = some (some (.ref C11)))
    (ty_BadTree : PySem.W.typeIn K (.ref C10) = some (.type "type")) (an_BadTree : PySem.W.nsIn K mainGlobals "BadTree" = some (some (.ref C10)))
    (ty_NoInstruction : PySem.W.typeIn K (.ref C15) = some (.type "type")) (an_NoInstruction : PySem.W.nsIn K mainGlobals "NoInstruction" = some (some (.ref C15)))
    (ty_NoName : PySem.W.typeIn K (.ref C14) = some (.type "type")) (an_NoName : PySem.W.nsIn K mainGlobals "NoName" = some (some (.ref C14)))
    (ty_BadShift : PySem.W.typeIn K (.ref C13) = some (.type "type")) (an_BadShift : PySem.W.nsIn K mainGlobals "BadShift" = some (some (.ref C13)))
    (ty_Cycle : PySem.W.typeIn K (.ref C18) = some (.type "type")) (an_Cycle : PySem.W.nsIn K mainGlobals "Cycle" = some (some (.ref C18)))
    (ty_Ring : PySem.W.typeIn K (.ref C17) = some (.type "type")) (an_Ring : PySem.W.nsIn K mainGlobals "Ring" = some (some (.ref C17)))
    (ty_NoOrigin : PySem.W.typeIn K (.ref C16) = some (.type "type")) (an_NoOrigin : PySem.W.nsIn K mainGlobals "NoOrigin" = some (some (.ref C16)))
    (ty_OutOfRange : PySem.W.typeIn K (.ref C21) = some (.type "type")) (an_OutOfRange : PySem.W.nsIn K mainGlobals "OutOfRange" = some (some (.ref C21)))
    (ty_Unresolved : PySem.W.typeIn K (.ref C20) = some (.type "type")) (an_Unresolved : PySem.W.nsIn K mainGlobals "Unresolved" = some (some (.ref C20)))
    (ty_Taken : PySem.W.typeIn K (.ref C19) = some (.type "type")) (an_Taken : PySem.W.nsIn K mainGlobals "Taken" = some (some (.ref C19)))
    (ty_Trouble : PySem.W.typeIn K (.ref C0) = some (.type "type")) (an_Trouble : PySem.W.nsIn K mainGlobals "Trouble" = some (some (.ref C0)))
    (ty_TooLarge : PySem.W.typeIn K (.ref C23) = some (.type "type")) (an_TooLarge : PySem.W.nsIn K mainGlobals "TooLarge" = some (some (.ref C23)))
    (ty_NothingLeft : PySem.W.typeIn K (.ref C22) = some (.type "type")) (an_NothingLeft : PySem.W.nsIn K mainGlobals "NothingLeft" = some (some (.ref C22)))
    (an_LookupTrouble : PySem.W.nsIn K mainGlobals "LookupTrouble" = some (some (.ref D_LookupTrouble))) (cf_LookupTrouble : PySem.W.clsIn K D_LookupTrouble = some cdf_LookupTrouble) (ty_LookupTrouble : PySem.W.typeIn K (.ref D_LookupTrouble) = some (.type "type"))
    (an_ValueTrouble : PySem.W.nsIn K mainGlobals "ValueTrouble" = some (some (.ref D_ValueTrouble))) (cf_ValueTrouble : PySem.W.clsIn K D_ValueTrouble = some cdf_ValueTrouble) (ty_ValueTrouble : PySem.W.typeIn K (.ref D_ValueTrouble) = some (.type "type"))
    (an_TextError : PySem.W.nsIn K mainGlobals "TextError" = some (some (.ref D_TextError))) (cf_TextError : PySem.W.clsIn K D_TextError = some cdf_TextError) (ty_TextError : PySem.W.typeIn K (.ref D_TextError) = some (.type "type"))
    (an_LimitTrouble : PySem.W.nsIn K mainGlobals "LimitTrouble" = some (some (.ref D_LimitTrouble))) (cf_LimitTrouble : PySem.W.clsIn K D_LimitTrouble = some cdf_LimitTrouble) (ty_LimitTrouble : PySem.W.typeIn K (.ref D_LimitTrouble) = some (.type "type"))
    (an_StateTrouble : PySem.W.nsIn K mainGlobals "StateTrouble" = some (some (.ref D_StateTrouble))) (cf_StateTrouble : PySem.W.clsIn K D_StateTrouble = some cdf_StateTrouble) (ty_StateTrouble : PySem.W.typeIn K (.ref D_StateTrouble) = some (.type "type"))
    (nb_ValueError : PySem.W.nsIn K mainGlobals "ValueError" = some none)
    (nb_LookupError : PySem.W.nsIn K mainGlobals "LookupError" = some none)
    (nb_ArithmeticError : PySem.W.nsIn K mainGlobals "ArithmeticError" = some none)
    (nb_OverflowError : PySem.W.nsIn K mainGlobals "OverflowError" = some none)
    (nb_RuntimeError : PySem.W.nsIn K mainGlobals "RuntimeError" = some none)
    (nb_KeyError : PySem.W.nsIn K mainGlobals "KeyError" = some none)
    (nb_IndexError : PySem.W.nsIn K mainGlobals "IndexError" = some none)
    (nb_NotImplementedError : PySem.W.nsIn K mainGlobals "NotImplementedError" = some none)
    (nb_ZeroDivisionError : PySem.W.nsIn K mainGlobals "ZeroDivisionError" = some none)
    (q0 : isxB [(C0, kd0.mro), (C1, kd1.mro), (C2, kd2.mro), (C3, kd3.mro), (C4, kd4.mro), (C5, kd5.mro), (C6, kd6.mro), (C7, kd7.mro), (C8, kd8.mro), (C9, kd9.mro), (C10, kd10.mro), (C11, kd11.mro), (C12, kd12.mro), (C13, kd13.mro), (C14, kd14.mro), (C15, kd15.mro), (C16, kd16.mro), (C17, kd17.mro), (C18, kd18.mro), (C19, kd19.mro), (C20, kd20.mro), (C21, kd21.mro), (C22, kd22.mro), (C23, kd23.mro)] [(.ref C3)] [3] [0, 1, 2, 4, 5, 6, 7, 8, 9, 10, 11, 12, 13, 14, 15, 16, 17, 18, 19, 20, 21, 22, 23] = true)
    (q1 : isxB [(C0, kd0.mro), (C1, kd1.mro), (C2, kd2.mro), (C3, kd3.mro), (C4, kd4.mro), (C5, kd5.mro), (C6, kd6.mro), (C7, kd7.mro), (C8, kd8.mro), (C9, kd9.mro), (C10, kd10.mro), (C11, kd11.mro), (C12, kd12.mro), (C13, kd13.mro), (C14, kd14.mro), (C15, kd15.mro), (C16, kd16.mro), (C17, kd17.mro), (C18, kd18.mro), (C19, kd19.mro), (C20, kd20.mro), (C21, kd21.mro), (C22, kd22.mro), (C23, kd23.mro)] [(.ref C2)] [2] [0, 1, 3, 4, 5, 6, 7, 8, 9, 10, 11, 12, 13, 14, 15, 16, 17, 18, 19, 20, 21, 22, 23] = true)
    (q2 : isxB [(C0, kd0.mro), (C1, kd1.mro), (C2, kd2.mro), (C3, kd3.mro), (C4, kd4.mro), (C5, kd5.mro), (C6, kd6.mro), (C7, kd7.mro), (C8, kd8.mro), (C9, kd9.mro), (C10, kd10.mro), (C11, kd11.mro), (C12, kd12.mro), (C13, kd13.mro), (C14, kd14.mro), (C15, kd15.mro), (C16, kd16.mro), (C17, kd17.mro), (C18, kd18.mro), (C19, kd19.mro), (C20, kd20.mro), (C21, kd21.mro), (C22, kd22.mro), (C23, kd23.mro)] [(.ref C1)] [1] [0, 2, 3, 4, 5, 6, 7, 8, 9, 10, 11, 12, 13, 14, 15, 16, 17, 18, 19, 20, 21, 22, 23] = true)
    (q3 : isxB [(C0, kd0.mro), (C1, kd1.mro), (C2, kd2.mro), (C3, kd3.mro), (C4, kd4.mro), (C5, kd5.mro), (C6, kd6.mro), (C7, kd7.mro), (C8, kd8.mro), (C9, kd9.mro), (C10, kd10.mro), (C11, kd11.mro), (C12, kd12.mro), (C13, kd13.mro), (C14, kd14.mro), (C15, kd15.mro), (C16, kd16.mro), (C17, kd17.mro), (C18, kd18.mro), (C19, kd19.mro), (C20, kd20.mro), (C21, kd21.mro), (C22, kd22.mro), (C23, kd23.mro)] [(.ref C6)] [6] [0, 1, 2, 3, 4, 5, 7, 8, 9, 10, 11, 12, 13, 14, 15, 16, 17, 18, 19, 20, 21, 22, 23] = true)
    (q4 : isxB [(C0, kd0.mro), (C1, kd1.mro), (C2, kd2.mro), (C3, kd3.mro), (C4, kd4.mro), (C5, kd5.mro), (C6, kd6.mro), (C7, kd7.mro), (C8, kd8.mro), (C9, kd9.mro), (C10, kd10.mro), (C11, kd11.mro), (C12, kd12.mro), (C13, kd13.mro), (C14, kd14.mro), (C15, kd15.mro), (C16, kd16.mro), (C17, kd17.mro), (C18, kd18.mro), (C19, kd19.mro), (C20, kd20.mro), (C21, kd21.mro), (C22, kd22.mro), (C23, kd23.mro)] [(.ref C5)] [5] [0, 1, 2, 3, 4, 6, 7, 8, 9, 10, 11, 12, 13, 14, 15, 16, 17, 18, 19, 20, 21, 22, 23] = true)
    (q5 : isxB [(C0, kd0.mro), (C1, kd1.mro), (C2, kd2.mro), (C3, kd3.mro), (C4, kd4.mro), (C5, kd5.mro), (C6, kd6.mro), (C7, kd7.mro), (C8, kd8.mro), (C9, kd9.mro), (C10, kd10.mro), (C11, kd11.mro), (C12, kd12.mro), (C13, kd13.mro), (C14, kd14.mro), (C15, kd15.mro), (C16, kd16.mro), (C17, kd17.mro), (C18, kd18.mro), (C19, kd19.mro), (C20, kd20.mro), (C21, kd21.mro), (C22, kd22.mro), (C23, kd23.mro)] [(.ref C4)] [4] [0, 1, 2, 3, 5, 6, 7, 8, 9, 10, 11, 12, 13, 14, 15, 16, 17, 18, 19, 20, 21, 22, 23] = true)
    (q6 : isxB [(C0, kd0.mro), (C1, kd1.mro), (C2, kd2.mro), (C3, kd3.mro), (C4, kd4.mro), (C5, kd5.mro), (C6, kd6.mro), (C7, kd7.mro), (C8, kd8.mro), (C9, kd9.mro), (C10, kd10.mro), (C11, kd11.mro), (C12, kd12.mro), (C13, kd13.mro), (C14, kd14.mro), (C15, kd15.mro), (C16, kd16.mro), (C17, kd17.mro), (C18, kd18.mro), (C19, kd19.mro), (C20, kd20.mro), (C21, kd21.mro), (C22, kd22.mro), (C23, kd23.mro)] [(.ref C9)] [9] [0, 1, 2, 3, 4, 5, 6, 7, 8, 10, 11, 12, 13, 14, 15, 16, 17, 18, 19, 20, 21, 22, 23] = true)
    (q7 : isxB [(C0, kd0.mro), (C1, kd1.mro), (C2, kd2.mro), (C3, kd3.mro), (C4, kd4.mro), (C5, kd5.mro), (C6, kd6.mro), (C7, kd7.mro), (C8, kd8.mro), (C9, kd9.mro), (C10, kd10.mro), (C11, kd11.mro), (C12, kd12.mro), (C13, kd13.mro), (C14, kd14.mro), (C15, kd15.mro), (C16, kd16.mro), (C17, kd17.mro), (C18, kd18.mro), (C19, kd19.mro), (C20, kd20.mro), (C21, kd21.mro), (C22, kd22.mro), (C23, kd23.mro)] [(.ref C8)] [8] [0, 1, 2, 3, 4, 5, 6, 7, 9, 10, 11, 12, 13, 14, 15, 16, 17, 18, 19, 20, 21, 22, 23] = true)
    (q8 : isxB [(C0, kd0.mro), (C1, kd1.mro), (C2, kd2.mro), (C3, kd3.mro), (C4, kd4.mro), (C5, kd5.mro), (C6, kd6.mro), (C7, kd7.mro), (C8, kd8.mro), (C9, kd9.mro), (C10, kd10.mro), (C11, kd11.mro), (C12, kd12.mro), (C13, kd13.mro), (C14, kd14.mro), (C15, kd15.mro), (C16, kd16.mro), (C17, kd17.mro), (C18, kd18.mro), (C19, kd19.mro), (C20, kd20.mro), (C21, kd21.mro), (C22, kd22.mro), (C23, kd23.mro)] [(.ref C7)] [7] [0, 1, 2, 3, 4, 5, 6, 8, 9, 10, 11, 12, 13, 14, 15, 16, 17, 18, 19, 20, 21, 22, 23] = true)
    (q9 : isxB [(C0, kd0.mro), (C1, kd1.mro), (C2, kd2.mro), (C3, kd3.mro), (C4, kd4.mro), (C5, kd5.mro), (C6, kd6.mro), (C7, kd7.mro), (C8, kd8.mro), (C9, kd9.mro), (C10, kd10.mro), (C11, kd11.mro), (C12, kd12.mro), (C13, kd13.mro), (C14, kd14.mro), (C15, kd15.mro), (C16, kd16.mro), (C17, kd17.mro), (C18, kd18.mro), (C19, kd19.mro), (C20, kd20.mro), (C21, kd21.mro), (C22, kd22.mro), (C23, kd23.mro)] [(.ref C12)] [12] [0, 1, 2, 3, 4, 5, 6, 7, 8, 9, 10, 11, 13, 14, 15, 16, 17, 18, 19, 20, 21, 22, 23] = true)
    (q10 : isxB [(C0, kd0.mro), (C1, kd1.mro), (C2, kd2.mro), (C3, kd3.mro), (C4, kd4.mro), (C5, kd5.mro), (C6, kd6.mro), (C7, kd7.mro), (C8, kd8.mro), (C9, kd9.mro), (C10, kd10.mro), (C11, kd11.mro), (C12, kd12.mro), (C13, kd13.mro), (C14, kd14.mro), (C15, kd15.mro), (C16, kd16.mro), (C17, kd17.mro), (C18, kd18.mro), (C19, kd19.mro), (C20, kd20.mro), (C21, kd21.mro), (C22, kd22.mro), (C23, kd23.mro)] [(.ref C11)] [11] [0, 1, 2, 3, 4, 5, 6, 7, 8, 9, 10, 12, 13, 14, 15, 16, 17, 18, 19, 20, 21, 22, 23] = true)
    (q11 : isxB [(C0, kd0.mro), (C1, kd1.mro), (C2, kd2.mro), (C3, kd3.mro), (C4, kd4.mro), (C5, kd5.mro), (C6, kd6.mro), (C7, kd7.mro), (C8, kd8.mro), (C9, kd9.mro), (C10, kd10.mro), (C11, kd11.mro), (C12, kd12.mro), (C13, kd13.mro), (C14, kd14.mro), (C15, kd15.mro), (C16, kd16.mro), (C17, kd17.mro), (C18, kd18.mro), (C19, kd19.mro), (C20, kd20.mro), (C21, kd21.mro), (C22, kd22.mro), (C23, kd23.mro)] [(.ref C10)] [10] [0, 1, 2, 3, 4, 5, 6, 7, 8, 9, 11, 12, 13, 14, 15, 16, 17, 18, 19, 20, 21, 22, 23] = true)
    (q12 : isxB [(C0, kd0.mro), (C1, kd1.mro), (C2, kd2.mro), (C3, kd3.mro), (C4, kd4.mro), (C5, kd5.mro), (C6, kd6.mro), (C7, kd7.mro), (C8, kd8.mro), (C9, kd9.mro), (C10, kd10.mro), (C11, kd11.mro), (C12, kd12.mro), (C13, kd13.mro), (C14, kd14.mro), (C15, kd15.mro), (C16, kd16.mro), (C17, kd17.mro), (C18, kd18.mro), (C19, kd19.mro), (C20, kd20.mro), (C21, kd21.mro), (C22, kd22.mro), (C23, kd23.mro)] [(.ref C15)] [15] [0, 1, 2, 3, 4, 5, 6, 7, 8, 9, 10, 11, 12, 13, 14, 16, 17, 18, 19, 20, 21, 22, 23] = true)
    (q13 : isxB [(C0, kd0.mro), (C1, kd1.mro), (C2, kd2.mro), (C3, kd3.mro), (C4, kd4.mro), (C5, kd5.mro), (C6, kd6.mro), (C7, kd7.mro), (C8, kd8.mro), (C9, kd9.mro), (C10, kd10.mro), (C11, kd11.mro), (C12, kd12.mro), (C13, kd13.mro), (C14, kd14.mro), (C15, kd15.mro), (C16, kd16.mro), (C17, kd17.mro), (C18, kd18.mro), (C19, kd19.mro), (C20, kd20.mro), (C21, kd21.mro), (C22, kd22.mro), (C23, kd23.mro)] [(.ref C14)] [14] [0, 1, 2, 3, 4, 5, 6, 7, 8, 9, 10, 11, 12, 13, 15, 16, 17, 18, 19, 20, 21, 22, 23] = true)
    (q14 : isxB [(C0, kd0.mro), (C1, kd1.mro), (C2, kd2.mro), (C3, kd3.mro), (C4, kd4.mro), (C5, kd5.mro), (C6, kd6.mro), (C7, kd7.mro), (C8, kd8.mro), (C9, kd9.mro), (C10, kd10.mro), (C11, kd11.mro), (C12, kd12.mro), (C13, kd13.mro), (C14, kd14.mro), (C15, kd15.mro), (C16, kd16.mro), (C17, kd17.mro), (C18, kd18.mro), (C19, kd19.mro), (C20, kd20.mro), (C21, kd21.mro), (C22, kd22.mro), (C23, kd23.mro)] [(.ref C13)] [13] [0, 1, 2, 3, 4, 5, 6, 7, 8, 9, 10, 11, 12, 14, 15, 16, 17, 18, 19, 20, 21, 22, 23] = true)
    (q15 : isxB [(C0, kd0.mro), (C1, kd1.mro), (C2, kd2.mro), (C3, kd3.mro), (C4, kd4.mro), (C5, kd5.mro), (C6, kd6.mro), (C7, kd7.mro), (C8, kd8.mro), (C9, kd9.mro), (C10, kd10.mro), (C11, kd11.mro), (C12, kd12.mro), (C13, kd13.mro), (C14, kd14.mro), (C15, kd15.mro), (C16, kd16.mro), (C17, kd17.mro), (C18, kd18.mro), (C19, kd19.mro), (C20, kd20.mro), (C21, kd21.mro), (C22, kd22.mro), (C23, kd23.mro)] [(.ref C18)] [18] [0, 1, 2, 3, 4, 5, 6, 7, 8, 9, 10, 11, 12, 13, 14, 15, 16, 17, 19, 20, 21, 22, 23] = true)
    (q16 : isxB [(C0, kd0.mro), (C1, kd1.mro), (C2, kd2.mro), (C3, kd3.mro), (C4, kd4.mro), (C5, kd5.mro), (C6, kd6.mro), (C7, kd7.mro), (C8, kd8.mro), (C9, kd9.mro), (C10, kd10.mro), (C11, kd11.mro), (C12, kd12.mro), (C13, kd13.mro), (C14, kd14.mro), (C15, kd15.mro), (C16, kd16.mro), (C17, kd17.mro), (C18, kd18.mro), (C19, kd19.mro), (C20, kd20.mro), (C21, kd21.mro), (C22, kd22.mro), (C23, kd23.mro)] [(.ref C17)] [17] [0, 1, 2, 3, 4, 5, 6, 7, 8, 9, 10, 11, 12, 13, 14, 15, 16, 18, 19, 20, 21, 22, 23] = true)
    (q17 : isxB [(C0, kd0.mro), (C1, kd1.mro), (C2, kd2.mro), (C3, kd3.mro), (C4, kd4.mro), (C5, kd5.mro), (C6, kd6.mro), (C7, kd7.mro), (C8, kd8.mro), (C9, kd9.mro), (C10, kd10.mro), (C11, kd11.mro), (C12, kd12.mro), (C13, kd13.mro), (C14, kd14.mro), (C15, kd15.mro), (C16, kd16.mro), (C17, kd17.mro), (C18, kd18.mro), (C19, kd19.mro), (C20, kd20.mro), (C21, kd21.mro), (C22, kd22.mro), (C23, kd23.mro)] [(.ref C16)] [16] [0, 1, 2, 3, 4, 5, 6, 7, 8, 9, 10, 11, 12, 13, 14, 15, 17, 18, 19, 20, 21, 22, 23] = true)
    (q18 : isxB [(C0, kd0.mro), (C1, kd1.mro), (C2, kd2.mro), (C3, kd3.mro), (C4, kd4.mro), (C5, kd5.mro), (C6, kd6.mro), (C7, kd7.mro), (C8, kd8.mro), (C9, kd9.mro), (C10, kd10.mro), (C11, kd11.mro), (C12, kd12.mro), (C13, kd13.mro), (C14, kd14.mro), (C15, kd15.mro), (C16, kd16.mro), (C17, kd17.mro), (C18, kd18.mro), (C19, kd19.mro), (C20, kd20.mro), (C21, kd21.mro), (C22, kd22.mro), (C23, kd23.mro)] [(.ref C21)] [21] [0, 1, 2, 3, 4, 5, 6, 7, 8, 9, 10, 11, 12, 13, 14, 15, 16, 17, 18, 19, 20, 22, 23] = true)
    (q19 : isxB [(C0, kd0.mro), (C1, kd1.mro), (C2, kd2.mro), (C3, kd3.mro), (C4, kd4.mro), (C5, kd5.mro), (C6, kd6.mro), (C7, kd7.mro), (C8, kd8.mro), (C9, kd9.mro), (C10, kd10.mro), (C11, kd11.mro), (C12, kd12.mro), (C13, kd13.mro), (C14, kd14.mro), (C15, kd15.mro), (C16, kd16.mro), (C17, kd17.mro), (C18, kd18.mro), (C19, kd19.mro), (C20, kd20.mro), (C21, kd21.mro), (C22, kd22.mro), (C23, kd23.mro)] [(.ref C20)] [20] [0, 1, 2, 3, 4, 5, 6, 7, 8, 9, 10, 11, 12, 13, 14, 15, 16, 17, 18, 19, 21, 22, 23] = true)
    (q20 : isxB [(C0, kd0.mro), (C1, kd1.mro), (C2, kd2.mro), (C3, kd3.mro), (C4, kd4.mro), (C5, kd5.mro), (C6, kd6.mro), (C7, kd7.mro), (C8, kd8.mro), (C9, kd9.mro), (C10, kd10.mro), (C11, kd11.mro), (C12, kd12.mro), (C13, kd13.mro), (C14, kd14.mro), (C15, kd15.mro), (C16, kd16.mro), (C17, kd17.mro), (C18, kd18.mro), (C19, kd19.mro), (C20, kd20.mro), (C21, kd21.mro), (C22, kd22.mro), (C23, kd23.mro)] [(.ref C19)] [19] [0, 1, 2, 3, 4, 5, 6, 7, 8, 9, 10, 11, 12, 13, 14, 15, 16, 17, 18, 20, 21, 22, 23] = true)
    (q21 : isxB [(C0, kd0.mro), (C1, kd1.mro), (C2, kd2.mro), (C3, kd3.mro), (C4, kd4.mro), (C5, kd5.mro), (C6, kd6.mro), (C7, kd7.mro), (C8, kd8.mro), (C9, kd9.mro), (C10, kd10.mro), (C11, kd11.mro), (C12, kd12.mro), (C13, kd13.mro), (C14, kd14.mro), (C15, kd15.mro), (C16, kd16.mro), (C17, kd17.mro), (C18, kd18.mro), (C19, kd19.mro), (C20, kd20.mro), (C21, kd21.mro), (C22, kd22.mro), (C23, kd23.mro)] [(.ref C0)] [0] [1, 2, 3, 4, 5, 6, 7, 8, 9, 10, 11, 12, 13, 14, 15, 16, 17, 18, 19, 20, 21, 22, 23] = true)
    (q22 : isxB [(C0, kd0.mro), (C1, kd1.mro), (C2, kd2.mro), (C3, kd3.mro), (C4, kd4.mro), (C5, kd5.mro), (C6, kd6.mro), (C7, kd7.mro), (C8, kd8.mro), (C9, kd9.mro), (C10, kd10.mro), (C11, kd11.mro), (C12, kd12.mro), (C13, kd13.mro), (C14, kd14.mro), (C15, kd15.mro), (C16, kd16.mro), (C17, kd17.mro), (C18, kd18.mro), (C19, kd19.mro), (C20, kd20.mro), (C21, kd21.mro), (C22, kd22.mro), (C23, kd23.mro)] [(.ref C23)] [23] [0, 1, 2, 3, 4, 5, 6, 7, 8, 9, 10, 11, 12, 13, 14, 15, 16, 17, 18, 19, 20, 21, 22] = true)
    (q23 : isxB [(C0, kd0.mro), (C1, kd1.mro), (C2, kd2.mro), (C3, kd3.mro), (C4, kd4.mro), (C5, kd5.mro), (C6, kd6.mro), (C7, kd7.mro), (C8, kd8.mro), (C9, kd9.mro), (C10, kd10.mro), (C11, kd11.mro), (C12, kd12.mro), (C13, kd13.mro), (C14, kd14.mro), (C15, kd15.mro), (C16, kd16.mro), (C17, kd17.mro), (C18, kd18.mro), (C19, kd19.mro), (C20, kd20.mro), (C21, kd21.mro), (C22, kd22.mro), (C23, kd23.mro)] [(.ref C22)] [22] [0, 1, 2, 3, 4, 5, 6, 7, 8, 9, 10, 11, 12, 13, 14, 15, 16, 17, 18, 19, 20, 21, 23] = true)
    (q24 : isxB [(C0, kd0.mro), (C1, kd1.mro), (C2, kd2.mro), (C3, kd3.mro), (C4, kd4.mro), (C5, kd5.mro), (C6, kd6.mro), (C7, kd7.mro), (C8, kd8.mro), (C9, kd9.mro), (C10, kd10.mro), (C11, kd11.mro), (C12, kd12.mro), (C13, kd13.mro), (C14, kd14.mro), (C15, kd15.mro), (C16, kd16.mro), (C17, kd17.mro), (C18, kd18.mro), (C19, kd19.mro), (C20, kd20.mro), (C21, kd21.mro), (C22, kd22.mro), (C23, kd23.mro)] [(.ref D_LookupTrouble)] [14, 15, 16] [0, 1, 2, 3, 4, 5, 6, 7, 8, 9, 10, 11, 12, 13, 17, 18, 19, 20, 21, 22, 23] = true)
    (q25 : isxB [(C0, kd0.mro), (C1, kd1.mro), (C2, kd2.mro), (C3, kd3.mro), (C4, kd4.mro), (C5, kd5.mro), (C6, kd6.mro), (C7, kd7.mro), (C8, kd8.mro), (C9, kd9.mro), (C10, kd10.mro), (C11, kd11.mro), (C12, kd12.mro), (C13, kd13.mro), (C14, kd14.mro), (C15, kd15.mro), (C16, kd16.mro), (C17, kd17.mro), (C18, kd18.mro), (C19, kd19.mro), (C20, kd20.mro), (C21, kd21.mro), (C22, kd22.mro), (C23, kd23.mro)] [(.ref D_ValueTrouble)] [11, 12, 13] [0, 1, 2, 3, 4, 5, 6, 7, 8, 9, 10, 14, 15, 16, 17, 18, 19, 20, 21, 22, 23] = true)
    (q26 : isxB [(C0, kd0.mro), (C1, kd1.mro), (C2, kd2.mro), (C3, kd3.mro), (C4, kd4.mro), (C5, kd5.mro), (C6, kd6.mro), (C7, kd7.mro), (C8, kd8.mro), (C9, kd9.mro), (C10, kd10.mro), (C11, kd11.mro), (C12, kd12.mro), (C13, kd13.mro), (C14, kd14.mro), (C15, kd15.mro), (C16, kd16.mro), (C17, kd17.mro), (C18, kd18.mro), (C19, kd19.mro), (C20, kd20.mro), (C21, kd21.mro), (C22, kd22.mro), (C23, kd23.mro)] [(.ref D_TextError)] [1, 2, 3, 4, 5, 6, 7, 8, 9, 10] [0, 11, 12, 13, 14, 15, 16, 17, 18, 19, 20, 21, 22, 23] = true)
    (q27 : isxB [(C0, kd0.mro), (C1, kd1.mro), (C2, kd2.mro), (C3, kd3.mro), (C4, kd4.mro), (C5, kd5.mro), (C6, kd6.mro), (C7, kd7.mro), (C8, kd8.mro), (C9, kd9.mro), (C10, kd10.mro), (C11, kd11.mro), (C12, kd12.mro), (C13, kd13.mro), (C14, kd14.mro), (C15, kd15.mro), (C16, kd16.mro), (C17, kd17.mro), (C18, kd18.mro), (C19, kd19.mro), (C20, kd20.mro), (C21, kd21.mro), (C22, kd22.mro), (C23, kd23.mro)] [(.type "ValueError")] [1, 2, 3, 4, 5, 6, 7, 8, 9, 10] [0, 11, 12, 13, 14, 15, 16, 17, 18, 19, 20, 21, 22, 23] = true)
    (q28 : isxB [(C0, kd0.mro), (C1, kd1.mro), (C2, kd2.mro), (C3, kd3.mro), (C4, kd4.mro), (C5, kd5.mro), (C6, kd6.mro), (C7, kd7.mro), (C8, kd8.mro), (C9, kd9.mro), (C10, kd10.mro), (C11, kd11.mro), (C12, kd12.mro), (C13, kd13.mro), (C14, kd14.mro), (C15, kd15.mro), (C16, kd16.mro), (C17, kd17.mro), (C18, kd18.mro), (C19, kd19.mro), (C20, kd20.mro), (C21, kd21.mro), (C22, kd22.mro), (C23, kd23.mro)] [(.ref D_LimitTrouble)] [23] [0, 1, 2, 3, 4, 5, 6, 7, 8, 9, 10, 11, 12, 13, 14, 15, 16, 17, 18, 19, 20, 21, 22] = true)
    (q29 : isxB [(C0, kd0.mro), (C1, kd1.mro), (C2, kd2.mro), (C3, kd3.mro), (C4, kd4.mro), (C5, kd5.mro), (C6, kd6.mro), (C7, kd7.mro), (C8, kd8.mro), (C9, kd9.mro), (C10, kd10.mro), (C11, kd11.mro), (C12, kd12.mro), (C13, kd13.mro), (C14, kd14.mro), (C15, kd15.mro), (C16, kd16.mro), (C17, kd17.mro), (C18, kd18.mro), (C19, kd19.mro), (C20, kd20.mro), (C21, kd21.mro), (C22, kd22.mro), (C23, kd23.mro)] [(.ref D_StateTrouble)] [17, 18, 19, 20, 21, 22] [0, 1, 2, 3, 4, 5, 6, 7, 8, 9, 10, 11, 12, 13, 14, 15, 16, 23] = true)
    (q30 : isxB [(C0, kd0.mro), (C1, kd1.mro), (C2, kd2.mro), (C3, kd3.mro), (C4, kd4.mro), (C5, kd5.mro), (C6, kd6.mro), (C7, kd7.mro), (C8, kd8.mro), (C9, kd9.mro), (C10, kd10.mro), (C11, kd11.mro), (C12, kd12.mro), (C13, kd13.mro), (C14, kd14.mro), (C15, kd15.mro), (C16, kd16.mro), (C17, kd17.mro), (C18, kd18.mro), (C19, kd19.mro), (C20, kd20.mro), (C21, kd21.mro), (C22, kd22.mro), (C23, kd23.mro)] [(.type "LookupError")] [14, 15, 16] [0, 1, 2, 3, 4, 5, 6, 7, 8, 9, 10, 11, 12, 13, 17, 18, 19, 20, 21, 22, 23] = true)
    (q31 : isxB [(C0, kd0.mro), (C1, kd1.mro), (C2, kd2.mro), (C3, kd3.mro), (C4, kd4.mro), (C5, kd5.mro), (C6, kd6.mro), (C7, kd7.mro), (C8, kd8.mro), (C9, kd9.mro), (C10, kd10.mro), (C11, kd11.mro), (C12, kd12.mro), (C13, kd13.mro), (C14, kd14.mro), (C15, kd15.mro), (C16, kd16.mro), (C17, kd17.mro), (C18, kd18.mro), (C19, kd19.mro), (C20, kd20.mro), (C21, kd21.mro), (C22, kd22.mro), (C23, kd23.mro)] [(.type "ArithmeticError")] [11, 12, 13, 23] [0, 1, 2, 3, 4, 5, 6, 7, 8, 9, 10, 14, 15, 16, 17, 18, 19, 20, 21, 22] = true)
    (q32 : isxB [(C0, kd0.mro), (C1, kd1.mro), (C2, kd2.mro), (C3, kd3.mro), (C4, kd4.mro), (C5, kd5.mro), (C6, kd6.mro), (C7, kd7.mro), (C8, kd8.mro), (C9, kd9.mro), (C10, kd10.mro), (C11, kd11.mro), (C12, kd12.mro), (C13, kd13.mro), (C14, kd14.mro), (C15, kd15.mro), (C16, kd16.mro), (C17, kd17.mro), (C18, kd18.mro), (C19, kd19.mro), (C20, kd20.mro), (C21, kd21.mro), (C22, kd22.mro), (C23, kd23.mro)] [(.type "OverflowError")] [23] [0, 1, 2, 3, 4, 5, 6, 7, 8, 9, 10, 11, 12, 13, 14, 15, 16, 17, 18, 19, 20, 21, 22] = true)
    (q33 : isxB [(C0, kd0.mro), (C1, kd1.mro), (C2, kd2.mro), (C3, kd3.mro), (C4, kd4.mro), (C5, kd5.mro), (C6, kd6.mro), (C7, kd7.mro), (C8, kd8.mro), (C9, kd9.mro), (C10, kd10.mro), (C11, kd11.mro), (C12, kd12.mro), (C13, kd13.mro), (C14, kd14.mro), (C15, kd15.mro), (C16, kd16.mro), (C17, kd17.mro), (C18, kd18.mro), (C19, kd19.mro), (C20, kd20.mro), (C21, kd21.mro), (C22, kd22.mro), (C23, kd23.mro)] [(.type "RuntimeError")] [17, 18, 19, 20, 21, 22] [0, 1, 2, 3, 4, 5, 6, 7, 8, 9, 10, 11, 12, 13, 14, 15, 16, 23] = true)
    (q34 : isxB [(C0, kd0.mro), (C1, kd1.mro), (C2, kd2.mro), (C3, kd3.mro), (C4, kd4.mro), (C5, kd5.mro), (C6, kd6.mro), (C7, kd7.mro), (C8, kd8.mro), (C9, kd9.mro), (C10, kd10.mro), (C11, kd11.mro), (C12, kd12.mro), (C13, kd13.mro), (C14, kd14.mro), (C15, kd15.mro), (C16, kd16.mro), (C17, kd17.mro), (C18, kd18.mro), (C19, kd19.mro), (C20, kd20.mro), (C21, kd21.mro), (C22, kd22.mro), (C23, kd23.mro)] [(.type "KeyError"), (.type "IndexError"), (.type "NotImplementedError"), (.type "ZeroDivisionError")] [] [0, 1, 2, 3, 4, 5, 6, 7, 8, 9, 10, 11, 12, 13, 14, 15, 16, 17, 18, 19, 20, 21, 22, 23] = true)
    : ∃ cl : Nat → Option Addr, (∀ p ∈ T.glo, ∃ u v, mg p.1 = some u ∧ RelV v u ∧ ∀ O H, Rep K cl O H v p.2) ∧ (∀ y ∈ T.blt, mg y = none) ∧ (∀ c xc, T.xcls c = some xc → XF P K mg cl c xc) ∧ (∀ q ∈ T.isx, XI K mg cl q) ∧ (T.xcls 0 ≠ none → mg "super" = none) ∧ ∀ f fn, T.fns f = some fn → FnI T K mg fn := by
  have F0 : FnI T K mg f__law_mixed := fni X G rfl a0 l0 c0 k0 (.all fun us hl => match us, hl with | [_, _], _ => rfl) (fun p hp => nomatch hp) s__law_mixed m__law_mixed
  have F1 : FnI T K mg f__law_stream := fni X G rfl a1 l1 c1 k1 (.all fun us hl => match us, hl with | [_, _], _ => rfl) (fun p hp => nomatch hp) s__law_stream m__law_stream
  have F2 : FnI T K mg f__law_draw := fni X G rfl a2 l2 c2 k2 (.all fun us hl => match us, hl with | [_, _], _ => rfl) (fun p hp => nomatch hp) s__law_draw m__law_draw
  have F3 : FnI T K mg f__law_pick := fni X G rfl a3 l3 c3 k3 (.all fun us hl => match us, hl with | [_, _], _ => rfl) (fun p hp => nomatch hp) s__law_pick m__law_pick
  have F4 : FnI T K mg f__law_made := fni X G rfl a4 l4 c4 k4 (.all fun us hl => match us, hl with | [_], _ => rfl) (fun p hp => nomatch hp) s__law_made m__law_made
  have F5 : FnI T K mg f__law_named := fni X G rfl a5 l5 c5 k5 (.all fun us hl => match us, hl with | [_], _ => rfl) (fun p hp => nomatch hp) s__law_named m__law_named
  have F6 : FnI T K mg f__law_kinds := fni X G rfl a6 l6 c6 k6 (.all fun us hl => match us, hl with | [_], _ => rfl) (fun p hp => nomatch hp) s__law_kinds m__law_kinds
  have F7 : FnI T K mg f__law_families := fni X G rfl a7 l7 c7 k7 (.all fun us hl => match us, hl with | [_], _ => rfl) (fun p hp => nomatch hp) s__law_families m__law_families
  have F8 : FnI T K mg f__law_fields := fni X G rfl a8 l8 c8 k8 (.all fun us hl => match us, hl with | [_], _ => rfl) (fun p hp => nomatch hp) s__law_fields m__law_fields
  have F9 : FnI T K mg f__law_right := fni X G rfl a9 l9 c9 k9 (.all fun us hl => match us, hl with | [_, _], _ => rfl) (fun p hp => nomatch hp) s__law_right m__law_right
  have F10 : FnI T K mg f_law := fni X G rfl a10 l10 c10 k10 (.all fun us hl => match us, hl with | [_], _ => rfl) (fun p hp => nomatch hp) s_law m_law
  have pX : Paired (XFC P K mg) [C0, C1, C2, C3, C4, C5, C6, C7, C8, C9, C10, C11, C12, C13, C14, C15, C16, C17, C18, C19, C20, C21, C22, C23] xcs := (.cons x0 (.cons x1 (.cons x2 (.cons x3 (.cons x4 (.cons x5 (.cons x6 (.cons x7 (.cons x8 (.cons x9 (.cons x10 (.cons x11 (.cons x12 (.cons x13 (.cons x14 (.cons x15 (.cons x16 (.cons x17 (.cons x18 (.cons x19 (.cons x20 (.cons x21 (.cons x22 (.cons x23 .nil))))))))))))))))))))))))
  have tX : XTab K (fun c => ([(C0, kd0.mro), (C1, kd1.mro), (C2, kd2.mro), (C3, kd3.mro), (C4, kd4.mro), (C5, kd5.mro), (C6, kd6.mro), (C7, kd7.mro), (C8, kd8.mro), (C9, kd9.mro), (C10, kd10.mro), (C11, kd11.mro), (C12, kd12.mro), (C13, kd13.mro), (C14, kd14.mro), (C15, kd15.mro), (C16, kd16.mro), (C17, kd17.mro), (C18, kd18.mro), (C19, kd19.mro), (C20, kd20.mro), (C21, kd21.mro), (C22, kd22.mro), (C23, kd23.mro)] : List (Addr × List Value))[c]?.map (·.1)) [(C0, kd0.mro), (C1, kd1.mro), (C2, kd2.mro), (C3, kd3.mro), (C4, kd4.mro), (C5, kd5.mro), (C6, kd6.mro), (C7, kd7.mro), (C8, kd8.mro), (C9, kd9.mro), (C10, kd10.mro), (C11, kd11.mro), (C12, kd12.mro), (C13, kd13.mro), (C14, kd14.mro), (C15, kd15.mro), (C16, kd16.mro), (C17, kd17.mro), (C18, kd18.mro), (C19, kd19.mro), (C20, kd20.mro), (C21, kd21.mro), (C22, kd22.mro), (C23, kd23.mro)] := ⟨fun _ => rfl, AllQ.mem (.cons (⟨⟨kd0, m0, rfl⟩, x0.2⟩) (.cons (⟨⟨kd1, m1, rfl⟩, x1.2⟩) (.cons (⟨⟨kd2, m2, rfl⟩, x2.2⟩) (.cons (⟨⟨kd3, m3, rfl⟩, x3.2⟩) (.cons (⟨⟨kd4, m4, rfl⟩, x4.2⟩) (.cons (⟨⟨kd5, m5, rfl⟩, x5.2⟩) (.cons (⟨⟨kd6, m6, rfl⟩, x6.2⟩) (.cons (⟨⟨kd7, m7, rfl⟩, x7.2⟩) (.cons (⟨⟨kd8, m8, rfl⟩, x8.2⟩) (.cons (⟨⟨kd9, m9, rfl⟩, x9.2⟩) (.cons (⟨⟨kd10, m10, rfl⟩, x10.2⟩) (.cons (⟨⟨kd11, m11, rfl⟩, x11.2⟩) (.cons (⟨⟨kd12, m12, rfl⟩, x12.2⟩) (.cons (⟨⟨kd13, m13, rfl⟩, x13.2⟩) (.cons (⟨⟨kd14, m14, rfl⟩, x14.2⟩) (.cons (⟨⟨kd15, m15, rfl⟩, x15.2⟩) (.cons (⟨⟨kd16, m16, rfl⟩, x16.2⟩) (.cons (⟨⟨kd17, m17, rfl⟩, x17.2⟩) (.cons (⟨⟨kd18, m18, rfl⟩, x18.2⟩) (.cons (⟨⟨kd19, m19, rfl⟩, x19.2⟩) (.cons (⟨⟨kd20, m20, rfl⟩, x20.2⟩) (.cons (⟨⟨kd21, m21, rfl⟩, x21.2⟩) (.cons (⟨⟨kd22, m22, rfl⟩, x22.2⟩) (.cons (⟨⟨kd23, m23, rfl⟩, x23.2⟩) .nil))))))))))))))))))))))))⟩
  refine ⟨fun c => ([(C0, kd0.mro), (C1, kd1.mro), (C2, kd2.mro), (C3, kd3.mro), (C4, kd4.mro), (C5, kd5.mro), (C6, kd6.mro), (C7, kd7.mro), (C8, kd8.mro), (C9, kd9.mro), (C10, kd10.mro), (C11, kd11.mro), (C12, kd12.mro), (C13, kd13.mro), (C14, kd14.mro), (C15, kd15.mro), (C16, kd16.mro), (C17, kd17.mro), (C18, kd18.mro), (C19, kd19.mro), (C20, kd20.mro), (C21, kd21.mro), (C22, kd22.mro), (C23, kd23.mro)] : List (Addr × List Value))[c]?.map (·.1), fun p => ?_, fun y => ?_, fun c xc hc => ?_, fun q => ?_, fun _ => PySem.W.mg_none_of X G sup, fun f fn hf => ?_⟩
  · exact AllQ.mem (l := glo) (p := fun p => ∃ u v, mg p.1 = some u ∧ RelV v u ∧ ∀ O H, Rep K (fun c => ([(C0, kd0.mro), (C1, kd1.mro), (C2, kd2.mro), (C3, kd3.mro), (C4, kd4.mro), (C5, kd5.mro), (C6, kd6.mro), (C7, kd7.mro), (C8, kd8.mro), (C9, kd9.mro), (C10, kd10.mro), (C11, kd11.mro), (C12, kd12.mro), (C13, kd13.mro), (C14, kd14.mro), (C15, kd15.mro), (C16, kd16.mro), (C17, kd17.mro), (C18, kd18.mro), (C19, kd19.mro), (C20, kd20.mro), (C21, kd21.mro), (C22, kd22.mro), (C23, kd23.mro)] : List (Addr × List Value))[c]?.map (·.1)) O H v p.2) .nil p
  · exact AllQ.mem (l := blt) (p := fun y => mg y = none) (.cons (PySem.W.mg_none_of X G b0) (.cons (PySem.W.mg_none_of X G b1) (.cons (PySem.W.mg_none_of X G b2) (.cons (PySem.W.mg_none_of X G b3) (.cons (PySem.W.mg_none_of X G b4) (.cons (PySem.W.mg_none_of X G b5) .nil)))))) y
  · obtain ⟨C, h1, h2⟩ := xs_all pX c xc hc
    refine h2.1 _ c ?_
    have e : ([(C0, kd0.mro), (C1, kd1.mro), (C2, kd2.mro), (C3, kd3.mro), (C4, kd4.mro), (C5, kd5.mro), (C6, kd6.mro), (C7, kd7.mro), (C8, kd8.mro), (C9, kd9.mro), (C10, kd10.mro), (C11, kd11.mro), (C12, kd12.mro), (C13, kd13.mro), (C14, kd14.mro), (C15, kd15.mro), (C16, kd16.mro), (C17, kd17.mro), (C18, kd18.mro), (C19, kd19.mro), (C20, kd20.mro), (C21, kd21.mro), (C22, kd22.mro), (C23, kd23.mro)] : List (Addr × List Value)).map (·.1) = [C0, C1, C2, C3, C4, C5, C6, C7, C8, C9, C10, C11, C12, C13, C14, C15, C16, C17, C18, C19, C20, C21, C22, C23] := rfl
    rw [← e, List.getElem?_map] at h1
    exact h1
  · exact AllQ.mem (l := isx) (p := XI K mg (fun c => ([(C0, kd0.mro), (C1, kd1.mro), (C2, kd2.mro), (C3, kd3.mro), (C4, kd4.mro), (C5, kd5.mro), (C6, kd6.mro), (C7, kd7.mro), (C8, kd8.mro), (C9, kd9.mro), (C10, kd10.mro), (C11, kd11.mro), (C12, kd12.mro), (C13, kd13.mro), (C14, kd14.mro), (C15, kd15.mro), (C16, kd16.mro), (C17, kd17.mro), (C18, kd18.mro), (C19, kd19.mro), (C20, kd20.mro), (C21, kd21.mro), (C22, kd22.mro), (C23, kd23.mro)] : List (Addr × List Value))[c]?.map (·.1))) (.cons (xi_mk tX tb (nm_own X G an_BadOperands .nil) (AllQ.mem (p := ClsOk K) (.cons (⟨_, m3, ty_BadOperands⟩) .nil)) q0) (.cons (xi_mk tX tb (nm_own X G an_BadName .nil) (AllQ.mem (p := ClsOk K) (.cons (⟨_, m2, ty_BadName⟩) .nil)) q1) (.cons (xi_mk tX tb (nm_own X G an_BadLine .nil) (AllQ.mem (p := ClsOk K) (.cons (⟨_, m1, ty_BadLine⟩) .nil)) q2) (.cons (xi_mk tX tb (nm_own X G an_BadText .nil) (AllQ.mem (p := ClsOk K) (.cons (⟨_, m6, ty_BadText⟩) .nil)) q3) (.cons (xi_mk tX tb (nm_own X G an_BadCall .nil) (AllQ.mem (p := ClsOk K) (.cons (⟨_, m5, ty_BadCall⟩) .nil)) q4) (.cons (xi_mk tX tb (nm_own X G an_BadBlock .nil) (AllQ.mem (p := ClsOk K) (.cons (⟨_, m4, ty_BadBlock⟩) .nil)) q5) (.cons (xi_mk tX tb (nm_own X G an_BadObject .nil) (AllQ.mem (p := ClsOk K) (.cons (⟨_, m9, ty_BadObject⟩) .nil)) q6) (.cons (xi_mk tX tb (nm_own X G an_BadNumber .nil) (AllQ.mem (p := ClsOk K) (.cons (⟨_, m8, ty_BadNumber⟩) .nil)) q7) (.cons (xi_mk tX tb (nm_own X G an_BadTable .nil) (AllQ.mem (p := ClsOk K) (.cons (⟨_, m7, ty_BadTable⟩) .nil)) q8) (.cons (xi_mk tX tb (nm_own X G an_DividedByZero .nil) (AllQ.mem (p := ClsOk K) (.cons (⟨_, m12, ty_DividedByZero⟩) .nil)) q9) (.cons (xi_mk tX tb (nm_own X G an_NotPlain .nil) (AllQ.mem (p := ClsOk K) (.cons (⟨_, m11, ty_NotPlain⟩) .nil)) q10) (.cons (xi_mk tX tb (nm_own X G an_BadTree .nil) (AllQ.mem (p := ClsOk K) (.cons (⟨_, m10, ty_BadTree⟩) .nil)) q11) (.cons (xi_mk tX tb (nm_own X G an_NoInstruction .nil) (AllQ.mem (p := ClsOk K) (.cons (⟨_, m15, ty_NoInstruction⟩) .nil)) q12) (.cons (xi_mk tX tb (nm_own X G an_NoName .nil) (AllQ.mem (p := ClsOk K) (.cons (⟨_, m14, ty_NoName⟩) .nil)) q13) (.cons (xi_mk tX tb (nm_own X G an_BadShift .nil) (AllQ.mem (p := ClsOk K) (.cons (⟨_, m13, ty_BadShift⟩) .nil)) q14) (.cons (xi_mk tX tb (nm_own X G an_Cycle .nil) (AllQ.mem (p := ClsOk K) (.cons (⟨_, m18, ty_Cycle⟩) .nil)) q15) (.cons (xi_mk tX tb (nm_own X G an_Ring .nil) (AllQ.mem (p := ClsOk K) (.cons (⟨_, m17, ty_Ring⟩) .nil)) q16) (.cons (xi_mk tX tb (nm_own X G an_NoOrigin .nil) (AllQ.mem (p := ClsOk K) (.cons (⟨_, m16, ty_NoOrigin⟩) .nil)) q17) (.cons (xi_mk tX tb (nm_own X G an_OutOfRange .nil) (AllQ.mem (p := ClsOk K) (.cons (⟨_, m21, ty_OutOfRange⟩) .nil)) q18) (.cons (xi_mk tX tb (nm_own X G an_Unresolved .nil) (AllQ.mem (p := ClsOk K) (.cons (⟨_, m20, ty_Unresolved⟩) .nil)) q19) (.cons (xi_mk tX tb (nm_own X G an_Taken .nil) (AllQ.mem (p := ClsOk K) (.cons (⟨_, m19, ty_Taken⟩) .nil)) q20) (.cons (xi_mk tX tb (nm_own X G an_Trouble .nil) (AllQ.mem (p := ClsOk K) (.cons (⟨_, m0, ty_Trouble⟩) .nil)) q21) (.cons (xi_mk tX tb (nm_own X G an_TooLarge .nil) (AllQ.mem (p := ClsOk K) (.cons (⟨_, m23, ty_TooLarge⟩) .nil)) q22) (.cons (xi_mk tX tb (nm_own X G an_NothingLeft .nil) (AllQ.mem (p := ClsOk K) (.cons (⟨_, m22, ty_NothingLeft⟩) .nil)) q23) (.cons (xi_mk tX tb (nm_own X G an_LookupTrouble .nil) (AllQ.mem (p := ClsOk K) (.cons (⟨_, cf_LookupTrouble, ty_LookupTrouble⟩) .nil)) q24) (.cons (xi_mk tX tb (nm_own X G an_ValueTrouble .nil) (AllQ.mem (p := ClsOk K) (.cons (⟨_, cf_ValueTrouble, ty_ValueTrouble⟩) .nil)) q25) (.cons (xi_mk tX tb (nm_own X G an_TextError .nil) (AllQ.mem (p := ClsOk K) (.cons (⟨_, cf_TextError, ty_TextError⟩) .nil)) q26) (.cons (xi_mk tX tb (nm_blt X G nb_ValueError boot_ValueError (by decide) .nil) (AllQ.mem (p := ClsOk K) (.cons (kmeta_ValueError) .nil)) q27) (.cons (xi_mk tX tb (nm_own X G an_LimitTrouble .nil) (AllQ.mem (p := ClsOk K) (.cons (⟨_, cf_LimitTrouble, ty_LimitTrouble⟩) .nil)) q28) (.cons (xi_mk tX tb (nm_own X G an_StateTrouble .nil) (AllQ.mem (p := ClsOk K) (.cons (⟨_, cf_StateTrouble, ty_StateTrouble⟩) .nil)) q29) (.cons (xi_mk tX tb (nm_blt X G nb_LookupError boot_LookupError (by decide) .nil) (AllQ.mem (p := ClsOk K) (.cons (kmeta_LookupError) .nil)) q30) (.cons (xi_mk tX tb (nm_blt X G nb_ArithmeticError boot_ArithmeticError (by decide) .nil) (AllQ.mem (p := ClsOk K) (.cons (kmeta_ArithmeticError) .nil)) q31) (.cons (xi_mk tX tb (nm_blt X G nb_OverflowError boot_OverflowError (by decide) .nil) (AllQ.mem (p := ClsOk K) (.cons (kmeta_OverflowError) .nil)) q32) (.cons (xi_mk tX tb (nm_blt X G nb_RuntimeError boot_RuntimeError (by decide) .nil) (AllQ.mem (p := ClsOk K) (.cons (kmeta_RuntimeError) .nil)) q33) (.cons (xi_mk tX tb (nm_blt X G nb_KeyError boot_KeyError (by decide) (nm_blt X G nb_IndexError boot_IndexError (by decide) (nm_blt X G nb_NotImplementedError boot_NotImplementedError (by decide) (nm_blt X G nb_ZeroDivisionError boot_ZeroDivisionError (by decide) .nil)))) (AllQ.mem (p := ClsOk K) (.cons (kmeta_KeyError) (.cons (kmeta_IndexError) (.cons (kmeta_NotImplementedError) (.cons (kmeta_ZeroDivisionError) .nil))))) q34) .nil))))))))))))))))))))))))))))))))))) q
  · exact AllQ.mem (l := fns) (p := FnI T K mg) (.cons (F0) (.cons (F1) (.cons (F2) (.cons (F3) (.cons (F4) (.cons (F5) (.cons (F6) (.cons (F7) (.cons (F8) (.cons (F9) (.cons (F10) .nil))))))))))) fn (List.mem_of_getElem? hf)
end K01


namespace K01
open PySem PySem.Spec PyProof.Rows L2 Mx
/-! ### the stream -/
def mixed (n k : Int) : Int := ((n % 2147483647 + 7919 * k * k + 31 * k) * 48271 % 2147483647) * (69621 + 2 * k) % 2147483629
theorem mulOk_l {i j : Int} (h1 : -(2 ^ 64) < i) (h2 : i < 2 ^ 64) : mulOk i j = true := by
  unfold mulOk; rw [decide_eq_true h1, decide_eq_true h2]; rfl
theorem mulOk_r {i j : Int} (h1 : -(2 ^ 64) < j) (h2 : j < 2 ^ 64) : mulOk i j = true := by
  unfold mulOk; rw [decide_eq_true h1, decide_eq_true h2]; simp
theorem r_mixed {N k : Nat} (n c : Int) (h0 : 0 ≤ c) (h1 : c < 2 ^ 40) : OkF (runF T.fns N (k + 1) 0 [.int n, .int c]) fun d ms => d = .int (mixed n c) ∧ ms = [.non, .non] := by
  refine okF_run (fn := f__law_mixed) rfl rfl ?_
  have m1 : mulOk 7919 c = true := mulOk_l (by decide) (by decide)
  have m2 : mulOk (7919 * c) c = true := mulOk_r (by omega) (by omega)
  have m3 : mulOk 31 c = true := mulOk_l (by decide) (by decide)
  have m4 : ∀ x : Int, mulOk x 48271 = true := fun x => mulOk_r (by decide) (by decide)
  have m5 : mulOk 2 c = true := mulOk_l (by decide) (by decide)
  have m6 : ∀ x : Int, mulOk x (69621 + 2 * c) = true := fun x => mulOk_r (by omega) (by omega)
  simp [f__law_mixed, b__law_mixed, Fn.start, startA, b_mulI, b_modI, m1, m2, m3, m4, m5, m6, mutsOf, mixed]
def St (n : Nat) (s : IV) : Prop := ∃ a b c : Int, s = .lst [.int a, .int b, .int c] ∧ 0 ≤ b ∧ b ≤ n
theorem r_stream {N k : Nat} (i c : Int) (h0 : 0 ≤ c) (h1 : c < 2 ^ 40) : OkF (runF T.fns N (k + 2) 1 [.int i, .int c]) fun d ms => St 0 d ∧ ms = [.non, .non] := by
  refine okF_run (fn := f__law_stream) rfl rfl ?_
  have p : binD .pow (.int 10) (.int 18) = some (.int (10 ^ 18)) := rfl
  simp [f__law_stream, b__law_stream, Fn.start, startA, p]
  split
  · refine (r_mixed i c h0 h1).mono fun d ms ⟨e1, e2⟩ => ?_
    subst e1; subst e2
    simp [mutsOf, St, SZ]
    exact ⟨_, 0, ⟨rfl, rfl⟩, by decide, by decide⟩
  · refine (r_mixed i c h0 h1).mono fun d ms ⟨e1, e2⟩ => ?_
    subst e1; subst e2
    simp [mutsOf, St, SZ]
    exact ⟨_, 0, ⟨rfl, rfl⟩, by decide, by decide⟩
theorem r_draw {N k n : Nat} {s : IV} {top : Int} (hs : St n s) (hn : n < 2 ^ 39) (h0 : 0 < top) (h1 : top < 1073741824) : OkF (runF T.fns N (k + 2) 2 [s, .int top]) fun d ms => ∃ v s', d = .int v ∧ 0 ≤ v ∧ v < top ∧ ms = [s', .non] ∧ St (n + 1) s' := by
  obtain ⟨a, b, c, rfl, hb0, hb1⟩ := hs
  refine okF_run (fn := f__law_draw) rfl rfl ?_
  have i1 : ∀ x y z : Int, ixD (.lst [.int x, .int y, .int z]) (.int 0) = some (.int x) := fun _ _ _ => rfl
  have i2 : ∀ x y z : Int, ixD (.lst [.int x, .int y, .int z]) (.int 1) = some (.int y) := fun _ _ _ => rfl
  have i3 : ∀ x y z : Int, ixD (.lst [.int x, .int y, .int z]) (.int 2) = some (.int z) := fun _ _ _ => rfl
  have s1 : ∀ x y z w : Int, setD (.int 1) (.int w) (.lst [.int x, .int y, .int z]) = some (.lst [.int x, .int w, .int z]) := fun _ _ _ _ => rfl
  have s0 : ∀ x y z w : Int, setD (.int 0) (.int w) (.lst [.int x, .int y, .int z]) = some (.lst [.int w, .int y, .int z]) := fun _ _ _ _ => rfl
  have st : ∀ x : Int, St (n + 1) (.lst [.int x, .int (b + 1), .int c]) := fun x => ⟨x, b + 1, c, rfl, by omega, by omega⟩
  simp [f__law_draw, b__law_draw, Fn.start, startA, i1, i2, i3, s0, s1]
  split
  · refine (r_mixed c (b + 1) (by omega) (by omega)).mono fun d ms ⟨e1, e2⟩ => ?_
    subst e1; subst e2
    simp
    refine (r_mixed (mixed c (b + 1)) 7 (by decide) (by decide)).mono fun d ms ⟨e1, e2⟩ => ?_
    subst e1; subst e2
    simp [b_modI h0, mutsOf, Int.emod_nonneg _ (Int.ne_of_gt h0), Int.emod_lt_of_pos _ h0, st]
  · simp [b_modI h0, b_fdivI h0 h1, mutsOf, Int.emod_nonneg _ (Int.ne_of_gt h0), Int.emod_lt_of_pos _ h0, st, i1, i2, i3, s0, s1]
theorem atI_mem {xs : List IV} {v : Int} (h0 : 0 ≤ v) (h1 : v < xs.length) : ∃ d, atI xs v = some d ∧ d ∈ xs := by
  have hn : v.toNat < xs.length := by omega
  refine ⟨xs[v.toNat], ?_, List.getElem_mem hn⟩
  unfold atI ixN
  rw [if_pos h0, if_pos h1]
  show xs[v.toNat]? = _
  exact List.getElem?_eq_getElem hn
theorem r_pick {N k n : Nat} {s : IV} {xs : List IV} (hs : St n s) (hn : n < 2 ^ 39) (h0 : xs ≠ []) (h1 : xs.length < 1000) : OkF (runF T.fns N (k + 3) 3 [s, .lst xs]) fun d ms => d ∈ xs ∧ ∃ s', ms = [s', .non] ∧ St (n + 1) s' := by
  refine okF_run (fn := f__law_pick) rfl rfl ?_
  simp [f__law_pick, b__law_pick, Fn.start, startA]
  have hl : 0 < xs.length := List.length_pos_iff.mpr h0
  refine (r_draw hs hn (by omega) (by omega)).mono fun d ms ⟨v, s', e1, v0, v1, e2, hs'⟩ => ?_
  subst e1; subst e2
  obtain ⟨d, ed, hd⟩ := atI_mem v0 v1
  have e : ixD (.lst xs) (.int v) = some d := ed
  simp [e, mutsOf, hd, hs']
/-! ### the exceptions -/
def x1 (c : Nat) (f : Str) (d : IV) : IV := .exc c [(f, d)]
def mk24 (d : IV) : List IV := [x1 1 "column" d, x1 2 "given" d, x1 3 "index" d, x1 4 "line" d, x1 5 "given" d, .exc 6 [("row", d), ("word", .int 1)], .exc 7 [("row", d), ("form", .int 2)], x1 8 "given" d, x1 9 "given" d, x1 10 "given" d, x1 11 "path" d,
  .exc 12 [], x1 13 "given" d, x1 14 "path" d, x1 15 "given" d, x1 16 "address" d, x1 17 "names" d, x1 18 "names" d, x1 19 "path" d, x1 20 "names" d, .exc 21 [("section", d), ("index", .int 3)], .exc 22 [], x1 23 "limit" d, .exc 0 [("origin", d), ("cause", .int 4)]]
theorem e_made (N k : Nat) (d : IV) : runF T.fns N (k + 1) 4 [d] = some (.ok (.lst (mk24 d)), [.non]) := by kernel_rfl
theorem e_named (N k : Nat) (d : IV) : runF T.fns N (k + 1) 5 [d] = some (.ok (.lst (mk24 d)), [.non]) := by kernel_rfl
def due (d : IV) : List IV := [d, d, d, d, d, d, .int 1, d, .int 2, d, d, d, d, d, d, d, d, d, d, d, d, d, .int 3, d, d, .int 4]
theorem e_fields (N k : Nat) (d : IV) : runF T.fns N (k + 1) 8 [.lst (mk24 d)] = some (.ok (.lst (due d)), [.non]) := by kernel_rfl
def fstOf : Ss → S
  | .cons s _ => s
  | _ => .pass
def rstOf : Ss → Ss
  | .cons _ r => r
  | _ => .nil
def st0 (d : IV) : List Sl := [.i (.lst (mk24 d)), .i d, .e, .e, .e, .e, .e, .e]
def st1 (d : IV) : List Sl := [.i (.lst (mk24 d)), .i d, .i (.lst (due d)), .e, .e, .e, .e, .e]
theorem e_r1 (N k : Nat) (d : IV) : evS (runF T.fns N (k + 1)) N (fstOf b__law_right) (st0 d) = some (.ok .nx, st1 d) := by kernel_rfl
theorem e_r3 (N k : Nat) (d : IV) : evSs (runF T.fns N (k + 1)) N (rstOf (rstOf b__law_right)) (st1 d) = some (.ok (.rt (.bl true)), [.i (.lst (mk24 d)), .i d, .i (.lst (due d)), .i (.int 23), .i (.exc 0 [("origin", d), ("cause", .int 4)]), .e, .i (.int 9), .i (.lst [.bl false, .bl false, .bl false, .bl false, .bl false, .bl false, .bl false])]) := by kernel_rfl
end K01


namespace K01
open PySem PySem.Spec PyProof.Rows L2 Mx
theorem cons_nx {cs : CS} {N : Nat} {s : S} {r : Ss} {ρ ρ1 : List Sl} (h : evS cs N s ρ = some (.ok .nx, ρ1)) : evSs cs N (.cons s r) ρ = evSs cs N r ρ1 := by
  show rBind (evS cs N s) _ ρ = _
  unfold rBind
  rw [h]
def eA : E := .fn .repr (.cons (.call 8 (.v (.var 0) .nil)) .nil)
def eB : E := .fn .repr (.cons (.var 2) .nil)
theorem e_r2 {N k : Nat} {d : IV} {w : List Nat} (h : reprL (due d) = some w) : evS (runF T.fns N (k + 1)) N (fstOf (rstOf b__law_right)) (st1 d) = some (.ok .nx, st1 d) := by
  have r : (rLift (fnD .repr [.lst (due d)]) : R IV) (st1 d) = some (.ok (.str w), st1 d) := by
    show rLift ((reprL (due d)).map IV.str) (st1 d) = _
    rw [h]
    rfl
  have ha : (ev (runF T.fns N (k + 1)) eA).1 (st1 d) = some (.ok (.str w), st1 d) := by
    show rBind (evEs (runF T.fns N (k + 1)) (.cons (.call 8 (.v (.var 0) .nil)) .nil)) (fun xs => rLift (fnD .repr xs)) (st1 d) = _
    have e : evEs (runF T.fns N (k + 1)) (.cons (.call 8 (.v (.var 0) .nil)) .nil) (st1 d) = some (.ok [.lst (due d)], st1 d) := by kernel_rfl
    unfold rBind
    rw [e]
    exact r
  have hb : (ev (runF T.fns N (k + 1)) eB).1 (st1 d) = some (.ok (.str w), st1 d) := by
    show rBind (evEs (runF T.fns N (k + 1)) (.cons (.var 2) .nil)) (fun xs => rLift (fnD .repr xs)) (st1 d) = _
    have e : evEs (runF T.fns N (k + 1)) (.cons (.var 2) .nil) (st1 d) = some (.ok [.lst (due d)], st1 d) := by kernel_rfl
    unfold rBind
    rw [e]
    exact r
  have hc : (ev (runF T.fns N (k + 1)) (.cmp .ne eA eB)).2 (st1 d) = some (.ok false, st1 d) := by
    show rBind (rBind (ev (runF T.fns N (k + 1)) eA).1 fun x => rBind (ev (runF T.fns N (k + 1)) eB).1 fun y => rLift ((cmpD .ne x y).map .bl)) (fun d => rLift (truD d)) (st1 d) = _
    have q : cmpD .ne (.str w) (.str w) = some false := by show (some (decide (w = w))).map (!·) = _; simp
    simp only [rBind, ha, hb, q, Option.map_some, rLift, truD]
  show rIf (ev (runF T.fns N (k + 1)) (.cmp .ne eA eB)).2 (evSs (runF T.fns N (k + 1)) N (.cons (.ret (.cst (.bl false))) .nil)) (evSs (runF T.fns N (k + 1)) N .nil) (st1 d) = _
  unfold rIf rBind
  rw [hc]
  rfl
theorem e_right {N k : Nat} {d : IV} {w : List Nat} (h : reprL (due d) = some w) : runF T.fns N (k + 2) 9 [.lst (mk24 d), d] = some (.ok (.bl true), [.non, .non]) := by
  show endF f__law_right (evSs (runF T.fns N (k + 1)) N (.cons (fstOf b__law_right) (.cons (fstOf (rstOf b__law_right)) (rstOf (rstOf b__law_right)))) (st0 d)) = _
  rw [cons_nx (e_r1 N k d), cons_nx (e_r2 h), e_r3]
  rfl
/-! ### what may be shown -/
def Sh (d : IV) : Prop := ∃ p, d.toR = some p ∧ p.showable = true ∧ p.shown.length ≤ 100 ∧ p.depth ≤ 10
theorem log_ok {i : Int} (h : i.natAbs < 10 ^ 30) : i.natAbs.log2 < 1920 := by
  by_cases z : i.natAbs = 0
  · rw [z]; decide
  · exact Nat.lt_of_lt_of_le ((Nat.log2_lt z).mpr (Nat.lt_of_lt_of_le h (by decide +kernel : 10 ^ 30 ≤ 2 ^ 100))) (by decide)
theorem len_pos {i : Int} (h0 : 0 ≤ i) (h : i < 10 ^ 30) : (Str.ofString (toString i)).length ≤ 30 := toString_length_le h0 (by decide) h
theorem len_int {i : Int} (h : i.natAbs < 10 ^ 30) : (Str.ofString (toString i)).length ≤ 100 := by
  match i, h with
  | .ofNat n, h => exact Nat.le_trans (len_pos (i := (n : Int)) (by omega) (by have : n < 10 ^ 30 := h; omega)) (by decide)
  | .negSucc n, h =>
    have h' : n + 1 < 10 ^ 30 := h
    have z := len_pos (i := ((n + 1 : Nat) : Int)) (by omega) (by omega)
    have e : toString (Int.negSucc n) = "-" ++ toString ((n + 1 : Nat) : Int) := rfl
    rw [e, PyProof.Rows.ofString_length, String.toList_append, List.length_append]
    rw [PyProof.Rows.ofString_length] at z
    have o : ("-" : String).toList.length = 1 := by decide
    omega
theorem sh_int {i : Int} (h : i.natAbs < 10 ^ 30) : Sh (.int i) := ⟨.int i, rfl, by simp only [PyData.showable]; exact decide_eq_true (log_ok h), by rw [PyData.shown_int]; exact len_int h, by simp only [PyData.depth]; decide⟩
theorem piled_le {B : Nat} : ∀ {ts : List Str}, (∀ t ∈ ts, t.length ≤ B) → piled ts ≤ ts.length * (B + 2)
  | [], _ => by simp [piled]
  | t :: ts, h => by
    have h1 := h t (List.mem_cons_self ..)
    have h2 := piled_le fun u hu => h u (List.mem_cons_of_mem _ hu)
    simp only [List.length_cons, Nat.succ_mul]
    rw [piled_cons]
    omega
theorem list_len {B : Nat} {ts : List Str} (h : ∀ t ∈ ts, t.length ≤ B) : (listText ts).length ≤ ts.length * (B + 2) + 2 := by
  cases ts with
  | nil =>
    have z : (listText []).length = 2 := by rw [listText_nil]; rfl
    rw [z]
    simp
  | cons t r =>
    have e : (listText (t :: r)).length = (textFrom 1 (("[" : Str) ++ (if (0 : Nat) > 0 then ", " else "" : String) ++ t) r ++ ("]" : Str)).length := rfl
    have e2 : ((("[" : Str) ++ (if (0 : Nat) > 0 then ", " else "" : String) ++ t)).length = 1 + t.length := by
      rw [strLen_append, strLen_append]; rfl
    have p := piled_le h
    rw [piled_cons] at p
    rw [e, strLen_append, textFrom_length_pos r 1 _ (Nat.succ_pos 0), e2]
    have o : ("]" : Str).length = 1 := rfl
    omega
theorem toRs_due {d : IV} {p : PyData} (h : d.toR = some p) : IV.toRs (due d) = some [p, p, p, p, p, p, .int 1, p, .int 2, p, p, p, p, p, p, p, p, p, p, p, p, p, .int 3, p, p, .int 4] := by
  have i : ∀ n : Int, (IV.int n).toR = some (.int n) := fun _ => rfl
  simp only [due, IV.toRs, h, i]
theorem due_shown {d : IV} (h : Sh d) : ∃ w, reprL (due d) = some w := by
  obtain ⟨p, h1, h2, h3, h4⟩ := h
  refine ⟨(PyData.list [p, p, p, p, p, p, .int 1, p, .int 2, p, p, p, p, p, p, p, p, p, p, p, p, p, .int 3, p, p, .int 4]).shown.cps.toList, ?_⟩
  unfold reprL
  rw [toRs_due h1]
  refine if_pos ⟨?_, ?_, ?_⟩
  · have i1 : (PyData.int 1).showable = true := by decide +kernel
    have i2 : (PyData.int 2).showable = true := by decide +kernel
    have i3 : (PyData.int 3).showable = true := by decide +kernel
    have i4 : (PyData.int 4).showable = true := by decide +kernel
    rw [PyData.showable]
    simp only [PyData.showableAll, h2, i1, i2, i3, i4, Bool.and_self]
  · have a : ∀ t ∈ PyData.shownAll [p, p, p, p, p, p, .int 1, p, .int 2, p, p, p, p, p, p, p, p, p, p, p, p, p, .int 3, p, p, .int 4], t.length ≤ 100 := by
      intro t ht
      simp only [PyData.shownAll, List.mem_cons, List.not_mem_nil, or_false] at ht
      have q : ∀ n : Int, n.natAbs < 10 ^ 30 → (PyData.int n).shown.length ≤ 100 := fun n hn => by rw [PyData.shown_int]; exact len_int hn
      have q1 := q 1 (by decide); have q2 := q 2 (by decide); have q3 := q 3 (by decide); have q4 := q 4 (by decide)
      rcases ht with rfl | rfl | rfl | rfl | rfl | rfl | rfl | rfl | rfl | rfl | rfl | rfl | rfl | rfl | rfl | rfl | rfl | rfl | rfl | rfl | rfl | rfl | rfl | rfl | rfl | rfl <;> assumption
    have z := list_len a
    have e : (PyData.shownAll [p, p, p, p, p, p, .int 1, p, .int 2, p, p, p, p, p, p, p, p, p, p, p, p, p, .int 3, p, p, .int 4]).length = 26 := by simp only [PyData.shownAll]; rfl
    rw [e] at z
    simp only [PyData.shown]
    exact Nat.le_trans z (by decide)
  · simp only [PyData.depth, PyData.depthAll]
    omega
theorem r_right {N k : Nat} {d : IV} (h : Sh d) : runF T.fns N (k + 2) 9 [.lst (mk24 d), d] = some (.ok (.bl true), [.non, .non]) := by
  obtain ⟨w, hw⟩ := due_shown h
  exact e_right hw
/-! ### the law -/
def kinds (m : Int) : List IV := [.non, .bl true, .int 0, .str [], .tup [.int 2, .int 5], .tup [.str [97], .int 1], .lst [.int 1, .str [120]], .dct [(.inr "a", .int 1)], .int (0 - m), .tup []]
theorem sh_const {d : IV} {p : PyData} (h : d.toR = some p) (q : (p.showable && (decide (p.shown.length ≤ 100) && decide (p.depth ≤ 10))) = true) : Sh d := by
  simp only [Bool.and_eq_true, decide_eq_true_eq] at q
  exact ⟨p, h, q.1, q.2.1, q.2.2⟩
theorem sh_kinds {m : Int} {d : IV} (hb : m.natAbs < 10 ^ 30) (h : d ∈ kinds m) : Sh d := by
  simp only [kinds, List.mem_cons, List.not_mem_nil, or_false] at h
  rcases h with rfl | rfl | rfl | rfl | rfl | rfl | rfl | rfl | rfl | rfl
  · exact sh_const (p := .none) rfl (by decide +kernel)
  · exact sh_const (p := .bool true) rfl (by decide +kernel)
  · exact sh_int (by decide)
  · exact sh_const (p := .str (sOf [])) rfl (by decide +kernel)
  · exact sh_const (p := .tuple [.int 2, .int 5]) rfl (by decide +kernel)
  · exact sh_const (p := .tuple [.str (sOf [97]), .int 1]) rfl (by decide +kernel)
  · exact sh_const (p := .list [.int 1, .str (sOf [120])]) rfl (by decide +kernel)
  · exact sh_const (p := .dict [(.str "a", .int 1)]) rfl (by decide +kernel)
  · exact sh_int (by omega)
  · exact sh_const (p := .tuple []) rfl (by decide +kernel)
theorem sh_non : Sh .non := sh_const (p := .none) rfl (by decide +kernel)
def outB : Ss := match b_law with
  | .cons (.loop _ _ b) _ => b
  | _ => .nil
theorem body_ok {ns : List Int} {v : Int} {j : Nat} (hj : j < 8) {a3 a4 a5 a6 : Sl} {F : Fl → List Sl → Prop} (h : ∀ b3 b4 b5 b6, F .nx [.i (.lst (ns.map .int)), .i (.int j), .i (.int v), b3, b4, b5, b6]) :
    Ok (evSs (runF T.fns 100000 8) 100000 outB [.i (.lst (ns.map .int)), .i (.int j), .i (.int v), a3, a4, a5, a6]) F := by
  simp only [outB, b_law]
  refine ok_mid (fun ρ => ∃ s, St 0 s ∧ ρ = [.i (.lst (ns.map .int)), .i (.int j), .i (.int v), .o s, a4, a5, a6]) ?_ ?_
  · simp
    refine (r_stream (N := 100000) (k := 6) v j (by omega) (by omega)).mono fun d ms ⟨e1, e2⟩ => ?_
    subst e2
    simp [e1]
  rintro ρ ⟨s, hs, rfl⟩
  refine ok_mid (fun ρ => ∃ m : Int, m.natAbs < 10 ^ 30 ∧ ρ = [.i (.lst (ns.map .int)), .i (.int j), .i (.int v), .o s, .i (.int m), a5, a6]) ?_ ?_
  · have p30 : binD .pow (.int 10) (.int 30) = some (.int 1000000000000000000000000000000) := by kernel_rfl
    have md : binD .mod (.int v) (.int 1000000000000000000000000000000) = some (.int (v % 1000000000000000000000000000000)) := b_modI (by decide)
    have hb : (0 : Int) ≤ v % 1000000000000000000000000000000 ∧ v % 1000000000000000000000000000000 < 1000000000000000000000000000000 := ⟨Int.emod_nonneg _ (by decide), Int.emod_lt_of_pos _ (by decide)⟩
    simp [p30, md, fnD]
    omega
  rintro ρ ⟨m, hm, rfl⟩
  refine ok_mid (fun ρ => ρ = [.i (.lst (ns.map .int)), .i (.int j), .i (.int v), .o s, .i (.int m), .i (.lst (kinds m)), a6]) ?_ ?_
  · simp [SZ, kinds, binD, subD]
  rintro ρ rfl
  refine ok_mid (fun ρ => ∃ d s', d ∈ kinds m ∧ ρ = [.i (.lst (ns.map .int)), .i (.int j), .i (.int v), .o s', .i (.int m), .i (.lst (kinds m)), .i d]) ?_ ?_
  · simp
    refine (r_pick (N := 100000) (k := 5) (xs := kinds m) hs (by decide) (by simp [kinds]) (by simp [kinds])).mono fun d ms ⟨e1, s', e2, _⟩ => ?_
    subst e2
    simp [putM, Sl.put, e1]
  rintro ρ ⟨d, s', hd, rfl⟩
  have made : ∀ d : IV, runF T.fns 100000 8 4 [d] = some (.ok (.lst (mk24 d)), [.non]) := e_made 100000 7
  have named : ∀ d : IV, runF T.fns 100000 8 5 [d] = some (.ok (.lst (mk24 d)), [.non]) := e_named 100000 7
  have r1 : runF T.fns 100000 8 9 [.lst (mk24 d), d] = some (.ok (.bl true), [.non, .non]) := r_right (k := 6) (sh_kinds hm hd)
  have r2 : runF T.fns 100000 8 9 [.lst (mk24 (.int m)), .int m] = some (.ok (.bl true), [.non, .non]) := r_right (k := 6) (sh_int hm)
  have r3 : runF T.fns 100000 8 9 [.lst (mk24 .non), .non] = some (.ok (.bl true), [.non, .non]) := r_right (k := 6) sh_non
  refine ok_mid (fun ρ => ρ = [.i (.lst (ns.map .int)), .i (.int j), .i (.int v), .o s', .i (.int m), .i (.lst (kinds m)), .i d]) ?_ ?_
  · simp [made, named, r1, OkF]
  rintro ρ rfl
  refine ok_mid (fun ρ => ρ = [.i (.lst (ns.map .int)), .i (.int j), .i (.int v), .o s', .i (.int m), .i (.lst (kinds m)), .i d]) ?_ ?_
  · simp [made, named, r2, r3, OkF]
  rintro ρ rfl
  exact h _ _ _ _
theorem tg2 {ρ : List Sl} {x y : IV} {i j : Nat} {Q : Unit → List Sl → Prop} : Ok (rTg [i, j] (.tup [x, y]) ρ) Q = Q () ((ρ.set i (.i x)).set j (.i y)) := rfl
theorem seqE_l {xs : List IV} : seqE (.lst xs) = some (enumD (fun n x => .tup [.int (n : Nat), x]) 0 xs) := rfl
theorem enumD_get {f : Nat → IV → IV} : ∀ {xs : List IV} {n i : Nat}, (enumD f n xs)[i]? = xs[i]?.map (f (n + i))
  | [], n, i => by simp [enumD]
  | x :: xs, n, 0 => by simp [enumD]
  | x :: xs, n, i + 1 => by
    simp only [enumD, List.getElem?_cons_succ]
    rw [enumD_get, show n + 1 + i = n + (i + 1) by omega]
theorem run_law (ns : List Int) (h : ns.length ≤ 63) : ∃ ms, runF T.fns 100000 9 10 [.lst (ns.map .int)] = some (.ok (.bl true), ms) := by
  suffices z : OkF (runF T.fns 100000 9 10 [.lst (ns.map .int)]) fun d _ => d = .bl true by
    obtain ⟨d, ms, e, rfl⟩ := z.eq
    exact ⟨ms, e⟩
  refine okF_run (fn := f_law) rfl rfl ?_
  have ob := @body_ok
  simp only [outB, b_law] at ob
  simp only [f_law, b_law, Fn.start, startA]
  simp only [List.length_cons, List.length_nil, List.replicate, List.cons_append, List.nil_append, Bool.false_eq_true, if_false]
  refine ok_mid (fun ρ => ∃ a1 a2 a3 a4 a5 a6, ρ = [.i (.lst (ns.map .int)), a1, a2, a3, a4, a5, a6]) ?_ ?_
  · have ad : binD .add (.lst (ns.map .int)) (.lst [.int 0]) = some (.lst (ns.map .int ++ [.int 0])) := b_addL (by simp; show ns.length + 1 ≤ 16777216; omega)
    have sl : slD (.lst (ns.map .int ++ [.int 0])) none (some 8) = some (.lst (cutL (ns.map .int ++ [.int 0]) none (some 8))) := rfl
    simp [SZ, ad, sl, seqE_l]
    generalize hxs : cutL (ns.map IV.int ++ [IV.int 0]) none (some 8) = xs
    have xl : xs.length ≤ 8 := by
      rw [← hxs]
      unfold cutL
      rw [List.length_take, List.length_drop, HT.sIx_none, show HT.sIx (ns.map IV.int ++ [IV.int 0]).length (ns.map IV.int ++ [IV.int 0]).length (some 8) = min 8 (ns.map IV.int ++ [IV.int 0]).length from HT.sIx_nat _ _ 8]
      omega
    have xi : ∀ x ∈ xs, ∃ v : Int, x = .int v := by
      intro x hx
      rw [← hxs] at hx
      unfold cutL at hx
      have hx := List.mem_of_mem_drop (List.mem_of_mem_take hx)
      rcases List.mem_append.mp hx with z | z
      · obtain ⟨v, _, e⟩ := List.mem_map.mp z
        exact ⟨v, e.symm⟩
      · exact ⟨0, List.mem_singleton.mp z⟩
    refine ok_for (fun _ ρ => ∃ a1 a2 a3 a4 a5 a6, ρ = [.i (.lst (ns.map .int)), a1, a2, a3, a4, a5, a6]) _ 0 ⟨_, _, _, _, _, _, rfl⟩ ?_ ?_
    · rintro i y ρ hy ⟨a1, a2, a3, a4, a5, a6, rfl⟩
      rw [enumD_get] at hy
      cases hx : xs[i]? with
      | none => rw [hx] at hy; cases hy
      | some x =>
        rw [hx] at hy
        cases hy
        have hi : i < 8 := Nat.lt_of_lt_of_le (List.getElem?_eq_some_iff.mp hx).1 xl
        obtain ⟨v, rfl⟩ := xi x (List.mem_of_getElem? hx)
        rw [tg2]
        refine ob (j := 0 + i) (by omega) ?_
        intro b3 b4 b5 b6
        exact ⟨_, _, b3, b4, b5, b6, rfl⟩
    · rintro ρ ⟨a1, a2, a3, a4, a5, a6, rfl⟩
      exact ⟨rfl, a1, a2, a3, a4, a5, a6, rfl⟩
  rintro ρ ⟨a1, a2, a3, a4, a5, a6, rfl⟩
  simp [mutsOf]
end K01


open PySem PySem.W PyProof.Rows
set_option maxRecDepth 100000 in
set_option maxHeartbeats 0 in
theorem PySem.Challenge.cw_macroasm_k01_error_classes_holds : PySem.Challenge.rw_macroasm_k01_error_classes.Holds := by
  w_on; o_law; k_head; (case hw => w_witness2)
  k_fill
  refine Mx.walk_run (l := PySem.Challenge.rw_macroasm_k01_error_classes) (n := 63) (k := 9) (nF := 100000) (iL := 10) (x := "_law_script") (T := K01.T) (fn := K01.f_law) rfl (by decide) rfl ⟨rfl, by decide, by decide⟩ (fun w h Y => PySem.W.kIn_of Y) rfl rfl rfl rfl rfl ?F K01.run_law
  case F =>
    intro w mg h KX G
    have xk := Mx.xk_mk (P := PySem.Challenge.rw_macroasm_k01_error_classes.prog) KX (by k_is) (by k_is) (by decide +kernel) (by k_is)
    refine' K01.all_mk KX G ?z_b0 ?z_b1 ?z_b2 ?z_b3 ?z_b4 ?z_b5 ?z_a0 ?z_l0 ?z_c0 ?z_k0 ?z_a1 ?z_l1 ?z_c1 ?z_k1 ?z_a2 ?z_l2 ?z_c2 ?z_k2 ?z_a3 ?z_l3 ?z_c3 ?z_k3 ?z_a4 ?z_l4 ?z_c4 ?z_k4 ?z_a5 ?z_l5 ?z_c5 ?z_k5 ?z_a6 ?z_l6 ?z_c6 ?z_k6 ?z_a7 ?z_l7 ?z_c7 ?z_k7 ?z_a8 ?z_l8 ?z_c8 ?z_k8 ?z_a9 ?z_l9 ?z_c9 ?z_k9 ?z_a10 ?z_l10 ?z_c10 ?z_k10 ?z_sup ?z_x0 ?z_m0 ?z_x1 ?z_m1 ?z_x2 ?z_m2 ?z_x3 ?z_m3 ?z_x4 ?z_m4 ?z_x5 ?z_m5 ?z_x6 ?z_m6 ?z_x7 ?z_m7 ?z_x8 ?z_m8 ?z_x9 ?z_m9 ?z_x10 ?z_m10 ?z_x11 ?z_m11 ?z_x12 ?z_m12 ?z_x13 ?z_m13 ?z_x14 ?z_m14 ?z_x15 ?z_m15 ?z_x16 ?z_m16 ?z_x17 ?z_m17 ?z_x18 ?z_m18 ?z_x19 ?z_m19 ?z_x20 ?z_m20 ?z_x21 ?z_m21 ?z_x22 ?z_m22 ?z_x23 ?z_m23 ?z_tb ?z_ty_BadOperands ?z_an_BadOperands ?z_ty_BadName ?z_an_BadName ?z_ty_BadLine ?z_an_BadLine ?z_ty_BadText ?z_an_BadText ?z_ty_BadCall ?z_an_BadCall ?z_ty_BadBlock ?z_an_BadBlock ?z_ty_BadObject ?z_an_BadObject ?z_ty_BadNumber ?z_an_BadNumber ?z_ty_BadTable ?z_an_BadTable ?z_ty_DividedByZero ?z_an_DividedByZero ?z_ty_NotPlain ?z_an_NotPlain ?z_ty_BadTree ?z_an_BadTree ?z_ty_NoInstruction ?z_an_NoInstruction ?z_ty_NoName ?z_an_NoName ?z_ty_BadShift ?z_an_BadShift ?z_ty_Cycle ?z_an_Cycle ?z_ty_Ring ?z_an_Ring ?z_ty_NoOrigin ?z_an_NoOrigin ?z_ty_OutOfRange ?z_an_OutOfRange ?z_ty_Unresolved ?z_an_Unresolved ?z_ty_Taken ?z_an_Taken ?z_ty_Trouble ?z_an_Trouble ?z_ty_TooLarge ?z_an_TooLarge ?z_ty_NothingLeft ?z_an_NothingLeft ?z_an_LookupTrouble ?z_cf_LookupTrouble ?z_ty_LookupTrouble ?z_an_ValueTrouble ?z_cf_ValueTrouble ?z_ty_ValueTrouble ?z_an_TextError ?z_cf_TextError ?z_ty_TextError ?z_an_LimitTrouble ?z_cf_LimitTrouble ?z_ty_LimitTrouble ?z_an_StateTrouble ?z_cf_StateTrouble ?z_ty_StateTrouble ?z_nb_ValueError ?z_nb_LookupError ?z_nb_ArithmeticError ?z_nb_OverflowError ?z_nb_RuntimeError ?z_nb_KeyError ?z_nb_IndexError ?z_nb_NotImplementedError ?z_nb_ZeroDivisionError ?z_q0 ?z_q1 ?z_q2 ?z_q3 ?z_q4 ?z_q5 ?z_q6 ?z_q7 ?z_q8 ?z_q9 ?z_q10 ?z_q11 ?z_q12 ?z_q13 ?z_q14 ?z_q15 ?z_q16 ?z_q17 ?z_q18 ?z_q19 ?z_q20 ?z_q21 ?z_q22 ?z_q23 ?z_q24 ?z_q25 ?z_q26 ?z_q27 ?z_q28 ?z_q29 ?z_q30 ?z_q31 ?z_q32 ?z_q33 ?z_q34
    (case z_b0 => k_is)
    (case z_b1 => k_is)
    (case z_b2 => k_is)
    (case z_b3 => k_is)
    (case z_b4 => k_is)
    (case z_b5 => k_is)
    (case z_a0 => k_is)
    (case z_l0 => k_is)
    (case z_c0 => k_is)
    (case z_k0 => k_is)
    (case z_a1 => k_is)
    (case z_l1 => k_is)
    (case z_c1 => k_is)
    (case z_k1 => k_is)
    (case z_a2 => k_is)
    (case z_l2 => k_is)
    (case z_c2 => k_is)
    (case z_k2 => k_is)
    (case z_a3 => k_is)
    (case z_l3 => k_is)
    (case z_c3 => k_is)
    (case z_k3 => k_is)
    (case z_a4 => k_is)
    (case z_l4 => k_is)
    (case z_c4 => k_is)
    (case z_k4 => k_is)
    (case z_a5 => k_is)
    (case z_l5 => k_is)
    (case z_c5 => k_is)
    (case z_k5 => k_is)
    (case z_a6 => k_is)
    (case z_l6 => k_is)
    (case z_c6 => k_is)
    (case z_k6 => k_is)
    (case z_a7 => k_is)
    (case z_l7 => k_is)
    (case z_c7 => k_is)
    (case z_k7 => k_is)
    (case z_a8 => k_is)
    (case z_l8 => k_is)
    (case z_c8 => k_is)
    (case z_k8 => k_is)
    (case z_a9 => k_is)
    (case z_l9 => k_is)
    (case z_c9 => k_is)
    (case z_k9 => k_is)
    (case z_a10 => k_is)
    (case z_l10 => k_is)
    (case z_c10 => k_is)
    (case z_k10 => k_is)
    (case z_sup => k_is)
    (case z_x0 => refine' K01.x_Trouble xk KX G ?y_a ?y_ini ?y_ovr ?y_hd ?y_sa ?y_kC ?y_ga ?y_gg ?y_sub ?y_ca ?y_cm ?y_n_origin ?y_n_cause ?y_find ?y_sup ?y_subB ?y_mroC ?y_hfn ?y_lf ?y_lc ?y_lk ?y_file ?y_lcc; (case y_a => k_is); (case y_ini => kx_is); (case y_ovr => kx_is); (case y_hd => k_is); (case y_sa => k_is); (case y_kC => k_is); (case y_ga => k_is); (case y_gg => k_is); (case y_sub => k_is); (case y_ca => k_is); (case y_cm => k_is); (case y_n_origin => k_is); (case y_n_cause => k_is); (case y_find => k_is); (case y_sup => ks_is); (case y_subB => k_is); (case y_mroC => k_is); (case y_hfn => k_is); (case y_lf => k_is); (case y_lc => k_is); (case y_lk => k_is); (case y_file => decide +kernel); (case y_lcc => k_is))
    (case z_m0 => k_is)
    (case z_x1 => refine' K01.x_BadLine xk KX G ?y_a ?y_ini ?y_ovr ?y_hd ?y_sa ?y_kC ?y_ga ?y_gg ?y_sub ?y_ca ?y_cm ?y_n_column ?y_find ?y_sup ?y_subB ?y_mroC ?y_hfn ?y_lf ?y_lc ?y_lk ?y_file ?y_lcc; (case y_a => k_is); (case y_ini => kx_is); (case y_ovr => kx_is); (case y_hd => k_is); (case y_sa => k_is); (case y_kC => k_is); (case y_ga => k_is); (case y_gg => k_is); (case y_sub => k_is); (case y_ca => k_is); (case y_cm => k_is); (case y_n_column => k_is); (case y_find => k_is); (case y_sup => ks_is); (case y_subB => k_is); (case y_mroC => k_is); (case y_hfn => k_is); (case y_lf => k_is); (case y_lc => k_is); (case y_lk => k_is); (case y_file => decide +kernel); (case y_lcc => k_is))
    (case z_m1 => k_is)
    (case z_x2 => refine' K01.x_BadName xk KX G ?y_a ?y_ini ?y_ovr ?y_hd ?y_sa ?y_kC ?y_ga ?y_gg ?y_sub ?y_ca ?y_cm ?y_n_given ?y_find ?y_sup ?y_subB ?y_mroC ?y_hfn ?y_lf ?y_lc ?y_lk ?y_file ?y_lcc; (case y_a => k_is); (case y_ini => kx_is); (case y_ovr => kx_is); (case y_hd => k_is); (case y_sa => k_is); (case y_kC => k_is); (case y_ga => k_is); (case y_gg => k_is); (case y_sub => k_is); (case y_ca => k_is); (case y_cm => k_is); (case y_n_given => k_is); (case y_find => k_is); (case y_sup => ks_is); (case y_subB => k_is); (case y_mroC => k_is); (case y_hfn => k_is); (case y_lf => k_is); (case y_lc => k_is); (case y_lk => k_is); (case y_file => decide +kernel); (case y_lcc => k_is))
    (case z_m2 => k_is)
    (case z_x3 => refine' K01.x_BadOperands xk KX G ?y_a ?y_ini ?y_ovr ?y_hd ?y_sa ?y_kC ?y_ga ?y_gg ?y_sub ?y_ca ?y_cm ?y_n_index ?y_find ?y_sup ?y_subB ?y_mroC ?y_hfn ?y_lf ?y_lc ?y_lk ?y_file ?y_lcc; (case y_a => k_is); (case y_ini => kx_is); (case y_ovr => kx_is); (case y_hd => k_is); (case y_sa => k_is); (case y_kC => k_is); (case y_ga => k_is); (case y_gg => k_is); (case y_sub => k_is); (case y_ca => k_is); (case y_cm => k_is); (case y_n_index => k_is); (case y_find => k_is); (case y_sup => ks_is); (case y_subB => k_is); (case y_mroC => k_is); (case y_hfn => k_is); (case y_lf => k_is); (case y_lc => k_is); (case y_lk => k_is); (case y_file => decide +kernel); (case y_lcc => k_is))
    (case z_m3 => k_is)
    (case z_x4 => refine' K01.x_BadBlock xk KX G ?y_a ?y_ini ?y_ovr ?y_hd ?y_sa ?y_kC ?y_ga ?y_gg ?y_sub ?y_ca ?y_cm ?y_n_line ?y_find ?y_sup ?y_subB ?y_mroC ?y_hfn ?y_lf ?y_lc ?y_lk ?y_file ?y_lcc; (case y_a => k_is); (case y_ini => kx_is); (case y_ovr => kx_is); (case y_hd => k_is); (case y_sa => k_is); (case y_kC => k_is); (case y_ga => k_is); (case y_gg => k_is); (case y_sub => k_is); (case y_ca => k_is); (case y_cm => k_is); (case y_n_line => k_is); (case y_find => k_is); (case y_sup => ks_is); (case y_subB => k_is); (case y_mroC => k_is); (case y_hfn => k_is); (case y_lf => k_is); (case y_lc => k_is); (case y_lk => k_is); (case y_file => decide +kernel); (case y_lcc => k_is))
    (case z_m4 => k_is)
    (case z_x5 => refine' K01.x_BadCall xk KX G ?y_a ?y_ini ?y_ovr ?y_hd ?y_sa ?y_kC ?y_ga ?y_gg ?y_sub ?y_ca ?y_cm ?y_n_given ?y_find ?y_sup ?y_subB ?y_mroC ?y_hfn ?y_lf ?y_lc ?y_lk ?y_file ?y_lcc; (case y_a => k_is); (case y_ini => kx_is); (case y_ovr => kx_is); (case y_hd => k_is); (case y_sa => k_is); (case y_kC => k_is); (case y_ga => k_is); (case y_gg => k_is); (case y_sub => k_is); (case y_ca => k_is); (case y_cm => k_is); (case y_n_given => k_is); (case y_find => k_is); (case y_sup => ks_is); (case y_subB => k_is); (case y_mroC => k_is); (case y_hfn => k_is); (case y_lf => k_is); (case y_lc => k_is); (case y_lk => k_is); (case y_file => decide +kernel); (case y_lcc => k_is))
    (case z_m5 => k_is)
    (case z_x6 => refine' K01.x_BadText xk KX G ?y_a ?y_ini ?y_ovr ?y_hd ?y_sa ?y_kC ?y_ga ?y_gg ?y_sub ?y_ca ?y_cm ?y_n_row ?y_n_word ?y_find ?y_sup ?y_subB ?y_mroC ?y_hfn ?y_lf ?y_lc ?y_lk ?y_file ?y_lcc; (case y_a => k_is); (case y_ini => kx_is); (case y_ovr => kx_is); (case y_hd => k_is); (case y_sa => k_is); (case y_kC => k_is); (case y_ga => k_is); (case y_gg => k_is); (case y_sub => k_is); (case y_ca => k_is); (case y_cm => k_is); (case y_n_row => k_is); (case y_n_word => k_is); (case y_find => k_is); (case y_sup => ks_is); (case y_subB => k_is); (case y_mroC => k_is); (case y_hfn => k_is); (case y_lf => k_is); (case y_lc => k_is); (case y_lk => k_is); (case y_file => decide +kernel); (case y_lcc => k_is))
    (case z_m6 => k_is)
    (case z_x7 => refine' K01.x_BadTable xk KX G ?y_a ?y_ini ?y_ovr ?y_hd ?y_sa ?y_kC ?y_ga ?y_gg ?y_sub ?y_ca ?y_cm ?y_n_row ?y_n_form ?y_find ?y_sup ?y_subB ?y_mroC ?y_hfn ?y_lf ?y_lc ?y_lk ?y_file ?y_lcc; (case y_a => k_is); (case y_ini => kx_is); (case y_ovr => kx_is); (case y_hd => k_is); (case y_sa => k_is); (case y_kC => k_is); (case y_ga => k_is); (case y_gg => k_is); (case y_sub => k_is); (case y_ca => k_is); (case y_cm => k_is); (case y_n_row => k_is); (case y_n_form => k_is); (case y_find => k_is); (case y_sup => ks_is); (case y_subB => k_is); (case y_mroC => k_is); (case y_hfn => k_is); (case y_lf => k_is); (case y_lc => k_is); (case y_lk => k_is); (case y_file => decide +kernel); (case y_lcc => k_is))
    (case z_m7 => k_is)
    (case z_x8 => refine' K01.x_BadNumber xk KX G ?y_a ?y_ini ?y_ovr ?y_hd ?y_sa ?y_kC ?y_ga ?y_gg ?y_sub ?y_ca ?y_cm ?y_n_given ?y_find ?y_sup ?y_subB ?y_mroC ?y_hfn ?y_lf ?y_lc ?y_lk ?y_file ?y_lcc; (case y_a => k_is); (case y_ini => kx_is); (case y_ovr => kx_is); (case y_hd => k_is); (case y_sa => k_is); (case y_kC => k_is); (case y_ga => k_is); (case y_gg => k_is); (case y_sub => k_is); (case y_ca => k_is); (case y_cm => k_is); (case y_n_given => k_is); (case y_find => k_is); (case y_sup => ks_is); (case y_subB => k_is); (case y_mroC => k_is); (case y_hfn => k_is); (case y_lf => k_is); (case y_lc => k_is); (case y_lk => k_is); (case y_file => decide +kernel); (case y_lcc => k_is))
    (case z_m8 => k_is)
    (case z_x9 => refine' K01.x_BadObject xk KX G ?y_a ?y_ini ?y_ovr ?y_hd ?y_sa ?y_kC ?y_ga ?y_gg ?y_sub ?y_ca ?y_cm ?y_n_given ?y_find ?y_sup ?y_subB ?y_mroC ?y_hfn ?y_lf ?y_lc ?y_lk ?y_file ?y_lcc; (case y_a => k_is); (case y_ini => kx_is); (case y_ovr => kx_is); (case y_hd => k_is); (case y_sa => k_is); (case y_kC => k_is); (case y_ga => k_is); (case y_gg => k_is); (case y_sub => k_is); (case y_ca => k_is); (case y_cm => k_is); (case y_n_given => k_is); (case y_find => k_is); (case y_sup => ks_is); (case y_subB => k_is); (case y_mroC => k_is); (case y_hfn => k_is); (case y_lf => k_is); (case y_lc => k_is); (case y_lk => k_is); (case y_file => decide +kernel); (case y_lcc => k_is))
    (case z_m9 => k_is)
    (case z_x10 => refine' K01.x_BadTree xk KX G ?y_a ?y_ini ?y_ovr ?y_hd ?y_sa ?y_kC ?y_ga ?y_gg ?y_sub ?y_ca ?y_cm ?y_n_given ?y_find ?y_sup ?y_subB ?y_mroC ?y_hfn ?y_lf ?y_lc ?y_lk ?y_file ?y_lcc; (case y_a => k_is); (case y_ini => kx_is); (case y_ovr => kx_is); (case y_hd => k_is); (case y_sa => k_is); (case y_kC => k_is); (case y_ga => k_is); (case y_gg => k_is); (case y_sub => k_is); (case y_ca => k_is); (case y_cm => k_is); (case y_n_given => k_is); (case y_find => k_is); (case y_sup => ks_is); (case y_subB => k_is); (case y_mroC => k_is); (case y_hfn => k_is); (case y_lf => k_is); (case y_lc => k_is); (case y_lk => k_is); (case y_file => decide +kernel); (case y_lcc => k_is))
    (case z_m10 => k_is)
    (case z_x11 => refine' K01.x_NotPlain xk KX G ?y_a ?y_ini ?y_ovr ?y_hd ?y_sa ?y_kC ?y_ga ?y_gg ?y_sub ?y_ca ?y_cm ?y_n_path ?y_find ?y_sup ?y_subB ?y_mroC ?y_hfn ?y_lf ?y_lc ?y_lk ?y_file ?y_lcc; (case y_a => k_is); (case y_ini => kx_is); (case y_ovr => kx_is); (case y_hd => k_is); (case y_sa => k_is); (case y_kC => k_is); (case y_ga => k_is); (case y_gg => k_is); (case y_sub => k_is); (case y_ca => k_is); (case y_cm => k_is); (case y_n_path => k_is); (case y_find => k_is); (case y_sup => ks_is); (case y_subB => k_is); (case y_mroC => k_is); (case y_hfn => k_is); (case y_lf => k_is); (case y_lc => k_is); (case y_lk => k_is); (case y_file => decide +kernel); (case y_lcc => k_is))
    (case z_m11 => k_is)
    (case z_x12 => refine' K01.x_DividedByZero xk KX G ?y_a ?y_ini ?y_ovr ?y_hd ?y_sa ?y_kC ?y_ga ?y_gg ?y_sub ?y_ca ?y_cm ?y_find; (case y_a => k_is); (case y_ini => kx_is); (case y_ovr => kx_is); (case y_hd => k_is); (case y_sa => k_is); (case y_kC => k_is); (case y_ga => k_is); (case y_gg => k_is); (case y_sub => k_is); (case y_ca => k_is); (case y_cm => k_is); (case y_find => k_is))
    (case z_m12 => k_is)
    (case z_x13 => refine' K01.x_BadShift xk KX G ?y_a ?y_ini ?y_ovr ?y_hd ?y_sa ?y_kC ?y_ga ?y_gg ?y_sub ?y_ca ?y_cm ?y_n_given ?y_find ?y_sup ?y_subB ?y_mroC ?y_hfn ?y_lf ?y_lc ?y_lk ?y_file ?y_lcc; (case y_a => k_is); (case y_ini => kx_is); (case y_ovr => kx_is); (case y_hd => k_is); (case y_sa => k_is); (case y_kC => k_is); (case y_ga => k_is); (case y_gg => k_is); (case y_sub => k_is); (case y_ca => k_is); (case y_cm => k_is); (case y_n_given => k_is); (case y_find => k_is); (case y_sup => ks_is); (case y_subB => k_is); (case y_mroC => k_is); (case y_hfn => k_is); (case y_lf => k_is); (case y_lc => k_is); (case y_lk => k_is); (case y_file => decide +kernel); (case y_lcc => k_is))
    (case z_m13 => k_is)
    (case z_x14 => refine' K01.x_NoName xk KX G ?y_a ?y_ini ?y_ovr ?y_hd ?y_sa ?y_kC ?y_ga ?y_gg ?y_sub ?y_ca ?y_cm ?y_n_path ?y_find ?y_sup ?y_subB ?y_mroC ?y_hfn ?y_lf ?y_lc ?y_lk ?y_file ?y_lcc; (case y_a => k_is); (case y_ini => kx_is); (case y_ovr => kx_is); (case y_hd => k_is); (case y_sa => k_is); (case y_kC => k_is); (case y_ga => k_is); (case y_gg => k_is); (case y_sub => k_is); (case y_ca => k_is); (case y_cm => k_is); (case y_n_path => k_is); (case y_find => k_is); (case y_sup => ks_is); (case y_subB => k_is); (case y_mroC => k_is); (case y_hfn => k_is); (case y_lf => k_is); (case y_lc => k_is); (case y_lk => k_is); (case y_file => decide +kernel); (case y_lcc => k_is))
    (case z_m14 => k_is)
    (case z_x15 => refine' K01.x_NoInstruction xk KX G ?y_a ?y_ini ?y_ovr ?y_hd ?y_sa ?y_kC ?y_ga ?y_gg ?y_sub ?y_ca ?y_cm ?y_n_given ?y_find ?y_sup ?y_subB ?y_mroC ?y_hfn ?y_lf ?y_lc ?y_lk ?y_file ?y_lcc; (case y_a => k_is); (case y_ini => kx_is); (case y_ovr => kx_is); (case y_hd => k_is); (case y_sa => k_is); (case y_kC => k_is); (case y_ga => k_is); (case y_gg => k_is); (case y_sub => k_is); (case y_ca => k_is); (case y_cm => k_is); (case y_n_given => k_is); (case y_find => k_is); (case y_sup => ks_is); (case y_subB => k_is); (case y_mroC => k_is); (case y_hfn => k_is); (case y_lf => k_is); (case y_lc => k_is); (case y_lk => k_is); (case y_file => decide +kernel); (case y_lcc => k_is))
    (case z_m15 => k_is)
    (case z_x16 => refine' K01.x_NoOrigin xk KX G ?y_a ?y_ini ?y_ovr ?y_hd ?y_sa ?y_kC ?y_ga ?y_gg ?y_sub ?y_ca ?y_cm ?y_n_address ?y_find ?y_sup ?y_subB ?y_mroC ?y_hfn ?y_lf ?y_lc ?y_lk ?y_file ?y_lcc; (case y_a => k_is); (case y_ini => kx_is); (case y_ovr => kx_is); (case y_hd => k_is); (case y_sa => k_is); (case y_kC => k_is); (case y_ga => k_is); (case y_gg => k_is); (case y_sub => k_is); (case y_ca => k_is); (case y_cm => k_is); (case y_n_address => k_is); (case y_find => k_is); (case y_sup => ks_is); (case y_subB => k_is); (case y_mroC => k_is); (case y_hfn => k_is); (case y_lf => k_is); (case y_lc => k_is); (case y_lk => k_is); (case y_file => decide +kernel); (case y_lcc => k_is))
    (case z_m16 => k_is)
    (case z_x17 => refine' K01.x_Ring xk KX G ?y_a ?y_ini ?y_ovr ?y_hd ?y_sa ?y_kC ?y_ga ?y_gg ?y_sub ?y_ca ?y_cm ?y_n_names ?y_find ?y_sup ?y_subB ?y_mroC ?y_hfn ?y_lf ?y_lc ?y_lk ?y_file ?y_lcc; (case y_a => k_is); (case y_ini => kx_is); (case y_ovr => kx_is); (case y_hd => k_is); (case y_sa => k_is); (case y_kC => k_is); (case y_ga => k_is); (case y_gg => k_is); (case y_sub => k_is); (case y_ca => k_is); (case y_cm => k_is); (case y_n_names => k_is); (case y_find => k_is); (case y_sup => ks_is); (case y_subB => k_is); (case y_mroC => k_is); (case y_hfn => k_is); (case y_lf => k_is); (case y_lc => k_is); (case y_lk => k_is); (case y_file => decide +kernel); (case y_lcc => k_is))
    (case z_m17 => k_is)
    (case z_x18 => refine' K01.x_Cycle xk KX G ?y_a ?y_ini ?y_ovr ?y_hd ?y_sa ?y_kC ?y_ga ?y_gg ?y_sub ?y_ca ?y_cm ?y_n_names ?y_find ?y_sup ?y_subB ?y_mroC ?y_hfn ?y_lf ?y_lc ?y_lk ?y_file ?y_lcc; (case y_a => k_is); (case y_ini => kx_is); (case y_ovr => kx_is); (case y_hd => k_is); (case y_sa => k_is); (case y_kC => k_is); (case y_ga => k_is); (case y_gg => k_is); (case y_sub => k_is); (case y_ca => k_is); (case y_cm => k_is); (case y_n_names => k_is); (case y_find => k_is); (case y_sup => ks_is); (case y_subB => k_is); (case y_mroC => k_is); (case y_hfn => k_is); (case y_lf => k_is); (case y_lc => k_is); (case y_lk => k_is); (case y_file => decide +kernel); (case y_lcc => k_is))
    (case z_m18 => k_is)
    (case z_x19 => refine' K01.x_Taken xk KX G ?y_a ?y_ini ?y_ovr ?y_hd ?y_sa ?y_kC ?y_ga ?y_gg ?y_sub ?y_ca ?y_cm ?y_n_path ?y_find ?y_sup ?y_subB ?y_mroC ?y_hfn ?y_lf ?y_lc ?y_lk ?y_file ?y_lcc; (case y_a => k_is); (case y_ini => kx_is); (case y_ovr => kx_is); (case y_hd => k_is); (case y_sa => k_is); (case y_kC => k_is); (case y_ga => k_is); (case y_gg => k_is); (case y_sub => k_is); (case y_ca => k_is); (case y_cm => k_is); (case y_n_path => k_is); (case y_find => k_is); (case y_sup => ks_is); (case y_subB => k_is); (case y_mroC => k_is); (case y_hfn => k_is); (case y_lf => k_is); (case y_lc => k_is); (case y_lk => k_is); (case y_file => decide +kernel); (case y_lcc => k_is))
    (case z_m19 => k_is)
    (case z_x20 => refine' K01.x_Unresolved xk KX G ?y_a ?y_ini ?y_ovr ?y_hd ?y_sa ?y_kC ?y_ga ?y_gg ?y_sub ?y_ca ?y_cm ?y_n_names ?y_find ?y_sup ?y_subB ?y_mroC ?y_hfn ?y_lf ?y_lc ?y_lk ?y_file ?y_lcc; (case y_a => k_is); (case y_ini => kx_is); (case y_ovr => kx_is); (case y_hd => k_is); (case y_sa => k_is); (case y_kC => k_is); (case y_ga => k_is); (case y_gg => k_is); (case y_sub => k_is); (case y_ca => k_is); (case y_cm => k_is); (case y_n_names => k_is); (case y_find => k_is); (case y_sup => ks_is); (case y_subB => k_is); (case y_mroC => k_is); (case y_hfn => k_is); (case y_lf => k_is); (case y_lc => k_is); (case y_lk => k_is); (case y_file => decide +kernel); (case y_lcc => k_is))
    (case z_m20 => k_is)
    (case z_x21 => refine' K01.x_OutOfRange xk KX G ?y_a ?y_ini ?y_ovr ?y_hd ?y_sa ?y_kC ?y_ga ?y_gg ?y_sub ?y_ca ?y_cm ?y_n_section ?y_n_index ?y_find ?y_sup ?y_subB ?y_mroC ?y_hfn ?y_lf ?y_lc ?y_lk ?y_file ?y_lcc; (case y_a => k_is); (case y_ini => kx_is); (case y_ovr => kx_is); (case y_hd => k_is); (case y_sa => k_is); (case y_kC => k_is); (case y_ga => k_is); (case y_gg => k_is); (case y_sub => k_is); (case y_ca => k_is); (case y_cm => k_is); (case y_n_section => k_is); (case y_n_index => k_is); (case y_find => k_is); (case y_sup => ks_is); (case y_subB => k_is); (case y_mroC => k_is); (case y_hfn => k_is); (case y_lf => k_is); (case y_lc => k_is); (case y_lk => k_is); (case y_file => decide +kernel); (case y_lcc => k_is))
    (case z_m21 => k_is)
    (case z_x22 => refine' K01.x_NothingLeft xk KX G ?y_a ?y_ini ?y_ovr ?y_hd ?y_sa ?y_kC ?y_ga ?y_gg ?y_sub ?y_ca ?y_cm ?y_find; (case y_a => k_is); (case y_ini => kx_is); (case y_ovr => kx_is); (case y_hd => k_is); (case y_sa => k_is); (case y_kC => k_is); (case y_ga => k_is); (case y_gg => k_is); (case y_sub => k_is); (case y_ca => k_is); (case y_cm => k_is); (case y_find => k_is))
    (case z_m22 => k_is)
    (case z_x23 => refine' K01.x_TooLarge xk KX G ?y_a ?y_ini ?y_ovr ?y_hd ?y_sa ?y_kC ?y_ga ?y_gg ?y_sub ?y_ca ?y_cm ?y_n_limit ?y_find ?y_sup ?y_subB ?y_mroC ?y_hfn ?y_lf ?y_lc ?y_lk ?y_file ?y_lcc; (case y_a => k_is); (case y_ini => kx_is); (case y_ovr => kx_is); (case y_hd => k_is); (case y_sa => k_is); (case y_kC => k_is); (case y_ga => k_is); (case y_gg => k_is); (case y_sub => k_is); (case y_ca => k_is); (case y_cm => k_is); (case y_n_limit => k_is); (case y_find => k_is); (case y_sup => ks_is); (case y_subB => k_is); (case y_mroC => k_is); (case y_hfn => k_is); (case y_lf => k_is); (case y_lc => k_is); (case y_lk => k_is); (case y_file => decide +kernel); (case y_lcc => k_is))
    (case z_m23 => k_is)
    (case z_tb => decide +kernel)
    (case z_ty_BadOperands => k_is)
    (case z_an_BadOperands => k_is)
    (case z_ty_BadName => k_is)
    (case z_an_BadName => k_is)
    (case z_ty_BadLine => k_is)
    (case z_an_BadLine => k_is)
    (case z_ty_BadText => k_is)
    (case z_an_BadText => k_is)
    (case z_ty_BadCall => k_is)
    (case z_an_BadCall => k_is)
    (case z_ty_BadBlock => k_is)
    (case z_an_BadBlock => k_is)
    (case z_ty_BadObject => k_is)
    (case z_an_BadObject => k_is)
    (case z_ty_BadNumber => k_is)
    (case z_an_BadNumber => k_is)
    (case z_ty_BadTable => k_is)
    (case z_an_BadTable => k_is)
    (case z_ty_DividedByZero => k_is)
    (case z_an_DividedByZero => k_is)
    (case z_ty_NotPlain => k_is)
    (case z_an_NotPlain => k_is)
    (case z_ty_BadTree => k_is)
    (case z_an_BadTree => k_is)
    (case z_ty_NoInstruction => k_is)
    (case z_an_NoInstruction => k_is)
    (case z_ty_NoName => k_is)
    (case z_an_NoName => k_is)
    (case z_ty_BadShift => k_is)
    (case z_an_BadShift => k_is)
    (case z_ty_Cycle => k_is)
    (case z_an_Cycle => k_is)
    (case z_ty_Ring => k_is)
    (case z_an_Ring => k_is)
    (case z_ty_NoOrigin => k_is)
    (case z_an_NoOrigin => k_is)
    (case z_ty_OutOfRange => k_is)
    (case z_an_OutOfRange => k_is)
    (case z_ty_Unresolved => k_is)
    (case z_an_Unresolved => k_is)
    (case z_ty_Taken => k_is)
    (case z_an_Taken => k_is)
    (case z_ty_Trouble => k_is)
    (case z_an_Trouble => k_is)
    (case z_ty_TooLarge => k_is)
    (case z_an_TooLarge => k_is)
    (case z_ty_NothingLeft => k_is)
    (case z_an_NothingLeft => k_is)
    (case z_an_LookupTrouble => k_is)
    (case z_cf_LookupTrouble => k_is)
    (case z_ty_LookupTrouble => k_is)
    (case z_an_ValueTrouble => k_is)
    (case z_cf_ValueTrouble => k_is)
    (case z_ty_ValueTrouble => k_is)
    (case z_an_TextError => k_is)
    (case z_cf_TextError => k_is)
    (case z_ty_TextError => k_is)
    (case z_an_LimitTrouble => k_is)
    (case z_cf_LimitTrouble => k_is)
    (case z_ty_LimitTrouble => k_is)
    (case z_an_StateTrouble => k_is)
    (case z_cf_StateTrouble => k_is)
    (case z_ty_StateTrouble => k_is)
    (case z_nb_ValueError => k_is)
    (case z_nb_LookupError => k_is)
    (case z_nb_ArithmeticError => k_is)
    (case z_nb_OverflowError => k_is)
    (case z_nb_RuntimeError => k_is)
    (case z_nb_KeyError => k_is)
    (case z_nb_IndexError => k_is)
    (case z_nb_NotImplementedError => k_is)
    (case z_nb_ZeroDivisionError => k_is)
    (case z_q0 => decide +kernel)
    (case z_q1 => decide +kernel)
    (case z_q2 => decide +kernel)
    (case z_q3 => decide +kernel)
    (case z_q4 => decide +kernel)
    (case z_q5 => decide +kernel)
    (case z_q6 => decide +kernel)
    (case z_q7 => decide +kernel)
    (case z_q8 => decide +kernel)
    (case z_q9 => decide +kernel)
    (case z_q10 => decide +kernel)
    (case z_q11 => decide +kernel)
    (case z_q12 => decide +kernel)
    (case z_q13 => decide +kernel)
    (case z_q14 => decide +kernel)
    (case z_q15 => decide +kernel)
    (case z_q16 => decide +kernel)
    (case z_q17 => decide +kernel)
    (case z_q18 => decide +kernel)
    (case z_q19 => decide +kernel)
    (case z_q20 => decide +kernel)
    (case z_q21 => decide +kernel)
    (case z_q22 => decide +kernel)
    (case z_q23 => decide +kernel)
    (case z_q24 => decide +kernel)
    (case z_q25 => decide +kernel)
    (case z_q26 => decide +kernel)
    (case z_q27 => decide +kernel)
    (case z_q28 => decide +kernel)
    (case z_q29 => decide +kernel)
    (case z_q30 => decide +kernel)
    (case z_q31 => decide +kernel)
    (case z_q32 => decide +kernel)
    (case z_q33 => decide +kernel)
    (case z_q34 => decide +kernel)
#print axioms PySem.Challenge.cw_macroasm_k01_error_classes_holds


