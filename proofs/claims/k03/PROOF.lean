import PyProof.Rows.All
import Wide.All
import OpenK.AllK
import Wide.FinOn
import HandS.ForMost
import HandS.ForExc
import HandS.Walk
import HandS.IsInst
import HandS.StrMore
import HandS.TupAny
import HandS.ExcInit
import HandS.IntHex
import KE.KExcSuper
import KE.KExcMake
import KE.KExcIs
import HandS.GenList
import HandS.GenYield
import HandS.DictComp
import KE.KExcLine
import HandS.Defaults
import PySem.Challenge.RW_macroasm_k03_whole_tokens_read
set_option Elab.async false
set_option linter.all false
set_option maxRecDepth 100000
set_option maxHeartbeats 4000000
/-! Mx: a small functional language for the program's defs; part 1: data, how data stand in the heap, the store. -/
namespace Mx
open PySem PySem.Spec PyProof.Rows L2

/-- a text by its code points -/
def sOf (l : List Nat) : Str := ⟨l.toArray⟩
theorem sOf_list (l : List Nat) : (sOf l).cps.toList = l := by simp [sOf]
theorem sOf_of (s : Str) : sOf s.cps.toList = s := by simp [sOf]
theorem sOf_len (l : List Nat) : (sOf l).length = l.length := by simp [sOf, Str.length]
theorem sOf_inj {l m : List Nat} (h : sOf l = sOf m) : l = m := by
  have := congrArg (fun s : Str => s.cps.toList) h
  simpa [sOf] using this

/-- data -/
inductive IV where
  | non
  | bl (b : Bool)
  | int (i : Int)
  | str (l : List Nat)
  | tup (xs : List IV)
  | lst (xs : List IV)
  | dct (kvs : List (Key × IV))
  | ins (c : Nat) (fs : List (Str × IV))
  | exc (c : Nat) (fs : List (Str × IV))
  | cls (c : Nat)
  deriving Inhabited

/-- the heap in which nothing is tracked -/
def Hn : Hp := fun _ => none
theorem SqL.ofK {K : PySem.W.Frag} {H : Hp} {a : Addr} {xs : List V} (h : SqL K Hn a xs) : SqL K H a xs := by
  rcases h with (h | ⟨_, h⟩) | h
  · cases h
  · cases h
  · exact .inr h
theorem SqT.ofK {K : PySem.W.Frag} {H : Hp} {a : Addr} {xs : List V} (h : SqT K Hn a xs) : SqT K H a xs := by
  rcases h with (h | ⟨_, h⟩) | h
  · cases h
  · cases h
  · exact .inr h

/-- the dict of an exception: none, or at dx -/
def XD (O : List Addr) (H : Hp) (fs : List (Str × V)) : Option Addr → Prop
  | none => fs = []
  | some dx => H dx = some (exd dx fs) ∧ dx ∉ O
mutual
/-- the value v is the datum d in the heap H; nothing of it is one of the changing objects O -/
inductive Rep (K : PySem.W.Frag) (cl : Nat → Option Addr) (O : List Addr) (H : Hp) : V → IV → Prop
  | non : Rep K cl O H .non .non
  | bl (b : Bool) : Rep K cl O H (.bl b) (.bl b)
  | int (i : Int) : Rep K cl O H (.int i) (.int i)
  | str (l : List Nat) : Rep K cl O H (.str (sOf l)) (.str l)
  | tupH {a : Addr} {vs : List V} {ds : List IV} : Rd H a (.tup vs) → a ∉ O → RepAll K cl O H vs ds → Rep K cl O H (.ref a) (.tup ds)
  | tupK {a : Addr} {vs : List V} {ds : List IV} : SqT K Hn a vs → RepAll K cl O H vs ds → Rep K cl O H (.ref a) (.tup ds)
  | lstH {a : Addr} {vs : List V} {ds : List IV} : Rd H a (.lst vs) → a ∉ O → RepAll K cl O H vs ds → Rep K cl O H (.ref a) (.lst ds)
  | lstK {a : Addr} {vs : List V} {ds : List IV} : SqL K Hn a vs → RepAll K cl O H vs ds → Rep K cl O H (.ref a) (.lst ds)
  | dctH {a : Addr} {kv : List (Key × V)} {ds : List (Key × IV)} : Rd H a (.dK kv) → a ∉ O → kv.map (·.1) = ds.map (·.1) → RepAll K cl O H (kv.map (·.2)) (ds.map (·.2)) → Rep K cl O H (.ref a) (.dct ds)
  | insH {a C dx : Addr} {c : Nat} {fs : List (Str × V)} {ds : List (Str × IV)} : H a = some (.ins C dx fs) → cl c = some C → a ∉ O → fs.map (·.1) = ds.map (·.1) → RepAll K cl O H (fs.map (·.2)) (ds.map (·.2)) → Rep K cl O H (.ref a) (.ins c ds)
  | exc {a C : Addr} {dd : Option Addr} {c : Nat} {fs : List (Str × V)} {ds : List (Str × IV)} : H a = some (exo a C dd) → cl c = some C → a ∉ O → XD O H fs dd → fs.map (·.1) = ds.map (·.1) → RepAll K cl O H (fs.map (·.2)) (ds.map (·.2)) → Rep K cl O H (.ref a) (.exc c ds)
  | cls {C : Addr} {c : Nat} : cl c = some C → Rep K cl O H (.ref C) (.cls c)
inductive RepAll (K : PySem.W.Frag) (cl : Nat → Option Addr) (O : List Addr) (H : Hp) : List V → List IV → Prop
  | nil : RepAll K cl O H [] []
  | cons {v : V} {vs : List V} {d : IV} {ds : List IV} : Rep K cl O H v d → RepAll K cl O H vs ds → RepAll K cl O H (v :: vs) (d :: ds)
end

/-- all but what stands in O is as it was -/
def Keep (O : List Addr) (H H' : Hp) : Prop := ∀ a o, a ∉ O → H a = some o → H' a = some o
theorem Keep.refl (O : List Addr) (H : Hp) : Keep O H H := fun _ _ _ h => h
theorem Keep.trans {O : List Addr} {H H1 H2 : Hp} (a : Keep O H H1) (b : Keep O H1 H2) : Keep O H H2 := fun x o n h => b x o n (a x o n h)
theorem Keep.same {O : List Addr} {H H' : Hp} (h : Same H H') : Keep O H H' := fun a o _ e => h a o e
theorem same_new {H : Hp} {p : Addr} {o : HO} (h : H p = none) : Same H (upd H p o) := fun b x e => by
  rw [upd_ne (ne_of_none e h)]
  exact e
theorem Rd.keep {O : List Addr} {H H' : Hp} {a : Addr} {u : HO} (k : Keep O H H') (n : a ∉ O) (h : Rd H a u) : Rd H' a u := by
  rcases h with h | ⟨o, h⟩
  · exact .inl (k a _ n h)
  · exact .inr ⟨o, k a _ n h⟩
theorem Rd.some_of {H : Hp} {a : Addr} {u : HO} (h : Rd H a u) : H a ≠ none := by
  rcases h with h | ⟨o, h⟩ <;> (rw [h]; exact fun z => nomatch z)

theorem XD.keep {O : List Addr} {H H' : Hp} {fs : List (Str × V)} (k : Keep O H H') : ∀ {dd : Option Addr}, XD O H fs dd → XD O H' fs dd
  | none, h => h
  | some _, h => ⟨k _ _ h.2 h.1, h.2⟩
theorem XD.less {O O' : List Addr} {H : Hp} {fs : List (Str × V)} (k : ∀ a, a ∈ O' → a ∈ O) : ∀ {dd : Option Addr}, XD O H fs dd → XD O' H fs dd
  | none, h => h
  | some _, h => ⟨h.1, fun z => h.2 (k _ z)⟩
theorem XD.more {O : List Addr} {H : Hp} {fs : List (Str × V)} {p : Addr} (hp : H p = none) : ∀ {dd : Option Addr}, XD O H fs dd → XD (p :: O) H fs dd
  | none, h => h
  | some dx, h => ⟨h.1, fun z => (List.mem_cons.mp z).elim (fun e => by have h1 := h.1; rw [e, hp] at h1; cases h1) h.2⟩
section
variable {K : PySem.W.Frag} {cl : Nat → Option Addr} {O O' : List Addr} {H H' : Hp}
mutual
theorem Rep.keep (k : Keep O H H') : ∀ {v : V} {d : IV}, Rep K cl O H v d → Rep K cl O H' v d
  | _, _, .non => .non
  | _, _, .bl b => .bl b
  | _, _, .int i => .int i
  | _, _, .str l => .str l
  | _, _, .tupH h n r => .tupH (Rd.keep k n h) n (RepAll.keep k r)
  | _, _, .tupK h r => .tupK h (RepAll.keep k r)
  | _, _, .lstH h n r => .lstH (Rd.keep k n h) n (RepAll.keep k r)
  | _, _, .lstK h r => .lstK h (RepAll.keep k r)
  | _, _, .dctH h n e r => .dctH (Rd.keep k n h) n e (RepAll.keep k r)
  | _, _, .insH h c n e r => .insH (k _ _ n h) c n e (RepAll.keep k r)
  | _, _, .exc h c n x e r => .exc (k _ _ n h) c n (x.keep k) e (RepAll.keep k r)
  | _, _, .cls h => .cls h
theorem RepAll.keep (k : Keep O H H') : ∀ {vs : List V} {ds : List IV}, RepAll K cl O H vs ds → RepAll K cl O H' vs ds
  | _, _, .nil => .nil
  | _, _, .cons r t => .cons (Rep.keep k r) (RepAll.keep k t)
end
mutual
theorem Rep.less (k : ∀ a, a ∈ O' → a ∈ O) : ∀ {v : V} {d : IV}, Rep K cl O H v d → Rep K cl O' H v d
  | _, _, .non => .non
  | _, _, .bl b => .bl b
  | _, _, .int i => .int i
  | _, _, .str l => .str l
  | _, _, .tupH h n r => .tupH h (fun z => n (k _ z)) (RepAll.less k r)
  | _, _, .tupK h r => .tupK h (RepAll.less k r)
  | _, _, .lstH h n r => .lstH h (fun z => n (k _ z)) (RepAll.less k r)
  | _, _, .lstK h r => .lstK h (RepAll.less k r)
  | _, _, .dctH h n e r => .dctH h (fun z => n (k _ z)) e (RepAll.less k r)
  | _, _, .insH h c n e r => .insH h c (fun z => n (k _ z)) e (RepAll.less k r)
  | _, _, .exc h c n x e r => .exc h c (fun z => n (k _ z)) (x.less k) e (RepAll.less k r)
  | _, _, .cls h => .cls h
theorem RepAll.less (k : ∀ a, a ∈ O' → a ∈ O) : ∀ {vs : List V} {ds : List IV}, RepAll K cl O H vs ds → RepAll K cl O' H vs ds
  | _, _, .nil => .nil
  | _, _, .cons r t => .cons (Rep.less k r) (RepAll.less k t)
end
theorem notin_more {p a : Addr} (hp : H p = none) (h : H a ≠ none) (n : a ∉ O) : a ∉ p :: O := fun z => by
  rcases List.mem_cons.mp z with z | z
  · rw [z] at h; exact h hp
  · exact n z
mutual
theorem Rep.more {p : Addr} (hp : H p = none) : ∀ {v : V} {d : IV}, Rep K cl O H v d → Rep K cl (p :: O) H v d
  | _, _, .non => .non
  | _, _, .bl b => .bl b
  | _, _, .int i => .int i
  | _, _, .str l => .str l
  | _, _, .tupH h n r => .tupH h (notin_more hp (Rd.some_of h) n) (RepAll.more hp r)
  | _, _, .tupK h r => .tupK h (RepAll.more hp r)
  | _, _, .lstH h n r => .lstH h (notin_more hp (Rd.some_of h) n) (RepAll.more hp r)
  | _, _, .lstK h r => .lstK h (RepAll.more hp r)
  | _, _, .dctH h n e r => .dctH h (notin_more hp (Rd.some_of h) n) e (RepAll.more hp r)
  | _, _, .insH h c n e r => .insH h c (notin_more hp (by rw [h]; exact fun z => nomatch z) n) e (RepAll.more hp r)
  | _, _, .exc h c n x e r => .exc h c (notin_more hp (by rw [h]; exact fun z => nomatch z) n) (x.more hp) e (RepAll.more hp r)
  | _, _, .cls h => .cls h
theorem RepAll.more {p : Addr} (hp : H p = none) : ∀ {vs : List V} {ds : List IV}, RepAll K cl O H vs ds → RepAll K cl (p :: O) H vs ds
  | _, _, .nil => .nil
  | _, _, .cons r t => .cons (Rep.more hp r) (RepAll.more hp t)
end
theorem RepAll.length : ∀ {vs : List V} {ds : List IV}, RepAll K cl O H vs ds → vs.length = ds.length
  | _, _, .nil => rfl
  | _, _, .cons _ t => by rw [List.length_cons, List.length_cons, RepAll.length t]
theorem RepAll.get : ∀ {vs : List V} {ds : List IV} {i : Nat} {d : IV}, RepAll K cl O H vs ds → ds[i]? = some d → ∃ v, vs[i]? = some v ∧ Rep K cl O H v d
  | _, _, _, _, .nil, e => by simp at e
  | _, _, 0, _, .cons r _, e => by simp at e; subst e; exact ⟨_, rfl, r⟩
  | _, _, i + 1, _, .cons _ t, e => by
    obtain ⟨v, h1, h2⟩ := RepAll.get (i := i) t (by simpa using e)
    exact ⟨v, by simpa using h1, h2⟩
theorem RepAll.getV : ∀ {vs : List V} {ds : List IV} {i : Nat} {v : V}, RepAll K cl O H vs ds → vs[i]? = some v → ∃ d, ds[i]? = some d ∧ Rep K cl O H v d
  | _, _, _, _, .nil, e => by simp at e
  | _, _, 0, _, .cons r _, e => by simp at e; subst e; exact ⟨_, rfl, r⟩
  | _, _, i + 1, _, .cons _ t, e => by
    obtain ⟨v, h1, h2⟩ := RepAll.getV (i := i) t (by simpa using e)
    exact ⟨v, by simpa using h1, h2⟩
theorem RepAll.append : ∀ {vs ws : List V} {ds es : List IV}, RepAll K cl O H vs ds → RepAll K cl O H ws es → RepAll K cl O H (vs ++ ws) (ds ++ es)
  | _, _, _, _, .nil, s => s
  | _, _, _, _, .cons r t, s => .cons r (RepAll.append t s)
theorem RepAll.take : ∀ {vs : List V} {ds : List IV} (n : Nat), RepAll K cl O H vs ds → RepAll K cl O H (vs.take n) (ds.take n)
  | _, _, 0, _ => .nil
  | _, _, _ + 1, .nil => .nil
  | _, _, n + 1, .cons r t => .cons r (RepAll.take n t)
theorem RepAll.drop : ∀ {vs : List V} {ds : List IV} (n : Nat), RepAll K cl O H vs ds → RepAll K cl O H (vs.drop n) (ds.drop n)
  | _, _, 0, r => r
  | _, _, _ + 1, .nil => .nil
  | _, _, n + 1, .cons _ t => RepAll.drop n t
theorem RepAll.set {v : V} {d : IV} (r : Rep K cl O H v d) : ∀ {vs : List V} {ds : List IV} (i : Nat), RepAll K cl O H vs ds → RepAll K cl O H (vs.set i v) (ds.set i d)
  | _, _, _, .nil => .nil
  | _, _, 0, .cons _ t => .cons r t
  | _, _, i + 1, .cons q t => .cons q (RepAll.set r i t)
/-- a tuple, a list of the datum can be read -/
theorem Rep.tupI {v : V} {ds : List IV} (h : Rep K cl O H v (.tup ds)) : ∃ a vs, v = .ref a ∧ SqT K H a vs ∧ RepAll K cl O H vs ds := by
  cases h with
  | tupH h n r => exact ⟨_, _, rfl, .inl h, r⟩
  | tupK h r => exact ⟨_, _, rfl, SqT.ofK h, r⟩
theorem Rep.lstI {v : V} {ds : List IV} (h : Rep K cl O H v (.lst ds)) : ∃ a vs, v = .ref a ∧ SqL K H a vs ∧ RepAll K cl O H vs ds := by
  cases h with
  | lstH h n r => exact ⟨_, _, rfl, .inl h, r⟩
  | lstK h r => exact ⟨_, _, rfl, SqL.ofK h, r⟩
end

/-- what does not change while a def runs: O0, H0: the changing objects and the heap at its beginning; M: by parameters, the changing objects that were handed to it -/
structure Ct where
  K : PySem.W.Frag
  cl : Nat → Option Addr
  O0 : List Addr
  H0 : Hp
  M : List (Option Addr)

/-- a slot: empty; a datum; a changing object of the def's own; one that was handed to it -/
inductive Sl where
  | e
  | i (d : IV)
  | o (d : IV)
  | b (d : IV)
  deriving Inhabited
def Sl.mut : Sl → Option IV
  | .o d => some d
  | .b d => some d
  | _ => none

/-- the changing object at a is the datum -/
inductive Own (K : PySem.W.Frag) (cl : Nat → Option Addr) (O : List Addr) (H : Hp) (a : Addr) : IV → Prop
  | lst {vs : List V} {ds : List IV} : H a = some (.lst vs) → RepAll K cl O H vs ds → Own K cl O H a (.lst ds)
  | ins {C dx : Addr} {c : Nat} {fs : List (Str × V)} {ds : List (Str × IV)} : H a = some (.ins C dx fs) → cl c = some C → fs.map (·.1) = ds.map (·.1) → RepAll K cl O H (fs.map (·.2)) (ds.map (·.2)) → Own K cl O H a (.ins c ds)
  | dct {kv : List (Key × V)} {ds : List (Key × IV)} : H a = some (.dK kv) → kv.map (·.1) = ds.map (·.1) → RepAll K cl O H (kv.map (·.2)) (ds.map (·.2)) → Own K cl O H a (.dct ds)
theorem Own.some_of {K : PySem.W.Frag} {cl : Nat → Option Addr} {O : List Addr} {H : Hp} {a : Addr} {d : IV} (h : Own K cl O H a d) : H a ≠ none := by
  cases h with
  | lst h _ => rw [h]; exact fun z => nomatch z
  | ins h _ _ _ => rw [h]; exact fun z => nomatch z
  | dct h _ _ => rw [h]; exact fun z => nomatch z
/-- kept at a itself, and all that does not change -/
theorem Own.keep {K : PySem.W.Frag} {cl : Nat → Option Addr} {O : List Addr} {H H' : Hp} {a : Addr} {d : IV} (k : Keep O H H') (ha : ∀ o, H a = some o → H' a = some o) (h : Own K cl O H a d) : Own K cl O H' a d := by
  cases h with
  | lst h r => exact .lst (ha _ h) (r.keep k)
  | ins h c e r => exact .ins (ha _ h) c e (r.keep k)
  | dct h e r => exact .dct (ha _ h) e (r.keep k)
theorem Own.less {K : PySem.W.Frag} {cl : Nat → Option Addr} {O O' : List Addr} {H : Hp} {a : Addr} {d : IV} (k : ∀ a, a ∈ O' → a ∈ O) (h : Own K cl O H a d) : Own K cl O' H a d := by
  cases h with
  | lst h r => exact .lst h (r.less k)
  | ins h c e r => exact .ins h c e (r.less k)
  | dct h e r => exact .dct h e (r.less k)
theorem Own.more {K : PySem.W.Frag} {cl : Nat → Option Addr} {O : List Addr} {H : Hp} {a p : Addr} {d : IV} (hp : H p = none) (h : Own K cl O H a d) : Own K cl (p :: O) H a d := by
  cases h with
  | lst h r => exact .lst h (r.more hp)
  | ins h c e r => exact .ins h c e (r.more hp)
  | dct h e r => exact .dct h e (r.more hp)
/-- as a datum that is read (and is none of O) -/
theorem Own.rep {K : PySem.W.Frag} {cl : Nat → Option Addr} {O : List Addr} {H : Hp} {a : Addr} {d : IV} (n : a ∉ O) (h : Own K cl O H a d) : Rep K cl O H (.ref a) d := by
  cases h with
  | lst h r => exact .lstH (.inl h) n r
  | ins h c e r => exact .insH h c n e r
  | dct h e r => exact .dctH (.inl h) n e r

def SlR (C : Ct) (L O : List Addr) (H : Hp) (i : Nat) (s : Option V) : Sl → Prop
  | .e => True
  | .i d => ∃ v, s = some v ∧ Rep C.K C.cl O H v d
  | .o d => ∃ a, s = some (.ref a) ∧ a ∈ L ∧ a ∉ C.O0 ∧ C.H0 a = none ∧ Own C.K C.cl O H a d
  | .b d => ∃ a, s = some (.ref a) ∧ C.M[i]? = some (some a) ∧ Own C.K C.cl O H a d

/-- the def's slots σ and the heap H are the store ρ; L: the def's own changing objects -/
structure SRel (C : Ct) (L O : List Addr) (σ : L2.St) (ρ : List Sl) (H : Hp) : Prop where
  len : σ.length = ρ.length
  slot : ∀ (i : Nat) (s : Option V) (r : Sl), σ[i]? = some s → ρ[i]? = some r → SlR C L O H i s r
  lsub : ∀ a ∈ L, a ∈ O
  sub : ∀ a ∈ C.O0, a ∈ O
  msub : ∀ (i : Nat) (a : Addr), C.M[i]? = some (some a) → a ∈ C.O0
  live : ∀ a ∈ O, H a ≠ none
  apart : ∀ (i j : Nat) (r q : Sl) (a : Addr), i ≠ j → ρ[i]? = some r → ρ[j]? = some q → r.mut.isSome = true → q.mut.isSome = true → σ[i]? = some (some (.ref a)) → σ[j]? ≠ some (some (.ref a))
  frame : ∀ a o, C.H0 a = some o → some a ∉ C.M → H a = some o

section
variable {C : Ct} {L O : List Addr} {σ : L2.St} {ρ : List Sl} {H H' : Hp}
theorem SlR.same (h : Same H H') {i : Nat} {s : Option V} {r : Sl} (q : SlR C L O H i s r) : SlR C L O H' i s r := by
  cases r with
  | e => trivial
  | i d => obtain ⟨v, e, r⟩ := q; exact ⟨v, e, r.keep (.same h)⟩
  | o d => obtain ⟨a, e, n1, n2, n3, w⟩ := q; exact ⟨a, e, n1, n2, n3, w.keep (.same h) fun o => h a o⟩
  | b d => obtain ⟨a, e, n1, w⟩ := q; exact ⟨a, e, n1, w.keep (.same h) fun o => h a o⟩
/-- objects were made alone -/
theorem SRel.same (h : Same H H') (S : SRel C L O σ ρ H) : SRel C L O σ ρ H' :=
  ⟨S.len, fun i s r h1 h2 => (S.slot i s r h1 h2).same h, S.lsub, S.sub, S.msub, fun a ha z => (by
    cases e : H a with
    | none => exact S.live a ha e
    | some o => rw [h a o e] at z; cases z), S.apart, fun a o e n => h a o (S.frame a o e n)⟩
theorem mem_some_of {M : List (Option Addr)} {i : Nat} {a : Addr} (h : M[i]? = some (some a)) : some a ∈ M := List.mem_of_getElem? h
theorem SRel.fresh (S : SRel C L O σ ρ H) {p : Addr} (hp : H p = none) : C.H0 p = none ∧ p ∉ O ∧ p ∉ C.O0 := by
  have h1 : p ∉ O := fun z => S.live p z hp
  have h2 : p ∉ C.O0 := fun z => h1 (S.sub p z)
  refine ⟨?_, h1, h2⟩
  cases e : C.H0 p with
  | none => rfl
  | some o =>
    have n : some p ∉ C.M := fun z => by
      obtain ⟨i, hi⟩ := List.getElem?_of_mem z
      exact h2 (S.msub i p hi)
    rw [S.frame p o e n] at hp
    cases hp
/-- a datum is stored -/
theorem SRel.setI {v : V} {d : IV} (S : SRel C L O σ ρ H) (r : Rep C.K C.cl O H v d) (i : Nat) : SRel C L O (σ.set i (some v)) (ρ.set i (.i d)) H := by
  refine ⟨by rw [List.length_set, List.length_set, S.len], fun j s q h1 h2 => ?_, S.lsub, S.sub, S.msub, S.live, fun j k q q' a hjk h1 h2 m1 m2 e1 e2 => ?_, S.frame⟩
  · by_cases hj : i = j
    · subst hj
      rw [List.getElem?_set] at h1 h2
      simp only [if_true] at h1 h2
      split at h1
      · split at h2
        · cases h1; cases h2
          exact ⟨v, rfl, r⟩
        · cases h2
      · cases h1
    · rw [List.getElem?_set_ne hj] at h1 h2
      exact S.slot j s q h1 h2
  · by_cases hj : i = j
    · subst hj
      rw [List.getElem?_set] at h1
      simp only [if_true] at h1
      split at h1
      · cases h1; cases m1
      · cases h1
    · by_cases hk : i = k
      · subst hk
        rw [List.getElem?_set] at h2
        simp only [if_true] at h2
        split at h2
        · cases h2; cases m2
        · cases h2
      · rw [List.getElem?_set_ne hj] at h1 e1
        rw [List.getElem?_set_ne hk] at h2 e2
        exact S.apart j k q q' a hjk h1 h2 m1 m2 e1 e2
/-- a slot is forgotten -/
theorem SRel.setE {s : Option V} (S : SRel C L O σ ρ H) (i : Nat) : SRel C L O (σ.set i s) (ρ.set i .e) H := by
  refine ⟨by rw [List.length_set, List.length_set, S.len], fun j s' q h1 h2 => ?_, S.lsub, S.sub, S.msub, S.live, fun j k q q' a hjk h1 h2 m1 m2 e1 e2 => ?_, S.frame⟩
  · by_cases hj : i = j
    · subst hj
      rw [List.getElem?_set] at h2
      simp only [if_true] at h2
      split at h2
      · cases h2; trivial
      · cases h2
    · rw [List.getElem?_set_ne hj] at h1 h2
      exact S.slot j s' q h1 h2
  · by_cases hj : i = j
    · subst hj
      rw [List.getElem?_set] at h1
      simp only [if_true] at h1
      split at h1
      · cases h1; cases m1
      · cases h1
    · by_cases hk : i = k
      · subst hk
        rw [List.getElem?_set] at h2
        simp only [if_true] at h2
        split at h2
        · cases h2; cases m2
        · cases h2
      · rw [List.getElem?_set_ne hj] at h1 e1
        rw [List.getElem?_set_ne hk] at h2 e2
        exact S.apart j k q q' a hjk h1 h2 m1 m2 e1 e2
end
end Mx


/-! Mx, part 1b: what changes in the store. -/
namespace Mx
open PySem PySem.Spec PyProof.Rows L2
def Sl.put : Sl → IV → Sl
  | .o _, d => .o d
  | .b _, d => .b d
  | r, _ => r
theorem Sl.put_mut {r : Sl} {d : IV} : (r.put d).mut.isSome = r.mut.isSome := by cases r <;> rfl
section
variable {C : Ct} {L O O' : List Addr} {σ : L2.St} {ρ ρ' : List Sl} {H H' : Hp}
theorem SRel.mutAt (S : SRel C L O σ ρ H) {i : Nat} {r : Sl} {d : IV} (h : ρ[i]? = some r) (m : r.mut = some d) :
    ∃ a, σ[i]? = some (some (.ref a)) ∧ a ∈ O ∧ Own C.K C.cl O H a d ∧ (some a ∈ C.M ∨ C.H0 a = none) := by
  have hi : i < σ.length := by rw [S.len]; exact (List.getElem?_eq_some_iff.mp h).1
  have hs : σ[i]? = some σ[i] := List.getElem?_eq_getElem hi
  have q := S.slot i _ r hs h
  cases r with
  | e => cases m
  | i _ => cases m
  | o d' =>
    cases m
    obtain ⟨a, e, n1, n2, n3, w⟩ := q
    exact ⟨a, by rw [hs, e], S.lsub a n1, w, .inr n3⟩
  | b d' =>
    cases m
    obtain ⟨a, e, n1, w⟩ := q
    exact ⟨a, by rw [hs, e], S.sub a (S.msub i a n1), w, .inl (mem_some_of n1)⟩
/-- the changing objects A have changed -/
theorem SRel.change (S : SRel C L O σ ρ H) {A : List Addr} (hO : ∀ a ∈ O, a ∈ O') (hA : ∀ a ∈ A, some a ∈ C.M ∨ C.H0 a = none) (k : ∀ b o, b ∉ A → H b = some o → H' b = some o) (live : ∀ a ∈ O', H' a ≠ none)
    (hR : ∀ vs ds, RepAll C.K C.cl O H vs ds → RepAll C.K C.cl O' H' vs ds) (hl : ρ'.length = ρ.length)
    (hj : ∀ (j : Nat) (r : Sl), ρ[j]? = some r → (ρ'[j]? = some r ∧ ∀ a, r.mut.isSome = true → σ[j]? = some (some (.ref a)) → a ∉ A) ∨
      ∃ d' a, ρ'[j]? = some (r.put d') ∧ r.mut.isSome = true ∧ σ[j]? = some (some (.ref a)) ∧ Own C.K C.cl O' H' a d') : SRel C L O' σ ρ' H' := by
  have hR1 : ∀ {v d}, Rep C.K C.cl O H v d → Rep C.K C.cl O' H' v d := fun {v d} r => by
    have q := hR [v] [d] (.cons r .nil)
    cases q with
    | cons q _ => exact q
  have own : ∀ {a d}, Own C.K C.cl O H a d → a ∉ A → Own C.K C.cl O' H' a d := fun {a d} w n => by
    cases w with
    | lst h r => exact .lst (k _ _ n h) (hR _ _ r)
    | ins h c e r => exact .ins (k _ _ n h) c e (hR _ _ r)
    | dct h e r => exact .dct (k _ _ n h) e (hR _ _ r)
  refine ⟨by rw [S.len, hl], fun i s q h1 h2 => ?_, fun a ha => hO a (S.lsub a ha), fun a ha => hO a (S.sub a ha), S.msub, live, fun i j q q' a hij h1 h2 m1 m2 e1 => ?_, fun a o e n => ?_⟩
  · have hi : i < ρ.length := by rw [← hl]; exact (List.getElem?_eq_some_iff.mp h2).1
    have hr : ρ[i]? = some ρ[i] := List.getElem?_eq_getElem hi
    have z := S.slot i s _ h1 hr
    rcases hj i _ hr with ⟨e, na⟩ | ⟨d', a, e, m, ea, w⟩
    · rw [e] at h2
      cases h2
      generalize ρ[i] = r at *
      cases r with
      | e => trivial
      | i d => obtain ⟨v, ev, r⟩ := z; exact ⟨v, ev, hR1 r⟩
      | o d =>
        obtain ⟨a, ea, n1, n2, n3, w⟩ := z
        exact ⟨a, ea, n1, n2, n3, own w (na a rfl (by rw [h1, ea]))⟩
      | b d =>
        obtain ⟨a, ea, n1, w⟩ := z
        exact ⟨a, ea, n1, own w (na a rfl (by rw [h1, ea]))⟩
    · rw [e] at h2
      cases h2
      rw [h1] at ea
      cases ea
      generalize ρ[i] = r at *
      cases r with
      | e => cases m
      | i d => cases m
      | o d =>
        obtain ⟨b, eb, n1, n2, n3, _⟩ := z
        cases eb
        exact ⟨_, rfl, n1, n2, n3, w⟩
      | b d =>
        obtain ⟨b, eb, n1, _⟩ := z
        cases eb
        exact ⟨_, rfl, n1, w⟩
  · have old : ∀ {i : Nat} {q : Sl}, ρ'[i]? = some q → q.mut.isSome = true → ∃ r : Sl, ρ[i]? = some r ∧ r.mut.isSome = true := fun {i q} h m => by
      have hi : i < ρ.length := by rw [← hl]; exact (List.getElem?_eq_some_iff.mp h).1
      refine ⟨ρ[i], List.getElem?_eq_getElem hi, ?_⟩
      rcases hj i _ (List.getElem?_eq_getElem hi) with ⟨e, _⟩ | ⟨d', a, e, m', _⟩
      · rw [e] at h; cases h; exact m
      · exact m'
    obtain ⟨r1, g1, k1⟩ := old h1 m1
    obtain ⟨r2, g2, k2⟩ := old h2 m2
    exact S.apart i j r1 r2 a hij g1 g2 k1 k2 e1
  · refine k a o (fun z => ?_) (S.frame a o e n)
    rcases hA a z with q | q
    · exact n q
    · rw [q] at e; cases e
/-- one changing object has changed -/
theorem SRel.put (S : SRel C L O σ ρ H) {i : Nat} {r : Sl} {a : Addr} {d' : IV} (h : ρ[i]? = some r) (m : r.mut.isSome = true) (ha : σ[i]? = some (some (.ref a))) (k : ∀ b o, b ≠ a → H b = some o → H' b = some o)
    (w : Own C.K C.cl O H' a d') : SRel C L O σ (ρ.set i (r.put d')) H' := by
  obtain ⟨d, ed⟩ := Option.isSome_iff_exists.mp m
  obtain ⟨a', ea, hO, _, hm⟩ := S.mutAt h ed
  rw [ha] at ea
  cases ea
  have kk : Keep O H H' := fun b o n e => k b o (fun z => n (z ▸ hO)) e
  refine S.change (A := [a]) (fun _ z => z) (fun b hb => ?_) (fun b o n e => k b o (fun z => n (by simp [z])) e) (fun b hb => ?_) (fun _ _ r => r.keep kk) (List.length_set ..) (fun j q hq => ?_)
  · have : b = a := by simpa using hb
    subst this
    exact hm
  · by_cases z : b = a
    · subst z; exact w.some_of
    · cases e : H b with
      | none => exact absurd e (S.live b hb)
      | some o => rw [k b o z e]; exact fun z => nomatch z
  · by_cases hij : i = j
    · subst hij
      rw [h] at hq
      cases hq
      refine .inr ⟨d', a, ?_, m, ha, w⟩
      rw [List.getElem?_set_self (List.getElem?_eq_some_iff.mp h).1]
    · refine .inl ⟨by rw [List.getElem?_set_ne hij]; exact hq, fun b mb eb hb => ?_⟩
      have : b = a := by simpa using hb
      subst this
      exact S.apart i j r q b hij h hq m mb ha eb
/-- a new object may become a changing one -/
theorem SRel.addO (S : SRel C L O σ ρ H) {p : Addr} (hp : H p = none) (k : Same H H') (hn : H' p ≠ none) : SRel C L (p :: O) σ ρ H' := by
  refine S.change (A := []) (fun a ha => List.mem_cons_of_mem _ ha) (fun _ z => nomatch z) (fun b o _ e => k b o e) (fun a ha => ?_) (fun _ _ r => (r.more hp).keep (.same k)) rfl (fun j r h => .inl ⟨h, fun _ _ _ z => nomatch z⟩)
  rcases List.mem_cons.mp ha with z | z
  · rw [z]; exact hn
  · exact (S.same k).live a z
theorem SRel.setO (S : SRel C L O σ ρ H) {p : Addr} {d : IV} (S' : SRel C L (p :: O) σ ρ H) (hp : p ∉ O) (h0 : C.H0 p = none) (w : Own C.K C.cl (p :: O) H p d) (i : Nat) : SRel C (p :: L) (p :: O) (σ.set i (some (.ref p))) (ρ.set i (.o d)) H := by
  have np0 : p ∉ C.O0 := fun z => hp (S.sub p z)
  have other : ∀ (j : Nat) (q : Sl), ρ[j]? = some q → q.mut.isSome = true → σ[j]? ≠ some (some (.ref p)) := fun j q hq m e => by
    obtain ⟨d, ed⟩ := Option.isSome_iff_exists.mp m
    obtain ⟨a, ea, hO, _⟩ := S.mutAt hq ed
    rw [e] at ea
    cases ea
    exact hp hO
  have lift : ∀ {j : Nat} {s : Option V} {q : Sl}, SlR C L (p :: O) H j s q → SlR C (p :: L) (p :: O) H j s q := fun {j s q} z => by
    cases q with
    | o d => obtain ⟨a, e, n1, r⟩ := z; exact ⟨a, e, List.mem_cons_of_mem _ n1, r⟩
    | _ => exact z
  refine ⟨by rw [List.length_set, List.length_set, S.len], fun j s q h1 h2 => ?_, fun a ha => ?_, S'.sub, S'.msub, S'.live, fun j k q q' a hjk h1 h2 m1 m2 e1 e2 => ?_, S'.frame⟩
  · by_cases hj : i = j
    · subst hj
      rw [List.getElem?_set] at h1 h2
      simp only [if_true] at h1 h2
      split at h1
      · split at h2
        · cases h1; cases h2
          exact ⟨p, rfl, List.mem_cons_self, np0, h0, w⟩
        · cases h2
      · cases h1
    · rw [List.getElem?_set_ne hj] at h1 h2
      exact lift (S'.slot j s q h1 h2)
  · rcases List.mem_cons.mp ha with z | z
    · rw [z]; exact List.mem_cons_self
    · exact S'.lsub a z
  · by_cases hj : i = j
    · subst hj
      rw [List.getElem?_set] at e1
      simp only [if_true] at e1
      split at e1
      · cases e1
        rw [List.getElem?_set_ne hjk] at h2 e2
        exact other k q' h2 m2 e2
      · cases e1
    · by_cases hk : i = k
      · subst hk
        rw [List.getElem?_set] at e2
        simp only [if_true] at e2
        split at e2
        · cases e2
          rw [List.getElem?_set_ne hj] at h1 e1
          exact other j q h1 m1 e1
        · cases e2
      · rw [List.getElem?_set_ne hj] at h1 e1
        rw [List.getElem?_set_ne hk] at h2 e2
        exact S.apart j k q q' a hjk h1 h2 m1 m2 e1 e2
/-- an object is none of the changing ones any more -/
theorem SRel.dropO {p : Addr} (S : SRel C L (p :: O) σ ρ H) (hL : ∀ a ∈ L, a ∈ O) (h0 : ∀ a ∈ C.O0, a ∈ O) : SRel C L O σ ρ H := by
  have le : ∀ a, a ∈ O → a ∈ p :: O := fun a h => List.mem_cons_of_mem _ h
  refine ⟨S.len, fun i s r h1 h2 => ?_, hL, h0, S.msub, fun a ha => S.live a (le a ha), S.apart, S.frame⟩
  have z := S.slot i s r h1 h2
  cases r with
  | e => trivial
  | i d => obtain ⟨v, e, r⟩ := z; exact ⟨v, e, r.less le⟩
  | o d => obtain ⟨a, e, n1, n2, n3, w⟩ := z; exact ⟨a, e, n1, n2, n3, w.less le⟩
  | b d => obtain ⟨a, e, n1, w⟩ := z; exact ⟨a, e, n1, w.less le⟩
/-- a changing object of the def's own does not change any more -/
theorem SRel.freeze (S : SRel C L O σ ρ H) {i : Nat} {d : IV} (h : ρ[i]? = some (.o d)) : ∃ a, SRel C (L.filter fun b => decide (b ≠ a)) (O.filter fun b => decide (b ≠ a)) σ (ρ.set i (.i d)) H := by
  have hi : i < σ.length := by rw [S.len]; exact (List.getElem?_eq_some_iff.mp h).1
  have hs : σ[i]? = some σ[i] := List.getElem?_eq_getElem hi
  obtain ⟨a, e, n1, n2, n3, w⟩ := S.slot i _ _ hs h
  have le : ∀ b, b ∈ O.filter (fun b => decide (b ≠ a)) → b ∈ O := fun b z => (List.mem_filter.mp z).1
  have ne : ∀ {j : Nat} {q : Sl} {b : Addr}, j ≠ i → ρ[j]? = some q → q.mut.isSome = true → σ[j]? = some (some (.ref b)) → b ≠ a := fun {j q b} hj hq m eb z => by
    subst z
    exact S.apart i j _ q b (Ne.symm hj) h hq rfl m (by rw [hs, e]) eb
  have old : ∀ {j : Nat} {q : Sl}, (ρ.set i (.i d))[j]? = some q → j ≠ i → ρ[j]? = some q := fun {j q} z hj => by rw [List.getElem?_set_ne (Ne.symm hj)] at z; exact z
  have noti : ∀ {j : Nat} {q : Sl}, (ρ.set i (.i d))[j]? = some q → q.mut.isSome = true → j ≠ i := fun {j q} z m e' => by
    subst e'
    rw [List.getElem?_set_self (List.getElem?_eq_some_iff.mp h).1] at z
    cases z
    cases m
  refine ⟨a, by rw [List.length_set, S.len], fun j s q h1 h2 => ?_, fun b hb => ?_, fun b hb => ?_, S.msub, fun b hb => S.live b (le b hb), fun j k q q' b hjk h1 h2 m1 m2 e1 => ?_, S.frame⟩
  · by_cases hj : j = i
    · subst hj
      rw [List.getElem?_set_self (List.getElem?_eq_some_iff.mp h).1] at h2
      cases h2
      rw [hs] at h1
      cases h1
      exact ⟨.ref a, e, Own.rep (fun z => by simpa using (List.mem_filter.mp z).2) (w.less le)⟩
    · have h3 := old h2 hj
      have z := S.slot j s q h1 h3
      cases q with
      | e => trivial
      | i d => obtain ⟨v, ev, r⟩ := z; exact ⟨v, ev, r.less le⟩
      | o d' =>
        obtain ⟨b, eb, m1, m2, m3, w'⟩ := z
        refine ⟨b, eb, List.mem_filter.mpr ⟨m1, decide_eq_true (ne hj h3 rfl (by rw [h1, eb]))⟩, m2, m3, w'.less le⟩
      | b d' => obtain ⟨b, eb, m1, w'⟩ := z; exact ⟨b, eb, m1, w'.less le⟩
  · obtain ⟨z1, z2⟩ := List.mem_filter.mp hb
    exact List.mem_filter.mpr ⟨S.lsub b z1, z2⟩
  · exact List.mem_filter.mpr ⟨S.sub b hb, decide_eq_true fun z => n2 (z ▸ hb)⟩
  · exact S.apart j k q q' b hjk (old h1 (noti h1 m1)) (old h2 (noti h2 m2)) m1 m2 e1
end
end Mx


/-! Mx, part 2: the language and what it computes. -/
namespace Mx
open PySem PySem.Spec PyProof.Rows L2

inductive BOp where
  | add | sub | mul | fdiv | mod | pow
  deriving DecidableEq
inductive COp where
  | eq | ne | lt | le | gt | ge | isin | notin | is | isnt
  deriving DecidableEq
inductive BFn where
  | len | int | all | any | list | tuple | repr | str | ord | min | max
  deriving DecidableEq
inductive BMt where
  | join | split | part | upper | strip
  deriving DecidableEq

/-- operations with one operand -/
inductive P1 where
  | fld (f : Str) (cs ks : List Nat)
  | isx (xs : List Str) (tup : Bool) (ys ns : List Nat)
  deriving DecidableEq

mutual
inductive E where
  | var (i : Nat)
  | view (i : Nat)
  | cst (d : IV)
  | glo (x : Str) (d : IV)
  | bin (o : BOp) (a b : E)
  | neg (a : E)
  | cmp (o : COp) (a b : E)
  | chn (o p : COp) (a b c : E)
  | and (es : Es)
  | or (es : Es)
  | not (a : E)
  | ite (c a b : E)
  | ix (a b : E)
  | sl (a : E) (lo hi : OE)
  | lst (es : Es)
  | tup (es : Es)
  | dct (ks : List Key) (es : Es)
  | fn (f : BFn) (es : Es)
  | isi (a : E) (t : String)
  | mt (m : BMt) (a : E) (es : Es)
  | call (f : Nat) (as : As)
  | callK (f : Nat) (as bs : Es) (ks : List Str) (perm : List Nat)
  | comp (tg : List Nat) (it : It) (c : OE) (e : E)
  | pr1 (p : P1) (a : E)
  | mk (c : Nat) (ps : List Str) (es : Es)
  | mkK (c : Nat) (ps : List Str) (as bs : Es) (ks : List Str) (perm : List Nat)
  | vfld (i : Nat) (f : Str) (cs : List Nat)
  | methV (m : Str) (tab : List (Nat × Nat)) (a : E) (as : As) (dv : List IV)
  | methM (m : Str) (tab : List (Nat × Nat)) (i : Nat) (as : As) (dv : List IV)
  | new (c f : Nat) (as : As) (dv : List IV)
  | callD (f : Nat) (as : As) (dv : List IV)
  | dix (a b : E)
  | kix (x : Str) (kvs : List (Key × IV)) (b : E)
  | kget (x : Str) (kvs : List (Key × IV)) (b d : E)
  | dcomp (tg : List Nat) (it : It) (c : OE) (k v : E)
  | listG (f : Nat) (as bs : Es) (ks : List Str) (dv : List IV) (perm : List Nat)
inductive OE where
  | no
  | yes (e : E)
inductive Es where
  | nil
  | cons (e : E) (r : Es)
inductive As where
  | nil
  | v (e : E) (r : As)
  | m (i : Nat) (r : As)
inductive It where
  | lst (e : E)
  | tup (e : E)
  | txt (e : E)
  | rng (a : E)
  | rng2 (a b : E)
  | enu (e : E)
  | rng3 (a b c : E)
end
mutual
inductive S where
  | asg (i : Nat) (e : E)
  | asgO (i : Nat) (e : E)
  | unp (is : List Nat) (e : E)
  | aug (i : Nat) (o : BOp) (e : E)
  | setI (i : Nat) (k v : E)
  | app (i : Nat) (e : E)
  | setF (i : Nat) (f : Str) (cs : List Nat) (e : E)
  | augF (i : Nat) (f : Str) (cs : List Nat) (o : BOp) (e : E)
  | par (i j : Nat) (oi oj : Bool) (a b : E)
  | raise (c : Nat) (ps : List Str) (es : Es)
  | drop (e : E)
  | ret (e : E)
  | retN
  | retO (i : Nat)
  | ite (c : E) (a b : Ss)
  | whl (c : E) (b : Ss)
  | loop (tg : List Nat) (it : It) (b : Ss)
  | pass
  | brk
  | cnt
inductive Ss where
  | nil
  | cons (s : S) (r : Ss)
  | frz (i : Nat) (r : Ss)
end
mutual
/-- statements of a generator def -/
inductive G where
  | pl (s : S)
  | yld (e : E)
  | whl (c : E) (b : Gs)
inductive Gs where
  | nil
  | cons (g : G) (r : Gs)
end

/-! ### what operations give -/
/-- the longest text, list -/
abbrev SZ : Nat := 16777216
def mulOk (i j : Int) : Bool := (decide (-(2 ^ 64) < i) && decide (i < 2 ^ 64)) || (decide (-(2 ^ 64) < j) && decide (j < 2 ^ 64))
def addD : IV → IV → Option IV
  | .int i, .int j => some (.int (i + j))
  | .str a, .str b => if a.length + b.length ≤ SZ then some (.str (a ++ b)) else none
  | .lst a, .lst b => if a.length + b.length ≤ SZ then some (.lst (a ++ b)) else none
  | .tup a, .tup b => if a.length + b.length ≤ SZ then some (.tup (a ++ b)) else none
  | _, _ => none
def subD : IV → IV → Option IV
  | .int i, .int j => some (.int (i - j))
  | _, _ => none
def mulD : IV → IV → Option IV
  | .int i, .int j => if mulOk i j = true then some (.int (i * j)) else none
  | .str a, .int n => if 0 ≤ n ∧ n ≤ SZ ∧ a ≠ [] ∧ a.length * n.toNat ≤ SZ then some (.str (List.replicate n.toNat a).flatten) else none
  | .lst a, .int n => if 0 ≤ n ∧ n ≤ SZ ∧ a.length * n.toNat ≤ SZ then some (.lst (List.replicate n.toNat a).flatten) else none
  | _, _ => none
def fdivD : IV → IV → Option IV
  | .int i, .int j => if 0 < j ∧ j < 1073741824 then some (.int (i / j)) else none
  | _, _ => none
def modD : IV → IV → Option IV
  | .int i, .int j => if 0 < j then some (.int (i % j)) else none
  | _, _ => none
def powD : IV → IV → Option IV
  | .int i, .int j => if 0 ≤ j ∧ j ≤ 1000000 ∧ i.natAbs < 18446744073709551616 then some (.int (i ^ j.toNat)) else none
  | _, _ => none
def binD : BOp → IV → IV → Option IV
  | .add => addD
  | .sub => subD
  | .mul => mulD
  | .fdiv => fdivD
  | .mod => modD
  | .pow => powD
/- data that == and repr look at -/
mutual
def IV.toP : IV → Option PyData
  | .non => some .none
  | .bl b => some (.bool b)
  | .int i => some (.int i)
  | .str l => some (.str (sOf l))
  | .tup xs => match IV.toPs xs with | some ps => some (.tuple ps) | none => none
  | .lst xs => match IV.toPs xs with | some ps => some (.list ps) | none => none
  | .dct _ => none
  | .ins _ _ => none
  | .exc _ _ => none
  | .cls _ => none
def IV.toPs : List IV → Option (List PyData)
  | [] => some []
  | x :: xs => match IV.toP x, IV.toPs xs with | some p, some ps => some (p :: ps) | _, _ => none
end
def eqD (x y : IV) : Option Bool := match x, y with
  | .int i, .int j => some (decide (i = j))
  | .str a, .str b => some (decide (a = b))
  | .bl a, .bl b => some (decide (a = b))
  | .non, .non => some true
  | .non, .int _ => some false
  | .int _, .non => some false
  | .non, .str _ => some false
  | .str _, .non => some false
  | .int _, .str _ => some false
  | .str _, .int _ => some false
  | x, y => match x.toP, y.toP with
    | some p, some q => if SeqAt.shaped p = true ∧ SeqAt.shaped q = true then some (PyData.eqv p q) else none
    | _, _ => none
def flatD : IV → Bool
  | .non => true
  | .bl _ => true
  | .int _ => true
  | .str _ => true
  | _ => false
def eqF : IV → IV → Bool
  | .non, .non => true
  | .bl a, .bl b => a == b
  | .bl a, .int b => (if a then 1 else 0) == b
  | .int a, .bl b => a == (if b then 1 else 0)
  | .int a, .int b => a == b
  | .str a, .str b => decide (a = b)
  | _, _ => false
def inD (x y : IV) : Option Bool := match y with
  | .str l => match x with
    | .str [c] => some (decide (c ∈ l))
    | _ => none
  | .tup ys => if flatD x = true ∧ ys.all flatD = true then some (ys.any fun y => eqF y x) else none
  | .lst ys => if flatD x = true ∧ ys.all flatD = true then some (ys.any fun y => eqF y x) else none
  | _ => none
def neD (x y : IV) : Option Bool := (eqD x y).map (!·)
def ninD (x y : IV) : Option Bool := (inD x y).map (!·)
def ltD : IV → IV → Option Bool
  | .int i, .int j => some (decide (i < j))
  | .str a, .str b => some (decide (a < b))
  | _, _ => none
def leD : IV → IV → Option Bool
  | .int i, .int j => some (decide (i ≤ j))
  | .str a, .str b => some (!decide (b < a))
  | _, _ => none
def gtD : IV → IV → Option Bool
  | .int i, .int j => some (decide (j < i))
  | .str a, .str b => some (decide (b < a))
  | _, _ => none
def geD : IV → IV → Option Bool
  | .int i, .int j => some (decide (j ≤ i))
  | .str a, .str b => some (!decide (a < b))
  | _, _ => none
def isD : IV → IV → Option Bool
  | .non, .non => some true
  | _, .non => some false
  | _, _ => none
def isntD (x y : IV) : Option Bool := (isD x y).map (!·)
def cmpD : COp → IV → IV → Option Bool
  | .eq => eqD
  | .ne => neD
  | .lt => ltD
  | .le => leD
  | .gt => gtD
  | .ge => geD
  | .isin => inD
  | .notin => ninD
  | .is => isD
  | .isnt => isntD
def ixD : IV → IV → Option IV
  | .str l, .int i => if l.length ≤ SZ then (atI l i).map fun c => .str [c] else none
  | .lst xs, .int i => atI xs i
  | .tup xs, .int i => atI xs i
  | _, _ => none
def cutL {α : Type} (xs : List α) (lo hi : Option Int) : List α := (xs.drop (HT.sIx xs.length 0 lo)).take (HT.sIx xs.length xs.length hi - HT.sIx xs.length 0 lo)
def slD : IV → Option Int → Option Int → Option IV
  | .str l, lo, hi => if l.length ≤ SZ then some (.str (cutL l lo hi)) else none
  | .lst xs, lo, hi => some (.lst (cutL xs lo hi))
  | .tup xs, lo, hi => some (.tup (cutL xs lo hi))
  | _, _, _ => none
def truD : IV → Option Bool
  | .bl b => some b
  | .non => some false
  | .int i => some (i != 0)
  | .str l => if l.length ≤ SZ then some (!l.isEmpty) else none
  | .lst xs => some (!xs.isEmpty)
  | .tup xs => some (!xs.isEmpty)
  | _ => none
def bools : List IV → Option (List Bool)
  | [] => some []
  | .bl b :: r => (bools r).map (b :: ·)
  | _ => none
def keyP : Key → PyData
  | .inl i => .int i
  | .inr s => .str s
def kvP : List (Key × IV) → Option (List (PyData × PyData))
  | [] => some []
  | (k, x) :: xs => match x.toP, kvP xs with
    | some p, some ps => if flatD x = true then some ((keyP k, p) :: ps) else none
    | _, _ => none
/-- data that repr looks at in a list: dicts of plain values too -/
def IV.toR : IV → Option PyData
  | .dct kvs => match kvP kvs with | some ps => some (.dict ps) | none => none
  | x => x.toP
def IV.toRs : List IV → Option (List PyData)
  | [] => some []
  | x :: xs => match x.toR, IV.toRs xs with | some p, some ps => some (p :: ps) | _, _ => none
def reprL (xs : List IV) : Option (List Nat) := match IV.toRs xs with
  | some ps => if (PyData.list ps).showable = true ∧ (PyData.list ps).shown.length ≤ SZ ∧ (PyData.list ps).depth ≤ 50 then some (PyData.list ps).shown.cps.toList else none
  | none => none
def reprD (x : IV) : Option (List Nat) := match x.toP with
  | some p => if p.showable = true ∧ p.shown.length ≤ SZ ∧ p.depth ≤ 50 then some p.shown.cps.toList else none
  | none => none
/-- the value of a digit -/
def digV (c : Nat) : Option Nat := if 48 ≤ c ∧ c ≤ 57 then some (c - 48) else if 97 ≤ c ∧ c ≤ 102 then some (c - 87) else if 65 ≤ c ∧ c ≤ 70 then some (c - 55) else none
def isDig (b c : Nat) : Bool := match digV c with
  | some v => decide (v < b)
  | none => false
def numB (b : Nat) (l : List Nat) : Nat := l.foldl (fun a c => a * b + (digV c).getD 0) 0
/-- int(text, base) -/
def intB (l : List Nat) (b : Int) : Option IV := if (b = 2 ∨ b = 10 ∨ b = 16) ∧ l ≠ [] ∧ l.length ≤ 640 ∧ l.all (isDig b.toNat) = true then some (.int (numB b.toNat l)) else none
/-- str(int) -/
def strI' (i : Int) : List Nat := (Str.ofString (toString i)).cps.toList
def fnD : BFn → List IV → Option IV
  | .len, [.str l] => if l.length ≤ SZ then some (.int l.length) else none
  | .len, [.lst l] => some (.int l.length)
  | .len, [.tup l] => some (.int l.length)
  | .int, [.int i] => some (.int i)
  | .int, [.bl b] => some (.int (if b then 1 else 0))
  | .int, [.str l, .int b] => intB l b
  | .ord, [.str [c]] => some (.int (c : Nat))
  | .str, [.int i] => if i.natAbs.log2 < 1920 then some (.str (strI' i)) else none
  | .all, [.lst xs] => (bools xs).map fun bs => .bl (bs.all id)
  | .any, [.lst xs] => (bools xs).map fun bs => .bl (bs.any id)
  | .list, [.str l] => if l.length ≤ SZ then some (.lst (l.map fun c => .str [c])) else none
  | .list, [.lst l] => some (.lst l)
  | .list, [.tup l] => some (.lst l)
  | .tuple, [.lst l] => some (.tup l)
  | .tuple, [.tup l] => some (.tup l)
  | .repr, [.lst l] => (reprL l).map .str
  | .repr, [.tup l] => (reprD (.tup l)).map .str
  | _, _ => none
/-- isinstance of a built-in class -/
def isiD : IV → String → Option Bool
  | .non, "str" => some false
  | .bl _, "str" => some false
  | .int _, "str" => some false
  | .str _, "str" => some true
  | .tup _, "str" => some false
  | .lst _, "str" => some false
  | .dct _, "str" => some false
  | .non, "int" => some false
  | .bl _, "int" => some true
  | .int _, "int" => some true
  | .str _, "int" => some false
  | .tup _, "int" => some false
  | .lst _, "int" => some false
  | .dct _, "int" => some false
  | .non, "bool" => some false
  | .bl _, "bool" => some true
  | .int _, "bool" => some false
  | .str _, "bool" => some false
  | .tup _, "bool" => some false
  | .lst _, "bool" => some false
  | .dct _, "bool" => some false
  | .non, "tuple" => some false
  | .bl _, "tuple" => some false
  | .int _, "tuple" => some false
  | .str _, "tuple" => some false
  | .tup _, "tuple" => some true
  | .lst _, "tuple" => some false
  | .dct _, "tuple" => some false
  | _, _ => none
def texts : List IV → Option (List (List Nat))
  | [] => some []
  | .str l :: r => (texts r).map (l :: ·)
  | _ => none
/-- the characters of ASCII -/
def ascii (l : List Nat) : Bool := l.all (· < 128)
def mtD : BMt → IV → List IV → Option IV
  | .join, .str s, [.lst xs] => match texts xs with
    | some ts => if (ts.map List.length).sum + ts.length * s.length ≤ SZ then some (.str (TL.joinL s ts)) else none
    | none => none
  | .split, .str a, [.str b] => if b ≠ [] ∧ ascii b = true ∧ a.length + 2 ≤ SZ then some (.lst ((TL.spl b 0 [] a).map .str)) else none
  | .part, .str a, [.str b] => if b ≠ [] ∧ a.length ≤ SZ then (match TL.par b [] a with
    | some (x, y) => some (.tup [.str x, .str b, .str y])
    | none => some (.tup [.str a, .str [], .str []])) else none
  | .upper, .str a, [] => if a.length ≤ 1000000 then some (.str (Txt.upper (sOf a)).cps.toList) else none
  | _, _, _ => none
def fldD (f : Str) (cs ks : List Nat) : IV → Option IV
  | .exc c fs => if c ∈ cs then fs.lookup f else none
  | .ins c fs => if c ∈ ks then fs.lookup f else none
  | _ => none
/-- which def is the method -/
def methD (m : Str) (tab : List (Nat × Nat)) : IV → Option Nat
  | .ins c fs => if (fs.lookup m).isNone = true then tab.lookup c else none
  | _ => none
def putFD (f : Str) (v : IV) : List (Str × IV) → List (Str × IV)
  | [] => [(f, v)]
  | (g, x) :: r => if g = f then (g, v) :: r else (g, x) :: putFD f v r
def setFD (f : Str) (cs : List Nat) (v : IV) : IV → Option IV
  | .ins c fs => if c ∈ cs ∧ fs.length < 1000 then some (.ins c (putFD f v fs)) else none
  | _ => none
def augD : BOp → IV → IV → Option IV
  | .add, .int i, .int j => some (.int (i + j))
  | .sub, .int i, .int j => some (.int (i - j))
  | _, _, _ => none
def isxD (ys ns : List Nat) : IV → Option IV
  | .exc c _ => if c ∈ ys then some (.bl true) else if c ∈ ns then some (.bl false) else none
  | _ => none
def pr1D : P1 → IV → Option IV
  | .fld f cs ks => fldD f cs ks
  | .isx _ _ ys ns => isxD ys ns
def mkD (c : Nat) (ps : List Str) (ds : List IV) : Option IV := if ds.length = ps.length then some (.exc c (ps.zip ds)) else none
/-! dicts -/
def keyOf : IV → Option Key
  | .int i => some (.inl i)
  | .str l => some (.inr (sOf l))
  | _ => none
def getKD (kvs : List (Key × IV)) (k : Key) : Option IV := (kvs.find? fun kv => decide (kv.1 = k)).map (·.2)
def putKD (kvs : List (Key × IV)) (k : Key) (v : IV) : List (Key × IV) := if (kvs.any fun kv => decide (kv.1 = k)) = true then kvs.map fun kv => if kv.1 = k then (kv.1, v) else kv else kvs ++ [(k, v)]
def dixD : IV → IV → Option IV
  | .dct kvs, y => match keyOf y with
    | some k => getKD kvs k
    | none => none
  | _, _ => none
def kixD (kvs : List (Key × IV)) (y : IV) : Option IV := match keyOf y with
  | some k => getKD kvs k
  | none => none
def kgetD (kvs : List (Key × IV)) (y z : IV) : Option IV := match keyOf y with
  | some k => some ((getKD kvs k).getD z)
  | none => none
def enumD {α : Type} (f : Nat → α → IV) : Nat → List α → List IV
  | _, [] => []
  | n, x :: r => f n x :: enumD f (n + 1) r

/-! ### runs -/
/-- an exception: its class, its fields -/
structure Xn where
  c : Nat
  fs : List (Str × IV)
abbrev Out (α : Type) := Option (Except Xn α × List Sl)
abbrev R (α : Type) := List Sl → Out α
def rPure {α : Type} (a : α) : R α := fun ρ => some (.ok a, ρ)
def rBind {α β : Type} (m : R α) (f : α → R β) : R β := fun ρ => match m ρ with
  | none => none
  | some (.error x, ρ') => some (.error x, ρ')
  | some (.ok a, ρ') => f a ρ'
def rLift {α : Type} (o : Option α) : R α := fun ρ => match o with
  | some a => some (.ok a, ρ)
  | none => none
/-- in a comprehension nothing is raised -/
def rQuiet {α : Type} (m : R α) : R α := fun ρ => match m ρ with
  | some (.error _, _) => none
  | r => r
abbrev CS := Nat → List IV → Option (Except Xn IV × List IV)
def rVar (i : Nat) : R IV := fun ρ => match ρ[i]? with
  | some (.i d) => some (.ok d, ρ)
  | _ => none
def rView (i : Nat) : R IV := fun ρ => match ρ[i]? with
  | some (.o d) => some (.ok d, ρ)
  | some (.b d) => some (.ok d, ρ)
  | _ => none
def rAndV (a b : R IV) : R IV := rBind a fun x => match x with
  | .bl true => b
  | .bl false => rPure (.bl false)
  | _ => rLift none
def rOrV (a b : R IV) : R IV := rBind a fun x => match x with
  | .bl true => rPure (.bl true)
  | .bl false => b
  | _ => rLift none
def rNotV (a : R IV) : R IV := rBind a fun x => match x with
  | .bl b => rPure (.bl !b)
  | _ => rLift none
def rIf {α : Type} (c : R Bool) (a b : R α) : R α := rBind c fun t => if t = true then a else b
def argD (ρ : List Sl) : IV ⊕ Nat → Option IV
  | .inl d => some d
  | .inr i => ρ[i]?.bind Sl.mut
def argsD (ρ : List Sl) : List (IV ⊕ Nat) → Option (List IV)
  | [] => some []
  | x :: xs => match argD ρ x, argsD ρ xs with
    | some d, some ds => some (d :: ds)
    | _, _ => none
def putM : List (IV ⊕ Nat) → List IV → List Sl → List Sl
  | .inr i :: xs, m :: ms, ρ => putM xs ms (match ρ[i]? with | some r => ρ.set i (r.put m) | none => ρ)
  | .inl _ :: xs, _ :: ms, ρ => putM xs ms ρ
  | _, _, ρ => ρ
def rCall (cs : CS) (f : Nat) (xs : List (IV ⊕ Nat)) : R IV := fun ρ => match argsD ρ xs with
  | none => none
  | some ds => match cs f ds with
    | none => none
    | some (r, ms) => some (r, putM xs ms ρ)
def newEnd (xs : List (IV ⊕ Nat)) (ρ : List Sl) : Option (Except Xn IV × List IV) → Out IV
  | some (.ok .non, m :: ms) => some (.ok m, putM xs ms ρ)
  | some (.error x, _ :: ms) => some (.error x, putM xs ms ρ)
  | _ => none
def rNew (cs : CS) (c f : Nat) (xs : List (IV ⊕ Nat)) : R IV := fun ρ => match argsD ρ xs with
  | none => none
  | some ds => newEnd xs ρ (cs f (.ins c [] :: ds))
def rRaise (x : Xn) : R Unit := fun ρ => some (.error x, ρ)
def pick {α : Type} (ds : List α) : List Nat → Option (List α)
  | [] => some []
  | i :: is => match ds[i]?, pick ds is with
    | some d, some r => some (d :: r)
    | _, _ => none
def rCallK (cs : CS) (f : Nat) (perm : List Nat) (ds : List IV) : R IV := fun ρ => match pick ds perm with
  | none => none
  | some es => match cs f es with
    | none => none
    | some (r, _) => some (r, ρ)
def setTgs : List Nat → List IV → List Sl → List Sl
  | i :: is, d :: ds, ρ => setTgs is ds (ρ.set i (.i d))
  | _, _, ρ => ρ
def rTg (tg : List Nat) (d : IV) : R Unit := fun ρ => match tg with
  | [i] => some (.ok (), ρ.set i (.i d))
  | _ => match d with
    | .tup ds => if ds.length = tg.length then some (.ok (), setTgs tg ds ρ) else none
    | _ => none
def clear : List Nat → List Sl → List Sl
  | [], ρ => ρ
  | i :: is, ρ => clear is (ρ.set i .e)
def empty (tg : List Nat) (ρ : List Sl) : Bool := tg.all fun i => match ρ[i]? with
  | some .e => true
  | _ => false
def rClr (tg : List Nat) : R Unit := fun ρ => some (.ok (), clear tg ρ)
def rComp (tg : List Nat) (c : R Bool) (e : R IV) : List IV → R (List IV)
  | [] => rPure []
  | x :: xs => rBind (rTg tg x) fun _ => rBind c fun t => if t = true then rBind e fun y => rBind (rClr tg) fun _ => rBind (rComp tg c e xs) fun ys => rPure (y :: ys) else rBind (rClr tg) fun _ => rComp tg c e xs
def Sl.light : Sl → Bool
  | .e => true
  | .i _ => true
  | _ => false
/-- the slots of tg hold no changing object -/
def light (tg : List Nat) (ρ : List Sl) : Bool := tg.all fun i => match ρ[i]? with
  | some r => r.light
  | none => false
/-- the slots of tg as they were in ρ -/
def back : List Nat → List Sl → List Sl → List Sl
  | [], _, ρ' => ρ'
  | i :: is, ρ, ρ' => back is ρ (match ρ[i]? with | some r => ρ'.set i r | none => ρ')
def rList (tg : List Nat) (c : R Bool) (e : R IV) (xs : List IV) : R IV := fun ρ =>
  if light tg ρ = true ∧ xs.length ≤ SZ then match rComp tg c e xs (clear tg ρ) with
    | some (.ok ys, ρ') => some (.ok (.lst ys), back tg ρ ρ')
    | _ => none
  else none
/-- {k: v for ..} -/
def rDComp (tg : List Nat) (c : R Bool) (k v : R IV) : List IV → List (Key × IV) → R (List (Key × IV))
  | [], acc => rPure acc
  | x :: xs, acc => rBind (rTg tg x) fun _ => rBind c fun t => if t = true then rBind k fun y => rBind v fun z => rBind (rLift (keyOf y)) fun kk => rBind (rClr tg) fun _ => rDComp tg c k v xs (putKD acc kk z) else rBind (rClr tg) fun _ => rDComp tg c k v xs acc
def rDict (tg : List Nat) (c : R Bool) (k v : R IV) (xs : List IV) : R IV := fun ρ =>
  if light tg ρ = true ∧ xs.length < SZ then match rDComp tg c k v xs [] (clear tg ρ) with
    | some (.ok kvs, ρ') => some (.ok (.dct kvs), back tg ρ ρ')
    | _ => none
  else none
def intI : IV → Option Int
  | .int i => some i
  | _ => none
def strI : IV → Option Unit
  | .str _ => some ()
  | _ => none
def seqL : IV → Option (List IV)
  | .lst xs => some xs
  | _ => none
def seqT : IV → Option (List IV)
  | .tup xs => some xs
  | _ => none
def seqS : IV → Option (List IV)
  | .str l => some (l.map fun c => .str [c])
  | _ => none
def seqR : IV → Option (List IV)
  | .int n => if -(2 ^ 62) ≤ n ∧ n < 2 ^ 62 then some ((List.range n.toNat).map fun i => .int (i : Nat)) else none
  | _ => none
def seqR2 : IV → IV → Option (List IV)
  | .int m, .int n => if -(2 ^ 62) ≤ m ∧ m < 2 ^ 62 ∧ -(2 ^ 62) ≤ n ∧ n < 2 ^ 62 then some ((List.range (n - m).toNat).map fun i => .int (m + (i : Nat))) else none
  | _, _ => none
def seqR3 : IV → IV → IV → Option (List IV)
  | .int m, .int n, .int d => if d ≠ 0 ∧ d.natAbs < 1073741824 ∧ Builtin.Range.small m n d = true ∧ 0 ≤ Builtin.Range.rangeSize m n d then some ((List.range (Builtin.Range.rangeSize m n d).toNat).map fun i => .int (m + (i : Nat) * d)) else none
  | _, _, _ => none
def seqE : IV → Option (List IV)
  | .lst xs => some (enumD (fun n x => .tup [.int (n : Nat), x]) 0 xs)
  | _ => none

mutual
/-- an expression: its value, its truth -/
def ev (cs : CS) : E → R IV × R Bool
  | .var i => let v := rVar i; (v, rBind v fun d => rLift (truD d))
  | .view i => let v := rView i; (v, rBind v fun d => rLift (truD d))
  | .cst d => let v := rPure d; (v, rBind v fun d => rLift (truD d))
  | .glo _ d => let v := rPure d; (v, rBind v fun d => rLift (truD d))
  | .bin o a b => let v := rBind (ev cs a).1 fun x => rBind (ev cs b).1 fun y => rLift (binD o x y); (v, rBind v fun d => rLift (truD d))
  | .neg a => let v := rBind (ev cs a).1 fun x => match x with | .int i => rPure (.int (-i)) | _ => rLift none; (v, rBind v fun d => rLift (truD d))
  | .cmp o a b => let v := rBind (ev cs a).1 fun x => rBind (ev cs b).1 fun y => rLift ((cmpD o x y).map .bl); (v, rBind v fun d => rLift (truD d))
  | .chn o p a b c => let v := rBind (ev cs a).1 fun x => rBind (ev cs b).1 fun y => rBind (rLift (cmpD o x y)) fun t => if t = true then rBind (ev cs c).1 fun z => rLift ((cmpD p y z).map .bl) else rPure (.bl false)
    (v, rBind v fun d => rLift (truD d))
  | .and es => evAnd cs es
  | .or es => evOr cs es
  | .not a => (rNotV (ev cs a).1, rBind (ev cs a).2 fun t => rPure !t)
  | .ite c a b => let v := rIf (ev cs c).2 (ev cs a).1 (ev cs b).1; (v, rBind v fun d => rLift (truD d))
  | .ix a b => let v := rBind (ev cs a).1 fun x => rBind (ev cs b).1 fun y => rLift (ixD x y); (v, rBind v fun d => rLift (truD d))
  | .sl a lo hi => let v := rBind (ev cs a).1 fun x => rBind (evO cs lo) fun l => rBind (evO cs hi) fun h => rLift (slD x l h); (v, rBind v fun d => rLift (truD d))
  | .lst es => let v := rBind (evEs cs es) fun xs => rLift (if xs.length ≤ SZ then some (.lst xs) else none); (v, rBind v fun d => rLift (truD d))
  | .tup es => let v := rBind (evEs cs es) fun xs => rLift (if xs.length ≤ SZ then some (.tup xs) else none); (v, rBind v fun d => rLift (truD d))
  | .dct ks es => let v := rBind (evEs cs es) fun xs => rPure (.dct (ks.zip xs)); (v, rBind v fun d => rLift (truD d))
  | .fn f es => let v := rBind (evEs cs es) fun xs => rLift (fnD f xs); (v, rBind v fun d => rLift (truD d))
  | .isi a t => let v := rBind (ev cs a).1 fun x => rLift ((isiD x t).map .bl); (v, rBind v fun d => rLift (truD d))
  | .mt m a es => let v := rBind (ev cs a).1 fun x => rBind (rLift (strI x)) fun _ => rBind (evEs cs es) fun xs => rLift (mtD m x xs); (v, rBind v fun d => rLift (truD d))
  | .call f as => let v := rBind (evAs cs as) fun xs => rCall cs f xs; (v, rBind v fun d => rLift (truD d))
  | .callK f as bs _ perm => let v := rBind (evEs cs as) fun ds => rBind (evEs cs bs) fun es => rCallK cs f perm (ds ++ es); (v, rBind v fun d => rLift (truD d))
  | .comp tg it c e => let v := rBind (evIt cs it) fun xs => rList tg (evC cs c) (ev cs e).1 xs; (v, rBind v fun d => rLift (truD d))
  | .pr1 p a => let v := rBind (ev cs a).1 fun x => rLift (pr1D p x); (v, rBind v fun d => rLift (truD d))
  | .mk c ps es => let v := rBind (evEs cs es) fun xs => rLift (mkD c ps xs); (v, rBind v fun d => rLift (truD d))
  | .mkK c ps as bs _ perm => let v := rBind (evEs cs as) fun ds => rBind (evEs cs bs) fun es => rLift (match pick (ds ++ es) perm with | some zs => mkD c ps zs | none => none); (v, rBind v fun d => rLift (truD d))
  | .vfld i f cs' => let v := rBind (rView i) fun x => rLift (fldD f [] cs' x); (v, rBind v fun d => rLift (truD d))
  | .methV m tab a as dv => let v := rBind (ev cs a).1 fun x => rBind (rLift (methD m tab x)) fun f => rBind (evAs cs as) fun xs => rCall cs f (.inl x :: (xs ++ dv.map .inl)); (v, rBind v fun d => rLift (truD d))
  | .methM m tab i as dv => let v := rBind (rView i) fun x => rBind (rLift (methD m tab x)) fun f => rBind (evAs cs as) fun xs => rCall cs f (.inr i :: (xs ++ dv.map .inl)); (v, rBind v fun d => rLift (truD d))
  | .new c f as dv => let v := rBind (evAs cs as) fun xs => rNew cs c f (xs ++ dv.map .inl); (v, rBind v fun d => rLift (truD d))
  | .callD f as dv => let v := rBind (evAs cs as) fun xs => rCall cs f (xs ++ dv.map .inl); (v, rBind v fun d => rLift (truD d))
  | .dix a b => let v := rBind (ev cs a).1 fun x => rBind (ev cs b).1 fun y => rLift (dixD x y); (v, rBind v fun d => rLift (truD d))
  | .kix _ kvs b => let v := rBind (ev cs b).1 fun y => rLift (kixD kvs y); (v, rBind v fun d => rLift (truD d))
  | .kget _ kvs b d => let v := rBind (ev cs b).1 fun y => rBind (ev cs d).1 fun z => rLift (kgetD kvs y z); (v, rBind v fun d => rLift (truD d))
  | .dcomp tg it c k e => let v := rBind (evIt cs it) fun xs => rDict tg (evC cs c) (ev cs k).1 (ev cs e).1 xs; (v, rBind v fun d => rLift (truD d))
  | .listG f as bs _ dv perm => let v := rBind (evEs cs as) fun ds => rBind (evEs cs bs) fun es => rCallK cs f perm (ds ++ es ++ dv); (v, rBind v fun d => rLift (truD d))
def evAnd (cs : CS) : Es → R IV × R Bool
  | .nil => (rLift none, rLift none)
  | .cons e r => match r with
    | .nil => ev cs e
    | .cons e' r' => (rAndV (ev cs e).1 (evAnd cs (.cons e' r')).1, rIf (ev cs e).2 (evAnd cs (.cons e' r')).2 (rPure false))
def evOr (cs : CS) : Es → R IV × R Bool
  | .nil => (rLift none, rLift none)
  | .cons e r => match r with
    | .nil => ev cs e
    | .cons e' r' => (rOrV (ev cs e).1 (evOr cs (.cons e' r')).1, rIf (ev cs e).2 (rPure true) (evOr cs (.cons e' r')).2)
def evO (cs : CS) : OE → R (Option Int)
  | .no => rPure none
  | .yes e => rBind (ev cs e).1 fun x => rLift ((intI x).map some)
def evC (cs : CS) : OE → R Bool
  | .no => rPure true
  | .yes e => (ev cs e).2
def evEs (cs : CS) : Es → R (List IV)
  | .nil => rPure []
  | .cons e r => rBind (ev cs e).1 fun x => rBind (evEs cs r) fun xs => rPure (x :: xs)
def evAs (cs : CS) : As → R (List (IV ⊕ Nat))
  | .nil => rPure []
  | .v e r => rBind (ev cs e).1 fun x => rBind (evAs cs r) fun xs => rPure (.inl x :: xs)
  | .m i r => rBind (rView i) fun _ => rBind (evAs cs r) fun xs => rPure (.inr i :: xs)
def evIt (cs : CS) : It → R (List IV)
  | .lst e => rBind (ev cs e).1 fun x => rLift (seqL x)
  | .tup e => rBind (ev cs e).1 fun x => rLift (seqT x)
  | .txt e => rBind (ev cs e).1 fun x => rLift (seqS x)
  | .rng a => rBind (ev cs a).1 fun x => rLift (seqR x)
  | .rng2 a b => rBind (ev cs a).1 fun x => rBind (ev cs b).1 fun y => rLift (seqR2 x y)
  | .enu e => rBind (ev cs e).1 fun x => rLift (seqE x)
  | .rng3 a b c => rBind (ev cs a).1 fun x => rBind (ev cs b).1 fun y => rBind (ev cs c).1 fun z => rLift (seqR3 x y z)
end
/-- how a statement ends -/
inductive Fl where
  | nx | rt (d : IV) | bk | ct
def rWhile (c : R Bool) (b : R Fl) : Nat → R Fl
  | 0 => fun _ => none
  | n + 1 => rBind c fun t => if t = true then rBind b fun f => match f with
    | .nx => rWhile c b n
    | .ct => rWhile c b n
    | .bk => rPure .nx
    | .rt d => rPure (.rt d) else rPure .nx
def rFor (tg : List Nat) (b : R Fl) : List IV → R Fl
  | [] => rPure .nx
  | x :: xs => rBind (rTg tg x) fun _ => rBind b fun f => match f with
    | .nx => rFor tg b xs
    | .ct => rFor tg b xs
    | .bk => rPure .nx
    | .rt d => rPure (.rt d)
def rSet (i : Nat) (r : Sl) : R Fl := fun ρ => some (.ok .nx, ρ.set i r)
def rPut (i : Nat) (g : IV → Option IV) : R Fl := fun ρ => match ρ[i]? with
  | some r => match r.mut with
    | some d => match g d with
      | some d' => some (.ok .nx, ρ.set i (r.put d'))
      | none => none
    | none => none
  | none => none
def setD (k v : IV) : IV → Option IV
  | .lst xs => match k with
    | .int i => (ixN xs.length i).map fun j => .lst (xs.set j v)
    | _ => none
  | _ => none
def appD (v : IV) : IV → Option IV
  | .lst xs => if xs.length < SZ then some (.lst (xs ++ [v])) else none
  | _ => none
mutual
def evS (cs : CS) (N : Nat) : S → R Fl
  | .asg i e => rBind (ev cs e).1 fun d => rSet i (.i d)
  | .asgO i e => rBind (ev cs e).1 fun d => rSet i (.o d)
  | .unp is e => rBind (ev cs e).1 fun d => rBind (rTg is d) fun _ => rPure .nx
  | .aug i o e => rBind (rVar i) fun x => rBind (ev cs e).1 fun y => rBind (rLift (augD o x y)) fun d => rSet i (.i d)
  | .setI i k v => rBind (ev cs v).1 fun y => rBind (rView i) fun _ => rBind (ev cs k).1 fun x => rPut i (setD x y)
  | .app i e => rBind (rView i) fun d => rBind (rLift (seqL d)) fun _ => rBind (ev cs e).1 fun x => rPut i (appD x)
  | .setF i f cs' e => rBind (ev cs e).1 fun d => rBind (rView i) fun _ => rPut i (setFD f cs' d)
  | .augF i f cs' o e => rBind (rView i) fun x => rBind (rLift (fldD f [] cs' x)) fun a => rBind (ev cs e).1 fun y => rBind (rLift (augD o a y)) fun d => rPut i (setFD f cs' d)
  | .par i j oi oj a b => rBind (ev cs a).1 fun x => rBind (ev cs b).1 fun y => rBind (rSet i (if oi = true then .o x else .i x)) fun _ => rSet j (if oj = true then .o y else .i y)
  | .raise c ps es => rBind (evEs cs es) fun ds => rBind (rLift (if ds.length = ps.length then some () else none)) fun _ => rBind (rRaise ⟨c, ps.zip ds⟩) fun _ => rPure .nx
  | .drop e => rBind (ev cs e).1 fun _ => rPure .nx
  | .ret e => rBind (ev cs e).1 fun d => rPure (.rt d)
  | .retN => rPure (.rt .non)
  | .retO i => fun ρ => match ρ[i]? with
    | some (.o d) => some (.ok (.rt d), ρ)
    | _ => none
  | .ite c a b => rIf (ev cs c).2 (evSs cs N a) (evSs cs N b)
  | .whl c b => rWhile (ev cs c).2 (evSs cs N b) N
  | .loop tg it b => rBind (evIt cs it) fun xs => rFor tg (evSs cs N b) xs
  | .pass => rPure .nx
  | .brk => rPure .bk
  | .cnt => rPure .ct
def evSs (cs : CS) (N : Nat) : Ss → R Fl
  | .nil => rPure .nx
  | .cons s r => rBind (evS cs N s) fun f => match f with
    | .nx => evSs cs N r
    | f => rPure f
  | .frz i r => fun ρ => match ρ[i]? with
    | some (.o d) => evSs cs N r (ρ.set i (.i d))
    | _ => none
end
def rWhileG (c : R Bool) (b : List IV → R (Fl × List IV)) : Nat → List IV → R (Fl × List IV)
  | 0, _ => fun _ => none
  | n + 1, ys => rBind c fun t => if t = true then rBind (b ys) fun p => match p.1 with
    | .nx => rWhileG c b n p.2
    | .ct => rWhileG c b n p.2
    | .bk => rPure (.nx, p.2)
    | .rt d => rPure (.rt d, p.2) else rPure (.nx, ys)
mutual
/-- a generator's statements: ys: what is out -/
def evG (cs : CS) (N : Nat) : G → List IV → R (Fl × List IV)
  | .pl s, ys => rBind (evS cs N s) fun f => rPure (f, ys)
  | .yld e, ys => rBind (rLift (if ys.length < SZ then some () else none)) fun _ => rBind (ev cs e).1 fun d => rPure (.nx, ys ++ [d])
  | .whl c b, ys => rWhileG (ev cs c).2 (evGs cs N b) N ys
def evGs (cs : CS) (N : Nat) : Gs → List IV → R (Fl × List IV)
  | .nil, ys => rPure (.nx, ys)
  | .cons g r, ys => rBind (evG cs N g ys) fun p => match p.1 with
    | .nx => evGs cs N r p.2
    | f => rPure (f, p.2)
end
/-- a def: its name, parameters, slots' names, which parameters change, whether it gives a new object, its body -/
structure Fn where
  name : Str
  ps : List Str
  ns : List Str
  muts : List Bool
  own : Bool
  body : Ss
  kws : List (Nat × List Str × List Nat) := []
  qual : Str := name
  glob : Bool := true
  dfls : List (List IV) := []
  gbody : Option Gs := none
  kwds : List (Nat × List Str × List IV × List Nat) := []
  rp : Bool := true
def startA : List Bool → List IV → List Sl
  | m :: ms, d :: ds => (if m = true then Sl.b d else Sl.i d) :: startA ms ds
  | _, _ => []
def Fn.start (fn : Fn) (ds : List IV) : List Sl := startA fn.muts ds ++ List.replicate (fn.ns.length - fn.ps.length) .e
def mutsOf : List Bool → List Sl → Option (List IV)
  | [], _ => some []
  | false :: bs, _ :: ρ => (mutsOf bs ρ).map (IV.non :: ·)
  | true :: bs, .b d :: ρ => (mutsOf bs ρ).map (d :: ·)
  | _, _ => none
def endF (fn : Fn) : Out Fl → Option (Except Xn IV × List IV)
  | some (.ok (.rt d), ρ) => (mutsOf fn.muts ρ).map fun ms => (.ok d, ms)
  | some (.ok .nx, ρ) => if fn.own = true then none else (mutsOf fn.muts ρ).map fun ms => (.ok .non, ms)
  | some (.error x, ρ) => (mutsOf fn.muts ρ).map fun ms => (.error x, ms)
  | _ => none
def endG : Out (Fl × List IV) → Option (Except Xn IV × List IV)
  | some (.ok (.nx, ys), _) => some (.ok (.lst ys), [])
  | some (.error x, _) => some (.error x, [])
  | _ => none
def runF (T : Nat → Option Fn) (N : Nat) : Nat → CS
  | 0 => fun _ _ => none
  | n + 1 => fun f ds => match T f with
    | none => none
    | some fn => if ds.length = fn.ps.length then match fn.gbody with
      | none => endF fn (evSs (runF T N n) N fn.body (fn.start ds))
      | some g => endG (evGs (runF T N n) N g [] (fn.start ds)) else none
end Mx


/-! Mx, part 3: the operations are those of the model. -/
namespace Mx
open PySem PySem.Spec PyProof.Rows L2

/-- a datum that is read: also one of the changing objects -/
def RepX (K : PySem.W.Frag) (cl : Nat → Option Addr) (O : List Addr) (H : Hp) (v : V) (d : IV) : Prop := Rep K cl O H v d ∨ ∃ a, v = .ref a ∧ a ∈ O ∧ Own K cl O H a d
section
variable {K : PySem.W.Frag} {cl : Nat → Option Addr} {O : List Addr} {H H' : Hp} {v : V}
theorem RepX.same {d : IV} (k : Same H H') (h : RepX K cl O H v d) : RepX K cl O H' v d := by
  rcases h with h | ⟨a, e, n, w⟩
  · exact .inl (h.keep (.same k))
  · exact .inr ⟨a, e, n, w.keep (.same k) fun o => k a o⟩
theorem RepX.non (h : RepX K cl O H v .non) : v = .non := by
  rcases h with h | ⟨_, _, _, w⟩
  · cases h; rfl
  · cases w
theorem RepX.bl {b : Bool} (h : RepX K cl O H v (.bl b)) : v = .bl b := by
  rcases h with h | ⟨_, _, _, w⟩
  · cases h; rfl
  · cases w
theorem RepX.int {i : Int} (h : RepX K cl O H v (.int i)) : v = .int i := by
  rcases h with h | ⟨_, _, _, w⟩
  · cases h; rfl
  · cases w
theorem RepX.str {l : List Nat} (h : RepX K cl O H v (.str l)) : v = .str (sOf l) := by
  rcases h with h | ⟨_, _, _, w⟩
  · cases h; rfl
  · cases w
theorem RepX.lst {ds : List IV} (h : RepX K cl O H v (.lst ds)) : ∃ a vs, v = .ref a ∧ SqL K H a vs ∧ RepAll K cl O H vs ds := by
  rcases h with h | ⟨a, rfl, _, w⟩
  · exact h.lstI
  · cases w with
    | lst h r => exact ⟨a, _, rfl, SqL.of h, r⟩
theorem RepX.tup {ds : List IV} (h : RepX K cl O H v (.tup ds)) : ∃ a vs, v = .ref a ∧ SqT K H a vs ∧ RepAll K cl O H vs ds := by
  rcases h with h | ⟨a, rfl, _, w⟩
  · exact h.tupI
  · cases w
theorem RepX.tupR {ds : List IV} (h : RepX K cl O H v (.tup ds)) : Rep K cl O H v (.tup ds) := by
  rcases h with h | ⟨a, rfl, _, w⟩
  · exact h
  · cases w
theorem notin_of {p : Addr} (live : ∀ a ∈ O, H a ≠ none) (hp : H p = none) : p ∉ O := fun z => live p z hp
/-- a new list, a new tuple -/
theorem rep_newL {p : Addr} {vs : List V} {ds : List IV} (live : ∀ a ∈ O, H a ≠ none) (hp : H p = none) (r : RepAll K cl O H vs ds) : Rep K cl O (upd H p (.lst vs)) (.ref p) (.lst ds) :=
  .lstH (.inl upd_same) (notin_of live hp) (r.keep (.same (same_new hp)))
theorem rep_newT {p : Addr} {vs : List V} {ds : List IV} (live : ∀ a ∈ O, H a ≠ none) (hp : H p = none) (r : RepAll K cl O H vs ds) : Rep K cl O (upd H p (.tup vs)) (.ref p) (.tup ds) :=
  .tupH (.inl upd_same) (notin_of live hp) (r.keep (.same (same_new hp)))
theorem repAll_strs : ∀ ts : List (List Nat), RepAll K cl O H (ts.map fun t => V.str (sOf t)) (ts.map IV.str)
  | [] => .nil
  | t :: ts => .cons (.str t) (repAll_strs ts)
theorem RepAll.rep : ∀ {n : Nat} {vs : List V} {ds : List IV}, RepAll K cl O H vs ds → RepAll K cl O H (List.replicate n vs).flatten (List.replicate n ds).flatten
  | 0, _, _, _ => .nil
  | n + 1, _, _, r => by
    rw [List.replicate_succ, List.replicate_succ, List.flatten_cons, List.flatten_cons]
    exact r.append (RepAll.rep r)
end
/-- what an operation of two data gives -/
def r2D (K : PySem.W.Frag) (cl : Nat → Option Addr) (f : IV → IV → Option IV) : R2 := fun x y H Q =>
  ∃ O dx dy d, (∀ a ∈ O, H a ≠ none) ∧ RepX K cl O H x dx ∧ RepX K cl O H y dy ∧ f dx dy = some d ∧ ∀ v H', Same H H' → Rep K cl O H' v d → Q v H'
section
variable {X : Cx} {cl : Nat → Option Addr}
theorem szl {n : Nat} (h : n ≤ SZ) : n ≤ sizeLine := by rw [sizeLine_eq]; exact h
theorem op_catL : OpR X (binaryOp .Add) (fun x y H Q => ∃ a b xs ys, x = .ref a ∧ y = .ref b ∧ SqL X.K H a xs ∧ SqL X.K H b ys ∧ xs.length + ys.length ≤ sizeLine ∧ ∀ p, H p = none → Q (.ref p) (upd H p (.lst (xs ++ ys)))) := by
  intro pins s σ H x y v u Q I rx ry h
  obtain ⟨a, b, xs, ys, rfl, rfl, ha, hb, hz, q⟩ := h
  cases rx
  cases ry
  obtain ⟨its, r1, p1, _⟩ := I.list ha
  obtain ⟨jts, r2, p2, _⟩ := I.list hb
  obtain ⟨⟨c1, d1, t1, s1⟩, n1, ho1, hc1, hd1, ht1⟩ := id p1
  obtain ⟨⟨c2, d2, t2, s2⟩, n2, ho2, hc2, hd2, ht2⟩ := id p2
  simp only at hc1 hd1 ht1 hc2 hd2 ht2
  subst hc1 hd1 ht1 hc2 hd2 ht2
  have l1 := r1.length
  have l2 := r2.length
  refine concat_meets ⟨_, ho1, rfl⟩ ⟨_, ho2, rfl⟩ noFill_list_add seq_list_add PySem.F.slot_list_add PySem.F.entry_list_add (PySem.F.args_list_add_2 _ _)
    (list_addW a b its.toArray jts.toArray n1 n2 none none s1 s2 (by rw [List.size_toArray, List.size_toArray]; omega)) ⟨ho1, ho2, ?_⟩
  rw [show its.toArray ++ jts.toArray = (its ++ jts).toArray by simp]
  exact ⟨.ref _, _, I.lnew (t' := s.toks) (r1.append r2) (by rw [List.length_append]; omega), rfl, q _ I.fresh⟩
theorem opD_add : OpR X (binaryOp .Add) (r2D X.K cl addD) := by
  intro pins s σ H x y v u Q I rx ry h
  obtain ⟨O, dx, dy, d, live, hx, hy, hf, k⟩ := h
  unfold addD at hf
  split at hf
  · cases hf
    exact op_add pins s σ H x y v u Q I rx ry ⟨_, _, hx.int, hy.int, k _ _ (Same.refl H) (.int _)⟩
  · split at hf
    · rename_i hz
      cases hf
      refine op_add_str pins s σ H x y v u Q I rx ry ⟨_, _, hx.str, hy.str, ?_, k _ _ (Same.refl H) ?_⟩
      · rw [sOf_len, sOf_len]; exact szl hz
      · rename_i a b
        have e : sOf a ++ sOf b = sOf (a ++ b) := TL.ext_tl (by rw [TL.tl_append]; show (sOf a).cps.toList ++ (sOf b).cps.toList = (sOf (a ++ b)).cps.toList; rw [sOf_list, sOf_list, sOf_list])
        rw [e]
        exact .str _
    · cases hf
  · split at hf
    · rename_i hz
      cases hf
      obtain ⟨a, xs, rfl, ha, ra⟩ := hx.lst
      obtain ⟨b, ys, rfl, hb, rb⟩ := hy.lst
      exact op_catL pins s σ H _ _ v u Q I rx ry ⟨a, b, xs, ys, rfl, rfl, ha, hb, szl (by rw [ra.length, rb.length]; exact hz), fun p hp => k _ _ (same_new hp) (rep_newL live hp (ra.append rb))⟩
    · cases hf
  · split at hf
    · rename_i hz
      cases hf
      have hx' := hx.tupR
      have hy' := hy.tupR
      obtain ⟨a, xs, rfl, ha, ra⟩ := hx.tup
      obtain ⟨b, ys, rfl, hb, rb⟩ := hy.tup
      refine op_catA pins s σ H _ _ v u Q I rx ry ⟨a, b, xs, ys, rfl, rfl, ha, hb, szl (by rw [ra.length, rb.length]; exact hz), fun e => ?_, fun _ e => ?_, fun _ _ p hp => k _ _ (same_new hp) (rep_newT live hp (ra.append rb))⟩
      · subst e
        cases ra
        exact k _ _ (Same.refl H) hy'
      · subst e
        cases rb
        rw [List.append_nil] at k
        exact k _ _ (Same.refl H) hx'
    · cases hf
  all_goals cases hf
theorem opD_sub : OpR X (binaryOp .Sub) (r2D X.K cl subD) := by
  intro pins s σ H x y v u Q I rx ry h
  obtain ⟨O, dx, dy, d, live, hx, hy, hf, k⟩ := h
  unfold subD at hf
  split at hf
  rotate_left
  · cases hf
  cases hf
  exact op_sub pins s σ H x y v u Q I rx ry ⟨_, _, hx.int, hy.int, k _ _ (Same.refl H) (.int _)⟩
theorem mulOk_c {i j : Int} (h : mulOk i j = true) : CMul i j := by
  unfold mulOk at h
  simp only [Bool.or_eq_true, Bool.and_eq_true, decide_eq_true_eq] at h
  exact h
theorem cat_rep (x : Array Nat) : ∀ (n : Nat) (acc : Array Nat), ((List.replicate n x).foldl (· ++ ·) acc).toList = acc.toList ++ (List.replicate n x.toList).flatten
  | 0, acc => by simp
  | n + 1, acc => by
    rw [List.replicate_succ, List.foldl_cons, cat_rep x n, List.replicate_succ, List.flatten_cons]
    simp
theorem notLong {n : Nat} (h : n ≤ sizeLine) : Builtin.Str.tooLong n = false := by
  unfold Builtin.Str.tooLong
  exact decide_eq_false (by omega)
theorem op_repS : OpR X (binaryOp .Mult) (fun x y H Q => ∃ (z : List Nat) (n : Int), x = .str (sOf z) ∧ y = .int n ∧ 0 ≤ n ∧ n ≤ SZ ∧ z ≠ [] ∧ z.length * n.toNat ≤ SZ ∧ Q (.str (sOf (List.replicate n.toNat z).flatten)) H) := by
  intro pins s σ H x y v u Q I rx ry h
  obtain ⟨z, n, rfl, rfl, h1, h2, h3, h4, q⟩ := h
  obtain ⟨t, rfl⟩ := rx
  obtain ⟨t', rfl⟩ := ry
  by_cases h0 : n < 1
  · have e0 : n = 0 := by omega
    subst e0
    have e2 : (sOf (List.replicate (0 : Int).toNat z).flatten) = Str.empty := by first | rfl | simp [sOf, Str.empty]
    rw [e2] at q
    exact PySem.P.mul_str_none (by omega) (by omega) ⟨.str Str.empty, H, I.tok _, ⟨s.toks, rfl⟩, q⟩
  have h1 : 1 ≤ n := by omega
  have hl : (sOf z).length = z.length := sOf_len z
  have hb : (n : Int) ≤ 16777216 := h2
  refine PySem.P.mul_str ?_ (fun _ _ => ?_) (fun _ _ => ?_) ?_
  · rw [decide_eq_false (by omega), decide_eq_false (by omega)]; rfl
  · rw [hl]
    have e : z.length ≤ 16777216 := by
      have : z.length * 1 ≤ z.length * n.toNat := Nat.mul_le_mul_left _ (by omega)
      have h4' : z.length * n.toNat ≤ 16777216 := h4
      omega
    have : (16777216 : Int) ≤ (2 ^ 63 - 1) / n := (Int.le_ediv_iff_mul_le (by omega)).mpr (by omega)
    omega
  · rw [hl]
    have h4' : z.length * n.toNat ≤ 16777216 := h4
    exact notLong (szl h4)
  · rw [if_neg (by omega)]
    by_cases h5 : (n == 1 || (sOf z).length == 0) = true
    · rw [if_pos h5]
      have e1 : n = 1 := by
        rw [hl] at h5
        rcases Bool.or_eq_true_iff.mp h5 with e | e
        · simpa using e
        · have : z.length = 0 := by simpa using e
          exact absurd (List.length_eq_zero_iff.mp this) h3
      subst e1
      refine ⟨.str (sOf z), H, I, ⟨t, rfl⟩, ?_⟩
      have e2 : (List.replicate (1 : Int).toNat z).flatten = z := by simp
      rw [e2] at q
      exact q
    · rw [if_neg h5]
      have e5 : (⟨(List.replicate n.toNat (sOf z).cps).foldl (· ++ ·) #[]⟩ : Str) = sOf (List.replicate n.toNat z).flatten := by
        refine TL.ext_tl ?_
        show ((List.replicate n.toNat (sOf z).cps).foldl (· ++ ·) #[]).toList = (sOf _).cps.toList
        rw [cat_rep, sOf_list, sOf_list]
        simp
      rw [e5]
      refine ⟨?_, .str (sOf (List.replicate n.toNat z).flatten), H, I.tok _, ⟨s.toks, rfl⟩, q⟩
      rw [sOf_len]
      refine szl ?_
      simp only [List.length_flatten, List.map_replicate, List.sum_replicate_nat]
      rw [Nat.mul_comm]
      exact h4
end
end Mx


/-! Mx, part 3b: the operations are those of the model. -/
namespace Mx
open PySem PySem.Spec PyProof.Rows L2
section
variable {X : Cx} {cl : Nat → Option Addr}
theorem valsRep : ∀ {n : Nat} {vs : List V} {us : List Value}, Vals vs us → Vals (List.replicate n vs).flatten (List.replicate n us).flatten
  | 0, _, _, _ => .nil
  | n + 1, _, _, r => by
    rw [List.replicate_succ, List.replicate_succ, List.flatten_cons, List.flatten_cons]
    exact r.append (valsRep r)
theorem op_repL : OpR X (binaryOp .Mult) (fun x y H Q => ∃ l k xs, x = .ref l ∧ y = .int k ∧ SqL X.K H l xs ∧ 0 ≤ k ∧ k ≤ SZ ∧ xs.length * k.toNat ≤ SZ ∧ ∀ p, H p = none → Q (.ref p) (upd H p (.lst (List.replicate k.toNat xs).flatten))) := by
  intro pins s σ H x y v u Q I rx ry h
  obtain ⟨l, k, xs, rfl, rfl, hH, h1, h2, hz, q⟩ := h
  cases rx
  obtain ⟨t, rfl⟩ := ry
  obtain ⟨its, r1, p1, _⟩ := I.list hH
  obtain ⟨⟨c1, d1, t1, s1⟩, n1, ho1, hc1, hd1, ht1⟩ := id p1
  simp only at hc1 hd1 ht1
  subst hc1 hd1 ht1
  have l1 := r1.length
  have hk : (k : Int) ≤ 16777216 := h2
  have hz' : its.toArray.size * k.toNat ≤ 2 ^ 24 := by rw [List.size_toArray, ← l1]; exact hz
  refine wpAny_binaryOp_repeat_ref (T := "list") (U := "int") (by decide) ⟨_, ho1, rfl⟩ (fun s' => typeIs_int s' k t) noFill_list_mul F.fills_int_mul F.slot_int_rmul repeat_list F.slot_int_index.lookup
    (call_meets F.slot_int_rmul (typeIs_int s k t) F.entry_int_rmul (F.args_int_rmul_2 _ _) (lm_int_rmul_list_any k t l its.toArray n1 none s1)
      ⟨ho1, rfl, ⟨_, ho1, rfl⟩, call_meets F.slot_list_mul ⟨_, ho1, rfl⟩ F.entry_list_mul (F.args_list_mul_2 _ _)
        (lm_list_mul_any l its.toArray n1 none s1 k t (by simp [Builtin.List.listFitsIndex]; omega) (by omega) (by simp [Builtin.List.listTooLong, sizeLine]; omega)) ⟨ho1, ?_⟩⟩)
  rw [listMul_foldl_if]
  exact ⟨.ref _, _, I.lnew (t' := s.toks) (valsRep r1) (by rw [PyProof.Rows.lm_len_rep_flat, Nat.mul_comm]; exact szl hz), rfl, q _ I.fresh⟩
theorem opD_mul : OpR X (binaryOp .Mult) (r2D X.K cl mulD) := by
  intro pins s σ H x y v u Q I rx ry h
  obtain ⟨O, dx, dy, d, live, hx, hy, hf, k⟩ := h
  unfold mulD at hf
  split at hf
  · split at hf
    · rename_i hz
      cases hf
      exact op_mul pins s σ H x y v u Q I rx ry ⟨_, _, hx.int, hy.int, mulOk_c hz, k _ _ (Same.refl H) (.int _)⟩
    · cases hf
  · split at hf
    · rename_i hz
      cases hf
      obtain ⟨h1, h2, h3, h4⟩ := hz
      exact op_repS pins s σ H x y v u Q I rx ry ⟨_, _, hx.str, hy.int, h1, h2, h3, h4, k _ _ (Same.refl H) (.str _)⟩
    · cases hf
  · split at hf
    · rename_i hz
      cases hf
      obtain ⟨h1, h2, h3⟩ := hz
      obtain ⟨a, xs, rfl, ha, ra⟩ := hx.lst
      exact op_repL pins s σ H _ y v u Q I rx ry ⟨a, _, xs, rfl, hy.int, ha, h1, h2, by rw [ra.length]; exact h3, fun p hp => k _ _ (same_new hp) (rep_newL live hp ra.rep)⟩
    · cases hf
  · cases hf
theorem opD_fdiv : OpR X (binaryOp .FloorDiv) (r2D X.K cl fdivD) := by
  intro pins s σ H x y v u Q I rx ry h
  obtain ⟨O, dx, dy, d, live, hx, hy, hf, k⟩ := h
  unfold fdivD at hf
  split at hf
  · split at hf
    · rename_i hz
      cases hf
      exact op_fdiv pins s σ H x y v u Q I rx ry ⟨_, _, hx.int, hy.int, hz, k _ _ (Same.refl H) (.int _)⟩
    · cases hf
  · cases hf
theorem opD_mod : OpR X (binaryOp .Mod) (r2D X.K cl modD) := by
  intro pins s σ H x y v u Q I rx ry h
  obtain ⟨O, dx, dy, d, live, hx, hy, hf, k⟩ := h
  unfold modD at hf
  split at hf
  · split at hf
    · rename_i hz
      cases hf
      exact op_mod pins s σ H x y v u Q I rx ry ⟨_, _, hx.int, hy.int, hz, k _ _ (Same.refl H) (.int _)⟩
    · cases hf
  · cases hf
theorem opD_pow : OpR X (binaryOp .Pow) (r2D X.K cl powD) := by
  intro pins s σ H x y v u Q I rx ry h
  obtain ⟨O, dx, dy, d, live, hx, hy, hf, k⟩ := h
  unfold powD at hf
  split at hf
  · split at hf
    · rename_i hz
      cases hf
      exact op_pow pins s σ H x y v u Q I rx ry ⟨_, _, hx.int, hy.int, ⟨hz.1, hz.2.1, hz.2.2⟩, k _ _ (Same.refl H) (.int _)⟩
    · cases hf
  · cases hf
def opOf : BOp → Operator
  | .add => .Add
  | .sub => .Sub
  | .mul => .Mult
  | .fdiv => .FloorDiv
  | .mod => .Mod
  | .pow => .Pow
theorem opD (o : BOp) : OpR X (binaryOp (opOf o)) (r2D X.K cl (binD o)) := by
  cases o
  · exact opD_add
  · exact opD_sub
  · exact opD_mul
  · exact opD_fdiv
  · exact opD_mod
  · exact opD_pow
/-! ### comparisons -/
section
variable {K : PySem.W.Frag} {O : List Addr} {H : Hp}
mutual
theorem Rep.dp : ∀ {v : V} {d : IV} {p : PyData}, Rep K cl O H v d → d.toP = some p → Dp K H v p
  | _, _, _, .non, e => by cases e; exact .non
  | _, _, _, .bl b, e => by cases e; exact .bl b
  | _, _, _, .int i, e => by cases e; exact .int i
  | _, _, _, .str l, e => by cases e; exact .str _
  | _, _, _, .tupH (ds := ds) h n r, e => by
    unfold IV.toP at e
    split at e
    · rename_i ps hps; cases e; exact .tup (.inl h) (RepAll.dp r hps)
    · cases e
  | _, _, _, .tupK h r, e => by
    unfold IV.toP at e
    split at e
    · rename_i ps hps; cases e; exact .tup (SqT.ofK h) (RepAll.dp r hps)
    · cases e
  | _, _, _, .lstH h n r, e => by
    unfold IV.toP at e
    split at e
    · rename_i ps hps; cases e; exact .lst (.inl h) (RepAll.dp r hps)
    · cases e
  | _, _, _, .lstK h r, e => by
    unfold IV.toP at e
    split at e
    · rename_i ps hps; cases e; exact .lst (SqL.ofK h) (RepAll.dp r hps)
    · cases e
  | _, _, _, .dctH _ _ _ _, e => by cases e
  | _, _, _, .insH _ _ _ _ _, e => by cases e
  | _, _, _, .exc _ _ _ _ _ _, e => by cases e
  | _, _, _, .cls _, e => by cases e
theorem RepAll.dp : ∀ {vs : List V} {ds : List IV} {ps : List PyData}, RepAll K cl O H vs ds → IV.toPs ds = some ps → DpAll K H vs ps
  | _, _, _, .nil, e => by cases e; exact .nil
  | _, _, _, .cons r t, e => by
    unfold IV.toPs at e
    split at e
    · rename_i p ps hp hps; cases e; exact .cons (Rep.dp r hp) (RepAll.dp t hps)
    · cases e
end
theorem RepX.dp {v : V} {d : IV} {p : PyData} (h : RepX K cl O H v d) (e : d.toP = some p) : Dp K H v p := by
  rcases h with h | ⟨a, rfl, _, w⟩
  · exact h.dp e
  · cases w with
    | lst h r =>
      unfold IV.toP at e
      split at e
      · rename_i ps hps; cases e; exact .lst (SqL.of h) (r.dp hps)
      · cases e
    | ins _ _ _ _ => cases e
    | dct _ _ _ => cases e
end
theorem decI {i j : Int} : decide (V.int i = V.int j) = decide (i = j) := by
  by_cases h : i = j
  · rw [decide_eq_true h, decide_eq_true (by rw [h])]
  · rw [decide_eq_false h, decide_eq_false fun z => h (V.int.inj z)]
theorem decS {a b : List Nat} : decide (V.str (sOf a) = V.str (sOf b)) = decide (a = b) := by
  by_cases h : a = b
  · rw [decide_eq_true h, decide_eq_true (by rw [h])]
  · rw [decide_eq_false h, decide_eq_false fun z => h (sOf_inj (V.str.inj z))]
theorem decB {a b : Bool} : decide (V.bl a = V.bl b) = decide (a = b) := by
  cases a <;> cases b <;> rfl
theorem eq_core {O : List Addr} {H : Hp} {x y : V} {dx dy : IV} {b : Bool} {K : PySem.W.Frag} (hx : RepX K cl O H x dx) (hy : RepX K cl O H y dy) (hf : eqD dx dy = some b) :
    (scal x y = true ∧ decide (x = y) = b) ∨ ∃ d e, Dp K H x d ∧ Dp K H y e ∧ SeqAt.shaped d = true ∧ SeqAt.shaped e = true ∧ PyData.eqv d e = b := by
  unfold eqD at hf
  split at hf
  · cases hf; rw [hx.int, hy.int]; exact .inl ⟨rfl, decI⟩
  · cases hf; rw [hx.str, hy.str]; exact .inl ⟨rfl, decS⟩
  · cases hf; rw [hx.bl, hy.bl]; exact .inl ⟨rfl, decB⟩
  · cases hf; rw [hx.non, hy.non]; exact .inl ⟨rfl, rfl⟩
  · cases hf; rw [hx.non, hy.int]; exact .inl ⟨rfl, decide_eq_false fun z => nomatch z⟩
  · cases hf; rw [hx.int, hy.non]; exact .inl ⟨rfl, decide_eq_false fun z => nomatch z⟩
  · cases hf; rw [hx.non, hy.str]; exact .inl ⟨rfl, decide_eq_false fun z => nomatch z⟩
  · cases hf; rw [hx.str, hy.non]; exact .inl ⟨rfl, decide_eq_false fun z => nomatch z⟩
  · cases hf; rw [hx.int, hy.str]; exact .inl ⟨rfl, decide_eq_false fun z => nomatch z⟩
  · cases hf; rw [hx.str, hy.int]; exact .inl ⟨rfl, decide_eq_false fun z => nomatch z⟩
  · split at hf
    · rename_i p q hp hq
      split at hf
      · rename_i hs
        cases hf
        exact .inr ⟨p, q, hx.dp hp, hy.dp hq, hs.1, hs.2, rfl⟩
      · cases hf
    · cases hf
theorem opD_eq (hu : X.A.units + 64 < cLine) : OpR X (compareOp .Eq) (r2D X.K cl fun x y => (eqD x y).map .bl) := by
  intro pins s σ H x y v u Q I rx ry h
  obtain ⟨O, dx, dy, d, live, hx, hy, hf, k⟩ := h
  obtain ⟨b, hb, rfl⟩ := Option.map_eq_some_iff.mp hf
  have q := k _ _ (Same.refl H) (.bl b)
  rcases eq_core hx hy hb with ⟨h1, h2⟩ | ⟨d, e, h1, h2, h3, h4, h5⟩
  · exact op_eq pins s σ H x y v u Q I rx ry ⟨h1, by rw [h2]; exact q⟩
  · exact op_eqD hu pins s σ H x y v u Q I rx ry ⟨d, e, h1, h2, h3, h4, by rw [h5]; exact q⟩
theorem opD_ne (hu : X.A.units + 64 < cLine) : OpR X (compareOp .NotEq) (r2D X.K cl fun x y => (neD x y).map .bl) := by
  intro pins s σ H x y v u Q I rx ry h
  obtain ⟨O, dx, dy, d, live, hx, hy, hf, k⟩ := h
  obtain ⟨b, hb, rfl⟩ := Option.map_eq_some_iff.mp hf
  have q := k _ _ (Same.refl H) (.bl b)
  unfold neD at hb
  obtain ⟨c, hc, rfl⟩ := Option.map_eq_some_iff.mp hb
  rcases eq_core hx hy hc with ⟨h1, h2⟩ | ⟨d, e, h1, h2, h3, h4, h5⟩
  · exact op_ne pins s σ H x y v u Q I rx ry ⟨h1, by rw [h2]; exact q⟩
  · exact op_neD hu pins s σ H x y v u Q I rx ry ⟨d, e, h1, h2, h3, h4, by rw [h5]; exact q⟩
theorem opD_lt : OpR X (compareOp .Lt) (r2D X.K cl fun x y => (ltD x y).map .bl) := by
  intro pins s σ H x y v u Q I rx ry h
  obtain ⟨O, dx, dy, d, live, hx, hy, hf, k⟩ := h
  obtain ⟨b, hb, rfl⟩ := Option.map_eq_some_iff.mp hf
  unfold ltD at hb
  split at hb
  · cases hb
    exact op_lt pins s σ H x y v u Q I rx ry ⟨_, _, hx.int, hy.int, k _ _ (Same.refl H) (.bl _)⟩
  · cases hb
    refine op_lt_str pins s σ H x y v u Q I rx ry ⟨_, _, hx.str, hy.str, ?_⟩
    rw [sOf_list, sOf_list]
    exact k _ _ (Same.refl H) (.bl _)
  · cases hb
theorem opD_le : OpR X (compareOp .LtE) (r2D X.K cl fun x y => (leD x y).map .bl) := by
  intro pins s σ H x y v u Q I rx ry h
  obtain ⟨O, dx, dy, d, live, hx, hy, hf, k⟩ := h
  obtain ⟨b, hb, rfl⟩ := Option.map_eq_some_iff.mp hf
  unfold leD at hb
  split at hb
  · cases hb
    exact op_le pins s σ H x y v u Q I rx ry ⟨_, _, hx.int, hy.int, k _ _ (Same.refl H) (.bl _)⟩
  · cases hb
    refine op_le_str pins s σ H x y v u Q I rx ry ⟨_, _, hx.str, hy.str, ?_⟩
    rw [sOf_list, sOf_list]
    exact k _ _ (Same.refl H) (.bl _)
  · cases hb
theorem opD_gt : OpR X (compareOp .Gt) (r2D X.K cl fun x y => (gtD x y).map .bl) := by
  intro pins s σ H x y v u Q I rx ry h
  obtain ⟨O, dx, dy, d, live, hx, hy, hf, k⟩ := h
  obtain ⟨b, hb, rfl⟩ := Option.map_eq_some_iff.mp hf
  unfold gtD at hb
  split at hb
  · cases hb
    exact op_gt pins s σ H x y v u Q I rx ry ⟨_, _, hx.int, hy.int, k _ _ (Same.refl H) (.bl _)⟩
  · cases hb
    refine op_gt_str pins s σ H x y v u Q I rx ry ⟨_, _, hx.str, hy.str, ?_⟩
    rw [sOf_list, sOf_list]
    exact k _ _ (Same.refl H) (.bl _)
  · cases hb
theorem opD_ge : OpR X (compareOp .GtE) (r2D X.K cl fun x y => (geD x y).map .bl) := by
  intro pins s σ H x y v u Q I rx ry h
  obtain ⟨O, dx, dy, d, live, hx, hy, hf, k⟩ := h
  obtain ⟨b, hb, rfl⟩ := Option.map_eq_some_iff.mp hf
  unfold geD at hb
  split at hb
  · cases hb
    exact op_ge pins s σ H x y v u Q I rx ry ⟨_, _, hx.int, hy.int, k _ _ (Same.refl H) (.bl _)⟩
  · cases hb
    refine op_ge_str pins s σ H x y v u Q I rx ry ⟨_, _, hx.str, hy.str, ?_⟩
    rw [sOf_list, sOf_list]
    exact k _ _ (Same.refl H) (.bl _)
  · cases hb
theorem is_core {O : List Addr} {H : Hp} {x y : V} {dx dy : IV} {b : Bool} {K : PySem.W.Frag} (hx : RepX K cl O H x dx) (hy : RepX K cl O H y dy) (hf : isD dx dy = some b) : y = .non ∧ decide (x = .non) = b := by
  unfold isD at hf
  split at hf
  · cases hf; rw [hx.non, hy.non]; exact ⟨rfl, rfl⟩
  · cases hf
    rename_i h0
    refine ⟨hy.non, decide_eq_false fun e => ?_⟩
    subst e
    rcases hx with h | ⟨_, e, _⟩
    · cases h; exact h0 rfl
    · cases e
  · cases hf
theorem opD_is : OpR X (compareOp .Is) (r2D X.K cl fun x y => (isD x y).map .bl) := by
  intro pins s σ H x y v u Q I rx ry h
  obtain ⟨O, dx, dy, d, live, hx, hy, hf, k⟩ := h
  obtain ⟨b, hb, rfl⟩ := Option.map_eq_some_iff.mp hf
  obtain ⟨h1, h2⟩ := is_core hx hy hb
  exact op_isN pins s σ H x y v u Q I rx ry ⟨h1, by rw [h2]; exact k _ _ (Same.refl H) (.bl b)⟩
theorem opD_isnt : OpR X (compareOp .IsNot) (r2D X.K cl fun x y => (isntD x y).map .bl) := by
  intro pins s σ H x y v u Q I rx ry h
  obtain ⟨O, dx, dy, d, live, hx, hy, hf, k⟩ := h
  obtain ⟨b, hb, rfl⟩ := Option.map_eq_some_iff.mp hf
  unfold isntD at hb
  obtain ⟨c, hc, rfl⟩ := Option.map_eq_some_iff.mp hb
  obtain ⟨h1, h2⟩ := is_core hx hy hc
  exact op_notN pins s σ H x y v u Q I rx ry ⟨h1, by rw [h2]; exact k _ _ (Same.refl H) (.bl _)⟩
section
variable {K : PySem.W.Frag} {O : List Addr} {H : Hp}
theorem Rep.flat {v : V} {d : IV} (h : Rep K cl O H v d) (e : flatD d = true) : flatV v = true := by
  cases h <;> first | rfl | cases e
theorem RepX.repF {v : V} {d : IV} (h : RepX K cl O H v d) (e : flatD d = true) : Rep K cl O H v d := by
  rcases h with h | ⟨_, _, _, w⟩
  · exact h
  · cases w <;> cases e
theorem Rep.eqF {v w : V} {d e : IV} (h : Rep K cl O H v d) (h' : Rep K cl O H w e) (f : flatD d = true) (f' : flatD e = true) : eqV v w = eqF d e := by
  have hs : ∀ a b : List Nat, (sOf a == sOf b) = decide (a = b) := fun a b => by
    by_cases z : a = b
    · subst z; simp
    · rw [decide_eq_false z]
      exact beq_eq_false_iff_ne.mpr fun q => z (sOf_inj q)
  cases h <;> cases h' <;> first | rfl | exact hs _ _ | (cases f; done) | (cases f'; done)
theorem RepAll.anyF {w : V} {e : IV} (h' : Rep K cl O H w e) (f' : flatD e = true) : ∀ {vs : List V} {ds : List IV}, RepAll K cl O H vs ds → ds.all flatD = true → vs.all flatV = true ∧ (vs.any fun y => eqV y w) = (ds.any fun y => Mx.eqF y e)
  | _, _, .nil, _ => ⟨rfl, rfl⟩
  | _, _, .cons r t, f => by
    rw [List.all_cons, Bool.and_eq_true] at f
    obtain ⟨h1, h2⟩ := RepAll.anyF h' f' t f.2
    rw [List.all_cons, List.any_cons, List.any_cons, h1, h2, r.flat f.1, r.eqF h' f.1 f']
    exact ⟨rfl, rfl⟩
end
theorem in_core {O : List Addr} {H : Hp} {x y : V} {dx dy : IV} {b : Bool} {K : PySem.W.Frag} (hx : RepX K cl O H x dx) (hy : RepX K cl O H y dy) (hf : inD dx dy = some b) :
    (∃ (c : Nat) (z : Str), x = .str ⟨#[c]⟩ ∧ y = .str z ∧ decide (c ∈ z.cps.toList) = b) ∨ ∃ p xs, y = .ref p ∧ (SqL K H p xs ∨ SqT K H p xs) ∧ flatV x = true ∧ xs.all flatV = true ∧ inV x xs = b := by
  unfold inD at hf
  split at hf
  · rename_i l
    split at hf
    · rename_i c
      cases hf
      exact .inl ⟨c, sOf l, hx.str, hy.str, by rw [sOf_list]⟩
    · cases hf
  · split at hf
    · rename_i hz
      cases hf
      obtain ⟨a, xs, rfl, ha, ra⟩ := hy.tup
      have rx := hx.repF hz.1
      obtain ⟨h1, h2⟩ := ra.anyF rx hz.1 hz.2
      exact .inr ⟨a, xs, rfl, .inr ha, rx.flat hz.1, h1, h2⟩
    · cases hf
  · split at hf
    · rename_i hz
      cases hf
      obtain ⟨a, xs, rfl, ha, ra⟩ := hy.lst
      have rx := hx.repF hz.1
      obtain ⟨h1, h2⟩ := ra.anyF rx hz.1 hz.2
      exact .inr ⟨a, xs, rfl, .inl ha, rx.flat hz.1, h1, h2⟩
    · cases hf
  · cases hf
theorem opD_in : OpR X (compareOp .In) (r2D X.K cl fun x y => (inD x y).map .bl) := by
  intro pins s σ H x y v u Q I rx ry h
  obtain ⟨O, dx, dy, d, live, hx, hy, hf, k⟩ := h
  obtain ⟨b, hb, rfl⟩ := Option.map_eq_some_iff.mp hf
  have q := k _ _ (Same.refl H) (.bl b)
  rcases in_core hx hy hb with ⟨c, z, h1, h2, h3⟩ | ⟨p, xs, h1, h2, h3, h4, h5⟩
  · exact op_in_sign pins s σ H x y v u Q I rx ry ⟨c, z, h1, h2, by rw [h3]; exact q⟩
  · exact op_in_seq pins s σ H x y v u Q I rx ry ⟨p, xs, h1, h2, h3, h4, by rw [if_neg Bool.false_ne_true, h5]; exact q⟩
theorem opD_nin : OpR X (compareOp .NotIn) (r2D X.K cl fun x y => (ninD x y).map .bl) := by
  intro pins s σ H x y v u Q I rx ry h
  obtain ⟨O, dx, dy, d, live, hx, hy, hf, k⟩ := h
  obtain ⟨b, hb, rfl⟩ := Option.map_eq_some_iff.mp hf
  have q := k _ _ (Same.refl H) (.bl b)
  unfold ninD at hb
  obtain ⟨b, hc, rfl⟩ := Option.map_eq_some_iff.mp hb
  rcases in_core hx hy hc with ⟨c, z, h1, h2, h3⟩ | ⟨p, xs, h1, h2, h3, h4, h5⟩
  · exact op_notIn_sign pins s σ H x y v u Q I rx ry ⟨c, z, h1, h2, by rw [h3]; exact q⟩
  · exact op_notIn_seq pins s σ H x y v u Q I rx ry ⟨p, xs, h1, h2, h3, h4, by rw [if_pos rfl, h5]; exact q⟩
def copOf : COp → CmpOp
  | .eq => .Eq
  | .ne => .NotEq
  | .lt => .Lt
  | .le => .LtE
  | .gt => .Gt
  | .ge => .GtE
  | .isin => .In
  | .notin => .NotIn
  | .is => .Is
  | .isnt => .IsNot
theorem copD (hu : X.A.units + 64 < cLine) (o : COp) : OpR X (compareOp (copOf o)) (r2D X.K cl fun x y => (cmpD o x y).map .bl) := by
  cases o
  · exact opD_eq hu
  · exact opD_ne hu
  · exact opD_lt
  · exact opD_le
  · exact opD_gt
  · exact opD_ge
  · exact opD_in
  · exact opD_nin
  · exact opD_is
  · exact opD_isnt
end
end Mx


/-! Mx, part 3a: int(text, base), base 2, 10, 16. -/
namespace Mx
open PySem PySem.Spec PyProof.Rows L2 PySem.NumText PySem.Calls
/-- the bases -/
def IsB (b : Nat) : Prop := b = 2 ∨ b = 10 ∨ b = 16
theorem dig_hex {b c : Nat} (hb : IsB b) (h : isDig b c = true) : Hx.IsHex c ∧ digV c = some (Hx.hv c) ∧ Hx.hv c < b := by
  unfold isDig at h
  have key : ∀ v, digV c = some v → Hx.IsHex c ∧ v = Hx.hv c := fun v e => by
    unfold digV at e
    unfold Hx.IsHex Hx.hv
    split at e
    · rename_i z; cases e; exact ⟨.inl z, by rw [if_pos z.2]⟩
    · split at e
      · rename_i z' z; cases e; exact ⟨.inr (.inl z), by rw [if_neg (by omega), if_pos z.1]⟩
      · split at e
        · rename_i z1 z2 z; cases e; exact ⟨.inr (.inr z), by rw [if_neg (by omega), if_neg (by omega)]⟩
        · cases e
  cases e : digV c with
  | none => rw [e] at h; cases h
  | some v =>
    rw [e] at h
    obtain ⟨k1, rfl⟩ := key v e
    exact ⟨k1, rfl, of_decide_eq_true h⟩
theorem stepB {b c : Nat} (hb : IsB b) (h : isDig b c = true) (ds : Array Nat) (t : Bool) : PySem.NumText.step b (ds, t) c = some (ds.push (Hx.hv c), true) := by
  obtain ⟨h1, _, h3⟩ := dig_hex hb h
  have ne := (Hx.hex_rng h1).2.2
  unfold PySem.NumText.step
  rw [if_neg (fun z => ne (beq_iff_eq.mp z)), Hx.digit_hex h1]
  exact if_pos h3
theorem foldB {b : Nat} (hb : IsB b) : ∀ (l : List Nat) (ds : Array Nat), (∀ c ∈ l, isDig b c = true) → l.foldlM (PySem.NumText.step b) (ds, true) = some (l.foldl (fun acc c => acc.push (Hx.hv c)) ds, true) := by
  intro l
  induction l with
  | nil => intro ds _; rfl
  | cons c l ih =>
    intro ds h
    rw [List.foldlM_cons, stepB hb (h c List.mem_cons_self)]
    exact ih _ fun d hd => h d (List.mem_cons_of_mem _ hd)
theorem digitsB {b : Nat} (hb : IsB b) {l : List Nat} (hne : l ≠ []) (h : ∀ c ∈ l, isDig b c = true) : digits? b l = some (l.foldl (fun acc c => acc.push (Hx.hv c)) #[]) := by
  match l, hne, h with
  | c :: r, _, h =>
    unfold digits?
    rw [List.foldlM_cons, stepB hb (h c List.mem_cons_self)]
    have z := foldB hb r ((#[] : Array Nat).push (Hx.hv c)) fun d hd => h d (List.mem_cons_of_mem _ hd)
    show (r.foldlM (PySem.NumText.step b) (_, true)).bind _ = _
    rw [z]
    rfl
theorem sumB {b : Nat} (hb : IsB b) : ∀ (l : List Nat) (ds : Array Nat), (∀ c ∈ l, isDig b c = true) → (l.foldl (fun acc c => acc.push (Hx.hv c)) ds).foldl (fun acc d => acc * b + d) 0 = l.foldl (fun a c => a * b + (digV c).getD 0) (ds.foldl (fun acc d => acc * b + d) 0) := by
  intro l
  induction l with
  | nil => intro ds _; rfl
  | cons c l ih =>
    intro ds h
    rw [List.foldl_cons, ih _ fun d hd => h d (List.mem_cons_of_mem _ hd), List.foldl_cons, (dig_hex hb (h c List.mem_cons_self)).2.1]
    congr 1
    simp
theorem twoB {y : Nat} (h : isDig 2 y = true) : y = 48 ∨ y = 49 := by
  obtain ⟨k, _, g⟩ := dig_hex (.inl rfl) h
  unfold Hx.IsHex at k
  unfold Hx.hv at g
  split at g
  · omega
  · split at g <;> omega
theorem basedB {b : Nat} (hb : IsB b) {l : List Nat} (h : ∀ c ∈ l, isDig b c = true) : based b l = (b, false, l) := by
  rcases hb with rfl | rfl | rfl
  · match l, h with
    | [], _ => rfl
    | [x], h => rcases twoB (h x (by simp)) with rfl | rfl <;> rfl
    | x :: c :: r, h =>
      rcases twoB (h x (by simp)) with rfl | rfl
      · rcases twoB (h c (by simp)) with rfl | rfl <;> rfl
      · rfl
  · exact based_ten l
  · exact Hx.basedH fun c hc => (dig_hex (.inr (.inr rfl)) (h c hc)).1
theorem sizeB : ∀ (l : List Nat) (ds : Array Nat), (l.foldl (fun acc c => acc.push (Hx.hv c)) ds).size = ds.size + l.length := by
  intro l
  induction l with
  | nil => intro ds; rfl
  | cons c l ih =>
    intro ds
    rw [List.foldl_cons, ih, Array.size_push, List.length_cons]
    omega
theorem judgeB {b : Nat} (hb : IsB b) {ds : Array Nat} (hd : ds.size ≤ 640) : judge 0 false b false (some ds) = (int_private% "Numeral.value") ((ds.foldl (fun acc d => acc * b + d) 0 : Nat) : Int) := by
  rcases hb with rfl | rfl | rfl
  · rfl
  · have z : ((10 : Nat) == 10 && decide (ds.size > 6000)) = false := by rw [decide_eq_false (by omega)]; rfl
    show (if ((10 : Nat) == 10 && decide (ds.size > 6000)) = true then _ else _) = _
    rw [z]
    rfl
  · rfl
theorem readB {b : Nat} (hb : IsB b) {l : List Nat} (hne : l ≠ []) (hl : l.length ≤ 640) (h : ∀ c ∈ l, isDig b c = true) : (int_private% "readNumeral") 0 b l = (int_private% "Numeral.value") ((numB b l : Nat) : Int) := by
  have hx : ∀ c ∈ l, Hx.IsHex c := fun c hc => (dig_hex hb (h c hc)).1
  have hr : ∀ c ∈ l.reverse, Hx.IsHex c := fun c hc => hx c (by simpa using hc)
  refine (readNumeral_eq 0 b l).trans ?_
  rw [Hx.dropB hx, Hx.signH hx]
  show judge 0 false (based b l).1 (based b l).2.1 (digits? (based b l).1 (((based b l).2.2.reverse.dropWhile blank).reverse)) = _
  rw [basedB hb h]
  dsimp only
  rw [Hx.dropB hr, List.reverse_reverse, digitsB hb hne h]
  have z := sumB hb l #[] h
  have z0 : (#[] : Array Nat).foldl (fun acc d => acc * b + d) 0 = 0 := by simp
  rw [z0] at z
  have hsz : (l.foldl (fun acc c => acc.push (Hx.hv c)) (#[] : Array Nat)).size ≤ 640 := by rw [sizeB]; simpa using hl
  rw [judgeB hb hsz]
  rw [z]
  rfl
set_option maxHeartbeats 4000000 in
theorem givesB {b : Nat} (hb : IsB b) {x : PySem.Str} {u t : Tok} (hl : x.length ≤ 640) (hne : x.cps.toList ≠ []) (h : ∀ c ∈ x.cps.toList, isDig b c = true) :
    Gives (Builtin.«int.__new__» ⟨[.type "int", .str x u, .int (b : Nat) t], []⟩) (.int ((numB b x.cps.toList : Nat) : Int)) := by
  have hx : ∀ c ∈ x.cps.toList, Hx.IsHex c := fun c hc => (dig_hex hb (h c hc)).1
  obtain ⟨e1, e2⟩ := Hx.seen_hex hx
  have hs : (numSeenOf x).length ≤ 640 := by rw [e2, Array.length_toList]; exact hl
  have hr : (int_private% "readNumeral") 0 b (numSeenOf x) = (int_private% "Numeral.value") ((numB b x.cps.toList : Nat) : Int) := by rw [e2]; exact readB hb hne (by rw [Array.length_toList]; exact hl) h
  have ha : ((numSeenOf x).length == (numTextOf x).length) = true := by rw [e1, e2]; exact beq_self_eq_true _
  have f1 := F.conv_sub_int
  have f2 := F.madeHere_int
  have f6 : typeOf (.str x u) = pure (.type "str") := rfl
  have hk := Hx.Hid.mk (And.intro hs (And.intro hr ha))
  clear hs hr ha e1 e2 hl hne h hx
  rcases hb with rfl | rfl | rfl <;>
  · refine .of_wp fun M A E s Q hQ => ?_
    obtain ⟨hp, g, d, tk, os⟩ := s
    repeat (any_goals (first
      | assumption
      | ((with_reducible show wpAny _ _ ((int_private% "intFromText") _ _ _) _ _ _); refine Hx.wp_textB hk.out.1 hk.out.2.1 hk.out.2.2 ?_)
      | wp_step))
    all_goals first | exact ⟨_, rfl, hQ⟩ | skip
theorem call_intB {X : Cx} : CallR X (.type "int") (fun xs H Q => ∃ (l : List Nat) (b : Nat), xs = [.str (sOf l), .int (b : Nat)] ∧ IsB b ∧ l ≠ [] ∧ l.length ≤ 640 ∧ (∀ c ∈ l, isDig b c = true) ∧ Q (.int ((numB b l : Nat) : Int)) H) := by
  intro pins s σ H xs us Q I r h
  obtain ⟨l, b, rfl, hb, hne, hl, hd, q⟩ := h
  obtain ⟨u, w', rfl, r1, r2⟩ := vals2 r
  obtain ⟨t1, rfl⟩ := r1
  obtain ⟨t2, rfl⟩ := r2
  have g := givesB (x := sOf l) (u := t1) (t := t2) hb (by rw [sOf_len]; exact hl) (by rw [sOf_list]; exact hne) (by rw [sOf_list]; exact hd)
  rw [sOf_list] at g
  have fin : EP X pins σ Q (.int ((numB b l : Nat) : Int) s.toks) { s with toks := s.toks + 1 } := ⟨.int ((numB b l : Nat) : Int), H, I.tok _, ⟨_, rfl⟩, q⟩
  exact callType_new F.called_int F.newNe_int (Hx.typeCall_int_2 _ _) (Hx.newCall_int_2 _ _) (fun obj => F.initArgs_range_2 obj _ _) F.entry_int_new g.meets (show (Made.int ((numB b l : Nat) : Int)).post _ s from ⟨rfl, fin⟩)
end Mx


/-! Mx, part 3c: subscripts, slices, truth, built-in functions and methods. -/
namespace Mx
open PySem PySem.Spec PyProof.Rows L2
section
variable {X : Cx} {cl : Nat → Option Addr} {K : PySem.W.Frag} {O : List Addr} {H : Hp}
theorem RepAll.atI {vs : List V} {ds : List IV} {i : Int} {d : IV} (r : RepAll K cl O H vs ds) (h : L2.atI ds i = some d) : ∃ v, L2.atI vs i = some v ∧ Rep K cl O H v d := by
  unfold L2.atI at h ⊢
  rw [r.length]
  cases e : ixN ds.length i with
  | none => rw [e] at h; cases h
  | some j =>
    rw [e] at h
    exact r.get h
theorem ixD_ok : IxR X (r2D X.K cl ixD) := by
  intro value slice pins s σ H x y v u Q I rx ry h hs
  obtain ⟨O, dx, dy, d, live, hx, hy, hf, k⟩ := h
  unfold ixD at hf
  split at hf
  · split at hf
    · rename_i l i hz
      obtain ⟨c, hc, rfl⟩ := Option.map_eq_some_iff.mp hf
      exact ix_str value slice pins s σ H x y v u Q I rx ry ⟨sOf l, i, c, hx.str, hy.int, szl (by rw [sOf_len]; exact hz), by rw [sOf_list]; exact hc, k _ _ (Same.refl H) (.str [c])⟩ hs
    · cases hf
  · obtain ⟨a, xs, rfl, ha, ra⟩ := hx.lst
    obtain ⟨w, hw, rw'⟩ := ra.atI hf
    exact ix_list value slice pins s σ H _ y v u Q I rx ry ⟨a, xs, _, w, rfl, hy.int, ha, hw, k _ _ (Same.refl H) rw'⟩ hs
  · obtain ⟨a, xs, rfl, ha, ra⟩ := hx.tup
    obtain ⟨w, hw, rw'⟩ := ra.atI hf
    exact ix_tup value slice pins s σ H _ y v u Q I rx ry ⟨a, xs, _, w, rfl, hy.int, ha, hw, k _ _ (Same.refl H) rw'⟩ hs
  · cases hf
theorem RepAll.cut {vs : List V} {ds : List IV} (r : RepAll K cl O H vs ds) (lo hi : Option Int) : RepAll K cl O H (cutV vs lo hi) (cutL ds lo hi) := by
  unfold cutV cutL
  rw [r.length]
  exact (r.drop _).take _
theorem cutS_eq (l : List Nat) (lo hi : Option Int) : cutS (sOf l) lo hi = sOf (cutL l lo hi) := by
  unfold cutS cutL
  rw [sOf_list, sOf_len]
  rfl
def rSlD (K : PySem.W.Frag) (cl : Nat → Option Addr) : V → Option Int → Option Int → Hp → VK → Prop := fun x lo hi H Q =>
  ∃ O dx d, (∀ a ∈ O, H a ≠ none) ∧ RepX K cl O H x dx ∧ slD dx lo hi = some d ∧ ∀ v H', Same H H' → Rep K cl O H' v d → Q v H'
theorem slD_ok : L2.SlR X (rSlD X.K cl) := by
  intro pins s σ H x v vl vu lo hi sl Q I rx hs pl pu h
  obtain ⟨O, dx, d, live, hx, hf, k⟩ := h
  unfold slD at hf
  split at hf
  · split at hf
    · rename_i hz
      cases hf
      refine sl_str pins s σ H x v vl vu _ _ sl Q I rx hs pl pu ⟨_, hx.str, szl (by rw [sOf_len]; exact hz), ?_⟩
      rw [cutS_eq]
      exact k _ _ (Same.refl H) (.str _)
    · cases hf
  · cases hf
    obtain ⟨a, xs, rfl, ha, ra⟩ := hx.lst
    exact sl_list pins s σ H _ v vl vu _ _ sl Q I rx hs pl pu ⟨a, xs, rfl, ha, fun p hp => k _ _ (same_new hp) (rep_newL live hp (ra.cut _ _))⟩
  · cases hf
    have hx' := hx.tupR
    obtain ⟨a, xs, rfl, ha, ra⟩ := hx.tup
    refine sl_tupA pins s σ H _ v vl vu _ _ sl Q I rx hs pl pu ⟨a, xs, rfl, ha, fun e => ?_, fun _ p hp => k _ _ (same_new hp) (rep_newT live hp (ra.cut _ _))⟩
    rename_i ds
    have ec : cutL ds lo hi = ds := by
      unfold cutL
      rw [← ra.length, e.1, e.2]
      simp [ra.length]
    rw [ec] at k
    exact k _ _ (Same.refl H) hx'
  · cases hf
theorem truD_ok {x : V} {d : IV} {b : Bool} (hx : RepX K cl O H x d) (h : truD d = some b) : TruV K x H b := by
  unfold truD at h
  split at h
  · cases h; rw [hx.bl]; exact rfl
  · cases h; rw [hx.non]; exact rfl
  · cases h; rw [hx.int]; exact rfl
  · split at h
    · rename_i l hz
      cases h
      rw [hx.str]
      refine ⟨szl (by rw [sOf_len]; exact hz), ?_⟩
      rw [sOf_len]
      cases l with
      | nil => rfl
      | cons a r =>
        show true = ((((a :: r).length : Nat) : Int) != 0)
        rw [List.length_cons]
        exact (bne_iff_ne.mpr (by omega)).symm
    · cases h
  · cases h
    obtain ⟨a, xs, rfl, ha, ra⟩ := hx.lst
    refine .inl ⟨xs, ha, ?_⟩
    cases ra <;> rfl
  · cases h
    obtain ⟨a, xs, rfl, ha, ra⟩ := hx.tup
    refine .inr (.inl ⟨xs, ha, ?_⟩)
    cases ra <;> rfl
  · cases h
/-! ### built-in functions -/
def RepXs (K : PySem.W.Frag) (cl : Nat → Option Addr) (O : List Addr) (H : Hp) : List V → List IV → Prop
  | [], [] => True
  | v :: vs, d :: ds => RepX K cl O H v d ∧ RepXs K cl O H vs ds
  | _, _ => False
theorem RepXs.one {vs : List V} {d : IV} (h : RepXs K cl O H vs [d]) : ∃ v, vs = [v] ∧ RepX K cl O H v d := by
  match vs, h with
  | [v], h => exact ⟨v, rfl, h.1⟩
theorem RepXs.nil {vs : List V} (h : RepXs K cl O H vs []) : vs = [] := by
  match vs, h with
  | [], _ => rfl
def rND (K : PySem.W.Frag) (cl : Nat → Option Addr) (f : List IV → Option IV) : List V → Hp → VK → Prop := fun vs H Q =>
  ∃ O ds d, (∀ a ∈ O, H a ≠ none) ∧ RepXs K cl O H vs ds ∧ f ds = some d ∧ ∀ v H', Same H H' → Rep K cl O H' v d → Q v H'
theorem fn_len : CallR X (.builtin "len") (rND X.K cl (fnD .len)) := by
  intro pins s σ H xs us Q I r h
  obtain ⟨O, ds, d, live, hx, hf, k⟩ := h
  unfold fnD at hf
  split at hf <;> first | (rename_i q; cases q; done) | skip
  · split at hf
    · rename_i l _ hz
      cases hf
      obtain ⟨v, rfl, hv⟩ := hx.one
      refine call_len pins s σ H _ us Q I r ⟨v, l.length, rfl, ?_, k _ _ (Same.refl H) (.int _)⟩
      rw [hv.str]
      exact ⟨szl (by rw [sOf_len]; exact hz), (sOf_len l).symm⟩
    · cases hf
  · cases hf
    obtain ⟨v, rfl, hv⟩ := hx.one
    obtain ⟨a, xs, rfl, ha, ra⟩ := hv.lst
    exact call_len pins s σ H _ us Q I r ⟨_, _, rfl, .inl ⟨xs, ha, ra.length.symm⟩, k _ _ (Same.refl H) (.int _)⟩
  · cases hf
    obtain ⟨v, rfl, hv⟩ := hx.one
    obtain ⟨a, xs, rfl, ha, ra⟩ := hv.tup
    exact call_len pins s σ H _ us Q I r ⟨_, _, rfl, .inr ⟨xs, ha, ra.length.symm⟩, k _ _ (Same.refl H) (.int _)⟩
  · cases hf
theorem fn_int : CallR X (.type "int") (rND X.K cl (fnD .int)) := by
  intro pins s σ H xs us Q I r h
  obtain ⟨O, ds, d, live, hx, hf, k⟩ := h
  unfold fnD at hf
  split at hf <;> first | (rename_i q; cases q; done) | skip
  · cases hf
    obtain ⟨v, rfl, hv⟩ := hx.one
    exact call_int1 pins s σ H _ us Q I r (.inl ⟨_, by rw [hv.int], k _ _ (Same.refl H) (.int _)⟩)
  · cases hf
    obtain ⟨v, rfl, hv⟩ := hx.one
    exact call_int1 pins s σ H _ us Q I r (.inr ⟨_, by rw [hv.bl], k _ _ (Same.refl H) (.int _)⟩)
  · rename_i l b _
    unfold intB at hf
    split at hf
    · rename_i hz
      obtain ⟨h1, h2, h3, h4⟩ := hz
      cases hf
      match xs, hx with
      | [v, w], hx =>
        have e1 := hx.1.str
        have e2 := hx.2.1.int
        have eb : b = ((b.toNat : Nat) : Int) := by omega
        refine call_intB pins s σ H _ us Q I r ⟨l, b.toNat, by rw [e1, e2, ← eb], ?_, h2, h3, fun c hc => List.all_eq_true.mp h4 c hc, k _ _ (Same.refl H) (.int _)⟩
        unfold IsB
        omega
    · cases hf
  · cases hf
theorem fn_ord : CallR X (.builtin "ord") (rND X.K cl (fnD .ord)) := by
  intro pins s σ H xs us Q I r h
  obtain ⟨O, ds, d, live, hx, hf, k⟩ := h
  unfold fnD at hf
  split at hf <;> first | (rename_i q; cases q; done) | skip
  · rename_i c _
    cases hf
    obtain ⟨v, rfl, hv⟩ := hx.one
    exact call_ord pins s σ H _ us Q I r ⟨sOf [c], by rw [hv.str], rfl, k _ _ (Same.refl H) (.int _)⟩
  · cases hf
theorem fn_str : CallR X (.type "str") (rND X.K cl (fnD .str)) := by
  intro pins s σ H xs us Q I r h
  obtain ⟨O, ds, d, live, hx, hf, k⟩ := h
  unfold fnD at hf
  split at hf <;> first | (rename_i q; cases q; done) | skip
  · rename_i i _
    split at hf
    · rename_i hz
      cases hf
      obtain ⟨v, rfl, hv⟩ := hx.one
      refine call_str_int pins s σ H _ us Q I r ⟨i, by rw [hv.int], hz, ?_⟩
      have e : V.str (toString i : String) = V.str (sOf (strI' i)) := by unfold strI'; rw [sOf_of]
      rw [e]
      exact k _ _ (Same.refl H) (.str _)
    · cases hf
  · cases hf
theorem RepAll.bools : ∀ {vs : List V} {ds : List IV} {bs : List Bool}, RepAll K cl O H vs ds → Mx.bools ds = some bs → vs = bs.map V.bl
  | _, _, _, .nil, e => by cases e; rfl
  | _, _, _, .cons r t, e => by
    unfold Mx.bools at e
    split at e
    · rename_i h; cases h
    · rename_i h
      cases h
      obtain ⟨bs, hb, rfl⟩ := Option.map_eq_some_iff.mp e
      cases r
      rw [List.map_cons, RepAll.bools t hb]
    · cases e
theorem fn_all (hc : X.calm = true) : CallR X (.builtin "all") (rND X.K cl (fnD .all)) := by
  intro pins s σ H xs us Q I r h
  obtain ⟨O, ds, d, live, hx, hf, k⟩ := h
  unfold fnD at hf
  split at hf <;> first | (rename_i q; cases q; done) | skip
  · obtain ⟨bs, hb, rfl⟩ := Option.map_eq_some_iff.mp hf
    obtain ⟨v, rfl, hv⟩ := hx.one
    obtain ⟨a, xs, rfl, ha, ra⟩ := hv.lst
    rw [ra.bools hb] at ha
    exact cr_all hc pins s σ H _ us Q I r ⟨a, bs, rfl, ha, k _ _ (Same.refl H) (.bl _)⟩
  · cases hf
theorem fn_any (hc : X.calm = true) : CallR X (.builtin "any") (rND X.K cl (fnD .any)) := by
  intro pins s σ H xs us Q I r h
  obtain ⟨O, ds, d, live, hx, hf, k⟩ := h
  unfold fnD at hf
  split at hf <;> first | (rename_i q; cases q; done) | skip
  · obtain ⟨bs, hb, rfl⟩ := Option.map_eq_some_iff.mp hf
    obtain ⟨v, rfl, hv⟩ := hx.one
    obtain ⟨a, xs, rfl, ha, ra⟩ := hv.lst
    rw [ra.bools hb] at ha
    exact cr_any hc pins s σ H _ us Q I r ⟨a, bs, rfl, ha, k _ _ (Same.refl H) (.bl _)⟩
  · cases hf
theorem signs_vals : ∀ (l : List Nat) (its : List Value), its.length = l.length → (∀ (j : Nat) (v : Value), its[j]? = some v → ∃ (c : Nat) (u : Tok), l[j]? = some c ∧ v = .str ⟨#[c]⟩ u) → Vals (l.map fun c => V.str ⟨#[c]⟩) its
  | [], [], _, _ => .nil
  | c :: l, v :: its, hl, h => by
    obtain ⟨c', u, e1, e2⟩ := h 0 v rfl
    cases e1
    refine .cons ⟨u, e2⟩ (signs_vals l its (by simpa using hl) fun j w hw => ?_)
    obtain ⟨c', u, e1, e2⟩ := h (j + 1) w (by simpa using hw)
    exact ⟨c', u, by simpa using e1, e2⟩
  | [], _ :: _, hl, _ => by simp at hl
  | _ :: _, [], hl, _ => by simp at hl
theorem fn_list (hc : X.calm = true) : CallR X (.type "list") (rND X.K cl (fnD .list)) := by
  intro pins s σ H xs us Q I r h
  obtain ⟨O, ds, d, live, hx, hf, k⟩ := h
  unfold fnD at hf
  split at hf <;> first | (rename_i q; cases q; done) | skip
  · split at hf
    · rename_i l _ hz
      cases hf
      obtain ⟨v, rfl, hv⟩ := hx.one
      obtain ⟨u, rfl, ru⟩ := vals1 r
      rw [hv.str] at ru
      obtain ⟨t, rfl⟩ := ru
      have hsz : (sOf l).cps.size = l.length := by simp [sOf]
      refine PySem.call_list_str (I.ok.hd hc) (sOf l) t (fun h' tk acc c kp hS hacc => ?_) (by rw [hsz]; exact szl hz)
      have hv2 : Vals (l.map fun c => V.str ⟨#[c]⟩) acc.toList := signs_vals l acc.toList (by rw [Array.length_toList, hacc.1, hsz]) fun j v hj => by
        obtain ⟨c', u', h1, h2⟩ := hacc.2 j v (by simpa using hj)
        exact ⟨c', u', by simpa [sOf] using h1, h2⟩
      have new : ObjOk X.prog X.w (upd H s.heap.objs.size (.lst (l.map fun c => V.str ⟨#[c]⟩))) h' s.heap.objs.size (.lst (l.map fun c => V.str ⟨#[c]⟩)) :=
        ⟨by rw [List.length_map]; exact szl hz, acc.toList, c, hv2, by simpa using hS⟩
      have J : Inv X pins σ (upd H s.heap.objs.size (.lst (l.map fun c => V.str ⟨#[c]⟩))) { s with heap := h', toks := tk } := I.laid kp (Nat.le_refl _) new
      refine ⟨.ref s.heap.objs.size, _, J, rfl, k _ _ (same_new I.fresh) (rep_newL live I.fresh ?_)⟩
      have all : ∀ l : List Nat, RepAll X.K cl O H (l.map fun c => V.str ⟨#[c]⟩) (l.map fun c => IV.str [c]) := fun l => by
        induction l with
        | nil => exact .nil
        | cons c r ih => exact .cons (.str [c]) ih
      exact all l
    · cases hf
  · cases hf
    obtain ⟨v, rfl, hv⟩ := hx.one
    obtain ⟨a, xs, rfl, ha, ra⟩ := hv.lst
    exact call_list_of pins s σ H _ us Q I r ⟨a, xs, rfl, .inl ha, fun p hp => k _ _ (same_new hp) (rep_newL live hp ra)⟩
  · cases hf
    obtain ⟨v, rfl, hv⟩ := hx.one
    obtain ⟨a, xs, rfl, ha, ra⟩ := hv.tup
    exact call_list_of pins s σ H _ us Q I r ⟨a, xs, rfl, .inr ha, fun p hp => k _ _ (same_new hp) (rep_newL live hp ra)⟩
  · cases hf
theorem fn_tuple : CallR X (.type "tuple") (rND X.K cl (fnD .tuple)) := by
  intro pins s σ H xs us Q I r h
  obtain ⟨O, ds, d, live, hx, hf, k⟩ := h
  unfold fnD at hf
  split at hf <;> first | (rename_i q; cases q; done) | skip
  · cases hf
    obtain ⟨v, rfl, hv⟩ := hx.one
    obtain ⟨a, xs, rfl, ha, ra⟩ := hv.lst
    exact call_tuple_of pins s σ H _ us Q I r ⟨a, xs, rfl, .inl ⟨ha, fun p hp => k _ _ (same_new hp) (rep_newT live hp ra)⟩⟩
  · cases hf
    obtain ⟨v, rfl, hv⟩ := hx.one
    have hv' := hv.tupR
    obtain ⟨a, xs, rfl, ha, ra⟩ := hv.tup
    exact call_tuple_of pins s σ H _ us Q I r ⟨a, xs, rfl, .inr ⟨ha, k _ _ (Same.refl H) hv'⟩⟩
  · cases hf
mutual
theorem toP_noDict : ∀ {d : IV} {p : PyData}, d.toP = some p → p.hasDict = false
  | .non, _, e => by cases e; rfl
  | .bl _, _, e => by cases e; rfl
  | .int _, _, e => by cases e; rfl
  | .str _, _, e => by cases e; rfl
  | .tup xs, _, e => by
    unfold IV.toP at e
    split at e
    · rename_i ps hps; cases e; simp only [PyData.hasDict]; exact toPs_noDict hps
    · cases e
  | .lst xs, _, e => by
    unfold IV.toP at e
    split at e
    · rename_i ps hps; cases e; simp only [PyData.hasDict]; exact toPs_noDict hps
    · cases e
  | .dct _, _, e => by cases e
  | .ins _ _, _, e => by cases e
  | .exc _ _, _, e => by cases e
theorem toPs_noDict : ∀ {ds : List IV} {ps : List PyData}, IV.toPs ds = some ps → PyData.hasDictAll ps = false
  | [], _, e => by cases e; rfl
  | x :: xs, _, e => by
    unfold IV.toPs at e
    split at e
    · rename_i p ps hp hps
      cases e
      simp only [PyData.hasDictAll, toP_noDict hp, toPs_noDict hps, Bool.or_false]
    · cases e
end
theorem flat_reads {h : Heap} {cl : Nat → Option Addr} {O : List Addr} {H : Hp} {v : V} {d : IV} {p : PyData} {u : Value} (r : Rep X.K cl O H v d) (f : flatD d = true) (e : d.toP = some p) (ru : RelV v u) : Reads h u p [] := by
  cases r with
  | non => cases e; cases ru; exact .none
  | bl b => cases e; cases ru; exact .bool b
  | int i => cases e; obtain ⟨t, rfl⟩ := ru; exact .int i t
  | str l => cases e; obtain ⟨t, rfl⟩ := ru; exact .str _ t
  | _ => cases f
theorem kv_reads {h : Heap} {cl : Nat → Option Addr} {O : List Addr} {H : Hp} : ∀ {kv : List (Key × V)} {ds : List (Key × IV)} {ps : List (PyData × PyData)} {vs : List (Key × Value)} {es : List DictEntry}, kvP ds = some ps → kv.map (·.1) = ds.map (·.1) → RepAll X.K cl O H (kv.map (·.2)) (ds.map (·.2)) → KV kv vs → Pairs (mixKind X.prog X.w) es vs →
    ReadsAll h (es.map (·.key)) (ps.map (·.1)) [] ∧ ReadsAll h (es.map (·.val)) (ps.map (·.2)) []
  | [], ds, ps, vs, es, hp, hk, hr, hv, hs => by
    cases ds with
    | cons d ds => cases hk
    | nil => cases hp; cases hv; cases hs; exact ⟨.nil, .nil⟩
  | (k, v) :: kv, ds, ps, vs, es, hp, hk, hr, hv, hs => by
    cases ds with
    | nil => cases hk
    | cons d ds =>
      obtain ⟨k', x⟩ := d
      simp only [List.map_cons, List.cons.injEq] at hk
      obtain ⟨rfl, hk⟩ := hk
      cases hv with
      | cons a1 a2 =>
        rename_i q qs
        obtain ⟨kq, vq⟩ := q
        cases hs with
        | @cons e _ es' _ b1 b2 b3 =>
          obtain ⟨e1, e2⟩ := a1
          simp only at e1 e2 b1 b2
          subst e1
          cases hr with
          | cons r1 r2 =>
            unfold kvP at hp
            split at hp
            · rename_i p ps' hx hps
              split at hp
              · rename_i hf
                cases hp
                obtain ⟨z1, z2⟩ := kv_reads (h := h) hps hk r2 a2 b3
                have zk : Reads h e.key (keyP k) [] := by
                  rcases keyIs_shape b1 with ⟨i, t, h1, h2⟩ | ⟨y, t, h1, h2⟩
                  · rw [h1, h2]; exact .int i t
                  · rw [h1, h2]; exact .str y t
                refine ⟨.cons zk z1, ?_⟩
                rw [List.map_cons, List.map_cons, b2]
                exact .cons (flat_reads r1 hf hx e2) z2
              · cases hp
            · cases hp
theorem el_reads {pins : List (Addr × Obj)} {σ : L2.St} {H : Hp} {s : Shared} {O : List Addr} (I : Inv X pins σ H s) {v : V} {d : IV} {p : PyData} {u : Value} (r : Rep X.K cl O H v d) (e : d.toR = some p) (ru : RelV v u) : ∃ as, Reads s.heap u p as ∧ (p.hasDict = true → sysModules ∉ as) := by
  have plain : d.toP = some p → ∃ as, Reads s.heap u p as ∧ (p.hasDict = true → sysModules ∉ as) := fun e => by
    obtain ⟨as, rd⟩ := Dp.reads I p v u (r.dp e) ru
    exact ⟨as, rd, fun z => by rw [toP_noDict e] at z; cases z⟩
  cases r with
  | @dctH a kv ds h n ek q =>
    have e : (match kvP ds with | some ps => some (PyData.dict ps) | none => none) = some p := e
    cases hps : kvP ds with
    | some ps =>
      rw [hps] at e
      cases e; cases ru
      have ok : ObjOk X.prog X.w H s.heap a (.dK kv) := by
        rcases h with h | ⟨o, h⟩
        · exact I.hok a _ h
        · exact (show _ ∧ _ from I.hok a _ h).2
      obtain ⟨_, low, vs, hkv, o, es, ep, ho, hx, hd, _, hp, _⟩ := ok
      obtain ⟨k1, k2⟩ := kv_reads (h := s.heap) hps ek q hkv hp
      exact ⟨_, Reads.dict ho hx.1 hd k1 k2, fun _ z => by
        have z' : sysModules = a := by simpa using z
        rw [z'] at low
        exact absurd low (by simp)⟩
    | none => rw [hps] at e; cases e
  | _ => exact plain e
theorem els_repr {pins : List (Addr × Obj)} {σ : L2.St} {H : Hp} {s : Shared} {O : List Addr} (I : Inv X pins σ H s) : ∀ {vs : List V} {ds : List IV} {ps : List PyData} {us : List Value}, RepAll X.K cl O H vs ds → IV.toRs ds = some ps → Vals vs us → PyData.showableAll ps = true → (∀ t ∈ PyData.shownAll ps, t.length ≤ sizeLine) →
    (∃ as, ReadsAll s.heap us ps as) ∧ ∃ bs, ReadAtMost s.heap (PyData.depthAll ps) bs ∧ ReprAllK X.prog X.w bs s.heap (PyData.depthAll ps) us (PyData.shownAll ps)
  | _, _, _, _, .nil, e, r, _, _ => by cases e; cases r; exact ⟨⟨_, .nil⟩, [], (fun _ z => nomatch z), .nil⟩
  | _, _, _, _, .cons q t, e, r, hs, hz => by
    unfold IV.toRs at e
    split at e
    · rename_i p ps hp hps
      cases e
      cases r with
      | cons r1 r2 =>
        have hs' : p.showable = true ∧ PyData.showableAll ps = true := by simpa [PyData.showableAll] using hs
        obtain ⟨as, h1, n1⟩ := el_reads I q hp r1
        obtain ⟨b1, m1, k1⟩ := ReprK.of_reads (prog := X.prog) (w := X.w) h1 hs'.1 n1 (hz _ (by simp only [PyData.shownAll]; exact List.mem_cons_self ..))
        obtain ⟨⟨cs, h2⟩, b2, m2, k2⟩ := els_repr I t hps r2 hs'.2 (fun t ht => hz t (by simp only [PyData.shownAll]; exact List.mem_cons_of_mem _ ht))
        refine ⟨⟨_, .cons h1 h2⟩, b1 ++ b2, ?_, ?_⟩
        · simp only [PyData.depthAll]
          exact (m1.mono (Nat.le_max_left _ _)).append (m2.mono (Nat.le_max_right _ _))
        · simp only [PyData.depthAll, PyData.shownAll]
          exact .cons ((k1.more fun b hb => List.mem_append_left _ hb).level_le (Nat.le_max_left ..)) (k2.more_le (fun b hb => List.mem_append_right _ hb) (Nat.le_max_right ..))
    · cases e
/-- repr of a list -/
theorem repr_list (hg : X.A.guards = some []) (hu : X.A.units + 64 < cLine) {pins : List (Addr × Obj)} {σ : L2.St} {H : Hp} {s : Shared} {O : List Addr} (I : Inv X pins σ H s) {a : Addr} {vs : List V} {ds : List IV} {w : List Nat} {Q : VK} (sq : SqL X.K H a vs) (ra : RepAll X.K cl O H vs ds) (hr : reprL ds = some w) (q : Q (.str (sOf w)) H) :
    wpAny (model X.prog X.w) X.A (call (.builtin "repr") [.ref a]) (EP X pins σ Q) X.xe s := by
  unfold reprL at hr
  split at hr
  · rename_i ps hps
    split at hr
    · rename_i hz
      cases hr
      obtain ⟨z1, z2, z3⟩ := hz
      obtain ⟨its, rv, ⟨o, n, ho, hc, _, hd⟩, _⟩ := I.list sq
      have z2' : (listText (PyData.shownAll ps)).length ≤ sizeLine := by simpa only [PyData.shown] using szl z2
      obtain ⟨⟨as, rd⟩, bs, mb, hk⟩ := els_repr I ra hps rv (by simpa [PyData.showable] using z1) (fun t ht => Nat.le_trans (listText_mem_le ht) z2')
      have rl : Reads s.heap (.ref a) (.list ps) _ := .list ho hc hd rd
      have na : a ∉ bs := not_mem_of_deeper rl (by simp only [PyData.depth]; omega) mb
      have dep : PyData.depthAll ps + 1 ≤ 50 := by simpa only [PyData.depth] using z3
      have hQ : ∀ (h' : Heap) (u : Tok) (tk : Nat), (∀ b o, s.heap.get? b = some o → h'.get? b = some o) → EP X pins σ Q (.str (PyData.list ps).shown u) { s with heap := h', toks := tk } := fun h' u tk kp => ⟨.str (PyData.list ps).shown, H, I.kept (t' := tk) kp, ⟨u, rfl⟩, by rw [sOf_of] at q; exact q⟩
      refine call_repr_slot (T := "list") (idr := "list.__repr__") (by omega) ⟨o, ho, hc⟩ F.slot_list_repr.toG ?_
      simp only [PyData.shown] at hQ
      cases its with
      | nil =>
        cases rd
        simp only [PyData.shownAll, listText_nil] at hQ
        exact call_list_repr_empty ⟨o, ho, hc⟩ ho hd ⟨_, _, rfl, hQ s.heap _ _ fun _ _ e => e⟩
      | cons x l => exact call_list_reprK ho hc hd na (by simpa using hk.length_eq) (fun i y e => hk.item i y (by simpa using e)) hg (fun b _ => Clear.nil b) (by show X.A.units + 1 + _ < cLine; omega) (fun _ _ e => e) (fun h' u tk kp => ⟨_, _, rfl, hQ h' u tk kp⟩) z2'
    · cases hr
  · cases hr
theorem fn_repr (hg : X.A.guards = some []) (hu : X.A.units + 64 < cLine) : CallR X (.builtin "repr") (rND X.K cl (fnD .repr)) := by
  intro pins s σ H xs us Q I r h
  obtain ⟨O, ds, d, live, hx, hf, k⟩ := h
  have core : ∀ {dv : IV} {a : Addr} {w : List Nat}, RepX X.K cl O H (.ref a) dv → reprD dv = some w → Q (.str (sOf w)) H → wpAny (model X.prog X.w) X.A (call (.builtin "repr") [.ref a]) (EP X pins σ Q) X.xe s := fun {dv a w} hv hr q => by
    unfold reprD at hr
    split at hr
    · rename_i p hp
      split at hr
      · rename_i hz
        cases hr
        obtain ⟨as, rd⟩ := Dp.reads I p _ (.ref a) (hv.dp hp) rfl
        refine repr_of_reads' rd hz.1 (fun z => ?_) hg (by have := hz.2.2; omega) (fun _ _ e => e) (fun h' u tk kp => ?_) (szl hz.2.1)
        · rw [toP_noDict hp] at z; cases z
        · refine ⟨.str p.shown, H, I.kept (t' := tk) kp, ⟨u, rfl⟩, ?_⟩
          rw [sOf_of] at q
          exact q
      · cases hr
    · cases hr
  unfold fnD at hf
  split at hf <;> first | (rename_i q; cases q; done) | skip
  · obtain ⟨w, hw, rfl⟩ := Option.map_eq_some_iff.mp hf
    obtain ⟨v, rfl, hv⟩ := hx.one
    obtain ⟨u, rfl, ru⟩ := vals1 r
    obtain ⟨a, xs, rfl, sq, ra⟩ := id hv.lst
    cases ru
    exact repr_list hg hu I sq ra hw (k _ _ (Same.refl H) (.str _))
  · obtain ⟨w, hw, rfl⟩ := Option.map_eq_some_iff.mp hf
    obtain ⟨v, rfl, hv⟩ := hx.one
    obtain ⟨u, rfl, ru⟩ := vals1 r
    obtain ⟨a, xs, rfl, _, _⟩ := id hv.tup
    cases ru
    exact core hv hw (k _ _ (Same.refl H) (.str _))
  · cases hf
end
end Mx


/-! Mx, part 3d: isinstance, methods of texts. -/
namespace Mx
open PySem PySem.Spec PyProof.Rows L2
section
variable {X : Cx} {cl : Nat → Option Addr} {K : PySem.W.Frag} {O : List Addr} {H : Hp}
theorem Rd.tyL {a : Addr} {vs : List V} (h : Rd H a (.lst vs)) : TyX K H (.ref a) (.type "list") := by
  rcases h with h | ⟨o, h⟩
  · exact .base (.lst h)
  · exact .base (.frz h)
theorem SqL.ty {a : Addr} {vs : List V} (h : SqL K H a vs) : TyX K H (.ref a) (.type "list") := by
  rcases h with h | ⟨o, its, n, h1, h2, _⟩
  · exact Rd.tyL h
  · exact .kList h1 h2
theorem SqT.ty {a : Addr} {vs : List V} (h : SqT K H a vs) : TyX K H (.ref a) (.type "tuple") := by
  rcases h with (h | ⟨o, h⟩) | ⟨o, its, n, h1, h2, _⟩
  · exact .base (.tup h)
  · exact .fTuple h
  · exact .kTuple h1 h2
theorem RepX.tyD {v : V} {kvs : List (Key × IV)} (h : RepX K cl O H v (.dct kvs)) : TyX K H v (.type "dict") := by
  rcases h with h | ⟨_, _, _, w⟩
  · cases h with
    | dctH h n e r =>
      rcases h with h | ⟨o, h⟩
      · exact .base (.dK h)
      · exact .fDict h
  · rename_i q _
    subst q
    cases w with
    | dct h _ _ => exact .base (.dK h)
theorem isi_kit {x : V} {d : IV} {t : String} {b : Bool} (hx : RepX K cl O H x d) (hf : isiD d t = some b) : ∃ ty, TyX K H x ty ∧ PySem.W.kitOne K ty (.type t) = some b := by
  have hl : ∀ {ds}, RepX K cl O H x (.lst ds) → TyX K H x (.type "list") := fun h => by
    obtain ⟨a, vs, rfl, ha, _⟩ := h.lst
    exact SqL.ty ha
  have ht : ∀ {ds}, RepX K cl O H x (.tup ds) → TyX K H x (.type "tuple") := fun h => by
    obtain ⟨a, vs, rfl, ha, _⟩ := h.tup
    exact SqT.ty ha
  have hn : RepX K cl O H x .non → TyX K H x (.type "NoneType") := fun h => by rw [h.non]; exact .base .non
  have hb : ∀ {b}, RepX K cl O H x (.bl b) → TyX K H x (.type "bool") := fun h => by rw [h.bl]; exact .base (.bl _)
  have hi : ∀ {b}, RepX K cl O H x (.int b) → TyX K H x (.type "int") := fun h => by rw [h.int]; exact .base (.int _)
  have hs : ∀ {b}, RepX K cl O H x (.str b) → TyX K H x (.type "str") := fun h => by rw [h.str]; exact .base (.str _)
  unfold isiD at hf
  split at hf
  all_goals first | (cases hf; done) | skip
  all_goals cases hf
  all_goals first
    | exact ⟨_, hn hx, kit_ty (by decide +kernel)⟩
    | exact ⟨_, hb hx, kit_ty (by decide +kernel)⟩
    | exact ⟨_, hi hx, kit_ty (by decide +kernel)⟩
    | exact ⟨_, hs hx, kit_ty (by decide +kernel)⟩
    | exact ⟨_, ht hx, kit_ty (by decide +kernel)⟩
    | exact ⟨_, hl hx, kit_ty (by decide +kernel)⟩
    | exact ⟨_, hx.tyD, kit_ty (by decide +kernel)⟩
/-! ### methods -/
def rMD (K : PySem.W.Frag) (cl : Nat → Option Addr) (f : IV → List IV → Option IV) : V → List V → Hp → VK → Prop := fun x xs H Q =>
  ∃ O dx ds d, (∀ a ∈ O, H a ≠ none) ∧ RepX K cl O H x dx ∧ RepXs K cl O H xs ds ∧ f dx ds = some d ∧ ∀ v H', Same H H' → Rep K cl O H' v d → Q v H'
theorem RepAll.texts : ∀ {vs : List V} {ds : List IV} {ts : List (List Nat)}, RepAll K cl O H vs ds → Mx.texts ds = some ts → vs = (ts.map sOf).map V.str
  | _, _, _, .nil, e => by cases e; rfl
  | _, _, _, .cons r t, e => by
    unfold Mx.texts at e
    split at e
    · rename_i h; cases h
    · rename_i h
      cases h
      obtain ⟨bs, hb, rfl⟩ := Option.map_eq_some_iff.mp e
      cases r
      rw [List.map_cons, List.map_cons, RepAll.texts t hb]
    · cases e
theorem join_sOf (s : List Nat) (ts : List (List Nat)) : Txt.join (sOf s) (ts.map sOf) = sOf (TL.joinL s ts) := by
  refine TL.ext_tl ?_
  rw [TL.join_eq, TL.tl_join]
  show TL.joinL (sOf s).cps.toList _ = (sOf _).cps.toList
  rw [sOf_list, sOf_list, List.map_map]
  congr 1
  conv => rhs; rw [← List.map_id ts]
  exact List.map_congr_left fun t _ => sOf_list t
theorem mt_joinD : MtR X "str.join" (rMD X.K cl (mtD .join)) := by
  intro pins s σ H x xs v us Q I rx rs h
  obtain ⟨O, dx, ds, d, live, hx, hxs, hf, k⟩ := h
  unfold mtD at hf
  split at hf <;> first | (rename_i q; cases q; done) | skip
  · split at hf
    · rename_i ts hts
      split at hf
      · rename_i hz
        cases hf
        obtain ⟨w, rfl, hw⟩ := hxs.one
        obtain ⟨a, vs, rfl, ha, ra⟩ := hw.lst
        rw [ra.texts hts] at ha
        refine mt_join pins s σ H x _ v us Q I rx rs ⟨_, a, ts.map sOf, hx.str, rfl, .inl ha, ?_, ?_⟩
        · rw [List.map_map, List.length_map, sOf_len, show (fun x => x.length) ∘ sOf = List.length from funext fun l => sOf_len l]
          exact hz
        · rw [join_sOf]
          exact k _ _ (Same.refl H) (.str _)
      · cases hf
    · cases hf
  · cases hf
theorem mt_splitD : MtR X "str.split" (rMD X.K cl (mtD .split)) := by
  intro pins s σ H x xs v us Q I rx rs h
  obtain ⟨O, dx, ds, d, live, hx, hxs, hf, k⟩ := h
  unfold mtD at hf
  split at hf <;> first | (rename_i q; cases q; done) | skip
  · split at hf
    · rename_i a b _ hz
      cases hf
      obtain ⟨w, rfl, hw⟩ := hxs.one
      have eb : TL.tl (sOf b) ≠ [] := by show (sOf b).cps.toList ≠ []; rw [sOf_list]; exact hz.1
      refine mt_split pins s σ H x _ v us Q I rx rs ⟨sOf a, sOf b, hx.str, by rw [hw.str], ?_, ?_, fun p hp => k _ _ (same_new hp) (rep_newL live hp ?_)⟩
      · rw [sOf_len]
        cases b with
        | nil => exact absurd rfl hz.1
        | cons c r => rfl
      · rw [sOf_len]; exact szl hz.2.2
      · have e : (Txt.split (sOf a) (sOf b)) = (TL.spl b 0 [] a).map sOf := by
          refine TL.map_tl_inj ?_
          rw [TL.split_spl _ _ eb (TL.kind_ok ?_), List.map_map]
          · show TL.spl (sOf b).cps.toList 0 [] (sOf a).cps.toList = _
            rw [sOf_list, sOf_list]
            conv => lhs; rw [← List.map_id (TL.spl b 0 [] a)]
            exact List.map_congr_left fun t _ => (sOf_list t).symm
          · have := hz.2.1
            unfold ascii at this
            rw [List.all_eq_true] at this
            rw [Array.all_eq_true']
            intro c hc
            have q := this c (by simpa [sOf] using hc)
            simp at q ⊢
            omega
        rw [e, List.map_map]
        exact repAll_strs _
    · cases hf
  · cases hf
theorem mt_partD : MtR X "str.partition" (rMD X.K cl (mtD .part)) := by
  intro pins s σ H x xs v us Q I rx rs h
  obtain ⟨O, dx, ds, d, live, hx, hxs, hf, k⟩ := h
  unfold mtD at hf
  split at hf <;> first | (rename_i q; cases q; done) | skip
  · split at hf
    · rename_i a b _ hz
      obtain ⟨w, rfl, hw⟩ := hxs.one
      have eb : TL.tl (sOf b) ≠ [] := by show (sOf b).cps.toList ≠ []; rw [sOf_list]; exact hz.1
      have hp := TL.partition_par (sOf a) (sOf b) eb
      have e1 : TL.tl (sOf a) = a := sOf_list a
      have e2 : TL.tl (sOf b) = b := sOf_list b
      rw [e1, e2] at hp
      refine mt_partition pins s σ H x _ v us Q I rx rs ⟨sOf a, sOf b, hx.str, by rw [hw.str], ?_, ?_, fun p np => k _ _ (same_new np) ?_⟩
      · rw [sOf_len]
        cases b with
        | nil => exact absurd rfl hz.1
        | cons c r => rfl
      · rw [sOf_len]; exact szl hz.2
      · split at hf
        · rename_i y z hyz
          cases hf
          rw [hyz] at hp
          have hp' : Txt.partition (sOf a) (sOf b) = (sOf y, sOf b, sOf z) := hp
          rw [hp']
          exact rep_newT live np (.cons (.str y) (.cons (.str b) (.cons (.str z) .nil)))
        · rename_i hyz
          cases hf
          rw [hyz] at hp
          have hp' : Txt.partition (sOf a) (sOf b) = (sOf a, sOf [], sOf []) := hp
          rw [hp']
          exact rep_newT live np (.cons (.str a) (.cons (.str []) (.cons (.str []) .nil)))
    · cases hf
  · cases hf
theorem mt_upperD : MtR X "str.upper" (rMD X.K cl (mtD .upper)) := by
  intro pins s σ H x xs v us Q I rx rs h
  obtain ⟨O, dx, ds, d, live, hx, hxs, hf, k⟩ := h
  unfold mtD at hf
  split at hf <;> first | (rename_i q; cases q; done) | skip
  · split at hf
    · rename_i a _ hz
      cases hf
      have e := hxs.nil
      subst e
      refine mt_upper pins s σ H x _ v us Q I rx rs ⟨sOf a, hx.str, rfl, by rw [sOf_len]; omega, ?_⟩
      have q := k (.str (sOf (Txt.upper (sOf a)).cps.toList)) H (Same.refl H) (.str _)
      rw [sOf_of] at q
      exact q
    · cases hf
  · cases hf
end
end Mx


/-! Mx, part 4a: when a term of the language is a given text (all of it is looked at by the kernel). -/
namespace Mx
open PySem PySem.Spec PyProof.Rows L2

def notStar : Expr → Bool
  | .Starred _ _ => false
  | _ => true
def notSlice : Expr → Bool
  | .Slice _ _ _ _ => false
  | _ => true
def notComp : Expr → Bool
  | .ListComp _ _ _ _ => false
  | .SetComp _ _ _ _ => false
  | .DictComp _ _ _ _ _ => false
  | _ => true
def noSuper : Expr → Bool
  | .Call (.Name _ _) [] [] _ => false
  | _ => true
def noSet : Expr → Bool
  | .Set _ _ _ => false
  | _ => true
mutual
def IV.beq : IV → IV → Bool
  | .non, .non => true
  | .bl a, .bl b => a == b
  | .int a, .int b => a == b
  | .str a, .str b => a == b
  | .tup a, .tup b => IV.beqs a b
  | .lst a, .lst b => IV.beqs a b
  | _, _ => false
def IV.beqs : List IV → List IV → Bool
  | [], [] => true
  | x :: xs, y :: ys => IV.beq x y && IV.beqs xs ys
  | _, _ => false
end
mutual
theorem IV.beq_eq : ∀ {x y : IV}, IV.beq x y = true → x = y
  | .non, .non, _ => rfl
  | .bl a, .bl b, h => by rw [show a = b from by simpa [IV.beq] using h]
  | .int a, .int b, h => by rw [show a = b from by simpa [IV.beq] using h]
  | .str a, .str b, h => by rw [show a = b from by simpa [IV.beq] using h]
  | .tup a, .tup b, h => by rw [IV.beqs_eq (show IV.beqs a b = true from h)]
  | .lst a, .lst b, h => by rw [IV.beqs_eq (show IV.beqs a b = true from h)]
theorem IV.beqs_eq : ∀ {xs ys : List IV}, IV.beqs xs ys = true → xs = ys
  | [], [], _ => rfl
  | x :: xs, y :: ys, h => by
    have h' : (IV.beq x y && IV.beqs xs ys) = true := h
    rw [Bool.and_eq_true] at h'
    rw [IV.beq_eq h'.1, IV.beqs_eq h'.2]
end
def E.isView : E → Bool
  | .view _ => true
  | _ => false
mutual
/-- no changing object is changed -/
def E.pure : E → Bool
  | .bin _ a b => a.pure && b.pure
  | .neg a => a.pure
  | .cmp _ a b => a.pure && b.pure
  | .chn _ _ a b c => a.pure && b.pure && c.pure
  | .and es => es.pure
  | .or es => es.pure
  | .not a => a.pure
  | .ite c a b => c.pure && a.pure && b.pure
  | .ix a b => a.pure && b.pure
  | .sl a lo hi => a.pure && lo.pure && hi.pure
  | .lst es => es.pure
  | .tup es => es.pure
  | .dct _ es => es.pure
  | .fn _ es => es.pure
  | .isi a _ => a.pure
  | .mt _ a es => a.pure && es.pure
  | .call _ as => as.pure
  | .callK _ as bs _ _ => as.pure && bs.pure
  | .comp _ it c e => it.pure && c.pure && e.pure
  | .pr1 _ a => a.pure
  | .mk _ _ es => es.pure
  | .mkK _ _ as bs _ _ => as.pure && bs.pure
  | .methV _ _ a as _ => a.pure && as.pure
  | .methM _ _ _ _ _ => false
  | .new _ _ as _ => as.pure
  | .callD _ as _ => as.pure
  | .dix a b => a.pure && b.pure
  | .kix _ _ b => b.pure
  | .kget _ _ b d => b.pure && d.pure
  | .dcomp _ it c k v => it.pure && c.pure && k.pure && v.pure
  | .listG _ as bs _ _ _ => as.pure && bs.pure
  | _ => true
def OE.pure : OE → Bool
  | .no => true
  | .yes e => e.pure
def Es.pure : Es → Bool
  | .nil => true
  | .cons e r => e.pure && r.pure
def As.pure : As → Bool
  | .nil => true
  | .v e r => e.pure && r.pure
  | .m _ _ => false
def It.pure : It → Bool
  | .lst e => e.pure
  | .tup e => e.pure
  | .txt e => e.pure
  | .rng a => a.pure
  | .rng2 a b => a.pure && b.pure
  | .enu e => e.pure
  | .rng3 a b c => a.pure && b.pure && c.pure
end
mutual
/-- it may be a test -/
def E.tst : E → Bool
  | .and es => es.tst
  | .or es => es.tst
  | .not a => a.tst
  | .ite _ _ _ => false
  | _ => true
def Es.tst : Es → Bool
  | .nil => true
  | .cons e r => e.tst && r.tst
end
def As.kinds : As → List Bool
  | .nil => []
  | .v _ r => false :: r.kinds
  | .m _ r => true :: r.kinds
def As.idx : As → List Nat
  | .nil => []
  | .v _ r => r.idx
  | .m i r => i :: r.idx
def Es.noView : Es → Bool
  | .nil => true
  | .cons e r => !e.isView && r.noView
/-- an exception class: its name, its fields, whether it has an own __init__, the ways it is called by keywords -/
structure Xc where
  name : Str
  ps : List Str
  own : Bool
  kws : List (Nat × List Str × List Nat)
structure Tab where
  fns : Nat → Option Fn
  glo : List (Str × IV)
  blt : List Str
  xcls : Nat → Option Xc
  isx : List (List Str × Bool × List Nat × List Nat)
  meths : List (Nat × Str × Nat) := []
  news : List (Nat × Str × Nat) := []
  flds : List (Nat × Str) := []
  kdct : List (Str × List (Key × IV)) := []
  rp : Bool := true

/-- the def may be called here: no repr where repr may be under way; it is no generator -/
def callB (T : Tab) (fn : Fn) : Bool := (T.rp || !fn.rp) && fn.gbody.isNone
def kvsB : List (Key × IV) → List (Key × IV) → Bool
  | [], [] => true
  | (k, x) :: r, (l, y) :: q => decide (k = l) && (IV.beq x y && kvsB r q)
  | _, _ => false
theorem kvsB_eq : ∀ {r q : List (Key × IV)}, kvsB r q = true → r = q
  | [], [], _ => rfl
  | (k, x) :: r, (l, y) :: q, h => by
    have h' : (decide (k = l) && (IV.beq x y && kvsB r q)) = true := h
    simp only [Bool.and_eq_true, decide_eq_true_eq] at h'
    rw [h'.1, IV.beq_eq h'.2.1, kvsB_eq h'.2.2]
  | [], _ :: _, h => nomatch h
  | _ :: _, [], h => nomatch h
def visB (sc : Scope) (x : Str) : Bool := match sc.names.lookup x with
  | some .local => true
  | some .cell => true
  | some .free => true
  | _ => false
def locB (sc : Scope) (x : Str) : Bool := match sc.names.lookup x with
  | some .local => true
  | some .cell => true
  | _ => false
def gloB (sc : Scope) (x : Str) : Bool := match sc.names.lookup x with
  | some .globalImplicit => true
  | _ => false
/-- a name of the def, in slot i -/
def slotB (N : List Str) (sc : Scope) (i : Nat) (x : Str) : Bool :=
  decide (N[i]? = some x) && visB sc x && !(x == ("__debug__" : Str)) && !(x == ("__classdict__" : Str))
def storeB (N : List Str) (sc : Scope) (i : Nat) (x : Str) : Bool := decide (N[i]? = some x) && locB sc x
def cstB : Const → IV → Bool
  | .none, .non => true
  | .bool a, .bl b => a == b
  | .int a, .int b => a == b
  | .str s, .str l => decide (s = sOf l)
  | _, _ => false
def keyB : Expr → Key → Bool
  | .Constant (.int a) _ _, .inl b => a == b
  | .Constant (.str a) _ _, .inr b => decide (a = b)
  | _, _ => false
def keysB : List (Option Expr) → List Key → Bool
  | [], [] => true
  | some x :: xs, k :: ks => keyB x k && keysB xs ks
  | _, _ => false
def fnName : BFn → Str
  | .len => "len"
  | .int => "int"
  | .all => "all"
  | .any => "any"
  | .list => "list"
  | .tuple => "tuple"
  | .repr => "repr"
  | .str => "str"
  | .ord => "ord"
  | .min => "min"
  | .max => "max"
def mtName : BMt → Str
  | .join => "join"
  | .split => "split"
  | .part => "partition"
  | .upper => "upper"
  | .strip => "strip"
def fnServed : BFn → Bool
  | .len => true
  | .int => true
  | .all => true
  | .any => true
  | .list => true
  | .tuple => true
  | .repr => true
  | .ord => true
  | .str => true
  | _ => false
def fnRp : BFn → Bool
  | .repr => true
  | _ => false
def mtAr : BMt → Nat
  | .upper => 0
  | _ => 1
def mtServed : BMt → Bool
  | .join => true
  | .split => true
  | .part => true
  | .upper => true
  | .strip => false
def tgsB (N : List Str) (sc : Scope) : List Nat → List Expr → Bool
  | [], [] => true
  | i :: is, .Name x _ :: xs => storeB N sc i x && tgsB N sc is xs
  | _, _ => false
def tgB (N : List Str) (sc : Scope) : List Nat → Expr → Bool
  | [i], .Name x _ => storeB N sc i x
  | is, .Tuple xs _ _ => tgsB N sc is xs && decide (2 ≤ is.length)
  | _, _ => false
def kwB : List Str → List Keyword → Bool
  | [], [] => true
  | k :: ks, ⟨some a, _, _⟩ :: r => decide (k = a) && kwB ks r
  | _, _ => false
def kwVals : List Keyword → List Expr
  | [] => []
  | ⟨_, v, _⟩ :: r => v :: kwVals r
/-- names of classes -/
def namesB (sc : Scope) : List Str → List Expr → Bool
  | [], [] => true
  | x :: xs, .Name y _ :: ys => decide (y = x) && (gloB sc y && (!(y == ("__debug__" : Str)) && namesB sc xs ys))
  | _, _ => false
def isxW (sc : Scope) (xs : List Str) : Bool → Expr → Bool
  | false, w => namesB sc xs [w]
  | true, .Tuple ws _ _ => namesB sc xs ws && decide (ws.length ≤ 50)
  | _, _ => false
/-- the exception class c has the field f; the class c has it -/
def hasX (T : Tab) (f : Str) (c : Nat) : Bool := match T.xcls c with
  | some xc => decide (f ∈ xc.ps)
  | none => false
def hasF (T : Tab) (f : Str) (c : Nat) : Bool := decide ((c, f) ∈ T.flds)
/-- the def f takes the arguments by place, kinds ks, then the defaults dv -/
def takesB (T : Tab) (ks : List Bool) (dv : List IV) (f : Nat) : Bool := match T.fns f with
  | some fn => callB T fn && decide (fn.muts = ks ++ dv.map fun _ => false) && (decide (fn.muts.length = fn.ps.length) && (dv.isEmpty || fn.dfls.any fun d => IV.beqs d dv))
  | none => false
/-- an operation with one operand: the operand -/
def mP1 (T : Tab) (sc : Scope) : P1 → Expr → Option Expr
  | .fld f cs ks, .Attribute o y _ => if (decide (y = f) && (noSuper o && (cs.all (hasX T f) && ks.all (hasF T f)))) = true then some o else none
  | .isx xs tup ys ns, .Call (.Name y _) [z, w] [] _ => if (decide (y = ("isinstance" : Str)) && (gloB sc y && (T.blt.contains y && (notStar z && (decide ((xs, tup, ys, ns) ∈ T.isx) && isxW sc xs tup w))))) = true then some z else none
  | _, _ => none
mutual
def mE (T : Tab) (N : List Str) : E → Scope → Expr → Bool
  | .var i, sc, x => match x with
    | .Name y _ => slotB N sc i y
    | _ => false
  | .view i, sc, x => match x with
    | .Name y _ => slotB N sc i y
    | _ => false
  | .cst d, _, x => match x with
    | .Constant c _ _ => cstB c d
    | _ => false
  | .glo z d, sc, x => match x with
    | .Name y _ => decide (y = z) && gloB sc y && (T.glo.any fun p => decide (p.1 = z) && IV.beq p.2 d) && !(y == ("__debug__" : Str))
    | _ => false
  | .bin o a b, sc, x => match x with
    | .BinOp y p z _ => decide (p = opOf o) && mE T N a sc y && mE T N b sc z && (!a.isView || b.pure)
    | _ => false
  | .neg a, sc, x => match x with
    | .UnaryOp .USub y _ => mE T N a sc y
    | _ => false
  | .cmp o a b, sc, x => match x with
    | .Compare y [p] [z] _ => decide (p = copOf o) && mE T N a sc y && mE T N b sc z && (!a.isView || b.pure) && noSet z
    | _ => false
  | .chn o p a b c, sc, x => match x with
    | .Compare y [q, r] [z, w] _ => decide (q = copOf o) && decide (r = copOf p) && mE T N a sc y && mE T N b sc z && mE T N c sc w && !a.isView && !b.isView && noSet w
    | _ => false
  | .and es, sc, x => match x with
    | .BoolOp .And xs _ => mEs T N es sc xs && es.noView
    | _ => false
  | .or es, sc, x => match x with
    | .BoolOp .Or xs _ => mEs T N es sc xs && es.noView
    | _ => false
  | .not a, sc, x => match x with
    | .UnaryOp .Not y _ => mE T N a sc y
    | _ => false
  | .ite c a b, sc, x => match x with
    | .IfExp y z w _ => mE T N c sc y && c.tst && mE T N a sc z && mE T N b sc w && !a.isView && !b.isView
    | _ => false
  | .ix a b, sc, x => match x with
    | .Subscript y z _ => mE T N a sc y && mE T N b sc z && notSlice z && (!a.isView || b.pure)
    | _ => false
  | .sl a lo hi, sc, x => match x with
    | .Subscript y (.Slice l h none _) _ => mE T N a sc y && mO T N lo sc l && mO T N hi sc h && (!a.isView || (lo.pure && hi.pure))
    | _ => false
  | .lst es, sc, x => match x with
    | .List xs _ => mEs T N es sc xs && es.noView
    | _ => false
  | .tup es, sc, x => match x with
    | .Tuple xs _ _ => mEs T N es sc xs && es.noView
    | _ => false
  | .dct ks es, sc, x => match x with
    | .Dict keys vals _ => keysB keys ks && mEs T N es sc vals && es.noView && decide (ks.length = vals.length) && decide (0 < ks.length) && decide (ks.length ≤ 15) && decide ks.Nodup && es.pure
    | _ => false
  | .fn f es, sc, x => match x with
    | .Call (.Name y _) (z :: zs) [] _ => decide (y = fnName f) && (fnServed f && (T.rp || !fnRp f)) && gloB sc y && T.blt.contains y && mEs T N es sc (z :: zs)
    | _ => false
  | .isi a t, sc, x => match x with
    | .Call (.Name y _) [z, .Name w _] [] _ => decide (y = ("isinstance" : Str)) && gloB sc y && T.blt.contains y && mE T N a sc z && notStar z && decide (w = Str.ofString t) && gloB sc w && T.blt.contains w
        && (t == "str" || t == "int" || t == "bool" || t == "tuple")
    | _ => false
  | .mt m a es, sc, x => match x with
    | .Call (.Attribute o y p) xs [] q => decide (y = mtName m) && mtServed m && mE T N a sc o && mEs T N es sc xs && noSuper o && (p.endLine == q.line) && !a.isView && decide (xs.length = mtAr m)
    | _ => false
  | .call f as, sc, x => match x with
    | .Call (.Name y _) xs [] _ => match T.fns f with
      | some fn => (fn.glob && callB T fn) && decide (y = fn.name) && gloB sc y && mAs T N as sc xs && decide (as.kinds = fn.muts) && decide as.idx.Nodup && decide (fn.ps.length = xs.length) && decide (fn.muts.length = xs.length) && !(y == ("__debug__" : Str))
      | none => false
    | _ => false
  | .callK f as bs ks perm, sc, x => match x with
    | .Call (.Name y _) xs kws _ => match T.fns f with
      | some fn => (fn.glob && callB T fn) && decide (y = fn.name) && gloB sc y && kwB ks kws && mEs T N as sc xs && mEs T N bs sc (kwVals kws) && as.noView && bs.noView && fn.muts.all (fun b => !b) && decide (fn.muts.length = fn.ps.length)
          && decide ((xs.length, ks, perm) ∈ fn.kws) && decide (perm.length = fn.ps.length) && !(y == ("__debug__" : Str))
      | none => false
    | _ => false
  | .comp tg it c e, sc, x => match x with
    | .ListComp elt [⟨t, iter, ifs, 0⟩] scope _ => mIt T N it sc t iter && noSet iter && blkC N sc scope (tg.filterMap fun i => N[i]?.map fun n => (n, i)) && tgB N scope tg t && mC T N c scope ifs && mE T N e scope elt && !e.isView
        && tg.all (fun i => decide (i < N.length)) && decide tg.Nodup
    | _ => false
  | .pr1 p a, sc, x => match mP1 T sc p x with
    | some y => mE T N a sc y && !a.isView
    | none => false
  | .mk c ps es, sc, x => match x with
    | .Call (.Name y _) xs [] _ => match T.xcls c with
      | some xc => decide (y = xc.name) && gloB sc y && mEs T N es sc xs && es.noView && decide (xc.ps = ps) && !(y == ("__debug__" : Str)) && decide (xs.length ≤ 100) && (T.xcls 0).isSome
      | none => false
    | _ => false
  | .mkK c ps as bs ks perm, sc, x => match x with
    | .Call (.Name y _) xs kws _ => match T.xcls c with
      | some xc => decide (y = xc.name) && gloB sc y && kwB ks kws && mEs T N as sc xs && mEs T N bs sc (kwVals kws) && as.noView && bs.noView && decide ((xs.length, ks, perm) ∈ xc.kws) && decide (xc.ps = ps) && !(y == ("__debug__" : Str)) && decide (xs.length ≤ 100) && (T.xcls 0).isSome
      | none => false
    | _ => false
  | .vfld i f cs, sc, x => match x with
    | .Attribute (.Name y _) f' _ => decide (f' = f) && slotB N sc i y && cs.all (hasF T f)
    | _ => false
  | .methV m tab a as dv, sc, x => match x with
    | .Call (.Attribute o y p) xs [] q => decide (y = m) && mE T N a sc o && !a.isView && mAs T N as sc xs && noSuper o && (p.endLine == q.line) && decide (xs.length ≤ 20) && decide as.idx.Nodup
        && tab.all fun t => decide ((t.1, m, t.2) ∈ T.meths) && takesB T (false :: as.kinds) dv t.2
    | _ => false
  | .methM m tab i as dv, sc, x => match x with
    | .Call (.Attribute (.Name z _) y p) xs [] q => decide (y = m) && slotB N sc i z && mAs T N as sc xs && (p.endLine == q.line) && decide (xs.length ≤ 20) && decide (i :: as.idx).Nodup
        && tab.all fun t => decide ((t.1, m, t.2) ∈ T.meths) && takesB T (true :: as.kinds) dv t.2
    | _ => false
  | .new c f as dv, sc, x => match x with
    | .Call (.Name y _) xs [] _ => gloB sc y && mAs T N as sc xs && decide as.idx.Nodup && !(y == ("__debug__" : Str)) && decide ((c, y, f) ∈ T.news) && takesB T (true :: as.kinds) dv f && (match T.fns f with | some fn => !fn.own | none => false)
    | _ => false
  | .callD f as dv, sc, x => match x with
    | .Call (.Name y _) xs [] _ => gloB sc y && mAs T N as sc xs && decide as.idx.Nodup && !(y == ("__debug__" : Str)) && takesB T as.kinds dv f && (match T.fns f with | some fn => fn.glob && decide (y = fn.name) | none => false)
    | _ => false
  | .dix a b, sc, x => match x with
    | .Subscript y z _ => mE T N a sc y && mE T N b sc z && notSlice z && (!a.isView && !b.isView)
    | _ => false
  | .kix w kvs b, sc, x => match x with
    | .Subscript (.Name y _) z _ => decide (y = w) && gloB sc y && !(y == ("__debug__" : Str)) && (T.kdct.any fun p => decide (p.1 = w) && kvsB p.2 kvs) && mE T N b sc z && notSlice z && !b.isView
    | _ => false
  | .kget w kvs b d, sc, x => match x with
    | .Call (.Attribute (.Name y _) m p) [z, u] [] q => decide (y = w) && gloB sc y && !(y == ("__debug__" : Str)) && (T.kdct.any fun p => decide (p.1 = w) && kvsB p.2 kvs) && decide (m = ("get" : Str)) && (p.endLine == q.line) && mE T N b sc z && mE T N d sc u && (notStar z && notStar u) && (!b.isView && !d.isView)
    | _ => false
  | .dcomp tg it c k e, sc, x => match x with
    | .DictComp kx vx [⟨t, iter, ifs, 0⟩] scope _ => mIt T N it sc t iter && noSet iter && blkC N sc scope (tg.filterMap fun i => N[i]?.map fun n => (n, i)) && tgB N scope tg t && mC T N c scope ifs && mE T N k scope kx && mE T N e scope vx && (!k.isView && !e.isView)
        && tg.all (fun i => decide (i < N.length)) && decide tg.Nodup && (k.pure && e.pure)
    | _ => false
  | .listG f as bs ks dv perm, sc, x => match x with
    | .Call (.Name l _) [.Call (.Name y _) xs kws _] [] _ => decide (l = ("list" : Str)) && gloB sc l && T.blt.contains l && (match T.fns f with
      | some fn => decide (y = fn.name) && gloB sc y && kwB ks kws && mEs T N as sc xs && mEs T N bs sc (kwVals kws) && (as.noView && bs.noView) && fn.muts.all (fun b => !b) && decide (fn.muts.length = fn.ps.length) && (fn.kwds.any fun p => decide (p.1 = xs.length) && decide (p.2.1 = ks) && IV.beqs p.2.2.1 dv && decide (p.2.2.2 = perm)) && decide (perm.length = fn.ps.length) && !(y == ("__debug__" : Str)) && fn.gbody.isSome
      | none => false)
    | _ => false
def mO (T : Tab) (N : List Str) : OE → Scope → Option Expr → Bool
  | .no, _, x => x.isNone
  | .yes e, sc, x => match x with
    | some y => mE T N e sc y
    | none => false
def mC (T : Tab) (N : List Str) : OE → Scope → List Expr → Bool
  | .no, _, xs => xs.isEmpty
  | .yes e, sc, xs => match xs with
    | [y] => mE T N e sc y && e.tst
    | _ => false
def mEs (T : Tab) (N : List Str) : Es → Scope → List Expr → Bool
  | .nil, _, xs => xs.isEmpty
  | .cons e r, sc, xs => match xs with
    | y :: ys => mE T N e sc y && mEs T N r sc ys && notStar y && (!e.isView || r.pure)
    | [] => false
def mAs (T : Tab) (N : List Str) : As → Scope → List Expr → Bool
  | .nil, _, xs => xs.isEmpty
  | .v e r, sc, xs => match xs with
    | y :: ys => mE T N e sc y && mAs T N r sc ys && notStar y && !e.isView
    | [] => false
  | .m i r, sc, xs => match xs with
    | .Name y _ :: ys => slotB N sc i y && mAs T N r sc ys
    | _ => false
def mIt (T : Tab) (N : List Str) : It → Scope → Expr → Expr → Bool
  | .lst e, sc, _, x => mE T N e sc x && !e.isView
  | .tup e, sc, _, x => mE T N e sc x && !e.isView
  | .txt e, sc, _, x => mE T N e sc x && !e.isView
  | .rng a, sc, _, x => match x with
    | .Call (.Name y _) [z] [] _ => decide (y = ("range" : Str)) && gloB sc y && T.blt.contains y && mE T N a sc z && notStar z && !a.isView
    | _ => false
  | .rng2 a b, sc, _, x => match x with
    | .Call (.Name y _) [z, w] [] _ => decide (y = ("range" : Str)) && gloB sc y && T.blt.contains y && mE T N a sc z && mE T N b sc w && notStar z && notStar w && !a.isView && !b.isView
    | _ => false
  | .enu e, sc, t, x => match t with
    | .Tuple _ _ _ => match x with
      | .Call (.Name y _) [z] [] _ => decide (y = ("enumerate" : Str)) && gloB sc y && T.blt.contains y && mE T N e sc z && notStar z && !e.isView
      | _ => false
    | _ => false
  | .rng3 a b c, sc, _, x => match x with
    | .Call (.Name y _) [z, w, u] [] _ => decide (y = ("range" : Str)) && gloB sc y && T.blt.contains y && mE T N a sc z && mE T N b sc w && mE T N c sc u && (notStar z && notStar w && notStar u) && (!a.isView && !b.isView && !c.isView)
    | _ => false
end
/-- name = [.. for ..] on one line -/
def swapB (sc : Scope) (t : Str) (p : Pos) : Expr → Bool
  | .ListComp a g s q => decide (sc.names.lookup t = some .local) && (p.line == (Expr.ListComp a g s q).pos.line) && !(s.names.any fun (n, k) => n == t && (k == .local || k == .cell))
  | _ => false
def mEO (T : Tab) (N : List Str) (e : E) (sc : Scope) (x : Expr) : Bool := mE T N e sc x && match e with
  | .lst _ => true
  | .call f _ => match T.fns f with
    | some fn => fn.own
    | none => false
  | .new _ _ _ _ => true
  | _ => false
def isDcomp : E → Bool
  | .dcomp _ _ _ _ _ => true
  | _ => false
def isComp : E → Bool
  | .comp _ _ _ _ => true
  | _ => false
def notTup : Expr → Bool
  | .Tuple _ _ _ => false
  | _ => true
mutual
def mS (T : Tab) (N : List Str) (own : Bool) : S → Scope → Stmt → Bool
  | .asg i e, sc, x => match x with
    | .Assign [.Name y p] v _ => storeB N sc i y && mE T N e sc v && !e.isView && (notComp v || isComp e || isDcomp e)
    | _ => false
  | .asgO i e, sc, x => match x with
    | .Assign [.Name y _] v _ => storeB N sc i y && mEO T N e sc v && notComp v
    | _ => false
  | .unp is e, sc, x => match x with
    | .Assign [.Tuple ts j p] v _ => tgB N sc is (.Tuple ts j p) && mE T N e sc v && !e.isView && notTup v
    | _ => false
  | .aug i o e, sc, x => match x with
    | .AugAssign (.Name y _) op v _ => storeB N sc i y && decide (op = opOf o) && (match o with | .add => true | .sub => true | _ => false) && mE T N e sc v && !e.isView
    | _ => false
  | .par i j oi oj a b, sc, x => match x with
    | .Assign [.Tuple [.Name y p, .Name z q] _ _] (.Tuple [v, w] _ _) _ => ((q.line == p.line) && decide (y ≠ z) && !([v, w].all (foldedForSure 8)) && !([v, w].all (constantsAlone 8)) && !(oi && oj)) && storeB N sc i y && storeB N sc j z && decide (i ≠ j) && decide (sc.names.lookup y = some .local) && decide (sc.names.lookup z = some .local)
        && (if oi = true then mEO T N a sc v && b.pure else mE T N a sc v && !a.isView) && (if oj = true then mEO T N b sc w else mE T N b sc w && !b.isView) && (notStar v && notStar w)
    | _ => false
  | .setI i k v, sc, x => match x with
    | .Assign [.Subscript (.Name y _) z _] w _ => slotB N sc i y && mE T N k sc z && mE T N v sc w && !k.isView && !v.isView && notSlice z && notComp w
    | _ => false
  | .app i e, sc, x => match x with
    | .Expr (.Call (.Attribute (.Name y _) m p) [v] [] q) _ => decide (m = ("append" : Str)) && slotB N sc i y && mE T N e sc v && !e.isView && notStar v && (p.endLine == q.line)
    | _ => false
  | .setF i f cs e, sc, x => match x with
    | .Assign [.Attribute (.Name y _) f' _] v _ => decide (f' = f) && slotB N sc i y && mE T N e sc v && !e.isView && cs.all (hasF T f) && notComp v
    | _ => false
  | .augF i f cs o e, sc, x => match x with
    | .AugAssign (.Attribute (.Name y _) f' _) op v _ => decide (f' = f) && slotB N sc i y && decide (op = opOf o) && (match o with | .add => true | .sub => true | _ => false) && mE T N e sc v && !e.isView && e.pure && cs.all (hasF T f)
    | _ => false
  | .raise c ps es, sc, x => match x with
    | .Raise (some (.Call (.Name y _) xs [] _)) none _ => match T.xcls c with
      | some xc => decide (y = xc.name) && gloB sc y && mEs T N es sc xs && es.noView && decide (xc.ps = ps) && !(y == ("__debug__" : Str)) && decide (xs.length ≤ 100) && (T.xcls 0).isSome
      | none => false
    | _ => false
  | .drop e, sc, x => match x with
    | .Expr v _ => mE T N e sc v && notComp v
    | _ => false
  | .ret e, sc, x => match x with
    | .Return (some v) _ => if own = true then mEO T N e sc v else mE T N e sc v && !e.isView
    | _ => false
  | .retN, _, x => match x with
    | .Return none _ => !own
    | _ => false
  | .retO i, sc, x => match x with
    | .Return (some (.Name y _)) _ => own && slotB N sc i y
    | _ => false
  | .ite c a b, sc, x => match x with
    | .If y z w _ => mE T N c sc y && c.tst && mSs T N own a sc z && mSs T N own b sc w
    | _ => false
  | .whl c b, sc, x => match x with
    | .While y z [] _ => mE T N c sc y && c.tst && mSs T N own b sc z
    | _ => false
  | .loop tg it b, sc, x => match x with
    | .For t iter z [] _ => tgB N sc tg t && mIt T N it sc t iter && noSet iter && mSs T N own b sc z
    | _ => false
  | .pass, _, x => match x with
    | .Pass _ => true
    | _ => false
  | .brk, _, x => match x with
    | .Break _ => true
    | _ => false
  | .cnt, _, x => match x with
    | .Continue _ => true
    | _ => false
def mSs (T : Tab) (N : List Str) (own : Bool) : Ss → Scope → List Stmt → Bool
  | .nil, _, xs => xs.isEmpty
  | .cons s r, sc, xs => match xs with
    | y :: ys => mS T N own s sc y && mSs T N own r sc ys
    | [] => false
  | .frz _ r, sc, xs => mSs T N own r sc xs
end
/-- the same, repr allowed or not -/
def Tab.at (T : Tab) (b : Bool) : Tab := { T with rp := b }
mutual
def mG (T : Tab) (N : List Str) : G → Scope → Stmt → Bool
  | .pl s, sc, x => mS T N false s sc x
  | .yld e, sc, x => match x with
    | .Expr (.Yield (some y) _) _ => mE T N e sc y && !e.isView
    | _ => false
  | .whl c b, sc, x => match x with
    | .While y z [] _ => mE T N c sc y && c.tst && mGs T N b sc z
    | _ => false
def mGs (T : Tab) (N : List Str) : Gs → Scope → List Stmt → Bool
  | .nil, _, xs => xs.isEmpty
  | .cons g r, sc, xs => match xs with
    | y :: ys => mG T N g sc y && mGs T N r sc ys
    | [] => false
end
end Mx


/-! Mx: exceptions of the program, made: the heap. -/
namespace Mx
open PySem PySem.Spec PyProof.Rows L2 PySem.W PySem.Calls PySem.Builtin PySem.Builtin.ObjectAttr

/-- what a built-in exception class gives -/
structure XBase (B newId i : String) (bmB : List Value) : Prop where
  fb : ExcBaseFacts B newId i bmB
  kf : KxsFacts B i
  sf : StoreFacts B bmB "object.__setattr__" "object"
theorem xb_ValueError : XBase "ValueError" "ValueError.__new__" "ValueError.__init__" [.type "ValueError", .type "Exception", .type "BaseException", .type "object"] := ⟨F.excBase_ValueError, kxs_ValueError, F.store_ValueError⟩
theorem xb_ArithmeticError : XBase "ArithmeticError" "ArithmeticError.__new__" "ArithmeticError.__init__" [.type "ArithmeticError", .type "Exception", .type "BaseException", .type "object"] := ⟨F.excBase_ArithmeticError, kxs_ArithmeticError, F.store_ArithmeticError⟩
theorem xb_LookupError : XBase "LookupError" "LookupError.__new__" "LookupError.__init__" [.type "LookupError", .type "Exception", .type "BaseException", .type "object"] := ⟨F.excBase_LookupError, kxs_LookupError, F.store_LookupError⟩
theorem xb_RuntimeError : XBase "RuntimeError" "RuntimeError.__new__" "RuntimeError.__init__" [.type "RuntimeError", .type "Exception", .type "BaseException", .type "object"] := ⟨F.excBase_RuntimeError, kxs_RuntimeError, F.store_RuntimeError⟩
theorem xb_OverflowError : XBase "OverflowError" "OverflowError.__new__" "OverflowError.__init__" [.type "OverflowError", .type "ArithmeticError", .type "Exception", .type "BaseException", .type "object"] := ⟨F.excBase_OverflowError, kxs_OverflowError, F.store_OverflowError⟩
theorem xb_Exception : XBase "Exception" "Exception.__new__" "Exception.__init__" [.type "Exception", .type "BaseException", .type "object"] := ⟨F.excBase_Exception, kxs_Exception, F.store_Exception⟩

/-- what the written part says of an exception class -/
structure XCls (K : Frag) (C : Addr) (B newId i : String) (bmB : List Value) : Prop where
  base : XBase B newId i bmB
  ini : excInitIn K C bmB newId = true
  ovr : excOver K C bmB = true
  hd : hasDictIn K C = true
  sa : findIn K (.ref C) "__setattr__" = some (some (.builtin "object.__setattr__"))
  kC : keepIn K (.ref C) = true

section
variable {prog : Program} {w : World} {A : Around} {E : Value → Shared → Prop} {K : Frag} {hp : Heap} {g : Array GenState} {d : Drawn} {t : Nat} {os : OsState} {B newId i : String} {bmB : List Value} {C x : Addr}
/-- x.name = v, the first one -/
theorem x_new {t1 : Addr} {name : Str} {v : Value} {Q : Unit → Shared → Prop} (T : XCls K C B newId i bmB) (X : K.In hp) (hx : hp.get? x = some (excObj C t1 none .none)) (no : findIn K (.ref C) name = some none)
    (hq : ∀ h' tk' dx, (∀ b o, b ≠ x → hp.get? b = some o → h'.get? b = some o) → hp.objs.size ≤ dx → dx ≠ x → h'.get? x = some (excObj C t1 (some dx) .none) → h'.Ns1 dx (fun y => if y = name then some v else none) → Q () ⟨h', g, d, tk', os⟩) :
    wpAny (model prog w) A (setAttr (.ref x) name v) Q E ⟨hp, g, d, t, os⟩ := by
  refine set_plain X (ox := excObj C t1 none .none) (od := none) ⟨hx, rfl, rfl, trivial⟩ T.sa (osa_openX (od := none) T.base.sf X ⟨hx, rfl, rfl, trivial⟩ T.ovr (r := none) (by unfold takerIn; rw [no]; rfl) fun b => ?_)
  obtain ⟨cd, hc, hd'⟩ := any_some (show (clsIn K C).any (·.hasDict) = true from T.hd)
  have hcls : Looks (model prog w) hp (classData C) cd := looks_clsIn X hc
  have hxs : x ≠ hp.objs.size := Nat.ne_of_lt (Heap.lt_size hx)
  obtain ⟨nm, bs, mro, ns, qn, hdd, sn, sb, ab, col, del⟩ := cd
  dsimp only at hd'
  subst hd'
  show wpAny _ _ (storeInOwnDict (.ref x) (.ref C) (.str name _) name v b) _ _ _
  unfold storeInOwnDict ownDictForStores
  repeat (first | with_reducible refine HandSPX.store_in_new ?_ ?_ | with_reducible refine wpAny_loadPart_at hx ?_ | with_reducible refine hcls.at ?_ | wp_step)
  · exact ⟨_, #[], _, (Heap.get?_update_ne _ _ _ _ hxs.symm).trans (Heap.get?_push_at rfl rfl), rfl, fun e he => absurd he (by simp), fun _ => rfl⟩
  · intro h' tk' hn' hs
    have hx₁ : (hp.push { cls := .type "dict", data := .dict #[] }).get? x = some (excObj C t1 none .none) := Heap.get?_push_of_some _ hx
    refine hq h' tk' hp.objs.size (fun b o hb ho => ?_) (Nat.le_refl _) hxs.symm ?_ hn'
    · exact (hs.2 b (Nat.ne_of_lt (Heap.lt_size ho))).trans ((Heap.get?_update_ne _ _ _ _ hb).trans (Heap.get?_push_of_some _ ho))
    · exact (hs.2 x hxs).trans (Heap.get?_update_self _ hx₁ rfl)
/-- x.name = v, a further one -/
theorem x_old {t1 dx : Addr} {name : Str} {v : Value} {m0 : Str → Option Value} {nl : List Str} {Q : Unit → Shared → Prop} (T : XCls K C B newId i bmB) (X : K.In hp) (hx : hp.get? x = some (excObj C t1 (some dx) .none)) (hns : hp.Ns1 dx m0) (hw : Within m0 nl) (hz : nl.length ≤ 1000) (no : findIn K (.ref C) name = some none)
    (hq : ∀ h' tk', (∀ b o, b ≠ dx → hp.get? b = some o → h'.get? b = some o) → h'.Ns1 dx (fun y => if y = name then some v else m0 y) → Q () ⟨h', g, d, tk', os⟩) :
    wpAny (model prog w) A (setAttr (.ref x) name v) Q E ⟨hp, g, d, t, os⟩ := by
  obtain ⟨oD, esD, epD, hoD, hdD, _⟩ := hns.count hw
  refine set_plain X (ox := excObj C t1 (some dx) .none) (od := some oD) ⟨hx, rfl, rfl, hoD⟩ T.sa (osa_openX (od := some oD) T.base.sf X ⟨hx, rfl, rfl, hoD⟩ T.ovr (r := none) (by unfold takerIn; rw [no]; rfl) fun b => ?_)
  obtain ⟨cd, hc, hd'⟩ := any_some (show (clsIn K C).any (·.hasDict) = true from T.hd)
  have hcls : Looks (model prog w) hp (classData C) cd := looks_clsIn X hc
  obtain ⟨nm, bs, mro, ns, qn, hdd, sn, sb, ab, col, del⟩ := cd
  dsimp only at hd'
  subst hd'
  show wpAny _ _ (storeInOwnDict (.ref x) (.ref C) (.str name _) name v b) _ _ _
  unfold storeInOwnDict ownDictForStores
  repeat (first | with_reducible refine OEX.store_in_old hns hw hz ?_ | with_reducible refine wpAny_loadPart_at hx ?_ | with_reducible refine hcls.at ?_ | wp_step)
  intro h' tk' hn' hs
  exact hq h' tk' (fun b o hb ho => (hs.2 b hb).trans ho) hn'
end

/-! ### C(e, .., k = v, ..): keywords go past the builtin new, to the own __init__ -/
section
variable {prog : Program} {w : World} {A : Around} {E : Value → Shared → Prop} {R : Result → Shared → Prop} {hp : Heap} {g : Array GenState} {d : Drawn} {t : Nat} {os : OsState} {co : Obj} {kw : List (Str × Value)} {us : List Value}
variable {nm q : Str} {C N : Addr} {bs bm bmB : List Value} {hdct : Bool} {sn : List Str} {sub : List Value} {ab : Bool} {col : Option Bool} {dd : Option Addr} {k0 k1 k2 k3 k5 : Option Value} {B nw i : String}
theorem kx_check (F : ExcBaseFacts B nw i bmB) (hT : ∀ X : String, bm.contains (.type X) = bmB.contains (.type X)) (hC : hp.get? C = some (excClassObj nm q C N bs bm hdct sn sub ab col dd k0 k1 k2 k3 k5 nw)) {Q : Unit → Shared → Prop} (z : Q () ⟨hp, g, d, t, os⟩) :
    wpAny (model prog w) A (checkBuiltinCall nw ⟨.ref C :: us, kw⟩) Q E ⟨hp, g, d, t, os⟩ := by
  have c1 : (Value.ref C :: bm).contains (.type B) = true := by rw [List.contains_cons, hT, F.hasB, Bool.or_true]
  have c2 := F.noStar; simp only [checkBuiltinCall, F.newKind, F.newSplit, F.newRow]
  repeat (first | (refine wpAny_loadPart_at hC ?_) | (refine wpAny_isSubtype_exc hC ?_; rw [c1]) | (refine wpAny_staticBase_exc hC ?_) | (refine wpAny_madeBy_exc hC ?_) | (simp only [bne_self_eq_false, Bool.false_eq_true, if_false]) | wp_step)
  exact z
theorem kx_new (F : ExcBaseFacts B nw i bmB) (hT : ∀ X : String, bm.contains (.type X) = bmB.contains (.type X)) (hC : hp.get? C = some (excClassObj nm q C N bs bm hdct sn sub ab col dd k0 k1 k2 k3 k5 nw)) (hl : us.length ≤ sizeLine)
    (z : R (.ok (.ret (.ref (hp.objs.size + 1)))) ⟨(hp.push (excTup us)).push (excObj C hp.objs.size none .none), g, d, t, os⟩) : codeAny (model prog w) A (.builtin nw ⟨.ref C :: us, kw⟩) R ⟨hp, g, d, t, os⟩ := by
  have c0 := F.ends; have c1 : (Value.ref C :: bm).contains (.type B) = true := by rw [List.contains_cons, hT, F.hasB, Bool.or_true]
  have c2 : (Value.ref C :: bm).contains (.type "AttributeError") = false := (List.contains_cons ..).trans (by rw [hT, F.noAttr]; rfl)
  have c3 : (Value.ref C :: bm).contains (.type "NameError") = false := (List.contains_cons ..).trans (by rw [hT, F.noName]; rfl)
  refine codeAny_builtinAt F.entry (by
    unfold Builtin.«BaseException.__new__»
    refine PySem.wpAt_bind (show _root_.PySem.wpAt _ _ _ (stack >>= _) _ _ _ from PySem.wpAt_bind (PySem.wpAt_stack fun p below => PySem.wpAt_of_wpAny ?_))
    wp_walk; refine PySem.wpAt_of_wpAny ?_; rw [F.owner]
    repeat (first | (with_reducible refine wpAny_madeHere_exc F.canon hC ?_) | (with_reducible refine wpAny_loadPart_at hC ?_) | (with_reducible refine wpAny_isSubtype_exc hC ?_; first | rw [c1] | rw [c2] | rw [c3]) | wp_step)
    (show R _ _); rw [Heap.size_push]; exact z)
theorem kx_type (F : ExcBaseFacts B nw i bmB) (hT : ∀ X : String, bm.contains (.type X) = bmB.contains (.type X)) {fI : Addr} {Q : Fin → Shared → Prop} (hC : hp.get? C = some (excClassObj nm q C N bs bm hdct sn sub ab col dd k0 k1 k2 k3 k5 nw))
    (hi : W.Looks (model prog w) hp (typeLookup (.ref C) "__init__") (some (.ref fI))) (hb : ∀ self, W.Looks (model prog w) hp (bindSpecial (.ref fI) self) (.ref fI, [self])) (hl : us.length ≤ sizeLine)
    (z : codeAny (model prog w) A (.call (.ref fI) ⟨.ref (hp.objs.size + 1) :: us, kw⟩) (fun r s' => match r with | .ok (.ret v) => v = .none ∧ Q (.done (.ret (.ref (hp.objs.size + 1)))) s' | .ok _ => False | .error e => E e s') ⟨(hp.push (excTup us)).push (excObj C hp.objs.size none .none), g, d, t, os⟩) :
    wpAny (model prog w) A (Builtin.«type.__call__» ⟨.ref C :: us, kw⟩) Q E ⟨hp, g, d, t, os⟩ := by
  repeat (first | (with_reducible refine wpAny_loadPart_at hC ?_) | (with_reducible refine wpAny_madeBy_exc hC ?_) | wp_step)
  refine codeAny_call_builtin_code (Code.quiet_builtin _ F.quiet) (kx_check F hT hC (kx_new F hT hC hl (show wpAny _ _ _ _ _ _ from ?_)))
  have up : ∀ b o, hp.get? b = some o → ((hp.push (excTup us)).push (excObj C hp.objs.size none .none)).get? b = some o := fun b o e => Heap.get?_push_of_some _ (Heap.get?_push_of_some _ e)
  have nw : ((hp.push (excTup us)).push (excObj C hp.objs.size none .none)).get? (hp.objs.size + 1) = some (excObj C hp.objs.size none .none) := by heap_get
  have hC1 := up _ _ hC; have self : (Value.ref C :: bm).contains (.ref C) = true := by simp
  unfold isInstance; repeat (first | (with_reducible refine wpAny_loadPart_at nw ?_) | (with_reducible refine wpAny_isSubtype_exc hC1 ?_; rw [self]) | wp_step)
  (show wpAny _ _ (typeLookup (.ref C) _) _ _ _); refine (hi.keeps up).at (wpAny_holding (wpAny_bind (((hb (.ref (hp.objs.size + 1))).keeps up).at (wpAny_bind (wpAny_call (codeAny_mono z fun r s' y => ?_))))))
  rcases r with e | (v | _ | _ | _) <;> first | exact y | exact y.elim | skip
  obtain ⟨rfl, y⟩ := y; first | exact wpAny_pure (wpAny_pure y) | (wp_walk; exact y)
theorem kx_checkT (hC : hp.get? C = some (excClassObj nm q C N bs bm hdct sn sub ab col dd k0 k1 k2 k3 k5 nw)) {Q : Unit → Shared → Prop} (z : Q () ⟨hp, g, d, t, os⟩) :
    wpAny (model prog w) A (checkBuiltinCall "type.__call__" ⟨.ref C :: us, kw⟩) Q E ⟨hp, g, d, t, os⟩ := by
  have c1 := tc_sub; have c2 : (⟨hp, g, d, t, os⟩ : Shared).TypeIs (.ref C) "type" := ⟨_, hC, rfl⟩
  simp only [checkBuiltinCall, tc_kind, tc_split]
  repeat (any_goals (first | assumption | (with_reducible refine wpAny_loadPart_at hC ?_) | (with_reducible refine wpAny_onRaise ?_) | (with_reducible refine wpAny_map ?_) | wp_step))
theorem kx_call (F : ExcBaseFacts B nw i bmB) (hT : ∀ X : String, bm.contains (.type X) = bmB.contains (.type X)) {fI : Addr} (hC : hp.get? C = some (excClassObj nm q C N bs bm hdct sn sub ab col dd k0 k1 k2 k3 k5 nw))
    (hi : W.Looks (model prog w) hp (typeLookup (.ref C) "__init__") (some (.ref fI))) (hb : ∀ self, W.Looks (model prog w) hp (bindSpecial (.ref fI) self) (.ref fI, [self])) (hl : us.length ≤ sizeLine)
    (z : codeAny (model prog w) (A.under (.builtin "type.__call__" ⟨.ref C :: us, kw⟩)) (.call (.ref fI) ⟨.ref (hp.objs.size + 1) :: us, kw⟩) (W.InitBack (hp.objs.size + 1) R) ⟨(hp.push (excTup us)).push (excObj C hp.objs.size none .none), g, d, t, os⟩) :
    codeAny (model prog w) A (.call (.ref C) ⟨us, kw⟩) R ⟨hp, g, d, t, os⟩ := by
  have c1 := tc_lookup; have c2 := tc_bind (.ref C); have c3 : (⟨hp, g, d, t, os⟩ : Shared).TypeIs (.ref C) "type" := ⟨_, hC, rfl⟩
  refine codeAny_of_tree (show wpAny _ _ (callAny (.ref C) _) _ _ _ from ?_)
  repeat (any_goals (first | assumption | (with_reducible refine wpAny_loadPart_at hC ?_) | wp_step))
  refine ⟨rfl, codeAny_call_builtin_at (Code.quiet_builtin _ (by decide +kernel)) entry_typeCall (kx_checkT hC (kx_type F hT hC hi hb hl (codeAny_mono z fun r s' y => ?_)))⟩
  rcases r with e | (v | _ | _ | _) <;> exact y
end
end Mx


/-! Mx: exceptions of the program: their own __init__. -/
namespace Mx
open PySem PySem.Spec PyProof.Rows L2 PySem.W PySem.Calls

def storesB : List Str → List Stmt → Bool
  | [], [] => true
  | f :: fs, .Assign [.Attribute (.Name s _) f' _] (.Name y _) _ :: r => decide (s = "self") && (decide (f' = f) && (decide (y = f) && storesB fs r))
  | _, _ => false
def initB (fs : List Str) : List Stmt → Bool
  | .Expr (.Call (.Attribute (.Call (.Name s _) [] [] _) a p) [.Constant (.str _) _ _] [] q) _ :: r => decide (s = "super") && (decide (a = "__init__") && ((p.endLine == q.line) && storesB fs r))
  | _ => false
theorem storesB_nil {r : List Stmt} (h : storesB [] r = true) : r = [] := by
  cases r with
  | nil => rfl
  | cons a r => simp [storesB] at h
theorem storesB_cons {f : Str} {fs : List Str} {b : List Stmt} (h : storesB (f :: fs) b = true) : ∃ p1 p2 p3 p4 r, b = .Assign [.Attribute (.Name "self" p1) f p2] (.Name f p3) p4 :: r ∧ storesB fs r = true := by
  unfold storesB at h
  split at h
  · rename_i h1; cases h1
  · rename_i h1
    cases h1
    simp only [Bool.and_eq_true, decide_eq_true_eq] at h
    obtain ⟨rfl, rfl, rfl, h⟩ := h
    exact ⟨_, _, _, _, _, rfl, h⟩
  · cases h
theorem initB_ok {fs : List Str} {b : List Stmt} (h : initB fs b = true) : ∃ p0 p1 p2 p3 p4 p5 s k r, b = .Expr (.Call (.Attribute (.Call (.Name "super" p0) [] [] p1) "__init__" p2) [.Constant (.str s) k p3] [] p4) p5 :: r ∧ (p2.endLine == p4.line) = true ∧ storesB fs r = true := by
  unfold initB at h
  split at h
  · simp only [Bool.and_eq_true, decide_eq_true_eq] at h
    obtain ⟨rfl, rfl, hl, h⟩ := h
    exact ⟨_, _, _, _, _, _, _, _, _, rfl, hl, h⟩
  · cases h

/-- an exception that is being made: hp0 the heap ahead of it, L the dict of the names of its __init__ -/
structure XMkS (hp0 : Heap) (C x L : Addr) (m : Str → Option Value) (dd : Option Addr) (fs : List (Str × Value)) (h : Heap) : Prop where
  stay : ∀ b o, hp0.get? b = some o → h.get? b = some o
  ns : h.Ns L m
  xL : L ≠ x
  x0 : hp0.objs.size ≤ x
  at_ : ∃ t1, h.get? x = some (excObj C t1 dd .none)
  dct : match dd with | none => fs = [] | some dx => dx ≠ x ∧ dx ≠ L ∧ hp0.objs.size ≤ dx ∧ ∃ mA, h.Ns1 dx mA ∧ ∀ f, mA f = fs.lookup f
theorem lookupV_put (f g : Str) (y : Value) (fs : List (Str × Value)) : ((f, y) :: fs).lookup g = if g = f then some y else fs.lookup g := by
  by_cases h : g = f
  · subst h; simp [List.lookup]
  · have e : (g == f) = false := by simpa using h
    rw [if_neg h]; simp [List.lookup, e]
theorem lookupV_mem {y : Str} : ∀ {fs : List (Str × Value)}, fs.lookup y ≠ none → y ∈ fs.map (·.1)
  | [], h => absurd rfl h
  | (f, z) :: l, h => by
    rw [lookupV_put] at h
    by_cases e : y = f
    · rw [e]; exact List.mem_cons_self ..
    · rw [if_neg e] at h
      exact List.mem_cons_of_mem _ (lookupV_mem h)
theorem withinV {fs : List (Str × Value)} {mA : Str → Option Value} (r : ∀ f, mA f = fs.lookup f) : Within mA (fs.map (·.1)) := fun y hy => lookupV_mem (by rw [← r y]; exact hy)
theorem ns_keep {h h' : Heap} {L : Addr} {m : Str → Option Value} (n : h.Ns L m) (k : ∀ o, h.get? L = some o → h'.get? L = some o) : h'.Ns L m := by
  obtain ⟨o, es, ep, ho, r⟩ := n
  exact ⟨o, es, ep, k o ho, r⟩
theorem size_ne {h : Heap} {b x : Addr} {o : Obj} (e : h.get? b = some o) (n : h.objs.size ≤ x) : b ≠ x := Nat.ne_of_lt (Nat.lt_of_lt_of_le (Heap.lt_size e) n)
theorem ns_lt {h : Heap} {L : Addr} {m : Str → Option Value} (n : h.Ns L m) : L < h.objs.size := by
  obtain ⟨o, es, ep, ho, r⟩ := n
  exact Heap.lt_size ho
section
variable {prog : Program} {w : World} {A : Around} {E : Value → Shared → Prop} {K : Frag} {hp0 : Heap} {g : Array GenState} {d : Drawn} {os : OsState} {B newId i : String} {bmB : List Value} {C x L : Addr} {m : Str → Option Value} {env : Env} {c : Code}
theorem stores_run (T : XCls K C B newId i bmB) (X : K.In hp0) (hk : env.scope.kind = .function) (hL : env.locals = L) (ms : m "self" = some (.ref x)) (ks : env.kindOf "self" = some .local) {Q : Flow → Shared → Prop} :
    ∀ {fs : List Str} {body : List Stmt} {vs : List (Str × Value)} {dd : Option Addr} {h : Heap} {t : Nat}, storesB fs body = true → (∀ f ∈ fs, ∃ v, m f = some v ∧ env.kindOf f = some .local ∧ (f == ("__debug__" : Str)) = false ∧ findIn K (.ref C) f = some none) → fs.length + vs.length ≤ 1000 → XMkS hp0 C x L m dd vs h →
      (∀ dd' h' t', XMkS hp0 C x L m dd' (fs.foldl (fun l f => (f, (m f).getD .none) :: l) vs) h' → Q .next ⟨h', g, d, t', os⟩) → _root_.PySem.wpAt (model prog w) A c (execs body env) Q E ⟨h, g, d, t, os⟩
  | [], body, vs, dd, h, t, hb, _, _, S, z => by
    cases storesB_nil hb
    exact PySem.wpAt_of_wpAny (wpAny_pure (z dd h t S))
  | f :: fs, body, vs, dd, h, t, hb, hf, hz, S, z => by
    obtain ⟨p1, p2, p3, p4, r, rfl, hb2⟩ := storesB_cons hb
    obtain ⟨v, mv, kf, kd, no⟩ := hf f (List.mem_cons_self ..)
    have hf' := fun y hy => hf y (List.mem_cons_of_mem _ hy)
    have mvd : (m f).getD .none = v := by rw [mv]; rfl
    have hNs : ∀ {h : Heap}, h.Ns L m → h.Ns env.locals m := fun n => by rw [hL]; exact n
    have XK : K.In h := X.keeps S.stay
    refine ks_wpAt_execs_cons (ks_wpAt_Assign_Attr (PySem.wpAt_of_wpAny (wpAny_Name (wpAny_loadName_local hk kf (hNs S.ns) mv (wpAny_Name (wpAny_loadName_local hk ks (hNs S.ns) ms ?_) (by decide))) kd)))
    obtain ⟨t1, hx⟩ := S.at_
    cases dd with
    | none =>
      have e0 : vs = [] := S.dct
      subst e0
      refine x_new T XK hx no fun h' tk' dx k1 sz ne1 hx' hn => ?_
      have Lne : dx ≠ L := fun q => absurd (ns_lt S.ns) (by rw [← q]; exact Nat.not_lt.mpr sz)
      have sz0 : hp0.objs.size ≤ dx := Nat.le_trans S.x0 (Nat.le_trans (Nat.le_of_lt (Heap.lt_size hx)) sz)
      refine stores_run T X hk hL ms ks (vs := [(f, v)]) (dd := some dx) hb2 hf' (by simp only [List.length_cons, List.length_nil] at hz ⊢; omega) ⟨fun b o e => k1 b o (size_ne e S.x0) (S.stay b o e), ns_keep S.ns fun o e => k1 L o S.xL e, S.xL, S.x0, ⟨t1, hx'⟩, ne1, Lne, sz0, _, hn, fun y => (lookupV_put f y v []).symm⟩ fun dd' h2 t2 S2 => z dd' h2 t2 (by
        simp only [List.foldl_cons, mvd]; exact S2)
    | some dx =>
      obtain ⟨ne1, Lne, sz0, mA, hn, hA⟩ := S.dct
      refine x_old T XK hx hn (withinV hA) (by rw [List.length_map]; simp only [List.length_cons] at hz; omega) no fun h' tk' k1 hn' => ?_
      refine stores_run T X hk hL ms ks (vs := (f, v) :: vs) (dd := some dx) hb2 hf' (by simp only [List.length_cons] at hz ⊢; omega) ⟨fun b o e => k1 b o (size_ne e sz0) (S.stay b o e), ns_keep S.ns fun o e => k1 L o (Ne.symm Lne) e, S.xL, S.x0, ⟨t1, k1 x _ (Ne.symm ne1) hx⟩, ne1, Lne, sz0, _, hn', fun y => by
        show (if y = f then some v else mA y) = _; rw [lookupV_put, hA y]⟩ fun dd' h2 t2 S2 => z dd' h2 t2 (by simp only [List.foldl_cons, mvd]; exact S2)
end
end Mx


/-! Mx: exceptions of the program: super().__init__(text), the whole of __init__, C(..). -/
namespace Mx
open PySem PySem.Spec PyProof.Rows L2 PySem.W PySem.Calls
def isG : Option NameKind → Bool
  | some .globalImplicit => true
  | _ => false
def isF : Option NameKind → Bool
  | some .free => true
  | _ => false
def isL : Option NameKind → Bool
  | some .local => true
  | _ => false
theorem isK0 {k : Option NameKind} (h : isG k = true) : k = some .globalImplicit := by unfold isG at h; split at h <;> first | rfl | cases h
theorem isK1 {k : Option NameKind} (h : isF k = true) : k = some .free := by unfold isF at h; split at h <;> first | rfl | cases h
theorem isK2 {k : Option NameKind} (h : isL k = true) : k = some .local := by unfold isL at h; split at h <;> first | rfl | cases h
def scB (fs : List Str) (sc : Scope) : Bool :=
  (match sc.kind with | .function => true | _ => false) && ((!sc.isCoroutine && !sc.isGenerator) && ((isG (sc.names.lookup ("super" : Str)) && (isF (sc.names.lookup ("__class__" : Str)) && isL (sc.names.lookup ("self" : Str)))) &&
    ((fs.all fun f => isL (sc.names.lookup f) && !(f == ("__debug__" : Str))) && (decide ((("self" : Str) :: fs).Nodup) && sc.names.all fun y => match y.2 with | .cell => false | _ => true))))
/-- the own __init__ of an exception class: the function, its parts -/
structure XInit (P : Program) (K : Frag) (C fI : Addr) (B i : String) (fd : FuncData) (ps : List Str) : Prop where
  find : findIn K (.ref C) "__init__" = some (some (.ref fI))
  sup : ks_superIn K C C "__init__" = some (some (.builtin i))
  subB : subIn K (.ref C) (.type B) = some true
  mroC : mroIn K C (.ref C) = some true
  no : ∀ f ∈ ps, findIn K (.ref C) f = some none
  few : ps.length ≤ 100
  top : (P.main.scope.names.lookup ("super" : Str)).isSome = false
  opq : nsIn K cStatics "thirdparty.any" = some none
  ex : ∃ (name qual : Str) (params : Arguments) (body : List Stmt) (scope : Scope) (dV kV doc pm : Value) (an : Option Addr) (cda cc : Addr) (ct : Value) (od : Option Addr) (osl : Array (Option Value)) (ar : Arg) (ccl cl : Value) (cdd cld : Option Addr) (ccs csl : Array (Option Value)) (vs : Array Value) (file : Str) (tf : Tok),
    fd = ksFn name qual params body scope dV kV doc pm an (.ref cda) ct cc ∧ K.lookup fI = some ⟨.type "function", od, .func fd, osl⟩ ∧ codeIn K (.ref cda) qual = true ∧ K.lookup cda = some ⟨ccl, cdd, .fields vs, ccs⟩ ∧ vs[2]? = some (.str file tf) ∧ ((P.main.file : Str) == file) = true ∧
    K.lookup cc = some ⟨cl, cld, .cell (some (.ref C)), csl⟩ ∧ (params.posonlyargs ++ params.args).head? = some ar ∧ ar.arg = "self" ∧ initB ps body = true ∧ scB ps scope = true
theorem lookup_of {y : Str} {v : Value} : ∀ {l : List (Str × Value)}, (l.map (·.1)).Nodup → (y, v) ∈ l → l.lookup y = some v
  | [], _, h => nomatch h
  | (f, z) :: l, n, h => by
    rw [lookupV_put]
    rw [List.map_cons, List.nodup_cons] at n
    rcases List.mem_cons.mp h with h | h
    · cases h; rw [if_pos rfl]
    · have : y ≠ f := fun e => n.1 (by rw [← e]; exact List.mem_map_of_mem (f := (·.1)) h)
      rw [if_neg this]; exact lookup_of n.2 h
theorem xzip_fst : ∀ {ps : List Str} {zs : List Value}, zs.length = ps.length → (ps.zip zs).map (·.1) = ps
  | [], [], _ => rfl
  | p :: ps, z :: zs, h => by rw [List.zip_cons_cons, List.map_cons, xzip_fst (by simpa using h)]
theorem zip_has {y : Str} : ∀ {ps : List Str} {zs : List Value}, zs.length = ps.length → y ∈ ps → ∃ v, (y, v) ∈ ps.zip zs
  | [], [], _, h => nomatch h
  | p :: ps, z :: zs, h, hy => by
    rcases List.mem_cons.mp hy with e | e
    · exact ⟨z, by rw [e]; exact List.mem_cons_self ..⟩
    · obtain ⟨v, q⟩ := zip_has (ps := ps) (zs := zs) (by simpa using h) e
      exact ⟨v, List.mem_cons_of_mem _ q⟩
theorem lookup_none {y : Str} : ∀ {l : List (Str × Value)}, y ∉ l.map (·.1) → l.lookup y = none := fun {l} h => by
  cases e : l.lookup y with
  | none => rfl
  | some v => exact absurd (lookupV_mem (y := y) (fs := l) (by rw [e]; exact fun z => nomatch z)) h
theorem fold_lookup (m : Str → Option Value) (y : Str) : ∀ (ps : List Str) (vs : List (Str × Value)), (ps.foldl (fun l f => (f, (m f).getD .none) :: l) vs).lookup y = if y ∈ ps then some ((m y).getD .none) else vs.lookup y
  | [], vs => by simp
  | p :: ps, vs => by
    rw [List.foldl_cons, fold_lookup m y ps, lookupV_put]
    by_cases h1 : y ∈ ps
    · rw [if_pos h1, if_pos (List.mem_cons_of_mem _ h1)]
    · rw [if_neg h1]
      by_cases h2 : y = p
      · rw [if_pos h2, if_pos (by rw [h2]; exact List.mem_cons_self ..), h2]
      · rw [if_neg h2, if_neg fun z => (List.mem_cons.mp z).elim h2 h1]
theorem fold_nil {m : Str → Option Value} : ∀ {ps : List Str} {vs : List (Str × Value)}, ps.foldl (fun l f => (f, (m f).getD .none) :: l) vs = [] → ps = []
  | [], _, _ => rfl
  | p :: ps, vs, h => by
    rw [List.foldl_cons] at h
    have e := fold_nil h
    subst e
    simp at h
/-- the exception at x is made: hp0 the heap ahead of it -/
def Made (hp0 : Heap) (C x : Addr) (ps : List Str) (zs : List Value) (dd : Option Addr) (h : Heap) : Prop :=
  (∀ b o, hp0.get? b = some o → h.get? b = some o) ∧ (∃ t1, h.get? x = some (excObj C t1 dd .none)) ∧ match dd with | none => ps = [] | some dx => dx ≠ x ∧ hp0.objs.size ≤ dx ∧ ∃ mA, h.Ns1 dx mA ∧ ∀ f, mA f = (ps.zip zs).lookup f
theorem inter_no {env : Env} (h : env.scope.kind = .function) : interactive env = false := by
  unfold interactive
  rw [h]
  rfl
/-- a method call with one argument, written on one line -/
theorem eval_m1 {o e : Expr} {name : Str} {apos pos : Pos} {env : Env} (hs : starEach [e] env = [(false, eval e env)]) (hl : (apos.endLine == pos.line) = true) : eval (.Call (.Attribute o name apos) [e] [] pos) env = (do
      let ov ← attributeBase o name env (eval o env)
      standAt apos.atName
      let (f, first) ← holding [ov] (getMethod ov name (do return (← importBound o env).getD true))
      callWith pos f first (backTo pos (starEach [e] env)) []) := by
  have n : methodCallForm 1 (backTo pos (starEach [e] env)) [] = true := by rw [hs]; rfl
  show (attributeBase o name env (eval o env) >>= fun ov => standAt apos.atName >>= fun _ => methodCall o name apos pos env ov 1 (backTo pos (starEach [e] env)) []) = _
  unfold methodCall calleeOf methodCallPos
  simp only [n, hl, Bool.not_true, Bool.false_or, if_true, pure_bind]
section
variable {prog : Program} {w : World} {A : Around} {R : Result → Shared → Prop} {K : Frag} {hp0 hp : Heap} {g : Array GenState} {d : Drawn} {t : Nat} {os : OsState} {B newId i : String} {bmB : List Value} {C x fI t1 : Addr} {mg mb : Str → Option Value} {fd : FuncData} {ps : List Str}
/-- the bound __init__ of the built-in class, called -/
theorem bound_run {u : Addr} {v : Value} {E : Value → Shared → Prop} {Q : Value → Shared → Prop} (T : XCls K C B newId i bmB) (X : K.In hp) (hu : hp.get? u = some (kxs_mw i x)) (hx : hp.get? x = some (excObj C t1 none .none))
    (z : ∀ h' t', (∀ b o, b ≠ x → hp.get? b = some o → h'.get? b = some o) → h'.get? x = some (excObj C t' none .none) → Q .none ⟨h', g, d, t, os⟩) : wpAny (model prog w) A (call (.ref u) [v]) Q E ⟨hp, g, d, t, os⟩ := by
  obtain ⟨nm, N', qn, bs, bm, hdct, sn, sub, ab, col, dd, k0, k1, k2, k3, k5, hC, hT⟩ := excInit_of X T.ini
  have FB := T.base.fb
  refine wpAny_call (codeAny_of_tree (show wpAny _ A.in1 (callAny (.ref u) ⟨[v], []⟩) _ _ _ from ?_))
  simp only [callAny]; refine wpAny_bind (wpAny_load hu ?_)
  simp only [kxs_mw, show (Value.type "method-wrapper" == Value.type "method" || Value.type "method-wrapper" == Value.type "builtin_function_or_method" || Value.type "method-wrapper" == Value.type "method-wrapper") = true by decide, if_true]; refine KFB.if_so (by decide) (wpAny_bind (check_bound_init FB.toExcCallFacts hC hx rfl (wpAny_bind (wpAny_pure (wpAny_pure ⟨plainId_quiet FB.init.plain _, codeAny_builtin FB.initEntry ?_⟩)))))
  exact exc_init_tree (cls := .ref C) (t0 := t1) (dv := none) (c2 := .none) (c3 := .none) (b4 := .bool false) hx (show 1 ≤ sizeLine by rw [sizeLine_eq]; omega) fun h' k e' _ => z h' _ k e'
/-- the whole of __init__ -/
theorem init_run {args : Args} {zs : List Value} (T : XCls K C B newId i bmB) (J : XInit prog K C fI B i fd ps) (X : K.In hp0) (gl : hp0.Ns mainGlobals mg) (hmg : mg "super" = none) (bl : hp0.Ns builtinsNs mb) (hmb : mb "super" = some (.type "super")) (lim : hp0.NoLimit)
    (stay : ∀ b o, hp0.get? b = some o → hp.get? b = some o) (x0 : hp0.objs.size ≤ x) (hx : hp.get? x = some (excObj C t1 none .none)) (room : A.depth < recursionLimit) (hl : zs.length = ps.length) (hb : BindsTo ⟨hp, g, d, t, os⟩ fd args ((("self" : Str) :: ps).zip (.ref x :: zs)))
    (z : ∀ dd h' t', Made hp0 C x ps zs dd h' → R (.ok (.ret .none)) ⟨h', g, d, t', os⟩) : codeAny (model prog w) A (.call (.ref fI) args) R ⟨hp, g, d, t, os⟩ := by
  obtain ⟨name, qual, params, body, scope, dV, kV, doc, pm, an, cda, cc, ct, od, osl, ar, ccl, cl, cdd, cld, ccs, csl, vs, file, tf, rfl, lf, lc, lk, h2, hfile, lcc, har, ear, hib, hsc⟩ := J.ex
  obtain ⟨p0, p1, p2, p3, p4, p5, tx, kd, r, rfl, hln, hst⟩ := initB_ok hib
  unfold scB at hsc
  simp only [Bool.and_eq_true, Bool.not_eq_true', List.all_eq_true, decide_eq_true_eq] at hsc
  obtain ⟨q1, ⟨q2, q3⟩, ⟨q4, q5, q6⟩, q7, q8, q9⟩ := hsc
  have kind : scope.kind = .function := by split at q1 <;> first | assumption | cases q1
  have cells : ∀ y ∈ scope.names, y.2 ≠ .cell := fun y hy e => by have := q9 y hy; rw [e] at this; cases this
  have XK : K.In hp := X.keeps stay
  have zl : (Value.ref x :: zs).length = (("self" : Str) :: ps).length := by simp [hl]
  have fst := xzip_fst zl
  have nd : (((("self" : Str) :: ps).zip (Value.ref x :: zs)).map (·.1)).Nodup := by rw [fst]; exact q8
  have ndr : (((("self" : Str) :: ps).zip (Value.ref x :: zs)).reverse.map (·.1)).Nodup := by rw [List.map_reverse]; exact (List.reverse_perm _).nodup_iff.mpr nd
  have mOf : ∀ {y : Str} {v : Value}, (y, v) ∈ (("self" : Str) :: ps).zip (Value.ref x :: zs) → ((("self" : Str) :: ps).zip (Value.ref x :: zs)).reverse.lookup y = some v := fun h => lookup_of ndr (List.mem_reverse.mpr h)
  have lcl : ∀ y ∈ (("self" : Str) :: ps).zip (Value.ref x :: zs), scope.names.lookup y.1 = some .local := fun y hy => by
    have hy' : y.1 ∈ (("self" : Str) :: ps) := by rw [← fst]; exact List.mem_map_of_mem (f := (·.1)) hy
    rcases List.mem_cons.mp hy' with e | e
    · rw [e]; exact isK2 q6
    · exact isK2 (q7 _ e).1
  refine ks_codeAny_call_defAt room (XK _ _ lf) rfl (lim.keeps stay) (codeRec_of XK lc) rfl hb cells lcl (fun h₀ ns k₀ => ?_) q2 q3 kind
  have X1 : K.In h₀ := XK.keeps k₀
  have hx1 := k₀ _ _ hx
  have Lx : hp.objs.size ≠ x := fun e => absurd (Heap.lt_size hx) (by rw [e]; exact Nat.lt_irrefl _)
  obtain ⟨cdC, hcC, _⟩ := any_some (show (clsIn K C).any (·.hasDict) = true from T.hd)
  obtain ⟨oC, gC, dC⟩ : ∃ oC, h₀.get? C = some oC ∧ oC.data = .cls cdC := by
    have hcC' := hcC
    unfold clsIn at hcC'
    split at hcC'
    · rename_i c dd cd' sl ho; cases hcC'; exact ⟨_, X1 _ _ ho, rfl⟩
    · cases hcC'
  have I1 : InstAt h₀ x (excObj C t1 none .none) C none := ⟨hx1, rfl, rfl, trivial⟩
  have hp1 : hp0.StaysIn h₀ := fun b o e => k₀ b o (stay b o e)
  refine ks_wpAt_execs_cons (ks_wpAt_Expr_any (hi := inter_no kind) (ks_wpAt_MethodCall (he := eval_m1 rfl hln) (ks_wpAt_super_base (isK0 q4) (isK1 q5) (by decide) rfl (X1 _ _ lf) rfl har rfl (X1 _ _ lk) rfl h2 hfile J.top ?_)))
  refine ks_loadName_global kind (isK0 q4) (loadGlobal_builtin (gl.keeps hp1) hmg (bl.keeps hp1) hmb ⟨rfl, wpAny_loadName_free kind (isK1 q5) rfl ⟨_, X1 _ _ lcc, rfl⟩ ?_⟩)
  rw [ear]
  refine wpAny_loadName_local kind (isK2 q6) ns (mOf (by rw [List.zip_cons_cons]; exact List.mem_cons_self ..)) (ks_wpAny_isType_cls gC dC ⟨rfl, ks_wpAny_call_super gC dC hx1 rfl (fun c e => by cases e) (looks_mroIn X1 J.mroC) fun h1 so k1 => ?_⟩)
  have X2 : K.In h1 := X1.keeps k1
  have I2 : InstAt h1 x (excObj C t1 none .none) C none := ⟨k1 _ _ hx1, rfl, rfl, trivial⟩
  have sup := J.sup
  unfold ks_superIn at sup
  rw [hcC] at sup
  refine kxs_getMethod T.base.kf so (looks_opaque X2 J.opq) (l₀ := cdC.mro) (fun A Q E s k q => wpAny_bind ((looks_clsIn X2 hcC) A _ E s k (wpAny_pure q))) rfl X2 sup (I2.type.andThen (looks_subIn X2 J.subB)) (ks_ne X2 I2 hcC) (by decide) ?_
  have gu : (h1.push (kxs_mw i x)).get? h1.objs.size = some (kxs_mw i x) := Heap.get?_push_at rfl rfl
  have k2 : ∀ b o, h1.get? b = some o → (h1.push (kxs_mw i x)).get? b = some o := fun b o e => Heap.get?_push_of_some _ e
  refine kxs_callWith (i := i) (x := x) rfl (evalArgs_plain (Calls.spliced_cons (lit_str (x := tx) (k := kd) (pos := p3) _ fun v tk _ => Calls.spliced_nil ⟨gu, ?_⟩)))
  refine bound_run T (X2.keeps k2) gu (k2 _ _ (k1 _ _ hx1)) fun h3 t3 k3 hx3 => ?_
  have up : ∀ b o, b ≠ x → h₀.get? b = some o → h3.get? b = some o := fun b o n e => k3 b o n (k2 b o (k1 b o e))
  refine stores_run (env := callEnv (ksFn name qual params _ scope dV kV doc pm an (.ref cda) ct cc) hp.objs.size fI) (m := fun y => ((("self" : Str) :: ps).zip (Value.ref x :: zs)).reverse.lookup y) (vs := []) (dd := none) (L := hp.objs.size) T X kind rfl (mOf (by rw [List.zip_cons_cons]; exact List.mem_cons_self ..)) (isK2 q6) hst (fun f hf => ?_) (by have := J.few; simp only [List.length_nil]; omega)
    ⟨fun b o e => up b o (size_ne e x0) (hp1 b o e), ns_keep ns fun o e => up _ o Lx e, Lx, x0, ⟨_, hx3⟩, rfl⟩ fun dd h4 t4 S => ?_
  · obtain ⟨v, hv⟩ := zip_has (ps := ("self" : Str) :: ps) zl (List.mem_cons_of_mem _ hf)
    exact ⟨v, mOf hv, isK2 (q7 f hf).1, (q7 f hf).2, J.no f hf⟩
  · refine z dd h4 t4 ⟨S.stay, S.at_, ?_⟩
    have D := S.dct
    cases dd with
    | none => exact fold_nil D
    | some dx =>
      obtain ⟨n1, n2, n3, mA, hn, hA⟩ := D
      refine ⟨n1, n3, mA, hn, fun f => ?_⟩
      rw [hA f, fold_lookup]
      have q8' := (List.nodup_cons.mp q8).2
      by_cases hf : f ∈ ps
      · obtain ⟨v, hv⟩ := zip_has hl hf
        rw [if_pos hf, mOf (v := v) (by rw [List.zip_cons_cons]; exact List.mem_cons_of_mem _ hv), lookup_of (by rw [xzip_fst hl]; exact q8') hv]
        rfl
      · rw [if_neg hf, lookup_none (l := ps.zip zs) (by rw [xzip_fst hl]; exact hf)]
        rfl
end
end Mx


/-! Mx, part 4b: what a def promises; its call. -/
namespace Mx
open PySem PySem.Spec PyProof.Rows L2

/-- an exception of the program: its class, its fields -/
def XRep (K : PySem.W.Frag) (cl : Nat → Option Addr) (O : List Addr) (H : Hp) (c : Value) (dd : Option Addr) (x : Xn) : Prop :=
  ∃ A, cl x.c = some A ∧ c = .ref A ∧ ((x.fs = [] ∧ dd = none) ∨ ∃ d fs, dd = some d ∧ d ∉ O ∧ H d = some (.xd fs) ∧ fs.map (·.1) = x.fs.map (·.1) ∧ RepAll K cl O H (fs.map (·.2)) (x.fs.map (·.2)))
def ArgR (K : PySem.W.Frag) (cl : Nat → Option Addr) (O : List Addr) (H : Hp) : List Bool → List V → List IV → Prop
  | [], [], [] => True
  | false :: ms, v :: vs, d :: ds => Rep K cl O H v d ∧ ArgR K cl O H ms vs ds
  | true :: ms, v :: vs, d :: ds => (∃ a, v = .ref a ∧ a ∈ O ∧ Own K cl O H a d) ∧ ArgR K cl O H ms vs ds
  | _, _, _ => False
def mutA : List Bool → List V → List (Option Addr)
  | true :: ms, .ref a :: vs => some a :: mutA ms vs
  | _ :: ms, _ :: vs => none :: mutA ms vs
  | _, _ => []
/-- the changing objects behind a call -/
def MutR (K : PySem.W.Frag) (cl : Nat → Option Addr) (O : List Addr) (H : Hp) : List Bool → List V → List IV → Prop
  | [], [], [] => True
  | false :: ms, _ :: vs, _ :: ds => MutR K cl O H ms vs ds
  | true :: ms, v :: vs, d :: ds => (∃ a, v = .ref a ∧ Own K cl O H a d) ∧ MutR K cl O H ms vs ds
  | _, _, _ => False
theorem MutR.less {K : PySem.W.Frag} {cl : Nat → Option Addr} {O O' : List Addr} {H : Hp} (k : ∀ a, a ∈ O' → a ∈ O) : ∀ {ms : List Bool} {vs : List V} {ds : List IV}, MutR K cl O H ms vs ds → MutR K cl O' H ms vs ds
  | [], [], [], _ => trivial
  | false :: ms, _ :: vs, _ :: ds, h => MutR.less (ms := ms) (vs := vs) (ds := ds) k h
  | true :: ms, v :: vs, d :: ds, h => by
    obtain ⟨⟨a, e, w⟩, h⟩ := (show (∃ a, v = .ref a ∧ Own K cl O H a d) ∧ MutR K cl O H ms vs ds from h)
    exact ⟨⟨a, e, w.less k⟩, MutR.less (ms := ms) (vs := vs) (ds := ds) k h⟩
def Fram (H H' : Hp) (M : List (Option Addr)) : Prop := ∀ a o, H a = some o → some a ∉ M → H' a = some o
/-- what is wanted behind a call -/
def fEnd (K : PySem.W.Frag) (cl : Nat → Option Addr) (O : List Addr) (H : Hp) (fn : Fn) (vs : List V) (Q : VK) (E : XK) : Option (Except Xn IV × List IV) → Prop
  | none => False
  | some (.ok d, ms) => if fn.own = true then ∀ p H', H p = none → Fram H H' (mutA fn.muts vs) → MutR K cl (p :: O) H' fn.muts vs ms → Own K cl (p :: O) H' p d → Q (.ref p) H'
    else ∀ v H', Fram H H' (mutA fn.muts vs) → MutR K cl O H' fn.muts vs ms → Rep K cl O H' v d → Q v H'
  | some (.error x, ms) => ∀ c dd H', Fram H H' (mutA fn.muts vs) → MutR K cl O H' fn.muts vs ms → XRep K cl O H' c dd x → E c dd H'
/-- a def's promise -/
def spF (cs : CS) (K : PySem.W.Frag) (cl : Nat → Option Addr) (f : Nat) (fn : Fn) : Sp := fun vs H Q E =>
  ∃ O ds, (∀ a ∈ O, H a ≠ none) ∧ vs.length = fn.ps.length ∧ ArgR K cl O H fn.muts vs ds ∧ ((mutA fn.muts vs).filterMap id).Nodup ∧ fEnd K cl O H fn vs Q E (cs f ds)
/-- the def at f keeps a promise, called where no repr is under way -/
structure FnR (P : Program) (w : World) (K : PySem.W.Frag) (mg : Str → Option Value) (base : Heap) (k : Nat) (rp : Bool) (f : Addr) (fd : FuncData) (ps : List Str) (sp : Sp) : Prop where
  len : ∀ vs H Q E, sp vs H Q E → vs.length = ps.length
  run : ∀ (A : Around) (outer : List Env) (s : Shared) (H : Hp) (args : Args) (us : List Value) (vs : List V) (Q : VK) (E : XK), (rp = true → A.guards = some []) → Room k A → Env0 P w K mg base A outer s H → BindsTo s fd args (ps.zip us) → Vals vs us → sp vs H Q E →
    codeAny (model P w) A (.call (.ref f) args) (CR (L2.CX P w) outer P w H s Q E) s
/-- keywords come to parameters so -/
def KwOk (K : PySem.W.Frag) (fd : FuncData) (ps : List Str) (p : Nat × List Str × List Nat) : Prop :=
  ∀ (s : Shared) (us ws zs : List Value), K.In s.heap → us.length = p.1 → ws.length = p.2.1.length → pick (us ++ ws) p.2.2 = some zs → BindsTo s fd ⟨us, p.2.1.zip ws⟩ (ps.zip zs)
/-- what reading the fields and isinstance ask of an exception class -/
structure XGet (K : PySem.W.Frag) (C : Addr) : Prop where
  ga : PySem.W.findIn K (.ref C) "__getattribute__" = some (some (.builtin "BaseException.__getattribute__"))
  gg : PySem.W.findIn K (.ref C) "__getattr__" = some none
  sub : PySem.W.subIn K (.ref C) (.type "BaseException") = some true
  ca : PySem.W.findIn K (.ref C) "__class__" = some (some (.builtin "object.__class__"))
  cn : PySem.W.specialIn K (.builtin "object.__class__") "__get__" = some (some (.builtin "getset_descriptor.__get__"))
  ct : PySem.W.takesIn K (.builtin "object.__class__") = some true
  cm : PySem.W.mroIn K C (.type "object") = some true
  hd : PySem.W.hasDictIn K C = true
/-- an exception class -/
def XF (P : Program) (K : PySem.W.Frag) (mg : Str → Option Value) (cl : Nat → Option Addr) (c : Nat) (xc : Xc) : Prop :=
  ∃ C B newId i bmB, cl c = some C ∧ mg xc.name = some (.ref C) ∧ XCls K C B newId i bmB ∧ XGet K C ∧ (∀ f ∈ xc.ps, PySem.W.findIn K (.ref C) f = some none) ∧ xc.ps.length ≤ 100 ∧
    if xc.own = true then ∃ fI fd, XInit P K C fI B i fd xc.ps ∧ PySem.W.isFn K (.ref fI) = true ∧ Binds K fd (("self" : Str) :: xc.ps) [] ∧ ∀ p ∈ xc.kws, KwOk K fd (("self" : Str) :: xc.ps) (p.1 + 1, p.2.1, 0 :: p.2.2.map (· + 1))
    else xc.ps = [] ∧ xc.kws = [] ∧ PySem.W.findIn K (.ref C) "__init__" = some (some (.builtin i))
/-- what a name of a class gives -/
def NmV (mg : Str → Option Value) (x : Str) (v : V) (u : Value) : Prop := (∃ D, mg x = some (.ref D) ∧ v = .ref D ∧ u = .ref D) ∨ ∃ n, mg x = none ∧ bootBuiltins x = some (.type n) ∧ x ≠ "__name__" ∧ v = .ty n ∧ u = .type n
inductive NmVs (mg : Str → Option Value) : List Str → List V → List Value → Prop
  | nil : NmVs mg [] [] []
  | cons {x : Str} {v : V} {u : Value} {xs : List Str} {vs : List V} {us : List Value} : NmV mg x v u → NmVs mg xs vs us → NmVs mg (x :: xs) (v :: vs) (u :: us)
/-- isinstance with classes: which exceptions are theirs, which are not -/
def XI (K : PySem.W.Frag) (mg : Str → Option Value) (cl : Nat → Option Addr) (q : List Str × Bool × List Nat × List Nat) : Prop :=
  ∃ vs us, NmVs mg q.1 vs us ∧ (∀ c ∈ q.2.2.1, ∀ C, cl c = some C → XGet K C ∧ PySem.W.kitAny K (.ref C) us = some true) ∧ ∀ c ∈ q.2.2.2, ∀ C, cl c = some C → XGet K C ∧ PySem.W.kitAny K (.ref C) us = some false
/-- where a def stands: a name of the module, a method of classes, the __init__ of classes -/
def FnAt (T : Tab) (K : PySem.W.Frag) (mg : Str → Option Value) (cl : Nat → Option Addr) (f : Nat) (fn : Fn) (a : Addr) : Prop :=
  (fn.glob = true → mg fn.name = some (.ref a)) ∧ (∀ p ∈ T.meths, p.2.2 = f → ∃ C, cl p.1 = some C ∧ Cls K C ∧ Meth K C p.2.1 a) ∧ ∀ p ∈ T.news, p.2.2 = f → ∃ C, cl p.1 = some C ∧ mg p.2.1 = some (.ref C) ∧ Mk K C a
/-- the last parameters may be left out: they are dv then -/
def BindD (K : PySem.W.Frag) (cl : Nat → Option Addr) (fd : FuncData) (ps : List Str) (dv : List IV) : Prop := ∃ ds dvs, Binds K fd ps ds ∧ Vals dvs ds ∧ ∀ O H, RepAll K cl O H dvs dv
/-- .. n by place, the names ks, the others left out: dv; perm: which of all is each parameter's -/
def KwD (K : PySem.W.Frag) (cl : Nat → Option Addr) (fd : FuncData) (ps : List Str) (p : Nat × List Str × List IV × List Nat) : Prop :=
  ∃ dus dvs, Vals dvs dus ∧ (∀ O H, RepAll K cl O H dvs p.2.2.1) ∧ ∀ (s : Shared) (us ws zs : List Value), K.In s.heap → us.length = p.1 → ws.length = p.2.1.length → pick (us ++ ws ++ dus) p.2.2.2 = some zs → BindsTo s fd ⟨us, p.2.1.zip ws⟩ (ps.zip zs)
/-- what is wanted behind a generator's run -/
def gEnd (K : PySem.W.Frag) (cl : Nat → Option Addr) (O : List Addr) (H : Hp) (Q : List V → Hp → Prop) (E : XK) : Option (Except Xn IV × List IV) → Prop
  | some (.ok (.lst ys), _) => ∀ vs H', Keep O H H' → (∀ a o, H a = some o → H' a = some o) → RepAll K cl O H' vs ys → Q vs H'
  | some (.error x, _) => ∀ c dd H', (∀ a o, H a = some o → H' a = some o) → XRep K cl O H' c dd x → E c dd H'
  | some (.ok _, _) => True
  | none => False
def spG (cs : CS) (K : PySem.W.Frag) (cl : Nat → Option Addr) (f : Nat) (fn : Fn) : SpG := fun vs H Q E =>
  ∃ O ds, (∀ a ∈ O, H a ≠ none) ∧ vs.length = fn.ps.length ∧ ds.length = fn.ps.length ∧ RepAll K cl O H vs ds ∧ gEnd K cl O H Q E (cs f ds)
/-- a dict of the module -/
def KD (w : World) (K : PySem.W.Frag) (a : Addr) (kvs : List (Key × V)) : Prop :=
  ∃ es n, K.lookup a = some ⟨.type "dict", none, .dict es n, #[]⟩ ∧ (a == sysModules) = false ∧ kvs.length ≤ 1000 ∧ (kvs.map (·.1)).Nodup ∧ Paired (fun (e : DictEntry) (kv : Key × V) => keyIs kv.1 e.key = true ∧ e.hash = keyH w kv.1 ∧ RelV kv.2 e.val) es.toList kvs
structure Facts (T : Tab) (cs : CS) (k : Nat) (cl : Nat → Option Addr) (P : Program) (w : World) (K : PySem.W.Frag) (mg : Str → Option Value) (base : Heap) : Prop where
  glo : ∀ p ∈ T.glo, ∃ u v, mg p.1 = some u ∧ RelV v u ∧ ∀ O H, Rep K cl O H v p.2
  blt : ∀ x ∈ T.blt, mg x = none
  xcls : ∀ c xc, T.xcls c = some xc → XF P K mg cl c xc
  isx : ∀ q ∈ T.isx, XI K mg cl q
  sup : T.xcls 0 ≠ none → mg "super" = none
  flds : ∀ p ∈ T.flds, ∃ C, cl p.1 = some C ∧ Cls K C ∧ NoAttr K C p.2
  kdct : ∀ p ∈ T.kdct, ∃ a kv, mg p.1 = some (.ref a) ∧ KD w K a kv ∧ kv.map (·.1) = p.2.map (·.1) ∧ ∀ O H, RepAll K cl O H (kv.map (·.2)) (p.2.map (·.2))
  gens : ∀ f fn g, T.fns f = some fn → fn.gbody = some g → ∃ a fd, mg fn.name = some (.ref a) ∧ PySem.W.keepIn K (.ref a) = true ∧ (∀ p ∈ fn.kwds, KwD K cl fd fn.ps p) ∧ GFn P w K mg base (5 * k) a fd fn.ps (spG cs K cl f fn)
  nst : ∀ c C, cl c = some C → PySem.W.subIn K (.ref C) (.type "StopIteration") = some false
  fns : ∀ f fn, T.fns f = some fn → fn.gbody = none → ∃ a fd, FnAt T K mg cl f fn a ∧ PySem.W.keepIn K (.ref a) = true ∧ Binds K fd fn.ps [] ∧ (∀ dv ∈ fn.dfls, BindD K cl fd fn.ps dv) ∧ (∀ p ∈ fn.kws, KwOk K fd fn.ps p) ∧ FnR P w K mg base (5 * k) fn.rp a fd fn.ps (spF cs K cl f fn)
section
variable {X : Cx} {W : WX} {k : Nat} {rp : Bool} {f : Addr} {fd : FuncData} {ps : List Str} {sp : Sp} {x : Str} {p pos : Pos}
def tCallR (sp : Sp) (W : WX) (t : TA) : TE := fun σ H Q => t σ H fun vs H1 => sp vs H1 Q (fun c d H' => W c d σ H')
theorem run_fnR {pins : List (Addr × Obj)} {σ : L2.St} {H : Hp} {s : Shared} {Q : VK} {args : Args} {us : List Value} {vs : List V} (F : FnR X.prog X.w X.K X.mg X.base k rp f fd ps sp) (hg : rp = true → X.A.guards = some []) (hr : Room k X.A) (tk : Takes X W)
    (I : Inv X pins σ H s) (hb : BindsTo s fd args (ps.zip us)) (r : Vals vs us) (h : sp vs H Q (fun c d H' => W c d σ H')) : wpAny (model X.prog X.w) X.A (call (.ref f) args.pos args.kw) (EP X pins σ Q) X.xe s := by
  have go := F.run X.A X.stack s H args us vs Q _ hg hr I.env0 hb r h
  refine wpAny_call (codeAny_mono go fun res s' hq => ?_)
  cases res with
  | error e => exact passAt tk σ pins H s e s' I hq
  | ok fl =>
    cases fl with
    | ret u => exact I.after hq
    | next => exact hq.elim
    | brk => exact hq.elim
    | cont => exact hq.elim
theorem star_one {e : Expr} (h : notStar e = true) (es : List Expr) (env : Env) : starEach (e :: es) env = (false, eval e env) :: starEach es env := by
  cases e <;> first | rfl | cases h
theorem star_none : ∀ {es : List Expr} (env : Env) (pos : Pos), (es.all notStar) = true → (backTo pos (starEach es env)).any (·.1) = false
  | [], _, _, _ => rfl
  | e :: es, env, pos, h => by
    rw [List.all_cons, Bool.and_eq_true] at h
    rw [star_one h.1 es env]
    show (false || (backTo pos (starEach es env)).any (·.1)) = false
    rw [star_none env pos h.2]
    rfl
theorem fin_fnR {pins : List (Addr × Obj)} {σ : L2.St} {H : Hp} {s : Shared} {Q : VK} {us : List Value} {vs : List V} (F : FnR X.prog X.w X.K X.mg X.base k rp f fd ps sp) (hG : rp = true → X.A.guards = some []) (hr : Room k X.A) (tk : Takes X W) (hb : Binds X.K fd ps [])
    (I : Inv X pins σ H s) (r : Vals vs us) (q : sp vs H Q (fun c d H' => W c d σ H')) : wpAny (model X.prog X.w) X.A (call (.ref f) us) (EP X pins σ Q) X.xe s := by
  have hl : (us ++ []).length = ps.length := by rw [List.append_nil, ← r.length]; exact F.len _ _ _ _ q
  have b := hb s us I.kIn hl
  rw [List.append_nil] at b
  exact run_fnR (args := ⟨us, []⟩) F hG hr tk I b r q
theorem pe_callR {e : Expr} {es : List Expr} {t : TA} (F : FnR X.prog X.w X.K X.mg X.base k rp f fd ps sp) (hG : rp = true → X.A.guards = some []) (hr : Room k X.A) (tk : Takes X W) (hg : Gl X x) (hm : X.mg x = some (.ref f)) (hk : PySem.W.keepIn X.K (.ref f) = true) (hb : Binds X.K fd ps [])
    (ha : PA X (e :: es) t) (hs : (e :: es).all notStar = true) (hdb : (x == ("__debug__" : Str)) = false) : PE X (.Call (.Name x p) (e :: es) [] pos) (tCallR sp W t) := by
  refine ⟨fun pins s σ H Q I h => ?_⟩
  refine wpAny_Call_Name_kw (ld_glob I hg hm ?_ hdb)
  rw [List.all_cons, Bool.and_eq_true] at hs
  exact PySem.W.callWith_K (h₀ := X.base) I.ok.mod.kin hk (thn (ha.run pos pins s σ H _ I h) fun us s1 ⟨vs, H1, I1, r, q⟩ => ⟨I1.kIn, fin_fnR F hG hr tk hb I1 r q⟩) (star_one hs.1 es X.env) (star_none X.env pos hs.2)
theorem pe_callR0 (F : FnR X.prog X.w X.K X.mg X.base k rp f fd ps sp) (hG : rp = true → X.A.guards = some []) (hr : Room k X.A) (tk : Takes X W) (hg : Gl X x) (hm : X.mg x = some (.ref f)) (hk : PySem.W.keepIn X.K (.ref f) = true) (hb : Binds X.K fd ps [])
    (hdb : (x == ("__debug__" : Str)) = false) : PE X (.Call (.Name x p) [] [] pos) (fun σ H Q => sp [] H Q (fun c d H' => W c d σ H')) := by
  refine ⟨fun pins s σ H Q I h => ?_⟩
  refine wpAny_Call_Name_kw (ld_glob I hg hm ?_ hdb)
  exact PySem.W.callWith_K0 I.kIn hk (fin_fnR (us := []) F hG hr tk hb I .nil h)
theorem pick_vals : ∀ {vs : List V} {us : List Value} {is : List Nat} {zs : List V}, Vals vs us → pick vs is = some zs → ∃ ws, pick us is = some ws ∧ Vals zs ws
  | _, _, [], _, _, e => by cases e; exact ⟨[], rfl, .nil⟩
  | vs, us, i :: is, zs, r, e => by
    unfold pick at e ⊢
    cases h1 : vs[i]? with
    | none => rw [h1] at e; cases e
    | some v =>
      cases h2 : pick vs is with
      | none => rw [h1, h2] at e; cases e
      | some rs =>
        rw [h1, h2] at e
        cases e
        obtain ⟨u, hu, ru⟩ := r.get h1
        obtain ⟨ws, hw, rw'⟩ := pick_vals r h2
        exact ⟨u :: ws, by rw [hu, hw], .cons ru rw'⟩
/-- f(e, .., k = v, ..): n values by place, the others by the names ks; perm: which of them is each parameter's -/
theorem pe_callRK {es : List Expr} {kws : List Keyword} {t tk' : TA} {n : Nat} {ks : List Str} {perm : List Nat} (F : FnR X.prog X.w X.K X.mg X.base k rp f fd ps sp) (hG : rp = true → X.A.guards = some []) (hr : Room k X.A) (tk : Takes X W) (hg : Gl X x) (hm : X.mg x = some (.ref f))
    (hk : PySem.W.keepIn X.K (.ref f) = true) (hb : KwOk X.K fd ps (n, ks, perm)) (hn : es.length = n) (ha : PA X es t) (hkw : PK X kws tk') (hs : es.all notStar = true) (hdb : (x == ("__debug__" : Str)) = false)
    (hall : (backToKw pos (keywordEach kws X.env)).all (·.1.isSome) = true) (hks : (backToKw pos (keywordEach kws X.env)).filterMap (·.1) = ks)
    (hno : (backToKw pos (keywordEach kws X.env)).any (·.1.isNone) = false) (hnil : es = [] → t = tNil) :
    PE X (.Call (.Name x p) es kws pos) (fun σ H Q => t σ H fun vs H1 => vs.length = n ∧ tk' σ H1 fun zs H2 => zs.length = ks.length ∧ ∃ rs, pick (vs ++ zs) perm = some rs ∧ sp rs H2 Q (fun c d H' => W c d σ H')) := by
  refine ⟨fun pins s σ H Q I h => ?_⟩
  refine wpAny_Call_Name_kw (ld_glob I hg hm ?_ hdb)
  have fin : ∀ (us ws : List Value) (s2 : Shared) (vs zs : List V) (H2 : Hp), Inv X pins σ H2 s2 → Vals vs us → Vals zs ws → vs.length = n → (zs.length = ks.length ∧ ∃ rs, pick (vs ++ zs) perm = some rs ∧ sp rs H2 Q (fun c d H' => W c d σ H')) →
      wpAny (model X.prog X.w) X.A (call (.ref f) us (ks.zip ws)) (EP X pins σ Q) X.xe s2 := fun us ws s2 vs zs H2 I2 r rz hl q => by
    obtain ⟨hz, rs, hp, q⟩ := q
    obtain ⟨qs, hq, rq⟩ := pick_vals (r.append rz) hp
    exact run_fnR (args := ⟨us, ks.zip ws⟩) F hG hr tk I2 (hb s2 us ws qs I2.kIn (by rw [← r.length]; exact hl) (by rw [← rz.length]; exact hz) hq) rq q
  cases es with
  | nil =>
    have h' := h
    rw [hnil rfl] at h'
    refine PySem.W.callWith_KW0 (h₀ := X.base) I.ok.mod.kin hk hall (thn (hkw.run pos pins s σ H _ I h'.2) fun ws s2 ⟨zs, H2, I2, rz, q2⟩ => ⟨I2.kIn, ?_⟩) hno
    rw [hks]
    exact fin [] ws s2 [] zs H2 I2 .nil rz h'.1 q2
  | cons e es =>
    rw [List.all_cons, Bool.and_eq_true] at hs
    refine PySem.W.callWith_KW (h₀ := X.base) I.ok.mod.kin hk hall (thn (ha.run pos pins s σ H _ I h) fun us s1 ⟨vs, H1, I1, r, hl, q⟩ => ?_) ?_ (star_one hs.1 es X.env)
    · refine thn (hkw.run pos pins s1 σ H1 _ I1 q) fun ws s2 ⟨zs, H2, I2, rz, q2⟩ => ⟨I2.kIn, ?_⟩
      rw [hks]
      exact fin us ws s2 vs zs H2 I2 r rz hl q2
    · have : (backTo pos (starEach (e :: es) X.env)).any (·.1) = false := star_none X.env pos (by rw [List.all_cons, hs.1, hs.2]; rfl)
      rw [this, hno]
      rfl
end
end Mx


/-! Mx: exceptions of the program: rules over the hand layer. -/
namespace Mx
open PySem PySem.Spec PyProof.Rows L2
section
variable {X : Cx} {pins : List (Addr × Obj)} {σ : L2.St} {H : Hp} {s : Shared}
/-- two new objects laid and tracked -/
theorem laid2 {h' : Heap} {a b : Addr} {oa ob : HO} {t' : Nat} (I : Inv X pins σ H s) (k : ∀ c u, s.heap.get? c = some u → h'.get? c = some u) (ha : s.heap.objs.size ≤ a) (hb : s.heap.objs.size ≤ b) (ne : b ≠ a)
    (na : ObjOk X.prog X.w (upd (upd H b ob) a oa) h' a oa) (nb : ObjOk X.prog X.w (upd (upd H b ob) a oa) h' b ob) : Inv X pins σ (upd (upd H b ob) a oa) { s with heap := h', toks := t' } := by
  have Ha : H a = none := I.hok.fresh ha
  have Hb : H b = none := I.hok.fresh hb
  have lt : ∀ {c : Addr} {o : Obj}, s.heap.get? c = some o → c ≠ a ∧ c ≠ b := fun {c o} q => ⟨Nat.ne_of_lt (Nat.lt_of_lt_of_le (Heap.lt_size q) ha), Nat.ne_of_lt (Nat.lt_of_lt_of_le (Heap.lt_size q) hb)⟩
  have old : ∀ {c : Addr} {o : HO}, H c = some o → upd (upd H b ob) a oa c = some o := fun {c o} q => by rw [upd_ne (ne_of_none q Ha), upd_ne (ne_of_none q Hb)]; exact q
  refine I.un (t' := t') ⟨fun c u q _ _ _ => k c u q, fun c u q _ _ _ => ⟨u.slots, k c u q⟩, fun c u q n _ => ?_, fun c u q _ => ⟨u, k c u q⟩, fun c xs q => old q, fun c u v q => old q, fun c ps q => ⟨#[], by rw [old q]; simp⟩⟩ fun c o q => ?_
  · rw [upd_ne (lt q).1, upd_ne (lt q).2]; exact n
  · by_cases hc : c = a
    · subst hc
      rw [upd_same] at q
      cases q
      exact na
    · rw [upd_ne hc] at q
      by_cases hd : c = b
      · subst hd
        rw [upd_same] at q
        cases q
        exact nb
      · rw [upd_ne hd] at q
        exact (I.hok c o q).stay (fun e v _ z => k e v z) (fun e he => old he) (fun e xs he => old he)
theorem zip_V : ∀ {ps : List Str} {rs : List V} {qs : List Value} {f : Str}, Vals rs qs → RelO ((ps.zip rs).lookup f) ((ps.zip qs).lookup f)
  | [], _, _, _, _ => trivial
  | _ :: _, [], _, _, r => by cases r; trivial
  | p :: ps, v :: rs, _, f, r => by
    cases r with
    | @cons _ u _ qs r1 r2 =>
      rw [List.zip_cons_cons, List.zip_cons_cons, lookup_put, lookupV_put]
      by_cases h : f = p
      · rw [if_pos h, if_pos h]; exact r1
      · rw [if_neg h, if_neg h]; exact zip_V r2
theorem zipF : ∀ {ps : List Str} {rs : List V} {ds : List IV}, rs.length = ps.length → rs.length = ds.length → (ps.zip rs).map (·.1) = (ps.zip ds).map (·.1) ∧ (ps.zip rs).map (·.2) = rs ∧ (ps.zip ds).map (·.2) = ds
  | [], [], [], _, _ => ⟨rfl, rfl, rfl⟩
  | p :: ps, r :: rs, d :: ds, h1, h2 => by
    obtain ⟨z1, z2, z3⟩ := zipF (ps := ps) (rs := rs) (ds := ds) (by simpa using h1) (by simpa using h2)
    simp only [List.zip_cons_cons, List.map_cons, z1, z2, z3, and_self]
  | [], _ :: _, _, h, _ => by simp at h
  | _ :: _, [], _, h, _ => by simp at h
  | _, [], _ :: _, _, h => by simp at h
  | _, _ :: _, [], _, h => by simp at h
/-- what a made exception is for -/
def spX (K : PySem.W.Frag) (cl : Nat → Option Addr) (c : Nat) (ps : List Str) : List V → Hp → VK → Prop := fun rs H Q =>
  ∃ O ds, (∀ a ∈ O, H a ≠ none) ∧ RepAll K cl O H rs ds ∧ rs.length = ps.length ∧ ∀ v H', Same H H' → Rep K cl O H' v (.exc c (ps.zip ds)) → Q v H'
theorem rep_exc {K : PySem.W.Frag} {cl : Nat → Option Addr} {c : Nat} {C a : Addr} {ps : List Str} {rs : List V} {ds : List IV} {O : List Addr} {dx : Addr} (live : ∀ a ∈ O, H a ≠ none) (hcl : cl c = some C) (ha : H a = none) (hd : H dx = none) (ne : dx ≠ a) (hl : rs.length = ps.length) (r : RepAll K cl O H rs ds) :
    Rep K cl O (upd (upd H dx (exd dx (ps.zip rs))) a (exo a C (some dx))) (.ref a) (.exc c (ps.zip ds)) := by
  obtain ⟨z1, z2, z3⟩ := zipF hl r.length
  have na : a ∉ O := fun z => live a z ha
  have nd : dx ∉ O := fun z => live dx z hd
  have sm : Same H (upd (upd H dx (exd dx (ps.zip rs))) a (exo a C (some dx))) := fun b x e => by rw [upd_ne (ne_of_none e ha), upd_ne (ne_of_none e hd)]; exact e
  exact .exc upd_same hcl na ⟨by rw [upd_ne ne, upd_same], nd⟩ z1 (by rw [z2, z3]; exact r.keep (.same sm))
/-- C(..) -/
theorem mk_run {T : Xc} {cl : Nat → Option Addr} {c : Nat} {C : Addr} {us : List Value} {kw : List (Str × Value)} {rs : List V} {qs : List Value} {Q : VK} {B newId i : String} {bmB : List Value} {fI : Addr} {fd : FuncData} (hcl : cl c = some C) (TC : XCls X.K C B newId i bmB) (J : XInit X.prog X.K C fI B i fd T.ps) (hfn : PySem.W.isFn X.K (.ref fI) = true)
    (sup : X.mg "super" = none) (I : Inv X pins σ H s) (hr : X.A.depth + 1 < recursionLimit) (rq : Vals rs qs) (hus : us.length ≤ sizeLine) (hb : ∀ (s : Shared) (x : Addr), X.K.In s.heap → BindsTo s fd ⟨.ref x :: us, kw⟩ (((("self" : Str)) :: T.ps).zip (.ref x :: qs))) (q : spX X.K cl c T.ps rs H Q) :
    wpAny (model X.prog X.w) X.A (call (.ref C) us kw) (EP X pins σ Q) X.xe s := by
  obtain ⟨O, ds, live, ra, hl, k⟩ := q
  obtain ⟨nm, N', qn, bs, bm, hdct, sn, sub, ab, col, dd, k0, k1, k2, k3, k5, hC, hT⟩ := PySem.W.excInit_of I.kIn TC.ini
  obtain ⟨oI, hoI, hcI⟩ : ∃ oI, s.heap.get? fI = some oI ∧ oI.cls = .type "function" := by
    obtain ⟨o, ho, hc⟩ := Option.map_eq_some_iff.mp (show (X.K.lookup fI).map (·.cls) = some (.type "function") from beq_iff_eq.mp hfn)
    exact ⟨o, I.kIn _ _ ho, hc⟩
  obtain ⟨mb, hmb, hbt⟩ := I.ok.mod.blt
  have gl := I.ok.mod.glob.keeps I.bk
  have bl := hmb.keeps I.bk
  have lim := I.ok.mod.nolimit.keeps I.bk
  have KI := I.kIn
  have hqs : qs.length = T.ps.length := by rw [← rq.length, hl]
  obtain ⟨hp, g, d, t, os⟩ := s
  have up : ∀ b o, hp.get? b = some o → ((hp.push (PySem.W.excTup us)).push (PySem.W.excObj C hp.objs.size none .none)).get? b = some o := fun b o e => Heap.get?_push_of_some _ (Heap.get?_push_of_some _ e)
  have nw : ((hp.push (PySem.W.excTup us)).push (PySem.W.excObj C hp.objs.size none .none)).get? (hp.objs.size + 1) = some (PySem.W.excObj C hp.objs.size none .none) := by heap_get
  refine wpAny_call (kx_call TC.base.fb hT hC (PySem.W.looks_findIn KI J.find) (fun self => PySem.W.exc_bind hoI hcI self) hus ?_)
  refine init_run (hp0 := hp) (mg := X.mg) (mb := mb) TC J KI gl sup bl ((hbt _ (by decide +kernel)).trans (by decide +kernel)) lim up (Nat.le_succ _) nw (by rw [make_depth]; exact hr) hqs (hb ⟨_, g, d, t, os⟩ (hp.objs.size + 1) (KI.keeps up)) fun dd' h' t' M => ?_
  obtain ⟨st, ⟨t1, hx⟩, D⟩ := M
  refine ⟨rfl, ?_⟩
  have ha0 : H (hp.objs.size + 1) = none := I.hok.fresh (Nat.le_succ _)
  cases dd' with
  | none =>
    have e : T.ps = [] := D
    have er : rs = [] := List.eq_nil_of_length_eq_zero (by rw [hl, e]; rfl)
    have ed : ds = [] := List.eq_nil_of_length_eq_zero (by rw [← ra.length, er]; rfl)
    have J1 := I.laid (t' := t') (a := hp.objs.size + 1) (o := exo (hp.objs.size + 1) C none) (h' := h') st (Nat.le_succ _) (exo_ok hx)
    refine ⟨.ref (hp.objs.size + 1), _, J1, rfl, k _ _ (same_new ha0) ?_⟩
    rw [e, ed]
    exact .exc (fs := []) (ds := []) upd_same hcl (fun z => live _ z ha0) rfl rfl .nil
  | some dx =>
    obtain ⟨ne, sz, mA, hn, hA⟩ := D
    have hd0 : H dx = none := I.hok.fresh sz
    have rel : ∀ f, RelO ((T.ps.zip rs).lookup f) (mA f) := fun f => by rw [hA f]; exact zip_V rq
    have J1 := laid2 (t' := t') (oa := exo (hp.objs.size + 1) C (some dx)) (ob := exd dx (T.ps.zip rs)) I st (Nat.le_succ _) sz ne (exo_ok hx) (exd_ok hn rel)
    refine ⟨.ref (hp.objs.size + 1), _, J1, rfl, k _ _ (fun b x e => by rw [upd_ne (ne_of_none e ha0), upd_ne (ne_of_none e hd0)]; exact e) (rep_exc live hcl ha0 hd0 ne hl ra)⟩
/-- C(), no own __init__ -/
theorem mk_run0 {cl : Nat → Option Addr} {c : Nat} {C : Addr} {Q : VK} {B newId i : String} {bmB : List Value} (hcl : cl c = some C) (TC : XCls X.K C B newId i bmB) (hi : PySem.W.findIn X.K (.ref C) "__init__" = some (some (.builtin i))) (I : Inv X pins σ H s) (q : spX X.K cl c [] [] H Q) :
    wpAny (model X.prog X.w) X.A (call (.ref C) []) (EP X pins σ Q) X.xe s := by
  obtain ⟨O, ds, live, ra, hl, k⟩ := q
  cases ra
  obtain ⟨nm, N', qn, bs, bm, hdct, sn, sub, ab, col, dd, k0, k1, k2, k3, k5, hC, hT⟩ := PySem.W.excInit_of I.kIn TC.ini
  have L := PySem.W.looks_findIn (M := model X.prog X.w) I.kIn hi
  obtain ⟨hp, g, d, t, os⟩ := s
  refine PySem.W.call_B TC.base.fb hT hC L (Nat.zero_le _) fun h' st hx _ => ?_
  have ha0 : H (hp.objs.size + 1) = none := I.hok.fresh (Nat.le_succ _)
  have J1 := I.laid (t' := t) (a := hp.objs.size + 1) (o := exo (hp.objs.size + 1) C none) (h' := h') st (Nat.le_succ _) (exo_ok hx)
  exact ⟨.ref (hp.objs.size + 1), _, J1, rfl, k _ _ (same_new ha0) (.exc (fs := []) (ds := []) upd_same hcl (fun z => live _ z ha0) rfl rfl .nil)⟩
/-- what a raised exception is for -/
def spR (K : PySem.W.Frag) (cl : Nat → Option Addr) (c : Nat) (A : Addr) (ps : List Str) : List V → Hp → XK → Prop := fun rs H Q =>
  ∃ O ds, (∀ a ∈ O, H a ≠ none) ∧ RepAll K cl O H rs ds ∧ rs.length = ps.length ∧ ∀ dd H', Same H H' → XRep K cl O H' (.ref A) dd ⟨c, ps.zip ds⟩ → Q (.ref A) dd H'
theorem ini_raises {C : Addr} {B newId i : String} {bmB : List Value} (T : XCls X.K C B newId i bmB) (G : XGet X.K C) : Raises X (.ref C) := by
  refine raises_own G.sub ?_
  have h := T.ini
  unfold PySem.W.excInitIn at h
  split at h
  · rename_i e
    show (X.K.lookup C).map (·.cls) = _
    rw [e]
    rfl
  · cases h
/-- an exception that was made goes its way -/
theorem raise_made {cl : Nat → Option Addr} {c : Nat} {C x : Addr} {ps : List Str} {rs : List V} {qs : List Value} {Q : XK} {dd : Option Addr} {hp h' : Heap} {g : Array GenState} {d : Drawn} {t t' : Nat} {os : OsState} {B newId i : String} {bmB : List Value} (hcl : cl c = some C) (TC : XCls X.K C B newId i bmB) (G : XGet X.K C)
    (I : Inv X pins σ H ⟨hp, g, d, t, os⟩) (rq : Vals rs qs) (hx0 : hp.objs.size ≤ x) (M : Made hp C x ps qs dd h') (q : spR X.K cl c C ps rs H Q) : MkP X pins σ Q (.ref x) ⟨h', g, d, t', os⟩ := by
  obtain ⟨O, ds, live, ra, hl, k⟩ := q
  obtain ⟨st, ⟨t1, hx⟩, D⟩ := M
  obtain ⟨G', g1, g2⟩ := restrict h' fun b => decide (b ≠ x)
  have gk : ∀ b, b ≠ x → G'.get? b = h'.get? b := fun b hb => g1 b (decide_eq_true hb)
  have ge : G'.get? x = none := g2 x (by simp)
  have hG : ∀ b o, G'.get? b = some o → h'.get? b = some o := fun b o e => by
    by_cases hb : b = x
    · rw [hb, ge] at e; cases e
    · exact (gk b hb).symm.trans e
  have st' : ∀ b o, hp.get? b = some o → G'.get? b = some o := fun b o e => (gk b (size_ne e hx0)).trans (st b o e)
  have ha0 : H x = none := I.hok.fresh hx0
  cases dd with
  | none =>
    have e : ps = [] := D
    have J := I.kept (h' := G') (t' := t') st'
    exact ⟨x, _, _, ⟨G', g, d, t', os⟩, H, .ref C, none, rfl, J, hG, ge, hx, ⟨rfl, rfl⟩, rfl, rfl, ha0, rfl, I.bare, ini_raises TC G, k none H (Same.refl _) ⟨C, hcl, rfl, .inl ⟨by rw [e]; rfl, rfl⟩⟩⟩
  | some dx =>
    obtain ⟨ne, sz, mA, hn, hA⟩ := D
    have hd0 : H dx = none := I.hok.fresh sz
    have nd : dx ∉ O := fun z => live dx z hd0
    have rel : ∀ f, RelO ((ps.zip rs).lookup f) (mA f) := fun f => by rw [hA f]; exact zip_V rq
    have J := I.laid (t' := t') (a := dx) (o := .xd (ps.zip rs)) (h' := G') st' sz ⟨mA, hn.at fun o y => (gk dx ne).trans y, rel⟩
    obtain ⟨z1, z2, z3⟩ := zipF hl ra.length
    exact ⟨x, _, _, ⟨G', g, d, t', os⟩, _, .ref C, some dx, rfl, J, hG, ge, hx, ⟨rfl, rfl⟩, rfl, rfl, by rw [upd_ne (Ne.symm ne)]; exact ha0, rfl, I.bare, ini_raises TC G,
      k (some dx) _ (same_new hd0) ⟨C, hcl, rfl, .inr ⟨dx, ps.zip rs, rfl, nd, upd_same, z1, by rw [z2, z3]; exact ra.keep (.same (same_new hd0))⟩⟩⟩
/-- raise C(..) -/
theorem raise_run {T : Xc} {cl : Nat → Option Addr} {c : Nat} {C : Addr} {us : List Value} {rs : List V} {Q : XK} (F : XF X.prog X.K X.mg cl c T) (hC : X.mg T.name = some (.ref C)) (sup : X.mg "super" = none) (I : Inv X pins σ H s) (hr : X.A.depth + 1 < recursionLimit) (rq : Vals rs us) (q : spR X.K cl c C T.ps rs H Q) :
    wpAny (model X.prog X.w) X.A (call (.ref C) us) (MkP X pins σ Q) X.xe s := by
  obtain ⟨C', B, newId, i, bmB, hcl, g2, TC, G, g5, g6, g7⟩ := F
  rw [hC] at g2
  cases g2
  have hl : rs.length = T.ps.length := by obtain ⟨_, _, _, _, z, _⟩ := q; exact z
  have hus : us.length ≤ sizeLine := by rw [← rq.length, hl, sizeLine_eq]; omega
  obtain ⟨nm, N', qn, bs, bm, hdct, sn, sub, ab, col, dd, k0, k1, k2, k3, k5, hC', hT⟩ := PySem.W.excInit_of I.kIn TC.ini
  cases ho : T.own with
  | true =>
    rw [ho, if_pos rfl] at g7
    obtain ⟨fI, fd, J, hfn, hb, _⟩ := g7
    obtain ⟨oI, hoI, hcI⟩ : ∃ oI, s.heap.get? fI = some oI ∧ oI.cls = .type "function" := by
      obtain ⟨o, ho, hc⟩ := Option.map_eq_some_iff.mp (show (X.K.lookup fI).map (·.cls) = some (.type "function") from beq_iff_eq.mp hfn)
      exact ⟨o, I.kIn _ _ ho, hc⟩
    obtain ⟨mb, hmb, hbt⟩ := I.ok.mod.blt
    have gl := I.ok.mod.glob.keeps I.bk
    have bl := hmb.keeps I.bk
    have lim := I.ok.mod.nolimit.keeps I.bk
    have KI := I.kIn
    obtain ⟨hp, g, d, t, os⟩ := s
    have up : ∀ b o, hp.get? b = some o → ((hp.push (PySem.W.excTup us)).push (PySem.W.excObj C hp.objs.size none .none)).get? b = some o := fun b o e => Heap.get?_push_of_some _ (Heap.get?_push_of_some _ e)
    have nw : ((hp.push (PySem.W.excTup us)).push (PySem.W.excObj C hp.objs.size none .none)).get? (hp.objs.size + 1) = some (PySem.W.excObj C hp.objs.size none .none) := by heap_get
    have b := hb ⟨_, g, d, t, os⟩ (.ref (hp.objs.size + 1) :: us) (KI.keeps up) (by simp [← rq.length, hl])
    rw [List.append_nil] at b
    refine wpAny_call (kx_call TC.base.fb hT hC' (PySem.W.looks_findIn KI J.find) (fun self => PySem.W.exc_bind hoI hcI self) hus ?_)
    exact init_run (hp0 := hp) (mg := X.mg) (mb := mb) TC J KI gl sup bl ((hbt _ (by decide +kernel)).trans (by decide +kernel)) lim up (Nat.le_succ _) nw (by rw [make_depth]; exact hr) (by rw [← rq.length, hl]) b fun dd' h' t' M => ⟨rfl, raise_made hcl TC G I rq (Nat.le_succ _) M q⟩
  | false =>
    rw [ho, if_neg Bool.false_ne_true] at g7
    obtain ⟨hps, _, hi⟩ := g7
    have ev : rs = [] := List.eq_nil_of_length_eq_zero (by rw [hl, hps]; rfl)
    subst ev
    cases rq
    have L := PySem.W.looks_findIn (M := model X.prog X.w) I.kIn hi
    obtain ⟨hp, g, d, t, os⟩ := s
    refine PySem.W.call_B TC.base.fb hT hC' L (Nat.zero_le _) fun h' st hx _ => ?_
    exact raise_made (t' := t) hcl TC G I (.nil : Vals [] []) (Nat.le_succ _) ⟨st, ⟨_, hx⟩, hps⟩ q
end
end Mx


/-! Mx, part 4c: what a term of the language computes is what the text does: readings. -/
namespace Mx
open PySem PySem.Spec PyProof.Rows L2

def RlE (C : Ct) (vw : Bool) (O : List Addr) (H : Hp) (v : V) (d : IV) : Prop := RepX C.K C.cl O H v d ∧ (vw = false → Rep C.K C.cl O H v d)
def Post {α β : Type} (C : Ct) (L O : List Addr) (σ : L2.St) (W : WX) (pr : Bool) (Rl : Hp → β → α → Prop) (H : Hp) (r : Out α) (Q : β → Hp → Prop) : Prop := match r with
  | none => False
  | some (.ok a, ρ) => ∀ v H', Keep O H H' → (pr = true → Same H H') → SRel C L O σ ρ H' → Rl H' v a → Q v H'
  | some (.error x, ρ) => ∀ c dd H', Keep O H H' → SRel C L O σ ρ H' → XRep C.K C.cl O H' c dd x → W c dd σ H'
section
variable {α β γ δ : Type} {C : Ct} {L O : List Addr} {σ : L2.St} {W : WX} {pr pr' : Bool} {H H1 : Hp} {ρ : List Sl}
theorem Post.mono {Rl : Hp → β → α → Prop} {r : Out α} {Q : β → Hp → Prop} (k : Keep O H H1) (s : pr = true → Same H H1) (h : Post C L O σ W pr Rl H r Q) : Post C L O σ W pr Rl H1 r Q := by
  match r, h with
  | some (.ok a, ρ), h => exact fun v H' k' s' S q => h v H' (k.trans k') (fun e => (s e).trans (s' e)) S q
  | some (.error x, ρ), h => exact fun c dd H' k' S q => h c dd H' (k.trans k') S q
theorem Post.bind {m : R α} {f : α → R γ} {Rl : Hp → β → α → Prop} {Rl' : Hp → δ → γ → Prop} {Q : δ → Hp → Prop} {Q1 : β → Hp → Prop} (h : Post C L O σ W pr' Rl' H (rBind m f ρ) Q)
    (k : ∀ a ρ1 v H1, Keep O H H1 → (pr = true → Same H H1) → SRel C L O σ ρ1 H1 → Rl H1 v a → Post C L O σ W pr' Rl' H (f a ρ1) Q → Q1 v H1) : Post C L O σ W pr Rl H (m ρ) Q1 := by
  unfold rBind at h
  match hm : m ρ, h with
  | none, h => exact h
  | some (.error x, ρ1), h => exact h
  | some (.ok a, ρ1), h => exact fun v H1 k1 s1 S q => k a ρ1 v H1 k1 s1 S q h
end
/-- the reading of a run -/
def tR {α β : Type} (C : Ct) (W : WX) (pr : Bool) (Rl : List Addr → Hp → β → α → Prop) (m : R α) : L2.St → Hp → (β → Hp → Prop) → Prop := fun σ H Q =>
  ∃ L O ρ, SRel C L O σ ρ H ∧ Post C L O σ W pr (Rl O) H (m ρ) Q
def tE (cs : CS) (C : Ct) (W : WX) (e : E) : TE := tR C W e.pure (RlE C e.isView) (ev cs e).1
def tT (cs : CS) (C : Ct) (W : WX) (e : E) : TT := tR C W e.pure (fun _ _ b a => b = a) (ev cs e).2
def RlEs (C : Ct) (nv : Bool) (O : List Addr) (H : Hp) (vs : List V) (ds : List IV) : Prop := RepXs C.K C.cl O H vs ds ∧ (nv = true → RepAll C.K C.cl O H vs ds)
def tEs (cs : CS) (C : Ct) (W : WX) (es : Es) : TA := tR C W es.pure (RlEs C es.noView) (evEs cs es)
def tO (cs : CS) (C : Ct) (W : WX) (o : OE) : TO := tR C W o.pure (fun _ _ b a => b = a) (evO cs o)

/-- where a term is read -/
structure XOk (T : Tab) (cs : CS) (k : Nat) (C : Ct) (W : WX) (N : List Str) (sc : Scope) (X : Cx) : Prop where
  hN : X.N = N
  nd : N.Nodup
  visx : ∀ x, visB sc x = true → Vis X.env.scope x
  glox : ∀ x, sc.names.lookup x = some .globalImplicit → X.env.scope.names.lookup x = some .globalImplicit
  frex : ∀ x, sc.names.lookup x = some .cell ∨ sc.names.lookup x = some .free → X.env.scope.names.lookup x = some .cell ∨ X.env.scope.names.lookup x = some .free
  calm : X.calm = true
  gd : T.rp = true → X.A.guards = some []
  room : Room (5 * k + 4) X.A
  tk : Takes X W
  po : PassesOwn (model X.prog X.w) X.A X.env X.xe
  CK : C.K = X.K
  facts : Facts T cs k C.cl X.prog X.w X.K X.mg X.base
/-- the names that may be stored to -/
def Sto (N : List Str) (sc : Scope) (X : Cx) : Prop := ∀ i x, storeB N sc i x = true → X.N[i]? = some x ∧ Loc X.env.scope x ∧ (X.fn x = true ∨ X.env.scope.names.lookup x = some .local)
section
variable {T : Tab} {cs : CS} {k : Nat} {C : Ct} {W : WX} {N : List Str} {sc : Scope} {X : Cx}
theorem _root_.L2.PE.imp {e : Expr} {t t' : TE} (h : PE X e t) (hi : ∀ σ H Q, t' σ H Q → t σ H Q) : PE X e t' := ⟨fun pins s σ H Q I q => h.run pins s σ H Q I (hi σ H Q q)⟩
theorem _root_.L2.PT.imp {e : Expr} {t t' : TT} (h : PT X e t) (hi : ∀ σ H Q, t' σ H Q → t σ H Q) : PT X e t' := ⟨fun pins s σ H Q I q => h.run pins s σ H Q I (hi σ H Q q)⟩
theorem _root_.L2.PA.imp {e : List Expr} {t t' : TA} (h : PA X e t) (hi : ∀ σ H Q, t' σ H Q → t σ H Q) : PA X e t' := ⟨fun pos pins s σ H Q I q => h.run pos pins s σ H Q I (hi σ H Q q)⟩
theorem XOk.vis (X' : XOk T cs k C W N sc X) {i : Nat} {x : Str} (h : slotB N sc i x = true) : X.N[i]? = some x ∧ Vis X.env.scope x ∧ (x == ("__debug__" : Str)) = false ∧ (x == ("__classdict__" : Str)) = false := by
  unfold slotB at h
  simp only [Bool.and_eq_true, Bool.not_eq_true', decide_eq_true_eq] at h
  obtain ⟨⟨⟨h1, h2⟩, h3⟩, h4⟩ := h
  exact ⟨by rw [X'.hN]; exact h1, X'.visx x h2, h3, h4⟩
theorem XOk.gl (X' : XOk T cs k C W N sc X) {x : Str} (h : gloB sc x = true) : Gl X x := by
  refine X'.glox x ?_
  unfold gloB at h
  split at h
  · assumption
  · cases h
theorem XOk.bl (X' : XOk T cs k C W N sc X) {x : Str} (h : T.blt.contains x = true) : X.mg x = none := X'.facts.blt x (by simpa using h)
theorem XOk.room0 (X' : XOk T cs k C W N sc X) : Room (5 * k) X.A := X'.room.mono (by omega)
/-- a def that may be called here -/
theorem XOk.gdf (X' : XOk T cs k C W N sc X) {fn : Fn} (h : callB T fn = true) : (fn.rp = true → X.A.guards = some []) ∧ fn.gbody = none := by
  unfold callB at h
  rw [Bool.and_eq_true, Bool.or_eq_true] at h
  refine ⟨fun z => X'.gd ?_, by simpa using h.2⟩
  rcases h.1 with q | q
  · exact q
  · rw [z] at q; cases q
theorem XOk.hu (X' : XOk T cs k C W N sc X) : X.A.units + 64 < cLine := X'.room.units

/-! ### two operands -/
theorem two_ok {a b : E} {pr : Bool} {f : IV → IV → Option IV} (hv : a.isView = true → b.pure = true) (hp : pr = true → a.pure = true ∧ b.pure = true) {σ : L2.St} {H : Hp} {Q : VK}
    (h : tR C W pr (RlE C false) (rBind (ev cs a).1 fun x => rBind (ev cs b).1 fun y => rLift (f x y)) σ H Q) : tOp (r2D C.K C.cl f) (tE cs C W a) (tE cs C W b) σ H Q := by
  obtain ⟨L, O, ρ, S, h⟩ := h
  refine ⟨L, O, ρ, S, h.bind fun x ρ1 v H1 k1 s1 S1 r1 h1 => ?_⟩
  refine ⟨L, O, ρ1, S1, (h1.mono k1 fun e => s1 (hp e).1).bind fun y ρ2 u H2 k2 s2 S2 r2 h2 => ?_⟩
  have rx : RepX C.K C.cl O H2 v x := by
    cases e : a.isView with
    | true => exact r1.1.same (s2 (hv e))
    | false => exact .inl ((r1.2 e).keep k2)
  unfold rLift at h2
  match hf : f x y, h2 with
  | none, h2 => exact h2.elim
  | some d, h2 => exact ⟨O, x, y, d, S2.live, rx, r2.1, hf, fun w H' sm rp => h2 w H' (k2.trans (.same sm)) (fun e => (s2 (hp e).2).trans sm) (S2.same sm) ⟨.inl rp, fun _ => rp⟩⟩
/-- a test that is a value's truth -/
theorem truth_ok {m : R IV} {vw pr : Bool} {t : TE} (ht : t = tR C W pr (RlE C vw) m) {σ : L2.St} {H : Hp} {Q : Bool → Hp → Prop} (h : tR C W pr (fun _ _ b a => b = a) (rBind m fun d => rLift (truD d)) σ H Q) :
    t σ H fun x H' => ∃ b, TruV C.K x H' b ∧ Q b H' := by
  subst ht
  obtain ⟨L, O, ρ, S, h⟩ := h
  refine ⟨L, O, ρ, S, h.bind fun x ρ1 v H1 k1 s1 S1 r1 h1 => ?_⟩
  unfold rLift at h1
  match hf : truD x, h1 with
  | none, h1 => exact h1.elim
  | some b, h1 => exact ⟨b, truD_ok r1.1 hf, h1 b H1 k1 s1 S1 rfl⟩
theorem bool_ok {m : R IV} {vw pr : Bool} {t : TE} (ht : t = tR C W pr (RlE C vw) m) (hb : ∀ ρ d ρ1, m ρ = some (.ok d, ρ1) → ∃ b, d = .bl b) {σ : L2.St} {H : Hp} {Q : Bool → Hp → Prop} (h : tR C W pr (fun _ _ b a => b = a) (rBind m fun d => rLift (truD d)) σ H Q) :
    t σ H fun x H' => ∃ b, x = .bl b ∧ Q b H' := by
  subst ht
  obtain ⟨L, O, ρ, S, h⟩ := h
  refine ⟨L, O, ρ, S, ?_⟩
  unfold rBind at h
  match hm : m ρ, h with
  | none, h => exact h
  | some (.error x, ρ1), h => exact h
  | some (.ok d, ρ1), h =>
    intro v H1 k1 s1 S1 r1
    obtain ⟨b, rfl⟩ := hb ρ d ρ1 hm
    exact ⟨b, r1.1.bl, h b H1 k1 s1 S1 rfl⟩
end
end Mx


/-! Mx, part 4d: the cases. -/
namespace Mx
open PySem PySem.Spec PyProof.Rows L2
section
variable {T : Tab} {cs : CS} {k : Nat} {C : Ct} {W : WX} {N : List Str} {sc : Scope} {X : Cx}
theorem Post.ok {α β : Type} {L O : List Addr} {σ : L2.St} {pr : Bool} {Rl : Hp → β → α → Prop} {H : Hp} {ρ : List Sl} {a : α} {v : β} {Q : β → Hp → Prop} (h : Post C L O σ W pr Rl H (some (.ok a, ρ)) Q) (S : SRel C L O σ ρ H) (r : Rl H v a) : Q v H :=
  h v H (Keep.refl O H) (fun _ => Same.refl H) S r
/-! ### names, constants -/
theorem c_var (X' : XOk T cs k C W N sc X) {i : Nat} {y : Str} {p : Pos} (h : slotB N sc i y = true) : PE X (.Name y p) (tE cs C W (.var i)) := by
  obtain ⟨h1, h2, h3, h4⟩ := X'.vis h
  refine (pe_var h1 h2 h3 h4).imp fun σ H Q ⟨L, O, ρ, S, q⟩ => ?_
  have q : Post C L O σ W true (RlE C false O) H (rVar i ρ) Q := q
  unfold rVar at q
  match hρ : ρ[i]?, q with
  | some (.i d), q =>
    have hi : i < σ.length := by rw [S.len]; exact (List.getElem?_eq_some_iff.mp hρ).1
    have hs : σ[i]? = some σ[i] := List.getElem?_eq_getElem hi
    obtain ⟨v, ev, r⟩ := S.slot i _ _ hs hρ
    exact ⟨v, by rw [hs, ev], q.ok S ⟨.inl r, fun _ => r⟩⟩
theorem c_view (X' : XOk T cs k C W N sc X) {i : Nat} {y : Str} {p : Pos} (h : slotB N sc i y = true) : PE X (.Name y p) (tE cs C W (.view i)) := by
  obtain ⟨h1, h2, h3, h4⟩ := X'.vis h
  refine (pe_var h1 h2 h3 h4).imp fun σ H Q ⟨L, O, ρ, S, q⟩ => ?_
  have q : Post C L O σ W true (RlE C true O) H (rView i ρ) Q := q
  have go : ∀ (r : Sl) (d : IV), ρ[i]? = some r → r.mut = some d → Post C L O σ W true (RlE C true O) H (some (.ok d, ρ)) Q → tVar i σ H Q := fun r d hr hm q => by
    obtain ⟨a, ea, hO, w, _⟩ := S.mutAt hr hm
    exact ⟨_, ea, q.ok S ⟨.inr ⟨a, rfl, hO, w⟩, fun z => nomatch z⟩⟩
  unfold rView at q
  match hρ : ρ[i]?, q with
  | some (.o d), q => exact go _ d hρ rfl q
  | some (.b d), q => exact go _ d hρ rfl q
theorem c_cst {c : Const} {d : IV} {j : Nat} {p : Pos} (h : cstB c d = true) : PE X (.Constant c j p) (tE cs C W (.cst d)) := by
  match c, d, h with
  | .none, .non, _ => exact pe_non.imp fun σ H Q ⟨L, O, ρ, S, q⟩ => Post.ok q S ⟨.inl .non, fun _ => .non⟩
  | .bool a, .bl b, h =>
    have e : a = b := by simpa [cstB] using h
    subst e
    exact pe_bl.imp fun σ H Q ⟨L, O, ρ, S, q⟩ => Post.ok q S ⟨.inl (.bl _), fun _ => .bl _⟩
  | .int a, .int b, h =>
    have e : a = b := by simpa [cstB] using h
    subst e
    exact pe_int.imp fun σ H Q ⟨L, O, ρ, S, q⟩ => Post.ok q S ⟨.inl (.int _), fun _ => .int _⟩
  | .str s, .str l, h =>
    have e : s = sOf l := by simpa [cstB] using h
    subst e
    exact pe_str.imp fun σ H Q ⟨L, O, ρ, S, q⟩ => Post.ok q S ⟨.inl (.str _), fun _ => .str _⟩
theorem c_glo (X' : XOk T cs k C W N sc X) {z y : Str} {d : IV} {p : Pos} (h1 : y = z) (h2 : gloB sc y = true) (h3 : (T.glo.any fun p => decide (p.1 = z) && IV.beq p.2 d) = true) (h4 : (y == ("__debug__" : Str)) = false) : PE X (.Name y p) (tE cs C W (.glo z d)) := by
  subst h1
  rw [List.any_eq_true] at h3
  obtain ⟨⟨x, d'⟩, hp, hq⟩ := h3
  rw [Bool.and_eq_true, decide_eq_true_eq] at hq
  obtain ⟨hx, hd⟩ := hq
  have hd' := IV.beq_eq hd
  subst hd'
  obtain ⟨u, v, hm, r, rep⟩ := X'.facts.glo _ hp
  have hm' : X.mg y = some u := by rw [← hx]; exact hm
  refine (pe_glob (X'.gl h2) hm' r h4).imp fun σ H Q ⟨L, O, ρ, S, q⟩ => ?_
  have rr : Rep C.K C.cl O H v d' := by rw [X'.CK]; exact rep O H
  exact Post.ok q S ⟨.inl rr, fun _ => rr⟩
/-! ### operators -/
theorem c_bin (X' : XOk T cs k C W N sc X) {o : BOp} {a b : E} {y z : Expr} {p : Pos} (hv : a.isView = true → b.pure = true) (ha : PE X y (tE cs C W a)) (hb : PE X z (tE cs C W b)) : PE X (.BinOp y (opOf o) z p) (tE cs C W (.bin o a b)) := by
  refine (pe_op (opD (cl := C.cl) o) ha hb).imp fun σ H Q q => ?_
  rw [← X'.CK]
  exact two_ok hv (fun e => by simpa [E.pure] using e) q
theorem c_cmp (X' : XOk T cs k C W N sc X) {o : COp} {a b : E} {y z : Expr} {p : Pos} (hv : a.isView = true → b.pure = true) (hz : noSet z = true) (ha : PE X y (tE cs C W a)) (hb : PE X z (tE cs C W b)) : PE X (.Compare y [copOf o] [z] p) (tE cs C W (.cmp o a b)) := by
  have hm : behindInMarks (copOf o) z = false := by cases z <;> first | rfl | cases hz
  refine (pe_cmpR (copD (cl := C.cl) X'.hu o) ha hb hm).imp fun σ H Q q => ?_
  rw [← X'.CK]
  exact two_ok hv (fun e => by simpa [E.pure] using e) q
theorem c_cmpT (X' : XOk T cs k C W N sc X) {o : COp} {a b : E} {y z : Expr} {p : Pos} (hv : a.isView = true → b.pure = true) (hz : noSet z = true) (ha : PE X y (tE cs C W a)) (hb : PE X z (tE cs C W b)) : PT X (.Compare y [copOf o] [z] p) (tT cs C W (.cmp o a b)) := by
  have hm : behindInMarks (copOf o) z = false := by cases z <;> first | rfl | cases hz
  refine (pt_cmpR (copD (cl := C.cl) X'.hu o) ha hb hm).imp fun σ H Q q => ?_
  rw [← X'.CK]
  show tOp _ _ _ σ H fun x H' => ∃ k, x = .bl k ∧ Q k H'
  refine two_ok (pr := (E.cmp o a b).pure) hv (fun e => by simpa [E.pure] using e) ?_
  refine bool_ok rfl (fun ρ d ρ1 hm => ?_) q
  unfold rBind at hm
  split at hm
  · cases hm
  · cases hm
  · dsimp only at hm
    split at hm
    · cases hm
    · cases hm
    · unfold rLift at hm
      split at hm
      · rename_i he
        cases hm
        obtain ⟨c, _, rfl⟩ := Option.map_eq_some_iff.mp he
        exact ⟨c, rfl⟩
      · cases hm
theorem c_neg {a : E} {y : Expr} {p : Pos} (ha : PE X y (tE cs C W a)) : PE X (.UnaryOp .USub y p) (tE cs C W (.neg a)) := by
  refine (pe_un un_neg ha).imp fun σ H Q ⟨L, O, ρ, S, q⟩ => ?_
  refine ⟨L, O, ρ, S, Post.bind q fun x ρ1 v H1 k1 s1 S1 r1 h1 => ?_⟩
  match x, r1, h1 with
  | .int i, r1, h1 => exact ⟨i, r1.1.int, h1 _ H1 k1 s1 S1 ⟨.inl (.int _), fun _ => .int _⟩⟩
theorem bind_okC {α β : Type} {m : R α} {f : α → R β} {ρ ρ2 : List Sl} {b : β} (h : rBind m f ρ = some (.ok b, ρ2)) : ∃ a ρ1, m ρ = some (.ok a, ρ1) ∧ f a ρ1 = some (.ok b, ρ2) := by
  unfold rBind at h
  match hm : m ρ, h with
  | some (.ok a, ρ1), h => exact ⟨a, ρ1, rfl, h⟩
  | some (.error x, ρ1), h => cases h
theorem chn_read {o o' : COp} {a b c : E} (hv : a.isView = false) (hv' : b.isView = false) {σ : L2.St} {H : Hp} {Q : VK} (h : tE cs C W (.chn o o' a b c) σ H Q) :
    tChain (r2D C.K C.cl fun x y => (cmpD o x y).map .bl) (r2D C.K C.cl fun x y => (cmpD o' x y).map .bl) (tE cs C W a) (tE cs C W b) (tE cs C W c) σ H Q := by
  obtain ⟨L, O, ρ, S, q⟩ := h
  have hp : (E.chn o o' a b c).pure = true → a.pure = true ∧ b.pure = true ∧ c.pure = true := fun e => by
    have e' : (a.pure && b.pure && c.pure) = true := e
    simpa [and_assoc] using e'
  refine ⟨L, O, ρ, S, Post.bind q fun x ρ1 v H1 k1 s1 S1 r1 h1 => ?_⟩
  refine ⟨L, O, ρ1, S1, Post.bind (h1.mono k1 fun e => s1 (hp e).1) fun y ρ2 u H2 k2 s2 S2 r2 h2 => ?_⟩
  have h2 := Post.mono k2 (fun e => s2 (hp e).2.1) h2
  unfold rBind rLift at h2
  match hf : cmpD o x y, h2 with
  | none, h2 => exact h2.elim
  | some t, h2 =>
    refine ⟨O, x, y, .bl t, S2.live, .inl ((r1.2 hv).keep k2), r2.1, (show (cmpD o x y).map IV.bl = some (IV.bl t) by rw [hf]; rfl), fun v1 H3 sm rp => ⟨t, by cases rp; rfl, ?_⟩⟩
    cases t with
    | false =>
      rw [if_neg Bool.false_ne_true]
      exact h2 (.bl false) H3 (.same sm) (fun _ => sm) (S2.same sm) ⟨.inl (.bl _), fun _ => .bl _⟩
    | true =>
      rw [if_pos rfl]
      have h2 : Post C L O σ W (E.chn o o' a b c).pure (RlE C false O) H2 ((rBind (ev cs c).1 fun z => rLift ((cmpD o' y z).map .bl)) ρ2) Q := h2
      refine ⟨L, O, ρ2, S2.same sm, Post.bind (h2.mono (.same sm) fun _ => sm) fun z ρ3 v3 H4 k4 s4 S4 r4 h4 => ?_⟩
      have h4 := Post.mono k4 (fun e => s4 (hp e).2.2) h4
      unfold rLift at h4
      match hg : (cmpD o' y z).map IV.bl, h4 with
      | none, h4 => exact h4.elim
      | some d, h4 => exact ⟨O, y, z, d, S4.live, .inl (((r2.2 hv').keep (.same sm)).keep k4), r4.1, hg, fun w H' sm' rp => h4 w H' (.same sm') (fun _ => sm') (S4.same sm') ⟨.inl rp, fun _ => rp⟩⟩
theorem c_chn (X' : XOk T cs k C W N sc X) {o o' : COp} {a b c : E} {y z w : Expr} {p : Pos} (hv : a.isView = false) (hv' : b.isView = false) (hz : noSet w = true) (ha : PE X y (tE cs C W a)) (hb : PE X z (tE cs C W b)) (hc : PE X w (tE cs C W c)) :
    PE X (.Compare y [copOf o, copOf o'] [z, w] p) (tE cs C W (.chn o o' a b c)) := by
  have hm : lastMarks [copOf o, copOf o'] [z, w] = false := by
    show behindInMarks (copOf o') w = false
    cases w <;> first | rfl | cases hz
  refine (pe_chain (copD (cl := C.cl) X'.hu o) (copD (cl := C.cl) X'.hu o') ha hb hc hm).imp fun σ H Q h => ?_
  rw [← X'.CK]
  exact chn_read hv hv' h
theorem c_chnT (X' : XOk T cs k C W N sc X) {o o' : COp} {a b c : E} {y z w : Expr} {p : Pos} (hv : a.isView = false) (hv' : b.isView = false) (hz : noSet w = true) (ha : PE X y (tE cs C W a)) (hb : PE X z (tE cs C W b)) (hc : PE X w (tE cs C W c)) :
    PT X (.Compare y [copOf o, copOf o'] [z, w] p) (tT cs C W (.chn o o' a b c)) := by
  have hm : lastMarks [copOf o, copOf o'] [z, w] = false := by
    show behindInMarks (copOf o') w = false
    cases w <;> first | rfl | cases hz
  refine (pt_chain (copD (cl := C.cl) X'.hu o) (copD (cl := C.cl) X'.hu o') ha hb hc hm).imp fun σ H Q h => ?_
  rw [← X'.CK]
  refine chn_read hv hv' (Q := fun x H' => ∃ k, x = .bl k ∧ Q k H') (bool_ok rfl (fun ρ d ρ1 hm => ?_) h)
  have hm : (rBind (ev cs a).1 fun x => rBind (ev cs b).1 fun y => rBind (rLift (cmpD o x y)) fun t => if t = true then rBind (ev cs c).1 fun z => rLift ((cmpD o' y z).map IV.bl) else rPure (.bl false)) ρ = some (.ok d, ρ1) := hm
  obtain ⟨x, ρ2, _, hm⟩ := bind_okC hm
  obtain ⟨y', ρ3, _, hm⟩ := bind_okC hm
  obtain ⟨t, ρ4, _, hm⟩ := bind_okC hm
  cases t with
  | false => rw [if_neg Bool.false_ne_true] at hm; cases hm; exact ⟨false, rfl⟩
  | true =>
    rw [if_pos rfl] at hm
    obtain ⟨z', ρ5, _, hm⟩ := bind_okC hm
    unfold rLift at hm
    cases hg : cmpD o' y' z' with
    | none => rw [hg] at hm; cases hm
    | some b => rw [hg] at hm; cases hm; exact ⟨b, rfl⟩
theorem c_not {a : E} {y : Expr} {p : Pos} (ha : PE X y (tE cs C W a)) : PE X (.UnaryOp .Not y p) (tE cs C W (.not a)) := by
  refine (pe_not ha).imp fun σ H Q ⟨L, O, ρ, S, q⟩ => ?_
  refine ⟨L, O, ρ, S, Post.bind q fun x ρ1 v H1 k1 s1 S1 r1 h1 => ?_⟩
  match x, r1, h1 with
  | .bl b, r1, h1 => exact ⟨b, r1.1.bl, h1 _ H1 k1 s1 S1 ⟨.inl (.bl _), fun _ => .bl _⟩⟩
theorem c_notT {a : E} {y : Expr} {p : Pos} (ha : PT X y (tT cs C W a)) : PT X (.UnaryOp .Not y p) (tT cs C W (.not a)) := by
  refine (pt_not ha).imp fun σ H Q ⟨L, O, ρ, S, q⟩ => ?_
  refine ⟨L, O, ρ, S, Post.bind q fun b ρ1 v H1 k1 s1 S1 r1 h1 => ?_⟩
  cases r1
  exact h1 _ H1 k1 s1 S1 rfl
theorem c_ite {c a b : E} {y z w : Expr} {p : Pos} (hv : a.isView = false) (hv' : b.isView = false) (hc : PT X y (tT cs C W c)) (ha : PE X z (tE cs C W a)) (hb : PE X w (tE cs C W b)) : PE X (.IfExp y z w p) (tE cs C W (.ite c a b)) := by
  refine (pe_ifExp hc ha hb).imp fun σ H Q ⟨L, O, ρ, S, q⟩ => ?_
  have hp : (E.ite c a b).pure = true → c.pure = true ∧ a.pure = true ∧ b.pure = true := fun e => by
    have e' : (c.pure && a.pure && b.pure) = true := e
    simpa [and_assoc] using e'
  have q : Post C L O σ W (E.ite c a b).pure (RlE C false O) H ((rBind (ev cs c).2 fun t => if t = true then (ev cs a).1 else (ev cs b).1) ρ) Q := q
  refine ⟨L, O, ρ, S, Post.bind q fun t ρ1 v H1 k1 s1 S1 r1 h1 => ?_⟩
  cases r1
  have h1 := Post.mono k1 (fun e => s1 (hp e).1) h1
  have fin : ∀ (e : E), e.isView = false → ((E.ite c a b).pure = true → e.pure = true) → Post C L O σ W (E.ite c a b).pure (RlE C false O) H1 ((ev cs e).1 ρ1) Q → tE cs C W e σ H1 Q := fun e hv hp h => by
    refine ⟨L, O, ρ1, S1, ?_⟩
    rw [hv]
    match hr : (ev cs e).1 ρ1, h with
    | some (.ok d, ρ2), h => exact fun v H2 k2 s2 S2 r2 => h v H2 k2 (fun z => s2 (hp z)) S2 r2
    | some (.error x, ρ2), h => exact h
  cases t with
  | true => rw [if_pos rfl]; exact fin a hv (fun e => (hp e).2.1) h1
  | false => rw [if_neg Bool.false_ne_true]; exact fin b hv' (fun e => (hp e).2.2) h1
/-! ### subscripts -/
theorem c_ix (X' : XOk T cs k C W N sc X) {a b : E} {y z : Expr} {p : Pos} (hv : a.isView = true → b.pure = true) (hz : notSlice z = true) (ha : PE X y (tE cs C W a)) (hb : PE X z (tE cs C W b)) : PE X (.Subscript y z p) (tE cs C W (.ix a b)) := by
  have hs : PlainIx z := fun o i => by cases z <;> first | rfl | cases hz
  refine (pe_ix (ixD_ok (cl := C.cl)) ha hb hs).imp fun σ H Q q => ?_
  rw [← X'.CK]
  exact two_ok hv (fun e => by simpa [E.pure] using e) q
theorem c_sl (X' : XOk T cs k C W N sc X) {a : E} {lo hi : OE} {y : Expr} {l h : Option Expr} {p p' : Pos} (hv : a.isView = true → lo.pure = true ∧ hi.pure = true) (ha : PE X y (tE cs C W a)) (hl : PO X l (tO cs C W lo)) (hh : PO X h (tO cs C W hi)) :
    PE X (.Subscript y (.Slice l h none p') p) (tE cs C W (.sl a lo hi)) := by
  refine (pe_slice (slD_ok (cl := C.cl)) ha hl hh).imp fun σ H Q ⟨L, O, ρ, S, q⟩ => ?_
  have hp : (E.sl a lo hi).pure = true → a.pure = true ∧ lo.pure = true ∧ hi.pure = true := fun e => by
    have e' : (a.pure && lo.pure && hi.pure) = true := e
    simpa [and_assoc] using e'
  rw [← X'.CK]
  refine ⟨L, O, ρ, S, Post.bind q fun x ρ1 v H1 k1 s1 S1 r1 h1 => ?_⟩
  refine ⟨L, O, ρ1, S1, Post.bind (h1.mono k1 fun e => s1 (hp e).1) fun i ρ2 i' H2 k2 s2 S2 r2 h2 => ?_⟩
  cases r2
  refine ⟨L, O, ρ2, S2, Post.bind (h2.mono k2 fun e => s2 (hp e).2.1) fun j ρ3 j' H3 k3 s3 S3 r3 h3 => ?_⟩
  cases r3
  have h3 := Post.mono k3 (fun e => s3 (hp e).2.2) h3
  have rx : RepX C.K C.cl O H3 v x := by
    cases e : a.isView with
    | true => exact (r1.1.same (s2 (hv e).1)).same (s3 (hv e).2)
    | false => exact .inl (((r1.2 e).keep k2).keep k3)
  unfold rLift at h3
  match hf : slD x i j, h3 with
  | none, h3 => exact h3.elim
  | some d, h3 => exact ⟨O, x, d, S3.live, rx, hf, fun w H' sm rp => h3 w H' (.same sm) (fun _ => sm) (S3.same sm) ⟨.inl rp, fun _ => rp⟩⟩
theorem c_no : PO X none (tO cs C W .no) := ⟨fun pins s σ H Q I ⟨L, O, ρ, S, q⟩ => po_none.run pins s σ H Q I (Post.ok q S rfl)⟩
theorem c_yes {e : E} {y : Expr} (he : PE X y (tE cs C W e)) : PO X (some y) (tO cs C W (.yes e)) := ⟨fun pins s σ H Q I ⟨L, O, ρ, S, q⟩ => by
  refine (po_some he).run pins s σ H Q I ⟨L, O, ρ, S, Post.bind q fun x ρ1 v H1 k1 s1 S1 r1 h1 => ?_⟩
  match x, r1, h1 with
  | .int i, r1, h1 => exact ⟨i, r1.1.int, h1 _ H1 k1 s1 S1 rfl⟩⟩
/-! ### lists of expressions -/
theorem c_nil : PA X [] (tEs cs C W .nil) := pa_nil.imp fun σ H Q ⟨L, O, ρ, S, q⟩ => Post.ok q S ⟨trivial, fun _ => .nil⟩
theorem cons_read {e : E} {r : Es} (hv : e.isView = true → r.pure = true) {σ : L2.St} {H : Hp} {Q : List V → Hp → Prop} (h : tEs cs C W (.cons e r) σ H Q) : tCons (tE cs C W e) (tEs cs C W r) σ H Q := by
  obtain ⟨L, O, ρ, S, q⟩ := h
  have hp : (Es.cons e r).pure = true → e.pure = true ∧ r.pure = true := fun z => by
    have z' : (e.pure && r.pure) = true := z
    simpa using z'
  refine ⟨L, O, ρ, S, Post.bind q fun x ρ1 v H1 k1 s1 S1 r1 h1 => ?_⟩
  refine ⟨L, O, ρ1, S1, Post.bind (h1.mono k1 fun e => s1 (hp e).1) fun xs ρ2 vs H2 k2 s2 S2 r2 h2 => ?_⟩
  have h2 := Post.mono k2 (fun e => s2 (hp e).2) h2
  have rx : RepX C.K C.cl O H2 v x := by
    cases z : e.isView with
    | true => exact r1.1.same (s2 (hv z))
    | false => exact .inl ((r1.2 z).keep k2)
  refine Post.ok h2 S2 ⟨⟨rx, r2.1⟩, fun z => ?_⟩
  have z' : (!e.isView && r.noView) = true := z
  rw [Bool.and_eq_true, Bool.not_eq_true'] at z'
  exact .cons ((r1.2 z'.1).keep k2) (r2.2 z'.2)
theorem c_cons {e : E} {r : Es} {y : Expr} {ys : List Expr} (hv : e.isView = true → r.pure = true) (hs : notStar y = true) (he : PE X y (tE cs C W e)) (hr : PA X ys (tEs cs C W r)) : PA X (y :: ys) (tEs cs C W (.cons e r)) :=
  (pa_cons he hr (star_one hs ys X.env)).imp fun σ H Q h => cons_read hv h
theorem c_lst {es : Es} {xs : List Expr} {p : Pos} (hn : es.noView = true) (h : PA X xs (tEs cs C W es)) : PE X (.List xs p) (tE cs C W (.lst es)) := by
  refine (pe_lst h).imp fun σ H Q ⟨L, O, ρ, S, q⟩ => ?_
  refine ⟨L, O, ρ, S, Post.bind q fun ds ρ1 vs H1 k1 s1 S1 r1 h1 => ?_⟩
  have h1 := Post.mono k1 s1 h1
  have ra := r1.2 hn
  unfold rLift at h1
  by_cases hz : ds.length ≤ SZ
  · rw [if_pos hz] at h1
    refine ⟨szl (by rw [ra.length]; exact hz), fun p hp => ?_⟩
    have rp := rep_newL S1.live hp ra
    exact h1 _ _ (.same (same_new hp)) (fun _ => same_new hp) (S1.same (same_new hp)) ⟨.inl rp, fun _ => rp⟩
  · rw [if_neg hz] at h1
    exact h1.elim
theorem c_tup {es : Es} {xs : List Expr} {p : Pos} {j : Nat} (hn : es.noView = true) (h : PA X xs (tEs cs C W es)) : PE X (.Tuple xs j p) (tE cs C W (.tup es)) := by
  refine (pe_tup h).imp fun σ H Q ⟨L, O, ρ, S, q⟩ => ?_
  refine ⟨L, O, ρ, S, Post.bind q fun ds ρ1 vs H1 k1 s1 S1 r1 h1 => ?_⟩
  have h1 := Post.mono k1 s1 h1
  have ra := r1.2 hn
  unfold rLift at h1
  by_cases hz : ds.length ≤ SZ
  · rw [if_pos hz] at h1
    refine ⟨szl (by rw [ra.length]; exact hz), fun p hp => ?_⟩
    have rp := rep_newT S1.live hp ra
    exact h1 _ _ (.same (same_new hp)) (fun _ => same_new hp) (S1.same (same_new hp)) ⟨.inl rp, fun _ => rp⟩
  · rw [if_neg hz] at h1
    exact h1.elim
end
end Mx


/-! Mx, part 4e: the cases: and, or, built-in functions, methods, calls. -/
namespace Mx
open PySem PySem.Spec PyProof.Rows L2
section
variable {T : Tab} {cs : CS} {k : Nat} {C : Ct} {W : WX} {N : List Str} {sc : Scope} {X : Cx}
def tAndE (cs : CS) (C : Ct) (W : WX) (es : Es) : TE := tR C W es.pure (RlE C false) (evAnd cs es).1
def tAndT (cs : CS) (C : Ct) (W : WX) (es : Es) : TT := tR C W es.pure (fun _ _ b a => b = a) (evAnd cs es).2
def tOrE (cs : CS) (C : Ct) (W : WX) (es : Es) : TE := tR C W es.pure (RlE C false) (evOr cs es).1
def tOrT (cs : CS) (C : Ct) (W : WX) (es : Es) : TT := tR C W es.pure (fun _ _ b a => b = a) (evOr cs es).2
theorem _root_.L2.PW.imp {e : Expr} {t t' : TT} (h : PW X e t) (hi : ∀ σ H Q, t' σ H Q → t σ H Q) : PW X e t' := ⟨fun wh pins s σ H Q I q => h.run wh pins s σ H Q I (hi σ H Q q)⟩
theorem one_pure {e : E} (h : e.pure = true) : (Es.cons e .nil).pure = true := by
  show (e.pure && true) = true
  rw [h]; rfl
theorem c_and1 {e : E} {y : Expr} {p : Pos} (hv : e.isView = false) (he : PE X y (tE cs C W e)) : PE X (.BoolOp .And [y] p) (tAndE cs C W (.cons e .nil)) := by
  refine (pe_one he).imp fun σ H Q ⟨L, O, ρ, S, q⟩ => ⟨L, O, ρ, S, ?_⟩
  rw [hv]
  have hp : (Es.cons e .nil).pure = e.pure := Bool.and_true _
  rw [hp] at q
  exact q
theorem c_or1 {e : E} {y : Expr} {p : Pos} (hv : e.isView = false) (he : PE X y (tE cs C W e)) : PE X (.BoolOp .Or [y] p) (tOrE cs C W (.cons e .nil)) := by
  refine (pe_one he).imp fun σ H Q ⟨L, O, ρ, S, q⟩ => ⟨L, O, ρ, S, ?_⟩
  rw [hv]
  have hp : (Es.cons e .nil).pure = e.pure := Bool.and_true _
  rw [hp] at q
  exact q
theorem c_and1T {e : E} {y : Expr} {p : Pos} (he : PT X y (tT cs C W e)) : PW X (.BoolOp .And [y] p) (tAndT cs C W (.cons e .nil)) := by
  refine (pw_and1 he).imp fun σ H Q ⟨L, O, ρ, S, q⟩ => ⟨L, O, ρ, S, ?_⟩
  have hp : (Es.cons e .nil).pure = e.pure := Bool.and_true _
  rw [hp] at q
  exact q
theorem c_or1T {e : E} {y : Expr} {p : Pos} (he : PT X y (tT cs C W e)) : PW X (.BoolOp .Or [y] p) (tOrT cs C W (.cons e .nil)) := by
  refine (pw_or1 he).imp fun σ H Q ⟨L, O, ρ, S, q⟩ => ⟨L, O, ρ, S, ?_⟩
  have hp : (Es.cons e .nil).pure = e.pure := Bool.and_true _
  rw [hp] at q
  exact q
theorem Post.pr {α β : Type} {L O : List Addr} {σ : L2.St} {pr pr' : Bool} {Rl : Hp → β → α → Prop} {H : Hp} {r : Out α} {Q : β → Hp → Prop} (hp : pr = true → pr' = true) (h : Post C L O σ W pr Rl H r Q) : Post C L O σ W pr' Rl H r Q := by
  match r, h with
  | some (.ok a, ρ), h => exact fun v H' k' s' S q => h v H' k' (fun e => s' (hp e)) S q
  | some (.error x, ρ), h => exact h
theorem c_and {e e' : E} {r : Es} {y z : Expr} {zs : List Expr} {p : Pos} (he : PE X y (tE cs C W e)) (hr : PE X (.BoolOp .And (z :: zs) p) (tAndE cs C W (.cons e' r))) : PE X (.BoolOp .And (y :: z :: zs) p) (tAndE cs C W (.cons e (.cons e' r))) := by
  refine (pe_and he hr).imp fun σ H Q ⟨L, O, ρ, S, q⟩ => ?_
  have hp : (Es.cons e (.cons e' r)).pure = true → e.pure = true ∧ (Es.cons e' r).pure = true := fun z => by
    have z' : (e.pure && (Es.cons e' r).pure) = true := z
    rw [Bool.and_eq_true] at z'
    exact z'
  refine ⟨L, O, ρ, S, Post.bind q fun x ρ1 v H1 k1 s1 S1 r1 h1 => ?_⟩
  match x, r1, h1 with
  | .bl true, r1, h1 => exact ⟨true, r1.1.bl, by rw [if_pos rfl]; exact ⟨L, O, ρ1, S1, (Post.mono k1 (fun e => s1 (hp e).1) h1).pr fun e => (hp e).2⟩⟩
  | .bl false, r1, h1 => exact ⟨false, r1.1.bl, by rw [if_neg Bool.false_ne_true]; exact Post.ok (Post.mono k1 (fun e => s1 (hp e).1) h1) S1 ⟨.inl (.bl _), fun _ => .bl _⟩⟩
theorem c_or {e e' : E} {r : Es} {y z : Expr} {zs : List Expr} {p : Pos} (he : PE X y (tE cs C W e)) (hr : PE X (.BoolOp .Or (z :: zs) p) (tOrE cs C W (.cons e' r))) : PE X (.BoolOp .Or (y :: z :: zs) p) (tOrE cs C W (.cons e (.cons e' r))) := by
  refine (pe_or he hr).imp fun σ H Q ⟨L, O, ρ, S, q⟩ => ?_
  have hp : (Es.cons e (.cons e' r)).pure = true → e.pure = true ∧ (Es.cons e' r).pure = true := fun z => by
    have z' : (e.pure && (Es.cons e' r).pure) = true := z
    rw [Bool.and_eq_true] at z'
    exact z'
  refine ⟨L, O, ρ, S, Post.bind q fun x ρ1 v H1 k1 s1 S1 r1 h1 => ?_⟩
  match x, r1, h1 with
  | .bl false, r1, h1 => exact ⟨false, r1.1.bl, by rw [if_neg Bool.false_ne_true]; exact ⟨L, O, ρ1, S1, (Post.mono k1 (fun e => s1 (hp e).1) h1).pr fun e => (hp e).2⟩⟩
  | .bl true, r1, h1 => exact ⟨true, r1.1.bl, by rw [if_pos rfl]; exact Post.ok (Post.mono k1 (fun e => s1 (hp e).1) h1) S1 ⟨.inl (.bl _), fun _ => .bl _⟩⟩
theorem c_andT {e e' : E} {r : Es} {y z : Expr} {zs : List Expr} {p : Pos} (he : PT X y (tT cs C W e)) (hr : PW X (.BoolOp .And (z :: zs) p) (tAndT cs C W (.cons e' r))) : PW X (.BoolOp .And (y :: z :: zs) p) (tAndT cs C W (.cons e (.cons e' r))) := by
  refine (pw_and he hr).imp fun σ H Q ⟨L, O, ρ, S, q⟩ => ?_
  have hp : (Es.cons e (.cons e' r)).pure = true → e.pure = true ∧ (Es.cons e' r).pure = true := fun z => by
    have z' : (e.pure && (Es.cons e' r).pure) = true := z
    rw [Bool.and_eq_true] at z'
    exact z'
  have q : Post C L O σ W (Es.cons e (.cons e' r)).pure (fun _ b a => b = a) H ((rBind (ev cs e).2 fun t => if t = true then (evAnd cs (.cons e' r)).2 else rPure false) ρ) Q := q
  refine ⟨L, O, ρ, S, Post.bind q fun t ρ1 v H1 k1 s1 S1 r1 h1 => ?_⟩
  cases r1
  cases t with
  | true => rw [if_pos rfl]; exact ⟨L, O, ρ1, S1, (Post.mono k1 (fun e => s1 (hp e).1) h1).pr fun e => (hp e).2⟩
  | false => rw [if_neg Bool.false_ne_true]; exact Post.ok (Post.mono k1 (fun e => s1 (hp e).1) h1) S1 rfl
theorem c_orT {e e' : E} {r : Es} {y z : Expr} {zs : List Expr} {p : Pos} (he : PT X y (tT cs C W e)) (hr : PW X (.BoolOp .Or (z :: zs) p) (tOrT cs C W (.cons e' r))) : PW X (.BoolOp .Or (y :: z :: zs) p) (tOrT cs C W (.cons e (.cons e' r))) := by
  refine (pw_or he hr).imp fun σ H Q ⟨L, O, ρ, S, q⟩ => ?_
  have hp : (Es.cons e (.cons e' r)).pure = true → e.pure = true ∧ (Es.cons e' r).pure = true := fun z => by
    have z' : (e.pure && (Es.cons e' r).pure) = true := z
    rw [Bool.and_eq_true] at z'
    exact z'
  have q : Post C L O σ W (Es.cons e (.cons e' r)).pure (fun _ b a => b = a) H ((rBind (ev cs e).2 fun t => if t = true then rPure true else (evOr cs (.cons e' r)).2) ρ) Q := q
  refine ⟨L, O, ρ, S, Post.bind q fun t ρ1 v H1 k1 s1 S1 r1 h1 => ?_⟩
  cases r1
  cases t with
  | false => rw [if_neg Bool.false_ne_true]; exact ⟨L, O, ρ1, S1, (Post.mono k1 (fun e => s1 (hp e).1) h1).pr fun e => (hp e).2⟩
  | true => rw [if_pos rfl]; exact Post.ok (Post.mono k1 (fun e => s1 (hp e).1) h1) S1 rfl
/-! ### built-in functions -/
theorem fn_read {f : List IV → Option IV} {es : Es} {σ : L2.St} {H : Hp} {Q : VK} (h : tR C W es.pure (RlE C false) (rBind (evEs cs es) fun xs => rLift (f xs)) σ H Q) : tCB (rND C.K C.cl f) (tEs cs C W es) σ H Q := by
  obtain ⟨L, O, ρ, S, q⟩ := h
  refine ⟨L, O, ρ, S, Post.bind q fun ds ρ1 vs H1 k1 s1 S1 r1 h1 => ?_⟩
  have h1 := Post.mono k1 s1 h1
  unfold rLift at h1
  match hf : f ds, h1 with
  | none, h1 => exact h1.elim
  | some d, h1 => exact ⟨O, ds, d, S1.live, r1.1, hf, fun w H' sm rp => h1 w H' (.same sm) (fun _ => sm) (S1.same sm) ⟨.inl rp, fun _ => rp⟩⟩
theorem all_star {es : Es} : ∀ {xs : List Expr} {sc : Scope} {T : Tab} {N : List Str}, mEs T N es sc xs = true → xs.all notStar = true := by
  intro xs
  induction xs generalizing es with
  | nil => intros; rfl
  | cons y ys ih =>
    intro sc T N h
    match es, h with
    | .cons e r, h =>
      unfold mEs at h
      simp only [Bool.and_eq_true] at h
      rw [List.all_cons, h.1.2, ih h.1.1.2]
      rfl
theorem c_fn (X' : XOk T cs k C W N sc X) {f : BFn} {es : Es} {y : Str} {z : Expr} {zs : List Expr} {p q : Pos} (hy : y = fnName f) (hf : fnServed f = true) (hrp : (T.rp || !fnRp f) = true) (hg : gloB sc y = true) (hb : T.blt.contains y = true) (hs : (z :: zs).all notStar = true) (h : PA X (z :: zs) (tEs cs C W es)) :
    PE X (.Call (.Name y p) (z :: zs) [] q) (tE cs C W (.fn f es)) := by
  rw [List.all_cons, Bool.and_eq_true] at hs
  have s1 := star_one hs.1 zs X.env
  have s2 := star_none X.env q hs.2
  have g := X'.gl hg
  have m := X'.bl hb
  subst hy
  have fin : ∀ {t : TE}, PE X (.Call (.Name (fnName f) p) (z :: zs) [] q) (tCB (rND X.K C.cl (fnD f)) (tEs cs C W es)) → PE X (.Call (.Name (fnName f) p) (z :: zs) [] q) (tE cs C W (.fn f es)) := fun {t} hp => hp.imp fun σ H Q h => by
    rw [← X'.CK]
    exact fn_read h
  cases f with
  | len => exact fin (t := tC .non) (pe_callB fn_len g m (by decide +kernel) h (by decide) (by decide) s1 s2)
  | int => exact fin (t := tC .non) (pe_callTy fn_int g m (by decide +kernel) h (by decide) (by decide) s1 s2)
  | all => exact fin (t := tC .non) (pe_callB (fn_all X'.calm) g m (by decide +kernel) h (by decide) (by decide) s1 s2)
  | any => exact fin (t := tC .non) (pe_callB (fn_any X'.calm) g m (by decide +kernel) h (by decide) (by decide) s1 s2)
  | list => exact fin (t := tC .non) (pe_callTy (fn_list X'.calm) g m (by decide +kernel) h (by decide) (by decide) s1 s2)
  | tuple => exact fin (t := tC .non) (pe_callTy fn_tuple g m (by decide +kernel) h (by decide) (by decide) s1 s2)
  | repr => exact fin (t := tC .non) (pe_callB (fn_repr (X'.gd (by simpa [fnRp] using hrp)) X'.hu) g m (by decide +kernel) h (by decide) (by decide) s1 s2)
  | str => exact fin (t := tC .non) (pe_callTy fn_str g m (by decide +kernel) h (by decide) (by decide) s1 s2)
  | ord => exact fin (t := tC .non) (pe_callB fn_ord g m (by decide +kernel) h (by decide) (by decide) s1 s2)
  | min => cases hf
  | max => cases hf
theorem c_isi (X' : XOk T cs k C W N sc X) {a : E} {t : String} {y w : Str} {z : Expr} {p p2 q : Pos} (hy : y = ("isinstance" : Str)) (hg : gloB sc y = true) (hb : T.blt.contains y = true) (hz : notStar z = true) (hw : w = Str.ofString t) (hg2 : gloB sc w = true) (hb2 : T.blt.contains w = true)
    (ht : (t == "str" || t == "int" || t == "bool" || t == "tuple") = true) (h : PE X z (tE cs C W a)) : PE X (.Call (.Name y p) [z, .Name w p2] [] q) (tE cs C W (.isi a t)) := by
  have g := X'.gl hg
  have m := X'.bl hb
  have g2 := X'.gl hg2
  have m2 := X'.bl hb2
  subst hy
  have boot : bootBuiltins w = some (.type t) ∧ w ≠ "__name__" ∧ (w == ("__debug__" : Str)) = false := by
    subst hw
    simp only [Bool.or_eq_true, beq_iff_eq] at ht
    rcases ht with ((e | e) | e) | e <;> subst e <;> exact ⟨by decide +kernel, by decide +kernel, by decide +kernel⟩
  have hty : PE X (.Name w p2) (tC (.ty t)) := pe_bltn g2 m2 boot.1 rfl boot.2.1 boot.2.2
  have s2 : starEach [Expr.Name w p2] X.env = [(false, eval (.Name w p2) X.env)] := rfl
  refine (pe_callB call_isi g m (by decide +kernel) (pa_cons h (pa_cons hty pa_nil s2) (star_one hz _ X.env)) (by decide) (by decide) (star_one hz _ X.env) rfl).imp fun σ H Q ⟨L, O, ρ, S, q⟩ => ?_
  rw [← X'.CK]
  refine ⟨L, O, ρ, S, Post.bind q fun d ρ1 v H1 k1 s1 S1 r1 h1 => ?_⟩
  have h1 := Post.mono k1 s1 h1
  unfold rLift at h1
  match hf : isiD d t, h1 with
  | none, h1 => exact h1.elim
  | some b, h1 =>
    obtain ⟨ty, hty, hk⟩ := isi_kit r1.1 hf
    exact ⟨v, .ty t, ty, .type t, b, rfl, .ty t, hty, hk, Post.ok h1 S1 ⟨.inl (.bl _), fun _ => .bl _⟩⟩
/-! ### methods -/
theorem noSuper_ok {o : Expr} {n : Str} {env : Env} (h : noSuper o = true) : attributeBase o n env (eval o env) = eval o env := by
  unfold attributeBase
  split
  · cases h
  · rfl
theorem mt_read {m : BMt} {a : E} {es : Es} {b : E} (ha : a.isView = false) (he : es = .cons b .nil) {σ : L2.St} {H : Hp} {Q : VK} (h : tE cs C W (.mt m a es) σ H Q) : tM1 (rMD C.K C.cl (mtD m)) (tE cs C W a) (tE cs C W b) σ H Q := by
  subst he
  obtain ⟨L, O, ρ, S, q⟩ := h
  have hp : (E.mt m a (.cons b .nil)).pure = true → a.pure = true ∧ b.pure = true := fun e => by
    have e' : (a.pure && (b.pure && true)) = true := e
    simpa using e'
  refine ⟨L, O, ρ, S, Post.bind q fun x ρ1 v H1 k1 s1 S1 r1 h1 => ?_⟩
  have h1 := Post.mono k1 (fun e => s1 (hp e).1) h1
  match x, r1, h1 with
  | .str l, r1, h1 =>
    refine ⟨⟨_, r1.1.str⟩, L, O, ρ1, S1, ?_⟩
    have h1 : Post C L O σ W (E.mt m a (.cons b .nil)).pure (RlE C false O) H1 ((rBind (rBind (ev cs b).1 fun x => rBind (rPure []) fun xs => rPure (x :: xs)) fun xs => rLift (mtD m (.str l) xs)) ρ1) Q := h1
    have e2 : (rBind (rBind (ev cs b).1 fun x => rBind (rPure []) fun xs => rPure (x :: xs)) fun xs => rLift (mtD m (.str l) xs)) ρ1 = (rBind (ev cs b).1 fun x => rLift (mtD m (.str l) [x])) ρ1 := by
      unfold rBind
      match (ev cs b).1 ρ1 with
      | none => rfl
      | some (.error x, ρ2) => rfl
      | some (.ok x, ρ2) => rfl
    rw [e2] at h1
    refine Post.bind h1 fun y ρ2 u H2 k2 s2 S2 r2 h2 => ?_
    have h2 := Post.mono k2 (fun e => s2 (hp e).2) h2
    unfold rLift at h2
    match hf : mtD m (.str l) [y], h2 with
    | none, h2 => exact h2.elim
    | some d, h2 => exact ⟨O, .str l, [y], d, S2.live, .inl ((r1.2 ha).keep k2), ⟨r2.1, trivial⟩, hf, fun w H' sm rp => h2 w H' (.same sm) (fun _ => sm) (S2.same sm) ⟨.inl rp, fun _ => rp⟩⟩
theorem mt_read0 {m : BMt} {a : E} {σ : L2.St} {H : Hp} {Q : VK} (h : tE cs C W (.mt m a .nil) σ H Q) : tM0 (rMD C.K C.cl (mtD m)) (tE cs C W a) σ H Q := by
  obtain ⟨L, O, ρ, S, q⟩ := h
  have hp : (E.mt m a .nil).pure = true → a.pure = true := fun e => by
    have e' : (a.pure && true) = true := e
    simpa using e'
  refine ⟨L, O, ρ, S, Post.bind q fun x ρ1 v H1 k1 s1 S1 r1 h1 => ?_⟩
  have h1 := Post.mono k1 (fun e => s1 (hp e)) h1
  match x, r1, h1 with
  | .str l, r1, h1 =>
    refine ⟨⟨_, r1.1.str⟩, ?_⟩
    have h1 : Post C L O σ W (E.mt m a .nil).pure (RlE C false O) H1 (rLift (mtD m (.str l) []) ρ1) Q := h1
    unfold rLift at h1
    match hf : mtD m (.str l) [], h1 with
    | none, h1 => exact h1.elim
    | some d, h1 => exact ⟨O, .str l, [], d, S1.live, r1.1, trivial, hf, fun w H' sm rp => h1 w H' (.same sm) (fun _ => sm) (S1.same sm) ⟨.inl rp, fun _ => rp⟩⟩
theorem c_mt1 (X' : XOk T cs k C W N sc X) {m : BMt} {a b : E} {o z : Expr} {y : Str} {p q : Pos} (hy : y = mtName m) (hm : mtServed m = true) (hm0 : m ≠ .upper) (ho : noSuper o = true) (hl : (p.endLine == q.line) = true) (hv : a.isView = false) (hs : notStar z = true)
    (ha : PE X o (tE cs C W a)) (hb : PE X z (tE cs C W b)) : PE X (.Call (.Attribute o y p) [z] [] q) (tE cs C W (.mt m a (.cons b .nil))) := by
  subst hy
  have fin : PE X (.Call (.Attribute o (mtName m) p) [z] [] q) (tM1 (rMD X.K C.cl (mtD m)) (tE cs C W a) (tE cs C W b)) → PE X (.Call (.Attribute o (mtName m) p) [z] [] q) (tE cs C W (.mt m a (.cons b .nil))) := fun hp => hp.imp fun σ H Q h => by
    rw [← X'.CK]
    exact mt_read hv rfl h
  cases m with
  | join => exact fin (pe_m1 F.slot_str_join F.type_str_join mt_joinD ha hb (star_one hs [] X.env) (noSuper_ok ho) hl)
  | split => exact fin (pe_m1 F.slot_str_split F.type_str_split mt_splitD ha hb (star_one hs [] X.env) (noSuper_ok ho) hl)
  | part => exact fin (pe_m1 F.slot_str_partition F.type_str_partition mt_partD ha hb (star_one hs [] X.env) (noSuper_ok ho) hl)
  | upper => exact absurd rfl hm0
  | strip => cases hm
theorem c_mt0 (X' : XOk T cs k C W N sc X) {a : E} {o : Expr} {y : Str} {p q : Pos} (hy : y = mtName .upper) (ho : noSuper o = true) (hl : (p.endLine == q.line) = true) (ha : PE X o (tE cs C W a)) : PE X (.Call (.Attribute o y p) [] [] q) (tE cs C W (.mt .upper a .nil)) := by
  subst hy
  refine (pe_m0 (r := rMD X.K C.cl (mtD .upper)) F.slot_str_upper F.type_str_upper mt_upperD ha (noSuper_ok ho) hl).imp fun σ H Q h => ?_
  rw [← X'.CK]
  exact mt_read0 h
end
end Mx


/-! Mx, part 4f: calls of the program's own defs. -/
namespace Mx
open PySem PySem.Spec PyProof.Rows L2
def isR : IV ⊕ Nat → Bool
  | .inl _ => false
  | .inr _ => true
def idxX : List (IV ⊕ Nat) → List Nat
  | [] => []
  | .inl _ :: r => idxX r
  | .inr i :: r => i :: idxX r
theorem idx_mem : ∀ {xs : List (IV ⊕ Nat)} {j : Nat}, j ∈ idxX xs → ∃ t : Nat, xs[t]? = some (.inr j)
  | .inl _ :: r, j, h => by
    obtain ⟨t, e⟩ := idx_mem (xs := r) h
    exact ⟨t + 1, by simpa using e⟩
  | .inr i :: r, j, h => by
    rcases List.mem_cons.mp h with e | e
    · exact ⟨0, by simp [e]⟩
    · obtain ⟨t, e⟩ := idx_mem (xs := r) e
      exact ⟨t + 1, by simpa using e⟩
theorem mem_idx : ∀ {xs : List (IV ⊕ Nat)} {t j : Nat}, xs[t]? = some (.inr j) → j ∈ idxX xs
  | .inl _ :: r, 0, j, h => by simp at h
  | .inl _ :: r, t + 1, j, h => mem_idx (xs := r) (t := t) (by simpa using h)
  | .inr i :: r, 0, j, h => by
    have e : i = j := by simpa using h
    rw [e]; exact List.mem_cons_self
  | .inr i :: r, t + 1, j, h => List.mem_cons_of_mem _ (mem_idx (xs := r) (t := t) (by simpa using h))
section
variable {T : Tab} {cs : CS} {k : Nat} {C : Ct} {W : WX} {N : List Str} {sc : Scope} {X : Cx}
def RlA (C : Ct) (σ : L2.St) (O : List Addr) (H : Hp) : List V → List (IV ⊕ Nat) → Prop
  | [], [] => True
  | v :: vs, .inl d :: xs => Rep C.K C.cl O H v d ∧ RlA C σ O H vs xs
  | v :: vs, .inr i :: xs => σ[i]? = some (some v) ∧ RlA C σ O H vs xs
  | _, _ => False
theorem RlA.keep {σ : L2.St} {O : List Addr} {H H' : Hp} (kp : Keep O H H') : ∀ {vs : List V} {xs : List (IV ⊕ Nat)}, RlA C σ O H vs xs → RlA C σ O H' vs xs
  | [], [], _ => trivial
  | v :: vs, .inl d :: xs, h => ⟨h.1.keep kp, RlA.keep (vs := vs) (xs := xs) kp h.2⟩
  | v :: vs, .inr i :: xs, h => ⟨h.1, RlA.keep (vs := vs) (xs := xs) kp h.2⟩
theorem RlA.length {σ : L2.St} {O : List Addr} {H : Hp} : ∀ {vs : List V} {xs : List (IV ⊕ Nat)}, RlA C σ O H vs xs → vs.length = xs.length
  | [], [], _ => rfl
  | v :: vs, .inl d :: xs, h => by rw [List.length_cons, List.length_cons, RlA.length (vs := vs) (xs := xs) h.2]
  | v :: vs, .inr i :: xs, h => by rw [List.length_cons, List.length_cons, RlA.length (vs := vs) (xs := xs) h.2]
theorem RlA.at {σ : L2.St} {O : List Addr} {H : Hp} : ∀ {vs : List V} {xs : List (IV ⊕ Nat)} {t j : Nat}, RlA C σ O H vs xs → xs[t]? = some (.inr j) → ∃ v, vs[t]? = some v ∧ σ[j]? = some (some v)
  | [], [], t, j, h, e => by simp at e
  | v :: vs, .inl d :: xs, 0, j, h, e => by simp at e
  | v :: vs, .inl d :: xs, t + 1, j, h, e => by
    obtain ⟨u, h1, h2⟩ := RlA.at (vs := vs) (xs := xs) (t := t) h.2 (by simpa using e)
    exact ⟨u, by simpa using h1, h2⟩
  | v :: vs, .inr i :: xs, 0, j, h, e => by
    have e' : i = j := by simpa using e
    subst e'
    exact ⟨v, rfl, h.1⟩
  | v :: vs, .inr i :: xs, t + 1, j, h, e => by
    obtain ⟨u, h1, h2⟩ := RlA.at (vs := vs) (xs := xs) (t := t) h.2 (by simpa using e)
    exact ⟨u, by simpa using h1, h2⟩
def tAs (cs : CS) (C : Ct) (W : WX) (as : As) : TA := fun σ => tR C W as.pure (fun O H => RlA C σ O H) (evAs cs as) σ
theorem c_anil : PA X [] (tAs cs C W .nil) := pa_nil.imp fun σ H Q ⟨L, O, ρ, S, q⟩ => Post.ok q S trivial
theorem c_av {e : E} {r : As} {y : Expr} {ys : List Expr} (hv : e.isView = false) (hs : notStar y = true) (he : PE X y (tE cs C W e)) (hr : PA X ys (tAs cs C W r)) : PA X (y :: ys) (tAs cs C W (.v e r)) := by
  refine (pa_cons he hr (star_one hs ys X.env)).imp fun σ H Q ⟨L, O, ρ, S, q⟩ => ?_
  have hp : (As.v e r).pure = true → e.pure = true ∧ r.pure = true := fun z => by
    have z' : (e.pure && r.pure) = true := z
    simpa using z'
  refine ⟨L, O, ρ, S, Post.bind q fun x ρ1 v H1 k1 s1 S1 r1 h1 => ?_⟩
  refine ⟨L, O, ρ1, S1, Post.bind (h1.mono k1 fun e => s1 (hp e).1) fun xs ρ2 vs H2 k2 s2 S2 r2 h2 => ?_⟩
  have h2 := Post.mono k2 (fun e => s2 (hp e).2) h2
  exact Post.ok h2 S2 ⟨(r1.2 hv).keep k2, r2⟩
theorem c_am (X' : XOk T cs k C W N sc X) {i : Nat} {r : As} {y : Str} {p : Pos} {ys : List Expr} (h : slotB N sc i y = true) (hr : PA X ys (tAs cs C W r)) : PA X (.Name y p :: ys) (tAs cs C W (.m i r)) := by
  obtain ⟨h1, h2, h3, h4⟩ := X'.vis h
  refine (pa_cons (pe_var h1 h2 h3 h4) hr rfl).imp fun σ H Q ⟨L, O, ρ, S, q⟩ => ?_
  have q : Post C L O σ W false (fun H => RlA C σ O H) H ((rBind (rView i) fun _ => rBind (evAs cs r) fun xs => rPure (.inr i :: xs)) ρ) Q := q
  have go : ∀ (s : Sl) (d : IV), ρ[i]? = some s → s.mut = some d → Post C L O σ W false (fun H => RlA C σ O H) H ((rBind (evAs cs r) fun xs => rPure (.inr i :: xs)) ρ) Q → tCons (tVar i) (tAs cs C W r) σ H Q := fun s d hs hm q => by
    obtain ⟨a, ea, _⟩ := S.mutAt hs hm
    refine ⟨_, ea, L, O, ρ, S, Post.bind q fun xs ρ1 vs H1 k1 s1 S1 r1 h1 => ?_⟩
    have h1 := Post.mono (pr := false) k1 (fun e => Bool.noConfusion e) h1
    exact Post.ok h1 S1 ⟨ea, r1⟩
  unfold rBind rView at q
  match hρ : ρ[i]?, q with
  | some (.o d), q => exact go _ d hρ rfl q
  | some (.b d), q => exact go _ d hρ rfl q
/-! ### the arguments' shape -/
theorem bind_ok {α β : Type} {m : R α} {f : α → R β} {ρ ρ' : List Sl} {b : β} (h : rBind m f ρ = some (.ok b, ρ')) : ∃ a ρ1, m ρ = some (.ok a, ρ1) ∧ f a ρ1 = some (.ok b, ρ') := by
  unfold rBind at h
  match hm : m ρ, h with
  | some (.ok a, ρ1), h => exact ⟨a, ρ1, rfl, h⟩
theorem evAs_shape : ∀ (as : As) {ρ ρ' : List Sl} {xs : List (IV ⊕ Nat)}, evAs cs as ρ = some (.ok xs, ρ') → xs.map isR = as.kinds ∧ idxX xs = as.idx
  | .nil, ρ, ρ', xs, h => by
    unfold evAs rPure at h
    cases h
    exact ⟨rfl, rfl⟩
  | .v e r, ρ, ρ', xs, h => by
    unfold evAs at h
    obtain ⟨x, ρ1, _, h⟩ := bind_ok h
    obtain ⟨ys, ρ2, hy, h⟩ := bind_ok h
    unfold rPure at h
    cases h
    obtain ⟨h1, h2⟩ := evAs_shape r hy
    exact ⟨by rw [List.map_cons, h1]; rfl, h2⟩
  | .m i r, ρ, ρ', xs, h => by
    unfold evAs at h
    obtain ⟨_, _, _, h⟩ := bind_ok h
    obtain ⟨ys, ρ2, hy, h⟩ := bind_ok h
    unfold rPure at h
    cases h
    obtain ⟨h1, h2⟩ := evAs_shape r hy
    exact ⟨by rw [List.map_cons, h1]; rfl, by show i :: idxX ys = _; rw [h2]; rfl⟩
theorem argsD_at {ρ : List Sl} : ∀ {xs : List (IV ⊕ Nat)} {ds : List IV} {t j : Nat}, argsD ρ xs = some ds → xs[t]? = some (.inr j) → ∃ r d, ρ[j]? = some r ∧ r.mut = some d ∧ ds[t]? = some d
  | x :: xs, ds, t, j, h, e => by
    unfold argsD at h
    match h1 : argD ρ x, h2 : argsD ρ xs, h with
    | some d, some es, h =>
      cases h
      cases t with
      | zero =>
        have e' : x = .inr j := by simpa using e
        subst e'
        have h1 : ρ[j]?.bind Sl.mut = some d := h1
        match hr : ρ[j]?, h1 with
        | some r, h1 => exact ⟨r, d, rfl, h1, rfl⟩
      | succ t =>
        obtain ⟨r, d', h3, h4, h5⟩ := argsD_at (xs := xs) (t := t) h2 (by simpa using e)
        exact ⟨r, d', h3, h4, by simpa using h5⟩
theorem argR_of {L O : List Addr} {σ : L2.St} {ρ : List Sl} {H : Hp} (S : SRel C L O σ ρ H) : ∀ {xs : List (IV ⊕ Nat)} {ds : List IV} {vs : List V}, argsD ρ xs = some ds → RlA C σ O H vs xs → ArgR C.K C.cl O H (xs.map isR) vs ds
  | [], ds, [], h, _ => by
    unfold argsD at h
    cases h
    trivial
  | x :: xs, ds, v :: vs, h, r => by
    unfold argsD at h
    match h1 : argD ρ x, h2 : argsD ρ xs, h with
    | some d, some es, h =>
      cases h
      cases x with
      | inl d' =>
        cases h1
        exact ⟨r.1, argR_of S (xs := xs) (vs := vs) h2 r.2⟩
      | inr i =>
        have h1 : ρ[i]?.bind Sl.mut = some d := h1
        match hr : ρ[i]?, h1 with
        | some q, h1 =>
          obtain ⟨a, ea, hO, w, _⟩ := S.mutAt hr h1
          have ev : v = .ref a := by
            have := r.1
            rw [ea] at this
            cases this
            rfl
          exact ⟨⟨a, ev, hO, w⟩, argR_of S (xs := xs) (vs := vs) h2 r.2⟩
theorem mutA_mem {a : Addr} : ∀ {xs : List (IV ⊕ Nat)} {vs : List V}, xs.length = vs.length → some a ∈ mutA (xs.map isR) vs → ∃ t j : Nat, xs[t]? = some (.inr j) ∧ vs[t]? = some (.ref a)
  | x :: xs, v :: vs, hl, h => by
    have tail : some a ∈ mutA (xs.map isR) vs → ∃ t j : Nat, (x :: xs)[t]? = some (.inr j) ∧ (v :: vs)[t]? = some (.ref a) := fun h => by
      obtain ⟨t, j, h1, h2⟩ := mutA_mem (xs := xs) (vs := vs) (by simpa using hl) h
      exact ⟨t + 1, j, by simpa using h1, by simpa using h2⟩
    cases x with
    | inl d =>
      have h' : some a ∈ none :: mutA (xs.map isR) vs := by
        have : mutA (false :: xs.map isR) (v :: vs) = none :: mutA (xs.map isR) vs := by cases v <;> rfl
        rw [← this]; exact h
      rcases List.mem_cons.mp h' with e | e
      · cases e
      · exact tail e
    | inr i =>
      cases v with
      | ref b =>
        have h' : some a ∈ some b :: mutA (xs.map isR) vs := h
        rcases List.mem_cons.mp h' with e | e
        · cases e
          exact ⟨0, i, rfl, rfl⟩
        · exact tail e
      | _ =>
        have h' : some a ∈ none :: mutA (xs.map isR) vs := h
        rcases List.mem_cons.mp h' with e | e
        · cases e
        · exact tail e
  | [], [], _, h => nomatch h
theorem mutA_of {a : Addr} : ∀ {xs : List (IV ⊕ Nat)} {vs : List V} {t j : Nat}, xs[t]? = some (.inr j) → vs[t]? = some (.ref a) → some a ∈ mutA (xs.map isR) vs
  | x :: xs, v :: vs, 0, j, h1, h2 => by
    have e1 : x = .inr j := by simpa using h1
    have e2 : v = .ref a := by simpa using h2
    subst e1 e2
    exact List.mem_cons_self
  | x :: xs, v :: vs, t + 1, j, h1, h2 => by
    have q := mutA_of (xs := xs) (vs := vs) (t := t) (by simpa using h1) (by simpa using h2)
    cases x with
    | inl d =>
      have : mutA (false :: xs.map isR) (v :: vs) = none :: mutA (xs.map isR) vs := by cases v <;> rfl
      show some a ∈ mutA (false :: xs.map isR) (v :: vs)
      rw [this]; exact List.mem_cons_of_mem _ q
    | inr i =>
      cases v with
      | ref b => exact List.mem_cons_of_mem _ q
      | _ => exact List.mem_cons_of_mem _ q
theorem nodup_addr {L O : List Addr} {σ : L2.St} {ρ : List Sl} {H : Hp} (S : SRel C L O σ ρ H) : ∀ {xs : List (IV ⊕ Nat)} {ds : List IV} {vs : List V}, argsD ρ xs = some ds → RlA C σ O H vs xs → (idxX xs).Nodup → ((mutA (xs.map isR) vs).filterMap id).Nodup
  | [], ds, [], _, _, _ => List.nodup_nil
  | x :: xs, ds, v :: vs, h, r, hn => by
    have h0 := h
    unfold argsD at h
    match h1 : argD ρ x, h2 : argsD ρ xs, h with
    | some d, some es, h =>
      cases x with
      | inl d' =>
        have : mutA (false :: xs.map isR) (v :: vs) = none :: mutA (xs.map isR) vs := by cases v <;> rfl
        show ((mutA (false :: xs.map isR) (v :: vs)).filterMap id).Nodup
        rw [this]
        exact nodup_addr S (xs := xs) (vs := vs) h2 r.2 hn
      | inr i =>
        have hn' : i ∉ idxX xs ∧ (idxX xs).Nodup := List.nodup_cons.mp hn
        have ih := nodup_addr S (xs := xs) (vs := vs) h2 r.2 hn'.2
        have h1 : ρ[i]?.bind Sl.mut = some d := h1
        match hr : ρ[i]?, h1 with
        | some q, h1 =>
          obtain ⟨a, ea, hO, w, _⟩ := S.mutAt hr h1
          have ev : v = .ref a := by
            have := r.1
            rw [ea] at this
            cases this
            rfl
          subst ev
          show (a :: (mutA (xs.map isR) vs).filterMap id).Nodup
          refine List.nodup_cons.mpr ⟨fun hm => ?_, ih⟩
          obtain ⟨o, ho, e⟩ := List.mem_filterMap.mp hm
          have e' : o = some a := e
          subst e'
          obtain ⟨t, j, g1, g2⟩ := mutA_mem (xs := xs) (vs := vs) (RlA.length r.2).symm ho
          obtain ⟨r', d', g3, g4, _⟩ := argsD_at h2 g1
          obtain ⟨u, g5, g6⟩ := RlA.at r.2 g1
          rw [g2] at g5
          cases g5
          have hij : i ≠ j := fun z => hn'.1 (z ▸ mem_idx g1)
          exact S.apart i j q r' a hij hr g3 (by rw [show q.mut = some d from h1]; rfl) (by rw [g4]; rfl) ea g6
theorem putM_len : ∀ (xs : List (IV ⊕ Nat)) (ms : List IV) (ρ : List Sl), (putM xs ms ρ).length = ρ.length
  | .inr i :: xs, m :: ms, ρ => by
    unfold putM
    rw [putM_len]
    split
    · exact List.length_set ..
    · rfl
  | .inl _ :: xs, m :: ms, ρ => by
    unfold putM
    exact putM_len xs ms ρ
  | [], _, _ => by unfold putM; rfl
  | .inr _ :: _, [], _ => by unfold putM; rfl
  | .inl _ :: _, [], _ => by unfold putM; rfl
theorem putM_out : ∀ (xs : List (IV ⊕ Nat)) (ms : List IV) (ρ : List Sl) {j : Nat}, j ∉ idxX xs → (putM xs ms ρ)[j]? = ρ[j]?
  | .inr i :: xs, m :: ms, ρ, j, h => by
    have h' : j ≠ i ∧ j ∉ idxX xs := by simpa [idxX] using h
    unfold putM
    rw [putM_out xs ms _ h'.2]
    split
    · rw [List.getElem?_set_ne (Ne.symm h'.1)]
    · rfl
  | .inl _ :: xs, m :: ms, ρ, j, h => by
    unfold putM
    exact putM_out xs ms ρ h
  | [], _, _, _, _ => by unfold putM; rfl
  | .inr _ :: _, [], _, _, _ => by unfold putM; rfl
  | .inl _ :: _, [], _, _, _ => by unfold putM; rfl
theorem putM_in : ∀ (xs : List (IV ⊕ Nat)) (ms : List IV) (ρ : List Sl) {t j : Nat} {r : Sl} {m : IV}, (idxX xs).Nodup → xs[t]? = some (.inr j) → ms[t]? = some m → ρ[j]? = some r → (putM xs ms ρ)[j]? = some (r.put m)
  | .inr i :: xs, m :: ms, ρ, 0, j, r, m', hn, e1, e2, hr => by
    have e1' : i = j := by simpa using e1
    have e2' : m = m' := by simpa using e2
    subst e1' e2'
    have hn' : i ∉ idxX xs ∧ (idxX xs).Nodup := List.nodup_cons.mp hn
    unfold putM
    rw [putM_out xs ms _ hn'.1, hr]
    show (ρ.set i (r.put m))[i]? = _
    rw [List.getElem?_set_self (List.getElem?_eq_some_iff.mp hr).1]
  | .inr i :: xs, m :: ms, ρ, t + 1, j, r, m', hn, e1, e2, hr => by
    have hn' : i ∉ idxX xs ∧ (idxX xs).Nodup := List.nodup_cons.mp hn
    have g1 : xs[t]? = some (.inr j) := by simpa using e1
    have hij : i ≠ j := fun z => hn'.1 (z ▸ mem_idx g1)
    unfold putM
    refine putM_in xs ms _ hn'.2 g1 (by simpa using e2) ?_
    split
    · rw [List.getElem?_set_ne hij]; exact hr
    · exact hr
  | .inl _ :: xs, m :: ms, ρ, 0, j, r, m', hn, e1, e2, hr => by simp at e1
  | .inl _ :: xs, m :: ms, ρ, t + 1, j, r, m', hn, e1, e2, hr => by
    unfold putM
    exact putM_in xs ms ρ hn (by simpa using e1) (by simpa using e2) hr
theorem mutR_at {O : List Addr} {H : Hp} : ∀ {xs : List (IV ⊕ Nat)} {vs : List V} {ms : List IV} {t j : Nat}, MutR C.K C.cl O H (xs.map isR) vs ms → xs[t]? = some (.inr j) → ∃ a m, vs[t]? = some (.ref a) ∧ ms[t]? = some m ∧ Own C.K C.cl O H a m
  | .inl _ :: xs, v :: vs, m :: ms, 0, j, h, e => by simp at e
  | .inl _ :: xs, v :: vs, m :: ms, t + 1, j, h, e => by
    obtain ⟨a, m', h1, h2, h3⟩ := mutR_at (xs := xs) (vs := vs) (ms := ms) (t := t) h (by simpa using e)
    exact ⟨a, m', by simpa using h1, by simpa using h2, h3⟩
  | .inr i :: xs, v :: vs, m :: ms, 0, j, h, e => by
    obtain ⟨⟨a, ea, w⟩, _⟩ := (show (∃ a, v = .ref a ∧ Own C.K C.cl O H a m) ∧ MutR C.K C.cl O H (xs.map isR) vs ms from h)
    exact ⟨a, m, by simp [ea], rfl, w⟩
  | .inr i :: xs, v :: vs, m :: ms, t + 1, j, h, e => by
    obtain ⟨a, m', h1, h2, h3⟩ := mutR_at (xs := xs) (vs := vs) (ms := ms) (t := t) (show (∃ a, v = .ref a ∧ Own C.K C.cl O H a m) ∧ MutR C.K C.cl O H (xs.map isR) vs ms from h).2 (by simpa using e)
    exact ⟨a, m', by simpa using h1, by simpa using h2, h3⟩
/-- the caller's store behind a call -/
theorem call_back {L O O' : List Addr} {σ : L2.St} {ρ : List Sl} {H H' : Hp} {xs : List (IV ⊕ Nat)} {ds ms : List IV} {vs : List V} (S : SRel C L O σ ρ H) (ha : argsD ρ xs = some ds) (r : RlA C σ O H vs xs) (hn : (idxX xs).Nodup)
    (fr : Fram H H' (mutA (xs.map isR) vs)) (mr : MutR C.K C.cl O' H' (xs.map isR) vs ms) (hO : ∀ a ∈ O, a ∈ O') (live : ∀ a ∈ O', a ∉ O → H' a ≠ none) (hR : ∀ ws es, RepAll C.K C.cl O H ws es → RepAll C.K C.cl O' H' ws es) : SRel C L O' σ (putM xs ms ρ) H' := by
  have own : ∀ {a : Addr}, a ∈ (mutA (xs.map isR) vs).filterMap id → ∃ (t j : Nat) (q : Sl) (d : IV), xs[t]? = some (.inr j) ∧ vs[t]? = some (.ref a) ∧ ρ[j]? = some q ∧ q.mut = some d ∧ σ[j]? = some (some (.ref a)) := fun {a} h => by
    obtain ⟨o, ho, e⟩ := List.mem_filterMap.mp h
    have e' : o = some a := e
    subst e'
    obtain ⟨t, j, g1, g2⟩ := mutA_mem (RlA.length r).symm ho
    obtain ⟨q, d, g3, g4, _⟩ := argsD_at ha g1
    obtain ⟨u, g5, g6⟩ := RlA.at r g1
    rw [g2] at g5
    cases g5
    exact ⟨t, j, q, d, g1, g2, g3, g4, g6⟩
  have back : ∀ a, a ∉ (mutA (xs.map isR) vs).filterMap id → some a ∉ mutA (xs.map isR) vs := fun a n z => n (List.mem_filterMap.mpr ⟨some a, z, rfl⟩)
  refine S.change (A := (mutA (xs.map isR) vs).filterMap id) hO (fun a h => ?_) (fun b o n e => fr b o e (back b n)) (fun a h => ?_) hR (putM_len xs ms ρ) (fun j q hq => ?_)
  · obtain ⟨t, j, q, d, g1, g2, g3, g4, g5⟩ := own h
    obtain ⟨b, eb, _, _, hm⟩ := S.mutAt g3 g4
    rw [g5] at eb
    cases eb
    exact hm
  · by_cases h1 : a ∈ O
    · by_cases h2 : a ∈ (mutA (xs.map isR) vs).filterMap id
      · obtain ⟨t, j, q, d, g1, g2, _⟩ := own h2
        obtain ⟨b, m, e1, e2, w⟩ := mutR_at mr g1
        rw [g2] at e1
        cases e1
        exact w.some_of
      · cases e : H a with
        | none => exact absurd e (S.live a h1)
        | some o => rw [fr a o e (back a h2)]; exact fun z => nomatch z
    · exact live a h h1
  · by_cases hj : j ∈ idxX xs
    · obtain ⟨t, ht⟩ := idx_mem hj
      obtain ⟨q', d, g3, g4, _⟩ := argsD_at ha ht
      rw [hq] at g3
      cases g3
      obtain ⟨u, g5, g6⟩ := RlA.at r ht
      obtain ⟨a, m, e1, e2, w⟩ := mutR_at mr ht
      rw [e1] at g5
      cases g5
      exact .inr ⟨m, a, putM_in xs ms ρ hn ht e2 hq, by rw [g4]; rfl, g6, w⟩
    · refine .inl ⟨by rw [putM_out xs ms ρ hj]; exact hq, fun a mu ea hA => ?_⟩
      obtain ⟨t, i, q', d, g1, g2, g3, g4, g5⟩ := own hA
      have hij : i ≠ j := fun z => hj (z ▸ mem_idx g1)
      exact S.apart i j q' q a hij g3 hq (by rw [g4]; rfl) mu g5 ea
end
end Mx


/-! Mx, part 4g: calls of the program's own defs. -/
namespace Mx
open PySem PySem.Spec PyProof.Rows L2
section
variable {T : Tab} {cs : CS} {k : Nat} {C : Ct} {W : WX} {N : List Str} {sc : Scope} {X : Cx}
theorem Post.bindE {α β γ δ : Type} {L O : List Addr} {σ : L2.St} {pr pr' : Bool} {H : Hp} {ρ : List Sl} {m : R α} {f : α → R γ} {Rl : Hp → β → α → Prop} {Rl' : Hp → δ → γ → Prop} {Q : δ → Hp → Prop} {Q1 : β → Hp → Prop} (h : Post C L O σ W pr' Rl' H (rBind m f ρ) Q)
    (k : ∀ a ρ1 v H1, m ρ = some (.ok a, ρ1) → Keep O H H1 → (pr = true → Same H H1) → SRel C L O σ ρ1 H1 → Rl H1 v a → Post C L O σ W pr' Rl' H (f a ρ1) Q → Q1 v H1) : Post C L O σ W pr Rl H (m ρ) Q1 := by
  unfold rBind at h
  match hm : m ρ, h with
  | none, h => exact h
  | some (.error x, ρ1), h => exact h
  | some (.ok a, ρ1), h => exact fun v H1 k1 s1 S q => k a ρ1 v H1 hm k1 s1 S q h
/-- own: the wish behind an expression that gives a new object -/
def PostO (C : Ct) (L O : List Addr) (σ : L2.St) (W : WX) (H : Hp) (r : Out IV) (Q : VK) : Prop := match r with
  | none => False
  | some (.ok d, ρ) => ∀ p H', H p = none → p ∉ O → C.H0 p = none → Keep O H H' → SRel C L O σ ρ H' → SRel C L (p :: O) σ ρ H' → Own C.K C.cl (p :: O) H' p d → Q (.ref p) H'
  | some (.error x, ρ) => ∀ c dd H', Keep O H H' → SRel C L O σ ρ H' → XRep C.K C.cl O H' c dd x → W c dd σ H'
def tEO (cs : CS) (C : Ct) (W : WX) (e : E) : TE := fun σ H Q => ∃ L O ρ, SRel C L O σ ρ H ∧ PostO C L O σ W H ((ev cs e).1 ρ) Q
theorem Keep.none {O : List Addr} {H H' : Hp} {p : Addr} (k : Keep O H H') (n : p ∉ O) (h : H' p = none) : H p = none := by
  cases e : H p with
  | none => rfl
  | some o => rw [k p o n e] at h; cases h
theorem As.kinds_pure : ∀ {as : As}, as.pure = true → ∀ b ∈ as.kinds, b = false
  | .nil, _, b, h => nomatch h
  | .v e r, h, b, hb => by
    have h' : (e.pure && r.pure) = true := h
    rw [Bool.and_eq_true] at h'
    rcases List.mem_cons.mp hb with z | z
    · exact z
    · exact As.kinds_pure h'.2 b z
  | .m i r, h, _, _ => nomatch h
theorem mutA_pure : ∀ {ms : List Bool} {vs : List V}, (∀ b ∈ ms, b = false) → ∀ a, some a ∉ mutA ms vs
  | [], vs, _, a => by unfold mutA; exact fun z => nomatch z
  | b :: ms, [], _, a => by cases b <;> (unfold mutA; exact fun z => nomatch z)
  | b :: ms, v :: vs, h, a => by
    have e : b = false := h b List.mem_cons_self
    subst e
    have : mutA (false :: ms) (v :: vs) = none :: mutA ms vs := by cases v <;> rfl
    rw [this]
    intro z
    rcases List.mem_cons.mp z with z | z
    · cases z
    · exact mutA_pure (fun b hb => h b (List.mem_cons_of_mem _ hb)) a z
theorem mutA_live {K : PySem.W.Frag} {cl : Nat → Option Addr} {O : List Addr} {H : Hp} : ∀ {ms : List Bool} {vs : List V} {ds : List IV} {a : Addr}, ArgR K cl O H ms vs ds → some a ∈ mutA ms vs → a ∈ O
  | [], [], [], a, _, z => nomatch z
  | false :: ms, v :: vs, d :: ds, a, h, z => by
    have : mutA (false :: ms) (v :: vs) = none :: mutA ms vs := by cases v <;> rfl
    rw [this] at z
    rcases List.mem_cons.mp z with z | z
    · cases z
    · exact mutA_live (show ArgR K cl O H ms vs ds from h.2) z
  | true :: ms, v :: vs, d :: ds, a, h, z => by
    obtain ⟨⟨b, rfl, hb, _⟩, h9⟩ := (show (∃ a, v = .ref a ∧ a ∈ O ∧ Own K cl O H a d) ∧ ArgR K cl O H ms vs ds from h)
    rcases List.mem_cons.mp z with z | z
    · cases z; exact hb
    · exact mutA_live (ms := ms) (vs := vs) (ds := ds) h9 z
theorem fram_keep {O : List Addr} {H H' : Hp} {M : List (Option Addr)} (f : Fram H H' M) (h : ∀ a, some a ∈ M → a ∈ O) : Keep O H H' := fun a o n e => f a o e fun z => n (h a z)
theorem RlA.len_kinds {σ : L2.St} {O : List Addr} {H : Hp} {vs : List V} {xs : List (IV ⊕ Nat)} {ms : List Bool} (r : RlA C σ O H vs xs) (h : xs.map isR = ms) : vs.length = ms.length := by
  rw [r.length, ← h, List.length_map]
/-- the call, its arguments worked out -/
theorem call_fin (CK : C.K = X.K) {f : Nat} {fn : Fn} {L O : List Addr} {σ : L2.St} {H1 : Hp} {ρ1 : List Sl} {xs : List (IV ⊕ Nat)} {vs : List V} {Q : VK} {pr vw : Bool} (S1 : SRel C L O σ ρ1 H1) (r1 : RlA C σ O H1 vs xs) (e1 : xs.map isR = fn.muts) (hl : fn.muts.length = fn.ps.length) (hn : (idxX xs).Nodup)
    (pu : pr = true → ∀ b ∈ fn.muts, b = false) (h1 : Post C L O σ W pr (RlE C vw O) H1 (rCall cs f xs ρ1) Q) : spF cs X.K C.cl f fn vs H1 Q (fun c d H' => W c d σ H') := by
  rw [← CK]
  unfold rCall at h1
  match hd : argsD ρ1 xs, h1 with
  | some ds, h1 =>
    have ar : ArgR C.K C.cl O H1 fn.muts vs ds := by rw [← e1]; exact argR_of S1 hd r1
    have nd : ((mutA fn.muts vs).filterMap id).Nodup := by rw [← e1]; exact nodup_addr S1 hd r1 hn
    have hin : ∀ a, some a ∈ mutA fn.muts vs → a ∈ O := fun a z => mutA_live ar z
    refine ⟨O, ds, S1.live, by rw [r1.len_kinds e1, hl], ar, nd, ?_⟩
    have pu' : pr = true → ∀ a, some a ∉ mutA fn.muts vs := fun z => mutA_pure (pu z)
    have back : ∀ {H' : Hp} {ms : List IV}, Fram H1 H' (mutA fn.muts vs) → MutR C.K C.cl O H' fn.muts vs ms → SRel C L O σ (putM xs ms ρ1) H' := fun {H' ms} fr mr => by
      rw [← e1] at fr mr hin
      exact call_back S1 hd r1 hn fr mr (fun _ z => z) (fun a z n => absurd z n) fun ws es r => r.keep (fram_keep fr hin)
    have h1 : Post C L O σ W pr (RlE C vw O) H1 ((match cs f ds with | none => none | some (r, ms) => some (r, putM xs ms ρ1) : Out IV)) Q := h1
    match hc : cs f ds, h1 with
    | none, h1 => exact h1.elim
    | some (.ok d, ms), h1 =>
      show if fn.own = true then _ else _
      cases ho : fn.own with
      | true =>
        rw [if_pos rfl]
        intro p H' hp fr mr w
        have np : p ∉ O := fun z => S1.live p z hp
        have le : ∀ a, a ∈ O → a ∈ p :: O := fun a z => List.mem_cons_of_mem _ z
        have rp := Own.rep np (w.less le)
        exact h1 _ H' (fram_keep fr hin) (fun z => fun a o e => fr a o e (pu' z a)) (back fr (mr.less le)) ⟨.inl rp, fun _ => rp⟩
      | false =>
        rw [if_neg Bool.false_ne_true]
        intro v H' fr mr rp
        exact h1 _ H' (fram_keep fr hin) (fun z => fun a o e => fr a o e (pu' z a)) (back fr mr) ⟨.inl rp, fun _ => rp⟩
    | some (.error x, ms), h1 => exact fun c dd H' fr mr xr => h1 c dd H' (fram_keep fr hin) (back fr mr) xr
theorem call_read (CK : C.K = X.K) {f : Nat} {fn : Fn} {as : As} (hk : as.kinds = fn.muts) (hl : fn.muts.length = fn.ps.length) (hn : as.idx.Nodup) {σ : L2.St} {H : Hp} {Q : VK} (h : tE cs C W (.call f as) σ H Q) :
    tAs cs C W as σ H fun vs H1 => spF cs X.K C.cl f fn vs H1 Q (fun c d H' => W c d σ H') := by
  obtain ⟨L, O, ρ, S, q⟩ := h
  refine ⟨L, O, ρ, S, Post.bindE q fun xs ρ1 vs H1 hm k1 s1 S1 r1 h1 => ?_⟩
  have h1 := Post.mono k1 s1 h1
  obtain ⟨e1, e2⟩ := evAs_shape as hm
  rw [hk] at e1
  rw [← e2] at hn
  exact call_fin CK S1 r1 e1 hl hn (fun z => by rw [← hk]; exact As.kinds_pure z) h1
theorem call_readO (CK : C.K = X.K) {f : Nat} {fn : Fn} {as : As} (ho : fn.own = true) (hk : as.kinds = fn.muts) (hl : fn.muts.length = fn.ps.length) (hn : as.idx.Nodup) {σ : L2.St} {H : Hp} {Q : VK} (h : tEO cs C W (.call f as) σ H Q) :
    tAs cs C W as σ H fun vs H1 => spF cs X.K C.cl f fn vs H1 Q (fun c d H' => W c d σ H') := by
  obtain ⟨L, O, ρ, S, q⟩ := h
  have q : PostO C L O σ W H ((rBind (evAs cs as) fun xs => rCall cs f xs) ρ) Q := q
  refine ⟨L, O, ρ, S, ?_⟩
  unfold rBind at q
  match hm : evAs cs as ρ, q with
  | none, q => exact q
  | some (.error x, ρ1), q => exact q
  | some (.ok xs, ρ1), q =>
    intro vs H1 k1 s1 S1 r1
    obtain ⟨e1, e2⟩ := evAs_shape as hm
    rw [hk] at e1
    rw [← e2] at hn
    rw [← CK]
    have q : PostO C L O σ W H (rCall cs f xs ρ1) Q := q
    unfold rCall at q
    match hd : argsD ρ1 xs, q with
    | some ds, q =>
      have ar : ArgR C.K C.cl O H1 fn.muts vs ds := by rw [← e1]; exact argR_of S1 hd r1
      have nd : ((mutA fn.muts vs).filterMap id).Nodup := by rw [← e1]; exact nodup_addr S1 hd r1 hn
      have hin : ∀ a, some a ∈ mutA fn.muts vs → a ∈ O := fun a z => mutA_live ar z
      refine ⟨O, ds, S1.live, by rw [r1.len_kinds e1, hl], ar, nd, ?_⟩
      have back : ∀ {H' : Hp} {ms : List IV}, Fram H1 H' (mutA fn.muts vs) → MutR C.K C.cl O H' fn.muts vs ms → SRel C L O σ (putM xs ms ρ1) H' := fun {H' ms} fr mr => by
        rw [← e1] at fr mr hin
        exact call_back S1 hd r1 hn fr mr (fun _ z => z) (fun a z n => absurd z n) fun ws es r => r.keep (fram_keep fr hin)
      have q : PostO C L O σ W H ((match cs f ds with | none => none | some (r, ms) => some (r, putM xs ms ρ1) : Out IV)) Q := q
      match hc : cs f ds, q with
      | none, q => exact q.elim
      | some (.ok d, ms), q =>
        show if fn.own = true then _ else _
        rw [if_pos ho]
        intro p H' hp fr mr w
        have np : p ∉ O := fun z => S1.live p z hp
        have le : ∀ a, a ∈ O → a ∈ p :: O := fun a z => List.mem_cons_of_mem _ z
        have S2 : SRel C L (p :: O) σ (putM xs ms ρ1) H' := by
          have fr' := fr
          have mr' := mr
          have hin' := hin
          rw [← e1] at fr' mr' hin'
          refine call_back S1 hd r1 hn fr' mr' le (fun a z n => ?_) fun ws es r => (r.more hp).keep (fram_keep fr' fun a z => le a (hin' a z))
          rcases List.mem_cons.mp z with z | z
          · rw [z]; exact w.some_of
          · exact absurd z n
        exact q p H' (k1.none np hp) np (S1.fresh hp).1 (k1.trans (fram_keep fr hin)) (back fr (mr.less le)) S2 w
      | some (.error x, ms), q => exact fun c dd H' fr mr xr => q c dd H' (k1.trans (fram_keep fr hin)) (back fr mr) xr
theorem as_star : ∀ {as : As} {xs : List Expr} {sc : Scope} {T : Tab} {N : List Str}, mAs T N as sc xs = true → xs.all notStar = true
  | .nil, xs, sc, T, N, h => by
    unfold mAs at h
    cases xs with
    | nil => rfl
    | cons y ys => cases h
  | .v e r, [], sc, T, N, h => rfl
  | .v e r, y :: ys, sc, T, N, h => by
    unfold mAs at h
    simp only [Bool.and_eq_true] at h
    rw [List.all_cons, h.1.2, as_star h.1.1.2]
    rfl
  | .m i r, xs, sc, T, N, h => by
    unfold mAs at h
    split at h
    · rw [Bool.and_eq_true] at h
      rw [List.all_cons, as_star h.2]
      rfl
    · cases h
theorem c_call (X' : XOk T cs k C W N sc X) {f : Nat} {fn : Fn} {as : As} {xs : List Expr} {y : Str} {p q : Pos} (hT : T.fns f = some fn) (hgl : fn.glob = true) (hcb : callB T fn = true) (hy : y = fn.name) (hg : gloB sc y = true) (hk : as.kinds = fn.muts) (hn : as.idx.Nodup) (hl : fn.muts.length = fn.ps.length)
    (hd : (y == ("__debug__" : Str)) = false) (hs : xs.all notStar = true) (ha : PA X xs (tAs cs C W as)) (h0 : xs = [] → as = .nil) : PE X (.Call (.Name y p) xs [] q) (tE cs C W (.call f as)) := by
  obtain ⟨a, fd, hat, hkp, hb, _, _, F⟩ := X'.facts.fns f fn hT (X'.gdf hcb).2
  have hm := hat.1 hgl
  have g := X'.gl hg
  subst hy
  cases xs with
  | nil =>
    refine (pe_callR0 F (X'.gdf hcb).1 X'.room0 X'.tk g hm hkp hb hd).imp fun σ H Q h => ?_
    have z := call_read X'.CK hk hl hn h
    rw [h0 rfl] at z
    obtain ⟨L, O, ρ, S, z⟩ := z
    exact Post.ok z S trivial
  | cons e es => exact (pe_callR F (X'.gdf hcb).1 X'.room0 X'.tk g hm hkp hb ha hs hd).imp fun σ H Q h => call_read X'.CK hk hl hn h
theorem c_callO (X' : XOk T cs k C W N sc X) {f : Nat} {fn : Fn} {as : As} {xs : List Expr} {y : Str} {p q : Pos} (hT : T.fns f = some fn) (hgl : fn.glob = true) (hcb : callB T fn = true) (ho : fn.own = true) (hy : y = fn.name) (hg : gloB sc y = true) (hk : as.kinds = fn.muts) (hn : as.idx.Nodup) (hl : fn.muts.length = fn.ps.length)
    (hd : (y == ("__debug__" : Str)) = false) (hs : xs.all notStar = true) (ha : PA X xs (tAs cs C W as)) (h0 : xs = [] → as = .nil) : PE X (.Call (.Name y p) xs [] q) (tEO cs C W (.call f as)) := by
  obtain ⟨a, fd, hat, hkp, hb, _, _, F⟩ := X'.facts.fns f fn hT (X'.gdf hcb).2
  have hm := hat.1 hgl
  have g := X'.gl hg
  subst hy
  cases xs with
  | nil =>
    refine (pe_callR0 F (X'.gdf hcb).1 X'.room0 X'.tk g hm hkp hb hd).imp fun σ H Q h => ?_
    have z := call_readO X'.CK ho hk hl hn h
    rw [h0 rfl] at z
    obtain ⟨L, O, ρ, S, z⟩ := z
    exact Post.ok z S trivial
  | cons e es => exact (pe_callR F (X'.gdf hcb).1 X'.room0 X'.tk g hm hkp hb ha hs hd).imp fun σ H Q h => call_readO X'.CK ho hk hl hn h
theorem c_lstO {es : Es} {xs : List Expr} {p : Pos} (hn : es.noView = true) (h : PA X xs (tEs cs C W es)) : PE X (.List xs p) (tEO cs C W (.lst es)) := by
  refine (pe_lst h).imp fun σ H Q ⟨L, O, ρ, S, q⟩ => ?_
  have q : PostO C L O σ W H ((rBind (evEs cs es) fun xs => rLift (if xs.length ≤ SZ then some (.lst xs) else none)) ρ) Q := q
  refine ⟨L, O, ρ, S, ?_⟩
  unfold rBind at q
  match hm : evEs cs es ρ, q with
  | none, q => exact q
  | some (.error x, ρ1), q => exact q
  | some (.ok ds, ρ1), q =>
    intro vs H1 k1 s1 S1 r1
    have ra := r1.2 hn
    have q : PostO C L O σ W H (rLift (if ds.length ≤ SZ then some (.lst ds) else none) ρ1) Q := q
    unfold rLift at q
    by_cases hz : ds.length ≤ SZ
    · rw [if_pos hz] at q
      refine ⟨szl (by rw [ra.length]; exact hz), fun p hp => ?_⟩
      have sm := same_new (o := HO.lst vs) hp
      exact q p _ (k1.none (fun z => S1.live p z hp) hp) (fun z => S1.live p z hp) (S1.fresh hp).1 (k1.trans (.same sm)) (S1.same sm) (S1.addO hp sm (by rw [upd_same]; exact fun z => nomatch z)) (.lst upd_same ((ra.more hp).keep (.same sm)))
    · rw [if_neg hz] at q
      exact q.elim
end
end Mx


/-! Mx, part 4h: targets, what is walked. -/
namespace Mx
open PySem PySem.Spec PyProof.Rows L2
/-- the changing objects grew from O to O' by new ones, all else is kept -/
structure Grow (O : List Addr) (H : Hp) (O' : List Addr) (H' : Hp) : Prop where
  keep : Keep O H H'
  new : ∀ a ∈ O', a ∈ O ∨ H a = none
theorem Grow.refl (O : List Addr) (H : Hp) : Grow O H O H := ⟨Keep.refl O H, fun _ h => .inl h⟩
theorem Grow.out {O O' : List Addr} {H H' : Hp} (g : Grow O H O' H') {a : Addr} (h : H a ≠ none) (n : a ∉ O) : a ∉ O' := fun z => (g.new a z).elim n h
theorem Grow.trans {O O1 O2 : List Addr} {H H1 H2 : Hp} (g : Grow O H O1 H1) (g' : Grow O1 H1 O2 H2) : Grow O H O2 H2 := by
  refine ⟨fun a o n e => g'.keep a o (g.out (by rw [e]; exact fun z => nomatch z) n) (g.keep a o n e), fun a h => ?_⟩
  rcases g'.new a h with z | z
  · exact g.new a z
  · by_cases ha : a ∈ O
    · exact .inl ha
    · right
      cases e : H a with
      | none => rfl
      | some o => rw [g.keep a o ha e] at z; cases z
theorem Grow.ofKeep {O : List Addr} {H H' : Hp} (k : Keep O H H') : Grow O H O H' := ⟨k, fun _ h => .inl h⟩
theorem Rd.ne {H : Hp} {a : Addr} {u : HO} (h : Rd H a u) : H a ≠ none := Rd.some_of h
section
variable {K : PySem.W.Frag} {cl : Nat → Option Addr} {O O' : List Addr} {H H' : Hp}
theorem XD.grow {fs : List (Str × V)} (g : Grow O H O' H') : ∀ {dd : Option Addr}, XD O H fs dd → XD O' H' fs dd
  | none, h => h
  | some _, h => ⟨g.keep _ _ h.2 h.1, g.out (by rw [h.1]; exact fun z => nomatch z) h.2⟩
mutual
theorem Rep.grow (g : Grow O H O' H') : ∀ {v : V} {d : IV}, Rep K cl O H v d → Rep K cl O' H' v d
  | _, _, .non => .non
  | _, _, .bl b => .bl b
  | _, _, .int i => .int i
  | _, _, .str l => .str l
  | _, _, .tupH h n r => .tupH (Rd.keep g.keep n h) (g.out (Rd.some_of h) n) (RepAll.grow g r)
  | _, _, .tupK h r => .tupK h (RepAll.grow g r)
  | _, _, .lstH h n r => .lstH (Rd.keep g.keep n h) (g.out (Rd.some_of h) n) (RepAll.grow g r)
  | _, _, .lstK h r => .lstK h (RepAll.grow g r)
  | _, _, .dctH h n e r => .dctH (Rd.keep g.keep n h) (g.out (Rd.some_of h) n) e (RepAll.grow g r)
  | _, _, .insH h c n e r => .insH (g.keep _ _ n h) c (g.out (by rw [h]; exact fun z => nomatch z) n) e (RepAll.grow g r)
  | _, _, .exc h c n x e r => .exc (g.keep _ _ n h) c (g.out (by rw [h]; exact fun z => nomatch z) n) (XD.grow g x) e (RepAll.grow g r)
  | _, _, .cls h => .cls h
theorem RepAll.grow (g : Grow O H O' H') : ∀ {vs : List V} {ds : List IV}, RepAll K cl O H vs ds → RepAll K cl O' H' vs ds
  | _, _, .nil => .nil
  | _, _, .cons r rr => .cons (Rep.grow g r) (RepAll.grow g rr)
end
theorem Rep.lstW {v : V} {ds : List IV} (h : Rep K cl O H v (.lst ds)) : ∃ a vs, v = .ref a ∧ RepAll K cl O H vs ds ∧ ∀ O2 H2, Grow O H O2 H2 → SqL K H2 a vs := by
  cases h with
  | lstH h n r => exact ⟨_, _, rfl, r, fun O2 H2 g => .inl (Rd.keep g.keep n h)⟩
  | lstK h r => exact ⟨_, _, rfl, r, fun O2 H2 g => SqL.ofK h⟩
theorem Rep.tupW {v : V} {ds : List IV} (h : Rep K cl O H v (.tup ds)) : ∃ a vs, v = .ref a ∧ RepAll K cl O H vs ds ∧ ∀ O2 H2, Grow O H O2 H2 → SqT K H2 a vs := by
  cases h with
  | tupH h n r => exact ⟨_, _, rfl, r, fun O2 H2 g => .inl (Rd.keep g.keep n h)⟩
  | tupK h r => exact ⟨_, _, rfl, r, fun O2 H2 g => SqT.ofK h⟩
end
/-! ### targets -/
def gTgs : List Nat → TGs
  | [] => gNil
  | i :: is => gCons (gName i) (gTgs is)
def gTg (K : PySem.W.Frag) : List Nat → TG
  | [i] => gName i
  | is => gTup K is.length (gTgs is)
section
variable {T : Tab} {cs : CS} {k : Nat} {C : Ct} {W : WX} {N : List Str} {sc : Scope} {X : Cx}
theorem pgs_of (hn : X.N.Nodup) (st : Sto N sc X) : ∀ {is : List Nat} {xs : List Expr}, tgsB N sc is xs = true → PGs X xs (gTgs is) ∧ (assignEach xs X.env).length = is.length ∧ (assignEach xs X.env).findIdx? (·.1) = none
  | [], [], _ => ⟨pgs_nil, rfl, rfl⟩
  | i :: is, .Name x p :: xs, h => by
    have h' : (storeB N sc i x && tgsB N sc is xs) = true := h
    rw [Bool.and_eq_true] at h'
    obtain ⟨h1, h2, h3⟩ := st _ _ h'.1
    obtain ⟨r1, r2, r3⟩ := pgs_of hn st h'.2
    have e : assignEach (.Name x p :: xs) X.env = (false, assign (.Name x p) X.env) :: assignEach xs X.env := rfl
    refine ⟨pgs_cons (pg_name hn h1 h2 h3) r1 (by rw [e]; rfl), by rw [e, List.length_cons, r2]; rfl, ?_⟩
    rw [e, List.findIdx?_cons, r3]
    rfl
  | [], _ :: _, h => nomatch h
  | _ :: _, [], h => nomatch h
theorem pg_of (hn : X.N.Nodup) (hc : X.calm = true) (st : Sto N sc X) {tg : List Nat} {t : Expr} (h : tgB N sc tg t = true) : PG X t (gTg X.K tg) := by
  match tg, t, h with
  | [i], .Name x p, h =>
    obtain ⟨h1, h2, h3⟩ := st _ _ h
    exact pg_name hn h1 h2 h3
  | i :: j :: is, .Tuple xs kk p, h =>
    have h' : (tgsB N sc (i :: j :: is) xs && decide (2 ≤ (i :: j :: is).length)) = true := h
    rw [Bool.and_eq_true] at h'
    obtain ⟨r1, r2, r3⟩ := pgs_of hn st h'.1
    exact pg_tup hc r1 r2 r3
  | [i], .Tuple xs kk p, h =>
    have h' : (tgsB N sc [i] xs && decide (2 ≤ [i].length)) = true := h
    rw [Bool.and_eq_true, decide_eq_true_eq] at h'
    exact absurd h'.2 (fun z => by simp at z)
  | [], .Tuple xs kk p, h =>
    have h' : (tgsB N sc [] xs && decide (2 ≤ ([] : List Nat).length)) = true := h
    rw [Bool.and_eq_true, decide_eq_true_eq] at h'
    exact absurd h'.2 (by decide)
theorem set_out {α : Type} {l : List α} {i j : Nat} {x : α} (h : j ≠ i) : (l.set i x)[j]? = l[j]? := by
  rw [List.getElem?_set_ne (fun z => h z.symm)]
theorem tgs_read {L O : List Addr} {H : Hp} : ∀ {is : List Nat} {σ : L2.St} {ρ : List Sl} {vs : List V} {ds : List IV} {Q : L2.St → Hp → Prop}, SRel C L O σ ρ H → RepAll C.K C.cl O H vs ds → ds.length = is.length →
    (∀ σ', SRel C L O σ' (setTgs is ds ρ) H → (∀ j, j ∉ is → σ'[j]? = σ[j]?) → σ'.length = σ.length → Q σ' H) → gTgs is vs σ H Q
  | [], σ, ρ, _, _, Q, S, .nil, _, h => ⟨rfl, h σ S (fun _ _ => rfl) rfl⟩
  | i :: is, σ, ρ, _, _, Q, S, .cons (v := v) (vs := vs) (d := d) (ds := ds) r rr, hl, h => by
    refine ⟨v, vs, rfl, ?_⟩
    show gTgs is vs (σ.set i (some v)) H Q
    refine tgs_read (S.setI r i) rr (Nat.succ.inj hl) fun σ' S' hj hn => h σ' S' (fun j nj => ?_) (by rw [hn, List.length_set])
    rw [hj j fun z => nj (List.mem_cons_of_mem _ z), set_out (fun z : j = i => nj (z ▸ List.mem_cons_self))]
  | [], _, _, _, _, _, _, .cons _ _, hl, _ => nomatch hl
  | _ :: _, _, _, _, _, _, _, .nil, hl, _ => nomatch hl
theorem tg_read {L O : List Addr} {H : Hp} {tg : List Nat} {σ : L2.St} {ρ ρ' : List Sl} {v : V} {d : IV} {Q : L2.St → Hp → Prop} (S : SRel C L O σ ρ H) (r : Rep C.K C.cl O H v d) (e : rTg tg d ρ = some (.ok (), ρ'))
    (h : ∀ σ', SRel C L O σ' ρ' H → (∀ j, j ∉ tg → σ'[j]? = σ[j]?) → σ'.length = σ.length → Q σ' H) : gTg C.K tg v σ H Q := by
  have many : ∀ is : List Nat, tg = is → (∀ i, is ≠ [i]) → gTup C.K is.length (gTgs is) v σ H Q := fun is et hi => by
    subst et
    have e' : (match d with
      | .tup ds => if ds.length = tg.length then some ((.ok () : Except Xn Unit), setTgs tg ds ρ) else none
      | _ => none) = some (.ok (), ρ') := by
      rw [← e]
      unfold rTg
      match tg, hi with
      | [], _ => rfl
      | [i], hi => exact absurd rfl (hi i)
      | i :: j :: r, _ => rfl
    match d, r, e' with
    | .tup ds, r, e' =>
      have e' : (if ds.length = tg.length then some ((.ok () : Except Xn Unit), setTgs tg ds ρ) else none) = some (.ok (), ρ') := e'
      split at e'
      · rename_i hl
        cases e'
        obtain ⟨a, vs, rfl, hs, rr⟩ := r.tupI
        exact ⟨a, vs, rfl, hs, by rw [rr.length, hl], tgs_read S rr hl h⟩
      · cases e'
  match tg, e, h, many with
  | [i], e, h, _ =>
    cases e
    exact h _ (S.setI r i) (fun j nj => set_out fun z => nj (z ▸ List.mem_cons_self)) (List.length_set ..)
  | [], e, h, many => exact many [] rfl (fun i z => nomatch z)
  | i :: j :: is, e, h, many => exact many _ rfl (fun i z => nomatch z)
theorem rTg_ok {tg : List Nat} {d : IV} {ρ ρ' : List Sl} {x : Except Xn Unit} (h : rTg tg d ρ = some (x, ρ')) : x = .ok () := by
  unfold rTg at h
  split at h
  · cases h; rfl
  · split at h
    · split at h
      · cases h; rfl
      · cases h
    · cases h
/-! ### what is walked -/
/-- a walk that gives the data ds -/
def WalkD (C : Ct) (O : List Addr) (H : Hp) (J : L2.It) (ds : List IV) : Prop := ∃ G Y, Walk J ds.length G Y ∧ (∀ O2 H2, Grow O H O2 H2 → G H2) ∧
  ∀ (i : Nat) (O2 : List Addr) (H2 : Hp) (x : V) (H3 : Hp) (d : IV), Grow O H O2 H2 → (∀ a ∈ O2, H2 a ≠ none) → ds[i]? = some d → Y i H2 x H3 → Same H2 H3 ∧ Rep C.K C.cl O2 H3 x d
def tIt (cs : CS) (C : Ct) (W : WX) (it : It) : TI := tR C W it.pure (fun O H J ds => WalkD C O H J ds) (evIt cs it)
theorem _root_.L2.PI.imp {tg e : Expr} {t t' : TI} (h : PI X tg e t) (hi : ∀ σ H Q, t' σ H Q → t σ H Q) : PI X tg e t' := ⟨fun pins s σ H Q I q => h.run pins s σ H Q I (hi σ H Q q)⟩
theorem walkD_lst {O : List Addr} {H : Hp} {a : Addr} {vs : List V} {ds : List IV} (r : RepAll C.K C.cl O H vs ds) (hs : ∀ O2 H2, Grow O H O2 H2 → SqL C.K H2 a vs) : WalkD C O H (Itl C.K a) ds := by
  refine ⟨_, _, r.length ▸ walk_list (xs := vs), hs, fun i O2 H2 x H3 d g lv hd y => ?_⟩
  obtain ⟨rfl, hx⟩ := y
  obtain ⟨d', hd', rp⟩ := (r.grow g).getV hx
  rw [hd] at hd'
  cases hd'
  exact ⟨Same.refl _, rp⟩
theorem walkD_tup {O : List Addr} {H : Hp} {a : Addr} {vs : List V} {ds : List IV} (r : RepAll C.K C.cl O H vs ds) (hs : ∀ O2 H2, Grow O H O2 H2 → SqT C.K H2 a vs) : WalkD C O H (Itt C.K a) ds := by
  refine ⟨_, _, r.length ▸ walk_tup (xs := vs), hs, fun i O2 H2 x H3 d g lv hd y => ?_⟩
  obtain ⟨rfl, hx⟩ := y
  obtain ⟨d', hd', rp⟩ := (r.grow g).getV hx
  rw [hd] at hd'
  cases hd'
  exact ⟨Same.refl _, rp⟩
theorem walkD_str {O : List Addr} {H : Hp} {l : List Nat} : WalkD C O H (Its (sOf l)) (l.map fun c => .str [c]) := by
  have hn : (sOf l).cps.size = (l.map fun c => IV.str [c]).length := by rw [List.length_map]; simp [sOf]
  refine ⟨_, _, hn ▸ walk_str (z := sOf l), fun _ _ _ => trivial, fun i O2 H2 x H3 d g lv hd y => ?_⟩
  obtain ⟨rfl, c, hc, rfl⟩ := y
  have hc' : l[i]? = some c := by simpa [sOf] using hc
  rw [List.getElem?_map, hc'] at hd
  cases hd
  exact ⟨Same.refl _, .str [c]⟩
theorem walkD_rng {O : List Addr} {H : Hp} {lo : Int} {n : Nat} : WalkD C O H (Itr lo n) ((List.range n).map fun i => .int (lo + (i : Nat))) := by
  have hn : n = ((List.range n).map fun i => IV.int (lo + (i : Nat))).length := by rw [List.length_map, List.length_range]
  have w := walk_range (lo := lo) (n := n)
  have w : Walk (Itr lo n) ((List.range n).map fun i => IV.int (lo + (i : Nat))).length (fun _ => True) (YFn fun i => .int (lo + i)) := by rw [← hn]; exact w
  refine ⟨_, _, w, fun _ _ _ => trivial, fun i O2 H2 x H3 d g lv hd y => ?_⟩
  obtain ⟨rfl, rfl⟩ := y
  rw [List.getElem?_map] at hd
  cases hr : (List.range n)[i]? with
  | none => rw [hr] at hd; cases hd
  | some j =>
    rw [hr] at hd
    cases hd
    rw [List.getElem?_eq_some_iff] at hr
    obtain ⟨hi, e⟩ := hr
    rw [List.getElem_range] at e
    subst e
    exact ⟨Same.refl _, .int _⟩
theorem enumD_get {α : Type} {f : Nat → α → IV} : ∀ {l : List α} {n i : Nat}, (enumD f n l)[i]? = (l[i]?).map (f (n + i))
  | [], n, i => rfl
  | x :: r, n, 0 => rfl
  | x :: r, n, i + 1 => by
    show (enumD f (n + 1) r)[i]? = (r[i]?).map (f (n + (i + 1)))
    rw [enumD_get, show n + 1 + i = n + (i + 1) from by omega]
theorem enumD_len {α : Type} {f : Nat → α → IV} : ∀ {l : List α} {n : Nat}, (enumD f n l).length = l.length
  | [], n => rfl
  | x :: r, n => by show (enumD f (n + 1) r).length + 1 = _; rw [enumD_len]; rfl
theorem walkD_enum {O : List Addr} {H : Hp} {a : Addr} {vs : List V} {ds : List IV} (r : RepAll C.K C.cl O H vs ds) (hs : ∀ O2 H2, Grow O H O2 H2 → SqL C.K H2 a vs) : WalkD C O H (Ite C.K a) (enumD (fun n x => .tup [.int (n : Nat), x]) 0 ds) := by
  have hn : vs.length = (enumD (fun n x => IV.tup [.int (n : Nat), x]) 0 ds).length := by rw [enumD_len, r.length]
  refine ⟨_, _, hn ▸ walk_enum (xs := vs), hs, fun i O2 H2 x H3 d g lv hd y => ?_⟩
  obtain ⟨p, y1, y2, rfl, hp, rfl, e1, e2⟩ := y
  cases e1
  obtain ⟨d', hd', rp⟩ := (r.grow g).getV e2
  rw [enumD_get, hd'] at hd
  cases hd
  rw [Nat.zero_add]
  exact ⟨same_new hp, rep_newT lv hp (.cons (.int _) (.cons rp .nil))⟩
theorem it_one {e : E} {pr : Bool} {f : IV → Option (List IV)} {wi : TE → TI} (hv : e.isView = false) {σ : L2.St} {H : Hp} {R : L2.It → Hp → Prop} (h : tR C W e.pure (fun O H J ds => WalkD C O H J ds) (rBind (ev cs e).1 fun x => rLift (f x)) σ H R)
    {Q : VK} (hw : ∀ O H1 v d ds, Rep C.K C.cl O H1 v d → f d = some ds → (∀ J, WalkD C O H1 J ds → R J H1) → Q v H1) : tE cs C W e σ H Q := by
  obtain ⟨L, O, ρ, S, q⟩ := h
  refine ⟨L, O, ρ, S, q.bind fun d ρ1 v H1 k1 s1 S1 r1 h1 => ?_⟩
  unfold rLift at h1
  match hf : f d, h1 with
  | some ds, h1 => exact hw O H1 v d ds (r1.2 hv) hf fun J w => h1 J H1 k1 s1 S1 w
theorem i_lst (X' : XOk T cs k C W N sc X) {e : E} {t x : Expr} (hv : e.isView = false) (he : PE X x (tE cs C W e)) : PI X t x (tIt cs C W (.lst e)) := by
  refine (pi_list he).imp fun σ H R h => ?_
  refine it_one (pr := e.pure) (wi := iList X.K) hv h fun O H1 v d ds r hf hR => ?_
  match d, r, hf with
  | .lst xs, r, hf =>
    cases hf
    obtain ⟨a, vs, rfl, rr, hs⟩ := r.lstW
    rw [← X'.CK]
    exact ⟨a, rfl, ⟨vs, hs O H1 (Grow.refl O H1)⟩, hR _ (walkD_lst rr hs)⟩
theorem i_tup (X' : XOk T cs k C W N sc X) {e : E} {t x : Expr} (hv : e.isView = false) (he : PE X x (tE cs C W e)) : PI X t x (tIt cs C W (.tup e)) := by
  refine (pi_tup he).imp fun σ H R h => ?_
  refine it_one (pr := e.pure) (wi := iList X.K) hv h fun O H1 v d ds r hf hR => ?_
  match d, r, hf with
  | .tup xs, r, hf =>
    cases hf
    obtain ⟨a, vs, rfl, rr, hs⟩ := r.tupW
    rw [← X'.CK]
    exact ⟨a, rfl, ⟨vs, hs O H1 (Grow.refl O H1)⟩, hR _ (walkD_tup rr hs)⟩
theorem i_txt {e : E} {t x : Expr} (hv : e.isView = false) (he : PE X x (tE cs C W e)) : PI X t x (tIt cs C W (.txt e)) := by
  refine (pi_str he).imp fun σ H R h => ?_
  refine it_one (pr := e.pure) (wi := iList X.K) hv h fun O H1 v d ds r hf hR => ?_
  match d, r, hf with
  | .str l, r, hf =>
    cases hf
    cases r
    exact ⟨_, rfl, hR _ walkD_str⟩
theorem star1 {z : Expr} (h : notStar z = true) (env : Env) : starEach [z] env = [(false, eval z env)] := by rw [star_one h]; rfl
theorem i_rng (X' : XOk T cs k C W N sc X) {e : E} {t z : Expr} {y : Str} {p q : Pos} (hy : y = ("range" : Str)) (hg : gloB sc y = true) (hb : T.blt.contains y = true) (hz : notStar z = true) (hv : e.isView = false) (he : PE X z (tE cs C W e)) : PI X t (.Call (.Name y p) [z] [] q) (tIt cs C W (.rng e)) := by
  subst hy
  refine (pi_range1 (X'.gl hg) (X'.bl hb) (pa_cons he pa_nil (star1 hz _)) (star1 hz _)).imp fun σ H R h => ?_
  refine it_one (pr := e.pure) (wi := iList X.K) hv h fun O H1 v d ds r hf hR => ?_
  match d, r, hf with
  | .int n, r, hf =>
    cases r
    have hf : (if -(2 ^ 62) ≤ n ∧ n < 2 ^ 62 then some ((List.range n.toNat).map fun i => IV.int (i : Nat)) else none) = some ds := hf
    split at hf
    · rename_i hb
      cases hf
      refine ⟨n, rfl, hb.1, hb.2, hR _ ?_⟩
      have := walkD_rng (C := C) (O := O) (H := H1) (lo := 0) (n := n.toNat)
      simpa using this
    · cases hf
theorem i_enu (X' : XOk T cs k C W N sc X) {e : E} {z : Expr} {y : Str} {p q : Pos} {elts : List Expr} {kk : Nat} {tpos : Pos} (hy : y = ("enumerate" : Str)) (hg : gloB sc y = true) (hb : T.blt.contains y = true) (hz : notStar z = true) (hv : e.isView = false) (he : PE X z (tE cs C W e)) :
    PI X (.Tuple elts kk tpos) (.Call (.Name y p) [z] [] q) (tIt cs C W (.enu e)) := by
  subst hy
  refine (pi_enum (X'.gl hg) (X'.bl hb) (pa_cons he pa_nil (star1 hz _)) (star1 hz _)).imp fun σ H R h => ?_
  refine it_one (pr := e.pure) (wi := iList X.K) hv h fun O H1 v d ds r hf hR => ?_
  match d, r, hf with
  | .lst xs, r, hf =>
    cases hf
    obtain ⟨a, vs, rfl, rr, hs⟩ := r.lstW
    rw [← X'.CK]
    exact ⟨a, vs, rfl, hs O H1 (Grow.refl O H1), hR _ (walkD_enum rr hs)⟩
theorem i_rng2 (X' : XOk T cs k C W N sc X) {e e' : E} {t z w : Expr} {y : Str} {p q : Pos} (hy : y = ("range" : Str)) (hg : gloB sc y = true) (hb : T.blt.contains y = true) (hz : notStar z = true) (hz' : notStar w = true) (hv : e.isView = false) (hv' : e'.isView = false)
    (he : PE X z (tE cs C W e)) (he' : PE X w (tE cs C W e')) : PI X t (.Call (.Name y p) [z, w] [] q) (tIt cs C W (.rng2 e e')) := by
  subst hy
  have s2 : starEach [z, w] X.env = [(false, eval z X.env), (false, eval w X.env)] := by rw [star_one hz, star1 hz']
  refine (pi_range2 (X'.gl hg) (X'.bl hb) (pa_cons he (pa_cons he' pa_nil (star1 hz' _)) (star_one hz _ _)) s2 (star1 hz' _)).imp fun σ H R h => ?_
  obtain ⟨L, O, ρ, S, q⟩ := h
  refine ⟨L, O, ρ, S, q.bind fun d ρ1 v H1 k1 s1 S1 r1 h1 => ?_⟩
  refine ⟨L, O, ρ1, S1, (h1.mono k1 fun e => s1 (by simp [It.pure] at e; exact e.1)).bind fun d' ρ2 v' H2 k2 s2 S2 r2 h2 => ?_⟩
  have r1 := (r1.2 hv).keep k2
  have r2 := r2.2 hv'
  unfold rLift at h2
  match hf : seqR2 d d', h2 with
  | some ds, h2 =>
    match d, d', hf, r1, r2 with
    | .int m, .int n, hf, r1, r2 =>
      cases r1; cases r2
      have hf : (if -(2 ^ 62) ≤ m ∧ m < 2 ^ 62 ∧ -(2 ^ 62) ≤ n ∧ n < 2 ^ 62 then some ((List.range (n - m).toNat).map fun i => IV.int (m + (i : Nat))) else none) = some ds := hf
      split at hf
      · rename_i hb
        cases hf
        exact ⟨m, n, rfl, hb, h2 _ H2 k2 (fun e => s2 (by simp [It.pure] at e; exact e.2)) S2 walkD_rng⟩
      · cases hf
end
end Mx


/-! Mx, part 4i: comprehensions. -/
namespace Mx
open PySem PySem.Spec PyProof.Rows L2
section
variable {C : Ct} {L O : List Addr} {σ σ' : L2.St} {ρ ρ' : List Sl} {H : Hp} {D : Addr}
/-- slots forgotten or told anew, all but those of tg as they were -/
theorem SRel.swap (S : SRel C L O σ ρ H) {tg : List Nat} (hl : σ'.length = σ.length) (hr : ρ'.length = ρ.length) (h1 : ∀ j, j ∉ tg → σ'[j]? = σ[j]? ∧ ρ'[j]? = ρ[j]?) (h2 : ∀ j r, j ∈ tg → ρ'[j]? = some r → r = .e) : SRel C L O σ' ρ' H := by
  refine ⟨by rw [hl, hr, S.len], fun i s r e1 e2 => ?_, S.lsub, S.sub, S.msub, S.live, fun i j r q a hij e1 e2 m1 m2 e3 e4 => ?_, S.frame⟩
  · by_cases hi : i ∈ tg
    · rw [h2 i r hi e2]; trivial
    · obtain ⟨z1, z2⟩ := h1 i hi
      rw [z1] at e1; rw [z2] at e2
      exact S.slot i s r e1 e2
  · have hi : i ∉ tg := fun z => by rw [h2 i r z e1] at m1; cases m1
    have hj : j ∉ tg := fun z => by rw [h2 j q z e2] at m2; cases m2
    rw [(h1 i hi).2] at e1
    rw [(h1 i hi).1] at e3
    rw [(h1 j hj).2] at e2
    rw [(h1 j hj).1] at e4
    exact S.apart i j r q a hij e1 e2 m1 m2 e3 e4
theorem clear_len : ∀ {tg : List Nat} {ρ : List Sl}, (clear tg ρ).length = ρ.length
  | [], ρ => rfl
  | i :: is, ρ => by unfold clear; rw [clear_len, List.length_set]
theorem clear_out : ∀ {tg : List Nat} {ρ : List Sl} {j : Nat}, j ∉ tg → (clear tg ρ)[j]? = ρ[j]?
  | [], ρ, j, _ => rfl
  | i :: is, ρ, j, h => by
    unfold clear
    rw [clear_out fun z => h (List.mem_cons_of_mem _ z), set_out (fun z : j = i => h (z ▸ List.mem_cons_self))]
theorem clear_in : ∀ {tg : List Nat} {ρ : List Sl} {j : Nat}, j ∈ tg → j < ρ.length → (clear tg ρ)[j]? = some .e
  | i :: is, ρ, j, h, hl => by
    unfold clear
    by_cases hj : j ∈ is
    · exact clear_in hj (by rw [List.length_set]; exact hl)
    · have e : j = i := (List.mem_cons.mp h).resolve_right hj
      subst e
      rw [clear_out hj, List.getElem?_set_self hl]
theorem clear_e {tg : List Nat} {ρ : List Sl} {j : Nat} {r : Sl} (h : j ∈ tg) (e : (clear tg ρ)[j]? = some r) : r = .e := by
  have hl : j < ρ.length := by have := (List.getElem?_eq_some_iff.mp e).1; rw [clear_len] at this; exact this
  rw [clear_in h hl] at e
  cases e; rfl
theorem empty_at {tg : List Nat} {ρ : List Sl} (h : empty tg ρ = true) {j : Nat} (hj : j ∈ tg) : ρ[j]? = some .e := by
  unfold empty at h
  rw [List.all_eq_true] at h
  have z := h j hj
  split at z
  · assumption
  · cases z
theorem empty_clear {tg : List Nat} {ρ : List Sl} (h : ∀ j ∈ tg, j < ρ.length) : empty tg (clear tg ρ) = true := by
  unfold empty
  rw [List.all_eq_true]
  intro j hj
  rw [clear_in hj (h j hj)]
theorem light_at {tg : List Nat} {ρ : List Sl} (h : light tg ρ = true) {j : Nat} (hj : j ∈ tg) : ∃ r, ρ[j]? = some r ∧ r.light = true := by
  unfold light at h
  rw [List.all_eq_true] at h
  have z := h j hj
  split at z
  · rename_i r e; exact ⟨r, e, z⟩
  · cases z
theorem back_len : ∀ {tg : List Nat} {ρ ρ' : List Sl}, (back tg ρ ρ').length = ρ'.length
  | [], ρ, ρ' => rfl
  | i :: is, ρ, ρ' => by
    unfold back
    rw [back_len]
    split
    · rw [List.length_set]
    · rfl
theorem back_out : ∀ {tg : List Nat} {ρ ρ' : List Sl} {j : Nat}, j ∉ tg → (back tg ρ ρ')[j]? = ρ'[j]?
  | [], ρ, ρ', j, _ => rfl
  | i :: is, ρ, ρ', j, h => by
    unfold back
    rw [back_out fun z => h (List.mem_cons_of_mem _ z)]
    split
    · rw [set_out (fun z : j = i => h (z ▸ List.mem_cons_self))]
    · rfl
theorem back_in : ∀ {tg : List Nat} {ρ ρ' : List Sl} {j : Nat}, j ∈ tg → ρ.length = ρ'.length → (back tg ρ ρ')[j]? = ρ[j]?
  | i :: is, ρ, ρ', j, h, hl => by
    unfold back
    by_cases hj : j ∈ is
    · refine back_in hj ?_
      split
      · rw [List.length_set]; exact hl
      · exact hl
    · have e : j = i := (List.mem_cons.mp h).resolve_right hj
      subst e
      rw [back_out hj]
      cases hr : ρ[j]? with
      | none =>
        rw [List.getElem?_eq_none_iff] at hr
        exact List.getElem?_eq_none (by rw [← hl]; exact hr)
      | some r =>
        have := (List.getElem?_eq_some_iff.mp hr).1
        rw [List.getElem?_set_self (by rw [← hl]; exact this)]
/-- out of the comprehension -/
theorem SRel.back {σ : L2.St} {ρ ρ' : List Sl} {H' : Hp} {tg : List Nat} (S0 : SRel C L O σ ρ H) (S : SRel C L O (wipe σ tg) ρ' H') (hl : light tg ρ = true) (k : Keep O H H') : SRel C L O σ (back tg ρ ρ') H' := by
  have ln : ρ.length = ρ'.length := by rw [← S0.len, ← S.len, wipe_length]
  have nm : ∀ {j : Nat} {r : Sl}, (Mx.back tg ρ ρ')[j]? = some r → r.mut.isSome = true → j ∉ tg := fun {j r} e m hj => by
    rw [back_in hj ln] at e
    obtain ⟨r', e', z⟩ := light_at hl hj
    rw [e] at e'
    cases e'
    cases r with
    | e => cases m
    | i d => cases m
    | o d => cases z
    | b d => cases z
  refine ⟨by rw [back_len, ← ln, S0.len], fun i s r e1 e2 => ?_, S.lsub, S.sub, S.msub, S.live, fun i j r q a hij e1 e2 m1 m2 e3 e4 => ?_, S.frame⟩
  · by_cases hi : i ∈ tg
    · rw [back_in hi ln] at e2
      obtain ⟨r', e', z⟩ := light_at hl hi
      rw [e2] at e'
      cases e'
      have q := S0.slot i s r e1 e2
      cases r with
      | e => trivial
      | i d => obtain ⟨v, ev, rp⟩ := q; exact ⟨v, ev, rp.keep k⟩
      | o d => cases z
      | b d => cases z
    · rw [back_out hi] at e2
      rw [← wipe_out hi] at e1
      exact S.slot i s r e1 e2
  · have hi := nm e1 m1
    have hj := nm e2 m2
    rw [back_out hi] at e1
    rw [back_out hj] at e2
    rw [← wipe_out hi] at e3
    rw [← wipe_out hj] at e4
    exact S.apart i j r q a hij e1 e2 m1 m2 e3 e4
theorem wipe_in : ∀ {tg : List Nat} {σ : L2.St} {j : Nat}, j ∈ tg → j < σ.length → (wipe σ tg)[j]? = some none
  | i :: is, σ, j, h, hl => by
    unfold wipe
    by_cases hj : j = i
    · subst hj
      rw [List.getElem?_set_self (by rw [wipe_length]; exact hl)]
    · rw [set_out hj]
      exact wipe_in ((List.mem_cons.mp h).resolve_left hj) hl
theorem wipe_eq {tg : List Nat} (hl : σ'.length = σ.length) (h : ∀ j, j ∉ tg → σ'[j]? = (wipe σ tg)[j]?) : wipe σ' tg = wipe σ tg := by
  apply List.ext_getElem?
  intro j
  by_cases hj : j ∈ tg
  · by_cases hi : j < σ.length
    · rw [wipe_in hj hi, wipe_in hj (by rw [hl]; exact hi)]
    · rw [List.getElem?_eq_none (by rw [wipe_length, hl]; omega), List.getElem?_eq_none (by rw [wipe_length]; omega)]
  · rw [wipe_out hj, h j hj]
/-- the context in which the object at D stands as o -/
def Ct.with (C : Ct) (D : Addr) (o : HO) : Ct := { C with O0 := D :: C.O0, H0 := upd C.H0 D o }
theorem SRel.hold {o : HO} (S : SRel C L (D :: O) σ ρ H) (hL : ∀ a ∈ L, a ∈ O) (hD : D ∉ O) (h0 : C.H0 D = none) (e : H D = some o) : SRel (C.with D o) L (D :: O) σ ρ H := by
  refine ⟨S.len, fun i s r e1 e2 => ?_, S.lsub, fun a ha => ?_, fun i a ha => List.mem_cons_of_mem _ (S.msub i a ha), S.live, S.apart, fun a o' e1 e2 => ?_⟩
  · have z := S.slot i s r e1 e2
    cases r with
    | e => trivial
    | i d => exact z
    | b d => exact z
    | o d =>
      obtain ⟨a, ea, n1, n2, n3, w⟩ := z
      have na : a ≠ D := fun z => hD (z ▸ hL a n1)
      refine ⟨a, ea, n1, fun z => ?_, ?_, w⟩
      · rcases List.mem_cons.mp z with z | z
        · exact na z
        · exact n2 z
      · show upd C.H0 D o a = none
        rw [upd_ne na]; exact n3
  · rcases List.mem_cons.mp ha with z | z
    · rw [z]; exact List.mem_cons_self
    · exact S.sub a z
  · have e1 : upd C.H0 D o a = some o' := e1
    by_cases ha : a = D
    · subst ha
      rw [upd_same] at e1
      cases e1
      exact e
    · rw [upd_ne ha] at e1
      exact S.frame a o' e1 e2
theorem SRel.unhold {o : HO} (S : SRel (C.with D o) L (D :: O) σ ρ H) (h0 : C.H0 D = none) (hD : D ∉ O) (hs : ∀ a ∈ C.O0, a ∈ O) (ms : ∀ (i : Nat) (a : Addr), C.M[i]? = some (some a) → a ∈ C.O0) : SRel C L (D :: O) σ ρ H ∧ H D = some o := by
  refine ⟨⟨S.len, fun i s r e1 e2 => ?_, S.lsub, fun a ha => List.mem_cons_of_mem _ (hs a ha), ms, S.live, S.apart, fun a o' e1 e2 => ?_⟩, ?_⟩
  · have z := S.slot i s r e1 e2
    cases r with
    | e => trivial
    | i d => exact z
    | b d => exact z
    | o d =>
      obtain ⟨a, ea, n1, n2, n3, w⟩ := z
      have na : a ≠ D := fun z => n2 (z ▸ List.mem_cons_self)
      refine ⟨a, ea, n1, fun z => n2 (List.mem_cons_of_mem _ z), ?_, w⟩
      have n3 : upd C.H0 D o a = none := n3
      rw [upd_ne na] at n3; exact n3
  · have na : a ≠ D := fun z => by rw [z, h0] at e1; cases e1
    exact S.frame a o' (show upd C.H0 D o a = some o' by rw [upd_ne na]; exact e1) e2
  · refine S.frame D o (show upd C.H0 D o D = some o from upd_same) fun z => ?_
    obtain ⟨i, hi⟩ := List.getElem?_of_mem z
    exact hD (hs D (ms i D hi))
theorem SRel.poke (S : SRel C L (D :: O) σ ρ H) (hL : ∀ a ∈ L, a ∈ O) (hs : ∀ a ∈ C.O0, a ∈ O) (hD : D ∉ O) (h0 : C.H0 D = none) (o : HO) : SRel C L (D :: O) σ ρ (upd H D o) := by
  have k : Keep (D :: O) H (upd H D o) := fun a o' n e => by rw [upd_ne (fun z : a = D => n (z ▸ List.mem_cons_self))]; exact e
  refine S.change (A := [D]) (fun a ha => ha) (fun a ha => ?_) (fun b o' n e => by rw [upd_ne (fun z : b = D => n (z ▸ List.mem_cons_self))]; exact e) (fun a ha => ?_) (fun vs ds r => r.keep k) rfl (fun j r h => .inl ⟨h, fun a m ea z => ?_⟩)
  · have e : a = D := by simpa using ha
    rw [e]; exact .inr h0
  · by_cases e : a = D
    · rw [e, upd_same]; exact fun z => nomatch z
    · rw [upd_ne e]; exact S.live a ha
  · have e : a = D := by simpa using z
    subst e
    have q := S.slot j _ r ea h
    cases r with
    | e => cases m
    | i d => cases m
    | o d => obtain ⟨b, eb, n1, _⟩ := q; cases eb; exact hD (hL _ n1)
    | b d => obtain ⟨b, eb, n1, _⟩ := q; cases eb; exact hD (hs _ (S.msub _ _ n1))
end
abbrev W0 : WX := fun _ _ _ _ => False
section
variable {T : Tab} {cs : CS} {k : Nat} {C : Ct} {W : WX} {N : List Str} {sc : Scope} {X : Cx}
theorem XOk.with (X' : XOk T cs k C W N sc X) (D : Addr) (o : HO) : XOk T cs k (C.with D o) W N sc X :=
  ⟨X'.hN, X'.nd, X'.visx, X'.glox, X'.frex, X'.calm, X'.gd, X'.room, X'.tk, X'.po, X'.CK, X'.facts⟩
theorem lookup_rel {env : Env} : ∀ (names : List (Str × NameKind)) (x : Str), (names.map fun (n, k) => if (k == NameKind.free && env.scope.kind == .function && env.kindOf n == some .cell) then (n, NameKind.cell) else (n, k)).lookup x =
    (names.lookup x).map fun k => if (k == NameKind.free && env.scope.kind == .function && env.kindOf x == some .cell) then NameKind.cell else k
  | [], x => rfl
  | (n, k) :: r, x => by
    have ih := @lookup_rel env r x
    show List.lookup x ((if (k == NameKind.free && env.scope.kind == .function && env.kindOf n == some .cell) = true then (n, NameKind.cell) else (n, k)) :: _) = _
    cases hx : x == n with
    | true =>
      have e : x = n := eq_of_beq hx
      subst e
      by_cases hc : (k == NameKind.free && env.scope.kind == .function && env.kindOf x == some .cell) = true
      · rw [if_pos hc]; simp only [List.lookup_cons, hx, Option.map_some]; rw [if_pos hc]
      · rw [if_neg hc]; simp only [List.lookup_cons, hx, Option.map_some]; rw [if_neg hc]
    | false =>
      by_cases hc : (k == NameKind.free && env.scope.kind == .function && env.kindOf n == some .cell) = true
      · rw [if_pos hc]; simp only [List.lookup_cons, hx]; exact ih
      · rw [if_neg hc]; simp only [List.lookup_cons, hx]; exact ih
theorem rel_keep {scope : Scope} {env : Env} {x : Str} {k : NameKind} (h : scope.names.lookup x = some k) (hk : (k == NameKind.free) = false) : (relabel scope env).names.lookup x = some k := by
  have z := lookup_rel (env := env) scope.names x
  rw [h] at z
  simp only [hk, Bool.false_and, Option.map_some] at z
  exact z
theorem rel_free {scope : Scope} {env : Env} {x : Str} (h : scope.names.lookup x = some .free) : (relabel scope env).names.lookup x = some .cell ∨ (relabel scope env).names.lookup x = some .free := by
  have z := lookup_rel (env := env) scope.names x
  rw [h, Option.map_some] at z
  split at z
  · exact .inl z
  · exact .inr z
theorem XOk.blk (X' : XOk T cs k C W N sc X) (s : Shared) (H : Hp) (scope : Scope) (cl : List (Str × Addr)) (B : Addr) (fp : List Addr) : XOk T cs k C W0 N scope (X.blk s H scope (compEnvC scope cl B X.env) fp) := by
  refine ⟨X'.hN, X'.nd, fun x h => ?_, fun x h => rel_keep h rfl, fun x h => ?_, X'.calm, X'.gd, X'.room, takes0, PassesOwn.never, X'.CK, X'.facts⟩
  · unfold visB at h
    split at h
    · rename_i e; exact .inl (rel_keep e rfl)
    · rename_i e; exact .inr (.inl (rel_keep e rfl))
    · rename_i e; exact .inr (rel_free e)
    · cases h
  · rcases h with e | e
    · exact .inl (rel_keep e rfl)
    · exact rel_free e
theorem sto_blk (X' : XOk T cs k C W N sc X) (s : Shared) (H : Hp) (scope : Scope) (cl : List (Str × Addr)) (B : Addr) (fp : List Addr) : Sto N scope (X.blk s H scope (compEnvC scope cl B X.env) fp) := fun i x h => by
  unfold storeB at h
  rw [Bool.and_eq_true, decide_eq_true_eq] at h
  obtain ⟨h1, h2⟩ := h
  refine ⟨by rw [← X'.hN] at h1; exact h1, ?_⟩
  unfold locB at h2
  split at h2
  · rename_i e; exact ⟨.inl (rel_keep e rfl), .inr (rel_keep e rfl)⟩
  · rename_i e
    refine ⟨.inr (rel_keep e rfl), .inl ?_⟩
    show (scope.names.lookup x == some .cell) = true
    rw [e]; rfl
  · cases h2
def tC (cs : CS) (C : Ct) (W : WX) (c : OE) : TT := tR C W c.pure (fun _ _ b a => b = a) (evC cs c)
theorem own_ix {N : List Str} : ∀ {tg : List Nat}, tg.all (fun i => decide (i < N.length)) = true → (tg.filterMap fun i => N[i]?.map fun n => (n, i)).map (·.2) = tg
  | [], _ => rfl
  | i :: is, h => by
    rw [List.all_cons, Bool.and_eq_true, decide_eq_true_eq] at h
    rw [List.filterMap_cons, List.getElem?_eq_getElem h.1]
    show i :: _ = i :: is
    rw [own_ix h.2]
theorem rBind_ok {α β : Type} {m : R α} {f : α → R β} {ρ ρ2 : List Sl} {b : β} (h : rBind m f ρ = some (.ok b, ρ2)) : ∃ a ρ1, m ρ = some (.ok a, ρ1) ∧ f a ρ1 = some (.ok b, ρ2) := by
  unfold rBind at h
  match hm : m ρ, h with
  | some (.ok a, ρ1), h => exact ⟨a, ρ1, rfl, h⟩
  | some (.error x, ρ1), h => cases h
theorem lc_read {CK : C.K = X.K} {tg : List Nat} {it : It} {c : OE} {e : E} (hv : e.isView = false) {σ : L2.St} {H : Hp} {Q : VK} (h : tE cs C W (.comp tg it c e) σ H Q) :
    tLc (tIt cs C W it) (gTg X.K tg) (fun σ H Q => ∃ D o, tC cs (C.with D o) W0 c σ H Q) (fun σ H Q => ∃ D o, tE cs (C.with D o) W0 e σ H Q) tg σ H Q := by
  obtain ⟨L, O, ρ, S, q⟩ := h
  refine ⟨L, O, ρ, S, Post.bind q fun ds ρ1 J H1 k1 s1 S1 w h1 => ?_⟩
  have pp : (E.comp tg it c e).pure = true → it.pure = true ∧ c.pure = true ∧ e.pure = true := fun z => by
    have z : (it.pure && c.pure && e.pure) = true := z
    rw [Bool.and_eq_true, Bool.and_eq_true] at z
    exact ⟨z.1.1, z.1.2, z.2⟩
  have h1 := Post.mono k1 (fun z => s1 (pp z).1) h1
  intro D hD
  unfold rList at h1
  by_cases hc : light tg ρ1 = true ∧ ds.length ≤ SZ
  case neg => rw [if_neg hc] at h1; exact h1.elim
  rw [if_pos hc] at h1
  obtain ⟨hli, hz⟩ := hc
  have hr : ∃ ys ρ2, rComp tg (evC cs c) (ev cs e).1 ds (clear tg ρ1) = some (.ok ys, ρ2) := by
    match hm : rComp tg (evC cs c) (ev cs e).1 ds (clear tg ρ1), h1 with
    | some (.ok ys, ρ2), _ => exact ⟨ys, ρ2, rfl⟩
    | some (.error x, ρ2), h1 => exact h1.elim
    | none, h1 => exact h1.elim
  obtain ⟨ys, ρ2, hr⟩ := hr
  have h1 : Post C L O σ W (E.comp tg it c e).pure (RlE C false O) H1 (some (.ok (.lst ys), back tg ρ1 ρ2)) Q := by
    rw [hr] at h1
    exact h1
  obtain ⟨G, Y, wk, hG, hY⟩ := w
  obtain ⟨f0, f1, f2⟩ := S1.fresh hD
  have tl : ∀ j ∈ tg, j < σ.length := fun j hj => by
    obtain ⟨r, e', _⟩ := light_at hli hj
    rw [S1.len]; exact (List.getElem?_eq_some_iff.mp e').1
  have he : empty tg (clear tg ρ1) = true := empty_clear fun j hj => by rw [← S1.len]; exact tl j hj
  have gr : ∀ {H' : Hp}, Keep O H1 H' → Grow O H1 (D :: O) H' := fun {H'} kk => ⟨kk, fun a ha => by
    rcases List.mem_cons.mp ha with z | z
    · rw [z]; exact .inr hD
    · exact .inl z⟩
  refine lc_it (g := gTg X.K tg) (tt := fun σ H Q => ∃ D o, tC cs (C.with D o) W0 c σ H Q) (te := fun σ H Q => ∃ D o, tE cs (C.with D o) W0 e σ H Q) (vs := tg) (σ := σ) (H1 := H1) (D := D) (Qd := fun H => Q (.ref D) H) wk (fun i H => ∃ (ρi : List Sl) (acc : List IV) (vs : List V) (zs : List IV), ys = acc ++ zs ∧ rComp tg (evC cs c) (ev cs e).1 (ds.drop i) ρi = some (.ok zs, ρ2) ∧ SRel C L (D :: O) (wipe σ tg) ρi H ∧ empty tg ρi = true ∧ H D = some (.lst vs) ∧
    RepAll C.K C.cl (D :: O) H vs acc ∧ Keep O H1 H ∧ ((E.comp tg it c e).pure = true → Same H1 H) ∧ acc.length ≤ i) ?_ ?_ ?_ ?_
  · refine ⟨clear tg ρ1, [], [], ys, rfl, hr, ?_, he, upd_same, .nil, .same (same_new hD), fun _ => same_new hD, Nat.zero_le _⟩
    have S2 := S1.addO hD (same_new (o := HO.lst []) hD) (by rw [upd_same]; exact fun z => nomatch z)
    exact S2.swap (tg := tg) (wipe_length _ _) clear_len (fun j hj => ⟨wipe_out hj, clear_out hj⟩) fun j r hj e => clear_e hj e
  · rintro i H2 _ ⟨ρi, acc, vs, zs, _, _, _, _, _, _, kk, _⟩
    exact hG O H2 (.ofKeep kk)
  · rintro i x H2 H3 hi ⟨ρi, acc, vs, zs, ey, hrc, Si, ei, hd, ra, kk, ks, hal⟩ y
    have hdi : ds[i]? = some ds[i] := List.getElem?_eq_getElem hi
    obtain ⟨sm, rx⟩ := hY i (D :: O) H2 x H3 ds[i] (gr kk) Si.live hdi y
    have edr : ds.drop i = ds[i] :: ds.drop (i + 1) := List.drop_eq_getElem_cons hi
    rw [edr] at hrc
    obtain ⟨u, ρa, hta, hrc⟩ := rBind_ok hrc
    obtain ⟨t, ρb, htb, hrc⟩ := rBind_ok hrc
    rw [← CK]
    refine tg_read (Si.same sm) rx hta fun σ2 S2 hj hl => ⟨wipe_eq (by rw [hl, wipe_length]) hj, ?_⟩
    have hD3 : H3 D = some (.lst vs) := sm D _ hd
    have lsub : ∀ a ∈ L, a ∈ O := S1.lsub
    refine ⟨D, .lst vs, L, D :: O, ρa, S2.hold lsub f1 f0 hD3, ?_⟩
    rw [htb]
    intro b H4 k4 s4 S4 eb
    subst eb
    obtain ⟨S4, hD4⟩ := S4.unhold f0 f1 S1.sub S1.msub
    have len2 : σ2.length = σ.length := by rw [hl, wipe_length]
    have wp : ∀ {ρx : List Sl} {Hx : Hp}, SRel C L (D :: O) σ2 ρx Hx → SRel C L (D :: O) (wipe σ tg) (clear tg ρx) Hx ∧ empty tg (clear tg ρx) = true := fun {ρx Hx} Sx => by
      refine ⟨Sx.swap (tg := tg) (by rw [wipe_length, len2]) clear_len (fun j nj => ⟨(hj j nj).symm, clear_out nj⟩) fun j r hj e => clear_e hj e, empty_clear fun j hj => ?_⟩
      rw [← Sx.len, len2]
      exact tl j hj
    have kD : ∀ {Ha Hb : Hp}, Keep O H1 Ha → Keep (D :: O) Ha Hb → Keep O H1 Hb := fun {Ha Hb} ka kb a o n ea => kb a o (fun z => by
      rcases List.mem_cons.mp z with z | z
      · rw [z, hD] at ea; cases ea
      · exact n z) (ka a o n ea)
    have k3 : Keep O H1 H3 := fun a o n ea => sm a o (kk a o n ea)
    cases b with
    | false =>
      rw [if_neg Bool.false_ne_true] at hrc ⊢
      obtain ⟨_, ρc, hcl, hrc⟩ := rBind_ok hrc
      cases hcl
      obtain ⟨W1, W2⟩ := wp S4
      exact ⟨_, acc, vs, zs, ey, hrc, W1, W2, hD4, (ra.keep (.same sm)).keep k4, kD k3 k4, fun z => ((ks z).trans sm).trans (s4 (pp z).2.1), Nat.le_succ_of_le hal⟩
    | true =>
      rw [if_pos rfl] at hrc ⊢
      obtain ⟨y', ρc, hye, hrc⟩ := rBind_ok hrc
      obtain ⟨_, ρd, hcl, hrc⟩ := rBind_ok hrc
      cases hcl
      obtain ⟨zs', ρe, hrz, hrc⟩ := rBind_ok hrc
      cases hrc
      refine ⟨D, .lst vs, L, D :: O, ρb, S4.hold lsub f1 f0 hD4, ?_⟩
      rw [hye]
      intro yv H5 k5 s5 S5 ry
      obtain ⟨S5, hD5⟩ := S5.unhold f0 f1 S1.sub S1.msub
      refine ⟨vs, hD5, ?_, ?_⟩
      · rw [ra.length, sizeLine_eq]
        exact Nat.lt_of_le_of_lt hal (Nat.lt_of_lt_of_le hi hz)
      · obtain ⟨W1, W2⟩ := wp (S5.poke lsub S1.sub f1 f0 (.lst (vs ++ [yv])))
        have kp : Keep (D :: O) H5 (upd H5 D (.lst (vs ++ [yv]))) := fun a o n e => by rw [upd_ne (fun z : a = D => n (z ▸ List.mem_cons_self))]; exact e
        have rr : RepAll C.K C.cl (D :: O) H5 (vs ++ [yv]) (acc ++ [y']) := (((ra.keep (.same sm)).keep k4).keep k5).append (.cons (ry.2 hv) .nil)
        refine ⟨_, acc ++ [y'], vs ++ [yv], zs', by rw [ey, List.append_assoc]; rfl, hrz, W1, W2, upd_same, rr.keep kp, kD (kD (kD k3 k4) k5) kp, fun z => ?_, by rw [List.length_append]; exact Nat.succ_le_succ hal⟩
        have sx := (((ks z).trans sm).trans (s4 (pp z).2.1)).trans (s5 (pp z).2.2)
        intro a o ea
        rw [upd_ne (fun z => by rw [z, hD] at ea; cases ea)]
        exact sx a o ea
  · rintro H2 ⟨ρi, acc, vs, zs, ey, hrc, Si, ei, hd, ra, kk, ks, hal⟩
    rw [List.drop_length] at hrc
    cases hrc
    rw [List.append_nil] at ey
    subst ey
    have S2 := Si.dropO S1.lsub S1.sub
    have S3 : SRel C L O σ (back tg ρ1 ρ2) H2 := S1.back S2 hli kk
    have rp : Rep C.K C.cl O H2 (.ref D) (.lst ys) := .lstH (.inl hd) f1 (ra.less fun a ha => List.mem_cons_of_mem _ ha)
    exact h1 _ H2 kk ks S3 ⟨.inl rp, fun _ => rp⟩
theorem noSet_ok {iter : Expr} (h : noSet iter = true) (env : Env) (x : Value) : foldedSetIterable iter env x = pure x := by
  cases iter <;> first | rfl | cases h
theorem c_comp (X' : XOk T cs k C W N sc X) {tg : List Nat} {it : It} {c : OE} {e : E} {t iter elt : Expr} {ifs : List Expr} {scope : Scope} {pos : Pos} (hi : PI X t iter (tIt cs C W it)) (hs : noSet iter = true)
    (hb : blkC N sc scope (tg.filterMap fun i => N[i]?.map fun n => (n, i)) = true) (ht : tgB N scope tg t = true) (hc : ∀ C' X'', XOk T cs k C' W0 N scope X'' → PTs X'' ifs (tC cs C' W0 c)) (he : ∀ C' X'', XOk T cs k C' W0 N scope X'' → PE X'' elt (tE cs C' W0 e))
    (hv : e.isView = false) (hl : tg.all (fun i => decide (i < N.length)) = true) : PE X (.ListComp elt [⟨t, iter, ifs, 0⟩] scope pos) (tE cs C W (.comp tg it c e)) := by
  have ok := blkOk_by hb
  have ok : BlkOk X.N X.env.scope scope (tg.filterMap fun i => N[i]?.map fun n => (n, i)) := by
    rw [X'.hN]
    exact ⟨ok.kind, ok.uniq, ok.ix, fun y hy e => X'.frex _ (ok.free y hy e), ok.own⟩
  have z := pe_lc (X := X) (elt := elt) (tg := t) (ifs := ifs) (pos := pos) (te := fun σ H Q => ∃ D o, tE cs (C.with D o) W0 e σ H Q) (tt := fun σ H Q => ∃ D o, tC cs (C.with D o) W0 c σ H Q) (g := gTg X.K tg) X'.calm (by rw [X'.hN]; exact X'.nd) hi ok (fun s H B cl fp => pg_of (X := X.blk s H scope (compEnvC scope cl B X.env) fp) (show X.N.Nodup by rw [X'.hN]; exact X'.nd) X'.calm (sto_blk X' s H scope cl B fp) ht)
    (fun s H B cl fp => ⟨fun pins s' σ H' Q I ⟨D, o, q⟩ => (hc _ _ ((X'.blk s H scope cl B fp).with D o)).run pins s' σ H' Q I q⟩)
    (fun s H B cl fp => ⟨fun pins s' σ H' Q I ⟨D, o, q⟩ => (he _ _ ((X'.blk s H scope cl B fp).with D o)).run pins s' σ H' Q I q⟩) (fun x => noSet_ok hs _ x)
  rw [own_ix hl] at z
  exact z.imp fun σ H Q h => lc_read (CK := X'.CK) hv h
end
end Mx


/-! Mx, part 4j: calls by keyword, dicts. -/
namespace Mx
open PySem PySem.Spec PyProof.Rows L2
section
variable {T : Tab} {cs : CS} {k : Nat} {C : Ct} {W : WX} {N : List Str} {sc : Scope} {X : Cx}
def Es.len : Es → Nat
  | .nil => 0
  | .cons _ r => r.len + 1
theorem mEs_len : ∀ {es : Es} {xs : List Expr}, mEs T N es sc xs = true → xs.length = es.len
  | .nil, xs, h => by
    unfold mEs at h
    cases xs with
    | nil => rfl
    | cons y ys => cases h
  | .cons e r, [], h => by unfold mEs at h; cases h
  | .cons e r, y :: ys, h => by
    unfold mEs at h
    simp only [Bool.and_eq_true] at h
    show ys.length + 1 = r.len + 1
    rw [mEs_len h.1.1.2]
theorem evEs_len : ∀ {es : Es} {ρ ρ' : List Sl} {ds : List IV}, evEs cs es ρ = some (.ok ds, ρ') → ds.length = es.len
  | .nil, ρ, ρ', ds, h => by unfold evEs at h; cases h; rfl
  | .cons e r, ρ, ρ', ds, h => by
    unfold evEs at h
    obtain ⟨x, ρ1, _, h⟩ := bind_okC h
    obtain ⟨xs, ρ2, h2, h⟩ := bind_okC h
    cases h
    show xs.length + 1 = r.len + 1
    rw [evEs_len h2]
theorem pick_rep {O : List Addr} {H : Hp} {vs : List V} {ds : List IV} (r : RepAll C.K C.cl O H vs ds) : ∀ {is : List Nat} {es : List IV}, pick ds is = some es → ∃ rs, pick vs is = some rs ∧ RepAll C.K C.cl O H rs es
  | [], es, h => by cases h; exact ⟨[], rfl, .nil⟩
  | i :: is, es, h => by
    unfold pick at h ⊢
    cases h1 : ds[i]? with
    | none => rw [h1] at h; cases h
    | some d =>
      cases h2 : pick ds is with
      | none => rw [h1, h2] at h; cases h
      | some e2 =>
        rw [h1, h2] at h
        cases h
        obtain ⟨v, hv, rv⟩ := r.get h1
        obtain ⟨rs, hr, rr⟩ := pick_rep r h2
        exact ⟨v :: rs, by rw [hv, hr], .cons rv rr⟩
theorem pick_len {α : Type} {ds : List α} : ∀ {is : List Nat} {es : List α}, pick ds is = some es → es.length = is.length
  | [], es, h => by cases h; rfl
  | i :: is, es, h => by
    unfold pick at h
    cases h1 : ds[i]? with
    | none => rw [h1] at h; cases h
    | some d =>
      cases h2 : pick ds is with
      | none => rw [h1, h2] at h; cases h
      | some e2 =>
        rw [h1, h2] at h
        cases h
        show e2.length + 1 = is.length + 1
        rw [pick_len h2]
theorem argR_all {O : List Addr} {H : Hp} : ∀ {ms : List Bool} {vs : List V} {ds : List IV}, (∀ b ∈ ms, b = false) → ms.length = ds.length → RepAll C.K C.cl O H vs ds → ArgR C.K C.cl O H ms vs ds
  | [], _, _, _, _, .nil => trivial
  | b :: ms, _, _, h, hl, .cons r rr => by
    have e : b = false := h b List.mem_cons_self
    subst e
    exact ⟨r, argR_all (fun b hb => h b (List.mem_cons_of_mem _ hb)) (Nat.succ.inj hl) rr⟩
  | [], _, _, _, hl, .cons _ _ => nomatch hl
  | _ :: _, _, _, _, hl, .nil => nomatch hl
theorem filter_none : ∀ {l : List (Option Addr)}, (∀ a, some a ∉ l) → l.filterMap id = []
  | [], _ => rfl
  | none :: l, h => filter_none (l := l) fun a z => h a (List.mem_cons_of_mem _ z)
  | some a :: l, h => absurd List.mem_cons_self (h a)
theorem callK_read (CK : C.K = X.K) {f : Nat} {fn : Fn} {as bs : Es} {ks : List Str} {perm : List Nat} {n : Nat} (ha : as.noView = true) (hb : bs.noView = true) (hm : ∀ b ∈ fn.muts, b = false) (hl : fn.muts.length = fn.ps.length) (hp : perm.length = fn.ps.length) (hn : as.len = n) (hk : bs.len = ks.length)
    {σ : L2.St} {H : Hp} {Q : VK} (h : tE cs C W (.callK f as bs ks perm) σ H Q) :
    tEs cs C W as σ H fun vs H1 => vs.length = n ∧ tEs cs C W bs σ H1 fun zs H2 => zs.length = ks.length ∧ ∃ rs, pick (vs ++ zs) perm = some rs ∧ spF cs X.K C.cl f fn rs H2 Q (fun c d H' => W c d σ H') := by
  obtain ⟨L, O, ρ, S, q⟩ := h
  have pp : (E.callK f as bs ks perm).pure = true → as.pure = true ∧ bs.pure = true := fun z => by
    have z : (as.pure && bs.pure) = true := z
    rwa [Bool.and_eq_true] at z
  refine ⟨L, O, ρ, S, Post.bindE q fun ds ρ1 vs H1 hm1 k1 s1 S1 r1 h1 => ?_⟩
  have r1 := r1.2 ha
  refine ⟨by rw [r1.length, evEs_len hm1, hn], L, O, ρ1, S1, Post.bindE (Post.mono k1 (fun z => s1 (pp z).1) h1) fun es ρ2 zs H2 hm2 k2 s2 S2 r2 h2 => ?_⟩
  have h2 := Post.mono k2 (fun z => s2 (pp z).2) h2
  have r2 := r2.2 hb
  refine ⟨by rw [r2.length, evEs_len hm2, hk], ?_⟩
  unfold rCallK at h2
  match hd : pick (ds ++ es) perm, h2 with
  | some ws, h2 =>
    obtain ⟨rs, hrs, rr⟩ := pick_rep ((r1.keep k2).append r2) hd
    refine ⟨rs, hrs, ?_⟩
    have wl := pick_len hd
    have no := mutA_pure (vs := rs) hm
    rw [← CK]
    refine ⟨O, ws, S2.live, by rw [rr.length, wl, hp], argR_all hm (by rw [hl, wl, hp]) rr, by rw [filter_none no]; exact List.nodup_nil, ?_⟩
    have sm : ∀ {H' : Hp}, Fram H2 H' (mutA fn.muts rs) → Same H2 H' := fun fr a o e => fr a o e (no a)
    have h2 : Post C L O σ W (E.callK f as bs ks perm).pure (RlE C (E.callK f as bs ks perm).isView O) H2 ((match cs f ws with | none => none | some (r, _) => some (r, ρ2) : Out IV)) Q := h2
    match hc : cs f ws, h2 with
    | none, h2 => exact h2.elim
    | some (.ok d, ms), h2 =>
      show if fn.own = true then _ else _
      cases ho : fn.own with
      | true =>
        rw [if_pos rfl]
        intro p H' hp' fr mr w
        have np : p ∉ O := fun z => S2.live p z hp'
        have rp := Own.rep np (w.less fun a z => List.mem_cons_of_mem _ z)
        exact h2 _ H' (.same (sm fr)) (fun _ => sm fr) (S2.same (sm fr)) ⟨.inl rp, fun _ => rp⟩
      | false =>
        rw [if_neg Bool.false_ne_true]
        intro v H' fr mr rp
        exact h2 _ H' (.same (sm fr)) (fun _ => sm fr) (S2.same (sm fr)) ⟨.inl rp, fun _ => rp⟩
    | some (.error x, ms), h2 => exact fun c dd H' fr mr xr => h2 c dd H' (.same (sm fr)) (S2.same (sm fr)) xr
theorem kw_all : ∀ {ks : List Str} {kws : List Keyword} {env : Env} (pos : Pos), kwB ks kws = true → (backToKw pos (keywordEach kws env)).all (·.1.isSome) = true ∧ (backToKw pos (keywordEach kws env)).filterMap (·.1) = ks ∧ (backToKw pos (keywordEach kws env)).any (·.1.isNone) = false
  | [], [], env, pos, _ => ⟨rfl, rfl, rfl⟩
  | k :: ks, ⟨some a, v, p⟩ :: r, env, pos, h => by
    have h' : (decide (k = a) && kwB ks r) = true := h
    rw [Bool.and_eq_true, decide_eq_true_eq] at h'
    obtain ⟨h1, h2, h3⟩ := kw_all (env := env) pos h'.2
    obtain ⟨rfl, _⟩ := h'
    refine ⟨?_, ?_, ?_⟩
    · show (true && (backToKw pos (keywordEach r env)).all (·.1.isSome)) = true
      rw [h1]; rfl
    · show k :: (backToKw pos (keywordEach r env)).filterMap (·.1) = k :: ks
      rw [h2]
    · show (false || (backToKw pos (keywordEach r env)).any (·.1.isNone)) = false
      rw [h3]; rfl
  | [], _ :: _, _, _, h => nomatch h
  | _ :: _, [], _, _, h => nomatch h
  | _ :: _, ⟨none, _, _⟩ :: _, _, _, h => nomatch h
theorem kw_len : ∀ {ks : List Str} {kws : List Keyword}, kwB ks kws = true → (kwVals kws).length = ks.length
  | [], [], _ => rfl
  | k :: ks, ⟨some a, v, p⟩ :: r, h => by
    have h' : (decide (k = a) && kwB ks r) = true := h
    rw [Bool.and_eq_true] at h'
    show (kwVals r).length + 1 = ks.length + 1
    rw [kw_len h'.2]
  | [], _ :: _, h => nomatch h
  | _ :: _, [], h => nomatch h
  | _ :: _, ⟨none, _, _⟩ :: _, h => nomatch h
theorem _root_.L2.PK.imp {e : List Keyword} {t t' : TA} (h : PK X e t) (hi : ∀ σ H Q, t' σ H Q → t σ H Q) : PK X e t' := ⟨fun pos pins s σ H Q I q => h.run pos pins s σ H Q I (hi σ H Q q)⟩
theorem c_knil : PK X [] (tEs cs C W .nil) := pk_nil.imp fun σ H Q ⟨L, O, ρ, S, q⟩ => Post.ok q S ⟨trivial, fun _ => .nil⟩
theorem c_kcons {e : E} {r : Es} {nm : Option Str} {y : Expr} {kp : Pos} {kws : List Keyword} (hv : e.isView = true → r.pure = true) (he : PE X y (tE cs C W e)) (hr : PK X kws (tEs cs C W r)) : PK X (⟨nm, y, kp⟩ :: kws) (tEs cs C W (.cons e r)) :=
  (pk_cons he hr).imp fun σ H Q h => cons_read hv h
theorem tEs_nil {σ : L2.St} {H : Hp} {Q : List V → Hp → Prop} (h : tEs cs C W .nil σ H Q) : tNil σ H Q := by
  obtain ⟨L, O, ρ, S, q⟩ := h
  exact Post.ok q S ⟨trivial, fun _ => .nil⟩
theorem c_callK (X' : XOk T cs k C W N sc X) {f : Nat} {fn : Fn} {as bs : Es} {ks : List Str} {perm : List Nat} {xs : List Expr} {kws : List Keyword} {y : Str} {p q : Pos} (hT : T.fns f = some fn) (hgl : fn.glob = true) (hcb : callB T fn = true) (hy : y = fn.name) (hg : gloB sc y = true) (hkw : kwB ks kws = true) (hma : mEs T N as sc xs = true) (hmb : mEs T N bs sc (kwVals kws) = true)
    (ha : as.noView = true) (hb : bs.noView = true) (hm : fn.muts.all (fun b => !b) = true) (hl : fn.muts.length = fn.ps.length) (hin : (xs.length, ks, perm) ∈ fn.kws) (hp : perm.length = fn.ps.length) (hd : (y == ("__debug__" : Str)) = false)
    (pa : PA X xs (tEs cs C W as)) (pk : PK X kws (tEs cs C W bs)) : PE X (.Call (.Name y p) xs kws q) (tE cs C W (.callK f as bs ks perm)) := by
  obtain ⟨a, fd, hat, hkp, _, _, hkw', F⟩ := X'.facts.fns f fn hT (X'.gdf hcb).2
  have hm' := hat.1 hgl
  have g := X'.gl hg
  subst hy
  obtain ⟨k1, k2, k3⟩ := kw_all (env := X.env) q hkw
  have hmu : ∀ b ∈ fn.muts, b = false := fun b hb => by
    rw [List.all_eq_true] at hm
    have z := hm b hb
    simpa using z
  have rd : ∀ {σ H Q}, tE cs C W (.callK f as bs ks perm) σ H Q → _ := fun {σ H Q} h => callK_read (X := X) X'.CK ha hb hmu hl hp (mEs_len hma).symm (by rw [← mEs_len hmb, kw_len hkw]) h
  cases xs with
  | nil =>
    have e : as = .nil := by
      cases as with
      | nil => rfl
      | cons e r => unfold mEs at hma; cases hma
    subst e
    refine (pe_callRK (n := 0) (t := tNil) F (X'.gdf hcb).1 X'.room0 X'.tk g hm' hkp (hkw' _ hin) rfl pa_nil pk rfl hd k1 k2 k3 (fun _ => rfl)).imp fun σ H Q h => ?_
    exact tEs_nil (rd h)
  | cons x xs => exact (pe_callRK (n := (x :: xs).length) F (X'.gdf hcb).1 X'.room0 X'.tk g hm' hkp (hkw' _ hin) rfl pa pk (all_star hma) hd k1 k2 k3 (fun z => nomatch z)).imp fun σ H Q h => rd h
/-! ### a dict -/
def tKey (kk : Key) : TE := fun _ H Q => Q (kV kk) H
def trsOf (cs : CS) (C : Ct) (W : WX) : List Key → Es → List (TE × TE)
  | kk :: ks, .cons e r => (tKey kk, fun σ H Q => ∃ D o, tE cs (C.with D o) W e σ H Q) :: trsOf cs C W ks r
  | _, _ => []
theorem pairs_read {D : Addr} {o : HO} {L O : List Addr} {σ : L2.St} : ∀ {es : Es} {ks : List Key} {ρ : List Sl} {H : Hp} {pr : Bool} {Q : List (V × V) → Hp → Prop}, es.noView = true → ks.length = es.len → (pr = true → es.pure = true) → SRel (C.with D o) L O σ ρ H →
    Post (C.with D o) L O σ W pr (RlEs (C.with D o) true O) H (evEs cs es ρ) (fun vs H' => Q ((ks.map kV).zip vs) H') → tPairs (trsOf cs C W ks es) σ H Q
  | .nil, [], ρ, H, pr, Q, _, _, _, S, q => by
    have q : Post (C.with D o) L O σ W pr (RlEs (C.with D o) true O) H (some (.ok [], ρ)) (fun vs H' => Q ((([] : List Key).map kV).zip vs) H') := q
    have z := Post.ok (v := ([] : List V)) q S ⟨trivial, fun _ => .nil⟩
    exact z
  | .cons e r, kk :: ks, ρ, H, pr, Q, hv, hl, hp, S, q => by
    have hv' : (!e.isView && r.noView) = true := hv
    rw [Bool.and_eq_true, Bool.not_eq_true'] at hv'
    have hp' : pr = true → e.pure = true ∧ r.pure = true := fun z => by
      have z' : (e.pure && r.pure) = true := hp z
      rwa [Bool.and_eq_true] at z'
    refine ⟨D, o, L, O, ρ, S, Post.bind q fun x ρ1 v H1 k1 s1 S1 r1 h1 => ?_⟩
    have h1 := Post.mono k1 (fun z => s1 (hp' z).1) h1
    refine pairs_read (pr := pr) hv'.2 (Nat.succ.inj hl) (fun z => (hp' z).2) S1 ?_
    refine Post.bind (pr := pr) (Q1 := fun vs H' => Q ((kV kk, v) :: (ks.map kV).zip vs) H') h1 fun xs ρ2 vs H2 k2 s2 S2 r2 h2 => ?_
    have h2 := Post.mono k2 s2 h2
    exact Post.ok (v := v :: vs) h2 S2 ⟨⟨.inl ((r1.2 hv'.1).keep k2), r2.1⟩, fun _ => .cons ((r1.2 hv'.1).keep k2) (r2.2 rfl)⟩
  | .nil, _ :: _, _, _, _, _, _, hl, _, _, _ => nomatch hl
  | .cons _ _, [], _, _, _, _, _, hl, _, _, _ => nomatch hl
theorem merge_new : ∀ {kvs acc : List (Key × V)}, ((acc ++ kvs).map (·.1)).Nodup → mergeK acc kvs = acc ++ kvs
  | [], acc, _ => by unfold mergeK; simp
  | (kk, v) :: r, acc, h => by
    have hk : valV acc kk = none := by
      cases hv : valV acc kk with
      | none => rfl
      | some x =>
        have z : (acc.any fun kv => decide (kv.1 = kk)) = true := by rw [valV_any, hv]; rfl
        rw [List.any_eq_true] at z
        obtain ⟨y, hy, he⟩ := z
        rw [decide_eq_true_eq] at he
        rw [List.map_append, List.nodup_append] at h
        exact absurd he (h.2.2 y.1 (List.mem_map.mpr ⟨y, hy, rfl⟩) kk (List.mem_map.mpr ⟨(kk, v), List.mem_cons_self, rfl⟩))
    show mergeK (putK acc kk v) r = _
    rw [putK_new v hk, merge_new (by rw [List.append_assoc]; exact h), List.append_assoc]
    rfl
theorem zip_fst {α β : Type} : ∀ {xs : List α} {ys : List β}, xs.length = ys.length → (xs.zip ys).map (·.1) = xs
  | [], [], _ => rfl
  | x :: xs, y :: ys, h => by show x :: (xs.zip ys).map (·.1) = _; rw [zip_fst (Nat.succ.inj h)]
theorem zip_snd {α β : Type} : ∀ {xs : List α} {ys : List β}, xs.length = ys.length → (xs.zip ys).map (·.2) = ys
  | [], [], _ => rfl
  | x :: xs, y :: ys, h => by show y :: (xs.zip ys).map (·.2) = _; rw [zip_snd (Nat.succ.inj h)]
theorem zip_key : ∀ {ks : List Key} {vs : List V}, (ks.map kV).zip vs = (ks.zip vs).map fun kv => (kV kv.1, kv.2)
  | [], _ => rfl
  | _ :: _, [] => rfl
  | kk :: ks, v :: vs => by show (kV kk, v) :: (ks.map kV).zip vs = _; rw [zip_key]; rfl
theorem dct_read {ks : List Key} {es : Es} (hv : es.noView = true) (hl : ks.length = es.len) (h15 : ks.length ≤ 15) (hn : ks.Nodup) {σ : L2.St} {H : Hp} {Q : VK} (h : tE cs C W (.dct ks es) σ H Q) : tDisp (trsOf cs C W ks es) σ H Q := by
  obtain ⟨L, O, ρ, S, q⟩ := h
  have q : Post C L O σ W es.pure (RlE C false O) H ((rBind (evEs cs es) fun xs => rPure (.dct (ks.zip xs))) ρ) Q := q
  intro p hp
  obtain ⟨f0, f1, f2⟩ := S.fresh hp
  have sm := same_new (o := HO.dK []) hp
  have S1 := (S.addO hp sm (by rw [upd_same]; exact fun z => nomatch z)).hold S.lsub f1 f0 upd_same
  have kO : ∀ {H' : Hp}, Keep (p :: O) (upd H p (.dK [])) H' → Keep O H H' := fun kk a o n e => kk a o (fun z => by
    rcases List.mem_cons.mp z with z | z
    · rw [z, hp] at e; cases e
    · exact n z) (sm a o e)
  refine pairs_read (pr := es.pure) hv hl (fun z => z) S1 ?_
  unfold rBind at q
  match hm : evEs cs es ρ, q with
  | none, q => exact q.elim
  | some (.error x, ρ1), q =>
    intro c dd H' k' S' xr
    obtain ⟨S', _⟩ := S'.unhold f0 f1 S.sub S.msub
    refine q c dd H' (kO k') (S'.dropO S.lsub S.sub) ?_
    obtain ⟨A, h1, h2, h3⟩ := xr
    refine ⟨A, h1, h2, h3.imp (fun z => z) fun ⟨d, fs, e1, n, e2, e3, r⟩ => ⟨d, fs, e1, fun z => n (List.mem_cons_of_mem _ z), e2, e3, r.less fun a z => List.mem_cons_of_mem _ z⟩⟩
  | some (.ok ds, ρ1), q =>
    intro vs H2 k2 s2 S2 r2
    obtain ⟨S2, hp2⟩ := S2.unhold f0 f1 S.sub S.msub
    have ra : RepAll C.K C.cl (p :: O) H2 vs ds := r2.2 rfl
    have l1 : ks.length = ds.length := by rw [evEs_len hm, hl]
    have l2 : ks.length = vs.length := by rw [ra.length, l1]
    refine ⟨hp2, ks.zip vs, zip_key, by rw [List.length_zip, ← l2, Nat.min_self]; exact h15, ?_⟩
    rw [merge_new (by rw [List.nil_append, zip_fst l2]; exact hn), List.nil_append]
    have kp : Keep (p :: O) H2 (upd H2 p (.dK (ks.zip vs))) := fun a o n e => by rw [upd_ne (fun z : a = p => n (z ▸ List.mem_cons_self))]; exact e
    have rp : Rep C.K C.cl O (upd H2 p (.dK (ks.zip vs))) (.ref p) (.dct (ks.zip ds)) :=
      .dctH (.inl upd_same) f1 (by rw [zip_fst l1, zip_fst l2]) (by rw [zip_snd l1, zip_snd l2]; exact (ra.keep kp).less fun a z => List.mem_cons_of_mem _ z)
    refine q _ _ (kO (k2.trans kp)) (fun z => ?_) ((S2.poke S.lsub S.sub f1 f0 _).dropO S.lsub S.sub) ⟨.inl rp, fun _ => rp⟩
    intro a o e
    rw [upd_ne (fun z : a = p => by rw [z, hp] at e; cases e)]
    exact s2 z a o (sm a o e)
theorem keysB_ok : ∀ {keys : List (Option Expr)} {ks : List Key}, keysB keys ks = true → keys.all (·.isSome) = true ∧ keys.length = ks.length
  | [], [], _ => ⟨rfl, rfl⟩
  | some x :: xs, kk :: ks, h => by
    have h' : (keyB x kk && keysB xs ks) = true := h
    rw [Bool.and_eq_true] at h'
    obtain ⟨h1, h2⟩ := keysB_ok h'.2
    exact ⟨by rw [List.all_cons, h1]; rfl, by rw [List.length_cons, h2]; rfl⟩
  | [], _ :: _, h => nomatch h
  | some _ :: _, [], h => nomatch h
  | none :: _, [], h => nomatch h
  | none :: _, _ :: _, h => nomatch h
theorem key_ok {x : Expr} {kk : Key} (h : keyB x kk = true) : PE X x (tKey kk) := by
  match x, kk, h with
  | .Constant (.int a) _ _, .inl b, h =>
    have e : a = b := by simpa [keyB] using h
    subst e
    exact pe_int.imp fun σ H Q h => h
  | .Constant (.str a) _ _, .inr b, h =>
    have e : a = b := by simpa [keyB] using h
    subst e
    exact pe_str.imp fun σ H Q h => h
/-! ### a test by its value's truth -/
def plainT : Expr → Bool
  | .UnaryOp .Not _ _ => false
  | .BoolOp _ _ _ => false
  | .IfExp _ _ _ _ => false
  | .Compare _ _ _ _ => false
  | _ => true
theorem c_tru (X' : XOk T cs k C W N sc X) {e : E} {y : Expr} (hp : plainT y = true) (h2 : (ev cs e).2 = rBind (ev cs e).1 fun d => rLift (truD d)) (he : PE X y (tE cs C W e)) : PT X y (tT cs C W e) := by
  refine (pt_truth he (fun whole => ?_)).imp fun σ H Q h => ?_
  · cases y with
    | UnaryOp o a p => cases o <;> first | rfl | cases hp
    | BoolOp => cases hp
    | IfExp => cases hp
    | Compare => cases hp
    | _ => rfl
  · rw [← X'.CK]
    have h : tR C W e.pure (fun _ _ b a => b = a) (ev cs e).2 σ H Q := h
    rw [h2] at h
    exact truth_ok rfl h
end
end Mx


/-! Mx, part 4l: exceptions: made, read, asked for their class. -/
namespace Mx
open PySem PySem.Spec PyProof.Rows L2
section
variable {X : Cx}
theorem inst_exc {pins : List (Addr × Obj)} {σ : L2.St} {H : Hp} {s : Shared} {a C : Addr} {dd : Option Addr} {O : List Addr} {fs : List (Str × V)} (I : Inv X pins σ H s) (ha : H a = some (exo a C dd)) (xd : XD O H fs dd) : ∃ ox od, PySem.W.InstAt s.heap a ox C od ∧ ∀ dx, dd = some dx → ∃ oD mA, od = some oD ∧ s.heap.Ns1 dx mA ∧ (∀ f, RelO (fs.lookup f) (mA f)) ∧ s.heap.get? dx = some oD := by
  obtain ⟨t1, hx⟩ := exo_at I.hok ha
  cases dd with
  | none => exact ⟨_, none, ⟨hx, rfl, rfl, trivial⟩, fun _ z => nomatch z⟩
  | some dx =>
    obtain ⟨mA, hn, hr⟩ := exd_at I.hok xd.1
    obtain ⟨oD, es, ep, ho, r⟩ := id hn
    exact ⟨_, some oD, ⟨hx, rfl, rfl, ho⟩, fun dy z => by cases z; exact ⟨oD, mA, rfl, hn, hr, ho⟩⟩
def rIsx (K : PySem.W.Frag) : List V → Hp → VK → Prop := fun xs H Q => ∃ (a C : Addr) (dd : Option Addr) (O : List Addr) (fs : List (Str × V)) (v : V) (u : Value) (b : Bool), xs = [.ref a, v] ∧ ClsV v u ∧ H a = some (exo a C dd) ∧ XD O H fs dd ∧ XGet K C ∧ PySem.W.kitOne K (.ref C) u = some b ∧ Q (.bl b) H
def rIsxT (K : PySem.W.Frag) : List V → Hp → VK → Prop := fun xs H Q => ∃ (a C tp : Addr) (dd : Option Addr) (O : List Addr) (fs : List (Str × V)) (vs : List V) (us : List Value) (b : Bool), xs = [.ref a, .ref tp] ∧ H tp = some (.tup vs) ∧ Paired ClsV vs us ∧ H a = some (exo a C dd) ∧ XD O H fs dd ∧ XGet K C ∧ PySem.W.kitAny K (.ref C) us = some b ∧ Q (.bl b) H
theorem kit_x {K : PySem.W.Frag} {C a : Addr} {ox : Obj} {od : Option Obj} (G : XGet K C) : PySem.W.KitX K (.ref a) (.ref C) (fun h => PySem.W.InstAt h a ox C od) := by
  obtain ⟨cd, hc, _⟩ := PySem.W.any_some (show (PySem.W.clsIn K C).any (·.hasDict) = true from G.hd)
  exact PySem.W.kitx_exc (by rw [hc]; rfl) G.ga G.gg G.sub G.ca G.cn G.ct G.cm
theorem call_isx : CallR X (.builtin "isinstance") (rIsx X.K) := by
  intro pins s σ H xs us Q I r h
  obtain ⟨a, C, dd, O, fs, v, u, b, rfl, k, ha, xd, G, e, q⟩ := h
  obtain ⟨u1, u2, rfl, r1, r2⟩ := vals2 r
  cases (show u1 = Value.ref a from r1)
  have e2 := k.eq r2
  subst e2
  obtain ⟨ox, od, J, _⟩ := inst_exc I ha xd
  exact PySem.W.kia_one (kit_x G) I.kIn J e (fun z => nomatch z) fun tk => ⟨.bl b, H, I.tok tk, rfl, q⟩
theorem call_isxT : CallR X (.builtin "isinstance") (rIsxT X.K) := by
  intro pins s σ H xs us Q I r h
  obtain ⟨a, C, tp, dd, O, fs, vs, ws, b, rfl, hT, k, ha, xd, G, e, q⟩ := h
  obtain ⟨u1, u2, rfl, r1, r2⟩ := vals2 r
  cases (show u1 = Value.ref a from r1)
  cases (show u2 = Value.ref tp from r2)
  obtain ⟨ox, od, J, _⟩ := inst_exc I ha xd
  obtain ⟨_, its, rv, o, h1, h2, n, h3⟩ := (show ObjOk X.prog X.w H s.heap tp (.tup vs) from I.hok tp _ hT)
  have e3 := ClsV.all k rv
  subst e3
  obtain ⟨oc, od', dt, sl⟩ := o
  simp only at h2 h3
  subst h2 h3
  exact PySem.W.kia_tup (kit_x G) I.kIn J h1 e (fun z => nomatch z) fun tk => ⟨.bl b, H, I.tok tk, rfl, q⟩
/-- the names of classes -/
def tKs (vs : List V) : TA := fun _ H Q => Q vs H
theorem pa_names {sc : Scope} {mg : Str → Option Value} (hm : X.mg = mg) (gl : ∀ {y}, gloB sc y = true → Gl X y) : ∀ {xs : List Str} {vs : List V} {us : List Value} {ys : List Expr}, NmVs mg xs vs us → namesB sc xs ys = true → PA X ys (tKs vs) ∧ Paired ClsV vs us
  | _, _, _, ys, .nil, h => by
    cases ys with
    | nil => exact ⟨pa_nil, .nil⟩
    | cons y ys => cases h
  | _, _, _, ys, .cons (x := x) (v := v) (u := u) hv r, h => by
    match ys, h with
    | .Name y p :: ys, h =>
      have h' : (decide (y = x) && (gloB sc y && (!(y == ("__debug__" : Str)) && namesB sc _ ys))) = true := h
      simp only [Bool.and_eq_true, decide_eq_true_eq, Bool.not_eq_true'] at h'
      obtain ⟨rfl, h1, h2, h3⟩ := h'
      obtain ⟨q1, q2⟩ := pa_names hm gl r h3
      subst hm
      rcases hv with ⟨D, m, rfl, rfl⟩ | ⟨n, m, bt, nn, rfl, rfl⟩
      · exact ⟨pa_cons (pe_glob (v := .ref D) (gl h1) m rfl h2) q1 rfl, .cons (.own D) q2⟩
      · exact ⟨pa_cons (pe_bltn (v := .ty n) (gl h1) m bt rfl nn h2) q1 rfl, .cons (.ty n) q2⟩
end
section
variable {T : Tab} {cs : CS} {k : Nat} {C : Ct} {W : WX} {N : List Str} {sc : Scope} {X : Cx}
theorem tE_mono {e : E} {σ : L2.St} {H : Hp} {Q Q' : VK} (h : tE cs C W e σ H Q) (f : ∀ v H1, Q v H1 → Q' v H1) : tE cs C W e σ H Q' := by
  obtain ⟨L, O, ρ, S, q⟩ := h
  refine ⟨L, O, ρ, S, ?_⟩
  match hr : (ev cs e).1 ρ, q with
  | some (.ok a, ρ'), q => exact fun v H' k s S r => f v H' (q v H' k s S r)
  | some (.error x, ρ'), q => exact q
theorem isx_in {K : PySem.W.Frag} {cl : Nat → Option Addr} {q : List Str × Bool × List Nat × List Nat} {c : Nat} {fs : List (Str × IV)} {d : IV} {us : List Value} (F1 : ∀ c ∈ q.2.2.1, ∀ C, cl c = some C → XGet K C ∧ PySem.W.kitAny K (.ref C) us = some true) (F2 : ∀ c ∈ q.2.2.2, ∀ C, cl c = some C → XGet K C ∧ PySem.W.kitAny K (.ref C) us = some false)
    (h : isxD q.2.2.1 q.2.2.2 (.exc c fs) = some d) {A : Addr} (hc : cl c = some A) : ∃ b, d = .bl b ∧ XGet K A ∧ PySem.W.kitAny K (.ref A) us = some b := by
  have h : (if c ∈ q.2.2.1 then some (IV.bl true) else if c ∈ q.2.2.2 then some (.bl false) else none) = some d := h
  split at h
  · rename_i z; cases h; exact ⟨true, rfl, F1 c z A hc⟩
  · split at h
    · rename_i z; cases h; exact ⟨false, rfl, F2 c z A hc⟩
    · cases h
theorem kit1 {K : PySem.W.Frag} {t u : Value} {b : Bool} (h : PySem.W.kitAny K t [u] = some b) : PySem.W.kitOne K t u = some b := by
  unfold PySem.W.kitAny at h
  split at h
  · rename_i e; rw [e]; exact h
  · rename_i e; rw [e]; exact h
  · cases h
theorem names_len {sc : Scope} : ∀ {xs : List Str} {ys : List Expr}, namesB sc xs ys = true → xs.length = ys.length
  | [], [], _ => rfl
  | x :: xs, .Name y _ :: ys, h => by
    have h' : (decide (y = x) && (gloB sc y && (!(y == ("__debug__" : Str)) && namesB sc xs ys))) = true := h
    simp only [Bool.and_eq_true] at h'
    rw [List.length_cons, List.length_cons, names_len h'.2.2.2]
  | [], _ :: _, h => nomatch h
  | _ :: _, [], h => nomatch h
theorem vs_len {mg : Str → Option Value} {n : Nat} : ∀ {xs : List Str} {vs : List V} {us : List Value}, NmVs mg xs vs us → xs.length = n → n = vs.length
  | _, _, _, .nil, h => h.symm
  | _, _, _, .cons _ r, h => by subst h; rw [List.length_cons, List.length_cons, vs_len r rfl]
theorem one_name {sc : Scope} {mg : Str → Option Value} {xs : List Str} {vs : List V} {us : List Value} {w : Expr} (nv : NmVs mg xs vs us) (h : namesB sc xs [w] = true) : ∃ x1 v1 u1, xs = [x1] ∧ vs = [v1] ∧ us = [u1] ∧ notStar w = true := by
  cases nv with
  | nil => cases h
  | cons a r =>
    cases r with
    | nil =>
      refine ⟨_, _, _, rfl, rfl, rfl, ?_⟩
      unfold namesB at h
      split at h
      · rename_i e _; cases e
      · rename_i e1 e2; cases e2; rfl
      · cases h
    | cons b r => exact absurd (names_len h) (by simp)
theorem c_isx (X' : XOk T cs k C W N sc X) {a : E} {xs : List Str} {tup : Bool} {ys ns : List Nat} {x y : Expr} (hm : mP1 T sc (.isx xs tup ys ns) x = some y) (hv : a.isView = false) (h : PE X y (tE cs C W a)) : PE X x (tE cs C W (.pr1 (.isx xs tup ys ns) a)) := by
  unfold mP1 at hm
  split at hm
  · rename_i he; cases he
  · rename_i xs' tup' ys' ns' y0 p0 z w p1 he
    cases he
    split at hm
    · rename_i hz
      cases hm
      simp only [Bool.and_eq_true, decide_eq_true_eq] at hz
      obtain ⟨rfl, h2, h3, h4, h5, h6⟩ := hz
      obtain ⟨vs, us, nv, F1, F2⟩ := X'.facts.isx _ h5
      have g := X'.gl h2
      have m := X'.bl h3
      have rd : ∀ {σ : L2.St} {H : Hp} {Q : VK}, tE cs C W (.pr1 (.isx xs tup ys ns) a) σ H Q → tE cs C W a σ H fun v H1 => ∃ (p A : Addr) (dd : Option Addr) (O : List Addr) (fs : List (Str × V)) (b : Bool), v = .ref p ∧ H1 p = some (exo p A dd) ∧ XD O H1 fs dd ∧ XGet X.K A ∧ PySem.W.kitAny X.K (.ref A) us = some b ∧ ∀ H2, Same H1 H2 → Q (.bl b) H2 := fun {σ H Q} ⟨L, O, ρ, S, q⟩ => by
        refine ⟨L, O, ρ, S, Post.bind q fun d ρ1 v H1 k1 s1 S1 r1 h1 => ?_⟩
        have h1 := Post.mono k1 s1 h1
        unfold rLift at h1
        have rr := r1.2 hv
        cases hf : pr1D (.isx xs tup ys ns) d with
        | none => rw [hf] at h1; exact h1.elim
        | some e =>
          rw [hf] at h1
          have h9 := h1
          match d, rr, hf with
          | .exc c ds, .exc (a := p) (C := A) (dd := dd) (fs := fs) e1 e2 e3 e4 e5 e6, hf =>
            obtain ⟨b, rfl, G, kk⟩ := isx_in (q := (xs, tup, ys, ns)) (fs := ds) F1 F2 hf e2
            exact ⟨p, A, dd, O, fs, b, rfl, e1, e4, G, kk, fun H2 sm => h9 _ H2 (.same sm) (fun _ => sm) (S1.same sm) ⟨.inl (.bl _), fun _ => .bl _⟩⟩
      unfold isxW at h6
      split at h6
      · rename_i w'
        obtain ⟨q1, q2⟩ := pa_names rfl (fun {y} => X'.gl) nv h6
        obtain ⟨x1, v1, u1, rfl, rfl, rfl, hw⟩ := one_name nv h6
        cases q2 with
        | cons k1 _ =>
          refine (pe_callB call_isx g m (by decide +kernel) (pa_cons h q1 (star_one h4 _ X.env)) (by decide) (by decide) (star_one h4 _ X.env) (star_none X.env _ (by rw [List.all_cons, hw]; rfl))).imp fun σ H Q z => ?_
          refine tE_mono (rd z) fun v H1 ⟨p, A, dd, O, fs, b, e0, e1, e2, G, kk, q⟩ => ?_
          exact ⟨p, A, dd, O, fs, v1, u1, b, by rw [e0], k1, e1, e2, G, kit1 kk, q H1 (Same.refl _)⟩
      · rename_i ws j pw
        rw [Bool.and_eq_true, decide_eq_true_eq] at h6
        obtain ⟨q1, q2⟩ := pa_names rfl (fun {y} => X'.gl) nv h6.1
        refine (pe_callB call_isxT g m (by decide +kernel) (pa_cons h (pa_cons (pe_tup q1) pa_nil rfl) (star_one h4 _ X.env)) (by decide) (by decide) (star_one h4 _ X.env) rfl).imp fun σ H Q z => ?_
        refine tE_mono (rd z) fun v H1 ⟨p, A, dd, O, fs, b, e0, e1, e2, G, kk, q⟩ => ?_
        refine ⟨by rw [← vs_len nv (names_len h6.1)]; exact Nat.le_trans h6.2 (by rw [sizeLine_eq]; omega), fun tp hp => ?_⟩
        have sm := same_new (o := .tup vs) hp
        exact ⟨p, A, tp, dd, O, fs, vs, us, b, by rw [e0], upd_same, q2, sm _ _ e1, e2.keep (.same sm), G, kk, q _ sm⟩
      · cases h6
    · cases hm
  · cases hm
theorem lookup_rep {K : PySem.W.Frag} {cl : Nat → Option Addr} {O : List Addr} {H : Hp} {f : Str} {d : IV} : ∀ {fs : List (Str × V)} {ds : List (Str × IV)}, fs.map (·.1) = ds.map (·.1) → RepAll K cl O H (fs.map (·.2)) (ds.map (·.2)) → ds.lookup f = some d → ∃ v, fs.lookup f = some v ∧ Rep K cl O H v d
  | [], [], _, _, h => nomatch h
  | (x, v) :: fs, (y, e) :: ds, hk, hr, h => by
    simp only [List.map_cons, List.cons.injEq] at hk
    obtain ⟨rfl, hk⟩ := hk
    cases hr with
    | cons r1 r2 =>
      rw [lookup_put]
      by_cases q : f = x
      · subst q
        rw [if_pos rfl]
        simp [List.lookup] at h
        subst h
        exact ⟨v, rfl, r1⟩
      · rw [if_neg q]
        have e' : (f == x) = false := by simpa using q
        simp only [List.lookup, e'] at h
        exact lookup_rep hk r2 h
  | [], _ :: _, hk, _, _ => nomatch hk
  | _ :: _, [], hk, _, _ => nomatch hk
theorem c_fld (X' : XOk T cs k C W N sc X) {a : E} {f : Str} {cs' ks' : List Nat} {x y : Expr} (hm : mP1 T sc (.fld f cs' ks') x = some y) (hv : a.isView = false) (h : PE X y (tE cs C W a)) : PE X x (tE cs C W (.pr1 (.fld f cs' ks') a)) := by
  unfold mP1 at hm
  split at hm
  · rename_i f' cs'' ks'' o y0 p he
    cases he
    split at hm
    · rename_i hz
      cases hm
      simp only [Bool.and_eq_true, decide_eq_true_eq, List.all_eq_true] at hz
      obtain ⟨rfl, h2, h3, h3'⟩ := hz
      refine ⟨fun pins s σ H Q I z => ?_⟩
      refine attr_of (noSuper_ok h2) (thn (h.run pins s σ H (fun v H1 => (∃ (p A dx : Addr) (fs : List (Str × V)) (w : V), v = .ref p ∧ H1 p = some (exo p A (some dx)) ∧ H1 dx = some (exd dx fs) ∧ XGet X.K A ∧ PySem.W.findIn X.K (.ref A) y0 = some none ∧ fs.lookup y0 = some w ∧ Q w H1) ∨
        ∃ (p A dx : Addr) (fs : List (Str × V)) (w : V), v = .ref p ∧ H1 p = some (.ins A dx fs) ∧ Cls X.K A ∧ NoAttr X.K A y0 ∧ fs.lookup y0 = some w ∧ Q w H1) I ?_) fun u s1 hh => ?_)
      · obtain ⟨L, O, ρ, S, q⟩ := z
        refine ⟨L, O, ρ, S, Post.bind q fun d ρ1 v H1 k1 s1 S1 r1 h1 => ?_⟩
        have h1 := Post.mono k1 s1 h1
        unfold rLift at h1
        have rr := r1.2 hv
        cases hf : pr1D (.fld y0 cs' ks') d with
        | none => rw [hf] at h1; exact h1.elim
        | some e =>
          rw [hf] at h1
          have h9 := h1
          match d, rr, hf with
          | .exc c ds, .exc (a := p) (C := A) (dd := dd) (fs := fs) e1 e2 e3 e4 e5 e6, hf =>
            have hf : (if c ∈ cs' then ds.lookup y0 else none) = some e := hf
            split at hf
            · rename_i hc
              have hc' := h3 c hc
              unfold hasX at hc'
              split at hc'
              · rename_i xc hxc
                obtain ⟨A', B, nI, i, bmB, g1, g2, g3, g4, g5, _⟩ := X'.facts.xcls c xc hxc
                rw [e2] at g1
                cases g1
                obtain ⟨w, hw, rw'⟩ := lookup_rep e5 e6 hf
                cases dd with
                | none =>
                  have e4 : fs = [] := e4
                  rw [e4] at hw
                  cases hw
                | some dx => exact .inl ⟨p, A, dx, fs, w, rfl, e1, e4.1, g4, g5 _ (by simpa using hc'), hw, h9 _ H1 (Keep.refl _ _) (fun _ => Same.refl _) S1 ⟨.inl rw', fun _ => rw'⟩⟩
              · cases hc'
            · cases hf
          | .ins c ds, .insH (a := p) (C := A) (dx := dx) (fs := fs) e1 e2 e3 e5 e6, hf =>
            have hf : (if c ∈ ks' then ds.lookup y0 else none) = some e := hf
            split at hf
            · rename_i hc
              obtain ⟨A', g1, g2, g3⟩ := X'.facts.flds _ (of_decide_eq_true (h3' c hc))
              rw [e2] at g1
              cases g1
              obtain ⟨w, hw, rw'⟩ := lookup_rep e5 e6 hf
              exact .inr ⟨p, A, dx, fs, w, rfl, e1, g2, g3, hw, h9 _ H1 (Keep.refl _ _) (fun _ => Same.refl _) S1 ⟨.inl rw', fun _ => rw'⟩⟩
            · cases hf
      · obtain ⟨v, H1, I1, rx, hh⟩ := hh
        rcases hh with ⟨p, A, dx, fs, w, e0, e1, e2, G, no, hw, q⟩ | ⟨p, A, dx, fs, w, e0, e1, G, no, hw, q⟩
        · subst e0
          obtain rfl : u = Value.ref p := rx
          obtain ⟨t1, hx⟩ := exo_at I1.hok e1
          obtain ⟨mA, hns, hr⟩ := exd_at I1.hok e2
          obtain ⟨od, ho, hl⟩ := lookIn_ns hns
          obtain ⟨uw, hu, ru⟩ := RelO.some_of (v := w) (o := mA y0) (by rw [← hw]; exact hr y0)
          have J : PySem.W.InstAt s1.heap p _ A (some od) := ⟨hx, rfl, rfl, ho⟩
          exact HandSPX.exc_get I1.kIn J G.ga G.gg G.sub (PySem.W.findObj_own G.hd no rfl (by rw [hl, hu])) (handed_of ru) ⟨w, H1, I1.tok _, ru, q⟩
        · subst e0
          obtain rfl : u = Value.ref p := rx
          exact getattr_ok I1 e1 G no hw fun u' s2 I2 ru => ⟨w, H1, I2, ru, q⟩
    · cases hm
  · rename_i he; cases he
  · cases hm
theorem c_pr1 (X' : XOk T cs k C W N sc X) {a : E} {p : P1} {x y : Expr} (hm : mP1 T sc p x = some y) (hv : a.isView = false) (h : PE X y (tE cs C W a)) : PE X x (tE cs C W (.pr1 p a)) := by
  cases p with
  | fld f cs' ks' => exact c_fld X' hm hv h
  | isx xs tup ys ns => exact c_isx X' hm hv h
theorem room1 (X' : XOk T cs k C W N sc X) : X.A.depth + 1 < recursionLimit := by have := X'.room.dp; omega
theorem mk_fin (X' : XOk T cs k C W N sc X) {c : Nat} {xc : Xc} (hT : T.xcls c = some xc) (sup : X.mg "super" = none) {A : Addr} (hA : X.mg xc.name = some (.ref A)) {pins : List (Addr × Obj)} {σ : L2.St} {H : Hp} {s : Shared} {us : List Value} {vs : List V} {Q : VK} (I : Inv X pins σ H s) (r : Vals vs us) (q : spX X.K C.cl c xc.ps vs H Q) :
    wpAny (model X.prog X.w) X.A (call (.ref A) us) (EP X pins σ Q) X.xe s := by
  obtain ⟨A', B, nI, i, bmB, g1, g2, g3, g4, g5, g6, g7⟩ := X'.facts.xcls c xc hT
  rw [hA] at g2
  cases g2
  have hl : vs.length = xc.ps.length := by obtain ⟨_, _, _, _, z, _⟩ := q; exact z
  cases ho : xc.own with
  | true =>
    rw [ho, if_pos rfl] at g7
    obtain ⟨fI, fd, J, hfn, hb, _⟩ := g7
    refine mk_run (T := xc) g1 g3 J hfn sup I (room1 X') r (by rw [← r.length, hl, sizeLine_eq]; omega) (fun s x KI => ?_) q
    have b := hb s (.ref x :: us) KI (by simp [← r.length, hl])
    rw [List.append_nil] at b
    exact b
  | false =>
    rw [ho, if_neg Bool.false_ne_true] at g7
    obtain ⟨hps, _, hi⟩ := g7
    have ev : vs = [] := List.eq_nil_of_length_eq_zero (by rw [hl, hps]; rfl)
    subst ev
    cases r
    rw [hps] at q
    exact mk_run0 g1 g3 hi I q
theorem xcls_sup (X' : XOk T cs k C W N sc X) (z : T.xcls 0 ≠ none) : X.mg "super" = none := X'.facts.sup z
theorem mk_read {c : Nat} {ps : List Str} {es : Es} (nv : es.noView = true) {σ : L2.St} {H : Hp} {Q : VK} (h : tE cs C W (.mk c ps es) σ H Q) : tEs cs C W es σ H fun vs H1 => spX C.K C.cl c ps vs H1 Q := by
  obtain ⟨L, O, ρ, S, q⟩ := h
  refine ⟨L, O, ρ, S, Post.bind q fun ds ρ1 vs H1 k1 s1 S1 r1 h1 => ?_⟩
  have h1 := Post.mono k1 s1 h1
  have ra := r1.2 nv
  unfold rLift mkD at h1
  by_cases hz : ds.length = ps.length
  · rw [if_pos hz] at h1
    exact ⟨O, ds, S1.live, ra, by rw [ra.length, hz], fun w H' sm rp => h1 w H' (.same sm) (fun _ => sm) (S1.same sm) ⟨.inl rp, fun _ => rp⟩⟩
  · rw [if_neg hz] at h1
    exact h1.elim
theorem c_mk (X' : XOk T cs k C W N sc X) {c : Nat} {xc : Xc} {es : Es} {xs : List Expr} {y : Str} {p q : Pos} (hT : T.xcls c = some xc) (h0 : T.xcls 0 ≠ none) (hy : y = xc.name) (hg : gloB sc y = true) (hma : mEs T N es sc xs = true) (nv : es.noView = true) (hd : (y == ("__debug__" : Str)) = false) (pa : PA X xs (tEs cs C W es)) :
    PE X (.Call (.Name y p) xs [] q) (tE cs C W (.mk c xc.ps es)) := by
  obtain ⟨A, B, nI, i, bmB, g1, g2, g3, _⟩ := X'.facts.xcls c xc hT
  have g := X'.gl hg
  have sup := xcls_sup X' h0
  subst hy
  refine ⟨fun pins s σ H Q I z => ?_⟩
  have z := mk_read nv z
  rw [X'.CK] at z
  refine wpAny_Call_Name_kw (ld_glob I g g2 ?_ hd)
  cases xs with
  | nil =>
    have e : es = .nil := by
      cases es with
      | nil => rfl
      | cons e r => unfold mEs at hma; cases hma
    subst e
    exact PySem.W.callWith_K0 I.kIn g3.kC (mk_fin X' hT sup g2 I .nil (tEs_nil z))
  | cons x xs =>
    have hs := all_star hma
    rw [List.all_cons, Bool.and_eq_true] at hs
    exact PySem.W.callWith_K (h₀ := X.base) I.ok.mod.kin g3.kC (thn (pa.run q pins s σ H _ I z) fun us s1 ⟨vs, H1, I1, r, z1⟩ => ⟨I1.kIn, mk_fin X' hT sup g2 I1 r z1⟩) (star_one hs.1 xs X.env) (star_none X.env q hs.2)
theorem mkK_read {c : Nat} {ps : List Str} {as bs : Es} {ks : List Str} {perm : List Nat} {n : Nat} (ha : as.noView = true) (hb : bs.noView = true) (hn : as.len = n) (hk : bs.len = ks.length) {σ : L2.St} {H : Hp} {Q : VK} (h : tE cs C W (.mkK c ps as bs ks perm) σ H Q) :
    tEs cs C W as σ H fun vs H1 => vs.length = n ∧ tEs cs C W bs σ H1 fun zs H2 => zs.length = ks.length ∧ ∃ rs, pick (vs ++ zs) perm = some rs ∧ spX C.K C.cl c ps rs H2 Q := by
  obtain ⟨L, O, ρ, S, q⟩ := h
  have pp : (E.mkK c ps as bs ks perm).pure = true → as.pure = true ∧ bs.pure = true := fun z => by
    have z : (as.pure && bs.pure) = true := z
    rwa [Bool.and_eq_true] at z
  refine ⟨L, O, ρ, S, Post.bindE q fun ds ρ1 vs H1 hm1 k1 s1 S1 r1 h1 => ?_⟩
  have r1 := r1.2 ha
  refine ⟨by rw [r1.length, evEs_len hm1, hn], L, O, ρ1, S1, Post.bindE (Post.mono k1 (fun z => s1 (pp z).1) h1) fun es ρ2 zs H2 hm2 k2 s2 S2 r2 h2 => ?_⟩
  have h2 := Post.mono k2 (fun z => s2 (pp z).2) h2
  have r2 := r2.2 hb
  refine ⟨by rw [r2.length, evEs_len hm2, hk], ?_⟩
  unfold rLift mkD at h2
  match hd : pick (ds ++ es) perm, h2 with
  | none, h2 => exact h2.elim
  | some ws, h2 =>
    obtain ⟨rs, hrs, rr⟩ := pick_rep ((r1.keep k2).append r2) hd
    refine ⟨rs, hrs, ?_⟩
    dsimp only at h2
    by_cases hz : ws.length = ps.length
    · rw [if_pos hz] at h2
      exact ⟨O, ws, S2.live, rr, by rw [rr.length, hz], fun w H' sm rp => h2 w H' (.same sm) (fun _ => sm) (S2.same sm) ⟨.inl rp, fun _ => rp⟩⟩
    · rw [if_neg hz] at h2
      exact h2.elim
theorem pick_succ {α : Type} {x : α} : ∀ {l : List α} {is : List Nat} {zs : List α}, pick l is = some zs → pick (x :: l) (is.map (· + 1)) = some zs
  | _, [], _, h => h
  | l, i :: is, zs, h => by
    unfold pick at h
    simp only [List.map_cons]
    unfold pick
    rw [List.getElem?_cons_succ]
    match h1 : l[i]?, h2 : pick l is, h with
    | some d, some r, h => rw [pick_succ h2]; exact h
theorem mkK_fin (X' : XOk T cs k C W N sc X) {c : Nat} {xc : Xc} (hT : T.xcls c = some xc) (sup : X.mg "super" = none) {A : Addr} (hA : X.mg xc.name = some (.ref A)) {pins : List (Addr × Obj)} {σ : L2.St} {H : Hp} {s : Shared} {us ws : List Value} {vs zs rs : List V} {Q : VK} {n : Nat} {ks : List Str} {perm : List Nat} (hin : (n, ks, perm) ∈ xc.kws) (hn : n ≤ 100)
    (I : Inv X pins σ H s) (r : Vals vs us) (rz : Vals zs ws) (h1 : vs.length = n) (h2 : zs.length = ks.length) (h3 : pick (vs ++ zs) perm = some rs) (q : spX X.K C.cl c xc.ps rs H Q) :
    wpAny (model X.prog X.w) X.A (call (.ref A) us (ks.zip ws)) (EP X pins σ Q) X.xe s := by
  obtain ⟨A', B, nI, i, bmB, g1, g2, g3, g4, g5, g6, g7⟩ := X'.facts.xcls c xc hT
  rw [hA] at g2
  cases g2
  cases ho : xc.own with
  | true =>
    rw [ho, if_pos rfl] at g7
    obtain ⟨fI, fd, J, hfn, _, hk⟩ := g7
    obtain ⟨qs, hq, rq⟩ := pick_vals (r.append rz) h3
    refine mk_run (T := xc) g1 g3 J hfn sup I (room1 X') rq (by rw [← r.length, h1, sizeLine_eq]; omega) (fun s x KI => ?_) q
    refine hk _ hin s (.ref x :: us) ws (.ref x :: qs) KI (by simp [← r.length, h1]) (by rw [← rz.length, h2]) ?_
    show pick (.ref x :: (us ++ ws)) (0 :: perm.map (· + 1)) = _
    unfold pick
    rw [pick_succ hq]
    rfl
  | false =>
    rw [ho, if_neg Bool.false_ne_true] at g7
    rw [g7.2.1] at hin
    cases hin
theorem c_mkK (X' : XOk T cs k C W N sc X) {c : Nat} {xc : Xc} {as bs : Es} {ks : List Str} {perm : List Nat} {xs : List Expr} {kws : List Keyword} {y : Str} {p q : Pos} (hT : T.xcls c = some xc) (h0 : T.xcls 0 ≠ none) (hy : y = xc.name) (hg : gloB sc y = true) (hkw : kwB ks kws = true) (hma : mEs T N as sc xs = true) (hmb : mEs T N bs sc (kwVals kws) = true)
    (ha : as.noView = true) (hb : bs.noView = true) (hin : (xs.length, ks, perm) ∈ xc.kws) (hd : (y == ("__debug__" : Str)) = false) (hl : xs.length ≤ 100) (pa : PA X xs (tEs cs C W as)) (pk : PK X kws (tEs cs C W bs)) : PE X (.Call (.Name y p) xs kws q) (tE cs C W (.mkK c xc.ps as bs ks perm)) := by
  obtain ⟨A, B, nI, i, bmB, g1, g2, g3, _⟩ := X'.facts.xcls c xc hT
  have g := X'.gl hg
  have sup := xcls_sup X' h0
  subst hy
  obtain ⟨k1, k2, k3⟩ := kw_all (env := X.env) q hkw
  refine ⟨fun pins s σ H Q I z => ?_⟩
  have z := mkK_read ha hb (mEs_len hma).symm (by rw [← mEs_len hmb, kw_len hkw]) z
  rw [X'.CK] at z
  refine wpAny_Call_Name_kw (ld_glob I g g2 ?_ hd)
  cases xs with
  | nil =>
    have e : as = .nil := by
      cases as with
      | nil => rfl
      | cons e r => unfold mEs at hma; cases hma
    subst e
    obtain ⟨z0, z⟩ := tEs_nil z
    refine PySem.W.callWith_KW0 (h₀ := X.base) I.ok.mod.kin g3.kC k1 (thn (pk.run q pins s σ H _ I z) fun ws s2 ⟨zs, H2, I2, rz, h2, rs, h3, z3⟩ => ⟨I2.kIn, ?_⟩) k3
    rw [k2]
    exact mkK_fin X' hT sup g2 hin hl I2 (us := []) .nil rz rfl h2 h3 z3
  | cons x xs =>
    have hs := all_star hma
    have hs' := hs
    rw [List.all_cons, Bool.and_eq_true] at hs
    refine PySem.W.callWith_KW (h₀ := X.base) I.ok.mod.kin g3.kC k1 (thn (pa.run q pins s σ H _ I z) fun us s1 ⟨vs, H1, I1, r, hl1, z1⟩ => thn (pk.run q pins s1 σ H1 _ I1 z1) fun ws s2 ⟨zs, H2, I2, rz, h2, rs, h3, z3⟩ => ⟨I2.kIn, ?_⟩) (by rw [star_none X.env q hs', k3]; rfl) (star_one hs.1 xs X.env)
    rw [k2]
    exact mkK_fin X' hT sup g2 hin hl I2 r rz hl1 h2 h3 z3
end
end Mx


/-! Mx, part 4m: instances: methods, making, fields of self. -/
namespace Mx
open PySem PySem.Spec PyProof.Rows L2
/-- a method call on one line, arguments by place -/
theorem eval_mN {o : Expr} {es : List Expr} {name : Str} {apos pos : Pos} {env : Env} (hs : es.all notStar = true) (hn : es.length ≤ 20) (hl : (apos.endLine == pos.line) = true) (hb : attributeBase o name env (eval o env) = eval o env) :
    eval (.Call (.Attribute o name apos) es [] pos) env = (do
      let ov ← eval o env
      standAt apos.atName
      let (f, first) ← holding [ov] (getMethod ov name (do return (← importBound o env).getD true))
      callWith pos f first (backTo pos (starEach es env)) (backToKw pos (keywordEach [] env))) := by
  have s0 := star_none env pos hs
  have n : methodCallForm (es.length + ([] : List Keyword).length) (backTo pos (starEach es env)) (backToKw pos (keywordEach [] env)) = true := by
    unfold methodCallForm
    have a : (backTo pos (starEach es env)).all (fun x => !x.1) = true := by
      rw [List.all_eq_true]
      intro x hx
      rw [List.any_eq_false] at s0
      simpa using s0 x hx
    rw [a]
    show (true && (true && decide (es.length + 0 + 0 < 30))) = true
    rw [decide_eq_true (by omega)]
    rfl
  show (attributeBase o name env (eval o env) >>= fun ov => standAt apos.atName >>= fun _ => methodCall o name apos pos env ov (es.length + ([] : List Keyword).length) (backTo pos (starEach es env)) (backToKw pos (keywordEach [] env))) = _
  rw [hb]
  unfold methodCall calleeOf methodCallPos
  simp only [n, hl, Bool.not_true, Bool.false_or, if_true, pure_bind]
section
variable {X : Cx} {W : WX} {k : Nat}
/-- o.m(e, ..): which def it is comes from the instance -/
theorem pe_methR {o : Expr} {es : List Expr} {m : Str} {apos pos : Pos} {ta : TE} {t : TA} (he : PE X o ta) (hb : attributeBase o m X.env (eval o X.env) = eval o X.env) (ha : PA X es t) (hs : es.all notStar = true) (hn : es.length ≤ 20) (hl : (apos.endLine == pos.line) = true)
    (hr : Room k X.A) (tk : Takes X W) (h0 : es = [] → ∀ σ H Q, t σ H Q → Q [] H) :
    PE X (.Call (.Attribute o m apos) es [] pos) (fun σ H Q => ta σ H fun x H1 => ∃ (a C dx : Addr) (fs : List (Str × V)) (g : Addr) (fd : FuncData) (ps : List Str) (sp : Sp) (dvs : List V) (ds : List Value) (rp : Bool), x = .ref a ∧ H1 a = some (.ins C dx fs) ∧ Cls X.K C ∧ Meth X.K C m g ∧ fs.lookup m = none ∧
      FnR X.prog X.w X.K X.mg X.base k rp g fd ps sp ∧ (rp = true → X.A.guards = some []) ∧ Binds X.K fd ps ds ∧ Vals dvs ds ∧ t σ H1 fun vs H2 => sp (x :: (vs ++ dvs)) H2 Q (fun c d H' => W c d σ H')) := by
  refine ⟨fun pins s σ H Q I h => ?_⟩
  refine PySem.W.methodCall_KW (thn (he.run pins s σ H _ I h) fun u s1 ⟨x, H1, I1, rx, a, C, dx, fs, g, fd, ps, sp, dvs, ds, rp, ex, ea, c, hm, l, F, hG, hbd, hd, q⟩ => ?_) (eval_mN hs hn hl hb)
  subst ex
  obtain rfl : u = Value.ref a := rx
  refine getmeth_ok I1 ea c hm l ?_
  have fin : ∀ (us : List Value) (s2 : Shared) (vs : List V) (H2 : Hp), Inv X pins σ H2 s2 → Vals vs us → sp (.ref a :: (vs ++ dvs)) H2 Q (fun c d H' => W c d σ H') → wpAny (model X.prog X.w) X.A (call (.ref g) (.ref a :: us)) (EP X pins σ Q) X.xe s2 := fun us s2 vs H2 I2 r q2 => by
    have r2 : Vals (V.ref a :: (vs ++ dvs)) (Value.ref a :: (us ++ ds)) := .cons rfl (r.append hd)
    have hlen : (Value.ref a :: us ++ ds).length = ps.length := by
      have e := r2.length
      rw [F.len _ _ _ _ q2] at e
      exact e.symm
    exact run_fnR (args := ⟨.ref a :: us, []⟩) F hG hr tk I2 (hbd s2 (.ref a :: us) I2.kIn hlen) r2 q2
  cases es with
  | nil => exact PySem.W.callWith_K0 (first := [.ref a]) I1.kIn hm.kp (fin [] s1 [] H1 I1 .nil (h0 rfl _ _ _ q))
  | cons e es =>
    rw [List.all_cons, Bool.and_eq_true] at hs
    exact PySem.W.callWith_K (first := [.ref a]) (h₀ := X.base) I.ok.mod.kin hm.kp (thn (ha.run pos pins s1 σ H1 _ I1 q) fun us s2 ⟨vs, H2, I2, r, q2⟩ => ⟨I2.kIn, fin us s2 vs H2 I2 r q2⟩) (star_one hs.1 es X.env) (star_none X.env pos hs.2)
theorem make_guards {A : Around} {C : Addr} {us : List Value} {kw : List (Str × Value)} (h : A.guards = some []) : (A.under (.builtin "type.__call__" ⟨.ref C :: us, kw⟩)).guards = some [] := by
  first | exact h | (simpa [Around.under, Code.isGuard, guardIds] using h)
/-- C(e, ..) -/
theorem pe_newR {es : List Expr} {t : TA} {C f : Addr} {fd : FuncData} {ps : List Str} {sp : Sp} {dvs : List V} {ds : List Value} {x : Str} {p pos : Pos} {rp : Bool} (M : Mk X.K C f) (F : FnR X.prog X.w X.K X.mg X.base k rp f fd ps sp) (hG : rp = true → X.A.guards = some []) (hr : Room (k + 1) X.A) (tk : Takes X W) (hg : Gl X x) (hm : X.mg x = some (.ref C)) (hb : Binds X.K fd ps ds) (hd : Vals dvs ds)
    (ha : PA X es t) (hs : es.all notStar = true) (hdb : (x == ("__debug__" : Str)) = false) (h0 : es = [] → ∀ σ H Q, t σ H Q → Q [] H) :
    PE X (.Call (.Name x p) es [] pos) (fun σ H Q => t σ H fun vs H1 => ∀ x dx, H1 x = none → H1 dx = none → dx ≠ x → sp (.ref x :: (vs ++ dvs)) (upd (upd H1 dx (.own x)) x (.ins C dx [])) (fun v H2 => v = .non ∧ Q (.ref x) H2) (fun c d H' => W c d σ H')) := by
  refine ⟨fun pins s σ H Q I h => ?_⟩
  refine wpAny_Call_Name_kw (ld_glob I hg hm ?_ hdb)
  have fin : ∀ (us : List Value) (s : Shared) (vs : List V) (H : Hp), Inv X pins σ H s → Vals vs us → (∀ x dx, H x = none → H dx = none → dx ≠ x → sp (.ref x :: (vs ++ dvs)) (upd (upd H dx (.own x)) x (.ins C dx [])) (fun v H2 => v = .non ∧ Q (.ref x) H2) (fun c d H' => W c d σ H')) →
      wpAny (model X.prog X.w) X.A (call (.ref C) us) (EP X pins σ Q) X.xe s := fun us s vs H I r h => by
    have hq := h (s.heap.objs.size + 1) s.heap.objs.size (I.hok.fresh (Nat.le_succ _)) (I.hok.fresh (Nat.le_refl _)) (Nat.ne_of_lt (Nat.lt_succ_self _))
    have I2 := Inv.made (C := C) I
    have r2 : Vals (V.ref (s.heap.objs.size + 1) :: (vs ++ dvs)) (Value.ref (s.heap.objs.size + 1) :: (us ++ ds)) := .cons rfl (r.append hd)
    have hl : (Value.ref (s.heap.objs.size + 1) :: us ++ ds).length = ps.length := by
      have e := r2.length
      rw [F.len _ _ _ _ hq] at e
      exact e.symm
    refine wpAny_call (make_map (f := f) I.kIn M.makes M.init (beq_iff_eq.mp M.fn) (codeAny_mono (F.run _ X.stack _ _ ⟨Value.ref (s.heap.objs.size + 1) :: us, []⟩ (Value.ref (s.heap.objs.size + 1) :: (us ++ ds)) _ _ _ (fun z => make_guards (hG z)) (hr.make C us []) (I2.env0.make C us []) (hb _ (Value.ref (s.heap.objs.size + 1) :: us) I2.kIn hl) r2 hq) fun r s' hq' => ?_))
    cases r with
    | error e => exact passAt tk σ pins _ _ e s' I2 hq'
    | ok fl =>
      cases fl with
      | ret u =>
        obtain ⟨v, H', I3, rv, ev, q3⟩ := I2.after hq'
        subst ev
        exact ⟨rv, ⟨V.ref (s.heap.objs.size + 1), H', I3, rfl, q3⟩⟩
      | next => exact hq'.elim
      | brk => exact hq'.elim
      | cont => exact hq'.elim
  cases es with
  | nil => exact PySem.W.callWith_K0 I.kIn M.kp (fin [] s [] H I .nil (h0 rfl _ _ _ h))
  | cons e es =>
    rw [List.all_cons, Bool.and_eq_true] at hs
    exact PySem.W.callWith_K (h₀ := X.base) I.ok.mod.kin M.kp (thn (ha.run pos pins s σ H _ I h) fun us s1 ⟨vs, H1, I1, r, q⟩ => ⟨I1.kIn, fin us s1 vs H1 I1 r q⟩) (star_one hs.1 es X.env) (star_none X.env pos hs.2)
end
end Mx


/-! Mx, part 4n: what the words for instances compute. -/
namespace Mx
open PySem PySem.Spec PyProof.Rows L2
theorem idxX_app {dv : List IV} : ∀ {xs : List (IV ⊕ Nat)}, idxX (xs ++ dv.map .inl) = idxX xs
  | [] => by
    induction dv with
    | nil => rfl
    | cons d dv ih => exact ih
  | .inl _ :: xs => idxX_app (xs := xs)
  | .inr i :: xs => by show i :: idxX (xs ++ dv.map .inl) = i :: idxX xs; rw [idxX_app]
theorem isR_app {xs : List (IV ⊕ Nat)} {dv : List IV} : (xs ++ dv.map Sum.inl).map isR = xs.map isR ++ dv.map fun _ => false := by
  rw [List.map_append, List.map_map]
  rfl
section
variable {T : Tab} {cs : CS} {k : Nat} {C : Ct} {W : WX} {N : List Str} {sc : Scope} {X : Cx}
theorem RlA.ofRep {σ : L2.St} {O : List Addr} {H : Hp} : ∀ {dvs : List V} {dv : List IV}, RepAll C.K C.cl O H dvs dv → RlA C σ O H dvs (dv.map .inl)
  | _, _, .nil => trivial
  | _, _, .cons r t => ⟨r, RlA.ofRep t⟩
theorem RlA.app {σ : L2.St} {O : List Addr} {H : Hp} {dvs : List V} {dv : List IV} (rd : RepAll C.K C.cl O H dvs dv) : ∀ {vs : List V} {xs : List (IV ⊕ Nat)}, RlA C σ O H vs xs → RlA C σ O H (vs ++ dvs) (xs ++ dv.map .inl)
  | [], [], _ => RlA.ofRep rd
  | v :: vs, .inl d :: xs, h => ⟨h.1, RlA.app rd (vs := vs) (xs := xs) h.2⟩
  | v :: vs, .inr i :: xs, h => ⟨h.1, RlA.app rd (vs := vs) (xs := xs) h.2⟩
theorem RlA.more {σ : L2.St} {O : List Addr} {H : Hp} {p : Addr} (hp : H p = none) : ∀ {vs : List V} {xs : List (IV ⊕ Nat)}, RlA C σ O H vs xs → RlA C σ (p :: O) H vs xs
  | [], [], h => h
  | v :: vs, .inl d :: xs, h => ⟨h.1.more hp, RlA.more hp (vs := vs) (xs := xs) h.2⟩
  | v :: vs, .inr i :: xs, h => ⟨h.1, RlA.more hp (vs := vs) (xs := xs) h.2⟩
theorem takesB_ok {ks : List Bool} {dv : List IV} {f : Nat} (h : takesB T ks dv f = true) : ∃ fn, T.fns f = some fn ∧ callB T fn = true ∧ fn.muts = ks ++ (dv.map fun _ => false) ∧ fn.muts.length = fn.ps.length ∧ (dv = [] ∨ dv ∈ fn.dfls) := by
  unfold takesB at h
  split at h
  · rename_i fn hT
    simp only [Bool.and_eq_true, decide_eq_true_eq, Bool.or_eq_true, List.any_eq_true] at h
    obtain ⟨⟨h0, h1⟩, h2, h3⟩ := h
    refine ⟨fn, hT, h0, h1, h2, h3.imp (fun z => by simpa using z) fun ⟨d, hd, e⟩ => ?_⟩
    rw [← IV.beqs_eq e]
    exact hd
  · cases h
/-- what stands for the parameters left out -/
theorem bindD_of {K : PySem.W.Frag} {cl : Nat → Option Addr} {fd : FuncData} {ps : List Str} {dv : List IV} {dfls : List (List IV)} (b : Binds K fd ps []) (bd : ∀ dv ∈ dfls, BindD K cl fd ps dv) (h : dv = [] ∨ dv ∈ dfls) : ∃ ds dvs, Binds K fd ps ds ∧ Vals dvs ds ∧ ∀ O H, RepAll K cl O H dvs dv := by
  rcases h with rfl | h
  · exact ⟨[], [], b, .nil, fun _ _ => .nil⟩
  · exact bd dv h
theorem lookup_no {f : Str} : ∀ {fs : List (Str × V)} {ds : List (Str × IV)}, fs.map (·.1) = ds.map (·.1) → (ds.lookup f).isNone = true → fs.lookup f = none
  | [], [], _, _ => rfl
  | (x, v) :: fs, (y, e) :: ds, hk, h => by
    simp only [List.map_cons, List.cons.injEq] at hk
    obtain ⟨rfl, hk⟩ := hk
    rw [lookup_put]
    by_cases q : f = x
    · subst q
      simp [List.lookup] at h
    · rw [if_neg q]
      have e' : (f == x) = false := by simpa using q
      simp only [List.lookup, e'] at h
      exact lookup_no hk h
  | [], _ :: _, hk, _ => nomatch hk
  | _ :: _, [], hk, _ => nomatch hk
theorem tAs_nil {σ : L2.St} {H : Hp} {Q : List V → Hp → Prop} (h : tAs cs C W .nil σ H Q) : Q [] H := by
  obtain ⟨L, O, ρ, S, q⟩ := h
  exact Post.ok q S trivial
theorem as_nil {as : As} {xs : List Expr} (h : mAs T N as sc xs = true) (e : xs = []) : as = .nil := by
  subst e
  cases as with
  | nil => rfl
  | v e r => unfold mAs at h; cases h
  | m i r => unfold mAs at h; cases h
theorem lookup_tab {c f : Nat} : ∀ {tab : List (Nat × Nat)}, tab.lookup c = some f → (c, f) ∈ tab
  | [], h => nomatch h
  | (a, b) :: r, h => by
    by_cases e : c = a
    · subst e
      simp [List.lookup] at h
      subst h
      exact List.mem_cons_self ..
    · have e' : (c == a) = false := by simpa using e
      simp only [List.lookup, e'] at h
      exact List.mem_cons_of_mem _ (lookup_tab h)
theorem methD_ok {m : Str} {tab : List (Nat × Nat)} {c f : Nat} {ds : List (Str × IV)} (h : methD m tab (.ins c ds) = some f) : (ds.lookup m).isNone = true ∧ (c, f) ∈ tab := by
  have h : (if (ds.lookup m).isNone = true then tab.lookup c else none) = some f := h
  split at h
  · rename_i z; exact ⟨z, lookup_tab h⟩
  · cases h
theorem kinds_all {ks : List Bool} {dv : List IV} (h : ∀ b ∈ ks, b = false) : ∀ b ∈ ks ++ (dv.map fun _ => false), b = false := fun b hb => by
  rcases List.mem_append.mp hb with z | z
  · exact h b z
  · obtain ⟨_, _, e⟩ := List.mem_map.mp z
    exact e.symm
/-- e.m(..) of an instance that does not change -/
theorem c_methV (X' : XOk T cs k C W N sc X) {m : Str} {tab : List (Nat × Nat)} {a : E} {as : As} {dv : List IV} {o : Expr} {xs : List Expr} {p q : Pos} (hv : a.isView = false) (ho : noSuper o = true) (hl : (p.endLine == q.line) = true) (hn : xs.length ≤ 20) (hi : as.idx.Nodup) (hma : mAs T N as sc xs = true)
    (ht : ∀ t ∈ tab, (t.1, m, t.2) ∈ T.meths ∧ takesB T (false :: as.kinds) dv t.2 = true) (he : PE X o (tE cs C W a)) (pa : PA X xs (tAs cs C W as)) : PE X (.Call (.Attribute o m p) xs [] q) (tE cs C W (.methV m tab a as dv)) := by
  refine (pe_methR (k := 5 * k) he (noSuper_ok ho) pa (as_star hma) hn hl X'.room0 X'.tk (fun e σ H Q z => by rw [as_nil hma e] at z; exact tAs_nil z)).imp fun σ H Q ⟨L, O, ρ, S, z⟩ => ?_
  have pp : (E.methV m tab a as dv).pure = true → a.pure = true ∧ as.pure = true := fun z => by
    have z : (a.pure && as.pure) = true := z
    rwa [Bool.and_eq_true] at z
  refine ⟨L, O, ρ, S, Post.bind z fun d ρ1 v H1 k1 s1 S1 r1 h1 => ?_⟩
  have h1 := Post.mono k1 (fun z => s1 (pp z).1) h1
  have rr := r1.2 hv
  cases hf : methD m tab d with
  | none => unfold rBind rLift at h1; rw [hf] at h1; exact h1.elim
  | some f =>
    have h9 : Post C L O σ W (E.methV m tab a as dv).pure (RlE C (E.methV m tab a as dv).isView O) H1 ((rBind (evAs cs as) fun xs => rCall cs f (.inl d :: (xs ++ dv.map .inl))) ρ1) Q := by
      unfold rBind rLift at h1
      rw [hf] at h1
      exact h1
    cases rr with
    | @insH p A dx c fs ds e1 e2 e3 e5 e6 =>
      obtain ⟨g1, g2⟩ := methD_ok hf
      obtain ⟨g3, g4⟩ := ht _ g2
      obtain ⟨fn, hT, hcb, m1, m2, m3⟩ := takesB_ok g4
      obtain ⟨g, fd, hat, hkp, hb, hbd, _, F⟩ := X'.facts.fns f fn hT (X'.gdf hcb).2
      obtain ⟨A', a1, a2, a3⟩ := hat.2.1 _ g3 rfl
      rw [e2] at a1
      cases a1
      obtain ⟨dsv, dvs, b1, b2, b3⟩ := bindD_of hb hbd m3
      refine ⟨p, A, dx, fs, g, fd, fn.ps, _, dvs, dsv, fn.rp, rfl, e1, a2, a3, lookup_no e5 g1, F, (X'.gdf hcb).1, b1, b2, L, O, ρ1, S1, Post.bindE h9 fun xs ρ2 vs H2 hm k2 s2 S2 r2 h2 => ?_⟩
      have h2 := Post.mono k2 (fun z => s2 (pp z).2) h2
      obtain ⟨i1, i2⟩ := evAs_shape as hm
      refine call_fin X'.CK (fn := fn) (xs := .inl (.ins c ds) :: (xs ++ dv.map .inl)) S2 ⟨(Rep.insH e1 e2 e3 e5 e6).keep k2, RlA.app (by rw [X'.CK]; exact b3 O H2) r2⟩ ?_ m2 ?_ ?_ h2
      · show false :: (xs ++ dv.map Sum.inl).map isR = fn.muts
        rw [isR_app, i1, m1]
        rfl
      · show (idxX (xs ++ dv.map Sum.inl)).Nodup
        rw [idxX_app, i2]
        exact hi
      · intro z
        rw [m1]
        exact kinds_all fun b hb => (List.mem_cons.mp hb).elim id fun z' => As.kinds_pure (pp z).2 b z'
    | _ => cases hf
/-- y.m(..), y a changing instance -/
theorem c_methM (X' : XOk T cs k C W N sc X) {m : Str} {tab : List (Nat × Nat)} {i : Nat} {as : As} {dv : List IV} {y : Str} {xs : List Expr} {p p' q : Pos} (hs : slotB N sc i y = true) (hl : (p.endLine == q.line) = true) (hn : xs.length ≤ 20) (hi : (i :: as.idx).Nodup) (hma : mAs T N as sc xs = true)
    (ht : ∀ t ∈ tab, (t.1, m, t.2) ∈ T.meths ∧ takesB T (true :: as.kinds) dv t.2 = true) (pa : PA X xs (tAs cs C W as)) : PE X (.Call (.Attribute (.Name y p') m p) xs [] q) (tE cs C W (.methM m tab i as dv)) := by
  obtain ⟨v1, v2, v3, v4⟩ := X'.vis hs
  refine (pe_methR (k := 5 * k) (pe_var v1 v2 v3 v4) (noSuper_ok rfl) pa (as_star hma) hn hl X'.room0 X'.tk (fun e σ H Q z => by rw [as_nil hma e] at z; exact tAs_nil z)).imp fun σ H Q ⟨L, O, ρ, S, z⟩ => ?_
  have z : Post C L O σ W false (RlE C false O) H ((rBind (rView i) fun x => rBind (rLift (methD m tab x)) fun f => rBind (evAs cs as) fun xs => rCall cs f (.inr i :: (xs ++ dv.map .inl))) ρ) Q := z
  have hex : ∃ (r : Sl) (d : IV), ρ[i]? = some r ∧ r.mut = some d ∧ Post C L O σ W false (RlE C false O) H ((rBind (rLift (methD m tab d)) fun f => rBind (evAs cs as) fun xs => rCall cs f (.inr i :: (xs ++ dv.map .inl))) ρ) Q := by
    unfold rBind rView at z
    match hr : ρ[i]?, z with
    | some (.o d), z => exact ⟨_, d, rfl, rfl, z⟩
    | some (.b d), z => exact ⟨_, d, rfl, rfl, z⟩
  obtain ⟨r, d, hr, hd, h1⟩ := hex
  obtain ⟨b, eb, hbO, w, _⟩ := S.mutAt hr hd
  cases hf : methD m tab d with
  | none => unfold rBind rLift at h1; rw [hf] at h1; exact h1.elim
  | some f =>
    have h9 : Post C L O σ W false (RlE C false O) H ((rBind (evAs cs as) fun xs => rCall cs f (.inr i :: (xs ++ dv.map .inl))) ρ) Q := by
      unfold rBind rLift at h1
      rw [hf] at h1
      exact h1
    cases w with
    | lst _ _ => cases hf
    | dct _ _ _ => cases hf
    | @ins A dx c fs ds e1 e2 e5 e6 =>
      obtain ⟨g1, g2⟩ := methD_ok hf
      obtain ⟨g3, g4⟩ := ht _ g2
      obtain ⟨fn, hT, hcb, m1, m2, m3⟩ := takesB_ok g4
      obtain ⟨g, fd, hat, hkp, hb, hbd, _, F⟩ := X'.facts.fns f fn hT (X'.gdf hcb).2
      obtain ⟨A', a1, a2, a3⟩ := hat.2.1 _ g3 rfl
      rw [e2] at a1
      cases a1
      obtain ⟨dsv, dvs, b1, b2, b3⟩ := bindD_of hb hbd m3
      refine ⟨.ref b, eb, b, A, dx, fs, g, fd, fn.ps, _, dvs, dsv, fn.rp, rfl, e1, a2, a3, lookup_no e5 g1, F, (X'.gdf hcb).1, b1, b2, L, O, ρ, S, Post.bindE h9 fun xs ρ2 vs H2 hm k2 s2 S2 r2 h2 => ?_⟩
      have h2 := Post.mono (pr := false) k2 (fun z => nomatch z) h2
      obtain ⟨i1, i2⟩ := evAs_shape as hm
      refine call_fin X'.CK (fn := fn) (xs := .inr i :: (xs ++ dv.map .inl)) S2 ⟨eb, RlA.app (by rw [X'.CK]; exact b3 O H2) r2⟩ ?_ m2 ?_ (pr := false) (fun z => nomatch z) h2
      · show true :: (xs ++ dv.map Sum.inl).map isR = fn.muts
        rw [isR_app, i1, m1]
        rfl
      · show (i :: idxX (xs ++ dv.map Sum.inl)).Nodup
        rw [idxX_app, i2]
        exact hi
/-- f(..), the last parameters left out -/
theorem c_callD (X' : XOk T cs k C W N sc X) {f : Nat} {fn : Fn} {as : As} {dv : List IV} {xs : List Expr} {y : Str} {p q : Pos} (hT : T.fns f = some fn) (hgl : fn.glob = true) (hy : y = fn.name) (hg : gloB sc y = true) (hi : as.idx.Nodup) (htk : takesB T as.kinds dv f = true)
    (hd : (y == ("__debug__" : Str)) = false) (hma : mAs T N as sc xs = true) (ha : PA X xs (tAs cs C W as)) : PE X (.Call (.Name y p) xs [] q) (tE cs C W (.callD f as dv)) := by
  obtain ⟨fn', hT', hcb, m1, m2, m3⟩ := takesB_ok htk
  rw [hT] at hT'
  cases hT'
  obtain ⟨g, fd, hat, hkp, hb, hbd, _, F⟩ := X'.facts.fns f fn hT (X'.gdf hcb).2
  have hm := hat.1 hgl
  have gl := X'.gl hg
  obtain ⟨dsv, dvs, b1, b2, b3⟩ := bindD_of hb hbd m3
  subst hy
  refine ⟨fun pins s σ H Q I z => ?_⟩
  obtain ⟨L, O, ρ, S, z⟩ := z
  have rd : tAs cs C W as σ H fun vs H1 => spF cs X.K C.cl f fn (vs ++ dvs) H1 Q (fun c d H' => W c d σ H') := by
    refine ⟨L, O, ρ, S, Post.bindE z fun xs ρ2 vs H2 hm k2 s2 S2 r2 h2 => ?_⟩
    have h2 := Post.mono k2 s2 h2
    obtain ⟨i1, i2⟩ := evAs_shape as hm
    refine call_fin X'.CK (fn := fn) S2 (RlA.app (by rw [X'.CK]; exact b3 O H2) r2) ?_ m2 ?_ ?_ h2
    · rw [isR_app, i1, m1]
    · rw [idxX_app, i2]
      exact hi
    · intro z
      rw [m1]
      exact kinds_all (As.kinds_pure z)
  have fin : ∀ (us : List Value) (s2 : Shared) (vs : List V) (H2 : Hp), Inv X pins σ H2 s2 → Vals vs us → spF cs X.K C.cl f fn (vs ++ dvs) H2 Q (fun c d H' => W c d σ H') → wpAny (model X.prog X.w) X.A (call (.ref g) us) (EP X pins σ Q) X.xe s2 := fun us s2 vs H2 I2 r q2 => by
    have r2 : Vals (vs ++ dvs) (us ++ dsv) := r.append b2
    have hlen : (us ++ dsv).length = fn.ps.length := by
      have e := r2.length
      rw [F.len _ _ _ _ q2] at e
      exact e.symm
    exact run_fnR (args := ⟨us, []⟩) F (X'.gdf hcb).1 X'.room0 X'.tk I2 (b1 s2 us I2.kIn hlen) r2 q2
  refine wpAny_Call_Name_kw (ld_glob I gl hm ?_ hd)
  cases xs with
  | nil =>
    rw [as_nil hma rfl] at rd
    exact PySem.W.callWith_K0 I.kIn hkp (fin [] s [] H I .nil (tAs_nil rd))
  | cons e es =>
    have hs := as_star hma
    rw [List.all_cons, Bool.and_eq_true] at hs
    exact PySem.W.callWith_K (h₀ := X.base) I.ok.mod.kin hkp (thn (ha.run q pins s σ H _ I rd) fun us s1 ⟨vs, H1, I1, r, q1⟩ => ⟨I1.kIn, fin us s1 vs H1 I1 r q1⟩) (star_one hs.1 es X.env) (star_none X.env q hs.2)
end
end Mx


/-! Mx, part 4o: C(..), fields of a changing instance. -/
namespace Mx
open PySem PySem.Spec PyProof.Rows L2
theorem xrep_less' {K : PySem.W.Frag} {cl : Nat → Option Addr} {O O' : List Addr} {H : Hp} {c : Value} {dd : Option Addr} {x : Xn} (h2 : ∀ a ∈ O, a ∈ O') (h : XRep K cl O' H c dd x) : XRep K cl O H c dd x := by
  obtain ⟨A, h1, e2, h3⟩ := h
  exact ⟨A, h1, e2, h3.imp (fun z => z) fun ⟨d, fs, e1, n, e2, e3, r⟩ => ⟨d, fs, e1, fun z => n (h2 _ z), e2, e3, r.less h2⟩⟩
theorem same_new2 {H : Hp} {x dx : Addr} {o o' : HO} (hx : H x = none) (hd : H dx = none) : Same H (upd (upd H dx o) x o') := fun b u e => by rw [upd_ne (ne_of_none e hx), upd_ne (ne_of_none e hd)]; exact e
section
variable {T : Tab} {cs : CS} {k : Nat} {C : Ct} {W : WX} {N : List Str} {sc : Scope} {X : Cx}
/-- what is wanted of C(..): one form for data and for own objects -/
theorem new_fin (CK : C.K = X.K) {c f : Nat} {fn : Fn} {A : Addr} {L O : List Addr} {σ : L2.St} {H1 : Hp} {ρ1 : List Sl} {xs : List (IV ⊕ Nat)} {vs : List V} {Q : VK} (hcl : C.cl c = some A) (ho : fn.own = false) (S1 : SRel C L O σ ρ1 H1) (r1 : RlA C σ O H1 vs xs) (e1 : true :: xs.map isR = fn.muts) (hl : fn.muts.length = fn.ps.length) (hn : (idxX xs).Nodup)
    {pr : Bool} (pu : pr = true → ∀ b ∈ xs.map isR, b = false)
    (ok : ∀ d ρ2, rNew cs c f xs ρ1 = some (.ok d, ρ2) → ∀ x H', H1 x = none → x ∉ O → Keep O H1 H' → (pr = true → Same H1 H') → SRel C L O σ ρ2 H' → SRel C L (x :: O) σ ρ2 H' → Own C.K C.cl (x :: O) H' x d → Q (.ref x) H')
    (er : ∀ e ρ2, rNew cs c f xs ρ1 = some (.error e, ρ2) → ∀ c dd H', Keep O H1 H' → SRel C L O σ ρ2 H' → XRep C.K C.cl O H' c dd e → W c dd σ H') (some_ : rNew cs c f xs ρ1 ≠ none) :
    ∀ x dx, H1 x = none → H1 dx = none → dx ≠ x → spF cs X.K C.cl f fn (.ref x :: vs) (upd (upd H1 dx (.own x)) x (.ins A dx [])) (fun v H2 => v = .non ∧ Q (.ref x) H2) (fun c d H' => W c d σ H') := by
  intro x dx hx hdx ne
  rw [← CK]
  have sm : Same H1 (upd (upd H1 dx (.own x)) x (.ins A dx [])) := same_new2 hx hdx
  have nx : x ∉ O := fun z => S1.live x z hx
  have S2 : SRel C L (x :: O) σ ρ1 (upd (upd H1 dx (.own x)) x (.ins A dx [])) := S1.addO hx sm (by rw [upd_same]; exact fun z => nomatch z)
  have r2 : RlA C σ (x :: O) (upd (upd H1 dx (.own x)) x (.ins A dx [])) vs xs := RlA.keep (.same sm) (RlA.more hx r1)
  cases hd : argsD ρ1 xs with
  | none => exact absurd (by unfold rNew; rw [hd]) some_
  | some ds =>
    have ar := argR_of S2 hd r2
    have ar1 := argR_of S1 hd r1
    have hin : ∀ a, some a ∈ mutA (xs.map isR) vs → a ∈ O := fun a z => mutA_live ar1 z
    have em : mutA fn.muts (.ref x :: vs) = some x :: mutA (xs.map isR) vs := by rw [← e1]; rfl
    refine ⟨x :: O, .ins c [] :: ds, S2.live, ?_, ?_, ?_, ?_⟩
    · rw [← hl, ← e1, List.length_cons, List.length_cons, r1.length, List.length_map]
    · rw [← e1]
      exact ⟨⟨x, rfl, List.mem_cons_self .., .ins upd_same hcl rfl .nil⟩, ar⟩
    · rw [em]
      show (x :: (mutA (xs.map isR) vs).filterMap id).Nodup
      rw [List.nodup_cons]
      refine ⟨fun z => ?_, nodup_addr S2 hd r2 hn⟩
      obtain ⟨o, ho', e⟩ := List.mem_filterMap.mp z
      have e' : o = some x := e
      subst e'
      exact nx (hin x ho')
    · have fr1 : ∀ {H' : Hp}, Fram (upd (upd H1 dx (.own x)) x (.ins A dx [])) H' (mutA fn.muts (.ref x :: vs)) → Fram H1 H' (mutA (xs.map isR) vs) := fun {H'} fr a o e n => by
        refine fr a o (sm a o e) ?_
        rw [em]
        intro z
        rcases List.mem_cons.mp z with z | z
        · cases z; rw [hx] at e; cases e
        · exact n z
      have mr1 : ∀ {H' : Hp} {m : IV} {ms : List IV}, MutR C.K C.cl (x :: O) H' fn.muts (.ref x :: vs) (m :: ms) → Own C.K C.cl (x :: O) H' x m ∧ MutR C.K C.cl (x :: O) H' (xs.map isR) vs ms := fun {H' m ms} mr => by
        rw [← e1] at mr
        obtain ⟨⟨a, ea, w⟩, q⟩ := (show (∃ a, V.ref x = .ref a ∧ Own C.K C.cl (x :: O) H' a m) ∧ MutR C.K C.cl (x :: O) H' (xs.map isR) vs ms from mr)
        cases ea
        exact ⟨w, q⟩
      have le : ∀ a, a ∈ O → a ∈ x :: O := fun a z => List.mem_cons_of_mem _ z
      have mno : ∀ {H' : Hp} {ms : List IV}, MutR C.K C.cl (x :: O) H' fn.muts (.ref x :: vs) ms → ∃ m r, ms = m :: r := fun {H' ms} mr => by
        rw [← e1] at mr
        cases ms with
        | nil => exact (show False from mr).elim
        | cons m r => exact ⟨m, r, rfl⟩
      have rn : rNew cs c f xs ρ1 = newEnd xs ρ1 (cs f (.ins c [] :: ds)) := by unfold rNew; rw [hd]
      match hc : cs f (.ins c [] :: ds) with
      | none => rw [hc] at rn; exact absurd rn some_
      | some (.ok d, ms) =>
        show if fn.own = true then _ else _
        rw [ho, if_neg Bool.false_ne_true]
        intro v H' fr mr rp
        obtain ⟨m, ms', rfl⟩ := mno mr
        obtain ⟨w, mr'⟩ := mr1 mr
        match d, rp, hc with
        | .non, rp, hc =>
          rw [hc] at rn
          have kp : Keep O H1 H' := fram_keep (fr1 fr) hin
          cases rp
          refine ⟨rfl, ok m _ rn x H' hx nx kp (fun z => fun a o e => fr1 fr a o e (mutA_pure (pu z) a)) (call_back S1 hd r1 hn (fr1 fr) (mr'.less le) (fun _ z => z) (fun a z n => absurd z n) fun ws es r => r.keep kp) ?_ w⟩
          refine call_back S1 hd r1 hn (fr1 fr) mr' le (fun a z n => ?_) fun ws es r => (r.more hx).keep (fram_keep (fr1 fr) fun a z => le a (hin a z))
          rcases List.mem_cons.mp z with z | z
          · rw [z]; exact w.some_of
          · exact absurd z n
        | .bl _, _, hc => rw [hc] at rn; exact absurd rn some_
        | .int _, _, hc => rw [hc] at rn; exact absurd rn some_
        | .str _, _, hc => rw [hc] at rn; exact absurd rn some_
        | .tup _, _, hc => rw [hc] at rn; exact absurd rn some_
        | .lst _, _, hc => rw [hc] at rn; exact absurd rn some_
        | .dct _, _, hc => rw [hc] at rn; exact absurd rn some_
        | .ins _ _, _, hc => rw [hc] at rn; exact absurd rn some_
        | .exc _ _, _, hc => rw [hc] at rn; exact absurd rn some_
        | .cls _, _, hc => rw [hc] at rn; exact absurd rn some_
      | some (.error e, ms) =>
        intro c' dd H' fr mr xr
        obtain ⟨m, ms', rfl⟩ := mno mr
        obtain ⟨w, mr'⟩ := mr1 mr
        rw [hc] at rn
        have kp : Keep O H1 H' := fram_keep (fr1 fr) hin
        exact er e _ rn c' dd H' kp (call_back S1 hd r1 hn (fr1 fr) (mr'.less le) (fun _ z => z) (fun a z n => absurd z n) fun ws es r => r.keep kp) (xrep_less' le xr)
theorem c_new (X' : XOk T cs k C W N sc X) {c f : Nat} {fn : Fn} {as : As} {dv : List IV} {xs : List Expr} {y : Str} {p q : Pos} (hT : T.fns f = some fn) (ho : fn.own = false) (hin : (c, y, f) ∈ T.news) (hg : gloB sc y = true) (hi : as.idx.Nodup) (htk : takesB T (true :: as.kinds) dv f = true)
    (hd : (y == ("__debug__" : Str)) = false) (hma : mAs T N as sc xs = true) (ha : PA X xs (tAs cs C W as)) : PE X (.Call (.Name y p) xs [] q) (tE cs C W (.new c f as dv)) ∧ PE X (.Call (.Name y p) xs [] q) (tEO cs C W (.new c f as dv)) := by
  obtain ⟨fn', hT', hcb, m1, m2, m3⟩ := takesB_ok htk
  rw [hT] at hT'
  cases hT'
  obtain ⟨g, fd, hat, hkp, hb, hbd, _, F⟩ := X'.facts.fns f fn hT (X'.gdf hcb).2
  obtain ⟨A, hcl, hm, M⟩ := hat.2.2 _ hin rfl
  have gl := X'.gl hg
  obtain ⟨dsv, dvs, b1, b2, b3⟩ := bindD_of hb hbd m3
  have base := pe_newR (k := 5 * k) (p := p) (pos := q) M F (X'.gdf hcb).1 (X'.room.mono (by omega)) X'.tk gl hm b1 b2 ha (as_star hma) hd (fun e σ H Q z => by rw [as_nil hma e] at z; exact tAs_nil z)
  have i1' : ∀ {xs : List (IV ⊕ Nat)}, xs.map isR = as.kinds → true :: (xs ++ dv.map Sum.inl).map isR = fn.muts := fun e => by rw [isR_app, e, m1]; rfl
  refine ⟨base.imp fun σ H Q ⟨L, O, ρ, S, z⟩ => ⟨L, O, ρ, S, Post.bindE z fun xs ρ1 vs H1 hm k1 s1 S1 r1 h1 => ?_⟩, base.imp fun σ H Q ⟨L, O, ρ, S, z⟩ => ⟨L, O, ρ, S, ?_⟩⟩
  · have h1 := Post.mono k1 s1 h1
    obtain ⟨i1, i2⟩ := evAs_shape as hm
    refine new_fin X'.CK (pr := (E.new c f as dv).pure) (xs := xs ++ dv.map .inl) hcl ho S1 (RlA.app (by rw [X'.CK]; exact b3 O H1) r1) (i1' i1) m2 (by rw [idxX_app, i2]; exact hi) (fun z => ?_) (fun d ρ2 e x H' hx nx kp sm Sa Sb w => ?_) (fun e ρ2 er c' dd H' kp Sa xr => ?_) fun z => ?_
    · rw [isR_app, i1]
      exact kinds_all (As.kinds_pure z)
    · rw [e] at h1
      have rp := Own.rep nx (w.less fun a z => List.mem_cons_of_mem _ z)
      exact h1 _ H' kp sm Sa ⟨.inl rp, fun _ => rp⟩
    · rw [er] at h1
      exact h1 c' dd H' kp Sa xr
    · rw [z] at h1
      exact h1
  · have z : PostO C L O σ W H ((rBind (evAs cs as) fun xs => rNew cs c f (xs ++ dv.map .inl)) ρ) Q := z
    unfold rBind at z
    match hm : evAs cs as ρ, z with
    | none, z => exact z
    | some (.error x, ρ1), z => exact z
    | some (.ok xs, ρ1), z =>
      intro vs H1 k1 s1 S1 r1
      have h1 : PostO C L O σ W H (rNew cs c f (xs ++ dv.map .inl) ρ1) Q := z
      obtain ⟨i1, i2⟩ := evAs_shape as hm
      refine new_fin X'.CK (pr := false) (xs := xs ++ dv.map .inl) hcl ho S1 (RlA.app (by rw [X'.CK]; exact b3 O H1) r1) (i1' i1) m2 (by rw [idxX_app, i2]; exact hi) (fun z => nomatch z) (fun d ρ2 e x H' hx nx kp sm Sa Sb w => ?_) (fun e ρ2 er c' dd H' kp Sa xr => ?_) fun z => ?_
      · rw [e] at h1
        exact h1 x H' (k1.none nx hx) nx (S1.fresh hx).1 (k1.trans kp) Sa Sb w
      · rw [er] at h1
        exact h1 c' dd H' (k1.trans kp) Sa xr
      · rw [z] at h1
        exact h1
/-- y.f, y a changing instance -/
theorem c_vfld (X' : XOk T cs k C W N sc X) {i : Nat} {f y : Str} {cs' : List Nat} {p p' : Pos} (hs : slotB N sc i y = true) (hf : ∀ c ∈ cs', (c, f) ∈ T.flds) : PE X (.Attribute (.Name y p) f p') (tE cs C W (.vfld i f cs')) := by
  obtain ⟨v1, v2, v3, v4⟩ := X'.vis hs
  refine (pe_fld (f := f) (pe_var v1 v2 v3 v4) (noSuper_ok rfl)).imp fun σ H Q ⟨L, O, ρ, S, z⟩ => ?_
  have z : Post C L O σ W true (RlE C false O) H ((rBind (rView i) fun x => rLift (fldD f [] cs' x)) ρ) Q := z
  have hex : ∃ (r : Sl) (d : IV), ρ[i]? = some r ∧ r.mut = some d ∧ Post C L O σ W true (RlE C false O) H ((rLift (fldD f [] cs' d) : R IV) ρ) Q := by
    unfold rBind rView at z
    match hr : ρ[i]?, z with
    | some (.o d), z => exact ⟨_, d, rfl, rfl, z⟩
    | some (.b d), z => exact ⟨_, d, rfl, rfl, z⟩
  obtain ⟨r, d, hr, hd, h1⟩ := hex
  obtain ⟨b, eb, hbO, w, _⟩ := S.mutAt hr hd
  cases hf' : fldD f [] cs' d with
  | none => unfold rLift at h1; rw [hf'] at h1; exact h1.elim
  | some e =>
    unfold rLift at h1
    rw [hf'] at h1
    cases w with
    | lst _ _ => cases hf'
    | dct _ _ _ => cases hf'
    | @ins A dx c fs ds e1 e2 e5 e6 =>
      have hf' : (if c ∈ cs' then ds.lookup f else none) = some e := hf'
      split at hf'
      · rename_i hc
        obtain ⟨A', g1, g2, g3⟩ := X'.facts.flds _ (hf c hc)
        rw [e2] at g1
        cases g1
        obtain ⟨w, hw, rw'⟩ := lookup_rep e5 e6 hf'
        exact ⟨.ref b, eb, b, A, dx, fs, w, rfl, e1, g2, g3, hw, h1 _ H (Keep.refl _ _) (fun _ => Same.refl _) S ⟨.inl rw', fun _ => rw'⟩⟩
      · cases hf'
end
end Mx


/-! Mx, part 4p: dicts: of the module, by a comprehension, read by a key. -/
namespace Mx
open PySem PySem.Spec PyProof.Rows L2
/-- a dict of the module stands -/
theorem kd_at {w : World} {K : PySem.W.Frag} {a : Addr} {kvs : List (Key × V)} {h : Heap} {P : Program} (hK : K.In h) (d : KD w K a kvs) : ∃ vs, KV kvs vs ∧ h.DictOf (mixKind P w) a vs ∧ (a == sysModules) = false ∧ vs.length ≤ sizeLine := by
  obtain ⟨es, n, hl, low, hz, nd, pr⟩ := d
  have key : ∀ {es : List DictEntry} {kvs : List (Key × V)}, Paired (fun (e : DictEntry) (kv : Key × V) => keyIs kv.1 e.key = true ∧ e.hash = keyH w kv.1 ∧ RelV kv.2 e.val) es kvs → ∃ vs : List (Key × Value), KV kvs vs ∧ Pairs (mixKind P w) es vs ∧ (∀ e ∈ es, ∃ k, (mixKind P w).is k e.key = true ∧ e.hash = (mixKind P w).hash k) := by
    intro es kvs z
    induction z with
    | nil => exact ⟨[], .nil, .nil, fun _ z => nomatch z⟩
    | @cons e kv es kvs h1 _ ih =>
      obtain ⟨vs, i1, i2, i3⟩ := ih
      refine ⟨(kv.1, e.val) :: vs, .cons ⟨rfl, h1.2.2⟩ i1, .cons h1.1 rfl i2, fun x hx => ?_⟩
      rcases List.mem_cons.mp hx with q | q
      · rw [q]; exact ⟨kv.1, h1.1, h1.2.1⟩
      · exact i3 x q
  obtain ⟨vs, i1, i2, i3⟩ := key pr
  refine ⟨vs, i1, ⟨_, es, n, hK _ _ hl, ⟨rfl, rfl, rfl⟩, rfl, fun e he => i3 e (Array.mem_toList_iff.mpr he), i2, ?_⟩, low, ?_⟩
  · rw [← i1.keys]; exact nd
  · rw [← i1.length, sizeLine_eq]; omega
theorem getKD_val {K : PySem.W.Frag} {cl : Nat → Option Addr} {O : List Addr} {H : Hp} {k : Key} : ∀ {kv : List (Key × V)} {ds : List (Key × IV)}, kv.map (·.1) = ds.map (·.1) → RepAll K cl O H (kv.map (·.2)) (ds.map (·.2)) →
    match getKD ds k with
    | some d => ∃ v, valV kv k = some v ∧ Rep K cl O H v d
    | none => valV kv k = none
  | [], [], _, _ => rfl
  | (x, v) :: kv, (y, d) :: ds, hk, hr => by
    simp only [List.map_cons, List.cons.injEq] at hk
    obtain ⟨rfl, hk⟩ := hk
    cases hr with
    | cons r rr =>
      by_cases e : x = k
      · have e1 : getKD ((x, d) :: ds) k = some d := by simp [getKD, List.find?_cons, e]
        rw [e1]
        exact ⟨v, valV_pos (p := (x, v)) e, r⟩
      · have e1 : getKD ((x, d) :: ds) k = getKD ds k := by simp [getKD, List.find?_cons, e]
        rw [e1, valV_neg (p := (x, v)) e]
        exact getKD_val hk rr
  | [], _ :: _, hk, _ => nomatch hk
  | _ :: _, [], hk, _ => nomatch hk
theorem keyOf_rep {K : PySem.W.Frag} {cl : Nat → Option Addr} {O : List Addr} {H : Hp} {v : V} {d : IV} {k : Key} (r : Rep K cl O H v d) (h : keyOf d = some k) : v = kV k := by
  match d, r, h with
  | .int i, .int _, h => cases h; rfl
  | .str l, .str _, h => cases h; rfl
theorem notSlice_no {z : Expr} (h : notSlice z = true) : NoSl z := fun ov iv => by cases z <;> first | rfl | cases h
section
variable {T : Tab} {cs : CS} {k : Nat} {C : Ct} {W : WX} {N : List Str} {sc : Scope} {X : Cx}
theorem kdct_of (X' : XOk T cs k C W N sc X) {w : Str} {kvs : List (Key × IV)} (h : (T.kdct.any fun p => decide (p.1 = w) && kvsB p.2 kvs) = true) :
    ∃ a kv, X.mg w = some (.ref a) ∧ KD X.w X.K a kv ∧ kv.map (·.1) = kvs.map (·.1) ∧ ∀ O H, RepAll X.K C.cl O H (kv.map (·.2)) (kvs.map (·.2)) := by
  obtain ⟨p, hp, e⟩ := List.any_eq_true.mp h
  rw [Bool.and_eq_true, decide_eq_true_eq] at e
  obtain ⟨a, kv, h1, h2, h3, h4⟩ := X'.facts.kdct p hp
  rw [e.1] at h1
  rw [kvsB_eq e.2] at h3 h4
  exact ⟨a, kv, h1, h2, h3, h4⟩
/-- NAME[b] -/
theorem c_kix (X' : XOk T cs k C W N sc X) {w y : Str} {kvs : List (Key × IV)} {b : E} {z : Expr} {p q : Pos} (hy : y = w) (hg : gloB sc y = true) (hd : (y == ("__debug__" : Str)) = false) (hk : (T.kdct.any fun p => decide (p.1 = w) && kvsB p.2 kvs) = true) (hz : notSlice z = true) (hv : b.isView = false)
    (hb : PE X z (tE cs C W b)) : PE X (.Subscript (.Name y p) z q) (tE cs C W (.kix w kvs b)) := by
  obtain ⟨a, kv, h1, h2, h3, h4⟩ := kdct_of X' hk
  subst hy
  have g := X'.gl hg
  refine ⟨fun pins s σ H Q I z => ?_⟩
  refine subD_of slot_dict_getitem.lookup (notSlice_no hz) (ld_glob I g h1 ?_ hd)
  obtain ⟨L, O, ρ, S, z⟩ := z
  have go : tE cs C W b σ H fun v H1 => ∃ kk o, v = kV kk ∧ valV kv kk = some o ∧ Q o H1 := by
    refine ⟨L, O, ρ, S, Post.bind z fun d ρ1 v H1 k1 s1 S1 r1 q1 => ?_⟩
    unfold rLift at q1
    have q1 := Post.mono k1 s1 q1
    cases hf : kixD kvs d with
    | none => rw [hf] at q1; exact q1.elim
    | some e =>
      rw [hf] at q1
      unfold kixD at hf
      cases hko : keyOf d with
      | none => rw [hko] at hf; cases hf
      | some kk =>
        rw [hko] at hf
        have hf : getKD kvs kk = some e := hf
        have hh := getKD_val (k := kk) h3 (h4 O H1)
        rw [hf] at hh
        obtain ⟨o, ho, ro⟩ := hh
        rw [← X'.CK] at ro
        exact ⟨kk, o, keyOf_rep (r1.2 hv) hko, ho, q1 o H1 (Keep.refl _ _) (fun _ => Same.refl _) S1 ⟨.inl ro, fun _ => ro⟩⟩
  refine thn (hb.run pins s σ H _ I go) fun u s1 ⟨v, H1, I1, rv, kk, o, ev, ho, q⟩ => ?_
  subst ev
  obtain ⟨vs, i1, i2, i3, i4⟩ := kd_at (P := X.prog) I1.kIn h2
  obtain ⟨w', hw, rw'⟩ := RelO.some_of (v := o) (o := valueAt vs kk) (by rw [← ho]; exact i1.val kk)
  exact ⟨i2.typeIs, wpAny_getItem_of (kV_is rv) i2.mapOf hw ⟨o, H1, I1.tok _, rw', q⟩⟩
/-- NAME.get(b, d) -/
theorem c_kget (X' : XOk T cs k C W N sc X) {w y m : Str} {kvs : List (Key × IV)} {b d : E} {z u : Expr} {p p' q : Pos} (hy : y = w) (hg : gloB sc y = true) (hd : (y == ("__debug__" : Str)) = false) (hk : (T.kdct.any fun p => decide (p.1 = w) && kvsB p.2 kvs) = true) (hm : m = ("get" : Str)) (hl : (p'.endLine == q.line) = true) (h1 : notStar z = true) (h2 : notStar u = true) (hv : b.isView = false) (hvd : d.isView = false)
    (hb : PE X z (tE cs C W b)) (he : PE X u (tE cs C W d)) : PE X (.Call (.Attribute (.Name y p) m p') [z, u] [] q) (tE cs C W (.kget w kvs b d)) := by
  obtain ⟨a, kv, g1, g2, g3, g4⟩ := kdct_of X' hk
  subst hy
  subst hm
  have g := X'.gl hg
  have st : starEach [z, u] X.env = [(false, eval z X.env), (false, eval u X.env)] := by rw [star_one h1, star_one h2]; rfl
  have few : ((backTo q (starEach [z, u] X.env)).all (fun x => !x.1) && (backToKw q (keywordEach [] X.env)).all (fun x => x.1.isSome) && decide (([z, u] : List Expr).length + ([] : List Keyword).length + (if ([] : List Keyword).isEmpty then 0 else 1) < 30)) = true := by rw [st]; rfl
  have tr : backTo q (starEach [z, u] X.env) = [(false, eval z X.env), (false, eval u X.env)] := by rw [st]; rfl
  refine ⟨fun pins s σ H Q I zz => ?_⟩
  refine wpAny_Call_method (noSuper_ok rfl) few hl PySem.F.plainAttrs_dict PySem.F.slot_dict_get PySem.F.type_dict_get (ld_glob I g g1 ?_ hd)
  obtain ⟨vs0, _, j2, j3, _⟩ := kd_at (P := X.prog) I.kIn g2
  refine ⟨j2.typeIs, fun b' e => ?_, ?_⟩
  · cases e
    obtain ⟨ob, _, _, e1, e2, _⟩ := j2
    exact ⟨ob, e1, e2.2.1⟩
  rw [tr]
  obtain ⟨L, O, ρ, S, zz⟩ := zz
  have pp : (E.kget y kvs b d).pure = true → b.pure = true ∧ d.pure = true := fun z => by
    have z : (b.pure && d.pure) = true := z
    rwa [Bool.and_eq_true] at z
  have go : tE cs C W b σ H fun v H1 => tE cs C W d σ H1 fun v2 H2 => ∃ kk, v = kV kk ∧ Q ((valV kv kk).getD v2) H2 := by
    refine ⟨L, O, ρ, S, Post.bind zz fun dk ρ1 v H1 k1 s1 S1 r1 q1 => ?_⟩
    have q1 := Post.mono k1 (fun z => s1 (pp z).1) q1
    refine ⟨L, O, ρ1, S1, Post.bind q1 fun dd ρ2 v2 H2 k2 s2 S2 r2 q2 => ?_⟩
    have q2 := Post.mono k2 (fun z => s2 (pp z).2) q2
    unfold rLift kgetD at q2
    cases hko : keyOf dk with
    | none => rw [hko] at q2; exact q2.elim
    | some kk =>
      rw [hko] at q2
      have q2 : Post C L O σ W (E.kget y kvs b d).pure (RlE C false O) H2 (some (.ok ((getKD kvs kk).getD dd), ρ2)) Q := q2
      have hh := getKD_val (k := kk) g3 (g4 O H2)
      refine ⟨kk, keyOf_rep (r1.2 hv) hko, ?_⟩
      cases hf : getKD kvs kk with
      | none =>
        rw [hf] at hh q2
        have hh : valV kv kk = none := hh
        rw [hh]
        exact q2 v2 H2 (Keep.refl _ _) (fun _ => Same.refl _) S2 ⟨.inl (r2.2 hvd), fun _ => r2.2 hvd⟩
      | some e =>
        rw [hf] at hh q2
        obtain ⟨o, ho, ro⟩ := hh
        rw [← X'.CK] at ro
        rw [ho]
        exact q2 o H2 (Keep.refl _ _) (fun _ => Same.refl _) S2 ⟨.inl ro, fun _ => ro⟩
  refine Calls.callWith_builtin rfl (Calls.evalArgs_plain (Calls.spliced_cons (thn (hb.run pins s σ H _ I go) fun iv s1 ⟨v, H1, I1, rv, q1⟩ => Calls.spliced_cons (thn (he.run pins s1 σ H1 _ I1 q1) fun fv s2 ⟨v2, H2, I2, rv2, kk, ev, q2⟩ => Calls.spliced_nil ?_))))
  subst ev
  obtain ⟨vs, i1, i2, i3, i4⟩ := kd_at (P := X.prog) I2.kIn g2
  exact call_meetsIn PySem.F.slot_dict_get i2.typeIs PySem.F.entry_dict_get (PySem.F.args_dict_get_3 _ _ _) (meets_dict_get_default (mixKind X.prog X.w) a (kV_is rv) i3 fv) ⟨_, i2.mapOf, ⟨_, H2, I2.tok _, (i1.val kk).getD rv2, q2⟩⟩
/-- a[b], a dict -/
theorem c_dix (X' : XOk T cs k C W N sc X) {a b : E} {y z : Expr} {q : Pos} (hz : notSlice z = true) (ha : a.isView = false) (hb : b.isView = false) (pa : PE X y (tE cs C W a)) (pb : PE X z (tE cs C W b)) : PE X (.Subscript y z q) (tE cs C W (.dix a b)) := by
  refine (pe_dget (Nat.lt_of_le_of_lt (Nat.add_le_add_left (by decide : 1 ≤ 64) _) X'.hu) pa pb (notSlice_no hz)).imp fun σ H Q ⟨L, O, ρ, S, zz⟩ => ?_
  have pp : (E.dix a b).pure = true → a.pure = true ∧ b.pure = true := fun z => by
    have z : (a.pure && b.pure) = true := z
    rwa [Bool.and_eq_true] at z
  refine ⟨L, O, ρ, S, Post.bind zz fun da ρ1 v H1 k1 s1 S1 r1 q1 => ?_⟩
  have q1 := Post.mono k1 (fun z => s1 (pp z).1) q1
  refine ⟨L, O, ρ1, S1, Post.bind q1 fun dk ρ2 v2 H2 k2 s2 S2 r2 q2 => ?_⟩
  have q2 := Post.mono k2 (fun z => s2 (pp z).2) q2
  unfold rLift at q2
  cases hf : dixD da dk with
  | none => rw [hf] at q2; exact q2.elim
  | some e =>
    rw [hf] at q2
    have q9 : Post C L O σ W (E.dix a b).pure (RlE C false O) H2 (some (.ok e, ρ2)) Q := q2
    clear q2 q1
    match da, (r1.2 ha).keep k2, hf with
    | .dct ds, .dctH (a := p) (kv := kv) h n hk hr, hf =>
      have hf : (match keyOf dk with | some k => getKD ds k | none => none) = some e := hf
      cases hko : keyOf dk with
      | none => rw [hko] at hf; cases hf
      | some kk =>
        rw [hko] at hf
        have hf : getKD ds kk = some e := hf
        have hh := getKD_val (k := kk) hk hr
        rw [hf] at hh
        obtain ⟨o, ho, ro⟩ := hh
        exact ⟨p, o, rfl, .inl ⟨kv, kk, h, keyOf_rep (r2.2 hb) hko, ho.symm⟩, q9 o H2 (Keep.refl _ _) (fun _ => Same.refl _) S2 ⟨.inl ro, fun _ => ro⟩⟩
end
end Mx


/-! Mx, part 4q: dict comprehensions; range with three numbers. -/
namespace Mx
open PySem PySem.Spec PyProof.Rows L2
theorem putKD_keys {k : Key} {v : V} {d : IV} : ∀ {kv : List (Key × V)} {ds : List (Key × IV)}, kv.map (·.1) = ds.map (·.1) → (putK kv k v).map (·.1) = (putKD ds k d).map (·.1) := by
  intro kv ds h
  have an : ∀ {kv : List (Key × V)} {ds : List (Key × IV)}, kv.map (·.1) = ds.map (·.1) → (kv.any fun p => decide (p.1 = k)) = (ds.any fun p => decide (p.1 = k)) := by
    intro kv ds h
    have e1 : (kv.any fun p => decide (p.1 = k)) = ((kv.map (·.1)).any fun p => decide (p = k)) := by rw [List.any_map]; rfl
    have e2 : (ds.any fun p => decide (p.1 = k)) = ((ds.map (·.1)).any fun p => decide (p = k)) := by rw [List.any_map]; rfl
    rw [e1, e2, h]
  unfold putK putKD
  rw [an h]
  split
  · rw [List.map_map, List.map_map]
    have f1 : ((fun x : Key × V => x.1) ∘ fun kv => if kv.1 = k then (kv.1, v) else kv) = fun x => x.1 := by funext x; simp only [Function.comp]; split <;> rfl
    have f2 : ((fun x : Key × IV => x.1) ∘ fun kv => if kv.1 = k then (kv.1, d) else kv) = fun x => x.1 := by funext x; simp only [Function.comp]; split <;> rfl
    rw [f1, f2]
    exact h
  · rw [List.map_append, List.map_append, h]
    rfl
theorem putKD_rep {K : PySem.W.Frag} {cl : Nat → Option Addr} {O : List Addr} {H : Hp} {k : Key} {v : V} {d : IV} (r : Rep K cl O H v d) {kv : List (Key × V)} {ds : List (Key × IV)} (hk : kv.map (·.1) = ds.map (·.1)) (hr : RepAll K cl O H (kv.map (·.2)) (ds.map (·.2))) : RepAll K cl O H ((putK kv k v).map (·.2)) ((putKD ds k d).map (·.2)) := by
  have an : (kv.any fun p => decide (p.1 = k)) = (ds.any fun p => decide (p.1 = k)) := by
    have e1 : (kv.any fun p => decide (p.1 = k)) = ((kv.map (·.1)).any fun p => decide (p = k)) := by rw [List.any_map]; rfl
    have e2 : (ds.any fun p => decide (p.1 = k)) = ((ds.map (·.1)).any fun p => decide (p = k)) := by rw [List.any_map]; rfl
    rw [e1, e2, hk]
  unfold putK putKD
  rw [an]
  split
  · rename_i hq
    rw [List.map_map, List.map_map]
    clear an hq
    induction kv generalizing ds with
    | nil =>
      cases ds with
      | nil => exact .nil
      | cons _ _ => exact nomatch hk
    | cons x kv ih =>
      cases ds with
      | nil => exact nomatch hk
      | cons y ds =>
        obtain ⟨x1, x2⟩ := x
        obtain ⟨y1, y2⟩ := y
        simp only [List.map_cons, List.cons.injEq] at hk
        obtain ⟨rfl, hk⟩ := hk
        cases hr with
        | cons q1 q2 =>
          refine .cons ?_ (ih hk q2)
          simp only [Function.comp]
          by_cases e : x1 = k
          · rw [if_pos e, if_pos e]; exact r
          · rw [if_neg e, if_neg e]; exact q1
  · rw [List.map_append, List.map_append]
    exact hr.append (.cons r .nil)
theorem putKD_len (ds : List (Key × IV)) (k : Key) (d : IV) : (putKD ds k d).length ≤ ds.length + 1 := by
  unfold putKD
  split
  · rw [List.length_map]; omega
  · rw [List.length_append]; exact Nat.le_refl _
/-- the walk of a dict comprehension -/
theorem dc_it {J : L2.It} {n : Nat} {G : Hp → Prop} {Y : Nat → Hp → V → Hp → Prop} (w : Walk J n G Y) {g : TG} {tt : TT} {tk tv : TE} {vs : List Nat} {σ : L2.St} {H1 : Hp} {D : Addr} {Qd : Hp → Prop} (Pv : Nat → Hp → Prop) (h0 : Pv 0 (upd H1 D (.dK []))) (hG : ∀ i H, i ≤ n → Pv i H → G H)
    (hs : ∀ i x H H', i < n → Pv i H → Y i H x H' → g x (wipe σ vs) H' fun σ2 H2 => wipe σ2 vs = wipe σ vs ∧ tt σ2 H2 fun b H3 => if b = true then tk σ2 H3 fun y H4 => tv σ2 H4 fun z H5 => ∃ kvs k, y = kV k ∧ H5 D = some (.dK kvs) ∧ kvs.length < sizeLine ∧ Pv (i + 1) (upd H5 D (.dK (putK kvs k z))) else Pv (i + 1) H3)
    (hd : ∀ H, Pv n H → Qd H) : ∃ W : Nat → Nat → Hp → Prop, (∃ m, W 0 m (upd H1 D (.dK []))) ∧ ∀ i m H, W i m H → (J.stop i H ∧ Qd H) ∨ (J.go i H ∧ ∃ Nx : Hp → Prop, (∀ H', Nx H' → ∃ m', m' < m ∧ W (i + 1) m' H') ∧ ∀ x H', J.yld i H x H' → g x (wipe σ vs) H' fun σ2 H2 => wipe σ2 vs = wipe σ vs ∧ tt σ2 H2 fun b H3 =>
        if b = true then tk σ2 H3 fun y H4 => tv σ2 H4 fun z H5 => ∃ kvs k, y = kV k ∧ H5 D = some (.dK kvs) ∧ kvs.length < sizeLine ∧ Nx (upd H5 D (.dK (putK kvs k z))) else Nx H3) := by
  refine ⟨fun i m H => i + m = n ∧ Pv i H, ⟨n, Nat.zero_add _, h0⟩, ?_⟩
  rintro i m H ⟨e, p⟩
  have st := hG i H (by omega) p
  cases m with
  | zero =>
    have e' : i = n := by omega
    subst e'
    exact .inl ⟨w.stops H st, hd H p⟩
  | succ m =>
    have hi : i < n := by omega
    exact .inr ⟨w.goes i H hi st, Pv (i + 1), fun H' p' => ⟨m, Nat.lt_succ_self _, by omega, p'⟩, fun x H' y => hs i x H H' hi p (w.yields i H x H' hi st y)⟩
section
variable {T : Tab} {cs : CS} {k : Nat} {C : Ct} {W : WX} {N : List Str} {sc : Scope} {X : Cx}
theorem dc_read {CK : C.K = X.K} {tg : List Nat} {it : It} {c : OE} {ek ev' : E} (hv : ek.isView = false) (hv2 : ev'.isView = false) (hpk : ek.pure = true) (hpv : ev'.pure = true) {σ : L2.St} {H : Hp} {Q : VK} (h : tE cs C W (.dcomp tg it c ek ev') σ H Q) :
    tDc (tIt cs C W it) (gTg X.K tg) (fun σ H Q => ∃ D o, tC cs (C.with D o) W0 c σ H Q) (fun σ H Q => ∃ D o, tE cs (C.with D o) W0 ek σ H Q) (fun σ H Q => ∃ D o, tE cs (C.with D o) W0 ev' σ H Q) tg σ H Q := by
  obtain ⟨L, O, ρ, S, q⟩ := h
  refine ⟨L, O, ρ, S, Post.bind q fun ds ρ1 J H1 k1 s1 S1 w h1 => ?_⟩
  have pp : (E.dcomp tg it c ek ev').pure = true → it.pure = true ∧ c.pure = true := fun z => by
    have z : (it.pure && c.pure && ek.pure && ev'.pure) = true := z
    rw [Bool.and_eq_true, Bool.and_eq_true, Bool.and_eq_true] at z
    exact ⟨z.1.1.1, z.1.1.2⟩
  have h1 := Post.mono k1 (fun z => s1 (pp z).1) h1
  intro D hD
  unfold rDict at h1
  by_cases hc : light tg ρ1 = true ∧ ds.length < SZ
  case neg => rw [if_neg hc] at h1; exact h1.elim
  rw [if_pos hc] at h1
  obtain ⟨hli, hz⟩ := hc
  have hr : ∃ ys ρ2, rDComp tg (evC cs c) (ev cs ek).1 (ev cs ev').1 ds [] (clear tg ρ1) = some (.ok ys, ρ2) := by
    match hm : rDComp tg (evC cs c) (ev cs ek).1 (ev cs ev').1 ds [] (clear tg ρ1), h1 with
    | some (.ok ys, ρ2), _ => exact ⟨ys, ρ2, rfl⟩
    | some (.error x, ρ2), h1 => exact h1.elim
    | none, h1 => exact h1.elim
  obtain ⟨ys, ρ2, hr⟩ := hr
  have h1 : Post C L O σ W (E.dcomp tg it c ek ev').pure (RlE C false O) H1 (some (.ok (.dct ys), back tg ρ1 ρ2)) Q := by
    rw [hr] at h1
    exact h1
  obtain ⟨G, Y, wk, hG, hY⟩ := w
  obtain ⟨f0, f1, f2⟩ := S1.fresh hD
  have tl : ∀ j ∈ tg, j < σ.length := fun j hj => by
    obtain ⟨r, e', _⟩ := light_at hli hj
    rw [S1.len]; exact (List.getElem?_eq_some_iff.mp e').1
  have gr : ∀ {H' : Hp}, Keep O H1 H' → Grow O H1 (D :: O) H' := fun {H'} kk => ⟨kk, fun a ha => by
    rcases List.mem_cons.mp ha with z | z
    · rw [z]; exact .inr hD
    · exact .inl z⟩
  refine dc_it (g := gTg X.K tg) (tt := fun σ H Q => ∃ D o, tC cs (C.with D o) W0 c σ H Q) (tk := fun σ H Q => ∃ D o, tE cs (C.with D o) W0 ek σ H Q) (tv := fun σ H Q => ∃ D o, tE cs (C.with D o) W0 ev' σ H Q) (vs := tg) (σ := σ) (H1 := H1) (D := D) (Qd := fun H => Q (.ref D) H) wk
    (fun i H => ∃ (ρi : List Sl) (acc : List (Key × IV)) (kv : List (Key × V)), rDComp tg (evC cs c) (ev cs ek).1 (ev cs ev').1 (ds.drop i) acc ρi = some (.ok ys, ρ2) ∧ SRel C L (D :: O) (wipe σ tg) ρi H ∧ H D = some (.dK kv) ∧ kv.map (·.1) = acc.map (·.1) ∧
    RepAll C.K C.cl (D :: O) H (kv.map (·.2)) (acc.map (·.2)) ∧ Keep O H1 H ∧ ((E.dcomp tg it c ek ev').pure = true → Same H1 H) ∧ acc.length ≤ i) ?_ ?_ ?_ ?_
  · refine ⟨clear tg ρ1, [], [], hr, ?_, upd_same, rfl, .nil, .same (same_new hD), fun _ => same_new hD, Nat.zero_le _⟩
    have S2 := S1.addO hD (same_new (o := HO.dK []) hD) (by rw [upd_same]; exact fun z => nomatch z)
    exact S2.swap (tg := tg) (wipe_length _ _) clear_len (fun j hj => ⟨wipe_out hj, clear_out hj⟩) fun j r hj e => clear_e hj e
  · rintro i H2 _ ⟨ρi, acc, kv, _, _, _, _, _, kk, _⟩
    exact hG O H2 (.ofKeep kk)
  · rintro i x H2 H3 hi ⟨ρi, acc, kv, hrc, Si, hd, hky, ra, kk, ks, hal⟩ y
    have hdi : ds[i]? = some ds[i] := List.getElem?_eq_getElem hi
    obtain ⟨sm, rx⟩ := hY i (D :: O) H2 x H3 ds[i] (gr kk) Si.live hdi y
    have edr : ds.drop i = ds[i] :: ds.drop (i + 1) := List.drop_eq_getElem_cons hi
    rw [edr] at hrc
    obtain ⟨u, ρa, hta, hrc⟩ := rBind_ok hrc
    obtain ⟨t, ρb, htb, hrc⟩ := rBind_ok hrc
    rw [← CK]
    refine tg_read (Si.same sm) rx hta fun σ2 S2 hj hl => ⟨wipe_eq (by rw [hl, wipe_length]) hj, ?_⟩
    have hD3 : H3 D = some (.dK kv) := sm D _ hd
    have lsub : ∀ a ∈ L, a ∈ O := S1.lsub
    refine ⟨D, .dK kv, L, D :: O, ρa, S2.hold lsub f1 f0 hD3, ?_⟩
    rw [htb]
    intro b H4 k4 s4 S4 eb
    subst eb
    obtain ⟨S4, hD4⟩ := S4.unhold f0 f1 S1.sub S1.msub
    have len2 : σ2.length = σ.length := by rw [hl, wipe_length]
    have wp : ∀ {ρx : List Sl} {Hx : Hp}, SRel C L (D :: O) σ2 ρx Hx → SRel C L (D :: O) (wipe σ tg) (clear tg ρx) Hx := fun {ρx Hx} Sx => Sx.swap (tg := tg) (by rw [wipe_length, len2]) clear_len (fun j nj => ⟨(hj j nj).symm, clear_out nj⟩) fun j r hj e => clear_e hj e
    have kD : ∀ {Ha Hb : Hp}, Keep O H1 Ha → Keep (D :: O) Ha Hb → Keep O H1 Hb := fun {Ha Hb} ka kb a o n ea => kb a o (fun z => by
      rcases List.mem_cons.mp z with z | z
      · rw [z, hD] at ea; cases ea
      · exact n z) (ka a o n ea)
    have k3 : Keep O H1 H3 := fun a o n ea => sm a o (kk a o n ea)
    cases b with
    | false =>
      rw [if_neg Bool.false_ne_true] at hrc ⊢
      obtain ⟨_, ρc, hcl, hrc⟩ := rBind_ok hrc
      cases hcl
      exact ⟨_, acc, kv, hrc, wp S4, hD4, hky, (ra.keep (.same sm)).keep k4, kD k3 k4, fun z => ((ks z).trans sm).trans (s4 (pp z).2), Nat.le_succ_of_le hal⟩
    | true =>
      rw [if_pos rfl] at hrc ⊢
      obtain ⟨yk, ρc, hye, hrc⟩ := rBind_ok hrc
      obtain ⟨yv, ρd, hze, hrc2⟩ := rBind_ok hrc
      obtain ⟨kk', ρe, hko, hrc3⟩ := rBind_ok hrc2
      obtain ⟨_, ρf, hcl, hrc4⟩ := rBind_ok hrc3
      cases hcl
      clear hrc hrc2 hrc3
      have hko' : keyOf yk = some kk' ∧ ρe = ρd := by
        unfold rLift at hko
        cases e : keyOf yk with
        | none => rw [e] at hko; cases hko
        | some z => rw [e] at hko; cases hko; exact ⟨rfl, rfl⟩
      obtain ⟨hko2, rfl⟩ := hko'
      refine ⟨D, .dK kv, L, D :: O, ρb, S4.hold lsub f1 f0 hD4, ?_⟩
      rw [hye]
      intro kvv H5 k5 s5 S5 ry
      obtain ⟨S5, hD5⟩ := S5.unhold f0 f1 S1.sub S1.msub
      refine ⟨D, .dK kv, L, D :: O, ρc, S5.hold lsub f1 f0 hD5, ?_⟩
      rw [hze]
      intro vvv H6 k6 s6 S6 rz
      obtain ⟨S6, hD6⟩ := S6.unhold f0 f1 S1.sub S1.msub
      have ln : kv.length = acc.length := by simpa using congrArg List.length hky
      refine ⟨kv, kk', keyOf_rep (ry.2 hv) hko2, hD6, ?_, ?_⟩
      · rw [ln, sizeLine_eq]
        exact Nat.lt_of_le_of_lt hal (Nat.lt_trans hi hz)
      · have W1 := wp (S6.poke lsub S1.sub f1 f0 (.dK (putK kv kk' vvv)))
        have kp : Keep (D :: O) H6 (upd H6 D (.dK (putK kv kk' vvv))) := fun a o n e => by rw [upd_ne (fun z : a = D => n (z ▸ List.mem_cons_self))]; exact e
        have rr : RepAll C.K C.cl (D :: O) H6 ((putK kv kk' vvv).map (·.2)) ((putKD acc kk' yv).map (·.2)) := putKD_rep (rz.2 hv2) hky ((((ra.keep (.same sm)).keep k4).keep k5).keep k6)
        refine ⟨_, putKD acc kk' yv, putK kv kk' vvv, hrc4, W1, upd_same, putKD_keys hky, rr.keep kp, kD (kD (kD (kD k3 k4) k5) k6) kp, fun z => ?_, Nat.le_trans (putKD_len _ _ _) (Nat.succ_le_succ hal)⟩
        have sx := ((((ks z).trans sm).trans (s4 (pp z).2)).trans (s5 hpk)).trans (s6 hpv)
        intro a o ea
        rw [upd_ne (fun z => by rw [z, hD] at ea; cases ea)]
        exact sx a o ea
  · rintro H2 ⟨ρi, acc, kv, hrc, Si, hd, hky, ra, kk, ks, hal⟩
    rw [List.drop_length] at hrc
    cases hrc
    have S2 := Si.dropO S1.lsub S1.sub
    have S3 : SRel C L O σ (back tg ρ1 ρ2) H2 := S1.back S2 hli kk
    have rp : Rep C.K C.cl O H2 (.ref D) (.dct ys) := .dctH (.inl hd) f1 hky (ra.less fun a ha => List.mem_cons_of_mem _ ha)
    exact h1 _ H2 kk ks S3 ⟨.inl rp, fun _ => rp⟩
/-- what a dict comprehension asks, as one text -/
structure DcOk (X : Cx) (T : Tab) (cs : CS) (k : Nat) (C : Ct) (W : WX) (N : List Str) (sc scope : Scope) (tg : List Nat) (it : It) (c : OE) (ek ev' : E) (t iter kx vx : Expr) (ifs : List Expr) : Prop where
  ok : XOk T cs k C W N sc X
  it : PI X t iter (tIt cs C W it)
  set : noSet iter = true
  blk : blkC N sc scope (tg.filterMap fun i => N[i]?.map fun n => (n, i)) = true
  tgt : tgB N scope tg t = true
  tst : ∀ C' X'', XOk T cs k C' W0 N scope X'' → PTs X'' ifs (tC cs C' W0 c)
  key : ∀ C' X'', XOk T cs k C' W0 N scope X'' → PE X'' kx (tE cs C' W0 ek)
  val : ∀ C' X'', XOk T cs k C' W0 N scope X'' → PE X'' vx (tE cs C' W0 ev')
  kv : ek.isView = false
  vv : ev'.isView = false
  kp : ek.pure = true
  vp : ev'.pure = true
  lt : tg.all (fun i => decide (i < N.length)) = true
section
variable {scope : Scope} {tg : List Nat} {it : It} {c : OE} {ek ev' : E} {t iter kx vx : Expr} {ifs : List Expr} {pos : Pos}
theorem DcOk.blkOk (D : DcOk X T cs k C W N sc scope tg it c ek ev' t iter kx vx ifs) : BlkOk X.N X.env.scope scope (tg.filterMap fun i => N[i]?.map fun n => (n, i)) := by
  have ok := blkOk_by D.blk
  rw [D.ok.hN]
  exact ⟨ok.kind, ok.uniq, ok.ix, fun y hy e => D.ok.frex _ (ok.free y hy e), ok.own⟩
theorem DcOk.nd (D : DcOk X T cs k C W N sc scope tg it c ek ev' t iter kx vx ifs) : X.N.Nodup := by rw [D.ok.hN]; exact D.ok.nd
theorem DcOk.pg (D : DcOk X T cs k C W N sc scope tg it c ek ev' t iter kx vx ifs) (s : Shared) (H : Hp) (B : Addr) (cl : List (Str × Addr)) (fp : List Addr) : PG (X.blk s H scope (compEnvC scope cl B X.env) fp) t (gTg X.K tg) :=
  pg_of (X := X.blk s H scope (compEnvC scope cl B X.env) fp) (show X.N.Nodup from D.nd) D.ok.calm (sto_blk D.ok s H scope cl B fp) D.tgt
theorem DcOk.pt (D : DcOk X T cs k C W N sc scope tg it c ek ev' t iter kx vx ifs) (s : Shared) (H : Hp) (B : Addr) (cl : List (Str × Addr)) (fp : List Addr) : PTs (X.blk s H scope (compEnvC scope cl B X.env) fp) ifs (fun σ H Q => ∃ D o, tC cs (C.with D o) W0 c σ H Q) :=
  ⟨fun pins s' σ H' Q I ⟨D', o, q⟩ => (D.tst _ _ ((D.ok.blk s H scope cl B fp).with D' o)).run pins s' σ H' Q I q⟩
theorem DcOk.pk (D : DcOk X T cs k C W N sc scope tg it c ek ev' t iter kx vx ifs) (s : Shared) (H : Hp) (B : Addr) (cl : List (Str × Addr)) (fp : List Addr) : PE (X.blk s H scope (compEnvC scope cl B X.env) fp) kx (fun σ H Q => ∃ D o, tE cs (C.with D o) W0 ek σ H Q) :=
  ⟨fun pins s' σ H' Q I ⟨D', o, q⟩ => (D.key _ _ ((D.ok.blk s H scope cl B fp).with D' o)).run pins s' σ H' Q I q⟩
theorem DcOk.pv (D : DcOk X T cs k C W N sc scope tg it c ek ev' t iter kx vx ifs) (s : Shared) (H : Hp) (B : Addr) (cl : List (Str × Addr)) (fp : List Addr) : PE (X.blk s H scope (compEnvC scope cl B X.env) fp) vx (fun σ H Q => ∃ D o, tE cs (C.with D o) W0 ev' σ H Q) :=
  ⟨fun pins s' σ H' Q I ⟨D', o, q⟩ => (D.val _ _ ((D.ok.blk s H scope cl B fp).with D' o)).run pins s' σ H' Q I q⟩
theorem c_dcomp (D : DcOk X T cs k C W N sc scope tg it c ek ev' t iter kx vx ifs) : PE X (.DictComp kx vx [⟨t, iter, ifs, 0⟩] scope pos) (tE cs C W (.dcomp tg it c ek ev')) := by
  have z := pe_dc (X := X) (kx := kx) (vx := vx) (pos := pos) D.ok.calm D.nd D.it D.blkOk D.pg D.pt D.pk D.pv (fun x => noSet_ok D.set _ x)
  rw [own_ix D.lt] at z
  exact z.imp fun σ H Q h => dc_read (CK := D.ok.CK) D.kv D.vv D.kp D.vp h
/-- name = {.. for ..} on one line, the name a local -/
theorem s_dcompSet (D : DcOk X T cs k C W N sc scope tg it c ek ev' t iter kx vx ifs) {i : Nat} {y : Str} {py spos : Pos} (hy : X.N[i]? = some y) (hyl : X.env.scope.names.lookup y = some .local) (hsw : swapsWith (.DictComp kx vx [⟨t, iter, ifs, 0⟩] scope pos) (some (.Name y py)) spos.line X.env = pure true) :
    PS X (.Assign [.Name y py] (.DictComp kx vx [⟨t, iter, ifs, 0⟩] scope pos) spos) (tAsg (tE cs C W (.dcomp tg it c ek ev')) (gName i)) := by
  refine ⟨fun pins s σ H E I h => ?_⟩
  have h' := dc_read (X := X) (CK := D.ok.CK) D.kv D.vv D.kp D.vp h
  rw [exec_Assign_Name_used _ _ _ _ hsw]
  refine wpAny_bind (wpAny_standAt (wpAny_bind (wpAny_bind ?_)))
  have core := dc_core (X := X) (pos := pos) (pos' := firstIterPos [⟨t, iter, ifs, 0⟩] pos) (use := some (assign (.Name y py) X.env)) (Qf := fun _ s' => SP X pins E .next s') D.ok.calm D.nd I D.it D.blkOk D.pg D.pt D.pk D.pv (fun x => noSet_ok D.set _ x) (by rw [own_ix D.lt]; exact h')
    (fun L B s' m H' I' q hn f => by
      refine wpAny_assign_Name (store_ok2 (v := V.ref L) I' D.nd hy (.inl hyl) rfl (fun s2 I2 zz => ?_) (.inr hyl))
      obtain ⟨a, sb, ha⟩ := zz
      have f1 := f.2.1
      have f4 := f.2.2.2.2.1
      have ne : B ≠ a := ha.elim (fun z => by rw [z]; exact f1) fun z e => f4 y a z e.symm
      exact ⟨m, hn.sameBut sb ne, fun h3 sb3 => ⟨_, H', I2.turned (t' := s2.toks) (fun b o hb e => (sb3.2 b hb).trans e) f.1 f1 f.2.2.2.1 f4 f.2.2.2.2.2, q⟩⟩)
  exact thn core fun _ s' hq => wpAny_pure (wpAny_pure hq)
end
end
end Mx


/-! Mx, part 4r: list(g(..)) of a generator def; range with three numbers. -/
namespace Mx
open PySem PySem.Spec PyProof.Rows L2
section
variable {X : Cx}
/-- list(e), e gives a generator that has not begun -/
theorem list_gen {pins : List (Addr × Obj)} {s : Shared} {σ : L2.St} {H : Hp} {Q : VK} {e : Expr} {cont : List V → Hp → Prop} {E : XK} {k : Nat} {p pos : Pos} (hr : Room (k + 3) X.A) (pa : PassesAt (L2.CX X.prog X.w) X σ E) (ns : NoStop X.K E) (hg : Gl X "list") (hm : X.mg "list" = none) (he : notStar e = true)
    (gen : wpAny (model X.prog X.w) X.A (eval e X.env) (fun u s' => ∃ H1 sc, Inv X pins σ H1 sc ∧ GMade X.prog X.w k X.stack H1 sc [] cont E u s') X.xe s) (I : Inv X pins σ H s) (fin : ∀ out H2, cont out H2 → ∀ p, H2 p = none → Q (.ref p) (upd H2 p (.lst out))) :
    wpAny (model X.prog X.w) X.A (eval (.Call (.Name "list" p) [e] [] pos) X.env) (EP X pins σ Q) X.xe s := by
  have st := star1 he X.env
  refine wpAny_Call_Name_kw (ld_blt (u := .type "list") I hg hm (by decide +kernel) (PyProof.Rows.callWith_type1 ?_ st rfl) (by decide) (by decide))
  rw [st]
  show wpAny _ _ (spliced ((false, eval e X.env) :: backTo pos (starEach [] X.env))) _ _ s
  refine Calls.spliced_cons (thn gen fun u s1 z => Calls.spliced_nil ?_)
  obtain ⟨H1, sc, I1, made⟩ := z
  have below : sc.heap.objs.size ≤ s1.heap.objs.size := by
    obtain ⟨a, g, c, _, b1, b2, _⟩ := made
    exact Nat.le_of_lt (Nat.lt_of_le_of_lt b1 b2)
  refine call_list_new hr I1.ok.frames made (fun S s' acc c H' ys c0 c1 c2 c3 c4 c5 c6 c7 c8 c9 => ⟨.ref S, upd H' S (.lst ys), I1.drained (Nat.le_trans below c0) c3 c1 c2 .nil c4 c5 c6 c7 c8, rfl, fin ys H' c9 S c8⟩) fun er s' g hc => ?_
  have inK : X.K.In s'.heap := by
    obtain ⟨a, B, H', cls, d, _, fl, _, ub, _⟩ := id hc
    refine I1.ok.mod.kin.keeps fun b o eb => fl.1 b o (ub.keep b o (I1.bs b o eb).1 (I1.bs b o eb).2 fun hmem => ?_)
    rcases List.mem_cons.mp (I1.stkSub b hmem) with z | z
    · have l1 := Heap.lt_size eb
      have l2 := Nat.le_trans I1.ok.bsz I1.ok.above
      rw [z] at l1
      exact absurd (Nat.lt_of_lt_of_le l1 l2) (Nat.lt_irrefl _)
    · exact I1.ok.nofr eb z
  refine ⟨notStop_of ns inK hc, pa pins H1 sc er _ I1 ?_⟩
  obtain ⟨a, B, H', cls, d, z1, fl, z2, ub, z3, z4, z5, z6⟩ := hc
  exact ⟨a, B, H', cls, d, z1, fl, z2, ub, z3, z4, allBare_setGen z5 rfl, z6⟩
theorem run_gen {pins : List (Addr × Obj)} {σ : L2.St} {H : Hp} {s : Shared} {k : Nat} {f : Addr} {fd : FuncData} {ps : List Str} {sp : SpG} {us zs : List Value} {kw : List (Str × Value)} {vs : List V} {cont : List V → Hp → Prop} {E : XK} (F : GFn X.prog X.w X.K X.mg X.base k f fd ps sp) (hr : Room k X.A)
    (hb : BindsTo s fd ⟨us, kw⟩ (ps.zip zs)) (I : Inv X pins σ H s) (r : Vals vs zs) (h : sp vs H cont E) : wpAny (model X.prog X.w) X.A (call (.ref f) us kw) (fun u s' => ∃ H1 sc, Inv X pins σ H1 sc ∧ GMade X.prog X.w k X.stack H1 sc [] cont E u s') X.xe s := by
  refine wpAny_call (codeAny_mono (F.run X.A X.stack s H ⟨us, kw⟩ zs vs cont E hr I.env0 hb r h) fun res s' hq => ?_)
  match res, hq with
  | .ok (.ret u), hq => exact ⟨H, s, I, hq⟩
end
section
variable {T : Tab} {cs : CS} {k : Nat} {C : Ct} {W : WX} {N : List Str} {sc : Scope} {X : Cx}
/-- what an exception out of a generator may be -/
def EG (K : PySem.W.Frag) (W : WX) (σ : L2.St) : XK := fun c d H => W c d σ H ∧ PySem.W.subIn K c (.type "StopIteration") = some false
theorem listG_read (CK : C.K = X.K) (nst : ∀ c A, C.cl c = some A → PySem.W.subIn X.K (.ref A) (.type "StopIteration") = some false) {f : Nat} {fn : Fn} {as bs : Es} {ks : List Str} {dv : List IV} {dvs : List V} {perm : List Nat} {n : Nat} (ha : as.noView = true) (hb : bs.noView = true) (hp : perm.length = fn.ps.length) (hn : as.len = n) (hk : bs.len = ks.length)
    (rd : ∀ O H, RepAll C.K C.cl O H dvs dv) {σ : L2.St} {H : Hp} {Q : VK} (h : tE cs C W (.listG f as bs ks dv perm) σ H Q) :
    tEs cs C W as σ H fun vs H1 => vs.length = n ∧ tEs cs C W bs σ H1 fun zs H2 => zs.length = ks.length ∧ ∃ rs, pick (vs ++ zs ++ dvs) perm = some rs ∧ spG cs X.K C.cl f fn rs H2 (fun out H3 => ∀ p, H3 p = none → Q (.ref p) (upd H3 p (.lst out))) (EG X.K W σ) := by
  obtain ⟨L, O, ρ, S, q⟩ := h
  have pp : (E.listG f as bs ks dv perm).pure = true → as.pure = true ∧ bs.pure = true := fun z => by
    have z : (as.pure && bs.pure) = true := z
    rwa [Bool.and_eq_true] at z
  refine ⟨L, O, ρ, S, Post.bindE q fun ds ρ1 vs H1 hm1 k1 s1 S1 r1 h1 => ?_⟩
  have r1 := r1.2 ha
  refine ⟨by rw [r1.length, evEs_len hm1, hn], L, O, ρ1, S1, Post.bindE (Post.mono k1 (fun z => s1 (pp z).1) h1) fun es ρ2 zs H2 hm2 k2 s2 S2 r2 h2 => ?_⟩
  have h2 := Post.mono k2 (fun z => s2 (pp z).2) h2
  have r2 := r2.2 hb
  refine ⟨by rw [r2.length, evEs_len hm2, hk], ?_⟩
  unfold rCallK at h2
  match hd : pick (ds ++ es ++ dv) perm, h2 with
  | some ws, h2 =>
    obtain ⟨rs, hrs, rr⟩ := pick_rep (((r1.keep k2).append r2).append (rd O H2)) hd
    refine ⟨rs, hrs, ?_⟩
    have wl := pick_len hd
    rw [← CK]
    refine ⟨O, ws, S2.live, by rw [rr.length, wl, hp], by rw [wl, hp], rr, ?_⟩
    have h2 : Post C L O σ W (E.listG f as bs ks dv perm).pure (RlE C (E.listG f as bs ks dv perm).isView O) H2 ((match cs f ws with | none => none | some (r, _) => some (r, ρ2) : Out IV)) Q := h2
    match hc : cs f ws, h2 with
    | none, h2 => exact h2.elim
    | some (.ok d, ms), h2 =>
      cases d with
      | lst ys =>
        intro out H3 _ sm ro p hp3
        have sm2 : Same H2 (upd H3 p (.lst out)) := fun a o e => same_new hp3 a o (sm a o e)
        have lv : ∀ a ∈ O, H3 a ≠ none := fun a ha z => by
          cases e : H2 a with
          | none => exact S2.live a ha e
          | some o => rw [sm a o e] at z; cases z
        have rp := rep_newL lv hp3 ro
        exact h2 _ _ (.same sm2) (fun _ => sm2) (S2.same sm2) ⟨.inl rp, fun _ => rp⟩
      | _ => trivial
    | some (.error x, ms), h2 =>
      intro c dd H' sm xr
      refine ⟨h2 c dd H' (.same sm) (S2.same sm) xr, ?_⟩
      obtain ⟨A, e1, e2, _⟩ := xr
      rw [e2, CK]
      exact nst _ A e1
theorem c_listG (X' : XOk T cs k C W N sc X) {f : Nat} {fn : Fn} {as bs : Es} {ks : List Str} {dv : List IV} {perm : List Nat} {xs : List Expr} {kws : List Keyword} {l y : Str} {p p' q q' : Pos} (hl : l = ("list" : Str)) (hgl : gloB sc l = true) (hbl : T.blt.contains l = true) (hT : T.fns f = some fn) (hgb : fn.gbody.isSome = true) (hy : y = fn.name) (hg : gloB sc y = true) (hkw : kwB ks kws = true) (hma : mEs T N as sc xs = true) (hmb : mEs T N bs sc (kwVals kws) = true)
    (ha : as.noView = true) (hb : bs.noView = true) (hin : (fn.kwds.any fun p => decide (p.1 = xs.length) && decide (p.2.1 = ks) && IV.beqs p.2.2.1 dv && decide (p.2.2.2 = perm)) = true) (hp : perm.length = fn.ps.length) (hd : (y == ("__debug__" : Str)) = false)
    (pa : PA X xs (tEs cs C W as)) (pk : PK X kws (tEs cs C W bs)) : PE X (.Call (.Name l p) [.Call (.Name y p') xs kws q'] [] q) (tE cs C W (.listG f as bs ks dv perm)) := by
  obtain ⟨g, hgb⟩ := Option.isSome_iff_exists.mp hgb
  obtain ⟨a, fd, hm, hkp, hkd, F⟩ := X'.facts.gens f fn g hT hgb
  subst hl
  subst hy
  obtain ⟨pe, hpe, e⟩ := List.any_eq_true.mp hin
  simp only [Bool.and_eq_true, decide_eq_true_eq] at e
  obtain ⟨⟨⟨e1, e2⟩, e3⟩, e4⟩ := e
  obtain ⟨dus, dvs, vd, rd, bd⟩ := hkd pe hpe
  rw [e1, e2, e4] at bd
  rw [IV.beqs_eq e3] at rd
  obtain ⟨k1, k2, k3⟩ := kw_all (env := X.env) q' hkw
  have gl := X'.gl hg
  refine ⟨fun pins s σ H Q I h => ?_⟩
  have z := listG_read (X := X) (n := xs.length) X'.CK X'.facts.nst ha hb hp (mEs_len hma).symm (by rw [← mEs_len hmb, kw_len hkw]) (by rw [X'.CK]; exact rd) h
  refine list_gen (E := EG X.K W σ) (cont := fun out H3 => ∀ p, H3 p = none → Q (.ref p) (upd H3 p (.lst out))) (k := 5 * k) (X'.room.mono (by omega)) (fun pins H s e s' I c => ?_) (fun c d H h => h.2) (X'.gl hgl) (X'.bl hbl) rfl ?_ I (fun out H2 c p hp => c p hp)
  · refine passAt X'.tk σ pins H s e s' I ?_
    obtain ⟨a, B, H', cls, d, z1, fl, z2, ub, z3, z4, z5, z6⟩ := c
    exact ⟨a, B, H', cls, d, z1, fl, z2, ub, z3, z4, z5, z6.1⟩
  · refine wpAny_Call_Name_kw (ld_glob I gl hm ?_ hd)
    have fin : ∀ (us ws : List Value) (s2 : Shared) (vs zs : List V) (H2 : Hp), Inv X pins σ H2 s2 → Vals vs us → Vals zs ws → vs.length = xs.length → (zs.length = ks.length ∧ ∃ rs, pick (vs ++ zs ++ dvs) perm = some rs ∧ spG cs X.K C.cl f fn rs H2 (fun out H3 => ∀ p, H3 p = none → Q (.ref p) (upd H3 p (.lst out))) (EG X.K W σ)) →
        wpAny (model X.prog X.w) X.A (call (.ref a) us (ks.zip ws)) (fun u s' => ∃ H1 sc, Inv X pins σ H1 sc ∧ GMade X.prog X.w (5 * k) X.stack H1 sc [] (fun out H3 => ∀ p, H3 p = none → Q (.ref p) (upd H3 p (.lst out))) (EG X.K W σ) u s') X.xe s2 := fun us ws s2 vs zs H2 I2 r rz hl q => by
      obtain ⟨hz, rs, hp, q⟩ := q
      obtain ⟨qs, hq, rq⟩ := pick_vals ((r.append rz).append vd) hp
      exact run_gen F X'.room0 (bd s2 us ws qs I2.kIn (by rw [← r.length]; exact hl) (by rw [← rz.length]; exact hz) hq) I2 rq q
    cases xs with
    | nil =>
      have e : as = .nil := by
        cases as with
        | nil => rfl
        | cons e r => unfold mEs at hma; cases hma
      subst e
      have z := tEs_nil z
      refine PySem.W.callWith_KW0 (h₀ := X.base) I.ok.mod.kin hkp k1 (thn (pk.run q' pins s σ H _ I z.2) fun ws s2 ⟨zs, H2, I2, rz, q2⟩ => ⟨I2.kIn, ?_⟩) k3
      rw [k2]
      exact fin [] ws s2 [] zs H2 I2 .nil rz z.1 q2
    | cons x xs =>
      have hs := all_star hma
      rw [List.all_cons, Bool.and_eq_true] at hs
      refine PySem.W.callWith_KW (h₀ := X.base) I.ok.mod.kin hkp k1 (thn (pa.run q' pins s σ H _ I z) fun us s1 ⟨vs, H1, I1, r, hl, q⟩ => ?_) ?_ (star_one hs.1 xs X.env)
      · refine thn (pk.run q' pins s1 σ H1 _ I1 q) fun ws s2 ⟨zs, H2, I2, rz, q2⟩ => ⟨I2.kIn, ?_⟩
        rw [k2]
        exact fin us ws s2 vs zs H2 I2 r rz hl q2
      · have : (backTo q' (starEach (x :: xs) X.env)).any (·.1) = false := star_none X.env q' (by rw [List.all_cons, hs.1, hs.2]; rfl)
        rw [this, k3]
        rfl
/-! ### range(a, b, c) -/
theorem walkD_rng3 {O : List Addr} {H : Hp} {lo c : Int} {n : Nat} : WalkD C O H (Itc lo c n) ((List.range n).map fun i => .int (lo + (i : Nat) * c)) := by
  have hn : ((List.range n).map fun i => IV.int (lo + (i : Nat) * c)).length = n := by rw [List.length_map, List.length_range]
  have w : Walk (Itc lo c n) ((List.range n).map fun i => IV.int (lo + (i : Nat) * c)).length (fun _ => True) (YFn fun i => .int (lo + (i : Nat) * c)) := by
    rw [hn]
    exact ⟨fun i H hi _ => hi, fun H _ => Nat.le_refl _, fun i H x H' _ _ y => y⟩
  refine ⟨_, _, w, fun _ _ _ => trivial, fun i O2 H2 x H3 d g lv hd y => ?_⟩
  obtain ⟨rfl, rfl⟩ := y
  rw [List.getElem?_map] at hd
  cases hr : (List.range n)[i]? with
  | none => rw [hr] at hd; cases hd
  | some j =>
    rw [hr] at hd
    cases hd
    rw [List.getElem?_eq_some_iff] at hr
    obtain ⟨hi, e⟩ := hr
    rw [List.getElem_range] at e
    subst e
    exact ⟨Same.refl _, .int _⟩
theorem i_rng3 (X' : XOk T cs k C W N sc X) {a b c : E} {t z w u : Expr} {y : Str} {p q : Pos} (hy : y = ("range" : Str)) (hg : gloB sc y = true) (hbl : T.blt.contains y = true) (hz : notStar z = true) (hw : notStar w = true) (hu : notStar u = true) (va : a.isView = false) (vb : b.isView = false) (vc : c.isView = false)
    (pa : PE X z (tE cs C W a)) (pb : PE X w (tE cs C W b)) (pc : PE X u (tE cs C W c)) : PI X t (.Call (.Name y p) [z, w, u] [] q) (tIt cs C W (.rng3 a b c)) := by
  subst hy
  have st : starEach [w, u] X.env = [(false, eval w X.env), (false, eval u X.env)] := by rw [star_one hw, star_one hu]; rfl
  refine (pi_range3 (X'.gl hg) (X'.bl hbl) (pa_cons pa (pa_cons pb (pa_cons pc pa_nil (star1 hu _)) (star_one hw _ _)) (star_one hz _ _)) (star_one hz _ _) (by rw [st]; rfl)).imp fun σ H R ⟨L, O, ρ, S, h⟩ => ?_
  have pp : (It.rng3 a b c).pure = true → a.pure = true ∧ b.pure = true ∧ c.pure = true := fun z => by
    have z : (a.pure && b.pure && c.pure) = true := z
    rw [Bool.and_eq_true, Bool.and_eq_true] at z
    exact ⟨z.1.1, z.1.2, z.2⟩
  refine ⟨L, O, ρ, S, Post.bind h fun da ρ1 v1 H1 k1 s1 S1 r1 h1 => ?_⟩
  have h1 := Post.mono k1 (fun z => s1 (pp z).1) h1
  refine ⟨L, O, ρ1, S1, Post.bind h1 fun db ρ2 v2 H2 k2 s2 S2 r2 h2 => ?_⟩
  have h2 := Post.mono k2 (fun z => s2 (pp z).2.1) h2
  refine ⟨L, O, ρ2, S2, Post.bind h2 fun dc ρ3 v3 H3 k3 s3 S3 r3 h3 => ?_⟩
  have h3 := Post.mono k3 (fun z => s3 (pp z).2.2) h3
  unfold rLift at h3
  have q1 := r1.2 va
  have q2 := r2.2 vb
  have q3 := r3.2 vc
  cases hf : seqR3 da db dc with
  | none => rw [hf] at h3; exact h3.elim
  | some ds =>
    rw [hf] at h3
    have h9 : Post C L O σ W (It.rng3 a b c).pure (fun H J ds => WalkD C O H J ds) H3 (some (.ok ds, ρ3)) R := h3
    clear h3 h2 h1 h
    match da, db, dc, q1, q2, q3, hf with
    | .int i, .int j, .int d, .int _, .int _, .int _, hf =>
      have hf : (if d ≠ 0 ∧ d.natAbs < 1073741824 ∧ Builtin.Range.small i j d = true ∧ 0 ≤ Builtin.Range.rangeSize i j d then some ((List.range (Builtin.Range.rangeSize i j d).toNat).map fun n => IV.int (i + (n : Nat) * d)) else none) = some ds := hf
      split at hf
      · rename_i hz
        cases hf
        refine ⟨i, j, d, (Builtin.Range.rangeSize i j d).toNat, rfl, ⟨hz.1, hz.2.1, hz.2.2.1, by omega⟩, h9 _ H3 (Keep.refl _ _) (fun _ => Same.refl _) S3 walkD_rng3⟩
      · cases hf
end
end Mx


/-! Mx, part 4k: every expression. -/
namespace Mx
open PySem PySem.Spec PyProof.Rows L2
section
variable {T : Tab} {cs : CS} {k : Nat} {N : List Str}
theorem bnot {b : Bool} (h : (!b) = true) : b = false := by cases b <;> first | rfl | cases h
theorem bimp {a b : Bool} (h : (!a || b) = true) : a = true → b = true := fun z => by rw [z] at h; simpa using h
theorem bimp2 {a b c : Bool} (h : (!a || (b && c)) = true) : a = true → b = true ∧ c = true := fun z => by rw [z] at h; simpa using h
theorem both {C : Ct} {W : WX} {sc : Scope} {X : Cx} (X' : XOk T cs k C W N sc X) {e : E} {y : Expr} (hp : plainT y = true) (h2 : (ev cs e).2 = rBind (ev cs e).1 fun d => rLift (truD d)) (z : PE X y (tE cs C W e)) : PE X y (tE cs C W e) ∧ (e.tst = true → PT X y (tT cs C W e)) :=
  ⟨z, fun _ => c_tru X' hp h2 z⟩
theorem p1_plain {T : Tab} {sc : Scope} {p : P1} {x y : Expr} (h : mP1 T sc p x = some y) : plainT x = true := by
  unfold mP1 at h
  split at h
  · rfl
  · rfl
  · cases h
mutual
theorem sE : ∀ (e : E) {C : Ct} {W : WX} {sc : Scope} {X : Cx} (X' : XOk T cs k C W N sc X) {x : Expr}, mE T N e sc x = true → PE X x (tE cs C W e) ∧ (e.tst = true → PT X x (tT cs C W e))
  | .var i, C, W, sc, X, X', x, h => by
    unfold mE at h
    split at h
    · exact both X' rfl rfl (c_var X' h)
    · cases h
  | .view i, C, W, sc, X, X', x, h => by
    unfold mE at h
    split at h
    · exact both X' rfl rfl (c_view X' h)
    · cases h
  | .cst d, C, W, sc, X, X', x, h => by
    unfold mE at h
    split at h
    · exact both X' rfl rfl (c_cst h)
    · cases h
  | .glo y d, C, W, sc, X, X', x, h => by
    unfold mE at h
    split at h
    · simp only [Bool.and_eq_true, decide_eq_true_eq] at h
      exact both X' rfl rfl (c_glo X' h.1.1.1 h.1.1.2 h.1.2 (bnot h.2))
    · cases h
  | .bin o a b, C, W, sc, X, X', x, h => by
    unfold mE at h
    split at h
    · simp only [Bool.and_eq_true, decide_eq_true_eq] at h
      obtain ⟨⟨⟨rfl, h1⟩, h2⟩, h3⟩ := h
      exact both X' rfl rfl (c_bin X' (o := o) (bimp h3) (sE a X' h1).1 (sE b X' h2).1)
    · cases h
  | .neg a, C, W, sc, X, X', x, h => by
    unfold mE at h
    split at h
    · exact both X' rfl rfl (c_neg (sE a X' h).1)
    · cases h
  | .cmp o a b, C, W, sc, X, X', x, h => by
    unfold mE at h
    split at h
    · simp only [Bool.and_eq_true, decide_eq_true_eq] at h
      obtain ⟨⟨⟨⟨rfl, h1⟩, h2⟩, h3⟩, h4⟩ := h
      exact ⟨c_cmp X' (bimp h3) h4 (sE a X' h1).1 (sE b X' h2).1, fun _ => c_cmpT X' (bimp h3) h4 (sE a X' h1).1 (sE b X' h2).1⟩
    · cases h
  | .chn o o' a b c, C, W, sc, X, X', x, h => by
    unfold mE at h
    split at h
    · simp only [Bool.and_eq_true, decide_eq_true_eq] at h
      obtain ⟨⟨⟨⟨⟨⟨⟨rfl, rfl⟩, h1⟩, h2⟩, h3⟩, h4⟩, h5⟩, h6⟩ := h
      exact ⟨c_chn X' (bnot h4) (bnot h5) h6 (sE a X' h1).1 (sE b X' h2).1 (sE c X' h3).1, fun _ => c_chnT X' (bnot h4) (bnot h5) h6 (sE a X' h1).1 (sE b X' h2).1 (sE c X' h3).1⟩
    · cases h
  | .and es, C, W, sc, X, X', x, h => by
    unfold mE at h
    split at h
    · rw [Bool.and_eq_true] at h
      exact ⟨(sEs es X' h.1).2.2.2.1 h.2 _, fun t => ((sEs es X' h.1).2.2.2.2.2.1 t _).pt⟩
    · cases h
  | .or es, C, W, sc, X, X', x, h => by
    unfold mE at h
    split at h
    · rw [Bool.and_eq_true] at h
      exact ⟨(sEs es X' h.1).2.2.2.2.1 h.2 _, fun t => ((sEs es X' h.1).2.2.2.2.2.2 t _).pt⟩
    · cases h
  | .not a, C, W, sc, X, X', x, h => by
    unfold mE at h
    split at h
    · exact ⟨c_not (sE a X' h).1, fun t => c_notT ((sE a X' h).2 t)⟩
    · cases h
  | .ite c a b, C, W, sc, X, X', x, h => by
    unfold mE at h
    split at h
    · simp only [Bool.and_eq_true] at h
      obtain ⟨⟨⟨⟨⟨h1, h2⟩, h3⟩, h4⟩, h5⟩, h6⟩ := h
      exact ⟨c_ite (bnot h5) (bnot h6) ((sE c X' h1).2 h2) (sE a X' h3).1 (sE b X' h4).1, fun t => nomatch t⟩
    · cases h
  | .ix a b, C, W, sc, X, X', x, h => by
    unfold mE at h
    split at h
    · simp only [Bool.and_eq_true] at h
      obtain ⟨⟨⟨h1, h2⟩, h3⟩, h4⟩ := h
      exact both X' rfl rfl (c_ix X' (bimp h4) h3 (sE a X' h1).1 (sE b X' h2).1)
    · cases h
  | .sl a lo hi, C, W, sc, X, X', x, h => by
    unfold mE at h
    split at h
    · simp only [Bool.and_eq_true] at h
      obtain ⟨⟨⟨h1, h2⟩, h3⟩, h4⟩ := h
      exact both X' rfl rfl (c_sl X' (bimp2 h4) (sE a X' h1).1 ((sO lo X' trivial).1 h2) ((sO hi X' trivial).1 h3))
    · cases h
  | .lst es, C, W, sc, X, X', x, h => by
    unfold mE at h
    split at h
    · rw [Bool.and_eq_true] at h
      exact both X' rfl rfl (c_lst h.2 (sEs es X' h.1).1)
    · cases h
  | .tup es, C, W, sc, X, X', x, h => by
    unfold mE at h
    split at h
    · rw [Bool.and_eq_true] at h
      exact both X' rfl rfl (c_tup h.2 (sEs es X' h.1).1)
    · cases h
  | .dct ks es, C, W, sc, X, X', x, h => by
    unfold mE at h
    split at h
    · rename_i keys vals p
      simp only [Bool.and_eq_true, decide_eq_true_eq] at h
      obtain ⟨⟨⟨⟨⟨⟨⟨h1, h2⟩, h3⟩, h4⟩, h5⟩, h6⟩, h7⟩, h8⟩ := h
      obtain ⟨k1, k2⟩ := keysB_ok h1
      have z : PE X (.Dict keys vals p) (tE cs C W (.dct ks es)) := by
        refine (pe_disp ((sEs es X' h2).2.2.1 keys ks p h1 (by rw [h4, mEs_len h2])) k1 (by rw [k2, h4]) (fun e => by rw [e] at k2; exact absurd k2.symm (Nat.ne_of_gt h5)) (by rw [k2]; exact h6)).imp fun σ H Q h => ?_
        exact dct_read h3 (by rw [h4, mEs_len h2]) h6 h7 h
      exact ⟨z, fun _ => c_tru X' rfl rfl z⟩
    · cases h
  | .fn f es, C, W, sc, X, X', x, h => by
    unfold mE at h
    split at h
    · simp only [Bool.and_eq_true, decide_eq_true_eq] at h
      obtain ⟨⟨⟨⟨h1, h2, h2'⟩, h3⟩, h4⟩, h5⟩ := h
      exact both X' rfl rfl (c_fn X' h1 h2 h2' h3 h4 (all_star h5) (sEs es X' h5).1)
    · cases h
  | .isi a t, C, W, sc, X, X', x, h => by
    unfold mE at h
    split at h
    · simp only [Bool.and_eq_true, decide_eq_true_eq] at h
      obtain ⟨⟨⟨⟨⟨⟨⟨⟨h1, h2⟩, h3⟩, h4⟩, h5⟩, h6⟩, h7⟩, h8⟩, h9⟩ := h
      exact both X' rfl rfl (c_isi X' h1 h2 h3 h5 h6 h7 h8 h9 (sE a X' h4).1)
    · cases h
  | .mt m a es, C, W, sc, X, X', x, h => by
    unfold mE at h
    split at h
    · rename_i o y p xs q
      simp only [Bool.and_eq_true, decide_eq_true_eq] at h
      obtain ⟨⟨⟨⟨⟨⟨⟨h1, h2⟩, h3⟩, h4⟩, h5⟩, h6⟩, h7⟩, h8⟩ := h
      have z : PE X (.Call (.Attribute o y p) xs [] q) (tE cs C W (.mt m a es)) := by
        match es, xs, h4, h8 with
        | .nil, [], h4, h8 =>
          have e : m = .upper := by cases m <;> first | rfl | cases h8
          subst e
          exact c_mt0 X' h1 h5 h6 (sE a X' h3).1
        | .cons b .nil, [w], h4, h8 =>
          unfold mEs at h4
          simp only [Bool.and_eq_true] at h4
          exact c_mt1 X' h1 h2 (fun e => by rw [e] at h8; cases h8) h5 h6 (bnot h7) h4.1.2 (sE a X' h3).1 (sE b X' h4.1.1.1).1
        | .cons b (.cons c r), [w], h4, h8 =>
          have z := mEs_len h4
          exact absurd z.symm (by unfold Es.len Es.len; simp)
        | .nil, w :: ws, h4, h8 => exact absurd (mEs_len h4) (by unfold Es.len; simp)
        | .cons b r, [], h4, h8 => exact absurd (mEs_len h4).symm (by unfold Es.len; simp)
        | .cons b r, w :: w' :: ws, h4, h8 =>
          have z : mtAr m ≤ 1 := by cases m <;> decide
          rw [← h8] at z
          exact absurd z (by simp)
      exact ⟨z, fun _ => c_tru X' rfl rfl z⟩
    · cases h
  | .call f as, C, W, sc, X, X', x, h => by
    unfold mE at h
    split at h
    · split at h
      · rename_i fn hT
        simp only [Bool.and_eq_true, decide_eq_true_eq] at h
        obtain ⟨⟨⟨⟨⟨⟨⟨⟨⟨h0, hcb⟩, h1⟩, h2⟩, h3⟩, h4⟩, h5⟩, h6⟩, h7⟩, h8⟩ := h
        refine both X' rfl rfl (c_call X' hT h0 hcb h1 h2 h4 h5 (by rw [h7, h6]) (bnot h8) (as_star h3) (sAs as X' h3) (fun e => ?_))
        subst e
        cases as with
        | nil => rfl
        | v e r => unfold mAs at h3; cases h3
        | m i r => unfold mAs at h3; cases h3
      · cases h
    · cases h
  | .callK f as bs ks perm, C, W, sc, X, X', x, h => by
    unfold mE at h
    split at h
    · split at h
      · rename_i fn hT
        simp only [Bool.and_eq_true, decide_eq_true_eq] at h
        obtain ⟨⟨⟨⟨⟨⟨⟨⟨⟨⟨⟨⟨⟨h0, hcb⟩, h1⟩, h2⟩, h3⟩, h4⟩, h5⟩, h6⟩, h7⟩, h8⟩, h9⟩, h10⟩, h11⟩, h12⟩ := h
        exact both X' rfl rfl (c_callK X' hT h0 hcb h1 h2 h3 h4 h5 h6 h7 h8 h9 h10 h11 (bnot h12) (sEs as X' h4).1 ((sEs bs X' h5).2.1 _ rfl))
      · cases h
    · cases h
  | .comp tg it c e, C, W, sc, X, X', x, h => by
    unfold mE at h
    split at h
    · simp only [Bool.and_eq_true, decide_eq_true_eq] at h
      obtain ⟨⟨⟨⟨⟨⟨⟨⟨h1, h2⟩, h3⟩, h4⟩, h5⟩, h6⟩, h7⟩, h8⟩, h9⟩ := h
      exact both X' rfl rfl (c_comp X' (sIt it X' h1) h2 h3 h4 (fun C' X'' Y => (sO c (x := none) Y trivial).2 h5) (fun C' X'' Y => (sE e Y h6).1) (bnot h7) h8)
    · cases h
  | .pr1 p a, C, W, sc, X, X', x, h => by
    unfold mE at h
    split at h
    · rename_i y hm
      rw [Bool.and_eq_true] at h
      exact both X' (p1_plain hm) rfl (c_pr1 X' hm (bnot h.2) (sE a X' h.1).1)
    · cases h
  | .mk c ps es, C, W, sc, X, X', x, h => by
    unfold mE at h
    split at h
    · split at h
      · rename_i xc hT
        simp only [Bool.and_eq_true, decide_eq_true_eq] at h
        obtain ⟨⟨⟨⟨⟨⟨⟨h1, h2⟩, h3⟩, h4⟩, h5⟩, h6⟩, h7⟩, h8⟩ := h
        subst h5
        exact both X' rfl rfl (c_mk X' hT (fun z => by rw [z] at h8; cases h8) h1 h2 h3 h4 (bnot h6) (sEs es X' h3).1)
      · cases h
    · cases h
  | .mkK c ps as bs ks perm, C, W, sc, X, X', x, h => by
    unfold mE at h
    split at h
    · split at h
      · rename_i xc hT
        simp only [Bool.and_eq_true, decide_eq_true_eq] at h
        obtain ⟨⟨⟨⟨⟨⟨⟨⟨⟨⟨⟨h1, h2⟩, h3⟩, h4⟩, h5⟩, h6⟩, h7⟩, h8⟩, h9⟩, h10⟩, h11⟩, h12⟩ := h
        subst h9
        exact both X' rfl rfl (c_mkK X' hT (fun z => by rw [z] at h12; cases h12) h1 h2 h3 h4 h5 h6 h7 h8 (bnot h10) h11 (sEs as X' h4).1 ((sEs bs X' h5).2.1 _ rfl))
      · cases h
    · cases h
  | .vfld i f cs', C, W, sc, X, X', x, h => by
    unfold mE at h
    split at h
    · simp only [Bool.and_eq_true, decide_eq_true_eq, List.all_eq_true] at h
      obtain ⟨⟨rfl, h2⟩, h3⟩ := h
      exact both X' rfl rfl (c_vfld X' h2 fun c hc => of_decide_eq_true (h3 c hc))
    · cases h
  | .methV m tab a as dv, C, W, sc, X, X', x, h => by
    unfold mE at h
    split at h
    · simp only [Bool.and_eq_true, decide_eq_true_eq, List.all_eq_true] at h
      obtain ⟨⟨⟨⟨⟨⟨⟨⟨rfl, h2⟩, h3⟩, h4⟩, h5⟩, h6⟩, h7⟩, h8⟩, h9⟩ := h
      exact both X' rfl rfl (c_methV X' (bnot h3) h5 h6 h7 h8 h4 h9 (sE a X' h2).1 (sAs as X' h4))
    · cases h
  | .methM m tab i as dv, C, W, sc, X, X', x, h => by
    unfold mE at h
    split at h
    · simp only [Bool.and_eq_true, decide_eq_true_eq, List.all_eq_true] at h
      obtain ⟨⟨⟨⟨⟨⟨rfl, h2⟩, h3⟩, h4⟩, h5⟩, h6⟩, h7⟩ := h
      exact both X' rfl rfl (c_methM X' h2 h4 h5 h6 h3 h7 (sAs as X' h3))
    · cases h
  | .new c f as dv, C, W, sc, X, X', x, h => by
    unfold mE at h
    split at h
    · simp only [Bool.and_eq_true, decide_eq_true_eq] at h
      obtain ⟨⟨⟨⟨⟨⟨h1, h2⟩, h3⟩, h4⟩, h5⟩, h6⟩, h7⟩ := h
      split at h7
      · rename_i fn hT
        exact both X' rfl rfl (c_new X' hT (bnot h7) h5 h1 h3 h6 (bnot h4) h2 (sAs as X' h2)).1
      · cases h7
    · cases h
  | .callD f as dv, C, W, sc, X, X', x, h => by
    unfold mE at h
    split at h
    · simp only [Bool.and_eq_true, decide_eq_true_eq] at h
      obtain ⟨⟨⟨⟨⟨h1, h2⟩, h3⟩, h4⟩, h6⟩, h7⟩ := h
      split at h7
      · rename_i fn hT
        simp only [Bool.and_eq_true, decide_eq_true_eq] at h7
        exact both X' rfl rfl (c_callD X' hT h7.1 h7.2 h1 h3 h6 (bnot h4) h2 (sAs as X' h2))
      · cases h7
    · cases h
  | .dix a b, C, W, sc, X, X', x, h => by
    unfold mE at h
    split at h
    · simp only [Bool.and_eq_true] at h
      obtain ⟨⟨⟨h1, h2⟩, h3⟩, h4, h5⟩ := h
      exact both X' rfl rfl (c_dix X' h3 (bnot h4) (bnot h5) (sE a X' h1).1 (sE b X' h2).1)
    · cases h
  | .kix w kvs b, C, W, sc, X, X', x, h => by
    unfold mE at h
    split at h
    · simp only [Bool.and_eq_true, decide_eq_true_eq] at h
      obtain ⟨⟨⟨⟨⟨⟨h1, h2⟩, h3⟩, h4⟩, h5⟩, h6⟩, h7⟩ := h
      exact both X' rfl rfl (c_kix X' h1 h2 (bnot h3) h4 h6 (bnot h7) (sE b X' h5).1)
    · cases h
  | .kget w kvs b d, C, W, sc, X, X', x, h => by
    unfold mE at h
    split at h
    · simp only [Bool.and_eq_true, decide_eq_true_eq] at h
      obtain ⟨⟨⟨⟨⟨⟨⟨⟨⟨h1, h2⟩, h3⟩, h4⟩, h5⟩, h6⟩, h7⟩, h8⟩, h9, h9'⟩, h10, h11⟩ := h
      exact both X' rfl rfl (c_kget X' h1 h2 (bnot h3) h4 h5 h6 h9 h9' (bnot h10) (bnot h11) (sE b X' h7).1 (sE d X' h8).1)
    · cases h
  | .dcomp tg it c ek e, C, W, sc, X, X', x, h => by
    unfold mE at h
    split at h
    · simp only [Bool.and_eq_true, decide_eq_true_eq] at h
      obtain ⟨⟨⟨⟨⟨⟨⟨⟨⟨⟨h1, h2⟩, h3⟩, h4⟩, h5⟩, h6⟩, h7⟩, h8, h8'⟩, h9⟩, h10⟩, h11, h12⟩ := h
      exact both X' rfl rfl (c_dcomp ⟨X', sIt it X' h1, h2, h3, h4, fun C' X'' Y => (sO c (x := none) Y trivial).2 h5, fun C' X'' Y => (sE ek Y h6).1, fun C' X'' Y => (sE e Y h7).1, bnot h8, bnot h8', h11, h12, h9⟩)
    · cases h
  | .listG f as bs ks dv perm, C, W, sc, X, X', x, h => by
    unfold mE at h
    split at h
    · simp only [Bool.and_eq_true, decide_eq_true_eq] at h
      obtain ⟨⟨⟨h1, h2⟩, h3⟩, h⟩ := h
      split at h
      · rename_i fn hT
        simp only [Bool.and_eq_true, decide_eq_true_eq] at h
        obtain ⟨⟨⟨⟨⟨⟨⟨⟨⟨⟨⟨g1, g2⟩, g3⟩, g4⟩, g5⟩, g6, g6'⟩, g7⟩, g8⟩, g9⟩, g10⟩, g11⟩, g12⟩ := h
        exact both X' rfl rfl (c_listG X' h1 h2 h3 hT g12 g1 g2 g3 g4 g5 g6 g6' g9 g10 (bnot g11) (sEs as X' g4).1 ((sEs bs X' g5).2.1 _ rfl))
      · cases h
    · cases h
theorem sO : ∀ (o : OE) {C : Ct} {W : WX} {sc : Scope} {X : Cx} (X' : XOk T cs k C W N sc X) {x : Option Expr}, True → (mO T N o sc x = true → PO X x (tO cs C W o)) ∧ ∀ {xs : List Expr}, mC T N o sc xs = true → PTs X xs (tC cs C W o)
  | .no, C, W, sc, X, X', x, _ => by
    refine ⟨fun h => ?_, fun {xs} h => ?_⟩
    · unfold mO at h
      cases x with
      | none => exact c_no
      | some y => cases h
    · unfold mC at h
      cases xs with
      | nil => exact ⟨fun pins s σ H Q I ⟨L, O, ρ, S, q⟩ => pts_nil.run pins s σ H Q I (Post.ok q S rfl)⟩
      | cons y ys => cases h
  | .yes e, C, W, sc, X, X', x, _ => by
    refine ⟨fun h => ?_, fun {xs} h => ?_⟩
    · unfold mO at h
      split at h
      · exact c_yes (sE e X' h).1
      · cases h
    · unfold mC at h
      split at h
      · rw [Bool.and_eq_true] at h
        exact pts_one ((sE e X' h.1).2 h.2)
      · cases h
theorem sEs : ∀ (es : Es) {C : Ct} {W : WX} {sc : Scope} {X : Cx} (X' : XOk T cs k C W N sc X) {xs : List Expr}, mEs T N es sc xs = true → PA X xs (tEs cs C W es) ∧ (∀ kws, kwVals kws = xs → PK X kws (tEs cs C W es)) ∧
    (∀ keys ks pos, keysB keys ks = true → ks.length = es.len → PPs X pos keys xs (trsOf cs C W ks es)) ∧ (es.noView = true → ∀ p, PE X (.BoolOp .And xs p) (tAndE cs C W es)) ∧ (es.noView = true → ∀ p, PE X (.BoolOp .Or xs p) (tOrE cs C W es)) ∧
    (es.tst = true → ∀ p, PW X (.BoolOp .And xs p) (tAndT cs C W es)) ∧ (es.tst = true → ∀ p, PW X (.BoolOp .Or xs p) (tOrT cs C W es))
  | .nil, C, W, sc, X, X', xs, h => by
    unfold mEs at h
    cases xs with
    | cons y ys => cases h
    | nil =>
      refine ⟨c_nil, fun kws e => ?_, fun keys ks pos hk hkl => ?_, fun _ p => ⟨fun pins s σ H Q I ⟨L, O, ρ, S, q⟩ => q.elim⟩, fun _ p => ⟨fun pins s σ H Q I ⟨L, O, ρ, S, q⟩ => q.elim⟩, fun _ p => ⟨fun wh pins s σ H Q I ⟨L, O, ρ, S, q⟩ => q.elim⟩, fun _ p => ⟨fun wh pins s σ H Q I ⟨L, O, ρ, S, q⟩ => q.elim⟩⟩
      · cases kws with
        | nil => exact c_knil
        | cons y ys => obtain ⟨_, _, _⟩ := y; exact nomatch (show _ :: kwVals ys = [] from e)
      · match keys, ks, hk with
        | [], [], _ => exact pps_nil
        | some _ :: _, _ :: _, _ => exact absurd hkl (by unfold Es.len; simp)
  | .cons e r, C, W, sc, X, X', xs, h => by
    unfold mEs at h
    cases xs with
    | nil => cases h
    | cons y ys =>
      simp only [Bool.and_eq_true] at h
      obtain ⟨⟨⟨h1, h2⟩, h3⟩, h4⟩ := h
      have ie := sE e X' h1
      have ir := sEs r X' h2
      refine ⟨c_cons (bimp h4) h3 ie.1 ir.1, fun kws e => ?_, fun keys ks pos hk hkl => ?_, fun hv p => ?_, fun hv p => ?_, fun ht p => ?_, fun ht p => ?_⟩
      · cases kws with
        | nil => exact nomatch (show [] = y :: ys from e)
        | cons w ws =>
          obtain ⟨nm, v, kp⟩ := w
          obtain ⟨rfl, e2⟩ := List.cons.inj (show v :: kwVals ws = y :: ys from e)
          exact c_kcons (bimp h4) ie.1 (ir.2.1 ws e2)
      · match keys, ks, hk with
        | [], [], _ => exact absurd hkl (by unfold Es.len; simp)
        | some kx :: keys, kk :: ks, hk =>
          have hk' : (keyB kx kk && keysB keys ks) = true := hk
          rw [Bool.and_eq_true] at hk'
          exact pps_cons (key_ok hk'.1) ⟨fun pins s σ H Q I ⟨D, o, q⟩ => (sE e (X'.with D o) h1).1.run pins s σ H Q I q⟩ (ir.2.2.1 keys ks pos hk'.2 (Nat.succ.inj hkl))
      · have hv' : (!e.isView && r.noView) = true := hv
        rw [Bool.and_eq_true] at hv'
        match r, ys, h2, ir with
        | .nil, [], _, _ => exact c_and1 (bnot hv'.1) ie.1
        | .cons e' r', z :: zs, _, ir => exact c_and ie.1 (ir.2.2.2.1 hv'.2 p)
        | .nil, _ :: _, h2, _ => unfold mEs at h2; cases h2
        | .cons _ _, [], h2, _ => unfold mEs at h2; cases h2
      · have hv' : (!e.isView && r.noView) = true := hv
        rw [Bool.and_eq_true] at hv'
        match r, ys, h2, ir with
        | .nil, [], _, _ => exact c_or1 (bnot hv'.1) ie.1
        | .cons e' r', z :: zs, _, ir => exact c_or ie.1 (ir.2.2.2.2.1 hv'.2 p)
        | .nil, _ :: _, h2, _ => unfold mEs at h2; cases h2
        | .cons _ _, [], h2, _ => unfold mEs at h2; cases h2
      · have ht' : (e.tst && r.tst) = true := ht
        rw [Bool.and_eq_true] at ht'
        match r, ys, h2, ir with
        | .nil, [], _, _ => exact c_and1T (ie.2 ht'.1)
        | .cons e' r', z :: zs, _, ir => exact c_andT (ie.2 ht'.1) (ir.2.2.2.2.2.1 ht'.2 p)
        | .nil, _ :: _, h2, _ => unfold mEs at h2; cases h2
        | .cons _ _, [], h2, _ => unfold mEs at h2; cases h2
      · have ht' : (e.tst && r.tst) = true := ht
        rw [Bool.and_eq_true] at ht'
        match r, ys, h2, ir with
        | .nil, [], _, _ => exact c_or1T (ie.2 ht'.1)
        | .cons e' r', z :: zs, _, ir => exact c_orT (ie.2 ht'.1) (ir.2.2.2.2.2.2 ht'.2 p)
        | .nil, _ :: _, h2, _ => unfold mEs at h2; cases h2
        | .cons _ _, [], h2, _ => unfold mEs at h2; cases h2
theorem sAs : ∀ (as : As) {C : Ct} {W : WX} {sc : Scope} {X : Cx} (X' : XOk T cs k C W N sc X) {xs : List Expr}, mAs T N as sc xs = true → PA X xs (tAs cs C W as)
  | .nil, C, W, sc, X, X', xs, h => by
    unfold mAs at h
    cases xs with
    | nil => exact c_anil
    | cons y ys => cases h
  | .v e r, C, W, sc, X, X', xs, h => by
    unfold mAs at h
    split at h
    · simp only [Bool.and_eq_true] at h
      obtain ⟨⟨⟨h1, h2⟩, h3⟩, h4⟩ := h
      exact c_av (bnot h4) h3 (sE e X' h1).1 (sAs r X' h2)
    · cases h
  | .m i r, C, W, sc, X, X', xs, h => by
    unfold mAs at h
    split at h
    · rw [Bool.and_eq_true] at h
      exact c_am X' h.1 (sAs r X' h.2)
    · cases h
theorem sIt : ∀ (it : It) {C : Ct} {W : WX} {sc : Scope} {X : Cx} (X' : XOk T cs k C W N sc X) {t x : Expr}, mIt T N it sc t x = true → PI X t x (tIt cs C W it)
  | .lst e, C, W, sc, X, X', t, x, h => by
    unfold mIt at h
    rw [Bool.and_eq_true] at h
    exact i_lst X' (bnot h.2) (sE e X' h.1).1
  | .tup e, C, W, sc, X, X', t, x, h => by
    unfold mIt at h
    rw [Bool.and_eq_true] at h
    exact i_tup X' (bnot h.2) (sE e X' h.1).1
  | .txt e, C, W, sc, X, X', t, x, h => by
    unfold mIt at h
    rw [Bool.and_eq_true] at h
    exact i_txt (bnot h.2) (sE e X' h.1).1
  | .rng e, C, W, sc, X, X', t, x, h => by
    unfold mIt at h
    split at h
    · simp only [Bool.and_eq_true, decide_eq_true_eq] at h
      obtain ⟨⟨⟨⟨⟨h1, h2⟩, h3⟩, h4⟩, h5⟩, h6⟩ := h
      exact i_rng X' h1 h2 h3 h5 (bnot h6) (sE e X' h4).1
    · cases h
  | .rng2 e e', C, W, sc, X, X', t, x, h => by
    unfold mIt at h
    split at h
    · simp only [Bool.and_eq_true, decide_eq_true_eq] at h
      obtain ⟨⟨⟨⟨⟨⟨⟨⟨h1, h2⟩, h3⟩, h4⟩, h5⟩, h6⟩, h7⟩, h8⟩, h9⟩ := h
      exact i_rng2 X' h1 h2 h3 h6 h7 (bnot h8) (bnot h9) (sE e X' h4).1 (sE e' X' h5).1
    · cases h
  | .enu e, C, W, sc, X, X', t, x, h => by
    unfold mIt at h
    split at h
    · split at h
      · simp only [Bool.and_eq_true, decide_eq_true_eq] at h
        obtain ⟨⟨⟨⟨⟨h1, h2⟩, h3⟩, h4⟩, h5⟩, h6⟩ := h
        exact i_enu X' h1 h2 h3 h5 (bnot h6) (sE e X' h4).1
      · cases h
    · cases h
  | .rng3 e e' e'', C, W, sc, X, X', t, x, h => by
    unfold mIt at h
    split at h
    · simp only [Bool.and_eq_true, decide_eq_true_eq] at h
      obtain ⟨⟨⟨⟨⟨⟨⟨h1, h2⟩, h3⟩, h4⟩, h5⟩, h6⟩, ⟨h7, h8⟩, h9⟩, ⟨g1, g2⟩, g3⟩ := h
      exact i_rng3 X' h1 h2 h3 h7 h8 h9 (bnot g1) (bnot g2) (bnot g3) (sE e X' h4).1 (sE e' X' h5).1 (sE e'' X' h6).1
    · cases h
end
end
end Mx


/-! Mx, part 5a: statements. -/
namespace Mx
open PySem PySem.Spec PyProof.Rows L2
/-- what a def gives -/
def RtR (C : Ct) (own : Bool) (O : List Addr) (H : Hp) (v : V) (d : IV) : Prop :=
  if own = true then ∃ p, v = .ref p ∧ p ∈ O ∧ p ∉ C.O0 ∧ C.H0 p = none ∧ Own C.K C.cl O H p d else Rep C.K C.cl O H v d
def PostS (C : Ct) (W : WX) (own : Bool) (O : List Addr) (H : Hp) (r : Out Fl) (D : Ends) : Prop := match r with
  | none => False
  | some (.ok .nx, ρ) => ∀ L' O' σ' H', Grow O H O' H' → SRel C L' O' σ' ρ H' → D.nx σ' H'
  | some (.ok .bk, ρ) => ∀ L' O' σ' H', Grow O H O' H' → SRel C L' O' σ' ρ H' → D.bk σ' H'
  | some (.ok .ct, ρ) => ∀ L' O' σ' H', Grow O H O' H' → SRel C L' O' σ' ρ H' → D.ct σ' H'
  | some (.ok (.rt d), ρ) => ∀ L' O' σ' v H', Grow O H O' H' → SRel C L' O' σ' ρ H' → RtR C own O' H' v d → D.rt v H'
  | some (.error x, ρ) => ∀ L' O' σ' c dd H', Grow O H O' H' → SRel C L' O' σ' ρ H' → XRep C.K C.cl O' H' c dd x → W c dd σ' H'
def tSt (C : Ct) (W : WX) (own : Bool) (m : R Fl) : TS := fun D σ H => ∃ L O ρ, SRel C L O σ ρ H ∧ PostS C W own O H (m ρ) D
section
variable {C : Ct} {W : WX} {own : Bool} {L O O1 : List Addr} {σ : L2.St} {H H1 : Hp} {ρ : List Sl} {D : Ends}
theorem PostS.mono {r : Out Fl} (g : Grow O H O1 H1) (h : PostS C W own O H r D) : PostS C W own O1 H1 r D := by
  match r, h with
  | some (.ok .nx, ρ), h => exact fun L' O' σ' H' g' S => h L' O' σ' H' (g.trans g') S
  | some (.ok .bk, ρ), h => exact fun L' O' σ' H' g' S => h L' O' σ' H' (g.trans g') S
  | some (.ok .ct, ρ), h => exact fun L' O' σ' H' g' S => h L' O' σ' H' (g.trans g') S
  | some (.ok (.rt d), ρ), h => exact fun L' O' σ' v H' g' S r => h L' O' σ' v H' (g.trans g') S r
  | some (.error x, ρ), h => exact fun L' O' σ' c dd H' g' S r => h L' O' σ' c dd H' (g.trans g') S r
theorem PostS.bind {α β : Type} {pr : Bool} {m : R α} {f : α → R Fl} {Rl : Hp → β → α → Prop} {Q1 : β → Hp → Prop} (h : PostS C W own O H (rBind m f ρ) D)
    (k : ∀ a ρ1 v H1, Keep O H H1 → SRel C L O σ ρ1 H1 → Rl H1 v a → PostS C W own O H1 (f a ρ1) D → Q1 v H1) : Post C L O σ W pr Rl H (m ρ) Q1 := by
  unfold rBind at h
  match hm : m ρ, h with
  | none, h => exact h
  | some (.error x, ρ1), h => exact fun c dd H' k' S xr => h L O σ c dd H' (.ofKeep k') S xr
  | some (.ok a, ρ1), h => exact fun v H1 k1 s1 S q => k a ρ1 v H1 k1 S q (PostS.mono (.ofKeep k1) h)
theorem PostS.bind2 {α β : Type} {pr : Bool} {m : R α} {f : α → R Fl} {Rl : Hp → β → α → Prop} {Q1 : β → Hp → Prop} (h : PostS C W own O H (rBind m f ρ) D)
    (k : ∀ a ρ1 v H1, Keep O H H1 → (pr = true → Same H H1) → SRel C L O σ ρ1 H1 → Rl H1 v a → PostS C W own O H1 (f a ρ1) D → Q1 v H1) : Post C L O σ W pr Rl H (m ρ) Q1 := by
  unfold rBind at h
  match hm : m ρ, h with
  | none, h => exact h
  | some (.error x, ρ1), h => exact fun c dd H' k' S xr => h L O σ c dd H' (.ofKeep k') S xr
  | some (.ok a, ρ1), h => exact fun v H1 k1 s1 S q => k a ρ1 v H1 k1 s1 S q (PostS.mono (.ofKeep k1) h)
theorem PostS.bindO {m : R IV} {f : IV → R Fl} {Q1 : VK} (h : PostS C W own O H (rBind m f ρ) D)
    (k : ∀ d ρ1 p H1, H p = none → p ∉ O → C.H0 p = none → Keep O H H1 → SRel C L O σ ρ1 H1 → SRel C L (p :: O) σ ρ1 H1 → Own C.K C.cl (p :: O) H1 p d → PostS C W own O H (f d ρ1) D → Q1 (.ref p) H1) : PostO C L O σ W H (m ρ) Q1 := by
  unfold rBind at h
  match hm : m ρ, h with
  | none, h => exact h
  | some (.error x, ρ1), h => exact fun c dd H' k' S xr => h L O σ c dd H' (.ofKeep k') S xr
  | some (.ok a, ρ1), h => exact fun p H1 hp np h0 k1 S S' w => k a ρ1 p H1 hp np h0 k1 S S' w h
theorem PostS.nx {ρ : List Sl} (h : PostS C W own O H (some (.ok .nx, ρ)) D) (S : SRel C L O σ ρ H) : D.nx σ H := h L O σ H (.refl O H) S
theorem Grow.cons {p : Addr} (k : Keep O H H1) (hp : H p = none) : Grow O H (p :: O) H1 := ⟨k, fun a h => by
  rcases List.mem_cons.mp h with z | z
  · rw [z]; exact .inr hp
  · exact .inl z⟩
end
section
variable {T : Tab} {cs : CS} {k : Nat} {C : Ct} {W : WX} {N : List Str} {sc : Scope} {X : Cx} {own : Bool} {nF : Nat}
theorem _root_.L2.PS.imp {e : Stmt} {t t' : TS} (h : PS X e t) (hi : ∀ D σ H, t' D σ H → t D σ H) : PS X e t' := ⟨fun pins s σ H D I q => h.run pins s σ H D I (hi D σ H q)⟩
theorem _root_.L2.PSs.imp {e : List Stmt} {t t' : TS} (h : PSs X e t) (hi : ∀ D σ H, t' D σ H → t D σ H) : PSs X e t' := ⟨fun pins s σ H D I q => h.run pins s σ H D I (hi D σ H q)⟩
theorem notComp_ok {v : Expr} (h : notComp v = true) (t : Option Expr) (l : Nat) (env : Env) : swapsWith v t l env = pure false := by
  cases v <;> first | rfl | cases h
theorem swap_ok {a : Expr} {g : List Comprehension} {s : Scope} {q : Pos} {y : Str} {p : Pos} {l : Nat} {env : Env} (hk : env.scope.kind = .function) : swapsWith (.ListComp a g s q) (some (.Name y p)) l env = pure (swapB env.scope y p (.ListComp a g s q)) := by
  have e : env.blockKind = .function := by unfold Env.blockKind; rw [hk]; rfl
  show (pure (env.blockKind == .function && env.kindOf y == some .local && p.line == (Expr.ListComp a g s q).pos.line && !(s.names.any fun (n, k) => n == y && (k == .local || k == .cell))) : Sem Bool) = _
  rw [e]
  show pure ((env.scope.names.lookup y == some .local) && _ && _) = _
  have e2 : (env.scope.names.lookup y == some NameKind.local) = decide (env.scope.names.lookup y = some .local) := by
    by_cases hl : env.scope.names.lookup y = some .local
    · rw [hl]; rfl
    · rw [decide_eq_false hl]
      cases hv : env.scope.names.lookup y with
      | none => rfl
      | some kk => rw [hv] at hl; cases kk <;> first | rfl | exact absurd rfl hl
  rw [e2]
  rfl
/-- where a def's statements are read -/
structure XSt (T : Tab) (cs : CS) (k : Nat) (C : Ct) (W : WX) (N : List Str) (sc : Scope) (X : Cx) : Prop where
  ok : XOk T cs k C W N sc X
  hsc : X.env.scope = sc
  kind : sc.kind = .function
  sto : Sto N sc X
theorem XSt.nd (Y : XSt T cs k C W N sc X) : X.N.Nodup := by rw [Y.ok.hN]; exact Y.ok.nd
theorem s_comp (X' : XOk T cs k C W N sc X) {tg : List Nat} {it : It} {c : OE} {e : E} {t iter elt : Expr} {ifs : List Expr} {scope : Scope} {pos spos : Pos} {i : Nat} {y : Str} {py : Pos} (hy : X.N[i]? = some y) (hyl : X.env.scope.names.lookup y = some .local)
    (hsw : swapsWith (.ListComp elt [⟨t, iter, ifs, 0⟩] scope pos) (some (.Name y py)) spos.line X.env = pure true) (hi : PI X t iter (tIt cs C W it)) (hs : noSet iter = true)
    (hb : blkC N sc scope (tg.filterMap fun i => N[i]?.map fun n => (n, i)) = true) (ht : tgB N scope tg t = true) (hc : ∀ C' X'', XOk T cs k C' W0 N scope X'' → PTs X'' ifs (tC cs C' W0 c)) (he : ∀ C' X'', XOk T cs k C' W0 N scope X'' → PE X'' elt (tE cs C' W0 e))
    (hv : e.isView = false) (hl : tg.all (fun i => decide (i < N.length)) = true) : PS X (.Assign [.Name y py] (.ListComp elt [⟨t, iter, ifs, 0⟩] scope pos) spos) (tAsg (tE cs C W (.comp tg it c e)) (gName i)) := by
  have ok := blkOk_by hb
  have ok : BlkOk X.N X.env.scope scope (tg.filterMap fun i => N[i]?.map fun n => (n, i)) := by
    rw [X'.hN]
    exact ⟨ok.kind, ok.uniq, ok.ix, fun y hy e => X'.frex _ (ok.free y hy e), ok.own⟩
  have z := ps_setLc (X := X) (elt := elt) (tg := t) (ifs := ifs) (pos := pos) (te := fun σ H Q => ∃ D o, tE cs (C.with D o) W0 e σ H Q) (tt := fun σ H Q => ∃ D o, tC cs (C.with D o) W0 c σ H Q) (g := gTg X.K tg) X'.calm (by rw [X'.hN]; exact X'.nd) hy hyl hsw hi ok (fun s H B cl fp => pg_of (X := X.blk s H scope (compEnvC scope cl B X.env) fp) (show X.N.Nodup by rw [X'.hN]; exact X'.nd) X'.calm (sto_blk X' s H scope cl B fp) ht)
    (fun s H B cl fp => ⟨fun pins s' σ H' Q I ⟨D, o, q⟩ => (hc _ _ ((X'.blk s H scope cl B fp).with D o)).run pins s' σ H' Q I q⟩)
    (fun s H B cl fp => ⟨fun pins s' σ H' Q I ⟨D, o, q⟩ => (he _ _ ((X'.blk s H scope cl B fp).with D o)).run pins s' σ H' Q I q⟩) (fun x => noSet_ok hs _ x)
  rw [own_ix hl] at z
  exact z.imp fun D σ H h => lc_read (CK := X'.CK) hv h
/-! ### name = value -/
theorem asg_read {i : Nat} {e : E} (hv : e.isView = false) {D : Ends} {σ : L2.St} {H : Hp} (h : tSt C W own (evS cs nF (.asg i e)) D σ H) : tAsg (tE cs C W e) (gName i) D σ H := by
  obtain ⟨L, O, ρ, S, q⟩ := h
  refine ⟨L, O, ρ, S, PostS.bind q fun d ρ1 v H1 k1 S1 r1 h1 => ?_⟩
  exact PostS.nx h1 (S1.setI (r1.2 hv) i)
theorem kind_eq {a : Option NameKind} {k : NameKind} (h : (a == some k) = true) : a = some k := by
  cases a with
  | none => cases h
  | some b => cases b <;> cases k <;> first | rfl | cases h
theorem s_asg (Y : XSt T cs k C W N sc X) {i : Nat} {e : E} {y : Str} {v : Expr} {p pos : Pos} (hs : storeB N sc i y = true) (hm : mE T N e sc v = true) (hv : e.isView = false) (hc : (notComp v || isComp e || isDcomp e) = true) :
    PS X (.Assign [.Name y p] v pos) (tSt C W own (evS cs nF (.asg i e))) := by
  obtain ⟨h1, h2, h3⟩ := Y.sto i y hs
  have plain : swapsWith v (some (.Name y p)) pos.line X.env = pure false → PS X (.Assign [.Name y p] v pos) (tSt C W own (evS cs nF (.asg i e))) := fun hw =>
    (ps_set Y.nd h1 h2 (sE e Y.ok hm).1 hw h3).imp fun D σ H h => asg_read hv h
  rw [Bool.or_eq_true, Bool.or_eq_true] at hc
  rcases hc with (hc | hc) | hc
  · exact plain (notComp_ok hc _ _ _)
  · match e, hc, hv, hm, plain with
    | .comp tg it c e, _, hv, hm, plain =>
      unfold mE at hm
      split at hm
      · rename_i elt t iter ifs scope q _ _
        have kd : X.env.scope.kind = .function := by rw [Y.hsc]; exact Y.kind
        have sw := swap_ok (a := elt) (g := [⟨t, iter, ifs, 0⟩]) (s := scope) (q := q) (y := y) (p := p) (l := pos.line) kd
        cases hb : swapB X.env.scope y p (.ListComp elt [⟨t, iter, ifs, 0⟩] scope q) with
        | false => rw [hb] at sw; exact plain sw
        | true =>
          rw [hb] at sw
          have loc : X.env.scope.names.lookup y = some .local := by
            have hb : (decide (X.env.scope.names.lookup y = some .local) && (p.line == (Expr.ListComp elt [⟨t, iter, ifs, 0⟩] scope q).pos.line) && !(scope.names.any fun (n, k) => n == y && (k == .local || k == .cell))) = true := hb
            rw [Bool.and_eq_true, Bool.and_eq_true, decide_eq_true_eq] at hb
            exact hb.1.1
          simp only [Bool.and_eq_true, decide_eq_true_eq] at hm
          obtain ⟨⟨⟨⟨⟨⟨⟨⟨m1, m2⟩, m3⟩, m4⟩, m5⟩, m6⟩, m7⟩, m8⟩, m9⟩ := hm
          have z := s_comp Y.ok h1 loc sw (sIt it Y.ok m1) m2 m3 m4 (fun C' X'' Y => (sO c (x := none) Y trivial).2 m5) (fun C' X'' Y => (sE e Y m6).1) (bnot m7) m8
          exact z.imp fun D σ H h => asg_read hv h
      · cases hm
  · match e, hc, hv, hm, plain with
    | .dcomp tg it c ek e, _, hv, hm, plain =>
      unfold mE at hm
      split at hm
      · rename_i kx vx t iter ifs scope q _ _
        simp only [Bool.and_eq_true, decide_eq_true_eq] at hm
        obtain ⟨⟨⟨⟨⟨⟨⟨⟨⟨⟨m1, m2⟩, m3⟩, m4⟩, m5⟩, m6⟩, m7⟩, m8, m8'⟩, m9⟩, m10⟩, m11, m12⟩ := hm
        have D : DcOk X T cs k C W N sc scope tg it c ek e t iter kx vx ifs := ⟨Y.ok, sIt it Y.ok m1, m2, m3, m4, fun C' X'' Y => (sO c (x := none) Y trivial).2 m5, fun C' X'' Y => (sE ek Y m6).1, fun C' X'' Y => (sE e Y m7).1, bnot m8, bnot m8', m11, m12, m9⟩
        have kd : X.env.scope.kind = .function := by rw [Y.hsc]; exact Y.kind
        have bk : X.env.blockKind = .function := by unfold Env.blockKind; rw [kd]; rfl
        cases hb : (X.env.blockKind == .function && X.env.kindOf y == some .local && p.line == (Expr.DictComp kx vx [⟨t, iter, ifs, 0⟩] scope q).pos.line && !(scope.names.any fun (n, k) => n == y && (k == .local || k == .cell))) with
        | false => exact plain (show (pure _ : Sem Bool) = pure false from congrArg pure hb)
        | true =>
          have loc : X.env.scope.names.lookup y = some .local := by
            rw [Bool.and_eq_true, Bool.and_eq_true, Bool.and_eq_true] at hb
            exact kind_eq hb.1.1.2
          exact (s_dcompSet D h1 loc (show (pure _ : Sem Bool) = pure true from congrArg pure hb)).imp fun D σ H h => asg_read hv h
      · cases hm
/-! ### name = a new object -/
theorem pe_own (X' : XOk T cs k C W N sc X) {e : E} {v : Expr} (h : mEO T N e sc v = true) : PE X v (tEO cs C W e) := by
  unfold mEO at h
  rw [Bool.and_eq_true] at h
  obtain ⟨h, h'⟩ := h
  match e, h, h' with
  | .lst es, h, _ =>
    unfold mE at h
    split at h
    · rw [Bool.and_eq_true] at h
      exact c_lstO h.2 (sEs es X' h.1).1
    · cases h
  | .call f as, h, h' =>
    unfold mE at h
    split at h
    · split at h
      · rename_i fn hT
        have h' : (match T.fns f with | some fn => fn.own | none => false) = true := h'
        rw [hT] at h'
        simp only [Bool.and_eq_true, decide_eq_true_eq] at h
        obtain ⟨⟨⟨⟨⟨⟨⟨⟨⟨h0, hcb⟩, h1⟩, h2⟩, h3⟩, h4⟩, h5⟩, h6⟩, h7⟩, h8⟩ := h
        refine c_callO X' hT h0 hcb h' h1 h2 h4 h5 (by rw [h7, h6]) (bnot h8) (as_star h3) (sAs as X' h3) (fun e => ?_)
        subst e
        cases as with
        | nil => rfl
        | v e r => unfold mAs at h3; cases h3
        | m i r => unfold mAs at h3; cases h3
      · cases h
    · cases h
  | .new c f as dv, h, _ =>
    unfold mE at h
    split at h
    · simp only [Bool.and_eq_true, decide_eq_true_eq] at h
      obtain ⟨⟨⟨⟨⟨⟨h1, h2⟩, h3⟩, h4⟩, h5⟩, h6⟩, h7⟩ := h
      split at h7
      · rename_i fn hT
        exact (c_new X' hT (bnot h7) h5 h1 h3 h6 (bnot h4) h2 (sAs as X' h2)).2
      · cases h7
    · cases h
theorem s_asgO (Y : XSt T cs k C W N sc X) {i : Nat} {e : E} {y : Str} {v : Expr} {p pos : Pos} (hs : storeB N sc i y = true) (hm : mEO T N e sc v = true) (hc : notComp v = true) : PS X (.Assign [.Name y p] v pos) (tSt C W own (evS cs nF (.asgO i e))) := by
  obtain ⟨h1, h2, h3⟩ := Y.sto i y hs
  refine (ps_set Y.nd h1 h2 (pe_own Y.ok hm) (notComp_ok hc _ _ _) h3).imp fun D σ H ⟨L, O, ρ, S, q⟩ => ?_
  refine ⟨L, O, ρ, S, PostS.bindO q fun d ρ1 p H1 hp np h0 k1 S1 S1' w h1 => ?_⟩
  exact h1 (p :: L) (p :: O) _ H1 (.cons k1 hp) (S1.setO S1' np h0 w i)
/-! ### a, b = value -/
theorem s_unp (Y : XSt T cs k C W N sc X) {is : List Nat} {e : E} {ts : List Expr} {j : Nat} {v : Expr} {p pos : Pos} (ht : tgB N sc is (.Tuple ts j p) = true) (hm : mE T N e sc v = true) (hv : e.isView = false) (hn : notTup v = true) : PS X (.Assign [.Tuple ts j p] v pos) (tSt C W own (evS cs nF (.unp is e))) := by
  have hs : swapsWithSole [.Tuple ts j p] v pos.line X.env = pure false := by cases v <;> rfl
  have hw : swappedStores [.Tuple ts j p] v X.env = pure none := by cases v <;> first | rfl | cases hn
  refine (ps_asg (sE e Y.ok hm).1 (pg_of Y.nd Y.ok.calm Y.sto ht) hs hw rfl).imp fun D σ H ⟨L, O, ρ, S, q⟩ => ?_
  refine ⟨L, O, ρ, S, PostS.bind q fun d ρ1 v H1 k1 S1 r1 h1 => ?_⟩
  rw [← Y.ok.CK]
  unfold rBind at h1
  match ht : rTg is d ρ1, h1 with
  | none, h1 => exact h1.elim
  | some (.error x, ρ2), h1 => cases rTg_ok ht
  | some (.ok u, ρ2), h1 => exact tg_read S1 (r1.2 hv) ht fun σ' S' _ _ => PostS.nx h1 S'
/-! ### name[i] = value -/
theorem s_setI (Y : XSt T cs k C W N sc X) {i : Nat} {kk v : E} {y : Str} {z w : Expr} {p p' pos : Pos} (hs : slotB N sc i y = true) (hk : mE T N kk sc z = true) (hm : mE T N v sc w = true) (hkv : kk.isView = false) (hvv : v.isView = false) (hz : notSlice z = true) (hc : notComp w = true) :
    PS X (.Assign [.Subscript (.Name y p) z p'] w pos) (tSt C W own (evS cs nF (.setI i kk v))) := by
  obtain ⟨h1, h2, h3, h4⟩ := Y.ok.vis hs
  have hsw : swapsWithSole [.Subscript (.Name y p) z p'] w pos.line X.env = pure false := by cases w <;> first | rfl | cases hc
  have hw : swappedStores [.Subscript (.Name y p) z p'] w X.env = pure none := by cases w <;> rfl
  have ha : ∀ u, assign (.Subscript (.Name y p) z p') X.env u = (do
      let ov ← holding [u] (eval (.Name y p) X.env)
      let iv ← holding [u, ov] (eval z X.env)
      standAt p'
      holding [u, ov, iv] (setItem ov iv u)
      release [u, ov, iv] []) := fun u => by cases z <;> first | rfl | cases hz
  refine (ps_asg (sE v Y.ok hm).1 (pg_sub (pe_var h1 h2 h3 h4) (sE kk Y.ok hk).1 set_list ha) hsw hw rfl).imp fun D σ H ⟨L, O, ρ, S, q⟩ => ?_
  refine ⟨L, O, ρ, S, PostS.bind q fun dv ρ1 vv H1 k1 S1 r1 q1 => ?_⟩
  have rv := r1.2 hvv
  have q1 : PostS C W own O H1 ((rBind (rView i) fun _ => rBind (ev cs kk).1 fun x => rPut i (setD x dv)) ρ1) D := q1
  have hex : ∃ a, σ[i]? = some (some (.ref a)) ∧ PostS C W own O H1 ((rBind (ev cs kk).1 fun x => rPut i (setD x dv)) ρ1) D := by
    have go : ∀ (r : Sl) (d : IV), ρ1[i]? = some r → r.mut = some d → ∃ a, σ[i]? = some (some (.ref a)) := fun r d hr hm => by
      obtain ⟨a, ea, _⟩ := S1.mutAt hr hm
      exact ⟨a, ea⟩
    unfold rBind rView at q1
    match hr : ρ1[i]?, q1 with
    | some (.o d), q1 => obtain ⟨a, ea⟩ := go _ d hr rfl; exact ⟨a, ea, q1⟩
    | some (.b d), q1 => obtain ⟨a, ea⟩ := go _ d hr rfl; exact ⟨a, ea, q1⟩
  obtain ⟨a, ea, q1⟩ := hex
  refine ⟨.ref a, ea, ?_⟩
  refine ⟨L, O, ρ1, S1, PostS.bind q1 fun dk ρ2 vk H2 k2 S2 r2 q2 => ?_⟩
  have rk := r2.2 hkv
  unfold rPut at q2
  match hr : ρ2[i]?, q2 with
  | some r, q2 =>
    have q2 : PostS C W own O H2 ((match r.mut with
      | some d => match setD dk dv d with
        | some d' => some (.ok Fl.nx, ρ2.set i (r.put d'))
        | none => none
      | none => none : Out Fl)) D := q2
    match hmu : r.mut, q2 with
    | some d, q2 =>
      have q2 : PostS C W own O H2 ((match setD dk dv d with
        | some d' => some (.ok Fl.nx, ρ2.set i (r.put d'))
        | none => none : Out Fl)) D := q2
      match hd : setD dk dv d, q2 with
      | some d', q2 =>
        obtain ⟨a', ea', haO, ow, _⟩ := S2.mutAt hr hmu
        rw [ea] at ea'
        cases ea'
        match d, dk, hd, ow, rk with
        | .lst xs, .int n, hd, .lst (vs := vs) hH ra, rk =>
          cases rk
          have hd : ((ixN xs.length n).map fun j => IV.lst (xs.set j dv)) = some d' := hd
          cases hj : ixN xs.length n with
          | none => rw [hj] at hd; cases hd
          | some j =>
            rw [hj] at hd
            cases hd
            refine ⟨a, vs, n, j, rfl, rfl, hH, by rw [ra.length]; exact hj, ?_⟩
            have kp : Keep O H2 (upd H2 a (.lst (vs.set j vv))) := fun b o nb e => by rw [upd_ne (fun z : b = a => nb (z ▸ haO))]; exact e
            have S3 := S2.put (H' := upd H2 a (.lst (vs.set j vv))) (d' := .lst (xs.set j dv)) hr (by rw [hmu]; rfl) ea (fun b o nb e => by rw [upd_ne nb]; exact e) (.lst upd_same ((RepAll.set (rv.keep k2) j ra).keep kp))
            exact q2 L O _ _ (.ofKeep kp) S3
/-! ### name.append(value) -/
theorem s_app (Y : XSt T cs k C W N sc X) {i : Nat} {e : E} {y m : Str} {v : Expr} {p p' q pos : Pos} (hm : m = ("append" : Str)) (hs : slotB N sc i y = true) (he : mE T N e sc v = true) (hv : e.isView = false) (hst : notStar v = true) (hl : (p'.endLine == q.line) = true) :
    PS X (.Expr (.Call (.Attribute (.Name y p) m p') [v] [] q) pos) (tSt C W own (evS cs nF (.app i e))) := by
  subst hm
  obtain ⟨h1, h2, h3, h4⟩ := Y.ok.vis hs
  have few : ((backTo q (starEach [v] X.env)).all (fun x => !x.1) && (backToKw q (keywordEach [] X.env)).all (fun x => x.1.isSome) && decide (([v] : List Expr).length + ([] : List Keyword).length + (if ([] : List Keyword).isEmpty then 0 else 1) < 30)) = true := by
    rw [star1 hst]; rfl
  refine (ps_expr (pe_bm F.plainAttrs_list F.slot_list_append F.type_list_append mt_append (pe_var h1 h2 h3 h4) (pa_cons (sE e Y.ok he).1 pa_nil (star1 hst _)) rfl few hl (star1 hst _) rfl) rfl).imp fun D σ H ⟨L, O, ρ, S, q⟩ => ?_
  have q : PostS C W own O H ((rBind (rView i) fun d => rBind (rLift (seqL d)) fun _ => rBind (ev cs e).1 fun x => rPut i (appD x)) ρ) D := q
  have hex : ∃ a xs, σ[i]? = some (some (.ref a)) ∧ Own C.K C.cl O H a (.lst xs) ∧ PostS C W own O H ((rBind (ev cs e).1 fun x => rPut i (appD x)) ρ) D := by
    have go : ∀ (r : Sl) (d : IV), ρ[i]? = some r → r.mut = some d → PostS C W own O H ((rBind (rLift (seqL d)) fun _ => rBind (ev cs e).1 fun x => rPut i (appD x)) ρ) D → ∃ a xs, σ[i]? = some (some (.ref a)) ∧ Own C.K C.cl O H a (.lst xs) ∧ PostS C W own O H ((rBind (ev cs e).1 fun x => rPut i (appD x)) ρ) D := fun r d hr hm q => by
      obtain ⟨a, ea, _, w, _⟩ := S.mutAt hr hm
      match d, w, q with
      | .lst xs, w, q => exact ⟨a, xs, ea, w, q⟩
    unfold rBind rView at q
    match hr : ρ[i]?, q with
    | some (.o d), q => exact go _ d hr rfl q
    | some (.b d), q => exact go _ d hr rfl q
  obtain ⟨a, xs, ea, w, q⟩ := hex
  have ty : tyV X.K "list" (.ref a) H := by
    cases w with
    | lst h r => exact .inl ⟨rfl, _, .inl (.inl h)⟩
  refine ⟨.ref a, ea, ty, L, O, ρ, S, PostS.bind q fun dv ρ1 vv H1 k1 S1 r1 q1 => ?_⟩
  have rv := r1.2 hv
  unfold rPut at q1
  match hr : ρ1[i]?, q1 with
  | some r, q1 =>
    have q1 : PostS C W own O H1 ((match r.mut with
      | some d => (match appD dv d with
        | some d' => some (.ok Fl.nx, ρ1.set i (r.put d'))
        | none => none)
      | none => none : Out Fl)) D := q1
    match hmu : r.mut, q1 with
    | some d, q1 =>
      have q1 : PostS C W own O H1 ((match appD dv d with
        | some d' => some (.ok Fl.nx, ρ1.set i (r.put d'))
        | none => none : Out Fl)) D := q1
      match hd : appD dv d, q1 with
      | some d', q1 =>
        obtain ⟨a', ea', haO, ow, _⟩ := S1.mutAt hr hmu
        rw [ea] at ea'
        cases ea'
        match d, hd, ow with
        | .lst ys, hd, .lst (vs := vs) hH ra =>
          have hd : (if ys.length < SZ then some (IV.lst (ys ++ [dv])) else none) = some d' := hd
          by_cases hz : ys.length < SZ
          case neg => rw [if_neg hz] at hd; cases hd
          rw [if_pos hz] at hd
          cases hd
          refine ⟨a, vs, vv, rfl, rfl, hH, by rw [ra.length, sizeLine_eq]; exact hz, ?_⟩
          have kp : Keep O H1 (upd H1 a (.lst (vs ++ [vv]))) := fun b o nb e => by rw [upd_ne (fun z : b = a => nb (z ▸ haO))]; exact e
          have S3 := S1.put (H' := upd H1 a (.lst (vs ++ [vv]))) (d' := .lst (ys ++ [dv])) hr (by rw [hmu]; rfl) ea (fun b o nb e => by rw [upd_ne nb]; exact e) (.lst upd_same ((ra.append (.cons rv .nil)).keep kp))
          exact q1 L O _ _ (.ofKeep kp) S3
/-! ### the others -/
theorem s_drop (Y : XSt T cs k C W N sc X) {e : E} {v : Expr} {pos : Pos} (hm : mE T N e sc v = true) (hc : notComp v = true) : PS X (.Expr v pos) (tSt C W own (evS cs nF (.drop e))) := by
  refine (ps_expr (sE e Y.ok hm).1 (notComp_ok hc _ _ _)).imp fun D σ H ⟨L, O, ρ, S, q⟩ => ?_
  exact ⟨L, O, ρ, S, PostS.bind q fun d ρ1 v H1 k1 S1 r1 h1 => PostS.nx h1 S1⟩
theorem s_ret (Y : XSt T cs k C W N sc X) {e : E} {v : Expr} {pos : Pos} (hm : mE T N e sc v = true) (hv : e.isView = false) : PS X (.Return (some v) pos) (tSt C W false (evS cs nF (.ret e))) := by
  refine (ps_ret (sE e Y.ok hm).1).imp fun D σ H ⟨L, O, ρ, S, q⟩ => ?_
  exact ⟨L, O, ρ, S, PostS.bind q fun d ρ1 v H1 k1 S1 r1 h1 => h1 L O σ v H1 (.refl O H1) S1 (r1.2 hv)⟩
theorem s_retOwn (Y : XSt T cs k C W N sc X) {e : E} {v : Expr} {pos : Pos} (hm : mEO T N e sc v = true) : PS X (.Return (some v) pos) (tSt C W true (evS cs nF (.ret e))) := by
  refine (ps_ret (pe_own Y.ok hm)).imp fun D σ H ⟨L, O, ρ, S, q⟩ => ?_
  refine ⟨L, O, ρ, S, PostS.bindO q fun d ρ1 p H1 hp np h0 k1 S1 S1' w h1 => ?_⟩
  exact h1 L (p :: O) σ _ H1 (.cons k1 hp) S1' ⟨p, rfl, List.mem_cons_self, fun z => np (S1.sub p z), h0, w⟩
theorem s_retO (Y : XSt T cs k C W N sc X) {i : Nat} {y : Str} {p pos : Pos} (hs : slotB N sc i y = true) : PS X (.Return (some (.Name y p)) pos) (tSt C W true (evS cs nF (.retO i))) := by
  obtain ⟨h1, h2, h3, h4⟩ := Y.ok.vis hs
  refine (ps_ret (pe_var h1 h2 h3 h4)).imp fun D σ H ⟨L, O, ρ, S, q⟩ => ?_
  have q : PostS C W true O H ((match ρ[i]? with
    | some (.o d) => some (.ok (.rt d), ρ)
    | _ => none : Out Fl)) D := q
  match hr : ρ[i]?, q with
  | some (.o d), q =>
    have hi : i < σ.length := by rw [S.len]; exact (List.getElem?_eq_some_iff.mp hr).1
    have hs : σ[i]? = some σ[i] := List.getElem?_eq_getElem hi
    obtain ⟨a, ea, n1, n2, n3, w⟩ := S.slot i _ _ hs hr
    exact ⟨.ref a, by rw [hs, ea], q L O σ _ H (.refl O H) S ⟨a, rfl, S.lsub a n1, n2, n3, w⟩⟩
theorem s_retN {pos : Pos} : PS X (.Return none pos) (tSt C W false (evS cs nF .retN)) :=
  ps_retN.imp fun D σ H ⟨L, O, ρ, S, q⟩ => q L O σ .non H (.refl O H) S .non
theorem s_if {c : E} {a b : Ss} {y : Expr} {z w : List Stmt} {pos : Pos} (hc : PT X y (tT cs C W c)) (ha : PSs X z (tSt C W own (evSs cs nF a))) (hb : PSs X w (tSt C W own (evSs cs nF b))) : PS X (.If y z w pos) (tSt C W own (evS cs nF (.ite c a b))) := by
  refine (ps_if hc ha hb).imp fun D σ H ⟨L, O, ρ, S, q⟩ => ?_
  refine ⟨L, O, ρ, S, PostS.bind q fun t ρ1 b H1 k1 S1 r1 h1 => ?_⟩
  cases r1
  cases t with
  | true => rw [if_pos rfl] at h1 ⊢; exact ⟨L, O, ρ1, S1, h1⟩
  | false => rw [if_neg Bool.false_ne_true] at h1 ⊢; exact ⟨L, O, ρ1, S1, h1⟩
/-- the flow of a loop's body -/
theorem body_read {m : R Fl} {g : R Fl} {ρ : List Sl} {O : List Addr} {H : Hp} {D : Ends} {Nx : L2.St → Hp → Prop} (h : PostS C W own O H (rBind m (fun f => match f with | .nx => g | .ct => g | .bk => rPure .nx | .rt d => rPure (.rt d)) ρ) D)
    (k : ∀ ρ1 L' O' σ' H', Grow O H O' H' → SRel C L' O' σ' ρ1 H' → PostS C W own O' H' (g ρ1) D → Nx σ' H') : PostS C W own O H (m ρ) { D with nx := Nx, ct := Nx, bk := D.nx } := by
  unfold rBind at h
  match hm : m ρ, h with
  | none, h => exact h
  | some (.error x, ρ1), h => exact h
  | some (.ok .nx, ρ1), h => exact fun L' O' σ' H' g' S => k ρ1 L' O' σ' H' g' S (PostS.mono g' h)
  | some (.ok .ct, ρ1), h => exact fun L' O' σ' H' g' S => k ρ1 L' O' σ' H' g' S (PostS.mono g' h)
  | some (.ok .bk, ρ1), h => exact h
  | some (.ok (.rt d), ρ1), h => exact h
theorem s_whl (Y : XSt T cs k C W N sc X) {c : E} {b : Ss} {y : Expr} {z : List Stmt} {pos : Pos} (hc : PT X y (tT cs C W c)) (hb : PSs X z (tSt C W own (evSs cs nF b))) : PS X (.While y z [] pos) (tSt C W own (evS cs nF (.whl c b))) := by
  refine (ps_while Y.ok.po hc hb).imp fun D σ H ⟨L, O, ρ, S, q⟩ => ?_
  refine ⟨fun m σ H => ∃ L O ρ, SRel C L O σ ρ H ∧ PostS C W own O H (rWhile (ev cs c).2 (evSs cs nF b) m ρ) D, ⟨nF, L, O, ρ, S, q⟩, ?_⟩
  rintro m σ H ⟨L, O, ρ, S, q⟩
  cases m with
  | zero => exact q.elim
  | succ n =>
    refine ⟨L, O, ρ, S, PostS.bind q fun t ρ1 b' H1 k1 S1 r1 h1 => ?_⟩
    cases r1
    cases t with
    | false => rw [if_neg Bool.false_ne_true] at h1 ⊢; exact PostS.nx h1 S1
    | true =>
      rw [if_pos rfl] at h1 ⊢
      refine ⟨fun σ H => ∃ L O ρ, SRel C L O σ ρ H ∧ PostS C W own O H (rWhile (ev cs c).2 (evSs cs nF b) n ρ) D, fun σ' H' z => ⟨n, Nat.lt_succ_self n, z⟩, ?_⟩
      exact ⟨L, O, ρ1, S1, body_read h1 fun ρ2 L' O' σ' H' g' S' q' => ⟨L', O', ρ2, S', q'⟩⟩
theorem s_for (Y : XSt T cs k C W N sc X) {tg : List Nat} {it : It} {b : Ss} {t iter : Expr} {z : List Stmt} {pos : Pos} (ht : tgB N sc tg t = true) (hi : PI X t iter (tIt cs C W it)) (hs : noSet iter = true) (hb : PSs X z (tSt C W own (evSs cs nF b))) :
    PS X (.For t iter z [] pos) (tSt C W own (evS cs nF (.loop tg it b))) := by
  refine (ps_for Y.ok.po Y.ok.calm hi (pg_of Y.nd Y.ok.calm Y.sto ht) hb (fun x => noSet_ok hs _ x)).imp fun D σ H ⟨L, O, ρ, S, q⟩ => ?_
  refine ⟨L, O, ρ, S, PostS.bind q fun ds ρ1 J H1 k1 S1 w h1 => ?_⟩
  obtain ⟨G, Yy, wk, hG, hY⟩ := w
  refine for_it wk (fun i σ H => ∃ L' O' ρ', Grow O H1 O' H ∧ SRel C L' O' σ ρ' H ∧ PostS C W own O' H (rFor tg (evSs cs nF b) (ds.drop i) ρ') D) ⟨L, O, ρ1, .refl O H1, S1, h1⟩ ?_ ?_ ?_
  · rintro i σ2 H2 _ ⟨L', O', ρ', g, _⟩
    exact hG O' H2 g
  · rintro i x σ2 H2 H3 hi ⟨L', O', ρ', g, S2, q2⟩ y
    have hdi : ds[i]? = some ds[i] := List.getElem?_eq_getElem hi
    obtain ⟨sm, rx⟩ := hY i O' H2 x H3 ds[i] g S2.live hdi y
    rw [List.drop_eq_getElem_cons hi] at q2
    have q2 := PostS.mono (.ofKeep (.same sm)) q2
    have q2 : PostS C W own O' H3 ((rBind (rTg tg ds[i]) fun _ => rBind (evSs cs nF b) fun f => match f with | .nx => rFor tg (evSs cs nF b) (ds.drop (i + 1)) | .ct => rFor tg (evSs cs nF b) (ds.drop (i + 1)) | .bk => rPure .nx | .rt d => rPure (.rt d)) ρ') D := q2
    rw [← Y.ok.CK]
    unfold rBind at q2
    match hr : rTg tg ds[i] ρ', q2 with
    | none, q2 => exact q2.elim
    | some (.error e, ρ2), q2 => cases rTg_ok hr
    | some (.ok u, ρ2), q2 =>
      refine tg_read (S2.same sm) rx hr fun σ' S' _ _ => ⟨L', O', ρ2, S', ?_⟩
      exact body_read q2 fun ρ3 L3 O3 σ3 H4 g3 S3 q3 => ⟨L3, O3, ρ3, (g.trans (.ofKeep (.same sm))).trans g3, S3, q3⟩
  · rintro σ2 H2 ⟨L', O', ρ', g, S2, q2⟩
    rw [List.drop_length] at q2
    exact PostS.nx q2 S2
theorem s_nil : PSs X [] (tSt C W own (evSs cs nF .nil)) := pss_nil.imp fun D σ H ⟨L, O, ρ, S, q⟩ => PostS.nx q S
theorem s_cons {s : S} {r : Ss} {y : Stmt} {ys : List Stmt} (hs : PS X y (tSt C W own (evS cs nF s))) (hr : PSs X ys (tSt C W own (evSs cs nF r))) : PSs X (y :: ys) (tSt C W own (evSs cs nF (.cons s r))) := by
  refine (pss_cons hs hr).imp fun D σ H ⟨L, O, ρ, S, q⟩ => ?_
  refine ⟨L, O, ρ, S, ?_⟩
  have q : PostS C W own O H ((rBind (evS cs nF s) fun f => match f with | .nx => evSs cs nF r | f => rPure f) ρ) D := q
  unfold rBind at q
  match hm : evS cs nF s ρ, q with
  | none, q => exact q
  | some (.error x, ρ1), q => exact q
  | some (.ok .nx, ρ1), q => exact fun L' O' σ' H' g' S => ⟨L', O', ρ1, S, PostS.mono g' q⟩
  | some (.ok .ct, ρ1), q => exact q
  | some (.ok .bk, ρ1), q => exact q
  | some (.ok (.rt d), ρ1), q => exact q
/-! ### fields of self -/
theorem put_ok {i : Nat} {g : IV → Option IV} {L O : List Addr} {σ : L2.St} {H : Hp} {ρ : List Sl} {D : Ends} (q : PostS C W own O H (rPut i g ρ) D) : ∃ r d d', ρ[i]? = some r ∧ r.mut = some d ∧ g d = some d' ∧ PostS C W own O H (some (.ok .nx, ρ.set i (r.put d'))) D := by
  unfold rPut at q
  cases hr : ρ[i]? with
  | none => rw [hr] at q; exact q.elim
  | some r =>
    rw [hr] at q
    dsimp only at q
    cases hm : r.mut with
    | none => rw [hm] at q; exact q.elim
    | some d =>
      rw [hm] at q
      dsimp only at q
      cases hg : g d with
      | none => rw [hg] at q; exact q.elim
      | some d' => rw [hg] at q; exact ⟨r, d, d', rfl, hm, hg, q⟩
theorem view_ok {i : Nat} {f : IV → R Fl} {O : List Addr} {H : Hp} {ρ : List Sl} {D : Ends} (q : PostS C W own O H (rBind (rView i) f ρ) D) : ∃ r d, ρ[i]? = some r ∧ r.mut = some d ∧ PostS C W own O H (f d ρ) D := by
  unfold rBind rView at q
  match hr : ρ[i]?, q with
  | some (.o d), q => exact ⟨_, d, rfl, rfl, q⟩
  | some (.b d), q => exact ⟨_, d, rfl, rfl, q⟩
theorem putF_keys {f : Str} {v : V} {d : IV} : ∀ {fs : List (Str × V)} {ds : List (Str × IV)}, fs.map (·.1) = ds.map (·.1) → (putF f v fs).map (·.1) = (putFD f d ds).map (·.1)
  | [], [], _ => rfl
  | (x, u) :: fs, (y, e) :: ds, hk => by
    simp only [List.map_cons, List.cons.injEq] at hk
    obtain ⟨rfl, hk⟩ := hk
    unfold putF putFD
    by_cases h : x = f
    · rw [if_pos h, if_pos h]; simp only [List.map_cons, hk]
    · rw [if_neg h, if_neg h]; simp only [List.map_cons, putF_keys (f := f) (v := v) (d := d) hk]
  | [], _ :: _, hk => nomatch hk
  | _ :: _, [], hk => nomatch hk
theorem putF_rep {K : PySem.W.Frag} {cl : Nat → Option Addr} {O : List Addr} {H : Hp} {f : Str} {v : V} {d : IV} (r : Rep K cl O H v d) : ∀ {fs : List (Str × V)} {ds : List (Str × IV)}, fs.map (·.1) = ds.map (·.1) → RepAll K cl O H (fs.map (·.2)) (ds.map (·.2)) → RepAll K cl O H ((putF f v fs).map (·.2)) ((putFD f d ds).map (·.2))
  | [], [], _, _ => .cons r .nil
  | (x, u) :: fs, (y, e) :: ds, hk, hr => by
    simp only [List.map_cons, List.cons.injEq] at hk
    obtain ⟨rfl, hk⟩ := hk
    cases hr with
    | cons r1 r2 =>
      unfold putF putFD
      by_cases h : x = f
      · rw [if_pos h, if_pos h]; exact .cons r r2
      · rw [if_neg h, if_neg h]; exact .cons r1 (putF_rep r hk r2)
  | [], _ :: _, hk, _ => nomatch hk
  | _ :: _, [], hk, _ => nomatch hk
/-- the store behind self.f = v -/
theorem setF_put {K : PySem.W.Frag} {L O : List Addr} {σ : L2.St} {H : Hp} {ρ : List Sl} {i : Nat} {r : Sl} {a A dx : Addr} {c : Nat} {f : Str} {fs : List (Str × V)} {ds : List (Str × IV)} {v : V} {d : IV} (S : SRel C L O σ ρ H) (hr : ρ[i]? = some r) (hm : r.mut.isSome = true) (ea : σ[i]? = some (some (.ref a))) (haO : a ∈ O)
    (e2 : C.cl c = some A) (e5 : fs.map (·.1) = ds.map (·.1)) (e6 : RepAll C.K C.cl O H (fs.map (·.2)) (ds.map (·.2))) (rv : Rep C.K C.cl O H v d) :
    SRel C L O σ (ρ.set i (r.put (.ins c (putFD f d ds)))) (upd H a (.ins A dx (putF f v fs))) ∧ Keep O H (upd H a (.ins A dx (putF f v fs))) := by
  have kp : Keep O H (upd H a (.ins A dx (putF f v fs))) := fun b o nb e => by rw [upd_ne (fun z : b = a => nb (z ▸ haO))]; exact e
  exact ⟨S.put (H' := upd H a (.ins A dx (putF f v fs))) hr hm ea (fun b o nb e => by rw [upd_ne nb]; exact e) (.ins upd_same e2 (putF_keys e5) ((putF_rep rv e5 e6).keep kp)), kp⟩
theorem s_setF (Y : XSt T cs k C W N sc X) {i : Nat} {f : Str} {cs' : List Nat} {e : E} {y : Str} {v : Expr} {p p' pos : Pos} (hs : slotB N sc i y = true) (he : mE T N e sc v = true) (hv : e.isView = false) (hf : ∀ c ∈ cs', (c, f) ∈ T.flds) (hc : notComp v = true) :
    PS X (.Assign [.Attribute (.Name y p) f p'] v pos) (tSt C W own (evS cs nF (.setF i f cs' e))) := by
  obtain ⟨h1, h2, h3, h4⟩ := Y.ok.vis hs
  refine (ps_fld (f := f) (pe_var h1 h2 h3 h4) (sE e Y.ok he).1 (notComp_ok hc _ _ _)).imp fun D σ H ⟨L, O, ρ, S, q⟩ => ?_
  refine ⟨L, O, ρ, S, PostS.bind q fun dv ρ1 vv H1 k1 S1 r1 q1 => ?_⟩
  have rv := r1.2 hv
  obtain ⟨_, _, _, _, q1⟩ := view_ok q1
  obtain ⟨r, d, d', hr, hm, hg, q2⟩ := put_ok (L := L) (σ := σ) q1
  obtain ⟨a, ea, haO, ow, _⟩ := S1.mutAt hr hm
  cases ow with
  | lst _ _ => cases hg
  | dct _ _ _ => cases hg
  | @ins A dx c fs ds e1 e2 e5 e6 =>
    have hg : (if c ∈ cs' ∧ ds.length < 1000 then some (IV.ins c (putFD f dv ds)) else none) = some d' := hg
    split at hg
    · rename_i hz
      cases hg
      obtain ⟨A', g1, g2, g3⟩ := Y.ok.facts.flds _ (hf c hz.1)
      rw [e2] at g1
      cases g1
      obtain ⟨S3, kp⟩ := setF_put (K := X.K) (f := f) (dx := dx) S1 hr (by rw [hm]; rfl) ea haO e2 e5 e6 rv
      have ln : fs.length = ds.length := by simpa using congrArg List.length e5
      exact ⟨.ref a, ea, a, A, dx, fs, rfl, e1, g2, g3, by rw [ln]; exact hz.2, q2 L O _ _ (.ofKeep kp) S3⟩
    · cases hg
theorem s_augF (Y : XSt T cs k C W N sc X) {i : Nat} {f : Str} {cs' : List Nat} {o : BOp} {op : Operator} {e : E} {y : Str} {v : Expr} {p p' pos : Pos} (hs : slotB N sc i y = true) (hop : op = opOf o) (ho : o = .add ∨ o = .sub) (he : mE T N e sc v = true) (hv : e.isView = false) (hp : e.pure = true) (hf : ∀ c ∈ cs', (c, f) ∈ T.flds) :
    PS X (.AugAssign (.Attribute (.Name y p) f p') op v pos) (tSt C W own (evS cs nF (.augF i f cs' o e))) := by
  obtain ⟨h1, h2, h3, h4⟩ := Y.ok.vis hs
  have go : ∀ {rd : V → V → Hp → VK → Prop}, InOp X op rd → (∀ (x y d : IV) (u w : V) (H : Hp) (O : List Addr) (Q : VK), augD o x y = some d → Rep C.K C.cl O H u x → Rep C.K C.cl O H w y → (∀ z, Rep C.K C.cl O H z d → Q z H) → rd u w H Q) →
      PS X (.AugAssign (.Attribute (.Name y p) f p') op v pos) (tSt C W own (evS cs nF (.augF i f cs' o e))) := fun {rd} hin hrd => by
    refine (ps_fldaug (f := f) (pe_var h1 h2 h3 h4) (sE e Y.ok he).1 hin).imp fun D σ H ⟨L, O, ρ, S, q⟩ => ?_
    obtain ⟨r, d, hr, hm, q⟩ := view_ok q
    obtain ⟨a, ea, haO, ow, _⟩ := S.mutAt hr hm
    cases hg : fldD f [] cs' d with
    | none => unfold rBind rLift at q; rw [hg] at q; exact q.elim
    | some x =>
      have qe : PostS C W own O H ((rBind (ev cs e).1 fun y => rBind (rLift (augD o x y)) fun d => rPut i (setFD f cs' d)) ρ) D := by
        unfold rBind rLift at q
        rw [hg] at q
        exact q
      cases ow with
      | lst _ _ => cases hg
      | dct _ _ _ => cases hg
      | @ins A dx c fs ds e1 e2 e5 e6 =>
        have hg : (if c ∈ cs' then ds.lookup f else none) = some x := hg
        split at hg
        · rename_i hc
          obtain ⟨A', g1, g2, g3⟩ := Y.ok.facts.flds _ (hf c hc)
          rw [e2] at g1
          cases g1
          obtain ⟨u, hu, ru⟩ := lookup_rep e5 e6 hg
          refine ⟨.ref a, ea, a, A, dx, fs, u, rfl, e1, g2, g3, hu, L, O, ρ, S, PostS.bind2 qe fun dy ρ1 vy H1 k1 s1 S1 r1 q1 => ?_⟩
          have ry := r1.2 hv
          have e1n := s1 hp _ _ e1
          cases hd : augD o x dy with
          | none => unfold rBind rLift at q1; rw [hd] at q1; exact q1.elim
          | some dz =>
            have q1e : PostS C W own O H1 (rPut i (setFD f cs' dz) ρ1) D := by
              unfold rBind rLift at q1
              rw [hd] at q1
              exact q1
            refine hrd x dy dz u vy H1 O _ hd (ru.keep k1) ry fun z rz => ?_
            obtain ⟨r', d1, d', hr', hm', hg', q2⟩ := put_ok (L := L) (σ := σ) q1e
            obtain ⟨a', ea', _, ow', _⟩ := S1.mutAt hr' hm'
            rw [ea] at ea'
            cases ea'
            cases ow' with
            | lst _ _ => cases hg'
            | dct _ _ _ => cases hg'
            | @ins A' dx' c' fs' ds' e1' e2' e5' e6' =>
              have hg' : (if c' ∈ cs' ∧ ds'.length < 1000 then some (IV.ins c' (putFD f dz ds')) else none) = some d' := hg'
              split at hg'
              · rename_i hz'
                cases hg'
                rw [e1n] at e1'
                cases e1'
                obtain ⟨S3, kp⟩ := setF_put (K := X.K) (f := f) (dx := dx) S1 hr' (by rw [hm']; rfl) ea haO e2' e5' e6' rz
                have ln : fs.length = ds'.length := by simpa using congrArg List.length e5'
                exact ⟨dx, fs, e1n, by rw [ln]; exact hz'.2, q2 L O _ _ (.ofKeep kp) S3⟩
              · cases hg'
        · cases hg
  subst hop
  rcases ho with rfl | rfl
  · refine go in_add fun x y d u w H O Q hd ru rw' h => ?_
    match x, y, hd, ru, rw' with
    | .int i, .int j, hd, .int _, .int _ => cases hd; exact ⟨i, j, rfl, rfl, h _ (.int _)⟩
  · refine go in_sub fun x y d u w H O Q hd ru rw' h => ?_
    match x, y, hd, ru, rw' with
    | .int i, .int j, hd, .int _, .int _ => cases hd; exact ⟨i, j, rfl, rfl, h _ (.int _)⟩
/-! ### raise C(..) -/
theorem s_raise (Y : XSt T cs k C W N sc X) {c : Nat} {xc : Xc} {es : Es} {y : Str} {xs : List Expr} {p q pos : Pos} (hT : T.xcls c = some xc) (h0 : T.xcls 0 ≠ none) (hy : y = xc.name) (hg : gloB sc y = true) (hma : mEs T N es sc xs = true) (nv : es.noView = true) (hd : (y == ("__debug__" : Str)) = false) :
    PS X (.Raise (some (.Call (.Name y p) xs [] q)) none pos) (tSt C W own (evS cs nF (.raise c xc.ps es))) := by
  have F := Y.ok.facts.xcls c xc hT
  obtain ⟨A, B, nI, i, bmB, g1, g2, g3, g4, g5, g6, g7⟩ := id F
  have g := Y.ok.gl hg
  have sup := xcls_sup Y.ok h0
  subst hy
  have mk : PMk X (.Call (.Name xc.name p) xs [] q) (fun σ H Q => tEs cs C W es σ H fun vs H1 => spR X.K C.cl c A xc.ps vs H1 Q) := by
    intro pins s σ H Q I z
    refine wpAny_Call_Name_kw (ld_glob I g g2 ?_ hd)
    cases xs with
    | nil =>
      have e : es = .nil := by
        cases es with
        | nil => rfl
        | cons e r => unfold mEs at hma; cases hma
      subst e
      exact PySem.W.callWith_K0 I.kIn g3.kC (raise_run F g2 sup I (room1 Y.ok) .nil (tEs_nil z))
    | cons x xs =>
      have hs := all_star hma
      rw [List.all_cons, Bool.and_eq_true] at hs
      exact PySem.W.callWith_K (h₀ := X.base) I.ok.mod.kin g3.kC (thn ((sEs es Y.ok hma).1.run q pins s σ H _ I z) fun us s1 ⟨vs, H1, I1, r, z1⟩ => ⟨I1.kIn, raise_run F g2 sup I1 (room1 Y.ok) r z1⟩) (star_one hs.1 xs X.env) (star_none X.env q hs.2)
  refine (ps_raise Y.ok.calm Y.ok.tk mk).imp fun D σ H ⟨L, O, ρ, S, z⟩ => ?_
  refine ⟨L, O, ρ, S, PostS.bind z fun ds ρ1 vs H1 k1 S1 r1 z1 => ?_⟩
  have ra := r1.2 nv
  rw [← Y.ok.CK]
  by_cases hz : ds.length = xc.ps.length
  · have z2 : PostS C W own O H1 (some (.error ⟨c, xc.ps.zip ds⟩, ρ1)) D := by
      unfold rBind rLift at z1
      rw [if_pos hz] at z1
      exact z1
    refine ⟨O, ds, S1.live, ra, by rw [ra.length, hz], fun dd H' sm xr => ?_⟩
    exact z2 L O σ _ dd H' (.ofKeep (.same sm)) (S1.same sm) xr
  · unfold rBind rLift at z1
    rw [if_neg hz] at z1
    exact z1.elim
/-! ### name += value -/
theorem s_aug (Y : XSt T cs k C W N sc X) {i : Nat} {o : BOp} {op : Operator} {e : E} {y : Str} {v : Expr} {p pos : Pos} (hs : storeB N sc i y = true) (hop : op = opOf o) (ho : o = .add ∨ o = .sub) (he : mE T N e sc v = true) (hv : e.isView = false) : PS X (.AugAssign (.Name y p) op v pos) (tSt C W own (evS cs nF (.aug i o e))) := by
  obtain ⟨h1, h2, h3⟩ := Y.sto i y hs
  have go : ∀ {g : Int → Int → Int}, PIp X op (ipI g) → (∀ a b d, augD o a b = some d → ∃ m n, a = .int m ∧ b = .int n ∧ d = .int (g m n)) → PS X (.AugAssign (.Name y p) op v pos) (tSt C W own (evS cs nF (.aug i o e))) := fun {g} hp hg => by
    refine (ps_aug Y.nd h1 h2 (sE e Y.ok he).1 hp h3).imp fun D σ H ⟨L, O, ρ, S, q⟩ => ?_
    have q : PostS C W own O H ((rBind (rVar i) fun x => rBind (ev cs e).1 fun y => rBind (rLift (augD o x y)) fun d => rSet i (.i d)) ρ) D := q
    have hex : ∃ d, ρ[i]? = some (.i d) ∧ PostS C W own O H ((rBind (ev cs e).1 fun y => rBind (rLift (augD o d y)) fun d => rSet i (.i d)) ρ) D := by
      unfold rBind rVar at q
      match hr : ρ[i]?, q with
      | some (.i d), q => exact ⟨d, rfl, q⟩
    obtain ⟨d, hr, q⟩ := hex
    have hi : i < σ.length := by rw [S.len]; exact (List.getElem?_eq_some_iff.mp hr).1
    obtain ⟨x, ex, rx⟩ := S.slot i _ _ (List.getElem?_eq_getElem hi) hr
    refine ⟨x, by rw [List.getElem?_eq_getElem hi, ex], L, O, ρ, S, PostS.bind q fun dy ρ1 vy H1 k1 S1 r1 q1 => ?_⟩
    cases hd : augD o d dy with
    | none => unfold rBind rLift at q1; rw [hd] at q1; exact q1.elim
    | some dz =>
      have q1 : PostS C W own O H1 (rSet i (.i dz) ρ1) D := by
        unfold rBind rLift at q1
        rw [hd] at q1
        exact q1
      obtain ⟨m, n, rfl, rfl, rfl⟩ := hg _ _ _ hd
      have ry := r1.2 hv
      cases rx
      cases ry
      exact ⟨m, n, rfl, rfl, PostS.nx q1 (S1.setI (.int _) i)⟩
  subst hop
  rcases ho with rfl | rfl
  · refine go ip_add fun a b d h => ?_
    match a, b, h with
    | .int m, .int n, h => cases h; exact ⟨m, n, rfl, rfl, rfl⟩
  · refine go ip_sub fun a b d h => ?_
    match a, b, h with
    | .int m, .int n, h => cases h; exact ⟨m, n, rfl, rfl, rfl⟩
/-! ### a, b = (e, f) -/
theorem swapped_ok {y z : Str} {p q pt pt2 : Pos} {kt k2} {v w : Expr} {env : Env} (hk : env.scope.kind = .function) (h1 : (q.line == p.line) = true) (h2 : y ≠ z) (h3 : [v, w].all (foldedForSure 8) = false) (h4 : [v, w].all (constantsAlone 8) = false) (hy : env.scope.names.lookup y = some .local) (hz : env.scope.names.lookup z = some .local) (sv : notStar v = true) (sw : notStar w = true) :
    swappedStores [.Tuple [.Name y p, .Name z q] kt pt] (.Tuple [v, w] k2 pt2) env = pure (some [y, z]) := by
  have bk : env.blockKind = .function := by unfold Env.blockKind; rw [hk]; rfl
  have ky : env.kindOf y = some .local := hy
  have kz : env.kindOf z = some .local := hz
  have ne : (z == y) = false := beq_eq_false_iff_ne.mpr (Ne.symm h2)
  have pl : (p.line == p.line) = true := beq_self_eq_true _
  have ll : (some NameKind.local == some NameKind.local) = true := rfl
  have e1 : ([y, z] : List Str).eraseDups.length = 2 := by simp [List.eraseDups_cons, ne]
  unfold swappedStores
  simp only [bk, h3, h4, ky, kz, h1, pl, ll, List.filterMap_cons, List.filterMap_nil, List.head?_cons, Option.map_some, Option.getD_some, Expr.pos, List.length_cons, List.length_nil, Bool.and_self, if_true]
  refine (if_neg (by decide)).trans ((if_neg fun zz => ?_).trans ((if_neg ?_).trans rfl))
  · cases v <;> first | (exact nomatch (show false = true from sv)) | (cases w <;> first | (exact nomatch (show false = true from sw)) | (exact nomatch (show false = true from zz)))
  · rw [e1]
    decide
theorem s_par (Y : XSt T cs k C W N sc X) {i j : Nat} {oi oj : Bool} {a b : E} {y z : Str} {v w : Expr} {p q pt pt2 pos : Pos} {kt k2} (hln : (q.line == p.line) = true) (hyz : y ≠ z) (hf : [v, w].all (foldedForSure 8) = false) (hc : [v, w].all (constantsAlone 8) = false) (hoo : (oi && oj) = false) (hs : storeB N sc i y = true) (hs2 : storeB N sc j z = true) (hij : i ≠ j)
    (hy : sc.names.lookup y = some .local) (hz : sc.names.lookup z = some .local) (ha : (if oi = true then mEO T N a sc v && b.pure else mE T N a sc v && !a.isView) = true) (hb : (if oj = true then mEO T N b sc w else mE T N b sc w && !b.isView) = true) (sv : notStar v = true) (sw : notStar w = true) :
    PS X (.Assign [.Tuple [.Name y p, .Name z q] kt pt] (.Tuple [v, w] k2 pt2) pos) (tSt C W own (evS cs nF (.par i j oi oj a b))) := by
  obtain ⟨h1, _, _⟩ := Y.sto i y hs
  obtain ⟨g1, _, _⟩ := Y.sto j z hs2
  rw [← Y.hsc] at hy hz
  have kd : X.env.scope.kind = .function := by rw [Y.hsc]; exact Y.kind
  have hw := swapped_ok (pt := pt) (pt2 := pt2) (kt := kt) (k2 := k2) kd hln hyz hf hc hy hz sv sw
  have two : ∀ {ta tb : TE} (pa : PE X v ta) (pb : PE X w tb), _ := fun {ta tb} pa pb => ps_par (pos := pos) Y.ok.calm Y.nd h1 g1 hij hy hz (pa_cons pa (pa_cons pb pa_nil (star1 sw _)) (star_one sv _ _)) hw
  cases oi with
  | false =>
    rw [if_neg Bool.false_ne_true, Bool.and_eq_true] at ha
    have pa := (sE a Y.ok ha.1).1
    have va := bnot ha.2
    cases oj with
    | false =>
      rw [if_neg Bool.false_ne_true, Bool.and_eq_true] at hb
      refine (two pa (sE b Y.ok hb.1).1).imp fun D σ H ⟨L, O, ρ, S, qq⟩ => ?_
      refine ⟨L, O, ρ, S, PostS.bind qq fun dx ρ1 x H1 k1 S1 r1 q1 => ⟨L, O, ρ1, S1, PostS.bind q1 fun dy ρ2 u H2 k2 S2 r2 q2 => ?_⟩⟩
      exact ⟨x, u, rfl, PostS.nx q2 ((S2.setI ((r1.2 va).keep k2) i).setI (r2.2 (bnot hb.2)) j)⟩
    | true =>
      rw [if_pos rfl] at hb
      refine (two pa (pe_own Y.ok hb)).imp fun D σ H ⟨L, O, ρ, S, qq⟩ => ?_
      refine ⟨L, O, ρ, S, PostS.bind qq fun dx ρ1 x H1 k1 S1 r1 q1 => ⟨L, O, ρ1, S1, PostS.bindO q1 fun dy ρ2 pp H2 hp np h0 k2 S2 S2' ww q2 => ?_⟩⟩
      have rx := r1.2 va
      have kw : Keep (pp :: O) H1 H2 := fun c o n e => k2 c o (fun z => n (List.mem_cons_of_mem _ z)) e
      exact ⟨x, .ref pp, rfl, q2 (pp :: L) (pp :: O) _ H2 (.cons k2 hp) ((S2.setI (rx.keep k2) i).setO (S2'.setI ((rx.more hp).keep kw) i) np h0 ww j)⟩
  | true =>
    rw [if_pos rfl, Bool.and_eq_true] at ha
    cases oj with
    | true => cases hoo
    | false =>
      rw [if_neg Bool.false_ne_true, Bool.and_eq_true] at hb
      refine (two (pe_own Y.ok ha.1) (sE b Y.ok hb.1).1).imp fun D σ H ⟨L, O, ρ, S, qq⟩ => ?_
      refine ⟨L, O, ρ, S, PostS.bindO qq fun dx ρ1 pp H1 hp np h0 k1 S1 S1' ww q1 => ?_⟩
      have q1 := PostS.mono (.cons k1 hp) q1
      refine ⟨L, pp :: O, ρ1, S1', PostS.bind2 q1 fun dy ρ2 u H2 k2 s2 S2 r2 q2 => ?_⟩
      have sm := s2 ha.2
      have S3 := S2.dropO S1.lsub S1.sub
      have w2 := ww.keep (.same sm) fun o => sm pp o
      exact ⟨.ref pp, u, rfl, q2 (pp :: L) (pp :: O) _ H2 (.refl _ _) ((S3.setO S2 np h0 w2 i).setI (r2.2 (bnot hb.2)) j)⟩
mutual
theorem sS (Y : XSt T cs k C W N sc X) : ∀ (s : S) {x : Stmt}, mS T N own s sc x = true → PS X x (tSt C W own (evS cs nF s))
  | .asg i e, x, h => by
    unfold mS at h
    split at h
    · simp only [Bool.and_eq_true] at h
      exact s_asg Y h.1.1.1 h.1.1.2 (bnot h.1.2) h.2
    · cases h
  | .setF i f cs' e, x, h => by
    unfold mS at h
    split at h
    · simp only [Bool.and_eq_true, decide_eq_true_eq, List.all_eq_true] at h
      obtain ⟨⟨⟨⟨⟨rfl, h2⟩, h3⟩, h4⟩, h5⟩, h6⟩ := h
      exact s_setF Y h2 h3 (bnot h4) (fun c hc => of_decide_eq_true (h5 c hc)) h6
    · cases h
  | .augF i f cs' o e, x, h => by
    unfold mS at h
    split at h
    · simp only [Bool.and_eq_true, decide_eq_true_eq, List.all_eq_true] at h
      obtain ⟨⟨⟨⟨⟨⟨⟨rfl, h2⟩, h3⟩, h4⟩, h5⟩, h6⟩, h7⟩, h8⟩ := h
      refine s_augF Y h2 h3 ?_ h5 (bnot h6) h7 (fun c hc => of_decide_eq_true (h8 c hc))
      cases o <;> first | exact .inl rfl | exact .inr rfl | cases h4
    · cases h
  | .raise c ps es, x, h => by
    unfold mS at h
    split at h
    · split at h
      · rename_i xc hT
        simp only [Bool.and_eq_true, decide_eq_true_eq] at h
        obtain ⟨⟨⟨⟨⟨⟨⟨h1, h2⟩, h3⟩, h4⟩, h5⟩, h6⟩, h7⟩, h8⟩ := h
        subst h5
        exact s_raise Y hT (fun z => by rw [z] at h8; cases h8) h1 h2 h3 h4 (bnot h6)
      · cases h
    · cases h
  | .asgO i e, x, h => by
    unfold mS at h
    split at h
    · simp only [Bool.and_eq_true] at h
      exact s_asgO Y h.1.1 h.1.2 h.2
    · cases h
  | .unp is e, x, h => by
    unfold mS at h
    split at h
    · simp only [Bool.and_eq_true] at h
      exact s_unp Y h.1.1.1 h.1.1.2 (bnot h.1.2) h.2
    · cases h
  | .setI i kk v, x, h => by
    unfold mS at h
    split at h
    · simp only [Bool.and_eq_true] at h
      obtain ⟨⟨⟨⟨⟨⟨h1, h2⟩, h3⟩, h4⟩, h5⟩, h6⟩, h7⟩ := h
      exact s_setI Y h1 h2 h3 (bnot h4) (bnot h5) h6 h7
    · cases h
  | .drop e, x, h => by
    unfold mS at h
    split at h
    · rw [Bool.and_eq_true] at h
      exact s_drop Y h.1 h.2
    · cases h
  | .ret e, x, h => by
    unfold mS at h
    split at h
    · cases own with
      | true => rw [if_pos rfl] at h; exact s_retOwn Y h
      | false =>
        rw [if_neg Bool.false_ne_true, Bool.and_eq_true] at h
        exact s_ret Y h.1 (bnot h.2)
    · cases h
  | .retN, x, h => by
    unfold mS at h
    split at h
    · cases own with
      | true => cases h
      | false => exact s_retN
    · cases h
  | .retO i, x, h => by
    unfold mS at h
    split at h
    · rw [Bool.and_eq_true] at h
      obtain ⟨rfl, h⟩ := h
      exact s_retO Y h
    · cases h
  | .ite c a b, x, h => by
    unfold mS at h
    split at h
    · simp only [Bool.and_eq_true] at h
      exact s_if ((sE c Y.ok h.1.1.1).2 h.1.1.2) (sSs Y a h.1.2) (sSs Y b h.2)
    · cases h
  | .whl c b, x, h => by
    unfold mS at h
    split at h
    · simp only [Bool.and_eq_true] at h
      exact s_whl Y ((sE c Y.ok h.1.1).2 h.1.2) (sSs Y b h.2)
    · cases h
  | .loop tg it b, x, h => by
    unfold mS at h
    split at h
    · simp only [Bool.and_eq_true] at h
      exact s_for Y h.1.1.1 (sIt it Y.ok h.1.1.2) h.1.2 (sSs Y b h.2)
    · cases h
  | .pass, x, h => by
    unfold mS at h
    split at h
    · exact ps_pass.imp fun D σ H ⟨L, O, ρ, S, q⟩ => PostS.nx q S
    · cases h
  | .brk, x, h => by
    unfold mS at h
    split at h
    · exact ps_break.imp fun D σ H ⟨L, O, ρ, S, q⟩ => q L O σ H (.refl O H) S
    · cases h
  | .cnt, x, h => by
    unfold mS at h
    split at h
    · exact ps_continue.imp fun D σ H ⟨L, O, ρ, S, q⟩ => q L O σ H (.refl O H) S
    · cases h
  | .aug i o e, x, h => by
    unfold mS at h
    split at h
    · simp only [Bool.and_eq_true, decide_eq_true_eq] at h
      obtain ⟨⟨⟨⟨h1, h2⟩, h3⟩, h4⟩, h5⟩ := h
      refine s_aug Y h1 h2 ?_ h4 (bnot h5)
      cases o <;> first | exact .inl rfl | exact .inr rfl | cases h3
    · cases h
  | .par i j oi oj a b, x, h => by
    unfold mS at h
    split at h
    · simp only [Bool.and_eq_true, decide_eq_true_eq] at h
      obtain ⟨⟨⟨⟨⟨⟨⟨⟨⟨⟨⟨⟨h1, h2⟩, h3⟩, h4⟩, h5⟩, h6⟩, h7⟩, h8⟩, h9⟩, h10⟩, h11⟩, h12⟩, h13, h14⟩ := h
      exact s_par Y h1 h2 (bnot h3) (bnot h4) (bnot h5) h6 h7 h8 h9 h10 h11 h12 h13 h14
    · cases h
  | .app i e, x, h => by
    unfold mS at h
    split at h
    · simp only [Bool.and_eq_true, decide_eq_true_eq] at h
      obtain ⟨⟨⟨⟨⟨h1, h2⟩, h3⟩, h4⟩, h5⟩, h6⟩ := h
      exact s_app Y h1 h2 h3 (bnot h4) h5 h6
    · cases h
theorem sSs (Y : XSt T cs k C W N sc X) : ∀ (s : Ss) {xs : List Stmt}, mSs T N own s sc xs = true → PSs X xs (tSt C W own (evSs cs nF s))
  | .nil, xs, h => by
    unfold mSs at h
    cases xs with
    | nil => exact s_nil
    | cons y ys => cases h
  | .cons s r, xs, h => by
    unfold mSs at h
    split at h
    · rw [Bool.and_eq_true] at h
      exact s_cons (sS Y s h.1) (sSs Y r h.2)
    · cases h
  | .frz i r, xs, h => by
    unfold mSs at h
    refine (sSs Y r h).imp fun D σ H ⟨L, O, ρ, S, q⟩ => ?_
    have q : PostS C W own O H (match ρ[i]? with | some (.o d) => evSs cs nF r (ρ.set i (.i d)) | _ => none) D := q
    match hr : ρ[i]?, q with
    | some (.o d), q =>
      obtain ⟨a, S'⟩ := S.freeze hr
      refine ⟨_, _, _, S', PostS.mono ⟨fun _ _ _ z => z, fun b z => .inl (List.mem_filter.mp z).1⟩ q⟩
end
end
end Mx


/-! Mx, part 5c: generator defs. -/
namespace Mx
open PySem PySem.Spec PyProof.Rows L2
theorem _root_.L2.GS.imp {X : Cx} {st : Stmt} {t t' : TGn} (h : GS X st t) (hi : ∀ D ys σ H, t' D ys σ H → t D ys σ H) : GS X st t' := ⟨fun A S ip R n ys s₀ c fs K J gd lv s σ H D g hn k hI ht => h.run A S ip R n ys s₀ c fs K J gd lv s σ H D g hn k hI (hi D ys σ H ht)⟩
theorem _root_.L2.GSs.imp {X : Cx} {st : List Stmt} {t t' : TGn} (h : GSs X st t) (hi : ∀ D ys σ H, t' D ys σ H → t D ys σ H) : GSs X st t' := ⟨fun A S ip R n ys s₀ c fs K J gd lv s σ H D g hn k hI ht => h.run A S ip R n ys s₀ c fs K J gd lv s σ H D g hn k hI (hi D ys σ H ht)⟩
def PostG (C : Ct) (W : WX) (O : List Addr) (H : Hp) (r : Out (Fl × List IV)) (D : GEnds) : Prop := match r with
  | none => False
  | some (.ok (.nx, ds), ρ) => ∀ L' O' σ' H' ys, Grow O H O' H' → SRel C L' O' σ' ρ H' → RepAll C.K C.cl O' H' ys ds → D.nx ys σ' H'
  | some (.ok (.bk, ds), ρ) => ∀ L' O' σ' H' ys, Grow O H O' H' → SRel C L' O' σ' ρ H' → RepAll C.K C.cl O' H' ys ds → D.bk ys σ' H'
  | some (.ok (.ct, ds), ρ) => ∀ L' O' σ' H' ys, Grow O H O' H' → SRel C L' O' σ' ρ H' → RepAll C.K C.cl O' H' ys ds → D.ct ys σ' H'
  | some (.ok (.rt d, ds), ρ) => ∀ L' O' σ' v H' ys, Grow O H O' H' → SRel C L' O' σ' ρ H' → RepAll C.K C.cl O' H' ys ds → RtR C false O' H' v d → D.rt ys v H'
  | some (.error x, ρ) => ∀ L' O' σ' c dd H', Grow O H O' H' → SRel C L' O' σ' ρ H' → XRep C.K C.cl O' H' c dd x → W c dd σ' H'
def tG (C : Ct) (W : WX) (m : List IV → R (Fl × List IV)) : TGn := fun D ys σ H => ∃ L O ρ ds, SRel C L O σ ρ H ∧ RepAll C.K C.cl O H ys ds ∧ PostG C W O H (m ds ρ) D
section
variable {C : Ct} {W : WX} {L O O1 : List Addr} {σ : L2.St} {H H1 : Hp} {ρ : List Sl} {D : GEnds}
theorem PostG.mono {r : Out (Fl × List IV)} (g : Grow O H O1 H1) (h : PostG C W O H r D) : PostG C W O1 H1 r D := by
  match r, h with
  | some (.ok (.nx, ds), ρ), h => exact fun L' O' σ' H' ys g' S => h L' O' σ' H' ys (g.trans g') S
  | some (.ok (.bk, ds), ρ), h => exact fun L' O' σ' H' ys g' S => h L' O' σ' H' ys (g.trans g') S
  | some (.ok (.ct, ds), ρ), h => exact fun L' O' σ' H' ys g' S => h L' O' σ' H' ys (g.trans g') S
  | some (.ok (.rt d, ds), ρ), h => exact fun L' O' σ' v H' ys g' S => h L' O' σ' v H' ys (g.trans g') S
  | some (.error x, ρ), h => exact fun L' O' σ' c dd H' g' S r => h L' O' σ' c dd H' (g.trans g') S r
theorem PostG.bind {α β : Type} {pr : Bool} {m : R α} {f : α → R (Fl × List IV)} {Rl : Hp → β → α → Prop} {Q1 : β → Hp → Prop} (h : PostG C W O H (rBind m f ρ) D)
    (k : ∀ a ρ1 v H1, Keep O H H1 → SRel C L O σ ρ1 H1 → Rl H1 v a → PostG C W O H1 (f a ρ1) D → Q1 v H1) : Post C L O σ W pr Rl H (m ρ) Q1 := by
  unfold rBind at h
  match hm : m ρ, h with
  | none, h => exact h
  | some (.error x, ρ1), h => exact fun c dd H' k' S xr => h L O σ c dd H' (.ofKeep k') S xr
  | some (.ok a, ρ1), h => exact fun v H1 k1 s1 S q => k a ρ1 v H1 k1 S q (PostG.mono (.ofKeep k1) h)
/-- what a statement of a generator leaves goes on -/
theorem PostG.seq {m : R (Fl × List IV)} {f : Fl × List IV → R (Fl × List IV)} {D' : GEnds} (h : PostG C W O H (rBind m f ρ) D)
    (nx : ∀ ds ρ1, m ρ = some (.ok (.nx, ds), ρ1) → PostG C W O H (f (.nx, ds) ρ1) D → ∀ L' O' σ' H' ys, Grow O H O' H' → SRel C L' O' σ' ρ1 H' → RepAll C.K C.cl O' H' ys ds → D'.nx ys σ' H')
    (bk : ∀ ds ρ1, m ρ = some (.ok (.bk, ds), ρ1) → PostG C W O H (f (.bk, ds) ρ1) D → ∀ L' O' σ' H' ys, Grow O H O' H' → SRel C L' O' σ' ρ1 H' → RepAll C.K C.cl O' H' ys ds → D'.bk ys σ' H')
    (ct : ∀ ds ρ1, m ρ = some (.ok (.ct, ds), ρ1) → PostG C W O H (f (.ct, ds) ρ1) D → ∀ L' O' σ' H' ys, Grow O H O' H' → SRel C L' O' σ' ρ1 H' → RepAll C.K C.cl O' H' ys ds → D'.ct ys σ' H')
    (rt : ∀ d ds ρ1, m ρ = some (.ok (.rt d, ds), ρ1) → PostG C W O H (f (.rt d, ds) ρ1) D → ∀ L' O' σ' v H' ys, Grow O H O' H' → SRel C L' O' σ' ρ1 H' → RepAll C.K C.cl O' H' ys ds → RtR C false O' H' v d → D'.rt ys v H') : PostG C W O H (m ρ) D' := by
  unfold rBind at h
  match hm : m ρ, h with
  | none, h => exact h
  | some (.error x, ρ1), h => exact h
  | some (.ok (.nx, ds), ρ1), h => exact nx ds ρ1 hm h
  | some (.ok (.bk, ds), ρ1), h => exact bk ds ρ1 hm h
  | some (.ok (.ct, ds), ρ1), h => exact ct ds ρ1 hm h
  | some (.ok (.rt d, ds), ρ1), h => exact rt d ds ρ1 hm h
end
section
variable {T : Tab} {cs : CS} {k : Nat} {C : Ct} {W : WX} {N : List Str} {sc : Scope} {X : Cx} {nF : Nat}
theorem g_pl {s : S} {st : Stmt} (h : PS X st (tSt C W false (evS cs nF s))) : GS X st (tG C W (evG cs nF (.pl s))) := by
  refine (gs_ps h).imp fun D ys σ H ⟨L, O, ρ, ds, S, R, q⟩ => ⟨L, O, ρ, S, ?_⟩
  have q : PostG C W O H ((rBind (evS cs nF s) fun f => rPure (f, ds)) ρ) D := q
  unfold rBind at q
  match hm : evS cs nF s ρ, q with
  | none, q => exact q
  | some (.error x, ρ1), q => exact q
  | some (.ok .nx, ρ1), q => exact fun L' O' σ' H' g S' => q L' O' σ' H' ys g S' (R.grow g)
  | some (.ok .bk, ρ1), q => exact fun L' O' σ' H' g S' => q L' O' σ' H' ys g S' (R.grow g)
  | some (.ok .ct, ρ1), q => exact fun L' O' σ' H' g S' => q L' O' σ' H' ys g S' (R.grow g)
  | some (.ok (.rt d), ρ1), q => exact fun L' O' σ' v H' g S' r => q L' O' σ' v H' ys g S' (R.grow g) r
theorem g_yld {e : E} {y : Expr} {p q : Pos} (hv : e.isView = false) (hco : X.env.scope.isCoroutine = false) (hi : interactive X.env = false) (he : PE X y (tE cs C W e)) : GS X (.Expr (.Yield (some y) p) q) (tG C W (evG cs nF (.yld e))) := by
  refine (gs_yield he hco hi).imp fun D ys σ H ⟨L, O, ρ, ds, S, R, q⟩ => ?_
  have q : PostG C W O H ((rBind (rLift (if ds.length < SZ then some () else none)) fun _ => rBind (ev cs e).1 fun d => rPure (.nx, ds ++ [d])) ρ) D := q
  by_cases hz : ds.length < SZ
  · have q : PostG C W O H ((rBind (ev cs e).1 fun d => rPure (.nx, ds ++ [d])) ρ) D := by
      unfold rBind rLift at q
      rw [if_pos hz] at q
      exact q
    refine ⟨by rw [R.length, sizeLine_eq]; exact hz, L, O, ρ, S, PostG.bind q fun d ρ1 v H1 k1 S1 r1 q1 => ?_⟩
    exact q1 L O σ H1 (ys ++ [v]) (.refl _ _) S1 ((R.keep k1).append (.cons (r1.2 hv) .nil))
  · unfold rBind rLift at q
    rw [if_neg hz] at q
    exact q.elim
theorem g_whl (X' : XOk T cs k C W N sc X) {c : E} {b : Gs} {y : Expr} {zs : List Stmt} {pos : Pos} (hc : PT X y (tT cs C W c)) (hb : GSs X zs (tG C W (evGs cs nF b))) : GS X (.While y zs [] pos) (tG C W (evG cs nF (.whl c b))) := by
  refine (gs_while X'.po hc hb).imp fun D ys σ H ⟨L, O, ρ, ds, S, R, q⟩ => ?_
  refine ⟨fun m ys σ H => ∃ L O ρ ds, SRel C L O σ ρ H ∧ RepAll C.K C.cl O H ys ds ∧ PostG C W O H (rWhileG (ev cs c).2 (evGs cs nF b) m ds ρ) D, ⟨nF, L, O, ρ, ds, S, R, q⟩, ?_⟩
  rintro m ys σ H ⟨L, O, ρ, ds, S, R, q⟩
  cases m with
  | zero => exact q.elim
  | succ m =>
    unfold rWhileG at q
    refine ⟨L, O, ρ, S, PostG.bind q fun t ρ1 bb H1 k1 S1 eb q1 => ?_⟩
    subst eb
    have R1 := R.keep k1
    cases bb with
    | false =>
      rw [if_neg Bool.false_ne_true] at q1 ⊢
      exact q1 L O σ H1 ys (.refl _ _) S1 R1
    | true =>
      rw [if_pos rfl] at q1 ⊢
      refine ⟨fun ys σ H => ∃ L O ρ ds, SRel C L O σ ρ H ∧ RepAll C.K C.cl O H ys ds ∧ PostG C W O H (rWhileG (ev cs c).2 (evGs cs nF b) m ds ρ) D, fun ys' σ' H' w => ⟨m, Nat.lt_succ_self _, w⟩, L, O, ρ1, ds, S1, R1, ?_⟩
      refine PostG.seq q1 (fun ds' ρ2 _ z L' O' σ' H' ys' g S' R' => ⟨L', O', ρ2, ds', S', R', z.mono g⟩) (fun ds' ρ2 _ z L' O' σ' H' ys' g S' R' => z L' O' σ' H' ys' g S' R') (fun ds' ρ2 _ z L' O' σ' H' ys' g S' R' => ⟨L', O', ρ2, ds', S', R', z.mono g⟩) (fun d ds' ρ2 _ z L' O' σ' v H' ys' g S' R' r => z L' O' σ' v H' ys' g S' R' r)
mutual
theorem sG (Y : XSt T cs k C W N sc X) (hco : X.env.scope.isCoroutine = false) (hi : interactive X.env = false) : ∀ (g : G) {x : Stmt}, mG T N g sc x = true → GS X x (tG C W (evG cs nF g))
  | .pl s, x, h => by
    unfold mG at h
    exact g_pl (sS Y s h)
  | .yld e, x, h => by
    unfold mG at h
    split at h
    · rw [Bool.and_eq_true] at h
      exact g_yld (bnot h.2) hco hi (sE e Y.ok h.1).1
    · cases h
  | .whl c b, x, h => by
    unfold mG at h
    split at h
    · simp only [Bool.and_eq_true] at h
      exact g_whl Y.ok ((sE c Y.ok h.1.1).2 h.1.2) (sGs Y hco hi b h.2)
    · cases h
theorem sGs (Y : XSt T cs k C W N sc X) (hco : X.env.scope.isCoroutine = false) (hi : interactive X.env = false) : ∀ (g : Gs) {xs : List Stmt}, mGs T N g sc xs = true → GSs X xs (tG C W (evGs cs nF g))
  | .nil, xs, h => by
    unfold mGs at h
    cases xs with
    | nil => exact gss_nil.imp fun D ys σ H ⟨L, O, ρ, ds, S, R, q⟩ => q L O σ H ys (.refl _ _) S R
    | cons y ys => cases h
  | .cons g r, xs, h => by
    unfold mGs at h
    split at h
    · rw [Bool.and_eq_true] at h
      refine (gss_cons (sG Y hco hi g h.1) (sGs Y hco hi r h.2)).imp fun D ys σ H ⟨L, O, ρ, ds, S, R, q⟩ => ⟨L, O, ρ, ds, S, R, ?_⟩
      exact PostG.seq (D' := { D with nx := fun ys' σ' H' => tG C W (evGs cs nF r) D ys' σ' H' }) q (fun ds' ρ2 _ z L' O' σ' H' ys' g S' R' => ⟨L', O', ρ2, ds', S', R', z.mono g⟩) (fun ds' ρ2 _ z L' O' σ' H' ys' g S' R' => z L' O' σ' H' ys' g S' R') (fun ds' ρ2 _ z L' O' σ' H' ys' g S' R' => z L' O' σ' H' ys' g S' R') (fun d ds' ρ2 _ z L' O' σ' v H' ys' g S' R' r => z L' O' σ' v H' ys' g S' R' r)
    · cases h
end
end
end Mx


/-! Mx, part 5b: defs, the law. -/
namespace Mx
open PySem PySem.Spec PyProof.Rows L2
/-! ### a def by its body, where no repr is under way -/
section
variable {P : Program} {w : World} {K : PySem.W.Frag} {mg : Str → Option Value} {base : Heap} {k : Nat} {f : Addr} {name qual : Str} {params : Arguments}
variable {body : List Stmt} {scope : Scope} {dV kV doc pm cdv ct oc : Value} {an od : Option Addr} {osl : Array (Option Value)} {N ps : List Str} {sp : Sp} {rp : Bool}
abbrev cxM (P : Program) (w : World) (K : PySem.W.Frag) (mg : Str → Option Value) (base : Heap) (N : List Str) (qual : Str) (scope : Scope) (f : Addr) (cd : Value) (A : Around) (outer : List Env) (s : Shared) (H : Hp) (E : XK) : Cx :=
  cxOf (L2.CX P w) P w K mg base N qual scope f cd A outer s H E
theorem fnR_of (found : K.lookup f = some ⟨oc, od, .func (PySem.W.fnOf name qual params body scope dV kV doc pm an cdv ct), osl⟩) (code : PySem.W.codeIn K cdv qual = true) (sco : FnScope N ps scope)
    (len : ∀ vs H Q E, sp vs H Q E → vs.length = ps.length)
    (does : ∀ A outer s H vs Q E, (rp = true → Around.guards A = some []) → Room k (A.deeper (envOfC qual scope (Shared.heap s).objs.size f cdv)) → sp vs H Q E →
      ∃ t, PSs (cxM P w K mg base N qual scope f cdv A outer s H E) body t ∧ t ⟨fun _ H1 => Q .non H1, Q, fun _ _ => False, fun _ _ => False⟩ (start N vs) H) :
    FnR P w K mg base (k + 1) rp f (PySem.W.fnOf name qual params body scope dV kV doc pm an cdv ct) ps sp := by
  constructor
  · exact len
  intro A outer s H args us vs Q E gd room env bind rel promise
  have hKin : K.In s.heap := env.mod.kin.keeps fun b o e => (env.bs b o e).1
  have noLim : s.heap.NoLimit := env.mod.nolimit.keeps fun b o e => (env.bs b o e).1
  have kinds : ∀ y ∈ ps.zip us, scope.names.lookup y.1 = some .local ∨ scope.names.lookup y.1 = some .cell ∧ ((cellsFrom (s.heap.objs.size + 1) scope.names []).lookup y.1).isSome = true := by
    rintro ⟨n, v⟩ hy
    exact (sco.par n (List.of_mem_zip hy).1).imp id fun z => ⟨z, PySem.W.cellsFrom_some _ _ _ (.inl z)⟩
  apply codeAny_call_function room.depth (hKin _ _ found) rfl sco.co sco.gen rfl (PySem.W.codeRec_of hKin code)
  apply bind
  apply wpAny_newFunctionEnv_cells sco.kind kinds
  rintro _ rfl s1 entered
  obtain ⟨t, ht, hq⟩ := does A outer s H vs Q E gd (room.deeper _) promise
  have inv0 : Inv (cxM P w K mg base N qual scope f cdv A outer s H E) [] (start N vs) H s1 := inv_start sco room.hd env (len _ _ _ _ promise) rel entered
  refine ⟨noLim.keeps entered.toInCall.keep, codeAny_func (wpAny_mono (ht.run [] s1 _ H _ inv0 hq) ?_ fun _ _ z => z)⟩
  intro fl s' z
  match fl, z with
  | .ret u, ⟨v, _, H1, J, rv, q⟩ => exact ⟨v, H1, J.os, J.bare, J.base, J.hok, rv, q⟩
  | .next, ⟨_, H1, J, q⟩ => exact ⟨.non, H1, J.os, J.bare, J.base, J.hok, rfl, q⟩
  | .brk, ⟨_, _, _, q⟩ => exact q.elim
  | .cont, ⟨_, _, _, q⟩ => exact q.elim
end
/-! ### a def of the language -/
theorem startA_len : ∀ {ms : List Bool} {ds : List IV}, ms.length = ds.length → (startA ms ds).length = ds.length
  | [], [], _ => rfl
  | m :: ms, d :: ds, h => by show (startA ms ds).length + 1 = ds.length + 1; rw [startA_len (Nat.succ.inj h)]
theorem argR_len {K : PySem.W.Frag} {cl : Nat → Option Addr} {O : List Addr} {H : Hp} : ∀ {ms : List Bool} {vs : List V} {ds : List IV}, ArgR K cl O H ms vs ds → ms.length = ds.length ∧ vs.length = ds.length
  | [], [], [], _ => ⟨rfl, rfl⟩
  | false :: ms, v :: vs, d :: ds, h => by
    have z := argR_len (show ArgR K cl O H ms vs ds from h.2)
    exact ⟨congrArg Nat.succ z.1, congrArg Nat.succ z.2⟩
  | true :: ms, v :: vs, d :: ds, h => by
    have z := argR_len (show ArgR K cl O H ms vs ds from h.2)
    exact ⟨congrArg Nat.succ z.1, congrArg Nat.succ z.2⟩
theorem startA_slot {K : PySem.W.Frag} {cl : Nat → Option Addr} {O : List Addr} {H : Hp} : ∀ {ms : List Bool} {vs : List V} {ds : List IV}, ArgR K cl O H ms vs ds → ∀ {i : Nat} {r : Sl}, (startA ms ds)[i]? = some r →
    ∃ v d, vs[i]? = some v ∧ ((r = .i d ∧ Rep K cl O H v d) ∨ (r = .b d ∧ ∃ a, v = .ref a ∧ (mutA ms vs)[i]? = some (some a) ∧ Own K cl O H a d))
  | [], [], [], _, i, r, h => by cases i <;> cases h
  | false :: ms, v :: vs, d :: ds, h, 0, r, e => by cases e; exact ⟨v, d, rfl, .inl ⟨rfl, h.1⟩⟩
  | true :: ms, v :: vs, d :: ds, h, 0, r, e => by
    cases e
    obtain ⟨⟨a, rfl, _, w⟩, _⟩ := (show (∃ a, v = .ref a ∧ a ∈ O ∧ Own K cl O H a d) ∧ ArgR K cl O H ms vs ds from h)
    exact ⟨_, d, rfl, .inr ⟨rfl, a, rfl, rfl, w⟩⟩
  | false :: ms, v :: vs, d :: ds, h, i + 1, r, e => by
    obtain ⟨v', d', h1, h2⟩ := startA_slot (show ArgR K cl O H ms vs ds from h.2) (i := i) (r := r) e
    refine ⟨v', d', h1, h2.imp id fun ⟨z, a, z2, z3, z4⟩ => ⟨z, a, z2, ?_, z4⟩⟩
    have : mutA (false :: ms) (v :: vs) = none :: mutA ms vs := by cases v <;> rfl
    rw [this]
    exact z3
  | true :: ms, v :: vs, d :: ds, h, i + 1, r, e => by
    obtain ⟨⟨b, rfl, _⟩, hr⟩ := (show (∃ a, v = .ref a ∧ a ∈ O ∧ Own K cl O H a d) ∧ ArgR K cl O H ms vs ds from h)
    obtain ⟨v', d', h1, h2⟩ := startA_slot hr (i := i) (r := r) e
    exact ⟨v', d', h1, h2.imp id fun ⟨z, a, z2, z3, z4⟩ => ⟨z, a, z2, z3, z4⟩⟩
theorem nodup_two : ∀ {l : List (Option Addr)} {i j : Nat} {a : Addr}, (l.filterMap id).Nodup → l[i]? = some (some a) → l[j]? = some (some a) → i = j
  | x :: l, 0, 0, a, _, _, _ => rfl
  | x :: l, 0, j + 1, a, h, e1, e2 => by
    cases e1
    have h : (a :: l.filterMap id).Nodup := h
    rw [List.nodup_cons] at h
    exact absurd (show a ∈ l.filterMap id from List.mem_filterMap.mpr ⟨some a, List.mem_of_getElem? (show l[j]? = some (some a) from e2), rfl⟩) h.1
  | x :: l, i + 1, 0, a, h, e1, e2 => by
    cases e2
    have h : (a :: l.filterMap id).Nodup := h
    rw [List.nodup_cons] at h
    exact absurd (show a ∈ l.filterMap id from List.mem_filterMap.mpr ⟨some a, List.mem_of_getElem? (show l[i]? = some (some a) from e1), rfl⟩) h.1
  | x :: l, i + 1, j + 1, a, h, e1, e2 => by
    have h' : (l.filterMap id).Nodup := by
      cases x with
      | none => exact h
      | some b => have h : (b :: l.filterMap id).Nodup := h; exact (List.nodup_cons.mp h).2
    exact congrArg Nat.succ (nodup_two h' (show l[i]? = some (some a) from e1) (show l[j]? = some (some a) from e2))
theorem start_ok {K : PySem.W.Frag} {cl : Nat → Option Addr} {O : List Addr} {H : Hp} {fn : Fn} {vs : List V} {ds : List IV} (live : ∀ a ∈ O, H a ≠ none) (hl : vs.length = fn.ps.length) (ar : ArgR K cl O H fn.muts vs ds) (nd : ((mutA fn.muts vs).filterMap id).Nodup) :
    SRel ⟨K, cl, O, H, mutA fn.muts vs⟩ [] O (start fn.ns vs) (fn.start ds) H := by
  obtain ⟨l1, l2⟩ := argR_len ar
  have ls : (startA fn.muts ds).length = vs.length := by rw [startA_len l1, l2]
  have get : ∀ {i : Nat} {r : Sl}, (fn.start ds)[i]? = some r → (i < vs.length ∧ (startA fn.muts ds)[i]? = some r ∧ (start fn.ns vs)[i]? = some vs[i]?) ∨ r = .e := fun {i r} e => by
    unfold Fn.start at e
    by_cases hi : i < vs.length
    · rw [List.getElem?_append_left (by rw [ls]; exact hi)] at e
      refine .inl ⟨hi, e, ?_⟩
      unfold L2.start
      rw [List.getElem?_append_left (by rw [List.length_map]; exact hi), List.getElem?_map, List.getElem?_eq_getElem hi]
      rfl
    · rw [List.getElem?_append_right (by rw [ls]; exact Nat.le_of_not_lt hi), List.getElem?_replicate] at e
      split at e
      · cases e; exact .inr rfl
      · cases e
  have mutx : ∀ {i : Nat} {r : Sl} {a : Addr}, (fn.start ds)[i]? = some r → r.mut.isSome = true → (start fn.ns vs)[i]? = some (some (.ref a)) → (mutA fn.muts vs)[i]? = some (some a) := fun {i r a} e m es => by
    rcases get e with ⟨hi, e1, e2⟩ | rfl
    · obtain ⟨v, d, hv, h | h⟩ := startA_slot ar e1
      · rw [h.1] at m; cases m
      · obtain ⟨_, b, rfl, hm, _⟩ := h
        rw [e2, hv] at es
        cases es
        exact hm
    · cases m
  refine ⟨?_, fun i s r e1 e2 => ?_, fun a h => (nomatch h), fun a h => h, fun i a h => mutA_live ar (mem_some_of h), live, fun i j r q a hij e1 e2 m1 m2 e3 e4 => hij (nodup_two nd (mutx e1 m1 e3) (mutx e2 m2 e4)), fun a o e _ => e⟩
  · unfold L2.start Fn.start
    rw [List.length_append, List.length_append, List.length_map, List.length_replicate, List.length_replicate, ls, hl]
  · rcases get e2 with ⟨hi, e3, e4⟩ | rfl
    · rw [e4] at e1
      obtain ⟨v, d, hv, h | h⟩ := startA_slot ar e3
      · obtain ⟨rfl, rp⟩ := h
        rw [hv] at e1
        cases e1
        exact ⟨v, rfl, rp⟩
      · obtain ⟨rfl, a, rfl, hm, w⟩ := h
        rw [hv] at e1
        cases e1
        exact ⟨a, rfl, hm, w⟩
    · trivial
theorem mutR_of {K : PySem.W.Frag} {cl : Nat → Option Addr} {O : List Addr} {H : Hp} : ∀ {ms : List Bool} {vs : List V} {ρ : List Sl} {es : List IV}, vs.length = ms.length → mutsOf ms ρ = some es → (∀ (i : Nat) (d : IV), ρ[i]? = some (.b d) → ∃ a, (mutA ms vs)[i]? = some (some a) ∧ Own K cl O H a d) → MutR K cl O H ms vs es
  | [], [], ρ, es, _, e, _ => by cases e; trivial
  | false :: ms, v :: vs, r :: ρ, es, hl, e, h => by
    have e : (mutsOf ms ρ).map (IV.non :: ·) = some es := e
    cases hm : mutsOf ms ρ with
    | none => rw [hm] at e; cases e
    | some es' =>
      rw [hm] at e
      cases e
      refine mutR_of (ms := ms) (vs := vs) (ρ := ρ) (Nat.succ.inj hl) hm fun i d hd => ?_
      obtain ⟨a, ha, w⟩ := h (i + 1) d hd
      have : mutA (false :: ms) (v :: vs) = none :: mutA ms vs := by cases v <;> rfl
      rw [this] at ha
      exact ⟨a, ha, w⟩
  | true :: ms, v :: vs, .b d :: ρ, es, hl, e, h => by
    have e : (mutsOf ms ρ).map (d :: ·) = some es := e
    cases hm : mutsOf ms ρ with
    | none => rw [hm] at e; cases e
    | some es' =>
      rw [hm] at e
      cases e
      obtain ⟨a, ha, w⟩ := h 0 d rfl
      have ev : v = .ref a := by
        match v, ha with
        | .ref b, ha => cases ha; rfl
      subst ev
      refine ⟨⟨a, rfl, w⟩, mutR_of (ms := ms) (vs := vs) (ρ := ρ) (Nat.succ.inj hl) hm fun i d hd => ?_⟩
      exact h (i + 1) d hd
  | true :: ms, v :: vs, .i d :: ρ, es, hl, e, h => nomatch e
  | true :: ms, v :: vs, .o d :: ρ, es, hl, e, h => nomatch e
  | true :: ms, v :: vs, .e :: ρ, es, hl, e, h => nomatch e
  | false :: ms, v :: vs, [], es, hl, e, h => nomatch e
  | true :: ms, v :: vs, [], es, hl, e, h => nomatch e
  | [], _ :: _, _, _, hl, _, _ => nomatch hl
  | _ :: _, [], _, _, hl, _, _ => nomatch hl
theorem end_ok {C : Ct} {L' O' : List Addr} {σ' : L2.St} {ρ : List Sl} {H' : Hp} {fn : Fn} {vs : List V} {ms : List IV} {O2 : List Addr} (hl : vs.length = fn.muts.length) (hM : C.M = mutA fn.muts vs) (S : SRel C L' O' σ' ρ H') (hm : mutsOf fn.muts ρ = some ms) (h2 : ∀ a ∈ O2, a ∈ O') :
    MutR C.K C.cl O2 H' fn.muts vs ms := by
  refine mutR_of hl hm fun i d hd => ?_
  have hi : i < σ'.length := by rw [S.len]; exact (List.getElem?_eq_some_iff.mp hd).1
  obtain ⟨a, _, h1, w⟩ := S.slot i _ _ (List.getElem?_eq_getElem hi) hd
  exact ⟨a, by rw [← hM]; exact h1, w.less h2⟩
theorem xrep_less {K : PySem.W.Frag} {cl : Nat → Option Addr} {O O' : List Addr} {H : Hp} {c : Value} {dd : Option Addr} {x : Xn} (h2 : ∀ a ∈ O, a ∈ O') (h : XRep K cl O' H c dd x) : XRep K cl O H c dd x := by
  obtain ⟨A, h1, e2, h3⟩ := h
  exact ⟨A, h1, e2, h3.imp (fun z => z) fun ⟨d, fs, e1, n, e2, e3, r⟩ => ⟨d, fs, e1, fun z => n (h2 _ z), e2, e3, r.less h2⟩⟩
/-- what the body's end gives is what the call's end asks -/
theorem endF_ok {K : PySem.W.Frag} {cl : Nat → Option Addr} {O : List Addr} {H : Hp} {fn : Fn} {vs : List V} {Q : VK} {E : XK} {r : Out Fl} (hl : vs.length = fn.muts.length) (h : fEnd K cl O H fn vs Q E (endF fn r)) :
    PostS ⟨K, cl, O, H, mutA fn.muts vs⟩ (fun c dd _ H' => E c dd H') fn.own O H r ⟨fun _ H1 => Q .non H1, Q, fun _ _ => False, fun _ _ => False⟩ := by
  match r, h with
  | none, h => exact h
  | some (.ok .bk, ρ), h => exact h.elim
  | some (.ok .ct, ρ), h => exact h.elim
  | some (.ok .nx, ρ), h =>
    intro L' O' σ' H' g S
    have h : fEnd K cl O H fn vs Q E (if fn.own = true then none else (mutsOf fn.muts ρ).map fun ms => (.ok .non, ms)) := h
    cases ho : fn.own with
    | true => rw [if_pos ho] at h; exact h.elim
    | false =>
      rw [if_neg (by rw [ho]; exact Bool.false_ne_true)] at h
      cases hm : mutsOf fn.muts ρ with
      | none => rw [hm] at h; exact h.elim
      | some ms =>
        rw [hm] at h
        have h : if fn.own = true then _ else _ := h
        rw [if_neg (by rw [ho]; exact Bool.false_ne_true)] at h
        exact h _ H' S.frame (end_ok hl rfl S hm S.sub) .non
  | some (.ok (.rt d), ρ), h =>
    intro L' O' σ' v H' g S rt
    have h : fEnd K cl O H fn vs Q E ((mutsOf fn.muts ρ).map fun ms => (.ok d, ms)) := h
    cases hm : mutsOf fn.muts ρ with
    | none => rw [hm] at h; exact h.elim
    | some ms =>
      rw [hm] at h
      have h : if fn.own = true then _ else _ := h
      unfold RtR at rt
      cases ho : fn.own with
      | true =>
        rw [if_pos ho] at h rt
        obtain ⟨p, rfl, hp, _, h0, w⟩ := rt
        have le : ∀ a ∈ p :: O, a ∈ O' := fun a z => by
          rcases List.mem_cons.mp z with z | z
          · rw [z]; exact hp
          · exact S.sub a z
        exact h p H' h0 S.frame (end_ok hl rfl S hm le) (w.less le)
      | false =>
        rw [if_neg (by rw [ho]; exact Bool.false_ne_true)] at h rt
        exact h v H' S.frame (end_ok hl rfl S hm S.sub) (rt.less S.sub)
  | some (.error x, ρ), h =>
    intro L' O' σ' c dd H' g S xr
    have h : fEnd K cl O H fn vs Q E ((mutsOf fn.muts ρ).map fun ms => (.error x, ms)) := h
    cases hm : mutsOf fn.muts ρ with
    | none => rw [hm] at h; exact h.elim
    | some ms =>
      rw [hm] at h
      exact h c dd H' S.frame (end_ok hl rfl S hm S.sub) (xrep_less S.sub xr)
/-- what is known of a def of the text -/
structure FnI (T : Tab) (K : PySem.W.Frag) (mg : Str → Option Value) (cl : Nat → Option Addr) (fi : Nat) (fn : Fn) : Prop where
  ml : fn.muts.length = fn.ps.length
  ex : ∃ (f : Addr) (st : Stmt) (oc : Value) (od : Option Addr) (dV kV doc pm : Value) (an : Option Addr) (cdv ct : Value) (osl : Array (Option Value)),
    FnAt T K mg cl fi fn f ∧ PySem.W.keepIn K (.ref f) = true ∧ K.lookup f = some ⟨oc, od, .func (PySem.W.fnOf fn.name fn.qual (defArgs st) (defBody st) (defScope st) dV kV doc pm an cdv ct), osl⟩ ∧ PySem.W.codeIn K cdv fn.qual = true ∧
    Binds K (PySem.W.fnOf fn.name fn.qual (defArgs st) (defBody st) (defScope st) dV kV doc pm an cdv ct) fn.ps [] ∧ (∀ dv ∈ fn.dfls, BindD K cl (PySem.W.fnOf fn.name fn.qual (defArgs st) (defBody st) (defScope st) dV kV doc pm an cdv ct) fn.ps dv) ∧ (∀ p ∈ fn.kws, KwOk K (PySem.W.fnOf fn.name fn.qual (defArgs st) (defBody st) (defScope st) dV kV doc pm an cdv ct) fn.ps p) ∧
    FnScope fn.ns fn.ps (defScope st) ∧ mSs (T.at fn.rp) fn.ns fn.own fn.body (defScope st) (defBody st) = true
/-- what is known of a generator def -/
structure GnI (T : Tab) (K : PySem.W.Frag) (mg : Str → Option Value) (cl : Nat → Option Addr) (fn : Fn) (g : Gs) : Prop where
  mf : fn.muts.all (fun b => !b) = true
  ml : fn.muts.length = fn.ps.length
  ex : ∃ (f : Addr) (st : Stmt) (oc : Value) (od : Option Addr) (dV kV doc pm : Value) (an : Option Addr) (cdv ct : Value) (osl : Array (Option Value)),
    mg fn.name = some (.ref f) ∧ PySem.W.keepIn K (.ref f) = true ∧ K.lookup f = some ⟨oc, od, .func (PySem.W.fnOf fn.name fn.qual (defArgs st) (defBody st) (defScope st) dV kV doc pm an cdv ct), osl⟩ ∧ PySem.W.codeIn K cdv fn.qual = true ∧
    (∀ p ∈ fn.kwds, KwD K cl (PySem.W.fnOf fn.name fn.qual (defArgs st) (defBody st) (defScope st) dV kV doc pm an cdv ct) fn.ps p) ∧ GScope fn.ns fn.ps (defScope st) ∧ mGs (T.at false) fn.ns g (defScope st) (defBody st) = true
/-- a def, of either kind -/
def DefI (T : Tab) (K : PySem.W.Frag) (mg : Str → Option Value) (cl : Nat → Option Addr) (fi : Nat) (fn : Fn) : Prop := match fn.gbody with
  | none => FnI T K mg cl fi fn
  | some g => GnI T K mg cl fn g
section
variable {T : Tab} {nF : Nat} {cl : Nat → Option Addr} {P : Program} {w : World} {K : PySem.W.Frag} {mg : Str → Option Value} {base : Heap}
theorem sto_fn {N ps : List Str} {qual : Str} {scope : Scope} {f : Addr} {cd : Value} {A : Around} {outer : List Env} {s : Shared} {H : Hp} {E : XK} : Sto N scope (cxM P w K mg base N qual scope f cd A outer s H E) := fun i x h => by
  unfold storeB at h
  rw [Bool.and_eq_true, decide_eq_true_eq] at h
  refine ⟨h.1, ?_, .inl rfl⟩
  have h2 := h.2
  unfold locB at h2
  split at h2
  · rename_i e; exact .inl e
  · rename_i e; exact .inr e
  · cases h2
theorem Facts.at {k : Nat} {cs : CS} (F : Facts T cs k cl P w K mg base) (b : Bool) : Facts (T.at b) cs k cl P w K mg base := ⟨F.glo, F.blt, F.xcls, F.isx, F.sup, F.flds, F.kdct, F.gens, F.nst, F.fns⟩
theorem vis_fn {scope : Scope} {x : Str} (h : visB scope x = true) : Vis scope x := by
  unfold visB at h
  split at h
  · rename_i e; exact .inl e
  · rename_i e; exact .inr (.inl e)
  · rename_i e; exact .inr (.inr e)
  · cases h
theorem runF_fn {k f : Nat} {fn : Fn} {ds : List IV} (hf : T.fns f = some fn) (hl : ds.length = fn.ps.length) : runF T.fns nF (k + 1) f ds = match fn.gbody with
    | none => endF fn (evSs (runF T.fns nF k) nF fn.body (fn.start ds))
    | some g => endG (evGs (runF T.fns nF k) nF g [] (fn.start ds)) := by
  show (match T.fns f with | none => none | some fn => if ds.length = fn.ps.length then match fn.gbody with | none => endF fn (evSs (runF T.fns nF k) nF fn.body (fn.start ds)) | some g => endG (evGs (runF T.fns nF k) nF g [] (fn.start ds)) else none) = _
  rw [hf]
  show (if ds.length = fn.ps.length then _ else _) = _
  rw [if_pos hl]
theorem fn_step {k f : Nat} {fn : Fn} (hf : T.fns f = some fn) (hg : fn.gbody = none) (I : FnI T K mg cl f fn) (F : Facts T (runF T.fns nF k) k cl P w K mg base) :
    ∃ a fd, FnAt T K mg cl f fn a ∧ PySem.W.keepIn K (.ref a) = true ∧ Binds K fd fn.ps [] ∧ (∀ dv ∈ fn.dfls, BindD K cl fd fn.ps dv) ∧ (∀ p ∈ fn.kws, KwOk K fd fn.ps p) ∧ FnR P w K mg base (5 * (k + 1)) fn.rp a fd fn.ps (spF (runF T.fns nF (k + 1)) K cl f fn) := by
  obtain ⟨a, st, oc, od, dV, kV, doc, pm, an, cdv, ct, osl, h1, h2, h3, h4, h5, h5', h6, h7, h8⟩ := I.ex
  refine ⟨a, _, h1, h2, h5, h5', h6, fnR_of (k := 5 * k + 4) h3 h4 h7 (fun vs H Q E ⟨_, _, _, z, _⟩ => z) fun A outer s H vs Q E gd room ⟨O, ds, live, hl, ar, nd, q⟩ => ?_⟩
  have ok : XOk (T.at fn.rp) (runF T.fns nF k) k ⟨K, cl, O, H, mutA fn.muts vs⟩ (fun c dd _ H' => E c dd H') fn.ns (defScope st) (cxM P w K mg base fn.ns fn.qual (defScope st) a cdv A outer s H E) :=
    ⟨rfl, h7.nd, fun x h => vis_fn h, fun x h => h, fun x h => h, rfl, gd, room, takes_of rfl rfl rfl rfl, passes_of rfl, rfl, F.at fn.rp⟩
  refine ⟨_, sSs (nF := nF) ⟨ok, rfl, h7.kind, sto_fn (ps := fn.ps)⟩ fn.body h8, [], O, fn.start ds, start_ok live hl ar nd, ?_⟩
  refine endF_ok (by rw [hl, I.ml]) ?_
  have e : runF T.fns nF (k + 1) f ds = endF fn (evSs (runF T.fns nF k) nF fn.body (fn.start ds)) := by
    rw [runF_fn hf (by rw [← (argR_len ar).2, hl]), hg]
  rw [← e]
  exact q
theorem inter_fn {N : List Str} {qual : Str} {scope : Scope} {f : Addr} {cd : Value} {A : Around} {outer : List Env} {s : Shared} {H : Hp} {E : XK} {pn : List (Addr × Obj)} (h : scope.kind = .function) : interactive (gcxOf P w K mg base N qual scope f cd A outer s H E pn).env = false := by
  show (scope.kind == _ && _) = false
  rw [h]
  rfl
theorem sto_gn {N : List Str} {qual : Str} {scope : Scope} {f : Addr} {cd : Value} {A : Around} {outer : List Env} {s : Shared} {H : Hp} {E : XK} {pn : List (Addr × Obj)} : Sto N scope (gcxOf P w K mg base N qual scope f cd A outer s H E pn) := fun i x h => by
  unfold storeB at h
  rw [Bool.and_eq_true, decide_eq_true_eq] at h
  refine ⟨h.1, ?_, .inl rfl⟩
  have h2 := h.2
  unfold locB at h2
  split at h2
  · rename_i e; exact .inl e
  · rename_i e; exact .inr e
  · cases h2
theorem gn_step {k f : Nat} {fn : Fn} {g : Gs} (hf : T.fns f = some fn) (hg : fn.gbody = some g) (I : GnI T K mg cl fn g) (F : Facts T (runF T.fns nF k) k cl P w K mg base) :
    ∃ a fd, mg fn.name = some (.ref a) ∧ PySem.W.keepIn K (.ref a) = true ∧ (∀ p ∈ fn.kwds, KwD K cl fd fn.ps p) ∧ GFn P w K mg base (5 * (k + 1)) a fd fn.ps (spG (runF T.fns nF (k + 1)) K cl f fn) := by
  obtain ⟨a, st, oc, od, dV, kV, doc, pm, an, cdv, ct, osl, h1, h2, h3, h4, h5, h7, h8⟩ := I.ex
  refine ⟨a, _, h1, h2, h5, gfn_of (k := 5 * k + 4) h3 h4 h7 (fun vs H Q E ⟨_, _, _, z, _⟩ => z) fun A outer s H vs Q E pn room ⟨O, ds, live, hl, hl2, ra, q⟩ => ?_⟩
  have mu : ∀ b ∈ fn.muts, b = false := fun b hb => by
    have z := List.all_eq_true.mp I.mf b hb
    simpa using z
  have no := mutA_pure (vs := vs) mu
  have ar : ArgR K cl O H fn.muts vs ds := argR_all (C := ⟨K, cl, O, H, []⟩) mu (by rw [I.ml, hl2]) ra
  have ok : XOk (T.at false) (runF T.fns nF k) k ⟨K, cl, O, H, mutA fn.muts vs⟩ (fun c dd _ H' => E c dd H') fn.ns (defScope st) (gcxOf P w K mg base fn.ns fn.qual (defScope st) a cdv A outer s H E pn) :=
    ⟨rfl, h7.nd, fun x h => vis_fn h, fun x h => h, fun x h => h, rfl, (fun z => nomatch z), room, takes_gcx, owns_gcx, rfl, F.at false⟩
  refine ⟨_, sGs (nF := nF) ⟨ok, rfl, h7.kind, sto_gn⟩ h7.co (inter_fn h7.kind) g h8, [], O, fn.start ds, [], start_ok live hl ar (by rw [filter_none no]; exact List.nodup_nil), .nil, ?_⟩
  have e : runF T.fns nF (k + 1) f ds = endG (evGs (runF T.fns nF k) nF g [] (fn.start ds)) := by
    rw [runF_fn hf hl2, hg]
  rw [e] at q
  have fr : ∀ {L' O' : List Addr} {σ' : L2.St} {ρ : List Sl} {H' : Hp}, SRel ⟨K, cl, O, H, mutA fn.muts vs⟩ L' O' σ' ρ H' → ∀ a o, H a = some o → H' a = some o := fun S a o z => S.frame a o z (no a)
  match hr : evGs (runF T.fns nF k) nF g [] (fn.start ds), q with
  | none, q => exact q
  | some (.ok (.bk, ys), ρ), q => exact q.elim
  | some (.ok (.ct, ys), ρ), q => exact q.elim
  | some (.ok (.rt d, ys), ρ), q => exact q.elim
  | some (.ok (.nx, ys), ρ), q => exact fun L' O' σ' H' zs gr S R => q zs H' gr.keep (fr S) (R.less S.sub)
  | some (.error x, ρ), q => exact fun L' O' σ' c dd H' gr S xr => q c dd H' (fr S) (xrep_less S.sub xr)
theorem facts_all (glo : ∀ p ∈ T.glo, ∃ u v, mg p.1 = some u ∧ RelV v u ∧ ∀ O H, Rep K cl O H v p.2) (blt : ∀ x ∈ T.blt, mg x = none) (xcs : ∀ c xc, T.xcls c = some xc → XF P K mg cl c xc) (isx : ∀ q ∈ T.isx, XI K mg cl q) (sup : T.xcls 0 ≠ none → mg "super" = none) (flds : ∀ p ∈ T.flds, ∃ C, cl p.1 = some C ∧ Cls K C ∧ NoAttr K C p.2)
    (kd : ∀ p ∈ T.kdct, ∃ a kv, mg p.1 = some (.ref a) ∧ KD w K a kv ∧ kv.map (·.1) = p.2.map (·.1) ∧ ∀ O H, RepAll K cl O H (kv.map (·.2)) (p.2.map (·.2))) (nst : ∀ c C, cl c = some C → PySem.W.subIn K (.ref C) (.type "StopIteration") = some false) (fns : ∀ f fn, T.fns f = some fn → DefI T K mg cl f fn) : ∀ k, Facts T (runF T.fns nF k) k cl P w K mg base
  | 0 => by
    refine ⟨glo, blt, xcs, isx, sup, flds, kd, fun f fn g hf hg => ?_, nst, fun f fn hf hg => ?_⟩
    · have I := fns f fn hf
      unfold DefI at I
      rw [hg] at I
      obtain ⟨a, st, oc, od, dV, kV, doc, pm, an, cdv, ct, osl, h1, h2, h3, h4, h5, h7, h8⟩ := I.ex
      exact ⟨a, _, h1, h2, h5, ⟨fun vs H Q E ⟨_, _, _, z, _⟩ => z, fun A outer s H args us vs Q E _ _ _ _ ⟨O, ds, _, _, _, _, q⟩ => (show False from q).elim⟩⟩
    · have I := fns f fn hf
      unfold DefI at I
      rw [hg] at I
      obtain ⟨a, st, oc, od, dV, kV, doc, pm, an, cdv, ct, osl, h1, h2, h3, h4, h5, h5', h6, h7, h8⟩ := I.ex
      exact ⟨a, _, h1, h2, h5, h5', h6, ⟨fun vs H Q E ⟨_, _, _, z, _⟩ => z, fun A outer s H args us vs Q E _ _ _ _ _ ⟨O, ds, _, _, _, _, q⟩ => (show False from q).elim⟩⟩
  | k + 1 => by
    have F := facts_all glo blt xcs isx sup flds kd nst fns k
    refine ⟨glo, blt, xcs, isx, sup, flds, kd, fun f fn g hf hg => ?_, nst, fun f fn hf hg => ?_⟩
    · have I := fns f fn hf
      unfold DefI at I
      rw [hg] at I
      exact gn_step hf hg I F
    · have I := fns f fn hf
      unfold DefI at I
      rw [hg] at I
      exact fn_step hf hg I F
end
end Mx


/-! Mx, part 6: the law's head. -/
namespace Mx
open PySem PySem.Spec PyProof.Rows L2
theorem mapInts : ∀ (ns : List Int), (ns.map V.int).length = ns.length := fun ns => List.length_map ..
theorem rep_ints {K : PySem.W.Frag} {cl : Nat → Option Addr} {O : List Addr} {H : Hp} : ∀ ns : List Int, RepAll K cl O H (ns.map V.int) (ns.map IV.int)
  | [] => .nil
  | n :: ns => .cons (.int n) (rep_ints ns)
theorem rep_script {K : PySem.W.Frag} {cl : Nat → Option Addr} {H : Hp} {a : Addr} {ns : List Int} (h : SqL K H a (ns.map V.int)) : Rep K cl [] H (.ref a) (.lst (ns.map IV.int)) := by
  rcases h with h | h
  · exact .lstH h (fun z => nomatch z) (rep_ints ns)
  · exact .lstK (.inr h) (rep_ints ns)
section
variable {P : Program} {w : World} {K : PySem.W.Frag} {mg mb : Str → Option Value} {k : Nat} {fa a : Addr} {x : Str} {sp : Sp} {st : Shared} {vs : List Value} {ns : List Int}
/-- the call of the law, from a heap H in which at most the script is tracked -/
theorem call_from {H : Hp} (inK : K.In st.heap) (glob : st.heap.Ns mainGlobals mg) (bltn : st.heap.Ns builtinsNs mb) (same : ∀ y : Str, y ≠ "__name__" → mb y = bootBuiltins y) (lim : st.heap.NoLimit) (gens : st.gens = #[])
    (obj : st.heap.get? a = some { cls := .type "list", data := .seq vs.toArray }) (room : Room k callerA)
    (prom : ∀ bs : Heap, K.In bs → bs.Ns mainGlobals mg → ∃ fd rp, Binds K fd [x] [] ∧ FnR P w K mg bs k rp fa fd [x] sp)
    (hsp : sp [.ref a] H (fun v _ => v = .bl true) fun _ _ _ => False) (only : Only H) (hok : HOk P w H st.heap) (one : ∀ b, H b ≠ none → b = a) (out : H a ≠ none → K.lookup a = none) :
    codeAny (model P w) callerA (.call (.ref fa) ⟨[.ref a], []⟩) (fun r s' => r = .ok (.ret (.bool true)) ∧ OldK st.heap s'.heap ∧ s'.os = st.os ∧ AllBare s'.gens) st := by
  have isA : ∀ {b : Addr} {u : HO}, H b = some u → b = a := fun q => one _ (by rw [q]; exact fun z => nomatch z)
  -- no dict is tracked
  have noDict : ∀ {b : Addr} {o : Obj} {es : Array DictEntry} {ep : Nat}, st.heap.get? b = some o → o.data = .dict es ep → H b = none := by
    intro b o es ep e d
    cases q : H b with
    | none => rfl
    | some u =>
      cases isA q
      rw [obj] at e
      cases e
      exact nomatch (show Data.seq vs.toArray _ = Data.dict es ep from d)
  have nsUp : ∀ {b : Addr} {m : Str → Option Value}, st.heap.Ns b m → (hidT st.heap H).Ns b m := by
    rintro b m ⟨o, es, ep, e, d, r⟩
    exact ⟨o, es, ep, hidT_get e (noDict e d), d, r⟩
  have kUp : K.In (hidT st.heap H) := by
    intro b o e
    refine hidT_get (inK b o e) ?_
    cases q : H b with
    | none => rfl
    | some u =>
      cases isA q
      rw [out (by rw [q]; exact fun z => nomatch z)] at e
      cases e
  obtain ⟨mc, lim1, lim2⟩ := lim
  have env : Env0 P w K mg (hidT st.heap H) callerA [] st H := by
    constructor
    · rfl
    · exact ⟨kUp, nsUp glob, ⟨mb, nsUp bltn, same⟩, ⟨mc, nsUp lim1, lim2⟩⟩
    · exact fun b o e => of_hidT e
    · exact Nat.le_of_eq (hidT_size _ _)
    · trivial
    · exact fun b hb => nomatch (show b ∈ ([] : List Addr) from hb)
    · exact hok
    · exact .of_eq gens
  obtain ⟨fd, rp, bnd, pr⟩ := prom _ kUp (nsUp glob)
  have go := pr.run callerA [] st H ⟨[.ref a], []⟩ [.ref a] [.ref a] _ _ (fun _ => rfl) room env (bnd st [.ref a] inK rfl) (.cons rfl .nil) hsp
  refine codeAny_mono go ?_
  intro r s' h
  match r, h with
  | .error e, h =>
    obtain ⟨_, _, _, _, _, _, _, _, _, _, _, _, z⟩ := (show L2.CX P w [] H st (fun _ _ _ => False) e s' from h)
    exact z.elim
  | .ok .next, h => exact h.elim
  | .ok .brk, h => exact h.elim
  | .ok .cont, h => exact h.elim
  | .ok (.ret u), ⟨v, H', os, bare, un, hok', rel, ev⟩ =>
    have ev : v = .bl true := ev
    subst ev
    cases (show u = Value.bool true from rel)
    refine ⟨rfl, OldK.of_keep ?_, os, bare⟩
    intro b o e
    cases q : H b with
    | none => exact un.keep b o e q (fun z => nomatch (show b ∈ ([] : List Addr) from z)) (fun z => nomatch z)
    | some u =>
      obtain z | ⟨ob, xs, z⟩ := only b
      · rw [q] at z; cases z
      · have e1 := (hok b _ z).1
        have e2 := (hok' b _ (un.frzs b ob _ z)).1
        rw [e] at e1
        cases e1
        exact e2
theorem call_law (inK : K.In st.heap) (glob : st.heap.Ns mainGlobals mg) (bltn : st.heap.Ns builtinsNs mb) (same : ∀ y : Str, y ≠ "__name__" → mb y = bootBuiltins y) (lim : st.heap.NoLimit) (gens : st.gens = #[])
    (obj : st.heap.get? a = some { cls := .type "list", data := .seq vs.toArray }) (hin : IntsAre vs ns) (small : ns.length ≤ sizeLine) (room : Room k callerA)
    (prom : ∀ bs : Heap, K.In bs → bs.Ns mainGlobals mg → ∃ fd rp, Binds K fd [x] [] ∧ FnR P w K mg bs k rp fa fd [x] sp)
    (hsp : ∀ H : Hp, SqL K H a (ns.map V.int) → sp [.ref a] H (fun v _ => v = .bl true) fun _ _ _ => False) :
    codeAny (model P w) callerA (.call (.ref fa) ⟨[.ref a], []⟩) (fun r s' => r = .ok (.ret (.bool true)) ∧ OldK st.heap s'.heap ∧ s'.os = st.os ∧ AllBare s'.gens) st := by
  have rel := vals_ints hin
  have ln := hin.length
  cases hk : K.lookup a with
  | some o =>
    have e := inK a o hk
    rw [obj] at e
    cases e
    have sq : SqL K (fun _ => none) a (ns.map V.int) := .inr ⟨_, vs.toArray, _, hk, rfl, rfl, rfl, by rw [List.size_toArray, ln]; exact small, by simpa using rel⟩
    refine call_from inK glob bltn same lim gens obj room prom (hsp _ sq) (fun _ => .inl rfl) ?_ (fun b z => absurd rfl z) (fun z => absurd rfl z)
    intro b u z
    exact nomatch (show (none : Option HO) = some u from z)
  | none =>
    let T0 : HO := .frz { cls := .type "list", data := .seq vs.toArray } (.lst (ns.map V.int))
    have at1 : (fun b => if b = a then some T0 else none : Hp) a = some T0 := if_pos rfl
    refine call_from (H := fun b => if b = a then some T0 else none) inK glob bltn same lim gens obj room prom (hsp _ (.inl (.inr ⟨_, at1⟩))) ?_ ?_ ?_ (fun _ => hk)
    · intro b
      by_cases hb : b = a
      · exact .inr ⟨_, _, if_pos hb⟩
      · exact .inl (if_neg hb)
    · intro b u z
      by_cases hb : b = a
      · subst hb
        cases at1.symm.trans z
        exact ⟨obj, by rw [mapInts]; exact small, vs, _, rel, obj⟩
      · cases (if_neg hb).symm.trans z
    · intro b z
      by_cases hb : b = a
      · exact hb
      · exact absurd (if_neg hb) z
end
/-- the head's goal, from a run of the law's def -/
theorem walk_run {l : PySem.W.OpenLaw} {n k nF iL : Nat} {q : Program} {loose : List Str} {XP : (Str → Option Value) → Heap → Prop} {YP : World → Heap → Prop} {d : DefRec} {K : Params → PySem.W.Frag} {x : Str} {T : Tab} {fn : Fn}
    (hn : l.most = some n) (hn2 : n ≤ sizeLine) (hdf : d.params.defaults = []) (room : Room (5 * k) callerA) (hY : ∀ (w : World) (h : Heap), YP w h → (K w.params).In h)
    (hfn : T.fns iL = some fn) (hgb : fn.gbody = none) (hgl : fn.glob = true) (hnm : fn.name = d.name) (hps : fn.ps = [x]) (hmu : fn.muts = [false]) (how : fn.own = false)
    (fac : ∀ (w : World) (mg : Str → Option Value) (h : Heap), (K w.params).In h → h.Ns mainGlobals mg → ∃ cl : Nat → Option Addr, (∀ p ∈ T.glo, ∃ u v, mg p.1 = some u ∧ RelV v u ∧ ∀ O H, Rep (K w.params) cl O H v p.2) ∧ (∀ y ∈ T.blt, mg y = none) ∧ (∀ c xc, T.xcls c = some xc → XF l.prog (K w.params) mg cl c xc) ∧ (∀ q ∈ T.isx, XI (K w.params) mg cl q) ∧ (T.xcls 0 ≠ none → mg "super" = none) ∧ (∀ p ∈ T.flds, ∃ C, cl p.1 = some C ∧ Cls (K w.params) C ∧ NoAttr (K w.params) C p.2) ∧ (∀ p ∈ T.kdct, ∃ a kv, mg p.1 = some (.ref a) ∧ KD w (K w.params) a kv ∧ kv.map (·.1) = p.2.map (·.1) ∧ ∀ O H, RepAll (K w.params) cl O H (kv.map (·.2)) (p.2.map (·.2))) ∧ (∀ c C, cl c = some C → PySem.W.subIn (K w.params) (.ref C) (.type "StopIteration") = some false) ∧ ∀ f fn, T.fns f = some fn → DefI T (K w.params) mg cl f fn)
    (run : ∀ ns : List Int, ns.length ≤ n → ∃ ms, runF T.fns nF k iL [.lst (ns.map .int)] = some (.ok (.bl true), ms)) :
    PySem.W.WalkO q loose XP YP l.row.toRowW d [] (fun f vs => PySem.call f vs) := by
  refine Att.attach_call hn hdf fun w s₀ s₁ mg mb fa o pm cd doc a vs ns G Y ho hd hcd hmg hobj hints hlen hg => ?_
  have inK := hY w _ Y
  obtain ⟨cl, glo, blt, xcs, isx, sup, flds, kd, nst, fns⟩ := fac w mg _ inK G.T.g
  refine call_law (x := x) (sp := spF (runF T.fns nF k) (K w.params) cl iL fn) inK G.T.g G.T.b G.T.builtins G.T.nolimit hg hobj hints (Nat.le_trans hlen hn2) room ?_ ?_
  · intro bs _ _
    obtain ⟨a', fd, e1, _, e3, _, _, e5⟩ := (facts_all (nF := nF) (P := l.prog) (w := w) (base := bs) glo blt xcs isx sup flds kd nst fns k).fns iL fn hfn hgb
    have e1 := e1.1 hgl
    rw [hnm, hmg] at e1
    cases e1
    rw [hps] at e3 e5
    exact ⟨fd, fn.rp, e3, e5⟩
  · intro H sq
    obtain ⟨ms, hr⟩ := run ns hlen
    refine ⟨[], [.lst (ns.map IV.int)], fun _ z => (nomatch z), by rw [hps]; rfl, by rw [hmu]; exact ⟨rep_script sq, trivial⟩, by rw [hmu]; exact List.nodup_nil, ?_⟩
    rw [hr]
    show if fn.own = true then _ else _
    rw [if_neg (by rw [how]; exact Bool.false_ne_true)]
    intro v H' _ _ rp
    cases rp
    rfl
inductive AllQ {α : Type} (p : α → Prop) : List α → Prop
  | nil : AllQ p []
  | cons {x : α} {xs : List α} : p x → AllQ p xs → AllQ p (x :: xs)
theorem AllQ.mem {α : Type} {p : α → Prop} : ∀ {l : List α}, AllQ p l → ∀ x ∈ l, p x
  | _, .nil, _, h => nomatch h
  | _, .cons a r, x, h => by
    rcases List.mem_cons.mp h with e | e
    · rw [e]; exact a
    · exact AllQ.mem r x e
/-! ### what the top has written -/
def scopeB (N P : List Str) (sc : Scope) : Bool :=
  (match sc.kind with | .function => true | _ => false) && (!sc.isCoroutine && !sc.isGenerator) && (decide N.Nodup && decide (N.take P.length = P)) && (P.all (locB sc) && sc.names.all fun y => match y.2 with | .free => false | _ => true)
theorem scope_of {N P : List Str} {sc : Scope} (h : scopeB N P sc = true) : FnScope N P sc := by
  unfold scopeB at h
  simp only [Bool.and_eq_true, Bool.not_eq_true', decide_eq_true_eq, List.all_eq_true] at h
  obtain ⟨⟨⟨h1, h2, h3⟩, h4, h5⟩, h6, h7⟩ := h
  constructor
  · split at h1
    · assumption
    · cases h1
  · exact h2
  · exact h3
  · exact h4
  · exact h5
  · intro x hx
    have z := h6 x hx
    unfold locB at z
    split at z
    · rename_i e; exact .inl e
    · rename_i e; exact .inr e
    · cases z
  · intro y hy e
    have z := h7 y hy
    rw [e] at z
    cases z
def litB : Value → IV → Bool
  | .none, .non => true
  | .bool a, .bl b => a == b
  | .int a _, .int b => a == b
  | .str s _, .str l => decide (s = sOf l)
  | _, _ => false
def litsB : List Value → List IV → Bool
  | [], [] => true
  | u :: us, d :: ds => litB u d && litsB us ds
  | _, _ => false
theorem lit_ok {u : Value} {d : IV} (h : litB u d = true) : ∃ v, RelV v u ∧ ∀ (K : PySem.W.Frag) (cl : Nat → Option Addr) (O : List Addr) (H : Hp), Rep K cl O H v d := by
  match u, d, h with
  | .none, .non, _ => exact ⟨.non, rfl, fun _ _ _ _ => .non⟩
  | .bool a, .bl b, h => cases (show a = b by simpa [litB] using h); exact ⟨.bl a, rfl, fun _ _ _ _ => .bl a⟩
  | .int a t, .int b, h => cases (show a = b by simpa [litB] using h); exact ⟨.int a, ⟨t, rfl⟩, fun _ _ _ _ => .int a⟩
  | .str s t, .str l, h => cases (show s = sOf l by simpa [litB] using h); exact ⟨.str (sOf l), ⟨t, rfl⟩, fun _ _ _ _ => .str l⟩
theorem lits_ok : ∀ {us : List Value} {ds : List IV}, litsB us ds = true → ∃ vs, Vals vs us ∧ ∀ (K : PySem.W.Frag) (cl : Nat → Option Addr) (O : List Addr) (H : Hp), RepAll K cl O H vs ds
  | [], [], _ => ⟨[], .nil, fun _ _ _ _ => .nil⟩
  | u :: us, d :: ds, h => by
    have h' : (litB u d && litsB us ds) = true := h
    rw [Bool.and_eq_true] at h'
    obtain ⟨v, r, p⟩ := lit_ok h'.1
    obtain ⟨vs, rs, ps⟩ := lits_ok h'.2
    exact ⟨v :: vs, .cons r rs, fun K cl O H => .cons (p K cl O H) (ps K cl O H)⟩
  | [], _ :: _, h => nomatch h
  | _ :: _, [], h => nomatch h
def tupB (o : Obj) (ds : List IV) : Bool := (match o.cls with | .type n => n == "tuple" | _ => false) && match o.data with
  | .seq its _ => decide (its.size ≤ SZ) && litsB its.toList ds
  | _ => false
section
variable {K : PySem.W.Frag} {cl : Nat → Option Addr} {h : Heap} {mg : Str → Option Value}
theorem glo_lit {x : Str} {u : Value} {d : IV} (X : K.In h) (G : h.Ns mainGlobals mg) (a : PySem.W.nsIn K mainGlobals x = some (some u)) (e : litB u d = true) : ∃ u v, mg (x, d).1 = some u ∧ RelV v u ∧ ∀ O H, Rep K cl O H v (x, d).2 := by
  obtain ⟨v, r, p⟩ := lit_ok e
  exact ⟨u, v, PySem.W.mg_of X G a, r, fun O H => p K cl O H⟩
theorem glo_tup {x : Str} {p : Addr} {o : Obj} {ds : List IV} (X : K.In h) (G : h.Ns mainGlobals mg) (a : PySem.W.nsIn K mainGlobals x = some (some (.ref p))) (l : K.lookup p = some o) (e : tupB o ds = true) :
    ∃ u v, mg (x, IV.tup ds).1 = some u ∧ RelV v u ∧ ∀ O H, Rep K cl O H v (x, IV.tup ds).2 := by
  unfold tupB at e
  rw [Bool.and_eq_true] at e
  obtain ⟨e1, e2⟩ := e
  have hc : o.cls = .type "tuple" := by
    split at e1
    · rename_i n en
      rw [en, eq_of_beq e1]
    · cases e1
  split at e2
  · rename_i its n hd
    rw [Bool.and_eq_true, decide_eq_true_eq] at e2
    obtain ⟨vs, r, q⟩ := lits_ok e2.2
    exact ⟨.ref p, .ref p, PySem.W.mg_of X G a, rfl, fun O H => .tupK (.inr ⟨o, its, n, l, hc, hd, szl e2.1, r⟩) (q K cl O H)⟩
  · cases e2
theorem fni {T : Tab} {cl : Nat → Option Addr} {fi : Nat} {fn : Fn} {st : Stmt} {f : Addr} {oc : Value} {od an : Option Addr} {dV kV doc pm cdv ct : Value} {osl : Array (Option Value)} (ml : fn.muts.length = fn.ps.length)
    (a : FnAt T K mg cl fi fn f) (l : K.lookup f = some ⟨oc, od, .func (PySem.W.fnOf fn.name fn.qual (defArgs st) (defBody st) (defScope st) dV kV doc pm an cdv ct), osl⟩) (c : PySem.W.codeIn K cdv fn.qual = true)
    (kp : PySem.W.keepIn K (.ref f) = true) (b : Binds K (PySem.W.fnOf fn.name fn.qual (defArgs st) (defBody st) (defScope st) dV kV doc pm an cdv ct) fn.ps []) (bd : ∀ dv ∈ fn.dfls, BindD K cl (PySem.W.fnOf fn.name fn.qual (defArgs st) (defBody st) (defScope st) dV kV doc pm an cdv ct) fn.ps dv)
    (kw : ∀ p ∈ fn.kws, KwOk K (PySem.W.fnOf fn.name fn.qual (defArgs st) (defBody st) (defScope st) dV kV doc pm an cdv ct) fn.ps p) (sc : FnScope fn.ns fn.ps (defScope st)) (m : mSs (T.at fn.rp) fn.ns fn.own fn.body (defScope st) (defBody st) = true) : FnI T K mg cl fi fn :=
  ⟨ml, f, st, oc, od, dV, kV, doc, pm, an, cdv, ct, osl, a, kp, l, c, b, bd, kw, sc, m⟩
end
end Mx


/-! Mx, part 6b: what the top has written of exception classes. -/
namespace Mx
open PySem PySem.Spec PyProof.Rows L2
def clsBody : Stmt → List Stmt
  | .ClassDef _ _ _ body _ _ _ _ _ _ _ => body
  | _ => []
def headB (p : Arguments) : Bool := match (p.posonlyargs ++ p.args).head? with
  | some ar => decide (ar.arg = ("self" : Str))
  | none => false
def initOk (ps : List Str) (st : Stmt) : Bool := headB (defArgs st) && (initB ps (defBody st) && scB ps (defScope st))
def fileB (P : Program) (vs : Array Value) : Bool := match (vs[2]? : Option Value) with
  | some (Value.str f _) => ((P.main.file : Str) == f)
  | _ => false
def NoF (K : PySem.W.Frag) (C : Addr) : List Str → Prop
  | [] => True
  | f :: fs => PySem.W.findIn K (.ref C) f = some none ∧ NoF K C fs
theorem NoF.all {K : PySem.W.Frag} {C : Addr} : ∀ {ps : List Str}, NoF K C ps → ∀ f ∈ ps, PySem.W.findIn K (.ref C) f = some none
  | _ :: _, h, f, hf => (List.mem_cons.mp hf).elim (fun e => by rw [e]; exact h.1) fun e => h.2.all f e
/-- what all exception classes share -/
structure XK (P : Program) (K : PySem.W.Frag) : Prop where
  cn : PySem.W.specialIn K (.builtin "object.__class__") "__get__" = some (some (.builtin "getset_descriptor.__get__"))
  ctk : PySem.W.takesIn K (.builtin "object.__class__") = some true
  top : (P.main.scope.names.lookup ("super" : Str)).isSome = false
  opq : PySem.W.nsIn K cStatics "thirdparty.any" = some none
theorem xk_mk {P : Program} {K : PySem.W.Frag} {h : Heap} (X : K.In h) (cn : PySem.W.specialIn K (.builtin "object.__class__") "__get__" = some (some (.builtin "getset_descriptor.__get__"))) (ctk : PySem.W.takesIn K (.builtin "object.__class__") = some true) (top : (P.main.scope.names.lookup ("super" : Str)).isSome = false) (opq : PySem.W.nsIn K cStatics "thirdparty.any" = some none) : XK P K := ⟨cn, ctk, top, opq⟩
def XFC (P : Program) (K : PySem.W.Frag) (mg : Str → Option Value) (C : Addr) (xc : Xc) : Prop := (∀ cl c, cl c = some C → XF P K mg cl c xc) ∧ XGet K C
section
variable {P : Program} {K : PySem.W.Frag} {h : Heap} {mg : Str → Option Value} {cl : Nat → Option Addr} {c : Nat} {xc : Xc} {C fI : Addr} {B newId i : String} {bmB : List Value}
theorem xf_own {st : Stmt} {qual : Str} {dV kV doc pm ct ccl cl' : Value} {an od cdd cld : Option Addr} {cda cc : Addr} {osl ccs csl : Array (Option Value)} {vs : Array Value} (xk : XK P K) (X : K.In h) (G : h.Ns mainGlobals mg) (ho : xc.own = true) (few : xc.ps.length ≤ 100)
    (a : PySem.W.nsIn K mainGlobals xc.name = some (some (.ref C))) (base : XBase B newId i bmB) (ini : PySem.W.excInitIn K C bmB newId = true) (ovr : PySem.W.excOver K C bmB = true) (hd : PySem.W.hasDictIn K C = true)
    (sa : PySem.W.findIn K (.ref C) "__setattr__" = some (some (.builtin "object.__setattr__"))) (kC : PySem.W.keepIn K (.ref C) = true)
    (ga : PySem.W.findIn K (.ref C) "__getattribute__" = some (some (.builtin "BaseException.__getattribute__"))) (gg : PySem.W.findIn K (.ref C) "__getattr__" = some none) (sub : PySem.W.subIn K (.ref C) (.type "BaseException") = some true)
    (ca : PySem.W.findIn K (.ref C) "__class__" = some (some (.builtin "object.__class__"))) (cm : PySem.W.mroIn K C (.type "object") = some true)
    (no : NoF K C xc.ps) (find : PySem.W.findIn K (.ref C) "__init__" = some (some (.ref fI))) (sup : PySem.W.ks_superIn K C C "__init__" = some (some (.builtin i))) (subB : PySem.W.subIn K (.ref C) (.type B) = some true) (mroC : PySem.W.mroIn K C (.ref C) = some true)
    (hfn : PySem.W.isFn K (.ref fI) = true)
    (lf : K.lookup fI = some ⟨.type "function", od, .func (PySem.W.ksFn "__init__" qual (defArgs st) (defBody st) (defScope st) dV kV doc pm an (.ref cda) ct cc), osl⟩) (lc : PySem.W.codeIn K (.ref cda) qual = true) (lk : K.lookup cda = some ⟨ccl, cdd, .fields vs, ccs⟩) (file : fileB P vs = true)
    (lcc : K.lookup cc = some ⟨cl', cld, .cell (some (.ref C)), csl⟩) (ok : initOk xc.ps st = true) (b : Binds K (PySem.W.ksFn "__init__" qual (defArgs st) (defBody st) (defScope st) dV kV doc pm an (.ref cda) ct cc) (("self" : Str) :: xc.ps) [])
    (kw : ∀ p ∈ xc.kws, KwOk K (PySem.W.ksFn "__init__" qual (defArgs st) (defBody st) (defScope st) dV kV doc pm an (.ref cda) ct cc) (("self" : Str) :: xc.ps) (p.1 + 1, p.2.1, 0 :: p.2.2.map (· + 1)))   : XFC P K mg C xc := by
  unfold initOk headB at ok
  simp only [Bool.and_eq_true] at ok
  obtain ⟨o1, o2, o3⟩ := ok
  split at o1
  · rename_i ar har
    unfold fileB at file
    split at file
    · rename_i f tf hf
      refine ⟨fun cl c hcl => ⟨C, B, newId, i, bmB, hcl, PySem.W.mg_of X G a, ⟨base, ini, ovr, hd, sa, kC⟩, ⟨ga, gg, sub, ca, xk.cn, xk.ctk, cm, hd⟩, no.all, few, ?_⟩, ⟨ga, gg, sub, ca, xk.cn, xk.ctk, cm, hd⟩⟩
      rw [if_pos ho]
      exact ⟨fI, _, ⟨find, sup, subB, mroC, no.all, few, xk.top, xk.opq, _, _, _, _, _, _, _, _, _, _, _, _, _, _, _, _, _, _, _, _, _, _, _, _, _, rfl, lf, lc, lk, hf, file, lcc, har, of_decide_eq_true o1, o2, o3⟩, hfn, b, kw⟩
    · cases file
  · cases o1
theorem xf_none (xk : XK P K) (X : K.In h) (G : h.Ns mainGlobals mg) (ho : xc.own = false) (hps : xc.ps = []) (hkw : xc.kws = [])
    (a : PySem.W.nsIn K mainGlobals xc.name = some (some (.ref C))) (base : XBase B newId i bmB) (ini : PySem.W.excInitIn K C bmB newId = true) (ovr : PySem.W.excOver K C bmB = true) (hd : PySem.W.hasDictIn K C = true)
    (sa : PySem.W.findIn K (.ref C) "__setattr__" = some (some (.builtin "object.__setattr__"))) (kC : PySem.W.keepIn K (.ref C) = true)
    (ga : PySem.W.findIn K (.ref C) "__getattribute__" = some (some (.builtin "BaseException.__getattribute__"))) (gg : PySem.W.findIn K (.ref C) "__getattr__" = some none) (sub : PySem.W.subIn K (.ref C) (.type "BaseException") = some true)
    (ca : PySem.W.findIn K (.ref C) "__class__" = some (some (.builtin "object.__class__"))) (cm : PySem.W.mroIn K C (.type "object") = some true)
    (find : PySem.W.findIn K (.ref C) "__init__" = some (some (.builtin i))) : XFC P K mg C xc := by
  have n1 : ∀ f ∈ xc.ps, PySem.W.findIn K (.ref C) f = some none := fun f hf => by rw [hps] at hf; cases hf
  have n2 : xc.ps.length ≤ 100 := by rw [hps]; exact Nat.zero_le _
  refine ⟨fun cl c hcl => ⟨C, B, newId, i, bmB, hcl, PySem.W.mg_of X G a, ⟨base, ini, ovr, hd, sa, kC⟩, ⟨ga, gg, sub, ca, xk.cn, xk.ctk, cm, hd⟩, n1, n2, ?_⟩, ⟨ga, gg, sub, ca, xk.cn, xk.ctk, cm, hd⟩⟩
  rw [if_neg (by rw [ho]; exact Bool.false_ne_true)]
  exact ⟨hps, hkw, find⟩
theorem xs_all {as : List Addr} {xcs : List Xc} (p : Paired (XFC P K mg) as xcs) : ∀ (c : Nat) (xc : Xc), xcs[c]? = some xc → ∃ C, as[c]? = some C ∧ XFC P K mg C xc := by
  induction p with
  | nil => intro c xc h; simp at h
  | cons a r ih =>
    intro c xc h
    cases c with
    | zero => simp at h; subst h; exact ⟨_, rfl, a⟩
    | succ c =>
      obtain ⟨C, h1, h2⟩ := ih c xc (by simpa using h)
      exact ⟨C, by simpa using h1, h2⟩
/-! ### isinstance -/
/-- the mro of a class -/
def mroOfK (K : PySem.W.Frag) (C : Addr) (M : List Value) : Prop := ∃ cd, PySem.W.clsIn K C = some cd ∧ cd.mro = M
/-- u is a class that isinstance knows -/
def ClsOk (K : PySem.W.Frag) : Value → Prop
  | .ref D => ∃ cd, PySem.W.clsIn K D = some cd ∧ PySem.W.typeIn K (.ref D) = some (.type "type")
  | .type T => PySem.W.kitMeta T = true
  | _ => False
theorem kit_mro {M : List Value} {u : Value} (m : mroOfK K C M) (ne : M.isEmpty = false) (hself : M.contains (.ref C) = true) (o : ClsOk K u) : PySem.W.kitOne K (.ref C) u = some (M.contains u) := by
  obtain ⟨cd, hc, rfl⟩ := m
  unfold PySem.W.kitOne
  by_cases e : (Value.ref C == u) = true
  · rw [if_pos e, ← eq_of_beq e, hself]
  · rw [if_neg e]
    have sb : PySem.W.subIn K (.ref C) u = some (cd.mro.contains u) := by
      show PySem.W.mroIn K C u = _
      unfold PySem.W.mroIn
      rw [hc, Option.bind_some, if_neg (by rw [ne]; decide)]
    cases u with
    | ref D =>
      obtain ⟨cd', h1, h2⟩ := o
      unfold PySem.W.kitCls
      dsimp only
      rw [h1, h2, if_pos (by simp), sb]
    | type T =>
      unfold PySem.W.kitCls
      dsimp only
      rw [if_pos (show PySem.W.kitMeta T = true from o), sb]
    | _ => exact o.elim
/-- the answer for several classes -/
theorem kit_all {M : List Value} (m : mroOfK K C M) (ne : M.isEmpty = false) (hself : M.contains (.ref C) = true) : ∀ {us : List Value}, (∀ u ∈ us, ClsOk K u) → PySem.W.kitAny K (.ref C) us = some (us.any fun u => M.contains u)
  | [], _ => rfl
  | u :: us, h => by
    unfold PySem.W.kitAny
    rw [kit_mro m ne hself (h u (List.mem_cons_self ..))]
    cases e : M.contains u with
    | true => simp only [List.any_cons, e, Bool.true_or]
    | false => simp only [List.any_cons, e, Bool.false_or]; exact kit_all m ne hself fun v hv => h v (List.mem_cons_of_mem _ hv)
/-- the tables: addresses of the classes, their mros -/
structure XTab (K : PySem.W.Frag) (cl : Nat → Option Addr) (as : List (Addr × List Value)) : Prop where
  cl : ∀ c, cl c = as[c]?.map (·.1)
  mro : ∀ p ∈ as, mroOfK K p.1 p.2 ∧ XGet K p.1
def tabB (as : List (Addr × List Value)) : Bool := as.all fun p => !p.2.isEmpty && p.2.contains (.ref p.1)
def isxB (as : List (Addr × List Value)) (us : List Value) (ys ns : List Nat) : Bool := ys.all (fun c => match as[c]? with | some p => us.any fun u => p.2.contains u | none => true) && ns.all (fun c => match as[c]? with | some p => !(us.any fun u => p.2.contains u) | none => true)
theorem xi_mk {as : List (Addr × List Value)} {q : List Str × Bool × List Nat × List Nat} {vs : List V} {us : List Value} (t : XTab K cl as) (tb : tabB as = true) (nv : NmVs mg q.1 vs us) (ok : ∀ u ∈ us, ClsOk K u) (b : isxB as us q.2.2.1 q.2.2.2 = true) : XI K mg cl q := by
  unfold isxB at b
  rw [Bool.and_eq_true, List.all_eq_true, List.all_eq_true] at b
  unfold tabB at tb
  rw [List.all_eq_true] at tb
  have one : ∀ c C, cl c = some C → ∃ p, as[c]? = some p ∧ p.1 = C ∧ XGet K C ∧ PySem.W.kitAny K (.ref C) us = some (us.any fun u => p.2.contains u) := fun c C h => by
    rw [t.cl] at h
    obtain ⟨p, hp, rfl⟩ := Option.map_eq_some_iff.mp h
    have mp := List.mem_of_getElem? hp
    obtain ⟨m1, m2⟩ := t.mro p mp
    have z := tb p mp
    rw [Bool.and_eq_true, Bool.not_eq_true'] at z
    exact ⟨p, hp, rfl, m2, kit_all m1 z.1 z.2 ok⟩
  refine ⟨vs, us, nv, fun c hc C h => ?_, fun c hc C h => ?_⟩
  · obtain ⟨p, hp, _, g, k⟩ := one c C h
    have z := b.1 c hc
    rw [hp] at z
    exact ⟨g, by rw [k]; exact congrArg some z⟩
  · obtain ⟨p, hp, _, g, k⟩ := one c C h
    have z := b.2 c hc
    rw [hp] at z
    exact ⟨g, by rw [k]; simpa using z⟩
theorem nm_own {x : Str} {D : Addr} {xs : List Str} {vs : List V} {us : List Value} (X : K.In h) (G : h.Ns mainGlobals mg) (a : PySem.W.nsIn K mainGlobals x = some (some (.ref D))) (r : NmVs mg xs vs us) : NmVs mg (x :: xs) (.ref D :: vs) (.ref D :: us) := .cons (.inl ⟨D, PySem.W.mg_of X G a, rfl, rfl⟩) r
theorem nm_blt {x : Str} {n : String} {xs : List Str} {vs : List V} {us : List Value} (X : K.In h) (G : h.Ns mainGlobals mg) (a : PySem.W.nsIn K mainGlobals x = some none) (b : bootBuiltins x = some (.type n)) (e : x ≠ "__name__") (r : NmVs mg xs vs us) : NmVs mg (x :: xs) (.ty n :: vs) (.type n :: us) := .cons (.inr ⟨n, PySem.W.mg_none_of X G a, b, e, rfl, rfl⟩) r
end
end Mx


/-! Mx, part 6d: what the top has written of classes, defaults, dicts, generators. -/
namespace Mx
open PySem PySem.Spec PyProof.Rows L2
section
variable {T : Tab} {K : PySem.W.Frag} {h : Heap} {mg : Str → Option Value} {cl : Nat → Option Addr} {fi : Nat} {fn : Fn} {f : Addr} {fd : FuncData} {ps : List Str}
/-! ### where a def stands -/
def noM (T : Tab) (fi : Nat) : Bool := T.meths.all fun p => decide (p.2.2 ≠ fi)
def noN (T : Tab) (fi : Nat) : Bool := T.news.all fun p => decide (p.2.2 ≠ fi)
theorem noM_ok (h : noM T fi = true) {p : Nat × Str × Nat} (hp : p ∈ T.meths) (e : p.2.2 = fi) : False := absurd e (of_decide_eq_true (List.all_eq_true.mp h p hp))
theorem noN_ok (h : noN T fi = true) {p : Nat × Str × Nat} (hp : p ∈ T.news) (e : p.2.2 = fi) : False := absurd e (of_decide_eq_true (List.all_eq_true.mp h p hp))
theorem at_glob (X : K.In h) (G : h.Ns mainGlobals mg) (hm : noM T fi = true) (hn : noN T fi = true) (a : PySem.W.nsIn K mainGlobals fn.name = some (some (.ref f))) : FnAt T K mg cl fi fn f :=
  ⟨fun _ => PySem.W.mg_of X G a, fun p hp e => (noM_ok hm hp e).elim, fun p hp e => (noN_ok hn hp e).elim⟩
theorem at_meth {c : Nat} {m : Str} {C : Addr} (hg : fn.glob = false) (hm : (T.meths.all fun p => decide (p.2.2 = fi → p.1 = c ∧ p.2.1 = m)) = true) (hn : noN T fi = true) (hc : cl c = some C) (c1 : Cls K C) (c2 : Meth K C m f) : FnAt T K mg cl fi fn f := by
  refine ⟨fun z => (by rw [hg] at z; cases z), fun p hp e => ?_, fun p hp e => (noN_ok hn hp e).elim⟩
  obtain ⟨e1, e2⟩ := of_decide_eq_true (List.all_eq_true.mp hm p hp) e
  rw [e1, e2]
  exact ⟨C, hc, c1, c2⟩
theorem at_init {c : Nat} {y : Str} {C : Addr} (X : K.In h) (G : h.Ns mainGlobals mg) (hg : fn.glob = false) (hm : noM T fi = true) (hn : (T.news.all fun p => decide (p.2.2 = fi → p.1 = c ∧ p.2.1 = y)) = true) (hc : cl c = some C) (a : PySem.W.nsIn K mainGlobals y = some (some (.ref C))) (c2 : Mk K C f) : FnAt T K mg cl fi fn f := by
  refine ⟨fun z => (by rw [hg] at z; cases z), fun p hp e => (noM_ok hm hp e).elim, fun p hp e => ?_⟩
  obtain ⟨e1, e2⟩ := of_decide_eq_true (List.all_eq_true.mp hn p hp) e
  rw [e1, e2]
  exact ⟨C, hc, PySem.W.mg_of X G a, c2⟩
/-! ### defaults -/
def dflB (o : Obj) (dv : List IV) : Bool := match o.data with
  | .seq its _ => litsB its.toList dv
  | _ => false
theorem lits_len : ∀ {us : List Value} {ds : List IV}, litsB us ds = true → us.length = ds.length
  | [], [], _ => rfl
  | u :: us, d :: ds, h => by
    have h' : (litB u d && litsB us ds) = true := h
    rw [Bool.and_eq_true] at h'
    rw [List.length_cons, List.length_cons, lits_len h'.2]
  | [], _ :: _, h => nomatch h
  | _ :: _, [], h => nomatch h
theorem lits_drop : ∀ {us : List Value} {ds : List IV} (j : Nat), litsB us ds = true → litsB (us.drop j) (ds.drop j) = true
  | us, ds, 0, h => h
  | [], [], j + 1, _ => rfl
  | u :: us, d :: ds, j + 1, h => by
    have h' : (litB u d && litsB us ds) = true := h
    rw [Bool.and_eq_true] at h'
    exact lits_drop j h'.2
  | [], _ :: _, _, h => nomatch h
  | _ :: _, [], _, h => nomatch h
theorem dfl_ex {o : Obj} {dv : List IV} (h : dflB o dv = true) : ∃ its n, o.data = .seq its n ∧ litsB its.toList dv = true := by
  unfold dflB at h
  split at h
  · rename_i its n e; exact ⟨its, n, e, h⟩
  · cases h
/-- n parameters are given, the defaults behind the first j fill up -/
theorem bindT {Td : Addr} {o : Obj} {dv : List IV} (lT : K.lookup Td = some o) (td : dflB o dv = true) (n j : Nat) (hn : n + (dv.length - j) = ps.length)
    (hb : ∀ us its : List Value, us.length = n → its.length = dv.length → ∃ k, bindArgs fd ⟨us, []⟩ = seqItems? (.ref Td) >>= k ∧ k (some its.toArray) = pure (ps.zip (us ++ its.drop j))) : BindD K cl fd ps (dv.drop j) := by
  obtain ⟨its, m, ed, hl⟩ := dfl_ex td
  obtain ⟨vs, r, rp⟩ := lits_ok (lits_drop j hl)
  refine ⟨its.toList.drop j, vs, fun s us hK hlen => ?_, r, fun O H => rp K cl O H⟩
  have l1 := lits_len hl
  have l2 : us.length = n := by
    rw [List.length_append, List.length_drop, l1] at hlen
    omega
  obtain ⟨k, e1, e2⟩ := hb us its.toList l2 l1
  refine BindsTo.of_looks fun M => ?_
  rw [e1]
  rw [Array.toArray_toList] at e2
  exact looks_items hK lT ed (PySem.W.Looks.of_pure e2)
theorem bindT0 {Td : Addr} {o : Obj} {dv : List IV} (lT : K.lookup Td = some o) (td : dflB o dv = true)
    (hb : ∀ us its : List Value, us.length = ps.length → its.length = dv.length → ∃ k, bindArgs fd ⟨us, []⟩ = seqItems? (.ref Td) >>= k ∧ k (some its.toArray) = pure (ps.zip us)) : Binds K fd ps [] := by
  obtain ⟨its, m, ed, hl⟩ := dfl_ex td
  intro s us hK hlen
  rw [List.append_nil] at hlen ⊢
  obtain ⟨k, e1, e2⟩ := hb us its.toList hlen (lits_len hl)
  refine BindsTo.of_looks fun M => ?_
  rw [e1]
  rw [Array.toArray_toList] at e2
  exact looks_items hK lT ed (PySem.W.Looks.of_pure e2)
/-! ### keywords of a generator def -/
theorem kwd_full {n : Nat} {ks : List Str} {perm : List Nat} (hb : ∀ us ws zs : List Value, us.length = n → ws.length = ks.length → pick (us ++ ws) perm = some zs → bindArgs fd ⟨us, ks.zip ws⟩ = pure (ps.zip zs)) : KwD K cl fd ps (n, ks, [], perm) := by
  refine ⟨[], [], .nil, fun _ _ => .nil, fun s us ws zs hK h1 h2 h3 => ?_⟩
  rw [List.append_nil] at h3
  exact .of_eq (hb us ws zs h1 h2 h3)
theorem kwd_one {n : Nat} {ks : List Str} {perm : List Nat} {D : Addr} {x : Str} {u : Value} {d : IV} (a : PySem.W.nsIn K D x = some (some u)) (l : litB u d = true)
    (hb : ∀ us ws zs : List Value, us.length = n → ws.length = ks.length → pick (us ++ ws ++ [u]) perm = some zs → KwChain D [(x, u)] (bindArgs fd ⟨us, ks.zip ws⟩) (ps.zip zs)) : KwD K cl fd ps (n, ks, [d], perm) := by
  obtain ⟨v, r, rp⟩ := lit_ok l
  refine ⟨[u], [v], .cons r .nil, fun O H => .cons (rp K cl O H) .nil, fun s us ws zs hK h1 h2 h3 => ?_⟩
  refine BindsTo.of_looks fun M => KwChain.looks hK (fun q hq => ?_) (hb us ws zs h1 h2 h3)
  rcases List.mem_cons.mp hq with e | e
  · rw [e]; exact a
  · cases e
def gscopeB (N P : List Str) (sc : Scope) : Bool :=
  (match sc.kind with | .function => true | _ => false) && (!sc.isCoroutine && sc.isGenerator) && (decide N.Nodup && decide (N.take P.length = P)) && (P.all (locB sc) && sc.names.all fun y => match y.2 with | .free => false | _ => true)
theorem gscope_of {N P : List Str} {sc : Scope} (h : gscopeB N P sc = true) : GScope N P sc := by
  unfold gscopeB at h
  simp only [Bool.and_eq_true, Bool.not_eq_true', decide_eq_true_eq, List.all_eq_true] at h
  obtain ⟨⟨⟨h1, h2, h3⟩, h4, h5⟩, h6, h7⟩ := h
  constructor
  · split at h1
    · assumption
    · cases h1
  · exact h2
  · exact h3
  · exact h4
  · exact h5
  · intro x hx
    have z := h6 x hx
    unfold locB at z
    split at z
    · rename_i e; exact .inl e
    · rename_i e; exact .inr e
    · cases z
  · intro y hy e
    have z := h7 y hy
    rw [e] at z
    cases z
theorem gni {fn : Fn} {g : Gs} {st : Stmt} {oc : Value} {od an : Option Addr} {dV kV doc pm cdv ct : Value} {osl : Array (Option Value)} (X : K.In h) (G : h.Ns mainGlobals mg) (mf : fn.muts.all (fun b => !b) = true) (ml : fn.muts.length = fn.ps.length)
    (a : PySem.W.nsIn K mainGlobals fn.name = some (some (.ref f))) (l : K.lookup f = some ⟨oc, od, .func (PySem.W.fnOf fn.name fn.qual (defArgs st) (defBody st) (defScope st) dV kV doc pm an cdv ct), osl⟩) (c : PySem.W.codeIn K cdv fn.qual = true)
    (kp : PySem.W.keepIn K (.ref f) = true) (kw : ∀ p ∈ fn.kwds, KwD K cl (PySem.W.fnOf fn.name fn.qual (defArgs st) (defBody st) (defScope st) dV kV doc pm an cdv ct) fn.ps p) (sc : GScope fn.ns fn.ps (defScope st)) (m : mGs (T.at false) fn.ns g (defScope st) (defBody st) = true) : GnI T K mg cl fn g :=
  ⟨mf, ml, f, st, oc, od, dV, kV, doc, pm, an, cdv, ct, osl, PySem.W.mg_of X G a, kp, l, c, kw, sc, m⟩
/-! ### dicts of the module -/
theorem glo_kd {w : World} {x : Str} {a : Addr} {es : Array DictEntry} {n : Nat} {kv : List (Key × V)} {ds : List (Key × IV)} (X : K.In h) (G : h.Ns mainGlobals mg) (g : PySem.W.nsIn K mainGlobals x = some (some (.ref a))) (l : K.lookup a = some ⟨.type "dict", none, .dict es n, #[]⟩) (low : (a == sysModules) = false) (hz : kv.length ≤ 1000) (nd : (kv.map (·.1)).Nodup)
    (pr : Paired (fun (e : DictEntry) (kv : Key × V) => keyIs kv.1 e.key = true ∧ e.hash = keyH w kv.1 ∧ RelV kv.2 e.val) es.toList kv) (hk : kv.map (·.1) = ds.map (·.1)) (hr : ∀ O H, RepAll K cl O H (kv.map (·.2)) (ds.map (·.2))) :
    ∃ a kv, mg (x, ds).1 = some (.ref a) ∧ KD w K a kv ∧ kv.map (·.1) = (x, ds).2.map (·.1) ∧ ∀ O H, RepAll K cl O H (kv.map (·.2)) ((x, ds).2.map (·.2)) :=
  ⟨a, kv, PySem.W.mg_of X G g, ⟨es, n, l, low, hz, nd, pr⟩, hk, hr⟩
theorem app_get {α : Type} {as bs : List α} {c : Nat} {C : α} (h : as[c]? = some C) : (as ++ bs)[c]? = some C := by
  rw [List.getElem?_append_left (List.getElem?_eq_some_iff.mp h).1, h]
inductive DefAll (T : Tab) (K : PySem.W.Frag) (mg : Str → Option Value) (cl : Nat → Option Addr) : Nat → List Fn → Prop
  | nil {i : Nat} : DefAll T K mg cl i []
  | cons {i : Nat} {fn : Fn} {fns : List Fn} : DefI T K mg cl i fn → DefAll T K mg cl (i + 1) fns → DefAll T K mg cl i (fn :: fns)
theorem def_from : ∀ {fns : List Fn} {i : Nat}, DefAll T K mg cl i fns → ∀ (f : Nat) (fn : Fn), fns[f]? = some fn → DefI T K mg cl (i + f) fn
  | _, _, .nil, f, fn, h => by simp at h
  | _, i, .cons a r, 0, fn, h => by simp at h; subst h; exact a
  | _, i, .cons a r, f + 1, fn, h => by
    have z := def_from r f fn (by simpa using h)
    rw [show i + (f + 1) = i + 1 + f by omega]
    exact z
theorem def_all {fns : List Fn} (a : DefAll T K mg cl 0 fns) (f : Nat) (fn : Fn) (h : fns[f]? = some fn) : DefI T K mg cl f fn := by
  have z := def_from a f fn h
  rwa [Nat.zero_add] at z
end
end Mx


/-! Mx, part 7: how runs are reckoned. -/
namespace Mx
open PySem PySem.Spec PyProof.Rows L2
/-- the run ends well with Q, or raises with E -/
def OkX {α : Type} (E : Xn → List Sl → Prop) (r : Out α) (Q : α → List Sl → Prop) : Prop := match r with
  | some (.ok a, ρ) => Q a ρ
  | some (.error x, ρ) => E x ρ
  | none => False
/-- .. and raises nothing -/
abbrev Ok {α : Type} (r : Out α) (Q : α → List Sl → Prop) : Prop := OkX (fun _ _ => False) r Q
section
variable {α β : Type} {ρ : List Sl} {E E' Z : Xn → List Sl → Prop}
theorem OkX.mono {r : Out α} {Q Q' : α → List Sl → Prop} (h : OkX E r Q) (k : ∀ a ρ, Q a ρ → Q' a ρ) (e : ∀ x ρ, E x ρ → E' x ρ := by first | exact fun _ _ z => z | exact fun _ _ z => z.elim) : OkX E' r Q' := by
  match r, h with
  | some (.ok a, ρ), h => exact k a ρ h
  | some (.error x, ρ), h => exact e x ρ h
theorem Ok.mono {r : Out α} {Q Q' : α → List Sl → Prop} (h : Ok r Q) (k : ∀ a ρ, Q a ρ → Q' a ρ) : OkX E' r Q' := OkX.mono h k fun _ _ z => z.elim
theorem Ok.eq {r : Out α} {Q : α → List Sl → Prop} (h : Ok r Q) : ∃ a ρ, r = some (.ok a, ρ) ∧ Q a ρ := by
  match r, h with
  | some (.ok a, ρ), h => exact ⟨a, ρ, rfl, h⟩
theorem Ok.of {r : Out α} {Q : α → List Sl → Prop} {a : α} {ρ : List Sl} (e : r = some (.ok a, ρ)) (h : Q a ρ) : OkX E r Q := by subst e; exact h
theorem ok_some {a : α} {Q : α → List Sl → Prop} : OkX Z (some (.ok a, ρ)) Q = Q a ρ := rfl
theorem ok_pure {a : α} {Q : α → List Sl → Prop} : OkX Z (rPure a ρ) Q = Q a ρ := rfl
theorem ok_bind {m : R α} {f : α → R β} {Q : β → List Sl → Prop} : OkX Z (rBind m f ρ) Q = OkX Z (m ρ) (fun a ρ1 => OkX Z (f a ρ1) Q) := by
  unfold rBind
  match m ρ with
  | none => rfl
  | some (.ok a, ρ) => rfl
  | some (.error x, ρ) => rfl
theorem ok_lift {o : Option α} {Q : α → List Sl → Prop} : OkX Z (rLift o ρ) Q = (match o with | some a => Q a ρ | none => False) := by
  unfold rLift
  cases o <;> rfl
theorem ok_if {c : Bool} {a b : R α} {Q : α → List Sl → Prop} : OkX Z ((if c = true then a else b) ρ) Q = (if c = true then OkX Z (a ρ) Q else OkX Z (b ρ) Q) := by cases c <;> rfl
theorem ok_rIf {c : R Bool} {a b : R α} {Q : α → List Sl → Prop} : OkX Z (rIf c a b ρ) Q = OkX Z (c ρ) (fun t ρ1 => if t = true then OkX Z (a ρ1) Q else OkX Z (b ρ1) Q) := by
  unfold rIf
  rw [ok_bind]
  congr
  funext t ρ1
  exact ok_if
end
theorem ok_var {Z : Xn → List Sl → Prop} {i : Nat} {ρ : List Sl} {Q : IV → List Sl → Prop} : OkX Z (rVar i ρ) Q = (match ρ[i]? with | some (.i d) => Q d ρ | _ => False) := by
  unfold rVar
  match ρ[i]? with
  | none => rfl
  | some .e => rfl
  | some (.i d) => rfl
  | some (.o d) => rfl
  | some (.b d) => rfl
theorem ok_view {Z : Xn → List Sl → Prop} {i : Nat} {ρ : List Sl} {Q : IV → List Sl → Prop} : OkX Z (rView i ρ) Q = (match ρ[i]? with | some (.o d) => Q d ρ | some (.b d) => Q d ρ | _ => False) := by
  unfold rView
  match ρ[i]? with
  | none => rfl
  | some .e => rfl
  | some (.i d) => rfl
  | some (.o d) => rfl
  | some (.b d) => rfl
theorem ok_set {Z : Xn → List Sl → Prop} {i : Nat} {r : Sl} {ρ : List Sl} {Q : Fl → List Sl → Prop} : OkX Z (rSet i r ρ) Q = Q .nx (ρ.set i r) := rfl
/-- a def's call ends well: its value, its changing arguments; or raises -/
def OkFX (E : Xn → List IV → Prop) (r : Option (Except Xn IV × List IV)) (Q : IV → List IV → Prop) : Prop := match r with
  | some (.ok d, ms) => Q d ms
  | some (.error x, ms) => E x ms
  | none => False
abbrev OkF (r : Option (Except Xn IV × List IV)) (Q : IV → List IV → Prop) : Prop := OkFX (fun _ _ => False) r Q
theorem OkF.eq {r : Option (Except Xn IV × List IV)} {Q : IV → List IV → Prop} (h : OkF r Q) : ∃ d ms, r = some (.ok d, ms) ∧ Q d ms := by
  match r, h with
  | some (.ok d, ms), h => exact ⟨d, ms, rfl, h⟩
theorem OkFX.mono {E E' : Xn → List IV → Prop} {r : Option (Except Xn IV × List IV)} {Q Q' : IV → List IV → Prop} (h : OkFX E r Q) (k : ∀ d ms, Q d ms → Q' d ms) (e : ∀ x ms, E x ms → E' x ms := by first | exact fun _ _ z => z | exact fun _ _ z => z.elim) : OkFX E' r Q' := by
  match r, h with
  | some (.ok d, ms), h => exact k d ms h
  | some (.error x, ms), h => exact e x ms h
theorem OkF.mono {E' : Xn → List IV → Prop} {r : Option (Except Xn IV × List IV)} {Q Q' : IV → List IV → Prop} (h : OkF r Q) (k : ∀ d ms, Q d ms → Q' d ms) : OkFX E' r Q' := OkFX.mono h k fun _ _ z => z.elim
/-- the whole result -/
theorem res_of {r : Option (Except Xn IV × List IV)} {d : Except Xn IV} {ms : List IV} (h : OkFX (fun x ys => .error x = d ∧ ys = ms) r fun x ys => .ok x = d ∧ ys = ms) : r = some (d, ms) := by
  match r, h with
  | some (.ok x, ys), ⟨h1, h2⟩ => rw [h1, h2]
  | some (.error x, ys), ⟨h1, h2⟩ => rw [h1, h2]
theorem res_eq {r R : Option (Except Xn IV × List IV)} (h : OkFX (fun x ys => R = some (.error x, ys)) r fun x ys => R = some (.ok x, ys)) : r = R := by
  match r, h with
  | some (.ok x, ys), h => exact h.symm
  | some (.error x, ys), h => exact h.symm
/-- a call: the arguments at hand -/
theorem ok_call {Z : Xn → List Sl → Prop} {cs : CS} {f : Nat} {xs : List (IV ⊕ Nat)} {ρ : List Sl} {Q : IV → List Sl → Prop} {ds : List IV} (e : argsD ρ xs = some ds) (h : OkFX (fun x ms => Z x (putM xs ms ρ)) (cs f ds) fun d ms => Q d (putM xs ms ρ)) : OkX Z (rCall cs f xs ρ) Q := by
  unfold rCall
  rw [e]
  show OkX Z (match cs f ds with | none => none | some (r, ms) => some (r, putM xs ms ρ)) Q
  match hc : cs f ds, h with
  | some (.ok d, ms), h => exact h
  | some (.error x, ms), h => exact h
/-- a def by its body -/
theorem okF_run {E : Xn → List IV → Prop} {T : Nat → Option Fn} {N k f : Nat} {fn : Fn} {ds : List IV} {Q : IV → List IV → Prop} (hf : T f = some fn) (hl : ds.length = fn.ps.length)
    (h : OkX (fun x ρ => ∃ ms, mutsOf fn.muts ρ = some ms ∧ E x ms) (evSs (runF T N k) N fn.body (fn.start ds)) fun fl ρ => match fl with
      | .rt d => ∃ ms, mutsOf fn.muts ρ = some ms ∧ Q d ms
      | .nx => fn.own = false ∧ ∃ ms, mutsOf fn.muts ρ = some ms ∧ Q .non ms
      | _ => False) (hg : fn.gbody = none := by rfl) : OkFX E (runF T N (k + 1) f ds) Q := by
  show OkFX E (match T f with | none => none | some fn => if ds.length = fn.ps.length then match fn.gbody with | none => endF fn (evSs (runF T N k) N fn.body (fn.start ds)) | some g => endG (evGs (runF T N k) N g [] (fn.start ds)) else none) Q
  rw [hf]
  show OkFX E (if ds.length = fn.ps.length then match fn.gbody with | none => endF fn (evSs (runF T N k) N fn.body (fn.start ds)) | some g => endG (evGs (runF T N k) N g [] (fn.start ds)) else none) Q
  rw [if_pos hl, hg]
  show OkFX E (endF fn (evSs (runF T N k) N fn.body (fn.start ds))) Q
  match hr : evSs (runF T N k) N fn.body (fn.start ds), h with
  | some (.ok (.rt d), ρ), ⟨ms, e2, q⟩ =>
    show OkFX E ((mutsOf fn.muts ρ).map fun ms => (.ok d, ms)) Q
    rw [e2]
    exact q
  | some (.ok .nx, ρ), ⟨ho, ms, e2, q⟩ =>
    show OkFX E (if fn.own = true then none else (mutsOf fn.muts ρ).map fun ms => (.ok .non, ms)) Q
    rw [if_neg (by rw [ho]; exact Bool.false_ne_true), e2]
    exact q
  | some (.error x, ρ), ⟨ms, e2, q⟩ =>
    show OkFX E ((mutsOf fn.muts ρ).map fun ms => (.error x, ms)) Q
    rw [e2]
    exact q
/-- a generator def by its body -/
theorem okG_run {E : Xn → List IV → Prop} {T : Nat → Option Fn} {N k f : Nat} {fn : Fn} {g : Gs} {ds : List IV} {Q : IV → List IV → Prop} (hf : T f = some fn) (hg : fn.gbody = some g) (hl : ds.length = fn.ps.length)
    (h : OkX (fun x ρ => E x []) (evGs (runF T N k) N g [] (fn.start ds)) fun p ρ => match p.1 with
      | .nx => Q (.lst p.2) []
      | _ => False) : OkFX E (runF T N (k + 1) f ds) Q := by
  show OkFX E (match T f with | none => none | some fn => if ds.length = fn.ps.length then match fn.gbody with | none => endF fn (evSs (runF T N k) N fn.body (fn.start ds)) | some g => endG (evGs (runF T N k) N g [] (fn.start ds)) else none) Q
  rw [hf]
  show OkFX E (if ds.length = fn.ps.length then match fn.gbody with | none => endF fn (evSs (runF T N k) N fn.body (fn.start ds)) | some g => endG (evGs (runF T N k) N g [] (fn.start ds)) else none) Q
  rw [if_pos hl, hg]
  show OkFX E (endG (evGs (runF T N k) N g [] (fn.start ds))) Q
  match hr : evGs (runF T N k) N g [] (fn.start ds), h with
  | some (.ok (.nx, ys), ρ), q => exact q
  | some (.error x, ρ), q => exact q
theorem ok_ss_nil {Z : Xn → List Sl → Prop} {cs : CS} {N : Nat} {ρ : List Sl} {Q : Fl → List Sl → Prop} : OkX Z (evSs cs N .nil ρ) Q = Q .nx ρ := rfl
theorem ok_ss_cons {Z : Xn → List Sl → Prop} {cs : CS} {N : Nat} {s : S} {r : Ss} {ρ : List Sl} {Q : Fl → List Sl → Prop} : OkX Z (evSs cs N (.cons s r) ρ) Q = OkX Z (evS cs N s ρ) (fun f ρ1 => match f with | .nx => OkX Z (evSs cs N r ρ1) Q | f => Q f ρ1) := by
  show OkX Z ((rBind (evS cs N s) fun f => match f with | .nx => evSs cs N r | f => rPure f) ρ) Q = _
  rw [ok_bind]
  congr
  funext f ρ1
  cases f <;> rfl
/-- a loop over data: an invariant by the turn -/
theorem ok_for {Z : Xn → List Sl → Prop} {tg : List Nat} {b : R Fl} {Q : Fl → List Sl → Prop} (P : Nat → List Sl → Prop) : ∀ (xs : List IV) (n : Nat) {ρ : List Sl}, P n ρ →
    (∀ (i : Nat) (x : IV) (ρ : List Sl), xs[i]? = some x → P (n + i) ρ → OkX Z (rTg tg x ρ) fun _ ρ1 => OkX Z (b ρ1) fun f ρ2 => match f with | .nx => P (n + i + 1) ρ2 | .ct => P (n + i + 1) ρ2 | .bk => Q .nx ρ2 | .rt d => Q (.rt d) ρ2) →
    (∀ ρ, P (n + xs.length) ρ → Q .nx ρ) → OkX Z (rFor tg b xs ρ) Q
  | [], n, ρ, h, _, e => e ρ h
  | x :: xs, n, ρ, h, s, e => by
    show OkX Z ((rBind (rTg tg x) fun _ => rBind b fun f => match f with | .nx => rFor tg b xs | .ct => rFor tg b xs | .bk => rPure .nx | .rt d => rPure (.rt d)) ρ) Q
    rw [ok_bind]
    have go : ∀ {ρ2 : List Sl}, P (n + 1) ρ2 → OkX Z (rFor tg b xs ρ2) Q := fun {ρ2} hp => ok_for P xs (n + 1) hp (fun i y ρ hy hp => by
      have z := s (i + 1) y ρ hy (by rw [show n + (i + 1) = n + 1 + i from by omega]; exact hp)
      rw [show n + (i + 1) + 1 = n + 1 + i + 1 from by omega] at z
      exact z) (fun ρ hp => e ρ (by rw [show n + (x :: xs).length = n + 1 + xs.length from by rw [List.length_cons]; omega]; exact hp))
    refine (s 0 x ρ rfl h).mono fun _ ρ1 h1 => ?_
    rw [ok_bind]
    refine h1.mono fun f ρ2 h2 => ?_
    cases f with
    | nx => exact go h2
    | ct => exact go h2
    | bk => exact h2
    | rt d => exact h2
/-- a comprehension: an invariant by the turn and what has been gathered -/
theorem ok_comp {Z : Xn → List Sl → Prop} {tg : List Nat} {c : R Bool} {e : R IV} {Q : List IV → List Sl → Prop} (P : Nat → List IV → List Sl → Prop) : ∀ (xs : List IV) (n : Nat) (acc : List IV) {ρ : List Sl}, P n acc ρ →
    (∀ (i : Nat) (x : IV) (acc : List IV) (ρ : List Sl), xs[i]? = some x → P (n + i) acc ρ → OkX Z (rTg tg x ρ) fun _ ρ1 => OkX Z (c ρ1) fun t ρ2 => if t = true then OkX Z (e ρ2) fun y ρ3 => P (n + i + 1) (acc ++ [y]) (clear tg ρ3) else P (n + i + 1) acc (clear tg ρ2)) →
    (∀ ys ρ, P (n + xs.length) (acc ++ ys) ρ → Q ys ρ) → OkX Z (rComp tg c e xs ρ) Q
  | [], n, acc, ρ, h, _, q => q [] ρ (by rw [List.append_nil]; exact h)
  | x :: xs, n, acc, ρ, h, s, q => by
    show OkX Z ((rBind (rTg tg x) fun _ => rBind c fun t => if t = true then rBind e fun y => rBind (rClr tg) fun _ => rBind (rComp tg c e xs) fun ys => rPure (y :: ys) else rBind (rClr tg) fun _ => rComp tg c e xs) ρ) Q
    rw [ok_bind]
    have go : ∀ {acc2 : List IV} {ρ2 : List Sl} {Q2 : List IV → List Sl → Prop}, P (n + 1) acc2 ρ2 → (∀ ys ρ, P (n + (x :: xs).length) (acc2 ++ ys) ρ → Q2 ys ρ) → OkX Z (rComp tg c e xs ρ2) Q2 := fun {acc2 ρ2 Q2} hp hq => ok_comp P xs (n + 1) acc2 hp (fun i y a ρ hy hp => by
      have z := s (i + 1) y a ρ hy (by rw [show n + (i + 1) = n + 1 + i from by omega]; exact hp)
      rw [show n + (i + 1) + 1 = n + 1 + i + 1 from by omega] at z
      exact z) (fun ys ρ hp => hq ys ρ (by rw [show n + (x :: xs).length = n + 1 + xs.length from by rw [List.length_cons]; omega]; exact hp))
    refine (s 0 x acc ρ rfl h).mono fun _ ρ1 h1 => ?_
    rw [ok_bind]
    refine h1.mono fun t ρ2 h2 => ?_
    cases t with
    | true =>
      rw [if_pos rfl] at h2 ⊢
      rw [ok_bind]
      refine h2.mono fun y ρ3 h3 => ?_
      rw [ok_bind]
      show OkX Z ((rBind (rComp tg c e xs) fun ys => rPure (y :: ys)) (clear tg ρ3)) Q
      rw [ok_bind]
      exact go h3 fun ys ρ hp => q (y :: ys) ρ (by rw [show acc ++ y :: ys = acc ++ [y] ++ ys from by rw [List.append_assoc]; rfl]; exact hp)
    | false =>
      rw [if_neg Bool.false_ne_true] at h2 ⊢
      rw [ok_bind]
      exact go h2 q
theorem ok_list {Z : Xn → List Sl → Prop} {tg : List Nat} {c : R Bool} {e : R IV} {xs : List IV} {ρ : List Sl} {Q : IV → List Sl → Prop} (h1 : light tg ρ = true) (h2 : xs.length ≤ SZ) (h : Ok (rComp tg c e xs (clear tg ρ)) fun ys ρ' => Q (.lst ys) (back tg ρ ρ')) : OkX Z (rList tg c e xs ρ) Q := by
  unfold rList
  rw [if_pos ⟨h1, h2⟩]
  obtain ⟨ys, ρ', e, q⟩ := h.eq
  rw [e]
  exact q
/-- while: an invariant by a measure -/
theorem ok_while {Z : Xn → List Sl → Prop} {c : R Bool} {b : R Fl} {Q : Fl → List Sl → Prop} (P : Nat → List Sl → Prop) (h : ∀ m ρ, P m ρ → OkX Z (c ρ) fun t ρ1 => if t = true then OkX Z (b ρ1) fun f ρ2 => match f with | .nx => ∃ m', m' < m ∧ P m' ρ2 | .ct => ∃ m', m' < m ∧ P m' ρ2 | .bk => Q .nx ρ2 | .rt d => Q (.rt d) ρ2 else Q .nx ρ1) :
    ∀ (N m : Nat) {ρ : List Sl}, m < N → P m ρ → OkX Z (rWhile c b N ρ) Q
  | 0, m, ρ, hm, _ => absurd hm (Nat.not_lt_zero _)
  | N + 1, m, ρ, hm, hp => by
    show OkX Z ((rBind c fun t => if t = true then rBind b fun f => match f with | .nx => rWhile c b N | .ct => rWhile c b N | .bk => rPure .nx | .rt d => rPure (.rt d) else rPure .nx) ρ) Q
    rw [ok_bind]
    refine (h m ρ hp).mono fun t ρ1 h1 => ?_
    cases t with
    | false => rw [if_neg Bool.false_ne_true] at h1 ⊢; exact h1
    | true =>
      rw [if_pos rfl] at h1 ⊢
      rw [ok_bind]
      refine h1.mono fun f ρ2 h2 => ?_
      cases f with
      | nx => obtain ⟨m', l, p⟩ := h2; exact ok_while P h N m' (by omega) p
      | ct => obtain ⟨m', l, p⟩ := h2; exact ok_while P h N m' (by omega) p
      | bk => exact h2
      | rt d => exact h2
end Mx


/-! Mx, part 8: runs reckoned by simp: each word, from the outside. -/
namespace Mx
open PySem PySem.Spec PyProof.Rows L2
def OkO {α : Type} (o : Option α) (Q : α → Prop) : Prop := match o with
  | some a => Q a
  | none => False
def OkS (r : Option Sl) (Q : Sl → Prop) : Prop := match r with
  | some s => Q s
  | none => False
section
variable {α β : Type} {Z : Xn → List Sl → Prop} {ρ : List Sl} {cs : CS} {N : Nat} {Q : IV → List Sl → Prop} {B : Bool → List Sl → Prop} {F : Fl → List Sl → Prop}
@[simp ↓] theorem okO_some {a : α} {Q : α → Prop} : OkO (some a) Q = Q a := id rfl
@[simp ↓] theorem okO_none {Q : α → Prop} : OkO (none : Option α) Q = False := id rfl
theorem okO_map {o : Option α} {f : α → β} {Q : β → Prop} : OkO (o.map f) Q = OkO o fun a => Q (f a) := by cases o <;> rfl
theorem ok_lift' {o : Option α} {Q : α → List Sl → Prop} : OkX Z (rLift o ρ) Q = OkO o fun a => Q a ρ := by cases o <;> rfl
@[simp ↓] theorem okE_var {i : Nat} : OkX Z ((ev cs (.var i)).1 ρ) Q = OkO ρ[i]? (fun r => match r with | .i d => Q d ρ | _ => False) := by
  show OkX Z (rVar i ρ) Q = _
  rw [ok_var]
  match ρ[i]? with
  | none => rfl
  | some .e => rfl
  | some (.i d) => rfl
  | some (.o d) => rfl
  | some (.b d) => rfl
@[simp ↓] theorem okE_view {i : Nat} : OkX Z ((ev cs (.view i)).1 ρ) Q = OkO ρ[i]? (fun r => match r with | .o d => Q d ρ | .b d => Q d ρ | _ => False) := by
  show OkX Z (rView i ρ) Q = _
  rw [ok_view]
  match ρ[i]? with
  | none => rfl
  | some .e => rfl
  | some (.i d) => rfl
  | some (.o d) => rfl
  | some (.b d) => rfl
@[simp ↓] theorem okE_cst {d : IV} : OkX Z ((ev cs (.cst d)).1 ρ) Q = Q d ρ := id rfl
@[simp ↓] theorem okE_glo {x : Str} {d : IV} : OkX Z ((ev cs (.glo x d)).1 ρ) Q = Q d ρ := id rfl
@[simp ↓] theorem okE_bin {o : BOp} {a b : E} : OkX Z ((ev cs (.bin o a b)).1 ρ) Q = OkX Z ((ev cs a).1 ρ) fun x ρ1 => OkX Z ((ev cs b).1 ρ1) fun y ρ2 => OkO (binD o x y) fun d => Q d ρ2 := by
  show OkX Z ((rBind (ev cs a).1 fun x => rBind (ev cs b).1 fun y => rLift (binD o x y)) ρ) Q = _
  simp only [ok_bind, ok_lift']
@[simp ↓] theorem okE_cmp {o : COp} {a b : E} : OkX Z ((ev cs (.cmp o a b)).1 ρ) Q = OkX Z ((ev cs a).1 ρ) fun x ρ1 => OkX Z ((ev cs b).1 ρ1) fun y ρ2 => OkO (cmpD o x y) fun t => Q (.bl t) ρ2 := by
  show OkX Z ((rBind (ev cs a).1 fun x => rBind (ev cs b).1 fun y => rLift ((cmpD o x y).map .bl)) ρ) Q = _
  simp only [ok_bind, ok_lift', okO_map]
theorem okT {e : E} (h : (ev cs e).2 = rBind (ev cs e).1 fun d => rLift (truD d)) : OkX Z ((ev cs e).2 ρ) B = OkX Z ((ev cs e).1 ρ) fun d ρ1 => OkO (truD d) fun t => B t ρ1 := by
  rw [h]
  simp only [ok_bind, ok_lift']
@[simp ↓] theorem okT_cmp {o : COp} {a b : E} : OkX Z ((ev cs (.cmp o a b)).2 ρ) B = OkX Z ((ev cs a).1 ρ) fun x ρ1 => OkX Z ((ev cs b).1 ρ1) fun y ρ2 => OkO (cmpD o x y) fun t => B t ρ2 := by
  rw [okT rfl, okE_cmp]
  rfl
@[simp ↓] theorem okE_chn {o o' : COp} {a b c : E} : OkX Z ((ev cs (.chn o o' a b c)).1 ρ) Q = OkX Z ((ev cs a).1 ρ) fun x ρ1 => OkX Z ((ev cs b).1 ρ1) fun y ρ2 => OkO (cmpD o x y) fun t => if t = true then OkX Z ((ev cs c).1 ρ2) fun z ρ3 => OkO (cmpD o' y z) fun t => Q (.bl t) ρ3 else Q (.bl false) ρ2 := by
  show OkX Z ((rBind (ev cs a).1 fun x => rBind (ev cs b).1 fun y => rBind (rLift (cmpD o x y)) fun t => if t = true then rBind (ev cs c).1 fun z => rLift ((cmpD o' y z).map .bl) else rPure (.bl false)) ρ) Q = _
  simp only [ok_bind, ok_lift', okO_map, ok_if, ok_pure]
@[simp ↓] theorem okT_chn {o o' : COp} {a b c : E} : OkX Z ((ev cs (.chn o o' a b c)).2 ρ) B = OkX Z ((ev cs a).1 ρ) fun x ρ1 => OkX Z ((ev cs b).1 ρ1) fun y ρ2 => OkO (cmpD o x y) fun t => if t = true then OkX Z ((ev cs c).1 ρ2) fun z ρ3 => OkO (cmpD o' y z) fun t => B t ρ3 else B false ρ2 := by
  rw [okT rfl, okE_chn]
  rfl
@[simp ↓] theorem okE_not {a : E} : OkX Z ((ev cs (.not a)).1 ρ) Q = OkX Z ((ev cs a).1 ρ) fun x ρ1 => match x with | .bl b => Q (.bl !b) ρ1 | _ => False := by
  show OkX Z ((rBind (ev cs a).1 fun x => match x with | .bl b => rPure (.bl !b) | _ => rLift none) ρ) Q = _
  rw [ok_bind]
  congr
  funext x ρ1
  cases x <;> rfl
@[simp ↓] theorem okT_not {a : E} : OkX Z ((ev cs (.not a)).2 ρ) B = OkX Z ((ev cs a).2 ρ) fun t ρ1 => B (!t) ρ1 := by
  show OkX Z ((rBind (ev cs a).2 fun t => rPure !t) ρ) B = _
  rw [ok_bind]
  rfl
@[simp ↓] theorem okE_neg {a : E} : OkX Z ((ev cs (.neg a)).1 ρ) Q = OkX Z ((ev cs a).1 ρ) fun x ρ1 => match x with | .int i => Q (.int (-i)) ρ1 | _ => False := by
  show OkX Z ((rBind (ev cs a).1 fun x => match x with | .int i => rPure (.int (-i)) | _ => rLift none) ρ) Q = _
  rw [ok_bind]
  congr
  funext x ρ1
  cases x <;> rfl
@[simp ↓] theorem okE_ite {c a b : E} : OkX Z ((ev cs (.ite c a b)).1 ρ) Q = OkX Z ((ev cs c).2 ρ) fun t ρ1 => if t = true then OkX Z ((ev cs a).1 ρ1) Q else OkX Z ((ev cs b).1 ρ1) Q := ok_rIf
@[simp ↓] theorem okE_ix {a b : E} : OkX Z ((ev cs (.ix a b)).1 ρ) Q = OkX Z ((ev cs a).1 ρ) fun x ρ1 => OkX Z ((ev cs b).1 ρ1) fun y ρ2 => OkO (ixD x y) fun d => Q d ρ2 := by
  show OkX Z ((rBind (ev cs a).1 fun x => rBind (ev cs b).1 fun y => rLift (ixD x y)) ρ) Q = _
  simp only [ok_bind, ok_lift']
@[simp ↓] theorem okO_no {Q : Option Int → List Sl → Prop} : OkX Z (evO cs .no ρ) Q = Q none ρ := id rfl
@[simp ↓] theorem okO_yes {e : E} {Q : Option Int → List Sl → Prop} : OkX Z (evO cs (.yes e) ρ) Q = OkX Z ((ev cs e).1 ρ) fun x ρ1 => match x with | .int i => Q (some i) ρ1 | _ => False := by
  show OkX Z ((rBind (ev cs e).1 fun x => rLift ((intI x).map some)) ρ) Q = _
  rw [ok_bind]
  congr
  funext x ρ1
  cases x <;> rfl
@[simp ↓] theorem okE_sl {a : E} {lo hi : OE} : OkX Z ((ev cs (.sl a lo hi)).1 ρ) Q = OkX Z ((ev cs a).1 ρ) fun x ρ1 => OkX Z (evO cs lo ρ1) fun l ρ2 => OkX Z (evO cs hi ρ2) fun h ρ3 => OkO (slD x l h) fun d => Q d ρ3 := by
  show OkX Z ((rBind (ev cs a).1 fun x => rBind (evO cs lo) fun l => rBind (evO cs hi) fun h => rLift (slD x l h)) ρ) Q = _
  simp only [ok_bind, ok_lift']
@[simp ↓] theorem okEs_nil {Q : List IV → List Sl → Prop} : OkX Z (evEs cs .nil ρ) Q = Q [] ρ := id rfl
@[simp ↓] theorem okEs_cons {e : E} {r : Es} {Q : List IV → List Sl → Prop} : OkX Z (evEs cs (.cons e r) ρ) Q = OkX Z ((ev cs e).1 ρ) fun x ρ1 => OkX Z (evEs cs r ρ1) fun xs ρ2 => Q (x :: xs) ρ2 := by
  show OkX Z ((rBind (ev cs e).1 fun x => rBind (evEs cs r) fun xs => rPure (x :: xs)) ρ) Q = _
  simp only [ok_bind, ok_pure]
@[simp ↓] theorem okE_lst {es : Es} : OkX Z ((ev cs (.lst es)).1 ρ) Q = OkX Z (evEs cs es ρ) fun xs ρ1 => if xs.length ≤ SZ then Q (.lst xs) ρ1 else False := by
  show OkX Z ((rBind (evEs cs es) fun xs => rLift (if xs.length ≤ SZ then some (.lst xs) else none)) ρ) Q = _
  rw [ok_bind]
  congr
  funext xs ρ1
  by_cases h : xs.length ≤ SZ
  · rw [if_pos h, if_pos h]; rfl
  · rw [if_neg h, if_neg h]; rfl
@[simp ↓] theorem okE_tup {es : Es} : OkX Z ((ev cs (.tup es)).1 ρ) Q = OkX Z (evEs cs es ρ) fun xs ρ1 => if xs.length ≤ SZ then Q (.tup xs) ρ1 else False := by
  show OkX Z ((rBind (evEs cs es) fun xs => rLift (if xs.length ≤ SZ then some (.tup xs) else none)) ρ) Q = _
  rw [ok_bind]
  congr
  funext xs ρ1
  by_cases h : xs.length ≤ SZ
  · rw [if_pos h, if_pos h]; rfl
  · rw [if_neg h, if_neg h]; rfl
@[simp ↓] theorem okE_dct {ks : List Key} {es : Es} : OkX Z ((ev cs (.dct ks es)).1 ρ) Q = OkX Z (evEs cs es ρ) fun xs ρ1 => Q (.dct (ks.zip xs)) ρ1 := by
  show OkX Z ((rBind (evEs cs es) fun xs => rPure (.dct (ks.zip xs))) ρ) Q = _
  simp only [ok_bind, ok_pure]
@[simp ↓] theorem okE_fn {f : BFn} {es : Es} : OkX Z ((ev cs (.fn f es)).1 ρ) Q = OkX Z (evEs cs es ρ) fun xs ρ1 => OkO (fnD f xs) fun d => Q d ρ1 := by
  show OkX Z ((rBind (evEs cs es) fun xs => rLift (fnD f xs)) ρ) Q = _
  simp only [ok_bind, ok_lift']
@[simp ↓] theorem okT_fn {f : BFn} {es : Es} : OkX Z ((ev cs (.fn f es)).2 ρ) B = OkX Z (evEs cs es ρ) fun xs ρ1 => OkO (fnD f xs) fun d => OkO (truD d) fun t => B t ρ1 := by
  rw [okT rfl, okE_fn]
@[simp ↓] theorem okE_pr1 {p : P1} {a : E} : OkX Z ((ev cs (.pr1 p a)).1 ρ) Q = OkX Z ((ev cs a).1 ρ) fun x ρ1 => OkO (pr1D p x) fun d => Q d ρ1 := by
  show OkX Z ((rBind (ev cs a).1 fun x => rLift (pr1D p x)) ρ) Q = _
  simp only [ok_bind, ok_lift']
@[simp ↓] theorem okT_pr1 {p : P1} {a : E} : OkX Z ((ev cs (.pr1 p a)).2 ρ) B = OkX Z ((ev cs a).1 ρ) fun x ρ1 => OkO (pr1D p x) fun d => OkO (truD d) fun t => B t ρ1 := by
  rw [okT rfl, okE_pr1]
@[simp ↓] theorem okE_mk {c : Nat} {ps : List Str} {es : Es} : OkX Z ((ev cs (.mk c ps es)).1 ρ) Q = OkX Z (evEs cs es ρ) fun xs ρ1 => OkO (mkD c ps xs) fun d => Q d ρ1 := by
  show OkX Z ((rBind (evEs cs es) fun xs => rLift (mkD c ps xs)) ρ) Q = _
  simp only [ok_bind, ok_lift']
@[simp ↓] theorem okE_mkK {c : Nat} {ps : List Str} {as bs : Es} {ks : List Str} {perm : List Nat} : OkX Z ((ev cs (.mkK c ps as bs ks perm)).1 ρ) Q = OkX Z (evEs cs as ρ) fun ds ρ1 => OkX Z (evEs cs bs ρ1) fun es ρ2 => OkO (match pick (ds ++ es) perm with | some zs => mkD c ps zs | none => none) fun d => Q d ρ2 := by
  show OkX Z ((rBind (evEs cs as) fun ds => rBind (evEs cs bs) fun es => rLift (match pick (ds ++ es) perm with | some zs => mkD c ps zs | none => none)) ρ) Q = _
  simp only [ok_bind, ok_lift']
@[simp ↓] theorem okE_isi {a : E} {t : String} : OkX Z ((ev cs (.isi a t)).1 ρ) Q = OkX Z ((ev cs a).1 ρ) fun x ρ1 => OkO (isiD x t) fun b => Q (.bl b) ρ1 := by
  show OkX Z ((rBind (ev cs a).1 fun x => rLift ((isiD x t).map .bl)) ρ) Q = _
  simp only [ok_bind, ok_lift', okO_map]
@[simp ↓] theorem okT_isi {a : E} {t : String} : OkX Z ((ev cs (.isi a t)).2 ρ) B = OkX Z ((ev cs a).1 ρ) fun x ρ1 => OkO (isiD x t) fun b => B b ρ1 := by
  rw [okT rfl, okE_isi]
  rfl
@[simp ↓] theorem okE_mt {m : BMt} {a : E} {es : Es} : OkX Z ((ev cs (.mt m a es)).1 ρ) Q = OkX Z ((ev cs a).1 ρ) fun x ρ1 => OkO (strI x) fun _ => OkX Z (evEs cs es ρ1) fun xs ρ2 => OkO (mtD m x xs) fun d => Q d ρ2 := by
  show OkX Z ((rBind (ev cs a).1 fun x => rBind (rLift (strI x)) fun _ => rBind (evEs cs es) fun xs => rLift (mtD m x xs)) ρ) Q = _
  simp only [ok_bind, ok_lift']
@[simp] theorem strI_str {l : List Nat} : strI (.str l) = some () := id rfl
@[simp ↓] theorem okE_call {f : Nat} {as : As} : OkX Z ((ev cs (.call f as)).1 ρ) Q = OkX Z (evAs cs as ρ) fun xs ρ1 => OkO (argsD ρ1 xs) fun ds => OkFX (fun xe ms => Z xe (putM xs ms ρ1)) (cs f ds) fun d ms => Q d (putM xs ms ρ1) := by
  show OkX Z ((rBind (evAs cs as) fun xs => rCall cs f xs) ρ) Q = _
  rw [ok_bind]
  congr
  funext xs ρ1
  unfold rCall
  cases argsD ρ1 xs with
  | none => rfl
  | some ds =>
    show OkX Z (match cs f ds with | none => none | some (r, ms) => some (r, putM xs ms ρ1)) Q = _
    match h : cs f ds with
    | none => simp only [okO_some, h]; rfl
    | some (.ok d, ms) => simp only [okO_some, h]; rfl
    | some (.error x, ms) => simp only [okO_some, h]; rfl
@[simp ↓] theorem okT_call {f : Nat} {as : As} : OkX Z ((ev cs (.call f as)).2 ρ) B = OkX Z (evAs cs as ρ) fun xs ρ1 => OkO (argsD ρ1 xs) fun ds => OkFX (fun xe ms => Z xe (putM xs ms ρ1)) (cs f ds) fun d ms => OkO (truD d) fun t => B t (putM xs ms ρ1) := by
  rw [okT rfl, okE_call]
@[simp ↓] theorem okE_callK {f : Nat} {as bs : Es} {ks : List Str} {perm : List Nat} : OkX Z ((ev cs (.callK f as bs ks perm)).1 ρ) Q = OkX Z (evEs cs as ρ) fun ds ρ1 => OkX Z (evEs cs bs ρ1) fun es ρ2 => OkO (pick (ds ++ es) perm) fun ws => OkFX (fun xe _ => Z xe ρ2) (cs f ws) fun d _ => Q d ρ2 := by
  show OkX Z ((rBind (evEs cs as) fun ds => rBind (evEs cs bs) fun es => rCallK cs f perm (ds ++ es)) ρ) Q = _
  rw [ok_bind]
  congr
  funext ds ρ1
  rw [ok_bind]
  congr
  funext es ρ2
  unfold rCallK
  cases pick (ds ++ es) perm with
  | none => rfl
  | some ws =>
    show OkX Z (match cs f ws with | none => none | some (r, _) => some (r, ρ2)) Q = _
    match h : cs f ws with
    | none => simp only [okO_some, h]; rfl
    | some (.ok d, ms) => simp only [okO_some, h]; rfl
    | some (.error x, ms) => simp only [okO_some, h]; rfl
@[simp ↓] theorem okAs_nil {Q : List (IV ⊕ Nat) → List Sl → Prop} : OkX Z (evAs cs .nil ρ) Q = Q [] ρ := id rfl
@[simp ↓] theorem okAs_v {e : E} {r : As} {Q : List (IV ⊕ Nat) → List Sl → Prop} : OkX Z (evAs cs (.v e r) ρ) Q = OkX Z ((ev cs e).1 ρ) fun x ρ1 => OkX Z (evAs cs r ρ1) fun xs ρ2 => Q (.inl x :: xs) ρ2 := by
  show OkX Z ((rBind (ev cs e).1 fun x => rBind (evAs cs r) fun xs => rPure (.inl x :: xs)) ρ) Q = _
  simp only [ok_bind, ok_pure]
@[simp ↓] theorem okAs_m {i : Nat} {r : As} {Q : List (IV ⊕ Nat) → List Sl → Prop} : OkX Z (evAs cs (.m i r) ρ) Q = OkO ρ[i]? (fun s => match s with | .o _ => OkX Z (evAs cs r ρ) fun xs ρ2 => Q (.inr i :: xs) ρ2 | .b _ => OkX Z (evAs cs r ρ) fun xs ρ2 => Q (.inr i :: xs) ρ2 | _ => False) := by
  show OkX Z ((rBind (rView i) fun _ => rBind (evAs cs r) fun xs => rPure (.inr i :: xs)) ρ) Q = _
  simp only [ok_bind, ok_pure, ok_view]
  match ρ[i]? with
  | none => rfl
  | some .e => rfl
  | some (.i d) => rfl
  | some (.o d) => rfl
  | some (.b d) => rfl
@[simp ↓] theorem okE_comp {tg : List Nat} {it : It} {c : OE} {e : E} : OkX Z ((ev cs (.comp tg it c e)).1 ρ) Q = OkX Z (evIt cs it ρ) fun xs ρ1 => OkX Z (rList tg (evC cs c) (ev cs e).1 xs ρ1) Q := by
  show OkX Z ((rBind (evIt cs it) fun xs => rList tg (evC cs c) (ev cs e).1 xs) ρ) Q = _
  rw [ok_bind]
@[simp ↓] theorem okA1 {e : E} : OkX Z ((evAnd cs (.cons e .nil)).1 ρ) Q = OkX Z ((ev cs e).1 ρ) Q := id rfl
@[simp ↓] theorem okAT1 {e : E} : OkX Z ((evAnd cs (.cons e .nil)).2 ρ) B = OkX Z ((ev cs e).2 ρ) B := id rfl
@[simp ↓] theorem okO1 {e : E} : OkX Z ((evOr cs (.cons e .nil)).1 ρ) Q = OkX Z ((ev cs e).1 ρ) Q := id rfl
@[simp ↓] theorem okOT1 {e : E} : OkX Z ((evOr cs (.cons e .nil)).2 ρ) B = OkX Z ((ev cs e).2 ρ) B := id rfl
@[simp ↓] theorem okA2 {e e' : E} {r : Es} : OkX Z ((evAnd cs (.cons e (.cons e' r))).1 ρ) Q = OkX Z ((ev cs e).1 ρ) fun x ρ1 => match x with | .bl t => if t = true then OkX Z ((evAnd cs (.cons e' r)).1 ρ1) Q else Q (.bl false) ρ1 | _ => False := by
  show OkX Z ((rBind (ev cs e).1 fun x => match x with | .bl true => (evAnd cs (.cons e' r)).1 | .bl false => rPure (.bl false) | _ => rLift none) ρ) Q = _
  rw [ok_bind]
  congr
  funext x ρ1
  match x with
  | .bl true => rfl
  | .bl false => rfl
  | .non => rfl
  | .int _ => rfl
  | .str _ => rfl
  | .tup _ => rfl
  | .lst _ => rfl
  | .dct _ => rfl
  | .ins _ _ => rfl
  | .exc _ _ => rfl
  | .cls _ => rfl
@[simp ↓] theorem okO2 {e e' : E} {r : Es} : OkX Z ((evOr cs (.cons e (.cons e' r))).1 ρ) Q = OkX Z ((ev cs e).1 ρ) fun x ρ1 => match x with | .bl t => if t = true then Q (.bl true) ρ1 else OkX Z ((evOr cs (.cons e' r)).1 ρ1) Q | _ => False := by
  show OkX Z ((rBind (ev cs e).1 fun x => match x with | .bl true => rPure (.bl true) | .bl false => (evOr cs (.cons e' r)).1 | _ => rLift none) ρ) Q = _
  rw [ok_bind]
  congr
  funext x ρ1
  match x with
  | .bl true => rfl
  | .bl false => rfl
  | .non => rfl
  | .int _ => rfl
  | .str _ => rfl
  | .tup _ => rfl
  | .lst _ => rfl
  | .dct _ => rfl
  | .ins _ _ => rfl
  | .exc _ _ => rfl
  | .cls _ => rfl
@[simp ↓] theorem okAT2 {e e' : E} {r : Es} : OkX Z ((evAnd cs (.cons e (.cons e' r))).2 ρ) B = OkX Z ((ev cs e).2 ρ) fun t ρ1 => if t = true then OkX Z ((evAnd cs (.cons e' r)).2 ρ1) B else B false ρ1 := by
  show OkX Z (rIf (ev cs e).2 (evAnd cs (.cons e' r)).2 (rPure false) ρ) B = _
  rw [ok_rIf]
  rfl
@[simp ↓] theorem okOT2 {e e' : E} {r : Es} : OkX Z ((evOr cs (.cons e (.cons e' r))).2 ρ) B = OkX Z ((ev cs e).2 ρ) fun t ρ1 => if t = true then B true ρ1 else OkX Z ((evOr cs (.cons e' r)).2 ρ1) B := by
  show OkX Z (rIf (ev cs e).2 (rPure true) (evOr cs (.cons e' r)).2 ρ) B = _
  rw [ok_rIf]
  rfl
@[simp ↓] theorem okE_and {es : Es} : OkX Z ((ev cs (.and es)).1 ρ) Q = OkX Z ((evAnd cs es).1 ρ) Q := id rfl
@[simp ↓] theorem okT_and {es : Es} : OkX Z ((ev cs (.and es)).2 ρ) B = OkX Z ((evAnd cs es).2 ρ) B := id rfl
@[simp ↓] theorem okE_or {es : Es} : OkX Z ((ev cs (.or es)).1 ρ) Q = OkX Z ((evOr cs es).1 ρ) Q := id rfl
@[simp ↓] theorem okT_or {es : Es} : OkX Z ((ev cs (.or es)).2 ρ) B = OkX Z ((evOr cs es).2 ρ) B := id rfl
@[simp ↓] theorem okC_no {B : Bool → List Sl → Prop} : OkX Z (evC cs .no ρ) B = B true ρ := id rfl
@[simp ↓] theorem okC_yes {e : E} : OkX Z (evC cs (.yes e) ρ) B = OkX Z ((ev cs e).2 ρ) B := id rfl
@[simp ↓] theorem okI_lst {e : E} {Q : List IV → List Sl → Prop} : OkX Z (evIt cs (.lst e) ρ) Q = OkX Z ((ev cs e).1 ρ) fun x ρ1 => OkO (seqL x) fun xs => Q xs ρ1 := by
  show OkX Z ((rBind (ev cs e).1 fun x => rLift (seqL x)) ρ) Q = _
  simp only [ok_bind, ok_lift']
@[simp ↓] theorem okI_tup {e : E} {Q : List IV → List Sl → Prop} : OkX Z (evIt cs (.tup e) ρ) Q = OkX Z ((ev cs e).1 ρ) fun x ρ1 => OkO (seqT x) fun xs => Q xs ρ1 := by
  show OkX Z ((rBind (ev cs e).1 fun x => rLift (seqT x)) ρ) Q = _
  simp only [ok_bind, ok_lift']
@[simp ↓] theorem okI_txt {e : E} {Q : List IV → List Sl → Prop} : OkX Z (evIt cs (.txt e) ρ) Q = OkX Z ((ev cs e).1 ρ) fun x ρ1 => OkO (seqS x) fun xs => Q xs ρ1 := by
  show OkX Z ((rBind (ev cs e).1 fun x => rLift (seqS x)) ρ) Q = _
  simp only [ok_bind, ok_lift']
@[simp ↓] theorem okI_rng {e : E} {Q : List IV → List Sl → Prop} : OkX Z (evIt cs (.rng e) ρ) Q = OkX Z ((ev cs e).1 ρ) fun x ρ1 => OkO (seqR x) fun xs => Q xs ρ1 := by
  show OkX Z ((rBind (ev cs e).1 fun x => rLift (seqR x)) ρ) Q = _
  simp only [ok_bind, ok_lift']
@[simp ↓] theorem okI_enu {e : E} {Q : List IV → List Sl → Prop} : OkX Z (evIt cs (.enu e) ρ) Q = OkX Z ((ev cs e).1 ρ) fun x ρ1 => OkO (seqE x) fun xs => Q xs ρ1 := by
  show OkX Z ((rBind (ev cs e).1 fun x => rLift (seqE x)) ρ) Q = _
  simp only [ok_bind, ok_lift']
@[simp ↓] theorem okI_rng2 {a b : E} {Q : List IV → List Sl → Prop} : OkX Z (evIt cs (.rng2 a b) ρ) Q = OkX Z ((ev cs a).1 ρ) fun x ρ1 => OkX Z ((ev cs b).1 ρ1) fun y ρ2 => OkO (seqR2 x y) fun xs => Q xs ρ2 := by
  show OkX Z ((rBind (ev cs a).1 fun x => rBind (ev cs b).1 fun y => rLift (seqR2 x y)) ρ) Q = _
  simp only [ok_bind, ok_lift']
@[simp ↓] theorem okI_rng3 {a b c : E} {Q : List IV → List Sl → Prop} : OkX Z (evIt cs (.rng3 a b c) ρ) Q = OkX Z ((ev cs a).1 ρ) fun x ρ1 => OkX Z ((ev cs b).1 ρ1) fun y ρ2 => OkX Z ((ev cs c).1 ρ2) fun z ρ3 => OkO (seqR3 x y z) fun xs => Q xs ρ3 := by
  show OkX Z ((rBind (ev cs a).1 fun x => rBind (ev cs b).1 fun y => rBind (ev cs c).1 fun z => rLift (seqR3 x y z)) ρ) Q = _
  simp only [ok_bind, ok_lift']
/-! instances, dicts, generators -/
/-- what is seen of a slot that changes -/
def OkV (ρ : List Sl) (i : Nat) (Q : IV → Prop) : Prop := match ρ[i]? with
  | some (.o d) => Q d
  | some (.b d) => Q d
  | _ => False
theorem ok_viewV {i : Nat} : OkX Z (rView i ρ) Q = OkV ρ i fun d => Q d ρ := by
  rw [ok_view]
  unfold OkV
  match ρ[i]? with
  | none => rfl
  | some .e => rfl
  | some (.i d) => rfl
  | some (.o d) => rfl
  | some (.b d) => rfl
theorem okV_b {i : Nat} {d : IV} {Q : IV → Prop} (h : ρ[i]? = some (.b d)) : OkV ρ i Q = Q d := by unfold OkV; rw [h]
theorem okV_o {i : Nat} {d : IV} {Q : IV → Prop} (h : ρ[i]? = some (.o d)) : OkV ρ i Q = Q d := by unfold OkV; rw [h]
theorem ok_rCall {f : Nat} {xs : List (IV ⊕ Nat)} : OkX Z (rCall cs f xs ρ) Q = OkO (argsD ρ xs) fun ds => OkFX (fun xe ms => Z xe (putM xs ms ρ)) (cs f ds) fun d ms => Q d (putM xs ms ρ) := by
  unfold rCall
  cases argsD ρ xs with
  | none => rfl
  | some ds =>
    show OkX Z (match cs f ds with | none => none | some (r, ms) => some (r, putM xs ms ρ)) Q = _
    match h : cs f ds with
    | none => simp only [okO_some, h]; rfl
    | some (.ok d, ms) => simp only [okO_some, h]; rfl
    | some (.error x, ms) => simp only [okO_some, h]; rfl
theorem ok_rNew {c f : Nat} {xs : List (IV ⊕ Nat)} : OkX Z (rNew cs c f xs ρ) Q = OkO (argsD ρ xs) fun ds => OkFX (fun xe ms => match ms with | _ :: ms => Z xe (putM xs ms ρ) | _ => False) (cs f (.ins c [] :: ds)) fun d ms => match d, ms with | .non, m :: ms => Q m (putM xs ms ρ) | _, _ => False := by
  unfold rNew
  cases argsD ρ xs with
  | none => rfl
  | some ds =>
    show OkX Z (newEnd xs ρ (cs f (.ins c [] :: ds))) Q = _
    match h : cs f (.ins c [] :: ds) with
    | none => simp only [okO_some, h]; rfl
    | some (.ok .non, m :: ms) => simp only [okO_some, h]; rfl
    | some (.ok .non, []) => simp only [okO_some, h]; rfl
    | some (.ok (.bl _), _) => simp only [okO_some, h]; rfl
    | some (.ok (.int _), _) => simp only [okO_some, h]; rfl
    | some (.ok (.str _), _) => simp only [okO_some, h]; rfl
    | some (.ok (.tup _), _) => simp only [okO_some, h]; rfl
    | some (.ok (.lst _), _) => simp only [okO_some, h]; rfl
    | some (.ok (.dct _), _) => simp only [okO_some, h]; rfl
    | some (.ok (.ins _ _), _) => simp only [okO_some, h]; rfl
    | some (.ok (.exc _ _), _) => simp only [okO_some, h]; rfl
    | some (.ok (.cls _), _) => simp only [okO_some, h]; rfl
    | some (.error x, []) => simp only [okO_some, h]; rfl
    | some (.error x, _ :: _) => simp only [okO_some, h]; rfl
theorem ok_rCallK {f : Nat} {perm : List Nat} {ds : List IV} : OkX Z (rCallK cs f perm ds ρ) Q = OkO (pick ds perm) fun ws => OkFX (fun xe _ => Z xe ρ) (cs f ws) fun d _ => Q d ρ := by
  unfold rCallK
  cases pick ds perm with
  | none => rfl
  | some ws =>
    show OkX Z (match cs f ws with | none => none | some (r, _) => some (r, ρ)) Q = _
    match h : cs f ws with
    | none => simp only [okO_some, h]; rfl
    | some (.ok d, ms) => simp only [okO_some, h]; rfl
    | some (.error x, ms) => simp only [okO_some, h]; rfl
@[simp ↓] theorem okE_vfld {i : Nat} {f : Str} {ks : List Nat} : OkX Z ((ev cs (.vfld i f ks)).1 ρ) Q = OkV ρ i fun x => OkO (fldD f [] ks x) fun d => Q d ρ := by
  show OkX Z ((rBind (rView i) fun x => rLift (fldD f [] ks x)) ρ) Q = _
  simp only [ok_bind, ok_lift', ok_viewV]
@[simp ↓] theorem okT_vfld {i : Nat} {f : Str} {ks : List Nat} : OkX Z ((ev cs (.vfld i f ks)).2 ρ) B = OkV ρ i fun x => OkO (fldD f [] ks x) fun d => OkO (truD d) fun t => B t ρ := by rw [okT rfl, okE_vfld]
@[simp ↓] theorem okE_methM {m : Str} {tab : List (Nat × Nat)} {i : Nat} {as : As} {dv : List IV} : OkX Z ((ev cs (.methM m tab i as dv)).1 ρ) Q = OkV ρ i fun x => OkO (methD m tab x) fun f => OkX Z (evAs cs as ρ) fun xs ρ1 => OkO (argsD ρ1 (.inr i :: (xs ++ dv.map .inl))) fun ds => OkFX (fun xe ms => Z xe (putM (.inr i :: (xs ++ dv.map .inl)) ms ρ1)) (cs f ds) fun d ms => Q d (putM (.inr i :: (xs ++ dv.map .inl)) ms ρ1) := by
  show OkX Z ((rBind (rView i) fun x => rBind (rLift (methD m tab x)) fun f => rBind (evAs cs as) fun xs => rCall cs f (.inr i :: (xs ++ dv.map .inl))) ρ) Q = _
  simp only [ok_bind, ok_lift', ok_viewV, ok_rCall]
@[simp ↓] theorem okT_methM {m : Str} {tab : List (Nat × Nat)} {i : Nat} {as : As} {dv : List IV} : OkX Z ((ev cs (.methM m tab i as dv)).2 ρ) B = OkV ρ i fun x => OkO (methD m tab x) fun f => OkX Z (evAs cs as ρ) fun xs ρ1 => OkO (argsD ρ1 (.inr i :: (xs ++ dv.map .inl))) fun ds => OkFX (fun xe ms => Z xe (putM (.inr i :: (xs ++ dv.map .inl)) ms ρ1)) (cs f ds) fun d ms => OkO (truD d) fun t => B t (putM (.inr i :: (xs ++ dv.map .inl)) ms ρ1) := by rw [okT rfl, okE_methM]
@[simp ↓] theorem okE_methV {m : Str} {tab : List (Nat × Nat)} {a : E} {as : As} {dv : List IV} : OkX Z ((ev cs (.methV m tab a as dv)).1 ρ) Q = OkX Z ((ev cs a).1 ρ) fun x ρ0 => OkO (methD m tab x) fun f => OkX Z (evAs cs as ρ0) fun xs ρ1 => OkO (argsD ρ1 (.inl x :: (xs ++ dv.map .inl))) fun ds => OkFX (fun xe ms => Z xe (putM (.inl x :: (xs ++ dv.map .inl)) ms ρ1)) (cs f ds) fun d ms => Q d (putM (.inl x :: (xs ++ dv.map .inl)) ms ρ1) := by
  show OkX Z ((rBind (ev cs a).1 fun x => rBind (rLift (methD m tab x)) fun f => rBind (evAs cs as) fun xs => rCall cs f (.inl x :: (xs ++ dv.map .inl))) ρ) Q = _
  simp only [ok_bind, ok_lift', ok_rCall]
@[simp ↓] theorem okE_new {c f : Nat} {as : As} {dv : List IV} : OkX Z ((ev cs (.new c f as dv)).1 ρ) Q = OkX Z (evAs cs as ρ) fun xs ρ1 => OkO (argsD ρ1 (xs ++ dv.map .inl)) fun ds => OkFX (fun xe ms => match ms with | _ :: ms => Z xe (putM (xs ++ dv.map .inl) ms ρ1) | _ => False) (cs f (.ins c [] :: ds)) fun d ms => match d, ms with | .non, m :: ms => Q m (putM (xs ++ dv.map .inl) ms ρ1) | _, _ => False := by
  show OkX Z ((rBind (evAs cs as) fun xs => rNew cs c f (xs ++ dv.map .inl)) ρ) Q = _
  simp only [ok_bind, ok_rNew]
@[simp ↓] theorem okE_callD {f : Nat} {as : As} {dv : List IV} : OkX Z ((ev cs (.callD f as dv)).1 ρ) Q = OkX Z (evAs cs as ρ) fun xs ρ1 => OkO (argsD ρ1 (xs ++ dv.map .inl)) fun ds => OkFX (fun xe ms => Z xe (putM (xs ++ dv.map .inl) ms ρ1)) (cs f ds) fun d ms => Q d (putM (xs ++ dv.map .inl) ms ρ1) := by
  show OkX Z ((rBind (evAs cs as) fun xs => rCall cs f (xs ++ dv.map .inl)) ρ) Q = _
  simp only [ok_bind, ok_rCall]
@[simp ↓] theorem okE_dix {a b : E} : OkX Z ((ev cs (.dix a b)).1 ρ) Q = OkX Z ((ev cs a).1 ρ) fun x ρ1 => OkX Z ((ev cs b).1 ρ1) fun y ρ2 => OkO (dixD x y) fun d => Q d ρ2 := by
  show OkX Z ((rBind (ev cs a).1 fun x => rBind (ev cs b).1 fun y => rLift (dixD x y)) ρ) Q = _
  simp only [ok_bind, ok_lift']
@[simp ↓] theorem okE_kix {w : Str} {kvs : List (Key × IV)} {b : E} : OkX Z ((ev cs (.kix w kvs b)).1 ρ) Q = OkX Z ((ev cs b).1 ρ) fun y ρ1 => OkO (kixD kvs y) fun d => Q d ρ1 := by
  show OkX Z ((rBind (ev cs b).1 fun y => rLift (kixD kvs y)) ρ) Q = _
  simp only [ok_bind, ok_lift']
@[simp ↓] theorem okE_kget {w : Str} {kvs : List (Key × IV)} {b d : E} : OkX Z ((ev cs (.kget w kvs b d)).1 ρ) Q = OkX Z ((ev cs b).1 ρ) fun y ρ1 => OkX Z ((ev cs d).1 ρ1) fun z ρ2 => OkO (kgetD kvs y z) fun d => Q d ρ2 := by
  show OkX Z ((rBind (ev cs b).1 fun y => rBind (ev cs d).1 fun z => rLift (kgetD kvs y z)) ρ) Q = _
  simp only [ok_bind, ok_lift']
@[simp ↓] theorem okE_dcomp {tg : List Nat} {it : It} {c : OE} {k e : E} : OkX Z ((ev cs (.dcomp tg it c k e)).1 ρ) Q = OkX Z (evIt cs it ρ) fun xs ρ1 => OkX Z (rDict tg (evC cs c) (ev cs k).1 (ev cs e).1 xs ρ1) Q := by
  show OkX Z ((rBind (evIt cs it) fun xs => rDict tg (evC cs c) (ev cs k).1 (ev cs e).1 xs) ρ) Q = _
  rw [ok_bind]
@[simp ↓] theorem okE_listG {f : Nat} {as bs : Es} {ks : List Str} {dv : List IV} {perm : List Nat} : OkX Z ((ev cs (.listG f as bs ks dv perm)).1 ρ) Q = OkX Z (evEs cs as ρ) fun ds ρ1 => OkX Z (evEs cs bs ρ1) fun es ρ2 => OkO (pick (ds ++ es ++ dv) perm) fun ws => OkFX (fun xe _ => Z xe ρ2) (cs f ws) fun d _ => Q d ρ2 := by
  show OkX Z ((rBind (evEs cs as) fun ds => rBind (evEs cs bs) fun es => rCallK cs f perm (ds ++ es ++ dv)) ρ) Q = _
  simp only [ok_bind, ok_rCallK]
theorem ok_rPut {i : Nat} {g : IV → Option IV} : OkX Z (rPut i g ρ) F = OkO ρ[i]? fun r => OkO r.mut fun d => OkO (g d) fun d' => F .nx (ρ.set i (r.put d')) := by
  unfold rPut
  cases ρ[i]? with
  | none => rfl
  | some r =>
    show OkX Z (match r.mut with | some d => (match g d with | some d' => some (.ok Fl.nx, ρ.set i (r.put d')) | none => none) | none => none) F = _
    simp only [okO_some]
    cases hr : r.mut with
    | none => rfl
    | some d =>
      show OkX Z (match g d with | some d' => some (.ok Fl.nx, ρ.set i (r.put d')) | none => none) F = _
      simp only [okO_some]
      cases g d <;> rfl
/-! ### statements -/
@[simp ↓] theorem okS_setF {i : Nat} {f : Str} {ks : List Nat} {e : E} : OkX Z (evS cs N (.setF i f ks e) ρ) F = OkX Z ((ev cs e).1 ρ) fun d ρ1 => OkV ρ1 i fun _ => OkO ρ1[i]? fun r => OkO r.mut fun x => OkO (setFD f ks d x) fun x' => F .nx (ρ1.set i (r.put x')) := by
  show OkX Z ((rBind (ev cs e).1 fun d => rBind (rView i) fun _ => rPut i (setFD f ks d)) ρ) F = _
  simp only [ok_bind, ok_viewV, ok_rPut]
@[simp ↓] theorem okS_augF {i : Nat} {f : Str} {ks : List Nat} {o : BOp} {e : E} : OkX Z (evS cs N (.augF i f ks o e) ρ) F = OkV ρ i fun x => OkO (fldD f [] ks x) fun a => OkX Z ((ev cs e).1 ρ) fun y ρ1 => OkO (augD o a y) fun d => OkO ρ1[i]? fun r => OkO r.mut fun x => OkO (setFD f ks d x) fun x' => F .nx (ρ1.set i (r.put x')) := by
  show OkX Z ((rBind (rView i) fun x => rBind (rLift (fldD f [] ks x)) fun a => rBind (ev cs e).1 fun y => rBind (rLift (augD o a y)) fun d => rPut i (setFD f ks d)) ρ) F = _
  simp only [ok_bind, ok_viewV, ok_lift', ok_rPut]
@[simp ↓] theorem okS_aug {i : Nat} {o : BOp} {e : E} : OkX Z (evS cs N (.aug i o e) ρ) F = OkX Z ((ev cs (.var i)).1 ρ) fun x ρ0 => OkX Z ((ev cs e).1 ρ0) fun y ρ1 => OkO (augD o x y) fun d => F .nx (ρ1.set i (.i d)) := by
  show OkX Z ((rBind (rVar i) fun x => rBind (ev cs e).1 fun y => rBind (rLift (augD o x y)) fun d => rSet i (.i d)) ρ) F = OkX Z (rVar i ρ) _
  simp only [ok_bind, ok_lift', ok_set]
@[simp ↓] theorem okS_par {i j : Nat} {oi oj : Bool} {a b : E} : OkX Z (evS cs N (.par i j oi oj a b) ρ) F = OkX Z ((ev cs a).1 ρ) fun x ρ1 => OkX Z ((ev cs b).1 ρ1) fun y ρ2 => F .nx ((ρ2.set i (if oi = true then .o x else .i x)).set j (if oj = true then .o y else .i y)) := by
  show OkX Z ((rBind (ev cs a).1 fun x => rBind (ev cs b).1 fun y => rBind (rSet i (if oi = true then .o x else .i x)) fun _ => rSet j (if oj = true then .o y else .i y)) ρ) F = _
  simp only [ok_bind, ok_set]
@[simp ↓] theorem okS_app {i : Nat} {e : E} : OkX Z (evS cs N (.app i e) ρ) F = OkV ρ i fun d => OkO (seqL d) fun _ => OkX Z ((ev cs e).1 ρ) fun x ρ1 => OkO ρ1[i]? fun r => OkO r.mut fun d => OkO (appD x d) fun d' => F .nx (ρ1.set i (r.put d')) := by
  show OkX Z ((rBind (rView i) fun d => rBind (rLift (seqL d)) fun _ => rBind (ev cs e).1 fun x => rPut i (appD x)) ρ) F = _
  simp only [ok_bind, ok_viewV, ok_lift', ok_rPut]
@[simp ↓] theorem okG_pl {s : S} {ys : List IV} {Q : Fl × List IV → List Sl → Prop} : OkX Z (evG cs N (.pl s) ys ρ) Q = OkX Z (evS cs N s ρ) fun f ρ1 => Q (f, ys) ρ1 := by
  show OkX Z ((rBind (evS cs N s) fun f => rPure (f, ys)) ρ) Q = _
  simp only [ok_bind, ok_pure]
@[simp ↓] theorem okG_yld {e : E} {ys : List IV} {Q : Fl × List IV → List Sl → Prop} : OkX Z (evG cs N (.yld e) ys ρ) Q = if ys.length < SZ then OkX Z ((ev cs e).1 ρ) fun d ρ1 => Q (.nx, ys ++ [d]) ρ1 else False := by
  show OkX Z ((rBind (rLift (if ys.length < SZ then some () else none)) fun _ => rBind (ev cs e).1 fun d => rPure (.nx, ys ++ [d])) ρ) Q = _
  by_cases h : ys.length < SZ
  · rw [if_pos h, if_pos h]; simp only [ok_bind, ok_pure, ok_lift', okO_some]
  · rw [if_neg h, if_neg h]; rfl
@[simp ↓] theorem okG_whl {c : E} {b : Gs} {ys : List IV} {Q : Fl × List IV → List Sl → Prop} : OkX Z (evG cs N (.whl c b) ys ρ) Q = OkX Z (rWhileG (ev cs c).2 (evGs cs N b) N ys ρ) Q := id rfl
@[simp ↓] theorem okGs_nil {ys : List IV} {Q : Fl × List IV → List Sl → Prop} : OkX Z (evGs cs N .nil ys ρ) Q = Q (.nx, ys) ρ := id rfl
@[simp ↓] theorem okGs_cons {g : G} {r : Gs} {ys : List IV} {Q : Fl × List IV → List Sl → Prop} : OkX Z (evGs cs N (.cons g r) ys ρ) Q = OkX Z (evG cs N g ys ρ) fun p ρ1 => match p.1 with | .nx => OkX Z (evGs cs N r p.2 ρ1) Q | f => Q (f, p.2) ρ1 := by
  show OkX Z ((rBind (evG cs N g ys) fun p => match p.1 with | .nx => evGs cs N r p.2 | f => rPure (f, p.2)) ρ) Q = _
  rw [ok_bind]
  congr
  funext p ρ1
  obtain ⟨f, zs⟩ := p
  cases f <;> rfl
@[simp ↓] theorem okS_asg {i : Nat} {e : E} : OkX Z (evS cs N (.asg i e) ρ) F = OkX Z ((ev cs e).1 ρ) fun d ρ1 => F .nx (ρ1.set i (.i d)) := by
  show OkX Z ((rBind (ev cs e).1 fun d => rSet i (.i d)) ρ) F = _
  simp only [ok_bind, ok_set]
@[simp ↓] theorem okS_asgO {i : Nat} {e : E} : OkX Z (evS cs N (.asgO i e) ρ) F = OkX Z ((ev cs e).1 ρ) fun d ρ1 => F .nx (ρ1.set i (.o d)) := by
  show OkX Z ((rBind (ev cs e).1 fun d => rSet i (.o d)) ρ) F = _
  simp only [ok_bind, ok_set]
@[simp ↓] theorem okS_unp {is : List Nat} {e : E} : OkX Z (evS cs N (.unp is e) ρ) F = OkX Z ((ev cs e).1 ρ) fun d ρ1 => OkX Z (rTg is d ρ1) fun _ ρ2 => F .nx ρ2 := by
  show OkX Z ((rBind (ev cs e).1 fun d => rBind (rTg is d) fun _ => rPure .nx) ρ) F = _
  simp only [ok_bind, ok_pure]
@[simp ↓] theorem okS_setI {i : Nat} {k v : E} : OkX Z (evS cs N (.setI i k v) ρ) F = OkX Z ((ev cs v).1 ρ) fun y ρ1 => OkX Z ((ev cs (.view i)).1 ρ1) fun _ ρ2 => OkX Z ((ev cs k).1 ρ2) fun x ρ3 => OkO ρ3[i]? fun r => OkO r.mut fun d => OkO (setD x y d) fun d' => F .nx (ρ3.set i (r.put d')) := by
  show OkX Z ((rBind (ev cs v).1 fun y => rBind (rView i) fun _ => rBind (ev cs k).1 fun x => rPut i (setD x y)) ρ) F = _
  simp only [ok_bind]
  congr
  funext y ρ1
  show _ = OkX Z (rView i ρ1) _
  congr
  funext u ρ2
  congr
  funext x ρ3
  unfold rPut
  cases ρ3[i]? with
  | none => rfl
  | some r =>
    show OkX Z (match r.mut with | some d => (match setD x y d with | some d' => some (.ok Fl.nx, ρ3.set i (r.put d')) | none => none) | none => none) F = _
    simp only [okO_some]
    cases hr : r.mut with
    | none => rfl
    | some d =>
      show OkX Z (match setD x y d with | some d' => some (.ok Fl.nx, ρ3.set i (r.put d')) | none => none) F = _
      simp only [okO_some]
      cases setD x y d <;> rfl
@[simp ↓] theorem okS_raise {c : Nat} {ps : List Str} {es : Es} : OkX Z (evS cs N (.raise c ps es) ρ) F = OkX Z (evEs cs es ρ) fun ds ρ1 => if ds.length = ps.length then Z ⟨c, ps.zip ds⟩ ρ1 else False := by
  show OkX Z ((rBind (evEs cs es) fun ds => rBind (rLift (if ds.length = ps.length then some () else none)) fun _ => rBind (rRaise ⟨c, ps.zip ds⟩) fun _ => rPure .nx) ρ) F = _
  rw [ok_bind]
  congr
  funext ds ρ1
  by_cases h : ds.length = ps.length
  · rw [if_pos h, if_pos h]; rfl
  · rw [if_neg h, if_neg h]; rfl
@[simp ↓] theorem okS_drop {e : E} : OkX Z (evS cs N (.drop e) ρ) F = OkX Z ((ev cs e).1 ρ) fun _ ρ1 => F .nx ρ1 := by
  show OkX Z ((rBind (ev cs e).1 fun _ => rPure .nx) ρ) F = _
  simp only [ok_bind, ok_pure]
@[simp ↓] theorem okS_ret {e : E} : OkX Z (evS cs N (.ret e) ρ) F = OkX Z ((ev cs e).1 ρ) fun d ρ1 => F (.rt d) ρ1 := by
  show OkX Z ((rBind (ev cs e).1 fun d => rPure (.rt d)) ρ) F = _
  simp only [ok_bind, ok_pure]
@[simp ↓] theorem okS_retN : OkX Z (evS cs N .retN ρ) F = F (.rt .non) ρ := id rfl
@[simp ↓] theorem okS_ite {c : E} {a b : Ss} : OkX Z (evS cs N (.ite c a b) ρ) F = OkX Z ((ev cs c).2 ρ) fun t ρ1 => if t = true then OkX Z (evSs cs N a ρ1) F else OkX Z (evSs cs N b ρ1) F := ok_rIf
@[simp ↓] theorem okS_pass : OkX Z (evS cs N .pass ρ) F = F .nx ρ := id rfl
@[simp ↓] theorem okS_brk : OkX Z (evS cs N .brk ρ) F = F .bk ρ := id rfl
@[simp ↓] theorem okS_cnt : OkX Z (evS cs N .cnt ρ) F = F .ct ρ := id rfl
@[simp ↓] theorem okS_loop {tg : List Nat} {it : It} {b : Ss} : OkX Z (evS cs N (.loop tg it b) ρ) F = OkX Z (evIt cs it ρ) fun xs ρ1 => OkX Z (rFor tg (evSs cs N b) xs ρ1) F := by
  show OkX Z ((rBind (evIt cs it) fun xs => rFor tg (evSs cs N b) xs) ρ) F = _
  rw [ok_bind]
@[simp ↓] theorem okS_whl {c : E} {b : Ss} : OkX Z (evS cs N (.whl c b) ρ) F = OkX Z (rWhile (ev cs c).2 (evSs cs N b) N ρ) F := id rfl
@[simp ↓] theorem okSs_nil : OkX Z (evSs cs N .nil ρ) F = F .nx ρ := id rfl
@[simp ↓] theorem okSs_cons {s : S} {r : Ss} : OkX Z (evSs cs N (.cons s r) ρ) F = OkX Z (evS cs N s ρ) (fun f ρ1 => match f with | .nx => OkX Z (evSs cs N r ρ1) F | f => F f ρ1) := ok_ss_cons
@[simp ↓] theorem okSs_frz {i : Nat} {r : Ss} : OkX Z (evSs cs N (.frz i r) ρ) F = OkO ρ[i]? fun s => match s with | .o d => OkX Z (evSs cs N r (ρ.set i (.i d))) F | _ => False := by
  show OkX Z (match ρ[i]? with | some (.o d) => evSs cs N r (ρ.set i (.i d)) | _ => none) F = _
  match ρ[i]? with
  | none => rfl
  | some .e => rfl
  | some (.i d) => rfl
  | some (.o d) => rfl
  | some (.b d) => rfl
/-! ### operations on known data -/
@[simp] theorem b_addI {i j : Int} : binD .add (.int i) (.int j) = some (.int (i + j)) := id rfl
@[simp] theorem b_subI {i j : Int} : binD .sub (.int i) (.int j) = some (.int (i - j)) := id rfl
theorem b_mulI {i j : Int} (h : mulOk i j = true) : binD .mul (.int i) (.int j) = some (.int (i * j)) := if_pos h
theorem b_addS {a b : List Nat} (h : a.length + b.length ≤ SZ) : binD .add (.str a) (.str b) = some (.str (a ++ b)) := if_pos h
theorem b_addL {a b : List IV} (h : a.length + b.length ≤ SZ) : binD .add (.lst a) (.lst b) = some (.lst (a ++ b)) := if_pos h
theorem b_modI {i j : Int} (h : 0 < j) : binD .mod (.int i) (.int j) = some (.int (i % j)) := if_pos h
theorem b_fdivI {i j : Int} (h : 0 < j) (h' : j < 1073741824) : binD .fdiv (.int i) (.int j) = some (.int (i / j)) := if_pos ⟨h, h'⟩
@[simp] theorem c_ltI {i j : Int} : cmpD .lt (.int i) (.int j) = some (decide (i < j)) := id rfl
@[simp] theorem c_leI {i j : Int} : cmpD .le (.int i) (.int j) = some (decide (i ≤ j)) := id rfl
@[simp] theorem c_gtI {i j : Int} : cmpD .gt (.int i) (.int j) = some (decide (j < i)) := id rfl
@[simp] theorem c_geI {i j : Int} : cmpD .ge (.int i) (.int j) = some (decide (j ≤ i)) := id rfl
@[simp] theorem c_eqI {i j : Int} : cmpD .eq (.int i) (.int j) = some (decide (i = j)) := id rfl
@[simp] theorem c_neI {i j : Int} : cmpD .ne (.int i) (.int j) = some (!decide (i = j)) := id rfl
@[simp] theorem c_eqS {i j : List Nat} : cmpD .eq (.str i) (.str j) = some (decide (i = j)) := id rfl
@[simp] theorem c_neS {i j : List Nat} : cmpD .ne (.str i) (.str j) = some (!decide (i = j)) := id rfl
@[simp] theorem c_in1 {c : Nat} {l : List Nat} : cmpD .isin (.str [c]) (.str l) = some (decide (c ∈ l)) := id rfl
@[simp] theorem t_bl {b : Bool} : truD (.bl b) = some b := id rfl
@[simp] theorem f_intI {i : Int} : fnD .int [.int i] = some (.int i) := id rfl
theorem f_lenS {l : List Nat} (h : l.length ≤ SZ) : fnD .len [.str l] = some (.int l.length) := if_pos h
@[simp] theorem f_lenL {l : List IV} : fnD .len [.lst l] = some (.int l.length) := id rfl
@[simp] theorem f_lenT {l : List IV} : fnD .len [.tup l] = some (.int l.length) := id rfl
@[simp] theorem seqL_l {l : List IV} : seqL (.lst l) = some l := id rfl
@[simp] theorem seqT_l {l : List IV} : seqT (.tup l) = some l := id rfl
@[simp] theorem seqS_l {l : List Nat} : seqS (.str l) = some (l.map fun c => .str [c]) := id rfl
@[simp] theorem tg_one {i : Nat} {d : IV} {Q : Unit → List Sl → Prop} : OkX Z (rTg [i] d ρ) Q = Q () (ρ.set i (.i d)) := id rfl
@[simp] theorem args_nil : argsD ρ [] = some [] := id rfl
@[simp] theorem args_inl {d : IV} {xs : List (IV ⊕ Nat)} : argsD ρ (.inl d :: xs) = (argsD ρ xs).map (d :: ·) := by
  show (match some d, argsD ρ xs with | some d, some ds => some (d :: ds) | _, _ => none) = _
  cases argsD ρ xs <;> rfl
@[simp] theorem args_inr {i : Nat} {xs : List (IV ⊕ Nat)} : argsD ρ (.inr i :: xs) = (ρ[i]?.bind Sl.mut).bind fun d => (argsD ρ xs).map (d :: ·) := by
  show (match ρ[i]?.bind Sl.mut, argsD ρ xs with | some d, some ds => some (d :: ds) | _, _ => none) = _
  cases ρ[i]?.bind Sl.mut <;> cases argsD ρ xs <;> rfl
@[simp] theorem mut_o {d : IV} : (Sl.o d).mut = some d := id rfl
@[simp] theorem mut_b {d : IV} : (Sl.b d).mut = some d := id rfl
@[simp] theorem put_o {d e : IV} : (Sl.o d).put e = .o e := id rfl
@[simp] theorem put_b {d e : IV} : (Sl.b d).put e = .b e := id rfl
@[simp] theorem putM_nil {ms : List IV} : putM [] ms ρ = ρ := id rfl
@[simp] theorem putM_inl {d m : IV} {xs : List (IV ⊕ Nat)} {ms : List IV} : putM (.inl d :: xs) (m :: ms) ρ = putM xs ms ρ := id rfl
@[simp] theorem putM_inr {i : Nat} {m : IV} {xs : List (IV ⊕ Nat)} {ms : List IV} : putM (.inr i :: xs) (m :: ms) ρ = putM xs ms (match ρ[i]? with | some r => ρ.set i (r.put m) | none => ρ) := id rfl
end
/-! ### comprehensions that change nothing -/
theorem set_self {ρ : List Sl} {i : Nat} {r : Sl} (h : ρ[i]? = some r) : ρ.set i r = ρ := by
  apply List.ext_getElem?
  intro j
  by_cases hj : i = j
  · subst hj
    rw [h, List.getElem?_set_self (List.getElem?_eq_some_iff.mp h).1]
  · rw [List.getElem?_set_ne hj]
theorem back1 {ρ : List Sl} {i : Nat} {r s : Sl} (h : ρ[i]? = some r) : back [i] ρ (ρ.set i s) = ρ := by
  show (match ρ[i]? with | some r => (ρ.set i s).set i r | none => ρ.set i s) = ρ
  rw [h]
  show (ρ.set i s).set i r = ρ
  rw [List.set_set, set_self h]
theorem take_next {α : Type} {xs : List α} {n : Nat} {x : α} (h : xs[n]? = some x) : xs.take (n + 1) = xs.take n ++ [x] := by
  rw [List.take_add_one, h]
  rfl
theorem ok_map1 {Z : Xn → List Sl → Prop} {i : Nat} {c : R Bool} {e : R IV} {xs : List IV} {ρ : List Sl} {Q : IV → List Sl → Prop} {r : Sl} (f : IV → IV) (hi : ρ[i]? = some r) (hr : r.light = true) (hl : xs.length ≤ SZ) (hc : ∀ ρ Q, Ok (c ρ) Q = Q true ρ)
    (h : ∀ x ∈ xs, Ok (e (ρ.set i (.i x))) fun y ρ3 => y = f x ∧ ρ3 = ρ.set i (.i x)) (q : Q (.lst (xs.map f)) ρ) : OkX Z (rList [i] c e xs ρ) Q := by
  refine ok_list (by simp [light, hi, hr]) hl ?_
  refine ok_comp (fun n acc ρ' => acc = (xs.take n).map f ∧ ρ' = ρ.set i .e) xs 0 [] ⟨rfl, rfl⟩ ?_ ?_
  · rintro j x acc ρ' hx ⟨rfl, rfl⟩
    show Ok (c ((ρ.set i .e).set i (.i x))) _
    rw [hc, if_pos rfl, List.set_set]
    refine (h x (List.mem_of_getElem? hx)).mono fun y ρ3 ⟨e1, e2⟩ => ⟨?_, ?_⟩
    · rw [Nat.zero_add, take_next hx, List.map_append, e1]
      rfl
    · rw [e2]
      show (ρ.set i (.i x)).set i .e = _
      rw [List.set_set]
  · rintro ys ρ' ⟨e1, rfl⟩
    rw [Nat.zero_add, List.take_length, List.nil_append] at e1
    rw [e1, back1 hi]
    exact q
theorem ok_filter1 {Z : Xn → List Sl → Prop} {i : Nat} {c : R Bool} {e : R IV} {xs : List IV} {ρ : List Sl} {Q : IV → List Sl → Prop} {r : Sl} (p : IV → Bool) (hi : ρ[i]? = some r) (hr : r.light = true) (hl : xs.length ≤ SZ)
    (hc : ∀ x ∈ xs, Ok (c (ρ.set i (.i x))) fun t ρ2 => t = p x ∧ ρ2 = ρ.set i (.i x)) (he : ∀ x ∈ xs, Ok (e (ρ.set i (.i x))) fun y ρ3 => y = x ∧ ρ3 = ρ.set i (.i x)) (q : Q (.lst (xs.filter p)) ρ) : OkX Z (rList [i] c e xs ρ) Q := by
  refine ok_list (by simp [light, hi, hr]) hl ?_
  refine ok_comp (fun n acc ρ' => acc = (xs.take n).filter p ∧ ρ' = ρ.set i .e) xs 0 [] ⟨rfl, rfl⟩ ?_ ?_
  · rintro j x acc ρ' hx ⟨rfl, rfl⟩
    show Ok (c ((ρ.set i .e).set i (.i x))) _
    rw [List.set_set]
    have hm := List.mem_of_getElem? hx
    have cl : clear [i] (ρ.set i (.i x)) = ρ.set i .e := by
      show (ρ.set i (.i x)).set i .e = _
      rw [List.set_set]
    refine (hc x hm).mono fun t ρ2 ⟨e1, e2⟩ => ?_
    subst e1; subst e2
    cases hp : p x with
    | true =>
      rw [if_pos rfl]
      refine (he x hm).mono fun y ρ3 ⟨e1, e2⟩ => ⟨?_, by rw [e2, cl]⟩
      rw [Nat.zero_add, take_next hx, List.filter_append, e1]
      simp [hp]
    | false =>
      rw [if_neg Bool.false_ne_true]
      refine ⟨?_, cl⟩
      rw [Nat.zero_add, take_next hx, List.filter_append]
      simp [hp]
  · rintro ys ρ' ⟨e1, rfl⟩
    rw [Nat.zero_add, List.take_length, List.nil_append] at e1
    rw [e1, back1 hi]
    exact q
@[simp] theorem pick_nil {α : Type} {ds : List α} : pick ds [] = some [] := id rfl
@[simp] theorem pick_cons {α : Type} {ds : List α} {i : Nat} {is : List Nat} : pick ds (i :: is) = (ds[i]?).bind fun d => (pick ds is).map (d :: ·) := by
  show (match ds[i]?, pick ds is with | some d, some r => some (d :: r) | _, _ => none) = _
  cases ds[i]? <;> cases pick ds is <;> rfl
/-- one statement, what follows it kept shut -/
theorem ok_step {Z : Xn → List Sl → Prop} {cs : CS} {N : Nat} {s : S} {r : Ss} {ρ : List Sl} {F : Fl → List Sl → Prop} (h : ∀ K : Fl → List Sl → Prop, (∀ ρ1, OkX Z (evSs cs N r ρ1) F → K .nx ρ1) → (∀ d ρ1, F (.rt d) ρ1 → K (.rt d) ρ1) → OkX Z (evS cs N s ρ) K) : OkX Z (evSs cs N (.cons s r) ρ) F := by
  rw [ok_ss_cons]
  exact h _ (fun ρ1 z => z) (fun d ρ1 z => z)
/-- an expression, what follows it kept shut -/
theorem ok_shut {Z : Xn → List Sl → Prop} {α : Type} {m : R α} {ρ : List Sl} {Q : α → List Sl → Prop} (h : ∀ K : α → List Sl → Prop, (∀ a ρ1, Q a ρ1 → K a ρ1) → OkX Z (m ρ) K) : OkX Z (m ρ) Q := h Q fun _ _ z => z
theorem joinL_len (s : List Nat) : ∀ ts : List (List Nat), (TL.joinL s ts).length ≤ (ts.map List.length).sum + ts.length * s.length
  | [] => by simp [TL.joinL]
  | [p] => by simp [TL.joinL]
  | p :: q :: r => by
    have z := joinL_len s (q :: r)
    show (p ++ (s ++ TL.joinL s (q :: r))).length ≤ _
    simp only [List.length_append, List.map_cons, List.sum_cons, List.length_cons, Nat.add_mul, Nat.one_mul] at z ⊢
    omega
/-- texts, each at most m long -/
def Txs (m : Nat) (xs : List IV) : Prop := ∃ ts, texts xs = some ts ∧ ∀ t ∈ ts, t.length ≤ m
theorem texts_app : ∀ {xs ys : List IV} {ts us : List (List Nat)}, texts xs = some ts → texts ys = some us → texts (xs ++ ys) = some (ts ++ us)
  | [], ys, ts, us, h, h' => by cases h; exact h'
  | .str l :: xs, ys, ts, us, h, h' => by
    have h : (texts xs).map (l :: ·) = some ts := h
    cases hx : texts xs with
    | none => rw [hx] at h; cases h
    | some vs =>
      rw [hx] at h
      cases h
      show (texts (xs ++ ys)).map (l :: ·) = _
      rw [texts_app hx h']
      rfl
theorem Txs.snoc {m : Nat} {xs : List IV} {l : List Nat} (h : Txs m xs) (hl : l.length ≤ m) : Txs m (xs ++ [.str l]) := by
  obtain ⟨ts, e, a⟩ := h
  refine ⟨ts ++ [l], texts_app e rfl, fun t ht => ?_⟩
  rcases List.mem_append.mp ht with z | z
  · exact a t z
  · cases List.mem_singleton.mp z; exact hl
theorem Txs.nil {m : Nat} : Txs m [] := ⟨[], rfl, fun _ z => nomatch z⟩
theorem texts_len : ∀ {xs : List IV} {ts : List (List Nat)}, texts xs = some ts → ts.length = xs.length
  | [], ts, h => by cases h; rfl
  | .str l :: xs, ts, h => by
    have h : (texts xs).map (l :: ·) = some ts := h
    cases hx : texts xs with
    | none => rw [hx] at h; cases h
    | some vs =>
      rw [hx] at h
      cases h
      rw [List.length_cons, texts_len hx]; rfl
theorem sum_le {m : Nat} : ∀ {ts : List (List Nat)}, (∀ t ∈ ts, t.length ≤ m) → (ts.map List.length).sum ≤ ts.length * m
  | [], _ => by simp
  | t :: ts, h => by
    have z := sum_le (m := m) (ts := ts) fun u hu => h u (List.mem_cons_of_mem _ hu)
    have := h t List.mem_cons_self
    simp only [List.map_cons, List.sum_cons, List.length_cons, Nat.add_mul, Nat.one_mul]
    omega
theorem join_ok {m : Nat} {s : List Nat} {xs : List IV} (h : Txs m xs) (hz : xs.length * (m + s.length) ≤ SZ) : ∃ l, mtD .join (.str s) [.lst xs] = some (.str l) ∧ l.length ≤ xs.length * (m + s.length) := by
  obtain ⟨ts, e, a⟩ := h
  have z := sum_le a
  have ln := texts_len e
  have jl := joinL_len s ts
  rw [ln] at z jl
  rw [Nat.mul_add] at hz ⊢
  refine ⟨TL.joinL s ts, ?_, by omega⟩
  show (match texts xs with | some ts => if (ts.map List.length).sum + ts.length * s.length ≤ SZ then some (IV.str (TL.joinL s ts)) else none | none => none) = _
  rw [e]
  show (if (ts.map List.length).sum + ts.length * s.length ≤ SZ then some (IV.str (TL.joinL s ts)) else none) = _
  rw [if_pos (by rw [ln]; omega)]
/-- one statement that does not leave the def, by what it brings about -/
theorem ok_mid {Z : Xn → List Sl → Prop} {cs : CS} {N : Nat} {s : S} {r : Ss} {ρ : List Sl} {F : Fl → List Sl → Prop} (M : List Sl → Prop) (h1 : OkX Z (evS cs N s ρ) fun f ρ1 => f = .nx ∧ M ρ1) (h2 : ∀ ρ1, M ρ1 → OkX Z (evSs cs N r ρ1) F) : OkX Z (evSs cs N (.cons s r) ρ) F := by
  rw [ok_ss_cons]
  refine h1.mono fun f ρ1 ⟨e, m⟩ => ?_
  subst e
  exact h2 ρ1 m
@[simp] theorem in_tup {l : List Nat} {ys : List IV} (h : ys.all flatD = true) : cmpD .isin (.str l) (.tup ys) = some (ys.any fun y => eqF y (.str l)) := if_pos ⟨rfl, h⟩
@[simp] theorem okFX_ok {Z : Xn → List IV → Prop} {d : IV} {ms : List IV} {Q : IV → List IV → Prop} : OkFX Z (some (.ok d, ms)) Q = Q d ms := id rfl
@[simp] theorem okFX_er {Z : Xn → List IV → Prop} {x : Xn} {ms : List IV} {Q : IV → List IV → Prop} : OkFX Z (some (.error x, ms)) Q = Z x ms := id rfl
@[simp] theorem okFX_ite {Z : Xn → List IV → Prop} {c : Prop} [Decidable c] {a b : Except Xn IV} {ms : List IV} {Q : IV → List IV → Prop} : OkFX Z (some (if c then a else b, ms)) Q = if c then OkFX Z (some (a, ms)) Q else OkFX Z (some (b, ms)) Q := by split <;> rfl
@[simp] theorem okV_cb {d : IV} {ρ : List Sl} {Q : IV → Prop} : OkV (.b d :: ρ) 0 Q = Q d := id rfl
@[simp] theorem au_add {i j : Int} : augD .add (.int i) (.int j) = some (.int (i + j)) := id rfl
@[simp] theorem au_sub {i j : Int} : augD .sub (.int i) (.int j) = some (.int (i - j)) := id rfl
@[simp ↓] theorem okT_var {Z : Xn → List Sl → Prop} {cs : CS} {ρ : List Sl} {i : Nat} {B : Bool → List Sl → Prop} : OkX Z ((ev cs (.var i)).2 ρ) B = OkX Z ((ev cs (.var i)).1 ρ) fun d ρ1 => OkO (truD d) fun t => B t ρ1 := okT rfl
theorem cut_nat {α : Type} {l : List α} {a b : Nat} : cutL l (some (a : Int)) (some (b : Int)) = (l.drop a).take (b - a) := by
  unfold cutL
  rw [HT.sIx_nat, HT.sIx_nat]
  apply List.ext_getElem?
  intro i
  rw [List.getElem?_take, List.getElem?_take, List.getElem?_drop, List.getElem?_drop]
  by_cases h1 : a ≤ l.length
  · rw [Nat.min_eq_left h1]
    by_cases h2 : b ≤ l.length
    · rw [Nat.min_eq_left h2]
    · rw [Nat.min_eq_right (by omega)]
      by_cases h3 : i < l.length - a
      · rw [if_pos h3, if_pos (by omega)]
      · rw [if_neg h3]
        split
        · exact (List.getElem?_eq_none (by omega)).symm
        · rfl
  · rw [Nat.min_eq_right (a := a) (by omega)]
    have e1 : l[l.length + i]? = none := List.getElem?_eq_none (by omega)
    have e2 : l[a + i]? = none := List.getElem?_eq_none (by omega)
    rw [e1, e2]
    split <;> split <;> rfl
theorem sl_str {L : List Nat} {a b : Nat} (h : L.length ≤ SZ) : slD (.str L) (some (a : Int)) (some (b : Int)) = some (.str ((L.drop a).take (b - a))) := by
  show (if L.length ≤ SZ then some (IV.str (cutL L _ _)) else none) = _
  rw [if_pos h, cut_nat]
end Mx


/-! Mx, part 9: more of how runs are reckoned. -/
namespace Mx
open PySem PySem.Spec PyProof.Rows L2
/-- while of a generator: an invariant by a measure and what is out -/
theorem ok_whileG {Z : Xn → List Sl → Prop} {c : R Bool} {b : List IV → R (Fl × List IV)} {Q : Fl × List IV → List Sl → Prop} (P : Nat → List IV → List Sl → Prop) (h : ∀ m ys ρ, P m ys ρ → OkX Z (c ρ) fun t ρ1 => if t = true then OkX Z (b ys ρ1) fun p ρ2 => match p.1 with | .nx => ∃ m', m' < m ∧ P m' p.2 ρ2 | .ct => ∃ m', m' < m ∧ P m' p.2 ρ2 | .bk => Q (.nx, p.2) ρ2 | .rt d => Q (.rt d, p.2) ρ2 else Q (.nx, ys) ρ1) :
    ∀ (N m : Nat) {ys : List IV} {ρ : List Sl}, m < N → P m ys ρ → OkX Z (rWhileG c b N ys ρ) Q
  | 0, m, ys, ρ, hm, _ => absurd hm (Nat.not_lt_zero _)
  | N + 1, m, ys, ρ, hm, hp => by
    show OkX Z ((rBind c fun t => if t = true then rBind (b ys) fun p => match p.1 with | .nx => rWhileG c b N p.2 | .ct => rWhileG c b N p.2 | .bk => rPure (.nx, p.2) | .rt d => rPure (.rt d, p.2) else rPure (.nx, ys)) ρ) Q
    rw [ok_bind]
    refine (h m ys ρ hp).mono fun t ρ1 h1 => ?_
    cases t with
    | false => rw [if_neg Bool.false_ne_true] at h1 ⊢; exact h1
    | true =>
      rw [if_pos rfl] at h1 ⊢
      rw [ok_bind]
      refine h1.mono fun p ρ2 h2 => ?_
      obtain ⟨f, zs⟩ := p
      cases f with
      | nx => obtain ⟨m', l, p⟩ := h2; exact ok_whileG P h N m' (by omega) p
      | ct => obtain ⟨m', l, p⟩ := h2; exact ok_whileG P h N m' (by omega) p
      | bk => exact h2
      | rt d => exact h2
theorem bools_map {α : Type} (g : α → Bool) : ∀ l : List α, bools (l.map fun c => IV.bl (g c)) = some (l.map g)
  | [] => rfl
  | c :: l => by
    show (bools (l.map fun c => IV.bl (g c))).map (g c :: ·) = _
    rw [bools_map g l]
    rfl
theorem f_allM {α : Type} {g : α → Bool} {l : List α} : fnD .all [.lst (l.map fun c => IV.bl (g c))] = some (.bl (l.all g)) := by
  show (bools (l.map fun c => IV.bl (g c))).map (fun bs => IV.bl (bs.all id)) = _
  rw [bools_map]
  simp [List.all_map]
@[simp] theorem f_ord {c : Nat} : fnD .ord [.str [c]] = some (.int (c : Nat)) := id rfl
theorem c_le1 {a b : Nat} : cmpD .le (.str [a]) (.str [b]) = some (decide (a ≤ b)) := by
  show some (!decide ([b] < [a])) = _
  by_cases h : a ≤ b
  · rw [decide_eq_true h, decide_eq_false]
    · rfl
    · intro z
      rcases List.cons_lt_cons_iff.mp z with z | ⟨_, z⟩
      · omega
      · exact absurd z (List.lt_irrefl _)
  · rw [decide_eq_false h, decide_eq_true]
    · rfl
    · exact List.cons_lt_cons_iff.mpr (.inl (by omega))
/-- a comprehension with several targets that changes nothing -/
theorem ok_mapT {Z : Xn → List Sl → Prop} {tg : List Nat} {c : R Bool} {e : R IV} {xs : List IV} {ρ : List Sl} {Q : IV → List Sl → Prop} (f : IV → IV) (hl : light tg ρ = true) (hx : xs.length ≤ SZ) (hc : ∀ ρ Q, Ok (c ρ) Q = Q true ρ) (hb : back tg ρ (clear tg ρ) = ρ)
    (h : ∀ x ∈ xs, Ok (rTg tg x (clear tg ρ)) fun _ ρ1 => Ok (e ρ1) fun y ρ3 => y = f x ∧ clear tg ρ3 = clear tg ρ) (q : Q (.lst (xs.map f)) ρ) : OkX Z (rList tg c e xs ρ) Q := by
  refine ok_list hl hx ?_
  refine ok_comp (fun n acc ρ' => acc = (xs.take n).map f ∧ ρ' = clear tg ρ) xs 0 [] ⟨rfl, rfl⟩ ?_ ?_
  · rintro j x acc ρ' hx ⟨rfl, rfl⟩
    refine (h x (List.mem_of_getElem? hx)).mono fun _ ρ1 h1 => ?_
    have hc' := fun Q => hc ρ1 Q
    unfold Ok at hc'
    rw [hc', if_pos rfl]
    refine h1.mono fun y ρ3 ⟨e1, e2⟩ => ⟨?_, e2⟩
    rw [Nat.zero_add, take_next hx, List.map_append, e1]
    rfl
  · rintro ys ρ' ⟨e1, rfl⟩
    rw [Nat.zero_add, List.take_length, List.nil_append] at e1
    rw [e1, hb]
    exact q
end Mx


/-! Mx, part 10: equal data. -/
namespace Mx
open PySem PySem.Spec PyProof.Rows L2
/-- plain data, at most n deep; texts of ASCII -/
inductive Pl : Nat → IV → Prop
  | non {n : Nat} : Pl n .non
  | bl {n : Nat} {b : Bool} : Pl n (.bl b)
  | int {n : Nat} {i : Int} : Pl n (.int i)
  | str {n : Nat} {l : List Nat} : ascii l = true → Pl n (.str l)
  | tup {n : Nat} {xs : List IV} : (∀ x ∈ xs, Pl n x) → Pl (n + 1) (.tup xs)
  | lst {n : Nat} {xs : List IV} : (∀ x ∈ xs, Pl n x) → Pl (n + 1) (.lst xs)
theorem strOk_ascii {l : List Nat} (h : ascii l = true) : PyData.strOk (sOf l) = true := by
  unfold PyData.strOk sOf ascii at *
  rw [List.all_eq_true] at h
  simp
  intro c hc
  have := h c hc
  simp at this
  omega
theorem Pl.toPs {n : Nat} (ih : ∀ x, Pl n x → ∃ p, x.toP = some p ∧ p.canLay0 = true ∧ p.depth ≤ n) : ∀ (xs : List IV), (∀ x ∈ xs, Pl n x) → ∃ ps, IV.toPs xs = some ps ∧ PyData.canLayAll0 ps = true ∧ PyData.depthAll ps ≤ n
  | [], _ => ⟨[], rfl, rfl, Nat.zero_le _⟩
  | x :: xs, h => by
    obtain ⟨p, e1, e2, e3⟩ := ih x (h x List.mem_cons_self)
    obtain ⟨ps, f1, f2, f3⟩ := Pl.toPs ih xs fun y hy => h y (List.mem_cons_of_mem _ hy)
    refine ⟨p :: ps, by rw [IV.toPs, e1, f1], by rw [PyData.canLayAll0, e2, f2]; rfl, ?_⟩
    rw [PyData.depthAll]
    omega
theorem Pl.toP : ∀ {n : Nat} {x : IV}, Pl n x → ∃ p, x.toP = some p ∧ p.canLay0 = true ∧ p.depth ≤ n := by
  intro n
  induction n with
  | zero =>
    intro x h
    cases h with
    | non => exact ⟨_, rfl, rfl, Nat.le_refl _⟩
    | bl => exact ⟨_, rfl, rfl, Nat.le_refl _⟩
    | int => exact ⟨_, rfl, rfl, Nat.le_refl _⟩
    | str h => exact ⟨_, rfl, by rw [PyData.canLay0]; exact strOk_ascii h, Nat.le_refl _⟩
  | succ n ih =>
    intro x h
    cases h with
    | non => exact ⟨_, rfl, rfl, Nat.zero_le _⟩
    | bl => exact ⟨_, rfl, rfl, Nat.zero_le _⟩
    | int => exact ⟨_, rfl, rfl, Nat.zero_le _⟩
    | str h => exact ⟨_, rfl, by rw [PyData.canLay0]; exact strOk_ascii h, Nat.zero_le _⟩
    | @tup _ xs h =>
      obtain ⟨ps, e1, e2, e3⟩ := Pl.toPs (fun x => ih) xs h
      exact ⟨.tuple ps, by rw [IV.toP, e1], by rw [PyData.canLay0]; exact e2, by rw [PyData.depth]; omega⟩
    | @lst _ xs h =>
      obtain ⟨ps, e1, e2, e3⟩ := Pl.toPs (fun x => ih) xs h
      exact ⟨.list ps, by rw [IV.toP, e1], by rw [PyData.canLay0]; exact e2, by rw [PyData.depth]; omega⟩
theorem eqD_refl {n : Nat} {x : IV} (h : Pl n x) (hn : n ≤ 64) : eqD x x = some true := by
  obtain ⟨p, e1, e2, e3⟩ := h.toP
  have sh : SeqAt.shaped p = true := by
    unfold SeqAt.shaped
    rw [e2, decide_eq_true (show p.depth ≤ 64 by omega)]
    rfl
  have ev : PyData.eqv p p = true := SeqAt.eqv_refl p e2
  cases h with
  | non => rfl
  | bl => simp [eqD]
  | int => simp [eqD]
  | str h => simp [eqD]
  | @tup _ xs h =>
    show (match (IV.tup xs).toP, (IV.tup xs).toP with | some p, some q => if SeqAt.shaped p = true ∧ SeqAt.shaped q = true then some (PyData.eqv p q) else none | _, _ => none) = _
    rw [e1]
    show (if SeqAt.shaped p = true ∧ SeqAt.shaped p = true then some (PyData.eqv p p) else none) = _
    rw [if_pos ⟨sh, sh⟩, ev]
  | @lst _ xs h =>
    show (match (IV.lst xs).toP, (IV.lst xs).toP with | some p, some q => if SeqAt.shaped p = true ∧ SeqAt.shaped q = true then some (PyData.eqv p q) else none | _, _ => none) = _
    rw [e1]
    show (if SeqAt.shaped p = true ∧ SeqAt.shaped p = true then some (PyData.eqv p p) else none) = _
    rw [if_pos ⟨sh, sh⟩, ev]
theorem c_eq_refl {n : Nat} {x : IV} (h : Pl n x) (hn : n ≤ 64) : cmpD .eq x x = some true := eqD_refl h hn
theorem c_ne_refl {n : Nat} {x : IV} (h : Pl n x) (hn : n ≤ 64) : cmpD .ne x x = some false := by
  show (eqD x x).map (!·) = _
  rw [eqD_refl h hn]
  rfl
end Mx


/-! K03: the text in the language of Mx. -/
namespace K03
open PySem PySem.Spec PyProof.Rows L2 Mx
def top (i : Nat) : Stmt := PySem.Challenge.pw_macroasm_k03_whole_tokens_read.main.body.getD i (.Pass ⟨0, 0, 0, 0⟩)
def w_NAME_SIGNS : List Nat := [65, 66, 67, 68, 69, 70, 71, 72, 73, 74, 75, 76, 77, 78, 79, 80, 81, 82, 83, 84, 85, 86, 87, 88, 89, 90, 97, 98, 99, 100, 101, 102, 103, 104, 105, 106, 107, 108, 109, 110, 111, 112, 113, 114, 115, 116, 117, 118, 119, 120, 121, 122, 95, 48, 49, 50, 51, 52, 53, 54, 55, 56, 57]
def w_LETTERS : List Nat := [65, 66, 67, 68, 69, 70, 71, 72, 73, 74, 75, 76, 77, 78, 79, 80, 81, 82, 83, 84, 85, 86, 87, 88, 89, 90, 97, 98, 99, 100, 101, 102, 103, 104, 105, 106, 107, 108, 109, 110, 111, 112, 113, 114, 115, 116, 117, 118, 119, 120, 121, 122, 95]
def w_DIGITS : List Nat := [48, 49, 50, 51, 52, 53, 54, 55, 56, 57]
def w_SINGLE : List Nat := [124, 94, 38, 60, 62, 43, 45, 42, 47, 126, 33, 40, 41, 123, 125, 44, 58, 61]
def w_CHARACTER : List Nat := [99, 104, 97, 114, 97, 99, 116, 101, 114]
def w_FURTHER : List Nat := [32, 33, 34, 35, 36, 39, 46, 59, 63, 64, 91, 92, 93, 96]
def w_6 : List Nat := [32, 33, 34, 35, 36, 38, 39, 40, 41, 42, 43, 44, 45, 46, 47, 48, 49, 50, 51, 52, 53, 54, 55, 56, 57, 58, 59, 60, 61, 62, 63, 64, 65, 66, 67, 68, 69, 70, 71, 72, 73, 74, 75, 76, 77, 78, 79, 80, 81, 82, 83, 84, 85, 86, 87, 88, 89, 90, 91, 92, 93, 94, 95, 96]
def w_7 : List Nat := [97, 98, 99, 100, 101, 102, 103, 104, 105, 106, 107, 108, 109, 110, 111, 112, 113, 114, 115, 116, 117, 118, 119, 120, 121, 122, 123, 124, 125, 126]
def w_8 : List Nat := [97, 66, 122, 95, 109, 76, 120]
def w_9 : List Nat := [97, 98, 48, 95, 57, 90, 120]
def w_10 : List Nat := [57, 57, 57, 57, 57, 57, 57, 57, 57]
def w_11 : List Nat := [48, 49, 50, 51, 52, 53, 54, 55, 56, 57, 97, 98, 99, 100, 101, 102]
def w_12 : List Nat := [32, 59, 32, 39, 120, 32, 34]
def w_13 : List Nat := [48, 49, 50, 51, 52, 53, 54, 55, 56, 57, 65, 66, 67, 68, 69, 70, 97, 98, 99, 100, 101, 102]
def kd_BASES : List (Key × IV) := [(.inr "0x", (.int 16)), (.inr "0b", (.int 2))]
def kd_DIGITS_OF : List (Key × IV) := [(.inl 16, (.str w_13)), (.inl 10, (.str w_DIGITS)), (.inl 2, (.str [48, 49]))]
def b_need_line : Ss := (.cons (.ite (.or (.cons (.not (.isi (.var 0) "str")) (.cons (.not (.fn .all (.cons (.comp [1] (.txt (.var 0)) .no (.and (.cons (.chn .le .le (.cst (.str [32])) (.var 1) (.cst (.str [126]))) (.cons (.cmp .ne (.fn .ord (.cons (.var 1) .nil)) (.glo "LACKING" (.int 37))) .nil)))) .nil))) .nil)))
  (.cons (.raise 0 ["column"] (.cons (.cst (.int 0)) .nil)) .nil)
  .nil)
  (.cons (.ite (.cmp .gt (.fn .len (.cons (.var 0) .nil)) (.glo "MAX_LINE" (.int 400)))
  (.cons (.raise 1 ["limit"] (.cons (.glo "MAX_LINE" (.int 400)) .nil)) .nil)
  .nil) .nil))
def f_need_line : Fn := { name := "need_line", ps := ["value"], ns := ["value", "one"], muts := [false], own := false, body := b_need_line, kws := [], rp := false }
def b_Scanner___init__ : Ss := (.cons (.drop (.call 0 (.v (.var 1) .nil)))
  (.cons (.setF 0 "own_line" [2] (.var 1))
  (.cons (.setF 0 "takes_made" [2] (.var 2))
  (.cons (.setF 0 "where_now" [2] (.var 3)) .nil))))
def f_Scanner___init__ : Fn := { name := "__init__", ps := ["self", "line", "can_be_made", "begin"], ns := ["self", "line", "can_be_made", "begin"], muts := [true, false, false, false], own := false, body := b_Scanner___init__, kws := [], qual := "Scanner.__init__", glob := false, dfls := [[(.int 0)]], rp := false }
def b_Scanner_seen : Ss := (.cons (.ret (.sl (.vfld 0 "own_line" [2]) (.yes (.bin .add (.vfld 0 "where_now" [2]) (.var 1))) (.yes (.bin .add (.bin .add (.vfld 0 "where_now" [2]) (.var 1)) (.cst (.int 1)))))) .nil)
def f_Scanner_seen : Fn := { name := "seen", ps := ["self", "far"], ns := ["self", "far"], muts := [true, false], own := false, body := b_Scanner_seen, kws := [], qual := "Scanner.seen", glob := false, dfls := [[(.int 0)]], rp := false }
def b_Scanner_is_here : Ss := (.cons (.ret (.and (.cons (.cmp .ne (.methM "seen" [(2, 2)] 0 .nil [(.int 0)]) (.cst (.str []))) (.cons (.cmp .isin (.methM "seen" [(2, 2)] 0 .nil [(.int 0)]) (.var 1)) .nil)))) .nil)
def f_Scanner_is_here : Fn := { name := "is_here", ps := ["self", "signs"], ns := ["self", "signs"], muts := [true, false], own := false, body := b_Scanner_is_here, kws := [], qual := "Scanner.is_here", glob := false, rp := false }
def b_Scanner_is_over : Ss := (.cons (.ret (.cmp .isin (.methM "seen" [(2, 2)] 0 .nil [(.int 0)]) (.tup (.cons (.cst (.str [])) (.cons (.cst (.str [59])) .nil))))) .nil)
def f_Scanner_is_over : Fn := { name := "is_over", ps := ["self"], ns := ["self"], muts := [true], own := false, body := b_Scanner_is_over, kws := [], qual := "Scanner.is_over", glob := false, rp := false }
def b_Scanner_need : Ss := (.cons (.ite (.not (.var 1))
  (.cons (.raise 0 ["column"] (.cons (.vfld 0 "where_now" [2]) .nil)) .nil)
  .nil) .nil)
def f_Scanner_need : Fn := { name := "need", ps := ["self", "is_right"], ns := ["self", "is_right"], muts := [true, false], own := false, body := b_Scanner_need, kws := [], qual := "Scanner.need", glob := false, rp := false }
def b_Scanner_need_end : Ss := (.cons (.drop (.methM "need" [(2, 5)] 0 (.v (.not (.methM "is_here" [(2, 3)] 0 (.v (.bin .add (.glo "NAME_SIGNS" (.str w_NAME_SIGNS)) (.cst (.str [64]))) .nil) [])) .nil) []))
  (.cons (.ite (.and (.cons (.cmp .eq (.methM "seen" [(2, 2)] 0 .nil [(.int 0)]) (.cst (.str [46]))) (.cons (.cmp .ne (.methM "seen" [(2, 2)] 0 (.v (.cst (.int 1)) .nil) []) (.cst (.str [46]))) .nil)))
  (.cons (.raise 0 ["column"] (.cons (.bin .add (.vfld 0 "where_now" [2]) (.cst (.int 1))) .nil)) .nil)
  .nil) .nil))
def f_Scanner_need_end : Fn := { name := "need_end", ps := ["self"], ns := ["self"], muts := [true], own := false, body := b_Scanner_need_end, kws := [], qual := "Scanner.need_end", glob := false, rp := false }
def b_Scanner_pass_blanks : Ss := (.cons (.whl (.cmp .eq (.methM "seen" [(2, 2)] 0 .nil [(.int 0)]) (.cst (.str [32])))
  (.cons (.augF 0 "where_now" [2] .add (.cst (.int 1))) .nil)) .nil)
def f_Scanner_pass_blanks : Fn := { name := "pass_blanks", ps := ["self"], ns := ["self"], muts := [true], own := false, body := b_Scanner_pass_blanks, kws := [], qual := "Scanner.pass_blanks", glob := false, rp := false }
def b_Scanner_pass_name : Ss := (.cons (.drop (.methM "need" [(2, 5)] 0 (.v (.methM "is_here" [(2, 3)] 0 (.v (.glo "LETTERS" (.str w_LETTERS)) .nil) []) .nil) []))
  (.cons (.drop (.methM "take_some" [(2, 10)] 0 (.v (.glo "NAME_SIGNS" (.str w_NAME_SIGNS)) (.v (.glo "MAX_NAME" (.int 40)) .nil)) [])) .nil))
def f_Scanner_pass_name : Fn := { name := "pass_name", ps := ["self"], ns := ["self"], muts := [true], own := false, body := b_Scanner_pass_name, kws := [], qual := "Scanner.pass_name", glob := false, rp := false }
def b_Scanner_pass_part : Ss := (.cons (.drop (.methM "pass_name" [(2, 8)] 0 .nil []))
  (.cons (.ite (.and (.cons (.vfld 0 "takes_made" [2]) (.cons (.cmp .eq (.methM "seen" [(2, 2)] 0 .nil [(.int 0)]) (.cst (.str [64]))) .nil)))
  (.cons (.augF 0 "where_now" [2] .add (.cst (.int 1)))
    (.cons (.drop (.methM "need" [(2, 5)] 0 (.v (.cmp .ne (.methM "seen" [(2, 2)] 0 .nil [(.int 0)]) (.cst (.str [48]))) .nil) []))
    (.cons (.drop (.methM "take_some" [(2, 10)] 0 (.v (.glo "DIGITS" (.str w_DIGITS)) (.v (.glo "MAX_MADE" (.int 9)) .nil)) [])) .nil)))
  .nil) .nil))
def f_Scanner_pass_part : Fn := { name := "pass_part", ps := ["self"], ns := ["self"], muts := [true], own := false, body := b_Scanner_pass_part, kws := [], qual := "Scanner.pass_part", glob := false, rp := false }
def b_Scanner_take_some : Ss := (.cons (.asg 3 (.vfld 0 "where_now" [2]))
  (.cons (.drop (.methM "need" [(2, 5)] 0 (.v (.methM "is_here" [(2, 3)] 0 (.v (.var 1) .nil) []) .nil) []))
  (.cons (.whl (.methM "is_here" [(2, 3)] 0 (.v (.var 1) .nil) [])
  (.cons (.drop (.methM "need" [(2, 5)] 0 (.v (.cmp .lt (.bin .sub (.vfld 0 "where_now" [2]) (.var 3)) (.var 2)) .nil) []))
    (.cons (.augF 0 "where_now" [2] .add (.cst (.int 1))) .nil)))
  (.cons (.ret (.sl (.vfld 0 "own_line" [2]) (.yes (.var 3)) (.yes (.vfld 0 "where_now" [2])))) .nil))))
def f_Scanner_take_some : Fn := { name := "take_some", ps := ["self", "signs", "most"], ns := ["self", "signs", "most", "begin"], muts := [true, false, false], own := false, body := b_Scanner_take_some, kws := [], qual := "Scanner.take_some", glob := false, rp := false }
def b_Scanner_take_path : Ss := (.cons (.par 1 2 false false (.vfld 0 "where_now" [2]) (.cst (.int 1)))
  (.cons (.drop (.methM "pass_part" [(2, 9)] 0 .nil []))
  (.cons (.whl (.and (.cons (.cmp .eq (.methM "seen" [(2, 2)] 0 .nil [(.int 0)]) (.cst (.str [46]))) (.cons (.cmp .ne (.methM "seen" [(2, 2)] 0 (.v (.cst (.int 1)) .nil) []) (.cst (.str [46]))) .nil)))
  (.cons (.augF 0 "where_now" [2] .add (.cst (.int 1)))
    (.cons (.drop (.methM "need" [(2, 5)] 0 (.v (.cmp .lt (.var 2) (.glo "MAX_PATH" (.int 8))) .nil) []))
    (.cons (.drop (.methM "pass_part" [(2, 9)] 0 .nil []))
    (.cons (.aug 2 .add (.cst (.int 1))) .nil)))))
  (.cons (.drop (.methM "need_end" [(2, 6)] 0 .nil []))
  (.cons (.ret (.sl (.vfld 0 "own_line" [2]) (.yes (.var 1)) (.yes (.vfld 0 "where_now" [2])))) .nil)))))
def f_Scanner_take_path : Fn := { name := "take_path", ps := ["self"], ns := ["self", "begin", "many"], muts := [true], own := false, body := b_Scanner_take_path, kws := [], qual := "Scanner.take_path", glob := false, rp := false }
def b_Scanner_take_marked : Ss := (.cons (.asg 1 (.vfld 0 "where_now" [2]))
  (.cons (.augF 0 "where_now" [2] .add (.cst (.int 1)))
  (.cons (.drop (.methM "pass_name" [(2, 8)] 0 .nil []))
  (.cons (.drop (.methM "need_end" [(2, 6)] 0 .nil []))
  (.cons (.ret (.sl (.vfld 0 "own_line" [2]) (.yes (.var 1)) (.yes (.vfld 0 "where_now" [2])))) .nil)))))
def f_Scanner_take_marked : Fn := { name := "take_marked", ps := ["self"], ns := ["self", "begin"], muts := [true], own := false, body := b_Scanner_take_marked, kws := [], qual := "Scanner.take_marked", glob := false, rp := false }
def b_Scanner_take_number : Ss := (.cons (.asg 1 (.kget "BASES" kd_BASES (.bin .add (.methM "seen" [(2, 2)] 0 .nil [(.int 0)]) (.methM "seen" [(2, 2)] 0 (.v (.cst (.int 1)) .nil) [])) (.cst (.int 10))))
  (.cons (.ite (.cmp .ne (.var 1) (.cst (.int 10)))
  (.cons (.augF 0 "where_now" [2] .add (.cst (.int 2))) .nil)
  .nil)
  (.cons (.asg 2 (.methM "take_some" [(2, 10)] 0 (.v (.kix "DIGITS_OF" kd_DIGITS_OF (.var 1)) (.v (.glo "MAX_DIGITS" (.int 40)) .nil)) []))
  (.cons (.drop (.methM "need_end" [(2, 6)] 0 .nil []))
  (.cons (.asg 3 (.fn .int (.cons (.var 2) (.cons (.var 1) .nil))))
  (.cons (.ite (.cmp .gt (.var 3) (.glo "LARGEST" (.int 18446744073709551616)))
  (.cons (.raise 1 ["limit"] (.cons (.glo "LARGEST" (.int 18446744073709551616)) .nil)) .nil)
  .nil)
  (.cons (.ret (.var 3)) .nil)))))))
def f_Scanner_take_number : Fn := { name := "take_number", ps := ["self"], ns := ["self", "base", "digits", "found"], muts := [true], own := false, body := b_Scanner_take_number, kws := [], qual := "Scanner.take_number", glob := false, rp := false }
def b_Scanner_take_unit : Ss := (.cons (.drop (.methM "need" [(2, 5)] 0 (.v (.cmp .notin (.methM "seen" [(2, 2)] 0 .nil [(.int 0)]) (.tup (.cons (.cst (.str [])) (.cons (.var 1) .nil)))) .nil) []))
  (.cons (.asg 2 (.methM "seen" [(2, 2)] 0 .nil [(.int 0)]))
  (.cons (.ite (.cmp .eq (.var 2) (.cst (.str [92])))
  (.cons (.augF 0 "where_now" [2] .add (.cst (.int 1)))
    (.cons (.drop (.methM "need" [(2, 5)] 0 (.v (.methM "is_here" [(2, 3)] 0 (.v (.cst (.str [34, 39, 92, 110])) .nil) []) .nil) []))
    (.cons (.asg 2 (.ite (.cmp .eq (.methM "seen" [(2, 2)] 0 .nil [(.int 0)]) (.cst (.str [110]))) (.cst (.str [10])) (.methM "seen" [(2, 2)] 0 .nil [(.int 0)]))) .nil)))
  .nil)
  (.cons (.augF 0 "where_now" [2] .add (.cst (.int 1)))
  (.cons (.ret (.var 2)) .nil)))))
def f_Scanner_take_unit : Fn := { name := "take_unit", ps := ["self", "mark"], ns := ["self", "mark", "found"], muts := [true, false], own := false, body := b_Scanner_take_unit, kws := [], qual := "Scanner.take_unit", glob := false, rp := false }
def b_Scanner_take_quoted : Ss := (.cons (.augF 0 "where_now" [2] .add (.cst (.int 1)))
  (.cons (.asg 1 (.methM "take_unit" [(2, 14)] 0 (.v (.cst (.str [39])) .nil) []))
  (.cons (.drop (.methM "need" [(2, 5)] 0 (.v (.cmp .eq (.methM "seen" [(2, 2)] 0 .nil [(.int 0)]) (.cst (.str [39]))) .nil) []))
  (.cons (.augF 0 "where_now" [2] .add (.cst (.int 1)))
  (.cons (.ret (.var 1)) .nil)))))
def f_Scanner_take_quoted : Fn := { name := "take_quoted", ps := ["self"], ns := ["self", "found"], muts := [true], own := false, body := b_Scanner_take_quoted, kws := [], qual := "Scanner.take_quoted", glob := false, rp := false }
def b_Scanner_take_string : Ss := (.cons (.asg 1 (.cst (.str [])))
  (.cons (.augF 0 "where_now" [2] .add (.cst (.int 1)))
  (.cons (.whl (.cmp .ne (.methM "seen" [(2, 2)] 0 .nil [(.int 0)]) (.cst (.str [34])))
  (.cons (.asg 1 (.bin .add (.var 1) (.methM "take_unit" [(2, 14)] 0 (.v (.cst (.str [34])) .nil) []))) .nil))
  (.cons (.augF 0 "where_now" [2] .add (.cst (.int 1)))
  (.cons (.ret (.var 1)) .nil)))))
def f_Scanner_take_string : Fn := { name := "take_string", ps := ["self"], ns := ["self", "found"], muts := [true], own := false, body := b_Scanner_take_string, kws := [], qual := "Scanner.take_string", glob := false, rp := false }
def b_Scanner_take_sign : Ss := (.cons (.asg 1 (.bin .add (.methM "seen" [(2, 2)] 0 .nil [(.int 0)]) (.methM "seen" [(2, 2)] 0 (.v (.cst (.int 1)) .nil) [])))
  (.cons (.ite (.cmp .notin (.var 1) (.glo "DOUBLE" (.tup [(.str [124, 124]), (.str [38, 38]), (.str [61, 61]), (.str [33, 61]), (.str [60, 61]), (.str [62, 61]), (.str [60, 60]), (.str [62, 62]), (.str [46, 46])])))
  (.cons (.drop (.methM "need" [(2, 5)] 0 (.v (.methM "is_here" [(2, 3)] 0 (.v (.glo "SINGLE" (.str w_SINGLE)) .nil) []) .nil) []))
    (.cons (.asg 1 (.methM "seen" [(2, 2)] 0 .nil [(.int 0)])) .nil))
  .nil)
  (.cons (.augF 0 "where_now" [2] .add (.fn .len (.cons (.var 1) .nil)))
  (.cons (.ret (.var 1)) .nil))))
def f_Scanner_take_sign : Fn := { name := "take_sign", ps := ["self"], ns := ["self", "found"], muts := [true], own := false, body := b_Scanner_take_sign, kws := [], qual := "Scanner.take_sign", glob := false, rp := false }
def b_Scanner_take_token : Ss := (.cons (.ite (.methM "is_here" [(2, 3)] 0 (.v (.glo "LETTERS" (.str w_LETTERS)) .nil) [])
  (.cons (.asg 1 (.methM "take_path" [(2, 11)] 0 .nil []))
    (.cons (.ret (.tup (.cons (.ite (.cmp .eq (.var 1) (.cst (.str [109, 111, 100]))) (.glo "SIGN" (.str [115, 105, 103, 110])) (.glo "NAME" (.str [110, 97, 109, 101]))) (.cons (.var 1) .nil)))) .nil))
  .nil)
  (.cons (.ite (.methM "is_here" [(2, 3)] 0 (.v (.glo "DIGITS" (.str w_DIGITS)) .nil) [])
  (.cons (.ret (.tup (.cons (.glo "NUMBER" (.str [110, 117, 109, 98, 101, 114])) (.cons (.methM "take_number" [(2, 13)] 0 .nil []) .nil)))) .nil)
  .nil)
  (.cons (.ite (.cmp .eq (.methM "seen" [(2, 2)] 0 .nil [(.int 0)]) (.cst (.str [39])))
  (.cons (.ret (.tup (.cons (.glo "CHARACTER" (.str w_CHARACTER)) (.cons (.fn .ord (.cons (.methM "take_quoted" [(2, 15)] 0 .nil []) .nil)) .nil)))) .nil)
  .nil)
  (.cons (.ite (.cmp .eq (.methM "seen" [(2, 2)] 0 .nil [(.int 0)]) (.cst (.str [34])))
  (.cons (.ret (.tup (.cons (.glo "STRING" (.str [115, 116, 114, 105, 110, 103])) (.cons (.methM "take_string" [(2, 16)] 0 .nil []) .nil)))) .nil)
  .nil)
  (.cons (.ite (.and (.cons (.cmp .eq (.methM "seen" [(2, 2)] 0 .nil [(.int 0)]) (.cst (.str [46]))) (.cons (.cmp .ne (.methM "seen" [(2, 2)] 0 (.v (.cst (.int 1)) .nil) []) (.cst (.str [46]))) .nil)))
  (.cons (.ret (.tup (.cons (.glo "LOCAL" (.str [108, 111, 99, 97, 108])) (.cons (.methM "take_marked" [(2, 12)] 0 .nil []) .nil)))) .nil)
  .nil)
  (.cons (.ite (.and (.cons (.cmp .eq (.methM "seen" [(2, 2)] 0 .nil [(.int 0)]) (.cst (.str [64]))) (.cons (.not (.vfld 0 "takes_made" [2])) .nil)))
  (.cons (.ret (.tup (.cons (.glo "OWN" (.str [111, 119, 110])) (.cons (.methM "take_marked" [(2, 12)] 0 .nil []) .nil)))) .nil)
  .nil)
  (.cons (.ret (.tup (.cons (.glo "SIGN" (.str [115, 105, 103, 110])) (.cons (.methM "take_sign" [(2, 17)] 0 .nil []) .nil)))) .nil)))))))
def f_Scanner_take_token : Fn := { name := "take_token", ps := ["self"], ns := ["self", "path"], muts := [true], own := false, body := b_Scanner_take_token, kws := [], qual := "Scanner.take_token", glob := false, rp := false }
def b_tokens : Gs := (.cons (.pl (.asgO 2 (.new 2 1 (.v (.var 0) (.v (.var 1) .nil)) [(.int 0)])))
  (.cons (.pl (.drop (.methM "pass_blanks" [(2, 7)] 2 .nil [])))
  (.cons (.whl (.not (.methM "is_over" [(2, 4)] 2 .nil [])) (.cons (.pl (.asg 3 (.vfld 2 "where_now" [2])))
  (.cons (.pl (.unp [4, 5] (.methM "take_token" [(2, 18)] 2 .nil [])))
  (.cons (.yld (.tup (.cons (.var 4) (.cons (.var 5) (.cons (.var 3) .nil)))))
  (.cons (.pl (.drop (.methM "pass_blanks" [(2, 7)] 2 .nil [])))
  .nil)))))
  .nil)))
def f_tokens : Fn := { name := "tokens", ps := ["line", "made"], ns := ["line", "made", "scanner", "begin", "sort", "value"], muts := [false, false], own := false, body := .nil, kws := [], gbody := some b_tokens, kwds := [(1, ["made"], [], [0, 1]), (1, [], [(.bl false)], [0, 1]), (0, ["made", "line"], [], [1, 0])], rp := false }
def b_shown : Ss := (.cons (.ite (.cmp .eq (.var 0) (.cst (.str [10])))
  (.cons (.ret (.cst (.str [92, 110]))) .nil)
  .nil)
  (.cons (.ret (.ite (.cmp .isin (.var 0) (.tup (.cons (.var 1) (.cons (.cst (.str [92])) .nil)))) (.bin .add (.cst (.str [92])) (.var 0)) (.var 0))) .nil))
def f_shown : Fn := { name := "shown", ps := ["one", "mark"], ns := ["one", "mark"], muts := [false, false], own := false, body := b_shown, kws := [], rp := false }
def b_character_of : Ss := (.cons (.asg 1 (.dcomp [2] (.txt (.bin .add (.bin .add (.bin .add (.glo "NAME_SIGNS" (.str w_NAME_SIGNS)) (.glo "SINGLE" (.str w_SINGLE))) (.glo "FURTHER" (.str w_FURTHER))) (.cst (.str [10])))) .no (.fn .ord (.cons (.var 2) .nil)) (.var 2)))
  (.cons (.ret (.dix (.var 1) (.var 0))) .nil))
def f_character_of : Fn := { name := "character_of", ps := ["code"], ns := ["code", "known", "one"], muts := [false], own := false, body := b_character_of, kws := [], rp := false }
def b_written : Ss := (.cons (.ite (.cmp .eq (.var 0) (.glo "NUMBER" (.str [110, 117, 109, 98, 101, 114])))
  (.cons (.ret (.fn .str (.cons (.var 1) .nil))) .nil)
  .nil)
  (.cons (.ite (.cmp .eq (.var 0) (.glo "CHARACTER" (.str w_CHARACTER)))
  (.cons (.ret (.bin .add (.bin .add (.cst (.str [39])) (.call 20 (.v (.call 21 (.v (.var 1) .nil)) (.v (.cst (.str [39])) .nil)))) (.cst (.str [39])))) .nil)
  .nil)
  (.cons (.ite (.cmp .eq (.var 0) (.glo "STRING" (.str [115, 116, 114, 105, 110, 103])))
  (.cons (.ret (.bin .add (.bin .add (.cst (.str [34])) (.mt .join (.cst (.str [])) (.cons (.comp [2] (.txt (.var 1)) .no (.call 20 (.v (.var 2) (.v (.cst (.str [34])) .nil)))) .nil))) (.cst (.str [34])))) .nil)
  .nil)
  (.cons (.ret (.var 1)) .nil))))
def f_written : Fn := { name := "written", ps := ["sort", "value"], ns := ["sort", "value", "one"], muts := [false, false], own := false, body := b_written, kws := [], rp := false }
def b_line_of : Ss := (.cons (.ret (.mt .join (.cst (.str [32])) (.cons (.comp [1, 2] (.tup (.var 0)) .no (.call 22 (.v (.var 1) (.v (.var 2) .nil)))) .nil))) .nil)
def f_line_of : Fn := { name := "line_of", ps := ["pairs"], ns := ["pairs", "sort", "value"], muts := [false], own := false, body := b_line_of, kws := [(0, ["pairs"], [0])], rp := false }
def b__law_mixed : Ss := (.cons (.asg 0 (.bin .mod (.fn .int (.cons (.bin .mul (.bin .add (.bin .add (.bin .mod (.fn .int (.cons (.var 0) .nil)) (.cst (.int 2147483647))) (.bin .mul (.bin .mul (.cst (.int 7919)) (.var 1)) (.var 1))) (.bin .mul (.cst (.int 31)) (.var 1))) (.cst (.int 48271))) .nil)) (.cst (.int 2147483647))))
  (.cons (.ret (.bin .mod (.fn .int (.cons (.bin .mul (.var 0) (.bin .add (.cst (.int 69621)) (.bin .mul (.cst (.int 2)) (.var 1)))) .nil)) (.cst (.int 2147483629)))) .nil))
def f__law_mixed : Fn := { name := "_law_mixed", ps := ["_law_number", "_law_k"], ns := ["_law_number", "_law_k"], muts := [false, false], own := false, body := b__law_mixed, kws := [], rp := false }
def b__law_stream : Ss := (.cons (.ret (.lst (.cons (.ite (.cmp .ge (.var 0) (.bin .pow (.cst (.int 10)) (.cst (.int 18)))) (.var 0) (.cst (.int 0))) (.cons (.cst (.int 0)) (.cons (.call 24 (.v (.var 0) (.v (.var 1) .nil))) .nil))))) .nil)
def f__law_stream : Fn := { name := "_law_stream", ps := ["_law_item", "_law_k"], ns := ["_law_item", "_law_k"], muts := [false, false], own := true, body := b__law_stream, kws := [], rp := false }
def b__law_draw : Ss := (.cons (.setI 0 (.cst (.int 1)) (.bin .add (.ix (.view 0) (.cst (.int 1))) (.cst (.int 1))))
  (.cons (.ite (.cmp .eq (.ix (.view 0) (.cst (.int 0))) (.cst (.int 0)))
  (.cons (.ret (.bin .mod (.fn .int (.cons (.call 24 (.v (.call 24 (.v (.ix (.view 0) (.cst (.int 2))) (.v (.ix (.view 0) (.cst (.int 1))) .nil))) (.v (.cst (.int 7)) .nil))) .nil)) (.var 1))) .nil)
  .nil)
  (.cons (.asg 2 (.bin .mod (.fn .int (.cons (.ix (.view 0) (.cst (.int 0))) .nil)) (.var 1)))
  (.cons (.setI 0 (.cst (.int 0)) (.bin .fdiv (.ix (.view 0) (.cst (.int 0))) (.var 1)))
  (.cons (.ret (.var 2)) .nil)))))
def f__law_draw : Fn := { name := "_law_draw", ps := ["_law_stream_here", "_law_top"], ns := ["_law_stream_here", "_law_top", "_law_number"], muts := [true, false], own := false, body := b__law_draw, kws := [], rp := false }
def b__law_pick : Ss := (.cons (.ret (.ix (.var 1) (.call 26 (.m 0 (.v (.fn .len (.cons (.var 1) .nil)) .nil))))) .nil)
def f__law_pick : Fn := { name := "_law_pick", ps := ["_law_stream_here", "_law_some"], ns := ["_law_stream_here", "_law_some"], muts := [true, false], own := false, body := b__law_pick, kws := [], rp := false }
def b__law_signs : Ss := (.cons (.asg 0 (.lst (.cons (.cst (.str [124, 124])) (.cons (.cst (.str [38, 38])) (.cons (.cst (.str [61, 61])) (.cons (.cst (.str [33, 61])) (.cons (.cst (.str [60, 61])) (.cons (.cst (.str [62, 61])) (.cons (.cst (.str [60, 60])) (.cons (.cst (.str [62, 62])) (.cons (.cst (.str [46, 46])) (.cons (.cst (.str [124])) (.cons (.cst (.str [94])) (.cons (.cst (.str [38])) (.cons (.cst (.str [60])) (.cons (.cst (.str [62])) (.cons (.cst (.str [43])) (.cons (.cst (.str [45])) (.cons (.cst (.str [42])) (.cons (.cst (.str [47])) .nil))))))))))))))))))))
  (.cons (.ret (.bin .add (.var 0) (.lst (.cons (.cst (.str [126])) (.cons (.cst (.str [33])) (.cons (.cst (.str [40])) (.cons (.cst (.str [41])) (.cons (.cst (.str [123])) (.cons (.cst (.str [125])) (.cons (.cst (.str [44])) (.cons (.cst (.str [58])) (.cons (.cst (.str [61])) .nil)))))))))))) .nil))
def f__law_signs : Fn := { name := "_law_signs", ps := [], ns := ["_law_found"], muts := [], own := false, body := b__law_signs, kws := [], rp := false }
def b__law_characters : Ss := (.cons (.asg 0 (.cst (.str w_6)))
  (.cons (.ret (.bin .add (.var 0) (.cst (.str w_7)))) .nil))
def f__law_characters : Fn := { name := "_law_characters", ps := [], ns := ["_law_found"], muts := [], own := false, body := b__law_characters, kws := [], rp := false }
def b__law_name : Ss := (.cons (.asg 1 (.call 27 (.m 0 (.v (.fn .list (.cons (.cst (.str w_8)) .nil)) .nil))))
  (.cons (.asg 2 (.call 27 (.m 0 (.v (.lst (.cons (.cst (.int 0)) (.cons (.cst (.int 0)) (.cons (.cst (.int 1)) (.cons (.cst (.int 2)) (.cons (.cst (.int 5)) .nil)))))) .nil))))
  (.cons (.ret (.bin .add (.var 1) (.mt .join (.cst (.str [])) (.cons (.comp [3] (.rng (.var 2)) .no (.call 27 (.m 0 (.v (.fn .list (.cons (.cst (.str w_9)) .nil)) .nil)))) .nil)))) .nil)))
def f__law_name : Fn := { name := "_law_name", ps := ["_law_stream_here"], ns := ["_law_stream_here", "_law_first", "_law_size", "_law_turn"], muts := [true], own := false, body := b__law_name, kws := [], rp := false }
def b__law_path : Ss := (.cons (.asgO 2 (.lst .nil))
  (.cons (.loop [3] (.rng (.call 27 (.m 0 (.v (.lst (.cons (.cst (.int 1)) (.cons (.cst (.int 1)) (.cons (.cst (.int 1)) (.cons (.cst (.int 2)) (.cons (.cst (.int 3)) (.cons (.cst (.int 8)) .nil))))))) .nil))))
  (.cons (.asg 4 (.call 30 (.m 0 .nil)))
    (.cons (.ite (.and (.cons (.var 1) (.cons (.cmp .eq (.call 26 (.m 0 (.v (.cst (.int 3)) .nil))) (.cst (.int 0))) .nil)))
    (.cons (.asg 4 (.bin .add (.bin .add (.var 4) (.cst (.str [64]))) (.call 27 (.m 0 (.v (.lst (.cons (.cst (.str [49])) (.cons (.cst (.str [50, 48])) (.cons (.cst (.str w_10)) .nil)))) .nil))))) .nil)
    .nil)
    (.cons (.app 2 (.var 4)) .nil))))
  (.cons (.ret (.mt .join (.cst (.str [46])) (.cons (.view 2) .nil))) .nil)))
def f__law_path : Fn := { name := "_law_path", ps := ["_law_stream_here", "_law_is_plain"], ns := ["_law_stream_here", "_law_is_plain", "_law_parts", "_law_turn", "_law_part"], muts := [true, false], own := false, body := b__law_path, kws := [], rp := false }
def b__law_digits : Ss := (.cons (.asg 2 (.ix (.cst (.str w_11)) (.bin .mod (.fn .int (.cons (.var 0) .nil)) (.var 1))))
  (.cons (.whl (.cmp .ge (.var 0) (.var 1))
  (.cons (.asg 0 (.bin .fdiv (.var 0) (.var 1)))
    (.cons (.asg 2 (.bin .add (.ix (.cst (.str w_11)) (.bin .mod (.fn .int (.cons (.var 0) .nil)) (.var 1))) (.var 2))) .nil)))
  (.cons (.ret (.var 2)) .nil)))
def f__law_digits : Fn := { name := "_law_digits", ps := ["_law_number", "_law_radix"], ns := ["_law_number", "_law_radix", "_law_found"], muts := [false, false], own := false, body := b__law_digits, kws := [], rp := false }
def b__law_numeral : Ss := (.cons (.asg 1 (.call 27 (.m 0 (.v (.lst (.cons (.cst (.int 0)) (.cons (.cst (.int 1)) (.cons (.cst (.int 9)) (.cons (.cst (.int 10)) (.cons (.cst (.int 255)) (.cons (.bin .pow (.cst (.int 2)) (.cst (.int 64))) (.cons (.bin .sub (.bin .pow (.cst (.int 2)) (.cst (.int 64))) (.cst (.int 1))) (.cons (.call 26 (.m 0 (.v (.bin .pow (.cst (.int 10)) (.cst (.int 6))) .nil))) .nil))))))))) .nil))))
  (.cons (.asg 2 (.bin .mul (.cst (.str [48])) (.call 27 (.m 0 (.v (.lst (.cons (.cst (.int 0)) (.cons (.cst (.int 0)) (.cons (.cst (.int 1)) (.cons (.cst (.int 20)) .nil))))) .nil)))))
  (.cons (.asg 3 (.call 26 (.m 0 (.v (.cst (.int 4)) .nil))))
  (.cons (.ite (.cmp .lt (.var 3) (.cst (.int 2)))
  (.cons (.ret (.tup (.cons (.var 1) (.cons (.bin .add (.var 2) (.call 32 (.v (.var 1) (.v (.cst (.int 10)) .nil)))) .nil)))) .nil)
  .nil)
  (.cons (.ite (.cmp .eq (.var 3) (.cst (.int 2)))
  (.cons (.asg 4 (.bin .add (.var 2) (.call 32 (.v (.var 1) (.v (.cst (.int 16)) .nil)))))
    (.cons (.ret (.tup (.cons (.var 1) (.cons (.bin .add (.cst (.str [48, 120])) (.ite (.cmp .eq (.call 26 (.m 0 (.v (.cst (.int 2)) .nil))) (.cst (.int 0))) (.mt .upper (.var 4) .nil) (.var 4))) .nil)))) .nil))
  .nil)
  (.cons (.asg 5 (.bin .mod (.fn .int (.cons (.var 1) .nil)) (.bin .pow (.cst (.int 10)) (.cst (.int 6)))))
  (.cons (.ret (.tup (.cons (.var 5) (.cons (.bin .add (.bin .add (.cst (.str [48, 98])) (.var 2)) (.call 32 (.v (.var 5) (.v (.cst (.int 2)) .nil)))) .nil)))) .nil)))))))
def f__law_numeral : Fn := { name := "_law_numeral", ps := ["_law_stream_here"], ns := ["_law_stream_here", "_law_number", "_law_zeros", "_law_way", "_law_digits_here", "_law_small"], muts := [true], own := false, body := b__law_numeral, kws := [], rp := false }
def b__law_unit : Ss := (.cons (.asg 2 (.call 27 (.m 0 (.v (.bin .add (.fn .list (.cons (.call 29 .nil) .nil)) (.lst (.cons (.cst (.str [10])) (.cons (.cst (.str [92])) (.cons (.cst (.str [39])) (.cons (.cst (.str [34])) (.cons (.cst (.str [59])) (.cons (.cst (.str [10])) .nil)))))))) .nil))))
  (.cons (.ite (.cmp .eq (.var 2) (.cst (.str [10])))
  (.cons (.ret (.tup (.cons (.var 2) (.cons (.cst (.str [92, 110])) .nil)))) .nil)
  .nil)
  (.cons (.ite (.or (.cons (.cmp .isin (.var 2) (.tup (.cons (.var 1) (.cons (.cst (.str [92])) .nil)))) (.cons (.and (.cons (.cmp .isin (.var 2) (.tup (.cons (.cst (.str [39])) (.cons (.cst (.str [34])) .nil)))) (.cons (.cmp .eq (.call 26 (.m 0 (.v (.cst (.int 2)) .nil))) (.cst (.int 0))) .nil))) .nil)))
  (.cons (.ret (.tup (.cons (.var 2) (.cons (.bin .add (.cst (.str [92])) (.var 2)) .nil)))) .nil)
  .nil)
  (.cons (.ret (.tup (.cons (.var 2) (.cons (.var 2) .nil)))) .nil))))
def f__law_unit : Fn := { name := "_law_unit", ps := ["_law_stream_here", "_law_mark"], ns := ["_law_stream_here", "_law_mark", "_law_one"], muts := [true, false], own := false, body := b__law_unit, kws := [], rp := false }
def b__law_token : Ss := (.cons (.asg 2 (.call 26 (.m 0 (.v (.cst (.int 9)) .nil))))
  (.cons (.ite (.cmp .lt (.var 2) (.cst (.int 2)))
  (.cons (.asg 3 (.call 31 (.m 0 (.v (.var 1) .nil))))
    (.cons (.ret (.tup (.cons (.ite (.cmp .eq (.var 3) (.cst (.str [109, 111, 100]))) (.cst (.str [115, 105, 103, 110])) (.cst (.str [110, 97, 109, 101]))) (.cons (.var 3) (.cons (.var 3) .nil))))) .nil))
  .nil)
  (.cons (.ite (.cmp .eq (.var 2) (.cst (.int 2)))
  (.cons (.asg 4 (.call 27 (.m 0 (.v (.lst (.cons (.cst (.str [46])) (.cons (.ite (.var 1) (.cst (.str [46])) (.cst (.str [64]))) .nil))) .nil))))
    (.cons (.asg 5 (.bin .add (.var 4) (.call 30 (.m 0 .nil))))
    (.cons (.ret (.tup (.cons (.ite (.cmp .eq (.var 4) (.cst (.str [46]))) (.cst (.str [108, 111, 99, 97, 108])) (.cst (.str [111, 119, 110]))) (.cons (.var 5) (.cons (.var 5) .nil))))) .nil)))
  .nil)
  (.cons (.ite (.cmp .eq (.var 2) (.cst (.int 3)))
  (.cons (.unp [6, 7] (.call 33 (.m 0 .nil)))
    (.cons (.ret (.tup (.cons (.cst (.str [110, 117, 109, 98, 101, 114])) (.cons (.var 6) (.cons (.var 7) .nil))))) .nil))
  .nil)
  (.cons (.ite (.cmp .eq (.var 2) (.cst (.int 4)))
  (.cons (.unp [8, 9] (.call 34 (.m 0 (.v (.cst (.str [39])) .nil))))
    (.cons (.ret (.tup (.cons (.cst (.str w_CHARACTER)) (.cons (.fn .ord (.cons (.var 8) .nil)) (.cons (.bin .add (.bin .add (.cst (.str [39])) (.var 9)) (.cst (.str [39]))) .nil))))) .nil))
  .nil)
  (.cons (.ite (.cmp .eq (.var 2) (.cst (.int 5)))
  (.cons (.asg 10 (.comp [11] (.rng (.call 26 (.m 0 (.v (.cst (.int 6)) .nil)))) .no (.call 34 (.m 0 (.v (.cst (.str [34])) .nil)))))
    (.cons (.ret (.tup (.cons (.cst (.str [115, 116, 114, 105, 110, 103])) (.cons (.mt .join (.cst (.str [])) (.cons (.comp [12] (.lst (.var 10)) .no (.ix (.var 12) (.cst (.int 0)))) .nil)) (.cons (.bin .add (.bin .add (.cst (.str [34])) (.mt .join (.cst (.str [])) (.cons (.comp [12] (.lst (.var 10)) .no (.ix (.var 12) (.cst (.int 1)))) .nil))) (.cst (.str [34]))) .nil))))) .nil))
  .nil)
  (.cons (.asg 13 (.call 27 (.m 0 (.v (.bin .add (.call 28 .nil) (.lst (.cons (.cst (.str [109, 111, 100])) (.cons (.cst (.str [109, 111, 100])) (.cons (.cst (.str [46, 46])) .nil))))) .nil))))
  (.cons (.ret (.tup (.cons (.cst (.str [115, 105, 103, 110])) (.cons (.var 13) (.cons (.var 13) .nil))))) .nil))))))))
def f__law_token : Fn := { name := "_law_token", ps := ["_law_stream_here", "_law_is_plain"], ns := ["_law_stream_here", "_law_is_plain", "_law_way", "_law_path_here", "_law_mark", "_law_word", "_law_number", "_law_digits_here", "_law_one", "_law_shape", "_law_units", "_law_turn", "_law_pair", "_law_sign"], muts := [true, false], own := false, body := b__law_token, kws := [], rp := false }
def b__law_is_apart : Ss := (.cons (.ite (.or (.cons (.cmp .isin (.ix (.var 0) (.cst (.int 0))) (.tup (.cons (.cst (.str [110, 97, 109, 101])) (.cons (.cst (.str [108, 111, 99, 97, 108])) (.cons (.cst (.str [111, 119, 110])) (.cons (.cst (.str [110, 117, 109, 98, 101, 114])) .nil)))))) (.cons (.cmp .eq (.ix (.var 0) (.cst (.int 1))) (.cst (.str [109, 111, 100]))) .nil)))
  (.cons (.ret (.or (.cons (.cmp .isin (.ix (.var 1) (.cst (.int 0))) (.tup (.cons (.cst (.str w_CHARACTER)) (.cons (.cst (.str [115, 116, 114, 105, 110, 103])) .nil)))) (.cons (.and (.cons (.cmp .eq (.ix (.var 1) (.cst (.int 0))) (.cst (.str [115, 105, 103, 110]))) (.cons (.cmp .ne (.ix (.var 1) (.cst (.int 1))) (.cst (.str [109, 111, 100]))) .nil))) .nil)))) .nil)
  .nil)
  (.cons (.ret (.or (.cons (.cmp .ne (.ix (.var 0) (.cst (.int 0))) (.cst (.str [115, 105, 103, 110]))) (.cons (.cmp .notin (.bin .add (.ix (.var 0) (.cst (.int 2))) (.sl (.ix (.var 1) (.cst (.int 2))) .no (.yes (.cst (.int 1))))) (.call 28 .nil)) .nil)))) .nil))
def f__law_is_apart : Fn := { name := "_law_is_apart", ps := ["_law_left", "_law_right_here"], ns := ["_law_left", "_law_right_here"], muts := [false, false], own := false, body := b__law_is_apart, kws := [], rp := false }
def b__law_right : Ss := (.cons (.asg 2 (.bin .mul (.cst (.str [32])) (.call 27 (.m 0 (.v (.lst (.cons (.cst (.int 0)) (.cons (.cst (.int 0)) (.cons (.cst (.int 1)) (.cons (.cst (.int 3)) .nil))))) .nil)))))
  (.cons (.par 3 4 true false (.lst .nil) (.tup (.cons (.cst (.str [])) (.cons (.cst (.str [])) (.cons (.cst (.str [])) .nil)))))
  (.cons (.loop [5] (.rng (.call 26 (.m 0 (.v (.cst (.int 10)) .nil))))
  (.cons (.asg 6 (.call 35 (.m 0 (.v (.var 1) .nil))))
    (.cons (.ite (.or (.cons (.and (.cons (.cmp .ne (.view 3) (.lst .nil)) (.cons (.not (.call 36 (.v (.var 4) (.v (.var 6) .nil)))) .nil))) (.cons (.cmp .eq (.call 26 (.m 0 (.v (.cst (.int 2)) .nil))) (.cst (.int 0))) .nil)))
    (.cons (.asg 2 (.bin .add (.var 2) (.bin .mul (.cst (.str [32])) (.bin .add (.cst (.int 1)) (.call 26 (.m 0 (.v (.cst (.int 2)) .nil))))))) .nil)
    .nil)
    (.cons (.ite (.cmp .lt (.fn .len (.cons (.var 2) .nil)) (.cst (.int 230)))
    (.cons (.app 3 (.tup (.cons (.ix (.var 6) (.cst (.int 0))) (.cons (.ix (.var 6) (.cst (.int 1))) (.cons (.fn .len (.cons (.var 2) .nil)) .nil)))))
      (.cons (.par 2 4 false false (.bin .add (.var 2) (.ix (.var 6) (.cst (.int 2)))) (.var 6)) .nil))
    .nil) .nil))))
  (.frz 3
  (.cons (.asg 2 (.bin .add (.var 2) (.call 27 (.m 0 (.v (.lst (.cons (.cst (.str [])) (.cons (.cst (.str [])) (.cons (.cst (.str [32])) (.cons (.cst (.str [59])) (.cons (.cst (.str w_12)) (.cons (.cst (.str [59, 59, 32, 97])) .nil))))))) .nil)))))
  (.cons (.ite (.cmp .ne (.listG 19 (.cons (.var 2) .nil) (.cons (.var 1) .nil) ["made"] [] [0, 1]) (.var 3))
  (.cons (.ret (.cst (.bl false))) .nil)
  .nil)
  (.cons (.ite (.and (.cons (.not (.var 1)) (.cons (.cmp .ne (.listG 19 (.cons (.var 2) .nil) .nil [] [(.bl false)] [0, 1]) (.var 3)) .nil)))
  (.cons (.ret (.cst (.bl false))) .nil)
  .nil)
  (.cons (.asg 7 (.fn .tuple (.cons (.comp [8] (.lst (.var 3)) .no (.sl (.var 8) .no (.yes (.cst (.int 2))))) .nil)))
  (.cons (.asg 9 (.listG 19 .nil (.cons (.var 1) (.cons (.call 23 (.v (.var 7) .nil)) .nil)) ["made", "line"] [] [1, 0]))
  (.cons (.ret (.cmp .eq (.comp [8] (.lst (.var 9)) .no (.sl (.var 8) .no (.yes (.cst (.int 2))))) (.fn .list (.cons (.var 7) .nil)))) .nil))))))))))
def f__law_right : Fn := { name := "_law_right", ps := ["_law_stream_here", "_law_is_plain"], ns := ["_law_stream_here", "_law_is_plain", "_law_whole", "_law_due", "_law_last", "_law_turn", "_law_one", "_law_rows", "_law_triple", "_law_again"], muts := [true, false], own := false, body := b__law_right, kws := [], rp := false }
def b_law : Ss := (.cons (.loop [1, 2] (.enu (.sl (.bin .add (.var 0) (.lst (.cons (.cst (.int 0)) .nil))) .no (.yes (.cst (.int 8)))))
  (.cons (.asgO 3 (.call 25 (.v (.var 2) (.v (.var 1) .nil))))
    (.cons (.loop [4] (.rng (.cst (.int 6)))
    (.cons (.ite (.not (.call 37 (.m 3 (.v (.cmp .eq (.bin .mod (.var 4) (.cst (.int 2))) (.cst (.int 1))) .nil))))
      (.cons (.ret (.cst (.bl false))) .nil)
      .nil) .nil)) .nil)))
  (.cons (.asg 5 (.fn .tuple (.cons (.comp [6] (.txt (.bin .add (.call 29 .nil) (.cst (.str [10])))) .no (.tup (.cons (.cst (.str w_CHARACTER)) (.cons (.fn .ord (.cons (.var 6) .nil)) .nil)))) .nil)))
  (.cons (.loop [7] (.rng3 (.cst (.int 0)) (.fn .len (.cons (.var 5) .nil)) (.cst (.int 50)))
  (.cons (.asg 8 (.sl (.var 5) (.yes (.var 7)) (.yes (.bin .add (.var 7) (.cst (.int 50))))))
    (.cons (.ite (.cmp .ne (.comp [9] (.lst (.listG 19 (.cons (.call 23 (.v (.var 8) .nil)) .nil) .nil [] [(.bl false)] [0, 1])) .no (.sl (.var 9) .no (.yes (.cst (.int 2))))) (.fn .list (.cons (.var 8) .nil)))
    (.cons (.ret (.cst (.bl false))) .nil)
    .nil) .nil)))
  (.cons (.asg 10 (.tup (.cons (.tup (.cons (.cst (.str [115, 116, 114, 105, 110, 103])) (.cons (.bin .add (.call 29 .nil) (.cst (.str [10]))) .nil))) .nil)))
  (.cons (.ret (.cmp .eq (.comp [9] (.lst (.listG 19 (.cons (.callK 23 .nil (.cons (.var 10) .nil) ["pairs"] [0]) .nil) .nil [] [(.bl false)] [0, 1])) .no (.sl (.var 9) .no (.yes (.cst (.int 2))))) (.fn .list (.cons (.var 10) .nil)))) .nil)))))
def f_law : Fn := { name := "law", ps := ["_law_script"], ns := ["_law_script", "_law_k", "_law_item", "_law_stream_here", "_law_turn", "_law_every", "_law_one", "_law_at", "_law_rows", "_law_triple", "_law_lone"], muts := [false], own := false, body := b_law, kws := [], rp := false }
abbrev bm_OverflowError : List Value := [.type "OverflowError", .type "ArithmeticError", .type "Exception", .type "BaseException", .type "object"]
abbrev bm_ValueError : List Value := [.type "ValueError", .type "Exception", .type "BaseException", .type "object"]
abbrev i_need_line : Nat := 0
abbrev i_Scanner___init__ : Nat := 1
abbrev i_Scanner_seen : Nat := 2
abbrev i_Scanner_is_here : Nat := 3
abbrev i_Scanner_is_over : Nat := 4
abbrev i_Scanner_need : Nat := 5
abbrev i_Scanner_need_end : Nat := 6
abbrev i_Scanner_pass_blanks : Nat := 7
abbrev i_Scanner_pass_name : Nat := 8
abbrev i_Scanner_pass_part : Nat := 9
abbrev i_Scanner_take_some : Nat := 10
abbrev i_Scanner_take_path : Nat := 11
abbrev i_Scanner_take_marked : Nat := 12
abbrev i_Scanner_take_number : Nat := 13
abbrev i_Scanner_take_unit : Nat := 14
abbrev i_Scanner_take_quoted : Nat := 15
abbrev i_Scanner_take_string : Nat := 16
abbrev i_Scanner_take_sign : Nat := 17
abbrev i_Scanner_take_token : Nat := 18
abbrev i_tokens : Nat := 19
abbrev i_shown : Nat := 20
abbrev i_character_of : Nat := 21
abbrev i_written : Nat := 22
abbrev i_line_of : Nat := 23
abbrev i__law_mixed : Nat := 24
abbrev i__law_stream : Nat := 25
abbrev i__law_draw : Nat := 26
abbrev i__law_pick : Nat := 27
abbrev i__law_signs : Nat := 28
abbrev i__law_characters : Nat := 29
abbrev i__law_name : Nat := 30
abbrev i__law_path : Nat := 31
abbrev i__law_digits : Nat := 32
abbrev i__law_numeral : Nat := 33
abbrev i__law_unit : Nat := 34
abbrev i__law_token : Nat := 35
abbrev i__law_is_apart : Nat := 36
abbrev i__law_right : Nat := 37
abbrev i_law : Nat := 38
abbrev c_BadLine : Nat := 0
abbrev c_TooLarge : Nat := 1
abbrev c_Scanner : Nat := 2
def fns : List Fn := [f_need_line, f_Scanner___init__, f_Scanner_seen, f_Scanner_is_here, f_Scanner_is_over, f_Scanner_need, f_Scanner_need_end, f_Scanner_pass_blanks, f_Scanner_pass_name, f_Scanner_pass_part, f_Scanner_take_some, f_Scanner_take_path, f_Scanner_take_marked, f_Scanner_take_number, f_Scanner_take_unit, f_Scanner_take_quoted, f_Scanner_take_string, f_Scanner_take_sign, f_Scanner_take_token, f_tokens, f_shown, f_character_of, f_written, f_line_of, f__law_mixed, f__law_stream, f__law_draw, f__law_pick, f__law_signs, f__law_characters, f__law_name, f__law_path, f__law_digits, f__law_numeral, f__law_unit, f__law_token, f__law_is_apart, f__law_right, f_law]
def glo : List (Str × IV) := [("LACKING", (.int 37)), ("MAX_LINE", (.int 400)), ("NAME_SIGNS", (.str w_NAME_SIGNS)), ("LETTERS", (.str w_LETTERS)), ("MAX_NAME", (.int 40)), ("MAX_MADE", (.int 9)), ("DIGITS", (.str w_DIGITS)), ("MAX_PATH", (.int 8)), ("MAX_DIGITS", (.int 40)), ("LARGEST", (.int 18446744073709551616)), ("DOUBLE", (.tup [(.str [124, 124]), (.str [38, 38]), (.str [61, 61]), (.str [33, 61]), (.str [60, 61]), (.str [62, 61]), (.str [60, 60]), (.str [62, 62]), (.str [46, 46])])), ("SINGLE", (.str w_SINGLE)), ("SIGN", (.str [115, 105, 103, 110])), ("NAME", (.str [110, 97, 109, 101])), ("NUMBER", (.str [110, 117, 109, 98, 101, 114])), ("CHARACTER", (.str w_CHARACTER)), ("STRING", (.str [115, 116, 114, 105, 110, 103])), ("LOCAL", (.str [108, 111, 99, 97, 108])), ("OWN", (.str [111, 119, 110])), ("FURTHER", (.str w_FURTHER))]
def blt : List Str := ["all", "enumerate", "int", "isinstance", "len", "list", "ord", "range", "str", "tuple"]
def xc_BadLine : Xc := { name := "BadLine", ps := ["column"], own := true, kws := [] }
def xc_TooLarge : Xc := { name := "TooLarge", ps := ["limit"], own := true, kws := [] }
def xcs : List Xc := [xc_BadLine, xc_TooLarge]
def isx : List (List Str × Bool × List Nat × List Nat) := []
def meths : List (Nat × Str × Nat) := [(2, "seen", 2), (2, "is_here", 3), (2, "is_over", 4), (2, "need", 5), (2, "need_end", 6), (2, "pass_blanks", 7), (2, "pass_name", 8), (2, "pass_part", 9), (2, "take_some", 10), (2, "take_path", 11), (2, "take_marked", 12), (2, "take_number", 13), (2, "take_unit", 14), (2, "take_quoted", 15), (2, "take_string", 16), (2, "take_sign", 17), (2, "take_token", 18)]
def news : List (Nat × Str × Nat) := [(2, "Scanner", 1)]
def flds : List (Nat × Str) := [(2, "own_line"), (2, "takes_made"), (2, "where_now")]
def kdct : List (Str × List (Key × IV)) := [("BASES", kd_BASES), ("DIGITS_OF", kd_DIGITS_OF)]
def T : Tab := { fns := fun i => fns[i]?, glo := glo, blt := blt, xcls := fun i => xcs[i]?, isx := isx, meths := meths, news := news, flds := flds, kdct := kdct }
def inTop (i j : Nat) : Stmt := (clsBody (top i)).getD j (.Pass ⟨0, 0, 0, 0⟩)
theorem i_BadLine : initOk ["column"] (inTop 4 0) = true := by decide +kernel
theorem i_TooLarge : initOk ["limit"] (inTop 5 0) = true := by decide +kernel
theorem x_BadLine {P : Program} {K : PySem.W.Frag} {h : Heap} {mg : Str → Option Value} {C fI cda cc : Addr} {kV doc pm ct ccl cl2 : Value} {an od cdd cld : Option Addr} {osl ccs csl : Array (Option Value)} {vs : Array Value} (xk : XK P K) (X : K.In h) (G : h.Ns mainGlobals mg) (a : PySem.W.nsIn K mainGlobals "BadLine" = some (some (.ref C))) (ini : PySem.W.excInitIn K C bm_ValueError "ValueError.__new__" = true) (ovr : PySem.W.excOver K C bm_ValueError = true) (hd : PySem.W.hasDictIn K C = true) (sa : PySem.W.findIn K (.ref C) "__setattr__" = some (some (.builtin "object.__setattr__"))) (kC : PySem.W.keepIn K (.ref C) = true) (ga : PySem.W.findIn K (.ref C) "__getattribute__" = some (some (.builtin "BaseException.__getattribute__"))) (gg : PySem.W.findIn K (.ref C) "__getattr__" = some none) (sub : PySem.W.subIn K (.ref C) (.type "BaseException") = some true) (ca : PySem.W.findIn K (.ref C) "__class__" = some (some (.builtin "object.__class__"))) (cm : PySem.W.mroIn K C (.type "object") = some true) (n_column : PySem.W.findIn K (.ref C) "column" = some none) (find : PySem.W.findIn K (.ref C) "__init__" = some (some (.ref fI))) (sup : PySem.W.ks_superIn K C C "__init__" = some (some (.builtin "ValueError.__init__"))) (subB : PySem.W.subIn K (.ref C) (.type "ValueError") = some true) (mroC : PySem.W.mroIn K C (.ref C) = some true) (hfn : PySem.W.isFn K (.ref fI) = true) (lf : K.lookup fI = some ⟨.type "function", od, .func (PySem.W.ksFn "__init__" "BadLine.__init__" (defArgs (inTop 4 0)) (defBody (inTop 4 0)) (defScope (inTop 4 0)) .none kV doc pm an (.ref cda) ct cc), osl⟩) (lc : PySem.W.codeIn K (.ref cda) "BadLine.__init__" = true) (lk : K.lookup cda = some ⟨ccl, cdd, .fields vs, ccs⟩) (file : fileB P vs = true) (lcc : K.lookup cc = some ⟨cl2, cld, .cell (some (.ref C)), csl⟩) : XFC P K mg C xc_BadLine :=
  xf_own xk X G rfl (by decide) a xb_ValueError ini ovr hd sa kC ga gg sub ca cm ⟨n_column, trivial⟩ find sup subB mroC hfn lf lc lk file lcc i_BadLine (.all fun us hl => match us, hl with | [_, _], _ => rfl) (fun p hp => nomatch hp)
theorem x_TooLarge {P : Program} {K : PySem.W.Frag} {h : Heap} {mg : Str → Option Value} {C fI cda cc : Addr} {kV doc pm ct ccl cl2 : Value} {an od cdd cld : Option Addr} {osl ccs csl : Array (Option Value)} {vs : Array Value} (xk : XK P K) (X : K.In h) (G : h.Ns mainGlobals mg) (a : PySem.W.nsIn K mainGlobals "TooLarge" = some (some (.ref C))) (ini : PySem.W.excInitIn K C bm_OverflowError "OverflowError.__new__" = true) (ovr : PySem.W.excOver K C bm_OverflowError = true) (hd : PySem.W.hasDictIn K C = true) (sa : PySem.W.findIn K (.ref C) "__setattr__" = some (some (.builtin "object.__setattr__"))) (kC : PySem.W.keepIn K (.ref C) = true) (ga : PySem.W.findIn K (.ref C) "__getattribute__" = some (some (.builtin "BaseException.__getattribute__"))) (gg : PySem.W.findIn K (.ref C) "__getattr__" = some none) (sub : PySem.W.subIn K (.ref C) (.type "BaseException") = some true) (ca : PySem.W.findIn K (.ref C) "__class__" = some (some (.builtin "object.__class__"))) (cm : PySem.W.mroIn K C (.type "object") = some true) (n_limit : PySem.W.findIn K (.ref C) "limit" = some none) (find : PySem.W.findIn K (.ref C) "__init__" = some (some (.ref fI))) (sup : PySem.W.ks_superIn K C C "__init__" = some (some (.builtin "OverflowError.__init__"))) (subB : PySem.W.subIn K (.ref C) (.type "OverflowError") = some true) (mroC : PySem.W.mroIn K C (.ref C) = some true) (hfn : PySem.W.isFn K (.ref fI) = true) (lf : K.lookup fI = some ⟨.type "function", od, .func (PySem.W.ksFn "__init__" "TooLarge.__init__" (defArgs (inTop 5 0)) (defBody (inTop 5 0)) (defScope (inTop 5 0)) .none kV doc pm an (.ref cda) ct cc), osl⟩) (lc : PySem.W.codeIn K (.ref cda) "TooLarge.__init__" = true) (lk : K.lookup cda = some ⟨ccl, cdd, .fields vs, ccs⟩) (file : fileB P vs = true) (lcc : K.lookup cc = some ⟨cl2, cld, .cell (some (.ref C)), csl⟩) : XFC P K mg C xc_TooLarge :=
  xf_own xk X G rfl (by decide) a xb_OverflowError ini ovr hd sa kC ga gg sub ca cm ⟨n_limit, trivial⟩ find sup subB mroC hfn lf lc lk file lcc i_TooLarge (.all fun us hl => match us, hl with | [_, _], _ => rfl) (fun p hp => nomatch hp)
theorem m_need_line : mSs (T.at f_need_line.rp) f_need_line.ns f_need_line.own f_need_line.body (defScope (top 28)) (defBody (top 28)) = true := by decide +kernel
theorem s_need_line : FnScope f_need_line.ns f_need_line.ps (defScope (top 28)) := scope_of (by decide +kernel)
theorem m_Scanner___init__ : mSs (T.at f_Scanner___init__.rp) f_Scanner___init__.ns f_Scanner___init__.own f_Scanner___init__.body (defScope (inTop 29 0)) (defBody (inTop 29 0)) = true := by decide +kernel
theorem s_Scanner___init__ : FnScope f_Scanner___init__.ns f_Scanner___init__.ps (defScope (inTop 29 0)) := scope_of (by decide +kernel)
theorem m_Scanner_seen : mSs (T.at f_Scanner_seen.rp) f_Scanner_seen.ns f_Scanner_seen.own f_Scanner_seen.body (defScope (inTop 29 1)) (defBody (inTop 29 1)) = true := by decide +kernel
theorem s_Scanner_seen : FnScope f_Scanner_seen.ns f_Scanner_seen.ps (defScope (inTop 29 1)) := scope_of (by decide +kernel)
theorem m_Scanner_is_here : mSs (T.at f_Scanner_is_here.rp) f_Scanner_is_here.ns f_Scanner_is_here.own f_Scanner_is_here.body (defScope (inTop 29 2)) (defBody (inTop 29 2)) = true := by decide +kernel
theorem s_Scanner_is_here : FnScope f_Scanner_is_here.ns f_Scanner_is_here.ps (defScope (inTop 29 2)) := scope_of (by decide +kernel)
theorem m_Scanner_is_over : mSs (T.at f_Scanner_is_over.rp) f_Scanner_is_over.ns f_Scanner_is_over.own f_Scanner_is_over.body (defScope (inTop 29 3)) (defBody (inTop 29 3)) = true := by decide +kernel
theorem s_Scanner_is_over : FnScope f_Scanner_is_over.ns f_Scanner_is_over.ps (defScope (inTop 29 3)) := scope_of (by decide +kernel)
theorem m_Scanner_need : mSs (T.at f_Scanner_need.rp) f_Scanner_need.ns f_Scanner_need.own f_Scanner_need.body (defScope (inTop 29 4)) (defBody (inTop 29 4)) = true := by decide +kernel
theorem s_Scanner_need : FnScope f_Scanner_need.ns f_Scanner_need.ps (defScope (inTop 29 4)) := scope_of (by decide +kernel)
theorem m_Scanner_need_end : mSs (T.at f_Scanner_need_end.rp) f_Scanner_need_end.ns f_Scanner_need_end.own f_Scanner_need_end.body (defScope (inTop 29 5)) (defBody (inTop 29 5)) = true := by decide +kernel
theorem s_Scanner_need_end : FnScope f_Scanner_need_end.ns f_Scanner_need_end.ps (defScope (inTop 29 5)) := scope_of (by decide +kernel)
theorem m_Scanner_pass_blanks : mSs (T.at f_Scanner_pass_blanks.rp) f_Scanner_pass_blanks.ns f_Scanner_pass_blanks.own f_Scanner_pass_blanks.body (defScope (inTop 29 6)) (defBody (inTop 29 6)) = true := by decide +kernel
theorem s_Scanner_pass_blanks : FnScope f_Scanner_pass_blanks.ns f_Scanner_pass_blanks.ps (defScope (inTop 29 6)) := scope_of (by decide +kernel)
theorem m_Scanner_pass_name : mSs (T.at f_Scanner_pass_name.rp) f_Scanner_pass_name.ns f_Scanner_pass_name.own f_Scanner_pass_name.body (defScope (inTop 29 8)) (defBody (inTop 29 8)) = true := by decide +kernel
theorem s_Scanner_pass_name : FnScope f_Scanner_pass_name.ns f_Scanner_pass_name.ps (defScope (inTop 29 8)) := scope_of (by decide +kernel)
theorem m_Scanner_pass_part : mSs (T.at f_Scanner_pass_part.rp) f_Scanner_pass_part.ns f_Scanner_pass_part.own f_Scanner_pass_part.body (defScope (inTop 29 9)) (defBody (inTop 29 9)) = true := by decide +kernel
theorem s_Scanner_pass_part : FnScope f_Scanner_pass_part.ns f_Scanner_pass_part.ps (defScope (inTop 29 9)) := scope_of (by decide +kernel)
theorem m_Scanner_take_some : mSs (T.at f_Scanner_take_some.rp) f_Scanner_take_some.ns f_Scanner_take_some.own f_Scanner_take_some.body (defScope (inTop 29 10)) (defBody (inTop 29 10)) = true := by decide +kernel
theorem s_Scanner_take_some : FnScope f_Scanner_take_some.ns f_Scanner_take_some.ps (defScope (inTop 29 10)) := scope_of (by decide +kernel)
theorem m_Scanner_take_path : mSs (T.at f_Scanner_take_path.rp) f_Scanner_take_path.ns f_Scanner_take_path.own f_Scanner_take_path.body (defScope (inTop 29 11)) (defBody (inTop 29 11)) = true := by decide +kernel
theorem s_Scanner_take_path : FnScope f_Scanner_take_path.ns f_Scanner_take_path.ps (defScope (inTop 29 11)) := scope_of (by decide +kernel)
theorem m_Scanner_take_marked : mSs (T.at f_Scanner_take_marked.rp) f_Scanner_take_marked.ns f_Scanner_take_marked.own f_Scanner_take_marked.body (defScope (inTop 29 12)) (defBody (inTop 29 12)) = true := by decide +kernel
theorem s_Scanner_take_marked : FnScope f_Scanner_take_marked.ns f_Scanner_take_marked.ps (defScope (inTop 29 12)) := scope_of (by decide +kernel)
theorem m_Scanner_take_number : mSs (T.at f_Scanner_take_number.rp) f_Scanner_take_number.ns f_Scanner_take_number.own f_Scanner_take_number.body (defScope (inTop 29 13)) (defBody (inTop 29 13)) = true := by decide +kernel
theorem s_Scanner_take_number : FnScope f_Scanner_take_number.ns f_Scanner_take_number.ps (defScope (inTop 29 13)) := scope_of (by decide +kernel)
theorem m_Scanner_take_unit : mSs (T.at f_Scanner_take_unit.rp) f_Scanner_take_unit.ns f_Scanner_take_unit.own f_Scanner_take_unit.body (defScope (inTop 29 14)) (defBody (inTop 29 14)) = true := by decide +kernel
theorem s_Scanner_take_unit : FnScope f_Scanner_take_unit.ns f_Scanner_take_unit.ps (defScope (inTop 29 14)) := scope_of (by decide +kernel)
theorem m_Scanner_take_quoted : mSs (T.at f_Scanner_take_quoted.rp) f_Scanner_take_quoted.ns f_Scanner_take_quoted.own f_Scanner_take_quoted.body (defScope (inTop 29 15)) (defBody (inTop 29 15)) = true := by decide +kernel
theorem s_Scanner_take_quoted : FnScope f_Scanner_take_quoted.ns f_Scanner_take_quoted.ps (defScope (inTop 29 15)) := scope_of (by decide +kernel)
theorem m_Scanner_take_string : mSs (T.at f_Scanner_take_string.rp) f_Scanner_take_string.ns f_Scanner_take_string.own f_Scanner_take_string.body (defScope (inTop 29 16)) (defBody (inTop 29 16)) = true := by decide +kernel
theorem s_Scanner_take_string : FnScope f_Scanner_take_string.ns f_Scanner_take_string.ps (defScope (inTop 29 16)) := scope_of (by decide +kernel)
theorem m_Scanner_take_sign : mSs (T.at f_Scanner_take_sign.rp) f_Scanner_take_sign.ns f_Scanner_take_sign.own f_Scanner_take_sign.body (defScope (inTop 29 17)) (defBody (inTop 29 17)) = true := by decide +kernel
theorem s_Scanner_take_sign : FnScope f_Scanner_take_sign.ns f_Scanner_take_sign.ps (defScope (inTop 29 17)) := scope_of (by decide +kernel)
theorem m_Scanner_take_token : mSs (T.at f_Scanner_take_token.rp) f_Scanner_take_token.ns f_Scanner_take_token.own f_Scanner_take_token.body (defScope (inTop 29 18)) (defBody (inTop 29 18)) = true := by decide +kernel
theorem s_Scanner_take_token : FnScope f_Scanner_take_token.ns f_Scanner_take_token.ps (defScope (inTop 29 18)) := scope_of (by decide +kernel)
theorem m_tokens : mGs (T.at false) f_tokens.ns b_tokens (defScope (top 32)) (defBody (top 32)) = true := by decide +kernel
theorem s_tokens : GScope f_tokens.ns f_tokens.ps (defScope (top 32)) := gscope_of (by decide +kernel)
theorem m_shown : mSs (T.at f_shown.rp) f_shown.ns f_shown.own f_shown.body (defScope (top 33)) (defBody (top 33)) = true := by decide +kernel
theorem s_shown : FnScope f_shown.ns f_shown.ps (defScope (top 33)) := scope_of (by decide +kernel)
theorem m_character_of : mSs (T.at f_character_of.rp) f_character_of.ns f_character_of.own f_character_of.body (defScope (top 34)) (defBody (top 34)) = true := by decide +kernel
theorem s_character_of : FnScope f_character_of.ns f_character_of.ps (defScope (top 34)) := scope_of (by decide +kernel)
theorem m_written : mSs (T.at f_written.rp) f_written.ns f_written.own f_written.body (defScope (top 35)) (defBody (top 35)) = true := by decide +kernel
theorem s_written : FnScope f_written.ns f_written.ps (defScope (top 35)) := scope_of (by decide +kernel)
theorem m_line_of : mSs (T.at f_line_of.rp) f_line_of.ns f_line_of.own f_line_of.body (defScope (top 36)) (defBody (top 36)) = true := by decide +kernel
theorem s_line_of : FnScope f_line_of.ns f_line_of.ps (defScope (top 36)) := scope_of (by decide +kernel)
theorem m__law_mixed : mSs (T.at f__law_mixed.rp) f__law_mixed.ns f__law_mixed.own f__law_mixed.body (defScope (top 38)) (defBody (top 38)) = true := by decide +kernel
theorem s__law_mixed : FnScope f__law_mixed.ns f__law_mixed.ps (defScope (top 38)) := scope_of (by decide +kernel)
theorem m__law_stream : mSs (T.at f__law_stream.rp) f__law_stream.ns f__law_stream.own f__law_stream.body (defScope (top 39)) (defBody (top 39)) = true := by decide +kernel
theorem s__law_stream : FnScope f__law_stream.ns f__law_stream.ps (defScope (top 39)) := scope_of (by decide +kernel)
theorem m__law_draw : mSs (T.at f__law_draw.rp) f__law_draw.ns f__law_draw.own f__law_draw.body (defScope (top 40)) (defBody (top 40)) = true := by decide +kernel
theorem s__law_draw : FnScope f__law_draw.ns f__law_draw.ps (defScope (top 40)) := scope_of (by decide +kernel)
theorem m__law_pick : mSs (T.at f__law_pick.rp) f__law_pick.ns f__law_pick.own f__law_pick.body (defScope (top 41)) (defBody (top 41)) = true := by decide +kernel
theorem s__law_pick : FnScope f__law_pick.ns f__law_pick.ps (defScope (top 41)) := scope_of (by decide +kernel)
theorem m__law_signs : mSs (T.at f__law_signs.rp) f__law_signs.ns f__law_signs.own f__law_signs.body (defScope (top 42)) (defBody (top 42)) = true := by decide +kernel
theorem s__law_signs : FnScope f__law_signs.ns f__law_signs.ps (defScope (top 42)) := scope_of (by decide +kernel)
theorem m__law_characters : mSs (T.at f__law_characters.rp) f__law_characters.ns f__law_characters.own f__law_characters.body (defScope (top 43)) (defBody (top 43)) = true := by decide +kernel
theorem s__law_characters : FnScope f__law_characters.ns f__law_characters.ps (defScope (top 43)) := scope_of (by decide +kernel)
theorem m__law_name : mSs (T.at f__law_name.rp) f__law_name.ns f__law_name.own f__law_name.body (defScope (top 44)) (defBody (top 44)) = true := by decide +kernel
theorem s__law_name : FnScope f__law_name.ns f__law_name.ps (defScope (top 44)) := scope_of (by decide +kernel)
theorem m__law_path : mSs (T.at f__law_path.rp) f__law_path.ns f__law_path.own f__law_path.body (defScope (top 45)) (defBody (top 45)) = true := by decide +kernel
theorem s__law_path : FnScope f__law_path.ns f__law_path.ps (defScope (top 45)) := scope_of (by decide +kernel)
theorem m__law_digits : mSs (T.at f__law_digits.rp) f__law_digits.ns f__law_digits.own f__law_digits.body (defScope (top 46)) (defBody (top 46)) = true := by decide +kernel
theorem s__law_digits : FnScope f__law_digits.ns f__law_digits.ps (defScope (top 46)) := scope_of (by decide +kernel)
theorem m__law_numeral : mSs (T.at f__law_numeral.rp) f__law_numeral.ns f__law_numeral.own f__law_numeral.body (defScope (top 47)) (defBody (top 47)) = true := by decide +kernel
theorem s__law_numeral : FnScope f__law_numeral.ns f__law_numeral.ps (defScope (top 47)) := scope_of (by decide +kernel)
theorem m__law_unit : mSs (T.at f__law_unit.rp) f__law_unit.ns f__law_unit.own f__law_unit.body (defScope (top 48)) (defBody (top 48)) = true := by decide +kernel
theorem s__law_unit : FnScope f__law_unit.ns f__law_unit.ps (defScope (top 48)) := scope_of (by decide +kernel)
theorem m__law_token : mSs (T.at f__law_token.rp) f__law_token.ns f__law_token.own f__law_token.body (defScope (top 49)) (defBody (top 49)) = true := by decide +kernel
theorem s__law_token : FnScope f__law_token.ns f__law_token.ps (defScope (top 49)) := scope_of (by decide +kernel)
theorem m__law_is_apart : mSs (T.at f__law_is_apart.rp) f__law_is_apart.ns f__law_is_apart.own f__law_is_apart.body (defScope (top 50)) (defBody (top 50)) = true := by decide +kernel
theorem s__law_is_apart : FnScope f__law_is_apart.ns f__law_is_apart.ps (defScope (top 50)) := scope_of (by decide +kernel)
theorem m__law_right : mSs (T.at f__law_right.rp) f__law_right.ns f__law_right.own f__law_right.body (defScope (top 51)) (defBody (top 51)) = true := by decide +kernel
theorem s__law_right : FnScope f__law_right.ns f__law_right.ps (defScope (top 51)) := scope_of (by decide +kernel)
theorem m_law : mSs (T.at f_law.rp) f_law.ns f_law.own f_law.body (defScope (top 52)) (defBody (top 52)) = true := by decide +kernel
theorem s_law : FnScope f_law.ns f_law.ps (defScope (top 52)) := scope_of (by decide +kernel)
theorem all_mk {P : Program} {wd : World} {K : PySem.W.Frag} {h : Heap} {mg : Str → Option Value} (X : K.In h) (G : h.Ns mainGlobals mg)
    {gu0 : Value}
    {gu1 : Value}
    {gu2 : Value}
    {gu3 : Value}
    {gu4 : Value}
    {gu5 : Value}
    {gu6 : Value}
    {gu7 : Value}
    {gu8 : Value}
    {gu9 : Value}
    {ga10 : Addr} {go10 : Obj}
    {gu11 : Value}
    {gu12 : Value}
    {gu13 : Value}
    {gu14 : Value}
    {gu15 : Value}
    {gu16 : Value}
    {gu17 : Value}
    {gu18 : Value}
    {gu19 : Value}
    {ka0 : Addr} {ke0 : Array DictEntry} {kn0 : Nat} 
    {ka1 : Addr} {ke1 : Array DictEntry} {kn1 : Nat} 
    {C2 : Addr}
    {f0 : Addr} {od0 an0 : Option Addr} {sl0 : Array (Option Value)} {oc0 dc0 pm0 cd0 ct0 : Value} {kV0 : Value}
    {f1 : Addr} {od1 an1 : Option Addr} {sl1 : Array (Option Value)} {oc1 dc1 pm1 cd1 ct1 : Value} {kV1 : Value}
    {td1 : Addr} {to1 : Obj}
    {f2 : Addr} {od2 an2 : Option Addr} {sl2 : Array (Option Value)} {oc2 dc2 pm2 cd2 ct2 : Value} {kV2 : Value}
    {td2 : Addr} {to2 : Obj}
    {f3 : Addr} {od3 an3 : Option Addr} {sl3 : Array (Option Value)} {oc3 dc3 pm3 cd3 ct3 : Value} {kV3 : Value}
    {f4 : Addr} {od4 an4 : Option Addr} {sl4 : Array (Option Value)} {oc4 dc4 pm4 cd4 ct4 : Value} {kV4 : Value}
    {f5 : Addr} {od5 an5 : Option Addr} {sl5 : Array (Option Value)} {oc5 dc5 pm5 cd5 ct5 : Value} {kV5 : Value}
    {f6 : Addr} {od6 an6 : Option Addr} {sl6 : Array (Option Value)} {oc6 dc6 pm6 cd6 ct6 : Value} {kV6 : Value}
    {f7 : Addr} {od7 an7 : Option Addr} {sl7 : Array (Option Value)} {oc7 dc7 pm7 cd7 ct7 : Value} {kV7 : Value}
    {f8 : Addr} {od8 an8 : Option Addr} {sl8 : Array (Option Value)} {oc8 dc8 pm8 cd8 ct8 : Value} {kV8 : Value}
    {f9 : Addr} {od9 an9 : Option Addr} {sl9 : Array (Option Value)} {oc9 dc9 pm9 cd9 ct9 : Value} {kV9 : Value}
    {f10 : Addr} {od10 an10 : Option Addr} {sl10 : Array (Option Value)} {oc10 dc10 pm10 cd10 ct10 : Value} {kV10 : Value}
    {f11 : Addr} {od11 an11 : Option Addr} {sl11 : Array (Option Value)} {oc11 dc11 pm11 cd11 ct11 : Value} {kV11 : Value}
    {f12 : Addr} {od12 an12 : Option Addr} {sl12 : Array (Option Value)} {oc12 dc12 pm12 cd12 ct12 : Value} {kV12 : Value}
    {f13 : Addr} {od13 an13 : Option Addr} {sl13 : Array (Option Value)} {oc13 dc13 pm13 cd13 ct13 : Value} {kV13 : Value}
    {f14 : Addr} {od14 an14 : Option Addr} {sl14 : Array (Option Value)} {oc14 dc14 pm14 cd14 ct14 : Value} {kV14 : Value}
    {f15 : Addr} {od15 an15 : Option Addr} {sl15 : Array (Option Value)} {oc15 dc15 pm15 cd15 ct15 : Value} {kV15 : Value}
    {f16 : Addr} {od16 an16 : Option Addr} {sl16 : Array (Option Value)} {oc16 dc16 pm16 cd16 ct16 : Value} {kV16 : Value}
    {f17 : Addr} {od17 an17 : Option Addr} {sl17 : Array (Option Value)} {oc17 dc17 pm17 cd17 ct17 : Value} {kV17 : Value}
    {f18 : Addr} {od18 an18 : Option Addr} {sl18 : Array (Option Value)} {oc18 dc18 pm18 cd18 ct18 : Value} {kV18 : Value}
    {f19 : Addr} {od19 an19 : Option Addr} {sl19 : Array (Option Value)} {oc19 dc19 pm19 cd19 ct19 : Value}
    {kd19 : Addr} {ku19_0 : Value}
    {f20 : Addr} {od20 an20 : Option Addr} {sl20 : Array (Option Value)} {oc20 dc20 pm20 cd20 ct20 : Value} {kV20 : Value}
    {f21 : Addr} {od21 an21 : Option Addr} {sl21 : Array (Option Value)} {oc21 dc21 pm21 cd21 ct21 : Value} {kV21 : Value}
    {f22 : Addr} {od22 an22 : Option Addr} {sl22 : Array (Option Value)} {oc22 dc22 pm22 cd22 ct22 : Value} {kV22 : Value}
    {f23 : Addr} {od23 an23 : Option Addr} {sl23 : Array (Option Value)} {oc23 dc23 pm23 cd23 ct23 : Value} {kV23 : Value}
    {f24 : Addr} {od24 an24 : Option Addr} {sl24 : Array (Option Value)} {oc24 dc24 pm24 cd24 ct24 : Value} {kV24 : Value}
    {f25 : Addr} {od25 an25 : Option Addr} {sl25 : Array (Option Value)} {oc25 dc25 pm25 cd25 ct25 : Value} {kV25 : Value}
    {f26 : Addr} {od26 an26 : Option Addr} {sl26 : Array (Option Value)} {oc26 dc26 pm26 cd26 ct26 : Value} {kV26 : Value}
    {f27 : Addr} {od27 an27 : Option Addr} {sl27 : Array (Option Value)} {oc27 dc27 pm27 cd27 ct27 : Value} {kV27 : Value}
    {f28 : Addr} {od28 an28 : Option Addr} {sl28 : Array (Option Value)} {oc28 dc28 pm28 cd28 ct28 : Value} {kV28 : Value}
    {f29 : Addr} {od29 an29 : Option Addr} {sl29 : Array (Option Value)} {oc29 dc29 pm29 cd29 ct29 : Value} {kV29 : Value}
    {f30 : Addr} {od30 an30 : Option Addr} {sl30 : Array (Option Value)} {oc30 dc30 pm30 cd30 ct30 : Value} {kV30 : Value}
    {f31 : Addr} {od31 an31 : Option Addr} {sl31 : Array (Option Value)} {oc31 dc31 pm31 cd31 ct31 : Value} {kV31 : Value}
    {f32 : Addr} {od32 an32 : Option Addr} {sl32 : Array (Option Value)} {oc32 dc32 pm32 cd32 ct32 : Value} {kV32 : Value}
    {f33 : Addr} {od33 an33 : Option Addr} {sl33 : Array (Option Value)} {oc33 dc33 pm33 cd33 ct33 : Value} {kV33 : Value}
    {f34 : Addr} {od34 an34 : Option Addr} {sl34 : Array (Option Value)} {oc34 dc34 pm34 cd34 ct34 : Value} {kV34 : Value}
    {f35 : Addr} {od35 an35 : Option Addr} {sl35 : Array (Option Value)} {oc35 dc35 pm35 cd35 ct35 : Value} {kV35 : Value}
    {f36 : Addr} {od36 an36 : Option Addr} {sl36 : Array (Option Value)} {oc36 dc36 pm36 cd36 ct36 : Value} {kV36 : Value}
    {f37 : Addr} {od37 an37 : Option Addr} {sl37 : Array (Option Value)} {oc37 dc37 pm37 cd37 ct37 : Value} {kV37 : Value}
    {f38 : Addr} {od38 an38 : Option Addr} {sl38 : Array (Option Value)} {oc38 dc38 pm38 cd38 ct38 : Value} {kV38 : Value}
    {C0 : Addr} {kd0 : ClassData}
    {C1 : Addr} {kd1 : ClassData}
    (g0 : PySem.W.nsIn K mainGlobals "LACKING" = some (some gu0)) (gt0 : litB gu0 (.int 37) = true)
    (g1 : PySem.W.nsIn K mainGlobals "MAX_LINE" = some (some gu1)) (gt1 : litB gu1 (.int 400) = true)
    (g2 : PySem.W.nsIn K mainGlobals "NAME_SIGNS" = some (some gu2)) (gt2 : litB gu2 (.str w_NAME_SIGNS) = true)
    (g3 : PySem.W.nsIn K mainGlobals "LETTERS" = some (some gu3)) (gt3 : litB gu3 (.str w_LETTERS) = true)
    (g4 : PySem.W.nsIn K mainGlobals "MAX_NAME" = some (some gu4)) (gt4 : litB gu4 (.int 40) = true)
    (g5 : PySem.W.nsIn K mainGlobals "MAX_MADE" = some (some gu5)) (gt5 : litB gu5 (.int 9) = true)
    (g6 : PySem.W.nsIn K mainGlobals "DIGITS" = some (some gu6)) (gt6 : litB gu6 (.str w_DIGITS) = true)
    (g7 : PySem.W.nsIn K mainGlobals "MAX_PATH" = some (some gu7)) (gt7 : litB gu7 (.int 8) = true)
    (g8 : PySem.W.nsIn K mainGlobals "MAX_DIGITS" = some (some gu8)) (gt8 : litB gu8 (.int 40) = true)
    (g9 : PySem.W.nsIn K mainGlobals "LARGEST" = some (some gu9)) (gt9 : litB gu9 (.int 18446744073709551616) = true)
    (g10 : PySem.W.nsIn K mainGlobals "DOUBLE" = some (some (.ref ga10))) (gl10 : K.lookup ga10 = some go10) (gt10 : tupB go10 [(.str [124, 124]), (.str [38, 38]), (.str [61, 61]), (.str [33, 61]), (.str [60, 61]), (.str [62, 61]), (.str [60, 60]), (.str [62, 62]), (.str [46, 46])] = true)
    (g11 : PySem.W.nsIn K mainGlobals "SINGLE" = some (some gu11)) (gt11 : litB gu11 (.str w_SINGLE) = true)
    (g12 : PySem.W.nsIn K mainGlobals "SIGN" = some (some gu12)) (gt12 : litB gu12 (.str [115, 105, 103, 110]) = true)
    (g13 : PySem.W.nsIn K mainGlobals "NAME" = some (some gu13)) (gt13 : litB gu13 (.str [110, 97, 109, 101]) = true)
    (g14 : PySem.W.nsIn K mainGlobals "NUMBER" = some (some gu14)) (gt14 : litB gu14 (.str [110, 117, 109, 98, 101, 114]) = true)
    (g15 : PySem.W.nsIn K mainGlobals "CHARACTER" = some (some gu15)) (gt15 : litB gu15 (.str w_CHARACTER) = true)
    (g16 : PySem.W.nsIn K mainGlobals "STRING" = some (some gu16)) (gt16 : litB gu16 (.str [115, 116, 114, 105, 110, 103]) = true)
    (g17 : PySem.W.nsIn K mainGlobals "LOCAL" = some (some gu17)) (gt17 : litB gu17 (.str [108, 111, 99, 97, 108]) = true)
    (g18 : PySem.W.nsIn K mainGlobals "OWN" = some (some gu18)) (gt18 : litB gu18 (.str [111, 119, 110]) = true)
    (g19 : PySem.W.nsIn K mainGlobals "FURTHER" = some (some gu19)) (gt19 : litB gu19 (.str w_FURTHER) = true)
    (b0 : PySem.W.nsIn K mainGlobals "all" = some none)
    (b1 : PySem.W.nsIn K mainGlobals "enumerate" = some none)
    (b2 : PySem.W.nsIn K mainGlobals "int" = some none)
    (b3 : PySem.W.nsIn K mainGlobals "isinstance" = some none)
    (b4 : PySem.W.nsIn K mainGlobals "len" = some none)
    (b5 : PySem.W.nsIn K mainGlobals "list" = some none)
    (b6 : PySem.W.nsIn K mainGlobals "ord" = some none)
    (b7 : PySem.W.nsIn K mainGlobals "range" = some none)
    (b8 : PySem.W.nsIn K mainGlobals "str" = some none)
    (b9 : PySem.W.nsIn K mainGlobals "tuple" = some none)
    (kg0 : PySem.W.nsIn K mainGlobals "BASES" = some (some (.ref ka0))) (kl0 : K.lookup ka0 = some ⟨.type "dict", none, .dict ke0 kn0, #[]⟩) (kz0 : (ka0 == sysModules) = false) (kp0 : Paired (fun (e : DictEntry) (kv : Key × V) => keyIs kv.1 e.key = true ∧ e.hash = keyH wd kv.1 ∧ RelV kv.2 e.val) ke0.toList [(.inr "0x", .int 16), (.inr "0b", .int 2)])
    (kg1 : PySem.W.nsIn K mainGlobals "DIGITS_OF" = some (some (.ref ka1))) (kl1 : K.lookup ka1 = some ⟨.type "dict", none, .dict ke1 kn1, #[]⟩) (kz1 : (ka1 == sysModules) = false) (kp1 : Paired (fun (e : DictEntry) (kv : Key × V) => keyIs kv.1 e.key = true ∧ e.hash = keyH wd kv.1 ∧ RelV kv.2 e.val) ke1.toList [(.inl 16, .str (sOf w_13)), (.inl 10, .str (sOf w_DIGITS)), (.inl 2, .str (sOf [48, 49]))])
    (ca2 : PySem.W.nsIn K mainGlobals "Scanner" = some (some (.ref C2))) (cp2 : PySem.W.plainGet K C2 Str.empty = true) (ch2 : PySem.W.hasDictIn K C2 = true) (co2 : PySem.W.plainOver K C2 = true) (cs2 : PySem.W.findIn K (.ref C2) "__setattr__" = some (some (.builtin "object.__setattr__"))) (cm2 : PySem.W.makesIn K C2 = true) (ck2 : PySem.W.keepIn K (.ref C2) = true)
    (cf2_0 : PySem.W.findIn K (.ref C2) "own_line" = some none)
    (cf2_1 : PySem.W.findIn K (.ref C2) "takes_made" = some none)
    (cf2_2 : PySem.W.findIn K (.ref C2) "where_now" = some none)
    (st0 : PySem.W.subIn K (.ref C0) (.type "StopIteration") = some false)
    (st1 : PySem.W.subIn K (.ref C1) (.type "StopIteration") = some false)
    (st2 : PySem.W.subIn K (.ref C2) (.type "StopIteration") = some false)
    (a0 : PySem.W.nsIn K mainGlobals "need_line" = some (some (.ref f0)))
    (l0 : K.lookup f0 = some ⟨oc0, od0, .func (PySem.W.fnOf "need_line" "need_line" (defArgs (top 28)) (defBody (top 28)) (defScope (top 28)) .none kV0 dc0 pm0 an0 cd0 ct0), sl0⟩) (c0 : PySem.W.codeIn K cd0 "need_line" = true) (k0 : PySem.W.keepIn K (.ref f0) = true)
    (a1 : PySem.W.findIn K (.ref C2) "__init__" = some (some (.ref f1))) (i1 : PySem.W.isFn K (.ref f1) = true)
    (l1 : K.lookup f1 = some ⟨oc1, od1, .func (PySem.W.fnOf "__init__" "Scanner.__init__" (defArgs (inTop 29 0)) (defBody (inTop 29 0)) (defScope (inTop 29 0)) (.ref td1) kV1 dc1 pm1 an1 cd1 ct1), sl1⟩) (c1 : PySem.W.codeIn K cd1 "Scanner.__init__" = true) (k1 : PySem.W.keepIn K (.ref f1) = true)
    (tl1 : K.lookup td1 = some to1) (tb1 : dflB to1 [(.int 0)] = true)
    (a2 : PySem.W.findIn K (.ref C2) "seen" = some (some (.ref f2))) (i2 : PySem.W.isFn K (.ref f2) = true)
    (l2 : K.lookup f2 = some ⟨oc2, od2, .func (PySem.W.fnOf "seen" "Scanner.seen" (defArgs (inTop 29 1)) (defBody (inTop 29 1)) (defScope (inTop 29 1)) (.ref td2) kV2 dc2 pm2 an2 cd2 ct2), sl2⟩) (c2 : PySem.W.codeIn K cd2 "Scanner.seen" = true) (k2 : PySem.W.keepIn K (.ref f2) = true)
    (tl2 : K.lookup td2 = some to2) (tb2 : dflB to2 [(.int 0)] = true)
    (a3 : PySem.W.findIn K (.ref C2) "is_here" = some (some (.ref f3))) (i3 : PySem.W.isFn K (.ref f3) = true)
    (l3 : K.lookup f3 = some ⟨oc3, od3, .func (PySem.W.fnOf "is_here" "Scanner.is_here" (defArgs (inTop 29 2)) (defBody (inTop 29 2)) (defScope (inTop 29 2)) .none kV3 dc3 pm3 an3 cd3 ct3), sl3⟩) (c3 : PySem.W.codeIn K cd3 "Scanner.is_here" = true) (k3 : PySem.W.keepIn K (.ref f3) = true)
    (a4 : PySem.W.findIn K (.ref C2) "is_over" = some (some (.ref f4))) (i4 : PySem.W.isFn K (.ref f4) = true)
    (l4 : K.lookup f4 = some ⟨oc4, od4, .func (PySem.W.fnOf "is_over" "Scanner.is_over" (defArgs (inTop 29 3)) (defBody (inTop 29 3)) (defScope (inTop 29 3)) .none kV4 dc4 pm4 an4 cd4 ct4), sl4⟩) (c4 : PySem.W.codeIn K cd4 "Scanner.is_over" = true) (k4 : PySem.W.keepIn K (.ref f4) = true)
    (a5 : PySem.W.findIn K (.ref C2) "need" = some (some (.ref f5))) (i5 : PySem.W.isFn K (.ref f5) = true)
    (l5 : K.lookup f5 = some ⟨oc5, od5, .func (PySem.W.fnOf "need" "Scanner.need" (defArgs (inTop 29 4)) (defBody (inTop 29 4)) (defScope (inTop 29 4)) .none kV5 dc5 pm5 an5 cd5 ct5), sl5⟩) (c5 : PySem.W.codeIn K cd5 "Scanner.need" = true) (k5 : PySem.W.keepIn K (.ref f5) = true)
    (a6 : PySem.W.findIn K (.ref C2) "need_end" = some (some (.ref f6))) (i6 : PySem.W.isFn K (.ref f6) = true)
    (l6 : K.lookup f6 = some ⟨oc6, od6, .func (PySem.W.fnOf "need_end" "Scanner.need_end" (defArgs (inTop 29 5)) (defBody (inTop 29 5)) (defScope (inTop 29 5)) .none kV6 dc6 pm6 an6 cd6 ct6), sl6⟩) (c6 : PySem.W.codeIn K cd6 "Scanner.need_end" = true) (k6 : PySem.W.keepIn K (.ref f6) = true)
    (a7 : PySem.W.findIn K (.ref C2) "pass_blanks" = some (some (.ref f7))) (i7 : PySem.W.isFn K (.ref f7) = true)
    (l7 : K.lookup f7 = some ⟨oc7, od7, .func (PySem.W.fnOf "pass_blanks" "Scanner.pass_blanks" (defArgs (inTop 29 6)) (defBody (inTop 29 6)) (defScope (inTop 29 6)) .none kV7 dc7 pm7 an7 cd7 ct7), sl7⟩) (c7 : PySem.W.codeIn K cd7 "Scanner.pass_blanks" = true) (k7 : PySem.W.keepIn K (.ref f7) = true)
    (a8 : PySem.W.findIn K (.ref C2) "pass_name" = some (some (.ref f8))) (i8 : PySem.W.isFn K (.ref f8) = true)
    (l8 : K.lookup f8 = some ⟨oc8, od8, .func (PySem.W.fnOf "pass_name" "Scanner.pass_name" (defArgs (inTop 29 8)) (defBody (inTop 29 8)) (defScope (inTop 29 8)) .none kV8 dc8 pm8 an8 cd8 ct8), sl8⟩) (c8 : PySem.W.codeIn K cd8 "Scanner.pass_name" = true) (k8 : PySem.W.keepIn K (.ref f8) = true)
    (a9 : PySem.W.findIn K (.ref C2) "pass_part" = some (some (.ref f9))) (i9 : PySem.W.isFn K (.ref f9) = true)
    (l9 : K.lookup f9 = some ⟨oc9, od9, .func (PySem.W.fnOf "pass_part" "Scanner.pass_part" (defArgs (inTop 29 9)) (defBody (inTop 29 9)) (defScope (inTop 29 9)) .none kV9 dc9 pm9 an9 cd9 ct9), sl9⟩) (c9 : PySem.W.codeIn K cd9 "Scanner.pass_part" = true) (k9 : PySem.W.keepIn K (.ref f9) = true)
    (a10 : PySem.W.findIn K (.ref C2) "take_some" = some (some (.ref f10))) (i10 : PySem.W.isFn K (.ref f10) = true)
    (l10 : K.lookup f10 = some ⟨oc10, od10, .func (PySem.W.fnOf "take_some" "Scanner.take_some" (defArgs (inTop 29 10)) (defBody (inTop 29 10)) (defScope (inTop 29 10)) .none kV10 dc10 pm10 an10 cd10 ct10), sl10⟩) (c10 : PySem.W.codeIn K cd10 "Scanner.take_some" = true) (k10 : PySem.W.keepIn K (.ref f10) = true)
    (a11 : PySem.W.findIn K (.ref C2) "take_path" = some (some (.ref f11))) (i11 : PySem.W.isFn K (.ref f11) = true)
    (l11 : K.lookup f11 = some ⟨oc11, od11, .func (PySem.W.fnOf "take_path" "Scanner.take_path" (defArgs (inTop 29 11)) (defBody (inTop 29 11)) (defScope (inTop 29 11)) .none kV11 dc11 pm11 an11 cd11 ct11), sl11⟩) (c11 : PySem.W.codeIn K cd11 "Scanner.take_path" = true) (k11 : PySem.W.keepIn K (.ref f11) = true)
    (a12 : PySem.W.findIn K (.ref C2) "take_marked" = some (some (.ref f12))) (i12 : PySem.W.isFn K (.ref f12) = true)
    (l12 : K.lookup f12 = some ⟨oc12, od12, .func (PySem.W.fnOf "take_marked" "Scanner.take_marked" (defArgs (inTop 29 12)) (defBody (inTop 29 12)) (defScope (inTop 29 12)) .none kV12 dc12 pm12 an12 cd12 ct12), sl12⟩) (c12 : PySem.W.codeIn K cd12 "Scanner.take_marked" = true) (k12 : PySem.W.keepIn K (.ref f12) = true)
    (a13 : PySem.W.findIn K (.ref C2) "take_number" = some (some (.ref f13))) (i13 : PySem.W.isFn K (.ref f13) = true)
    (l13 : K.lookup f13 = some ⟨oc13, od13, .func (PySem.W.fnOf "take_number" "Scanner.take_number" (defArgs (inTop 29 13)) (defBody (inTop 29 13)) (defScope (inTop 29 13)) .none kV13 dc13 pm13 an13 cd13 ct13), sl13⟩) (c13 : PySem.W.codeIn K cd13 "Scanner.take_number" = true) (k13 : PySem.W.keepIn K (.ref f13) = true)
    (a14 : PySem.W.findIn K (.ref C2) "take_unit" = some (some (.ref f14))) (i14 : PySem.W.isFn K (.ref f14) = true)
    (l14 : K.lookup f14 = some ⟨oc14, od14, .func (PySem.W.fnOf "take_unit" "Scanner.take_unit" (defArgs (inTop 29 14)) (defBody (inTop 29 14)) (defScope (inTop 29 14)) .none kV14 dc14 pm14 an14 cd14 ct14), sl14⟩) (c14 : PySem.W.codeIn K cd14 "Scanner.take_unit" = true) (k14 : PySem.W.keepIn K (.ref f14) = true)
    (a15 : PySem.W.findIn K (.ref C2) "take_quoted" = some (some (.ref f15))) (i15 : PySem.W.isFn K (.ref f15) = true)
    (l15 : K.lookup f15 = some ⟨oc15, od15, .func (PySem.W.fnOf "take_quoted" "Scanner.take_quoted" (defArgs (inTop 29 15)) (defBody (inTop 29 15)) (defScope (inTop 29 15)) .none kV15 dc15 pm15 an15 cd15 ct15), sl15⟩) (c15 : PySem.W.codeIn K cd15 "Scanner.take_quoted" = true) (k15 : PySem.W.keepIn K (.ref f15) = true)
    (a16 : PySem.W.findIn K (.ref C2) "take_string" = some (some (.ref f16))) (i16 : PySem.W.isFn K (.ref f16) = true)
    (l16 : K.lookup f16 = some ⟨oc16, od16, .func (PySem.W.fnOf "take_string" "Scanner.take_string" (defArgs (inTop 29 16)) (defBody (inTop 29 16)) (defScope (inTop 29 16)) .none kV16 dc16 pm16 an16 cd16 ct16), sl16⟩) (c16 : PySem.W.codeIn K cd16 "Scanner.take_string" = true) (k16 : PySem.W.keepIn K (.ref f16) = true)
    (a17 : PySem.W.findIn K (.ref C2) "take_sign" = some (some (.ref f17))) (i17 : PySem.W.isFn K (.ref f17) = true)
    (l17 : K.lookup f17 = some ⟨oc17, od17, .func (PySem.W.fnOf "take_sign" "Scanner.take_sign" (defArgs (inTop 29 17)) (defBody (inTop 29 17)) (defScope (inTop 29 17)) .none kV17 dc17 pm17 an17 cd17 ct17), sl17⟩) (c17 : PySem.W.codeIn K cd17 "Scanner.take_sign" = true) (k17 : PySem.W.keepIn K (.ref f17) = true)
    (a18 : PySem.W.findIn K (.ref C2) "take_token" = some (some (.ref f18))) (i18 : PySem.W.isFn K (.ref f18) = true)
    (l18 : K.lookup f18 = some ⟨oc18, od18, .func (PySem.W.fnOf "take_token" "Scanner.take_token" (defArgs (inTop 29 18)) (defBody (inTop 29 18)) (defScope (inTop 29 18)) .none kV18 dc18 pm18 an18 cd18 ct18), sl18⟩) (c18 : PySem.W.codeIn K cd18 "Scanner.take_token" = true) (k18 : PySem.W.keepIn K (.ref f18) = true)
    (a19 : PySem.W.nsIn K mainGlobals "tokens" = some (some (.ref f19)))
    (l19 : K.lookup f19 = some ⟨oc19, od19, .func (PySem.W.fnOf "tokens" "tokens" (defArgs (top 32)) (defBody (top 32)) (defScope (top 32)) .none (.ref kd19) dc19 pm19 an19 cd19 ct19), sl19⟩) (c19 : PySem.W.codeIn K cd19 "tokens" = true) (k19 : PySem.W.keepIn K (.ref f19) = true)
    (kw19_0 : PySem.W.nsIn K kd19 "made" = some (some ku19_0)) (kb19_0 : litB ku19_0 (.bl false) = true)
    (a20 : PySem.W.nsIn K mainGlobals "shown" = some (some (.ref f20)))
    (l20 : K.lookup f20 = some ⟨oc20, od20, .func (PySem.W.fnOf "shown" "shown" (defArgs (top 33)) (defBody (top 33)) (defScope (top 33)) .none kV20 dc20 pm20 an20 cd20 ct20), sl20⟩) (c20 : PySem.W.codeIn K cd20 "shown" = true) (k20 : PySem.W.keepIn K (.ref f20) = true)
    (a21 : PySem.W.nsIn K mainGlobals "character_of" = some (some (.ref f21)))
    (l21 : K.lookup f21 = some ⟨oc21, od21, .func (PySem.W.fnOf "character_of" "character_of" (defArgs (top 34)) (defBody (top 34)) (defScope (top 34)) .none kV21 dc21 pm21 an21 cd21 ct21), sl21⟩) (c21 : PySem.W.codeIn K cd21 "character_of" = true) (k21 : PySem.W.keepIn K (.ref f21) = true)
    (a22 : PySem.W.nsIn K mainGlobals "written" = some (some (.ref f22)))
    (l22 : K.lookup f22 = some ⟨oc22, od22, .func (PySem.W.fnOf "written" "written" (defArgs (top 35)) (defBody (top 35)) (defScope (top 35)) .none kV22 dc22 pm22 an22 cd22 ct22), sl22⟩) (c22 : PySem.W.codeIn K cd22 "written" = true) (k22 : PySem.W.keepIn K (.ref f22) = true)
    (a23 : PySem.W.nsIn K mainGlobals "line_of" = some (some (.ref f23)))
    (l23 : K.lookup f23 = some ⟨oc23, od23, .func (PySem.W.fnOf "line_of" "line_of" (defArgs (top 36)) (defBody (top 36)) (defScope (top 36)) .none kV23 dc23 pm23 an23 cd23 ct23), sl23⟩) (c23 : PySem.W.codeIn K cd23 "line_of" = true) (k23 : PySem.W.keepIn K (.ref f23) = true)
    (a24 : PySem.W.nsIn K mainGlobals "_law_mixed" = some (some (.ref f24)))
    (l24 : K.lookup f24 = some ⟨oc24, od24, .func (PySem.W.fnOf "_law_mixed" "_law_mixed" (defArgs (top 38)) (defBody (top 38)) (defScope (top 38)) .none kV24 dc24 pm24 an24 cd24 ct24), sl24⟩) (c24 : PySem.W.codeIn K cd24 "_law_mixed" = true) (k24 : PySem.W.keepIn K (.ref f24) = true)
    (a25 : PySem.W.nsIn K mainGlobals "_law_stream" = some (some (.ref f25)))
    (l25 : K.lookup f25 = some ⟨oc25, od25, .func (PySem.W.fnOf "_law_stream" "_law_stream" (defArgs (top 39)) (defBody (top 39)) (defScope (top 39)) .none kV25 dc25 pm25 an25 cd25 ct25), sl25⟩) (c25 : PySem.W.codeIn K cd25 "_law_stream" = true) (k25 : PySem.W.keepIn K (.ref f25) = true)
    (a26 : PySem.W.nsIn K mainGlobals "_law_draw" = some (some (.ref f26)))
    (l26 : K.lookup f26 = some ⟨oc26, od26, .func (PySem.W.fnOf "_law_draw" "_law_draw" (defArgs (top 40)) (defBody (top 40)) (defScope (top 40)) .none kV26 dc26 pm26 an26 cd26 ct26), sl26⟩) (c26 : PySem.W.codeIn K cd26 "_law_draw" = true) (k26 : PySem.W.keepIn K (.ref f26) = true)
    (a27 : PySem.W.nsIn K mainGlobals "_law_pick" = some (some (.ref f27)))
    (l27 : K.lookup f27 = some ⟨oc27, od27, .func (PySem.W.fnOf "_law_pick" "_law_pick" (defArgs (top 41)) (defBody (top 41)) (defScope (top 41)) .none kV27 dc27 pm27 an27 cd27 ct27), sl27⟩) (c27 : PySem.W.codeIn K cd27 "_law_pick" = true) (k27 : PySem.W.keepIn K (.ref f27) = true)
    (a28 : PySem.W.nsIn K mainGlobals "_law_signs" = some (some (.ref f28)))
    (l28 : K.lookup f28 = some ⟨oc28, od28, .func (PySem.W.fnOf "_law_signs" "_law_signs" (defArgs (top 42)) (defBody (top 42)) (defScope (top 42)) .none kV28 dc28 pm28 an28 cd28 ct28), sl28⟩) (c28 : PySem.W.codeIn K cd28 "_law_signs" = true) (k28 : PySem.W.keepIn K (.ref f28) = true)
    (a29 : PySem.W.nsIn K mainGlobals "_law_characters" = some (some (.ref f29)))
    (l29 : K.lookup f29 = some ⟨oc29, od29, .func (PySem.W.fnOf "_law_characters" "_law_characters" (defArgs (top 43)) (defBody (top 43)) (defScope (top 43)) .none kV29 dc29 pm29 an29 cd29 ct29), sl29⟩) (c29 : PySem.W.codeIn K cd29 "_law_characters" = true) (k29 : PySem.W.keepIn K (.ref f29) = true)
    (a30 : PySem.W.nsIn K mainGlobals "_law_name" = some (some (.ref f30)))
    (l30 : K.lookup f30 = some ⟨oc30, od30, .func (PySem.W.fnOf "_law_name" "_law_name" (defArgs (top 44)) (defBody (top 44)) (defScope (top 44)) .none kV30 dc30 pm30 an30 cd30 ct30), sl30⟩) (c30 : PySem.W.codeIn K cd30 "_law_name" = true) (k30 : PySem.W.keepIn K (.ref f30) = true)
    (a31 : PySem.W.nsIn K mainGlobals "_law_path" = some (some (.ref f31)))
    (l31 : K.lookup f31 = some ⟨oc31, od31, .func (PySem.W.fnOf "_law_path" "_law_path" (defArgs (top 45)) (defBody (top 45)) (defScope (top 45)) .none kV31 dc31 pm31 an31 cd31 ct31), sl31⟩) (c31 : PySem.W.codeIn K cd31 "_law_path" = true) (k31 : PySem.W.keepIn K (.ref f31) = true)
    (a32 : PySem.W.nsIn K mainGlobals "_law_digits" = some (some (.ref f32)))
    (l32 : K.lookup f32 = some ⟨oc32, od32, .func (PySem.W.fnOf "_law_digits" "_law_digits" (defArgs (top 46)) (defBody (top 46)) (defScope (top 46)) .none kV32 dc32 pm32 an32 cd32 ct32), sl32⟩) (c32 : PySem.W.codeIn K cd32 "_law_digits" = true) (k32 : PySem.W.keepIn K (.ref f32) = true)
    (a33 : PySem.W.nsIn K mainGlobals "_law_numeral" = some (some (.ref f33)))
    (l33 : K.lookup f33 = some ⟨oc33, od33, .func (PySem.W.fnOf "_law_numeral" "_law_numeral" (defArgs (top 47)) (defBody (top 47)) (defScope (top 47)) .none kV33 dc33 pm33 an33 cd33 ct33), sl33⟩) (c33 : PySem.W.codeIn K cd33 "_law_numeral" = true) (k33 : PySem.W.keepIn K (.ref f33) = true)
    (a34 : PySem.W.nsIn K mainGlobals "_law_unit" = some (some (.ref f34)))
    (l34 : K.lookup f34 = some ⟨oc34, od34, .func (PySem.W.fnOf "_law_unit" "_law_unit" (defArgs (top 48)) (defBody (top 48)) (defScope (top 48)) .none kV34 dc34 pm34 an34 cd34 ct34), sl34⟩) (c34 : PySem.W.codeIn K cd34 "_law_unit" = true) (k34 : PySem.W.keepIn K (.ref f34) = true)
    (a35 : PySem.W.nsIn K mainGlobals "_law_token" = some (some (.ref f35)))
    (l35 : K.lookup f35 = some ⟨oc35, od35, .func (PySem.W.fnOf "_law_token" "_law_token" (defArgs (top 49)) (defBody (top 49)) (defScope (top 49)) .none kV35 dc35 pm35 an35 cd35 ct35), sl35⟩) (c35 : PySem.W.codeIn K cd35 "_law_token" = true) (k35 : PySem.W.keepIn K (.ref f35) = true)
    (a36 : PySem.W.nsIn K mainGlobals "_law_is_apart" = some (some (.ref f36)))
    (l36 : K.lookup f36 = some ⟨oc36, od36, .func (PySem.W.fnOf "_law_is_apart" "_law_is_apart" (defArgs (top 50)) (defBody (top 50)) (defScope (top 50)) .none kV36 dc36 pm36 an36 cd36 ct36), sl36⟩) (c36 : PySem.W.codeIn K cd36 "_law_is_apart" = true) (k36 : PySem.W.keepIn K (.ref f36) = true)
    (a37 : PySem.W.nsIn K mainGlobals "_law_right" = some (some (.ref f37)))
    (l37 : K.lookup f37 = some ⟨oc37, od37, .func (PySem.W.fnOf "_law_right" "_law_right" (defArgs (top 51)) (defBody (top 51)) (defScope (top 51)) .none kV37 dc37 pm37 an37 cd37 ct37), sl37⟩) (c37 : PySem.W.codeIn K cd37 "_law_right" = true) (k37 : PySem.W.keepIn K (.ref f37) = true)
    (a38 : PySem.W.nsIn K mainGlobals "law" = some (some (.ref f38)))
    (l38 : K.lookup f38 = some ⟨oc38, od38, .func (PySem.W.fnOf "law" "law" (defArgs (top 52)) (defBody (top 52)) (defScope (top 52)) .none kV38 dc38 pm38 an38 cd38 ct38), sl38⟩) (c38 : PySem.W.codeIn K cd38 "law" = true) (k38 : PySem.W.keepIn K (.ref f38) = true)
    (sup : PySem.W.nsIn K mainGlobals "super" = some none)
    (x0 : XFC P K mg C0 xc_BadLine) (m0 : PySem.W.clsIn K C0 = some kd0)
    (x1 : XFC P K mg C1 xc_TooLarge) (m1 : PySem.W.clsIn K C1 = some kd1)
    : ∃ cl : Nat → Option Addr, (∀ p ∈ T.glo, ∃ u v, mg p.1 = some u ∧ RelV v u ∧ ∀ O H, Rep K cl O H v p.2) ∧ (∀ y ∈ T.blt, mg y = none) ∧ (∀ c xc, T.xcls c = some xc → XF P K mg cl c xc) ∧ (∀ q ∈ T.isx, XI K mg cl q) ∧ (T.xcls 0 ≠ none → mg "super" = none) ∧ (∀ p ∈ T.flds, ∃ C, cl p.1 = some C ∧ Cls K C ∧ NoAttr K C p.2) ∧ (∀ p ∈ T.kdct, ∃ a kv, mg p.1 = some (.ref a) ∧ KD wd K a kv ∧ kv.map (·.1) = p.2.map (·.1) ∧ ∀ O H, RepAll K cl O H (kv.map (·.2)) (p.2.map (·.2))) ∧ (∀ c C, cl c = some C → PySem.W.subIn K (.ref C) (.type "StopIteration") = some false) ∧ ∀ f fn, T.fns f = some fn → DefI T K mg cl f fn := by
  have cls2 : Cls K C2 := ⟨cp2, ch2, co2, cs2⟩
  have F0 : DefI T K mg (fun c => ([C0, C1] ++ [C2])[c]?) 0 f_need_line := (fni rfl (at_glob X G (by decide) (by decide) a0) l0 c0 k0 (.all fun us hl => match us, hl with | [_], _ => rfl) (AllQ.mem (l := f_need_line.dfls) .nil) (fun p hp => nomatch hp) s_need_line m_need_line : FnI T K mg (fun c => ([C0, C1] ++ [C2])[c]?) 0 f_need_line)
  have F1 : DefI T K mg (fun c => ([C0, C1] ++ [C2])[c]?) 1 f_Scanner___init__ := (fni rfl (at_init X G rfl (by decide) (by decide) (c := 2) rfl ca2 ⟨cm2, a1, i1, ck2⟩) l1 c1 k1 (bindT0 tl1 tb1 fun us its h1 h2 => match us, its, h1, h2 with | [_, _, _, _], [_], _, _ => ⟨_, rfl, rfl⟩) (AllQ.mem (l := f_Scanner___init__.dfls) (.cons (bindT (dv := [(.int 0)]) tl1 tb1 3 0 rfl fun us its h1 h2 => match us, its, h1, h2 with | [_, _, _], [_], _, _ => ⟨_, rfl, rfl⟩) .nil)) (fun p hp => nomatch hp) s_Scanner___init__ m_Scanner___init__ : FnI T K mg (fun c => ([C0, C1] ++ [C2])[c]?) 1 f_Scanner___init__)
  have F2 : DefI T K mg (fun c => ([C0, C1] ++ [C2])[c]?) 2 f_Scanner_seen := (fni rfl (at_meth rfl (by decide) (by decide) (c := 2) rfl cls2 ⟨a2, i2, k2⟩) l2 c2 k2 (bindT0 tl2 tb2 fun us its h1 h2 => match us, its, h1, h2 with | [_, _], [_], _, _ => ⟨_, rfl, rfl⟩) (AllQ.mem (l := f_Scanner_seen.dfls) (.cons (bindT (dv := [(.int 0)]) tl2 tb2 1 0 rfl fun us its h1 h2 => match us, its, h1, h2 with | [_], [_], _, _ => ⟨_, rfl, rfl⟩) .nil)) (fun p hp => nomatch hp) s_Scanner_seen m_Scanner_seen : FnI T K mg (fun c => ([C0, C1] ++ [C2])[c]?) 2 f_Scanner_seen)
  have F3 : DefI T K mg (fun c => ([C0, C1] ++ [C2])[c]?) 3 f_Scanner_is_here := (fni rfl (at_meth rfl (by decide) (by decide) (c := 2) rfl cls2 ⟨a3, i3, k3⟩) l3 c3 k3 (.all fun us hl => match us, hl with | [_, _], _ => rfl) (AllQ.mem (l := f_Scanner_is_here.dfls) .nil) (fun p hp => nomatch hp) s_Scanner_is_here m_Scanner_is_here : FnI T K mg (fun c => ([C0, C1] ++ [C2])[c]?) 3 f_Scanner_is_here)
  have F4 : DefI T K mg (fun c => ([C0, C1] ++ [C2])[c]?) 4 f_Scanner_is_over := (fni rfl (at_meth rfl (by decide) (by decide) (c := 2) rfl cls2 ⟨a4, i4, k4⟩) l4 c4 k4 (.all fun us hl => match us, hl with | [_], _ => rfl) (AllQ.mem (l := f_Scanner_is_over.dfls) .nil) (fun p hp => nomatch hp) s_Scanner_is_over m_Scanner_is_over : FnI T K mg (fun c => ([C0, C1] ++ [C2])[c]?) 4 f_Scanner_is_over)
  have F5 : DefI T K mg (fun c => ([C0, C1] ++ [C2])[c]?) 5 f_Scanner_need := (fni rfl (at_meth rfl (by decide) (by decide) (c := 2) rfl cls2 ⟨a5, i5, k5⟩) l5 c5 k5 (.all fun us hl => match us, hl with | [_, _], _ => rfl) (AllQ.mem (l := f_Scanner_need.dfls) .nil) (fun p hp => nomatch hp) s_Scanner_need m_Scanner_need : FnI T K mg (fun c => ([C0, C1] ++ [C2])[c]?) 5 f_Scanner_need)
  have F6 : DefI T K mg (fun c => ([C0, C1] ++ [C2])[c]?) 6 f_Scanner_need_end := (fni rfl (at_meth rfl (by decide) (by decide) (c := 2) rfl cls2 ⟨a6, i6, k6⟩) l6 c6 k6 (.all fun us hl => match us, hl with | [_], _ => rfl) (AllQ.mem (l := f_Scanner_need_end.dfls) .nil) (fun p hp => nomatch hp) s_Scanner_need_end m_Scanner_need_end : FnI T K mg (fun c => ([C0, C1] ++ [C2])[c]?) 6 f_Scanner_need_end)
  have F7 : DefI T K mg (fun c => ([C0, C1] ++ [C2])[c]?) 7 f_Scanner_pass_blanks := (fni rfl (at_meth rfl (by decide) (by decide) (c := 2) rfl cls2 ⟨a7, i7, k7⟩) l7 c7 k7 (.all fun us hl => match us, hl with | [_], _ => rfl) (AllQ.mem (l := f_Scanner_pass_blanks.dfls) .nil) (fun p hp => nomatch hp) s_Scanner_pass_blanks m_Scanner_pass_blanks : FnI T K mg (fun c => ([C0, C1] ++ [C2])[c]?) 7 f_Scanner_pass_blanks)
  have F8 : DefI T K mg (fun c => ([C0, C1] ++ [C2])[c]?) 8 f_Scanner_pass_name := (fni rfl (at_meth rfl (by decide) (by decide) (c := 2) rfl cls2 ⟨a8, i8, k8⟩) l8 c8 k8 (.all fun us hl => match us, hl with | [_], _ => rfl) (AllQ.mem (l := f_Scanner_pass_name.dfls) .nil) (fun p hp => nomatch hp) s_Scanner_pass_name m_Scanner_pass_name : FnI T K mg (fun c => ([C0, C1] ++ [C2])[c]?) 8 f_Scanner_pass_name)
  have F9 : DefI T K mg (fun c => ([C0, C1] ++ [C2])[c]?) 9 f_Scanner_pass_part := (fni rfl (at_meth rfl (by decide) (by decide) (c := 2) rfl cls2 ⟨a9, i9, k9⟩) l9 c9 k9 (.all fun us hl => match us, hl with | [_], _ => rfl) (AllQ.mem (l := f_Scanner_pass_part.dfls) .nil) (fun p hp => nomatch hp) s_Scanner_pass_part m_Scanner_pass_part : FnI T K mg (fun c => ([C0, C1] ++ [C2])[c]?) 9 f_Scanner_pass_part)
  have F10 : DefI T K mg (fun c => ([C0, C1] ++ [C2])[c]?) 10 f_Scanner_take_some := (fni rfl (at_meth rfl (by decide) (by decide) (c := 2) rfl cls2 ⟨a10, i10, k10⟩) l10 c10 k10 (.all fun us hl => match us, hl with | [_, _, _], _ => rfl) (AllQ.mem (l := f_Scanner_take_some.dfls) .nil) (fun p hp => nomatch hp) s_Scanner_take_some m_Scanner_take_some : FnI T K mg (fun c => ([C0, C1] ++ [C2])[c]?) 10 f_Scanner_take_some)
  have F11 : DefI T K mg (fun c => ([C0, C1] ++ [C2])[c]?) 11 f_Scanner_take_path := (fni rfl (at_meth rfl (by decide) (by decide) (c := 2) rfl cls2 ⟨a11, i11, k11⟩) l11 c11 k11 (.all fun us hl => match us, hl with | [_], _ => rfl) (AllQ.mem (l := f_Scanner_take_path.dfls) .nil) (fun p hp => nomatch hp) s_Scanner_take_path m_Scanner_take_path : FnI T K mg (fun c => ([C0, C1] ++ [C2])[c]?) 11 f_Scanner_take_path)
  have F12 : DefI T K mg (fun c => ([C0, C1] ++ [C2])[c]?) 12 f_Scanner_take_marked := (fni rfl (at_meth rfl (by decide) (by decide) (c := 2) rfl cls2 ⟨a12, i12, k12⟩) l12 c12 k12 (.all fun us hl => match us, hl with | [_], _ => rfl) (AllQ.mem (l := f_Scanner_take_marked.dfls) .nil) (fun p hp => nomatch hp) s_Scanner_take_marked m_Scanner_take_marked : FnI T K mg (fun c => ([C0, C1] ++ [C2])[c]?) 12 f_Scanner_take_marked)
  have F13 : DefI T K mg (fun c => ([C0, C1] ++ [C2])[c]?) 13 f_Scanner_take_number := (fni rfl (at_meth rfl (by decide) (by decide) (c := 2) rfl cls2 ⟨a13, i13, k13⟩) l13 c13 k13 (.all fun us hl => match us, hl with | [_], _ => rfl) (AllQ.mem (l := f_Scanner_take_number.dfls) .nil) (fun p hp => nomatch hp) s_Scanner_take_number m_Scanner_take_number : FnI T K mg (fun c => ([C0, C1] ++ [C2])[c]?) 13 f_Scanner_take_number)
  have F14 : DefI T K mg (fun c => ([C0, C1] ++ [C2])[c]?) 14 f_Scanner_take_unit := (fni rfl (at_meth rfl (by decide) (by decide) (c := 2) rfl cls2 ⟨a14, i14, k14⟩) l14 c14 k14 (.all fun us hl => match us, hl with | [_, _], _ => rfl) (AllQ.mem (l := f_Scanner_take_unit.dfls) .nil) (fun p hp => nomatch hp) s_Scanner_take_unit m_Scanner_take_unit : FnI T K mg (fun c => ([C0, C1] ++ [C2])[c]?) 14 f_Scanner_take_unit)
  have F15 : DefI T K mg (fun c => ([C0, C1] ++ [C2])[c]?) 15 f_Scanner_take_quoted := (fni rfl (at_meth rfl (by decide) (by decide) (c := 2) rfl cls2 ⟨a15, i15, k15⟩) l15 c15 k15 (.all fun us hl => match us, hl with | [_], _ => rfl) (AllQ.mem (l := f_Scanner_take_quoted.dfls) .nil) (fun p hp => nomatch hp) s_Scanner_take_quoted m_Scanner_take_quoted : FnI T K mg (fun c => ([C0, C1] ++ [C2])[c]?) 15 f_Scanner_take_quoted)
  have F16 : DefI T K mg (fun c => ([C0, C1] ++ [C2])[c]?) 16 f_Scanner_take_string := (fni rfl (at_meth rfl (by decide) (by decide) (c := 2) rfl cls2 ⟨a16, i16, k16⟩) l16 c16 k16 (.all fun us hl => match us, hl with | [_], _ => rfl) (AllQ.mem (l := f_Scanner_take_string.dfls) .nil) (fun p hp => nomatch hp) s_Scanner_take_string m_Scanner_take_string : FnI T K mg (fun c => ([C0, C1] ++ [C2])[c]?) 16 f_Scanner_take_string)
  have F17 : DefI T K mg (fun c => ([C0, C1] ++ [C2])[c]?) 17 f_Scanner_take_sign := (fni rfl (at_meth rfl (by decide) (by decide) (c := 2) rfl cls2 ⟨a17, i17, k17⟩) l17 c17 k17 (.all fun us hl => match us, hl with | [_], _ => rfl) (AllQ.mem (l := f_Scanner_take_sign.dfls) .nil) (fun p hp => nomatch hp) s_Scanner_take_sign m_Scanner_take_sign : FnI T K mg (fun c => ([C0, C1] ++ [C2])[c]?) 17 f_Scanner_take_sign)
  have F18 : DefI T K mg (fun c => ([C0, C1] ++ [C2])[c]?) 18 f_Scanner_take_token := (fni rfl (at_meth rfl (by decide) (by decide) (c := 2) rfl cls2 ⟨a18, i18, k18⟩) l18 c18 k18 (.all fun us hl => match us, hl with | [_], _ => rfl) (AllQ.mem (l := f_Scanner_take_token.dfls) .nil) (fun p hp => nomatch hp) s_Scanner_take_token m_Scanner_take_token : FnI T K mg (fun c => ([C0, C1] ++ [C2])[c]?) 18 f_Scanner_take_token)
  have F19 : DefI T K mg (fun c => ([C0, C1] ++ [C2])[c]?) 19 f_tokens := (gni X G rfl rfl a19 l19 c19 k19 (AllQ.mem (l := f_tokens.kwds) (.cons (kwd_full fun us ws zs h1 h2 h3 => match us, ws, h1, h2, h3 with | [_], [_], _, _, h3 => by cases h3; rfl) (.cons (kwd_one kw19_0 kb19_0 fun us ws zs h1 h2 h3 => match us, ws, h1, h2, h3 with | [_], [], _, _, h3 => by cases h3; exact ⟨_, _, _, _, _, _, rfl, rfl, rfl⟩) (.cons (kwd_full fun us ws zs h1 h2 h3 => match us, ws, h1, h2, h3 with | [], [_, _], _, _, h3 => by cases h3; rfl) .nil)))) s_tokens m_tokens : GnI T K mg (fun c => ([C0, C1] ++ [C2])[c]?) f_tokens b_tokens)
  have F20 : DefI T K mg (fun c => ([C0, C1] ++ [C2])[c]?) 20 f_shown := (fni rfl (at_glob X G (by decide) (by decide) a20) l20 c20 k20 (.all fun us hl => match us, hl with | [_, _], _ => rfl) (AllQ.mem (l := f_shown.dfls) .nil) (fun p hp => nomatch hp) s_shown m_shown : FnI T K mg (fun c => ([C0, C1] ++ [C2])[c]?) 20 f_shown)
  have F21 : DefI T K mg (fun c => ([C0, C1] ++ [C2])[c]?) 21 f_character_of := (fni rfl (at_glob X G (by decide) (by decide) a21) l21 c21 k21 (.all fun us hl => match us, hl with | [_], _ => rfl) (AllQ.mem (l := f_character_of.dfls) .nil) (fun p hp => nomatch hp) s_character_of m_character_of : FnI T K mg (fun c => ([C0, C1] ++ [C2])[c]?) 21 f_character_of)
  have F22 : DefI T K mg (fun c => ([C0, C1] ++ [C2])[c]?) 22 f_written := (fni rfl (at_glob X G (by decide) (by decide) a22) l22 c22 k22 (.all fun us hl => match us, hl with | [_, _], _ => rfl) (AllQ.mem (l := f_written.dfls) .nil) (fun p hp => nomatch hp) s_written m_written : FnI T K mg (fun c => ([C0, C1] ++ [C2])[c]?) 22 f_written)
  have F23 : DefI T K mg (fun c => ([C0, C1] ++ [C2])[c]?) 23 f_line_of := (fni rfl (at_glob X G (by decide) (by decide) a23) l23 c23 k23 (.all fun us hl => match us, hl with | [_], _ => rfl) (AllQ.mem (l := f_line_of.dfls) .nil) (AllQ.mem (l := f_line_of.kws) (.cons (fun s us ws zs _ h1 h2 h3 => match us, ws, h1, h2, h3 with | [], [_], _, _, h3 => by cases h3; exact .of_eq rfl) .nil)) s_line_of m_line_of : FnI T K mg (fun c => ([C0, C1] ++ [C2])[c]?) 23 f_line_of)
  have F24 : DefI T K mg (fun c => ([C0, C1] ++ [C2])[c]?) 24 f__law_mixed := (fni rfl (at_glob X G (by decide) (by decide) a24) l24 c24 k24 (.all fun us hl => match us, hl with | [_, _], _ => rfl) (AllQ.mem (l := f__law_mixed.dfls) .nil) (fun p hp => nomatch hp) s__law_mixed m__law_mixed : FnI T K mg (fun c => ([C0, C1] ++ [C2])[c]?) 24 f__law_mixed)
  have F25 : DefI T K mg (fun c => ([C0, C1] ++ [C2])[c]?) 25 f__law_stream := (fni rfl (at_glob X G (by decide) (by decide) a25) l25 c25 k25 (.all fun us hl => match us, hl with | [_, _], _ => rfl) (AllQ.mem (l := f__law_stream.dfls) .nil) (fun p hp => nomatch hp) s__law_stream m__law_stream : FnI T K mg (fun c => ([C0, C1] ++ [C2])[c]?) 25 f__law_stream)
  have F26 : DefI T K mg (fun c => ([C0, C1] ++ [C2])[c]?) 26 f__law_draw := (fni rfl (at_glob X G (by decide) (by decide) a26) l26 c26 k26 (.all fun us hl => match us, hl with | [_, _], _ => rfl) (AllQ.mem (l := f__law_draw.dfls) .nil) (fun p hp => nomatch hp) s__law_draw m__law_draw : FnI T K mg (fun c => ([C0, C1] ++ [C2])[c]?) 26 f__law_draw)
  have F27 : DefI T K mg (fun c => ([C0, C1] ++ [C2])[c]?) 27 f__law_pick := (fni rfl (at_glob X G (by decide) (by decide) a27) l27 c27 k27 (.all fun us hl => match us, hl with | [_, _], _ => rfl) (AllQ.mem (l := f__law_pick.dfls) .nil) (fun p hp => nomatch hp) s__law_pick m__law_pick : FnI T K mg (fun c => ([C0, C1] ++ [C2])[c]?) 27 f__law_pick)
  have F28 : DefI T K mg (fun c => ([C0, C1] ++ [C2])[c]?) 28 f__law_signs := (fni rfl (at_glob X G (by decide) (by decide) a28) l28 c28 k28 (.all fun us hl => match us, hl with | [], _ => rfl) (AllQ.mem (l := f__law_signs.dfls) .nil) (fun p hp => nomatch hp) s__law_signs m__law_signs : FnI T K mg (fun c => ([C0, C1] ++ [C2])[c]?) 28 f__law_signs)
  have F29 : DefI T K mg (fun c => ([C0, C1] ++ [C2])[c]?) 29 f__law_characters := (fni rfl (at_glob X G (by decide) (by decide) a29) l29 c29 k29 (.all fun us hl => match us, hl with | [], _ => rfl) (AllQ.mem (l := f__law_characters.dfls) .nil) (fun p hp => nomatch hp) s__law_characters m__law_characters : FnI T K mg (fun c => ([C0, C1] ++ [C2])[c]?) 29 f__law_characters)
  have F30 : DefI T K mg (fun c => ([C0, C1] ++ [C2])[c]?) 30 f__law_name := (fni rfl (at_glob X G (by decide) (by decide) a30) l30 c30 k30 (.all fun us hl => match us, hl with | [_], _ => rfl) (AllQ.mem (l := f__law_name.dfls) .nil) (fun p hp => nomatch hp) s__law_name m__law_name : FnI T K mg (fun c => ([C0, C1] ++ [C2])[c]?) 30 f__law_name)
  have F31 : DefI T K mg (fun c => ([C0, C1] ++ [C2])[c]?) 31 f__law_path := (fni rfl (at_glob X G (by decide) (by decide) a31) l31 c31 k31 (.all fun us hl => match us, hl with | [_, _], _ => rfl) (AllQ.mem (l := f__law_path.dfls) .nil) (fun p hp => nomatch hp) s__law_path m__law_path : FnI T K mg (fun c => ([C0, C1] ++ [C2])[c]?) 31 f__law_path)
  have F32 : DefI T K mg (fun c => ([C0, C1] ++ [C2])[c]?) 32 f__law_digits := (fni rfl (at_glob X G (by decide) (by decide) a32) l32 c32 k32 (.all fun us hl => match us, hl with | [_, _], _ => rfl) (AllQ.mem (l := f__law_digits.dfls) .nil) (fun p hp => nomatch hp) s__law_digits m__law_digits : FnI T K mg (fun c => ([C0, C1] ++ [C2])[c]?) 32 f__law_digits)
  have F33 : DefI T K mg (fun c => ([C0, C1] ++ [C2])[c]?) 33 f__law_numeral := (fni rfl (at_glob X G (by decide) (by decide) a33) l33 c33 k33 (.all fun us hl => match us, hl with | [_], _ => rfl) (AllQ.mem (l := f__law_numeral.dfls) .nil) (fun p hp => nomatch hp) s__law_numeral m__law_numeral : FnI T K mg (fun c => ([C0, C1] ++ [C2])[c]?) 33 f__law_numeral)
  have F34 : DefI T K mg (fun c => ([C0, C1] ++ [C2])[c]?) 34 f__law_unit := (fni rfl (at_glob X G (by decide) (by decide) a34) l34 c34 k34 (.all fun us hl => match us, hl with | [_, _], _ => rfl) (AllQ.mem (l := f__law_unit.dfls) .nil) (fun p hp => nomatch hp) s__law_unit m__law_unit : FnI T K mg (fun c => ([C0, C1] ++ [C2])[c]?) 34 f__law_unit)
  have F35 : DefI T K mg (fun c => ([C0, C1] ++ [C2])[c]?) 35 f__law_token := (fni rfl (at_glob X G (by decide) (by decide) a35) l35 c35 k35 (.all fun us hl => match us, hl with | [_, _], _ => rfl) (AllQ.mem (l := f__law_token.dfls) .nil) (fun p hp => nomatch hp) s__law_token m__law_token : FnI T K mg (fun c => ([C0, C1] ++ [C2])[c]?) 35 f__law_token)
  have F36 : DefI T K mg (fun c => ([C0, C1] ++ [C2])[c]?) 36 f__law_is_apart := (fni rfl (at_glob X G (by decide) (by decide) a36) l36 c36 k36 (.all fun us hl => match us, hl with | [_, _], _ => rfl) (AllQ.mem (l := f__law_is_apart.dfls) .nil) (fun p hp => nomatch hp) s__law_is_apart m__law_is_apart : FnI T K mg (fun c => ([C0, C1] ++ [C2])[c]?) 36 f__law_is_apart)
  have F37 : DefI T K mg (fun c => ([C0, C1] ++ [C2])[c]?) 37 f__law_right := (fni rfl (at_glob X G (by decide) (by decide) a37) l37 c37 k37 (.all fun us hl => match us, hl with | [_, _], _ => rfl) (AllQ.mem (l := f__law_right.dfls) .nil) (fun p hp => nomatch hp) s__law_right m__law_right : FnI T K mg (fun c => ([C0, C1] ++ [C2])[c]?) 37 f__law_right)
  have F38 : DefI T K mg (fun c => ([C0, C1] ++ [C2])[c]?) 38 f_law := (fni rfl (at_glob X G (by decide) (by decide) a38) l38 c38 k38 (.all fun us hl => match us, hl with | [_], _ => rfl) (AllQ.mem (l := f_law.dfls) .nil) (fun p hp => nomatch hp) s_law m_law : FnI T K mg (fun c => ([C0, C1] ++ [C2])[c]?) 38 f_law)
  have pX : Paired (XFC P K mg) [C0, C1] xcs := (.cons x0 (.cons x1 .nil))
  refine ⟨(fun c => ([C0, C1] ++ [C2])[c]?), fun p => ?_, fun y => ?_, fun c xc hc => ?_, fun q hq => (nomatch hq), fun _ => PySem.W.mg_none_of X G sup, fun p => ?_, fun p => ?_, fun c C hc => ?_, fun f fn hf => ?_⟩
  · exact AllQ.mem (l := glo) (p := fun p => ∃ u v, mg p.1 = some u ∧ RelV v u ∧ ∀ O H, Rep K (fun c => ([C0, C1] ++ [C2])[c]?) O H v p.2) (.cons (glo_lit X G g0 gt0) (.cons (glo_lit X G g1 gt1) (.cons (glo_lit X G g2 gt2) (.cons (glo_lit X G g3 gt3) (.cons (glo_lit X G g4 gt4) (.cons (glo_lit X G g5 gt5) (.cons (glo_lit X G g6 gt6) (.cons (glo_lit X G g7 gt7) (.cons (glo_lit X G g8 gt8) (.cons (glo_lit X G g9 gt9) (.cons (glo_tup X G g10 gl10 gt10) (.cons (glo_lit X G g11 gt11) (.cons (glo_lit X G g12 gt12) (.cons (glo_lit X G g13 gt13) (.cons (glo_lit X G g14 gt14) (.cons (glo_lit X G g15 gt15) (.cons (glo_lit X G g16 gt16) (.cons (glo_lit X G g17 gt17) (.cons (glo_lit X G g18 gt18) (.cons (glo_lit X G g19 gt19) .nil)))))))))))))))))))) p
  · exact AllQ.mem (l := blt) (p := fun y => mg y = none) (.cons (PySem.W.mg_none_of X G b0) (.cons (PySem.W.mg_none_of X G b1) (.cons (PySem.W.mg_none_of X G b2) (.cons (PySem.W.mg_none_of X G b3) (.cons (PySem.W.mg_none_of X G b4) (.cons (PySem.W.mg_none_of X G b5) (.cons (PySem.W.mg_none_of X G b6) (.cons (PySem.W.mg_none_of X G b7) (.cons (PySem.W.mg_none_of X G b8) (.cons (PySem.W.mg_none_of X G b9) .nil)))))))))) y
  · obtain ⟨C, h1, h2⟩ := xs_all pX c xc hc
    exact h2.1 _ c (app_get h1)
  · exact AllQ.mem (l := flds) (p := fun (p : Nat × Str) => ∃ C, (fun c => ([C0, C1] ++ [C2])[c]?) p.1 = some C ∧ Cls K C ∧ NoAttr K C p.2) (.cons (⟨C2, rfl, cls2, cf2_0⟩) (.cons (⟨C2, rfl, cls2, cf2_1⟩) (.cons (⟨C2, rfl, cls2, cf2_2⟩) .nil))) p
  · exact AllQ.mem (l := kdct) (p := fun (p : Str × List (Key × IV)) => ∃ a kv, mg p.1 = some (.ref a) ∧ KD wd K a kv ∧ kv.map (·.1) = p.2.map (·.1) ∧ ∀ O H, RepAll K (fun c => ([C0, C1] ++ [C2])[c]?) O H (kv.map (·.2)) (p.2.map (·.2))) (.cons (glo_kd X G kg0 kl0 kz0 (by decide) (by decide) kp0 rfl (fun O H => (.cons (.int _) (.cons (.int _) .nil)))) (.cons (glo_kd X G kg1 kl1 kz1 (by decide) (by decide) kp1 rfl (fun O H => (.cons (.str _) (.cons (.str _) (.cons (.str _) .nil))))) .nil)) p
  · exact AllQ.mem (l := [C0, C1] ++ [C2]) (p := fun C => PySem.W.subIn K (.ref C) (.type "StopIteration") = some false) (.cons (st0) (.cons (st1) (.cons (st2) .nil))) C (List.mem_of_getElem? hc)
  · exact def_all (.cons F0 (.cons F1 (.cons F2 (.cons F3 (.cons F4 (.cons F5 (.cons F6 (.cons F7 (.cons F8 (.cons F9 (.cons F10 (.cons F11 (.cons F12 (.cons F13 (.cons F14 (.cons F15 (.cons F16 (.cons F17 (.cons F18 (.cons F19 (.cons F20 (.cons F21 (.cons F22 (.cons F23 (.cons F24 (.cons F25 (.cons F26 (.cons F27 (.cons F28 (.cons F29 (.cons F30 (.cons F31 (.cons F32 (.cons F33 (.cons F34 (.cons F35 (.cons F36 (.cons F37 (.cons F38 .nil))))))))))))))))))))))))))))))))))))))) f fn hf
end K03


/-! Scn: what the scanner of the program does, as plain functions of the rest of the line. No program in sight. -/
namespace Scn
open PySem PySem.Spec PyProof.Rows L2 Mx
def LET : List Nat := [65, 66, 67, 68, 69, 70, 71, 72, 73, 74, 75, 76, 77, 78, 79, 80, 81, 82, 83, 84, 85, 86, 87, 88, 89, 90, 97, 98, 99, 100, 101, 102, 103, 104, 105, 106, 107, 108, 109, 110, 111, 112, 113, 114, 115, 116, 117, 118, 119, 120, 121, 122, 95]
def DI : List Nat := [48, 49, 50, 51, 52, 53, 54, 55, 56, 57]
def SG : List Nat := [65, 66, 67, 68, 69, 70, 71, 72, 73, 74, 75, 76, 77, 78, 79, 80, 81, 82, 83, 84, 85, 86, 87, 88, 89, 90, 97, 98, 99, 100, 101, 102, 103, 104, 105, 106, 107, 108, 109, 110, 111, 112, 113, 114, 115, 116, 117, 118, 119, 120, 121, 122, 95, 48, 49, 50, 51, 52, 53, 54, 55, 56, 57]
def HX : List Nat := [48, 49, 50, 51, 52, 53, 54, 55, 56, 57, 65, 66, 67, 68, 69, 70, 97, 98, 99, 100, 101, 102]
def SGL : List Nat := [124, 94, 38, 60, 62, 43, 45, 42, 47, 126, 33, 40, 41, 123, 125, 44, 58, 61]
def DBL : List (List Nat) := [[124, 124], [38, 38], [61, 61], [33, 61], [60, 61], [62, 61], [60, 60], [62, 62], [46, 46]]
/-- what is raised: a wrong line, its column and where the scanner stands then; too large a number -/
inductive Er where
  | bad (o q : Nat)
  | large (q : Nat)
  deriving DecidableEq
def Er.up (n : Nat) : Er → Er
  | .bad o q => .bad (n + o) (n + q)
  | .large q => .large (n + q)
abbrev Em (α : Type) := Except Er α
/-- n further, then as told -/
def up (n : Nat) : Em Nat → Em Nat
  | .ok k => .ok (n + k)
  | .error e => .error (e.up n)
def upV {α : Type} (n : Nat) : Em (α × Nat) → Em (α × Nat)
  | .ok (a, k) => .ok (a, n + k)
  | .error e => .error (e.up n)
/-- how many signs of s -/
def spn (s : List Nat) : List Nat → Nat
  | [] => 0
  | c :: r => if c ∈ s then spn s r + 1 else 0
def hd (s r : List Nat) : Bool := match r with
  | c :: _ => decide (c ∈ s)
  | [] => false
def mSome (s : List Nat) (most : Nat) (r : List Nat) : Em Nat := if spn s r = 0 then .error (.bad 0 0) else if most < spn s r then .error (.bad most most) else .ok (spn s r)
def mName (r : List Nat) : Em Nat := if hd LET r = true then mSome SG 40 r else .error (.bad 0 0)
def mPart (m : Bool) (r : List Nat) : Em Nat := match mName r with
  | .error e => .error e
  | .ok n => if m = true ∧ (r.drop n).take 1 = [64] then (if (r.drop (n + 1)).take 1 = [48] then .error (.bad (n + 1) (n + 1)) else up (n + 1) (mSome DI 9 (r.drop (n + 1)))) else .ok n
def mEnd (r : List Nat) : Em Nat := if hd (SG ++ [64]) r = true then .error (.bad 0 0) else if r.take 1 = [46] ∧ r.tail.take 1 ≠ [46] then .error (.bad 1 0) else .ok 0
def mParts (m : Bool) : Nat → List Nat → Em Nat
  | 0, r => if r.take 1 = [46] ∧ r.tail.take 1 ≠ [46] then .error (.bad 1 1) else .ok 0
  | left + 1, r => if r.take 1 = [46] ∧ r.tail.take 1 ≠ [46] then (match mPart m r.tail with
    | .error e => .error (e.up 1)
    | .ok n => up (1 + n) (mParts m left (r.drop (1 + n)))) else .ok 0
def mPath (m : Bool) (r : List Nat) : Em Nat := match mPart m r with
  | .error e => .error e
  | .ok n => match mParts m 7 (r.drop n) with
    | .error e => .error (e.up n)
    | .ok k => up (n + k) (mEnd (r.drop (n + k)))
def mMarked (r : List Nat) : Em Nat := match mName r.tail with
  | .error e => .error (e.up 1)
  | .ok n => up (1 + n) (mEnd (r.drop (1 + n)))
def baseOf (r : List Nat) : Nat := if r.take 2 = [48, 120] then 16 else if r.take 2 = [48, 98] then 2 else 10
def digsOf (b : Nat) : List Nat := if b = 16 then HX else if b = 2 then [48, 49] else DI
def mDigits (j b : Nat) (r : List Nat) : Em (Nat × Nat) := match up j (mSome (digsOf b) 40 (r.drop j)) with
  | .error e => .error e
  | .ok n => match up n (mEnd (r.drop n)) with
    | .error e => .error e
    | .ok _ => if 18446744073709551616 < numB b ((r.drop j).take (n - j)) then .error (.large n) else .ok (numB b ((r.drop j).take (n - j)), n)
def mNumber (r : List Nat) : Em (Nat × Nat) := mDigits (if baseOf r = 10 then 0 else 2) (baseOf r) r
def ESC : List Nat := [34, 39, 92, 110]
def unesc (d : Nat) : Nat := if d = 110 then 10 else d
def mUnit (mark : Nat) : List Nat → Em (Nat × Nat)
  | [] => .error (.bad 0 0)
  | c :: q => if c = mark then .error (.bad 0 0) else if c = 92 then (match q with
    | [] => .error (.bad 1 1)
    | d :: _ => if d ∈ ESC then .ok (unesc d, 2) else .error (.bad 1 1)) else .ok (c, 1)
def mQuoted (r : List Nat) : Em (Nat × Nat) := match upV 1 (mUnit 39 r.tail) with
  | .error e => .error e
  | .ok (c, n) => if (r.drop n).take 1 = [39] then .ok (c, n + 1) else .error (.bad n n)
/-- the units up to the closing mark -/
def mUnits : List Nat → Em (List Nat × Nat)
  | [] => .error (.bad 0 0)
  | c :: q => if c = 34 then .ok ([], 0) else if c = 92 then (match q with
    | [] => .error (.bad 1 1)
    | d :: q' => if d ∈ ESC then (match mUnits q' with
      | .error e => .error (e.up 2)
      | .ok (t, n) => .ok (unesc d :: t, 2 + n)) else .error (.bad 1 1))
    else match mUnits q with
      | .error e => .error (e.up 1)
      | .ok (t, n) => .ok (c :: t, 1 + n)
def mString (r : List Nat) : Em (List Nat × Nat) := match upV 1 (mUnits r.tail) with
  | .error e => .error e
  | .ok (t, n) => .ok (t, n + 1)
def mSign (r : List Nat) : Em (List Nat × Nat) := if r.take 2 ∈ DBL then .ok (r.take 2, 2) else match r with
  | c :: _ => if c ∈ SGL then .ok ([c], 1) else .error (.bad 0 0)
  | [] => .error (.bad 0 0)
/-- a token: its sort, its value, how long it is -/
abbrev sName : List Nat := [110, 97, 109, 101]
abbrev sLocal : List Nat := [108, 111, 99, 97, 108]
abbrev sOwn : List Nat := [111, 119, 110]
abbrev sSign : List Nat := [115, 105, 103, 110]
abbrev sNumber : List Nat := [110, 117, 109, 98, 101, 114]
abbrev sChar : List Nat := [99, 104, 97, 114, 97, 99, 116, 101, 114]
abbrev sStr : List Nat := [115, 116, 114, 105, 110, 103]
abbrev kMod : List Nat := [109, 111, 100]
def mTok (m : Bool) (r : List Nat) : Em ((List Nat × IV) × Nat) :=
  if hd LET r = true then (match mPath m r with
    | .error e => .error e
    | .ok n => .ok ((if r.take n = kMod then sSign else sName, .str (r.take n)), n))
  else if hd DI r = true then (match mNumber r with
    | .error e => .error e
    | .ok (v, n) => .ok ((sNumber, .int (v : Nat)), n))
  else if r.take 1 = [39] then (match mQuoted r with
    | .error e => .error e
    | .ok (v, n) => .ok ((sChar, .int (v : Nat)), n))
  else if r.take 1 = [34] then (match mString r with
    | .error e => .error e
    | .ok (v, n) => .ok ((sStr, .str v), n))
  else if r.take 1 = [46] ∧ r.tail.take 1 ≠ [46] then (match mMarked r with
    | .error e => .error e
    | .ok n => .ok ((sLocal, .str (r.take n)), n))
  else if r.take 1 = [64] ∧ m = false then (match mMarked r with
    | .error e => .error e
    | .ok n => .ok ((sOwn, .str (r.take n)), n))
  else match mSign r with
    | .error e => .error e
    | .ok (t, n) => .ok ((sSign, .str t), n)
def blk (r : List Nat) : Nat := spn [32] r
def over : List Nat → Bool
  | [] => true
  | c :: _ => decide (c = 59)
/-! ### facts of these -/
theorem spn_le (s : List Nat) : ∀ r : List Nat, spn s r ≤ r.length
  | [] => Nat.le_refl _
  | c :: r => by
    unfold spn
    split
    · exact Nat.succ_le_succ (spn_le s r)
    · exact Nat.zero_le _
theorem spn_pos {s r : List Nat} : (spn s r = 0) = (hd s r = false) := by
  cases r with
  | nil => simp [spn, hd]
  | cons c r => by_cases h : c ∈ s <;> simp [spn, hd, h]
theorem spn_app {s t r : List Nat} (h : ∀ c ∈ t, c ∈ s) (n : hd s r = false) : spn s (t ++ r) = t.length := by
  induction t with
  | nil => rw [List.nil_append, spn_pos.mpr n]; rfl
  | cons c t ih =>
    have hc : c ∈ s := h c List.mem_cons_self
    rw [List.cons_append]
    unfold spn
    rw [if_pos hc, ih fun d hd => h d (List.mem_cons_of_mem _ hd)]
    rfl
theorem spn_at {s : List Nat} : ∀ {r : List Nat} {j : Nat}, j < spn s r → hd s (r.drop j) = true
  | [], j, h => absurd h (Nat.not_lt_zero _)
  | c :: r, 0, h => by
    unfold spn at h
    split at h
    · rename_i hc
      exact decide_eq_true hc
    · exact absurd h (Nat.not_lt_zero _)
  | c :: r, j + 1, h => by
    unfold spn at h
    split at h
    · exact spn_at (r := r) (by omega)
    · exact absurd h (Nat.not_lt_zero _)
theorem spn_end {s : List Nat} : ∀ {r : List Nat}, hd s (r.drop (spn s r)) = false
  | [] => rfl
  | c :: r => by
    unfold spn
    split
    · exact spn_end (r := r)
    · rename_i hc
      exact decide_eq_false hc
theorem mSome_ok {s : List Nat} {most n : Nat} {r : List Nat} (h : mSome s most r = .ok n) : n = spn s r ∧ 0 < n ∧ n ≤ most := by
  unfold mSome at h
  split at h
  · cases h
  · split at h
    · cases h
    · cases h
      exact ⟨rfl, by omega, by omega⟩
theorem mSome_le {s : List Nat} {most n : Nat} {r : List Nat} (h : mSome s most r = .ok n) : n ≤ r.length := by
  rw [(mSome_ok h).1]
  exact spn_le s r
theorem mUnits_cons {c : Nat} {q : List Nat} : mUnits (c :: q) = if c = 34 then .ok ([], 0) else if c = 92 then (match q with
    | [] => .error (.bad 1 1)
    | d :: q' => if d ∈ ESC then (match mUnits q' with
      | .error e => .error (e.up 2)
      | .ok (t, n) => .ok (unesc d :: t, 2 + n)) else .error (.bad 1 1))
    else match mUnits q with
      | .error e => .error (e.up 1)
      | .ok (t, n) => .ok (c :: t, 1 + n) := by
  conv => lhs; rw [mUnits.eq_def]
theorem mUnit_cons {mark c : Nat} {q : List Nat} : mUnit mark (c :: q) = if c = mark then .error (.bad 0 0) else if c = 92 then (match q with
    | [] => .error (.bad 1 1)
    | d :: _ => if d ∈ ESC then .ok (unesc d, 2) else .error (.bad 1 1)) else .ok (c, 1) := rfl
theorem units_unit {r : List Nat} (h : ¬ r.take 1 = [34]) : mUnits r = (match mUnit 34 r with
    | .error e => .error e
    | .ok (c, n) => match mUnits (r.drop n) with
      | .error e => .error (e.up n)
      | .ok (u, k) => .ok (c :: u, n + k)) := by
  cases r with
  | nil => rw [mUnits.eq_def]; rfl
  | cons c q =>
    have hc : ¬ c = 34 := fun z => h (by rw [z]; rfl)
    rw [mUnits_cons, mUnit_cons, if_neg hc, if_neg hc]
    by_cases h2 : c = 92
    · rw [if_pos h2, if_pos h2]
      cases q with
      | nil => rfl
      | cons d q =>
        by_cases h3 : d ∈ ESC
        · simp [h3]
        · simp [h3]
    · rw [if_neg h2, if_neg h2]
      rfl
theorem units_end {r : List Nat} (h : r.take 1 = [34]) : mUnits r = .ok ([], 0) := by
  cases r with
  | nil => cases h
  | cons c q =>
    cases h
    rw [mUnits_cons, if_pos rfl]
theorem unit_len {mark c n : Nat} {r : List Nat} (h : mUnit mark r = .ok (c, n)) : 0 < n ∧ n ≤ r.length ∧ n ≤ 2 := by
  cases r with
  | nil => cases h
  | cons d q =>
    rw [mUnit_cons] at h
    by_cases h1 : d = mark
    · rw [if_pos h1] at h; cases h
    · rw [if_neg h1] at h
      by_cases h2 : d = 92
      · rw [if_pos h2] at h
        cases q with
        | nil => cases h
        | cons e q =>
          by_cases h3 : e ∈ ESC
          · simp [h3] at h
            have := h.2
            subst this
            exact ⟨by decide, by simp, by decide⟩
          · simp [h3] at h
      · rw [if_neg h2] at h
        cases h
        exact ⟨by decide, by simp, by decide⟩
theorem isDig_hx {c : Nat} (h : c ∈ HX) : isDig 16 c = true := by
  have z : (HX.all fun c => isDig 16 c) = true := by decide
  rw [List.all_eq_true] at z
  exact z c h
theorem isDig_di {c : Nat} (h : c ∈ DI) : isDig 10 c = true := by
  have z : (DI.all fun c => isDig 10 c) = true := by decide
  rw [List.all_eq_true] at z
  exact z c h
theorem isDig_bi {c : Nat} (h : c ∈ [48, 49]) : isDig 2 c = true := by
  have z : ([48, 49].all fun c => isDig 2 c) = true := by decide
  rw [List.all_eq_true] at z
  exact z c h
theorem base3 (r : List Nat) : baseOf r = 16 ∨ baseOf r = 2 ∨ baseOf r = 10 := by
  unfold baseOf
  split
  · exact .inl rfl
  · split
    · exact .inr (.inl rfl)
    · exact .inr (.inr rfl)
theorem spn_mem {s : List Nat} : ∀ {r : List Nat} {n : Nat}, n ≤ spn s r → ∀ c ∈ r.take n, c ∈ s
  | [], n, _, c, h => by simp at h
  | d :: r, 0, _, c, h => by simp at h
  | d :: r, n + 1, hn, c, h => by
    unfold spn at hn
    split at hn
    · rename_i hd
      rw [List.take_succ_cons] at h
      rcases List.mem_cons.mp h with z | z
      · rw [z]; exact hd
      · exact spn_mem (r := r) (by omega) c z
    · omega
theorem intB_ok {b : Nat} {l : List Nat} (hb : b = 16 ∨ b = 2 ∨ b = 10) (h0 : l ≠ []) (h1 : l.length ≤ 640) (h2 : ∀ c ∈ l, c ∈ digsOf b) : intB l (b : Nat) = some (.int (numB b l : Nat)) := by
  unfold intB
  have a : l.all (isDig ((b : Nat) : Int).toNat) = true := by
    rw [List.all_eq_true]
    intro c hc
    have z := h2 c hc
    rcases hb with rfl | rfl | rfl
    · exact isDig_hx z
    · exact isDig_bi z
    · exact isDig_di z
  rw [if_pos ⟨by omega, h0, h1, a⟩]
  rfl
end Scn


/-! Scn, part 2: the tokens of a line; what is written. -/
namespace Scn
open PySem PySem.Spec PyProof.Rows L2 Mx
theorem up_ok {n k : Nat} {x : Em Nat} (h : up n x = .ok k) : ∃ j, x = .ok j ∧ k = n + j := by
  cases x with
  | ok j => cases h; exact ⟨j, rfl, rfl⟩
  | error e => cases h
theorem mName_pos {r : List Nat} {n : Nat} (h : mName r = .ok n) : 0 < n := by
  unfold mName at h
  split at h
  · exact (mSome_ok h).2.1
  · cases h
theorem mPart_pos {m : Bool} {r : List Nat} {n : Nat} (h : mPart m r = .ok n) : 0 < n := by
  unfold mPart at h
  cases hn : mName r with
  | error e => rw [hn] at h; cases h
  | ok j =>
    rw [hn] at h
    have := mName_pos hn
    dsimp only at h
    split at h
    · split at h
      · cases h
      · obtain ⟨i, _, e⟩ := up_ok h
        omega
    · cases h; exact this
theorem mPath_pos {m : Bool} {r : List Nat} {n : Nat} (h : mPath m r = .ok n) : 0 < n := by
  unfold mPath at h
  cases hn : mPart m r with
  | error e => rw [hn] at h; cases h
  | ok j =>
    rw [hn] at h
    have := mPart_pos hn
    dsimp only at h
    cases hp : mParts m 7 (r.drop j) with
    | error e => rw [hp] at h; cases h
    | ok i =>
      rw [hp] at h
      obtain ⟨i, _, e⟩ := up_ok h
      omega
theorem mMarked_pos {r : List Nat} {n : Nat} (h : mMarked r = .ok n) : 0 < n := by
  unfold mMarked at h
  cases hn : mName r.tail with
  | error e => rw [hn] at h; cases h
  | ok j =>
    rw [hn] at h
    obtain ⟨i, _, e⟩ := up_ok h
    omega
theorem mNumber_pos {r : List Nat} {v n : Nat} (h : mNumber r = .ok (v, n)) : 0 < n := by
  unfold mNumber mDigits at h
  generalize (if baseOf r = 10 then 0 else 2) = j at h
  cases hn : mSome (digsOf (baseOf r)) 40 (r.drop j) with
  | error e => rw [hn] at h; cases h
  | ok i =>
    rw [hn] at h
    have := (mSome_ok hn).2.1
    simp only [up] at h
    cases he : mEnd (r.drop (j + i)) with
    | error e => rw [he] at h; cases h
    | ok z =>
      rw [he] at h
      dsimp only at h
      split at h
      · cases h
      · cases h; omega
theorem mQuoted_pos {r : List Nat} {v n : Nat} (h : mQuoted r = .ok (v, n)) : 0 < n := by
  unfold mQuoted at h
  cases hn : mUnit 39 r.tail with
  | error e => rw [hn] at h; cases h
  | ok cn =>
    rw [hn] at h
    simp only [upV] at h
    split at h
    · cases h; omega
    · cases h
theorem mString_pos {r v : List Nat} {n : Nat} (h : mString r = .ok (v, n)) : 0 < n := by
  unfold mString at h
  cases hn : mUnits r.tail with
  | error e => rw [hn] at h; cases h
  | ok cn => rw [hn] at h; cases h; omega
theorem mSign_pos {r v : List Nat} {n : Nat} (h : mSign r = .ok (v, n)) : 0 < n := by
  unfold mSign at h
  split at h
  · cases h; decide
  · cases r with
    | nil => cases h
    | cons c q =>
      dsimp only at h
      split at h
      · cases h; decide
      · cases h
theorem tok_pos {m : Bool} {r : List Nat} {sv : List Nat × IV} {n : Nat} (h : mTok m r = .ok (sv, n)) : 0 < n := by
  unfold mTok at h
  split at h
  · cases hp : mPath m r with
    | error e => rw [hp] at h; cases h
    | ok j => rw [hp] at h; cases h; exact mPath_pos hp
  split at h
  · cases hp : mNumber r with
    | error e => rw [hp] at h; cases h
    | ok j => rw [hp] at h; cases h; exact mNumber_pos hp
  split at h
  · cases hp : mQuoted r with
    | error e => rw [hp] at h; cases h
    | ok j => rw [hp] at h; cases h; exact mQuoted_pos hp
  split at h
  · cases hp : mString r with
    | error e => rw [hp] at h; cases h
    | ok j => rw [hp] at h; cases h; exact mString_pos hp
  split at h
  · cases hp : mMarked r with
    | error e => rw [hp] at h; cases h
    | ok j => rw [hp] at h; cases h; exact mMarked_pos hp
  split at h
  · cases hp : mMarked r with
    | error e => rw [hp] at h; cases h
    | ok j => rw [hp] at h; cases h; exact mMarked_pos hp
  · cases hp : mSign r with
    | error e => rw [hp] at h; cases h
    | ok j => rw [hp] at h; cases h; exact mSign_pos hp
/-- the tokens from p on, where the rest is r (no blank in front) -/
def lex (m : Bool) : Nat → Nat → List Nat → Em (List IV)
  | 0, _, _ => .ok []
  | f + 1, p, r => if over r = true then .ok [] else match mTok m r with
    | .error e => .error (e.up p)
    | .ok (sv, n) => match lex m f (p + n + blk (r.drop n)) ((r.drop n).drop (blk (r.drop n))) with
      | .error e => .error e
      | .ok ts => .ok (.tup [.str sv.1, sv.2, .int (p : Nat)] :: ts)
def toks (m : Bool) (L : List Nat) : Em (List IV) := lex m (L.length + 1) (blk L) (L.drop (blk L))
/-- more fuel changes nothing -/
theorem lex_fuel {m : Bool} : ∀ {f g p : Nat} {r : List Nat}, r.length < f → r.length < g → lex m f p r = lex m g p r
  | 0, _, _, _, h, _ => absurd h (Nat.not_lt_zero _)
  | _, 0, _, _, _, h => absurd h (Nat.not_lt_zero _)
  | f + 1, g + 1, p, r, h1, h2 => by
    unfold lex
    cases ho : over r with
    | true => rfl
    | false =>
      simp only [Bool.false_eq_true, if_false]
      cases hm : mTok m r with
      | error e => rfl
      | ok svn =>
        obtain ⟨sv, n⟩ := svn
        dsimp only
        have hp := tok_pos hm
        have hr : r ≠ [] := fun z => by rw [z] at ho; cases ho
        have hl : 0 < r.length := List.length_pos_iff.mpr hr
        rw [lex_fuel (f := f) (g := g) (by simp; omega) (by simp; omega)]
def lineOk (L : List Nat) : Bool := L.all fun c => decide (32 ≤ c) && decide (c ≤ 126) && decide (c ≠ 37)
/-! ### what is written -/
def shw (mark c : Nat) : List Nat := if c = 10 then [92, 110] else if c = mark ∨ c = 92 then [92, c] else [c]
def FUR : List Nat := [32, 34, 35, 36, 39, 46, 59, 63, 64, 91, 92, 93, 96]
def KC : List Nat := SG ++ SGL ++ FUR ++ [10]
def wr (s : List Nat) (v : IV) : Option (List Nat) :=
  if s = sNumber then (match v with | .int i => if i.natAbs.log2 < 1920 then some (strI' i) else none | _ => none)
  else if s = sChar then (match v with | .int i => if 0 ≤ i ∧ i.toNat ∈ KC then some (39 :: (shw 39 i.toNat ++ [39])) else none | _ => none)
  else if s = sStr then (match v with | .str t => if t.length ≤ 1000 then some (34 :: ((t.map (shw 34)).flatten ++ [34])) else none | _ => none)
  else match v with | .str t => some t | _ => none
theorem wr_cases {s t : List Nat} {v : IV} (h : wr s v = some t) : (s = sNumber ∧ ∃ i : Int, v = .int i ∧ i.natAbs.log2 < 1920 ∧ t = strI' i) ∨ (s = sChar ∧ ∃ c ∈ KC, v = .int ((c : Nat) : Int) ∧ t = 39 :: (shw 39 c ++ [39])) ∨ (s = sStr ∧ ∃ l, v = .str l ∧ l.length ≤ 1000 ∧ t = 34 :: ((l.map (shw 34)).flatten ++ [34])) ∨ (s ≠ sNumber ∧ s ≠ sChar ∧ s ≠ sStr ∧ v = .str t) := by
  unfold wr at h
  by_cases h1 : s = sNumber
  · rw [if_pos h1] at h
    cases v with
    | int i =>
      by_cases hb : i.natAbs.log2 < 1920
      · simp only [if_pos hb] at h
        cases h
        exact .inl ⟨h1, i, rfl, hb, rfl⟩
      · simp only [if_neg hb] at h
        cases h
    | _ => cases h
  · rw [if_neg h1] at h
    by_cases h2 : s = sChar
    · rw [if_pos h2] at h
      cases v with
      | int i =>
        by_cases hb : 0 ≤ i ∧ i.toNat ∈ KC
        · simp only [if_pos hb] at h
          cases h
          exact .inr (.inl ⟨h2, i.toNat, hb.2, by rw [Int.toNat_of_nonneg hb.1], rfl⟩)
        · simp only [if_neg hb] at h
          cases h
      | _ => cases h
    · rw [if_neg h2] at h
      by_cases h3 : s = sStr
      · rw [if_pos h3] at h
        cases v with
        | str l =>
          by_cases hb : l.length ≤ 1000
          · simp only [if_pos hb] at h
            cases h
            exact .inr (.inr (.inl ⟨h3, l, rfl, hb, rfl⟩))
          · simp only [if_neg hb] at h
            cases h
        | _ => cases h
      · rw [if_neg h3] at h
        cases v with
        | str l => cases h; exact .inr (.inr (.inr ⟨h1, h2, h3, rfl⟩))
        | _ => cases h
theorem shw_len {mark c : Nat} : (shw mark c).length ≤ 2 := by
  unfold shw
  split
  · decide
  · split <;> simp
theorem get_map {c : Nat} : ∀ {l : List Nat}, c ∈ l → getKD (l.map fun c => ((Sum.inl ((c : Nat) : Int) : Key), IV.str [c])) (.inl ((c : Nat) : Int)) = some (.str [c])
  | [], h => nomatch h
  | d :: l, h => by
    unfold getKD
    rw [List.map_cons, List.find?_cons]
    by_cases hd : d = c
    · subst hd
      rw [decide_eq_true rfl]
      rfl
    · dsimp only
      rw [decide_eq_false (p := (Sum.inl ((d : Nat) : Int) : Key) = Sum.inl ((c : Nat) : Int)) fun z => hd (Int.ofNat.inj (Sum.inl.inj z))]
      exact get_map (l := l) ((List.mem_cons.mp h).resolve_left fun z => hd z.symm)
/-! ### decimal digits -/
theorem dec_num (n : Nat) : strI' ((n : Nat) : Int) = (Nat.toDigits 10 n).map Char.toNat := PySem.W.KIN.signs_num n
theorem dec_mem {n c : Nat} (h : c ∈ strI' ((n : Nat) : Int)) : c ∈ DI := by
  rw [dec_num] at h
  obtain ⟨ch, hch, e⟩ := List.mem_map.mp h
  have r := digit_range (Nat.isDigit_of_mem_toDigits (by decide) (by decide) hch)
  rw [e] at r
  have hc : c = 48 ∨ c = 49 ∨ c = 50 ∨ c = 51 ∨ c = 52 ∨ c = 53 ∨ c = 54 ∨ c = 55 ∨ c = 56 ∨ c = 57 := by omega
  rcases hc with rfl | rfl | rfl | rfl | rfl | rfl | rfl | rfl | rfl | rfl <;> decide
theorem dec_ne (n : Nat) : strI' ((n : Nat) : Int) ≠ [] := by
  rw [dec_num]
  intro e
  have h := toDigits_len_ge 10 n
  rw [List.map_eq_nil_iff.mp e] at h
  exact absurd h (by decide)
theorem dec_len {n : Nat} (h : n < 10 ^ 20) : (strI' ((n : Nat) : Int)).length ≤ 20 := by
  rw [dec_num, List.length_map]
  exact toDigits_len_pow (by decide) (by decide) h
theorem numB_dec : ∀ (l : List Nat) (a : Nat), (∀ c ∈ l, c ∈ DI) → l.foldl (fun a c => a * 10 + (digV c).getD 0) a = l.foldl (fun acc c => acc * 10 + (c - 48)) a
  | [], _, _ => rfl
  | c :: l, a, h => by
    have e : (digV c).getD 0 = c - 48 := by
      have z : (DI.all fun c => decide ((digV c).getD 0 = c - 48)) = true := by decide
      rw [List.all_eq_true] at z
      exact of_decide_eq_true (z c (h c List.mem_cons_self))
    rw [List.foldl_cons, List.foldl_cons, e]
    exact numB_dec l _ fun d hd => h d (List.mem_cons_of_mem _ hd)
theorem dec_val (n : Nat) : numB 10 (strI' ((n : Nat) : Int)) = n := by
  unfold numB
  rw [numB_dec _ _ fun c hc => dec_mem hc, dec_num]
  exact PySem.W.KIN.val_back n
end Scn


/-! Scn, part 3: how written tokens are read. -/
namespace Scn
open PySem PySem.Spec PyProof.Rows L2 Mx
theorem hd_no {s r : List Nat} {c : Nat} (h : decide (c ∈ s) = false) : hd s (c :: r) = false := h
theorem hd_app {s t r : List Nat} (h : t ≠ []) : hd s (t ++ r) = hd s t := by
  cases t with
  | nil => exact absurd rfl h
  | cons c t => rfl
theorem mSome_app {s t r : List Nat} {most : Nat} (h0 : t ≠ []) (h1 : ∀ c ∈ t, c ∈ s) (h2 : t.length ≤ most) (hr : hd s r = false) : mSome s most (t ++ r) = .ok t.length := by
  unfold mSome
  rw [spn_app h1 hr]
  have := List.length_pos_iff.mpr h0
  rw [if_neg (by omega), if_neg (by omega)]
structure NameOk (t : List Nat) : Prop where
  ne : t ≠ []
  first : hd LET t = true
  all : ∀ c ∈ t, c ∈ SG
  len : t.length ≤ 40
theorem mName_app {t r : List Nat} (n : NameOk t) (hr : hd SG r = false) : mName (t ++ r) = .ok t.length := by
  unfold mName
  rw [hd_app n.ne, n.first, if_pos rfl]
  exact mSome_app n.ne n.all n.len hr
inductive PartOk (m : Bool) : List Nat → Prop
  | name {t : List Nat} : NameOk t → PartOk m t
  | made {t d : List Nat} : m = true → NameOk t → d ≠ [] → (∀ c ∈ d, c ∈ DI) → d.length ≤ 9 → hd [48] d = false → PartOk m (t ++ 64 :: d)
theorem hd_take {c : Nat} {r : List Nat} : (r.take 1 = [c]) ↔ hd [c] r = true := by
  cases r <;> simp [hd]
theorem hd_sub {s s' r : List Nat} (h : hd s r = false) (k : ∀ c ∈ s', c ∈ s) : hd s' r = false := by
  cases r with
  | nil => rfl
  | cons c q =>
    have h : decide (c ∈ s) = false := h
    exact decide_eq_false fun z => of_decide_eq_false h (k c z)
theorem di_sg : ∀ c ∈ DI, c ∈ SG := by decide
theorem let_sg : ∀ c ∈ LET, c ∈ SG := by decide
theorem mPart_app {m : Bool} {t r : List Nat} (p : PartOk m t) (h1 : hd SG r = false) (h2 : hd [64] r = false) : mPart m (t ++ r) = .ok t.length := by
  cases p with
  | name n =>
    unfold mPart
    rw [mName_app n h1]
    dsimp only
    rw [if_neg]
    rintro ⟨_, z⟩
    rw [List.drop_left, hd_take, h2] at z
    cases z
  | @made t d hm n d0 d1 d2 d3 =>
    have e : t ++ 64 :: d ++ r = t ++ (64 :: (d ++ r)) := by simp
    rw [e]
    unfold mPart
    rw [mName_app n (hd_no (by decide))]
    dsimp only
    have e2 : (t ++ 64 :: (d ++ r)).drop (t.length + 1) = d ++ r := by rw [← List.drop_drop, List.drop_left]; rfl
    rw [List.drop_left, e2, if_pos ⟨hm, rfl⟩, if_neg, mSome_app d0 d1 d2 (hd_sub h1 di_sg)]
    · simp [up]; omega
    · rw [hd_take, hd_app d0, d3]
      simp
/-- behind a word -/
def Fin (r : List Nat) : Prop := mEnd r = .ok 0
theorem fin_iff {r : List Nat} : Fin r ↔ hd (SG ++ [64]) r = false ∧ ¬ (r.take 1 = [46] ∧ r.tail.take 1 ≠ [46]) := by
  unfold Fin mEnd
  cases hd (SG ++ [64]) r with
  | true => simp
  | false =>
    by_cases h : r.take 1 = [46] ∧ r.tail.take 1 ≠ [46]
    · simp [h]
    · simp [h]
theorem Fin.sg {r : List Nat} (h : Fin r) : hd SG r = false := hd_sub (fin_iff.mp h).1 fun c hc => List.mem_append_left _ hc
theorem Fin.at_ {r : List Nat} (h : Fin r) : hd [64] r = false := hd_sub (fin_iff.mp h).1 fun c hc => List.mem_append_right _ hc
theorem mParts_app {m : Bool} {r : List Nat} (f : Fin r) : ∀ {left : Nat} {ps : List (List Nat)}, ps.length ≤ left → (∀ p ∈ ps, PartOk m p) → mParts m left ((ps.map (46 :: ·)).flatten ++ r) = .ok (ps.map (46 :: ·)).flatten.length
  | left, [], _, _ => by
    have h := (fin_iff.mp f).2
    show mParts m left r = .ok 0
    cases left <;> (unfold mParts; rw [if_neg h])
  | 0, p :: ps, h, _ => absurd h (by simp)
  | left + 1, p :: ps, h, hp => by
    have pk := hp p List.mem_cons_self
    have tk : ∀ c q, p = c :: q → c ≠ 46 := fun c q e z => by
      have : hd LET p = true := by
        cases pk with
        | name n => exact n.first
        | made _ n _ _ _ _ => rw [hd_app n.ne]; exact n.first
      rw [e, z] at this
      rw [hd_no (by decide)] at this
      cases this
    have ne : p ≠ [] := by
      cases pk with
      | name n => exact n.ne
      | made _ n _ _ _ _ => exact fun z => by simp at z
    have nx1 : hd SG ((ps.map (46 :: ·)).flatten ++ r) = false := by
      cases ps with
      | nil => exact f.sg
      | cons q ps => rfl
    have nx2 : hd [64] ((ps.map (46 :: ·)).flatten ++ r) = false := by
      cases ps with
      | nil => exact f.at_
      | cons q ps => rfl
    have e : ((p :: ps).map (46 :: ·)).flatten ++ r = 46 :: (p ++ ((ps.map (46 :: ·)).flatten ++ r)) := by simp
    rw [e, mParts, if_pos, List.tail_cons, mPart_app pk nx1 nx2]
    · have e2 : (46 :: (p ++ ((ps.map (46 :: ·)).flatten ++ r))).drop (1 + p.length) = (ps.map (46 :: ·)).flatten ++ r := by
        rw [Nat.add_comm, List.drop_succ_cons, List.drop_left]
      dsimp only
      rw [e2, mParts_app f (left := left) (ps := ps) (by simpa using h) fun q hq => hp q (List.mem_cons_of_mem _ hq)]
      simp [up]
      omega
    · refine ⟨rfl, ?_⟩
      cases hq : p with
      | nil => exact absurd hq ne
      | cons c q =>
        intro z
        exact tk c q hq (by simpa using z)
theorem joinDots {p : List Nat} {ps : List (List Nat)} : TL.joinL [46] (p :: ps) = p ++ (ps.map (46 :: ·)).flatten := by
  induction ps generalizing p with
  | nil => simp [TL.joinL]
  | cons q ps ih =>
    show p ++ ([46] ++ TL.joinL [46] (q :: ps)) = _
    rw [ih]
    simp
theorem mPath_app {m : Bool} {r p : List Nat} {ps : List (List Nat)} (f : Fin r) (hl : ps.length ≤ 7) (hp : PartOk m p) (hps : ∀ q ∈ ps, PartOk m q) : mPath m (TL.joinL [46] (p :: ps) ++ r) = .ok (TL.joinL [46] (p :: ps)).length := by
  have nx1 : hd SG ((ps.map (46 :: ·)).flatten ++ r) = false := by
    cases ps with
    | nil => exact f.sg
    | cons q ps => rfl
  have nx2 : hd [64] ((ps.map (46 :: ·)).flatten ++ r) = false := by
    cases ps with
    | nil => exact f.at_
    | cons q ps => rfl
  rw [joinDots, List.append_assoc]
  unfold mPath
  rw [mPart_app hp nx1 nx2]
  dsimp only
  rw [List.drop_left, mParts_app f hl hps]
  dsimp only
  rw [← List.drop_drop, List.drop_left, List.drop_left, show mEnd r = .ok 0 from f]
  simp [up]
theorem mMarked_app {t r : List Nat} {c : Nat} (n : NameOk t) (f : Fin r) : mMarked (c :: t ++ r) = .ok (t.length + 1) := by
  unfold mMarked
  rw [List.cons_append, List.tail_cons, mName_app n f.sg]
  dsimp only
  rw [Nat.add_comm 1, List.drop_succ_cons, List.drop_left, show mEnd r = .ok 0 from f]
  rfl
theorem unit_app {mark c : Nat} {t r : List Nat} (h : t = [c] ∧ c ≠ mark ∧ c ≠ 92 ∨ ∃ d ∈ ESC, t = [92, d] ∧ c = unesc d) (hm : mark ≠ 92) : mUnit mark (t ++ r) = .ok (c, t.length) := by
  rcases h with ⟨rfl, h1, h2⟩ | ⟨d, hd, rfl, rfl⟩
  · show mUnit mark (c :: r) = _
    rw [mUnit_cons, if_neg h1, if_neg h2]
    rfl
  · show mUnit mark (92 :: (d :: r)) = _
    rw [mUnit_cons, if_neg fun z => hm z.symm, if_pos rfl]
    simp [hd]
/-- how a character may be written between marks -/
def UnitOk (mark c : Nat) (t : List Nat) : Prop := t = [c] ∧ c ≠ mark ∧ c ≠ 92 ∨ ∃ d ∈ ESC, t = [92, d] ∧ c = unesc d
theorem mQuoted_app {c : Nat} {t r : List Nat} (h : UnitOk 39 c t) : mQuoted (39 :: (t ++ [39]) ++ r) = .ok (c, t.length + 2) := by
  unfold mQuoted
  have e : 39 :: (t ++ [39]) ++ r = 39 :: (t ++ (39 :: r)) := by simp
  rw [e, List.tail_cons, unit_app h (by decide)]
  simp only [upV]
  have e2 : (39 :: (t ++ 39 :: r)).drop (1 + t.length) = 39 :: r := by rw [Nat.add_comm, List.drop_succ_cons, List.drop_left]
  rw [e2, if_pos (show (39 :: r).take 1 = [39] from rfl), show 1 + t.length + 1 = t.length + 2 by omega]
theorem mUnits_app {r : List Nat} : ∀ {us : List (Nat × List Nat)}, (∀ u ∈ us, UnitOk 34 u.1 u.2) → mUnits ((us.map (·.2)).flatten ++ 34 :: r) = .ok (us.map (·.1), (us.map (·.2)).flatten.length)
  | [], _ => units_end rfl
  | u :: us, h => by
    have hu := h u List.mem_cons_self
    have e : ((u :: us).map (·.2)).flatten ++ 34 :: r = u.2 ++ ((us.map (·.2)).flatten ++ 34 :: r) := by simp
    have ih := mUnits_app (r := r) (us := us) fun v hv => h v (List.mem_cons_of_mem _ hv)
    rw [e, units_unit, unit_app hu (by decide)]
    · dsimp only
      rw [List.drop_left, ih]
      simp
    · rcases hu with ⟨e1, h1, h2⟩ | ⟨d, hd, e1, _⟩
      · rw [e1]; simpa using h1
      · rw [e1]; simp
theorem mString_app {r : List Nat} {us : List (Nat × List Nat)} (h : ∀ u ∈ us, UnitOk 34 u.1 u.2) : mString (34 :: ((us.map (·.2)).flatten ++ [34]) ++ r) = .ok (us.map (·.1), (us.map (·.2)).flatten.length + 2) := by
  unfold mString
  have e : 34 :: ((us.map (·.2)).flatten ++ [34]) ++ r = 34 :: ((us.map (·.2)).flatten ++ 34 :: r) := by simp
  rw [e, List.tail_cons, mUnits_app h]
  simp only [upV]
  rw [show 1 + (us.map (·.2)).flatten.length + 1 = (us.map (·.2)).flatten.length + 2 by omega]
/-- how a number may be written -/
def NumOk (v : Nat) (t : List Nat) : Prop := ∃ (b : Nat) (pre ds : List Nat), t = pre ++ ds ∧ ds ≠ [] ∧ ds.length ≤ 40 ∧ (∀ c ∈ ds, c ∈ digsOf b) ∧ v = numB b ds ∧ v ≤ 18446744073709551616 ∧ (b = 10 ∧ pre = [] ∨ b = 16 ∧ pre = [48, 120] ∨ b = 2 ∧ pre = [48, 98])
theorem digs_sg {b : Nat} (hb : b = 10 ∨ b = 16 ∨ b = 2) : ∀ c ∈ digsOf b, c ∈ SG := by
  rcases hb with rfl | rfl | rfl <;> decide
theorem num_app {v b j : Nat} {pre ds r : List Nat} (h0 : ds ≠ []) (h1 : ds.length ≤ 40) (h2 : ∀ c ∈ ds, c ∈ digsOf b) (hb : b = 10 ∨ b = 16 ∨ b = 2) (hv : v = numB b ds) (hl : v ≤ 18446744073709551616) (hj : j = pre.length) (f : Fin r) : mDigits j b (pre ++ ds ++ r) = .ok (v, pre.length + ds.length) := by
  unfold mDigits
  rw [hj, List.append_assoc, List.drop_left, mSome_app h0 h2 h1 (hd_sub f.sg (digs_sg hb))]
  simp only [up]
  rw [← List.drop_drop, List.drop_left, List.drop_left, show mEnd r = .ok 0 from f]
  dsimp only
  rw [show pre.length + ds.length - pre.length = ds.length by omega, List.take_left, ← hv, if_neg (by omega)]
theorem mNumber_app {v : Nat} {t r : List Nat} (h : NumOk v t) (f : Fin r) : mNumber (t ++ r) = .ok (v, t.length) := by
  obtain ⟨b, pre, ds, rfl, h0, h1, h2, hv, hl, hb⟩ := h
  unfold mNumber
  have hbs : baseOf (pre ++ ds ++ r) = b := by
    rcases hb with ⟨rfl, rfl⟩ | ⟨rfl, rfl⟩ | ⟨rfl, rfl⟩
    · unfold baseOf
      have nx : ∀ c, c = 120 ∨ c = 98 → ¬ (([] ++ ds ++ r).take 2 = [48, c]) := fun c hc z => by
        have hc' : c ∉ DI ∧ c ∈ SG := by rcases hc with rfl | rfl <;> decide
        rw [List.nil_append] at z
        match ds, h0, h2, z with
        | [d], _, _, z =>
          cases r with
          | nil => simp at z
          | cons e q =>
            have z : [d, e] = [48, c] := by simpa using z
            have : e = c := by simp at z; exact z.2
            have g : decide (e ∈ SG) = false := f.sg
            exact of_decide_eq_false g (by rw [this]; exact hc'.2)
        | d :: e :: ds, _, h2, z =>
          have z : [d, e] = [48, c] := by simpa using z
          have : e = c := by simp at z; exact z.2
          exact hc'.1 (this ▸ h2 e (by simp))
      rw [if_neg (nx 120 (.inl rfl)), if_neg (nx 98 (.inr rfl))]
    · rfl
    · rfl
  rw [hbs]
  have hj : (if b = 10 then 0 else 2) = pre.length := by
    rcases hb with ⟨rfl, rfl⟩ | ⟨rfl, rfl⟩ | ⟨rfl, rfl⟩ <;> rfl
  rw [hj, num_app h0 h1 h2 (by rcases hb with ⟨h, _⟩ | ⟨h, _⟩ | ⟨h, _⟩ <;> simp [h]) hv hl rfl f]
  simp
end Scn


/-! Scn, part 4: rows of written tokens are read. -/
namespace Scn
open PySem PySem.Spec PyProof.Rows L2 Mx
inductive Kd where
  | word | quo | sgn
/-- what may follow a token -/
def Flw (kd : Kd) (t r : List Nat) : Prop := match kd with
  | .word => Fin r
  | .quo => True
  | .sgn => t.length = 2 ∨ ¬ (t ++ r.take 1 ∈ DBL)
def SIGNS : List (List Nat) := DBL ++ SGL.map fun c => [c]
inductive KdOk : Kd → List Nat → IV → List Nat → Prop
  | word {s : List Nat} {v : IV} {t : List Nat} : (s = sName ∨ s = sLocal ∨ s = sOwn ∨ s = sNumber ∨ s = sSign ∧ v = .str kMod) → KdOk .word s v t
  | quo {s : List Nat} {v : IV} {t : List Nat} : (s = sChar ∨ s = sStr) → hd [39, 34] t = true → KdOk .quo s v t
  | sgn {t : List Nat} : t ∈ SIGNS → KdOk .sgn sSign (.str t) t
structure Tok (m : Bool) (kd : Kd) (s : List Nat) (v : IV) (t : List Nat) : Prop where
  ne : t ≠ []
  st : hd [32, 59] t = false
  rd : ∀ r, Flw kd t r → mTok m (t ++ r) = .ok ((s, v), t.length)
  ok : lineOk t = true
  cl : KdOk kd s v t
theorem ok_all {t : List Nat} {s : List Nat} (h : lineOk s = true) (k : ∀ c ∈ t, c ∈ s) : lineOk t = true := by
  unfold lineOk at *
  rw [List.all_eq_true] at *
  exact fun c hc => h c (k c hc)
theorem ok_app {t r : List Nat} : lineOk (t ++ r) = (lineOk t && lineOk r) := by simp [lineOk]
theorem ok_cons {c : Nat} {r : List Nat} : lineOk (c :: r) = (lineOk [c] && lineOk r) := ok_app (t := [c])
theorem ok_SG : lineOk SG = true := by decide
theorem name_ok {t : List Nat} (n : NameOk t) : lineOk t = true := ok_all ok_SG n.all
theorem part_ok {m : Bool} {t : List Nat} (p : PartOk m t) : lineOk t = true := by
  cases p with
  | name n => exact name_ok n
  | made _ n _ d1 _ _ =>
    rw [ok_app, ok_cons, name_ok n, ok_all ok_SG fun c hc => di_sg c (d1 c hc)]
    decide
theorem parts_ok {m : Bool} : ∀ {ps : List (List Nat)}, (∀ p ∈ ps, PartOk m p) → lineOk (ps.map (46 :: ·)).flatten = true
  | [], _ => rfl
  | p :: ps, h => by
    rw [List.map_cons, List.flatten_cons, ok_app, ok_cons, part_ok (h p List.mem_cons_self), parts_ok fun q hq => h q (List.mem_cons_of_mem _ hq)]
    decide
theorem PartOk.first {m : Bool} {t : List Nat} (h : PartOk m t) : hd LET t = true := by
  cases h with
  | name n => exact n.first
  | made _ n _ _ _ _ => rw [hd_app n.ne]; exact n.first
theorem PartOk.ne {m : Bool} {t : List Nat} (h : PartOk m t) : t ≠ [] := by
  cases h with
  | name n => exact n.ne
  | made _ n _ _ _ _ => exact fun z => by simp at z
theorem hd_not {s s' r : List Nat} (h : hd s r = true) (k : ∀ c ∈ s, c ∉ s') : hd s' r = false := by
  cases r with
  | nil => rfl
  | cons c q => exact decide_eq_false (k c (of_decide_eq_true h))
theorem tok_path {m : Bool} {p : List Nat} {ps : List (List Nat)} (hl : ps.length ≤ 7) (hp : PartOk m p) (hps : ∀ q ∈ ps, PartOk m q) : Tok m .word (if TL.joinL [46] (p :: ps) = kMod then sSign else sName) (.str (TL.joinL [46] (p :: ps))) (TL.joinL [46] (p :: ps)) := by
  have e := joinDots (p := p) (ps := ps)
  have hf : ∀ r, hd LET (TL.joinL [46] (p :: ps) ++ r) = true := fun r => by rw [e, List.append_assoc, hd_app hp.ne]; exact hp.first
  have hf0 : hd LET (TL.joinL [46] (p :: ps)) = true := by have z := hf []; rwa [List.append_nil] at z
  refine ⟨?_, hd_not hf0 (by decide), fun r f => ?_, ?_, ?_⟩
  · rw [e]
    intro z
    exact hp.ne (List.append_eq_nil_iff.mp z).1
  · unfold mTok
    rw [hf r, if_pos rfl, mPath_app f hl hp hps]
    dsimp only
    rw [List.take_left]
  · rw [e, ok_app, part_ok hp, parts_ok hps]
    rfl
  · split
    · rename_i h
      exact .word (.inr (.inr (.inr (.inr ⟨rfl, by rw [h]⟩))))
    · exact .word (.inl rfl)
theorem tok_mark {m : Bool} {n : List Nat} (hn : NameOk n) : Tok m .word sLocal (.str (46 :: n)) (46 :: n) := by
  refine ⟨by simp, hd_no (by decide), fun r f => ?_, by rw [ok_cons, name_ok hn]; decide, .word (.inr (.inl rfl))⟩
  have h2 : (n ++ r).take 1 ≠ [46] := by
    intro z
    rw [hd_take, hd_app hn.ne] at z
    have := hd_not (s' := [46]) hn.first (by decide)
    rw [this] at z
    cases z
  unfold mTok
  rw [List.cons_append, hd_no (by decide), hd_no (by decide)]
  simp only [Bool.false_eq_true, if_false]
  rw [if_neg (show ¬ (46 :: (n ++ r)).take 1 = [39] by simp), if_neg (show ¬ (46 :: (n ++ r)).take 1 = [34] by simp), if_pos ⟨rfl, h2⟩, ← List.cons_append, mMarked_app hn f]
  dsimp only
  rw [show n.length + 1 = (46 :: n).length from rfl, List.take_left]
theorem tok_own {n : List Nat} (hn : NameOk n) : Tok false .word sOwn (.str (64 :: n)) (64 :: n) := by
  refine ⟨by simp, hd_no (by decide), fun r f => ?_, by rw [ok_cons, name_ok hn]; decide, .word (.inr (.inr (.inl rfl)))⟩
  unfold mTok
  rw [List.cons_append, hd_no (by decide), hd_no (by decide)]
  simp only [Bool.false_eq_true, if_false]
  rw [if_neg (show ¬ (64 :: (n ++ r)).take 1 = [39] by simp), if_neg (show ¬ (64 :: (n ++ r)).take 1 = [34] by simp), if_neg (fun z => by simp at z), if_pos (by simp), ← List.cons_append, mMarked_app hn f]
  dsimp only
  rw [show n.length + 1 = (64 :: n).length from rfl, List.take_left]
theorem numOk_first {v : Nat} {t : List Nat} (h : NumOk v t) : t ≠ [] ∧ hd DI t = true ∧ lineOk t = true := by
  obtain ⟨b, pre, ds, rfl, h0, h1, h2, hv, hl, hb⟩ := h
  have dk : lineOk ds = true := ok_all ok_SG fun c hc => digs_sg (by rcases hb with ⟨h, _⟩ | ⟨h, _⟩ | ⟨h, _⟩ <;> simp [h]) c (h2 c hc)
  rcases hb with ⟨rfl, rfl⟩ | ⟨rfl, rfl⟩ | ⟨rfl, rfl⟩
  · refine ⟨by simpa using h0, ?_, dk⟩
    cases ds with
    | nil => exact absurd rfl h0
    | cons c q => exact decide_eq_true (h2 c List.mem_cons_self)
  · exact ⟨by simp, rfl, by rw [ok_app, dk]; decide⟩
  · exact ⟨by simp, rfl, by rw [ok_app, dk]; decide⟩
theorem tok_num {m : Bool} {v : Nat} {t : List Nat} (h : NumOk v t) : Tok m .word sNumber (.int (v : Nat)) t := by
  obtain ⟨ne, fd, ok⟩ := numOk_first h
  refine ⟨ne, hd_not fd (by decide), fun r f => ?_, ok, .word (.inr (.inr (.inr (.inl rfl))))⟩
  unfold mTok
  rw [hd_app ne, hd_not fd (by decide), hd_app ne, fd]
  simp only [Bool.false_eq_true, if_false, if_true]
  rw [mNumber_app h f]
theorem tok_char {m : Bool} {c : Nat} {t : List Nat} (h : UnitOk 39 c t) (ok : lineOk t = true) : Tok m .quo sChar (.int (c : Nat)) (39 :: (t ++ [39])) := by
  refine ⟨by simp, hd_no (by decide), fun r f => ?_, by rw [ok_cons, ok_app, ok]; decide, .quo (.inl rfl) rfl⟩
  unfold mTok
  rw [mQuoted_app h, List.cons_append, hd_no (by decide), hd_no (by decide)]
  simp only [Bool.false_eq_true, if_false]
  rw [if_pos (show (39 :: (t ++ [39] ++ r)).take 1 = [39] from rfl)]
  simp
theorem tok_str {m : Bool} {us : List (Nat × List Nat)} (h : ∀ u ∈ us, UnitOk 34 u.1 u.2) (ok : lineOk (us.map (·.2)).flatten = true) : Tok m .quo sStr (.str (us.map (·.1))) (34 :: ((us.map (·.2)).flatten ++ [34])) := by
  refine ⟨by simp, hd_no (by decide), fun r f => ?_, by rw [ok_cons, ok_app, ok]; decide, .quo (.inr rfl) rfl⟩
  unfold mTok
  rw [mString_app h, List.cons_append, hd_no (by decide), hd_no (by decide)]
  simp only [Bool.false_eq_true, if_false]
  rw [if_neg (show ¬ (34 :: ((us.map (·.2)).flatten ++ [34] ++ r)).take 1 = [39] by simp), if_pos (show (34 :: ((us.map (·.2)).flatten ++ [34] ++ r)).take 1 = [34] from rfl)]
  simp
theorem tok_sign {m : Bool} {t : List Nat} (h : t ∈ SIGNS) : Tok m .sgn sSign (.str t) t := by
  have z : (SIGNS.all fun t => decide (t ≠ [] ∧ hd [32, 59] t = false ∧ lineOk t = true ∧ hd LET t = false ∧ hd DI t = false ∧ hd [39, 34, 64] t = false ∧ t.length ≤ 2 ∧ (hd [46] t = true → t = [46, 46]) ∧ (t.length = 2 → t ∈ DBL) ∧ (t.length = 1 → hd SGL t = true))) = true := by decide
  rw [List.all_eq_true] at z
  obtain ⟨z1, z2, z3, z4, z5, z6, z7, z8, z9, z10⟩ := of_decide_eq_true (z t h)
  refine ⟨z1, z2, fun r f => ?_, z3, .sgn h⟩
  have n1 : ∀ c, c ∈ [39, 34, 64] → ¬ (t ++ r).take 1 = [c] := fun c hc q => by
    rw [hd_take, hd_app z1, hd_sub (s' := [c]) z6 (fun d hd => by rw [List.mem_singleton.mp hd]; exact hc)] at q
    cases q
  have n2 : ¬ ((t ++ r).take 1 = [46] ∧ (t ++ r).tail.take 1 ≠ [46]) := by
    rintro ⟨q1, q2⟩
    rw [hd_take, hd_app z1] at q1
    rw [z8 q1] at q2
    exact q2 rfl
  unfold mTok
  rw [hd_app z1, z4, hd_app z1, z5]
  simp only [Bool.false_eq_true, if_false]
  rw [if_neg (n1 39 (by decide)), if_neg (n1 34 (by decide)), if_neg n2, if_neg (fun q => n1 64 (by decide) q.1)]
  have sg : mSign (t ++ r) = .ok (t, t.length) := by
    unfold mSign
    by_cases h2 : t.length = 2
    · have e : (t ++ r).take 2 = t := by rw [← h2, List.take_left]
      rw [e, if_pos (z9 h2), h2]
    · have h1 : t.length = 1 := by
        have := List.length_pos_iff.mpr z1
        omega
      obtain ⟨c, rfl⟩ := List.length_eq_one_iff.mp h1
      have e : ([c] ++ r).take 2 = [c] ++ r.take 1 := rfl
      have nd : ¬ ([c] ++ r.take 1 ∈ DBL) := by
        rcases f with f | f
        · exact absurd f h2
        · exact f
      rw [e, if_neg nd]
      show (if c ∈ SGL then Except.ok ([c], 1) else Except.error (Er.bad 0 0)) = _
      rw [if_pos (of_decide_eq_true (z10 rfl))]
      rfl
  rw [sg]
/-! ### rows -/
def lx (m : Bool) (p : Nat) (r : List Nat) : Em (List IV) := lex m (r.length + 1) (p + blk r) (r.drop (blk r))
theorem toks_lx {m : Bool} {L : List Nat} : toks m L = lx m 0 L := by unfold toks lx; rw [Nat.zero_add]
def lC (ys : List IV) : Em (List IV) → Em (List IV)
  | .ok ts => .ok (ys ++ ts)
  | .error e => .error e
theorem lC_nil {x : Em (List IV)} : lC [] x = x := by cases x <;> rfl
theorem lC_lC {a b : List IV} {x : Em (List IV)} : lC a (lC b x) = lC (a ++ b) x := by cases x <;> simp [lC]
theorem lx_blank {m : Bool} {p : Nat} {r : List Nat} : lx m p (32 :: r) = lx m (p + 1) r := by
  unfold lx
  have e : blk (32 :: r) = blk r + 1 := rfl
  rw [e, List.drop_succ_cons, show p + (blk r + 1) = p + 1 + blk r by omega]
  exact lex_fuel (by simp; omega) (by simp; omega)
theorem lx_blanks {m : Bool} {r : List Nat} : ∀ {n p : Nat}, lx m p (List.replicate n 32 ++ r) = lx m (p + n) r
  | 0, p => rfl
  | n + 1, p => by
    rw [List.replicate_succ, List.cons_append, lx_blank, lx_blanks, show p + 1 + n = p + (n + 1) by omega]
theorem lx_tok {m : Bool} {kd : Kd} {s t r : List Nat} {v : IV} {p : Nat} (k : Tok m kd s v t) (f : Flw kd t r) : lx m p (t ++ r) = lC [.tup [.str s, v, .int (p : Nat)]] (lx m (p + t.length) r) := by
  have b0 : blk (t ++ r) = 0 := by
    unfold blk
    rw [spn_pos, hd_app k.ne]
    exact hd_sub k.st (by decide)
  have ov : over (t ++ r) = false := by
    cases ht : t with
    | nil => exact absurd ht k.ne
    | cons c q =>
      have := k.st
      rw [ht] at this
      have : decide (c ∈ [32, 59]) = false := this
      simp at this
      simp [over, this]
  unfold lx
  rw [b0, List.drop_zero, Nat.add_zero, lex, ov, k.rd r f]
  simp only [Bool.false_eq_true, if_false]
  rw [List.drop_left, lex_fuel (f := (t ++ r).length) (g := r.length + 1) (by have := List.length_pos_iff.mpr k.ne; simp; omega) (by simp; omega)]
  cases lex m (r.length + 1) (p + t.length + blk r) (r.drop (blk r)) <;> rfl
theorem lx_end {m : Bool} {p : Nat} {r : List Nat} (h : over (r.drop (blk r)) = true) : lx m p r = .ok [] := by
  unfold lx
  rw [lex, if_pos h]
/-- so far W is read as D; last: what ended it -/
def Fl (last : Option (Kd × List Nat)) (r : List Nat) : Prop := match last with
  | none => True
  | some (kd, t) => Flw kd t r
def Rd (m : Bool) (W : List Nat) (D : List IV) (last : Option (Kd × List Nat)) : Prop := ∀ r, Fl last r → lx m 0 (W ++ r) = lC D (lx m W.length r)
theorem Rd.start {m : Bool} : Rd m [] [] none := fun r _ => by rw [List.nil_append, lC_nil]; rfl
theorem flw_blank {kd : Kd} {t r : List Nat} (h : kd = .sgn → t ∈ SIGNS) : Flw kd t (32 :: r) := by
  cases kd with
  | word => exact fin_iff.mpr ⟨hd_no (by decide), fun z => by simp at z⟩
  | quo => trivial
  | sgn =>
    refine .inr ?_
    have z : (SIGNS.all fun t => decide (¬ (t ++ [32] ∈ DBL))) = true := by decide
    rw [List.all_eq_true] at z
    exact of_decide_eq_true (z t (h rfl))
/-- what ended it is a sign, or not -/
def LastOk (last : Option (Kd × List Nat)) : Prop := ∀ kd t, last = some (kd, t) → kd = .sgn → t ∈ SIGNS
theorem Rd.blanks {m : Bool} {W : List Nat} {D : List IV} {last : Option (Kd × List Nat)} (h : Rd m W D last) (hl : LastOk last) {n : Nat} (hn : 0 < n) : Rd m (W ++ List.replicate n 32) D none := fun r _ => by
  obtain ⟨n, rfl⟩ : ∃ j, n = j + 1 := ⟨n - 1, by omega⟩
  rw [List.append_assoc, h]
  · rw [lx_blanks, List.length_append, List.length_replicate]
  · cases last with
    | none => trivial
    | some kt => exact flw_blank fun e => hl kt.1 kt.2 rfl e
theorem Rd.tok {m : Bool} {W s t : List Nat} {D : List IV} {last : Option (Kd × List Nat)} {kd : Kd} {v : IV} (h : Rd m W D last) (k : Tok m kd s v t) (a : ∀ r, Fl last (t ++ r)) : Rd m (W ++ t) (D ++ [.tup [.str s, v, .int (W.length : Nat)]]) (some (kd, t)) := fun r f => by
  rw [List.append_assoc, h _ (a r), lx_tok k f, lC_lC, List.length_append]
theorem Rd.done {m : Bool} {W c : List Nat} {D : List IV} {last : Option (Kd × List Nat)} (h : Rd m W D last) (f : Fl last c) (e : over (c.drop (blk c)) = true) : toks m (W ++ c) = .ok D := by
  rw [toks_lx, h c f, lx_end e]
  simp [lC]
theorem lastOk_tok {m : Bool} {kd : Kd} {s t : List Nat} {v : IV} (k : Tok m kd s v t) : LastOk (some (kd, t)) := fun kd' t' e hk => by
  cases e
  subst hk
  cases k.cl with
  | sgn h => exact h
theorem lastOk_none : LastOk none := fun _ _ e => nomatch e
end Scn


/-! Scn, part 5: numbers and characters, written. -/
namespace Scn
open PySem PySem.Spec PyProof.Rows L2 Mx
theorem numB_fold {b : Nat} : ∀ (l : List Nat) (a : Nat), l.foldl (fun a c => a * b + (digV c).getD 0) a = a * b ^ l.length + numB b l
  | [], a => by simp [numB]
  | c :: l, a => by
    unfold numB
    rw [List.foldl_cons, List.foldl_cons, numB_fold l, numB_fold l, List.length_cons, Nat.pow_succ, Nat.zero_mul, Nat.zero_add, Nat.add_mul, Nat.mul_assoc, Nat.mul_comm b, Nat.add_assoc]
theorem numB_cons {b c : Nat} {l : List Nat} : numB b (c :: l) = (digV c).getD 0 * b ^ l.length + numB b l := by
  show (c :: l).foldl _ 0 = _
  rw [List.foldl_cons, numB_fold, Nat.zero_mul, Nat.zero_add]
theorem numB_zeros {b : Nat} {l : List Nat} : ∀ n : Nat, numB b (List.replicate n 48 ++ l) = numB b l
  | 0 => rfl
  | n + 1 => by
    rw [List.replicate_succ, List.cons_append, numB_cons, numB_zeros n]
    simp [digV]
/-- the small digits -/
def DG : List Nat := [48, 49, 50, 51, 52, 53, 54, 55, 56, 57, 97, 98, 99, 100, 101, 102]
theorem dg_ok {b i : Nat} (hb : b = 10 ∨ b = 16 ∨ b = 2) (hi : i < b) : ∃ c, DG[i]? = some c ∧ c ∈ digsOf b ∧ digV c = some i ∧ c ∈ DG := by
  have z : ∀ b ∈ [10, 16, 2], ∀ i < b, ∃ c ∈ DG, DG[i]? = some c ∧ c ∈ digsOf b ∧ digV c = some i := by decide
  obtain ⟨c, h1, h2, h3, h4⟩ := z b (by simpa using hb) i hi
  exact ⟨c, h2, h3, h4, h1⟩
def upC (c : Nat) : Nat := if 97 ≤ c ∧ c ≤ 122 then c - 32 else c
theorem upper_list : ∀ {l : List Nat}, (∀ c ∈ l, c < 128) → Txt.upper (sOf l) = sOf (l.map upC)
  | [], _ => by
    have : (sOf [] : Str) = ⟨#[]⟩ := rfl
    rw [List.map_nil]
    decide +kernel
  | c :: l, h => by
    have e : ∀ (d : Nat) (r : List Nat), sOf (d :: r) = (⟨#[d]⟩ : Str) ++ sOf r := fun d r => by
      show (⟨(d :: r).toArray⟩ : Str) = ⟨#[d] ++ r.toArray⟩
      simp
    rw [e, PySem.W.KOpn.upper_app, PySem.W.KOpn.upper_one (h c List.mem_cons_self), upper_list fun d hd => h d (List.mem_cons_of_mem _ hd), List.map_cons, e]
    rfl
theorem up_dg : ∀ c ∈ DG, upC c ∈ HX ∧ digV (upC c) = digV c := by decide
theorem numB_up {l : List Nat} (h : ∀ c ∈ l, c ∈ DG) : numB 16 (l.map upC) = numB 16 l := by
  induction l with
  | nil => rfl
  | cons c l ih =>
    rw [List.map_cons, numB_cons, numB_cons, (up_dg c (h c List.mem_cons_self)).2, ih fun d hd => h d (List.mem_cons_of_mem _ hd), List.length_map]
/-! characters -/
theorem esc_of {c : Nat} (h : c = 34 ∨ c = 39 ∨ c = 92) : c ∈ ESC ∧ unesc c = c := by
  rcases h with rfl | rfl | rfl <;> decide
theorem shw_unit {mark c : Nat} (hm : mark = 39 ∨ mark = 34) : UnitOk mark c (shw mark c) := by
  unfold shw UnitOk
  by_cases h1 : c = 10
  · rw [if_pos h1]
    exact .inr ⟨110, by decide, rfl, by rw [h1]; rfl⟩
  · rw [if_neg h1]
    by_cases h2 : c = mark ∨ c = 92
    · rw [if_pos h2]
      obtain ⟨a, b⟩ := esc_of (c := c) (by omega)
      exact .inr ⟨c, a, rfl, b.symm⟩
    · rw [if_neg h2]
      exact .inl ⟨rfl, fun z => h2 (.inl z), fun z => h2 (.inr z)⟩
theorem shw_ok {mark c : Nat} (hc : c ∈ KC) (hm : mark = 39 ∨ mark = 34) : lineOk (shw mark c) = true := by
  have z : ∀ mark ∈ [39, 34], ∀ c ∈ KC, lineOk (shw mark c) = true := by decide +kernel
  exact z mark (by simpa using hm) c hc
/-- a number by its decimal digits -/
theorem numOk_dec {v : Nat} (h : v ≤ 18446744073709551616) : NumOk v (strI' ((v : Nat) : Int)) ∧ (strI' ((v : Nat) : Int)).length ≤ 20 := by
  have l := dec_len (n := v) (by omega)
  exact ⟨⟨10, [], strI' ((v : Nat) : Int), rfl, dec_ne v, by omega, fun c hc => dec_mem hc, (dec_val v).symm, h, .inl ⟨rfl, rfl⟩⟩, l⟩
theorem digs_lt {b : Nat} (hb : b = 10 ∨ b = 16 ∨ b = 2) : ∀ c ∈ digsOf b, (digV c).getD 0 < b := by
  rcases hb with rfl | rfl | rfl <;> decide
theorem numB_lt {b : Nat} (hb : b = 10 ∨ b = 16 ∨ b = 2) : ∀ {l : List Nat}, (∀ c ∈ l, c ∈ digsOf b) → numB b l < b ^ l.length
  | [], _ => by simp [numB]
  | c :: l, h => by
    have h1 := digs_lt hb c (h c List.mem_cons_self)
    have h2 := numB_lt hb (l := l) fun d hd => h d (List.mem_cons_of_mem _ hd)
    rw [numB_cons, List.length_cons, Nat.pow_succ, Nat.mul_comm (b ^ l.length)]
    have h3 : (digV c).getD 0 * b ^ l.length + b ^ l.length ≤ b * b ^ l.length := by
      rw [← Nat.succ_mul]
      exact Nat.mul_le_mul_right _ h1
    omega
/-- decimal digits are not many more -/
theorem dec_short {b v : Nat} {ds : List Nat} (hb : b = 10 ∨ b = 16 ∨ b = 2) (h : ∀ c ∈ ds, c ∈ digsOf b) (hv : v = numB b ds) (hl : b = 16 → ds.length ≤ 17) (h0 : ds ≠ []) : (strI' ((v : Nat) : Int)).length ≤ ds.length + (if b = 16 then 4 else 0) := by
  have lt := numB_lt hb h
  rw [← hv] at lt
  have pos := List.length_pos_iff.mpr h0
  rw [dec_num, List.length_map]
  rcases hb with rfl | rfl | rfl
  · exact toDigits_len_pow (by decide) (by rw [if_neg (by decide)]; omega) (by rw [if_neg (by decide)]; exact lt)
  · rw [if_pos rfl]
    have z : ∀ h ≤ 17, 16 ^ h ≤ 10 ^ (h + 4) := by decide
    exact toDigits_len_pow (by decide) (by omega) (Nat.lt_of_lt_of_le lt (z _ (hl rfl)))
  · rw [if_neg (by decide), Nat.add_zero]
    exact toDigits_len_pow (by decide) pos (Nat.lt_of_lt_of_le lt (Nat.pow_le_pow_left (by decide) _))
end Scn


/-! K03: what the scanner's methods do (printed from a template). -/
namespace K03
open PySem PySem.Spec PyProof.Rows L2 Mx Scn
@[simp] theorem wLE : w_LETTERS = LET := rfl
@[simp] theorem wSG : w_NAME_SIGNS = SG := rfl
@[simp] theorem wDI : w_DIGITS = DI := rfl
@[simp] theorem wSGL : w_SINGLE = SGL := rfl
/-- a scanner: its line, whether it takes made names, where it stands -/
abbrev SC (L : List Nat) (m : Bool) (p : Int) : IV := .ins c_Scanner [("own_line", .str L), ("takes_made", .bl m), ("where_now", .int p)]
abbrev BL (p : Int) : Xn := ⟨c_BadLine, [("column", .int p)]⟩
abbrev TL (p : Int) : Xn := ⟨c_TooLarge, [("limit", .int p)]⟩
def xn (p : Int) : Er → Xn
  | .bad o _ => BL (p + (o : Nat))
  | .large _ => TL 18446744073709551616
def tq (p : Int) : Er → Int
  | .bad _ q => p + (q : Nat)
  | .large q => p + (q : Nat)
theorem xn_up {p : Int} {n : Nat} {e : Er} : xn p (e.up n) = xn (p + (n : Nat)) e := by
  cases e <;> simp [xn, Er.up, Int.add_assoc]
theorem tq_up {p : Int} {n : Nat} {e : Er} : tq p (e.up n) = tq (p + (n : Nat)) e := by
  cases e <;> simp [tq, Er.up, Int.add_assoc]
section
variable {L : List Nat} {m : Bool} {p q : Int} {j : Nat}
@[simp] theorem fl_line : fldD "own_line" [] [c_Scanner] (SC L m p) = some (.str L) := by kernel_rfl
@[simp] theorem fl_made : fldD "takes_made" [] [c_Scanner] (SC L m p) = some (.bl m) := by kernel_rfl
@[simp] theorem fl_where : fldD "where_now" [] [c_Scanner] (SC L m p) = some (.int p) := by kernel_rfl
@[simp] theorem sf_where : setFD "where_now" [c_Scanner] (.int q) (SC L m p) = some (SC L m q) := by kernel_rfl
@[simp] theorem md_seen : methD "seen" [(c_Scanner, j)] (SC L m p) = some j := by kernel_rfl
@[simp] theorem md_is_here : methD "is_here" [(c_Scanner, j)] (SC L m p) = some j := by kernel_rfl
@[simp] theorem md_is_over : methD "is_over" [(c_Scanner, j)] (SC L m p) = some j := by kernel_rfl
@[simp] theorem md_need : methD "need" [(c_Scanner, j)] (SC L m p) = some j := by kernel_rfl
@[simp] theorem md_need_end : methD "need_end" [(c_Scanner, j)] (SC L m p) = some j := by kernel_rfl
@[simp] theorem md_pass_blanks : methD "pass_blanks" [(c_Scanner, j)] (SC L m p) = some j := by kernel_rfl
@[simp] theorem md_pass_one : methD "pass_one" [(c_Scanner, j)] (SC L m p) = some j := by kernel_rfl
@[simp] theorem md_pass_name : methD "pass_name" [(c_Scanner, j)] (SC L m p) = some j := by kernel_rfl
@[simp] theorem md_pass_part : methD "pass_part" [(c_Scanner, j)] (SC L m p) = some j := by kernel_rfl
@[simp] theorem md_take_some : methD "take_some" [(c_Scanner, j)] (SC L m p) = some j := by kernel_rfl
@[simp] theorem md_take_path : methD "take_path" [(c_Scanner, j)] (SC L m p) = some j := by kernel_rfl
@[simp] theorem md_take_marked : methD "take_marked" [(c_Scanner, j)] (SC L m p) = some j := by kernel_rfl
@[simp] theorem md_take_number : methD "take_number" [(c_Scanner, j)] (SC L m p) = some j := by kernel_rfl
@[simp] theorem md_take_unit : methD "take_unit" [(c_Scanner, j)] (SC L m p) = some j := by kernel_rfl
@[simp] theorem md_take_quoted : methD "take_quoted" [(c_Scanner, j)] (SC L m p) = some j := by kernel_rfl
@[simp] theorem md_take_string : methD "take_string" [(c_Scanner, j)] (SC L m p) = some j := by kernel_rfl
@[simp] theorem md_take_sign : methD "take_sign" [(c_Scanner, j)] (SC L m p) = some j := by kernel_rfl
@[simp] theorem md_take_token : methD "take_token" [(c_Scanner, j)] (SC L m p) = some j := by kernel_rfl
@[simp] theorem md_take_pieces : methD "take_pieces" [(c_Scanner, j)] (SC L m p) = some j := by kernel_rfl
end
/-- the rest of the line -/
def rest (L : List Nat) (p : Int) : List Nat := L.drop p.toNat
section
variable {N k : Nat} {L s : List Nat} {m : Bool} {p far : Int}
theorem rest_add {n : Nat} (h : 0 ≤ p) : rest L (p + (n : Nat)) = (rest L p).drop n := by
  unfold rest
  rw [List.drop_drop]
  congr 1
  omega
theorem rest_one (h : 0 ≤ p) : rest L (p + 1) = (rest L p).drop 1 := rest_add (n := 1) h
theorem rest_two (h : 0 ≤ p) : rest L (p + 2) = (rest L p).drop 2 := rest_add (n := 2) h
theorem rest_len : (rest L p).length ≤ L.length := by unfold rest; simp
theorem sl_rest {q : Int} (hz : L.length ≤ SZ) (h : 0 ≤ p) (h2 : p ≤ q) : slD (.str L) (some p) (some q) = some (.str ((rest L p).take (q - p).toNat)) := by
  have z := sl_str (a := p.toNat) (b := q.toNat) hz
  rw [Int.toNat_of_nonneg h, Int.toNat_of_nonneg (by omega)] at z
  rw [z]
  unfold rest
  rw [show q.toNat - p.toNat = (q - p).toNat by omega]
theorem e_seen (hz : L.length ≤ SZ) (h : 0 ≤ p) (hf : 0 ≤ far) : runF T.fns N (k + 1) i_Scanner_seen [SC L m p, .int far] = some (.ok (.str ((rest L (p + far)).take 1)), [SC L m p, .non]) := by
  refine res_of (okF_run (fn := f_Scanner_seen) rfl rfl ?_)
  have e := sl_rest (p := p + far) (q := p + far + 1) hz (by omega) (by omega)
  rw [show p + far + 1 - (p + far) = 1 by omega] at e
  simp [f_Scanner_seen, b_Scanner_seen, Fn.start, startA, e, mutsOf]
theorem e_seen0 (hz : L.length ≤ SZ) (h : 0 ≤ p) : runF T.fns N (k + 1) i_Scanner_seen [SC L m p, .int 0] = some (.ok (.str ((rest L p).take 1)), [SC L m p, .non]) := by
  have e := e_seen (N := N) (k := k) (m := m) (far := 0) hz h (by omega)
  rwa [Int.add_zero] at e
theorem e_seen1 (hz : L.length ≤ SZ) (h : 0 ≤ p) : runF T.fns N (k + 1) i_Scanner_seen [SC L m p, .int 1] = some (.ok (.str ((rest L p).tail.take 1)), [SC L m p, .non]) := by
  have e := e_seen (N := N) (k := k) (m := m) (far := 1) hz h (by omega)
  rwa [rest_one h, List.drop_one] at e
theorem e_is_here (hz : L.length ≤ SZ) (h : 0 ≤ p) : runF T.fns N (k + 2) i_Scanner_is_here [SC L m p, .str s] = some (.ok (.bl (hd s (rest L p))), [SC L m p, .non]) := by
  refine res_of (okF_run (fn := f_Scanner_is_here) rfl rfl ?_)
  cases e : rest L p with
  | nil => simp [f_Scanner_is_here, b_Scanner_is_here, Fn.start, startA, e_seen0 hz h, mutsOf, e, hd]
  | cons c r => simp [f_Scanner_is_here, b_Scanner_is_here, Fn.start, startA, e_seen0 hz h, mutsOf, e, hd]
theorem e_is_over (hz : L.length ≤ SZ) (h : 0 ≤ p) : runF T.fns N (k + 2) i_Scanner_is_over [SC L m p] = some (.ok (.bl (over (rest L p))), [SC L m p]) := by
  refine res_of (okF_run (fn := f_Scanner_is_over) rfl rfl ?_)
  cases e : rest L p <;> simp [f_Scanner_is_over, b_Scanner_is_over, Fn.start, startA, e_seen0 hz h, mutsOf, over, eqF, flatD, e, SZ, eq_comm]
theorem e_need {b : Bool} : runF T.fns N (k + 1) i_Scanner_need [SC L m p, .bl b] = some (if b = true then .ok .non else .error (BL p), [SC L m p, .non]) := by
  refine res_of (okF_run (fn := f_Scanner_need) rfl rfl ?_)
  cases b <;> simp [f_Scanner_need, b_Scanner_need, Fn.start, startA, mutsOf]
end
end K03


/-! K03: what the scanner's methods do, part 2 (printed from a template). -/
namespace K03
open PySem PySem.Spec PyProof.Rows L2 Mx Scn
def resN (L : List Nat) (m : Bool) (p : Int) : Em Nat → Option (Except Xn IV × List IV)
  | .ok n => some (.ok .non, [SC L m (p + (n : Nat))])
  | .error e => some (.error (xn p e), [SC L m (tq p e)])
def resT (L : List Nat) (m : Bool) (p : Int) (tl : List IV) : Em Nat → Option (Except Xn IV × List IV)
  | .ok n => some (.ok (.str ((rest L p).take n)), SC L m (p + (n : Nat)) :: tl)
  | .error e => some (.error (xn p e), SC L m (tq p e) :: tl)
section
variable {N k : Nat} {L s : List Nat} {m : Bool} {p far : Int}
theorem take1_hd {c : Nat} {r : List Nat} : (r.take 1 = [c]) = (hd [c] r = true) := by
  cases r <;> simp [hd]
theorem e_need_end (hz : L.length ≤ SZ) (h : 0 ≤ p) : runF T.fns N (k + 3) i_Scanner_need_end [SC L m p] = resN L m p (mEnd (rest L p)) := by
  have a1 : binD .add (.str SG) (.str [64]) = some (.str (SG ++ [64])) := b_addS (by decide)
  have e1 := e_is_here (N := N) (k := k) (m := m) (s := SG ++ [64]) hz h
  unfold mEnd
  by_cases hc : hd (SG ++ [64]) (rest L p) = true
  · rw [if_pos hc]
    refine res_of (okF_run (fn := f_Scanner_need_end) rfl rfl ?_)
    rw [hc] at e1
    simp [f_Scanner_need_end, b_Scanner_need_end, Fn.start, startA, a1, e1, e_need, mutsOf, xn, tq]
  · rw [if_neg hc]
    rw [Bool.not_eq_true] at hc
    rw [hc] at e1
    by_cases h1 : (rest L p).take 1 = [46]
    · by_cases h2 : (rest L p).tail.take 1 = [46]
      · rw [if_neg (fun z => z.2 h2)]
        refine res_of (okF_run (fn := f_Scanner_need_end) rfl rfl ?_)
        simp [f_Scanner_need_end, b_Scanner_need_end, Fn.start, startA, a1, e1, e_need, e_seen0 hz h, e_seen1 hz h, h1, h2, mutsOf]
      · rw [if_pos ⟨h1, h2⟩]
        refine res_of (okF_run (fn := f_Scanner_need_end) rfl rfl ?_)
        simp [f_Scanner_need_end, b_Scanner_need_end, Fn.start, startA, a1, e1, e_need, e_seen0 hz h, e_seen1 hz h, h1, h2, mutsOf, xn, tq]
    · rw [if_neg (fun z => h1 z.1)]
      refine res_of (okF_run (fn := f_Scanner_need_end) rfl rfl ?_)
      simp [f_Scanner_need_end, b_Scanner_need_end, Fn.start, startA, a1, e1, e_need, e_seen0 hz h, e_seen1 hz h, h1, mutsOf]
theorem e_blanks (hN : L.length < N) (hz : L.length ≤ SZ) (h : 0 ≤ p) : runF T.fns N (k + 2) i_Scanner_pass_blanks [SC L m p] = some (.ok .non, [SC L m (p + (blk (rest L p) : Nat))]) := by
  refine res_of (okF_run (fn := f_Scanner_pass_blanks) rfl rfl ?_)
  simp only [f_Scanner_pass_blanks, b_Scanner_pass_blanks, Fn.start, startA, okSs_cons, okSs_nil, okS_whl]
  have hl : blk (rest L p) ≤ L.length := Nat.le_trans (spn_le _ _) rest_len
  refine ok_while (fun j ρ => ∃ n : Nat, n + j = blk (rest L p) ∧ ρ = [.b (SC L m (p + (n : Nat)))]) ?_ N (blk (rest L p)) (by omega) ⟨0, by omega, by simp⟩
  rintro j ρ ⟨n, hn, rfl⟩
  have e := e_seen0 (N := N) (k := k) (m := m) (p := p + (n : Nat)) hz (by omega)
  rw [rest_add h] at e
  cases j with
  | zero =>
    have ne : ¬ ((rest L p).drop n).take 1 = [32] := by
      rw [take1_hd, show n = blk (rest L p) by omega, blk, spn_end]
      simp
    rw [show blk (rest L p) = n by omega]
    simp [e, ne, mutsOf]
  | succ j =>
    have eq : ((rest L p).drop n).take 1 = [32] := by
      rw [take1_hd]
      exact spn_at (by unfold blk at hn; omega)
    simp [e, eq]
    exact ⟨j, Nat.lt_succ_self _, n + 1, by omega, by simp [Int.add_assoc]⟩
theorem e_some {most : Nat} (hN : L.length < N) (hz : L.length ≤ SZ) (h : 0 ≤ p) : runF T.fns N (k + 3) i_Scanner_take_some [SC L m p, .str s, .int (most : Nat)] = resT L m p [.non, .non] (mSome s most (rest L p)) := by
  have e1 := e_is_here (N := N) (k := k) (m := m) (s := s) hz h
  unfold mSome
  by_cases h0 : spn s (rest L p) = 0
  · rw [if_pos h0]
    rw [spn_pos] at h0
    rw [h0] at e1
    refine res_of (okF_run (fn := f_Scanner_take_some) rfl rfl ?_)
    simp [f_Scanner_take_some, b_Scanner_take_some, Fn.start, startA, e1, e_need, mutsOf, xn, tq]
  · rw [if_neg h0]
    have h0' : hd s (rest L p) = true := by
      cases hh : hd s (rest L p) with
      | true => rfl
      | false => exact absurd (spn_pos.mpr hh) h0
    rw [h0'] at e1
    have hl : spn s (rest L p) ≤ L.length := Nat.le_trans (spn_le _ _) rest_len
    refine res_eq (okF_run (fn := f_Scanner_take_some) rfl rfl ?_)
    simp [f_Scanner_take_some, b_Scanner_take_some, Fn.start, startA, e1, e_need]
    refine ok_while (fun j ρ => ∃ n : Nat, n + j = spn s (rest L p) ∧ n ≤ most ∧ ρ = [.b (SC L m (p + (n : Nat))), .i (.str s), .i (.int (most : Nat)), .i (.int p)]) ?_ N (spn s (rest L p)) (by omega) ⟨0, by omega, by omega, by simp⟩
    rintro j ρ ⟨n, hn, hm, rfl⟩
    have e2 := e_is_here (N := N) (k := k) (m := m) (s := s) (p := p + (n : Nat)) hz (by omega)
    rw [rest_add h] at e2
    cases j with
    | zero =>
      have hn' : n = spn s (rest L p) := by omega
      rw [hn', spn_end] at e2
      have e3 := sl_rest (L := L) (p := p) (q := p + (n : Nat)) hz h (by omega)
      rw [show (p + (n : Nat) - p).toNat = n by omega] at e3
      rw [if_neg (by omega), ← hn']
      rw [← hn'] at e2
      simp [e2, e3, mutsOf, resT]
    | succ j =>
      rw [spn_at (by omega)] at e2
      by_cases hlt : n < most
      · have lt : p + (n : Int) - p < (most : Int) := by omega
        simp [e2, e_need, lt]
        exact ⟨j, Nat.lt_succ_self _, n + 1, by omega, by omega, by simp [Int.add_assoc]⟩
      · have lt : ¬ p + (n : Int) - p < (most : Int) := by omega
        rw [if_pos (by omega)]
        have hn' : n = most := by omega
        subst hn'
        simp [e2, e_need, lt, mutsOf, xn, tq, resT]
theorem e_name (hN : L.length < N) (hz : L.length ≤ SZ) (h : 0 ≤ p) : runF T.fns N (k + 4) i_Scanner_pass_name [SC L m p] = resN L m p (mName (rest L p)) := by
  have e1 := e_is_here (N := N) (k := k + 1) (m := m) (s := LET) hz h
  have e3 := e_some (k := k) (m := m) (s := SG) (most := 40) hN hz h
  unfold mName
  cases hc : hd LET (rest L p) with
  | false =>
    rw [hc] at e1
    refine res_of (okF_run (fn := f_Scanner_pass_name) rfl rfl ?_)
    simp [f_Scanner_pass_name, b_Scanner_pass_name, Fn.start, startA, e1, e_need, mutsOf, xn, tq]
  | true =>
    rw [hc] at e1
    rw [if_pos rfl]
    cases hs : mSome SG 40 (rest L p) with
    | ok n =>
      rw [hs] at e3
      refine res_of (okF_run (fn := f_Scanner_pass_name) rfl rfl ?_)
      simp [f_Scanner_pass_name, b_Scanner_pass_name, Fn.start, startA, e1, e_need]
      rw [show (40 : Int) = ((40 : Nat) : Int) from rfl, e3]
      simp [mutsOf, resT]
    | error e =>
      rw [hs] at e3
      refine res_of (okF_run (fn := f_Scanner_pass_name) rfl rfl ?_)
      simp [f_Scanner_pass_name, b_Scanner_pass_name, Fn.start, startA, e1, e_need]
      rw [show (40 : Int) = ((40 : Nat) : Int) from rfl, e3]
      simp [mutsOf, resT]
theorem e_part (hN : L.length < N) (hz : L.length ≤ SZ) (h : 0 ≤ p) : runF T.fns N (k + 5) i_Scanner_pass_part [SC L m p] = resN L m p (mPart m (rest L p)) := by
  have e1 := e_name (k := k) (m := m) hN hz h
  unfold mPart
  cases hn : mName (rest L p) with
  | error e =>
    rw [hn] at e1
    refine res_of (okF_run (fn := f_Scanner_pass_part) rfl rfl ?_)
    simp [f_Scanner_pass_part, b_Scanner_pass_part, Fn.start, startA, e1, mutsOf, resN]
  | ok n =>
    rw [hn] at e1
    have e2 := e_seen0 (N := N) (k := k + 3) (m := m) (p := p + (n : Nat)) hz (by omega)
    have e3 := e_seen0 (N := N) (k := k + 3) (m := m) (p := p + (n : Nat) + 1) hz (by omega)
    have e4 := e_some (k := k + 1) (m := m) (s := DI) (most := 9) (p := p + (n : Nat) + 1) hN hz (by omega)
    rw [rest_add h] at e2
    rw [rest_one (by omega), rest_add h, List.drop_drop] at e3 e4
    show _ = resN L m p (if m = true ∧ ((rest L p).drop n).take 1 = [64] then _ else _)
    cases m with
    | false =>
      refine res_of (okF_run (fn := f_Scanner_pass_part) rfl rfl ?_)
      simp [f_Scanner_pass_part, b_Scanner_pass_part, Fn.start, startA, e1, mutsOf, resN]
    | true =>
      by_cases h1 : ((rest L p).drop n).take 1 = [64]
      · rw [if_pos ⟨rfl, h1⟩]
        by_cases h2 : ((rest L p).drop (n + 1)).take 1 = [48]
        · rw [if_pos h2]
          refine res_of (okF_run (fn := f_Scanner_pass_part) rfl rfl ?_)
          simp [f_Scanner_pass_part, b_Scanner_pass_part, Fn.start, startA, e1, e2, e3, e_need, h1, h2, mutsOf, resN, xn, tq]
          simp [Int.add_assoc]
        · rw [if_neg h2]
          cases hs : mSome DI 9 ((rest L p).drop (n + 1)) with
          | ok j =>
            rw [hs] at e4
            refine res_of (okF_run (fn := f_Scanner_pass_part) rfl rfl ?_)
            simp [f_Scanner_pass_part, b_Scanner_pass_part, Fn.start, startA, e1, e2, e3, e_need, h1, h2, resN]
            rw [show (9 : Int) = ((9 : Nat) : Int) from rfl, e4]
            simp [mutsOf, resT, up]
            simp [Int.add_assoc]
          | error e =>
            rw [hs] at e4
            refine res_of (okF_run (fn := f_Scanner_pass_part) rfl rfl ?_)
            simp [f_Scanner_pass_part, b_Scanner_pass_part, Fn.start, startA, e1, e2, e3, e_need, h1, h2, resN]
            rw [show (9 : Int) = ((9 : Nat) : Int) from rfl, e4]
            simp [mutsOf, resT, up, xn_up, tq_up]
            simp [Int.add_assoc]
      · rw [if_neg (fun z => h1 z.2)]
        refine res_of (okF_run (fn := f_Scanner_pass_part) rfl rfl ?_)
        simp [f_Scanner_pass_part, b_Scanner_pass_part, Fn.start, startA, e1, e2, h1, mutsOf, resN]
end
end K03


/-! K03: what the scanner's methods do, part 3 (printed from a template). -/
namespace K03
open PySem PySem.Spec PyProof.Rows L2 Mx Scn
section
variable {N k : Nat} {L s : List Nat} {m : Bool} {p far : Int}
theorem sl_take {n : Nat} (hz : L.length ≤ SZ) (h : 0 ≤ p) : slD (.str L) (some p) (some (p + (n : Nat))) = some (.str ((rest L p).take n)) := by
  rw [sl_rest hz h (by omega), show (p + (n : Nat) - p).toNat = n by omega]
theorem take2 {r : List Nat} : r.take 1 ++ r.tail.take 1 = r.take 2 := by
  match r with
  | [] => rfl
  | [a] => rfl
  | a :: b :: r => rfl
theorem rest_at {n : Nat} (h : 0 ≤ p) : rest L (p + (n : Int)) = (rest L p).drop n := rest_add h
theorem e_marked (hN : L.length < N) (hz : L.length ≤ SZ) (h : 0 ≤ p) : runF T.fns N (k + 5) i_Scanner_take_marked [SC L m p] = resT L m p [] (mMarked (rest L p)) := by
  have e1 := e_name (k := k) (m := m) (p := p + 1) hN hz (by omega)
  rw [rest_one h, List.drop_one] at e1
  unfold mMarked
  cases hn : mName (rest L p).tail with
  | error e =>
    rw [hn] at e1
    refine res_of (okF_run (fn := f_Scanner_take_marked) rfl rfl ?_)
    simp [f_Scanner_take_marked, b_Scanner_take_marked, Fn.start, startA, e1, mutsOf, resN, xn_up, tq_up]
  | ok n =>
    rw [hn] at e1
    have e2 := e_need_end (N := N) (k := k + 1) (m := m) (p := p + 1 + (n : Nat)) hz (by omega)
    rw [show p + 1 + (n : Int) = p + ((1 + n : Nat) : Int) by omega, rest_at h] at e2
    simp only [resN] at e1
    rw [show p + 1 + (n : Int) = p + ((1 + n : Nat) : Int) by omega] at e1
    show _ = resT L m p [] (up (1 + n) (mEnd ((rest L p).drop (1 + n))))
    obtain ⟨j, hj⟩ : ∃ j, j = 1 + n := ⟨_, rfl⟩
    rw [← hj] at e1 e2 ⊢
    cases he : mEnd ((rest L p).drop j) with
    | error e =>
      rw [he] at e2
      refine res_of (okF_run (fn := f_Scanner_take_marked) rfl rfl ?_)
      simp [f_Scanner_take_marked, b_Scanner_take_marked, Fn.start, startA, e1, e2, mutsOf, resN, xn_up, tq_up]
    | ok z =>
      have hz0 : z = 0 := by
        unfold mEnd at he
        split at he
        · cases he
        · split at he <;> cases he
          rfl
      subst hz0
      rw [he] at e2
      refine res_of (okF_run (fn := f_Scanner_take_marked) rfl rfl ?_)
      simp [f_Scanner_take_marked, b_Scanner_take_marked, Fn.start, startA, e1, e2, mutsOf, resN, sl_take hz h]
theorem mEnd_ok {r : List Nat} {z : Nat} (he : mEnd r = .ok z) : z = 0 := by
  unfold mEnd at he
  split at he
  · cases he
  · split at he <;> cases he
    rfl
def pCont (m : Bool) (r : List Nat) (n left : Nat) : Em Nat := match mParts m left (r.drop n) with
  | .error e => .error (e.up n)
  | .ok k => up (n + k) (mEnd (r.drop (n + k)))
theorem pCont_end {r : List Nat} {n left : Nat} (h : ¬ ((r.drop n).take 1 = [46] ∧ (r.drop n).tail.take 1 ≠ [46])) : pCont m r n left = up n (mEnd (r.drop n)) := by
  unfold pCont
  cases left <;> (unfold mParts; rw [if_neg h]) <;> rfl
theorem pCont_full {r : List Nat} {n : Nat} (h : (r.drop n).take 1 = [46] ∧ (r.drop n).tail.take 1 ≠ [46]) : pCont m r n 0 = .error (.bad (n + 1) (n + 1)) := by
  unfold pCont
  unfold mParts
  rw [if_pos h]
  rfl
theorem pCont_err {r : List Nat} {n left : Nat} {e : Er} (h : (r.drop n).take 1 = [46] ∧ (r.drop n).tail.take 1 ≠ [46]) (hp : mPart m (r.drop (n + 1)) = .error e) : pCont m r n (left + 1) = .error (e.up (n + 1)) := by
  unfold pCont
  unfold mParts
  rw [if_pos h, List.tail_drop, hp]
  cases e <;> simp [Er.up, Nat.add_assoc]
theorem pCont_step {r : List Nat} {n left j : Nat} (h : (r.drop n).take 1 = [46] ∧ (r.drop n).tail.take 1 ≠ [46]) (hp : mPart m (r.drop (n + 1)) = .ok j) : pCont m r n (left + 1) = pCont m r (n + 1 + j) left := by
  unfold pCont
  rw [mParts, if_pos h, List.tail_drop, hp]
  simp only [List.drop_drop, Nat.add_assoc]
  cases mParts m left (r.drop (n + (1 + j))) with
  | error e => cases e <;> simp [up, Er.up, Nat.add_assoc]
  | ok k => simp [up, Nat.add_assoc]
theorem e_path (hN : L.length < N) (hN8 : 10 < N) (hz : L.length ≤ SZ) (h : 0 ≤ p) : runF T.fns N (k + 6) i_Scanner_take_path [SC L m p] = resT L m p [] (mPath m (rest L p)) := by
  have e1 := e_part (k := k) (m := m) hN hz h
  unfold mPath
  cases hn : mPart m (rest L p) with
  | error e =>
    rw [hn] at e1
    refine res_of (okF_run (fn := f_Scanner_take_path) rfl rfl ?_)
    simp [f_Scanner_take_path, b_Scanner_take_path, Fn.start, startA, e1, mutsOf, resN]
  | ok n =>
    rw [hn] at e1
    simp only [resN] at e1
    show _ = resT L m p [] (pCont m (rest L p) n 7)
    refine res_eq (okF_run (fn := f_Scanner_take_path) rfl rfl ?_)
    simp [f_Scanner_take_path, b_Scanner_take_path, Fn.start, startA, e1]
    refine ok_while (fun left ρ => ∃ j : Nat, left ≤ 7 ∧ ρ = [.b (SC L m (p + (j : Nat))), .i (.int p), .i (.int (8 - (left : Int)))] ∧ pCont m (rest L p) n 7 = pCont m (rest L p) j left) ?_ N 7 (by omega) ⟨n, by omega, rfl, rfl⟩
    rintro left ρ ⟨j, hl, rfl, hc⟩
    rw [hc]
    have s0 := e_seen0 (N := N) (k := k + 4) (m := m) (p := p + (j : Nat)) hz (by omega)
    have s1 := e_seen1 (N := N) (k := k + 4) (m := m) (p := p + (j : Nat)) hz (by omega)
    rw [rest_add h] at s0 s1
    by_cases h1 : ((rest L p).drop j).take 1 = [46]
    · by_cases h2 : ((rest L p).drop j).tail.take 1 = [46]
      · rw [pCont_end (fun z => z.2 h2)]
        have e2 := e_need_end (N := N) (k := k + 2) (m := m) (p := p + (j : Nat)) hz (by omega)
        rw [rest_add h] at e2
        cases he : mEnd ((rest L p).drop j) with
        | error e =>
          rw [he] at e2
          rw [h1] at s0; rw [h2] at s1
          simp [s0, s1, e2, resN, resT, up, mutsOf, xn_up, tq_up]
        | ok z =>
          have hz0 := mEnd_ok he
          subst hz0
          rw [he] at e2
          rw [h1] at s0; rw [h2] at s1
          simp [s0, s1, e2, resN, resT, up, mutsOf, sl_take hz h]
      · have s2 := h2
        rw [List.tail_drop] at s2
        rw [h1] at s0
        have e3 := e_part (N := N) (k := k) (m := m) (p := p + (j : Nat) + 1) hN hz (by omega)
        rw [show p + (j : Int) + 1 = p + ((j + 1 : Nat) : Int) by omega, rest_add h] at e3
        cases left with
        | zero =>
          rw [pCont_full ⟨h1, h2⟩]
          simp [s0, s1, s2, e_need, mutsOf, resT, xn, tq]
          simp [Int.add_assoc]
        | succ left =>
          have lt : (8 : Int) - ((left : Int) + 1) < 8 := by omega
          cases hp : mPart m ((rest L p).drop (j + 1)) with
          | error e =>
            rw [pCont_err ⟨h1, h2⟩ hp]
            rw [hp] at e3
            simp [s0, s1, s2, e_need, lt]
            rw [show p + (j : Int) + 1 = p + ((j + 1 : Nat) : Int) by omega, e3]
            simp [resN, resT, mutsOf, xn_up, tq_up]
          | ok i =>
            rw [pCont_step ⟨h1, h2⟩ hp]
            rw [hp] at e3
            simp [s0, s1, s2, e_need, lt]
            rw [show p + (j : Int) + 1 = p + ((j + 1 : Nat) : Int) by omega, e3]
            simp [resN]
            exact ⟨left, by omega, by omega, j + 1 + i, ⟨by omega, by omega⟩, rfl⟩
    · rw [pCont_end (fun z => h1 z.1)]
      have s2 : cmpD .eq (.str (((rest L p).drop j).take 1)) (.str [46]) = some false := by rw [c_eqS, decide_eq_false h1]
      have e2 := e_need_end (N := N) (k := k + 2) (m := m) (p := p + (j : Nat)) hz (by omega)
      rw [rest_add h] at e2
      cases he : mEnd ((rest L p).drop j) with
      | error e =>
        rw [he] at e2
        simp [s0, s2, e2, resN, resT, up, mutsOf, xn_up, tq_up]
      | ok z =>
        have hz0 := mEnd_ok he
        subst hz0
        rw [he] at e2
        simp [s0, s2, e2, resN, resT, up, mutsOf, sl_take hz h]
end
end K03


/-! K03: what the scanner's methods do, part 4 (printed from a template). -/
namespace K03
open PySem PySem.Spec PyProof.Rows L2 Mx Scn
def resV {α : Type} (f : α → IV) (L : List Nat) (m : Bool) (p : Int) (tl : List IV) : Em (α × Nat) → Option (Except Xn IV × List IV)
  | .ok (v, n) => some (.ok (f v), SC L m (p + (n : Nat)) :: tl)
  | .error e => some (.error (xn p e), SC L m (tq p e) :: tl)
section
variable {N k : Nat} {L s : List Nat} {m : Bool} {p far : Int}
theorem e_unit {mark : Nat} (hz : L.length ≤ SZ) (h : 0 ≤ p) : runF T.fns N (k + 3) i_Scanner_take_unit [SC L m p, .str [mark]] = resV (fun c => .str [c]) L m p [.non] (mUnit mark (rest L p)) := by
  have s0 := e_seen0 (N := N) (k := k + 1) (m := m) hz h
  have s1 := e_seen0 (N := N) (k := k + 1) (m := m) (p := p + 1) hz (by omega)
  have s2 := e_is_here (N := N) (k := k) (m := m) (p := p + 1) (s := ESC) hz (by omega)
  rw [rest_one h, List.drop_one] at s1 s2
  refine res_eq (okF_run (fn := f_Scanner_take_unit) rfl rfl ?_)
  cases hr : rest L p with
  | nil =>
    rw [hr] at s0
    simp [f_Scanner_take_unit, b_Scanner_take_unit, Fn.start, startA, s0, cmpD, ninD, inD, flatD, eqF, e_need, mutsOf, SZ, mUnit, resV, xn, tq]
  | cons c q =>
    rw [hr] at s0 s1 s2
    by_cases h1 : c = mark
    · simp [f_Scanner_take_unit, b_Scanner_take_unit, Fn.start, startA, s0, cmpD, ninD, inD, flatD, eqF, e_need, mutsOf, SZ, mUnit, resV, xn, tq, h1]
    · have h1' : ¬ mark = c := fun z => h1 z.symm
      by_cases h2 : c = 92
      · subst h2
        cases q with
        | nil =>
          simp [hd, ESC] at s2
          simp [f_Scanner_take_unit, b_Scanner_take_unit, Fn.start, startA, s0, s2, cmpD, ninD, inD, flatD, eqF, eqD, e_need, mutsOf, SZ, mUnit, resV, xn, tq, h1, h1']
        | cons d q =>
          by_cases h3 : d ∈ ESC
          · rw [show hd ESC (List.tail (92 :: d :: q)) = true from decide_eq_true h3] at s2
            simp only [ESC] at s2
            by_cases h4 : d = 110
            · subst h4
              simp at s1
              simp [f_Scanner_take_unit, b_Scanner_take_unit, Fn.start, startA, s0, s1, s2, cmpD, ninD, inD, flatD, eqF, eqD, e_need, mutsOf, SZ, mUnit, resV, xn, tq, h1, h1', h3, unesc, Int.add_assoc]
            · simp at s1
              simp [f_Scanner_take_unit, b_Scanner_take_unit, Fn.start, startA, s0, s1, s2, cmpD, ninD, inD, flatD, eqF, eqD, e_need, mutsOf, SZ, mUnit, resV, xn, tq, h1, h1', h3, h4, unesc, Int.add_assoc]
          · rw [show hd ESC (List.tail (92 :: d :: q)) = false from decide_eq_false h3] at s2
            simp only [ESC] at s2
            simp [f_Scanner_take_unit, b_Scanner_take_unit, Fn.start, startA, s0, s2, cmpD, ninD, inD, flatD, eqF, eqD, e_need, mutsOf, SZ, mUnit, resV, xn, tq, h1, h1', h3]
      · simp [f_Scanner_take_unit, b_Scanner_take_unit, Fn.start, startA, s0, cmpD, ninD, inD, flatD, eqF, eqD, e_need, mutsOf, SZ, mUnit, resV, xn, tq, h1, h1', h2]
theorem e_quoted (hz : L.length ≤ SZ) (h : 0 ≤ p) : runF T.fns N (k + 4) i_Scanner_take_quoted [SC L m p] = resV (fun c => .str [c]) L m p [] (mQuoted (rest L p)) := by
  have e1 := e_unit (N := N) (k := k) (m := m) (p := p + 1) (mark := 39) hz (by omega)
  rw [rest_one h, List.drop_one] at e1
  unfold mQuoted
  cases hu : mUnit 39 (rest L p).tail with
  | error e =>
    rw [hu] at e1
    refine res_of (okF_run (fn := f_Scanner_take_quoted) rfl rfl ?_)
    simp [f_Scanner_take_quoted, b_Scanner_take_quoted, Fn.start, startA, e1, mutsOf, resV, xn_up, tq_up]
  | ok cn =>
    obtain ⟨c, n⟩ := cn
    rw [hu] at e1
    simp only [resV] at e1
    rw [show p + 1 + (n : Int) = p + ((1 + n : Nat) : Int) by omega] at e1
    show _ = resV _ L m p [] (if ((rest L p).drop (1 + n)).take 1 = [39] then .ok (c, 1 + n + 1) else .error (.bad (1 + n) (1 + n)))
    obtain ⟨j, hj⟩ : ∃ j, j = 1 + n := ⟨_, rfl⟩
    rw [← hj] at e1 ⊢
    have s0 := e_seen0 (N := N) (k := k + 2) (m := m) (p := p + (j : Nat)) hz (by omega)
    rw [rest_add h] at s0
    by_cases h1 : ((rest L p).drop j).take 1 = [39]
    · rw [if_pos h1]
      rw [h1] at s0
      refine res_of (okF_run (fn := f_Scanner_take_quoted) rfl rfl ?_)
      simp [f_Scanner_take_quoted, b_Scanner_take_quoted, Fn.start, startA, e1, s0, e_need, mutsOf]
      simp [Int.add_assoc]
    · rw [if_neg h1]
      refine res_of (okF_run (fn := f_Scanner_take_quoted) rfl rfl ?_)
      simp [f_Scanner_take_quoted, b_Scanner_take_quoted, Fn.start, startA, e1, s0, e_need, mutsOf, h1, xn, tq]
def uCont (r t : List Nat) (n : Nat) : Em (List Nat × Nat) := match mUnits (r.drop n) with
  | .error e => .error (e.up n)
  | .ok (u, k) => .ok (t ++ u, n + k)
theorem e_string (hN : L.length < N) (hz : L.length ≤ 1000) (h : 0 ≤ p) : runF T.fns N (k + 4) i_Scanner_take_string [SC L m p] = resV (fun t => .str t) L m p [] (mString (rest L p)) := by
  have hz' : L.length ≤ SZ := Nat.le_trans hz (by decide)
  have hm : mString (rest L p) = (match uCont (rest L p) [] 1 with | .error e => .error e | .ok (t, n) => .ok (t, n + 1)) := by
    unfold mString uCont
    rw [List.drop_one]
    cases mUnits (rest L p).tail <;> rfl
  rw [hm]
  refine res_eq (okF_run (fn := f_Scanner_take_string) rfl rfl ?_)
  simp [f_Scanner_take_string, b_Scanner_take_string, Fn.start, startA]
  have rl := rest_len (L := L) (p := p)
  refine ok_while (fun j ρ => ∃ (n : Nat) (t : List Nat), n + j = (rest L p).length + 1 ∧ t.length ≤ n ∧ ρ = [.b (SC L m (p + (n : Nat))), .i (.str t)] ∧ uCont (rest L p) [] 1 = uCont (rest L p) t n) ?_ N (rest L p).length (by omega) ⟨1, [], by omega, by simp, rfl, rfl⟩
  rintro j ρ ⟨n, t, hn, ht, rfl, hc⟩
  rw [hc]
  have s0 := e_seen0 (N := N) (k := k + 2) (m := m) (p := p + (n : Nat)) hz' (by omega)
  rw [rest_add h] at s0
  by_cases h1 : ((rest L p).drop n).take 1 = [34]
  · unfold uCont
    rw [units_end h1]
    rw [h1] at s0
    simp [s0, mutsOf, resV]
    simp [Int.add_assoc]
  · have s1 : cmpD .ne (.str (((rest L p).drop n).take 1)) (.str [34]) = some true := by rw [c_neS, decide_eq_false h1]; rfl
    have e1 := e_unit (N := N) (k := k) (m := m) (p := p + (n : Nat)) (mark := 34) hz' (by omega)
    rw [rest_add h] at e1
    have hu := units_unit h1
    cases hq : mUnit 34 ((rest L p).drop n) with
    | error e =>
      rw [hq] at hu e1
      have hv : uCont (rest L p) t n = .error (e.up n) := by unfold uCont; rw [hu]
      rw [hv]
      simp [s0, s1, e1, resV, mutsOf, xn_up, tq_up]
    | ok cn =>
      obtain ⟨c, i⟩ := cn
      rw [hq] at hu e1
      have hv : uCont (rest L p) t n = uCont (rest L p) (t ++ [c]) (n + i) := by
        unfold uCont
        rw [hu, ← List.drop_drop]
        dsimp only
        cases mUnits (((rest L p).drop n).drop i) with
        | error e => cases e <;> simp [Er.up, Nat.add_assoc]
        | ok uk => simp [Nat.add_assoc]
      rw [hv]
      have hl := unit_len hq
      rw [List.length_drop] at hl
      have a1 : binD .add (.str t) (.str [c]) = some (.str (t ++ [c])) := b_addS (by simp [SZ]; omega)
      simp [s0, s1, e1, resV, a1]
      refine ⟨(rest L p).length + 1 - (n + i), by omega, n + i, by omega, t ++ [c], ?_, ⟨by omega, rfl⟩, rfl⟩
      rw [List.length_append, List.length_singleton]
      omega
theorem in_dbl {t : List Nat} : cmpD .notin (.str t) (.tup [.str [124, 124], .str [38, 38], .str [61, 61], .str [33, 61], .str [60, 61], .str [62, 61], .str [60, 60], .str [62, 62], .str [46, 46]]) = some (!decide (t ∈ DBL)) := by
  simp only [cmpD, ninD, inD]
  rw [if_pos ⟨rfl, by decide⟩]
  simp [eqF, DBL, eq_comm]
theorem e_sign (hz : L.length ≤ SZ) (h : 0 ≤ p) : runF T.fns N (k + 3) i_Scanner_take_sign [SC L m p] = resV (fun t => .str t) L m p [] (mSign (rest L p)) := by
  have s0 := e_seen0 (N := N) (k := k + 1) (m := m) hz h
  have s1 := e_seen1 (N := N) (k := k + 1) (m := m) hz h
  have s2 := e_is_here (N := N) (k := k) (m := m) (s := SGL) hz h
  have a1 : binD .add (.str ((rest L p).take 1)) (.str ((rest L p).tail.take 1)) = some (.str ((rest L p).take 2)) := by
    rw [← take2]
    exact b_addS (by simp [SZ]; omega)
  refine res_eq (okF_run (fn := f_Scanner_take_sign) rfl rfl ?_)
  unfold mSign
  by_cases hb : (rest L p).take 2 ∈ DBL
  · have hl : ((rest L p).take 2).length = 2 := by
      have z : (DBL.all fun t => decide (t.length = 2)) = true := by decide
      rw [List.all_eq_true] at z
      exact of_decide_eq_true (z _ hb)
    have f1 := f_lenS (l := (rest L p).take 2) (by rw [hl]; decide)
    rw [hl] at f1
    rw [if_pos hb]
    simp [f_Scanner_take_sign, b_Scanner_take_sign, Fn.start, startA, s0, s1, a1, in_dbl, hb, mutsOf, resV, f1]
  · rw [if_neg hb]
    cases hr : rest L p with
    | nil =>
      rw [hr] at s0 s1 s2 a1 hb
      simp [hd] at s2
      simp at a1 s1 hb
      simp [f_Scanner_take_sign, b_Scanner_take_sign, Fn.start, startA, s0, s1, s2, a1, in_dbl, hb, mutsOf, resV, e_need, xn, tq]
    | cons c q =>
      rw [hr] at s0 s1 s2 a1 hb
      simp at a1 s1 hb
      by_cases h1 : c ∈ SGL
      · rw [show hd SGL (c :: q) = true from decide_eq_true h1] at s2
        simp [f_Scanner_take_sign, b_Scanner_take_sign, Fn.start, startA, s0, s1, s2, a1, in_dbl, hb, h1, mutsOf, resV, e_need, f_lenS, SZ]
      · rw [show hd SGL (c :: q) = false from decide_eq_false h1] at s2
        simp [f_Scanner_take_sign, b_Scanner_take_sign, Fn.start, startA, s0, s1, s2, a1, in_dbl, hb, h1, mutsOf, resV, e_need, xn, tq]
end
end K03


/-! K03: what the scanner's methods do, part 5 (printed from a template). -/
namespace K03
open PySem PySem.Spec PyProof.Rows L2 Mx Scn
section
variable {N k : Nat} {L s : List Nat} {m : Bool} {p far : Int}
theorem key_str {t w : List Nat} {x : Str} (hx : x = sOf w) : decide ((Sum.inr x : Key) = Sum.inr (sOf t)) = decide (t = w) := by
  subst hx
  by_cases h : t = w
  · rw [h, decide_eq_true rfl, decide_eq_true rfl]
  · rw [decide_eq_false h, decide_eq_false fun z => h (sOf_inj (Sum.inr.inj z)).symm]
theorem get_base {t : List Nat} : kgetD kd_BASES (.str t) (.int 10) = some (.int (if t = [48, 120] then 16 else if t = [48, 98] then 2 else 10)) := by
  show some ((getKD kd_BASES (.inr (sOf t))).getD (.int 10)) = _
  unfold getKD kd_BASES
  rw [List.find?_cons, List.find?_cons]
  dsimp only
  rw [key_str (w := [48, 120]) (by decide +kernel), key_str (w := [48, 98]) (by decide +kernel)]
  by_cases h1 : t = [48, 120]
  · rw [decide_eq_true h1, if_pos h1]; rfl
  · rw [decide_eq_false h1, if_neg h1]
    by_cases h2 : t = [48, 98]
    · rw [decide_eq_true h2, if_pos h2]; rfl
    · rw [decide_eq_false h2, if_neg h2]; rfl
theorem get_digs {b : Nat} (hb : b = 16 ∨ b = 2 ∨ b = 10) : kixD kd_DIGITS_OF (.int (b : Nat)) = some (.str (digsOf b)) := by
  rcases hb with rfl | rfl | rfl <;> kernel_rfl
theorem e_number (hN : L.length < N) (hz : L.length ≤ SZ) (h : 0 ≤ p) : runF T.fns N (k + 4) i_Scanner_take_number [SC L m p] = resV (fun v : Nat => .int (v : Nat)) L m p [] (mNumber (rest L p)) := by
  have s0 := e_seen0 (N := N) (k := k + 2) (m := m) hz h
  have s1 := e_seen1 (N := N) (k := k + 2) (m := m) hz h
  have a1 : binD .add (.str ((rest L p).take 1)) (.str ((rest L p).tail.take 1)) = some (.str ((rest L p).take 2)) := by
    rw [← take2]
    exact b_addS (by simp [SZ]; omega)
  have g1 : kgetD kd_BASES (.str ((rest L p).take 2)) (.int 10) = some (.int ((baseOf (rest L p) : Nat) : Int)) := by
    rw [get_base]
    unfold baseOf
    split
    · rfl
    · split <;> rfl
  obtain ⟨b, hb⟩ : ∃ b, b = baseOf (rest L p) := ⟨_, rfl⟩
  have b3 := base3 (rest L p)
  rw [← hb] at g1 b3
  obtain ⟨j, hj⟩ : ∃ j : Nat, j = if b = 10 then 0 else 2 := ⟨_, rfl⟩
  have g2 := get_digs b3
  have e1 := e_some (k := k) (m := m) (s := digsOf b) (most := 40) (p := p + (j : Nat)) hN hz (by omega)
  rw [rest_add h] at e1
  have hm : mNumber (rest L p) = mDigits j b (rest L p) := by unfold mNumber; rw [← hb, ← hj]
  rw [hm]
  refine res_eq (okF_run (fn := f_Scanner_take_number) rfl rfl ?_)
  -- up to the digits
  have mid : ∀ {Z : Xn → List Sl → Prop} {F : Fl → List Sl → Prop} {R : Ss}, OkX Z (evSs (runF T.fns N (k + 3)) N R [.b (SC L m (p + (j : Nat))), .i (.int (b : Nat)), .e, .e]) F → OkX Z (evSs (runF T.fns N (k + 3)) N (.cons (.ite (.cmp .ne (.var 1) (.cst (.int 10))) (.cons (.augF 0 "where_now" [c_Scanner] .add (.cst (.int 2))) .nil) .nil) R) [.b (SC L m p), .i (.int (b : Nat)), .e, .e]) F := by
    intro Z F R hR
    rcases b3 with rfl | rfl | rfl
    · rw [hj] at hR; simpa using hR
    · rw [hj] at hR; simpa using hR
    · rw [hj] at hR; simpa using hR
  simp only [f_Scanner_take_number, b_Scanner_take_number, Fn.start, startA, List.length_cons, List.length_nil, List.replicate, List.cons_append, List.nil_append, if_true]
  refine ok_step fun K hn _ => ?_
  simp [s0, s1, a1, g1]
  refine hn _ (mid ?_)
  unfold mDigits
  cases hs : mSome (digsOf b) 40 ((rest L p).drop j) with
  | error e =>
    rw [hs] at e1
    simp [g2]
    rw [show (40 : Int) = ((40 : Nat) : Int) from rfl, e1]
    simp [resT, resV, up, mutsOf, xn_up, tq_up]
  | ok n =>
    rw [hs] at e1
    obtain ⟨n1, n2, n3⟩ := mSome_ok hs
    simp only [resT, rest_add h] at e1
    rw [show p + (j : Int) + (n : Int) = p + ((j + n : Nat) : Int) by omega] at e1
    have e2 := e_need_end (N := N) (k := k) (m := m) (p := p + ((j + n : Nat) : Int)) hz (by omega)
    rw [rest_add h] at e2
    cases he : mEnd ((rest L p).drop (j + n)) with
    | error e =>
      rw [he] at e2
      simp [g2]
      rw [show (40 : Int) = ((40 : Nat) : Int) from rfl, e1]
      simp only [resN, Int.natCast_add] at e2
      simp [e2, resV, up, he, mutsOf, xn_up, tq_up]
    | ok z =>
      have hz0 := mEnd_ok he
      subst hz0
      rw [he] at e2
      have i1 : fnD .int [.str (((rest L p).drop j).take n), .int (b : Nat)] = some (.int (numB b (((rest L p).drop j).take n) : Nat)) := by
        refine intB_ok b3 ?_ ?_ ?_
        · intro z
          have := congrArg List.length z
          rw [List.length_take] at this
          have := mSome_le hs
          simp at *
          omega
        · rw [List.length_take]; omega
        · exact spn_mem (by omega)
      simp [g2]
      rw [show (40 : Int) = ((40 : Nat) : Int) from rfl, e1]
      simp only [resN, Int.natCast_add, Int.natCast_zero, Int.add_zero] at e2
      obtain ⟨v, hv⟩ : ∃ v, v = numB b (((rest L p).drop j).take n) := ⟨_, rfl⟩
      rw [← hv] at i1
      by_cases hlg : 18446744073709551616 < v
      · have hlg' : (18446744073709551616 : Int) < (v : Int) := by omega
        simp [e2, up, he, i1, hlg', mutsOf]
        rw [← hv, if_pos hlg]
        simp [resV, xn, tq]
      · have hlg' : ¬ (18446744073709551616 : Int) < (v : Int) := by omega
        simp [e2, up, he, i1, hlg', mutsOf]
        rw [← hv, if_neg hlg]
        simp [resV]
def resK (L : List Nat) (m : Bool) (p : Int) : Em ((List Nat × IV) × Nat) → Option (Except Xn IV × List IV)
  | .ok (sv, n) => some (.ok (.tup [.str sv.1, sv.2]), [SC L m (p + (n : Nat))])
  | .error e => some (.error (xn p e), [SC L m (tq p e)])
theorem e_token (hN : L.length < N) (hN8 : 10 < N) (hz : L.length ≤ 1000) (h : 0 ≤ p) : runF T.fns N (k + 7) i_Scanner_take_token [SC L m p] = resK L m p (mTok m (rest L p)) := by
  have hz' : L.length ≤ SZ := Nat.le_trans hz (by decide)
  have w1 : w_CHARACTER = sChar := rfl
  have t1 := e_is_here (N := N) (k := k + 4) (m := m) (s := LET) hz' h
  have t2 := e_is_here (N := N) (k := k + 4) (m := m) (s := DI) hz' h
  have s0 := e_seen0 (N := N) (k := k + 5) (m := m) hz' h
  have s1 := e_seen1 (N := N) (k := k + 5) (m := m) hz' h
  cases h1 : hd LET (rest L p) with
  | true =>
    rw [h1] at t1
    have e1 := e_path (k := k) (m := m) hN hN8 hz' h
    cases hp : mPath m (rest L p) with
    | error e =>
      rw [hp] at e1
      have hm : mTok m (rest L p) = .error e := by simp [mTok, h1, hp]
      rw [hm]
      refine res_eq (okF_run (fn := f_Scanner_take_token) rfl rfl ?_)
      simp [f_Scanner_take_token, b_Scanner_take_token, Fn.start, startA, mutsOf, SZ, resK, t1, e1, resT]
    | ok n =>
      rw [hp] at e1
      by_cases hk : (rest L p).take n = kMod
      · have hm : mTok m (rest L p) = .ok ((sSign, .str kMod), n) := by simp [mTok, h1, hp, hk]
        rw [hm]
        refine res_eq (okF_run (fn := f_Scanner_take_token) rfl rfl ?_)
        simp [f_Scanner_take_token, b_Scanner_take_token, Fn.start, startA, mutsOf, SZ, resK, t1, e1, resT, hk]
      · have hm : mTok m (rest L p) = .ok ((sName, .str ((rest L p).take n)), n) := by simp [mTok, h1, hp, hk]
        rw [hm]
        refine res_eq (okF_run (fn := f_Scanner_take_token) rfl rfl ?_)
        simp [f_Scanner_take_token, b_Scanner_take_token, Fn.start, startA, mutsOf, SZ, resK, t1, e1, resT, hk]
  | false =>
    rw [h1] at t1
    cases h2 : hd DI (rest L p) with
    | true =>
      rw [h2] at t2
      have e1 := e_number (k := k + 2) (m := m) hN hz' h
      cases hp : mNumber (rest L p) with
      | error e =>
        rw [hp] at e1
        have hm : mTok m (rest L p) = .error e := by simp [mTok, h1, h2, hp]
        rw [hm]
        refine res_eq (okF_run (fn := f_Scanner_take_token) rfl rfl ?_)
        simp [f_Scanner_take_token, b_Scanner_take_token, Fn.start, startA, mutsOf, SZ, resK, t1, t2, e1, resT, resV]
      | ok vn =>
        rw [hp] at e1
        obtain ⟨v, n⟩ := vn
        have hm : mTok m (rest L p) = .ok ((sNumber, .int (v : Nat)), n) := by simp [mTok, h1, h2, hp]
        rw [hm]
        refine res_eq (okF_run (fn := f_Scanner_take_token) rfl rfl ?_)
        simp [f_Scanner_take_token, b_Scanner_take_token, Fn.start, startA, mutsOf, SZ, resK, t1, t2, e1, resT, resV, fnD, w1]
    | false =>
      rw [h2] at t2
      by_cases h3 : (rest L p).take 1 = [39]
      · rw [h3] at s0
        have e1 := e_quoted (N := N) (k := k + 2) (m := m) hz' h
        cases hp : mQuoted (rest L p) with
        | error e =>
          rw [hp] at e1
          have hm : mTok m (rest L p) = .error e := by simp [mTok, h1, h2, h3, hp]
          rw [hm]
          refine res_eq (okF_run (fn := f_Scanner_take_token) rfl rfl ?_)
          simp [f_Scanner_take_token, b_Scanner_take_token, Fn.start, startA, mutsOf, SZ, resK, t1, t2, s0, e1, resT, resV]
        | ok vn =>
          rw [hp] at e1
          obtain ⟨v, n⟩ := vn
          have hm : mTok m (rest L p) = .ok ((sChar, .int (v : Nat)), n) := by simp [mTok, h1, h2, h3, hp]
          rw [hm]
          refine res_eq (okF_run (fn := f_Scanner_take_token) rfl rfl ?_)
          simp [f_Scanner_take_token, b_Scanner_take_token, Fn.start, startA, mutsOf, SZ, resK, t1, t2, s0, e1, resT, resV, fnD, w1]
      · by_cases h4 : (rest L p).take 1 = [34]
        · rw [h4] at s0
          have e1 := e_string (N := N) (k := k + 2) (m := m) hN hz h
          cases hp : mString (rest L p) with
          | error e =>
            rw [hp] at e1
            have hm : mTok m (rest L p) = .error e := by simp [mTok, h1, h2, h4, hp]
            rw [hm]
            refine res_eq (okF_run (fn := f_Scanner_take_token) rfl rfl ?_)
            simp [f_Scanner_take_token, b_Scanner_take_token, Fn.start, startA, mutsOf, SZ, resK, t1, t2, s0, e1, resT, resV]
          | ok vn =>
            rw [hp] at e1
            obtain ⟨v, n⟩ := vn
            have hm : mTok m (rest L p) = .ok ((sStr, .str v), n) := by simp [mTok, h1, h2, h4, hp]
            rw [hm]
            refine res_eq (okF_run (fn := f_Scanner_take_token) rfl rfl ?_)
            simp [f_Scanner_take_token, b_Scanner_take_token, Fn.start, startA, mutsOf, SZ, resK, t1, t2, s0, e1, resT, resV, fnD, w1]
        · by_cases h5 : (rest L p).take 1 = [46]
          · by_cases h6 : (rest L p).tail.take 1 = [46]
            · rw [h5] at s0
              rw [h6] at s1
              have e1 := e_sign (N := N) (k := k + 3) (m := m) hz' h
              cases hp : mSign (rest L p) with
              | error e =>
                rw [hp] at e1
                have hm : mTok m (rest L p) = .error e := by simp [mTok, h1, h2, h5, h6, hp]
                rw [hm]
                refine res_eq (okF_run (fn := f_Scanner_take_token) rfl rfl ?_)
                simp [f_Scanner_take_token, b_Scanner_take_token, Fn.start, startA, mutsOf, SZ, resK, t1, t2, s0, s1, e1, resT, resV]
              | ok vn =>
                rw [hp] at e1
                obtain ⟨v, n⟩ := vn
                have hm : mTok m (rest L p) = .ok ((sSign, .str v), n) := by simp [mTok, h1, h2, h5, h6, hp]
                rw [hm]
                refine res_eq (okF_run (fn := f_Scanner_take_token) rfl rfl ?_)
                simp [f_Scanner_take_token, b_Scanner_take_token, Fn.start, startA, mutsOf, SZ, resK, t1, t2, s0, s1, e1, resT, resV, fnD, w1]
            · rw [h5] at s0
              have e1 := e_marked (N := N) (k := k + 1) (m := m) hN hz' h
              cases hp : mMarked (rest L p) with
              | error e =>
                rw [hp] at e1
                have hm : mTok m (rest L p) = .error e := by simp [mTok, h1, h2, h5, h6, hp]
                rw [hm]
                refine res_eq (okF_run (fn := f_Scanner_take_token) rfl rfl ?_)
                simp [f_Scanner_take_token, b_Scanner_take_token, Fn.start, startA, mutsOf, SZ, resK, t1, t2, s0, s1, h6, e1, resT, resV]
              | ok vn =>
                rw [hp] at e1
                have hm : mTok m (rest L p) = .ok ((sLocal, .str ((rest L p).take vn)), vn) := by simp [mTok, h1, h2, h5, h6, hp]
                rw [hm]
                refine res_eq (okF_run (fn := f_Scanner_take_token) rfl rfl ?_)
                simp [f_Scanner_take_token, b_Scanner_take_token, Fn.start, startA, mutsOf, SZ, resK, t1, t2, s0, s1, h6, e1, resT, resV, fnD, w1]
          · by_cases h6 : (rest L p).take 1 = [64]
            · cases m with
              | false =>
                rw [h6] at s0
                have e1 := e_marked (N := N) (k := k + 1) (m := false) hN hz' h
                cases hp : mMarked (rest L p) with
                | error e =>
                  rw [hp] at e1
                  have hm : mTok false (rest L p) = .error e := by simp [mTok, h1, h2, h6, hp]
                  rw [hm]
                  refine res_eq (okF_run (fn := f_Scanner_take_token) rfl rfl ?_)
                  simp [f_Scanner_take_token, b_Scanner_take_token, Fn.start, startA, mutsOf, SZ, resK, t1, t2, s0, e1, resT, resV]
                | ok vn =>
                  rw [hp] at e1
                  have hm : mTok false (rest L p) = .ok ((sOwn, .str ((rest L p).take vn)), vn) := by simp [mTok, h1, h2, h6, hp]
                  rw [hm]
                  refine res_eq (okF_run (fn := f_Scanner_take_token) rfl rfl ?_)
                  simp [f_Scanner_take_token, b_Scanner_take_token, Fn.start, startA, mutsOf, SZ, resK, t1, t2, s0, e1, resT, resV, fnD, w1]
              | true =>
                rw [h6] at s0
                have e1 := e_sign (N := N) (k := k + 3) (m := true) hz' h
                cases hp : mSign (rest L p) with
                | error e =>
                  rw [hp] at e1
                  have hm : mTok true (rest L p) = .error e := by simp [mTok, h1, h2, h6, hp]
                  rw [hm]
                  refine res_eq (okF_run (fn := f_Scanner_take_token) rfl rfl ?_)
                  simp [f_Scanner_take_token, b_Scanner_take_token, Fn.start, startA, mutsOf, SZ, resK, t1, t2, s0, e1, resT, resV]
                | ok vn =>
                  rw [hp] at e1
                  obtain ⟨v, n⟩ := vn
                  have hm : mTok true (rest L p) = .ok ((sSign, .str v), n) := by simp [mTok, h1, h2, h6, hp]
                  rw [hm]
                  refine res_eq (okF_run (fn := f_Scanner_take_token) rfl rfl ?_)
                  simp [f_Scanner_take_token, b_Scanner_take_token, Fn.start, startA, mutsOf, SZ, resK, t1, t2, s0, e1, resT, resV, fnD, w1]
            · have e1 := e_sign (N := N) (k := k + 3) (m := m) hz' h
              cases hp : mSign (rest L p) with
              | error e =>
                rw [hp] at e1
                have hm : mTok m (rest L p) = .error e := by simp [mTok, h1, h2, h3, h4, h5, h6, hp]
                rw [hm]
                refine res_eq (okF_run (fn := f_Scanner_take_token) rfl rfl ?_)
                simp [f_Scanner_take_token, b_Scanner_take_token, Fn.start, startA, mutsOf, SZ, resK, t1, t2, s0, h3, h4, h5, h6, e1, resT, resV]
              | ok vn =>
                rw [hp] at e1
                obtain ⟨v, n⟩ := vn
                have hm : mTok m (rest L p) = .ok ((sSign, .str v), n) := by simp [mTok, h1, h2, h3, h4, h5, h6, hp]
                rw [hm]
                refine res_eq (okF_run (fn := f_Scanner_take_token) rfl rfl ?_)
                simp [f_Scanner_take_token, b_Scanner_take_token, Fn.start, startA, mutsOf, SZ, resK, t1, t2, s0, h3, h4, h5, h6, e1, resT, resV, fnD, w1]
end
end K03


/-! K03: lines, tokens, what is written (printed from a template). -/
namespace K03
open PySem PySem.Spec PyProof.Rows L2 Mx Scn
section
variable {N k : Nat} {L s : List Nat} {m : Bool} {p far : Int}
theorem e_need_line (hz : L.length ≤ SZ) : runF T.fns N (k + 1) i_need_line [.str L] = some (if lineOk L = true then (if 400 < L.length then .error (TL 400) else .ok .non) else .error (BL 0), [.non]) := by
  refine res_eq (okF_run (fn := f_need_line) rfl (by rfl) ?_)
  have hc : ∀ x ∈ L.map (fun c => IV.str [c]), Ok ((ev (runF T.fns N k) (.and (.cons (.chn .le .le (.cst (.str [32])) (.var 1) (.cst (.str [126]))) (.cons (.cmp .ne (.fn .ord (.cons (.var 1) .nil)) (.glo "LACKING" (.int 37))) .nil)))).1 ([Sl.i (.str L), Sl.e].set 1 (.i x))) fun y ρ3 => y = (match x with | .str [c] => .bl (decide (32 ≤ c) && decide (c ≤ 126) && decide (c ≠ 37)) | _ => .non) ∧ ρ3 = [Sl.i (.str L), Sl.e].set 1 (.i x) := by
    intro x hx
    obtain ⟨c, _, rfl⟩ := List.mem_map.mp hx
    by_cases h1 : 32 ≤ c
    · by_cases h2 : c ≤ 126
      · have h3 : decide ((c : Int) = 37) = decide (c = 37) := by
          by_cases h : c = 37
          · rw [decide_eq_true h, decide_eq_true (by omega)]
          · rw [decide_eq_false h, decide_eq_false (by omega)]
        simp [c_le1, h1, h2, h3]
      · simp [c_le1, h1, h2]
    · simp [c_le1, h1]
  have e1 : (L.map fun c => IV.str [c]).map (fun x => match x with | .str [c] => IV.bl (decide (32 ≤ c) && decide (c ≤ 126) && decide (c ≠ 37)) | _ => .non) = L.map fun c => IV.bl (decide (32 ≤ c) && decide (c ≤ 126) && decide (c ≠ 37)) := by
    rw [List.map_map]
    rfl
  simp only [f_need_line, b_need_line, Fn.start, startA, List.length_cons, List.length_nil, List.replicate, List.cons_append, List.nil_append, if_true, if_false, Bool.false_eq_true]
  have all : ∀ {B : Bool → List Sl → Prop} {Z : Xn → List Sl → Prop}, B (lineOk L) [Sl.i (.str L), Sl.e] → OkX Z ((ev (runF T.fns N k) (.fn .all (.cons (.comp [1] (.txt (.var 0)) .no (.and (.cons (.chn .le .le (.cst (.str [32])) (.var 1) (.cst (.str [126]))) (.cons (.cmp .ne (.fn .ord (.cons (.var 1) .nil)) (.glo "LACKING" (.int 37))) .nil)))) .nil))).2 [Sl.i (.str L), Sl.e]) B := by
    intro B Z hB
    simp only [okT_fn, okEs_cons, okEs_nil, okE_comp, okI_txt, okE_var, List.getElem?_cons_zero, okO_some, seqS_l]
    refine ok_map1 (f := fun x => match x with | .str [c] => IV.bl (decide (32 ≤ c) && decide (c ≤ 126) && decide (c ≠ 37)) | _ => .non) (r := .e) rfl rfl (by simpa using hz) (fun _ _ => rfl) hc ?_
    rw [e1, f_allM]
    exact hB
  refine ok_step fun K hn hr => ?_
  simp only [okS_ite, okT_or, okOT2, okOT1, okT_not, okT_isi, okE_var, List.getElem?_cons_zero, okO_some, isiD, Bool.not_true, Bool.false_eq_true, if_false]
  refine all ?_
  cases hl : lineOk L with
  | false => simp [mutsOf]
  | true =>
    simp
    refine hn _ ?_
    have f1 := f_lenS (l := L) hz
    by_cases h4 : 400 < L.length
    · have h4' : (400 : Int) < (L.length : Int) := by omega
      simp [f1, h4, h4', hl, mutsOf]
    · have h4' : ¬ (400 : Int) < (L.length : Int) := by omega
      simp [f1, h4, h4', hl, mutsOf]
theorem e_init (h1 : lineOk L = true) (h2 : L.length ≤ 400) : runF T.fns N (k + 2) i_Scanner___init__ [.ins c_Scanner [], .str L, .bl m, .int p] = some (.ok .non, [SC L m p, .non, .non, .non]) := by
  refine res_of (okF_run (fn := f_Scanner___init__) rfl (by rfl) ?_)
  have e1 := e_need_line (N := N) (k := k) (L := L) (Nat.le_trans h2 (by decide))
  rw [if_pos h1, if_neg (by omega)] at e1
  have a1 : setFD "own_line" [c_Scanner] (.str L) (.ins c_Scanner []) = some (.ins c_Scanner [("own_line", .str L)]) := by kernel_rfl
  have a2 : setFD "takes_made" [c_Scanner] (.bl m) (.ins c_Scanner [("own_line", .str L)]) = some (.ins c_Scanner [("own_line", .str L), ("takes_made", .bl m)]) := by kernel_rfl
  have a3 : setFD "where_now" [c_Scanner] (.int p) (.ins c_Scanner [("own_line", .str L), ("takes_made", .bl m)]) = some (SC L m p) := by kernel_rfl
  simp [f_Scanner___init__, b_Scanner___init__, Fn.start, startA, e1, a1, a2, a3, mutsOf]
def resL : Em (List IV) → Option (Except Xn IV × List IV)
  | .ok ts => some (.ok (.lst ts), [])
  | .error e => some (.error (xn 0 e), [])
def lCont (m : Bool) (ys : List IV) : Em (List IV) → Em (List IV)
  | .ok ts => .ok (ys ++ ts)
  | .error e => .error e
theorem e_tokens (hN : 1000 < N) (h1 : lineOk L = true) (h2 : L.length ≤ 400) : runF T.fns N (k + 8) i_tokens [.str L, .bl m] = resL (toks m L) := by
  have hz : L.length ≤ SZ := Nat.le_trans h2 (by decide)
  have e1 := e_init (N := N) (k := k + 5) (m := m) (p := 0) h1 h2
  have e2 := e_blanks (N := N) (k := k + 5) (L := L) (m := m) (p := 0) (by omega) hz (by omega)
  have r0 : rest L 0 = L := rfl
  rw [r0, Int.zero_add] at e2
  refine res_eq (okG_run (fn := f_tokens) rfl rfl rfl ?_)
  simp [b_tokens, f_tokens, Fn.start, startA, e1, OkV, e2]
  refine ok_whileG (fun j ys ρ => ∃ (x : Nat) (a b c : Sl), (L.drop x).length < j ∧ ys.length ≤ x ∧ ρ = [.i (.str L), .i (.bl m), .o (SC L m (x : Nat)), a, b, c] ∧ toks m L = lCont m ys (lex m j x (L.drop x))) ?_ N (L.length + 1) (by omega) ⟨blk L, .e, .e, .e, by simp; omega, by simp, rfl, by unfold toks lCont; cases lex m (L.length + 1) (blk L) (L.drop (blk L)) <;> simp⟩
  rintro j ys ρ ⟨x, a, b, c, hj, hy, rfl, ht⟩
  cases j with
  | zero => exact absurd hj (Nat.not_lt_zero _)
  | succ j =>
  have s0 := e_is_over (N := N) (k := k + 5) (L := L) (m := m) (p := (x : Nat)) hz (by omega)
  have rx : rest L (x : Nat) = L.drop x := by simp [rest]
  rw [rx] at s0
  cases ho : over (L.drop x) with
  | true =>
    rw [ho] at s0
    rw [lex, if_pos ho] at ht
    simp [s0, OkV, ht, lCont, resL]
  | false =>
    rw [ho] at s0
    have t1 := e_token (N := N) (k := k) (L := L) (m := m) (p := (x : Nat)) (by omega) (by omega) (by omega) (by omega)
    rw [rx] at t1
    rw [lex, ho] at ht
    cases hm : mTok m (L.drop x) with
    | error e =>
      rw [hm] at t1 ht
      simp [s0, OkV, t1, resK]
      rw [ht]
      simp [lCont, resL]
      have z := xn_up (p := 0) (n := x) (e := e)
      rwa [Int.zero_add] at z
    | ok svn =>
      obtain ⟨sv, n⟩ := svn
      rw [hm] at t1 ht
      have np := tok_pos hm
      have hne : 0 < (L.drop x).length := by
        cases hd : L.drop x with
        | nil => rw [hd] at ho; cases ho
        | cons c q => simp
      have b1 := e_blanks (N := N) (k := k + 5) (L := L) (m := m) (p := (x : Int) + (n : Int)) (by omega) hz (by omega)
      have rn : rest L ((x : Int) + (n : Int)) = (L.drop x).drop n := by rw [rest_add (by omega), rx]
      rw [rn] at b1
      simp only [resK] at t1
      have hlen : ys.length < SZ := by
        rw [List.length_drop] at hne
        have : SZ = 16777216 := rfl
        omega
      simp [s0, OkV, t1, SZ, setTgs, rTg, ok_some, b1]
      rw [← List.drop_drop]
      refine ⟨by unfold SZ at hlen; exact hlen, j, by omega, x + n + blk ((L.drop x).drop n), ?_, by omega, by omega, ?_⟩
      · rw [List.length_drop] at hj hne
        omega
      · rw [ht, show x + n + blk ((L.drop x).drop n) = (x + n) + blk ((L.drop x).drop n) from rfl, ← List.drop_drop, ← List.drop_drop]
        dsimp only
        cases lex m j (x + n + blk ((L.drop x).drop n)) (((L.drop x).drop n).drop (blk ((L.drop x).drop n))) <;> simp [lCont]
theorem e_shown {c mark : Nat} : runF T.fns N (k + 1) i_shown [.str [c], .str [mark]] = some (.ok (.str (shw mark c)), [.non, .non]) := by
  refine res_of (okF_run (fn := f_shown) rfl (by rfl) ?_)
  unfold shw
  by_cases h1 : c = 10
  · simp [f_shown, b_shown, Fn.start, startA, h1, mutsOf]
  · have a1 : binD .add (.str [92]) (.str [c]) = some (.str [92, c]) := b_addS (by simp [SZ])
    by_cases h2 : c = mark ∨ c = 92
    · have h2' : mark = c ∨ 92 = c := h2.imp Eq.symm Eq.symm
      simp [f_shown, b_shown, Fn.start, startA, h1, h2, h2', mutsOf, in_tup, flatD, eqF, SZ, a1]
    · have h3 : ¬ mark = c := fun z => h2 (.inl z.symm)
      have h4 : ¬ 92 = c := fun z => h2 (.inr z.symm)
      simp [f_shown, b_shown, Fn.start, startA, h1, h2, h3, h4, mutsOf, in_tup, flatD, eqF, SZ, a1]
theorem texts_map {α : Type} (g : α → List Nat) : ∀ l : List α, texts (l.map fun q => IV.str (g q)) = some (l.map g)
  | [] => rfl
  | c :: l => by
    show (texts (l.map fun q => IV.str (g q))).map (g c :: ·) = _
    rw [texts_map g l]
    rfl
theorem joinL_nil : ∀ l : List (List Nat), TL.joinL [] l = l.flatten
  | [] => rfl
  | [a] => by simp [TL.joinL]
  | a :: b :: l => by
    show a ++ ([] ++ TL.joinL [] (b :: l)) = _
    rw [joinL_nil (b :: l)]
    simp
theorem e_known (x : IV) : evS (runF T.fns N k) N (.asg 1 (.dcomp [2] (.txt (.bin .add (.bin .add (.bin .add (.glo "NAME_SIGNS" (.str w_NAME_SIGNS)) (.glo "SINGLE" (.str w_SINGLE))) (.glo "FURTHER" (.str w_FURTHER))) (.cst (.str [10])))) .no (.fn .ord (.cons (.var 2) .nil)) (.var 2))) [.i x, .e, .e] = some (.ok .nx, [.i x, .i (.dct (KC.map fun c => ((Sum.inl ((c : Nat) : Int) : Key), IV.str [c]))), .e]) := by
  kernel_rfl
theorem e_charof {c : Nat} (h : c ∈ KC) : runF T.fns N (k + 1) i_character_of [.int (c : Nat)] = some (.ok (.str [c]), [.non]) := by
  obtain ⟨ds, hds⟩ : ∃ ds, ds = [IV.int (c : Nat)] := ⟨_, rfl⟩
  rw [← hds]
  refine res_of (okF_run (fn := f_character_of) rfl (by rw [hds]; rfl) ?_)
  have g := get_map h
  simp only [f_character_of, b_character_of, Fn.start, List.length_cons, List.length_nil, List.replicate, if_false, Bool.false_eq_true]
  refine ok_step fun K hn hr => ?_
  rw [show startA [false] ds ++ [Sl.e, Sl.e] = [.i (.int (c : Nat)), .e, .e] by rw [hds]; rfl, e_known]
  refine hn _ ?_
  simp [mutsOf, dixD, keyOf, g]
theorem e_written {v : IV} {t : List Nat} (h : wr s v = some t) : runF T.fns N (k + 3) i_written [.str s, v] = some (.ok (.str t), [.non, .non]) := by
  have w1 : w_CHARACTER = sChar := rfl
  rcases wr_cases h with ⟨rfl, i, rfl, hb, rfl⟩ | ⟨rfl, c, hc, rfl, rfl⟩ | ⟨rfl, l, rfl, hb, rfl⟩ | ⟨h1, h2, h3, rfl⟩
  · refine res_of (okF_run (fn := f_written) rfl (by rfl) ?_)
    simp [f_written, b_written, Fn.start, startA, mutsOf, fnD, hb]
  · have e1 : runF T.fns N (k + 2) i_character_of [.int (c : Nat)] = some (.ok (.str [c]), [.non]) := e_charof hc
    have e2 : runF T.fns N (k + 2) i_shown [.str [c], .str [39]] = some (.ok (.str (shw 39 c)), [.non, .non]) := e_shown
    have l := shw_len (mark := 39) (c := c)
    have a1 : binD .add (.str [39]) (.str (shw 39 c)) = some (.str (39 :: shw 39 c)) := b_addS (by simp [SZ]; omega)
    have a2 : binD .add (.str (39 :: shw 39 c)) (.str [39]) = some (.str (39 :: (shw 39 c ++ [39]))) := b_addS (by simp [SZ]; omega)
    clear h hc l
    obtain ⟨ds, hds⟩ : ∃ ds, ds = [IV.str sChar, IV.int (c : Nat)] := ⟨_, rfl⟩
    rw [← hds]
    refine res_of (okF_run (fn := f_written) rfl (by rw [hds]; rfl) ?_)
    generalize runF T.fns N (k + 2) = cs at e1 e2 ⊢
    simp only [f_written, b_written, Fn.start, List.length_cons, List.length_nil, List.replicate]
    rw [hds]
    simp only [startA, if_false, Bool.false_eq_true, List.cons_append, List.nil_append]
    refine ok_step fun K hn hr => ?_
    simp
    refine hn _ ?_
    clear hn hr K
    refine ok_step fun K hn hr => ?_
    simp [w1, e1, e2, a1, a2]
    exact hr _ _ (by simp [mutsOf])
  · have jl : (((l.map (shw 34)).map List.length).sum) ≤ 2 * l.length := by
      have z := sum_le (m := 2) (ts := l.map (shw 34)) (fun u hu => by obtain ⟨c, _, rfl⟩ := List.mem_map.mp hu; exact shw_len)
      rw [List.length_map] at z
      omega
    have fl : ((l.map (shw 34)).flatten).length ≤ 2000 := by rw [List.length_flatten]; omega
    have j1 : mtD .join (.str []) [.lst (l.map fun c => IV.str (shw 34 c))] = some (.str (l.map (shw 34)).flatten) := by
      show (match texts (l.map fun c => IV.str (shw 34 c)) with | some ts => if (ts.map List.length).sum + ts.length * ([] : List Nat).length ≤ SZ then some (IV.str (TL.joinL [] ts)) else none | none => none) = _
      rw [texts_map]
      show (if ((l.map (shw 34)).map List.length).sum + (l.map (shw 34)).length * 0 ≤ SZ then some (IV.str (TL.joinL [] (l.map (shw 34)))) else none) = _
      rw [if_pos (by have : SZ = 16777216 := rfl; omega), joinL_nil]
    have a1 : binD .add (.str [34]) (.str (l.map (shw 34)).flatten) = some (.str (34 :: (l.map (shw 34)).flatten)) := b_addS (by simp [SZ, -List.length_flatten]; omega)
    have a2 : binD .add (.str (34 :: (l.map (shw 34)).flatten)) (.str [34]) = some (.str (34 :: ((l.map (shw 34)).flatten ++ [34]))) := b_addS (by simp [SZ, -List.length_flatten]; omega)
    have hm : (l.map fun c => IV.str [c]).map (fun x => match x with | .str [c] => IV.str (shw 34 c) | _ => .non) = l.map fun c => IV.str (shw 34 c) := by
      rw [List.map_map]
      rfl
    refine res_of (okF_run (fn := f_written) rfl (by rfl) ?_)
    simp only [f_written, b_written, Fn.start, startA, List.length_cons, List.length_nil, List.replicate, List.cons_append, List.nil_append, if_true, if_false, Bool.false_eq_true]
    refine ok_step fun K hn hr => ?_
    simp
    refine hn _ ?_
    clear hn hr K
    refine ok_step fun K hn hr => ?_
    simp [w1]
    refine hn _ ?_
    clear hn hr K
    refine ok_step fun K hn hr => ?_
    simp
    refine ok_map1 (f := fun x => match x with | .str [c] => IV.str (shw 34 c) | _ => .non) (r := .e) rfl rfl (by simp; have : SZ = 16777216 := rfl; omega) (fun _ _ => rfl) ?_ ?_
    · intro x hx
      obtain ⟨c, _, rfl⟩ := List.mem_map.mp hx
      simp [e_shown]
    · rw [hm, j1]
      simp [a1, a2]
      exact hr _ _ (by simp [mutsOf])
  · refine res_of (okF_run (fn := f_written) rfl (by rfl) ?_)
    simp [f_written, b_written, Fn.start, startA, mutsOf, w1, h1, h2, h3]
theorem e_line_of {ps : List (List Nat × IV)} (h : ∀ q ∈ ps, ∃ t, wr q.1 q.2 = some t ∧ t.length ≤ 5000) (hl : ps.length ≤ 1000) : runF T.fns N (k + 4) i_line_of [.tup (ps.map fun q => .tup [.str q.1, q.2])] = some (.ok (.str (TL.joinL [32] (ps.map fun q => (wr q.1 q.2).getD []))), [.non]) := by
  refine res_of (okF_run (fn := f_line_of) rfl (by rfl) ?_)
  have j1 : mtD .join (.str [32]) [.lst (ps.map fun q => IV.str ((wr q.1 q.2).getD []))] = some (.str (TL.joinL [32] (ps.map fun q => (wr q.1 q.2).getD []))) := by
    show (match texts (ps.map fun q => IV.str ((wr q.1 q.2).getD [])) with | some ts => if (ts.map List.length).sum + ts.length * ([32] : List Nat).length ≤ SZ then some (IV.str (TL.joinL [32] ts)) else none | none => none) = _
    rw [texts_map]
    have z := sum_le (m := 5000) (ts := ps.map fun q => (wr q.1 q.2).getD []) (fun u hu => by
      obtain ⟨q, hq, rfl⟩ := List.mem_map.mp hu
      obtain ⟨t, e, l⟩ := h q hq
      rw [e]
      exact l)
    rw [List.length_map] at z
    dsimp only
    rw [if_pos]
    rw [List.length_map]
    have : SZ = 16777216 := rfl
    show _ + ps.length * 1 ≤ SZ
    omega
  have hm : (ps.map fun q => IV.tup [.str q.1, q.2]).map (fun x => match x with | .tup [.str s, v] => IV.str ((wr s v).getD []) | _ => .non) = ps.map fun q => IV.str ((wr q.1 q.2).getD []) := by
    rw [List.map_map]
    rfl
  simp [f_line_of, b_line_of, Fn.start, startA]
  refine ok_mapT (f := fun x => match x with | .tup [.str s, v] => IV.str ((wr s v).getD []) | _ => .non) rfl (by simp; have : SZ = 16777216 := rfl; omega) (fun _ _ => rfl) rfl ?_ ?_
  · intro x hx
    obtain ⟨q, hq, rfl⟩ := List.mem_map.mp hx
    obtain ⟨t, e, l⟩ := h q hq
    have e1 := e_written (N := N) (k := k) e
    simp [rTg, clear, setTgs, ok_some, e1, e]
  · rw [hm, j1]
    simp [mutsOf]
end
end K03


namespace K03
open PySem PySem.Spec PyProof.Rows L2 Mx
def mixed (n k : Int) : Int := ((n % 2147483647 + 7919 * k * k + 31 * k) * 48271 % 2147483647) * (69621 + 2 * k) % 2147483629
theorem mulOk_l {i j : Int} (h1 : -(2 ^ 64) < i) (h2 : i < 2 ^ 64) : mulOk i j = true := by
  unfold mulOk; rw [decide_eq_true h1, decide_eq_true h2]; rfl
theorem mulOk_r {i j : Int} (h1 : -(2 ^ 64) < j) (h2 : j < 2 ^ 64) : mulOk i j = true := by
  unfold mulOk; rw [decide_eq_true h1, decide_eq_true h2]; simp
theorem r_mixed {N k : Nat} (n c : Int) (h0 : 0 ≤ c) (h1 : c < 2 ^ 40) : OkF (runF T.fns N (k + 1) i__law_mixed [.int n, .int c]) fun d ms => d = .int (mixed n c) ∧ ms = [.non, .non] := by
  refine okF_run (fn := f__law_mixed) rfl rfl ?_
  have m1 : mulOk 7919 c = true := mulOk_l (by decide) (by decide)
  have m2 : mulOk (7919 * c) c = true := mulOk_r (by omega) (by omega)
  have m3 : mulOk 31 c = true := mulOk_l (by decide) (by decide)
  have m4 : ∀ x : Int, mulOk x 48271 = true := fun x => mulOk_r (by decide) (by decide)
  have m5 : mulOk 2 c = true := mulOk_l (by decide) (by decide)
  have m6 : ∀ x : Int, mulOk x (69621 + 2 * c) = true := fun x => mulOk_r (by omega) (by omega)
  simp [f__law_mixed, b__law_mixed, Fn.start, startA, b_mulI, b_modI, m1, m2, m3, m4, m5, m6, mutsOf, mixed]
/-- a stream: its counter at most n -/
def St (n : Nat) (s : IV) : Prop := ∃ a b c : Int, s = .lst [.int a, .int b, .int c] ∧ 0 ≤ b ∧ b ≤ n
theorem St.mono {n m : Nat} {s : IV} (h : St n s) (l : n ≤ m) : St m s := by
  obtain ⟨a, b, c, e, h1, h2⟩ := h
  exact ⟨a, b, c, e, h1, by omega⟩
theorem r_stream {N k : Nat} (i c : Int) (h0 : 0 ≤ c) (h1 : c < 2 ^ 40) : OkF (runF T.fns N (k + 2) i__law_stream [.int i, .int c]) fun d ms => St 0 d ∧ ms = [.non, .non] := by
  refine okF_run (fn := f__law_stream) rfl rfl ?_
  have p : binD .pow (.int 10) (.int 18) = some (.int (10 ^ 18)) := rfl
  simp [f__law_stream, b__law_stream, Fn.start, startA, p]
  split
  · refine (r_mixed i c h0 h1).mono fun d ms ⟨e1, e2⟩ => ?_
    subst e1; subst e2
    simp [mutsOf, St, SZ]
    exact ⟨_, 0, ⟨rfl, rfl⟩, by decide, by decide⟩
  · refine (r_mixed i c h0 h1).mono fun d ms ⟨e1, e2⟩ => ?_
    subst e1; subst e2
    simp [mutsOf, St, SZ]
    exact ⟨_, 0, ⟨rfl, rfl⟩, by decide, by decide⟩
theorem mixed_nn (n k : Int) : 0 ≤ mixed n k := Int.emod_nonneg _ (by decide)
theorem r_draw {N k n : Nat} {s : IV} {top : Int} (hs : St n s) (hn : n < 2 ^ 39) (h0 : 0 < top) (h1 : top < 1073741824) : OkF (runF T.fns N (k + 2) i__law_draw [s, .int top]) fun d ms => ∃ v s', d = .int v ∧ 0 ≤ v ∧ v < top ∧ ms = [s', .non] ∧ St (n + 1) s' := by
  obtain ⟨a, b, c, rfl, hb0, hb1⟩ := hs
  refine okF_run (fn := f__law_draw) rfl rfl ?_
  have i1 : ∀ x y z : Int, ixD (.lst [.int x, .int y, .int z]) (.int 0) = some (.int x) := fun _ _ _ => rfl
  have i2 : ∀ x y z : Int, ixD (.lst [.int x, .int y, .int z]) (.int 1) = some (.int y) := fun _ _ _ => rfl
  have i3 : ∀ x y z : Int, ixD (.lst [.int x, .int y, .int z]) (.int 2) = some (.int z) := fun _ _ _ => rfl
  have s1 : ∀ x y z w : Int, setD (.int 1) (.int w) (.lst [.int x, .int y, .int z]) = some (.lst [.int x, .int w, .int z]) := fun _ _ _ _ => rfl
  have s0 : ∀ x y z w : Int, setD (.int 0) (.int w) (.lst [.int x, .int y, .int z]) = some (.lst [.int w, .int y, .int z]) := fun _ _ _ _ => rfl
  have st : ∀ x : Int, St (n + 1) (.lst [.int x, .int (b + 1), .int c]) := fun x => ⟨x, b + 1, c, rfl, by omega, by omega⟩
  simp [f__law_draw, b__law_draw, Fn.start, startA, i1, i2, i3, s0, s1]
  split
  · refine (r_mixed c (b + 1) (by omega) (by omega)).mono fun d ms ⟨e1, e2⟩ => ?_
    subst e1; subst e2
    simp
    refine (r_mixed (mixed c (b + 1)) 7 (by decide) (by decide)).mono fun d ms ⟨e1, e2⟩ => ?_
    subst e1; subst e2
    simp [b_modI h0, mutsOf, Int.emod_nonneg _ (Int.ne_of_gt h0), Int.emod_lt_of_pos _ h0, st]
  · simp [b_modI h0, b_fdivI h0 h1, mutsOf, Int.emod_nonneg _ (Int.ne_of_gt h0), Int.emod_lt_of_pos _ h0, st, i1, i2, i3, s0, s1]
theorem atI_mem {xs : List IV} {v : Int} (h0 : 0 ≤ v) (h1 : v < xs.length) : ∃ d, atI xs v = some d ∧ d ∈ xs := by
  have hn : v.toNat < xs.length := by omega
  refine ⟨xs[v.toNat], ?_, List.getElem_mem hn⟩
  unfold atI ixN
  rw [if_pos h0, if_pos h1]
  show xs[v.toNat]? = _
  exact List.getElem?_eq_getElem hn
theorem r_pick {N k n : Nat} {s : IV} {xs : List IV} (hs : St n s) (hn : n < 2 ^ 39) (h0 : xs ≠ []) (h1 : xs.length < 1000) : OkF (runF T.fns N (k + 3) i__law_pick [s, .lst xs]) fun d ms => d ∈ xs ∧ ∃ s', ms = [s', .non] ∧ St (n + 1) s' := by
  refine okF_run (fn := f__law_pick) rfl rfl ?_
  simp [f__law_pick, b__law_pick, Fn.start, startA]
  have hl : 0 < xs.length := List.length_pos_iff.mpr h0
  refine (r_draw hs hn (by omega) (by omega)).mono fun d ms ⟨v, s', e1, v0, v1, e2, hs'⟩ => ?_
  subst e1; subst e2
  obtain ⟨d, ed, hd⟩ := atI_mem v0 v1
  have e : ixD (.lst xs) (.int v) = some d := ed
  simp [e, mutsOf, hd, hs']
def PickOk (cs : CS) : Prop := ∀ (n : Nat) (s : IV) (xs : List IV), St n s → n < 2000000 → xs ≠ [] → xs.length < 1000 → OkF (cs i__law_pick [s, .lst xs]) fun d ms => d ∈ xs ∧ ∃ s', ms = [s', .non] ∧ St (n + 1) s'
def DrawOk (cs : CS) : Prop := ∀ (n : Nat) (s : IV) (top : Int), St n s → n < 2000000 → 0 < top → top < 1073741824 → OkF (cs i__law_draw [s, .int top]) fun d ms => ∃ v s', d = .int v ∧ 0 ≤ v ∧ v < top ∧ ms = [s', .non] ∧ St (n + 1) s'
theorem pickOk {N k : Nat} : PickOk (runF T.fns N (k + 3)) := fun n s xs hs hn h0 h1 => r_pick hs (by omega) h0 h1
theorem drawOk {N k : Nat} : DrawOk (runF T.fns N (k + 2)) := fun n s top hs hn h0 h1 => r_draw hs (by omega) h0 h1
end K03


/-! K03: drawn names, paths. -/
namespace K03
open PySem PySem.Spec PyProof.Rows L2 Mx Scn
theorem f_listS {l : List Nat} (h : l.length ≤ SZ) : fnD .list [.str l] = some (.lst (l.map fun c => .str [c])) := if_pos h
theorem join1 {cs : List Nat} (h : cs.length ≤ 1000) : mtD .join (.str []) [.lst (cs.map fun c => IV.str [c])] = some (.str cs) := by
  show (match texts (cs.map fun c => IV.str [c]) with | some ts => if (ts.map List.length).sum + ts.length * ([] : List Nat).length ≤ SZ then some (IV.str (TL.joinL [] ts)) else none | none => none) = _
  rw [texts_map]
  have z := sum_le (m := 1) (ts := cs.map fun c => [c]) (fun u hu => by obtain ⟨c, _, rfl⟩ := List.mem_map.mp hu; exact Nat.le_refl _)
  rw [List.length_map] at z
  dsimp only
  rw [if_pos (by rw [List.length_map]; have : SZ = 16777216 := rfl; simp at z ⊢; omega), joinL_nil]
  have fl : ∀ l : List Nat, (l.map fun c => [c]).flatten = l := fun l => by
    induction l with
    | nil => rfl
    | cons c l ih => rw [List.map_cons, List.flatten_cons, ih]; rfl
  rw [fl]
theorem seqR_ok {z : Int} (h0 : 0 ≤ z) (h1 : z < 2 ^ 62) : seqR (.int z) = some ((List.range z.toNat).map fun i => .int (i : Nat)) := if_pos ⟨by omega, h1⟩
theorem seqR_nat {z : Nat} (h : z ≤ 1000000) : seqR (.int (z : Nat)) = some ((List.range z).map fun i => .int (i : Nat)) := by
  rw [seqR_ok (by omega) (by omega), Int.toNat_natCast]
theorem sg9 : ∀ c ∈ w_9, c ∈ SG := by decide
theorem let8 : ∀ c ∈ w_8, c ∈ LET := by decide
theorem name_of {c : Nat} {cs : List Nat} (h : c ∈ w_8) (hs : ∀ d ∈ cs, d ∈ w_9) (hl : cs.length ≤ 5) : NameOk (c :: cs) := by
  refine ⟨by simp, decide_eq_true (let8 c h), fun d hd => ?_, by simp; omega⟩
  rcases List.mem_cons.mp hd with z | z
  · rw [z]; exact let_sg c (let8 c h)
  · exact sg9 d (hs d z)
/-- the last row of a drawn name -/
theorem r_name2 {cs : CS} (pk : PickOk cs) {N n c z : Nat} {s2 zd : IV} (hs2 : St n s2) (hn : n < 1900000) (hc : c ∈ w_8) (hz : z ≤ 5) (sr : seqR zd = some ((List.range z).map fun i => .int (i : Nat))) {Z : Xn → List Sl → Prop} {F : Fl → List Sl → Prop} (hF : ∀ t s', NameOk t → t.length ≤ 6 → St (n + 5) s' → F (.rt (.str t)) [.b s', .i (.str [c]), .i zd, .e]) :
    OkX Z (evS cs N (.ret (.bin .add (.var 1) (.mt .join (.cst (.str [])) (.cons (.comp [3] (.rng (.var 2)) .no (.call i__law_pick (.m 0 (.v (.fn .list (.cons (.cst (.str w_9)) .nil)) .nil)))) .nil)))) [.b s2, .i (.str [c]), .i zd, .e]) F := by
  simp only [okS_ret, okE_bin, okE_var, okE_mt, okE_cst, okO_some, strI_str, okEs_cons, okEs_nil, okE_comp, okI_rng, sr, List.getElem?_cons_zero, List.getElem?_cons_succ]
  refine ok_list rfl (by simp; have : SZ = 16777216 := rfl; omega) ?_
  refine ok_comp (fun j acc ρ' => ∃ cs s', acc = cs.map (fun c => IV.str [c]) ∧ (∀ d ∈ cs, d ∈ w_9) ∧ cs.length = j ∧ ρ' = [.b s', .i (.str [c]), .i zd, .e] ∧ St (n + j) s') _ 0 [] ⟨[], s2, rfl, (fun _ h => nomatch h), rfl, rfl, hs2⟩ ?_ ?_
  · rintro j x acc ρ' hx ⟨cs, s3, rfl, hcs, hl, rfl, hs3⟩
    have hj : j < z := by
      have := (List.getElem?_eq_some_iff.mp hx).1
      simpa using this
    simp [f_listS (l := w_9) (by decide)]
    refine (pk _ _ _ hs3 (by omega) (by simp [w_9]) (by simp [w_9])).mono fun d ms ⟨hd, s4, e1, hs4⟩ => ?_
    subst e1
    obtain ⟨e, he, ec⟩ := List.mem_map.mp hd
    subst ec
    simp [clear]
    refine ⟨cs ++ [e], by simp, fun q hq => ?_, by simpa using hl, ?_⟩
    · rcases List.mem_append.mp hq with h | h
      · exact hcs q h
      · rw [List.mem_singleton.mp h]; exact he
    · exact hs4.mono (by omega)
  · rintro ys ρ' ⟨cs, s3, e1, hcs, hl, rfl, hs3⟩
    rw [List.nil_append] at e1
    subst e1
    simp at hl
    have a1 : binD .add (.str [c]) (.str cs) = some (.str (c :: cs)) := b_addS (by simp [SZ]; omega)
    simp [back, join1 (cs := cs) (by omega), a1]
    exact hF _ _ (name_of hc hcs (by omega)) (by simp; omega) (hs3.mono (by simp; omega))
theorem z5 {d : IV} (hd : d ∈ [IV.int 0, .int 0, .int 1, .int 2, .int 5]) : ∃ z : Nat, seqR d = some ((List.range z).map fun i => .int (i : Nat)) ∧ z ≤ 5 := by
  simp at hd
  rcases hd with e | e | e | e
  · exact ⟨0, by rw [e]; exact seqR_nat (z := 0) (by decide), by decide⟩
  · exact ⟨1, by rw [e]; exact seqR_nat (z := 1) (by decide), by decide⟩
  · exact ⟨2, by rw [e]; exact seqR_nat (z := 2) (by decide), by decide⟩
  · exact ⟨5, by rw [e]; exact seqR_nat (z := 5) (by decide), by decide⟩
abbrev n_ret : S := .ret (.bin .add (.var 1) (.mt .join (.cst (.str [])) (.cons (.comp [3] (.rng (.var 2)) .no (.call i__law_pick (.m 0 (.v (.fn .list (.cons (.cst (.str w_9)) .nil)) .nil)))) .nil)))
abbrev n_asg : S := .asg 2 (.call i__law_pick (.m 0 (.v (.lst (.cons (.cst (.int 0)) (.cons (.cst (.int 0)) (.cons (.cst (.int 1)) (.cons (.cst (.int 2)) (.cons (.cst (.int 5)) .nil)))))) .nil)))
theorem r_name1 {cs : CS} (pk : PickOk cs) {N n c : Nat} {s1 : IV} (hs1 : St n s1) (hn : n < 1800000) (hc : c ∈ w_8) {Z : Xn → List Sl → Prop} {F : Fl → List Sl → Prop} (hF : ∀ (z : Nat) (zd s' : IV), z ≤ 5 → seqR zd = some ((List.range z).map fun i => .int (i : Nat)) → St (n + 1) s' → F .nx [.b s', .i (.str [c]), .i zd, .e]) :
    OkX Z (evS cs N n_asg [.b s1, .i (.str [c]), .e, .e]) F := by
  simp [SZ]
  refine (pk _ _ _ hs1 (by omega) (by simp) (by simp)).mono fun d ms h => ?_
  obtain ⟨hd, s2, e1, hs2⟩ := h
  obtain ⟨z, ez, hz⟩ := z5 hd
  subst e1
  simp
  exact hF z d s2 hz ez hs2
theorem r_name3 {cs : CS} (pk : PickOk cs) {N n c : Nat} {s1 : IV} (hs1 : St n s1) (hn : n < 1800000) (hc : c ∈ w_8) {Z : Xn → List Sl → Prop} {F : Fl → List Sl → Prop} (hF : ∀ (t : List Nat) (s' : IV) (ρ : List Sl), NameOk t → t.length ≤ 6 → St (n + 6) s' → F (.rt (.str t)) (.b s' :: ρ)) :
    OkX Z (evSs cs N (.cons n_asg (.cons n_ret .nil)) [.b s1, .i (.str [c]), .e, .e]) F := by
  refine ok_step fun K hK _ => ?_
  refine r_name1 (s1 := s1) (F := K) pk hs1 hn hc fun z zd s2 hz sr hs2 => hK _ ?_
  refine ok_step fun K' _ hR => ?_
  exact r_name2 (z := z) (F := K') pk hs2 (by omega) hc hz sr fun t s' h1 h2 h3 => hR _ _ (hF t s' _ h1 h2 (h3.mono (by omega)))
theorem r_name {N k n : Nat} {s : IV} (hs : St n s) (hn : n < 1000000) : OkF (runF T.fns N (k + 4) i__law_name [s]) fun d ms => ∃ t s', d = .str t ∧ NameOk t ∧ t.length ≤ 6 ∧ ms = [s'] ∧ St (n + 7) s' := by
  refine okF_run (fn := f__law_name) rfl rfl ?_
  have pk := pickOk (N := N) (k := k)
  generalize runF T.fns N (k + 3) = cs at pk ⊢
  simp only [f__law_name, b__law_name, Fn.start, startA, List.length_cons, List.length_nil, List.replicate, List.cons_append, List.nil_append, if_true]
  refine ok_step fun K hK _ => ?_
  simp [f_listS (l := w_8) (by decide)]
  refine (pk _ _ _ hs (by omega) (by simp [w_8]) (by simp [w_8])).mono fun d ms h => ?_
  obtain ⟨hd, s1, e1, hs1⟩ := h
  obtain ⟨c, hc, ec⟩ := List.mem_map.mp hd
  subst ec
  subst e1
  refine hK _ ?_
  simp only [putM_inr, putM_inl, putM_nil, List.getElem?_cons_zero, List.getElem?_cons_succ, put_b, put_o, List.set_cons_zero, List.set_cons_succ]
  refine r_name3 pk hs1 (by omega) hc fun t s' ρ h1 h2 h3 => ?_
  exact ⟨[s'], rfl, t, s', rfl, h1, h2, rfl, h3.mono (by omega)⟩
/-- texts with small data behind -/
theorem join_texts {sp : List Nat} {ts : List (List Nat)} (h1 : ts.length ≤ 1000) (h2 : ∀ t ∈ ts, t.length ≤ 5000) (h3 : sp.length ≤ 10) : mtD .join (.str sp) [.lst (ts.map IV.str)] = some (.str (TL.joinL sp ts)) := by
  show (match texts (ts.map fun t => IV.str t) with | some ts => if (ts.map List.length).sum + ts.length * sp.length ≤ SZ then some (IV.str (TL.joinL sp ts)) else none | none => none) = _
  rw [texts_map (fun t => t)]
  have z := sum_le h2
  dsimp only
  rw [List.map_id', if_pos]
  have : SZ = 16777216 := rfl
  have : ts.length * sp.length ≤ ts.length * 10 := Nat.mul_le_mul_left _ h3
  omega
def NameOkR (cs : CS) : Prop := ∀ (n : Nat) (s : IV), St n s → n < 1000000 → OkF (cs i__law_name [s]) fun d ms => ∃ t s', d = .str t ∧ NameOk t ∧ t.length ≤ 6 ∧ ms = [s'] ∧ St (n + 7) s'
theorem nameOk {N k : Nat} : NameOkR (runF T.fns N (k + 4)) := fun n s hs hn => r_name hs hn
theorem r_path {N k n : Nat} {s : IV} {m : Bool} (hs : St n s) (hn : n < 900000) : OkF (runF T.fns N (k + 5) i__law_path [s, .bl m]) fun d ms => ∃ p ps s', d = .str (TL.joinL [46] (p :: ps)) ∧ ps.length ≤ 7 ∧ PartOk m p ∧ (∀ q ∈ ps, PartOk m q) ∧ (∀ q ∈ p :: ps, q.length ≤ 16) ∧ ms = [s', .non] ∧ St (n + 100) s' := by
  refine okF_run (fn := f__law_path) rfl rfl ?_
  have pk := pickOk (N := N) (k := k + 1)
  have dw := drawOk (N := N) (k := k + 2)
  have nm := nameOk (N := N) (k := k)
  generalize runF T.fns N (k + 4) = cs at pk dw nm ⊢
  simp only [f__law_path, b__law_path, Fn.start, startA, List.length_cons, List.length_nil, List.replicate, List.cons_append, List.nil_append, if_true, if_false, Bool.false_eq_true]
  refine ok_step fun K hK _ => ?_
  simp [SZ]
  refine hK _ ?_
  refine ok_step fun K hK _ => ?_
  simp [SZ]
  refine (pk _ _ _ hs (by omega) (by simp) (by simp)).mono fun d ms ⟨hd, s1, e1, hs1⟩ => ?_
  subst e1
  have hz : ∃ z : Nat, d = .int (z : Nat) ∧ 1 ≤ z ∧ z ≤ 8 := by
    simp at hd
    rcases hd with e | e | e | e
    · exact ⟨1, e, by decide, by decide⟩
    · exact ⟨2, e, by decide, by decide⟩
    · exact ⟨3, e, by decide, by decide⟩
    · exact ⟨8, e, by decide, by decide⟩
  obtain ⟨z, ez, hz0, hz⟩ := hz
  subst ez
  have sr := seqR_nat (z := z) (by omega)
  simp [sr]
  refine ok_for (fun j ρ => ∃ (ts : List (List Nat)) (s' : IV) (a b : Sl), ρ = [.b s', .i (.bl m), .o (.lst (ts.map IV.str)), a, b] ∧ ts.length = j ∧ (∀ t ∈ ts, PartOk m t ∧ t.length ≤ 16) ∧ St (n + 1 + j * 10) s') _ 0 ⟨[], s1, .e, .e, rfl, rfl, (fun _ h => nomatch h), hs1⟩ ?_ ?_
  · rintro j x ρ hx ⟨ts, s2, a, b, rfl, hl, ht, hs2⟩
    have hj : j < z := by
      have := (List.getElem?_eq_some_iff.mp hx).1
      simpa using this
    simp
    refine (nm _ _ hs2 (by omega)).mono fun d ms ⟨t, s3, e1, hN, hl3, e2, hs3⟩ => ?_
    subst e1; subst e2
    have ap : ∀ u : List Nat, appD (.str u) (.lst (ts.map IV.str)) = some (.lst (ts.map IV.str ++ [.str u])) := fun u => by
      show (if (ts.map IV.str).length < SZ then _ else none) = _
      rw [if_pos (by rw [List.length_map]; have : SZ = 16777216 := rfl; omega)]
    cases m with
    | false =>
      simp [OkV, ap]
      exact ⟨ts ++ [t], s3, ⟨rfl, by simp⟩, by simpa using hl, fun q hq => by
        rcases List.mem_append.mp hq with h | h
        · exact ht q h
        · rw [List.mem_singleton.mp h]; exact ⟨.name hN, by omega⟩, hs3.mono (by omega)⟩
    | true =>
      simp
      refine (dw _ _ 3 hs3 (by omega) (by decide) (by decide)).mono fun d ms ⟨v, s4, e1, v0, v1, e2, hs4⟩ => ?_
      subst e1; subst e2
      by_cases hv : v = 0
      · have a1 : binD .add (.str t) (.str [64]) = some (.str (t ++ [64])) := b_addS (by simp [SZ]; omega)
        simp [hv, a1, SZ]
        refine (pk _ _ _ hs4 (by omega) (by simp) (by simp)).mono fun d ms ⟨hd, s5, e2, hs5⟩ => ?_
        subst e2
        have hd' : ∃ u, d = .str u ∧ u ≠ [] ∧ (∀ c ∈ u, c ∈ DI) ∧ u.length ≤ 9 ∧ Scn.hd [48] u = false := by
          simp at hd
          rcases hd with e | e | e
          · exact ⟨[49], e, by decide, by decide, by decide, rfl⟩
          · exact ⟨[50, 48], e, by decide, by decide, by decide, rfl⟩
          · exact ⟨w_10, e, by decide, by decide, by decide, rfl⟩
        obtain ⟨u, eu, u0, u1, u2, u3⟩ := hd'
        subst eu
        have a2 : binD .add (.str (t ++ [64])) (.str u) = some (.str (t ++ 64 :: u)) := by
          rw [b_addS (by simp [SZ]; omega)]
          simp
        simp [a2, OkV, ap]
        exact ⟨ts ++ [t ++ 64 :: u], s5, ⟨rfl, by simp⟩, by simpa using hl, fun q hq => by
          rcases List.mem_append.mp hq with h | h
          · exact ht q h
          · rw [List.mem_singleton.mp h]
            exact ⟨.made rfl hN u0 u1 u2 u3, by simp; omega⟩, hs5.mono (by omega)⟩
      · simp [hv, OkV, ap]
        exact ⟨ts ++ [t], s4, ⟨rfl, by simp⟩, by simpa using hl, fun q hq => by
          rcases List.mem_append.mp hq with h | h
          · exact ht q h
          · rw [List.mem_singleton.mp h]; exact ⟨.name hN, by omega⟩, hs4.mono (by omega)⟩
  · rintro ρ ⟨ts, s2, a, b, rfl, hl, ht, hs2⟩
    refine hK _ ?_
    simp at hl
    have j1 := join_texts (sp := [46]) (ts := ts) (by omega) (fun t h => Nat.le_trans (ht t h).2 (by decide)) (by decide)
    simp [j1, mutsOf]
    cases ts with
    | nil => simp at hl; omega
    | cons p ps =>
      exact ⟨p, ps, rfl, by simp at hl; omega, (ht p List.mem_cons_self).1, fun q hq => (ht q (List.mem_cons_of_mem _ hq)).1, ⟨(ht p List.mem_cons_self).2, fun q hq => (ht q (List.mem_cons_of_mem _ hq)).2⟩, hs2.mono (by simp; omega)⟩
end K03


/-! K03: drawn numbers and characters. -/
namespace K03
open PySem PySem.Spec PyProof.Rows L2 Mx Scn
theorem w11 : w_11 = DG := rfl
theorem r_digits {N k v d b : Nat} (hN : 100 < N) (hb : b = 10 ∨ b = 16 ∨ b = 2) (hv : v < b ^ d) (hd : 1 ≤ d) (hd2 : d ≤ 64) : OkF (runF T.fns N (k + 1) i__law_digits [.int (v : Nat), .int (b : Nat)]) fun x ms => ∃ ds, x = .str ds ∧ ds ≠ [] ∧ ds.length ≤ d ∧ (∀ c ∈ ds, c ∈ digsOf b ∧ c ∈ DG) ∧ numB b ds = v ∧ ms = [.non, .non] := by
  refine okF_run (fn := f__law_digits) rfl rfl ?_
  have b0 : 0 < b := by omega
  have m1 : ∀ w : Nat, binD .mod (.int (w : Nat)) (.int (b : Nat)) = some (.int ((w % b : Nat) : Int)) := fun w => by
    rw [b_modI (by omega)]
    rfl
  have q1 : ∀ w : Nat, binD .fdiv (.int (w : Nat)) (.int (b : Nat)) = some (.int ((w / b : Nat) : Int)) := fun w => by
    rw [b_fdivI (by omega) (by omega)]
    rfl
  have i1 : ∀ w : Nat, ∃ c, ixD (.str w_11) (.int ((w % b : Nat) : Int)) = some (.str [c]) ∧ c ∈ digsOf b ∧ digV c = some (w % b) ∧ c ∈ DG := fun w => by
    have lt : w % b < b := Nat.mod_lt _ b0
    obtain ⟨c, h1, h2, h3, h4⟩ := dg_ok hb lt
    refine ⟨c, ?_, h2, h3, h4⟩
    show (if w_11.length ≤ SZ then (atI w_11 ((w % b : Nat) : Int)).map fun c => IV.str [c] else none) = _
    rw [if_pos (by decide)]
    have e : atI w_11 ((w % b : Nat) : Int) = some c := by
      have l16 : w_11.length = 16 := rfl
      unfold atI ixN
      rw [if_pos (by omega), if_pos (by rw [l16]; omega)]
      show w_11[((w % b : Nat) : Int).toNat]? = some c
      rw [Int.toNat_natCast, w11]
      exact h1
    rw [e]
    rfl
  obtain ⟨c0, x1, x2, x3, x4⟩ := i1 v
  simp only [f__law_digits, b__law_digits, Fn.start, startA, List.length_cons, List.length_nil, List.replicate, List.cons_append, List.nil_append, if_true, if_false, Bool.false_eq_true]
  refine ok_step fun K hK _ => ?_
  simp [m1]
  simp only [Int.natCast_emod] at x1
  simp [x1]
  refine hK _ ?_
  rw [okSs_cons, okS_whl]
  refine ok_while (fun j ρ => ∃ (w : Nat) (ds : List Nat), ρ = [.i (.int (w : Nat)), .i (.int (b : Nat)), .i (.str ds)] ∧ w < b ^ (j + 1) ∧ ds.length + j = d ∧ ds ≠ [] ∧ (∀ c ∈ ds, c ∈ digsOf b ∧ c ∈ DG) ∧ v = (w / b) * b ^ ds.length + numB b ds) ?_ N (d - 1) (by omega) ⟨v, [c0], rfl, by rw [show d - 1 + 1 = d by omega]; exact hv, by simp; omega, by simp, fun c hc => by rw [List.mem_singleton.mp hc]; exact ⟨x2, x4⟩, ?_⟩
  · rintro j ρ ⟨w, ds, rfl, hw, hl, hne, hall, hval⟩
    by_cases hge : b ≤ w
    · cases j with
      | zero =>
        rw [Nat.zero_add, Nat.pow_one] at hw
        omega
      | succ j =>
      have hge' : (b : Int) ≤ (w : Int) := by omega
      obtain ⟨c, y1, y2, y3, y4⟩ := i1 (w / b)
      have a1 : binD .add (.str [c]) (.str ds) = some (.str (c :: ds)) := b_addS (by simp [SZ]; omega)
      have q2 := q1 w
      have m2 := m1 (w / b)
      simp only [Int.natCast_emod, Int.natCast_ediv] at q2 m2 y1
      simp [hge', q2, m2, y1, a1]
      refine ⟨j, by omega, w / b, c :: ds, ⟨by simp, rfl⟩, ?_, by simp; omega, by simp, ?_, ?_⟩
      · rw [Nat.div_lt_iff_lt_mul b0, ← Nat.pow_succ]
        exact hw
      · intro q hq
        rcases List.mem_cons.mp hq with h | h
        · rw [h]; exact ⟨y2, y4⟩
        · exact hall q h
      · rw [numB_cons, y3, hval]
        show w / b * b ^ ds.length + numB b ds = w / b / b * b ^ (ds.length + 1) + (w / b % b * b ^ ds.length + numB b ds)
        rw [Nat.pow_succ, ← Nat.add_assoc, Nat.mul_comm (b ^ ds.length) b, ← Nat.mul_assoc, ← Nat.add_mul]
        congr 2
        rw [Nat.mul_comm]
        exact (Nat.div_add_mod (w / b) b).symm
    · have hge' : ¬ (b : Int) ≤ (w : Int) := by omega
      have z : w / b = 0 := Nat.div_eq_of_lt (by omega)
      rw [z, Nat.zero_mul, Nat.zero_add] at hval
      simp [hge', mutsOf]
      exact ⟨hne, by omega, hall, hval.symm⟩
  · rw [numB_cons, x3]
    show v = v / b * b ^ 1 + (v % b * b ^ 0 + 0)
    rw [Nat.pow_one, Nat.pow_zero, Nat.mul_one, Nat.add_zero, Nat.mul_comm]
    exact (Nat.div_add_mod v b).symm
end K03


/-! K03: drawn characters, numerals. -/
namespace K03
open PySem PySem.Spec PyProof.Rows L2 Mx Scn
def CH : List Nat := w_6 ++ w_7
theorem e_chars {N k : Nat} : runF T.fns N (k + 1) i__law_characters [] = some (.ok (.str CH), []) := by kernel_rfl
theorem ch_kc : ∀ c ∈ CH ++ [10, 92, 39, 34, 59, 10], c ∈ KC := by decide +kernel
/-- what a drawn unit is -/
def UnitR (mark n : Nat) (d : IV) (ms : List IV) : Prop := ∃ c t s', d = .tup [.str [c], .str t] ∧ UnitOk mark c t ∧ lineOk t = true ∧ c ∈ KC ∧ t.length ≤ 2 ∧ (shw mark c).length ≤ t.length ∧ ms = [s', .non] ∧ St (n + 2) s'
theorem unit_plain {mark c : Nat} (hc : c ∈ KC) (h1 : c ≠ 10) (h2 : c ≠ mark) (h3 : c ≠ 92) : UnitOk mark c [c] ∧ lineOk [c] = true ∧ (shw mark c).length ≤ 1 := by
  refine ⟨.inl ⟨rfl, h2, h3⟩, ?_, ?_⟩
  · have z : ∀ c ∈ KC, c ≠ 10 → lineOk [c] = true := by decide +kernel
    exact z c hc h1
  · unfold shw
    rw [if_neg h1, if_neg (by omega)]
    exact Nat.le_refl _
theorem unit_esc {mark c : Nat} (h : c = 34 ∨ c = 39 ∨ c = 92) : UnitOk mark c [92, c] ∧ lineOk [92, c] = true := by
  obtain ⟨a, b⟩ := esc_of h
  exact ⟨.inr ⟨c, a, rfl, b.symm⟩, by rcases h with rfl | rfl | rfl <;> decide⟩
theorem r_unit {N k n mark : Nat} {s : IV} (hm : mark = 39 ∨ mark = 34) (hs : St n s) (hn : n < 1000000) : OkF (runF T.fns N (k + 4) i__law_unit [s, .str [mark]]) (UnitR mark n) := by
  refine okF_run (fn := f__law_unit) rfl rfl ?_
  have e1 : runF T.fns N (k + 3) i__law_characters [] = some (.ok (.str CH), []) := e_chars
  have pk := pickOk (N := N) (k := k)
  have dw := drawOk (N := N) (k := k + 1)
  generalize runF T.fns N (k + 3) = cs at e1 pk dw ⊢
  simp only [f__law_unit, b__law_unit, Fn.start, startA, List.length_cons, List.length_nil, List.replicate, List.cons_append, List.nil_append, if_true, if_false, Bool.false_eq_true]
  have a1 : binD .add (.lst (CH.map fun c => IV.str [c])) (.lst [.str [10], .str [92], .str [39], .str [34], .str [59], .str [10]]) = some (.lst ((CH ++ [10, 92, 39, 34, 59, 10]).map fun c => IV.str [c])) := by
    rw [b_addL (by decide), List.map_append]
    rfl
  have fl : fnD .list [.str CH] = some (.lst (CH.map fun c => .str [c])) := f_listS (by decide)
  refine ok_step fun K hK _ => ?_
  simp [e1, fl, SZ]
  rw [a1]
  refine (pk _ _ _ hs (by omega) (by simp) (by rw [List.length_map]; decide)).mono fun d ms h => ?_
  obtain ⟨hd, s1, e2, hs1⟩ := h
  obtain ⟨c, hc, ec⟩ := List.mem_map.mp hd
  have hkc := ch_kc c hc
  subst ec
  subst e2
  clear hd hc
  refine hK _ ?_
  simp only [putM_inr, putM_inl, putM_nil, List.getElem?_cons_zero, List.getElem?_cons_succ, put_b, put_o, List.set_cons_zero, List.set_cons_succ]
  refine ok_step fun K hK hR => ?_
  by_cases h1 : c = 10
  · subst h1
    simp [SZ]
    refine hR _ _ ⟨[s1, .non], rfl, 10, [92, 110], s1, rfl, .inr ⟨110, by decide, rfl, rfl⟩, by decide, hkc, by decide, by rw [show shw mark 10 = [92, 110] from rfl]; exact Nat.le_refl _, rfl, hs1.mono (by omega)⟩
  · simp [h1]
    refine hK _ ?_
    refine ok_step fun K hK hR => ?_
    have fin1 : ∀ s', St (n + 2) s' → UnitR mark n (.tup [.str [c], .str [92, c]]) [s', .non] ∨ ¬ (c = 34 ∨ c = 39 ∨ c = 92) := fun s' h => by
      by_cases hq : c = 34 ∨ c = 39 ∨ c = 92
      · obtain ⟨q1, q2⟩ := unit_esc (mark := mark) hq
        exact .inl ⟨c, [92, c], s', rfl, q1, q2, hkc, by simp, shw_len, rfl, h⟩
      · exact .inr hq
    have a2 : binD .add (.str [92]) (.str [c]) = some (.str [92, c]) := b_addS (by simp [SZ])
    by_cases h2 : c = mark ∨ c = 92
    · have h2' : mark = c ∨ 92 = c := h2.imp Eq.symm Eq.symm
      simp [in_tup, flatD, eqF, SZ, h2', a2]
      refine hR _ _ ⟨[s1, .non], rfl, ?_⟩
      exact (fin1 s1 (hs1.mono (by omega))).resolve_right (by omega)
    · have h3 : ¬ mark = c := fun z => h2 (.inl z.symm)
      have h4 : ¬ 92 = c := fun z => h2 (.inr z.symm)
      obtain ⟨q1, q2, q3⟩ := unit_plain hkc h1 (fun z => h3 z.symm) (fun z => h4 z.symm)
      by_cases h5 : c = 39 ∨ c = 34
      · have h5' : 39 = c ∨ 34 = c := h5.imp Eq.symm Eq.symm
        simp [in_tup, flatD, eqF, SZ, h3, h4, h5']
        refine (dw _ _ 2 hs1 (by omega) (by decide) (by decide)).mono fun d ms h => ?_
        obtain ⟨v, s2, e3, v0, v1, e4, hs2⟩ := h
        subst e3
        subst e4
        by_cases hv : v = 0
        · simp [hv, a2, SZ]
          refine hR _ _ ⟨[s2, .non], rfl, ?_⟩
          exact (fin1 s2 hs2).resolve_right (by omega)
        · simp [hv]
          refine hK _ ?_
          simp [SZ, mutsOf]
          exact ⟨c, [c], s2, rfl, q1, q2, hkc, by simp, q3, rfl, hs2⟩
      · have h6 : ¬ 39 = c := fun z => h5 (.inl z.symm)
        have h7 : ¬ 34 = c := fun z => h5 (.inr z.symm)
        simp [in_tup, flatD, eqF, SZ, h3, h4, h6, h7]
        refine hK _ ?_
        simp [SZ, mutsOf]
        exact ⟨c, [c], s1, rfl, q1, q2, hkc, by simp, q3, rfl, hs1.mono (by omega)⟩
end K03


/-! K03: drawn numerals. -/
namespace K03
open PySem PySem.Spec PyProof.Rows L2 Mx Scn
def DigOk (cs : CS) : Prop := ∀ (v d b : Nat), (b = 10 ∨ b = 16 ∨ b = 2) → v < b ^ d → 1 ≤ d → d ≤ 64 → OkF (cs i__law_digits [.int (v : Nat), .int (b : Nat)]) fun x ms => ∃ ds, x = .str ds ∧ ds ≠ [] ∧ ds.length ≤ d ∧ (∀ c ∈ ds, c ∈ digsOf b ∧ c ∈ DG) ∧ numB b ds = v ∧ ms = [.non, .non]
theorem digOk {N k : Nat} (hN : 100 < N) : DigOk (runF T.fns N (k + 1)) := fun v d b h1 h2 h3 h4 => r_digits hN h1 h2 h3 h4
def NumR (n : Nat) (d : IV) (ms : List IV) : Prop := ∃ (v : Nat) (t : List Nat) (s' : IV), d = .tup [.int (v : Nat), .str t] ∧ NumOk v t ∧ t.length ≤ 42 ∧ (strI' ((v : Nat) : Int)).length ≤ t.length + 2 ∧ v ≤ 18446744073709551616 ∧ ms = [s'] ∧ St (n + 5) s'
theorem mulS {z : Nat} (h : z ≤ 1000) : binD .mul (.str [48]) (.int (z : Nat)) = some (.str (List.replicate z 48)) := by
  show (if 0 ≤ ((z : Nat) : Int) ∧ ((z : Nat) : Int) ≤ SZ ∧ [48] ≠ [] ∧ [48].length * ((z : Nat) : Int).toNat ≤ SZ then some (IV.str (List.replicate ((z : Nat) : Int).toNat [48]).flatten) else none) = _
  have : SZ = 16777216 := rfl
  rw [if_pos ⟨by omega, by omega, by simp, by simp; omega⟩, Int.toNat_natCast]
  have fl : ∀ n : Nat, (List.replicate n [48]).flatten = List.replicate n 48 := fun n => by
    induction n with
    | zero => rfl
    | succ n ih => rw [List.replicate_succ, List.flatten_cons, ih]; rfl
  rw [fl]
theorem num_pick {d : IV} {w : Int} (w0 : 0 ≤ w) (w1 : w < 1000000) (hd : d ∈ [IV.int 0, .int 1, .int 9, .int 10, .int 255, .int 18446744073709551616, .int 18446744073709551615, .int w]) : ∃ v : Nat, d = .int (v : Nat) ∧ v ≤ 18446744073709551616 := by
  simp at hd
  rcases hd with e | e | e | e | e | e | e | e
  · exact ⟨0, e, by decide⟩
  · exact ⟨1, e, by decide⟩
  · exact ⟨9, e, by decide⟩
  · exact ⟨10, e, by decide⟩
  · exact ⟨255, e, by decide⟩
  · exact ⟨18446744073709551616, e, by decide⟩
  · exact ⟨18446744073709551615, e, by decide⟩
  · exact ⟨w.toNat, by rw [e, Int.toNat_of_nonneg w0], by omega⟩
theorem zer_pick {d : IV} (hd : d ∈ [IV.int 0, .int 0, .int 1, .int 20]) : ∃ z : Nat, binD .mul (.str [48]) d = some (.str (List.replicate z 48)) ∧ z ≤ 20 := by
  simp at hd
  rcases hd with e | e | e
  · exact ⟨0, by rw [e]; exact mulS (z := 0) (by decide), by decide⟩
  · exact ⟨1, by rw [e]; exact mulS (z := 1) (by decide), by decide⟩
  · exact ⟨20, by rw [e]; exact mulS (z := 20) (by decide), by decide⟩
/-- zeros in front of digits -/
theorem zeros_num {b v z : Nat} {ds pre : List Nat} (hb : b = 10 ∧ pre = [] ∨ b = 16 ∧ pre = [48, 120] ∨ b = 2 ∧ pre = [48, 98]) (h0 : ds ≠ []) (hl : z + ds.length ≤ 40) (h1 : ∀ c ∈ ds, c ∈ digsOf b) (hv : numB b ds = v) (hm : v ≤ 18446744073709551616) (h16 : b = 16 → ds.length ≤ 17) : NumOk v (pre ++ (List.replicate z 48 ++ ds)) ∧ (strI' ((v : Nat) : Int)).length ≤ (pre ++ (List.replicate z 48 ++ ds)).length + 2 := by
  have hb' : b = 10 ∨ b = 16 ∨ b = 2 := by rcases hb with h | h | h <;> simp [h.1]
  have z48 : 48 ∈ digsOf b := by rcases hb' with rfl | rfl | rfl <;> decide
  refine ⟨⟨b, pre, List.replicate z 48 ++ ds, rfl, by simp [h0], by simp; omega, fun c hc => ?_, by rw [numB_zeros, hv], hm, hb⟩, ?_⟩
  · rcases List.mem_append.mp hc with h | h
    · rw [(List.mem_replicate.mp h).2]; exact z48
    · exact h1 c h
  · have q := dec_short hb' h1 hv.symm h16 h0
    have pl : b = 16 → 2 ≤ pre.length := fun z => by rcases hb with h | h | h <;> simp [h.2] <;> omega
    simp only [List.length_append, List.length_replicate]
    by_cases hx : b = 16
    · rw [if_pos hx] at q
      have := pl hx
      omega
    · rw [if_neg hx] at q
      omega
theorem r_numeral {N k n : Nat} {s : IV} (hN : 100 < N) (hs : St n s) (hn : n < 1000000) : OkF (runF T.fns N (k + 4) i__law_numeral [s]) (NumR n) := by
  refine okF_run (fn := f__law_numeral) rfl rfl ?_
  have pk := pickOk (N := N) (k := k)
  have dw := drawOk (N := N) (k := k + 1)
  have dg := digOk (N := N) (k := k + 2) hN
  generalize runF T.fns N (k + 3) = cs at dg pk dw ⊢
  simp only [f__law_numeral, b__law_numeral, Fn.start, startA, List.length_cons, List.length_nil, List.replicate, List.cons_append, List.nil_append, if_true, if_false, Bool.false_eq_true]
  have p64 : binD .pow (.int 2) (.int 64) = some (.int 18446744073709551616) := rfl
  have p6 : binD .pow (.int 10) (.int 6) = some (.int 1000000) := rfl
  refine ok_step fun K hK _ => ?_
  simp [p64, p6]
  refine (dw _ _ 1000000 hs (by omega) (by decide) (by decide)).mono fun d ms h => ?_
  obtain ⟨w, s1, e1, w0, w1, e2, hs1⟩ := h
  subst e1
  subst e2
  simp [SZ]
  refine (pk _ _ _ hs1 (by omega) (by simp) (by simp)).mono fun d ms h => ?_
  obtain ⟨hd, s2, e1, hs2⟩ := h
  obtain ⟨v, ev, hv⟩ := num_pick w0 w1 hd
  subst ev
  subst e1
  clear hd
  refine hK _ ?_
  simp only [putM_inr, putM_inl, putM_nil, List.getElem?_cons_zero, List.getElem?_cons_succ, put_b, put_o, List.set_cons_zero, List.set_cons_succ]
  refine ok_step fun K hK _ => ?_
  simp [SZ]
  refine (pk _ _ _ hs2 (by omega) (by simp) (by simp)).mono fun d ms h => ?_
  obtain ⟨hd, s3, e1, hs3⟩ := h
  obtain ⟨z, ez, hz⟩ := zer_pick hd
  subst e1
  simp [ez]
  refine hK _ ?_
  refine ok_step fun K hK _ => ?_
  simp
  refine (dw _ _ 4 hs3 (by omega) (by decide) (by decide)).mono fun d ms h => ?_
  obtain ⟨y, s4, e1, y0, y1, e2, hs4⟩ := h
  subst e1
  subst e2
  refine hK _ ?_
  simp only [putM_inr, putM_inl, putM_nil, List.getElem?_cons_zero, List.getElem?_cons_succ, put_b, put_o, List.set_cons_zero, List.set_cons_succ]
  refine ok_step fun K hK hR => ?_
  by_cases h2 : y < 2
  · simp [h2]
    refine (dg v 20 10 (.inl rfl) (by omega) (by decide) (by decide)).mono fun x ms h => ?_
    obtain ⟨ds, e1, d0, dl, da, dv, e2⟩ := h
    subst e1
    subst e2
    have a1 : binD .add (.str (List.replicate z 48)) (.str ds) = some (.str (List.replicate z 48 ++ ds)) := b_addS (by simp [SZ]; omega)
    obtain ⟨q1, q2⟩ := zeros_num (pre := []) (z := z) (.inl ⟨rfl, rfl⟩) d0 (by omega) (fun c hc => (da c hc).1) dv hv (fun h => by cases h)
    simp [a1, SZ]
    exact hR _ _ ⟨[s4], rfl, v, _, s4, rfl, q1, by simp; omega, q2, hv, rfl, hs4.mono (by omega)⟩
  · simp [h2]
    refine hK _ ?_
    refine ok_step fun K hK hR => ?_
    by_cases h3 : y = 2
    · subst h3
      simp
      refine (dg v 17 16 (.inr (.inl rfl)) (by omega) (by decide) (by decide)).mono fun x ms h => ?_
      obtain ⟨ds, e1, d0, dl, da, dv, e2⟩ := h
      subst e1
      subst e2
      have a1 : binD .add (.str (List.replicate z 48)) (.str ds) = some (.str (List.replicate z 48 ++ ds)) := b_addS (by simp [SZ]; omega)
      simp [a1]
      refine (dw _ _ 2 hs4 (by omega) (by decide) (by decide)).mono fun d ms h => ?_
      obtain ⟨u, s5, e1, u0, u1, e2, hs5⟩ := h
      subst e1
      subst e2
      by_cases hu : u = 0
      · have up1 : mtD .upper (.str (List.replicate z 48 ++ ds)) [] = some (.str (List.replicate z 48 ++ ds.map upC)) := by
          show (if (List.replicate z 48 ++ ds).length ≤ 1000000 then some (IV.str (Txt.upper (sOf (List.replicate z 48 ++ ds))).cps.toList) else none) = _
          rw [if_pos (by simp; omega), upper_list (fun c hc => ?_), sOf_list, List.map_append, List.map_replicate]
          · rfl
          · rcases List.mem_append.mp hc with h | h
            · rw [(List.mem_replicate.mp h).2]; decide
            · have z : ∀ c ∈ DG, c < 128 := by decide
              exact z c (da c h).2
        obtain ⟨q1, q2⟩ := zeros_num (b := 16) (v := v) (pre := [48, 120]) (z := z) (ds := ds.map upC) (.inr (.inl ⟨rfl, rfl⟩)) (by simpa using d0) (by simp; omega) (fun c hc => by
          obtain ⟨e, he, rfl⟩ := List.mem_map.mp hc
          exact (up_dg e (da e he).2).1) (by rw [numB_up fun c hc => (da c hc).2]; exact dv) hv (fun _ => by simpa using dl)
        have a2 : binD .add (.str [48, 120]) (.str (List.replicate z 48 ++ ds.map upC)) = some (.str ([48, 120] ++ (List.replicate z 48 ++ ds.map upC))) := b_addS (by simp [SZ]; omega)
        simp [hu, up1, a2, SZ]
        exact hR _ _ ⟨[s5], rfl, v, _, s5, rfl, q1, by simp; omega, q2, hv, rfl, hs5.mono (by omega)⟩
      · obtain ⟨q1, q2⟩ := zeros_num (pre := [48, 120]) (z := z) (.inr (.inl ⟨rfl, rfl⟩)) d0 (by omega) (fun c hc => (da c hc).1) dv hv (fun _ => dl)
        have a2 : binD .add (.str [48, 120]) (.str (List.replicate z 48 ++ ds)) = some (.str ([48, 120] ++ (List.replicate z 48 ++ ds))) := b_addS (by simp [SZ]; omega)
        simp [hu, a2, SZ]
        exact hR _ _ ⟨[s5], rfl, v, _, s5, rfl, q1, by simp; omega, q2, hv, rfl, hs5.mono (by omega)⟩
    · simp [h3]
      refine hK _ ?_
      have m1 : binD .mod (.int (v : Nat)) (.int 1000000) = some (.int ((v % 1000000 : Nat) : Int)) := by
        rw [b_modI (by omega)]
        rfl
      refine ok_step fun K hK _ => ?_
      simp [p6]
      rw [m1]
      refine hK _ ?_
      have lt : v % 1000000 < 1000000 := Nat.mod_lt _ (by decide)
      have le : v % 1000000 ≤ 18446744073709551616 := by omega
      generalize v % 1000000 = q at lt le ⊢
      have a0 : binD .add (.str [48, 98]) (.str (List.replicate z 48)) = some (.str ([48, 98] ++ List.replicate z 48)) := b_addS (by simp [SZ]; omega)
      simp [a0]
      refine (dg q 20 2 (.inr (.inr rfl)) (by omega) (by decide) (by decide)).mono fun x ms h => ?_
      obtain ⟨ds, e1, d0, dl, da, dv, e2⟩ := h
      subst e1
      subst e2
      obtain ⟨q1, q2⟩ := zeros_num (pre := [48, 98]) (z := z) (.inr (.inr ⟨rfl, rfl⟩)) d0 (by omega) (fun c hc => (da c hc).1) dv le (fun h => by cases h)
      have a2 : binD .add (.str (48 :: 98 :: List.replicate z 48)) (.str ds) = some (.str (48 :: 98 :: (List.replicate z 48 ++ ds))) := b_addS (by simp [SZ]; omega)
      simp [a2, SZ, mutsOf]
      exact ⟨q, _, s4, rfl, q1, by simp; omega, q2, le, rfl, hs4.mono (by omega)⟩
end K03


/-! K03: drawn tokens. -/
namespace K03
open PySem PySem.Spec PyProof.Rows L2 Mx Scn
/-- the value is written as a token again -/
def Wr (m : Bool) (s : List Nat) (v : IV) (t : List Nat) : Prop := ∃ kd' t', wr s v = some t' ∧ Tok m kd' s v t' ∧ t'.length ≤ t.length + 2
theorem wr_self {m : Bool} {kd : Kd} {s t : List Nat} (h : Tok m kd s (.str t) t) (hs : s = sName ∨ s = sLocal ∨ s = sOwn ∨ s = sSign) : Wr m s (.str t) t := by
  refine ⟨kd, t, ?_, h, by omega⟩
  rcases hs with rfl | rfl | rfl | rfl <;> rfl
theorem log2_64 {v : Nat} (h : v ≤ 18446744073709551616) : (((v : Nat) : Int).natAbs).log2 < 1920 := by
  show v.log2 < 1920
  by_cases h0 : v = 0
  · rw [h0]; decide
  · rw [Nat.log2_lt h0]
    exact Nat.lt_of_le_of_lt h (by decide)
theorem wr_num {m : Bool} {v : Nat} {t : List Nat} (h : v ≤ 18446744073709551616) (l : (strI' ((v : Nat) : Int)).length ≤ t.length + 2) : Wr m sNumber (.int (v : Nat)) t := by
  refine ⟨.word, strI' ((v : Nat) : Int), ?_, tok_num (numOk_dec h).1, l⟩
  unfold wr
  rw [if_pos rfl]
  show (if (((v : Nat) : Int).natAbs).log2 < 1920 then some (strI' ((v : Nat) : Int)) else none) = _
  rw [if_pos (log2_64 h)]
theorem wr_char {m : Bool} {c : Nat} {t : List Nat} (hc : c ∈ KC) (l : (shw 39 c).length ≤ t.length) : Wr m sChar (.int (c : Nat)) (39 :: (t ++ [39])) := by
  refine ⟨.quo, 39 :: (shw 39 c ++ [39]), ?_, tok_char (shw_unit (.inl rfl)) (shw_ok hc (.inl rfl)), by simp; omega⟩
  unfold wr
  rw [if_neg (by decide), if_pos rfl]
  show (if 0 ≤ ((c : Nat) : Int) ∧ ((c : Nat) : Int).toNat ∈ KC then some (39 :: (shw 39 ((c : Nat) : Int).toNat ++ [39])) else none) = _
  rw [if_pos ⟨by omega, by rw [Int.toNat_natCast]; exact hc⟩, Int.toNat_natCast]
theorem flat_ok {us : List (Nat × List Nat)} (h : ∀ u ∈ us, lineOk u.2 = true) : lineOk (us.map (·.2)).flatten = true := by
  induction us with
  | nil => rfl
  | cons u us ih =>
    rw [List.map_cons, List.flatten_cons, ok_app, h u List.mem_cons_self, ih fun v hv => h v (List.mem_cons_of_mem _ hv)]
    rfl
theorem wr_str {m : Bool} {us : List (Nat × List Nat)} (hl : us.length ≤ 1000) (hc : ∀ u ∈ us, u.1 ∈ KC ∧ (shw 34 u.1).length ≤ u.2.length) : Wr m sStr (.str (us.map (·.1))) (34 :: ((us.map (·.2)).flatten ++ [34])) := by
  have e : ((us.map (·.1)).map (shw 34)) = ((us.map fun u => (u.1, shw 34 u.1)).map (·.2)) := by simp
  have e1 : us.map (·.1) = (us.map fun u => (u.1, shw 34 u.1)).map (·.1) := by simp
  have len : ((us.map (·.1)).map (shw 34)).flatten.length ≤ (us.map (·.2)).flatten.length := by
    clear hl e e1
    induction us with
    | nil => exact Nat.le_refl _
    | cons u us ih =>
      have a := (hc u List.mem_cons_self).2
      have b := ih fun v hv => hc v (List.mem_cons_of_mem _ hv)
      simp only [List.map_cons, List.flatten_cons, List.length_append] at b ⊢
      omega
  refine ⟨.quo, 34 :: (((us.map (·.1)).map (shw 34)).flatten ++ [34]), ?_, ?_, by simp only [List.length_cons, List.length_append, List.length_nil]; omega⟩
  · unfold wr
    rw [if_neg (by decide), if_neg (by decide), if_pos rfl]
    show (if (us.map (·.1)).length ≤ 1000 then _ else none) = _
    rw [if_pos (by simpa using hl)]
  · rw [e]
    conv => arg 4; rw [e1]
    refine tok_str (fun u hu => ?_) (flat_ok fun u hu => ?_)
    · obtain ⟨w, hw, rfl⟩ := List.mem_map.mp hu
      exact shw_unit (.inr rfl)
    · obtain ⟨w, hw, rfl⟩ := List.mem_map.mp hu
      exact shw_ok (hc w hw).1 (.inr rfl)
inductive VOk : IV → Prop
  | int {i : Int} : VOk (.int i)
  | str {l : List Nat} : ascii l = true → VOk (.str l)
theorem VOk.pl {v : IV} {n : Nat} (h : VOk v) : Pl n v := by
  cases h with
  | int => exact .int
  | str h => exact .str h
def TokR (m : Bool) (n : Nat) (d : IV) (ms : List IV) : Prop := ∃ (kd : Kd) (s : List Nat) (v : IV) (t : List Nat) (s' : IV), d = .tup [.str s, v, .str t] ∧ Tok m kd s v t ∧ t.length ≤ 135 ∧ Wr m s v t ∧ VOk v ∧ ms = [s', .non] ∧ St (n + 200) s'
theorem ascii_ok {l : List Nat} (h : lineOk l = true) : ascii l = true := by
  unfold lineOk ascii at *
  rw [List.all_eq_true] at *
  intro c hc
  have := h c hc
  simp at this ⊢
  omega
theorem join_len {ps : List (List Nat)} (hl : ps.length ≤ 8) (h : ∀ q ∈ ps, q.length ≤ 16) : (TL.joinL [46] ps).length ≤ 135 := by
  have a := joinL_len [46] ps
  have b := sum_le h
  cases ps with
  | nil => simp [TL.joinL]
  | cons p ps =>
    rw [joinDots]
    have c := sum_le (m := 16) (ts := ps) fun q hq => h q (List.mem_cons_of_mem _ hq)
    have d := h p List.mem_cons_self
    have e : (ps.map (46 :: ·)).flatten.length = (ps.map List.length).sum + ps.length := by
      clear a b c d h hl
      induction ps with
      | nil => rfl
      | cons q ps ih => simp only [List.map_cons, List.flatten_cons, List.length_append, List.length_cons, List.sum_cons, ih]; omega
    rw [List.length_append, e]
    simp at hl
    have : ps.length * 16 ≤ 7 * 16 := Nat.mul_le_mul_right _ (by omega)
    omega
/-- the signs as the law has them -/
def LS : List (List Nat) := [[124, 124], [38, 38], [61, 61], [33, 61], [60, 61], [62, 61], [60, 60], [62, 62], [46, 46], [124], [94], [38], [60], [62], [43], [45], [42], [47], [126], [33], [40], [41], [123], [125], [44], [58], [61]]
theorem e_signs {N k : Nat} : runF T.fns N (k + 1) i__law_signs [] = some (.ok (.lst (LS.map IV.str)), []) := by kernel_rfl
theorem ls_signs : ∀ t ∈ LS, t ∈ SIGNS := by decide
theorem dbl_ls : ∀ t ∈ DBL, t ∈ LS := by decide
def PathOkR (cs : CS) : Prop := ∀ (n : Nat) (s : IV) (m : Bool), St n s → n < 900000 → OkF (cs i__law_path [s, .bl m]) fun d ms => ∃ p ps s', d = .str (TL.joinL [46] (p :: ps)) ∧ ps.length ≤ 7 ∧ PartOk m p ∧ (∀ q ∈ ps, PartOk m q) ∧ (∀ q ∈ p :: ps, q.length ≤ 16) ∧ ms = [s', .non] ∧ St (n + 100) s'
theorem pathOk {N k : Nat} : PathOkR (runF T.fns N (k + 5)) := fun n s m hs hn => r_path hs hn
def UnitOkR (cs : CS) : Prop := ∀ (n mark : Nat) (s : IV), (mark = 39 ∨ mark = 34) → St n s → n < 1000000 → OkF (cs i__law_unit [s, .str [mark]]) (UnitR mark n)
theorem unitOk {N k : Nat} : UnitOkR (runF T.fns N (k + 4)) := fun n mark s hm hs hn => r_unit hm hs hn
def NumOkR (cs : CS) : Prop := ∀ (n : Nat) (s : IV), St n s → n < 1000000 → OkF (cs i__law_numeral [s]) (NumR n)
theorem numOk {N k : Nat} (hN : 100 < N) : NumOkR (runF T.fns N (k + 4)) := fun n s hs hn => r_numeral hN hs hn
theorem nat6 {w : Int} (w0 : 0 ≤ w) (w1 : w < 6) : ∃ z : Nat, seqR (.int w) = some ((List.range z).map fun i => .int (i : Nat)) ∧ z ≤ 5 := by
  refine ⟨w.toNat, ?_, by omega⟩
  have e := seqR_nat (z := w.toNat) (by omega)
  rwa [Int.toNat_of_nonneg w0] at e
end K03


/-! K03: drawn tokens, part 2. -/
namespace K03
open PySem PySem.Spec PyProof.Rows L2 Mx Scn
/-- pairs of a unit and how it is written -/
def prs (us : List (Nat × List Nat)) : List IV := us.map fun u => .tup [.str [u.1], .str u.2]
def ch2 (s w m d : IV) : List Sl := [.b s, .i m, .i w, .e, .e, .e, .e, .e, .e, .e, .i d, .e, .e, .e]
theorem r_units {cs : CS} (un : UnitOkR cs) {n z : Nat} {s1 m w : IV} (hs : St n s1) (hn : n < 900000) (hz : z ≤ 5) {xs : List IV} (hx : xs = (List.range z).map fun i => .int (i : Nat)) {Z : Xn → List Sl → Prop} {Q : IV → List Sl → Prop} (hQ : ∀ (us : List (Nat × List Nat)) (s' : IV), us.length ≤ 5 → (∀ u ∈ us, UnitOk 34 u.1 u.2 ∧ lineOk u.2 = true ∧ u.1 ∈ KC ∧ u.2.length ≤ 2 ∧ (shw 34 u.1).length ≤ u.2.length) → St (n + 10) s' → Q (.lst (prs us)) [.b s', .i m, .i w, .e, .e, .e, .e, .e, .e, .e, .e, .e, .e, .e]) :
    OkX Z (rList [11] (evC cs .no) (ev cs (.call i__law_unit (.m 0 (.v (.cst (.str [34])) .nil)))).1 xs [.b s1, .i m, .i w, .e, .e, .e, .e, .e, .e, .e, .e, .e, .e, .e]) Q := by
  subst hx
  refine ok_list rfl (by simp; have : SZ = 16777216 := rfl; omega) ?_
  refine ok_comp (fun j acc ρ' => ∃ us s', acc = prs us ∧ us.length = j ∧ (∀ u ∈ us, UnitOk 34 u.1 u.2 ∧ lineOk u.2 = true ∧ u.1 ∈ KC ∧ u.2.length ≤ 2 ∧ (shw 34 u.1).length ≤ u.2.length) ∧ ρ' = [.b s', .i m, .i w, .e, .e, .e, .e, .e, .e, .e, .e, .e, .e, .e] ∧ St (n + 2 * j) s') _ 0 [] ⟨[], s1, rfl, rfl, (fun _ h => nomatch h), rfl, hs⟩ ?_ ?_
  · rintro j x acc ρ' hx ⟨us, s2, rfl, hl, hu, rfl, hs2⟩
    have hj : j < z := by
      have := (List.getElem?_eq_some_iff.mp hx).1
      simpa using this
    simp
    refine (un _ 34 _ (.inr rfl) hs2 (by omega)).mono fun d ms h => ?_
    obtain ⟨c, t, s3, e1, q1, q2, q3, q4, q5, e2, hs3⟩ := h
    subst e1
    subst e2
    simp [clear]
    refine ⟨us ++ [(c, t)], by simp [prs], by simpa using hl, fun a b hu' => ?_, hs3.mono (by omega)⟩
    rcases List.mem_append.mp hu' with h | h
    · exact hu (a, b) h
    · cases List.mem_singleton.mp h
      exact ⟨q1, q2, q3, q4, q5⟩
  · rintro ys ρ' ⟨us, s2, e1, hl, hu, rfl, hs2⟩
    rw [List.nil_append] at e1
    subst e1
    simp at hl
    exact hQ us s2 (by omega) hu (hs2.mono (by simp; omega))
/-- the parts of the pairs -/
theorem r_part {cs : CS} {us : List (Nat × List Nat)} {i : Nat} {s m w : IV} (g : Nat × List Nat → IV) (hg : ∀ u, ixD (.tup [.str [u.1], .str u.2]) (.int (i : Nat)) = some (g u)) (hl : us.length ≤ 5) {Z : Xn → List Sl → Prop} {Q : IV → List Sl → Prop} (hQ : Q (.lst (us.map g)) (ch2 s w m (.lst (prs us)))) :
    OkX Z (rList [12] (evC cs .no) (ev cs (.ix (.var 12) (.cst (.int (i : Nat))))).1 (prs us) (ch2 s w m (.lst (prs us)))) Q := by
  have hm : (prs us).map (fun x => match x with | .tup [.str [c], .str t] => g (c, t) | _ => .non) = us.map g := by
    unfold prs
    rw [List.map_map]
    rfl
  refine ok_map1 (f := fun x => match x with | .tup [.str [c], .str t] => g (c, t) | _ => .non) (r := .e) rfl rfl (by simp [prs]; have : SZ = 16777216 := rfl; omega) (fun _ _ => id rfl) ?_ ?_
  · intro x hx
    obtain ⟨u, _, rfl⟩ := List.mem_map.mp hx
    simp [ch2, hg]
  · rw [hm]
    exact hQ
theorem r_token {N k n : Nat} {s : IV} {m : Bool} (hN : 100 < N) (hs : St n s) (hn : n < 800000) : OkF (runF T.fns N (k + 6) i__law_token [s, .bl m]) (TokR m n) := by
  refine okF_run (fn := f__law_token) rfl rfl ?_
  have pk := pickOk (N := N) (k := k + 2)
  have dw := drawOk (N := N) (k := k + 3)
  have nm := nameOk (N := N) (k := k + 1)
  have pa := pathOk (N := N) (k := k)
  have un := unitOk (N := N) (k := k + 1)
  have nu := numOk (N := N) (k := k + 1) hN
  have sg := e_signs (N := N) (k := k + 4)
  generalize runF T.fns N (k + 5) = cs at pk dw nm pa un nu sg ⊢
  simp only [f__law_token, b__law_token, Fn.start, startA, List.length_cons, List.length_nil, List.replicate, List.cons_append, List.nil_append, if_true, if_false, Bool.false_eq_true]
  refine ok_step fun K hK _ => ?_
  simp
  refine (dw _ _ 9 hs (by omega) (by decide) (by decide)).mono fun d ms h => ?_
  obtain ⟨w, s1, e1, w0, w1, e2, hs1⟩ := h
  subst e1
  subst e2
  refine hK _ ?_
  simp only [putM_inr, putM_inl, putM_nil, List.getElem?_cons_zero, List.getElem?_cons_succ, put_b, put_o, List.set_cons_zero, List.set_cons_succ]
  refine ok_step fun K hK hR => ?_
  by_cases h2 : w < 2
  · simp [h2]
    refine (pa _ _ m hs1 (by omega)).mono fun d ms h => ?_
    obtain ⟨p, ps, s2, e1, q1, q2, q3, q4, e2, hs2⟩ := h
    subst e1
    subst e2
    have tk := tok_path q1 q2 q3
    have ln : (TL.joinL [46] (p :: ps)).length ≤ 135 := join_len (by simp; omega) q4
    generalize TL.joinL [46] (p :: ps) = t at tk ln ⊢
    have pl : VOk (.str t) := .str (ascii_ok tk.ok)
    by_cases hk : t = kMod
    · rw [if_pos hk] at tk
      have wr := wr_self tk (.inr (.inr (.inr rfl)))
      simp [hk, SZ]
      rw [hk] at tk wr ln pl
      exact hR _ _ ⟨[s2, .non], rfl, .word, sSign, .str kMod, kMod, s2, rfl, tk, ln, wr, pl, rfl, hs2.mono (by omega)⟩
    · rw [if_neg hk] at tk
      have wr := wr_self tk (.inl rfl)
      simp [hk, SZ]
      exact hR _ _ ⟨[s2, .non], rfl, .word, sName, .str t, t, s2, rfl, tk, ln, wr, pl, rfl, hs2.mono (by omega)⟩
  · simp [h2]
    refine hK _ ?_
    refine ok_step fun K hK hR => ?_
    by_cases h3 : w = 2
    · subst h3
      have fin : ∀ (c : Nat) (t : List Nat) (s2 : IV) (ρ : List Sl), (c = 46 ∨ c = 64 ∧ m = false) → NameOk t → t.length ≤ 6 → St (n + 9) s2 → TokR m n (.tup [.str (if c = 46 then sLocal else sOwn), .str (c :: t), .str (c :: t)]) [s2, .non] := fun c t s2 ρ hc hN hl h => by
        rcases hc with rfl | ⟨rfl, rfl⟩
        · have tk := tok_mark (m := m) hN
          exact ⟨.word, sLocal, _, _, s2, rfl, tk, by simp; omega, wr_self tk (.inr (.inl rfl)), .str (ascii_ok tk.ok), rfl, h.mono (by omega)⟩
        · have tk := tok_own hN
          exact ⟨.word, sOwn, _, _, s2, rfl, tk, by simp; omega, wr_self tk (.inr (.inr (.inl rfl))), .str (ascii_ok tk.ok), rfl, h.mono (by omega)⟩
      have go : ∀ (xs : List IV) (d : IV), d ∈ xs → (xs = [.str [46], .str [46]] ∨ xs = [.str [46], .str [64]] ∧ m = false) → ∃ c, d = .str [c] ∧ (c = 46 ∨ c = 64 ∧ m = false) := fun xs d hd hx => by
        rcases hx with rfl | ⟨rfl, hm⟩
        · simp at hd
          exact ⟨46, hd, .inl rfl⟩
        · simp at hd
          rcases hd with h | h
          · exact ⟨46, h, .inl rfl⟩
          · exact ⟨64, h, .inr ⟨rfl, hm⟩⟩
      cases m with
      | true =>
        simp [SZ]
        refine (pk _ _ _ hs1 (by omega) (by simp) (by simp)).mono fun d ms h => ?_
        obtain ⟨hd, s2, e1, hs2⟩ := h
        obtain ⟨c, ec, hc⟩ := go _ d hd (.inl rfl)
        subst ec
        subst e1
        simp
        refine (nm _ _ hs2 (by omega)).mono fun d ms h => ?_
        obtain ⟨t, s3, e1, q1, q2, e2, hs3⟩ := h
        subst e1
        subst e2
        have a1 : binD .add (.str [c]) (.str t) = some (.str (c :: t)) := b_addS (by simp [SZ]; omega)
        have f := fin c t s3 [] hc q1 q2 (hs3.mono (by omega))
        by_cases h46 : c = 46
        · rw [if_pos h46] at f
          subst h46
          simp [a1, SZ]
          refine hR _ _ ?_
          exact ⟨_, rfl, f⟩
        · rw [if_neg h46] at f
          simp [a1, h46, SZ]
          refine hR _ _ ?_
          exact ⟨_, rfl, f⟩
      | false =>
        simp [SZ]
        refine (pk _ _ _ hs1 (by omega) (by simp) (by simp)).mono fun d ms h => ?_
        obtain ⟨hd, s2, e1, hs2⟩ := h
        obtain ⟨c, ec, hc⟩ := go _ d hd (.inr ⟨rfl, rfl⟩)
        subst ec
        subst e1
        simp
        refine (nm _ _ hs2 (by omega)).mono fun d ms h => ?_
        obtain ⟨t, s3, e1, q1, q2, e2, hs3⟩ := h
        subst e1
        subst e2
        have a1 : binD .add (.str [c]) (.str t) = some (.str (c :: t)) := b_addS (by simp [SZ]; omega)
        have f := fin c t s3 [] hc q1 q2 (hs3.mono (by omega))
        by_cases h46 : c = 46
        · rw [if_pos h46] at f
          subst h46
          simp [a1, SZ]
          refine hR _ _ ?_
          exact ⟨_, rfl, f⟩
        · rw [if_neg h46] at f
          simp [a1, h46, SZ]
          refine hR _ _ ?_
          exact ⟨_, rfl, f⟩
    · simp [h3]
      refine hK _ ?_
      refine ok_step fun K hK hR => ?_
      by_cases h4 : w = 3
      · subst h4
        simp
        refine (nu _ _ hs1 (by omega)).mono fun d ms h => ?_
        obtain ⟨v, t, s2, e1, q1, q2, q3, q4, e2, hs2⟩ := h
        subst e1
        subst e2
        simp [rTg, setTgs, ok_some, SZ]
        exact hR _ _ ⟨[s2, .non], rfl, .word, sNumber, _, t, s2, rfl, tok_num q1, by omega, wr_num q4 q3, .int, rfl, hs2.mono (by omega)⟩
      · simp [h4]
        refine hK _ ?_
        refine ok_step fun K hK hR => ?_
        by_cases h5 : w = 4
        · subst h5
          simp
          refine (un _ 39 _ (.inl rfl) hs1 (by omega)).mono fun d ms h => ?_
          obtain ⟨c, t, s2, e1, q1, q2, q3, q4, q5, e2, hs2⟩ := h
          subst e1
          subst e2
          have a1 : binD .add (.str [39]) (.str t) = some (.str (39 :: t)) := b_addS (by simp [SZ]; omega)
          have a2 : binD .add (.str (39 :: t)) (.str [39]) = some (.str (39 :: (t ++ [39]))) := b_addS (by simp [SZ]; omega)
          have f1 : fnD .ord [.str [c]] = some (.int (c : Nat)) := rfl
          simp [rTg, setTgs, ok_some, SZ, a1, a2, f1]
          exact hR _ _ ⟨[s2, .non], rfl, .quo, sChar, _, _, s2, rfl, tok_char q1 q2, by simp; omega, wr_char q3 q5, .int, rfl, hs2.mono (by omega)⟩
        · simp [h5]
          refine hK _ ?_
          refine ok_step fun K hK hR => ?_
          by_cases h6 : w = 5
          · subst h6
            simp
            refine (dw _ _ 6 hs1 (by omega) (by decide) (by decide)).mono fun d ms h => ?_
            obtain ⟨y, s2, e1, y0, y1, e2, hs2⟩ := h
            obtain ⟨z, sr, hz⟩ := nat6 y0 y1
            rw [← e1] at sr
            clear e1
            subst e2
            simp [sr]
            refine r_units un hs2 (by omega) hz rfl fun us s3 ul hu hs3 => ?_
            simp
            refine r_part (i := 0) (g := fun u => .str [u.1]) (fun u => rfl) ul ?_
            have j1 : mtD .join (.str []) [.lst (us.map fun u => IV.str [u.1])] = some (.str (us.map (·.1))) := by
              have e : us.map (fun u => IV.str [u.1]) = (us.map (·.1)).map fun c => IV.str [c] := by simp
              rw [e, join1 (by simp; omega)]
            have lu : ∀ t ∈ us.map (·.2), t.length ≤ 2 := fun t ht => by
              obtain ⟨u, hu', rfl⟩ := List.mem_map.mp ht
              exact (hu u hu').2.2.2.1
            have j2 : mtD .join (.str []) [.lst (us.map fun u => IV.str u.2)] = some (.str (us.map (·.2)).flatten) := by
              have e : us.map (fun u => IV.str u.2) = (us.map (·.2)).map IV.str := by simp
              rw [e, join_texts (by simp; omega) (fun t ht => Nat.le_trans (lu t ht) (by decide)) (by decide), joinL_nil]
            have fl : (us.map (·.2)).flatten.length ≤ 10 := by
              have z := sum_le lu
              rw [List.length_map] at z
              rw [List.length_flatten]
              omega
            rw [j1]
            simp [ch2]
            refine r_part (i := 1) (s := s3) (w := .int 5) (m := .bl m) (g := fun u => .str u.2) (fun u => rfl) ul ?_
            rw [j2]
            have a1 : binD .add (.str [34]) (.str (us.map (·.2)).flatten) = some (.str (34 :: (us.map (·.2)).flatten)) := b_addS (by simp [SZ, -List.length_flatten]; omega)
            have a2 : binD .add (.str (34 :: (us.map (·.2)).flatten)) (.str [34]) = some (.str (34 :: ((us.map (·.2)).flatten ++ [34]))) := b_addS (by simp [SZ, -List.length_flatten]; omega)
            simp [a1, a2, SZ, ch2]
            refine hR _ _ ?_
            refine ⟨_, rfl, .quo, sStr, _, _, s3, rfl, tok_str (fun u h => (hu u h).1) (flat_ok fun u h => (hu u h).2.1), by simp [-List.length_flatten]; omega, wr_str (by omega) (fun u h => ⟨(hu u h).2.2.1, (hu u h).2.2.2.2⟩), .str ?_, rfl, hs3.mono (by omega)⟩
            have z : ∀ c ∈ KC, c < 128 := by decide +kernel
            unfold ascii
            rw [List.all_eq_true]
            intro c hc
            obtain ⟨u, hu', rfl⟩ := List.mem_map.mp hc
            exact decide_eq_true (z _ (hu u hu').2.2.1)
          · simp [h6]
            refine hK _ ?_
            have a1 : binD .add (.lst (LS.map IV.str)) (.lst [.str [109, 111, 100], .str [109, 111, 100], .str [46, 46]]) = some (.lst ((LS ++ [kMod, kMod, [46, 46]]).map IV.str)) := by
              rw [b_addL (by decide), List.map_append]
              rfl
            refine ok_step fun K hK _ => ?_
            simp [sg, SZ]
            rw [a1]
            refine (pk _ _ _ hs1 (by omega) (by simp) (by rw [List.length_map]; decide)).mono fun d ms h => ?_
            obtain ⟨hd, s2, e1, hs2⟩ := h
            obtain ⟨t, ht, et⟩ := List.mem_map.mp hd
            subst et
            subst e1
            refine hK _ ?_
            simp [SZ, mutsOf]
            have tk : ∃ kd, Tok m kd sSign (.str t) t ∧ t.length ≤ 135 := by
              rcases List.mem_append.mp ht with h | h
              · have z : ∀ t ∈ LS, t.length ≤ 135 := by decide
                exact ⟨.sgn, tok_sign (ls_signs t h), z t h⟩
              · by_cases hk : t = kMod
                · subst hk
                  have nk : NameOk kMod := ⟨by decide, by decide, by decide, by decide⟩
                  have tk := tok_path (m := m) (p := kMod) (ps := []) (by simp) (.name nk) (fun q hq => nomatch hq)
                  exact ⟨.word, tk, by decide⟩
                · have : t = [46, 46] := by
                    simp at h
                    rcases h with h | h
                    · exact absurd h hk
                    · exact h
                  subst this
                  exact ⟨.sgn, tok_sign (by decide), by decide⟩
            obtain ⟨kd, tk, ln⟩ := tk
            exact ⟨kd, sSign, .str t, t, s2, rfl, tk, ln, wr_self tk (.inr (.inr (.inr rfl))), .str (ascii_ok tk.ok), rfl, hs2.mono (by omega)⟩
end K03


/-! K03: whether tokens can stand one behind the other. -/
namespace K03
open PySem PySem.Spec PyProof.Rows L2 Mx Scn
theorem fin_quo {t r : List Nat} (h : hd [39, 34] t = true) : Fin (t ++ r) := by
  have ne : t ≠ [] := fun z => by rw [z] at h; cases h
  refine fin_iff.mpr ⟨?_, fun z => ?_⟩
  · rw [hd_app ne]
    exact hd_not h (by decide)
  · have q := hd_take.mp z.1
    rw [hd_app ne, hd_not (s' := [46]) h (by decide)] at q
    cases q
theorem fin_sgn {t r : List Nat} (h : t ∈ SIGNS) : Fin (t ++ r) := by
  have z : (SIGNS.all fun t => decide (t ≠ [] ∧ hd (SG ++ [64]) t = false ∧ (hd [46] t = true → t = [46, 46]))) = true := by decide +kernel
  rw [List.all_eq_true] at z
  obtain ⟨z1, z2, z3⟩ := of_decide_eq_true (z t h)
  refine fin_iff.mpr ⟨by rw [hd_app z1]; exact z2, fun q => ?_⟩
  have q1 := hd_take.mp q.1
  rw [hd_app z1] at q1
  have q2 := q.2
  rw [z3 q1] at q2
  exact q2 rfl
theorem ix0 {a b c : IV} : ixD (.tup [a, b, c]) (.int 0) = some a := rfl
theorem ix1 {a b c : IV} : ixD (.tup [a, b, c]) (.int 1) = some b := rfl
theorem ix2 {a b c : IV} : ixD (.tup [a, b, c]) (.int 2) = some c := rfl
theorem sgn_ne {t : List Nat} (h : t ∈ SIGNS) : t ≠ kMod := by
  have z : ∀ t ∈ SIGNS, t ≠ kMod := by decide
  exact z t h
theorem wch : w_CHARACTER = sChar := rfl
theorem r_apt2 {cs : CS} {m : Bool} {kd : Kd} {s2 t2 : List Nat} {v2 a : IV} (k2 : Tok m kd s2 v2 t2) {Z : Xn → List Sl → Prop} {Q : IV → List Sl → Prop} (hQ : ∀ b, (b = true → ∀ r, Fin (t2 ++ r)) → Q (.bl b) [.i a, .i (.tup [.str s2, v2, .str t2])]) :
    OkX Z ((ev cs (.or (.cons (.cmp .isin (.ix (.var 1) (.cst (.int 0))) (.tup (.cons (.cst (.str w_CHARACTER)) (.cons (.cst (.str [115, 116, 114, 105, 110, 103])) .nil)))) (.cons (.and (.cons (.cmp .eq (.ix (.var 1) (.cst (.int 0))) (.cst (.str [115, 105, 103, 110]))) (.cons (.cmp .ne (.ix (.var 1) (.cst (.int 1))) (.cst (.str [109, 111, 100]))) .nil))) .nil)))).1 [.i a, .i (.tup [.str s2, v2, .str t2])]) Q := by
  cases k2.cl with
  | word h =>
    rcases h with rfl | rfl | rfl | rfl | ⟨rfl, rfl⟩
    · simp [ix0, SZ, in_tup, flatD, eqF, wch]; exact hQ false (fun h => by cases h)
    · simp [ix0, SZ, in_tup, flatD, eqF, wch]; exact hQ false (fun h => by cases h)
    · simp [ix0, SZ, in_tup, flatD, eqF, wch]; exact hQ false (fun h => by cases h)
    · simp [ix0, SZ, in_tup, flatD, eqF, wch]; exact hQ false (fun h => by cases h)
    · simp [ix0, ix1, SZ, in_tup, flatD, eqF, wch]; exact hQ false (fun h => by cases h)
  | quo h h' =>
    rcases h with rfl | rfl
    · simp [ix0, SZ, in_tup, flatD, eqF, wch]; exact hQ true (fun _ r => fin_quo h')
    · simp [ix0, SZ, in_tup, flatD, eqF, wch]; exact hQ true (fun _ r => fin_quo h')
  | sgn h =>
    simp [ix0, ix1, SZ, in_tup, flatD, eqF, wch, sgn_ne h]; exact hQ true (fun _ r => fin_sgn h)
theorem r_apart {N k : Nat} {m : Bool} {kd1 kd2 : Kd} {s1 t1 s2 t2 : List Nat} {v1 v2 : IV} (k1 : Tok m kd1 s1 v1 t1) (k2 : Tok m kd2 s2 v2 t2) (p1 : VOk v1) (l1 : t1.length ≤ 135) (l2 : t2.length ≤ 135) : OkF (runF T.fns N (k + 2) i__law_is_apart [.tup [.str s1, v1, .str t1], .tup [.str s2, v2, .str t2]]) fun d ms => ∃ b, d = .bl b ∧ (b = true → ∀ r, Flw kd1 t1 (t2 ++ r)) ∧ ms = [.non, .non] := by
  refine okF_run (fn := f__law_is_apart) rfl rfl ?_
  have sg := e_signs (N := N) (k := k)
  generalize runF T.fns N (k + 1) = cs at sg ⊢
  simp only [f__law_is_apart, b__law_is_apart, Fn.start, startA, List.length_cons, List.length_nil, List.replicate, List.cons_append, List.nil_append, if_true, if_false, Bool.false_eq_true]
  generalize hX : (E.or (.cons (.cmp .isin (.ix (.var 1) (.cst (.int 0))) (.tup (.cons (.cst (.str w_CHARACTER)) (.cons (.cst (.str [115, 116, 114, 105, 110, 103])) .nil)))) (.cons (.and (.cons (.cmp .eq (.ix (.var 1) (.cst (.int 0))) (.cst (.str [115, 105, 103, 110]))) (.cons (.cmp .ne (.ix (.var 1) (.cst (.int 1))) (.cst (.str [109, 111, 100]))) .nil))) .nil))) = X
  refine ok_step fun K hK hR => ?_
  cases k1.cl with
  | word h =>
    have fin : ∀ b : Bool, (b = true → ∀ r, Fin (t2 ++ r)) → K (.rt (.bl b)) [.i (.tup [.str s1, v1, .str t1]), .i (.tup [.str s2, v2, .str t2])] := fun b hb => hR _ _ ⟨_, rfl, b, rfl, hb, rfl⟩
    rcases h with rfl | rfl | rfl | rfl | ⟨rfl, rfl⟩
    · simp [ix0, SZ, in_tup, flatD, eqF]; subst hX; exact r_apt2 (Q := fun d ρ1 => K (.rt d) ρ1) k2 fin
    · simp [ix0, SZ, in_tup, flatD, eqF]; subst hX; exact r_apt2 (Q := fun d ρ1 => K (.rt d) ρ1) k2 fin
    · simp [ix0, SZ, in_tup, flatD, eqF]; subst hX; exact r_apt2 (Q := fun d ρ1 => K (.rt d) ρ1) k2 fin
    · simp [ix0, SZ, in_tup, flatD, eqF]; subst hX; exact r_apt2 (Q := fun d ρ1 => K (.rt d) ρ1) k2 fin
    · simp [ix0, ix1, SZ, in_tup, flatD, eqF]; subst hX; exact r_apt2 (Q := fun d ρ1 => K (.rt d) ρ1) k2 fin
  | quo h h' =>
    have fin : ∀ b : Bool, K (.rt (.bl b)) [.i (.tup [.str s1, v1, .str t1]), .i (.tup [.str s2, v2, .str t2])] := fun b => hR _ _ ⟨_, rfl, b, rfl, fun _ _ => trivial, rfl⟩
    have els : OkX (fun x ρ => ∃ ms, mutsOf [false, false] ρ = some ms ∧ False) (evSs cs N (.cons (.ret (.or (.cons (.cmp .ne (.ix (.var 0) (.cst (.int 0))) (.cst (.str [115, 105, 103, 110]))) (.cons (.cmp .notin (.bin .add (.ix (.var 0) (.cst (.int 2))) (.sl (.ix (.var 1) (.cst (.int 2))) .no (.yes (.cst (.int 1))))) (.call i__law_signs .nil)) .nil)))) .nil) [.i (.tup [.str s1, v1, .str t1]), .i (.tup [.str s2, v2, .str t2])]) fun fl ρ => match fl with
      | .rt d => ∃ ms, mutsOf [false, false] ρ = some ms ∧ ∃ b, d = .bl b ∧ (b = true → ∀ r, Flw .quo t1 (t2 ++ r)) ∧ ms = [.non, .non]
      | .nx => True ∧ ∃ ms, mutsOf [false, false] ρ = some ms ∧ ∃ b, IV.non = .bl b ∧ (b = true → ∀ r, Flw .quo t1 (t2 ++ r)) ∧ ms = [.non, .non]
      | _ => False := by
      rcases h with rfl | rfl
      · simp [ix0, mutsOf]
        exact fun _ => trivial
      · simp [ix0, mutsOf]
        exact fun _ => trivial
    cases p1 with
    | int =>
      rcases h with rfl | rfl
      · simp [ix0, ix1, SZ, in_tup, flatD, eqF, cmpD, eqD]
        exact hK _ els
      · simp [ix0, ix1, SZ, in_tup, flatD, eqF, cmpD, eqD]
        exact hK _ els
    | @str l _ =>
      by_cases hk : l = kMod
      · rcases h with rfl | rfl
        · simp [ix0, ix1, SZ, in_tup, flatD, eqF, hk]
          rw [hk] at fin
          subst hX
          exact r_apt2 (Q := fun d ρ1 => K (.rt d) ρ1) k2 fun b _ => fin b
        · simp [ix0, ix1, SZ, in_tup, flatD, eqF, hk]
          rw [hk] at fin
          subst hX
          exact r_apt2 (Q := fun d ρ1 => K (.rt d) ρ1) k2 fun b _ => fin b
      · rcases h with rfl | rfl
        · simp [ix0, ix1, SZ, in_tup, flatD, eqF, hk]
          exact hK _ els
        · simp [ix0, ix1, SZ, in_tup, flatD, eqF, hk]
          exact hK _ els
  | sgn h =>
    simp [ix0, ix1, SZ, in_tup, flatD, eqF, sgn_ne h]
    refine hK _ ?_
    have sl1 : slD (.str t2) none (some 1) = some (.str (t2.take 1)) := by
      show (if t2.length ≤ SZ then some (IV.str (cutL t2 none (some 1))) else none) = _
      rw [if_pos (by have : SZ = 16777216 := rfl; omega)]
      congr 2
      unfold cutL
      rw [HT.sIx_none, show (1 : Int) = ((1 : Nat) : Int) from rfl, HT.sIx_nat, List.drop_zero, Nat.sub_zero]
      by_cases ha : 1 ≤ t2.length
      · rw [Nat.min_eq_left ha]
      · rw [Nat.min_eq_right (by omega), List.take_of_length_le (Nat.le_refl _), List.take_of_length_le (by omega)]
    have a1 : binD .add (.str t1) (.str (t2.take 1)) = some (.str (t1 ++ t2.take 1)) := b_addS (by simp [SZ]; omega)
    have inn : cmpD .notin (.str (t1 ++ t2.take 1)) (.lst (LS.map IV.str)) = some (!decide (t1 ++ t2.take 1 ∈ LS)) := by
      generalize t1 ++ t2.take 1 = q
      simp only [cmpD, ninD, inD]
      rw [if_pos ⟨rfl, by decide⟩]
      simp [eqF, LS, eq_comm]
    simp [ix0, ix2, sl1, a1, sg, inn, mutsOf]
    intro hn r
    refine .inr fun z => hn (dbl_ls _ ?_)
    cases ht : t2 with
    | nil => exact absurd ht k2.ne
    | cons c q => rw [ht] at z; exact z
end K03


/-! K03: rows of tokens. -/
namespace K03
open PySem PySem.Spec PyProof.Rows L2 Mx Scn
abbrev Ent := (List Nat × IV) × Nat
def triE (e : Ent) : IV := .tup [.str e.1.1, e.1.2, .int ((e.2 : Nat) : Int)]
def txt (e : Ent) : List Nat := (wr e.1.1 e.1.2).getD []
structure EOk (m : Bool) (e : Ent) : Prop where
  w : ∃ kd' t', wr e.1.1 e.1.2 = some t' ∧ Tok m kd' e.1.1 e.1.2 t'
  v : VOk e.1.2
theorem EOk.tok {m : Bool} {e : Ent} (h : EOk m e) : ∃ kd, Tok m kd e.1.1 e.1.2 (txt e) := by
  obtain ⟨kd, t, h1, h2⟩ := h.w
  exact ⟨kd, by unfold txt; rw [h1]; exact h2⟩
theorem sort_ascii {m : Bool} {kd : Kd} {s t : List Nat} {v : IV} (k : Tok m kd s v t) : ascii s = true := by
  cases k.cl with
  | word h => rcases h with rfl | rfl | rfl | rfl | ⟨rfl, _⟩ <;> decide
  | quo h _ => rcases h with rfl | rfl <;> decide
  | sgn _ => decide
theorem EOk.pl {m : Bool} {e : Ent} (h : EOk m e) : Pl 1 (triE e) := by
  obtain ⟨kd, k⟩ := h.tok
  refine .tup fun x hx => ?_
  simp at hx
  rcases hx with rfl | rfl | rfl
  · exact .str (sort_ascii k)
  · exact h.v.pl
  · exact .int
theorem EOk.pl2 {m : Bool} {e : Ent} (h : EOk m e) : Pl 1 (.tup [.str e.1.1, e.1.2]) := by
  obtain ⟨kd, k⟩ := h.tok
  refine .tup fun x hx => ?_
  simp at hx
  rcases hx with rfl | rfl
  · exact .str (sort_ascii k)
  · exact h.v.pl
theorem flw_nil {kd : Kd} {t : List Nat} (h : kd = .sgn → t ∈ SIGNS) : Flw kd t [] := by
  cases kd with
  | word => exact fin_iff.mpr ⟨rfl, fun z => by simp at z⟩
  | quo => trivial
  | sgn =>
    have z : (SIGNS.all fun t => decide (t.length = 2 ∨ ¬ (t ++ [] ∈ DBL))) = true := by decide
    rw [List.all_eq_true] at z
    have q : t.length = 2 ∨ ¬ (t ++ [] ∈ DBL) := of_decide_eq_true (z t (h rfl))
    exact q
theorem flw_semi {kd : Kd} {t r : List Nat} (h : kd = .sgn → t ∈ SIGNS) : Flw kd t (59 :: r) := by
  cases kd with
  | word => exact fin_iff.mpr ⟨hd_no (by decide), fun z => by simp at z⟩
  | quo => trivial
  | sgn =>
    refine .inr ?_
    have z : (SIGNS.all fun t => decide (¬ (t ++ [59] ∈ DBL))) = true := by decide
    rw [List.all_eq_true] at z
    exact of_decide_eq_true (z t (h rfl))
theorem fl_nil {kt : Option (Kd × List Nat)} (h : LastOk kt) : Fl kt [] := by
  cases kt with
  | none => trivial
  | some q => exact flw_nil fun e => h q.1 q.2 rfl e
theorem fl_semi {kt : Option (Kd × List Nat)} {r : List Nat} (h : LastOk kt) : Fl kt (59 :: r) := by
  cases kt with
  | none => trivial
  | some q => exact flw_semi fun e => h q.1 q.2 rfl e
theorem fl_blank {kt : Option (Kd × List Nat)} {r : List Nat} (h : LastOk kt) : Fl kt (32 :: r) := by
  cases kt with
  | none => trivial
  | some q => exact flw_blank fun e => h q.1 q.2 rfl e
/-- rows written one behind the other -/
theorem rd_more {m : Bool} : ∀ {es : List Ent} {W : List Nat} {D : List Ent} {kt : Option (Kd × List Nat)}, (∀ e ∈ es, EOk m e) → Rd m W (D.map triE) kt → LastOk kt → ∃ (D' : List Ent) (kt' : Option (Kd × List Nat)), Rd m (W ++ (es.map fun e => 32 :: txt e).flatten) (D'.map triE) kt' ∧ LastOk kt' ∧ D'.map (·.1) = D.map (·.1) ++ es.map (·.1)
  | [], W, D, kt, _, h, hl => ⟨D, kt, by simpa using h, hl, by simp⟩
  | e :: es, W, D, kt, he, h, hl => by
    obtain ⟨kd, k⟩ := (he e List.mem_cons_self).tok
    have h1 := h.blanks hl (n := 1) (by decide)
    have h2 := h1.tok k (fun r => trivial)
    have h3 : Rd m (W ++ 32 :: txt e) ((D ++ [(e.1, W.length + 1)]).map triE) (some (kd, txt e)) := by
      have z : W ++ List.replicate 1 32 ++ txt e = W ++ 32 :: txt e := by simp
      rw [z] at h2
      have z2 : D.map triE ++ [IV.tup [IV.str e.1.1, e.1.2, IV.int ((W ++ List.replicate 1 32).length : Nat)]] = (D ++ [(e.1, W.length + 1)]).map triE := by simp [triE]
      rw [z2] at h2
      exact h2
    obtain ⟨D', kt', a, b, c⟩ := rd_more (fun x hx => he x (List.mem_cons_of_mem _ hx)) h3 (lastOk_tok k)
    refine ⟨D', kt', ?_, b, by rw [c]; simp⟩
    have z : W ++ ((e :: es).map fun e => 32 :: txt e).flatten = W ++ 32 :: txt e ++ (es.map fun e => 32 :: txt e).flatten := by simp
    rw [z]
    exact a
theorem joinSp {p : List Nat} {ps : List (List Nat)} : TL.joinL [32] (p :: ps) = p ++ (ps.map (32 :: ·)).flatten := by
  induction ps generalizing p with
  | nil => simp [TL.joinL]
  | cons q ps ih =>
    show p ++ ([32] ++ TL.joinL [32] (q :: ps)) = _
    rw [ih]
    simp
theorem toks_join {m : Bool} {es : List Ent} (he : ∀ e ∈ es, EOk m e) : ∃ D' : List Ent, toks m (TL.joinL [32] (es.map txt)) = .ok (D'.map triE) ∧ D'.map (·.1) = es.map (·.1) := by
  cases es with
  | nil => exact ⟨[], by rfl, rfl⟩
  | cons e es =>
    obtain ⟨kd, k⟩ := (he e List.mem_cons_self).tok
    have h0 := Rd.start (m := m).tok k (fun r => trivial)
    have h1 : Rd m (txt e) ([(e.1, 0)].map triE) (some (kd, txt e)) := h0
    obtain ⟨D', kt', a, b, c⟩ := rd_more (fun x hx => he x (List.mem_cons_of_mem _ hx)) h1 (lastOk_tok k)
    refine ⟨D', ?_, by rw [c]; rfl⟩
    have z := a.done (fl_nil b) rfl
    rw [List.append_nil] at z
    rw [List.map_cons, joinSp, List.map_map]
    exact z
theorem join_ok2 {m : Bool} {es : List Ent} (he : ∀ e ∈ es, EOk m e) : lineOk (TL.joinL [32] (es.map txt)) = true := by
  have fl : ∀ es : List Ent, (∀ e ∈ es, EOk m e) → lineOk ((es.map txt).map (32 :: ·)).flatten = true := fun es h => by
    induction es with
    | nil => rfl
    | cons e es ih =>
      obtain ⟨kd, k⟩ := (h e List.mem_cons_self).tok
      rw [List.map_cons, List.map_cons, List.flatten_cons, ok_app, ok_cons, k.ok, ih fun x hx => h x (List.mem_cons_of_mem _ hx)]
      decide
  cases es with
  | nil => rfl
  | cons e es =>
    obtain ⟨kd, k⟩ := (he e List.mem_cons_self).tok
    rw [List.map_cons, joinSp, ok_app, k.ok, fl es fun x hx => he x (List.mem_cons_of_mem _ hx)]
    rfl
end K03


/-! K03: whether a drawn row of tokens is read. -/
namespace K03
open PySem PySem.Spec PyProof.Rows L2 Mx Scn
/-- the last token -/
inductive Lst (m : Bool) : List Ent → IV → Option (Kd × List Nat) → Prop
  | no {d : IV} : Lst m [] d none
  | yes {D : List Ent} {kd : Kd} {s t : List Nat} {v : IV} {kt : Option (Kd × List Nat)} : D ≠ [] → Tok m kd s v t → VOk v → t.length ≤ 135 → (kt = none ∨ kt = some (kd, t)) → Lst m D (.tup [.str s, v, .str t]) kt
structure RowOk (m : Bool) (j : Nat) (W : List Nat) (D : List Ent) (last : IV) : Prop where
  rd : ∃ kt, Rd m W (D.map triE) kt ∧ LastOk kt ∧ Lst m D last kt
  ok : lineOk W = true
  len : W.length ≤ 364 + 2 * j
  cnt : D.length ≤ j
  es : ∀ e ∈ D, EOk m e
  sum : ∃ S, S ≤ W.length ∧ S ≤ 364 ∧ ((D.map txt).map List.length).sum ≤ S + 2 * D.length
theorem rep_ok (n : Nat) : lineOk (List.replicate n 32) = true := by
  unfold lineOk
  rw [List.all_eq_true]
  intro c hc
  rw [(List.mem_replicate.mp hc).2]
  decide
/-- blanks are put behind -/
theorem RowOk.blanks {m : Bool} {j n : Nat} {W : List Nat} {D : List Ent} {last : IV} (h : RowOk m j W D last) (hn : 0 < n) (hn2 : n ≤ 2) : (Rd m (W ++ List.replicate n 32) (D.map triE) none ∧ Lst m D last none) ∧ lineOk (W ++ List.replicate n 32) = true ∧ (W ++ List.replicate n 32).length ≤ 364 + 2 * (j + 1) := by
  obtain ⟨kt, a, b, c⟩ := h.rd
  refine ⟨⟨a.blanks b hn, ?_⟩, by rw [ok_app, h.ok, rep_ok]; rfl, by have := h.len; simp; omega⟩
  cases c with
  | no => exact .no
  | yes d k v l _ => exact .yes d k v l (.inl rfl)
/-- a token is put behind W1, which is read as D -/
theorem RowOk.add {m : Bool} {j : Nat} {W1 : List Nat} {D : List Ent} {kd : Kd} {s t : List Nat} {v : IV} {kt : Option (Kd × List Nat)} (hr : Rd m W1 (D.map triE) kt) (ok : lineOk W1 = true) (cnt : D.length ≤ j) (es : ∀ e ∈ D, EOk m e) (sum : ∃ S, S ≤ W1.length ∧ S ≤ 364 ∧ ((D.map txt).map List.length).sum ≤ S + 2 * D.length) (k : Tok m kd s v t) (vo : VOk v) (tl : t.length ≤ 135) (w : Wr m s v t) (ap : ∀ r, Fl kt (t ++ r)) (lt : W1.length < 230) : RowOk m (j + 1) (W1 ++ t) (D ++ [((s, v), W1.length)]) (.tup [.str s, v, .str t]) := by
  obtain ⟨kd', t', w1, w2, w3⟩ := w
  have e1 : EOk m ((s, v), W1.length) := ⟨⟨kd', t', w1, w2⟩, vo⟩
  have tx : txt ((s, v), W1.length) = t' := by unfold txt; rw [w1]; rfl
  refine ⟨⟨some (kd, t), ?_, lastOk_tok k, .yes (by simp) k vo tl (.inr rfl)⟩, by rw [ok_app, ok, k.ok]; rfl, by simp; omega, by simp; omega, fun e he => ?_, ?_⟩
  · have z := hr.tok k ap
    rw [List.map_append]
    exact z
  · rcases List.mem_append.mp he with h | h
    · exact es e h
    · rw [List.mem_singleton.mp h]; exact e1
  · obtain ⟨S, a, b, c⟩ := sum
    refine ⟨S + t.length, by simp; omega, by omega, ?_⟩
    simp only [List.map_append, List.map_cons, List.map_nil, List.sum_append, List.sum_cons, List.sum_nil, tx, List.length_append, List.length_cons, List.length_nil]
    omega
theorem RowOk.skip {m : Bool} {j : Nat} {W1 : List Nat} {D : List Ent} {last : IV} {kt : Option (Kd × List Nat)} (hr : Rd m W1 (D.map triE) kt) (lo : LastOk kt) (ls : Lst m D last kt) (ok : lineOk W1 = true) (ln : W1.length ≤ 364 + 2 * (j + 1)) (cnt : D.length ≤ j) (es : ∀ e ∈ D, EOk m e) (sum : ∃ S, S ≤ W1.length ∧ S ≤ 364 ∧ ((D.map txt).map List.length).sum ≤ S + 2 * D.length) : RowOk m (j + 1) W1 D last :=
  ⟨⟨kt, hr, lo, ls⟩, ok, ln, by omega, es, sum⟩
def TokOkR (cs : CS) : Prop := ∀ (n : Nat) (s : IV) (m : Bool), St n s → n < 800000 → OkF (cs i__law_token [s, .bl m]) (TokR m n)
theorem tokOk {N k : Nat} (hN : 100 < N) : TokOkR (runF T.fns N (k + 6)) := fun n s m hs hn => r_token hN hs hn
def ApOkR (cs : CS) : Prop := ∀ (m : Bool) (kd1 kd2 : Kd) (s1 t1 s2 t2 : List Nat) (v1 v2 : IV), Tok m kd1 s1 v1 t1 → Tok m kd2 s2 v2 t2 → VOk v1 → t1.length ≤ 135 → t2.length ≤ 135 → OkF (cs i__law_is_apart [.tup [.str s1, v1, .str t1], .tup [.str s2, v2, .str t2]]) fun d ms => ∃ b, d = .bl b ∧ (b = true → ∀ r, Flw kd1 t1 (t2 ++ r)) ∧ ms = [.non, .non]
theorem apOk {N k : Nat} : ApOkR (runF T.fns N (k + 2)) := fun m kd1 kd2 s1 t1 s2 t2 v1 v2 h1 h2 h3 h4 h5 => r_apart h1 h2 h3 h4 h5
theorem mulB {z : Nat} (h : z ≤ 1000) : binD .mul (.str [32]) (.int (z : Nat)) = some (.str (List.replicate z 32)) := by
  show (if 0 ≤ ((z : Nat) : Int) ∧ ((z : Nat) : Int) ≤ SZ ∧ [32] ≠ [] ∧ [32].length * ((z : Nat) : Int).toNat ≤ SZ then some (IV.str (List.replicate ((z : Nat) : Int).toNat [32]).flatten) else none) = _
  have : SZ = 16777216 := rfl
  rw [if_pos ⟨by omega, by omega, by simp, by simp; omega⟩, Int.toNat_natCast]
  have fl : ∀ n : Nat, (List.replicate n [32]).flatten = List.replicate n 32 := fun n => by
    induction n with
    | zero => rfl
    | succ n ih => rw [List.replicate_succ, List.flatten_cons, ih]; rfl
  rw [fl]
theorem eqD_nil {n : Nat} {x : IV} {xs : List IV} (h : Pl n (.lst (x :: xs))) (hn : n ≤ 64) : eqD (.lst (x :: xs)) (.lst []) = some false := by
  obtain ⟨p, e1, e2, e3⟩ := h.toP
  have sh : SeqAt.shaped p = true := by
    unfold SeqAt.shaped
    rw [e2, decide_eq_true (show p.depth ≤ 64 by omega)]
    rfl
  show (match (IV.lst (x :: xs)).toP, (IV.lst []).toP with | some p, some q => if SeqAt.shaped p = true ∧ SeqAt.shaped q = true then some (PyData.eqv p q) else none | _, _ => none) = _
  rw [e1]
  show (if SeqAt.shaped p = true ∧ SeqAt.shaped (.list []) = true then some (PyData.eqv p (.list [])) else none) = _
  rw [if_pos ⟨sh, rfl⟩]
  have : ∃ q qs, p = .list (q :: qs) := by
    unfold IV.toP at e1
    cases hx : x.toP with
    | none =>
      have : IV.toPs (x :: xs) = none := by rw [IV.toPs, hx]
      rw [this] at e1
      cases e1
    | some q =>
      cases hxs : IV.toPs xs with
      | none =>
        have : IV.toPs (x :: xs) = none := by rw [IV.toPs, hx, hxs]
        rw [this] at e1
        cases e1
      | some qs =>
        have : IV.toPs (x :: xs) = some (q :: qs) := by rw [IV.toPs, hx, hxs]
        rw [this] at e1
        cases e1
        exact ⟨q, qs, rfl⟩
  obtain ⟨q, qs, rfl⟩ := this
  rw [PyData.eqv, PyData.eqvAll]
abbrev sto (s : IV) (m : Bool) (W : List Nat) (D : List Ent) (last : IV) (a5 a6 : Sl) : List Sl := [.b s, .i (.bl m), .i (.str W), .o (.lst (D.map triE)), .i last, a5, a6, .e, .e, .e]
abbrev sepS : S := .ite (.or (.cons (.and (.cons (.cmp .ne (.view 3) (.lst .nil)) (.cons (.not (.call i__law_is_apart (.v (.var 4) (.v (.var 6) .nil)))) .nil))) (.cons (.cmp .eq (.call i__law_draw (.m 0 (.v (.cst (.int 2)) .nil))) (.cst (.int 0))) .nil)))
    (.cons (.asg 2 (.bin .add (.var 2) (.bin .mul (.cst (.str [32])) (.bin .add (.cst (.int 1)) (.call i__law_draw (.m 0 (.v (.cst (.int 2)) .nil))))))) .nil)
    .nil
/-- what is so before a token is put behind -/
structure Mid (m : Bool) (j : Nat) (W1 : List Nat) (D : List Ent) (last : IV) (t : List Nat) : Prop where
  ex : ∃ kt, Rd m W1 (D.map triE) kt ∧ LastOk kt ∧ Lst m D last kt ∧ ∀ r, Fl kt (t ++ r)
  ok : lineOk W1 = true
  len : W1.length ≤ 364 + 2 * (j + 1)
  sum : ∃ S, S ≤ W1.length ∧ S ≤ 364 ∧ ((D.map txt).map List.length).sum ≤ S + 2 * D.length
theorem r_blank {cs : CS} (dw : DrawOk cs) {N n j : Nat} {m : Bool} {s last one : IV} {W t : List Nat} {D : List Ent} {a5 : Sl} (hs : St n s) (hn : n < 900000) (h : RowOk m j W D last) (hj : j ≤ 9) {Z : Xn → List Sl → Prop} {K : Fl → List Sl → Prop} (hK : ∀ (W1 : List Nat) (s' : IV), Mid m j W1 D last t → St (n + 1) s' → K .nx (sto s' m W1 D last a5 (.i one))) :
    OkX Z (evSs cs N (.cons (.asg 2 (.bin .add (.var 2) (.bin .mul (.cst (.str [32])) (.bin .add (.cst (.int 1)) (.call i__law_draw (.m 0 (.v (.cst (.int 2)) .nil))))))) .nil) (sto s m W D last a5 (.i one))) K := by
  simp
  refine (dw _ _ 2 hs (by omega) (by decide) (by decide)).mono fun d ms h' => ?_
  obtain ⟨v, s2, e1, v0, v1, e2, hs2⟩ := h'
  subst e1
  subst e2
  obtain ⟨z, hz⟩ : ∃ z : Nat, 1 + v = (z : Nat) := ⟨(1 + v).toNat, by omega⟩
  have z1 : 0 < z := by omega
  have z2 : z ≤ 2 := by omega
  have mb := mulB (z := z) (by omega)
  have hl := h.len
  have a1 : binD .add (.str W) (.str (List.replicate z 32)) = some (.str (W ++ List.replicate z 32)) := b_addS (by simp [SZ]; omega)
  simp [hz, mb, a1]
  obtain ⟨⟨q1, q2⟩, q3, q4⟩ := h.blanks z1 z2
  obtain ⟨S, c1, c2, c3⟩ := h.sum
  exact hK _ _ ⟨⟨none, q1, lastOk_none, q2, fun r => trivial⟩, q3, q4, S, by simp; omega, c2, c3⟩ hs2
end K03


/-! K03: a turn of the drawing of a row. -/
namespace K03
open PySem PySem.Spec PyProof.Rows L2 Mx Scn
theorem pl_due {m : Bool} {D : List Ent} (h : ∀ e ∈ D, EOk m e) : Pl 2 (.lst (D.map triE)) := .lst fun x hx => by
  obtain ⟨e, he, rfl⟩ := List.mem_map.mp hx
  exact (h e he).pl
/-- the draw behind, and what follows it -/
theorem r_maybe {cs : CS} (dw : DrawOk cs) {N n : Nat} {m : Bool} {s last one : IV} {W : List Nat} {D : List Ent} {a5 : Sl} {B : Ss} (hs : St n s) (hn : n < 890000) {Z : Xn → List Sl → Prop} {K : Fl → List Sl → Prop} (hB : ∀ s', St (n + 1) s' → OkX Z (evSs cs N B (sto s' m W D last a5 (.i one))) K) (hY : ∀ s', St (n + 1) s' → K .nx (sto s' m W D last a5 (.i one))) :
    OkFX (fun xe ms => Z xe (putM [.inr 0, .inl (.int 2)] ms (sto s m W D last a5 (.i one)))) (cs i__law_draw [s, .int 2]) fun d ms => OkO (cmpD .eq d (.int 0)) fun t => if t = true then OkX Z (evSs cs N B (putM [.inr 0, .inl (.int 2)] ms (sto s m W D last a5 (.i one)))) K else K .nx (putM [.inr 0, .inl (.int 2)] ms (sto s m W D last a5 (.i one))) := by
  refine (dw _ _ 2 hs (by omega) (by decide) (by decide)).mono fun d ms h' => ?_
  obtain ⟨v, s2, e1, v0, v1, e2, hs2⟩ := h'
  subst e1
  subst e2
  by_cases hv : v = 0
  · rw [c_eqI, okO_some, decide_eq_true hv, if_pos rfl]
    exact hB s2 hs2
  · rw [c_eqI, okO_some, decide_eq_false hv, if_neg (by simp)]
    exact hY s2 hs2
theorem r_sep0 {cs : CS} (dw : DrawOk cs) (ap : ApOkR cs) {N n j : Nat} {m : Bool} {s last : IV} {W t s2 : List Nat} {v2 : IV} {kd2 : Kd} {D : List Ent} {a5 : Sl} {B : Ss} (hs : St n s) (hn : n < 880000) (h : RowOk m j W D last) (k2 : Tok m kd2 s2 v2 t) (l2 : t.length ≤ 135) {Z : Xn → List Sl → Prop} {K : Fl → List Sl → Prop} (hB : ∀ s', St (n + 1) s' → OkX Z (evSs cs N B (sto s' m W D last a5 (.i (.tup [.str s2, v2, .str t])))) K) (hY : Mid m j W D last t → ∀ s', St (n + 1) s' → K .nx (sto s' m W D last a5 (.i (.tup [.str s2, v2, .str t])))) :
    OkX Z (evS cs N (.ite (.or (.cons (.and (.cons (.cmp .ne (.view 3) (.lst .nil)) (.cons (.not (.call i__law_is_apart (.v (.var 4) (.v (.var 6) .nil)))) .nil))) (.cons (.cmp .eq (.call i__law_draw (.m 0 (.v (.cst (.int 2)) .nil))) (.cst (.int 0))) .nil))) B .nil) (sto s m W D last a5 (.i (.tup [.str s2, v2, .str t])))) K := by
  obtain ⟨kt, r1, r2, r3⟩ := h.rd
  have ln := h.len
  have mid : (∀ r, Fl kt (t ++ r)) → Mid m j W D last t := fun q => ⟨⟨kt, r1, r2, r3, q⟩, h.ok, by omega, h.sum⟩
  cases r3 with
  | no =>
    have cn : cmpD .ne (.lst []) (.lst []) = some false := c_ne_refl (n := 1) (.lst fun _ h => nomatch h) (by decide)
    have mb := r_maybe (Z := Z) (N := N) (D := []) (a5 := a5) dw hs (by omega) hB (hY (mid fun r => trivial))
    simp [cn]
    exact mb
  | @yes _ kd s1 t1 v1 _ dn k1 vo l1 hkt =>
    have apr := ap m kd kd2 s1 t1 s2 t v1 v2 k1 k2 vo l1 l2
    have hb : ∃ b : Bool, cs i__law_is_apart [.tup [.str s1, v1, .str t1], .tup [.str s2, v2, .str t]] = some (.ok (.bl b), [.non, .non]) ∧ (b = true → ∀ r, Flw kd t1 (t ++ r)) := by
      obtain ⟨d, ms, e, b, rfl, q, rfl⟩ := apr.eq
      exact ⟨b, e, q⟩
    obtain ⟨b, eb, qb⟩ := hb
    have flk : b = true → ∀ r, Fl kt (t ++ r) := fun hb r => by
      rcases hkt with rfl | rfl
      · trivial
      · exact qb hb r
    cases D with
    | nil => exact absurd rfl dn
    | cons e D =>
      have cn : cmpD .ne (.lst ((e :: D).map triE)) (.lst []) = some true := by
        show (eqD _ _).map (!·) = _
        rw [List.map_cons, eqD_nil (pl_due h.es) (by decide)]
        rfl
      rw [List.map_cons] at cn
      cases b with
      | false =>
        simp [cn, eb]
        exact hB s (hs.mono (by omega))
      | true =>
        have mb := r_maybe (Z := Z) (N := N) (D := e :: D) (a5 := a5) dw hs (by omega) hB (hY (mid (flk rfl)))
        simp [cn, eb]
        exact mb
theorem r_sep {cs : CS} (dw : DrawOk cs) (ap : ApOkR cs) {N n j : Nat} {m : Bool} {s last : IV} {W t s2 : List Nat} {v2 : IV} {kd2 : Kd} {D : List Ent} {a5 : Sl} (hs : St n s) (hn : n < 880000) (h : RowOk m j W D last) (hj : j ≤ 9) (k2 : Tok m kd2 s2 v2 t) (l2 : t.length ≤ 135) {Z : Xn → List Sl → Prop} {K : Fl → List Sl → Prop} (hK : ∀ (W1 : List Nat) (s' : IV), Mid m j W1 D last t → St (n + 2) s' → K .nx (sto s' m W1 D last a5 (.i (.tup [.str s2, v2, .str t])))) :
    OkX Z (evS cs N sepS (sto s m W D last a5 (.i (.tup [.str s2, v2, .str t])))) K :=
  r_sep0 dw ap hs hn h k2 l2 (fun s' hs' => r_blank dw hs' (by omega) h hj fun W1 s'' a b => hK W1 s'' a b) (fun md s' hs' => hK W s' md (hs'.mono (by omega)))
abbrev addS : S := .ite (.cmp .lt (.fn .len (.cons (.var 2) .nil)) (.cst (.int 230)))
    (.cons (.app 3 (.tup (.cons (.ix (.var 6) (.cst (.int 0))) (.cons (.ix (.var 6) (.cst (.int 1))) (.cons (.fn .len (.cons (.var 2) .nil)) .nil)))))
      (.cons (.par 2 4 false false (.bin .add (.var 2) (.ix (.var 6) (.cst (.int 2)))) (.var 6)) .nil))
    .nil
theorem r_add {cs : CS} {N j : Nat} {m : Bool} {s last : IV} {W t s2 : List Nat} {v2 : IV} {kd2 : Kd} {D : List Ent} {a5 : Sl} (md : Mid m j W D last t) (cnt : D.length ≤ j) (hj : j ≤ 9) (es : ∀ e ∈ D, EOk m e) (k2 : Tok m kd2 s2 v2 t) (vo : VOk v2) (l2 : t.length ≤ 135) (w : Wr m s2 v2 t) {Z : Xn → List Sl → Prop} {K : Fl → List Sl → Prop} (hK : ∀ (W1 : List Nat) (D1 : List Ent) (last1 : IV), RowOk m (j + 1) W1 D1 last1 → K .nx (sto s m W1 D1 last1 a5 (.i (.tup [.str s2, v2, .str t])))) :
    OkX Z (evS cs N addS (sto s m W D last a5 (.i (.tup [.str s2, v2, .str t])))) K := by
  obtain ⟨kt, r1, r2, r3, r4⟩ := md.ex
  have ln := md.len
  have f1 := f_lenS (l := W) (by have : SZ = 16777216 := rfl; omega)
  by_cases hl : W.length < 230
  · have hl' : (W.length : Int) < 230 := by omega
    have a1 : binD .add (.str W) (.str t) = some (.str (W ++ t)) := b_addS (by simp [SZ]; omega)
    have ad : appD (.tup [.str s2, v2, .int (W.length : Nat)]) (.lst (D.map triE)) = some (.lst ((D ++ [((s2, v2), W.length)]).map triE)) := by
      show (if (D.map triE).length < SZ then some (IV.lst (D.map triE ++ [_])) else none) = _
      rw [if_pos (by rw [List.length_map]; have : SZ = 16777216 := rfl; omega), List.map_append]
      rfl
    have ok := RowOk.add r1 md.ok cnt es md.sum k2 vo l2 w r4 hl
    simp [f1, hl', OkV, ix0, ix1, ix2, SZ]
    rw [ad]
    simp [a1]
    have z := hK _ _ _ ok
    simp only [sto, List.map_append, List.map_cons, List.map_nil] at z
    exact z
  · have hl' : ¬ (W.length : Int) < 230 := by omega
    simp [f1, hl']
    exact hK W D last (RowOk.skip r1 r2 r3 md.ok ln cnt es md.sum)
abbrev turnB : Ss := .cons (.asg 6 (.call i__law_token (.m 0 (.v (.var 1) .nil)))) (.cons sepS (.cons addS .nil))
theorem r_turn {cs : CS} (dw : DrawOk cs) (ap : ApOkR cs) (tk : TokOkR cs) {N n j : Nat} {m : Bool} {s last : IV} {W : List Nat} {D : List Ent} {a5 a6 : Sl} (hs : St n s) (hn : n < 790000) (h : RowOk m j W D last) (hj : j ≤ 9) {Z : Xn → List Sl → Prop} {F : Fl → List Sl → Prop} (hF : ∀ (W1 : List Nat) (D1 : List Ent) (last1 s' : IV) (b6 : Sl), RowOk m (j + 1) W1 D1 last1 → St (n + 300) s' → F .nx (sto s' m W1 D1 last1 a5 b6)) :
    OkX Z (evSs cs N turnB (sto s m W D last a5 a6)) F := by
  refine ok_step fun K hK _ => ?_
  simp
  refine (tk _ _ m hs (by omega)).mono fun d ms h' => ?_
  obtain ⟨kd, s2, v, t, s', e1, q1, q2, q3, q4, e2, hs2⟩ := h'
  subst e1
  subst e2
  refine hK _ ?_
  simp only [putM_inr, putM_inl, putM_nil, List.getElem?_cons_zero, List.getElem?_cons_succ, put_b, put_o, List.set_cons_zero, List.set_cons_succ]
  refine ok_step fun K hK _ => ?_
  refine r_sep (K := K) dw ap hs2 (by omega) h hj q1 q2 fun W1 s3 md hs3 => ?_
  refine hK _ ?_
  refine ok_step fun K hK _ => ?_
  refine r_add (K := K) md h.cnt hj h.es q1 q4 q2 q3 fun W2 D2 last2 ok => ?_
  refine hK _ ?_
  simp
  exact hF W2 D2 last2 s3 _ ok (hs3.mono (by omega))
end K03


/-! K03: a drawn row is read. -/
namespace K03
open PySem PySem.Spec PyProof.Rows L2 Mx Scn
theorem nat10 {w : Int} (w0 : 0 ≤ w) (w1 : w < 10) : ∃ z : Nat, seqR (.int w) = some ((List.range z).map fun i => .int (i : Nat)) ∧ z ≤ 9 := by
  refine ⟨w.toNat, ?_, by omega⟩
  have e := seqR_nat (z := w.toNat) (by omega)
  rwa [Int.toNat_of_nonneg w0] at e
theorem row_start {m : Bool} {z : Nat} {last : IV} (hz : z ≤ 3) : RowOk m 0 (List.replicate z 32) [] last := by
  refine ⟨⟨none, ?_, lastOk_none, .no⟩, rep_ok z, by simp; omega, by simp, (fun _ h => nomatch h), 0, by omega, by omega, by simp⟩
  by_cases h : z = 0
  · subst h
    exact Rd.start
  · have q := Rd.start (m := m).blanks lastOk_none (n := z) (by omega)
    simpa using q
theorem bl_pick {d : IV} (hd : d ∈ [IV.int 0, .int 0, .int 1, .int 3]) : ∃ z : Nat, binD .mul (.str [32]) d = some (.str (List.replicate z 32)) ∧ z ≤ 3 := by
  simp at hd
  rcases hd with e | e | e
  · exact ⟨0, by rw [e]; exact mulB (z := 0) (by decide), by decide⟩
  · exact ⟨1, by rw [e]; exact mulB (z := 1) (by decide), by decide⟩
  · exact ⟨3, by rw [e]; exact mulB (z := 3) (by decide), by decide⟩
def COM : List (List Nat) := [[], [], [32], [59], w_12, [59, 59, 32, 97]]
/-- the row with its comment -/
theorem row_done {m : Bool} {j : Nat} {W c : List Nat} {D : List Ent} {last : IV} (h : RowOk m j W D last) (hj : j ≤ 9) (hc : c ∈ COM) : toks m (W ++ c) = .ok (D.map triE) ∧ lineOk (W ++ c) = true ∧ (W ++ c).length ≤ 400 := by
  obtain ⟨kt, r1, r2, r3⟩ := h.rd
  have ln := h.len
  have z : ∀ c ∈ COM, lineOk c = true ∧ c.length ≤ 7 ∧ over (c.drop (blk c)) = true := by decide
  obtain ⟨z1, z2, z3⟩ := z c hc
  refine ⟨r1.done ?_ z3, by rw [ok_app, h.ok, z1]; rfl, by simp; omega⟩
  have q : c = [] ∨ (∃ r, c = 32 :: r) ∨ ∃ r, c = 59 :: r := by
    simp only [COM, List.mem_cons, List.not_mem_nil, or_false] at hc
    rcases hc with rfl | rfl | rfl | rfl | rfl | rfl
    · exact .inl rfl
    · exact .inl rfl
    · exact .inr (.inl ⟨_, rfl⟩)
    · exact .inr (.inr ⟨_, rfl⟩)
    · exact .inr (.inl ⟨_, rfl⟩)
    · exact .inr (.inr ⟨_, rfl⟩)
  rcases q with rfl | ⟨r, rfl⟩ | ⟨r, rfl⟩
  · exact fl_nil r2
  · exact fl_blank r2
  · exact fl_semi r2
/-- the line of the rows -/
theorem le_sum : ∀ {l : List Nat} {a : Nat}, a ∈ l → a ≤ l.sum
  | [], _, h => nomatch h
  | b :: l, a, h => by
    rw [List.sum_cons]
    rcases List.mem_cons.mp h with z | z
    · omega
    · have := le_sum z
      omega
theorem row_line {m : Bool} {j : Nat} {W : List Nat} {D : List Ent} {last : IV} (h : RowOk m j W D last) (hj : j ≤ 9) : (TL.joinL [32] (D.map txt)).length ≤ 400 ∧ (∀ q ∈ D.map (·.1), ∃ t, wr q.1 q.2 = some t ∧ t.length ≤ 5000) := by
  obtain ⟨S, a, b, c⟩ := h.sum
  have cnt := h.cnt
  have each : ∀ t ∈ D.map txt, t.length ≤ ((D.map txt).map List.length).sum := fun t ht => le_sum (List.mem_map_of_mem ht)
  refine ⟨?_, fun q hq => ?_⟩
  · have jl := joinL_len [32] (D.map txt)
    simp only [List.length_map, List.length_cons, List.length_nil] at jl
    omega
  · obtain ⟨e, he, rfl⟩ := List.mem_map.mp hq
    obtain ⟨kd', t', w1, w2⟩ := (h.es e he).w
    refine ⟨t', w1, ?_⟩
    have z := each (txt e) (List.mem_map_of_mem he)
    have tx : txt e = t' := by unfold txt; rw [w1]; rfl
    rw [tx] at z
    omega
theorem sl2 {a b c : IV} : slD (.tup [a, b, c]) none (some 2) = some (.tup [a, b]) := rfl
/-- the first two of each -/
theorem r_two {cs : CS} {xs : List IV} {ρ : List Sl} {D : List Ent} (hx : xs = D.map triE) (hl : D.length ≤ 1000) (h8 : ρ[8]? = some .e) {Z : Xn → List Sl → Prop} {Q : IV → List Sl → Prop} (hQ : Q (.lst (D.map fun e => .tup [.str e.1.1, e.1.2])) ρ) :
    OkX Z (rList [8] (evC cs .no) (ev cs (.sl (.var 8) .no (.yes (.cst (.int 2))))).1 xs ρ) Q := by
  subst hx
  have hm : (D.map triE).map (fun x => match x with | .tup [a, b, c] => IV.tup [a, b] | _ => .non) = D.map fun e => .tup [.str e.1.1, e.1.2] := by
    rw [List.map_map]
    rfl
  have l8 : 8 < ρ.length := (List.getElem?_eq_some_iff.mp h8).1
  refine ok_map1 (f := fun x => match x with | .tup [a, b, c] => IV.tup [a, b] | _ => .non) (r := .e) h8 rfl (by simp; have : SZ = 16777216 := rfl; omega) (fun _ _ => id rfl) ?_ ?_
  · intro x hx
    obtain ⟨e, he, rfl⟩ := List.mem_map.mp hx
    simp [l8, triE, sl2]
  · rw [hm]
    exact hQ
theorem r_right {N k n : Nat} {s : IV} {m : Bool} (hN : 1000 < N) (hs : St n s) (hn : n < 700000) : OkF (runF T.fns N (k + 9) i__law_right [s, .bl m]) fun d ms => d = .bl true ∧ ∃ s', ms = [s', .non] ∧ St (n + 4000) s' := by
  refine okF_run (fn := f__law_right) rfl rfl ?_
  have pk := pickOk (N := N) (k := k + 5)
  have dw := drawOk (N := N) (k := k + 6)
  have tk := tokOk (N := N) (k := k + 2) (by omega)
  have ap := apOk (N := N) (k := k + 6)
  have to : ∀ (L : List Nat) (m : Bool), lineOk L = true → L.length ≤ 400 → runF T.fns N (k + 8) i_tokens [.str L, .bl m] = resL (toks m L) := fun L m h1 h2 => e_tokens hN h1 h2
  have lo : ∀ ps : List (List Nat × IV), (∀ q ∈ ps, ∃ t, wr q.1 q.2 = some t ∧ t.length ≤ 5000) → ps.length ≤ 1000 → runF T.fns N (k + 8) i_line_of [.tup (ps.map fun q => .tup [.str q.1, q.2])] = some (.ok (.str (TL.joinL [32] (ps.map fun q => (wr q.1 q.2).getD []))), [.non]) := fun ps h1 h2 => e_line_of (k := k + 4) h1 h2
  generalize runF T.fns N (k + 8) = cs at pk dw tk ap to lo ⊢
  simp only [f__law_right, b__law_right, Fn.start, startA, List.length_cons, List.length_nil, List.replicate, List.cons_append, List.nil_append, if_true, if_false, Bool.false_eq_true]
  refine ok_step fun K hK _ => ?_
  simp [SZ]
  refine (pk _ _ _ hs (by omega) (by simp) (by simp)).mono fun d ms h => ?_
  obtain ⟨hd, s1, e1, hs1⟩ := h
  obtain ⟨z, ez, hz⟩ := bl_pick hd
  subst e1
  simp [ez]
  refine hK _ ?_
  refine ok_step fun K hK _ => ?_
  simp [SZ]
  refine hK _ ?_
  refine ok_step fun K hK _ => ?_
  simp
  refine (dw _ _ 10 hs1 (by omega) (by decide) (by decide)).mono fun d ms h => ?_
  obtain ⟨w, s2, e1, w0, w1, e2, hs2⟩ := h
  obtain ⟨y, sr, hy⟩ := nat10 w0 w1
  rw [← e1] at sr
  subst e2
  simp [sr]
  refine ok_for (fun j ρ => ∃ (W : List Nat) (D : List Ent) (last s' : IV) (a5 a6 : Sl), ρ = sto s' m W D last a5 a6 ∧ RowOk m j W D last ∧ St (n + 2 + 300 * j) s') _ 0 ⟨List.replicate z 32, [], .tup [.str [], .str [], .str []], s2, .e, .e, rfl, row_start hz, hs2.mono (by omega)⟩ ?_ ?_
  · rintro j x ρ hx ⟨W, D, last, s3, a5, a6, rfl, ok, hs3⟩
    have hj : j < y := by
      have := (List.getElem?_eq_some_iff.mp hx).1
      simpa using this
    rw [Nat.zero_add] at ok
    simp only [tg_one, List.set_cons_zero, List.set_cons_succ]
    refine r_turn (a5 := .i x) (a6 := a6) dw ap tk hs3 (by omega) ok (by omega) fun W1 D1 last1 s' b6 ok1 hs' => ?_
    exact ⟨W1, D1, last1, s', .i x, b6, rfl, by rw [Nat.zero_add]; exact ok1, hs'.mono (by omega)⟩
  · rintro ρ ⟨W, D, last, s3, a5, a6, rfl, ok, hs3⟩
    refine hK _ ?_
    simp at ok hs3
    have hj : y ≤ 9 := hy
    simp only [okSs_frz, List.getElem?_cons_zero, List.getElem?_cons_succ, okO_some, List.set_cons_zero, List.set_cons_succ]
    refine ok_step fun K hK _ => ?_
    simp [SZ]
    refine (pk _ _ _ hs3 (by omega) (by simp) (by simp)).mono fun d ms h => ?_
    obtain ⟨hd, s4, e1, hs4⟩ := h
    have hc : ∃ c ∈ COM, d = .str c := by
      simp at hd
      rcases hd with e | e | e | e | e
      · exact ⟨[], by decide, e⟩
      · exact ⟨[32], by decide, e⟩
      · exact ⟨[59], by decide, e⟩
      · exact ⟨w_12, by decide, e⟩
      · exact ⟨[59, 59, 32, 97], by decide, e⟩
    obtain ⟨c, hc, ec⟩ := hc
    subst ec
    subst e1
    obtain ⟨d1, d2, d3⟩ := row_done ok hj hc
    obtain ⟨g1, g2⟩ := row_line ok hj
    have a1 : binD .add (.str W) (.str c) = some (.str (W ++ c)) := b_addS (by rw [List.length_append] at d3; have : SZ = 16777216 := rfl; omega)
    simp [a1]
    refine hK _ ?_
    have cn : cmpD .ne (.lst (D.map triE)) (.lst (D.map triE)) = some false := c_ne_refl (pl_due ok.es) (by decide)
    have t1 : cs i_tokens [.str (W ++ c), .bl m] = some (.ok (.lst (D.map triE)), []) := by rw [to _ m d2 d3, d1]; rfl
    obtain ⟨D', j1, j2⟩ := toks_join ok.es
    have jok := join_ok2 ok.es
    have l1 : cs i_line_of [.tup ((D.map (·.1)).map fun q => .tup [.str q.1, q.2])] = some (.ok (.str (TL.joinL [32] (D.map txt))), [.non]) := by
      rw [lo _ g2 (by have := ok.cnt; simp; omega), List.map_map]
      rfl
    have t2 : cs i_tokens [.str (TL.joinL [32] (D.map txt)), .bl m] = some (.ok (.lst (D'.map triE)), []) := by rw [to _ m jok g1, j1]; rfl
    refine ok_step fun K hK _ => ?_
    simp [t1, cn]
    refine hK _ ?_
    refine ok_step fun K hK _ => ?_
    have k2 : K .nx [.b s4, .i (.bl m), .i (.str (W ++ c)), .i (.lst (D.map triE)), .i last, a5, a6, .e, .e, .e] → OkX (fun x ρ => ∃ ms, mutsOf [true, false] ρ = some ms ∧ False) (evS cs N (.ite (.and (.cons (.not (.var 1)) (.cons (.cmp .ne (.listG i_tokens (.cons (.var 2) .nil) .nil [] [(.bl false)] [0, 1]) (.var 3)) .nil))) (.cons (.ret (.cst (.bl false))) .nil) .nil) [.b s4, .i (.bl m), .i (.str (W ++ c)), .i (.lst (D.map triE)), .i last, a5, a6, .e, .e, .e]) K := fun q => by
      cases m with
      | true => simpa using q
      | false => simpa [t1, cn] using q
    refine k2 (hK _ ?_)
    have e7 : ∀ E : List Ent, (E.map fun e => IV.tup [.str e.1.1, e.1.2]) = (E.map (·.1)).map fun q => .tup [.str q.1, q.2] := fun E => by
      rw [List.map_map]
      rfl
    have pr : Pl 2 (.lst (D.map fun e => .tup [.str e.1.1, e.1.2])) := .lst fun x hx => by
      obtain ⟨e, he, rfl⟩ := List.mem_map.mp hx
      exact (ok.es e he).pl2
    have e8 : (D'.map fun e => IV.tup [.str e.1.1, e.1.2]) = D.map fun e => IV.tup [.str e.1.1, e.1.2] := by rw [e7, e7, j2]
    have ce := c_eq_refl pr (by decide)
    have dl : D'.length ≤ 1000 := by
      have z := congrArg List.length j2
      have := ok.cnt
      simp at z
      omega
    rw [← e7] at l1
    refine ok_step fun K hK _ => ?_
    simp
    refine r_two rfl (by have := ok.cnt; omega) rfl ?_
    have ft : fnD .tuple [.lst (D.map fun e => IV.tup [.str e.1.1, e.1.2])] = some (.tup (D.map fun e => IV.tup [.str e.1.1, e.1.2])) := rfl
    have fl : fnD .list [.tup (D.map fun e => IV.tup [.str e.1.1, e.1.2])] = some (.lst (D.map fun e => IV.tup [.str e.1.1, e.1.2])) := rfl
    generalize (D.map fun e => IV.tup [.str e.1.1, e.1.2]) = R at l1 e8 ce ft fl ⊢
    rw [ft]
    simp
    refine hK _ ?_
    refine ok_step fun K hK _ => ?_
    simp [l1, t2]
    refine hK _ ?_
    simp
    refine r_two rfl dl rfl ?_
    rw [e8]
    simp [fl, ce, mutsOf]
    exact hs4.mono (by omega)
end K03


/-! K03: the law. -/
namespace K03
open PySem PySem.Spec PyProof.Rows L2 Mx Scn
theorem seqE_l {l : List IV} : seqE (.lst l) = some (enumD (fun n x => .tup [.int (n : Nat), x]) 0 l) := rfl
theorem enumD_get : ∀ (l : List IV) (n i : Nat), (enumD (fun n x => .tup [.int (n : Nat), x]) n l)[i]? = l[i]?.map fun x => IV.tup [.int ((n + i : Nat) : Int), x]
  | [], n, i => by simp [enumD]
  | x :: l, n, 0 => by simp [enumD]
  | x :: l, n, i + 1 => by
    simp only [enumD, List.getElem?_cons_succ]
    rw [enumD_get, show n + 1 + i = n + (i + 1) by omega]
def CN : List Nat := CH ++ [10]
def entC (c : Nat) : Ent := ((sChar, .int (c : Nat)), 0)
theorem cn_kc : ∀ c ∈ CN, c ∈ KC := fun c h => ch_kc c (by
  unfold CN at h
  rcases List.mem_append.mp h with z | z
  · exact List.mem_append_left _ z
  · rw [List.mem_singleton.mp z]; simp)
theorem entC_ok {m : Bool} {c : Nat} (h : c ∈ KC) : EOk m (entC c) ∧ (txt (entC c)).length ≤ 4 := by
  obtain ⟨kd, t', w1, w2, w3⟩ := wr_char (m := m) (t := shw 39 c) h (Nat.le_refl _)
  refine ⟨⟨⟨kd, t', w1, w2⟩, .int⟩, ?_⟩
  have e : wr sChar (.int ((c : Nat) : Int)) = some (39 :: (shw 39 c ++ [39])) := by
    unfold wr
    rw [if_neg (by decide), if_pos rfl]
    show (if 0 ≤ ((c : Nat) : Int) ∧ ((c : Nat) : Int).toNat ∈ KC then some (39 :: (shw 39 ((c : Nat) : Int).toNat ++ [39])) else none) = _
    rw [if_pos ⟨by omega, by rw [Int.toNat_natCast]; exact h⟩, Int.toNat_natCast]
  unfold txt entC
  rw [e]
  have := shw_len (mark := 39) (c := c)
  simp
  omega
def twoE (e : Ent) : IV := .tup [.str e.1.1, e.1.2]
/-- rows that are written and read again -/
structure Back (cs : CS) (R : List IV) : Prop where
  ex : ∃ (L : List Nat) (D : List Ent), cs i_line_of [.tup R] = some (.ok (.str L), [.non]) ∧ cs i_tokens [.str L, .bl false] = some (.ok (.lst (D.map triE)), []) ∧ D.map twoE = R ∧ D.length ≤ 1000
  pl : Pl 2 (.lst R)
theorem back_of {cs : CS} (to : ∀ (L : List Nat) (m : Bool), lineOk L = true → L.length ≤ 400 → cs i_tokens [.str L, .bl m] = resL (toks m L)) (lo : ∀ ps : List (List Nat × IV), (∀ q ∈ ps, ∃ t, wr q.1 q.2 = some t ∧ t.length ≤ 5000) → ps.length ≤ 1000 → cs i_line_of [.tup (ps.map fun q => .tup [.str q.1, q.2])] = some (.ok (.str (TL.joinL [32] (ps.map fun q => (wr q.1 q.2).getD []))), [.non]))
    {es : List Ent} (he : ∀ e ∈ es, EOk false e) (hl : (TL.joinL [32] (es.map txt)).length ≤ 400) (ht : ∀ e ∈ es, (txt e).length ≤ 5000) (hn : es.length ≤ 1000) : Back cs (es.map twoE) := by
  obtain ⟨D, j1, j2⟩ := toks_join he
  have e7 : ∀ E : List Ent, E.map twoE = (E.map (·.1)).map fun q => .tup [.str q.1, q.2] := fun E => by
    rw [List.map_map]
    rfl
  have dl : D.length ≤ 1000 := by
    have z := congrArg List.length j2
    simp at z
    omega
  refine ⟨⟨TL.joinL [32] (es.map txt), D, ?_, by rw [to _ false (join_ok2 he) hl, j1]; rfl, by rw [e7, e7, j2], dl⟩, .lst fun x hx => ?_⟩
  · rw [e7, lo _ (fun q hq => ?_) (by simpa using hn), List.map_map]
    · rfl
    · obtain ⟨e, h, rfl⟩ := List.mem_map.mp hq
      obtain ⟨kd', t', w1, w2⟩ := (he e h).w
      have z := ht e h
      have tx : txt e = t' := by unfold txt; rw [w1]; rfl
      rw [tx] at z
      exact ⟨t', w1, z⟩
  · obtain ⟨e, h, rfl⟩ := List.mem_map.mp hx
    exact (he e h).pl2
theorem back_chars {cs : CS} (to : ∀ (L : List Nat) (m : Bool), lineOk L = true → L.length ≤ 400 → cs i_tokens [.str L, .bl m] = resL (toks m L)) (lo : ∀ ps : List (List Nat × IV), (∀ q ∈ ps, ∃ t, wr q.1 q.2 = some t ∧ t.length ≤ 5000) → ps.length ≤ 1000 → cs i_line_of [.tup (ps.map fun q => .tup [.str q.1, q.2])] = some (.ok (.str (TL.joinL [32] (ps.map fun q => (wr q.1 q.2).getD []))), [.non]))
    {l : List Nat} (h : ∀ c ∈ l, c ∈ KC) (hl : l.length ≤ 60) : Back cs ((l.map entC).map twoE) := by
  refine back_of to lo (fun e he => ?_) ?_ (fun e he => ?_) (by simp; omega)
  · obtain ⟨c, hc, rfl⟩ := List.mem_map.mp he
    exact (entC_ok (h c hc)).1
  · have jl := joinL_len [32] ((l.map entC).map txt)
    have sm := sum_le (m := 4) (ts := (l.map entC).map txt) (fun t ht => by
      obtain ⟨e, he, rfl⟩ := List.mem_map.mp ht
      obtain ⟨c, hc, rfl⟩ := List.mem_map.mp he
      exact (entC_ok (m := false) (h c hc)).2)
    simp only [List.length_map, List.length_cons, List.length_nil] at jl sm
    omega
  · obtain ⟨c, hc, rfl⟩ := List.mem_map.mp he
    exact Nat.le_trans (entC_ok (m := false) (h c hc)).2 (by decide)
def entS : Ent := ((sStr, .str CN), 0)
theorem back_str {cs : CS} (to : ∀ (L : List Nat) (m : Bool), lineOk L = true → L.length ≤ 400 → cs i_tokens [.str L, .bl m] = resL (toks m L)) (lo : ∀ ps : List (List Nat × IV), (∀ q ∈ ps, ∃ t, wr q.1 q.2 = some t ∧ t.length ≤ 5000) → ps.length ≤ 1000 → cs i_line_of [.tup (ps.map fun q => .tup [.str q.1, q.2])] = some (.ok (.str (TL.joinL [32] (ps.map fun q => (wr q.1 q.2).getD []))), [.non])) : Back cs [.tup [.str sStr, .str CN]] := by
  have e0 : (CN.map fun c => (c, shw 34 c)).map (·.1) = CN := by rw [List.map_map]; exact List.map_id' CN
  obtain ⟨kd, t', w1, w2, w3⟩ := wr_str (m := false) (us := CN.map fun c => (c, shw 34 c)) (by simp; decide) (fun u hu => by
    obtain ⟨c, hc, rfl⟩ := List.mem_map.mp hu
    exact ⟨cn_kc c hc, Nat.le_refl _⟩)
  rw [e0] at w1 w2
  have ok : EOk false entS := ⟨⟨kd, t', w1, w2⟩, .str (by decide +kernel)⟩
  have tx : txt entS = t' := by unfold txt entS; rw [w1]; rfl
  have fl : ((CN.map fun c => (c, shw 34 c)).map (·.2)).flatten.length ≤ 200 := by decide +kernel
  have tl : t'.length ≤ 210 := by
    simp only [List.length_cons, List.length_append, List.length_nil] at w3
    omega
  refine back_of to lo (es := [entS]) (fun e he => by rw [List.mem_singleton.mp he]; exact ok) ?_ (fun e he => by rw [List.mem_singleton.mp he, tx]; omega) (by simp)
  show (TL.joinL [32] [txt entS]).length ≤ 400
  rw [tx]
  show t'.length ≤ 400
  omega
/-- the first two of each, by any slot -/
theorem r_twoI {cs : CS} {i : Nat} {xs : List IV} {ρ : List Sl} {D : List Ent} (hx : xs = D.map triE) (hl : D.length ≤ 1000) (h8 : ρ[i]? = some .e) {Z : Xn → List Sl → Prop} {Q : IV → List Sl → Prop} (hQ : Q (.lst (D.map twoE)) ρ) :
    OkX Z (rList [i] (evC cs .no) (ev cs (.sl (.var i) .no (.yes (.cst (.int 2))))).1 xs ρ) Q := by
  subst hx
  have hm : (D.map triE).map (fun x => match x with | .tup [a, b, c] => IV.tup [a, b] | _ => .non) = D.map twoE := by
    rw [List.map_map]
    rfl
  have l8 : i < ρ.length := (List.getElem?_eq_some_iff.mp h8).1
  refine ok_map1 (f := fun x => match x with | .tup [a, b, c] => IV.tup [a, b] | _ => .non) (r := .e) h8 rfl (by simp; have : SZ = 16777216 := rfl; omega) (fun _ _ => id rfl) ?_ ?_
  · intro x hx
    obtain ⟨e, he, rfl⟩ := List.mem_map.mp hx
    simp [l8, triE, sl2]
  · rw [hm]
    exact hQ
def StrmOk (cs : CS) : Prop := ∀ (i c : Int), 0 ≤ c → c < 1000 → OkF (cs i__law_stream [.int i, .int c]) fun d ms => St 0 d ∧ ms = [.non, .non]
def RightOk (cs : CS) : Prop := ∀ (n : Nat) (s : IV) (m : Bool), St n s → n < 700000 → OkF (cs i__law_right [s, .bl m]) fun d ms => d = .bl true ∧ ∃ s', ms = [s', .non] ∧ St (n + 4000) s'
abbrev turn6 : Ss := .cons (.ite (.not (.call i__law_right (.m 3 (.v (.cmp .eq (.bin .mod (.var 4) (.cst (.int 2))) (.cst (.int 1))) .nil)))) (.cons (.ret (.cst (.bl false))) .nil) .nil) .nil
/-- the six turns of an item -/
theorem r_six {cs : CS} (rt : RightOk cs) {N : Nat} {s : IV} {x0 x1 x2 x4 : Sl} {tl : List Sl} (hs : St 0 s) {Z : Xn → List Sl → Prop} {F : Fl → List Sl → Prop} (hF : ∀ (s' : IV) (x4 : Sl), F .nx (x0 :: x1 :: x2 :: .o s' :: x4 :: tl)) :
    OkX Z (rFor [4] (evSs cs N turn6) ((List.range 6).map fun i => .int ((i : Nat) : Int)) (x0 :: x1 :: x2 :: .o s :: x4 :: tl)) F := by
  refine ok_for (fun j ρ => ∃ (s' : IV) (x4 : Sl), ρ = x0 :: x1 :: x2 :: .o s' :: x4 :: tl ∧ St (4000 * j) s') _ 0 ⟨s, x4, rfl, hs⟩ ?_ ?_
  · rintro j x ρ hx ⟨s1, y4, rfl, hs1⟩
    have hj : j < 6 := by
      have := (List.getElem?_eq_some_iff.mp hx).1
      simpa using this
    have ex : ∃ i : Int, x = .int i := by
      simp at hx
      obtain ⟨a, _, e⟩ := hx
      exact ⟨_, e.symm⟩
    obtain ⟨i, rfl⟩ := ex
    have m1 : binD .mod (.int i) (.int 2) = some (.int (i % 2)) := b_modI (by decide)
    simp [m1]
    refine (rt _ _ (decide (i % 2 = 1)) hs1 (by omega)).mono fun d ms h => ?_
    obtain ⟨e1, s2, e2, hs2⟩ := h
    subst e1
    subst e2
    simp
    exact hs2.mono (by omega)
  · rintro ρ ⟨s1, y4, rfl, _⟩
    exact hF s1 y4
abbrev itemB : Ss := .cons (.asgO 3 (.call i__law_stream (.v (.var 2) (.v (.var 1) .nil)))) (.cons (.loop [4] (.rng (.cst (.int 6))) turn6) .nil)
theorem r_item {cs : CS} (st : StrmOk cs) (rt : RightOk cs) {N : Nat} {v c : Int} (h0 : 0 ≤ c) (h1 : c < 1000) {x0 x3 x4 : Sl} {tl : List Sl} {Z : Xn → List Sl → Prop} {F : Fl → List Sl → Prop} (hF : ∀ (x3 x4 : Sl), F .nx (x0 :: .i (.int c) :: .i (.int v) :: x3 :: x4 :: tl)) :
    OkX Z (evSs cs N itemB (x0 :: .i (.int c) :: .i (.int v) :: x3 :: x4 :: tl)) F := by
  refine ok_step fun K hK _ => ?_
  simp
  refine (st v c h0 h1).mono fun d ms h => ?_
  obtain ⟨hd, e⟩ := h
  subst e
  refine hK _ ?_
  simp only [putM_inr, putM_inl, putM_nil, List.getElem?_cons_zero, List.getElem?_cons_succ, put_b, put_o, List.set_cons_zero, List.set_cons_succ]
  have sr := seqR_nat (z := 6) (by decide)
  have sr' : seqR (.int 6) = some ((List.range 6).map fun i => .int ((i : Nat) : Int)) := sr
  refine ok_step fun K hK _ => ?_
  rw [okS_loop, okI_rng, okE_cst, sr', okO_some]
  refine r_six rt hd fun s' x4 => ?_
  refine hK _ ?_
  exact hF _ _
end K03


/-! K03: the law. -/
namespace K03
open PySem PySem.Spec PyProof.Rows L2 Mx Scn
def EV : List IV := (CN.map entC).map twoE
def EA : List IV := ((CN.take 50).map entC).map twoE
def EB : List IV := ((CN.drop 50).map entC).map twoE
theorem sl_a : slD (.tup EV) (some 0) (some (0 + 50)) = some (.tup EA) := by kernel_rfl
theorem sl_b : slD (.tup EV) (some 50) (some (50 + 50)) = some (.tup EB) := by kernel_rfl
theorem ev_len : EV.length = 95 := by kernel_rfl
theorem sr3 : seqR3 (.int 0) (.int 95) (.int 50) = some [.int 0, .int 50] := by kernel_rfl
abbrev lineB : Ss := .cons (.asg 8 (.sl (.var 5) (.yes (.var 7)) (.yes (.bin .add (.var 7) (.cst (.int 50))))))
    (.cons (.ite (.cmp .ne (.comp [9] (.lst (.listG i_tokens (.cons (.call i_line_of (.v (.var 8) .nil)) .nil) .nil [] [(.bl false)] [0, 1])) .no (.sl (.var 9) .no (.yes (.cst (.int 2))))) (.fn .list (.cons (.var 8) .nil)))
    (.cons (.ret (.cst (.bl false))) .nil)
    .nil) .nil)
theorem r_line {cs : CS} {N : Nat} {x0 x1 x2 x3 x4 x6 x8 x10 : Sl} {E R : List IV} {i : Int} (bk : Back cs R) (hs : slD (.tup E) (some i) (some (i + 50)) = some (.tup R)) {Z : Xn → List Sl → Prop} {F : Fl → List Sl → Prop} (hF : ∀ x8, F .nx [x0, x1, x2, x3, x4, .i (.tup E), x6, .i (.int i), x8, .e, x10]) :
    OkX Z (evSs cs N lineB [x0, x1, x2, x3, x4, .i (.tup E), x6, .i (.int i), x8, .e, x10]) F := by
  obtain ⟨L, D, l1, t1, e1, dl⟩ := bk.ex
  have cn := c_ne_refl bk.pl (by decide)
  have fl : fnD .list [.tup R] = some (.lst R) := rfl
  refine ok_step fun K hK _ => ?_
  simp [hs]
  refine hK _ ?_
  refine ok_step fun K hK _ => ?_
  simp [l1, t1]
  refine r_twoI rfl dl rfl ?_
  rw [e1]
  simp [fl, cn]
  refine hK _ ?_
  simp
  exact hF _
theorem run_law (ns : List Int) (h : ns.length ≤ 63) : ∃ ms, runF T.fns 100000 12 38 [.lst (ns.map .int)] = some (.ok (.bl true), ms) := by
  suffices z : OkF (runF T.fns 100000 12 38 [.lst (ns.map .int)]) fun d _ => d = .bl true by
    obtain ⟨d, ms, e, rfl⟩ := z.eq
    exact ⟨ms, e⟩
  obtain ⟨ds, hds⟩ : ∃ ds, ds = [IV.lst (ns.map .int)] := ⟨_, rfl⟩
  rw [← hds]
  refine okF_run (fn := f_law) rfl (by rw [hds]; rfl) ?_
  have st : StrmOk (runF T.fns 100000 11) := fun i c h0 h1 => r_stream (k := 9) i c h0 (by omega)
  have rt : RightOk (runF T.fns 100000 11) := fun n s m hs hn => r_right (k := 2) (by decide) hs hn
  have ch : runF T.fns 100000 11 i__law_characters [] = some (.ok (.str CH), []) := e_chars (k := 10)
  have to : ∀ (L : List Nat) (m : Bool), lineOk L = true → L.length ≤ 400 → runF T.fns 100000 11 i_tokens [.str L, .bl m] = resL (toks m L) := fun L m h1 h2 => e_tokens (k := 3) (by decide) h1 h2
  have lo : ∀ ps : List (List Nat × IV), (∀ q ∈ ps, ∃ t, wr q.1 q.2 = some t ∧ t.length ≤ 5000) → ps.length ≤ 1000 → runF T.fns 100000 11 i_line_of [.tup (ps.map fun q => .tup [.str q.1, q.2])] = some (.ok (.str (TL.joinL [32] (ps.map fun q => (wr q.1 q.2).getD []))), [.non]) := fun ps h1 h2 => e_line_of (k := 7) h1 h2
  generalize runF T.fns 100000 11 = cs at st rt ch to lo ⊢
  have ba : Back cs EA := back_chars to lo (fun c hc => cn_kc c (List.mem_of_mem_take hc)) (by decide +kernel)
  have bb : Back cs EB := back_chars to lo (fun c hc => cn_kc c (List.mem_of_mem_drop hc)) (by decide +kernel)
  have bs := back_str to lo
  clear to lo
  simp only [f_law, b_law, Fn.start, List.length_cons, List.length_nil, List.replicate]
  rw [hds]
  simp only [startA, List.cons_append, List.nil_append, Bool.false_eq_true, if_false]
  refine ok_mid (fun ρ => ∃ a1 a2 a3 a4, ρ = [.i (.lst (ns.map .int)), a1, a2, a3, a4, .e, .e, .e, .e, .e, .e]) ?_ ?_
  · have ad : binD .add (.lst (ns.map .int)) (.lst [.int 0]) = some (.lst (ns.map .int ++ [.int 0])) := b_addL (by simp; show ns.length + 1 ≤ 16777216; omega)
    have sl : slD (.lst (ns.map .int ++ [.int 0])) none (some 8) = some (.lst (cutL (ns.map .int ++ [.int 0]) none (some 8))) := rfl
    rw [okS_loop, okI_enu]
    simp only [okE_sl, okE_bin, okE_var, okE_lst, okEs_cons, okEs_nil, okE_cst, okO_no, okO_yes, List.getElem?_cons_zero, okO_some, List.length_cons, List.length_nil, SZ, Nat.reduceAdd, Nat.reduceLeDiff, if_true, ad, sl, seqE_l]
    generalize hxs : cutL (ns.map IV.int ++ [IV.int 0]) none (some 8) = xs
    have xl : xs.length ≤ 8 := by
      rw [← hxs]
      unfold cutL
      rw [List.length_take, List.length_drop, HT.sIx_none, show HT.sIx (ns.map IV.int ++ [IV.int 0]).length (ns.map IV.int ++ [IV.int 0]).length (some 8) = min 8 (ns.map IV.int ++ [IV.int 0]).length from HT.sIx_nat _ _ 8]
      omega
    have xi : ∀ x ∈ xs, ∃ v : Int, x = .int v := by
      intro x hx
      rw [← hxs] at hx
      unfold cutL at hx
      have hx := List.mem_of_mem_drop (List.mem_of_mem_take hx)
      rcases List.mem_append.mp hx with z | z
      · obtain ⟨v, _, e⟩ := List.mem_map.mp z
        exact ⟨v, e.symm⟩
      · exact ⟨0, List.mem_singleton.mp z⟩
    refine ok_for (fun _ ρ => ∃ a1 a2 a3 a4, ρ = [.i (.lst (ns.map .int)), a1, a2, a3, a4, .e, .e, .e, .e, .e, .e]) _ 0 ⟨_, _, _, _, rfl⟩ ?_ ?_
    · rintro i y ρ hy ⟨a1, a2, a3, a4, rfl⟩
      rw [enumD_get] at hy
      cases hx : xs[i]? with
      | none => rw [hx] at hy; cases hy
      | some x =>
        rw [hx] at hy
        have hi : i < xs.length := (List.getElem?_eq_some_iff.mp hx).1
        obtain ⟨v, rfl⟩ := xi x (List.mem_of_getElem? hx)
        have hy : some (IV.tup [.int ((0 + i : Nat) : Int), .int v]) = some y := hy
        cases hy
        show OkX _ (some (.ok (), setTgs [1, 2] [.int ((0 + i : Nat) : Int), .int v] [.i (.lst (ns.map .int)), a1, a2, a3, a4, .e, .e, .e, .e, .e, .e])) _
        rw [ok_some]
        refine r_item st rt (by omega) (by omega) fun x3 x4 => ?_
        exact ⟨_, _, _, _, rfl⟩
    · rintro ρ ⟨a1, a2, a3, a4, rfl⟩
      exact ⟨rfl, _, _, _, _, rfl⟩
  · rintro ρ ⟨a1, a2, a3, a4, rfl⟩
    have w1 : w_CHARACTER = sChar := rfl
    have ad : binD .add (.str CH) (.str [10]) = some (.str CN) := b_addS (by decide)
    refine ok_step fun K hK _ => ?_
    simp [ch, ad]
    have em : (CN.map fun c => IV.str [c]).map (fun x => match x with | .str [c] => twoE (entC c) | _ => .non) = EV := by
      unfold EV
      rw [List.map_map, List.map_map]
      rfl
    have xl : (CN.map fun c => IV.str [c]).length ≤ SZ := by rw [List.length_map]; decide
    have xs : ∀ x ∈ CN.map fun c => IV.str [c], ∃ c, x = .str [c] := fun x hx => by
      obtain ⟨c, _, e⟩ := List.mem_map.mp hx
      exact ⟨c, e.symm⟩
    generalize (CN.map fun c => IV.str [c]) = XS at em xl xs ⊢
    refine ok_map1 (f := fun x => match x with | .str [c] => twoE (entC c) | _ => .non) (r := .e) rfl rfl xl (fun _ _ => id rfl) ?_ ?_
    · intro x hx
      obtain ⟨c, rfl⟩ := xs x hx
      simp [SZ, w1, twoE, entC]
    · rw [em]
      have ft : fnD .tuple [.lst EV] = some (.tup EV) := rfl
      rw [ft]
      simp
      refine hK _ ?_
      have fl : fnD .len [.tup EV] = some (.int 95) := by
        show some (IV.int (EV.length : Nat)) = _
        rw [ev_len]
        rfl
      have sa := sl_a
      have sb := sl_b
      generalize EV = E at ft fl sa sb ⊢
      rw [okSs_cons, okS_loop, okI_rng3]
      simp only [okE_cst, okE_fn, okEs_cons, okEs_nil, okE_var, List.getElem?_cons_zero, List.getElem?_cons_succ, okO_some, fl, sr3]
      refine ok_for (fun _ ρ => ∃ a7 a8, ρ = [.i (.lst (ns.map .int)), a1, a2, a3, a4, .i (.tup E), .e, a7, a8, .e, .e]) _ 0 ⟨_, _, rfl⟩ ?_ ?_
      · rintro i y ρ hy ⟨a7, a8, rfl⟩
        rw [tg_one]
        simp only [List.set_cons_zero, List.set_cons_succ]
        have hy2 : y = .int 0 ∨ y = .int 50 := by
          have := List.mem_of_getElem? hy
          simpa using this
        rcases hy2 with rfl | rfl
        · exact r_line ba sa fun x8 => ⟨_, _, rfl⟩
        · exact r_line bb sb fun x8 => ⟨_, _, rfl⟩
      · rintro ρ ⟨a7, a8, rfl⟩
        obtain ⟨L, D, l1, t1, e1, dl⟩ := bs.ex
        have ce := c_eq_refl bs.pl (by decide)
        refine ok_step fun K hK _ => ?_
        simp [ch, ad, SZ]
        refine hK _ ?_
        have fl2 : fnD .list [.tup [.tup [.str sStr, .str CN]]] = some (.lst [.tup [.str sStr, .str CN]]) := rfl
        simp [l1, t1]
        refine r_twoI rfl dl rfl ?_
        rw [e1]
        simp [fl2, ce, mutsOf]
end K03


open PySem PySem.W PyProof.Rows
set_option maxRecDepth 100000 in
set_option maxHeartbeats 0 in
theorem PySem.Challenge.cw_macroasm_k03_whole_tokens_read_holds : PySem.Challenge.rw_macroasm_k03_whole_tokens_read.Holds := by
  w_on; o_law; k_head; (case hw => w_witness2)
  k_fill
  refine Mx.walk_run (l := PySem.Challenge.rw_macroasm_k03_whole_tokens_read) (n := 63) (k := 12) (nF := 100000) (iL := 38) (x := "_law_script") (T := K03.T) (fn := K03.f_law) rfl (by decide) rfl ⟨rfl, by decide, by decide⟩ (fun w h Y => PySem.W.kIn_of Y) rfl rfl rfl rfl rfl rfl rfl ?F K03.run_law
  case F =>
    intro w mg h KX G
    have xk := Mx.xk_mk (P := PySem.Challenge.rw_macroasm_k03_whole_tokens_read.prog) KX (by k_is) (by k_is) (by decide +kernel) (by k_is)
    refine' K03.all_mk KX G ?z_g0 ?z_gt0 ?z_g1 ?z_gt1 ?z_g2 ?z_gt2 ?z_g3 ?z_gt3 ?z_g4 ?z_gt4 ?z_g5 ?z_gt5 ?z_g6 ?z_gt6 ?z_g7 ?z_gt7 ?z_g8 ?z_gt8 ?z_g9 ?z_gt9 ?z_g10 ?z_gl10 ?z_gt10 ?z_g11 ?z_gt11 ?z_g12 ?z_gt12 ?z_g13 ?z_gt13 ?z_g14 ?z_gt14 ?z_g15 ?z_gt15 ?z_g16 ?z_gt16 ?z_g17 ?z_gt17 ?z_g18 ?z_gt18 ?z_g19 ?z_gt19 ?z_b0 ?z_b1 ?z_b2 ?z_b3 ?z_b4 ?z_b5 ?z_b6 ?z_b7 ?z_b8 ?z_b9 ?z_kg0 ?z_kl0 ?z_kz0 ?z_kp0 ?z_kg1 ?z_kl1 ?z_kz1 ?z_kp1 ?z_ca2 ?z_cp2 ?z_ch2 ?z_co2 ?z_cs2 ?z_cm2 ?z_ck2 ?z_cf2_0 ?z_cf2_1 ?z_cf2_2 ?z_st0 ?z_st1 ?z_st2 ?z_a0 ?z_l0 ?z_c0 ?z_k0 ?z_a1 ?z_i1 ?z_l1 ?z_c1 ?z_k1 ?z_tl1 ?z_tb1 ?z_a2 ?z_i2 ?z_l2 ?z_c2 ?z_k2 ?z_tl2 ?z_tb2 ?z_a3 ?z_i3 ?z_l3 ?z_c3 ?z_k3 ?z_a4 ?z_i4 ?z_l4 ?z_c4 ?z_k4 ?z_a5 ?z_i5 ?z_l5 ?z_c5 ?z_k5 ?z_a6 ?z_i6 ?z_l6 ?z_c6 ?z_k6 ?z_a7 ?z_i7 ?z_l7 ?z_c7 ?z_k7 ?z_a8 ?z_i8 ?z_l8 ?z_c8 ?z_k8 ?z_a9 ?z_i9 ?z_l9 ?z_c9 ?z_k9 ?z_a10 ?z_i10 ?z_l10 ?z_c10 ?z_k10 ?z_a11 ?z_i11 ?z_l11 ?z_c11 ?z_k11 ?z_a12 ?z_i12 ?z_l12 ?z_c12 ?z_k12 ?z_a13 ?z_i13 ?z_l13 ?z_c13 ?z_k13 ?z_a14 ?z_i14 ?z_l14 ?z_c14 ?z_k14 ?z_a15 ?z_i15 ?z_l15 ?z_c15 ?z_k15 ?z_a16 ?z_i16 ?z_l16 ?z_c16 ?z_k16 ?z_a17 ?z_i17 ?z_l17 ?z_c17 ?z_k17 ?z_a18 ?z_i18 ?z_l18 ?z_c18 ?z_k18 ?z_a19 ?z_l19 ?z_c19 ?z_k19 ?z_kw19_0 ?z_kb19_0 ?z_a20 ?z_l20 ?z_c20 ?z_k20 ?z_a21 ?z_l21 ?z_c21 ?z_k21 ?z_a22 ?z_l22 ?z_c22 ?z_k22 ?z_a23 ?z_l23 ?z_c23 ?z_k23 ?z_a24 ?z_l24 ?z_c24 ?z_k24 ?z_a25 ?z_l25 ?z_c25 ?z_k25 ?z_a26 ?z_l26 ?z_c26 ?z_k26 ?z_a27 ?z_l27 ?z_c27 ?z_k27 ?z_a28 ?z_l28 ?z_c28 ?z_k28 ?z_a29 ?z_l29 ?z_c29 ?z_k29 ?z_a30 ?z_l30 ?z_c30 ?z_k30 ?z_a31 ?z_l31 ?z_c31 ?z_k31 ?z_a32 ?z_l32 ?z_c32 ?z_k32 ?z_a33 ?z_l33 ?z_c33 ?z_k33 ?z_a34 ?z_l34 ?z_c34 ?z_k34 ?z_a35 ?z_l35 ?z_c35 ?z_k35 ?z_a36 ?z_l36 ?z_c36 ?z_k36 ?z_a37 ?z_l37 ?z_c37 ?z_k37 ?z_a38 ?z_l38 ?z_c38 ?z_k38 ?z_sup ?z_x0 ?z_m0 ?z_x1 ?z_m1
    (case z_g0 => k_is)
    (case z_gt0 => decide +kernel)
    (case z_g1 => k_is)
    (case z_gt1 => decide +kernel)
    (case z_g2 => k_is)
    (case z_gt2 => decide +kernel)
    (case z_g3 => k_is)
    (case z_gt3 => decide +kernel)
    (case z_g4 => k_is)
    (case z_gt4 => decide +kernel)
    (case z_g5 => k_is)
    (case z_gt5 => decide +kernel)
    (case z_g6 => k_is)
    (case z_gt6 => decide +kernel)
    (case z_g7 => k_is)
    (case z_gt7 => decide +kernel)
    (case z_g8 => k_is)
    (case z_gt8 => decide +kernel)
    (case z_g9 => k_is)
    (case z_gt9 => decide +kernel)
    (case z_g10 => k_is)
    (case z_gl10 => k_is)
    (case z_gt10 => decide +kernel)
    (case z_g11 => k_is)
    (case z_gt11 => decide +kernel)
    (case z_g12 => k_is)
    (case z_gt12 => decide +kernel)
    (case z_g13 => k_is)
    (case z_gt13 => decide +kernel)
    (case z_g14 => k_is)
    (case z_gt14 => decide +kernel)
    (case z_g15 => k_is)
    (case z_gt15 => decide +kernel)
    (case z_g16 => k_is)
    (case z_gt16 => decide +kernel)
    (case z_g17 => k_is)
    (case z_gt17 => decide +kernel)
    (case z_g18 => k_is)
    (case z_gt18 => decide +kernel)
    (case z_g19 => k_is)
    (case z_gt19 => decide +kernel)
    (case z_b0 => k_is)
    (case z_b1 => k_is)
    (case z_b2 => k_is)
    (case z_b3 => k_is)
    (case z_b4 => k_is)
    (case z_b5 => k_is)
    (case z_b6 => k_is)
    (case z_b7 => k_is)
    (case z_b8 => k_is)
    (case z_b9 => k_is)
    (case z_kg0 => k_is)
    (case z_kl0 => k_is)
    (case z_kz0 => decide +kernel)
    (case z_kp0 => exact (.cons ⟨rfl, rfl, ⟨_, rfl⟩⟩ (.cons ⟨rfl, rfl, ⟨_, rfl⟩⟩ .nil)))
    (case z_kg1 => k_is)
    (case z_kl1 => k_is)
    (case z_kz1 => decide +kernel)
    (case z_kp1 => exact (.cons ⟨rfl, rfl, ⟨_, rfl⟩⟩ (.cons ⟨rfl, rfl, ⟨_, rfl⟩⟩ (.cons ⟨rfl, rfl, ⟨_, rfl⟩⟩ .nil))))
    (case z_ca2 => k_is)
    (case z_cp2 => k_is)
    (case z_ch2 => k_is)
    (case z_co2 => k_is)
    (case z_cs2 => k_is)
    (case z_cm2 => k_is)
    (case z_ck2 => k_is)
    (case z_cf2_0 => k_is)
    (case z_cf2_1 => k_is)
    (case z_cf2_2 => k_is)
    (case z_a0 => k_is)
    (case z_l0 => k_is)
    (case z_c0 => k_is)
    (case z_k0 => k_is)
    (case z_a1 => k_is)
    (case z_i1 => k_is)
    (case z_l1 => k_is)
    (case z_c1 => k_is)
    (case z_k1 => k_is)
    (case z_tl1 => k_is)
    (case z_tb1 => decide +kernel)
    (case z_a2 => k_is)
    (case z_i2 => k_is)
    (case z_l2 => k_is)
    (case z_c2 => k_is)
    (case z_k2 => k_is)
    (case z_tl2 => k_is)
    (case z_tb2 => decide +kernel)
    (case z_a3 => k_is)
    (case z_i3 => k_is)
    (case z_l3 => k_is)
    (case z_c3 => k_is)
    (case z_k3 => k_is)
    (case z_a4 => k_is)
    (case z_i4 => k_is)
    (case z_l4 => k_is)
    (case z_c4 => k_is)
    (case z_k4 => k_is)
    (case z_a5 => k_is)
    (case z_i5 => k_is)
    (case z_l5 => k_is)
    (case z_c5 => k_is)
    (case z_k5 => k_is)
    (case z_a6 => k_is)
    (case z_i6 => k_is)
    (case z_l6 => k_is)
    (case z_c6 => k_is)
    (case z_k6 => k_is)
    (case z_a7 => k_is)
    (case z_i7 => k_is)
    (case z_l7 => k_is)
    (case z_c7 => k_is)
    (case z_k7 => k_is)
    (case z_a8 => k_is)
    (case z_i8 => k_is)
    (case z_l8 => k_is)
    (case z_c8 => k_is)
    (case z_k8 => k_is)
    (case z_a9 => k_is)
    (case z_i9 => k_is)
    (case z_l9 => k_is)
    (case z_c9 => k_is)
    (case z_k9 => k_is)
    (case z_a10 => k_is)
    (case z_i10 => k_is)
    (case z_l10 => k_is)
    (case z_c10 => k_is)
    (case z_k10 => k_is)
    (case z_a11 => k_is)
    (case z_i11 => k_is)
    (case z_l11 => k_is)
    (case z_c11 => k_is)
    (case z_k11 => k_is)
    (case z_a12 => k_is)
    (case z_i12 => k_is)
    (case z_l12 => k_is)
    (case z_c12 => k_is)
    (case z_k12 => k_is)
    (case z_a13 => k_is)
    (case z_i13 => k_is)
    (case z_l13 => k_is)
    (case z_c13 => k_is)
    (case z_k13 => k_is)
    (case z_a14 => k_is)
    (case z_i14 => k_is)
    (case z_l14 => k_is)
    (case z_c14 => k_is)
    (case z_k14 => k_is)
    (case z_a15 => k_is)
    (case z_i15 => k_is)
    (case z_l15 => k_is)
    (case z_c15 => k_is)
    (case z_k15 => k_is)
    (case z_a16 => k_is)
    (case z_i16 => k_is)
    (case z_l16 => k_is)
    (case z_c16 => k_is)
    (case z_k16 => k_is)
    (case z_a17 => k_is)
    (case z_i17 => k_is)
    (case z_l17 => k_is)
    (case z_c17 => k_is)
    (case z_k17 => k_is)
    (case z_a18 => k_is)
    (case z_i18 => k_is)
    (case z_l18 => k_is)
    (case z_c18 => k_is)
    (case z_k18 => k_is)
    (case z_a19 => k_is)
    (case z_l19 => k_is)
    (case z_c19 => k_is)
    (case z_k19 => k_is)
    (case z_kw19_0 => k_is)
    (case z_kb19_0 => decide +kernel)
    (case z_a20 => k_is)
    (case z_l20 => k_is)
    (case z_c20 => k_is)
    (case z_k20 => k_is)
    (case z_a21 => k_is)
    (case z_l21 => k_is)
    (case z_c21 => k_is)
    (case z_k21 => k_is)
    (case z_a22 => k_is)
    (case z_l22 => k_is)
    (case z_c22 => k_is)
    (case z_k22 => k_is)
    (case z_a23 => k_is)
    (case z_l23 => k_is)
    (case z_c23 => k_is)
    (case z_k23 => k_is)
    (case z_a24 => k_is)
    (case z_l24 => k_is)
    (case z_c24 => k_is)
    (case z_k24 => k_is)
    (case z_a25 => k_is)
    (case z_l25 => k_is)
    (case z_c25 => k_is)
    (case z_k25 => k_is)
    (case z_a26 => k_is)
    (case z_l26 => k_is)
    (case z_c26 => k_is)
    (case z_k26 => k_is)
    (case z_a27 => k_is)
    (case z_l27 => k_is)
    (case z_c27 => k_is)
    (case z_k27 => k_is)
    (case z_a28 => k_is)
    (case z_l28 => k_is)
    (case z_c28 => k_is)
    (case z_k28 => k_is)
    (case z_a29 => k_is)
    (case z_l29 => k_is)
    (case z_c29 => k_is)
    (case z_k29 => k_is)
    (case z_a30 => k_is)
    (case z_l30 => k_is)
    (case z_c30 => k_is)
    (case z_k30 => k_is)
    (case z_a31 => k_is)
    (case z_l31 => k_is)
    (case z_c31 => k_is)
    (case z_k31 => k_is)
    (case z_a32 => k_is)
    (case z_l32 => k_is)
    (case z_c32 => k_is)
    (case z_k32 => k_is)
    (case z_a33 => k_is)
    (case z_l33 => k_is)
    (case z_c33 => k_is)
    (case z_k33 => k_is)
    (case z_a34 => k_is)
    (case z_l34 => k_is)
    (case z_c34 => k_is)
    (case z_k34 => k_is)
    (case z_a35 => k_is)
    (case z_l35 => k_is)
    (case z_c35 => k_is)
    (case z_k35 => k_is)
    (case z_a36 => k_is)
    (case z_l36 => k_is)
    (case z_c36 => k_is)
    (case z_k36 => k_is)
    (case z_a37 => k_is)
    (case z_l37 => k_is)
    (case z_c37 => k_is)
    (case z_k37 => k_is)
    (case z_a38 => k_is)
    (case z_l38 => k_is)
    (case z_c38 => k_is)
    (case z_k38 => k_is)
    (case z_sup => k_is)
    (case z_x0 => refine' K03.x_BadLine xk KX G ?y_a ?y_ini ?y_ovr ?y_hd ?y_sa ?y_kC ?y_ga ?y_gg ?y_sub ?y_ca ?y_cm ?y_n_column ?y_find ?y_sup ?y_subB ?y_mroC ?y_hfn ?y_lf ?y_lc ?y_lk ?y_file ?y_lcc; (case y_a => k_is); (case y_ini => kx_is); (case y_ovr => kx_is); (case y_hd => k_is); (case y_sa => k_is); (case y_kC => k_is); (case y_ga => k_is); (case y_gg => k_is); (case y_sub => k_is); (case y_ca => k_is); (case y_cm => k_is); (case y_n_column => k_is); (case y_find => k_is); (case y_sup => ks_is); (case y_subB => k_is); (case y_mroC => k_is); (case y_hfn => k_is); (case y_lf => k_is); (case y_lc => k_is); (case y_lk => k_is); (case y_file => decide +kernel); (case y_lcc => k_is))
    (case z_m0 => k_is)
    (case z_x1 => refine' K03.x_TooLarge xk KX G ?y_a ?y_ini ?y_ovr ?y_hd ?y_sa ?y_kC ?y_ga ?y_gg ?y_sub ?y_ca ?y_cm ?y_n_limit ?y_find ?y_sup ?y_subB ?y_mroC ?y_hfn ?y_lf ?y_lc ?y_lk ?y_file ?y_lcc; (case y_a => k_is); (case y_ini => kx_is); (case y_ovr => kx_is); (case y_hd => k_is); (case y_sa => k_is); (case y_kC => k_is); (case y_ga => k_is); (case y_gg => k_is); (case y_sub => k_is); (case y_ca => k_is); (case y_cm => k_is); (case y_n_limit => k_is); (case y_find => k_is); (case y_sup => ks_is); (case y_subB => k_is); (case y_mroC => k_is); (case y_hfn => k_is); (case y_lf => k_is); (case y_lc => k_is); (case y_lk => k_is); (case y_file => decide +kernel); (case y_lcc => k_is))
    (case z_m1 => k_is)
    (case z_st0 => k_is)
    (case z_st1 => k_is)
    (case z_st2 => k_is)
#print axioms PySem.Challenge.cw_macroasm_k03_whole_tokens_read_holds


