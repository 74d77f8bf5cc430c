import PyProof.Rows.All
import Wide.All
import OpenK.AllK
import Wide.FinOn
import HandS.ForMost
import HandS.Walk
import HandS.ForExc
import HandS.Star
import HandS.TupAny
import HandS.FStr
import HandS.More
import HandS.Zip
import HandS.Deep
import HandS.Defaults
import HandS.CallSlots
import HandS.Property
import HandS.MakeKw
import HandS.ExcInit
import HandS.SuiteRaise
import HandS.RaiseFrom
import HandS.ExcInitHot
import HandS.ExcField
import HandS.ExcIs
import HandS.Style
import HandS.StrMore
import HandS.WordsExc
import HandS.Strs
import HandS.Text
import HandS.Codes
import HandS.IsInst
import HandS.ReplaceLit
import HandS.ReplaceList
import KE.KStateDown
import Lean
import HandS.Ends
import HandS.Words
import HandS.Head0
import HandS.Head1
import HandS.Head2
import HandS.HeadEnd
import HandS.HeadHook1
import HandS.HeadHook2
import HandS.HeadHook3
import HandS.HeadHook4
import HandS.HeadWalk
import PySem.Challenge.RW_keysthrough_k54_books_that_are_none
set_option Elab.async false
set_option linter.all false
set_option maxRecDepth 100000
set_option maxHeartbeats 2000000
/-! K0: data, what a value stands for over a frozen heap, the state by data -/
namespace Kt
open PySem PySem.Spec PyProof.Rows L2

/-- data -/
inductive D where
  | non
  | bl (b : Bool)
  | int (i : Int)
  | str (x : Str)
  | lst (l : List D)
  | tup (l : List D)
  | dct (l : List (Key × D))
  | ins (C : Addr) (l : List (Str × D))
  | exc (C : Addr) (d : D)
  | adr (a : Addr)
  | ty (n : String)
  | frl (l : List D)

/-- a raised exception that is kept at a: its class C, its own dict at d -/
def ExV (a C d : Addr) : HO := .ext fun h => ∃ (oe : Obj) (vs : Array Value), h.get? a = some oe ∧ oe.cls = .ref C ∧ oe.dict = some d ∧ oe.data = .fields vs

mutual
inductive Rep (F : Hp) : V → D → Prop
  | non : Rep F .non .non
  | bl {b} : Rep F (.bl b) (.bl b)
  | int {i} : Rep F (.int i) (.int i)
  | str {x} : Rep F (.str x) (.str x)
  | lst {a vs l} : F a = some (.lst vs) → RepL F vs l → Rep F (.ref a) (.lst l)
  | tup {a vs l} : F a = some (.tup vs) → RepL F vs l → Rep F (.ref a) (.tup l)
  | dct {a kvs l} : Rd F a (.dK kvs) → RepK F kvs l → Rep F (.ref a) (.dct l)
  | ins {a C dx fs l} : F a = some (.ins C dx fs) → RepF F fs l → Rep F (.ref a) (.ins C l)
  | exc {a C dx v d} : F a = some (ExV a C dx) → F dx = some (.xd [("value", v)]) → Rep F v d → Rep F (.ref a) (.exc C d)
  | adr {a} : Rep F (.ref a) (.adr a)
  | ty {n} : Rep F (.ty n) (.ty n)
  | frl {a vs l} : Rd F a (.lst vs) → RepL F vs l → Rep F (.ref a) (.frl l)
inductive RepL (F : Hp) : List V → List D → Prop
  | nil : RepL F [] []
  | cons {v d vs l} : Rep F v d → RepL F vs l → RepL F (v :: vs) (d :: l)
inductive RepK (F : Hp) : List (Key × V) → List (Key × D) → Prop
  | nil : RepK F [] []
  | cons {k v d vs l} : Rep F v d → RepK F vs l → RepK F ((k, v) :: vs) ((k, d) :: l)
inductive RepF (F : Hp) : List (Str × V) → List (Str × D) → Prop
  | nil : RepF F [] []
  | cons {k v d vs l} : Rep F v d → RepF F vs l → RepF F ((k, v) :: vs) ((k, d) :: l)
end

def isDK : HO → Bool
  | .dK _ => true
  | _ => false
/-- what is read stays so; all but dicts stay as they are -/
structure Le (F F' : Hp) : Prop where
  rd : ∀ a u, Rd F a u → Rd F' a u
  st : ∀ a u, F a = some u → isDK u = false → F' a = some u
theorem Le.refl (F : Hp) : Le F F := ⟨fun _ _ h => h, fun _ _ h _ => h⟩
theorem Le.trans {F G H : Hp} (a : Le F G) (b : Le G H) : Le F H := ⟨fun c u h => b.rd c u (a.rd c u h), fun c u h n => b.st c u (a.st c u h n) n⟩
theorem Le.of {F F' : Hp} (s : Same F F') : Le F F' := ⟨fun a u h => by
  rcases h with h | ⟨o, h⟩
  · exact .inl (s _ _ h)
  · exact .inr ⟨o, s _ _ h⟩, fun a u h _ => s _ _ h⟩

mutual
theorem Rep.le {F F' : Hp} (s : Le F F') : ∀ {v : V} {d : D}, Rep F v d → Rep F' v d
  | _, _, .non => .non
  | _, _, .bl => .bl
  | _, _, .int => .int
  | _, _, .str => .str
  | _, _, .lst h r => .lst (s.st _ _ h rfl) (RepL.le s r)
  | _, _, .tup h r => .tup (s.st _ _ h rfl) (RepL.le s r)
  | _, _, .dct h r => .dct (s.rd _ _ h) (RepK.le s r)
  | _, _, .ins h r => .ins (s.st _ _ h rfl) (RepF.le s r)
  | _, _, .exc h g r => .exc (s.st _ _ h rfl) (s.st _ _ g rfl) (Rep.le s r)
  | _, _, .adr => .adr
  | _, _, .ty => .ty
  | _, _, .frl h r => .frl (s.rd _ _ h) (RepL.le s r)
theorem RepL.le {F F' : Hp} (s : Le F F') : ∀ {v : List V} {d : List D}, RepL F v d → RepL F' v d
  | _, _, .nil => .nil
  | _, _, .cons h r => .cons (Rep.le s h) (RepL.le s r)
theorem RepK.le {F F' : Hp} (s : Le F F') : ∀ {v : List (Key × V)} {d : List (Key × D)}, RepK F v d → RepK F' v d
  | _, _, .nil => .nil
  | _, _, .cons h r => .cons (Rep.le s h) (RepK.le s r)
theorem RepF.le {F F' : Hp} (s : Le F F') : ∀ {v : List (Str × V)} {d : List (Str × D)}, RepF F v d → RepF F' v d
  | _, _, .nil => .nil
  | _, _, .cons h r => .cons (Rep.le s h) (RepF.le s r)
end
section
variable {F F' : Hp}
theorem Rep.same {v : V} {d : D} (s : Same F F') (h : Rep F v d) : Rep F' v d := h.le (.of s)
theorem RepL.same {v : List V} {d : List D} (s : Same F F') (h : RepL F v d) : RepL F' v d := h.le (.of s)
theorem RepK.same {v : List (Key × V)} {d : List (Key × D)} (s : Same F F') (h : RepK F v d) : RepK F' v d := h.le (.of s)
theorem RepF.same {v : List (Str × V)} {d : List (Str × D)} (s : Same F F') (h : RepF F v d) : RepF F' v d := h.le (.of s)

theorem RepL.len : ∀ {vs : List V} {l : List D}, RepL F vs l → vs.length = l.length
  | _, _, .nil => rfl
  | _, _, .cons _ r => congrArg Nat.succ r.len
theorem RepL.at : ∀ {vs : List V} {l : List D} {i : Nat} {d : D}, RepL F vs l → l[i]? = some d → ∃ v, vs[i]? = some v ∧ Rep F v d
  | _, _, 0, _, .cons h _, e => ⟨_, rfl, by cases e; exact h⟩
  | _, _, i + 1, _, .cons _ r, e => r.at (i := i) e
theorem RepL.atV : ∀ {vs : List V} {l : List D} {i : Nat} {v : V}, RepL F vs l → vs[i]? = some v → ∃ d, l[i]? = some d ∧ Rep F v d
  | _, _, 0, _, .cons h _, e => ⟨_, rfl, by cases e; exact h⟩
  | _, _, i + 1, _, .cons _ r, e => r.atV (i := i) e
theorem RepL.append : ∀ {vs ws : List V} {l m : List D}, RepL F vs l → RepL F ws m → RepL F (vs ++ ws) (l ++ m)
  | _, _, _, _, .nil, s => s
  | _, _, _, _, .cons h r, s => .cons h (r.append s)
theorem RepL.snoc {vs : List V} {l : List D} {v : V} {d : D} (h : RepL F vs l) (r : Rep F v d) : RepL F (vs ++ [v]) (l ++ [d]) := h.append (.cons r .nil)
theorem RepL.drop : ∀ {vs : List V} {l : List D} (n : Nat), RepL F vs l → RepL F (vs.drop n) (l.drop n)
  | _, _, 0, h => h
  | _, _, _ + 1, .nil => .nil
  | _, _, n + 1, .cons _ r => r.drop n
theorem RepL.take : ∀ {vs : List V} {l : List D} (n : Nat), RepL F vs l → RepL F (vs.take n) (l.take n)
  | _, _, 0, _ => .nil
  | _, _, _ + 1, .nil => .nil
  | _, _, n + 1, .cons h r => .cons h (r.take n)
theorem RepL.reverse : ∀ {vs : List V} {l : List D}, RepL F vs l → RepL F vs.reverse l.reverse
  | _, _, .nil => .nil
  | _, _, .cons h r => by rw [List.reverse_cons, List.reverse_cons]; exact r.reverse.snoc h
theorem RepL.set : ∀ {vs : List V} {l : List D} {v : V} {d : D} (i : Nat), RepL F vs l → Rep F v d → RepL F (vs.set i v) (l.set i d)
  | _, _, _, _, _, .nil, _ => .nil
  | _, _, _, _, 0, .cons _ r, q => .cons q r
  | _, _, _, _, i + 1, .cons h r, q => .cons h (r.set i q)
theorem RepL.erase : ∀ {vs : List V} {l : List D} (i : Nat), RepL F vs l → RepL F (vs.eraseIdx i) (l.eraseIdx i)
  | _, _, _, .nil => .nil
  | _, _, 0, .cons _ r => r
  | _, _, i + 1, .cons h r => .cons h (r.erase i)
theorem RepL.ints : ∀ (ns : List Int), RepL F (ns.map V.int) (ns.map D.int)
  | [] => .nil
  | _ :: r => .cons .int (RepL.ints r)
theorem RepL.strs : ∀ (ns : List Str), RepL F (ns.map V.str) (ns.map D.str)
  | [] => .nil
  | _ :: r => .cons .str (RepL.strs r)
theorem RepL.int_of : ∀ {ns : List Int} {vs : List V}, RepL F vs (ns.map D.int) → vs = ns.map V.int
  | [], _, .nil => rfl
  | _ :: r, _, .cons .int h => by rw [RepL.int_of h]; rfl
theorem RepL.str_of : ∀ {ns : List Str} {vs : List V}, RepL F vs (ns.map D.str) → vs = ns.map V.str
  | [], _, .nil => rfl
  | _ :: r, _, .cons .str h => by rw [RepL.str_of h]; rfl
theorem RepL.bl_of : ∀ {ns : List Bool} {vs : List V}, RepL F vs (ns.map D.bl) → vs = ns.map V.bl
  | [], _, .nil => rfl
  | _ :: r, _, .cons .bl h => by rw [RepL.bl_of h]; rfl

/-- a dict's pairs by data -/
def valD (l : List (Key × D)) (k : Key) : Option D := (l.find? fun p => decide (p.1 = k)).map (·.2)
def putD (l : List (Key × D)) (k : Key) (d : D) : List (Key × D) := if (l.any fun p => decide (p.1 = k)) = true then l.map (fun p => if p.1 = k then (p.1, d) else p) else l ++ [(k, d)]
theorem RepK.len : ∀ {vs : List (Key × V)} {l : List (Key × D)}, RepK F vs l → vs.length = l.length
  | _, _, .nil => rfl
  | _, _, .cons _ r => congrArg Nat.succ r.len
theorem RepK.keys : ∀ {vs : List (Key × V)} {l : List (Key × D)}, RepK F vs l → vs.map (·.1) = l.map (·.1)
  | _, _, .nil => rfl
  | _, _, .cons _ r => congrArg (List.cons _) r.keys
theorem RepK.at : ∀ {vs : List (Key × V)} {l : List (Key × D)} {i : Nat} {k : Key} {v : V}, RepK F vs l → vs[i]? = some (k, v) → ∃ d, l[i]? = some (k, d) ∧ Rep F v d
  | _, _, 0, _, _, .cons h _, e => by cases e; exact ⟨_, rfl, h⟩
  | _, _, i + 1, _, _, .cons _ r, e => r.at (i := i) e
theorem RepK.val : ∀ {vs : List (Key × V)} {l : List (Key × D)} {k : Key}, RepK F vs l → (valV vs k = none ∧ valD l k = none) ∨ ∃ v d, valV vs k = some v ∧ valD l k = some d ∧ Rep F v d
  | _, _, _, .nil => .inl ⟨rfl, rfl⟩
  | _, _, k, @RepK.cons _ k' v d vs l h r => by
    by_cases e : k' = k
    · exact .inr ⟨v, d, by simp [valV, e], by simp [valD, e], h⟩
    · rcases r.val (k := k) with ⟨q1, q2⟩ | ⟨v', d', q1, q2, q3⟩
      · exact .inl ⟨by rw [valV_neg e]; exact q1, by unfold valD at q2 ⊢; simp [e, q2]⟩
      · exact .inr ⟨v', d', by rw [valV_neg e]; exact q1, by unfold valD at q2 ⊢; simp only [List.find?_cons, e, decide_false]; exact q2, q3⟩
theorem RepK.snoc : ∀ {vs : List (Key × V)} {l : List (Key × D)} {k : Key} {v : V} {d : D}, RepK F vs l → Rep F v d → RepK F (vs ++ [(k, v)]) (l ++ [(k, d)])
  | _, _, _, _, _, .nil, q => .cons q .nil
  | _, _, _, _, _, .cons h r, q => .cons h (r.snoc q)
theorem RepK.repl : ∀ {vs : List (Key × V)} {l : List (Key × D)} {k : Key} {v : V} {d : D}, RepK F vs l → Rep F v d → RepK F (vs.map fun kv => if kv.1 = k then (kv.1, v) else kv) (l.map fun p => if p.1 = k then (p.1, d) else p)
  | _, _, _, _, _, .nil, q => .nil
  | _, _, k, _, _, @RepK.cons _ k' _ _ _ _ h r, q => by
    by_cases e : k' = k
    · simp only [List.map_cons, e, if_true]; exact .cons q (r.repl q)
    · simp only [List.map_cons, e, if_false]; exact .cons h (r.repl q)
theorem RepK.any : ∀ {vs : List (Key × V)} {l : List (Key × D)} {k : Key}, RepK F vs l → (vs.any fun kv => decide (kv.1 = k)) = l.any fun p => decide (p.1 = k)
  | _, _, _, .nil => rfl
  | _, _, _, .cons _ r => by simp only [List.any_cons, r.any]
theorem RepK.put {vs : List (Key × V)} {l : List (Key × D)} {k : Key} {v : V} {d : D} (h : RepK F vs l) (q : Rep F v d) : RepK F (putK vs k v) (putD l k d) := by
  unfold putK putD
  rw [h.any]
  split
  · exact h.repl q
  · exact h.snoc q
theorem RepK.drop : ∀ {vs : List (Key × V)} {l : List (Key × D)} {k : Key}, RepK F vs l → RepK F (dropK vs k) (l.filter fun p => decide (p.1 ≠ k))
  | _, _, _, .nil => .nil
  | _, _, k, @RepK.cons _ k' _ _ vs l h r => by
    have ih := r.drop (k := k)
    unfold dropK at ih ⊢
    by_cases e : k' = k
    · simp only [List.filter_cons, e, ne_eq, not_true, decide_false]; exact ih
    · simp only [List.filter_cons, e, ne_eq, not_false_eq_true, decide_true, if_true]; exact .cons h ih
theorem RepF.look : ∀ {fs : List (Str × V)} {l : List (Str × D)} {f : Str} {d : D}, RepF F fs l → l.lookup f = some d → ∃ v, fs.lookup f = some v ∧ Rep F v d
  | _, _, f, d, @RepF.cons _ k v d' vs l h r, e => by
    rw [List.lookup_cons] at e ⊢
    cases q : (f == k) with
    | true => rw [q] at e; cases e; exact ⟨v, rfl, h⟩
    | false => rw [q] at e; exact r.look e
theorem RepF.look0 : ∀ {fs : List (Str × V)} {l : List (Str × D)} {f : Str}, RepF F fs l → l.lookup f = none → fs.lookup f = none
  | _, _, _, .nil, _ => rfl
  | _, _, f, @RepF.cons _ k v d' vs l h r, e => by
    rw [List.lookup_cons] at e ⊢
    cases q : (f == k) with
    | true => rw [q] at e; cases e
    | false => rw [q] at e; exact r.look0 e
end
end Kt
/-! K1: the state by data; expressions -/
namespace Kt
open PySem PySem.Spec PyProof.Rows L2 StX

/-- an object of one's own, by data -/
inductive OO where
  | lst (l : List D)
  | dct (l : List (Key × D))
  | ins (C : Addr) (l : List (Str × D))
  | purse (n : Nat)
  | frd (o : Obj) (kvs : List (Key × V)) (l : List (Key × D))
abbrev Ow := List (Addr × OO)
def RepO (F : Hp) (o : HO) : OO → Prop
  | .lst l => ∃ vs, o = .lst vs ∧ RepL F vs l
  | .dct l => ∃ kvs, o = .dK kvs ∧ RepK F kvs l
  | .ins C l => ∃ dx fs, o = .ins C dx fs ∧ RepF F fs l
  | .purse n => ∃ a b c : Int, o = .lst [.int a, .int b, .int c] ∧ 0 ≤ a ∧ 0 ≤ b ∧ b < 10 ^ 25 ∧ 0 ≤ c ∧ c ≤ n
  | .frd od kvs l => o = .frz od (.dK kvs) ∧ RepK F kvs l
theorem RepO.le {F F' : Hp} (s : Le F F') {o : HO} : ∀ {u : OO}, RepO F o u → RepO F' o u
  | .lst _, ⟨vs, e, r⟩ => ⟨vs, e, r.le s⟩
  | .dct _, ⟨vs, e, r⟩ => ⟨vs, e, r.le s⟩
  | .ins _ _, ⟨dx, vs, e, r⟩ => ⟨dx, vs, e, r.le s⟩
  | .purse _, h => h
  | .frd _ _ _, ⟨e, r⟩ => ⟨e, r.le s⟩

/-- from (F, H) on: the frozen part grows, what isn't at M stays -/
structure Fut (F H : Hp) (M : List Addr) (F' H' : Hp) : Prop where
  ff : Same F F'
  fh : Same F' H'
  hh : ∀ a o, a ∉ M → H a = some o → H' a = some o
  ex : ∀ a, H a ≠ none → H' a ≠ none
  nf : ∀ a, H a ≠ none → F a = none → F' a = none
theorem Fut.refl {F H : Hp} {M : List Addr} (s : Same F H) : Fut F H M F H := ⟨Same.refl F, s, fun _ _ _ h => h, fun _ h => h, fun _ _ h => h⟩
theorem Fut.trans {F H F1 H1 F2 H2 : Hp} {M M1 : List Addr} (a : Fut F H M F1 H1) (b : Fut F1 H1 M1 F2 H2) (m : ∀ x ∈ M1, x ∈ M ∨ H x = none) : Fut F H M F2 H2 where
  ff := a.ff.trans b.ff
  fh := b.fh
  hh := fun x o hx h => b.hh x o (fun z => (m x z).elim hx fun e => by rw [e] at h; cases h) (a.hh x o hx h)
  ex := fun x h => b.ex x (a.ex x h)
  nf := fun x h n => b.nf x (a.ex x h) (a.nf x h n)
theorem Fut.same {F H F' H' : Hp} (a : Fut F H [] F' H') : Same H H' := fun x o h => a.hh x o (by simp) h
structure Own (F H : Hp) (O : Ow) : Prop where
  cell : ∀ p ∈ O, ∃ o, H p.1 = some o ∧ F p.1 = none ∧ RepO F o p.2
  nd : (O.map (·.1)).Nodup
/-- where a def began -/
structure Bs where
  F : Hp
  H : Hp
  M : List Addr
structure ST (B : Bs) (O : Ow) (F H : Hp) : Prop where
  fut : Fut B.F B.H B.M F H
  own : Own F H O
  may : ∀ p ∈ O, p.1 ∈ B.M ∨ B.H p.1 = none
def EnvD (F : Hp) (σ : L2.St) (Γ : List (Option D)) : Prop := Γ.length = σ.length ∧ ∀ (i : Nat) (d : D), Γ[i]? = some (some d) → ∃ v, σ[i]? = some (some v) ∧ Rep F v d
section
variable {B : Bs} {O : Ow} {F F' H H' : Hp} {σ : L2.St} {Γ : List (Option D)} {p : Addr}
theorem ST.fh (s : ST B O F H) : Same F H := s.fut.fh
theorem EnvD.same (s : Same F F') (e : EnvD F σ Γ) : EnvD F' σ Γ := ⟨e.1, fun i d h => let ⟨v, h1, h2⟩ := e.2 i d h; ⟨v, h1, h2.same s⟩⟩
theorem EnvD.le (s : Le F F') (e : EnvD F σ Γ) : EnvD F' σ Γ := ⟨e.1, fun i d h => let ⟨v, h1, h2⟩ := e.2 i d h; ⟨v, h1, h2.le s⟩⟩
theorem EnvD.set {v : V} {d : D} {i : Nat} (e : EnvD F σ Γ) (r : Rep F v d) : EnvD F (σ.set i (some v)) (Γ.set i (some d)) := by
  refine ⟨by rw [List.length_set, List.length_set]; exact e.1, fun j d' h => ?_⟩
  by_cases q : i = j
  · subst q
    by_cases l : i < Γ.length
    · rw [List.getElem?_set_self l] at h
      cases h
      exact ⟨v, List.getElem?_set_self (by rw [← e.1]; exact l), r⟩
    · rw [List.getElem?_eq_none (by rw [List.length_set]; omega)] at h
      cases h
  · rw [List.getElem?_set_ne q] at h ⊢
    exact e.2 j d' h
theorem EnvD.unset {i : Nat} (e : EnvD F σ Γ) : EnvD F (σ.set i none) (Γ.set i none) := by
  refine ⟨by rw [List.length_set, List.length_set]; exact e.1, fun j d' h => ?_⟩
  by_cases q : i = j
  · subst q
    by_cases l : i < Γ.length
    · rw [List.getElem?_set_self l] at h
      cases h
    · rw [List.getElem?_eq_none (by rw [List.length_set]; omega)] at h
      cases h
  · rw [List.getElem?_set_ne q] at h ⊢
    exact e.2 j d' h
/-- a step that writes nothing -/
theorem ST.step (s : ST B O F H) (f : Fut F H [] F' H') : ST B O F' H' where
  fut := s.fut.trans f (by simp)
  own := ⟨fun p hp => let ⟨o, h1, h2, h3⟩ := s.own.cell p hp; ⟨o, f.same _ _ h1, f.nf _ (by rw [h1]; simp) h2, h3.le (.of f.ff)⟩, s.own.nd⟩
  may := s.may
/-- a new object that is frozen at once -/
theorem fut_new {o : HO} (s : Same F H) (n : H p = none) : Fut F H [] (upd F p o) (upd H p o) where
  ff := fun a u h => by rw [upd_ne (ne_of_none (s _ _ h) n)]; exact h
  fh := fun a u h => by
    by_cases e : a = p
    · subst e; rw [upd_same] at h ⊢; exact h
    · rw [upd_ne e] at h ⊢; exact s _ _ h
  hh := fun a u _ h => by rw [upd_ne (ne_of_none h n)]; exact h
  ex := fun a h => by
    by_cases e : a = p
    · subst e; rw [upd_same]; simp
    · rw [upd_ne e]; exact h
  nf := fun a h q => by rw [upd_ne (fun e => by rw [e] at h; exact h n)]; exact q
/-- a new object that isn't -/
theorem fut_own {o : HO} (s : Same F H) (n : H p = none) : Fut F H [] F (upd H p o) where
  ff := Same.refl F
  fh := fun a u h => by rw [upd_ne (ne_of_none (s _ _ h) n)]; exact s _ _ h
  hh := fun a u _ h => by rw [upd_ne (ne_of_none h n)]; exact h
  ex := fun a h => by
    by_cases e : a = p
    · subst e; rw [upd_same]; simp
    · rw [upd_ne e]; exact h
  nf := fun a h q => q
theorem ST.bnone (s : ST B O F H) (n : H p = none) : B.H p = none := by
  cases e : B.H p with
  | none => rfl
  | some o => exact absurd n (s.fut.ex p (by rw [e]; simp))
theorem ST.fnone (s : ST B O F H) (n : H p = none) : F p = none := by
  cases e : F p with
  | none => rfl
  | some o => rw [s.fh _ _ e] at n; cases n
theorem ST.laid {o : HO} {u : OO} (s : ST B O F H) (n : H p = none) (r : RepO F o u) : ST B ((p, u) :: O) F (upd H p o) := by
  have t := s.step (fut_own (o := o) s.fh n)
  refine ⟨t.fut, ⟨fun q hq => ?_, ?_⟩, fun q hq => ?_⟩
  · rcases List.mem_cons.mp hq with e | hq
    · subst e; exact ⟨o, upd_same, s.fnone n, r⟩
    · exact t.own.cell q hq
  · refine List.nodup_cons.mpr ⟨fun m => ?_, s.own.nd⟩
    obtain ⟨q, hq, e⟩ := List.mem_map.mp m
    obtain ⟨o', h1, _⟩ := s.own.cell q hq
    rw [e, n] at h1
    cases h1
  · rcases List.mem_cons.mp hq with e | hq
    · subst e; exact .inr (s.bnone n)
    · exact s.may q hq
theorem ST.cell {j : Nat} {u : OO} (s : ST B O F H) (h : O[j]? = some (p, u)) : ∃ o, H p = some o ∧ F p = none ∧ RepO F o u := s.own.cell (p, u) (List.mem_of_getElem? h)
theorem map_set_fst {j : Nat} {u u' : OO} (h : O[j]? = some (p, u)) : (O.set j (p, u')).map (·.1) = O.map (·.1) := by
  rw [List.map_set]
  apply List.ext_getElem?
  intro i
  by_cases e : j = i
  · subst e
    obtain ⟨hl, he⟩ := List.getElem?_eq_some_iff.mp h
    rw [List.getElem?_set_self (by rw [List.length_map]; exact hl), List.getElem?_map, h]; rfl
  · rw [List.getElem?_set_ne e]
theorem ST.write {j : Nat} {u u' : OO} {o' : HO} (s : ST B O F H) (h : O[j]? = some (p, u)) (r : RepO F o' u') : ST B (O.set j (p, u')) F (upd H p o') := by
  obtain ⟨o, h1, h2, h3⟩ := s.cell h
  have hm := s.may _ (List.mem_of_getElem? h)
  refine ⟨⟨s.fut.ff, fun a v q => ?_, fun a v m q => ?_, fun a q => ?_, s.fut.nf⟩, ⟨fun q hq => ?_, by rw [map_set_fst h]; exact s.own.nd⟩, fun q hq => ?_⟩
  · rw [upd_ne (fun e => by rw [e, h2] at q; cases q)]; exact s.fh _ _ q
  · rw [upd_ne (fun e => ?_)]
    · exact s.fut.hh a v m q
    · rw [e] at q m
      rcases hm with z | z
      · exact m z
      · have z' : B.H p = none := z
        rw [z'] at q; cases q
  · by_cases e : a = p
    · subst e; rw [upd_same]; simp
    · rw [upd_ne e]; exact s.fut.ex a q
  · obtain ⟨i, hi, e⟩ := List.mem_iff_getElem.mp hq
    have e' : (O.set j (p, u'))[i]? = some q := by rw [List.getElem?_eq_getElem hi, e]
    by_cases ij : j = i
    · subst ij
      rw [List.getElem?_set_self (by rw [List.length_set] at hi; exact hi)] at e'
      cases e'
      exact ⟨o', upd_same, h2, r⟩
    · rw [List.getElem?_set_ne ij] at e'
      obtain ⟨o2, g1, g2, g3⟩ := s.own.cell q (List.mem_of_getElem? e')
      refine ⟨o2, ?_, g2, g3⟩
      rw [upd_ne (fun z => ?_)]
      · exact g1
      · have a1 : (O.map (·.1))[i]? = some q.1 := by rw [List.getElem?_map, e']; rfl
        have a2 : (O.map (·.1))[j]? = some p := by rw [List.getElem?_map, h]; rfl
        rw [z] at a1
        obtain ⟨l1, w1⟩ := List.getElem?_eq_some_iff.mp a1
        obtain ⟨l2, w2⟩ := List.getElem?_eq_some_iff.mp a2
        exact ij ((List.getElem_inj s.own.nd).mp (w2.trans w1.symm))
  · rcases List.mem_or_eq_of_mem_set hq with m | e
    · exact s.may q m
    · subst e; exact s.may (p, u) (List.mem_of_getElem? h)
/-- an own list is frozen -/
theorem ST.freeze {j : Nat} {l : List D} (s : ST B O F H) (h : O[j]? = some (p, OO.lst l)) (hb : B.H p = none) : ∃ F', ST B (O.eraseIdx j) F' H ∧ Same F F' ∧ Rep F' (.ref p) (.lst l) := by
  obtain ⟨o, h1, h2, vs, rfl, h3⟩ := s.cell h
  have sf : Same F (upd F p (.lst vs)) := fun a v q => by rw [upd_ne (fun e => by rw [e, h2] at q; cases q)]; exact q
  refine ⟨upd F p (.lst vs), ⟨⟨s.fut.ff.trans sf, fun a v q => ?_, s.fut.hh, s.fut.ex, fun a q n => ?_⟩, ⟨fun q hq => ?_, ?_⟩, fun q hq => s.may q ((List.eraseIdx_sublist _ _).subset hq)⟩, sf, .lst upd_same (h3.same sf)⟩
  · by_cases e : a = p
    · subst e; rw [upd_same] at q; cases q; exact h1
    · rw [upd_ne e] at q; exact s.fh _ _ q
  · rw [upd_ne (fun e => by rw [e] at q; exact q hb)]
    exact s.fut.nf a q n
  · obtain ⟨o2, g1, g2, g3⟩ := s.own.cell q ((List.eraseIdx_sublist _ _).subset hq)
    refine ⟨o2, g1, ?_, g3.le (.of sf)⟩
    rw [upd_ne (fun z => ?_)]
    · exact g2
    · have nd := s.own.nd
      have e1 : O.map (·.1) = (O.eraseIdx j).map (·.1) ++ [] ∨ True := .inr trivial
      have hj : j < O.length := (List.getElem?_eq_some_iff.mp h).1
      obtain ⟨i, hi, e⟩ := List.mem_iff_getElem.mp hq
      have e' : (O.eraseIdx j)[i]? = some q := by rw [List.getElem?_eq_getElem hi, e]
      rw [List.getElem?_eraseIdx] at e'
      have a2 : (O.map (·.1))[j]? = some p := by rw [List.getElem?_map, h]; rfl
      obtain ⟨l2, w2⟩ := List.getElem?_eq_some_iff.mp a2
      split at e'
      · have a1 : (O.map (·.1))[i]? = some q.1 := by rw [List.getElem?_map, e']; rfl
        rw [z] at a1
        obtain ⟨l1, w1⟩ := List.getElem?_eq_some_iff.mp a1
        have := (List.getElem_inj nd).mp (w2.trans w1.symm)
        omega
      · have a1 : (O.map (·.1))[i + 1]? = some q.1 := by rw [List.getElem?_map, e']; rfl
        rw [z] at a1
        obtain ⟨l1, w1⟩ := List.getElem?_eq_some_iff.mp a1
        have := (List.getElem_inj nd).mp (w2.trans w1.symm)
        omega
  · exact s.own.nd.sublist ((List.eraseIdx_sublist _ _).map _)
/-- own objects forgotten, put in another order -/
theorem ST.sub {O' : Ow} (s : ST B O F H) (h : ∀ p ∈ O', p ∈ O) (nd : (O'.map (·.1)).Nodup) : ST B O' F H := ⟨s.fut, ⟨fun p hp => s.own.cell p (h p hp), nd⟩, fun p hp => s.may p (h p hp)⟩
theorem ST.perm {O' : Ow} (s : ST B O F H) (h : O.Perm O') : ST B O' F H := s.sub (fun p hp => h.mem_iff.mpr hp) ((h.map _).nodup_iff.mp s.own.nd)
theorem ST.drop {O1 O2 : Ow} (s : ST B (O1 ++ O2) F H) : ST B O2 F H := s.sub (fun p hp => List.mem_append_right _ hp) (s.own.nd.sublist ((List.sublist_append_right _ _).map _))
end

/-! ### judgements -/
def NX (B : Bs) (X : L2.St → Hp → Prop) (Γ : List (Option D)) (O : Ow) : Prop := ∀ F σ H, ST B O F H → EnvD F σ Γ → X σ H
def EvK (B : Bs) (te : TE) (Γ : List (Option D)) (O : Ow) (Φ : D → Ow → Prop) : Prop :=
  ∀ F σ H, ST B O F H → EnvD F σ Γ → ∀ Q : VK, (∀ v d O' F' H', ST B O' F' H' → Same F F' → Rep F' v d → Φ d O' → Q v H') → te σ H Q
def EtK (B : Bs) (tt : TT) (Γ : List (Option D)) (O : Ow) (Φ : Bool → Ow → Prop) : Prop :=
  ∀ F σ H, ST B O F H → EnvD F σ Γ → ∀ Q : Bool → Hp → Prop, (∀ b O' F' H', ST B O' F' H' → Same F F' → Φ b O' → Q b H') → tt σ H Q
def EaK (B : Bs) (ta : TA) (Γ : List (Option D)) (O : Ow) (Φ : List D → Ow → Prop) : Prop :=
  ∀ F σ H, ST B O F H → EnvD F σ Γ → ∀ Q : List V → Hp → Prop, (∀ vs ds O' F' H', ST B O' F' H' → Same F F' → RepL F' vs ds → Φ ds O' → Q vs H') → ta σ H Q
abbrev EvP (B : Bs) (te : TE) (Γ : List (Option D)) (O : Ow) (d : D) : Prop := EvK B te Γ O fun d' O' => d' = d ∧ O' = O
abbrev EtP (B : Bs) (tt : TT) (Γ : List (Option D)) (O : Ow) (b : Bool) : Prop := EtK B tt Γ O fun b' O' => b' = b ∧ O' = O
abbrev EaP (B : Bs) (ta : TA) (Γ : List (Option D)) (O : Ow) (ds : List D) : Prop := EaK B ta Γ O fun d' O' => d' = ds ∧ O' = O
/-- what a value is as a list, a tuple -/
def LstOf (O : Ow) (d : D) (l : List D) : Prop := d = .lst l ∨ d = .frl l ∨ ∃ (p : Addr) (j : Nat), d = .adr p ∧ O[j]? = some (p, OO.lst l)
def SeqOf (O : Ow) (d : D) (l : List D) : Prop := LstOf O d l ∨ d = .tup l
def DctOf (O : Ow) (d : D) (l : List (Key × D)) : Prop := d = .dct l ∨ (∃ (p : Addr) (j : Nat), d = .adr p ∧ O[j]? = some (p, OO.dct l)) ∨ ∃ (p : Addr) (j : Nat) (o : Obj) (kvs : List (Key × V)), d = .adr p ∧ O[j]? = some (p, OO.frd o kvs l)
section
variable {B : Bs} {O : Ow} {F F' H H' : Hp} {σ : L2.St} {Γ : List (Option D)} {p : Addr} {K : PySem.W.Frag}
theorem same_rd (s : Same F H) {a : Addr} {u : HO} (h : Rd F a u) : Rd H a u := (Le.of s).rd a u h
theorem lstOf {v : V} {d : D} {l : List D} (s : ST B O F H) (r : Rep F v d) (h : LstOf O d l) : ∃ a vs, v = .ref a ∧ Rd H a (.lst vs) ∧ RepL F vs l := by
  rcases h with rfl | rfl | ⟨p, j, rfl, hj⟩
  · cases r with
    | lst h1 h2 => exact ⟨_, _, rfl, .inl (s.fh _ _ h1), h2⟩
  · cases r with
    | frl h1 h2 => exact ⟨_, _, rfl, same_rd s.fh h1, h2⟩
  · cases r
    obtain ⟨o, h1, h2, vs, rfl, h3⟩ := s.cell hj
    exact ⟨p, vs, rfl, .inl h1, h3⟩
theorem seqOf {v : V} {d : D} {l : List D} (s : ST B O F H) (r : Rep F v d) (h : SeqOf O d l) : ∃ a vs, v = .ref a ∧ (SqL K H a vs ∨ SqT K H a vs) ∧ RepL F vs l := by
  rcases h with h | rfl
  · obtain ⟨a, vs, e, h1, h2⟩ := lstOf s r h
    exact ⟨a, vs, e, .inl (.inl h1), h2⟩
  · cases r with
    | tup h1 h2 => exact ⟨_, _, rfl, .inr (.of (s.fh _ _ h1)), h2⟩
theorem dctOf {v : V} {d : D} {l : List (Key × D)} (s : ST B O F H) (r : Rep F v d) (h : DctOf O d l) : ∃ a kvs, v = .ref a ∧ Rd H a (.dK kvs) ∧ RepK F kvs l := by
  rcases h with rfl | ⟨p, j, rfl, hj⟩ | ⟨p, j, od, kvs, rfl, hj⟩
  · cases r with
    | dct h1 h2 => exact ⟨_, _, rfl, same_rd s.fh h1, h2⟩
  · cases r
    obtain ⟨o, h1, h2, vs, rfl, h3⟩ := s.cell hj
    exact ⟨p, vs, rfl, .inl h1, h3⟩
  · cases r
    obtain ⟨o, h1, h2, rfl, h3⟩ := s.cell hj
    exact ⟨p, kvs, rfl, .inr ⟨od, h1⟩, h3⟩

/-! ### glue -/
theorem EvK.imp {te : TE} {Φ Φ' : D → Ow → Prop} (h : EvK B te Γ O Φ) (i : ∀ d O', Φ d O' → Φ' d O') : EvK B te Γ O Φ' := fun F σ H s e Q q => h F σ H s e Q fun v d O' F' H' s' f r p => q v d O' F' H' s' f r (i d O' p)
theorem EtK.imp {te : TT} {Φ Φ' : Bool → Ow → Prop} (h : EtK B te Γ O Φ) (i : ∀ d O', Φ d O' → Φ' d O') : EtK B te Γ O Φ' := fun F σ H s e Q q => h F σ H s e Q fun d O' F' H' s' f p => q d O' F' H' s' f (i d O' p)
theorem EvP.is {te : TE} {d d' : D} (h : EvP B te Γ O d) (e : d = d') : EvP B te Γ O d' := e ▸ h
theorem EtP.is {te : TT} {d d' : Bool} (h : EtP B te Γ O d) (e : d = d') : EtP B te Γ O d' := e ▸ h
/-- the value is used at once -/
theorem EvK.bind {te tf : TE} {Φ Ψ : D → Ow → Prop} {g : V → Hp → VK → Prop} (h : EvK B te Γ O Φ) (hg : ∀ d O', Φ d O' → ∀ F σ H v, ST B O' F H → EnvD F σ Γ → Rep F v d → ∀ Q : VK, (∀ v d O'' F' H', ST B O'' F' H' → Same F F' → Rep F' v d → Ψ d O'' → Q v H') → g v H Q)
    (e : ∀ σ H Q, tf σ H Q = te σ H fun v H1 => g v H1 Q := by intros; rfl) : EvK B tf Γ O Ψ := fun F σ H s en Q q => by
  rw [e]
  exact h F σ H s en _ fun v d O' F' H' s' f r p => hg d O' p F' σ H' v s' (en.same f) r Q fun v2 d2 O2 F2 H2 s2 f2 r2 p2 => q v2 d2 O2 F2 H2 s2 (f.trans f2) r2 p2
/-- a value operation that writes nothing: g -/
def OpV (K : PySem.W.Frag) (g : V → Hp → VK → Prop) (B : Bs) (O : Ow) (d : D) (Ψ : D → Prop) : Prop := ∀ F H v, ST B O F H → Rep F v d → ∀ Q : VK, (∀ v' d' F' H', Fut F H [] F' H' → Rep F' v' d' → Ψ d' → Q v' H') → g v H Q

/-! ### atoms -/
theorem ev_var {i : Nat} {d : D} (h : Γ[i]? = some (some d)) : EvP B (tVar i) Γ O d := fun F σ H s e Q q => by
  obtain ⟨v, h1, h2⟩ := e.2 i d h
  exact ⟨v, h1, q v d O F H s (Same.refl F) h2 ⟨rfl, rfl⟩⟩
theorem ev_cint {i : Int} : EvP B (tC (.int i)) Γ O (.int i) := fun F σ H s e Q q => q _ _ O F H s (Same.refl F) .int ⟨rfl, rfl⟩
theorem ev_cstr {i : Str} : EvP B (tC (.str i)) Γ O (.str i) := fun F σ H s e Q q => q _ _ O F H s (Same.refl F) .str ⟨rfl, rfl⟩
theorem ev_cbl {i : Bool} : EvP B (tC (.bl i)) Γ O (.bl i) := fun F σ H s e Q q => q _ _ O F H s (Same.refl F) .bl ⟨rfl, rfl⟩
theorem ev_cnon : EvP B (tC .non) Γ O .non := fun F σ H s e Q q => q _ _ O F H s (Same.refl F) .non ⟨rfl, rfl⟩
theorem ev_cref {a : Addr} : EvP B (tC (.ref a)) Γ O (.adr a) := fun F σ H s e Q q => q _ _ O F H s (Same.refl F) .adr ⟨rfl, rfl⟩
theorem ev_cty {n : String} : EvP B (tC (.ty n)) Γ O (.ty n) := fun F σ H s e Q q => q _ _ O F H s (Same.refl F) .ty ⟨rfl, rfl⟩

/-! ### two operands -/
/-- a two-place operation on values that writes nothing: x op y -/
def Op2 (r : R2) (B : Bs) (O : Ow) (x y : D) (z : D) : Prop := ∀ F H v u, ST B O F H → Rep F v x → Rep F u y → ∀ Q : VK, (∀ v' F' H', Fut F H [] F' H' → Rep F' v' z → Q v' H') → r v u H Q
theorem ev_op {r : R2} {ta tb : TE} {x y z : D} (ha : EvP B ta Γ O x) (hb : EvP B tb Γ O y) (h : Op2 r B O x y z) : EvP B (tOp r ta tb) Γ O z := fun F σ H s e Q q =>
  ha F σ H s e _ fun v d O1 F1 H1 s1 f1 r1 p1 => by
    obtain ⟨rfl, rfl⟩ := p1
    refine hb F1 σ H1 s1 (e.same f1) _ fun u d2 O2 F2 H2 s2 f2 r2 p2 => ?_
    obtain ⟨rfl, rfl⟩ := p2
    exact h F2 H2 v u s2 (r1.same f2) r2 Q fun v' F' H' f' r' => q v' z _ F' H' (s2.step f') ((f1.trans f2).trans f'.ff) r' ⟨rfl, rfl⟩
/-- .. whose operands write -/
theorem evk_op {r : R2} {ta tb : TE} {Φ : D → Ow → Prop} {Φ2 : D → D → Ow → Prop} {Ψ : D → Ow → Prop} (ha : EvK B ta Γ O Φ) (hb : ∀ x O1, Φ x O1 → EvK B tb Γ O1 (Φ2 x)) (h : ∀ x y O1 O2, Φ x O1 → Φ2 x y O2 → ∃ z, Op2 r B O2 x y z ∧ Ψ z O2) : EvK B (tOp r ta tb) Γ O Ψ := fun F σ H s e Q q =>
  ha F σ H s e _ fun v d O1 F1 H1 s1 f1 r1 p1 => by
    refine hb d O1 p1 F1 σ H1 s1 (e.same f1) _ fun u d2 O2 F2 H2 s2 f2 r2 p2 => ?_
    obtain ⟨z, hz, hp⟩ := h d d2 O1 O2 p1 p2
    exact hz F2 H2 v u s2 (r1.same f2) r2 Q fun v' F' H' f' r' => q v' z _ F' H' (s2.step f') ((f1.trans f2).trans f'.ff) r' hp
theorem ev_un {r : V → Hp → VK → Prop} {ta : TE} {x z : D} (ha : EvP B ta Γ O x) (h : ∀ F H v, ST B O F H → Rep F v x → ∀ Q : VK, (∀ v' F' H', Fut F H [] F' H' → Rep F' v' z → Q v' H') → r v H Q) : EvP B (tUn r ta) Γ O z := fun F σ H s e Q q =>
  ha F σ H s e _ fun v d O1 F1 H1 s1 f1 r1 p1 => by
    obtain ⟨rfl, rfl⟩ := p1
    exact h F1 H1 v s1 r1 Q fun v' F' H' f' r' => q v' z _ F' H' (s1.step f') (f1.trans f'.ff) r' ⟨rfl, rfl⟩
theorem ev_neg {ta : TE} {i : Int} (ha : EvP B ta Γ O (.int i)) : EvP B (tUn (rU fun i => .int (-i)) ta) Γ O (.int (-i)) := ev_un ha fun F H v s r Q q => by
  cases r
  exact ⟨i, rfl, q _ F H (.refl s.fh) .int⟩
theorem Op2.or {r r' : R2} {x y z : D} (h : Op2 r B O x y z) : Op2 (fun x y H Q => r x y H Q ∨ r' x y H Q) B O x y z := fun F H v u s a b Q q => .inl (h F H v u s a b Q q)
theorem Op2.orR {r r' : R2} {x y z : D} (h : Op2 r' B O x y z) : Op2 (fun x y H Q => r x y H Q ∨ r' x y H Q) B O x y z := fun F H v u s a b Q q => .inr (h F H v u s a b Q q)
theorem op2_I0 {g : Int → Int → V} {i j : Int} {z : D} (h : ∀ F, Rep F (g i j) z) : Op2 (rI0 g) B O (.int i) (.int j) z := fun F H v u s a b Q q => by
  cases a; cases b
  exact ⟨i, j, rfl, rfl, q _ F H (.refl s.fh) (h F)⟩
theorem op2_I {C : Int → Int → Prop} {g : Int → Int → V} {i j : Int} {z : D} (hc : C i j) (h : ∀ F, Rep F (g i j) z) : Op2 (rI C g) B O (.int i) (.int j) z := fun F H v u s a b Q q => by
  cases a; cases b
  exact ⟨i, j, rfl, rfl, hc, q _ F H (.refl s.fh) (h F)⟩

/-! ### displays, calls' arguments -/
theorem ea_nil : EaP B tNil Γ O [] := fun F σ H s e Q q => q [] [] O F H s (Same.refl F) .nil ⟨rfl, rfl⟩
theorem ea_cons {te : TE} {ta : TA} {d : D} {ds : List D} (h : EvP B te Γ O d) (hr : EaP B ta Γ O ds) : EaP B (tCons te ta) Γ O (d :: ds) := fun F σ H s e Q q =>
  h F σ H s e _ fun v d O1 F1 H1 s1 f1 r1 p1 => by
    obtain ⟨rfl, rfl⟩ := p1
    refine hr F1 σ H1 s1 (e.same f1) _ fun u d2 O2 F2 H2 s2 f2 r2 p2 => ?_
    obtain ⟨rfl, rfl⟩ := p2
    exact q _ _ _ F2 H2 s2 (f1.trans f2) (.cons (r1.same f2) r2) ⟨rfl, rfl⟩
theorem eak_cons {te : TE} {ta : TA} {Φ : D → Ow → Prop} {Φ2 : D → List D → Ow → Prop} {Ψ : List D → Ow → Prop} (h : EvK B te Γ O Φ) (hr : ∀ d O1, Φ d O1 → EaK B ta Γ O1 (Φ2 d)) (hp : ∀ d ds O1 O2, Φ d O1 → Φ2 d ds O2 → Ψ (d :: ds) O2) : EaK B (tCons te ta) Γ O Ψ := fun F σ H s e Q q =>
  h F σ H s e _ fun v d O1 F1 H1 s1 f1 r1 p1 => by
    refine hr d O1 p1 F1 σ H1 s1 (e.same f1) _ fun u d2 O2 F2 H2 s2 f2 r2 p2 => ?_
    exact q _ _ _ F2 H2 s2 (f1.trans f2) (.cons (r1.same f2) r2) (hp _ _ _ _ p1 p2)
theorem ea_star {te : TE} {ta : TA} {d : D} {l ds : List D} (h : EvP B te Γ O d) (hs : SeqOf O d l) (hr : EaP B ta Γ O ds) : EaP B (tStar K te ta) Γ O (l ++ ds) := fun F σ H s e Q q =>
  h F σ H s e _ fun v d O1 F1 H1 s1 f1 r1 p1 => by
    obtain ⟨rfl, rfl⟩ := p1
    obtain ⟨a, vs, ev, h1, h2⟩ := seqOf (K := K) s1 r1 hs
    refine ⟨a, vs, ev, h1.elim .inr .inl, ?_⟩
    refine hr F1 σ H1 s1 (e.same f1) _ fun u d2 O2 F2 H2 s2 f2 r2 p2 => ?_
    obtain ⟨rfl, rfl⟩ := p2
    exact q _ _ _ F2 H2 s2 (f1.trans f2) ((h2.same f2).append r2) ⟨rfl, rfl⟩
theorem ev_tup {ta : TA} {ds : List D} (h : EaP B ta Γ O ds) (hl : ds.length ≤ sizeLine) : EvP B (tTup ta) Γ O (.tup ds) := fun F σ H s e Q q =>
  h F σ H s e _ fun vs d O1 F1 H1 s1 f1 r1 p1 => by
    obtain ⟨rfl, rfl⟩ := p1
    refine ⟨by rw [r1.len]; exact hl, fun p hp => ?_⟩
    have f := fut_new (o := .tup vs) s1.fh hp
    exact q _ _ _ _ _ (s1.step f) (f1.trans f.ff) (.tup upd_same (r1.same f.ff)) ⟨rfl, rfl⟩
theorem ev_lst {ta : TA} {ds : List D} (h : EaP B ta Γ O ds) (hl : ds.length ≤ sizeLine) : EvP B (tLst ta) Γ O (.lst ds) := fun F σ H s e Q q =>
  h F σ H s e _ fun vs d O1 F1 H1 s1 f1 r1 p1 => by
    obtain ⟨rfl, rfl⟩ := p1
    refine ⟨by rw [r1.len]; exact hl, fun p hp => ?_⟩
    have f := fut_new (o := .lst vs) s1.fh hp
    exact q _ _ _ _ _ (s1.step f) (f1.trans f.ff) (.lst upd_same (r1.same f.ff)) ⟨rfl, rfl⟩
/-- .. whose items write -/
theorem evk_tup {ta : TA} {Φ : List D → Ow → Prop} {Ψ : D → Ow → Prop} (h : EaK B ta Γ O Φ) (hp : ∀ ds O', Φ ds O' → ds.length ≤ sizeLine ∧ Ψ (.tup ds) O') : EvK B (tTup ta) Γ O Ψ := fun F σ H s e Q q =>
  h F σ H s e _ fun vs d O1 F1 H1 s1 f1 r1 p1 => by
    obtain ⟨hl, hw⟩ := hp d O1 p1
    refine ⟨by rw [r1.len]; exact hl, fun p hp => ?_⟩
    have f := fut_new (o := .tup vs) s1.fh hp
    exact q _ _ _ _ _ (s1.step f) (f1.trans f.ff) (.tup upd_same (r1.same f.ff)) hw
theorem evk_lst {ta : TA} {Φ : List D → Ow → Prop} {Ψ : D → Ow → Prop} (h : EaK B ta Γ O Φ) (hp : ∀ ds O', Φ ds O' → ds.length ≤ sizeLine ∧ Ψ (.lst ds) O') : EvK B (tLst ta) Γ O Ψ := fun F σ H s e Q q =>
  h F σ H s e _ fun vs d O1 F1 H1 s1 f1 r1 p1 => by
    obtain ⟨hl, hw⟩ := hp d O1 p1
    refine ⟨by rw [r1.len]; exact hl, fun p hp => ?_⟩
    have f := fut_new (o := .lst vs) s1.fh hp
    exact q _ _ _ _ _ (s1.step f) (f1.trans f.ff) (.lst upd_same (r1.same f.ff)) hw
/-- a list of one's own -/
theorem evo_lst {ta : TA} {ds : List D} (h : EaP B ta Γ O ds) (hl : ds.length ≤ sizeLine) : EvK B (tLst ta) Γ O fun d O' => ∃ p, B.H p = none ∧ d = .adr p ∧ O' = (p, OO.lst ds) :: O := fun F σ H s e Q q =>
  h F σ H s e _ fun vs d O1 F1 H1 s1 f1 r1 p1 => by
    obtain ⟨rfl, rfl⟩ := p1
    refine ⟨by rw [r1.len]; exact hl, fun p hp => ?_⟩
    exact q _ _ _ _ _ (s1.laid (o := .lst vs) (u := .lst d) hp ⟨vs, rfl, r1⟩) f1 .adr ⟨p, s1.bnone hp, rfl, rfl⟩
theorem evo_dct : EvK B tDNewK Γ O fun d O' => ∃ p, B.H p = none ∧ d = .adr p ∧ O' = (p, OO.dct []) :: O := fun F σ H s e Q q p hp =>
  q _ _ _ _ _ (s.laid (o := .dK []) (u := .dct []) hp ⟨[], rfl, .nil⟩) (Same.refl F) .adr ⟨p, s.bnone hp, rfl, rfl⟩
end
end Kt
/-! K2: statements, tests, loops, comprehensions -/
namespace Kt
open PySem PySem.Spec PyProof.Rows L2 StX
section
variable {B : Bs} {O : Ow} {F F' H H' : Hp} {σ : L2.St} {Γ : List (Option D)} {p : Addr} {K : PySem.W.Frag} {D₀ : Ends}

/-! ### tests -/
theorem et_test {te : TE} {b : Bool} (h : EvP B te Γ O (.bl b)) : EtP B (tTest te) Γ O b := fun F σ H s e Q q =>
  h F σ H s e _ fun v d O' F' H' s' f r p => by
    obtain ⟨rfl, rfl⟩ := p
    cases r
    exact ⟨b, rfl, q b _ F' H' s' f ⟨rfl, rfl⟩⟩
theorem et_B {te : TE} {b : Bool} (h : EvP B te Γ O (.bl b)) : EtP B (tB te) Γ O b := fun F σ H s e Q q =>
  h F σ H s e _ fun v d O' F' H' s' f r p => by
    obtain ⟨rfl, rfl⟩ := p
    cases r
    exact ⟨b, rfl, q b _ F' H' s' f ⟨rfl, rfl⟩⟩
theorem etk_test {te : TE} {Φ : D → Ow → Prop} {Ψ : Bool → Ow → Prop} (h : EvK B te Γ O Φ) (hp : ∀ d O', Φ d O' → ∃ b, d = .bl b ∧ Ψ b O') : EtK B (tTest te) Γ O Ψ := fun F σ H s e Q q =>
  h F σ H s e _ fun v d O' F' H' s' f r p => by
    obtain ⟨b, rfl, w⟩ := hp d O' p
    cases r
    exact ⟨b, rfl, q b _ F' H' s' f w⟩
theorem etk_B {te : TE} {Φ : D → Ow → Prop} {Ψ : Bool → Ow → Prop} (h : EvK B te Γ O Φ) (hp : ∀ d O', Φ d O' → ∃ b, d = .bl b ∧ Ψ b O') : EtK B (tB te) Γ O Ψ := etk_test h hp
theorem et_not {t : TT} {b : Bool} (h : EtP B t Γ O b) : EtP B (tNot t) Γ O (!b) := fun F σ H s e Q q =>
  h F σ H s e _ fun b' O' F' H' s' f p => by
    obtain ⟨rfl, rfl⟩ := p
    exact q _ _ F' H' s' f ⟨rfl, rfl⟩
theorem etk_not {t : TT} {Ψ : Bool → Ow → Prop} (h : EtK B t Γ O fun b O' => Ψ (!b) O') : EtK B (tNot t) Γ O Ψ := fun F σ H s e Q q =>
  h F σ H s e _ fun b' O' F' H' s' f p => q _ _ F' H' s' f p
theorem et_and {t u : TT} {a b : Bool} (h : EtP B t Γ O a) (h2 : a = true → EtP B u Γ O b) : EtP B (tAnd t u) Γ O (a && b) := fun F σ H s e Q q =>
  h F σ H s e _ fun b' O' F' H' s' f p => by
    obtain ⟨rfl, rfl⟩ := p
    cases b' with
    | true =>
      rw [if_pos rfl]
      exact h2 rfl F' σ H' s' (e.same f) _ fun b2 O2 F2 H2 s2 f2 p2 => q b2 O2 F2 H2 s2 (f.trans f2) p2
    | false =>
      rw [if_neg Bool.false_ne_true]
      exact q _ _ F' H' s' f ⟨rfl, rfl⟩
theorem et_or {t u : TT} {a b : Bool} (h : EtP B t Γ O a) (h2 : a = false → EtP B u Γ O b) : EtP B (tOr t u) Γ O (a || b) := fun F σ H s e Q q =>
  h F σ H s e _ fun b' O' F' H' s' f p => by
    obtain ⟨rfl, rfl⟩ := p
    cases b' with
    | true =>
      rw [if_pos rfl]
      exact q _ _ F' H' s' f ⟨rfl, rfl⟩
    | false =>
      rw [if_neg Bool.false_ne_true]
      exact h2 rfl F' σ H' s' (e.same f) _ fun b2 O2 F2 H2 s2 f2 p2 => q b2 O2 F2 H2 s2 (f.trans f2) p2
theorem etk_and {t u : TT} {Φ Ψ : Bool → Ow → Prop} (h : EtK B t Γ O Φ) (h1 : ∀ O', Φ true O' → EtK B u Γ O' Ψ) (h2 : ∀ O', Φ false O' → Ψ false O') : EtK B (tAnd t u) Γ O Ψ := fun F σ H s e Q q =>
  h F σ H s e _ fun b' O' F' H' s' f p => by
    cases b' with
    | true =>
      rw [if_pos rfl]
      exact h1 O' p F' σ H' s' (e.same f) _ fun b2 O2 F2 H2 s2 f2 p2 => q b2 O2 F2 H2 s2 (f.trans f2) p2
    | false =>
      rw [if_neg Bool.false_ne_true]
      exact q _ _ F' H' s' f (h2 O' p)
theorem etk_or {t u : TT} {Φ Ψ : Bool → Ow → Prop} (h : EtK B t Γ O Φ) (h1 : ∀ O', Φ true O' → Ψ true O') (h2 : ∀ O', Φ false O' → EtK B u Γ O' Ψ) : EtK B (tOr t u) Γ O Ψ := fun F σ H s e Q q =>
  h F σ H s e _ fun b' O' F' H' s' f p => by
    cases b' with
    | true =>
      rw [if_pos rfl]
      exact q _ _ F' H' s' f (h1 O' p)
    | false =>
      rw [if_neg Bool.false_ne_true]
      exact h2 O' p F' σ H' s' (e.same f) _ fun b2 O2 F2 H2 s2 f2 p2 => q b2 O2 F2 H2 s2 (f.trans f2) p2
theorem ev_andV {ta tb : TE} {a b : Bool} (h : EvP B ta Γ O (.bl a)) (h2 : a = true → EvP B tb Γ O (.bl b)) : EvP B (tAndV ta tb) Γ O (.bl (a && b)) := fun F σ H s e Q q =>
  h F σ H s e _ fun v d O' F' H' s' f r p => by
    obtain ⟨rfl, rfl⟩ := p
    cases r
    refine ⟨a, rfl, ?_⟩
    cases a with
    | true =>
      rw [if_pos rfl]
      exact h2 rfl F' σ H' s' (e.same f) _ fun v2 d2 O2 F2 H2 s2 f2 r2 p2 => q v2 d2 O2 F2 H2 s2 (f.trans f2) r2 p2
    | false =>
      rw [if_neg Bool.false_ne_true]
      exact q _ _ _ F' H' s' f .bl ⟨rfl, rfl⟩
theorem ev_orV {ta tb : TE} {a b : Bool} (h : EvP B ta Γ O (.bl a)) (h2 : a = false → EvP B tb Γ O (.bl b)) : EvP B (tOrV ta tb) Γ O (.bl (a || b)) := fun F σ H s e Q q =>
  h F σ H s e _ fun v d O' F' H' s' f r p => by
    obtain ⟨rfl, rfl⟩ := p
    cases r
    refine ⟨a, rfl, ?_⟩
    cases a with
    | true =>
      rw [if_pos rfl]
      exact q _ _ _ F' H' s' f .bl ⟨rfl, rfl⟩
    | false =>
      rw [if_neg Bool.false_ne_true]
      exact h2 rfl F' σ H' s' (e.same f) _ fun v2 d2 O2 F2 H2 s2 f2 r2 p2 => q v2 d2 O2 F2 H2 s2 (f.trans f2) r2 p2
theorem ev_notV {ta : TE} {a : Bool} (h : EvP B ta Γ O (.bl a)) : EvP B (tNotV ta) Γ O (.bl (!a)) := fun F σ H s e Q q =>
  h F σ H s e _ fun v d O' F' H' s' f r p => by
    obtain ⟨rfl, rfl⟩ := p
    cases r
    exact ⟨a, rfl, q _ _ _ F' H' s' f .bl ⟨rfl, rfl⟩⟩
theorem ev_if {t : TT} {ta tb : TE} {b : Bool} {d : D} (h : EtP B t Γ O b) (h1 : b = true → EvP B ta Γ O d) (h2 : b = false → EvP B tb Γ O d) : EvP B (tIf t ta tb) Γ O d := fun F σ H s e Q q =>
  h F σ H s e _ fun b' O' F' H' s' f p => by
    obtain ⟨rfl, rfl⟩ := p
    cases b' with
    | true =>
      rw [if_pos rfl]
      exact h1 rfl F' σ H' s' (e.same f) _ fun v2 d2 O2 F2 H2 s2 f2 r2 p2 => q v2 d2 O2 F2 H2 s2 (f.trans f2) r2 p2
    | false =>
      rw [if_neg Bool.false_ne_true]
      exact h2 rfl F' σ H' s' (e.same f) _ fun v2 d2 O2 F2 H2 s2 f2 r2 p2 => q v2 d2 O2 F2 H2 s2 (f.trans f2) r2 p2
theorem evk_if {t : TT} {ta tb : TE} {Φ : Bool → Ow → Prop} {Ψ : D → Ow → Prop} (h : EtK B t Γ O Φ) (h1 : ∀ O', Φ true O' → EvK B ta Γ O' Ψ) (h2 : ∀ O', Φ false O' → EvK B tb Γ O' Ψ) : EvK B (tIf t ta tb) Γ O Ψ := fun F σ H s e Q q =>
  h F σ H s e _ fun b' O' F' H' s' f p => by
    cases b' with
    | true =>
      rw [if_pos rfl]
      exact h1 O' p F' σ H' s' (e.same f) _ fun v2 d2 O2 F2 H2 s2 f2 r2 p2 => q v2 d2 O2 F2 H2 s2 (f.trans f2) r2 p2
    | false =>
      rw [if_neg Bool.false_ne_true]
      exact h2 O' p F' σ H' s' (e.same f) _ fun v2 d2 O2 F2 H2 s2 f2 r2 p2 => q v2 d2 O2 F2 H2 s2 (f.trans f2) r2 p2
/-- a op b op' c -/
theorem ev_chain {r r' : R2} {ta tb tc : TE} {x y z : D} {b b' : Bool} (ha : EvP B ta Γ O x) (hb : EvP B tb Γ O y) (h : Op2 r B O x y (.bl b)) (hc : b = true → EvP B tc Γ O z) (h' : b = true → Op2 r' B O y z (.bl b')) : EvP B (tChain r r' ta tb tc) Γ O (.bl (b && b')) := fun F σ H s e Q q =>
  ha F σ H s e _ fun v d O1 F1 H1 s1 f1 r1 p1 => by
    obtain ⟨rfl, rfl⟩ := p1
    refine hb F1 σ H1 s1 (e.same f1) _ fun u d2 O2 F2 H2 s2 f2 r2 p2 => ?_
    obtain ⟨rfl, rfl⟩ := p2
    refine h F2 H2 v u s2 (r1.same f2) r2 _ fun w F3 H3 f3 r3 => ?_
    cases r3
    refine ⟨b, rfl, ?_⟩
    have s3 := s2.step f3
    have f13 := (f1.trans f2).trans f3.ff
    cases b with
    | true =>
      rw [if_pos rfl]
      refine hc rfl F3 σ H3 s3 (e.same f13) _ fun u4 d4 O4 F4 H4 s4 f4 r4 p4 => ?_
      obtain ⟨rfl, rfl⟩ := p4
      exact h' rfl F4 H4 _ _ s4 ((r2.same f3.ff).same f4) r4 _ fun v' F' H' f' r' => q v' _ _ F' H' (s4.step f') ((f13.trans f4).trans f'.ff) r' ⟨rfl, rfl⟩
    | false =>
      rw [if_neg Bool.false_ne_true]
      exact q _ _ _ F3 H3 s3 f13 .bl ⟨rfl, rfl⟩

/-! ### statements -/
theorem nx_seq {t u : TS} (h : NX B (t { D₀ with nx := u D₀ }) Γ O) : NX B (tSeq t u D₀) Γ O := h
theorem nx_next (h : NX B D₀.nx Γ O) : NX B (tNext D₀) Γ O := h
theorem nx_asg {te : TE} {i : Nat} {Φ : D → Ow → Prop} (h : EvK B te Γ O Φ) (k : ∀ d O', Φ d O' → NX B D₀.nx (Γ.set i (some d)) O') : NX B (tAsg te (gName i) D₀) Γ O := fun F σ H s e =>
  h F σ H s e _ fun v d O' F' H' s' f r p => k d O' p F' _ H' s' ((e.same f).set r)
theorem nx_asgP {te : TE} {i : Nat} {d : D} (h : EvP B te Γ O d) (k : NX B D₀.nx (Γ.set i (some d)) O) : NX B (tAsg te (gName i) D₀) Γ O := nx_asg h fun d' O' ⟨e1, e2⟩ => by rw [e1, e2]; exact k
theorem nx_drop {te : TE} {Φ : D → Ow → Prop} (h : EvK B te Γ O Φ) (k : ∀ d O', Φ d O' → NX B D₀.nx Γ O') : NX B (tDrop te D₀) Γ O := fun F σ H s e =>
  h F σ H s e _ fun v d O' F' H' s' f r p => k d O' p F' _ H' s' (e.same f)
theorem nx_if {t : TT} {u w : TS} {Φ : Bool → Ow → Prop} (h : EtK B t Γ O Φ) (h1 : ∀ O', Φ true O' → NX B (u D₀) Γ O') (h2 : ∀ O', Φ false O' → NX B (w D₀) Γ O') : NX B (tIfS t u w D₀) Γ O := fun F σ H s e =>
  h F σ H s e _ fun b O' F' H' s' f p => by
    cases b with
    | true =>
      rw [if_pos rfl]
      exact h1 O' p F' σ H' s' (e.same f)
    | false =>
      rw [if_neg Bool.false_ne_true]
      exact h2 O' p F' σ H' s' (e.same f)
theorem nx_ifP {t : TT} {u w : TS} {b : Bool} (h : EtP B t Γ O b) (h1 : b = true → NX B (u D₀) Γ O) (h2 : b = false → NX B (w D₀) Γ O) : NX B (tIfS t u w D₀) Γ O := nx_if h (fun O' ⟨e1, e2⟩ => by rw [e2]; exact h1 e1.symm) fun O' ⟨e1, e2⟩ => by rw [e2]; exact h2 e1.symm
/-- what is wanted of a value handed back -/
def RT (B : Bs) (Q : VK) (Ψ : D → Ow → Prop) : Prop := ∀ F H v d O', ST B O' F H → Rep F v d → Ψ d O' → Q v H
/-- what is wanted of an error of the class at C that holds d -/
def XT (B : Bs) (E : XK) (Ξ : Addr → D → Ow → Prop) : Prop := ∀ F H C dd v d O', ST B O' F H → F dd = some (.xd [("value", v)]) → Rep F v d → Ξ C d O' → E (.ref C) (some dd) H
theorem nx_ret {te : TE} {Φ Ψ : D → Ow → Prop} (q : RT B D₀.rt Ψ) (h : EvK B te Γ O Φ) (k : ∀ d O', Φ d O' → Ψ d O') : NX B (tRet te D₀) Γ O := fun F σ H s e =>
  h F σ H s e _ fun v d O' F' H' s' f r p => q F' H' v d O' s' r (k d O' p)
theorem nx_retP {te : TE} {Ψ : D → Ow → Prop} {d : D} (q : RT B D₀.rt Ψ) (h : EvP B te Γ O d) (k : Ψ d O) : NX B (tRet te D₀) Γ O := nx_ret q h fun d' O' ⟨e1, e2⟩ => by rw [e1, e2]; exact k
theorem nx_end {Q : VK} {Ψ : D → Ow → Prop} (q : RT B Q Ψ) (k : Ψ .non O) : NX B (fun _ H' => Q .non H') Γ O := fun F σ H s e => q F H .non .non O s .non k
theorem nx_break (h : NX B D₀.bk Γ O) : NX B (tBreak D₀) Γ O := h
theorem nx_cont (h : NX B D₀.ct Γ O) : NX B (tCont D₀) Γ O := h
/-- own objects in another order, or fewer -/
theorem nx_perm {X : L2.St → Hp → Prop} {O' : Ow} (p : O.Perm O') (h : NX B X Γ O') : NX B X Γ O := fun F σ H s e => h F σ H (s.perm p) e
theorem nx_drop1 {X : L2.St → Hp → Prop} {O1 : Ow} (h : NX B X Γ O) : NX B X Γ (O1 ++ O) := fun F σ H s e => h F σ H s.drop e
theorem nx_forget {X : L2.St → Hp → Prop} {q : Addr × OO} (h : NX B X Γ O) : NX B X Γ (q :: O) := nx_drop1 (O1 := [q]) h
/-- slot i's own list is frozen -/
theorem nx_freeze {X : L2.St → Hp → Prop} {l : List D} (i j : Nat) (hg : Γ[i]? = some (some (.adr p))) (hj : O[j]? = some (p, OO.lst l)) (hb : B.H p = none) (h : NX B X (Γ.set i (some (.lst l))) (O.eraseIdx j)) : NX B X Γ O := fun F σ H s e => by
  obtain ⟨F', s', f, r⟩ := s.freeze hj hb
  obtain ⟨v, h1, h2⟩ := e.2 i _ hg
  cases h2
  have e2 := (e.same f).set (i := i) r
  have hs : σ.set i (some (V.ref p)) = σ := by
    apply List.ext_getElem?
    intro k
    by_cases q : i = k
    · subst q
      rw [List.getElem?_set_self (List.getElem?_eq_some_iff.mp h1).1, h1]
    · rw [List.getElem?_set_ne q]
  rw [hs] at e2
  exact h F' σ H s' e2
/-- what is handed back is an own list: frozen -/
theorem evk_freeze {te : TE} {Φ Ψ : D → Ow → Prop} (h : EvK B te Γ O Φ) (k : ∀ d O', Φ d O' → ∃ (p : Addr) (j : Nat) (l : List D), d = .adr p ∧ O'[j]? = some (p, OO.lst l) ∧ B.H p = none ∧ Ψ (.lst l) (O'.eraseIdx j)) : EvK B te Γ O Ψ := fun F σ H s e Q q =>
  h F σ H s e Q fun v d O' F' H' s' f r p => by
    obtain ⟨p, j, l, rfl, hj, hb, w⟩ := k d O' p
    obtain ⟨F2, s2, f2, r2⟩ := s'.freeze hj hb
    cases r
    exact q _ _ _ F2 H' s2 (f.trans f2) r2 w

/-! ### targets -/
theorem g_tup {n : Nat} {t : TGs} {X : L2.St → Hp → Prop} {v : V} {l : List D} (s : ST B O F H) (r : Rep F v (.tup l)) (hl : l.length = n) (k : ∀ vs, RepL F vs l → t vs σ H X) : gTup K n t v σ H X := by
  cases r with
  | tup h1 h2 => exact ⟨_, _, rfl, .of (s.fh _ _ h1), by rw [h2.len, hl], k _ h2⟩
/-- a target by data: what it leaves of the slots -/
def GtP (K : PySem.W.Frag) (g : TG) (d : D) (Γ Γ' : List (Option D)) : Prop := ∀ (B : Bs) (O : Ow) F σ H v, ST B O F H → EnvD F σ Γ → Rep F v d → ∀ X : L2.St → Hp → Prop, (∀ σ', EnvD F σ' Γ' → X σ' H) → g v σ H X
def GsP (K : PySem.W.Frag) (g : TGs) (ds : List D) (Γ Γ' : List (Option D)) : Prop := ∀ (B : Bs) (O : Ow) F σ H vs, ST B O F H → EnvD F σ Γ → RepL F vs ds → ∀ X : L2.St → Hp → Prop, (∀ σ', EnvD F σ' Γ' → X σ' H) → g vs σ H X
theorem gt_name {i : Nat} {d : D} : GtP K (gName i) d Γ (Γ.set i (some d)) := fun B O F σ H v s e r X k => k _ (e.set r)
theorem gs_nil : GsP K gNil [] Γ Γ := fun B O F σ H vs s e r X k => by
  cases r
  exact ⟨rfl, k _ e⟩
theorem gs_cons {g : TG} {t : TGs} {d : D} {ds : List D} {Γ1 Γ2 : List (Option D)} (h1 : GtP K g d Γ Γ1) (h2 : GsP K t ds Γ1 Γ2) : GsP K (gCons g t) (d :: ds) Γ Γ2 := fun B O F σ H vs s e r X k => by
  cases r with
  | cons r1 r2 => exact ⟨_, _, rfl, h1 B O F σ H _ s e r1 _ fun σ' e' => h2 B O F σ' H _ s e' r2 X k⟩
theorem gt_tup {n : Nat} {t : TGs} {l : List D} {Γ' : List (Option D)} (h : GsP K t l Γ Γ') (hl : l.length = n) : GtP K (gTup K n t) (.tup l) Γ Γ' := fun B O F σ H v s e r X k =>
  g_tup s r hl fun vs rv => h B O F σ H vs s e rv X k
theorem nx_asgG {te : TE} {g : TG} {Φ : D → Ow → Prop} (h : EvK B te Γ O Φ) (k : ∀ d O', Φ d O' → ∃ Γ', GtP K g d Γ Γ' ∧ NX B D₀.nx Γ' O') : NX B (tAsg te g D₀) Γ O := fun F σ H s e =>
  h F σ H s e _ fun v d O' F' H' s' f r p => by
    obtain ⟨Γ', hg, kk⟩ := k d O' p
    exact hg B O' F' σ H' v s' (e.same f) r _ fun σ' e' => kk F' σ' H' s' e'
theorem nx_asgGP {te : TE} {g : TG} {d : D} {Γ' : List (Option D)} (h : EvP B te Γ O d) (hg : GtP K g d Γ Γ') (k : NX B D₀.nx Γ' O) : NX B (tAsg te g D₀) Γ O := nx_asgG (K := K) h fun d' O' ⟨e1, e2⟩ => by rw [e1, e2]; exact ⟨Γ', hg, k⟩
theorem nx_par {i j : Nat} {ta : TA} {Φ : List D → Ow → Prop} (h : EaK B ta Γ O Φ) (k : ∀ ds O', Φ ds O' → ∃ d1 d2, ds = [d1, d2] ∧ NX B D₀.nx ((Γ.set i (some d1)).set j (some d2)) O') : NX B (tPar i j ta D₀) Γ O := fun F σ H s e =>
  h F σ H s e _ fun vs ds O' F' H' s' f r p => by
    obtain ⟨d1, d2, rfl, kk⟩ := k ds O' p
    cases r with
    | cons r1 r =>
      cases r with
      | cons r2 r =>
        cases r
        exact ⟨_, _, rfl, kk F' _ H' s' (((e.same f).set r1).set r2)⟩
theorem nx_parP {i j : Nat} {ta : TA} {d1 d2 : D} (h : EaP B ta Γ O [d1, d2]) (k : NX B D₀.nx ((Γ.set i (some d1)).set j (some d2)) O) : NX B (tPar i j ta D₀) Γ O := nx_par h fun ds O' ⟨e1, e2⟩ => ⟨d1, d2, e1, by rw [e2]; exact k⟩
end

/-! ### what is walked: n turns, the item at turn i by data -/
/-- wi gives an iterator of n turns; turn i gives a value of the data y i (the heap grows) -/
def EiP (B : Bs) (wi : TI) (Γ : List (Option D)) (O : Ow) (n : Nat) (y : Nat → D) (P : Ow → Prop) : Prop :=
  ∀ F σ H, ST B O F H → EnvD F σ Γ → ∀ R : It → Hp → Prop, (∀ J F' H', ST B O F' H' → Same F F' →
    (∀ i B' O' G I, ST B' O' G I → Same F' G → P O' → (i < n → J.go i I) ∧ (i = n → J.stop i I) ∧ (i < n → ∀ x I', J.yld i I x I' → ∃ G', Fut G I [] G' I' ∧ Rep G' x (y i))) → R J H') → wi σ H R
abbrev EiK (B : Bs) (wi : TI) (Γ : List (Option D)) (O : Ow) (n : Nat) (y : Nat → D) : Prop := EiP B wi Γ O n y fun _ => True
section
variable {B : Bs} {O : Ow} {F F' H H' : Hp} {σ : L2.St} {Γ : List (Option D)} {p : Addr} {K : PySem.W.Frag} {D₀ : Ends}
/-- a later beginning -/
structure Up (B B' : Bs) : Prop where
  st : ∀ O F H, ST B' O F H → ST B O F H
theorem Up.refl : Up B B := ⟨fun _ _ _ h => h⟩
theorem Up.trans {B1 B2 : Bs} (a : Up B B1) (b : Up B1 B2) : Up B B2 := ⟨fun O F H h => a.st O F H (b.st O F H h)⟩
theorem Up.rt {B' : Bs} {Q : VK} {Ψ : D → Ow → Prop} (u : Up B B') (q : RT B Q Ψ) : RT B' Q Ψ := fun F H v d O' s r p => q F H v d O' (u.st _ _ _ s) r p
theorem Up.xt {B' : Bs} {E : XK} {Ξ : Addr → D → Ow → Prop} (u : Up B B') (q : XT B E Ξ) : XT B' E Ξ := fun F H C dd v d O' s r1 r p => q F H C dd v d O' (u.st _ _ _ s) r1 r p
theorem Up.nx {B' : Bs} {X : L2.St → Hp → Prop} (u : Up B B') (q : NX B X Γ O) : NX B' X Γ O := fun F σ H s e => q F σ H (u.st _ _ _ s) e
theorem up_mk {F1 H1 : Hp} (s : ST B O F1 H1) : Up B ⟨F1, B.H, B.M⟩ where
  st := fun O' F' H' h => ⟨⟨s.fut.ff.trans h.fut.ff, h.fut.fh, h.fut.hh, h.fut.ex, fun a q n => h.fut.nf a q (s.fut.nf a q n)⟩, h.own, h.may⟩
theorem st_up {F1 H1 G I : Hp} {O' : Ow} (s : ST B O F1 H1) (t : ST B O' G I) (f : Same F1 G) : ST ⟨F1, B.H, B.M⟩ O' G I where
  fut := ⟨f, t.fut.fh, t.fut.hh, t.fut.ex, fun a q n => t.fut.nf a q (by
    have n : F1 a = none := n
    cases e : B.F a with
    | none => rfl
    | some o => rw [s.fut.ff _ _ e] at n; cases n)⟩
  own := t.own
  may := t.may
/-- the state as it stands is a beginning: its own objects may be written -/
def here (O : Ow) (F H : Hp) : Bs := ⟨F, H, O.map (·.1)⟩
theorem st_here (s : ST B O F H) : ST (here O F H) O F H := ⟨.refl s.fh, s.own, fun p hp => .inl (List.mem_map_of_mem hp)⟩
theorem up_here (s : ST B O F H) : Up B (here O F H) where
  st := fun O' F' H' h => ⟨s.fut.trans h.fut fun x hx => by
      obtain ⟨q, hq, e⟩ := List.mem_map.mp hx
      rw [← e]
      exact s.may q hq, h.own, fun p hp => by
      rcases h.may p hp with z | z
      · obtain ⟨q, hq, e⟩ := List.mem_map.mp z
        have := s.may q hq
        rw [e] at this
        exact this
      · exact .inr (s.bnone z)⟩
/-- a for: the word W by turn, slots, own objects -/
theorem nx_forP {wi : TI} {g : TG} {tb : TS} {n : Nat} {y : Nat → D} {P : Ow → Prop} (hi : EiP B wi Γ O n y P) (W : Nat → List (Option D) → Ow → Prop) (hP : ∀ i Γ1 O1, W i Γ1 O1 → P O1) (h0 : W 0 Γ O)
    (hs : ∀ B' i Γ1 O1, Up B B' → B'.H = B.H → i < n → W i Γ1 O1 → ∃ Γ2, GtP K g (y i) Γ1 Γ2 ∧ ∀ N : L2.St → Hp → Prop, (∀ Γ3 O3, W (i + 1) Γ3 O3 → NX B' N Γ3 O3) → NX B' (tb { D₀ with nx := N, ct := N, bk := D₀.nx }) Γ2 O1)
    (hd : ∀ Γ1 O1, W n Γ1 O1 → NX B D₀.nx Γ1 O1) : NX B (tFor wi g tb D₀) Γ O := fun F σ H s e =>
  hi F σ H s e _ fun J F1 H1 s1 f1 hJ => by
    have up := up_mk s1
    refine ⟨fun i m σ' H' => m = n - i ∧ i ≤ n ∧ ∃ Γ' O' G, W i Γ' O' ∧ ST ⟨F1, B.H, B.M⟩ O' G H' ∧ EnvD G σ' Γ', ⟨n, by simp, Nat.zero_le _, Γ, O, F1, h0, st_up s1 s1 (Same.refl _), e.same f1⟩, ?_⟩
    rintro i m σ' H' ⟨rfl, hin, Γ', O', G, w, s', e'⟩
    obtain ⟨go, stop, yld⟩ := hJ i _ O' G H' s' s'.fut.ff (hP _ _ _ w)
    by_cases lt : i < n
    · refine .inr ⟨go lt, fun σ2 H2 => ∃ Γ2 O2 G2, W (i + 1) Γ2 O2 ∧ ST ⟨F1, B.H, B.M⟩ O2 G2 H2 ∧ EnvD G2 σ2 Γ2, ?_, ?_⟩
      · rintro σ2 H2 ⟨Γ2, O2, G2, w2, s2, e2⟩
        exact ⟨n - (i + 1), by omega, rfl, lt, Γ2, O2, G2, w2, s2, e2⟩
      · intro x I' hy
        obtain ⟨G', fu, r⟩ := yld lt x I' hy
        obtain ⟨Γ2, hg, kk⟩ := hs _ i Γ' O' up rfl lt w
        have st2 := s'.step fu
        exact hg _ O' G' σ' I' x st2 (e'.same fu.ff) r _ fun σ2 e2 => kk _ (fun Γ3 O3 w3 G3 σ3 H3 s3 e3 => ⟨Γ3, O3, G3, w3, s3, e3⟩) G' σ2 I' st2 e2
    · have en : i = n := by omega
      subst en
      exact .inl ⟨stop rfl, hd Γ' O' w G σ' H' (up.st _ _ _ s') e'⟩
theorem nx_for {wi : TI} {g : TG} {tb : TS} {n : Nat} {y : Nat → D} (hi : EiK B wi Γ O n y) (W : Nat → List (Option D) → Ow → Prop) (h0 : W 0 Γ O)
    (hs : ∀ B' i Γ1 O1, Up B B' → B'.H = B.H → i < n → W i Γ1 O1 → ∃ Γ2, GtP K g (y i) Γ1 Γ2 ∧ ∀ N : L2.St → Hp → Prop, (∀ Γ3 O3, W (i + 1) Γ3 O3 → NX B' N Γ3 O3) → NX B' (tb { D₀ with nx := N, ct := N, bk := D₀.nx }) Γ2 O1)
    (hd : ∀ Γ1 O1, W n Γ1 O1 → NX B D₀.nx Γ1 O1) : NX B (tFor wi g tb D₀) Γ O := nx_forP (K := K) hi W (fun _ _ _ _ => trivial) h0 hs hd
/-- slots of a block's own names, forgotten -/
def wipeD (Γ : List (Option D)) : List Nat → List (Option D)
  | [] => Γ
  | v :: vs => (wipeD Γ vs).set v none
theorem EnvD.wipe {vs : List Nat} (e : EnvD F σ Γ) : EnvD F (wipe σ vs) (wipeD Γ vs) := by
  induction vs with
  | nil => exact e
  | cons v vs ih => exact ih.unset
theorem set_none_comm {α : Type} (l : List (Option α)) (i j : Nat) : (l.set i none).set j none = (l.set j none).set i none := by
  apply List.ext_getElem?
  intro k
  by_cases a : i = k <;> by_cases b : j = k <;> simp [List.getElem?_set, a, b]
theorem set_set_none {α : Type} (l : List (Option α)) (i : Nat) (v : Option α) : (l.set i v).set i none = l.set i none := by simp
theorem wipe_set_in {σ : L2.St} {v : Option V} {i : Nat} : ∀ {vs : List Nat}, i ∈ vs → L2.wipe (σ.set i v) vs = L2.wipe σ vs := by
  have comm : ∀ (vs : List Nat) (σ : L2.St) (i : Nat), L2.wipe (σ.set i none) vs = (L2.wipe σ vs).set i none := by
    intro vs
    induction vs with
    | nil => intro σ i; rfl
    | cons w ws ih => intro σ i; show (L2.wipe (σ.set i none) ws).set w none = ((L2.wipe σ ws).set w none).set i none; rw [ih, set_none_comm]
  have comm2 : ∀ (vs : List Nat) (σ : L2.St) (i : Nat) (v : Option V), i ∉ vs → L2.wipe (σ.set i v) vs = (L2.wipe σ vs).set i v := by
    intro vs
    induction vs with
    | nil => intro σ i v _; rfl
    | cons w ws ih =>
      intro σ i v h
      have hw : i ≠ w := fun e => h (by rw [e]; exact List.mem_cons_self)
      show (L2.wipe (σ.set i v) ws).set w none = ((L2.wipe σ ws).set w none).set i v
      rw [ih σ i v fun m => h (List.mem_cons_of_mem _ m), List.set_comm _ _ hw]
  intro vs
  induction vs with
  | nil => intro h; cases h
  | cons w ws ih =>
    intro h
    show (L2.wipe (σ.set i v) ws).set w none = (L2.wipe σ ws).set w none
    by_cases m : i ∈ ws
    · rw [ih m]
    · rcases List.mem_cons.mp h with e | m'
      · subst e
        rw [comm2 ws σ i v m, set_set_none]
      · exact absurd m' m
theorem wipe_wipe (σ : L2.St) (vs : List Nat) : L2.wipe (L2.wipe σ vs) vs = L2.wipe σ vs := by
  have go : ∀ ws : List Nat, (∀ i ∈ ws, i ∈ vs) → L2.wipe (L2.wipe σ ws) vs = L2.wipe σ vs := by
    intro ws
    induction ws with
    | nil => intro _; rfl
    | cons w r ih =>
      intro h
      show L2.wipe ((L2.wipe σ r).set w none) vs = _
      rw [wipe_set_in (h w List.mem_cons_self)]
      exact ih fun i hi => h i (List.mem_cons_of_mem _ hi)
  exact go vs fun _ h => h
/-- a target's slots all belong to the block -/
def GIn (g : TG) (vs : List Nat) : Prop := ∀ v σ H (X : L2.St → Hp → Prop), (g v σ H fun σ' H' => L2.wipe σ' vs = L2.wipe σ vs → X σ' H') → g v σ H X
def GsIn (g : TGs) (vs : List Nat) : Prop := ∀ v σ H (X : L2.St → Hp → Prop), (g v σ H fun σ' H' => L2.wipe σ' vs = L2.wipe σ vs → X σ' H') → g v σ H X
theorem gin_name {i : Nat} {vs : List Nat} (h : i ∈ vs) : GIn (gName i) vs := fun v σ H X x => x (wipe_set_in h)
theorem gsin_nil {vs : List Nat} : GsIn gNil vs := fun v σ H X x => ⟨x.1, x.2 rfl⟩
theorem gsin_name {i : Nat} {g : TGs} {vs : List Nat} (h : i ∈ vs) (hr : GsIn g vs) : GsIn (gCons (gName i) g) vs := fun v σ H X x => by
  obtain ⟨a, r, e, y⟩ := x
  have y : g r (σ.set i (some a)) H fun σ' H' => L2.wipe σ' vs = L2.wipe σ vs → X σ' H' := y
  rw [← wipe_set_in (σ := σ) (v := some a) h] at y
  exact ⟨a, r, e, hr r _ H X y⟩
theorem gin_tup {n : Nat} {g : TGs} {vs : List Nat} (hr : GsIn g vs) : GIn (gTup K n g) vs := fun v σ H X x => by
  obtain ⟨a, xs, e, h1, h2, y⟩ := x
  exact ⟨a, xs, e, h1, h2, hr xs σ H X y⟩
/-- a comprehension: J by turn, what is made so far, the own objects -/
theorem evk_lcP {wi : TI} {g : TG} {tt : TT} {te : TE} {vs : List Nat} {n : Nat} {y : Nat → D} {P : Ow → Prop} {Ψ : D → Ow → Prop} (hi : EiP B wi Γ O n y P) (J : Nat → List D → Ow → Prop) (hP : ∀ i acc O1 q, J i acc O1 → P (q :: O1)) (h0 : J 0 [] O) (hgi : GIn g vs)
    (hs : ∀ B' i acc O1, Up B B' → i < n → J i acc O1 → ∃ Γ2, GtP K g (y i) (wipeD Γ vs) Γ2 ∧ EtK B' tt Γ2 O1 fun b O2 => (b = false → J (i + 1) acc O2) ∧ (b = true → EvK B' te Γ2 O2 fun d O3 => J (i + 1) (acc ++ [d]) O3))
    (hl : ∀ i acc O1, J i acc O1 → i ≤ n → acc.length ≤ sizeLine) (hd : ∀ acc O1, J n acc O1 → Ψ (.lst acc) O1) : EvK B (tLc wi g tt te vs) Γ O Ψ := fun F σ H s e Q q =>
  hi F σ H s e _ fun Jt F1 H1 s1 f1 hJ => by
    intro Dl hDl
    have up := up_mk s1
    have lay := st_up s1 s1 (Same.refl _)
    refine ⟨fun i m H' => m = n - i ∧ i ≤ n ∧ ∃ acc O1 G, J i acc O1 ∧ ST ⟨F1, B.H, B.M⟩ ((Dl, OO.lst acc) :: O1) G H', ⟨n, by simp, Nat.zero_le _, [], O, F1, h0, lay.laid hDl ⟨[], rfl, .nil⟩⟩, ?_⟩
    rintro i m H' ⟨rfl, hin, acc, O1, G, hj, s'⟩
    obtain ⟨go, stop, yld⟩ := hJ i _ _ G H' s' s'.fut.ff (hP _ _ _ _ hj)
    by_cases lt : i < n
    · refine .inr ⟨go lt, fun H2 => ∃ acc O1 G2, J (i + 1) acc O1 ∧ ST ⟨F1, B.H, B.M⟩ ((Dl, OO.lst acc) :: O1) G2 H2, ?_, ?_⟩
      · rintro H2 ⟨acc2, O2, G2, w2, s2⟩
        exact ⟨n - (i + 1), by omega, rfl, lt, acc2, O2, G2, w2, s2⟩
      · intro x I' hy
        obtain ⟨G', fu, r⟩ := yld lt x I' hy
        have s2 := s'.step fu
        obtain ⟨o, c1, c2, vsl, rfl, c3⟩ := s2.cell (j := 0) (p := Dl) (u := OO.lst acc) rfl
        have sO : ST ⟨F1, B.H, B.M⟩ O1 G' I' := s2.drop (O1 := [(Dl, OO.lst acc)])
        have sh := st_here sO
        have uh := up_here sO
        have nD : Dl ∉ O1.map (·.1) := (List.nodup_cons.mp s2.own.nd).1
        obtain ⟨Γ2, hg, ht⟩ := hs _ i acc O1 (up.trans uh) lt hj
        -- what the turn leaves: the new list as it was
        have back : ∀ {G4 H4 : Hp} {O4 : Ow}, ST (here O1 G' I') O4 G4 H4 → ST ⟨F1, B.H, B.M⟩ ((Dl, OO.lst acc) :: O4) G4 H4 ∧ H4 Dl = some (.lst vsl) ∧ RepL G4 vsl acc := fun {G4 H4 O4} s4 => by
          have h4 : H4 Dl = some (.lst vsl) := s4.fut.hh Dl _ nD c1
          have n4 : G4 Dl = none := s4.fut.nf Dl (by show I' Dl ≠ none; rw [c1]; simp) c2
          have r4 := c3.same s4.fut.ff
          have t4 := uh.st _ _ _ s4
          have nD4 : Dl ∉ O4.map (·.1) := fun m => by
            obtain ⟨q, hq, eq⟩ := List.mem_map.mp m
            rcases s4.may q hq with z | z
            · rw [eq] at z; exact nD z
            · rw [eq] at z
              have z : I' Dl = none := z
              rw [c1] at z; cases z
          refine ⟨⟨t4.fut, ⟨fun p hp => ?_, List.nodup_cons.mpr ⟨nD4, t4.own.nd⟩⟩, fun p hp => ?_⟩, h4, r4⟩
          · rcases List.mem_cons.mp hp with e | hp
            · subst e; exact ⟨_, h4, n4, _, rfl, r4⟩
            · exact t4.own.cell p hp
          · rcases List.mem_cons.mp hp with e | hp
            · subst e; exact .inr (s1.bnone hDl)
            · exact t4.may p hp
        have e2 : EnvD G' (L2.wipe σ vs) (wipeD Γ vs) := EnvD.wipe (e.same (f1.trans s2.fut.ff))
        refine hgi x (L2.wipe σ vs) I' _ (hg _ O1 G' _ I' x sh e2 r _ fun σ2 en2 hw => ⟨hw.trans (wipe_wipe σ vs), ?_⟩)
        refine ht G' σ2 I' sh en2 _ fun b O3 G3 H3 s3 f3 ⟨hf, htr⟩ => ?_
        cases b with
        | false =>
          rw [if_neg Bool.false_ne_true]
          exact ⟨acc, O3, G3, hf rfl, (back s3).1⟩
        | true =>
          rw [if_pos rfl]
          refine htr rfl G3 σ2 H3 s3 (en2.same f3) _ fun v d O4 G4 H4 s4 f4 r4 hj4 => ?_
          obtain ⟨b1, b2, b3⟩ := back s4
          have l4 := hl (i + 1) _ _ hj4 lt
          rw [List.length_append, List.length_singleton] at l4
          refine ⟨vsl, b2, by rw [b3.len]; exact l4, acc ++ [d], O4, G4, hj4, ?_⟩
          exact b1.write (j := 0) (p := Dl) (u := OO.lst acc) (u' := OO.lst (acc ++ [d])) rfl ⟨_, rfl, b3.snoc r4⟩
    · have en : i = n := by omega
      subst en
      obtain ⟨G2, s2, f2, r2⟩ := s'.freeze (j := 0) (p := Dl) (l := acc) rfl (s1.bnone hDl)
      exact .inl ⟨stop rfl, q _ _ _ G2 H' (up.st _ _ _ s2) (f1.trans (s'.fut.ff.trans f2)) r2 (hd acc O1 hj)⟩

theorem evk_lc {wi : TI} {g : TG} {tt : TT} {te : TE} {vs : List Nat} {n : Nat} {y : Nat → D} {Ψ : D → Ow → Prop} (hi : EiK B wi Γ O n y) (J : Nat → List D → Ow → Prop) (h0 : J 0 [] O) (hgi : GIn g vs)
    (hs : ∀ B' i acc O1, Up B B' → i < n → J i acc O1 → ∃ Γ2, GtP K g (y i) (wipeD Γ vs) Γ2 ∧ EtK B' tt Γ2 O1 fun b O2 => (b = false → J (i + 1) acc O2) ∧ (b = true → EvK B' te Γ2 O2 fun d O3 => J (i + 1) (acc ++ [d]) O3))
    (hl : ∀ i acc O1, J i acc O1 → i ≤ n → acc.length ≤ sizeLine) (hd : ∀ acc O1, J n acc O1 → Ψ (.lst acc) O1) : EvK B (tLc wi g tt te vs) Γ O Ψ := evk_lcP (K := K) hi J (fun _ _ _ _ _ => trivial) h0 hgi hs hl hd

/-! ### what is walked -/
theorem ei_range1 {ta : TA} {n : Int} (h : EaP B ta Γ O [.int n]) (h1 : -(2 ^ 62) ≤ n) (h2 : n < 2 ^ 62) : EiK B (iRng1 ta) Γ O n.toNat fun i => .int (i : Nat) := fun F σ H s e R q =>
  h F σ H s e _ fun vs ds O' F' H' s' f r p => by
    obtain ⟨rfl, rfl⟩ := p
    cases r with
    | cons r1 r =>
      cases r
      cases r1
      refine ⟨n, rfl, h1, h2, q _ F' H' s' f fun i B' O' G I s2 f2 _ => ⟨fun lt => lt, fun e => Nat.le_of_eq e.symm, fun lt x I' y => ?_⟩⟩
      obtain ⟨e1, e2⟩ := y
      subst e1 e2
      exact ⟨G, .refl s2.fh, by rw [Int.zero_add]; exact .int⟩
theorem ei_range2 {ta : TA} {m n : Int} (h : EaP B ta Γ O [.int m, .int n]) (h1 : -(2 ^ 62) ≤ m ∧ m < 2 ^ 62 ∧ -(2 ^ 62) ≤ n ∧ n < 2 ^ 62) : EiK B (iRng2 ta) Γ O (n - m).toNat fun i => .int (m + (i : Nat)) := fun F σ H s e R q =>
  h F σ H s e _ fun vs ds O' F' H' s' f r p => by
    obtain ⟨rfl, rfl⟩ := p
    cases r with
    | cons r1 r =>
      cases r with
      | cons r2 r =>
        cases r
        cases r1
        cases r2
        refine ⟨m, n, rfl, h1, q _ F' H' s' f fun i B' O' G I s2 f2 _ => ⟨fun lt => lt, fun e => Nat.le_of_eq e.symm, fun lt x I' y => ?_⟩⟩
        obtain ⟨e1, e2⟩ := y
        subst e1 e2
        exact ⟨G, .refl s2.fh, .int⟩
/-- over a list that is frozen -/
theorem ei_list {te : TE} {d : D} {l : List D} (h : EvP B te Γ O d) (hd : d = .lst l ∨ d = .frl l) : EiK B (iList K te) Γ O l.length fun i => l.getD i .non := fun F σ H s e R q =>
  h F σ H s e _ fun v d' O' F' H' s' f r p => by
    obtain ⟨rfl, rfl⟩ := p
    obtain ⟨a, vs, rfl, h1, h2⟩ : ∃ a vs, v = .ref a ∧ Rd F' a (.lst vs) ∧ RepL F' vs l := by
      rcases hd with rfl | rfl
      · cases r with
        | lst h1 h2 => exact ⟨_, _, rfl, .inl h1, h2⟩
      · cases r with
        | frl h1 h2 => exact ⟨_, _, rfl, h1, h2⟩
    refine ⟨a, rfl, ⟨vs, .inl (same_rd s'.fh h1)⟩, q _ F' H' s' f fun i B' O' G I s2 f2 _ => ?_⟩
    have sq : SqL K I a vs := .inl (same_rd (f2.trans s2.fh) h1)
    have w := walk_list (K := K) (a := a) (xs := vs)
    refine ⟨fun lt => w.goes i I (by rw [h2.len]; exact lt) sq, fun e => by rw [e, ← h2.len]; exact w.stops I sq, fun lt x I' y => ?_⟩
    obtain ⟨e1, e2⟩ := w.yields i I x I' (by rw [h2.len]; exact lt) sq y
    subst e1
    obtain ⟨d2, g1, g2⟩ := h2.atV e2
    refine ⟨G, .refl s2.fh, ?_⟩
    show Rep G x (l.getD i .non)
    rw [List.getD_eq_getElem?_getD, g1]
    exact g2.same f2
theorem ei_tup {te : TE} {l : List D} (h : EvP B te Γ O (.tup l)) : EiK B (iTup K te) Γ O l.length fun i => l.getD i .non := fun F σ H s e R q =>
  h F σ H s e _ fun v d' O' F' H' s' f r p => by
    obtain ⟨rfl, rfl⟩ := p
    cases r with
    | tup h1 h2 =>
      rename_i a vs
      refine ⟨a, rfl, ⟨vs, .of (s'.fh _ _ h1)⟩, q _ F' H' s' f fun i B' O' G I s2 f2 _ => ?_⟩
      have sq : SqT K I a vs := .of (s2.fh _ _ (f2 _ _ h1))
      have w := walk_tup (K := K) (a := a) (xs := vs)
      refine ⟨fun lt => w.goes i I (by rw [h2.len]; exact lt) sq, fun e => by rw [e, ← h2.len]; exact w.stops I sq, fun lt x I' y => ?_⟩
      obtain ⟨e1, e2⟩ := w.yields i I x I' (by rw [h2.len]; exact lt) sq y
      subst e1
      obtain ⟨d2, g1, g2⟩ := h2.atV e2
      refine ⟨G, .refl s2.fh, ?_⟩
      show Rep G x (l.getD i .non)
      rw [List.getD_eq_getElem?_getD, g1]
      exact g2.same f2
theorem ei_str {te : TE} {z : Str} (h : EvP B te Γ O (.str z)) : EiK B (iStr te) Γ O z.cps.size fun i => .str ⟨#[z.cps.getD i 0]⟩ := fun F σ H s e R q =>
  h F σ H s e _ fun v d' O' F' H' s' f r p => by
    obtain ⟨rfl, rfl⟩ := p
    cases r
    refine ⟨z, rfl, q _ F' H' s' f fun i B' O' G I s2 f2 _ => ?_⟩
    have w := walk_str (z := z)
    refine ⟨fun lt => w.goes i I lt trivial, fun e => by rw [e]; exact w.stops I trivial, fun lt x I' y => ?_⟩
    obtain ⟨e1, c, e2, e3⟩ := w.yields i I x I' lt trivial y
    subst e1 e3
    refine ⟨G, .refl s2.fh, ?_⟩
    have : z.cps.getD i 0 = c := by
      rw [Array.getD_eq_getD_getElem?, e2]; rfl
    show Rep G _ (.str ⟨#[z.cps.getD i 0]⟩)
    rw [this]
    exact .str
theorem ei_enum {ta : TA} {l : List D} (h : EaP B ta Γ O [.lst l]) : EiK B (iEnum K ta) Γ O l.length fun i => .tup [.int (i : Nat), l.getD i .non] := fun F σ H s e R q =>
  h F σ H s e _ fun vs ds O' F' H' s' f r p => by
    obtain ⟨rfl, rfl⟩ := p
    cases r with
    | cons r1 r =>
      cases r
      cases r1 with
      | lst h1 h2 =>
        rename_i a vs
        refine ⟨a, vs, rfl, .of (s'.fh _ _ h1), q _ F' H' s' f fun i B' O' G I s2 f2 _ => ?_⟩
        have sq : SqL K I a vs := .of (s2.fh _ _ (f2 _ _ h1))
        have w := walk_enum (K := K) (a := a) (xs := vs)
        refine ⟨fun lt => w.goes i I (by rw [h2.len]; exact lt) sq, fun e => by rw [e, ← h2.len]; exact w.stops I sq, fun lt x I' y => ?_⟩
        obtain ⟨T, x1, y1, e1, e2, e3, e4, e5⟩ := w.yields i I x I' (by rw [h2.len]; exact lt) sq y
        cases e4
        subst e1 e3
        obtain ⟨d2, g1, g2⟩ := h2.atV e5
        have fu := fut_new (o := .tup [.int (i : Nat), y1]) s2.fh e2
        refine ⟨_, fu, .tup upd_same (.cons .int (.cons ?_ .nil))⟩
        rw [List.getD_eq_getElem?_getD, g1]
        exact (g2.same f2).same fu.ff
theorem ei_zip {ta : TA} {l m : List D} (h : EaP B ta Γ O [.lst l, .lst m]) : EiK B (iZip K ta) Γ O (min l.length m.length) fun i => .tup [l.getD i .non, m.getD i .non] := fun F σ H s e R q =>
  h F σ H s e _ fun vs ds O' F' H' s' f r p => by
    obtain ⟨rfl, rfl⟩ := p
    cases r with
    | cons r1 r =>
      cases r with
      | cons r2 r =>
        cases r
        cases r1 with
        | lst h1 h2 =>
          cases r2 with
          | lst k1 k2 =>
            rename_i a vs b ws
            refine ⟨a, b, vs, ws, rfl, .of (s'.fh _ _ h1), .of (s'.fh _ _ k1), q _ F' H' s' f fun i B' O' G I s2 f2 _ => ?_⟩
            have sq : SqL K I a vs ∧ SqL K I b ws := ⟨.of (s2.fh _ _ (f2 _ _ h1)), .of (s2.fh _ _ (f2 _ _ k1))⟩
            have w := walk_zip (K := K) (a := a) (b := b) (xs := vs) (ys := ws) (n := min l.length m.length) (by rw [h2.len, k2.len])
            refine ⟨fun lt => w.goes i I lt sq, fun e => by rw [e]; exact w.stops I sq, fun lt x I' y => ?_⟩
            obtain ⟨T, x1, y1, e1, e2, e3, e4, e5⟩ := w.yields i I x I' lt sq y
            subst e1 e3
            obtain ⟨d2, g1, g2⟩ := h2.atV e4
            obtain ⟨d3, g3, g4⟩ := k2.atV e5
            have fu := fut_new (o := .tup [x1, y1]) s2.fh e2
            refine ⟨_, fu, .tup upd_same (.cons ?_ (.cons ?_ .nil))⟩
            · rw [List.getD_eq_getElem?_getD, g1]
              exact (g2.same f2).same fu.ff
            · rw [List.getD_eq_getElem?_getD, g3]
              exact (g4.same f2).same fu.ff
end
end Kt
/-! K3: promises by data; calls; a def's body; the promise of defs that ask where they stand -/
namespace Kt
open PySem PySem.Spec PyProof.Rows L2 StX

/-- a promise by data: g tells the arguments ds and the objects of one's own that are handed in; what is handed back, what is raised -/
structure Con where
  G : Type
  ds : G → List D
  own : G → Ow := fun _ => []
  pre : G → Prop := fun _ => True
  post : G → D → Ow → Prop
  exn : G → Addr → D → Ow → Prop := fun _ _ _ _ => False
def Con.sp (c : Con) : Sp := fun vs H Q E => ∃ (g : c.G) (F : Hp), Same F H ∧ RepL F vs (c.ds g) ∧ Own F H (c.own g) ∧ c.pre g ∧
  (∀ v d O' F' H', Fut F H ((c.own g).map (·.1)) F' H' → Own F' H' O' → (∀ p ∈ O', p.1 ∈ (c.own g).map (·.1) ∨ H p.1 = none) → Rep F' v d → c.post g d O' → Q v H') ∧
  (∀ C dd v d O' F' H', Fut F H ((c.own g).map (·.1)) F' H' → Own F' H' O' → (∀ p ∈ O', p.1 ∈ (c.own g).map (·.1) ∨ H p.1 = none) → F' dd = some (.xd [("value", v)]) → Rep F' v d → c.exn g C d O' → E (.ref C) (some dd) H')
theorem Con.len {c : Con} {n : Nat} (h : ∀ g, (c.ds g).length = n) : ∀ vs H Q E, c.sp vs H Q E → vs.length = n := fun vs H Q E ⟨g, F, _, r, _⟩ => by rw [r.len]; exact h g
section
variable {B : Bs} {O : Ow} {F F' H H' : Hp} {σ : L2.St} {Γ : List (Option D)} {p : Addr} {K : PySem.W.Frag} {D₀ : Ends}
/-- what is wanted of an error where the slots are Γ -/
def XW (B : Bs) (W : WX) (Γ : List (Option D)) (Ξ : Addr → D → Ow → Prop) : Prop := ∀ F σ H C dd v d O', ST B O' F H → EnvD F σ Γ → F dd = some (.xd [("value", v)]) → Rep F v d → Ξ C d O' → W (.ref C) (some dd) σ H
theorem XW.of {E : XK} {Ξ : Addr → D → Ow → Prop} (h : XT B E Ξ) : XW B (fun cls d _ H => E cls d H) Γ Ξ := fun F σ H C dd v d O' s e r1 r p => h F H C dd v d O' s r1 r p
theorem XW.no {W : WX} : XW B W Γ fun _ _ _ => False := fun F σ H C dd v d O' s e r1 r p => p.elim
/-- the state at a call: what the callee gets, what comes back -/
theorem st_call {O1 O2 O' : Ow} {F1 H1 : Hp} (s : ST B (O1 ++ O2) F H) (f : Fut F H (O1.map (·.1)) F1 H1) (o : Own F1 H1 O') (m : ∀ p ∈ O', p.1 ∈ O1.map (·.1) ∨ H p.1 = none) : ST B (O' ++ O2) F1 H1 where
  fut := s.fut.trans f fun x hx => by
    obtain ⟨q, hq, e⟩ := List.mem_map.mp hx
    rw [← e]
    exact s.may q (List.mem_append_left _ hq)
  own := by
    have nd := s.own.nd
    rw [List.map_append] at nd
    obtain ⟨n1, n2, n3⟩ := List.nodup_append.mp nd
    refine ⟨fun p hp => ?_, ?_⟩
    · rcases List.mem_append.mp hp with hp | hp
      · exact o.cell p hp
      · obtain ⟨u, h1, h2, h3⟩ := s.own.cell p (List.mem_append_right _ hp)
        have np : p.1 ∉ O1.map (·.1) := fun z => n3 p.1 z p.1 (List.mem_map_of_mem hp) rfl
        exact ⟨u, f.hh _ _ np h1, f.nf _ (by rw [h1]; simp) h2, h3.le (.of f.ff)⟩
    · rw [List.map_append]
      refine List.nodup_append.mpr ⟨o.nd, n2, fun a ha b hb e => ?_⟩
      subst e
      obtain ⟨q, hq, eq⟩ := List.mem_map.mp ha
      obtain ⟨q2, hq2, eq2⟩ := List.mem_map.mp hb
      rcases m q hq with z | z
      · rw [eq] at z
        exact n3 a z a hb rfl
      · obtain ⟨u, h1, _⟩ := s.own.cell q2 (List.mem_append_right _ hq2)
        rw [eq2, ← eq, z] at h1
        cases h1
  may := fun p hp => by
    rcases List.mem_append.mp hp with hp | hp
    · rcases m p hp with z | z
      · obtain ⟨q, hq, e⟩ := List.mem_map.mp z
        have := s.may q (List.mem_append_left _ hq)
        rw [e] at this
        exact this
      · exact .inr (s.bnone z)
    · exact s.may p (List.mem_append_right _ hp)
/-- a promise is asked: its wants, by data -/
theorem con_ask {c : Con} {vs : List V} {Or : Ow} {Q : VK} {E : XK} (g : c.G) (s : ST B (c.own g ++ Or) F H) (r : RepL F vs (c.ds g)) (hp : c.pre g)
    (hq : ∀ v d O' F' H', ST B (O' ++ Or) F' H' → Same F F' → Rep F' v d → c.post g d O' → Q v H')
    (hx : ∀ C dd v d O' F' H', ST B (O' ++ Or) F' H' → Same F F' → F' dd = some (.xd [("value", v)]) → Rep F' v d → c.exn g C d O' → E (.ref C) (some dd) H') : c.sp vs H Q E :=
  ⟨g, F, s.fh, r, ⟨fun p h => s.own.cell p (List.mem_append_left _ h), by
    have nd := s.own.nd
    rw [List.map_append] at nd
    exact (List.nodup_append.mp nd).1⟩, hp, fun v d O' F' H' f o m r2 p => hq v d O' F' H' (st_call s f o m) f.ff r2 p, fun C dd v d O' F' H' f o m r1 r2 p => hx C dd v d O' F' H' (st_call s f o m) f.ff r1 r2 p⟩
/-- a call whose wish of errors hangs on the slots -/
def tCl (c : Con) (dvs : List V) (W : WX) (t : TA) : TE := fun σ H Q => t σ H fun vs H1 => c.sp (vs ++ dvs) H1 Q fun cls d H' => W cls d σ H'
theorem evk_cl {c : Con} {dvs : List V} {dds : List D} {W : WX} {ta : TA} {Φ : List D → Ow → Prop} {Ψ : D → Ow → Prop} (h : EaK B ta Γ O Φ) (hd : ∀ F, RepL F dvs dds)
    (k : ∀ ds O1, Φ ds O1 → ∃ (g : c.G) (Or : Ow), ds ++ dds = c.ds g ∧ O1.Perm (c.own g ++ Or) ∧ c.pre g ∧ (∀ d O', c.post g d O' → Ψ d (O' ++ Or)) ∧ XW B W Γ fun C d O' => ∃ O2, c.exn g C d O2 ∧ O' = O2 ++ Or) : EvK B (tCl c dvs W ta) Γ O Ψ := fun F σ H s e Q q =>
  h F σ H s e _ fun vs ds O1 F1 H1 s1 f1 r1 p1 => by
    obtain ⟨g, Or, e1, e2, e3, e4, e5⟩ := k ds O1 p1
    refine con_ask g (s1.perm e2) (by rw [← e1]; exact r1.append (hd _)) e3 (fun v d O' F' H' s' f r p => q v d _ F' H' s' (f1.trans f) r (e4 d O' p)) fun C dd v d O' F' H' s' f r1 r2 p => ?_
    exact e5 F' σ H' C dd v d _ s' ((e.same f1).same f) r1 r2 ⟨O', p, rfl⟩
/-- a call of which nothing is raised, its arguments plain -/
theorem ev_cl {c : Con} {W : WX} {ta : TA} {ds : List D} {Ψ : D → Ow → Prop} (g : c.G) (Or : Ow) (h : EaP B ta Γ O ds) (e1 : ds = c.ds g) (e2 : O.Perm (c.own g ++ Or)) (e3 : c.pre g) (e4 : ∀ d O', c.post g d O' → Ψ d (O' ++ Or)) (e5 : ∀ C d O', ¬ c.exn g C d O') : EvK B (tCl c [] W ta) Γ O Ψ :=
  evk_cl (dds := []) h (fun _ => .nil) fun ds' O1 ⟨q1, q2⟩ => ⟨g, Or, by rw [List.append_nil, q1, e1], by rw [q2]; exact e2, e3, e4, fun F σ H C dd v d O' s e r1 r2 ⟨O2, p, _⟩ => (e5 C d O2 p).elim⟩
/-- .. an expression like others -/
theorem evp_cl {c : Con} {W : WX} {ta : TA} {ds : List D} {d : D} (g : c.G) (h : EaP B ta Γ O ds) (e1 : ds = c.ds g) (e2 : c.own g = []) (e3 : c.pre g) (e4 : ∀ d' O', c.post g d' O' → d' = d ∧ O' = []) (e5 : ∀ C d O', ¬ c.exn g C d O') : EvP B (tCl c [] W ta) Γ O d :=
  ev_cl g O h e1 (by rw [e2]; exact .refl _) e3 (fun d' O' p => ⟨(e4 d' O' p).1, by rw [(e4 d' O' p).2]; rfl⟩) e5
/-- the same by tCall -/
theorem evk_call {c : Con} {dvs : List V} {dds : List D} {E : XK} {ta : TA} {Φ : List D → Ow → Prop} {Ψ : D → Ow → Prop} (h : EaK B ta Γ O Φ) (hd : ∀ F, RepL F dvs dds)
    (k : ∀ ds O1, Φ ds O1 → ∃ (g : c.G) (Or : Ow), ds ++ dds = c.ds g ∧ O1.Perm (c.own g ++ Or) ∧ c.pre g ∧ (∀ d O', c.post g d O' → Ψ d (O' ++ Or)) ∧ XT B E fun C d O' => ∃ O2, c.exn g C d O2 ∧ O' = O2 ++ Or) : EvK B (tCall c.sp dvs E ta) Γ O Ψ :=
  evk_cl (W := fun cls d _ H => E cls d H) h hd fun ds O1 p => let ⟨g, Or, e1, e2, e3, e4, e5⟩ := k ds O1 p; ⟨g, Or, e1, e2, e3, e4, .of e5⟩

/-! ### a def's body -/
/-- the slots at the entry -/
def startD (N : List Str) (ds : List D) : List (Option D) := ds.map some ++ List.replicate (N.length - ds.length) none
theorem env_start {N : List Str} {vs : List V} {ds : List D} (r : RepL F vs ds) : EnvD F (L2.start N vs) (startD N ds) := by
  unfold L2.start startD
  refine ⟨by simp [r.len], fun i d h => ?_⟩
  by_cases hi : i < ds.length
  · rw [List.getElem?_append_left (by simpa using hi), List.getElem?_map] at h
    cases e : ds[i]? with
    | none => rw [e] at h; cases h
    | some d' =>
      rw [e] at h
      cases h
      obtain ⟨v, h1, h2⟩ := r.at e
      refine ⟨v, ?_, h2⟩
      rw [List.getElem?_append_left (by rw [List.length_map, r.len]; exact hi), List.getElem?_map, h1]
      rfl
  · rw [List.getElem?_append_right (by simpa using hi), List.getElem?_replicate] at h
    split at h <;> cases h
/-- the reading of a body keeps the promise: by data -/
theorem body_ok {c : Con} {N : List Str} {vs : List V} {Q : VK} {E : XK} {t : XK → TS} (h : ∀ (g : c.G) (B : Bs) (Q : VK) (E : XK), c.pre g → RT B Q (c.post g) → XT B E (c.exn g) → B.M = (c.own g).map (·.1) → NX B (t E { nx := fun _ H' => Q .non H', rt := Q }) (startD N (c.ds g)) (c.own g)) (hs : c.sp vs H Q E) :
    t E { nx := fun _ H' => Q .non H', rt := Q } (L2.start N vs) H := by
  obtain ⟨g, F, s, r, o, hp, hq, hx⟩ := hs
  refine h g ⟨F, H, (c.own g).map (·.1)⟩ Q E hp (fun F' H' v d O' st r p => hq v d O' F' H' st.fut st.own st.may r p) (fun F' H' C dd v d O' st r1 r2 p => hx C dd v d O' F' H' st.fut st.own st.may r1 r2 p) rfl F (L2.start N vs) H ?_ (env_start r)
  exact ⟨.refl s, o, fun p hp => .inl (List.mem_map_of_mem hp)⟩
end

/-! ### a def that asks where it stands (repr looks at what is being told): guards -/
structure FnK (P : Program) (w : World) (K : PySem.W.Frag) (mg : Str → Option Value) (base : Heap) (k : Nat) (f : Addr) (fd : FuncData) (ps : List Str) (sp : Sp) : Prop where
  len : ∀ vs H Q E, sp vs H Q E → vs.length = ps.length
  go : ∀ (A : Around) (outer : List Env) (s : Shared) (H : Hp) (args : Args) (us : List Value) (vs : List V) (Q : VK) (E : XK), Room k A → A.guards = some [] → Env0 P w K mg base A outer s H →
    BindsTo s fd args (ps.zip us) → Vals vs us → sp vs H Q E → codeAny (model P w) A (.call (.ref f) args) (CR (L2.CX P w) outer P w H s Q E) s
section
variable {P : Program} {w : World} {K : PySem.W.Frag} {mg : Str → Option Value} {base : Heap} {k : Nat} {f : Addr} {fd : FuncData} {ps : List Str} {sp : Sp}
theorem FnK.of (h : FnOk P w K mg base (L2.CX P w) k f fd ps sp) : FnK P w K mg base k f fd ps sp := ⟨h.len, fun A outer s H args us vs Q E hr _ he hb hv hs => h.run A outer s H args us vs Q E hr he hb hv hs⟩
theorem FnK.mono {j : Nat} (h : FnK P w K mg base j f fd ps sp) (l : j ≤ k) : FnK P w K mg base k f fd ps sp := ⟨h.len, fun A outer s H args us vs Q E hr => h.go A outer s H args us vs Q E (hr.mono l)⟩
/-- a def's body, by its reading; where it stands is told -/
theorem fnk_of {x qual : Str} {pa : Arguments} {body : List Stmt} {scope : Scope} {dvs : List V} {kws : List (Str × V)} {N : List Str} (D : FunD K x qual pa body scope dvs kws f fd) (S : FnScope N ps scope) (len : ∀ vs H Q E, sp vs H Q E → vs.length = ps.length)
    (hb : ∀ (cdv : Value) (A : Around) (outer : List Env) (s : Shared) (H : Hp) (E : XK), Room k (A.deeper (envOfC qual scope s.heap.objs.size f cdv)) → (A.deeper (envOfC qual scope s.heap.objs.size f cdv)).guards = some [] →
      ∃ t, PSs (cxOf (L2.CX P w) P w K mg base N qual scope f cdv A outer s H E) body t ∧ ∀ vs Q, sp vs H Q E → t { nx := fun _ H' => Q .non H', rt := Q } (L2.start N vs) H) : FnK P w K mg base (k + 1) f fd ps sp := by
  obtain ⟨oc, od, dV, kV, doc, pm, an, cdv, ct, osl, e, lk, hcd, _⟩ := D.ex
  subst e
  constructor
  · exact len
  · intro A outer s H args us vs Q E hr hg e0 hbind rv hsp
    have hl := len vs H Q E hsp
    have KX : K.In s.heap := e0.mod.kin.keeps fun b o h => (e0.bs b o h).1
    have lim : s.heap.NoLimit := e0.mod.nolimit.keeps fun b o h => (e0.bs b o h).1
    have hk : ∀ y ∈ ps.zip us, scope.names.lookup y.1 = some .local ∨ (scope.names.lookup y.1 = some .cell ∧ ((cellsFrom (s.heap.objs.size + 1) scope.names []).lookup y.1).isSome = true) := by
      intro y hy
      rcases S.par y.1 (List.of_mem_zip (a := y.1) (b := y.2) hy).1 with q | q
      · exact .inl q
      · exact .inr ⟨q, PySem.W.cellsFrom_some _ _ _ (.inl q)⟩
    refine codeAny_call_function hr.depth (KX _ _ lk) rfl S.co S.gen rfl (PySem.W.codeRec_of KX hcd) (hbind _ _ _ _ (wpAny_newFunctionEnv_cells S.kind hk fun env he s1 x => ?_))
    cases he
    refine ⟨lim.keeps x.toInCall.keep, codeAny_func ?_⟩
    obtain ⟨t, ht, hq⟩ := hb cdv A outer s H E (hr.deeper _) (by exact hg)
    have I := inv_start (CX := L2.CX P w) (E := E) (qual := qual) (f := f) (cd := cdv) S hr.hd e0 hl rv x
    refine wpAny_mono (ht.run [] s1 (L2.start N vs) H _ I (hq vs Q hsp)) ?_ fun er s' z => z
    intro fl s' z
    cases fl with
    | ret u =>
      obtain ⟨v, σ', H', J, r, q⟩ := z
      exact ⟨v, H', J.os, J.bare, J.base, J.hok, r, q⟩
    | next =>
      obtain ⟨σ', H', J, q⟩ := z
      exact ⟨.non, H', J.os, J.bare, J.base, J.hok, rfl, q⟩
    | brk => exact z.elim fun _ z => z.elim fun _ z => z.2.elim
    | cont => exact z.elim fun _ z => z.elim fun _ z => z.2.elim
end
section
variable {X : Cx} {k : Nat} {f : Addr} {fd : FuncData} {ps : List Str} {c : Con} {dvs : List V} {ds : List Value} {W : WX} {x : Str} {p pos : Pos} {e : Expr} {es : List Expr} {t : TA}
theorem run_fk {pins : List (Addr × Obj)} {σ : L2.St} {H : Hp} {s : Shared} {Q : VK} {us : List Value} {vs : List V} (G : FnK X.prog X.w X.K X.mg X.base k f fd ps c.sp) (hr : Room k X.A) (hg : X.A.guards = some []) (hb : Binds X.K fd ps ds) (hd : Vals dvs ds) (tk : Takes X W)
    (I : Inv X pins σ H s) (r : Vals vs us) (h : c.sp (vs ++ dvs) H Q fun cls d H' => W cls d σ H') : wpAny (model X.prog X.w) X.A (call (.ref f) us) (EP X pins σ Q) X.xe s := by
  have r2 : Vals (vs ++ dvs) (us ++ ds) := r.append hd
  have l2 : (us ++ ds).length = ps.length := r2.length.symm.trans (G.len _ _ _ _ h)
  refine wpAny_call (codeAny_mono (G.go X.A X.stack s H ⟨us, []⟩ (us ++ ds) (vs ++ dvs) Q _ hr hg I.env0 (hb s us I.kIn l2) r2 h) ?_)
  intro res s' z
  match res, z with
  | .error er, z => exact tk er s' (XE.of_call I (fun _ _ _ q => q) z)
  | .ok (.ret u), z => exact I.after z
theorem pk_call (G : FnK X.prog X.w X.K X.mg X.base k f fd ps c.sp) (hr : Room k X.A) (hg : X.A.guards = some []) (gl : Gl X x) (hm : X.mg x = some (.ref f)) (kp : PySem.W.keepIn X.K (.ref f) = true) (hb : Binds X.K fd ps ds) (hd : Vals dvs ds) (tk : Takes X W) (ha : PA X (e :: es) t)
    (n1 : (x == ("__debug__" : Str)) = false := by decide) (n2 : starEach (e :: es) X.env = (false, eval e X.env) :: starEach es X.env := by rfl) (n3 : (backTo pos (starEach es X.env)).any (·.1) = false := by rfl) : PE X (.Call (.Name x p) (e :: es) [] pos) (tCl c dvs W t) := by
  constructor
  intro pins s σ H Q I h
  exact wpAny_Call_Name_kw (ld_glob I gl hm (PySem.W.callWith_K (h₀ := X.base) I.ok.mod.kin kp (thn (ha.run pos pins s σ H _ I h) fun us s1 ⟨vs, H1, I1, r, q⟩ => ⟨I1.kIn, run_fk G hr hg hb hd tk I1 r q⟩) n2 n3) n1)
/-- the same of a def that doesn't ask -/
theorem run_fok {pins : List (Addr × Obj)} {σ : L2.St} {H : Hp} {s : Shared} {Q : VK} {us : List Value} {vs : List V} (G : FnOk X.prog X.w X.K X.mg X.base (L2.CX X.prog X.w) k f fd ps c.sp) (hr : Room k X.A) (hb : Binds X.K fd ps ds) (hd : Vals dvs ds) (tk : Takes X W)
    (I : Inv X pins σ H s) (r : Vals vs us) (h : c.sp (vs ++ dvs) H Q fun cls d H' => W cls d σ H') : wpAny (model X.prog X.w) X.A (call (.ref f) us) (EP X pins σ Q) X.xe s := by
  have r2 : Vals (vs ++ dvs) (us ++ ds) := r.append hd
  have l2 : (us ++ ds).length = ps.length := r2.length.symm.trans (G.len _ _ _ _ h)
  refine wpAny_call (codeAny_mono (G.run X.A X.stack s H ⟨us, []⟩ (us ++ ds) (vs ++ dvs) Q _ hr I.env0 (hb s us I.kIn l2) r2 h) ?_)
  intro res s' z
  match res, z with
  | .error er, z => exact tk er s' (XE.of_call I (fun _ _ _ q => q) z)
  | .ok (.ret u), z => exact I.after z
theorem pe_cl (G : FnOk X.prog X.w X.K X.mg X.base (L2.CX X.prog X.w) k f fd ps c.sp) (hr : Room k X.A) (gl : Gl X x) (hm : X.mg x = some (.ref f)) (kp : PySem.W.keepIn X.K (.ref f) = true) (hb : Binds X.K fd ps ds) (hd : Vals dvs ds) (tk : Takes X W) (ha : PA X (e :: es) t)
    (n1 : (x == ("__debug__" : Str)) = false := by decide) (n2 : starEach (e :: es) X.env = (false, eval e X.env) :: starEach es X.env := by rfl) (n3 : (backTo pos (starEach es X.env)).any (·.1) = false := by rfl) : PE X (.Call (.Name x p) (e :: es) [] pos) (tCl c dvs W t) := by
  constructor
  intro pins s σ H Q I h
  exact wpAny_Call_Name_kw (ld_glob I gl hm (PySem.W.callWith_K (h₀ := X.base) I.ok.mod.kin kp (thn (ha.run pos pins s σ H _ I h) fun us s1 ⟨vs, H1, I1, r, q⟩ => ⟨I1.kIn, run_fok G hr hb hd tk I1 r q⟩) n2 n3) n1)
end
end Kt
/-! K4: operations by data -/
namespace Kt
open PySem PySem.Spec PyProof.Rows L2 StX
abbrev big : Nat := sizeLine
/-! ### universal rules: the operation tells by its values which it is -/
def rCatS : R2 := fun x y H Q => ∃ i j, x = .str i ∧ y = .str j ∧ i.length + j.length ≤ sizeLine ∧ Q (.str (i ++ j)) H
def rAddU (K : PySem.W.Frag) : R2 := fun x y H Q => rI0 (fun i j => .int (i + j)) x y H Q ∨ (rCatS x y H Q ∨ (rCat x y H Q ∨ rCatA K x y H Q))
theorem op_addU {X : Cx} : OpR X (binaryOp .Add) (rAddU X.K) := op_add.or (OpR.or op_add_str (op_cat.or op_catA))
abbrev rSubU : R2 := rI0 fun i j => .int (i - j)
def rMulU (K : PySem.W.Frag) : R2 := fun x y H Q => rI CMul (fun i j => .int (i * j)) x y H Q ∨ rRep x y H Q
theorem op_mulU {X : Cx} : OpR X (binaryOp .Mult) (rMulU X.K) := op_mul.or op_rep
abbrev rDivU : R2 := rI CDiv fun i j => .int (i / j)
abbrev rModU : R2 := rI (fun _ j => 0 < j) fun i j => .int (i % j)
def CPowW (i j : Int) : Prop := 0 ≤ j ∧ (Builtin.Int.intBits i : Int) * j ≤ 2 ^ 27
abbrev rPowU : R2 := rI CPowW fun i j => .int (i ^ j.toNat)
theorem op_powU {X : Cx} : OpR X (binaryOp .Pow) rPowU := opI fun _ _ _ _ _ _ _ hc q => pow_int hc.1 hc.2 q
/-- a dict's item -/
def rIxDct : R2 := fun x y H Q => ∃ a v, x = .ref a ∧ DGet H a y (some v) ∧ Q v H
theorem ix_dct {X : Cx} (hu : X.A.units + 1 < cLine) : IxR X rIxDct := by
  intro value slice pins s σ H x y v u Q I rx ry h hs
  obtain ⟨a, z, rfl, g, q⟩ := h
  cases rx
  exact tail_any (dict_typeIs I g) PySem.F.slot_dict_getitem.lookup (d_getItem hu I g ry fun w' s3 I3 rw' => ⟨z, H, I3, rw', q⟩) hs
def rIxU (K : PySem.W.Frag) : R2 := fun x y H Q => rIx K x y H Q ∨ rIxDct x y H Q
theorem ix_U {X : Cx} (hu : X.A.units + 1 < cLine) : IxR X (rIxU X.K) := ix_seq.or (ix_dct hu)
def rSlU (K : PySem.W.Frag) : V → Option Int → Option Int → Hp → VK → Prop := fun x lo hi H Q => rSlL K x lo hi H Q ∨ (rSlS x lo hi H Q ∨ rSlA K x lo hi H Q)
theorem sl_U {X : Cx} : SlR X (rSlU X.K) := sl_list.or (SlR.or sl_str sl_tupA)
/-- in a list or a tuple of flat things, a dict's keys, a text -/
def rInStr : R2 := fun x y H Q => ∃ (c : Nat) (z : Str), x = .str ⟨#[c]⟩ ∧ y = .str z ∧ Q (.bl (decide (c ∈ z.cps.toList))) H
def rNotInStr : R2 := fun x y H Q => ∃ (c : Nat) (z : Str), x = .str ⟨#[c]⟩ ∧ y = .str z ∧ Q (.bl (!decide (c ∈ z.cps.toList))) H
def rInDct (neg : Bool) : R2 := fun y x H Q => ∃ a o, x = .ref a ∧ DGet H a y o ∧ Q (.bl (if neg then !o.isSome else o.isSome)) H
theorem op_inDct {X : Cx} (hu : X.A.units + 1 < cLine) : OpR X (compareOp .In) (rInDct false) := by
  intro pins s σ H x y v u Q I rx ry h
  obtain ⟨a, o, rfl, g, q⟩ := h
  cases ry
  exact d_in hu I g rx fun s3 I3 => ⟨.bl o.isSome, H, I3, rfl, q⟩
theorem op_notInDct {X : Cx} (hu : X.A.units + 1 < cLine) : OpR X (compareOp .NotIn) (rInDct true) := by
  intro pins s σ H x y v u Q I rx ry h
  obtain ⟨a, o, rfl, g, q⟩ := h
  cases ry
  exact d_notIn hu I g rx fun s3 I3 => ⟨.bl (!o.isSome), H, I3, rfl, q⟩
def rInU (K : PySem.W.Frag) : R2 := fun x y H Q => rIn K false x y H Q ∨ (rInDct false x y H Q ∨ rInStr x y H Q)
theorem op_inU {X : Cx} (hu : X.A.units + 1 < cLine) : OpR X (compareOp .In) (rInU X.K) := op_in_seq.or ((op_inDct hu).or op_in_sign)
def rNotInU (K : PySem.W.Frag) : R2 := fun x y H Q => rIn K true x y H Q ∨ (rInDct true x y H Q ∨ rNotInStr x y H Q)
theorem op_notInU {X : Cx} (hu : X.A.units + 1 < cLine) : OpR X (compareOp .NotIn) (rNotInU X.K) := op_notIn_seq.or ((op_notInDct hu).or op_notIn_sign)
/-- two rules of one call -/
theorem CallR.or {X : Cx} {f : Value} {r r' : List V → Hp → VK → Prop} (h : CallR X f r) (h' : CallR X f r') : CallR X f fun xs H Q => r xs H Q ∨ r' xs H Q := fun pins s σ H xs us Q I rv q => q.elim (h pins s σ H xs us Q I rv) (h' pins s σ H xs us Q I rv)
def rLenU (K : PySem.W.Frag) : List V → Hp → VK → Prop := fun xs H Q => (∃ x n, xs = [x] ∧ LenV K x H n ∧ Q (.int n) H) ∨ ∃ a kvs, xs = [V.ref a] ∧ H a = some (.dK kvs) ∧ Q (.int kvs.length) H
theorem call_lenU {X : Cx} : CallR X (.builtin "len") (rLenU X.K) := CallR.or call_len call_lenD
abbrev rAbs : List V → Hp → VK → Prop := fun xs H Q => ∃ i, xs = [.int i] ∧ Q (.int (if i < 0 then -i else i)) H
abbrev rMax2 : List V → Hp → VK → Prop := fun xs H Q => ∃ i j, xs = [.int i, .int j] ∧ Q (.int (if j > i then j else i)) H
abbrev rMin2 : List V → Hp → VK → Prop := fun xs H Q => ∃ i j, xs = [.int i, .int j] ∧ Q (.int (if j < i then j else i)) H
abbrev rInt1 : List V → Hp → VK → Prop := fun xs H Q => (∃ i, xs = [.int i] ∧ Q (.int i) H) ∨ ∃ k, xs = [.bl k] ∧ Q (.int (if k then 1 else 0)) H
abbrev rStrI : List V → Hp → VK → Prop := fun xs H Q => ∃ i, xs = [.int i] ∧ i.natAbs.log2 < 1920 ∧ Q (.str (toString i)) H
def rListU (K : PySem.W.Frag) : List V → Hp → VK → Prop := fun xs H Q => (∃ p ys, xs = [.ref p] ∧ (SqL K H p ys ∨ SqT K H p ys) ∧ ∀ l, H l = none → Q (.ref l) (upd H l (.lst ys))) ∨
  ∃ (a : Addr) (kvs : List (Key × V)), xs = [.ref a] ∧ Rd H a (.dK kvs) ∧ ∀ p, H p = none → Q (.ref p) (upd H p (.lst (kvs.map fun kv => kV kv.1)))
theorem call_listU {X : Cx} (hc : X.calm = true) : CallR X (.type "list") (rListU X.K) := CallR.or call_list_of (call_listD hc)
abbrev rTupleU (K : PySem.W.Frag) : List V → Hp → VK → Prop := fun xs H Q => ∃ p ys, xs = [.ref p] ∧ ((SqL K H p ys ∧ ∀ l, H l = none → Q (.ref l) (upd H l (.tup ys))) ∨ (SqT K H p ys ∧ Q (.ref p) H))
abbrev rDictP (K : PySem.W.Frag) : List V → Hp → VK → Prop := fun xs H Q => ∃ (a : Addr) (ps : List Addr) (kvs : List (Key × V)), xs = [.ref a] ∧ SqL K H a (ps.map V.ref) ∧ Paired (fun p kv => SqT K H p [kV kv.1, kv.2]) ps kvs ∧
    ∀ p, H p = none → Q (.ref p) (upd H p (.dK (mergeK [] kvs)))

section
variable {B : Bs} {O : Ow} {F F' H H' : Hp} {σ : L2.St} {Γ : List (Option D)} {p : Addr} {K : PySem.W.Frag} {D₀ : Ends}
/-! ### arithmetic, texts, lists -/
theorem o2_addI {i j : Int} : Op2 (rAddU K) B O (.int i) (.int j) (.int (i + j)) := (op2_I0 fun _ => .int).or
theorem o2_addS {a b : Str} (h : a.length + b.length ≤ big) : Op2 (rAddU K) B O (.str a) (.str b) (.str (a ++ b)) := fun F H v u s r1 r2 Q q => by
  cases r1; cases r2
  exact .inr (.inl ⟨a, b, rfl, rfl, h, q _ F H (.refl s.fh) .str⟩)
theorem o2_addL {a b : List D} (h : a.length + b.length ≤ big) : Op2 (rAddU K) B O (.lst a) (.lst b) (.lst (a ++ b)) := fun F H v u s r1 r2 Q q => by
  cases r1 with
  | lst h1 h2 => cases r2 with
    | lst k1 k2 =>
      refine .inr (.inr (.inl ⟨_, _, _, _, rfl, rfl, s.fh _ _ h1, s.fh _ _ k1, by rw [h2.len, k2.len]; exact h, fun p hp => ?_⟩))
      exact q _ _ _ (fut_new s.fh hp) (.lst upd_same ((h2.append k2).same (fut_new s.fh hp).ff))
theorem o2_subI {i j : Int} : Op2 rSubU B O (.int i) (.int j) (.int (i - j)) := op2_I0 fun _ => .int
theorem o2_mulI {i j : Int} (h : (-(2 ^ 64) < i ∧ i < 2 ^ 64) ∨ (-(2 ^ 64) < j ∧ j < 2 ^ 64)) : Op2 (rMulU K) B O (.int i) (.int j) (.int (i * j)) := (op2_I h fun _ => .int).or
theorem o2_divI {i j : Int} (h : 0 < j ∧ j < 1073741824) : Op2 rDivU B O (.int i) (.int j) (.int (i / j)) := op2_I h fun _ => .int
theorem o2_modI {i j : Int} (h : 0 < j) : Op2 rModU B O (.int i) (.int j) (.int (i % j)) := op2_I h fun _ => .int
theorem o2_powI {i j : Int} (h : CPowW i j) : Op2 rPowU B O (.int i) (.int j) (.int (i ^ j.toNat)) := op2_I h fun _ => .int
theorem o2_lt {i j : Int} : Op2 (rI0 fun i j => .bl (decide (i < j))) B O (.int i) (.int j) (.bl (decide (i < j))) := op2_I0 fun _ => .bl
theorem o2_le {i j : Int} : Op2 (rI0 fun i j => .bl (decide (i ≤ j))) B O (.int i) (.int j) (.bl (decide (i ≤ j))) := op2_I0 fun _ => .bl
theorem o2_gt {i j : Int} : Op2 (rI0 fun i j => .bl (decide (j < i))) B O (.int i) (.int j) (.bl (decide (j < i))) := op2_I0 fun _ => .bl
theorem o2_ge {i j : Int} : Op2 (rI0 fun i j => .bl (decide (j ≤ i))) B O (.int i) (.int j) (.bl (decide (j ≤ i))) := op2_I0 fun _ => .bl

/-! ### equality of data -/
mutual
/-- data that == tells apart: no bools, dicts, objects -/
def D.py : D → PyData
  | .non => .none
  | .int i => .int i
  | .str x => .str x
  | .lst l => .list (D.pyL l)
  | .tup l => .tuple (D.pyL l)
  | _ => .none
def D.pyL : List D → List PyData
  | [] => []
  | d :: l => d.py :: D.pyL l
end
mutual
def D.isPy : D → Bool
  | .non => true
  | .int _ => true
  | .str x => PyData.strOk x
  | .lst l => D.isPyL l
  | .tup l => D.isPyL l
  | _ => false
def D.isPyL : List D → Bool
  | [] => true
  | d :: l => d.isPy && D.isPyL l
end
mutual
theorem rep_dp (s : Same F H) : ∀ (d : D) (v : V), d.isPy = true → Rep F v d → Dp K H v d.py
  | .non, v, _, r => by cases r; exact .non
  | .int i, v, _, r => by cases r; exact .int i
  | .str i, v, _, r => by cases r; exact .str i
  | .lst l, v, h, r => by cases r with | lst h1 h2 => exact .lst (.of (s _ _ h1)) (repL_dp s l _ h h2)
  | .tup l, v, h, r => by cases r with | tup h1 h2 => exact .tup (.of (s _ _ h1)) (repL_dp s l _ h h2)
  | .bl _, _, h, _ => by cases h
  | .dct _, _, h, _ => by cases h
  | .ins _ _, _, h, _ => by cases h
  | .exc _ _, _, h, _ => by cases h
  | .adr _, _, h, _ => by cases h
  | .ty _, _, h, _ => by cases h
  | .frl _, _, h, _ => by cases h
theorem repL_dp (s : Same F H) : ∀ (l : List D) (v : List V), D.isPyL l = true → RepL F v l → DpAll K H v (D.pyL l)
  | [], v, _, r => by cases r; exact .nil
  | d :: l, v, h, r => by
    have h := Bool.and_eq_true_iff.mp h
    cases r with | cons h1 h2 => exact .cons (rep_dp s d _ h.1 h1) (repL_dp s l _ h.2 h2)
end
mutual
theorem D.lay : ∀ {d : D}, d.isPy = true → d.py.canLay0 = true
  | .non, _ => rfl
  | .int _, _ => rfl
  | .str _, h => h
  | .lst l, h => D.layL (l := l) h
  | .tup l, h => D.layL (l := l) h
theorem D.layL : ∀ {l : List D}, D.isPyL l = true → PyData.canLayAll0 (D.pyL l) = true
  | [], _ => rfl
  | d :: l, h => by
    have h := Bool.and_eq_true_iff.mp h
    show (PyData.canLay0 d.py && PyData.canLayAll0 (D.pyL l)) = true
    rw [D.lay h.1, D.layL h.2]
    rfl
end
mutual
theorem D.eqv_iff : ∀ {d e : D}, d.isPy = true → e.isPy = true → (PyData.eqv d.py e.py = true ↔ d = e)
  | .non, .non, _, _ => by simp [D.py, PyData.eqv]
  | .non, .int _, _, _ => by simp [D.py, PyData.eqv]
  | .non, .str _, _, _ => by simp [D.py, PyData.eqv]
  | .non, .lst _, _, _ => by simp [D.py, PyData.eqv]
  | .non, .tup _, _, _ => by simp [D.py, PyData.eqv]
  | .int _, .non, _, _ => by simp [D.py, PyData.eqv]
  | .int _, .int _, _, _ => by simp [D.py, PyData.eqv]
  | .int _, .str _, _, _ => by simp [D.py, PyData.eqv]
  | .int _, .lst _, _, _ => by simp [D.py, PyData.eqv]
  | .int _, .tup _, _, _ => by simp [D.py, PyData.eqv]
  | .str _, .non, _, _ => by simp [D.py, PyData.eqv]
  | .str _, .int _, _, _ => by simp [D.py, PyData.eqv]
  | .str _, .str _, _, _ => by simp [D.py, PyData.eqv]
  | .str _, .lst _, _, _ => by simp [D.py, PyData.eqv]
  | .str _, .tup _, _, _ => by simp [D.py, PyData.eqv]
  | .lst _, .non, _, _ => by simp [D.py, PyData.eqv]
  | .lst _, .int _, _, _ => by simp [D.py, PyData.eqv]
  | .lst _, .str _, _, _ => by simp [D.py, PyData.eqv]
  | .lst l, .lst m, h, k => by
    have := D.eqvL_iff (l := l) (m := m) h k
    simpa [D.py, PyData.eqv] using this
  | .lst _, .tup _, _, _ => by simp [D.py, PyData.eqv]
  | .tup _, .non, _, _ => by simp [D.py, PyData.eqv]
  | .tup _, .int _, _, _ => by simp [D.py, PyData.eqv]
  | .tup _, .str _, _, _ => by simp [D.py, PyData.eqv]
  | .tup _, .lst _, _, _ => by simp [D.py, PyData.eqv]
  | .tup l, .tup m, h, k => by
    have := D.eqvL_iff (l := l) (m := m) h k
    simpa [D.py, PyData.eqv] using this
theorem D.eqvL_iff : ∀ {l m : List D}, D.isPyL l = true → D.isPyL m = true → (PyData.eqvAll (D.pyL l) (D.pyL m) = true ↔ l = m)
  | [], [], _, _ => by simp [D.pyL, PyData.eqvAll]
  | [], _ :: _, _, _ => by simp [D.pyL, PyData.eqvAll]
  | _ :: _, [], _, _ => by simp [D.pyL, PyData.eqvAll]
  | d :: l, e :: m, h, k => by
    have h := Bool.and_eq_true_iff.mp h
    have k := Bool.and_eq_true_iff.mp k
    have a := D.eqv_iff h.1 k.1
    have b := D.eqvL_iff h.2 k.2
    simp only [D.pyL, PyData.eqvAll, Bool.and_eq_true, a, b, List.cons.injEq]
end
/-- a value seen as data for ==: itself, or an own list -/
def PyOf (O : Ow) (d e : D) : Prop := e.isPy = true ∧ e.py.depth ≤ 64 ∧ (d = e ∨ ∃ l, LstOf O d l ∧ e = .lst l)
theorem PyOf.dp {v : V} {d e : D} (s : ST B O F H) (r : Rep F v d) (h : PyOf O d e) : Dp K H v e.py ∧ SeqAt.shaped e.py = true := by
  obtain ⟨h1, h2, h3⟩ := h
  refine ⟨?_, by unfold SeqAt.shaped; rw [D.lay h1, decide_eq_true h2]; rfl⟩
  rcases h3 with rfl | ⟨l, hl, rfl⟩
  · exact rep_dp s.fh _ _ h1 r
  · obtain ⟨a, vs, rfl, g1, g2⟩ := lstOf s r hl
    exact .lst (.inl g1) (repL_dp s.fh _ _ h1 g2)
theorem o2_eq {x y d e : D} {b : Bool} (hx : PyOf O x d) (hy : PyOf O y e) (hb : b = true ↔ d = e) : Op2 (rEqD K) B O x y (.bl b) := fun F H v u s r1 r2 Q q => by
  obtain ⟨a1, a2⟩ := hx.dp (K := K) s r1
  obtain ⟨b1, b2⟩ := hy.dp (K := K) s r2
  refine ⟨_, _, a1, b1, a2, b2, ?_⟩
  have : PyData.eqv d.py e.py = b := by rw [Bool.eq_iff_iff, D.eqv_iff hx.1 hy.1, hb]
  rw [this]
  exact q _ F H (.refl s.fh) .bl
theorem o2_ne {x y d e : D} {b : Bool} (hx : PyOf O x d) (hy : PyOf O y e) (hb : b = true ↔ d ≠ e) : Op2 (rNeD K) B O x y (.bl b) := fun F H v u s r1 r2 Q q => by
  obtain ⟨a1, a2⟩ := hx.dp (K := K) s r1
  obtain ⟨b1, b2⟩ := hy.dp (K := K) s r2
  refine ⟨_, _, a1, b1, a2, b2, ?_⟩
  have : (!PyData.eqv d.py e.py) = b := by
    rw [Bool.eq_iff_iff, hb, Bool.not_eq_true', ← Bool.not_eq_true, D.eqv_iff hx.1 hy.1]
  rw [this]
  exact q _ F H (.refl s.fh) .bl
theorem pyOf_int {i : Int} : PyOf O (.int i) (.int i) := ⟨rfl, Nat.zero_le _, .inl rfl⟩
theorem pyOf_non : PyOf O .non .non := ⟨rfl, Nat.zero_le _, .inl rfl⟩
theorem pyOf_str {x : Str} (h : PyData.strOk x = true) : PyOf O (.str x) (.str x) := ⟨h, Nat.zero_le _, .inl rfl⟩
theorem o2_eqI {i j : Int} : Op2 (rEqD K) B O (.int i) (.int j) (.bl (decide (i = j))) := o2_eq pyOf_int pyOf_int (by simp)
theorem o2_neI {i j : Int} : Op2 (rNeD K) B O (.int i) (.int j) (.bl (decide (i ≠ j))) := o2_ne pyOf_int pyOf_int (by simp)
theorem o2_eqS {i j : Str} (h : PyData.strOk i = true) (k : PyData.strOk j = true) : Op2 (rEqD K) B O (.str i) (.str j) (.bl (decide (i = j))) := o2_eq (pyOf_str h) (pyOf_str k) (by simp)
theorem o2_neS {i j : Str} (h : PyData.strOk i = true) (k : PyData.strOk j = true) : Op2 (rNeD K) B O (.str i) (.str j) (.bl (decide (i ≠ j))) := o2_ne (pyOf_str h) (pyOf_str k) (by simp)
abbrev rIsN : R2 := fun x y H Q => y = .non ∧ Q (.bl (decide (x = .non))) H
abbrev rNotN : R2 := fun x y H Q => y = .non ∧ Q (.bl (!decide (x = .non))) H
def D.isN : D → Bool
  | .non => true
  | _ => false
theorem Rep.isN {v : V} {d : D} (r : Rep F v d) : decide (v = .non) = d.isN := by
  cases r <;> simp [D.isN]
theorem o2_isN {d : D} : Op2 rIsN B O d .non (.bl d.isN) := fun F H v u s r1 r2 Q q => by
  cases r2
  refine ⟨rfl, ?_⟩
  rw [r1.isN]
  exact q _ F H (.refl s.fh) .bl
theorem o2_notN {d : D} : Op2 rNotN B O d .non (.bl (!d.isN)) := fun F H v u s r1 r2 Q q => by
  cases r2
  refine ⟨rfl, ?_⟩
  rw [r1.isN]
  exact q _ F H (.refl s.fh) .bl

/-! ### subscripts -/
theorem at_map {α β : Type} {xs : List α} {ys : List β} {i : Int} (h : xs.length = ys.length) : ∀ {y : β}, atI ys i = some y → ∃ j : Nat, ys[j]? = some y ∧ ∀ x, xs[j]? = some x → atI xs i = some x := fun {y} e => by
  unfold atI at e ⊢
  rw [h]
  cases q : ixN ys.length i with
  | none => rw [q] at e; cases e
  | some j =>
    rw [q] at e
    exact ⟨j, e, fun x hx => hx⟩
theorem o2_ixS {d z : D} {l : List D} {i : Int} (h : SeqOf O d l) (e : atI l i = some z) : Op2 (rIxU K) B O d (.int i) z := fun F H v u s r1 r2 Q q => by
  cases r2
  obtain ⟨a, vs, rfl, g1, g2⟩ := seqOf (K := K) s r1 h
  obtain ⟨j, e1, e2⟩ := at_map g2.len e
  obtain ⟨w, w1, w2⟩ := g2.at e1
  have fin := q w F H (.refl s.fh) w2
  rcases g1 with g1 | g1
  · exact .inl (.inl ⟨a, vs, i, w, rfl, rfl, g1, e2 w w1, fin⟩)
  · exact .inl (.inr (.inl ⟨a, vs, i, w, rfl, rfl, g1, e2 w w1, fin⟩))
theorem o2_ixT {z : Str} {i : Int} {c : Nat} (hl : z.length ≤ big) (e : atI z.cps.toList i = some c) : Op2 (rIxU K) B O (.str z) (.int i) (.str ⟨#[c]⟩) := fun F H v u s r1 r2 Q q => by
  cases r1; cases r2
  exact .inl (.inr (.inr ⟨z, i, c, rfl, rfl, hl, e, q _ F H (.refl s.fh) .str⟩))
/-- a key by data -/
def kD : Key → D
  | .inl i => .int i
  | .inr x => .str x
theorem Rep.key {v : V} {k : Key} (r : Rep F v (kD k)) : v = kV k := by
  cases k <;> (cases r; rfl)
theorem rep_key {k : Key} : Rep F (kV k) (kD k) := by
  cases k
  · exact .int
  · exact .str
theorem dget {a : Addr} {kvs : List (Key × V)} {l : List (Key × D)} {k : Key} (h : Rd H a (.dK kvs)) (r : RepK F kvs l) : (DGet H a (kV k) none ∧ valD l k = none) ∨ ∃ v d, DGet H a (kV k) (some v) ∧ valD l k = some d ∧ Rep F v d := by
  rcases r.val (k := k) with ⟨q1, q2⟩ | ⟨v, d, q1, q2, q3⟩
  · exact .inl ⟨.inl ⟨kvs, k, h, rfl, q1.symm⟩, q2⟩
  · exact .inr ⟨v, d, .inl ⟨kvs, k, h, rfl, q1.symm⟩, q2, q3⟩
theorem o2_ixD {d z : D} {l : List (Key × D)} {k : Key} (h : DctOf O d l) (e : valD l k = some z) : Op2 (rIxU K) B O d (kD k) z := fun F H v u s r1 r2 Q q => by
  obtain rfl := r2.key
  obtain ⟨a, kvs, rfl, g1, g2⟩ := dctOf s r1 h
  rcases dget (k := k) g1 g2 with ⟨_, q2⟩ | ⟨w, d', q1, q2, q3⟩
  · rw [q2] at e; cases e
  · rw [q2] at e
    cases e
    exact .inr ⟨a, w, rfl, q1, q w F H (.refl s.fh) q3⟩
theorem o2_ixDS {d z : D} {l : List (Key × D)} {x : Str} (h : DctOf O d l) (e : valD l (.inr x) = some z) : Op2 (rIxU K) B O d (.str x) z := o2_ixD (k := .inr x) h e
theorem o2_inD {d : D} {l : List (Key × D)} {k : Key} (h : DctOf O d l) : Op2 (rInU K) B O (kD k) d (.bl (valD l k).isSome) := fun F H v u s r1 r2 Q q => by
  obtain rfl := r1.key
  obtain ⟨a, kvs, rfl, g1, g2⟩ := dctOf s r2 h
  rcases dget (k := k) g1 g2 with ⟨q1, q2⟩ | ⟨w, d', q1, q2, q3⟩
  · exact .inr (.inl ⟨a, _, rfl, q1, by rw [q2] at q; exact q _ F H (.refl s.fh) .bl⟩)
  · exact .inr (.inl ⟨a, _, rfl, q1, by rw [q2] at q; exact q _ F H (.refl s.fh) .bl⟩)
theorem o2_inDS {d : D} {l : List (Key × D)} {x : Str} (h : DctOf O d l) : Op2 (rInU K) B O (.str x) d (.bl (valD l (.inr x)).isSome) := o2_inD (k := .inr x) h
theorem o2_notInD {d : D} {l : List (Key × D)} {k : Key} (h : DctOf O d l) : Op2 (rNotInU K) B O (kD k) d (.bl (!(valD l k).isSome)) := fun F H v u s r1 r2 Q q => by
  obtain rfl := r1.key
  obtain ⟨a, kvs, rfl, g1, g2⟩ := dctOf s r2 h
  rcases dget (k := k) g1 g2 with ⟨q1, q2⟩ | ⟨w, d', q1, q2, q3⟩
  · exact .inr (.inl ⟨a, _, rfl, q1, by rw [q2] at q; exact q _ F H (.refl s.fh) .bl⟩)
  · exact .inr (.inl ⟨a, _, rfl, q1, by rw [q2] at q; exact q _ F H (.refl s.fh) .bl⟩)
theorem o2_notInDS {d : D} {l : List (Key × D)} {x : Str} (h : DctOf O d l) : Op2 (rNotInU K) B O (.str x) d (.bl (!(valD l (.inr x)).isSome)) := o2_notInD (k := .inr x) h
theorem o2_inStr {c : Nat} {z : Str} : Op2 (rInU K) B O (.str ⟨#[c]⟩) (.str z) (.bl (decide (c ∈ z.cps.toList))) := fun F H v u s r1 r2 Q q => by
  cases r1; cases r2
  exact .inr (.inr ⟨c, z, rfl, rfl, q _ F H (.refl s.fh) .bl⟩)
theorem o2_notInStr {c : Nat} {z : Str} : Op2 (rNotInU K) B O (.str ⟨#[c]⟩) (.str z) (.bl (!decide (c ∈ z.cps.toList))) := fun F H v u s r1 r2 Q q => by
  cases r1; cases r2
  exact .inr (.inr ⟨c, z, rfl, rfl, q _ F H (.refl s.fh) .bl⟩)
/-- a text in a list or a tuple of texts -/
theorem inV_strs {x : Str} : ∀ {ls : List Str}, inV (.str x) (ls.map V.str) = decide (x ∈ ls)
  | [] => rfl
  | y :: ls => by
    have ih := inV_strs (x := x) (ls := ls)
    unfold inV at ih ⊢
    rw [List.map_cons, List.any_cons, ih]
    show ((y == x) || decide (x ∈ ls)) = decide (x ∈ y :: ls)
    by_cases e : y = x
    · subst e; simp
    · have e1 : (y == x) = false := by simpa using e
      have e2 : decide (x ∈ y :: ls) = decide (x ∈ ls) := by
        rw [Bool.eq_iff_iff]
        simp only [decide_eq_true_eq, List.mem_cons]
        exact ⟨fun z => z.elim (fun q => absurd q.symm e) id, .inr⟩
      rw [e1, e2, Bool.false_or]
theorem flat_strs {ls : List Str} : (ls.map V.str).all flatV = true := by simp [flatV]
theorem o2_inL {d : D} {ls : List Str} {x : Str} (h : SeqOf O d (ls.map D.str)) : Op2 (rInU K) B O (.str x) d (.bl (decide (x ∈ ls))) := fun F H v u s r1 r2 Q q => by
  cases r1
  obtain ⟨a, vs, rfl, g1, g2⟩ := seqOf (K := K) s r2 h
  obtain rfl := g2.str_of
  refine .inl ⟨a, _, rfl, g1, rfl, flat_strs, ?_⟩
  show Q (.bl (inV (.str x) (ls.map V.str))) H
  rw [inV_strs]
  exact q _ F H (.refl s.fh) .bl
theorem o2_notInL {d : D} {ls : List Str} {x : Str} (h : SeqOf O d (ls.map D.str)) : Op2 (rNotInU K) B O (.str x) d (.bl (!decide (x ∈ ls))) := fun F H v u s r1 r2 Q q => by
  cases r1
  obtain ⟨a, vs, rfl, g1, g2⟩ := seqOf (K := K) s r2 h
  obtain rfl := g2.str_of
  refine .inl ⟨a, _, rfl, g1, rfl, flat_strs, ?_⟩
  show Q (.bl (!inV (.str x) (ls.map V.str))) H
  rw [inV_strs]
  exact q _ F H (.refl s.fh) .bl

/-! ### slices -/
def EoP (B : Bs) (to : TO) (Γ : List (Option D)) (O : Ow) (o : Option Int) : Prop :=
  ∀ F σ H, ST B O F H → EnvD F σ Γ → ∀ Q : Option Int → Hp → Prop, (∀ F' H', ST B O F' H' → Same F F' → Q o H') → to σ H Q
theorem eo_none : EoP B tNoPart Γ O none := fun F σ H s e Q q => q F H s (Same.refl F)
theorem eo_some {te : TE} {i : Int} (h : EvP B te Γ O (.int i)) : EoP B (tPart te) Γ O (some i) := fun F σ H s e Q q => h F σ H s e _ fun v d O' F' H' s' f r p => by
  obtain ⟨rfl, rfl⟩ := p
  cases r
  exact ⟨i, rfl, q F' H' s' f⟩
def cutD (xs : List D) (lo hi : Option Int) : List D := (xs.drop (HT.sIx xs.length 0 lo)).take (HT.sIx xs.length xs.length hi - HT.sIx xs.length 0 lo)
theorem RepL.cut {vs : List V} {l : List D} (r : RepL F vs l) (lo hi : Option Int) : RepL F (cutV vs lo hi) (cutD l lo hi) := by
  unfold cutV cutD
  rw [r.len]
  exact (r.drop _).take _
theorem ev_slL {te : TE} {tl th : TO} {d : D} {l : List D} {lo hi : Option Int} (h : EvP B te Γ O d) (hl : EoP B tl Γ O lo) (hh : EoP B th Γ O hi) (hd : LstOf O d l) : EvP B (tSl (rSlU K) te tl th) Γ O (.lst (cutD l lo hi)) := fun F σ H s e Q q =>
  h F σ H s e _ fun v d O' F' H' s' f r p => by
    obtain ⟨rfl, rfl⟩ := p
    refine hl F' σ H' s' (e.same f) _ fun F2 H2 s2 f2 => hh F2 σ H2 s2 ((e.same f).same f2) _ fun F3 H3 s3 f3 => ?_
    obtain ⟨a, vs, rfl, g1, g2⟩ := lstOf s3 ((r.same f2).same f3) hd
    refine .inl ⟨a, vs, rfl, .inl g1, fun p hp => ?_⟩
    have fu := fut_new (o := .lst (cutV vs lo hi)) s3.fh hp
    exact q _ _ _ _ _ (s3.step fu) (((f.trans f2).trans f3).trans fu.ff) (.lst upd_same ((g2.cut lo hi).same fu.ff)) ⟨rfl, rfl⟩
theorem ev_slT {te : TE} {tl th : TO} {l : List D} {lo hi : Option Int} (h : EvP B te Γ O (.tup l)) (hl : EoP B tl Γ O lo) (hh : EoP B th Γ O hi) : EvP B (tSl (rSlU K) te tl th) Γ O (.tup (cutD l lo hi)) := fun F σ H s e Q q =>
  h F σ H s e _ fun v d O' F' H' s' f r p => by
    obtain ⟨rfl, rfl⟩ := p
    refine hl F' σ H' s' (e.same f) _ fun F2 H2 s2 f2 => hh F2 σ H2 s2 ((e.same f).same f2) _ fun F3 H3 s3 f3 => ?_
    have r3 := (r.same f2).same f3
    cases r3 with
    | tup g1 g2 =>
      rename_i a vs
      refine .inr (.inr ⟨a, vs, rfl, .of (s3.fh _ _ g1), fun ⟨w1, w2⟩ => ?_, fun _ p hp => ?_⟩)
      · have ec : cutD l lo hi = l := by
          unfold cutD
          rw [g2.len] at w1 w2
          rw [w1, w2]
          simp
        refine q _ _ _ _ _ s3 ((f.trans f2).trans f3) ?_ ⟨rfl, rfl⟩
        rw [ec]
        exact .tup g1 g2
      · have fu := fut_new (o := .tup (cutV vs lo hi)) s3.fh hp
        exact q _ _ _ _ _ (s3.step fu) (((f.trans f2).trans f3).trans fu.ff) (.tup upd_same ((g2.cut lo hi).same fu.ff)) ⟨rfl, rfl⟩
theorem ev_slS {te : TE} {tl th : TO} {z : Str} {lo hi : Option Int} (h : EvP B te Γ O (.str z)) (hl : EoP B tl Γ O lo) (hh : EoP B th Γ O hi) (hz : z.length ≤ big) : EvP B (tSl (rSlU K) te tl th) Γ O (.str (cutS z lo hi)) := fun F σ H s e Q q =>
  h F σ H s e _ fun v d O' F' H' s' f r p => by
    obtain ⟨rfl, rfl⟩ := p
    refine hl F' σ H' s' (e.same f) _ fun F2 H2 s2 f2 => hh F2 σ H2 s2 ((e.same f).same f2) _ fun F3 H3 s3 f3 => ?_
    cases r
    exact .inr (.inl ⟨z, rfl, hz, q _ _ _ _ _ s3 ((f.trans f2).trans f3) .str ⟨rfl, rfl⟩⟩)

/-! ### built-ins by values -/
def OpN (r : List V → Hp → VK → Prop) (B : Bs) (O : Ow) (ds : List D) (z : D) : Prop := ∀ F H vs, ST B O F H → RepL F vs ds → ∀ Q : VK, (∀ v' F' H', Fut F H [] F' H' → Rep F' v' z → Q v' H') → r vs H Q
theorem ev_cb {r : List V → Hp → VK → Prop} {ta : TA} {ds : List D} {z : D} (h : EaP B ta Γ O ds) (hr : OpN r B O ds z) : EvP B (tCB r ta) Γ O z := fun F σ H s e Q q =>
  h F σ H s e _ fun vs d O1 F1 H1 s1 f1 r1 p1 => by
    obtain ⟨rfl, rfl⟩ := p1
    exact hr F1 H1 vs s1 r1 Q fun v' F' H' f' r' => q v' z _ F' H' (s1.step f') (f1.trans f'.ff) r' ⟨rfl, rfl⟩
theorem evk_cb {r : List V → Hp → VK → Prop} {ta : TA} {Φ : List D → Ow → Prop} {Ψ : D → Ow → Prop} (h : EaK B ta Γ O Φ) (hr : ∀ ds O', Φ ds O' → ∃ z, OpN r B O' ds z ∧ Ψ z O') : EvK B (tCB r ta) Γ O Ψ := fun F σ H s e Q q =>
  h F σ H s e _ fun vs d O1 F1 H1 s1 f1 r1 p1 => by
    obtain ⟨z, hz, w⟩ := hr d O1 p1
    exact hz F1 H1 vs s1 r1 Q fun v' F' H' f' r' => q v' z _ F' H' (s1.step f') (f1.trans f'.ff) r' w
theorem one {vs : List V} {d : D} (r : RepL F vs [d]) : ∃ v, vs = [v] ∧ Rep F v d := by
  cases r with
  | cons r1 r => cases r; exact ⟨_, rfl, r1⟩
theorem two {vs : List V} {d e : D} (r : RepL F vs [d, e]) : ∃ v u, vs = [v, u] ∧ Rep F v d ∧ Rep F u e := by
  cases r with
  | cons r1 r => cases r with
    | cons r2 r => cases r; exact ⟨_, _, rfl, r1, r2⟩
theorem on_lenS {d : D} {l : List D} (h : SeqOf O d l) : OpN (rLenU K) B O [d] (.int l.length) := fun F H vs s r Q q => by
  obtain ⟨v, rfl, r1⟩ := one r
  obtain ⟨a, ws, rfl, g1, g2⟩ := seqOf (K := K) s r1 h
  have fin := q (.int l.length) F H (.refl s.fh) .int
  rw [← g2.len] at fin
  exact .inl ⟨_, _, rfl, g1.elim (fun g => .inl ⟨ws, g, rfl⟩) fun g => .inr ⟨ws, g, rfl⟩, fin⟩
theorem on_lenT {z : Str} (h : z.length ≤ big) : OpN (rLenU K) B O [.str z] (.int z.length) := fun F H vs s r Q q => by
  obtain ⟨v, rfl, r1⟩ := one r
  cases r1
  exact .inl ⟨_, _, rfl, ⟨h, rfl⟩, q _ F H (.refl s.fh) .int⟩
theorem on_abs {i : Int} : OpN rAbs B O [.int i] (.int (if i < 0 then -i else i)) := fun F H vs s r Q q => by
  obtain ⟨v, rfl, r1⟩ := one r
  cases r1
  exact ⟨i, rfl, q _ F H (.refl s.fh) .int⟩
theorem on_max2 {i j : Int} : OpN rMax2 B O [.int i, .int j] (.int (if j > i then j else i)) := fun F H vs s r Q q => by
  obtain ⟨v, u, rfl, r1, r2⟩ := two r
  cases r1; cases r2
  exact ⟨i, j, rfl, q _ F H (.refl s.fh) .int⟩
theorem on_min2 {i j : Int} : OpN rMin2 B O [.int i, .int j] (.int (if j < i then j else i)) := fun F H vs s r Q q => by
  obtain ⟨v, u, rfl, r1, r2⟩ := two r
  cases r1; cases r2
  exact ⟨i, j, rfl, q _ F H (.refl s.fh) .int⟩
theorem on_int {i : Int} : OpN rInt1 B O [.int i] (.int i) := fun F H vs s r Q q => by
  obtain ⟨v, rfl, r1⟩ := one r
  cases r1
  exact .inl ⟨i, rfl, q _ F H (.refl s.fh) .int⟩
theorem on_strI {i : Int} (h : i.natAbs.log2 < 1920) : OpN rStrI B O [.int i] (.str (toString i)) := fun F H vs s r Q q => by
  obtain ⟨v, rfl, r1⟩ := one r
  cases r1
  exact ⟨i, rfl, h, q _ F H (.refl s.fh) .str⟩
theorem on_listS {d : D} {l : List D} (h : SeqOf O d l) : OpN (rListU K) B O [d] (.lst l) := fun F H vs s r Q q => by
  obtain ⟨v, rfl, r1⟩ := one r
  obtain ⟨a, ws, rfl, g1, g2⟩ := seqOf (K := K) s r1 h
  refine .inl ⟨a, ws, rfl, g1, fun p hp => ?_⟩
  have fu := fut_new (o := .lst ws) s.fh hp
  exact q _ _ _ fu (.lst upd_same (g2.same fu.ff))
theorem on_listD {d : D} {l : List (Key × D)} (h : DctOf O d l) : OpN (rListU K) B O [d] (.lst (l.map fun p => kD p.1)) := fun F H vs s r Q q => by
  obtain ⟨v, rfl, r1⟩ := one r
  obtain ⟨a, ws, rfl, g1, g2⟩ := dctOf s r1 h
  refine .inr ⟨a, ws, rfl, g1, fun p hp => ?_⟩
  have fu := fut_new (o := .lst (ws.map fun kv => kV kv.1)) s.fh hp
  refine q _ _ _ fu (.lst upd_same ?_)
  have key : ∀ {ws : List (Key × V)} {l : List (Key × D)}, RepK F ws l → RepL (upd F p (.lst (ws.map fun kv => kV kv.1))) (ws.map fun kv => kV kv.1) (l.map fun p => kD p.1) := by
    intro ws l r
    have go : ∀ {G : Hp} {ws : List (Key × V)} {l : List (Key × D)}, RepK F ws l → RepL G (ws.map fun kv => kV kv.1) (l.map fun p => kD p.1) := by
      intro G ws
      induction ws with
      | nil => intro l r; cases r; exact .nil
      | cons a ws ih => intro l r; cases r with
        | cons h r => exact .cons rep_key (ih r)
    exact go r
  exact key g2
theorem on_tupleL {d : D} {l : List D} (h : LstOf O d l) : OpN (rTupleU K) B O [d] (.tup l) := fun F H vs s r Q q => by
  obtain ⟨v, rfl, r1⟩ := one r
  obtain ⟨a, ws, rfl, g1, g2⟩ := lstOf s r1 h
  refine ⟨a, ws, rfl, .inl ⟨.inl g1, fun p hp => ?_⟩⟩
  have fu := fut_new (o := .tup ws) s.fh hp
  exact q _ _ _ fu (.tup upd_same (g2.same fu.ff))
theorem on_tupleT {l : List D} : OpN (rTupleU K) B O [.tup l] (.tup l) := fun F H vs s r Q q => by
  obtain ⟨v, rfl, r1⟩ := one r
  cases r1 with
  | tup h1 h2 => exact ⟨_, _, rfl, .inr ⟨.of (s.fh _ _ h1), q _ F H (.refl s.fh) (.tup h1 h2)⟩⟩
theorem on_all {bs : List Bool} : OpN (rAll K) B O [.lst (bs.map D.bl)] (.bl (bs.all id)) := fun F H vs s r Q q => by
  obtain ⟨v, rfl, r1⟩ := one r
  cases r1 with
  | lst h1 h2 =>
    obtain rfl := h2.bl_of
    exact ⟨_, bs, rfl, .of (s.fh _ _ h1), q _ F H (.refl s.fh) .bl⟩
theorem on_any {bs : List Bool} : OpN (rAny K) B O [.lst (bs.map D.bl)] (.bl (bs.any id)) := fun F H vs s r Q q => by
  obtain ⟨v, rfl, r1⟩ := one r
  cases r1 with
  | lst h1 h2 =>
    obtain rfl := h2.bl_of
    exact ⟨_, bs, rfl, .of (s.fh _ _ h1), q _ F H (.refl s.fh) .bl⟩
theorem on_sum {ns : List Int} : OpN (rSum K) B O [.lst (ns.map D.int)] (.int ns.sum) := fun F H vs s r Q q => by
  obtain ⟨v, rfl, r1⟩ := one r
  cases r1 with
  | lst h1 h2 =>
    obtain rfl := h2.int_of
    exact ⟨_, ns, rfl, .of (s.fh _ _ h1), q _ F H (.refl s.fh) .int⟩
end
end Kt
/-! K5: words for the printed derivations -/
namespace Kt
open PySem PySem.Spec PyProof.Rows L2 StX
theorem sz {n : Nat} (h : Nat.ble n 1000000 = true) : n ≤ sizeLine := Nat.le_trans (Nat.le_of_ble_eq_true h) (by decide)
abbrev W0 : WX := fun _ _ _ _ => False
abbrev rLtI : R2 := rI0 fun i j => .bl (decide (i < j))
abbrev rLeI : R2 := rI0 fun i j => .bl (decide (i ≤ j))
abbrev rGtI : R2 := rI0 fun i j => .bl (decide (j < i))
abbrev rGeI : R2 := rI0 fun i j => .bl (decide (j ≤ i))
abbrev rNegU : V → Hp → VK → Prop := rU fun i => .int (-i)
def rJoin (K : PySem.W.Frag) : V → List V → Hp → VK → Prop := fun x xs H Q => ∃ a p, ∃ ys : List Str, x = .str a ∧ xs = [.ref p] ∧ (SqL K H p (ys.map V.str) ∨ SqT K H p (ys.map V.str)) ∧
      (ys.map (·.length)).sum + ys.length * a.length ≤ 16777216 ∧ Q (.str (Txt.join a ys)) H
theorem pe_const {X : Cx} {x : Str} {v : V} {pos : Pos} (h : ∃ u, X.mg x = some u ∧ RelV v u) (hg : Gl X x := by rfl) (hd : (x == ("__debug__" : Str)) = false := by decide) : PE X (.Name x pos) (tC v) := by
  obtain ⟨u, h1, h2⟩ := h
  exact pe_glob hg h1 h2 hd
def tJoined (ts : List TE) : TE := fun σ H Q => tJs ts Str.empty σ H fun out H1 => Q (.str out) H1
section
variable {B : Bs} {O : Ow} {F F' H H' : Hp} {σ : L2.St} {Γ : List (Option D)} {p : Addr} {K : PySem.W.Frag} {D₀ : Ends}
theorem ev_join {to te : TE} {a : Str} {d : D} {ys : List Str} (ho : EvP B to Γ O (.str a)) (he : EvP B te Γ O d) (hd : SeqOf O d (ys.map D.str)) (hl : (ys.map (·.length)).sum + ys.length * a.length ≤ 16777216) : EvP B (tM1 (rJoin K) to te) Γ O (.str (Txt.join a ys)) := fun F σ H s e Q q =>
  ho F σ H s e _ fun v d1 O1 F1 H1 s1 f1 r1 p1 => by
    obtain ⟨rfl, rfl⟩ := p1
    cases r1
    refine ⟨⟨a, rfl⟩, he F1 σ H1 s1 (e.same f1) _ fun u d2 O2 F2 H2 s2 f2 r2 p2 => ?_⟩
    obtain ⟨rfl, rfl⟩ := p2
    obtain ⟨b, vs, rfl, g1, g2⟩ := seqOf (K := K) s2 r2 hd
    obtain rfl := g2.str_of
    exact ⟨a, b, ys, rfl, rfl, g1, hl, q _ _ _ F2 H2 s2 (f1.trans f2) .str ⟨rfl, rfl⟩⟩
theorem evk_join {to te : TE} {a : Str} {Φ : D → Ow → Prop} {Ψ : D → Ow → Prop} (ho : EvP B to Γ O (.str a)) (he : EvK B te Γ O Φ) (hd : ∀ d O', Φ d O' → ∃ ys : List Str, SeqOf O' d (ys.map D.str) ∧ (ys.map (·.length)).sum + ys.length * a.length ≤ 16777216 ∧ Ψ (.str (Txt.join a ys)) O') : EvK B (tM1 (rJoin K) to te) Γ O Ψ := fun F σ H s e Q q =>
  ho F σ H s e _ fun v d1 O1 F1 H1 s1 f1 r1 p1 => by
    obtain ⟨rfl, rfl⟩ := p1
    cases r1
    refine ⟨⟨a, rfl⟩, he F1 σ H1 s1 (e.same f1) _ fun u d2 O2 F2 H2 s2 f2 r2 p2 => ?_⟩
    obtain ⟨ys, h1, h2, h3⟩ := hd d2 O2 p2
    obtain ⟨b, vs, rfl, g1, g2⟩ := seqOf (K := K) s2 r2 h1
    obtain rfl := g2.str_of
    exact ⟨a, b, ys, rfl, rfl, g1, h2, q _ _ _ F2 H2 s2 (f1.trans f2) .str h3⟩
/-- an own list grows: xs.append(e) -/
theorem evk_append {to te : TE} {Φ : D → Ow → Prop} {Ψ : D → Ow → Prop} (ho : EvP B to Γ O (.adr p)) (h0 : ∃ (j : Nat) (l : List D), O[j]? = some (p, OO.lst l)) (he : EvK B te Γ O Φ)
    (k : ∀ d O', Φ d O' → ∃ (j : Nat) (l : List D), O'[j]? = some (p, OO.lst l) ∧ l.length < sizeLine ∧ Ψ .non (O'.set j (p, OO.lst (l ++ [d])))) : EvK B (tBM K "list" rAppend to (tCons te tNil)) Γ O Ψ := fun F σ H s e Q q =>
  ho F σ H s e _ fun v d1 O1 F1 H1 s1 f1 r1 p1 => by
    obtain ⟨rfl, rfl⟩ := p1
    cases r1
    obtain ⟨j0, l0, hj0⟩ := h0
    obtain ⟨o0, c1, c2, vs0, rfl, c3⟩ := s1.cell hj0
    refine ⟨.inl ⟨rfl, vs0, .of c1⟩, he F1 σ H1 s1 (e.same f1) _ fun u d2 O2 F2 H2 s2 f2 r2 p2 => ?_⟩
    obtain ⟨j, l, hj, hl, hw⟩ := k d2 O2 p2
    obtain ⟨o, e1, e2, vs, rfl, e3⟩ := s2.cell hj
    exact ⟨p, vs, u, rfl, rfl, e1, by rw [e3.len]; exact hl, q _ _ _ F2 _ (s2.write hj (u' := OO.lst (l ++ [d2])) ⟨_, rfl, e3.snoc r2⟩) (f1.trans f2) .non hw⟩

/-! ### comprehensions whose value is told: l the items walked, b which are kept, f what is made -/
theorem range_at {y : Nat → D} {n i : Nat} {l : List D} (hl : (List.range n).map y = l) (hi : i < n) : l[i]? = some (y i) := by
  rw [← hl, List.getElem?_map, List.getElem?_range hi]; rfl
theorem take_snoc {α : Type} {l : List α} {i : Nat} {x : α} (h : l[i]? = some x) : l.take (i + 1) = l.take i ++ [x] := by
  rw [List.take_add_one, h]; rfl
theorem ev_lc {wi : TI} {g : TG} {tt : TT} {te : TE} {vs : List Nat} {n : Nat} {y : Nat → D} {l : List D} {b : D → Bool} {f : D → D} (hi : EiK B wi Γ O n y) (hl : (List.range n).map y = l) (hgi : GIn g vs) (hz : n ≤ sizeLine)
    (hs : ∀ B' x, x ∈ l → ∃ Γ2, GtP K g x (wipeD Γ vs) Γ2 ∧ EtP B' tt Γ2 O (b x) ∧ (b x = true → EvP B' te Γ2 O (f x))) : EvP B (tLc wi g tt te vs) Γ O (.lst ((l.filter b).map f)) := by
  have hn : l.length = n := by rw [← hl]; simp
  refine evk_lc (K := K) hi (fun i acc O1 => O1 = O ∧ acc = ((l.take i).filter b).map f) ⟨rfl, by simp⟩ hgi (fun B' i acc O1 up lt ⟨eo, ea⟩ => ?_) (fun i acc O1 ⟨_, ea⟩ hi => ?_) fun acc O1 ⟨eo, ea⟩ => ⟨?_, eo⟩
  · have hx := range_at hl lt
    obtain ⟨Γ2, h1, h2, h3⟩ := hs B' (y i) (List.mem_of_getElem? hx)
    subst eo
    refine ⟨Γ2, h1, h2.imp fun b' O' ⟨e1, e2⟩ => ?_⟩
    subst e1 e2
    refine ⟨fun hb => ⟨rfl, ?_⟩, fun hb => (h3 hb).imp fun d O3 ⟨q1, q2⟩ => ⟨q2, ?_⟩⟩
    · rw [take_snoc hx, List.filter_append, ea]; simp [hb]
    · rw [take_snoc hx, List.filter_append, ea, q1]; simp [hb]
  · rw [ea, List.length_map]
    exact Nat.le_trans (List.length_filter_le _ _) (by rw [List.length_take]; omega)
  · rw [ea, ← hn, List.take_length]
theorem range_getD (l : List D) : (List.range l.length).map (fun i => l.getD i .non) = l := by
  apply List.ext_getElem?
  intro i
  rw [List.getElem?_map]
  by_cases h : i < l.length
  · rw [List.getElem?_range h, List.getElem?_eq_getElem h]
    simp [h]
  · rw [List.getElem?_eq_none (by simpa using h), List.getElem?_eq_none (by simpa using h)]
    rfl
/-- over a list -/
theorem ev_lcL {te0 : TE} {g : TG} {tt : TT} {te : TE} {vs : List Nat} {d : D} {l : List D} {b : D → Bool} {f : D → D} (h : EvP B te0 Γ O d) (hd : d = .lst l ∨ d = .frl l) (hgi : GIn g vs) (hz : l.length ≤ sizeLine)
    (hs : ∀ B' x, x ∈ l → ∃ Γ2, GtP K g x (wipeD Γ vs) Γ2 ∧ EtP B' tt Γ2 O (b x) ∧ (b x = true → EvP B' te Γ2 O (f x))) : EvP B (tLc (iList K te0) g tt te vs) Γ O (.lst ((l.filter b).map f)) := ev_lc (K := K) (ei_list h hd) (range_getD l) hgi hz hs
theorem ev_lcT {te0 : TE} {g : TG} {tt : TT} {te : TE} {vs : List Nat} {l : List D} {b : D → Bool} {f : D → D} (h : EvP B te0 Γ O (.tup l)) (hgi : GIn g vs) (hz : l.length ≤ sizeLine)
    (hs : ∀ B' x, x ∈ l → ∃ Γ2, GtP K g x (wipeD Γ vs) Γ2 ∧ EtP B' tt Γ2 O (b x) ∧ (b x = true → EvP B' te Γ2 O (f x))) : EvP B (tLc (iTup K te0) g tt te vs) Γ O (.lst ((l.filter b).map f)) := ev_lc (K := K) (ei_tup h) (range_getD l) hgi hz hs
def signsD (z : Str) : List D := z.cps.toList.map fun c => D.str ⟨#[c]⟩
theorem ev_lcS {te0 : TE} {g : TG} {tt : TT} {te : TE} {vs : List Nat} {z : Str} {b : D → Bool} {f : D → D} (h : EvP B te0 Γ O (.str z)) (hgi : GIn g vs) (hz : z.cps.size ≤ sizeLine)
    (hs : ∀ B' x, x ∈ signsD z → ∃ Γ2, GtP K g x (wipeD Γ vs) Γ2 ∧ EtP B' tt Γ2 O (b x) ∧ (b x = true → EvP B' te Γ2 O (f x))) : EvP B (tLc (iStr te0) g tt te vs) Γ O (.lst (((signsD z).filter b).map f)) := by
  refine ev_lc (K := K) (ei_str h) ?_ hgi hz hs
  apply List.ext_getElem?
  intro i
  unfold signsD
  rw [List.getElem?_map, List.getElem?_map]
  by_cases hi : i < z.cps.size
  · rw [List.getElem?_range hi, Array.getElem?_toList, Array.getElem?_eq_getElem hi]
    simp [hi]
  · rw [List.getElem?_eq_none (by simpa using hi), List.getElem?_eq_none (by simpa using hi)]
    rfl
theorem et_yes : EtP B tYes Γ O true := fun F σ H s e Q q => q true O F H s (Same.refl F) ⟨rfl, rfl⟩
theorem evp_test {te : TE} {b : Bool} (h : EvP B te Γ O (.bl b)) : EtP B (tTest te) Γ O b := et_test h

/-! ### own lists written, own objects seen otherwise -/
theorem nx_setL {te to ti : TE} {Φ : D → Ow → Prop} (h : EvK B te Γ O Φ) (k : ∀ d O', Φ d O' → EvP B to Γ O' (.adr p) ∧ ∃ (i : Int) (j m : Nat) (l : List D), EvP B ti Γ O' (.int i) ∧ O'[j]? = some (p, OO.lst l) ∧ ixN l.length i = some m ∧ NX B D₀.nx Γ (O'.set j (p, OO.lst (l.set m d)))) :
    NX B (tAsg te (gSub to ti rSetL) D₀) Γ O := fun F σ H s e =>
  h F σ H s e _ fun v d O' F' H' s' f r p1 => by
    obtain ⟨ho, i, j, m, l, hi, hj, hm, kk⟩ := k d O' p1
    refine ho F' σ H' s' (e.same f) _ fun u d2 O2 F2 H2 s2 f2 r2 p2 => ?_
    obtain ⟨rfl, rfl⟩ := p2
    cases r2
    refine hi F2 σ H2 s2 ((e.same f).same f2) _ fun w d3 O3 F3 H3 s3 f3 r3 p3 => ?_
    obtain ⟨rfl, rfl⟩ := p3
    cases r3
    obtain ⟨o, c1, c2, vs, rfl, c3⟩ := s3.cell hj
    refine ⟨p, vs, i, m, rfl, rfl, c1, by rw [c3.len]; exact hm, ?_⟩
    exact kk F3 σ _ (s3.write hj (u' := OO.lst (l.set m d)) ⟨_, rfl, c3.set m ((r.same f2).same f3)⟩) (((e.same f).same f2).same f3)
theorem ST.weak {j : Nat} {u u' : OO} (s : ST B O F H) (h : O[j]? = some (p, u)) (w : ∀ G o, RepO G o u → RepO G o u') : ST B (O.set j (p, u')) F H := by
  refine ⟨s.fut, ⟨fun q hq => ?_, by rw [map_set_fst h]; exact s.own.nd⟩, fun q hq => ?_⟩
  · rcases List.mem_or_eq_of_mem_set hq with m | e
    · exact s.own.cell q m
    · subst e
      obtain ⟨o, h1, h2, h3⟩ := s.cell h
      exact ⟨o, h1, h2, w _ _ h3⟩
  · rcases List.mem_or_eq_of_mem_set hq with m | e
    · exact s.may q m
    · subst e; exact s.may (p, u) (List.mem_of_getElem? h)
theorem nx_weak {X : L2.St → Hp → Prop} {u u' : OO} (j : Nat) (h : O[j]? = some (p, u)) (w : ∀ G o, RepO G o u → RepO G o u') (k : NX B X Γ (O.set j (p, u'))) : NX B X Γ O := fun F σ H s e => k F σ H (s.weak h w) e
theorem evk_weak {te : TE} {Φ Ψ : D → Ow → Prop} (h : EvK B te Γ O Φ) (k : ∀ d O', Φ d O' → ∃ (j : Nat) (p : Addr) (u u' : OO), O'[j]? = some (p, u) ∧ (∀ G o, RepO G o u → RepO G o u') ∧ Ψ d (O'.set j (p, u'))) : EvK B te Γ O Ψ := fun F σ H s e Q q =>
  h F σ H s e Q fun v d O' F' H' s' f r p => by
    obtain ⟨j, p, u, u', h1, h2, h3⟩ := k d O' p
    exact q v d _ F' H' (s'.weak h1 h2) f r h3
theorem purse_of {a b c : Int} {n : Nat} (h1 : 0 ≤ a) (h2 : 0 ≤ b) (h3 : b < 10 ^ 25) (h4 : 0 ≤ c) (h5 : c ≤ n) : ∀ G o, RepO G o (OO.lst [.int a, .int b, .int c]) → RepO G o (OO.purse n) := fun G o ⟨vs, e, r⟩ => by
  have := RepL.int_of (ns := [a, b, c]) r
  subst this
  exact ⟨a, b, c, e, h1, h2, h3, h4, h5⟩
theorem purse_le {m n : Nat} (h : m ≤ n) : ∀ G o, RepO G o (OO.purse m) → RepO G o (OO.purse n) := fun G o ⟨a, b, c, e, h1, h2, h3, h4, h5⟩ => ⟨a, b, c, e, h1, h2, h3, h4, by omega⟩
/-- the purse is opened -/
theorem nx_open {X : L2.St → Hp → Prop} {n : Nat} (j : Nat) (h : O[j]? = some (p, OO.purse n)) (k : ∀ a b c : Int, 0 ≤ a → 0 ≤ b → b < 10 ^ 25 → 0 ≤ c → c ≤ n → NX B X Γ (O.set j (p, OO.lst [.int a, .int b, .int c]))) : NX B X Γ O := fun F σ H s e => by
  obtain ⟨o, h1, h2, a, b, c, rfl, q1, q2, q3, q4, q5⟩ := s.cell h
  have sl : H p = some (.lst [.int a, .int b, .int c]) := h1
  have s2 : ST B (O.set j (p, OO.lst [.int a, .int b, .int c])) F H := by
    refine ⟨s.fut, ⟨fun q hq => ?_, by rw [map_set_fst h]; exact s.own.nd⟩, fun q hq => ?_⟩
    · rcases List.mem_or_eq_of_mem_set hq with m | e
      · exact s.own.cell q m
      · subst e
        exact ⟨_, h1, h2, _, rfl, .cons .int (.cons .int (.cons .int .nil))⟩
    · rcases List.mem_or_eq_of_mem_set hq with m | e
      · exact s.may q m
      · subst e; exact s.may (p, OO.purse n) (List.mem_of_getElem? h)
  exact k a b c q1 q2 q3 q4 q5 F σ H s2 e
theorem cpow {i : Int} {j k : Nat} (h : i.natAbs < 2 ^ k) (hk : 0 < k) (hj : k * j ≤ 2 ^ 27) : CPowW i (j : Int) := by
  refine ⟨Int.natCast_nonneg _, ?_⟩
  have hb : Builtin.Int.intBits i ≤ k := by
    unfold Builtin.Int.intBits
    split
    · exact Nat.zero_le _
    · rename_i hn
      have hz : i.natAbs ≠ 0 := by
        intro z
        have : i = 0 := by omega
        simp [this] at hn
      have := (Nat.log2_lt hz).mpr h
      omega
  have : Builtin.Int.intBits i * j ≤ k * j := Nat.mul_le_mul_right _ hb
  have h2 : ((Builtin.Int.intBits i * j : Nat) : Int) ≤ 2 ^ 27 := by omega
  rw [Int.natCast_mul] at h2
  exact h2
end
end Kt
/-! X1: a try whose clause names several classes and keeps the exception by a name, and raises from it -/
namespace Kt
open PySem PySem.Spec PyProof.Rows L2 HotX
theorem funFrames_ne {B h h' : Heap} (k : ∀ b o, h.get? b = some o → (∀ vs, o.data ≠ .fields vs) → ∃ o', h'.get? b = some o' ∧ ∀ vs, o'.data ≠ .fields vs) : ∀ {l : List Env}, h.FunFrames B l → h'.FunFrames B l
  | [], _ => trivial
  | env :: l, x => by
    obtain ⟨hk, ⟨L, o, hf, hn, ho, hd⟩, hr⟩ := x
    obtain ⟨o', h1, h2⟩ := k L o ho hd
    exact ⟨hk, ⟨L, o', hf, hn, h1, h2⟩, funFrames_ne k hr⟩
section
variable {X : Cx} {pins : List (Addr × Obj)} {σ : L2.St} {H : Hp} {s : Shared}
/-- slot i's name gone from the frame's own dict -/
theorem inv_gone {i : Nat} {n : Str} {v : Option Value} {m : Str → Option Value} {h' : Heap} {t' : Nat} (I : Inv X pins σ H s) (hN : X.N.Nodup) (hi : X.N[i]? = some n)
    (hlk : ∀ (i : Nat) (x : Str) (v : V), X.N[i]? = some x → σ[i]? = some (some v) → ∀ v', (∀ j, j = i → (σ.set i none)[j]? = some v') → True) (hn : s.heap.Ns X.env.locals m) (hn' : h'.Ns X.env.locals fun x => if x = n then v else m x) (hs : Heap.SameBut X.env.locals s.heap h') : Inv X pins (σ.set i none) H { s with heap := h', toks := t' } := by
  obtain ⟨m0, hn0, hlk⟩ := id I.loc
  have em : m0 = m := by
    obtain ⟨o, es, ep, ho, hd, _, hf⟩ := hn
    obtain ⟨o0, es0, ep0, ho0, hd0, r0⟩ := hn0
    rw [ho] at ho0; cases ho0
    rw [hd] at hd0; cases hd0
    first
      | exact funext fun y => (r0.2 y).symm.trans (hf y)
      | exact funext fun y => (r0.2.2 y).symm.trans (hf y)
  subst em
  have neL : ∀ b o, X.s_0.heap.get? b = some o → b ≠ X.env.locals := fun b o e => Nat.ne_of_lt (Nat.lt_of_lt_of_le (Heap.lt_size e) I.ok.above)
  refine ⟨I.ok, I.os, I.bare, ⟨fun b o e n hb hx => ?_, fun b o e n hb hx => ?_, I.base.free, fun b o e hx => ?_, I.base.tups, I.base.frzs, I.base.tbls⟩, ⟨_, hn', fun j y v' e1 e2 e3 => ?_⟩, fun y c e => ?_, I.free, I.freeC, fun p hp => ?_, fun b ob e => ?_, by simpa using I.len⟩
  · exact (hs.2 b (neL b o e)).trans (I.base.keep b o e n hb hx)
  · obtain ⟨sl, e1⟩ := I.base.slot b o e n hb hx
    exact ⟨sl, (hs.2 b (neL b o e)).trans e1⟩
  · obtain ⟨o', e1⟩ := I.base.there b o e hx
    exact ⟨o', (hs.2 b (neL b o e)).trans e1⟩
  · by_cases hj : j = i
    · subst hj
      by_cases hlt : j < σ.length
      · rw [List.getElem?_set_self hlt] at e2; cases e2
      · rw [List.getElem?_eq_none (by simpa using hlt)] at e2; cases e2
    · rw [List.getElem?_set_ne (Ne.symm hj)] at e2
      obtain ⟨u', r', q⟩ := hlk j y v' e1 e2 e3
      refine ⟨u', r', ?_⟩
      rcases q with ⟨k, e⟩ | ⟨k, c, e, z⟩
      · have ny : y ≠ n := fun e => hj (nodup_ix hN e1 (e ▸ hi))
        exact .inl ⟨k, (if_neg ny).trans e⟩
      · exact .inr ⟨k, c, e, z.sameBut hs (I.cne y c e)⟩
  · obtain ⟨w', z⟩ := I.cell y c e
    exact ⟨w', z.sameBut hs (I.cne y c e)⟩
  · obtain ⟨e, n, ne, nf, d⟩ := I.pin p hp
    exact ⟨(hs.2 p.1 ne).trans e, n, ne, nf, d⟩
  · refine (I.hok b ob e).stay (fun c w' hc q => (hs.2 c ?_).trans q) (fun _ q => q) fun _ _ q => q
    intro z
    subst z
    rcases hc with hc | hc
    · rw [← hc, I.free] at e; cases e
    · rw [I.free] at hc; cases hc
/-- one object put in another's place -/
theorem put_obj {h : Heap} {L : Addr} {o u : Obj} (e : h.get? L = some o) (hf : u.isFreed = false) : ∃ G : Heap, G.get? L = some u ∧ Heap.SameBut L h G := by
  refine ⟨h.update L fun _ => u, Heap.get?_update_self (fun _ => u) e hf, ?_, fun b hb => Heap.get?_update_other _ _ (Ne.symm hb)⟩
  obtain ⟨objs, life⟩ := h
  simp [Heap.update]
/-- the suite of «except .. as n» raised: the name goes, the exception goes on -/
theorem as_raised {i : Nat} {n : Str} {pos : Pos} {A' : Around} {E : XK} {N : Value → Shared → Prop} {u : Value} {s' : Shared} (hs : X.stack = X.env :: X.outer) (hf : X.env.frame = some X.env.locals) (hfr : A'.frames = some (X.env :: X.outer)) (hN : X.N.Nodup) (hi : X.N[i]? = some n)
    (hln : X.env.kindOf n = some .local) (x : L2.XE X (fun cls d _ H => E cls d H) u s') (q : ∀ s5, L2.XE X (fun cls d _ H => E cls d H) u s5 → N u s5) : AsSuiteRaised (model X.prog X.w) A' X.env n pos N u s' := by
  obtain ⟨a, B, sI, pins, σ, H, cls, d, rfl, I, nb, up, sky, na, os, ag, w⟩ := x
  rw [hs] at sky
  have hcls : (X.env.scope.kind == .class || (X.env.scope.kind == .module && X.env.locals != X.env.globals)) = false := by rw [I.ok.kind]; rfl
  have note : ∀ {Q : Unit → Shared → Prop} {E₁ : Value → Shared → Prop}, (∀ h1, HandSPX.HeldZ B (X.env :: X.outer) a (Zc cls d) X.env.locals h1 → s'.heap.UpToSlots h1 → Q () { s' with heap := h1 }) → wpAny (model X.prog X.w) A' (noteFrame (.ref a) X.env) Q E₁ s' := by
    intro Q E₁ hQ
    rcases sky with ⟨hB, hn, hl, oe, vs, he, hz, hd, h1⟩ | fl | hh
    · exact HandSPX.look_newZ Zc.steady hfr hl hf he hB hn hd h1 hz hQ
    · exact HandSPX.looks_onZ Zc.steady hfr hf fl hQ
    · exact HandSPX.againZ hf hh.2.2.2 (hQ s'.heap hh (Heap.UpToSlots.refl _))
  show wpAny _ _ _ _ _ _
  refine note fun h1 hh up1 => ?_
  have hLf : X.env.locals ∈ frs X.stack := by rw [hs]; exact List.mem_filterMap.mpr ⟨X.env, List.mem_cons_self, hf⟩
  obtain ⟨m, hn1, _⟩ := id I.loc
  have hn0 : sI.heap.Ns X.env.locals m := by
    first
      | exact hn1
      | exact hn1.ns
  obtain ⟨o, es, ep, ho, hd, hr⟩ := id hn0
  have hnfd : ∀ vs, o.data ≠ .fields vs := fun vs z => by rw [hd] at z; cases z
  obtain ⟨sl, e1⟩ := (up.trans up1) _ o ho hnfd
  have hnh : h1.Ns X.env.locals m := ⟨_, es, ep, e1, hd, hr⟩
  refine wpAny_nameGoes_keeps (s := { s' with heap := h1 }) hln hnh hcls fun h2 v hn2 hs2 => ?_
  obtain ⟨k1, k2, k3, oe, vs, T, oT, ts, he, hz, hdE, hv1, hT0, hTe, hT, hdT, hts⟩ := hh
  obtain ⟨o2, es2, ep2, ho2, hd2, hr2⟩ := id hn2
  have neB : ∀ b u, B.get? b = some u → b ≠ X.env.locals := fun b u e z => by
    obtain ⟨_, ⟨L, oL, hfL, hnL, _, _⟩, _⟩ := k3
    rw [hf] at hfL; cases hfL
    rw [z, hnL] at e; cases e
  have fne : ∀ {b : Addr} {ob : Obj} {ws : Array Value}, h1.get? b = some ob → ob.data = .fields ws → b ≠ X.env.locals := fun {b ob ws} e dd z => by
    rw [z, e1] at e; cases e
    have dd : o.data = .fields ws := dd
    exact hnfd ws dd
  have he2 : h2.get? a = some oe := (hs2.2 a (fne he hdE)).trans he
  have hT2 : h2.get? T = some oT := (hs2.2 T (fne hT hdT)).trans hT
  have st2 : B.StaysIn h2 := fun b u e => (hs2.2 b (neB b u e)).trans (k1 b u e)
  have ff2 : h2.FunFrames B (X.env :: X.outer) := funFrames_ne (fun b ob e nf => by
    by_cases hb : b = X.env.locals
    · subst hb
      exact ⟨o2, ho2, fun ws z => by rw [hd2] at z; cases z⟩
    · exact ⟨ob, (hs2.2 b hb).trans e, nf⟩) k3
  have tr2 : HandSPX.TracedZ h2 B a (Zc cls d) (rawInt X.env.locals) := ⟨oe, vs, T, oT, ts, he2, hz, hdE, hv1, hT0, hTe, hT2, hdT, hts⟩
  unfold PySem.passOn
  refine wpAny_bind (wpAny_field he2 hdE hv1 ?_)
  rw [if_neg (show ¬ ((Value.ref T == Value.none) = true) from by simp)]
  have fin : wpAny (model X.prog X.w) A' (setFlight (.ref a) X.env.frame) (fun _ s4 => wpAny (model X.prog X.w) A' (throw (.ref a) : Sem Flow) (fun _ _ => False) N s4) N { s' with heap := h2, toks := s'.toks + 1 } := by
    rw [hf]
    refine HandSPX.setFlight_anyZ (s := { s' with heap := h2, toks := s'.toks + 1 }) st2 ff2 tr2 fun h3 c1 c2 c3 c4 => wpAny_throw (q _ ?_)
    -- the state without the exception, the name gone
    obtain ⟨sl3, e3⟩ := c4 _ o2 ho2 fun ws z => by rw [hd2] at z; cases z
    obtain ⟨G, g1, g2⟩ := put_obj (u := { o2 with slots := sl3 }) ho (Obj.isFreed_of_dict (o := { o2 with slots := sl3 }) hd2)
    have J := inv_gone (v := v) (h' := G) (t' := sI.toks) I hN hi (fun _ _ _ _ _ _ _ => trivial) hn0 ⟨_, es2, ep2, g1, hd2, hr2⟩ g2
    refine ⟨a, B, _, pins, _, H, cls, d, rfl, J, fun b u e nf => ?_, fun b u e nf => ?_, .inr (.inr (by rw [hs]; exact ⟨c1, k2, c2, c3⟩)), na, os, ag, w⟩
    · have hb : b ≠ X.env.locals := fun z => nf (z ▸ hLf)
      exact nb b u ((g2.2 b hb).symm.trans e) nf
    · by_cases hb : b = X.env.locals
      · subst hb
        have e : G.get? X.env.locals = some u := e
        rw [g1] at e; cases e
        exact ⟨sl3, e3⟩
      · have e : sI.heap.get? b = some u := (g2.2 b hb).symm.trans e
        obtain ⟨sl1, e4⟩ := (up.trans up1) b u e nf
        have e5 : h2.get? b = some { u with slots := sl1 } := (hs2.2 b hb).trans e4
        obtain ⟨sl4, e6⟩ := c4 b _ e5 nf
        exact ⟨sl4, e6⟩
  first
    | exact wpAny_bind (wpAny_pure (wpAny_bind fin))
    | exact wpAny_bind fin
end
end Kt
namespace Kt
open PySem PySem.Spec PyProof.Rows L2 HotX
section
variable {M : Model} {K : PySem.W.Frag}
theorem exm_tup5 {c1 c2 c3 c4 c5 cls : Value} {tp e : Addr} {b : Bool} {h : Heap} (X : K.In h) (LT : W.Looks M h (typeOf (.ref e)) cls) (hp : h.get? tp = some { cls := .type "tuple", data := .seq [c1, c2, c3, c4, c5].toArray }) (hx : W.exmAny K cls [c1, c2, c3, c4, c5] = some b) :
    W.Looks M h (excMatches (.ref e) (.ref tp)) b := by
  intro A Q E s k₀ q
  obtain ⟨hh, g, d, tk, os⟩ := s
  have k : ∀ b o, h.get? b = some o → hh.get? b = some o := k₀
  have LT0 : W.Looks M h (isInstance (.ref tp) (.type "tuple")) true := ((W.Looks.ld hp).andThen .now).andThen (W.Looks.of_pure isSubtype_tuple_tuple)
  obtain ⟨b1, d1, x1, y1, z1⟩ := W.exmAny_cons hx
  obtain ⟨e1, S1⟩ := W.exm_cls (M := M) X x1
  have e1 := e1.keeps k
  have S1 := S1.keeps k
  obtain ⟨b2, d2, x2, y2, z2⟩ := W.exmAny_cons y1
  obtain ⟨e2, S2⟩ := W.exm_cls (M := M) X x2
  have e2 := e2.keeps k
  have S2 := S2.keeps k
  obtain ⟨b3, d3, x3, y3, z3⟩ := W.exmAny_cons y2
  obtain ⟨e3, S3⟩ := W.exm_cls (M := M) X x3
  have e3 := e3.keeps k
  have S3 := S3.keeps k
  obtain ⟨b4, d4, x4, y4, z4⟩ := W.exmAny_cons y3
  obtain ⟨e4, S4⟩ := W.exm_cls (M := M) X x4
  have e4 := e4.keeps k
  have S4 := S4.keeps k
  obtain ⟨b5, d5, x5, y5, z5⟩ := W.exmAny_cons y4
  obtain ⟨e5, S5⟩ := W.exm_cls (M := M) X x5
  have e5 := e5.keeps k
  have S5 := S5.keeps k
  have w5 : some false = some d5 := y5
  cases w5
  have LT := LT.keeps k
  have LT0 := LT0.keeps k
  have hp' := k _ _ hp
  subst z1 z2 z3 z4 z5
  unfold excMatches
  refine wpAny_bind (LT0.at ?_)
  dsimp only
  rw [if_pos rfl]
  first
    | refine wpAny_bind (wpAny_seqItems hp' rfl ?_)
    | refine wpAny_bind (wpAny_bind (wpAny_seqItems hp' rfl (wpAny_pure ?_)))
  dsimp only [Option.getD_some, Option.getD]
  cases b1 <;> cases b2 <;> cases b3 <;> cases b4 <;> cases b5 <;> ((repeat (first | simp only [List.forIn_cons, List.forIn_nil, Bool.not_true, Bool.false_eq_true, if_false, if_true] | lk)); exact q)
end
/-- names of classes, one after the other -/
inductive NamesL (X : Cx) : List Expr → List Value → Prop
  | nil : NamesL X [] []
  | cons {x : Str} {c : Value} {p : Pos} {es : List Expr} {cs : List Value} : Names X x c → NamesL X es cs → NamesL X (.Name x p :: es) (c :: cs)
section
variable {X : Cx}
theorem names_items {a : Addr} {pn pn' : List (Addr × Obj)} {σ : L2.St} {H : Hp} {s : Shared} {pos : Pos} {E : Value → Shared → Prop} (I : Inv (X.suite a pn) pn' σ H s) : ∀ {es : List Expr} {cs : List Value}, NamesL X es cs → ∀ {Q : List Value → Shared → Prop}, Q cs s →
    wpAny (model X.prog X.w) (X.A.mark (some (.ref a))) (spliced (backTo pos (starEach es X.env))) Q E s
  | [], _, .nil, Q, q => wpAny_items_nil q
  | _ :: _, _, .cons hc r, Q, q => by
    refine wpAny_items_cons ?_
    obtain ⟨hg, hdbg, hm | ⟨hm, hv, hnn⟩⟩ := hc
    · exact ld_glob (X := X.suite a pn) I hg hm (names_items I r q) hdbg
    · exact ld_blt (X := X.suite a pn) I hg hm hv (names_items I r q) hnn hdbg
theorem flyingZ_grow {h h' B : Heap} {l : List Env} {a : Addr} {Z : Obj → Prop} (k : ∀ b o, h.get? b = some o → h'.get? b = some o) (x : HandSPX.FlyingZ B l a Z h) : HandSPX.FlyingZ B l a Z h' := by
  obtain ⟨k1, k2, k3, oe, vs, T, oT, ts, he, hz, hdE, hv1, hT0, hTe, hT, hdT, hts⟩ := x
  exact ⟨fun b o e => k b o (k1 b o e), k2, funFrames_ne (fun b o e n => ⟨o, k b o e, n⟩) k3, oe, vs, T, oT, ts, k a oe he, hz, hdE, hv1, hT0, hTe, k T oT hT, hdT, hts⟩
/-- what the clause «except (..) as n» wishes: one of its classes, always -/
def wTup (K : PySem.W.Frag) (cs : List Value) (i : Nat) (ts : Addr → Value → Option Addr → TS) (D : Ends) : WX := fun cls d σ H =>
  PySem.W.exmAny K cls cs = some true ∧ ∀ a, H a = none → ts a cls d { nx := fun σ' H' => D.nx (σ'.set i none) H', rt := D.rt, bk := fun σ' H' => D.bk (σ'.set i none) H', ct := fun σ' H' => D.ct (σ'.set i none) H' } (σ.set i (some (.ref a))) H
theorem ps_try_tupX {n : Str} {c1 c2 c3 c4 c5 : Value} {es : List Expr} {i kk : Nat} {body suite : List Stmt} {b₀ : Stmt} {np pos pos' : Pos} {tb : WX → TS} {ts : Addr → Value → Option Addr → TS} {E : XK} (hs : X.stack = X.env :: X.outer) (hf : X.env.frame = some X.env.locals)
    (hN : X.N.Nodup) (hi : X.N[i]? = some n) (hln : X.env.kindOf n = some .local) (hc : NamesL X es [c1, c2, c3, c4, c5]) (hpa : ∀ hd : Option Value, PassesOwnAt (model X.prog X.w) (X.A.mark hd) X.A X.env X.xe) (tk : L2.Takes X fun cls d _ H => E cls d H)
    (hb : ∀ (W : WX) (pn : List (Addr × Obj)) (xe : Value → Shared → Prop), L2N.Takes (X.tr pn xe) W → PassesOwn (model X.prog X.w) X.A X.env xe → PSs (X.tr pn xe) body (tb W))
    (hsu : ∀ (a : Addr) (oe : Obj) (cls : Value) (d : Option Addr) (pn : List (Addr × Obj)) (xe : Value → Shared → Prop), L2N.Zn cls d oe → (∃ vs, oe.data = .fields vs) → L2.Takes { L2H.suiteX X a ((a, oe) :: pn) with xe := xe } (fun cls d _ H => E cls d H) → L2H.HotC { L2H.suiteX X a ((a, oe) :: pn) with xe := xe } →
      PSs { L2H.suiteX X a ((a, oe) :: pn) with xe := xe } (b₀ :: suite) (ts a cls d)) :
    PS X (.Try body [.ExceptHandler (some (.Tuple es kk np)) (some n) (b₀ :: suite) pos'] [] [] pos) (fun D σ H => tb (wTup X.K [c1, c2, c3, c4, c5] i ts D) D σ H) := by
  refine ⟨fun pins s σ H D I h => ?_⟩
  have ok := I.ok
  have hfr : X.A.frames = some (X.env :: X.outer) := by rw [ok.frames, hs]
  have hloc : Loc X.env.scope n := .inl hln
  have notFr : ∀ {B h : Heap} {a : Addr} {o : Obj} {vs : Array Value}, h.FunFrames B (X.env :: X.outer) → h.get? a = some o → o.data = .fields vs → a ∉ frs (X.env :: X.outer) := fun {B h a o vs} ff e dd hm => by
    obtain ⟨_, o', e', hnf⟩ := ff.mem hm
    rw [e] at e'; cases e'
    exact hnf _ dd
  refine wpAny_Try_except ?_
  refine wpAny_mono ((hb (wTup X.K [c1, c2, c3, c4, c5] i ts D) (X.pn ++ pins) (fun e s₁ => wpAny (model X.prog X.w) X.A (noteFrame e X.env) (fun _ s₂ => wpAny (model X.prog X.w) X.A (setFlight e none) (fun _ s₃ =>
    wpAny (model X.prog X.w) X.A (handleBy e X.env [.ExceptHandler (some (.Tuple es kk np)) (some n) (b₀ :: suite) pos']) (SP X pins D) X.xe s₃) X.xe s₂) X.xe s₁) (fun u s' xx => ?_) PassesOwn.looking).run [] s σ H D (I.toTry _) h) (fun f s1 hsp => ?_) (fun e s1 he => he)
  · obtain ⟨a, B, sI, pins', σ', H', cls, d, rfl, J', nb, up, sky, na, os, ag, hb1, hyes⟩ := xx
    have J : Inv X pins σ' H' sI := J'.ofTry ok
    have sky' : L2.Sky B (X.env :: X.outer) a (L2N.Zn cls d) X.env.locals s'.heap := by rw [← hs]; exact sky
    show wpAny (model X.prog X.w) X.A (noteFrame (.ref a) X.env) _ _ _
    refine L2N.Sky.land L2N.Zn.steady hfr hf sky' fun h3 fl3 up3 => ?_
    have J3 : Inv X pins σ' H' { s' with heap := h3 } := J.landed nb fl3.1 (up.trans up3) os ag
    obtain ⟨oe3, vs3, he3, hz3, hd3⟩ := fl3.there
    have nfr : a ∉ frs (X.env :: X.outer) := notFr fl3.2.2.1 he3 hd3
    have nL : a ≠ X.env.locals := fun z => nfr (List.mem_filterMap.mpr ⟨X.env, List.mem_cons_self, by rw [hf, z]⟩)
    have nF : a ∉ X.fs := fun hm => by
      obtain ⟨e, he, q⟩ := List.mem_filterMap.mp hm
      exact nfr (List.mem_filterMap.mpr ⟨e, List.mem_cons_of_mem _ he, q⟩)
    have S3 := J3.suite he3 hd3 na nL nF
    refine wpAny_handleBy_cons (codeAny_handlers_test ?_) (by intro q; cases q)
    -- the clause's tuple
    refine wpAny_Tuple (names_items S3 hc ⟨sz rfl, ?_⟩)
    have kp : ∀ b o, h3.get? b = some o → (h3.push { cls := .type "tuple", data := .seq [c1, c2, c3, c4, c5].toArray }).get? b = some o := fun _ _ z => Heap.get?_push_of_some _ z
    have LT : PySem.W.Looks (model X.prog X.w) h3 (typeOf (.ref a)) cls := fun A Q E s k q => wpAny_typeOf_ref (k _ _ he3) (by rw [hz3.1]; exact q)
    refine (exm_tup5 (M := model X.prog X.w) (J3.kIn.keeps kp) (LT.keeps kp) (Heap.get?_push_size h3 rfl) hb1).here ?_
    show codeAny _ _ _ _ _
    have flP := flyingZ_grow kp fl3
    have upP : h3.UpToSlots (h3.push { cls := .type "tuple", data := .seq [c1, c2, c3, c4, c5].toArray }) := Heap.UpToSlots.of_keeps kp
    refine codeAny_handlers_suite_as ?_
    refine HandSPX.lands_againZ (s := { s' with heap := h3.push { cls := .type "tuple", data := .seq [c1, c2, c3, c4, c5].toArray } }) flP fun h4 fl4 up4 => ?_
    have J4 : Inv X pins σ' H' { s' with heap := h4 } := J.landed nb fl4.1 (((up.trans up3).trans upP).trans up4) os ag
    obtain ⟨oe4, vs4, he4, hz4, hd4⟩ := fl4.there
    have S4 := J4.suite he4 hd4 na nL nF
    refine store_ok (X := X.suite a ((a, oe4) :: (X.pn ++ pins))) (v := .ref a) S4 hN hi hloc rfl (fun s5 S5 => ?_) (.inr hln)
    have hot : ∀ xe, L2H.HotC { L2H.suiteX X a ((a, oe4) :: (X.pn ++ pins)) with xe := xe } := fun xe => ⟨(a, oe4), ⟨rfl, vs4, hd4, hz4.2.2 vs4 hd4⟩, List.mem_cons_self⟩
    have toX : ∀ {xe : Value → Shared → Prop} {pn' σ2 H2 s2}, Inv { L2H.suiteX X a ((a, oe4) :: (X.pn ++ pins)) with xe := xe } pn' σ2 H2 s2 → Inv X pins σ2 H2 s2 := fun {xe pn' σ2 H2 s2} J2 =>
      L2H.unsuiteX (a := a) (q := (a, oe4)) (pn' := pn') (Inv.unwish (X := L2H.suiteX X a ((a, oe4) :: (X.pn ++ pins))) (E := xe) J2) ok
    refine wpAny_mono ((hsu a oe4 cls d (X.pn ++ pins) _ hz4 ⟨_, hd4⟩ (fun u2 s2 x2 => ?_) (hot _)).run [] s5 _ H' _ (Inv.wish (X := L2H.suiteX X a ((a, oe4) :: (X.pn ++ pins))) (L2H.suiteX_of S5) _) (hyes a na)) (fun f s6 hsp => ?_) (fun e6 s6 z => z)
    · obtain ⟨a2, B2, sI2, pn2, σ2, H2, cls2, d2, e2, I2, nb2, up2, sky2, na2, os2, ag2, w2⟩ := x2
      refine as_raised (A' := X.A.mark (some (.ref a))) hs hf hfr hN hi hln ⟨a2, B2, sI2, pins, σ2, H2, cls2, d2, e2, toX I2, nb2, up2, sky2, na2, os2, ag2, w2⟩ fun s7 x7 => hpa (some (.ref a)) u2 s7 (tk u2 s7 x7)
    · have end_ : ∀ {σ6 : L2.St} {H6 : Hp} {Q : Shared → Prop}, Inv X pins σ6 H6 s6 → (∀ s7, Inv X pins (σ6.set i none) H6 s7 → Q s7) →
          wpAny (model X.prog X.w) X.A (do bindName X.env n .none; unbindBehindTheSuite X.env n pos') (fun _ s7 => Q s7) X.xe s6 := fun {σ6 H6 Q} S6 hq => gone_ok S6 hN hi hln hq
      cases f with
      | next =>
        obtain ⟨σ6, H6, S6, q6⟩ := hsp
        exact end_ (toX S6) fun s7 J7 => ⟨_, _, J7, q6⟩
      | brk =>
        obtain ⟨σ6, H6, S6, q6⟩ := hsp
        exact end_ (toX S6) fun s7 J7 => ⟨_, _, J7, q6⟩
      | cont =>
        obtain ⟨σ6, H6, S6, q6⟩ := hsp
        exact end_ (toX S6) fun s7 J7 => ⟨_, _, J7, q6⟩
      | ret u =>
        obtain ⟨v6, σ6, H6, S6, r6, q6⟩ := hsp
        exact end_ (toX S6) fun s7 J7 => ⟨_, _, _, J7, r6, q6⟩
  · cases f with
    | next =>
      obtain ⟨σ', H', J', q⟩ := hsp
      exact wpAny_execs_nil ⟨σ', H', J'.ofTry ok, q⟩
    | brk =>
      obtain ⟨σ', H', J', q⟩ := hsp
      exact ⟨σ', H', J'.ofTry ok, q⟩
    | cont =>
      obtain ⟨σ', H', J', q⟩ := hsp
      exact ⟨σ', H', J'.ofTry ok, q⟩
    | ret u =>
      obtain ⟨v, σ', H', J', r, q⟩ := hsp
      exact ⟨v, σ', H', J'.ofTry ok, r, q⟩
end
end Kt
/-! X3: raise C(..) from n, in an except suite; raise C(..) where nothing is handled -/
namespace Kt
open PySem PySem.Spec PyProof.Rows L2 HotX
/-- the heap behind «from c» -/
def causeFrom (h : Heap) (a c : Addr) : Heap := (h.update a (Obj.mapFields (·.setIfInBounds 3 (.ref c)))).update a (Obj.mapFields (·.setIfInBounds 4 (.bool true)))
theorem causeFrom_at {h : Heap} {a c : Addr} {oe : Obj} {vs : Array Value} (ha : h.get? a = some oe) (hd : oe.data = .fields vs) :
    (causeFrom h a c).get? a = some ((oe.mapFields (·.setIfInBounds 3 (.ref c))).mapFields (·.setIfInBounds 4 (.bool true))) ∧
      ((oe.mapFields (·.setIfInBounds 3 (.ref c))).mapFields (·.setIfInBounds 4 (.bool true))).data = .fields ((vs.setIfInBounds 3 (.ref c)).setIfInBounds 4 (.bool true)) := by
  have hd3 := Obj.data_mapFields hd (·.setIfInBounds 3 (Value.ref c))
  have ha3 := Heap.get?_update_self (Obj.mapFields (·.setIfInBounds 3 (Value.ref c))) ha (Obj.isFreed_of_fields hd3)
  have hd4 := Obj.data_mapFields hd3 (·.setIfInBounds 4 (.bool true))
  exact ⟨Heap.get?_update_self (Obj.mapFields (·.setIfInBounds 4 (.bool true))) ha3 (Obj.isFreed_of_fields hd4), hd4⟩
theorem causeFrom_other {h : Heap} {a b c : Addr} (hne : a ≠ b) : (causeFrom h a c).get? b = h.get? b := by
  unfold causeFrom
  rw [Heap.get?_update_other _ _ hne, Heap.get?_update_other _ _ hne]
theorem raise_made_hotF {prog : Program} {w : World} {A : Around} {E : Value → Shared → Prop} {env : Env} {s : Shared} {x c : Sem Value} {Q : Flow → Shared → Prop} {x1 : Addr}
    (h : wpAny (model prog w) A x (fun v s₁ => ∃ a oe vs cls, v = .ref a ∧ s₁.heap.get? a = some oe ∧ oe.cls = cls ∧ oe.data = .fields vs ∧ vs[1]? = some .none ∧ 4 < vs.size ∧ x1 ≠ a ∧ HotAt A x1 s₁.heap ∧
      (∀ (Q' : Value → Shared → Prop), Q' (.ref x1) s₁ → wpAny (model prog w) A c Q' E s₁) ∧ PySem.W.Looks (model prog w) s₁.heap (isInstance (.ref x1) (.type "BaseException")) true ∧
      PySem.W.Looks (model prog w) s₁.heap (isSubtype cls (.type "BaseException")) true ∧ PySem.W.Looks (model prog w) (causeFrom s₁.heap a x1) (typeOf cls) (.type "type") ∧
      E (.ref a) { s₁ with heap := (causeFrom s₁.heap a x1).update a (Obj.mapFields (·.setIfInBounds 2 (.ref x1))) }) E s) :
    wpAny (model prog w) A (raiseStmt env (some x) (some c)) Q E s := by
  unfold raiseStmt
  dsimp only
  refine wpAny_bind (wpAny_mono h (fun v s₁ h₁ => ?_) fun _ _ x => x)
  obtain ⟨a, oe, vs, cls, rfl, ha, hcls, hd, h1, hi, hne, hot, hcs, LC, L1, L3, hE⟩ := h₁
  have LT : PySem.W.Looks (model prog w) s₁.heap (typeOf (.ref a)) cls := fun A Q E s k q => wpAny_typeOf_ref (k _ _ ha) (by rw [hcls]; exact q)
  have LI : PySem.W.Looks (model prog w) s₁.heap (isInstance (.ref a) (.type "BaseException")) true := LT.andThen L1
  have hnt : ∀ {Q' : Bool → Shared → Prop}, Q' false s₁ → wpAny (model prog w) A (isType (.ref a)) Q' E s₁ := by
    intro Q' hq
    simp only [isType, loadHead]
    refine wpAny_bind (wpAny_loadPart ha ?_)
    rw [hd]; exact wpAny_pure hq
  obtain ⟨hh1, o1, vs1, hg1, hd1, hc1⟩ := id hot
  have hntC : ∀ {Q' : Bool → Shared → Prop}, Q' false s₁ → wpAny (model prog w) A (isType (.ref x1)) Q' E s₁ := by
    intro Q' hq
    simp only [isType, loadHead]
    refine wpAny_bind (wpAny_loadPart hg1 ?_)
    rw [hd1]; exact wpAny_pure hq
  have hd3 := Obj.data_mapFields hd (·.setIfInBounds 3 (Value.ref x1))
  have ha3 := Heap.get?_update_self (Obj.mapFields (·.setIfInBounds 3 (Value.ref x1))) ha (Obj.isFreed_of_fields hd3)
  obtain ⟨ha4, hd4⟩ := causeFrom_at (c := x1) ha hd
  have s3 : 3 < vs.size := by omega
  have s4 : 4 < (vs.setIfInBounds 3 (Value.ref x1)).size := by rw [set_size]; exact hi
  have s2 : 2 < ((vs.setIfInBounds 3 (Value.ref x1)).setIfInBounds 4 (Value.bool true)).size := by rw [set_size, set_size]; omega
  have h14 : ((vs.setIfInBounds 3 (Value.ref x1)).setIfInBounds 4 (Value.bool true))[1]? = some Value.none := set_other (by decide) (set_other (by decide) h1)
  have hcls4 : ((oe.mapFields (·.setIfInBounds 3 (.ref x1))).mapFields (·.setIfInBounds 4 (.bool true))).cls = cls := by rw [Obj.cls_mapFields, Obj.cls_mapFields]; exact hcls
  have LT4 : PySem.W.Looks (model prog w) (causeFrom s₁.heap a x1) (typeOf (.ref a)) cls := fun A Q E s k q => wpAny_typeOf_ref (k _ _ ha4) (by rw [hcls4]; exact q)
  have hnt4 : ∀ {Q' : Bool → Shared → Prop}, Q' false { s₁ with heap := causeFrom s₁.heap a x1 } → wpAny (model prog w) A (isType (.ref a)) Q' E { s₁ with heap := causeFrom s₁.heap a x1 } := by
    intro Q' hq
    simp only [isType, loadHead]
    refine wpAny_bind (wpAny_loadPart ha4 ?_)
    rw [hd4]; exact wpAny_pure hq
  have hot4 : HotAt A x1 (causeFrom s₁.heap a x1) := ⟨hh1, o1, vs1, by rw [causeFrom_other (Ne.symm hne)]; exact hg1, hd1, hc1⟩
  have rest : wpAny (model prog w) A (do
      let b ← isType (.ref a)
      if b = true then do
        let e ← holding [.ref a] (raisedFor (.ref a) (.ref a))
        setFlight e none
        raiseNew e
      else do
        let e ← raisedInstance (.ref a)
        setFlight e none
        raiseNew e : Sem Flow) Q E { s₁ with heap := causeFrom s₁.heap a x1 } := by
    refine wpAny_bind (hnt4 ?_)
    simp only [Bool.false_eq_true, if_false]
    unfold raisedInstance
    refine wpAny_bind (wpAny_bind (LT4.here (wpAny_bind (L3.here ?_))))
    rw [if_pos (beq_self_eq_true _)]
    refine wpAny_pure ?_
    unfold setFlight
    refine wpAny_bind (wpAny_bind (wpAny_field ha4 hd4 h14 ?_))
    rw [if_neg (by decide)]
    refine wpAny_pure ?_
    exact raiseNew_hot hot4 hne ha4 hd4 s2 hE
  refine wpAny_bind (wpAny_holding (hcs _ (wpAny_bind (wpAny_pure ?_))))
  dsimp only
  refine wpAny_bind (wpAny_holding ?_)
  unfold excFromValue isExcClass
  refine wpAny_bind (wpAny_bind (hnt ?_))
  simp only [Bool.false_eq_true, if_false]
  refine wpAny_pure ?_
  simp only [Bool.false_eq_true, if_false]
  refine wpAny_bind (LI.here ?_)
  simp only [if_true]
  refine wpAny_pure ?_
  rw [if_neg (show ¬ ((Value.ref x1 == Value.none) = true) from by simp)]
  refine wpAny_bind (wpAny_holding (wpAny_bind (wpAny_bind (hntC ?_))))
  simp only [Bool.false_eq_true, if_false]
  refine wpAny_pure ?_
  simp only [Bool.false_eq_true, if_false]
  refine wpAny_bind (LC.here ?_)
  simp only [if_true]
  first
  | refine wpAny_pure (wpAny_bind (wpAny_setField ha hd s3 (wpAny_bind (wpAny_setField ha3 hd3 s4 ?_))))
  | refine wpAny_pure (wpAny_bind (wpAny_bind (wpAny_setField ha hd s3 (wpAny_bind (wpAny_setField ha3 hd3 s4 ?_)))))
  | refine wpAny_pure (wpAny_bind (wpAny_setField ha hd s3 (wpAny_setField ha3 hd3 s4 ?_)))
  first
  | exact rest
  | (dsimp only; exact rest)
  | (refine wpAny_pure ?_; exact rest)
  | (simp only [bind_pure_comp] ; exact rest)
section
open L2H
/-- raise e from n, in the suite of «except .. as n» -/
theorem ps_raiseHF {X : Cx} {W : WX} {e : Expr} {n : Str} {np : Pos} {t : L2.St → Hp → XK → Prop} {i : Nat} {pos : Pos} {p : Addr × Obj} {cls0 : Value} (hi : X.N[i]? = some n) (hln : X.env.kindOf n = some .local) (hp : p ∈ X.pn) (hot : Hot1 X.A p) (hcl : p.2.cls = cls0) (tk : L2.Takes X W) (he : PMk5 X e t) (hdb : (n == ("__debug__" : Str)) = false := by decide) (hcd : (n == ("__classdict__" : Str)) = false := by decide) :
    PS X (.Raise (some e) (some (.Name n np)) pos) (fun _ σ H => PySem.W.subIn X.K cls0 (.type "BaseException") = some true ∧ t σ H fun cls d H' => σ[i]? = some (some (.ref p.1)) ∧ W cls d σ H') := by
  refine ⟨fun pins s σ H D I ⟨hsub, h⟩ => ?_⟩
  obtain ⟨hh, v1, e1, c1⟩ := hot
  show wpAny _ _ (do standAt pos; raiseStmt X.env (some (do let v ← eval e X.env; standAt pos; pure v)) (some (do let v ← eval (.Name n np) X.env; standAt pos; pure v))) _ _ _
  refine wpAny_bind (wpAny_standAt (raise_made_hotF (x1 := p.1) (wpAny_bind (wpAny_mono (he pins s σ H _ I h) (fun u s1 hu => wpAny_bind (wpAny_standAt (wpAny_pure ?_))) fun _ _ x => x))))
  obtain ⟨⟨a, oe, vs, sI, H', cls, d, rfl, J, k, hne, ha, hz, hd, h1, na, os, ag, r, hσ, q⟩, h5⟩ := hu
  have h4s : 4 < vs.size := h5 a oe vs rfl ha hd
  have k4 : ∀ b u, sI.heap.get? b = some u → (causeFrom s1.heap a p.1).get? b = some u := fun b u z => by
    have nab : a ≠ b := fun y => by
      rw [← y, hne] at z
      cases z
    rw [causeFrom_other nab]
    exact k b u z
  obtain ⟨r1, _⟩ := r (model X.prog X.w) s1.heap (J.kIn.keeps k)
  obtain ⟨_, r2⟩ := r (model X.prog X.w) (causeFrom s1.heap a p.1) (J.kIn.keeps k4)
  have P1 := (J.pin p (List.mem_append_left _ hp)).1
  have nap : p.1 ≠ a := fun z => by
    rw [z, hne] at P1
    cases P1
  have P2 : s1.heap.get? p.1 = some p.2 := k _ _ P1
  have LC : PySem.W.Looks (model X.prog X.w) s1.heap (isInstance (.ref p.1) (.type "BaseException")) true :=
    PySem.W.Looks.andThen (fun A Q E s k q => wpAny_typeOf_ref (k _ _ P2) (by rw [hcl]; exact q) : PySem.W.Looks (model X.prog X.w) s1.heap (typeOf (.ref p.1)) cls0) (PySem.W.looks_subIn (J.kIn.keeps k) hsub)
  have J1 : Inv X pins σ H' s1 := by
    have z := J.call (ch := []) (h' := s1.heap) (g' := s1.gens) (t' := s1.toks) (d' := s1.drawn) (H' := H') (Un.kept k) (J.hok.kept k) ag (fun _ z => nomatch z)
    obtain ⟨hp1, g1, d1, t1, os1⟩ := s1
    have os : os1 = sI.os := os
    subst os
    exact z
  obtain ⟨ha4, hd4⟩ := causeFrom_at (c := p.1) ha hd
  have h12 : (((vs.setIfInBounds 3 (Value.ref p.1)).setIfInBounds 4 (Value.bool true)).setIfInBounds 2 (Value.ref p.1))[1]? = some Value.none := set_other (by decide) (set_other (by decide) (set_other (by decide) h1))
  refine ⟨a, oe, vs, cls, rfl, ha, hz.1, hd, h1, h4s, nap, ⟨hh, p.2, v1, P2, e1, c1⟩, fun Q' q' => ?_, LC, r1, r2, tk _ _ (XE.new J (fun b u z => ?_) hne (Heap.get?_update_self _ ha4 (Obj.isFreed_of_fields (Obj.data_mapFields hd4 _)))
    ⟨by rw [Obj.cls_mapFields, Obj.cls_mapFields, Obj.cls_mapFields]; exact hz.1, by rw [HandSPX.dict_mapFields, HandSPX.dict_mapFields, HandSPX.dict_mapFields]; exact hz.2.1⟩ (Obj.data_mapFields hd4 _) h12 na os ag q)⟩
  · obtain ⟨m, hn, hl⟩ := id J1.loc
    obtain ⟨u, ru, l⟩ := hl i n _ hi hσ (.inl hln)
    obtain rfl : u = Value.ref p.1 := ru
    rcases l with ⟨hk, hm⟩ | ⟨hk, c', hc, hcell⟩
    · exact wpAny_bind (wpAny_Name (wpAny_loadName_local I.ok.kind hk hn hm (wpAny_bind (wpAny_standAt (wpAny_pure q')))) hdb)
    · rcases hk with hk | hk <;> (have hk : X.env.kindOf n = _ := hk; rw [hln] at hk; cases hk)
  · have nab : a ≠ b := fun y => by
      rw [← y, hne] at z
      cases z
    show ((causeFrom s1.heap a p.1).update a (Obj.mapFields (·.setIfInBounds 2 (.ref p.1)))).get? b = some u
    rw [Heap.get?_update_other _ _ nab]
    exact k4 b u z
end
end Kt
/-! X4: own exceptions, own classes, by data -/
namespace Kt
open PySem PySem.Spec PyProof.Rows L2 StX
/-- C(e, ..) where nothing is handled: its context is None -/
theorem pmk_oexN {X : Cx} {CX : CXT} {x : Str} {e : Expr} {es : List Expr} {ta : TA} {p pos : Pos} {C fI : Addr} {k : Nat} {fd : FuncData} {ps : List Str} {sp : Sp} (T : OexC X.K C) (iC : PySem.W.findIn X.K (.ref C) "__init__" = some (some (.ref fI))) (tI : PySem.W.typeIn X.K (.ref fI) = some (.type "function"))
    (F1 : FnOk X.prog X.w X.K X.mg X.base CX k fI fd ps sp) (hr : Room (k + 1) X.A) (hb : Binds X.K fd ps []) (hx : Passes CX X (fun _ _ _ => False)) (hg : Gl X x) (hm : X.mg x = some (.ref C)) (ha : PA X (e :: es) ta)
    (hdb : (x == ("__debug__" : Str)) = false := by decide) (he : starEach (e :: es) X.env = (false, eval e X.env) :: starEach es X.env := by rfl) (hpl : (backTo pos (starEach es X.env)).any (·.1) = false := by rfl) :
    L2N.PMk X (.Call (.Name x p) (e :: es) [] pos) (tMkO C sp [] ta) := by
  intro pins s σ H Q I h
  obtain ⟨nm, q, N, bs, bm, sn, sub, ab, col, dd, k0, k1, k2, k3, k5, hC, hbm⟩ := T.cls
  refine wpAny_Call_Name_kw (ld_glob I hg hm ?_ hdb)
  refine PySem.W.callWith_K (h₀ := X.base) I.ok.mod.kin T.kC (thn (ha.run pos pins s σ H _ I h) fun us s1 ⟨vs, H1, I1, r1, hz, q1⟩ => ⟨I1.kIn, ?_⟩) he hpl
  show wpAny _ _ (call (.ref C) us) _ _ _
  obtain ⟨hp, g, dr, tk, os⟩ := s1
  have hsz : hp.objs.size ≤ hp.objs.size + 1 := Nat.le_succ _
  have hq := q1 _ (I1.hok.fresh hsz)
  rw [List.append_nil] at hq
  have I2 : Inv X pins σ (upd H1 (hp.objs.size + 1) (exo (hp.objs.size + 1) C none)) ⟨(hp.push (PySem.W.kdv_tup us)).push (PySem.HandSPX.excO C hp.objs.size), g, dr, tk, os⟩ :=
    I1.laid (t' := tk) (a := hp.objs.size + 1) (fun b o e => Heap.get?_push_of_some _ (Heap.get?_push_of_some _ e)) hsz (exo_ok (t1 := hp.objs.size) (by heap_get))
  have r2 : Vals (V.ref (hp.objs.size + 1) :: vs) (Value.ref (hp.objs.size + 1) :: us) := .cons rfl r1
  have hl : (Value.ref (hp.objs.size + 1) :: us).length = ps.length := r2.length.symm.trans (F1.len _ _ _ _ hq)
  have hus : us.length ≤ sizeLine := by rw [← Paired.length r1]; exact Nat.le_trans hz (by rw [sizeLine_eq]; decide)
  have b2 := hb _ (Value.ref (hp.objs.size + 1) :: us) I2.kIn (by rw [List.append_nil]; exact hl)
  rw [List.append_nil] at b2
  refine wpAny_call (PySem.HandSPX.call_own PySem.F.excBase_ValueError (fun Y => PySem.HandSPX.refsVE_contains Y bm hbm) (I1.kIn _ _ hC) (PySem.W.looks_findIn I1.kIn iC) (fun self => PySem.W.bind_fn I1.kIn self tI) hus
    (codeAny_mono (F1.run _ X.stack _ _ ⟨Value.ref (hp.objs.size + 1) :: us, []⟩ _ _ _ (fun _ _ _ => False) (hr.make C us []) (I2.env0.make C us []) b2 r2 hq) fun r s' hq' => ?_))
  match r, hq' with
  | .error er, hq' => exact hx pins σ _ _ er s' I2 hq'
  | .ok (.ret u), hq' =>
    obtain ⟨v, H2, os2, bare2, un2, hok2, rv, rfl, d, fs, ea, ed, hd1, q2⟩ := hq'
    obtain ⟨h2, g2, d2, t2, os'⟩ := s'
    obtain ⟨t0, G, J, kG, ge, hoe, na⟩ := mk_end0 (d2 := d2) (t2 := t2) I1 hsz (fun b o e => Heap.get?_push_of_some _ (Heap.get?_push_of_some _ e)) un2 hok2 os2 bare2 ea ed hd1
    exact ⟨rv, hp.objs.size + 1, _, _, ⟨G, g2, d2, t2, os'⟩, _, .ref C, some d, rfl, J, kG, ge, hoe, ⟨rfl, rfl, fun vs hv => by cases hv; rfl⟩, rfl, rfl, na, rfl, bare2, raises_own T.exC T.tyC, q2⟩
/-- KeyTellError.__init__ -/
def spI (K : PySem.W.Frag) : Sp := fun vs H Q _ => ∃ (a C : Addr) (y : V), vs = [.ref a, y] ∧ OexC K C ∧ PySem.W.findIn K (.ref C) "value" = some none ∧ H a = some (exo a C none) ∧
  ∀ dx, H dx = none → dx ≠ a → Q .non (upd (upd H dx (exd dx [("value", y)])) a (exo a C (some dx)))
def tInit (K : PySem.W.Frag) : TS := tOst K "value" (tVar 0) (tVar 1)
theorem tInit_ok {K : PySem.W.Frag} {vs : List V} {H : Hp} {Q : VK} {E : XK} (h : spI K vs H Q E) : tInit K { nx := fun _ H' => Q .non H', rt := Q } (L2.start ["self", "value"] vs) H := by
  obtain ⟨a, C, y, rfl, T, hn, ha, q⟩ := h
  exact ⟨y, rfl, .ref a, rfl, a, C, rfl, T, hn, .inl ⟨ha, q⟩⟩
theorem spI_len {K : PySem.W.Frag} : ∀ vs H Q E, spI K vs H Q E → vs.length = (["self", "value"] : List Str).length := fun vs H Q E ⟨a, C, y, e, _⟩ => by rw [e]; rfl
/-- what the making of an exception leaves -/
theorem mk_run {K : PySem.W.Frag} {C : Addr} {H : Hp} {y : V} {Q : XK} (T : OexC K C) (hn : PySem.W.findIn K (.ref C) "value" = some none) (q : ∀ d, H d = none → Q (.ref C) (some d) (upd H d (.xd [("value", y)]))) :
    ([y] : List V).length ≤ 1000 ∧ ∀ a, H a = none → spI K (.ref a :: ([y] ++ [])) (upd H a (exo a C none))
      (fun v H2 => v = .non ∧ ∃ (d : Addr) (fs : List (Str × V)), H2 a = some (exo a C (some d)) ∧ H2 d = some (exd d fs) ∧ H d = none ∧ Q (.ref C) (some d) (upd (L2.del H2 a) d (.xd fs))) (fun _ _ _ => False) := by
  refine ⟨Nat.le_of_ble_eq_true rfl, fun a ha => ⟨a, C, y, rfl, T, hn, upd_same, fun dx hd hne => ⟨rfl, dx, [("value", y)], upd_same, ?_, ?_, ?_⟩⟩⟩
  · rw [upd_ne hne, upd_same]
  · rw [upd_ne hne] at hd; exact hd
  · have hd' : H dx = none := by rw [upd_ne hne] at hd; exact hd
    have e : upd (L2.del (upd (upd (upd H a (exo a C none)) dx (exd dx [("value", y)])) a (exo a C (some dx))) a) dx (.xd [("value", y)]) = upd H dx (.xd [("value", y)]) := by
      funext b
      by_cases h1 : b = dx
      · rw [h1, upd_same, upd_same]
      · rw [upd_ne h1, upd_ne h1]
        by_cases h2 : b = a
        · rw [h2, L2.del_same, ha]
        · rw [L2.del_ne h2, upd_ne h2, upd_ne h1, upd_ne h2]
    rw [e]
    exact q dx hd'
/-- raise C(e): the reading -/
def tRz (K : PySem.W.Frag) (C : Addr) (W : WX) (ta : TA) : TS := fun _ σ H => tMkO C (spI K) [] ta σ H fun cls d H' => W cls d σ H'
section
variable {B : Bs} {O : Ow} {F F' H H' : Hp} {σ : L2.St} {Γ : List (Option D)} {p : Addr} {K : PySem.W.Frag} {D₀ : Ends}
theorem nx_raise {C : Addr} {W : WX} {te : TE} {Φ : D → Ow → Prop} {Ξ : Addr → D → Ow → Prop} (T : OexC K C) (hn : PySem.W.findIn K (.ref C) "value" = some none) (h : EvK B te Γ O Φ) (x : XW B W Γ Ξ) (k : ∀ d O', Φ d O' → Ξ C d O') : NX B (tRz K C W (tCons te tNil) D₀) Γ O := fun F σ H s e =>
  h F σ H s e _ fun v d O' F' H' s' f r p => by
    have z := mk_run (y := v) (H := H') (Q := fun cls d H' => W cls d σ H') T hn fun dx hd => by
      have fu := fut_new (o := .xd [("value", v)]) s'.fh hd
      exact x _ σ _ C dx v d O' (s'.step fu) ((e.same f).same fu.ff) upd_same (r.same fu.ff) (k d O' p)
    exact z
theorem nx_raiseP {C : Addr} {W : WX} {te : TE} {d : D} {Ξ : Addr → D → Ow → Prop} (T : OexC K C) (hn : PySem.W.findIn K (.ref C) "value" = some none) (h : EvP B te Γ O d) (x : XW B W Γ Ξ) (k : Ξ C d O) : NX B (tRz K C W (tCons te tNil) D₀) Γ O :=
  nx_raise T hn h x fun d' O' ⟨e1, e2⟩ => by rw [e1, e2]; exact k
/-- an own object is frozen -/
theorem ST.freezeI {j : Nat} {C : Addr} {l : List (Str × D)} (s : ST B O F H) (h : O[j]? = some (p, OO.ins C l)) (hb : B.H p = none) : ∃ F', ST B (O.eraseIdx j) F' H ∧ Same F F' ∧ Rep F' (.ref p) (.ins C l) := by
  obtain ⟨o, h1, h2, dx, fs, rfl, h3⟩ := s.cell h
  have sf : Same F (upd F p (.ins C dx fs)) := fun a v q => by rw [upd_ne (fun e => by rw [e, h2] at q; cases q)]; exact q
  refine ⟨upd F p (.ins C dx fs), ⟨⟨s.fut.ff.trans sf, fun a v q => ?_, s.fut.hh, s.fut.ex, fun a q n => ?_⟩, ⟨fun q hq => ?_, s.own.nd.sublist ((List.eraseIdx_sublist _ _).map _)⟩, fun q hq => s.may q ((List.eraseIdx_sublist _ _).subset hq)⟩, sf, .ins upd_same (h3.same sf)⟩
  · by_cases e : a = p
    · subst e; rw [upd_same] at q; cases q; exact h1
    · rw [upd_ne e] at q; exact s.fh _ _ q
  · rw [upd_ne (fun e => by rw [e] at q; exact q hb)]
    exact s.fut.nf a q n
  · obtain ⟨o2, g1, g2, g3⟩ := s.own.cell q ((List.eraseIdx_sublist _ _).subset hq)
    refine ⟨o2, g1, ?_, g3.le (.of sf)⟩
    rw [upd_ne (fun z => ?_)]
    · exact g2
    · have hj : j < O.length := (List.getElem?_eq_some_iff.mp h).1
      obtain ⟨i, hi, e⟩ := List.mem_iff_getElem.mp hq
      have e' : (O.eraseIdx j)[i]? = some q := by rw [List.getElem?_eq_getElem hi, e]
      rw [List.getElem?_eraseIdx] at e'
      have a2 : (O.map (·.1))[j]? = some p := by rw [List.getElem?_map, h]; rfl
      have at_ : ∀ m, O[m]? = some q → m = j := fun m hm => by
        have a1 : (O.map (·.1))[m]? = some p := by rw [List.getElem?_map, hm, ← z]; rfl
        obtain ⟨l1, w1⟩ := List.getElem?_eq_some_iff.mp a1
        obtain ⟨l2, w2⟩ := List.getElem?_eq_some_iff.mp a2
        exact (List.getElem_inj s.own.nd).mp (w1.trans w2.symm)
      split at e'
      · have := at_ _ e'; omega
      · have := at_ _ e'; omega
/-- C(e, ..), c the promise of C's __init__ (its own argument first) -/
def tMkC (C : Addr) (c : Con) (W : WX) (ta : TA) : TE := fun σ H Q => ta σ H fun vs H1 => ∀ x dx, H1 x = none → H1 dx = none → dx ≠ x → c.sp (.ref x :: vs) (upd (upd H1 dx (.own x)) x (.ins C dx [])) (fun v H2 => v = .non ∧ Q (.ref x) H2) fun cls d H' => W cls d σ H'
theorem evk_mk {C : Addr} {c : Con} {W : WX} {ta : TA} {Φ : List D → Ow → Prop} {Ψ : D → Ow → Prop} (h : EaK B ta Γ O Φ)
    (k : ∀ ds O1, Φ ds O1 → ∀ x, B.H x = none → ∃ (g : c.G) (l : List (Str × D)), D.adr x :: ds = c.ds g ∧ c.own g = [(x, .ins C [])] ∧ c.pre g ∧ (∀ d O', c.post g d O' → d = .non ∧ O' = [(x, .ins C l)] ∧ Ψ (.ins C l) O1) ∧ XW B W Γ fun C d O' => ∃ O2, c.exn g C d O2 ∧ O' = O2 ++ O1) : EvK B (tMkC C c W ta) Γ O Ψ := fun F σ H s e Q q =>
  h F σ H s e _ fun vs ds O1 F1 H1 s1 f1 r1 p1 x dx hx hd hne => by
    obtain ⟨g, l, e1, e2, e3, e4, e5⟩ := k ds O1 p1 x (s1.bnone hx)
    have s2 := s1.step (fut_own (o := .own x) s1.fh hd)
    have hx2 : upd H1 dx (.own x) x = none := by rw [upd_ne (Ne.symm hne)]; exact hx
    have s3 := s2.laid (o := .ins C dx []) (u := .ins C []) hx2 ⟨dx, [], rfl, .nil⟩
    refine con_ask (Or := O1) g (by rw [e2]; exact s3) (by rw [← e1]; exact .cons .adr r1) e3 (fun v d O' F' H' s' f r p => ?_) fun C' dd v d O' F' H' s' f r1' r2' p => e5 F' σ H' C' dd v d _ s' ((e.same f1).same f) r1' r2' ⟨O', p, rfl⟩
    obtain ⟨rfl, rfl, w⟩ := e4 d O' p
    cases r
    obtain ⟨F2, s4, f4, r4⟩ := s'.freezeI (j := 0) rfl (s1.bnone hx)
    exact ⟨rfl, q _ _ _ F2 H' s4 ((f1.trans f).trans f4) r4 w⟩
/-- a field of a frozen object -/
theorem ev_fld {te : TE} {C : Addr} {l : List (Str × D)} {f : Str} {d : D} (h : EvP B te Γ O (.ins C l)) (c : Cls K C) (n : NoAttr K C f) (hl : l.lookup f = some d) : EvP B (tFld K te f) Γ O d := fun F σ H s e Q q =>
  h F σ H s e _ fun v d' O' F' H' s' f' r p => by
    obtain ⟨rfl, rfl⟩ := p
    cases r with
    | ins h1 h2 =>
      obtain ⟨v, g1, g2⟩ := h2.look hl
      exact ⟨_, _, _, _, v, rfl, s'.fh _ _ h1, c, n, g1, q v _ _ F' H' s' f' g2 ⟨rfl, rfl⟩⟩
def putFD (f : Str) (d : D) : List (Str × D) → List (Str × D)
  | [] => [(f, d)]
  | (g, x) :: r => if g = f then (g, d) :: r else (g, x) :: putFD f d r
theorem RepF.put : ∀ {fs : List (Str × V)} {l : List (Str × D)} {f : Str} {v : V} {d : D}, RepF F fs l → Rep F v d → RepF F (putF f v fs) (putFD f d l)
  | _, _, _, _, _, .nil, q => .cons q .nil
  | _, _, f, _, _, @RepF.cons _ g _ _ _ _ h r, q => by
    unfold putF putFD
    by_cases e : g = f
    · rw [if_pos e, if_pos e]; exact .cons q r
    · rw [if_neg e, if_neg e]; exact .cons h (r.put q)
theorem RepF.len : ∀ {fs : List (Str × V)} {l : List (Str × D)}, RepF F fs l → fs.length = l.length
  | _, _, .nil => rfl
  | _, _, .cons _ r => congrArg Nat.succ r.len
/-- self.f = e, self of one's own -/
theorem nx_fld {ta tv : TE} {C : Addr} {f : Str} {Φ : D → Ow → Prop} (h : EvK B tv Γ O Φ) (k : ∀ d O', Φ d O' → EvP B ta Γ O' (.adr p) ∧ ∃ (j : Nat) (l : List (Str × D)), O'[j]? = some (p, OO.ins C l) ∧ Cls K C ∧ NoAttr K C f ∧ l.length < 1000 ∧ NX B D₀.nx Γ (O'.set j (p, OO.ins C (putFD f d l)))) :
    NX B (sFld K ta tv f D₀) Γ O := fun F σ H s e =>
  h F σ H s e _ fun v d O' F' H' s' f' r p1 => by
    obtain ⟨ho, j, l, hj, c, n, hl, kk⟩ := k d O' p1
    refine ho F' σ H' s' (e.same f') _ fun u d2 O2 F2 H2 s2 f2 r2 p2 => ?_
    obtain ⟨rfl, rfl⟩ := p2
    cases r2
    obtain ⟨o, c1, c2, dx, fs, rfl, c3⟩ := s2.cell hj
    exact ⟨_, _, _, _, rfl, c1, c, n, by rw [c3.len]; exact hl, kk F2 σ _ (s2.write hj (u' := OO.ins C (putFD f d l)) ⟨dx, _, rfl, c3.put (r.same f2)⟩) ((e.same f').same f2)⟩
end
section
/-! calls of promises whose exceptions' context is None -/
variable {X : Cx} {k : Nat} {f : Addr} {fd : FuncData} {ps : List Str} {c : Con} {W : WX} {x : Str} {p pos : Pos} {e : Expr} {es : List Expr} {t : TA}
theorem FnOk.ofN {P : Program} {w : World} {K : PySem.W.Frag} {mg : Str → Option Value} {base : Heap} {sp : Sp} (h : FnOk P w K mg base (L2N.CX P w) k f fd ps sp) : FnOk P w K mg base (L2.CX P w) k f fd ps sp :=
  ⟨h.len, fun A outer s H args us vs Q E hr he hb hv hs => codeAny_mono (h.run A outer s H args us vs Q E hr he hb hv hs) fun r s' z => by
    match r, z with
    | .ok (.ret u), z => exact z
    | .error er, z =>
      obtain ⟨a, B, H', cls, d, e, fl, rest⟩ := z
      exact ⟨a, B, H', cls, d, e, L2H.flyingZ_imp (fun o z => z.zc) fl, rest⟩⟩
theorem pe_clN (G : FnOk X.prog X.w X.K X.mg X.base (L2N.CX X.prog X.w) k f fd ps c.sp) (hr : Room k X.A) (gl : Gl X x) (hm : X.mg x = some (.ref f)) (kp : PySem.W.keepIn X.K (.ref f) = true) (hb : Binds X.K fd ps []) (tk : L2N.Takes X W) (ha : PA X (e :: es) t)
    (n1 : (x == ("__debug__" : Str)) = false := by decide) (n2 : starEach (e :: es) X.env = (false, eval e X.env) :: starEach es X.env := by rfl) (n3 : (backTo pos (starEach es X.env)).any (·.1) = false := by rfl) : PE X (.Call (.Name x p) (e :: es) [] pos) (tCl c [] W t) := by
  constructor
  intro pins s σ H Q I h
  refine wpAny_Call_Name_kw (ld_glob I gl hm (PySem.W.callWith_K (h₀ := X.base) I.ok.mod.kin kp (thn (ha.run pos pins s σ H _ I h) fun us s1 ⟨vs, H1, I1, r, q⟩ => ⟨I1.kIn, ?_⟩) n2 n3) n1)
  have q : c.sp (vs ++ []) H1 Q fun cls d H' => W cls d σ H' := q
  have l2 : (us ++ []).length = ps.length := (r.append .nil).length.symm.trans (G.len _ _ _ _ q)
  refine wpAny_call (codeAny_mono (G.run X.A X.stack s1 H1 ⟨us, []⟩ (us ++ []) (vs ++ []) Q _ hr I1.env0 (hb s1 us I1.kIn l2) (r.append .nil) q) fun res s' z => ?_)
  match res, z with
  | .error er, z => exact tk er s' (L2N.XE.of_call I1 (fun _ _ _ q => q) z)
  | .ok (.ret u), z => exact I1.after z
/-- C(e, ..) -/
theorem pe_mkN {C : Addr} (M : Mk X.K C f) (G : FnOk X.prog X.w X.K X.mg X.base (L2N.CX X.prog X.w) k f fd ps c.sp) (hr : Room (k + 1) X.A) (gl : Gl X x) (hm : X.mg x = some (.ref C)) (hb : Binds X.K fd ps []) (tk : L2N.Takes X W) (ha : PA X (e :: es) t)
    (n1 : (x == ("__debug__" : Str)) = false := by decide) (n2 : starEach (e :: es) X.env = (false, eval e X.env) :: starEach es X.env := by rfl) (n3 : (backTo pos (starEach es X.env)).any (·.1) = false := by rfl) : PE X (.Call (.Name x p) (e :: es) [] pos) (tMkC C c W t) := by
  constructor
  intro pins s σ H Q I h
  refine wpAny_Call_Name_kw (ld_glob I gl hm (PySem.W.callWith_K (h₀ := X.base) I.ok.mod.kin M.kp (thn (ha.run pos pins s σ H _ I h) fun us s1 ⟨vs, H1, I1, r, q⟩ => ⟨I1.kIn, ?_⟩) n2 n3) n1)
  have q := q (s1.heap.objs.size + 1) s1.heap.objs.size (I1.hok.fresh (Nat.le_succ _)) (I1.hok.fresh (Nat.le_refl _)) (Nat.ne_of_lt (Nat.lt_succ_self _))
  have I2 := Inv.made (C := C) I1
  have r2 : Vals (V.ref (s1.heap.objs.size + 1) :: vs) (Value.ref (s1.heap.objs.size + 1) :: us) := .cons rfl r
  have l2 : (Value.ref (s1.heap.objs.size + 1) :: us).length = ps.length := r2.length.symm.trans (G.len _ _ _ _ q)
  have b2 := hb _ (Value.ref (s1.heap.objs.size + 1) :: us) I2.kIn (by rw [List.append_nil]; exact l2)
  rw [List.append_nil] at b2
  refine wpAny_call (make_map (f := f) I1.kIn M.makes M.init (beq_iff_eq.mp M.fn) (codeAny_mono (G.run _ X.stack _ _ ⟨Value.ref (s1.heap.objs.size + 1) :: us, []⟩ _ _ _ _ (hr.make C us []) (I2.env0.make C us []) b2 r2 q) fun res s' z => ?_))
  match res, z with
  | .error er, z => exact tk er s' (L2N.XE.of_call I2 (fun _ _ _ q => q) z)
  | .ok (.ret u), z =>
    obtain ⟨v, H', I3, rv, ev, q3⟩ := I2.after z
    subst ev
    exact ⟨rv, ⟨V.ref (s1.heap.objs.size + 1), H', I3, rfl, q3⟩⟩
end
end Kt
/-! X5: dicts, texts, lists by data; a dict walked -/
namespace Kt
open PySem PySem.Spec PyProof.Rows L2 StX
def rSplit : V → List V → Hp → VK → Prop := fun x xs H Q => ∃ a b, x = .str a ∧ xs = [.str b] ∧ (b.length == 0) = false ∧ a.length + 2 ≤ sizeLine ∧ rNewStrs (Txt.split a b) H Q
def rPartition : V → List V → Hp → VK → Prop := fun x xs H Q => ∃ a b, x = .str a ∧ xs = [.str b] ∧ (b.length == 0) = false ∧ a.length ≤ sizeLine ∧
  ∀ p, H p = none → Q (.ref p) (upd H p (.tup [.str (Txt.partition a b).1, .str (Txt.partition a b).2.1, .str (Txt.partition a b).2.2]))
/-- RULE_SIZES.get(..): a written dict is asked -/
def tGetK (K : PySem.W.Frag) (w : World) (td ty : TE) : TE := fun σ H Q => td σ H fun x H1 => ∃ (p : Addr) (es : Array DictEntry) (n : Nat), x = .ref p ∧ KDict K w p es n ∧ ty σ H1 fun y H2 => ∃ (z : Str) (r : Option Value) (v : V), y = .str z ∧ PySem.W.nsIn K p z = some r ∧ RelV v (r.getD .none) ∧ Q v H2
theorem pe_getK {X : Cx} {o e : Expr} {apos cpos : Pos} {td ty : TE} (ho : PE X o td) (he : PE X e ty) (m : M1 X o "get" apos e cpos) : PE X (.Call (.Attribute o "get" apos) [e] [] cpos) (tGetK X.K X.w td ty) := by
  constructor
  intro pins s σ H Q I h
  refine wpAny_Call_method m.base m.few m.line PySem.F.plainAttrs_dict PySem.F.slot_dict_get PySem.F.type_dict_get (thn (ho.run pins s σ H _ I h) fun u s1 ⟨x, H1, I1, rx, p, es, n, ex, kd, q1⟩ => ?_)
  subst ex
  obtain rfl : u = Value.ref p := rx
  have mo := PySem.W.mapOf_K (prog := X.prog) (w := X.w) I1.kIn kd.at_ kd.lit
  refine ⟨kd_type kd I1, mo.noDict, ?_⟩
  rw [m.trees]
  refine Calls.callWith_builtin rfl (Calls.evalArgs_plain (Calls.spliced_cons (thn (he.run pins s1 σ H1 _ I1 q1) fun iv s2 ⟨y, H2, I2, ry, z, r, v, ey, hr, rv, q2⟩ => Calls.spliced_nil ?_)))
  subst ey
  obtain ⟨t, rfl⟩ := ry
  have mo2 := PySem.W.mapOf_K (prog := X.prog) (w := X.w) I2.kIn kd.at_ kd.lit
  refine call_meetsIn PySem.F.slot_dict_get mo2.typeIs PySem.F.entry_dict_get (PySem.F.args_dict_get_2 _ _) (meets_dict_get (strKind X.prog X.w) p (strKind_is X.prog X.w z t) kd.low) ⟨_, mo2, ?_⟩
  rw [PySem.W.find_K kd.at_ hr]
  exact ⟨v, H2, I2.tok _, rv, q2⟩
section
variable {B : Bs} {O : Ow} {F F' H H' : Hp} {σ : L2.St} {Γ : List (Option D)} {p : Addr} {K : PySem.W.Frag} {D₀ : Ends}
theorem rep_strs {vs : List V} {ls : List Str} (e : vs = ls.map V.str) : RepL F vs (ls.map D.str) := by rw [e]; exact RepL.strs ls
theorem ev_split {to te : TE} {a b : Str} (ho : EvP B to Γ O (.str a)) (he : EvP B te Γ O (.str b)) (hb : (b.length == 0) = false) (hz : a.length + 2 ≤ sizeLine) : EvP B (tM1 rSplit to te) Γ O (.lst ((Txt.split a b).map .str)) := fun F σ H s e Q q =>
  ho F σ H s e _ fun v d1 O1 F1 H1 s1 f1 r1 p1 => by
    obtain ⟨rfl, rfl⟩ := p1
    cases r1
    refine ⟨⟨a, rfl⟩, he F1 σ H1 s1 (e.same f1) _ fun u d2 O2 F2 H2 s2 f2 r2 p2 => ?_⟩
    obtain ⟨rfl, rfl⟩ := p2
    cases r2
    refine ⟨a, b, rfl, rfl, hb, hz, fun p hp => ?_⟩
    have fu := fut_new (o := .lst ((Txt.split a b).map V.str)) s2.fh hp
    exact q _ _ _ _ _ (s2.step fu) ((f1.trans f2).trans fu.ff) (.lst upd_same (RepL.strs _)) ⟨rfl, rfl⟩
theorem ev_part {to te : TE} {a b : Str} (ho : EvP B to Γ O (.str a)) (he : EvP B te Γ O (.str b)) (hb : (b.length == 0) = false) (hz : a.length ≤ sizeLine) : EvP B (tM1 rPartition to te) Γ O (.tup [.str (Txt.partition a b).1, .str (Txt.partition a b).2.1, .str (Txt.partition a b).2.2]) := fun F σ H s e Q q =>
  ho F σ H s e _ fun v d1 O1 F1 H1 s1 f1 r1 p1 => by
    obtain ⟨rfl, rfl⟩ := p1
    cases r1
    refine ⟨⟨a, rfl⟩, he F1 σ H1 s1 (e.same f1) _ fun u d2 O2 F2 H2 s2 f2 r2 p2 => ?_⟩
    obtain ⟨rfl, rfl⟩ := p2
    cases r2
    refine ⟨a, b, rfl, rfl, hb, hz, fun p hp => ?_⟩
    have fu := fut_new (o := .tup [.str (Txt.partition a b).1, .str (Txt.partition a b).2.1, .str (Txt.partition a b).2.2]) s2.fh hp
    exact q _ _ _ _ _ (s2.step fu) ((f1.trans f2).trans fu.ff) (.tup upd_same (.cons .str (.cons .str (.cons .str .nil)))) ⟨rfl, rfl⟩
theorem ev_revL {te : TE} {d : D} {l : List D} (h : EvP B te Γ O d) (hd : LstOf O d l) : EvP B (tRevL K te) Γ O (.lst l.reverse) := fun F σ H s e Q q =>
  h F σ H s e _ fun v d1 O1 F1 H1 s1 f1 r1 p1 => by
    obtain ⟨rfl, rfl⟩ := p1
    obtain ⟨a, vs, rfl, h1, h2⟩ := lstOf s1 r1 hd
    refine ⟨a, vs, rfl, .inl h1, fun p hp => ?_⟩
    have fu := fut_new (o := .lst vs.reverse) s1.fh hp
    exact q _ _ _ _ _ (s1.step fu) (f1.trans fu.ff) (.lst upd_same (h2.reverse.same fu.ff)) ⟨rfl, rfl⟩
theorem ev_getK {w : World} {td ty : TE} {z : Str} {es : Array DictEntry} {n : Nat} {r : Option Value} {d : D} (hd : EvP B td Γ O (.adr p)) (kd : KDict K w p es n) (hy : EvP B ty Γ O (.str z)) (hr : PySem.W.nsIn K p z = some r) (hv : ∀ F, ∃ v, RelV v (r.getD .none) ∧ Rep F v d) : EvP B (tGetK K w td ty) Γ O d := fun F σ H s e Q q =>
  hd F σ H s e _ fun v d1 O1 F1 H1 s1 f1 r1 p1 => by
    obtain ⟨rfl, rfl⟩ := p1
    cases r1
    refine ⟨p, es, n, rfl, kd, hy F1 σ H1 s1 (e.same f1) _ fun u d2 O2 F2 H2 s2 f2 r2 p2 => ?_⟩
    obtain ⟨rfl, rfl⟩ := p2
    cases r2
    obtain ⟨v, g1, g2⟩ := hv F2
    exact ⟨z, r, v, rfl, hr, g1, q v _ _ F2 H2 s2 (f1.trans f2) g2 ⟨rfl, rfl⟩⟩
/-- d[k] = e, d of one's own -/
theorem nx_dput {td ty tv : TE} {Φ : D → Ow → Prop} (h : EvK B tv Γ O Φ) (k : ∀ d O', Φ d O' → EvP B td Γ O' (.adr p) ∧ ∃ (k : Key) (j : Nat) (l : List (Key × D)), EvP B ty Γ O' (kD k) ∧ O'[j]? = some (p, OO.dct l) ∧ l.length < sizeLine ∧ NX B D₀.nx Γ (O'.set j (p, OO.dct (putD l k d)))) :
    NX B (sDPut td ty tv D₀) Γ O := fun F σ H s e =>
  h F σ H s e _ fun v d O' F' H' s' f r p1 => by
    obtain ⟨ho, k, j, l, hi, hj, hm, kk⟩ := k d O' p1
    refine ho F' σ H' s' (e.same f) _ fun u d2 O2 F2 H2 s2 f2 r2 p2 => ?_
    obtain ⟨rfl, rfl⟩ := p2
    cases r2
    refine hi F2 σ H2 s2 ((e.same f).same f2) _ fun w d3 O3 F3 H3 s3 f3 r3 p3 => ?_
    obtain ⟨rfl, rfl⟩ := p3
    obtain rfl := r3.key
    obtain ⟨o, c1, c2, vs, rfl, c3⟩ := s3.cell hj
    refine ⟨p, _, rfl, .inl ⟨vs, k, c1, rfl, by rw [c3.len]; exact hm, rfl⟩, ?_⟩
    exact kk F3 σ _ (s3.write hj (u' := OO.dct (putD l k d)) ⟨_, rfl, c3.put ((r.same f2).same f3)⟩) (((e.same f).same f2).same f3)
/-- in a list, by data -/
theorem o2_inDt {x y d : D} {l : List D} {b : Bool} (hx : PyOf O x d) (hy : PyOf O y (.lst l)) (hb : b = true ↔ d ∈ l) : Op2 (rInD K) B O x y (.bl b) := fun F H v u s r1 r2 Q q => by
  obtain ⟨a1, a2⟩ := hx.dp (K := K) s r1
  obtain ⟨b1, b2⟩ := hy.dp (K := K) s r2
  refine ⟨_, _, a1, b1, a2, b2, ?_⟩
  have key : ∀ {l : List D}, D.isPyL l = true → (((D.pyL l).any fun z => PyData.eqv z d.py) = true ↔ d ∈ l) := by
    intro l
    induction l with
    | nil => intro _; simp [D.pyL]
    | cons e l ih =>
      intro h
      have h := Bool.and_eq_true_iff.mp h
      show (PyData.eqv e.py d.py || _) = true ↔ _
      rw [Bool.or_eq_true, ih h.2, D.eqv_iff h.1 hx.1, List.mem_cons]
      exact ⟨fun z => z.imp Eq.symm id, fun z => z.imp Eq.symm id⟩
  have e : ((D.pyL l).any fun z => PyData.eqv z d.py) = b := by
    rw [Bool.eq_iff_iff, hb]
    exact key (l := l) hy.1
  rw [e]
  exact q _ F H (.refl s.fh) .bl
/-- what == tells of bools, texts, None -/
theorem o2_neB {i j : Bool} : Op2 rNe B O (.bl i) (.bl j) (.bl (decide (i ≠ j))) := fun F H v u s r1 r2 Q q => by
  cases r1; cases r2
  refine ⟨rfl, ?_⟩
  have e : (!decide (V.bl i = V.bl j)) = decide (i ≠ j) := by cases i <;> cases j <;> rfl
  rw [e]
  exact q _ F H (.refl s.fh) .bl
/-- a dict of one's own is walked: it is locked -/
theorem evk_lockE {te : TE} {l : List (Key × D)} (k : Nat) (hO : O[k]? = some (p, OO.dct l)) {Ψ : D → Ow → Prop} (h : ∀ od kvs, EvK B te Γ (O.set k (p, .frd od kvs l)) fun d O' => O'[k]? = some (p, OO.frd od kvs l) ∧ Ψ d (O'.set k (p, .dct l))) : EvK B (tLockE te) Γ O Ψ := fun F σ H s e Q q => by
  obtain ⟨o, c1, c2, kvs, rfl, c3⟩ := s.cell hO
  refine ⟨p, .dK kvs, c1, trivial, fun od => ?_⟩
  have s1 := s.write hO (u' := OO.frd od kvs l) (o' := .frz od (.dK kvs)) ⟨rfl, c3⟩
  refine h od kvs F σ _ s1 e _ fun v d O' F' H' s' f r ⟨hk, hw⟩ => ?_
  obtain ⟨o2, d1, d2, rfl, d3⟩ := s'.cell hk
  exact ⟨d1, q v d _ F' _ (s'.write hk (u' := OO.dct l) (o' := .dK kvs) ⟨kvs, rfl, d3⟩) f r hw⟩
/-- its keys -/
theorem ei_keys {te : TE} {od : Obj} {kvs : List (Key × V)} {l : List (Key × D)} (h : EvP B te Γ O (.adr p)) (hO : (p, OO.frd od kvs l) ∈ O) : EiP B (iKeys te) Γ O l.length (fun i => kD ((l.map (·.1)).getD i (.inl 0))) fun O' => (p, OO.frd od kvs l) ∈ O' := fun F σ H s e R q =>
  h F σ H s e _ fun v d' O' F' H' s' f r p1 => by
    obtain ⟨rfl, rfl⟩ := p1
    cases r
    obtain ⟨o, c1, c2, rfl, c3⟩ := s'.own.cell _ hO
    refine ⟨p, od, rfl, .inl ⟨kvs, c1, q _ F' H' s' f fun i B' O' G I s2 f2 hO2 => ?_⟩⟩
    obtain ⟨o2, d1, d2, rfl, d3⟩ := s2.own.cell _ hO2
    have w := walk_keys (d := p) (o := od) (kvs := kvs)
    refine ⟨fun lt => w.goes i I (by rw [c3.len]; exact lt) d1, fun e => by rw [e, ← c3.len]; exact w.stops I d1, fun lt x I' y => ?_⟩
    obtain ⟨e1, k, v, e2, e3⟩ := w.yields i I x I' (by rw [c3.len]; exact lt) d1 y
    subst e1 e3
    refine ⟨G, .refl s2.fh, ?_⟩
    have ek : (l.map (·.1)).getD i (.inl 0) = k := by
      rw [List.getD_eq_getElem?_getD, ← c3.keys, List.getElem?_map, e2]; rfl
    show Rep G _ (kD ((l.map (·.1)).getD i (.inl 0)))
    rw [ek]
    exact rep_key
theorem ev_lcP {wi : TI} {g : TG} {tt : TT} {te : TE} {vs : List Nat} {n : Nat} {y : Nat → D} {l : List D} {b : D → Bool} {f : D → D} {P : Ow → Prop} (hi : EiP B wi Γ O n y P) (hP : ∀ q, P (q :: O)) (hl : (List.range n).map y = l) (hgi : GIn g vs) (hz : n ≤ sizeLine)
    (hs : ∀ B' x, x ∈ l → ∃ Γ2, GtP K g x (wipeD Γ vs) Γ2 ∧ EtP B' tt Γ2 O (b x) ∧ (b x = true → EvP B' te Γ2 O (f x))) : EvP B (tLc wi g tt te vs) Γ O (.lst ((l.filter b).map f)) := by
  have hn : l.length = n := by rw [← hl]; simp
  refine evk_lcP (K := K) hi (fun i acc O1 => O1 = O ∧ acc = ((l.take i).filter b).map f) (fun i acc O1 q ⟨e, _⟩ => by rw [e]; exact hP q) ⟨rfl, by simp⟩ hgi (fun B' i acc O1 up lt ⟨eo, ea⟩ => ?_) (fun i acc O1 ⟨_, ea⟩ hi => ?_) fun acc O1 ⟨eo, ea⟩ => ⟨?_, eo⟩
  · have hx := range_at hl lt
    obtain ⟨Γ2, h1, h2, h3⟩ := hs B' (y i) (List.mem_of_getElem? hx)
    subst eo
    refine ⟨Γ2, h1, h2.imp fun b' O' ⟨e1, e2⟩ => ?_⟩
    subst e1 e2
    refine ⟨fun hb => ⟨rfl, ?_⟩, fun hb => (h3 hb).imp fun d O3 ⟨q1, q2⟩ => ⟨q2, ?_⟩⟩
    · rw [take_snoc hx, List.filter_append, ea]; simp [hb]
    · rw [take_snoc hx, List.filter_append, ea, q1]; simp [hb]
  · rw [ea, List.length_map]
    exact Nat.le_trans (List.length_filter_le _ _) (by rw [List.length_take]; omega)
  · rw [ea, ← hn, List.take_length]
theorem ev_lcK {te0 : TE} {g : TG} {tt : TT} {te : TE} {vs : List Nat} {od : Obj} {kvs : List (Key × V)} {l : List (Key × D)} {b : D → Bool} {f : D → D} (h : EvP B te0 Γ O (.adr p)) (hO : (p, OO.frd od kvs l) ∈ O) (hgi : GIn g vs) (hz : l.length ≤ sizeLine)
    (hs : ∀ B' x, x ∈ l.map (fun q => kD q.1) → ∃ Γ2, GtP K g x (wipeD Γ vs) Γ2 ∧ EtP B' tt Γ2 O (b x) ∧ (b x = true → EvP B' te Γ2 O (f x))) : EvP B (tLc (iKeys te0) g tt te vs) Γ O (.lst (((l.map fun q => kD q.1).filter b).map f)) := by
  refine ev_lcP (K := K) (ei_keys h hO) (fun q => List.mem_cons_of_mem _ hO) ?_ hgi hz hs
  apply List.ext_getElem?
  intro i
  rw [List.getElem?_map, List.getElem?_map]
  by_cases hi : i < l.length
  · rw [List.getElem?_range hi, List.getElem?_eq_getElem hi]
    simp [hi]
  · rw [List.getElem?_eq_none (by simpa using hi), List.getElem?_eq_none (by simpa using hi)]
    rfl
/-- a property of a frozen object -/
theorem ev_prop {c : Con} {C : Addr} {te : TE} {l : List (Str × D)} {d : D} (g : c.G) (h : EvP B te Γ O (.ins C l)) (e1 : c.ds g = [.ins C l]) (e2 : c.own g = []) (e3 : c.pre g) (e4 : ∀ d' O', c.post g d' O' → d' = d ∧ O' = []) (e5 : ∀ C d O', ¬ c.exn g C d O') : EvP B (tProp C c.sp [] (fun _ _ _ => False) te) Γ O d := fun F σ H s e Q q =>
  h F σ H s e _ fun v d1 O1 F1 H1 s1 f1 r1 p1 => by
    obtain ⟨rfl, rfl⟩ := p1
    have r1' := r1
    cases r1 with
    | ins h1 h2 =>
      refine ⟨_, _, _, rfl, s1.fh _ _ h1, ?_⟩
      refine con_ask (Or := O1) g (by rw [e2]; exact s1) (by rw [e1]; exact .cons r1' .nil) e3 (fun v d' O' F' H' s' f r p => ?_) fun C' dd v d' O' F' H' s' f _ _ p => (e5 C' d' O' p).elim
      obtain ⟨rfl, rfl⟩ := e4 d' O' p
      exact q v _ _ F' H' s' (f1.trans f) r ⟨rfl, rfl⟩
/-- the parts of f'..' -/
inductive JsP (B : Bs) (Γ : List (Option D)) (O : Ow) : List TE → List Str → Prop
  | nil : JsP B Γ O [] []
  | cons {t : TE} {y : Str} {ts : List TE} {ys : List Str} : EvP B t Γ O (.str y) → JsP B Γ O ts ys → JsP B Γ O (t :: ts) (y :: ys)
/-- f'..' -/
theorem ev_joined {ts : List TE} {ys : List Str} (h : JsP B Γ O ts ys) (hz : ∀ n, ((ys.take n).foldl (· ++ ·) Str.empty).length ≤ sizeLine) : EvP B (tJoined ts) Γ O (.str (ys.foldl (· ++ ·) Str.empty)) := fun F σ H s e Q q => by
  have go : ∀ {ts : List TE} {ys : List Str} (acc : Str) (F H : Hp), JsP B Γ O ts ys → (∀ n, ((ys.take n).foldl (· ++ ·) acc).length ≤ sizeLine) → ST B O F H → EnvD F σ Γ →
      ∀ R : Str → Hp → Prop, (∀ F' H', ST B O F' H' → Same F F' → R (ys.foldl (· ++ ·) acc) H') → tJs ts acc σ H R := by
    intro ts
    induction ts with
    | nil =>
      intro ys acc F H h _ s e R k
      cases h
      exact k F H s (Same.refl F)
    | cons t ts ih =>
      intro ys acc F H h hz s e R k
      cases h with
      | @cons _ y _ ys h1 h2 =>
        refine h1 F σ H s e _ fun v d O' F' H' s' f r p => ?_
        obtain ⟨rfl, rfl⟩ := p
        cases r
        refine ⟨y, rfl, by have := hz 1; simpa using this, ?_⟩
        exact ih (acc ++ y) F' H' h2 (fun n => by have := hz (n + 1); simpa using this) s' (e.same f) R fun F2 H2 s2 f2 => k F2 H2 s2 (f.trans f2)
  exact go Str.empty F H h hz s e _ fun F' H' s' f => q _ _ _ F' H' s' f .str ⟨rfl, rfl⟩
theorem ev_fmt {te : TE} {y : Str} (h : EvP B te Γ O (.str y)) (hz : y.length ≤ sizeLine) : EvP B (tFmt te) Γ O (.str y) := fun F σ H s e Q q =>
  h F σ H s e _ fun v d1 O1 F1 H1 s1 f1 r1 p1 => by
    obtain ⟨rfl, rfl⟩ := p1
    cases r1
    exact .inl ⟨y, rfl, hz, q _ _ _ F1 H1 s1 f1 .str ⟨rfl, rfl⟩⟩
end
end Kt
/-! X6: try, by data -/
namespace Kt
open PySem PySem.Spec PyProof.Rows L2 StX
/-- raise C(..) from n: a the exception that is handled, cls its class, i the slot of n -/
def tRzF (K : PySem.W.Frag) (C : Addr) (a : Addr) (i : Nat) (cls : Value) (W : WX) (ta : TA) : TS := fun _ σ H => PySem.W.subIn K cls (.type "BaseException") = some true ∧
  tMkO C (spI K) [] ta σ H fun cls' d H' => σ[i]? = some (some (.ref a)) ∧ W cls' d σ H'
def tTryTup (K : PySem.W.Frag) (cs : List Value) (i : Nat) (ts : Addr → Value → Option Addr → TS) (tb : WX → TS) : TS := fun D σ H => tb (wTup K cs i ts D) D σ H
def tTryAs (K : PySem.W.Frag) (c : Value) (i : Nat) (ts : Addr → Value → Option Addr → TS) (Wout : WX) (tb : WX → TS) : TS := fun D σ H => tb (wAs K c i ts Wout D) D σ H
/-- the promise of KeyTellError.__init__ while an exception is handled -/
theorem fnh_init {P : Program} {w : World} {K : PySem.W.Frag} {mg : Str → Option Value} {base : Heap} {f : Addr} {fd : FuncData} {pa : Arguments} {body : List Stmt} {scope : Scope} (Fd : FunD K "__init__" "KeyTellError.__init__" pa body scope [] [] f fd) (S : FnScope ["self", "value"] ["self", "value"] scope)
    (hb : ∀ (A : Around) (outer : List Env) (s : Shared) (H : Hp) (E : XK) (cdv : Value) (p : Addr × Obj), PSs (L2H.cxH (L2.CX P w) P w K mg base ["self", "value"] "KeyTellError.__init__" scope f cdv A outer s H E p) body (tInit K)) : L2H.FnH P w K mg base (L2.CX P w) 1 f fd ["self", "value"] (spI K) := by
  obtain ⟨oc, od, dV, kV, doc, pm, an, cdv, ct, osl, e, lk, hcd, _⟩ := Fd.ex
  subst e
  exact L2H.fn_ofH lk hcd S spI_len fun A outer s H vs Q E p hot hr hs => ⟨tInit K, hb A outer s H E cdv p, tInit_ok hs⟩
section
variable {B : Bs} {O : Ow} {F F' H H' : Hp} {σ : L2.St} {Γ : List (Option D)} {p : Addr} {K : PySem.W.Frag} {D₀ : Ends}
theorem nx_raiseF {C a : Addr} {i : Nat} {cls : Value} {W : WX} {te : TE} {d : D} {Ξ : Addr → D → Ow → Prop} (hs : PySem.W.subIn K cls (.type "BaseException") = some true) (T : OexC K C) (hn : PySem.W.findIn K (.ref C) "value" = some none) (hi : Γ[i]? = some (some (.adr a))) (h : EvP B te Γ O d) (x : XW B W Γ Ξ) (k : Ξ C d O) : NX B (tRzF K C a i cls W (tCons te tNil) D₀) Γ O := fun F σ H s e =>
  ⟨hs, h F σ H s e _ fun v d' O' F' H' s' f r p => by
    obtain ⟨rfl, rfl⟩ := p
    have hσ : σ[i]? = some (some (.ref a)) := by
      obtain ⟨u, h1, h2⟩ := e.2 i _ hi
      cases h2
      exact h1
    have z := mk_run (y := v) (H := H') (Q := fun cls d H' => σ[i]? = some (some (.ref a)) ∧ W cls d σ H') T hn fun dx hd => by
      have fu := fut_new (o := .xd [("value", v)]) s'.fh hd
      exact ⟨hσ, x _ σ _ C dx v _ _ (s'.step fu) ((e.same f).same fu.ff) upd_same (r.same fu.ff) k⟩
    exact z⟩
theorem nx_tryTup {cs : List Value} {i : Nat} {ts : Addr → Value → Option Addr → TS} {tb : WX → TS} {Ξ : Addr → D → Ow → Prop} (hb : XW B (wTup K cs i ts D₀) Γ Ξ → NX B (tb (wTup K cs i ts D₀) D₀) Γ O)
    (hs : ∀ C d O' dd a, Ξ C d O' → PySem.W.exmAny K (.ref C) cs = some true ∧ NX B (ts a (.ref C) (some dd) { nx := fun σ' H' => D₀.nx (σ'.set i none) H', rt := D₀.rt, bk := fun σ' H' => D₀.bk (σ'.set i none) H', ct := fun σ' H' => D₀.ct (σ'.set i none) H' }) (Γ.set i (some (.adr a))) O') :
    NX B (tTryTup K cs i ts tb D₀) Γ O :=
  hb fun F σ H C dd v d O' s e r1 r2 x => ⟨(hs C d O' dd 0 x).1, fun a ha => (hs C d O' dd a x).2 F _ H s (e.set .adr)⟩
/-- an exception that the suite holds: its dict stands in the frozen heap -/
theorem nx_tryAs {c : Value} {i : Nat} {ts : Addr → Value → Option Addr → TS} {Wout : WX} {tb : WX → TS} {Ξ : Addr → D → Ow → Prop} (hb : XW B (wAs K c i ts Wout D₀) Γ Ξ → NX B (tb (wAs K c i ts Wout D₀) D₀) Γ O)
    (hs : ∀ C d O' dd a v, Ξ C d O' → PySem.W.exmOne K (.ref C) c = some true ∧ ∀ F H σ, ST B O' F H → EnvD F σ (Γ.set i (some (.adr a))) → F dd = some (.xd [("value", v)]) → Rep F v d →
      ts a (.ref C) (some dd) { nx := fun σ' H' => D₀.nx (σ'.set i none) H', rt := D₀.rt, bk := fun σ' H' => D₀.bk (σ'.set i none) H', ct := fun σ' H' => D₀.ct (σ'.set i none) H' } σ H) :
    NX B (tTryAs K c i ts Wout tb D₀) Γ O :=
  hb fun F σ H C dd v d O' s e r1 r2 x => ⟨true, (hs C d O' dd 0 v x).1, fun _ a ha => (hs C d O' dd a v x).2 F H _ s (e.set .adr) r1 r2, fun z => by cases z⟩
theorem nx_unset {X : L2.St → Hp → Prop} {i : Nat} (h : NX B X (Γ.set i none) O) : NX B (fun σ H => X (σ.set i none) H) Γ O := fun F σ H s e => h F _ H s e.unset
end
end Kt
set_option maxHeartbeats 4000000
/-! X7: isinstance of an exception with a dict; calls by a keyword alone; texts repeated; sets of texts -/
namespace Kt
open PySem PySem.Spec PyProof.Rows L2 StX
namespace Xo
open PySem.W PySem.Calls
section
variable {prog : Program} {w : World} {A : Around} {E : Value → Shared → Prop} {s : Shared} {K : Frag} {x D : Addr} {ox : Obj} {od : Option Obj}
theorem find_class (C : ExcC K D) : findObj K D od "__class__" = some (.bind (.builtin "getset_descriptor.__get__") (.builtin "object.__class__")) := by
  obtain ⟨cd, hc, _⟩ := any_some C.hd
  unfold findObj
  rw [hc, Option.bind_some, C.ha, Option.bind_some]
  simp [C.hn, C.ht]
theorem ask_class {Q : Option Value → Shared → Prop} (C : ExcC K D) (X : K.In s.heap) (I : InstAt s.heap x ox D od) (h : Q (some (.ref D)) { s with toks := s.toks + 1 }) : wpAny (model prog w) A (getAttr? (.ref x) "__class__") Q E s := by
  have hf := find_class (od := od) C
  obtain ⟨hp, g, d, t, os⟩ := s
  have t0 := I.type (M := model prog w)
  have t1 := looks_findIn (M := model prog w) X C.hg
  have t2 := looks_findIn (M := model prog w) X C.hk
  have t3 := looks_find (M := model prog w) X I hf
  have sub : Looks (model prog w) hp (isInstance (.ref x) (.type "BaseException")) true := t0.andThen (looks_subIn X C.hs)
  have k0 : (false && onTheHeap (Value.builtin "BaseException.__getattribute__")) = false := rfl
  have k2 : (Value.builtin "BaseException.__getattribute__" == Value.builtin "object.__getattribute__") = false := by decide +kernel
  have k1 : (onTheHeap (Value.ref D) && Value.builtin "BaseException.__getattribute__" == Value.builtin "object.__getattribute__") = false := by rw [k2] <;> rfl
  unfold getAttr? getAttrBy? getAttrBy
  refine wpAny_bind (wpAny_mkText (wpAny_bind (wpAny_attempt (wpAny_holding (wpAny_bind (t0.at (wpAny_bind (t1.at ?_))))))))
  show wpAny _ _ (if (onTheHeap (Value.ref D) && Value.builtin "BaseException.__getattribute__" == Value.builtin "object.__getattribute__") = true then _ else _) _ _ _
  rw [k1, if_neg Bool.false_ne_true]
  unfold getAttrByItsOwn hookBefore
  refine wpAny_bind ?_
  rw [if_pos (show onTheHeap (Value.ref D) = true from rfl)]
  refine t2.at (wpAny_bind (wpAny_attempt (wpAny_holding ?_)))
  unfold callGetattribute
  rw [k0, if_neg Bool.false_ne_true]
  unfold boundAndCalled
  rw [PySem.F.excAttr_ValueError.ga.bind (.ref x)]
  refine wpAny_bind (wpAny_pure ?_)
  show wpAny _ _ (call (.builtin "BaseException.__getattribute__") [.ref x, .str "__class__" t]) _ _ _
  refine wpAny_call (codeAny_call_builtin PySem.F.excAttr_ValueError.ga.plain PySem.F.entry_bexc_ga (@check_slot (model prog w) _ _ ⟨hp, g, d, t + 1, os⟩ "BaseException.__getattribute__" "BaseException" "__getattribute__" (.ref x) [.str "__class__" t] [] _ (by decide +kernel) (by decide +kernel) sub (PySem.F.args_bexc_ga (.ref x) (.str "__class__" t)) ?_))
  unfold Builtin.«object.__getattribute__»
  refine wpAny_bind (wpAny_of_eq (a := ((Value.ref x : Value), [Value.str "__class__" t])) (by first | rfl | (simp only [slotArgs]; rfl)) ?_)
  refine wpAny_bind (wpAny_pure (wpAny_bind (t0.at (wpAny_bind (t3.at ?_)))))
  show wpAny _ _ (holding [Value.builtin "object.__class__"] (call (.builtin "getset_descriptor.__get__") [.builtin "object.__class__", .ref x, .ref D]) >>= ret) _ _ _
  refine wpAny_bind (wpAny_holding (wpAny_call (class_get (s := ⟨hp, g, d, t + 1, os⟩) (ox := ox) (od := od) X I C.hm (wpAny_pure ?_))))
  show wpAny _ _ (handedOut (.ref D)) _ _ _
  rw [handedOut_of (v := .ref D) rfl]
  first
    | exact wpAny_pure (wpAny_pure h)
    | exact wpAny_pure h
    | exact wpAny_pure (wpAny_bind (wpAny_pure (wpAny_pure h)))
theorem kitx_o (C : ExcC K D) : KitX K (.ref x) (.ref D) (fun h => InstAt h x ox D od) where
  ty := fun _ _ _ I => I.type
  it := fun _ _ X _ => by
    obtain ⟨cdD, hcD, _⟩ := any_some C.hd
    unfold clsIn at hcD
    split at hcD
    · rename_i c' d' cd' sl' ho
      intro A' Q' E' s' k q
      unfold isType loadHead
      exact wpAny_bind (wpAny_loadPart (k _ _ (X _ _ ho)) (wpAny_pure q))
    · cases hcD
  ne := fun h tp dd its n sl X htp => by
    obtain ⟨cdD, hcD, _⟩ := any_some C.hd
    refine Bool.eq_false_iff.mpr fun q => ?_
    obtain rfl : D = tp := Value.ref.inj (beq_iff_eq.mp q)
    unfold clsIn at hcD
    split at hcD
    · rename_i c' d' cd' sl' ho
      cases (X _ _ ho).symm.trans htp
    · cases hcD
  ca := fun X I k => ask_class C X I k
end
end Xo
/-- the suite's exception is asked: isinstance(e, C), isinstance(e, (C, ..)) -/
def rIsO (K : PySem.W.Frag) (D a dd : Addr) : List V → Hp → VK → Prop := fun xs H Q => (∃ fs, H dd = some (.xd fs)) ∧ ((∃ (C : Addr) (b : Bool), xs = [.ref a, .ref C] ∧ PySem.W.kitOne K (.ref D) (.ref C) = some b ∧ Q (.bl b) H) ∨
  ∃ (tp : Addr) (cs : List Addr) (b : Bool), xs = [.ref a, .ref tp] ∧ H tp = some (.tup (cs.map V.ref)) ∧ PySem.W.kitAny K (.ref D) (cs.map Value.ref) = some b ∧ Q (.bl b) H)
theorem refs_of : ∀ {cs : List Addr} {us : List Value}, Vals (cs.map V.ref) us → us = cs.map Value.ref
  | [], _, .nil => rfl
  | c :: cs, _, .cons h r => by
    cases h
    rw [refs_of r]; rfl
theorem call_isO {X : Cx} {a D dd : Addr} {oe : Obj} {pn : List (Addr × Obj)} (C : ExcC X.K D) (hz : Zc (.ref D) (some dd) oe) (hf : ∃ vs, oe.data = .fields vs) : CallR (X.suite a ((a, oe) :: pn)) (.builtin "isinstance") (rIsO X.K D a dd) := by
  intro pins s σ H xs us Q I r h
  obtain ⟨⟨fs, hd⟩, h⟩ := h
  obtain ⟨hget, _⟩ := I.pin (a, oe) (List.mem_append.mpr (.inl List.mem_cons_self))
  have hx : ObjOk X.prog X.w H s.heap dd (.xd fs) := I.hok dd _ hd
  obtain ⟨mA, hns, _⟩ := hx
  obtain ⟨od, ho, _⟩ := lookIn_ns hns
  obtain ⟨vs, hv⟩ := hf
  have J : PySem.W.InstAt s.heap a oe D (some od) := ⟨hget, hz.1, by unfold PySem.W.notCls; rw [hv] <;> rfl, by rw [hz.2]; exact ho⟩
  rcases h with ⟨C', b, rfl, e, q⟩ | ⟨tp, cs, b, rfl, hT, e, q⟩
  · obtain ⟨u1, u2, rfl, r1, r2⟩ := vals2 r
    cases r1; cases r2
    exact PySem.W.kia_one (Xo.kitx_o C) I.kIn J e (fun z => nomatch z) fun tk => ⟨.bl b, H, I.tok tk, rfl, q⟩
  · obtain ⟨u1, u2, rfl, r1, r2⟩ := vals2 r
    cases r1; cases r2
    obtain ⟨_, its, rv, o, h1, h2, n, h3⟩ := (show ObjOk X.prog X.w H s.heap tp (.tup (cs.map V.ref)) from I.hok tp _ hT)
    have e3 := refs_of rv
    subst e3
    obtain ⟨oc, od', dt, sl⟩ := o
    simp only at h2 h3
    subst h2 h3
    exact PySem.W.kia_tup (Xo.kitx_o C) I.kIn J h1 e (fun z => nomatch z) fun tk => ⟨.bl b, H, I.tok tk, rfl, q⟩
/-- f(k = e) -/
def BindK1 (fd : FuncData) (n : Str) : Prop := ∀ (s : Shared) (u : Value), BindsTo s fd ⟨[], [(n, u)]⟩ [(n, u)]
theorem bindK1_of {K : PySem.W.Frag} {x qual n : Str} {pa : Arguments} {body : List Stmt} {scope : Scope} {kws : List (Str × V)} {f : Addr} {fd : FuncData} (F : FunD K x qual pa body scope [] kws f fd)
    (h : ∀ (kV doc pm : Value) (an : Option Addr) (cdv ct u : Value), bindArgs (PySem.W.fnOf x qual pa body scope .none kV doc pm an cdv ct) ⟨[], [(n, u)]⟩ = pure [(n, u)]) : BindK1 fd n := by
  obtain ⟨oc, od, dV, kV, doc, pm, an, cdv, ct, osl, rfl, lk, hcd, hD, hK⟩ := F.ex
  rcases hD with ⟨_, rfl⟩ | ⟨e, _⟩
  · exact fun s u => BindsTo.of_eq (h kV doc pm an cdv ct u)
  · exact absurd rfl e
section
variable {X : Cx} {k : Nat} {f : Addr} {fd : FuncData} {n : Str} {c : Con} {W : WX} {x : Str} {p pos kpos : Pos} {e : Expr} {te : TE}
theorem pe_clK1 (G : FnOk X.prog X.w X.K X.mg X.base (L2.CX X.prog X.w) k f fd [n] c.sp) (hr : Room k X.A) (gl : Gl X x) (hm : X.mg x = some (.ref f)) (kp : PySem.W.keepIn X.K (.ref f) = true) (hb : BindK1 fd n) (tk : Takes X W) (he : PE X e te)
    (n1 : (x == ("__debug__" : Str)) = false := by decide) (hall : (backToKw pos (keywordEach [⟨some n, e, kpos⟩] X.env)).all (·.1.isSome) = true := by rfl) (hks : (backToKw pos (keywordEach [⟨some n, e, kpos⟩] X.env)).filterMap (·.1) = [n] := by rfl)
    (hpl : ((backTo pos (starEach [] X.env)).any (·.1) || (backToKw pos (keywordEach [⟨some n, e, kpos⟩] X.env)).any (·.1.isNone)) = false := by rfl) : PE X (.Call (.Name x p) [] [⟨some n, e, kpos⟩] pos) (tCl c [] W (tCons te tNil)) := by
  constructor
  intro pins s σ H Q I h
  refine wpAny_Call_Name_kw (ld_glob I gl hm (PySem.W.callWith_KW0 I.kIn kp hall (thn ((pk_cons (nm := some n) (kpos := kpos) he pk_nil).run pos pins s σ H _ I h) fun us s1 ⟨vs, H1, I1, r, q⟩ => ⟨I1.kIn, ?_⟩) hpl) n1)
  rw [hks]
  have q : c.sp (vs ++ []) H1 Q fun cls d H' => W cls d σ H' := q
  rw [List.append_nil] at q
  have hl := G.len _ _ _ _ q
  match vs, us, r, hl with
  | [v], _, .cons r1 .nil, _ =>
    refine wpAny_call (codeAny_mono (G.run X.A X.stack s1 H1 ⟨[], [(n, _)]⟩ [_] [v] Q _ hr I1.env0 (hb s1 _) (.cons r1 .nil) q) fun res s' z => ?_)
    match res, z with
    | .error er, z => exact tk er s' (XE.of_call I1 (fun _ _ _ q => q) z)
    | .ok (.ret u), z => exact I1.after z
end
/-- the same, its class and dict told by the reading -/
def rIsC (K : PySem.W.Frag) (D a : Addr) (cls : Value) (d : Option Addr) : List V → Hp → VK → Prop := fun xs H Q => cls = .ref D ∧ ∃ dd, d = some dd ∧ rIsO K D a dd xs H Q
theorem call_isC {X : Cx} {a D : Addr} {oe : Obj} {cls : Value} {d : Option Addr} {pn : List (Addr × Obj)} (C : ExcC X.K D) (hz : Zc cls d oe) (hf : ∃ vs, oe.data = .fields vs) : CallR (X.suite a ((a, oe) :: pn)) (.builtin "isinstance") (rIsC X.K D a cls d) := by
  intro pins s σ H xs us Q I r h
  obtain ⟨rfl, dd, rfl, h⟩ := h
  exact call_isO C hz hf pins s σ H xs us Q I r h
section
variable {B : Bs} {O : Ow} {F F' H H' : Hp} {σ : L2.St} {Γ : List (Option D)} {p : Addr} {K : PySem.W.Frag} {D₀ : Ends}
theorem refs_of2 : ∀ {cs : List Addr} {vs : List V}, RepL F vs (cs.map D.adr) → vs = cs.map V.ref
  | [], _, .nil => rfl
  | c :: cs, _, .cons h r => by
    cases h
    rw [refs_of2 r]; rfl
theorem on_isC {U a dd : Addr} {fs : List (Str × V)} {C : Addr} {b : Bool} (hF : B.F dd = some (.xd fs)) (hk : PySem.W.kitOne K (.ref U) (.ref C) = some b) : OpN (rIsC K U a (.ref U) (some dd)) B O [.adr a, .adr C] (.bl b) := fun F H vs s r Q q => by
  obtain ⟨v, u, rfl, r1, r2⟩ := two r
  cases r1; cases r2
  exact ⟨rfl, dd, rfl, ⟨fs, s.fh _ _ (s.fut.ff _ _ hF)⟩, .inl ⟨C, b, rfl, hk, q _ F H (.refl s.fh) .bl⟩⟩
theorem on_isCT {U a dd : Addr} {fs : List (Str × V)} {cs : List Addr} {b : Bool} (hF : B.F dd = some (.xd fs)) (hk : PySem.W.kitAny K (.ref U) (cs.map Value.ref) = some b) : OpN (rIsC K U a (.ref U) (some dd)) B O [.adr a, .tup (cs.map .adr)] (.bl b) := fun F H vs s r Q q => by
  obtain ⟨v, u, rfl, r1, r2⟩ := two r
  cases r1
  cases r2 with
  | tup h1 h2 =>
    have e := refs_of2 h2
    subst e
    exact ⟨rfl, dd, rfl, ⟨fs, s.fh _ _ (s.fut.ff _ _ hF)⟩, .inr ⟨_, cs, b, rfl, s.fh _ _ h1, hk, q _ F H (.refl s.fh) .bl⟩⟩
theorem ev_xf {U a dd : Addr} {fs : List (Str × V)} {n : Str} {v : V} {d : D} {te : TE} (hF : B.F dd = some (.xd fs)) (hl : fs.lookup n = some v) (hR : Rep B.F v d) (h : EvP B te Γ O (.adr a)) : EvP B (tXf a (.ref U) (some dd) U n te) Γ O d := fun F σ H s e Q q =>
  h F σ H s e _ fun v' d' O' F' H' s' f r p => by
    obtain ⟨rfl, rfl⟩ := p
    cases r
    exact ⟨rfl, rfl, dd, fs, v, rfl, s'.fh _ _ (s'.fut.ff _ _ hF), hl, q v _ _ F' H' s' f (hR.same s'.fut.ff) ⟨rfl, rfl⟩⟩
end
end Kt
/-! X8: walks over what is made on the way -/
namespace Kt
open PySem PySem.Spec PyProof.Rows L2 StX
section
variable {B : Bs} {O : Ow} {F F' H H' : Hp} {σ : L2.St} {Γ : List (Option D)} {p : Addr} {K : PySem.W.Frag} {D₀ : Ends}
theorem ev_at {F1 : Hp} {v : V} {d : D} {O1 : Ow} (r : Rep F1 v d) : EvP ⟨F1, B.H, B.M⟩ (fun _ H Q => Q v H) Γ O1 d := fun F σ H s e Q q => q v d O1 F H s (Same.refl F) (r.same s.fut.ff) ⟨rfl, rfl⟩
theorem ea_at {F1 : Hp} {vs : List V} {ds : List D} {O1 : Ow} (r : RepL F1 vs ds) : EaP ⟨F1, B.H, B.M⟩ (fun _ H Q => Q vs H) Γ O1 ds := fun F σ H s e Q q => q vs ds O1 F H s (Same.refl F) (r.same s.fut.ff) ⟨rfl, rfl⟩
theorem nx_forL {te : TE} {g : TG} {tb : TS} {Φ : D → Ow → Prop} (h : EvK B te Γ O Φ) (k : ∀ d O1, Φ d O1 → ∀ B' te', Up B B' → B'.H = B.H → EvP B' te' Γ O1 d → NX B' (tFor (iList K te') g tb D₀) Γ O1) : NX B (tFor (iList K te) g tb D₀) Γ O := fun F σ H s e =>
  h F σ H s e _ fun v d O1 F1 H1 s1 f1 r p => k d O1 p ⟨F1, B.H, B.M⟩ (fun _ H Q => Q v H) (up_mk s1) rfl (ev_at r) F1 σ H1 (st_up s1 s1 (Same.refl _)) (e.same f1)
theorem nx_forR {ta : TA} {g : TG} {tb : TS} {Φ : List D → Ow → Prop} (h : EaK B ta Γ O Φ) (k : ∀ ds O1, Φ ds O1 → ∀ B' ta', Up B B' → B'.H = B.H → EaP B' ta' Γ O1 ds → NX B' (tFor (iRng1 ta') g tb D₀) Γ O1) : NX B (tFor (iRng1 ta) g tb D₀) Γ O := fun F σ H s e =>
  h F σ H s e _ fun vs ds O1 F1 H1 s1 f1 r p => k ds O1 p ⟨F1, B.H, B.M⟩ (fun _ H Q => Q vs H) (up_mk s1) rfl (ea_at r) F1 σ H1 (st_up s1 s1 (Same.refl _)) (e.same f1)
theorem evk_up {B' : Bs} {te : TE} {Φ : D → Ow → Prop} (u : Up B B') {F1 : Hp} (hF : B'.F = F1) (h : EvK B' te Γ O Φ) {σ : L2.St} {H : Hp} (s : ST B' O F1 H) (e : EnvD F1 σ Γ) (Q : VK) (q : ∀ v d O' F' H', ST B O' F' H' → Same F1 F' → Rep F' v d → Φ d O' → Q v H') : te σ H Q :=
  h F1 σ H s e Q fun v d O' F' H' s' f r p => q v d O' F' H' (u.st _ _ _ s') f r p
theorem evk_lcR {ta : TA} {g : TG} {tt : TT} {te : TE} {vs : List Nat} {Φ : List D → Ow → Prop} {Ψ : D → Ow → Prop} (h : EaK B ta Γ O Φ) (k : ∀ ds O1, Φ ds O1 → ∀ B' ta', Up B B' → B'.H = B.H → EaP B' ta' Γ O1 ds → EvK B' (tLc (iRng1 ta') g tt te vs) Γ O1 Ψ) : EvK B (tLc (iRng1 ta) g tt te vs) Γ O Ψ := fun F σ H s e Q q =>
  h F σ H s e _ fun vs ds O1 F1 H1 s1 f1 r p => evk_up (up_mk s1) rfl (k ds O1 p ⟨F1, B.H, B.M⟩ (fun _ H Q => Q vs H) (up_mk s1) rfl (ea_at r)) (st_up s1 s1 (Same.refl _)) (e.same f1) Q fun v d O' F' H' s' f r2 p2 => q v d O' F' H' s' (f1.trans f) r2 p2
end
end Kt
/-! X9: set(xs) of a list of texts of any length; len of it -/
namespace Kt
/-- how many unlike texts stand before place i -/
def dn (xs : List PySem.Str) : Nat → Nat
  | 0 => 0
  | i + 1 => if (xs.take i).any (· == xs.getD i PySem.Str.empty) = true then dn xs i else dn xs i + 1
theorem dn_le (xs : List PySem.Str) : ∀ i, dn xs i ≤ i
  | 0 => Nat.le_refl _
  | i + 1 => by
    have := dn_le xs i
    unfold dn
    split <;> omega
theorem dn_nodup (xs : List PySem.Str) : ∀ i, i ≤ xs.length → (dn xs i = i ↔ (xs.take i).Nodup)
  | 0, _ => by simp [dn]
  | i + 1, h => by
    have ih := dn_nodup xs i (by omega)
    have hl := dn_le xs i
    have e : xs.getD i PySem.Str.empty = xs[i] := by rw [List.getD_eq_getElem?_getD, List.getElem?_eq_getElem (by omega)]; rfl
    have et : xs.take (i + 1) = xs.take i ++ [xs[i]] := List.take_succ_eq_append_getElem (by omega)
    unfold dn
    rw [e, et, List.nodup_append]
    by_cases q : (xs.take i).any (· == xs[i]) = true
    · rw [if_pos q]
      obtain ⟨y, hy, hy2⟩ := List.any_eq_true.mp q
      have : y = xs[i] := by simpa using hy2
      subst this
      exact ⟨fun z => by omega, fun z => absurd rfl (z.2.2 _ hy _ (by simp))⟩
    · rw [if_neg q]
      refine ⟨fun z => ⟨ih.mp (by omega), by simp, fun a ha b hb e2 => q ?_⟩, fun z => by rw [ih.mpr z.1]⟩
      have : b = xs[i] := by simpa using hb
      rw [this] at e2
      exact List.any_eq_true.mpr ⟨a, ha, by simp [e2]⟩
end Kt
namespace PySem.Kt9
open PySem PySem.Spec PyProof.Rows
section
variable {prog : Program} {w : World} {A : Around} {R : Result → Shared → Prop} {I : Addr} {fp wr : List Addr} {G : Array GenState → Array GenState → Prop} {n : Nat} {P : Nat → Value → Prop} {St : Nat → Shared → Prop}
theorem walk_in (W : WalksS prog w A.in1 I fp wr G n P St) (S : Addr) (hSf : S ∉ fp) (xs : List Str) (hsz : xs.length = n) (hn : n + 1 < scanBound) (hval : ∀ i v, P i v → ∃ t, v = .str (xs.getD i Str.empty) t) :
    ∀ (k i : Nat) (s : Shared), n - i = k → i ≤ n → St i s → s.heap.SetOf (PySem.strKind prog w) S (fun k' => (xs.take i).any (· == k')) (Kt.dn xs i) →
      (∀ s', Moved (S :: wr) G s s' → s'.heap.SetOf (PySem.strKind prog w) S (fun k' => (xs.take n).any (· == k')) (Kt.dn xs n) → R (.ok (.ret .none)) s') → codeAny (model prog w) A (.builtin "set.update.loop" ⟨[.ref S, .ref I], []⟩) R s := by
  have out : S ∉ wr := fun h => hSf (W.sub _ h)
  intro k
  induction k with
  | zero =>
    intro i s hk hi hst hS hR
    obtain rfl : i = n := by omega
    refine codeAny_builtin PyProof.Rows.F.entry_set_update_loop ?_
    rw [Around.under_plainId PyProof.Rows.F.plain_set_update_loop _]
    show wpAny _ A.in1 (pyNext (.ref I) >>= _) _ _ s
    refine wpAny_bind (W.done s _ _ hst fun s1 hm => ?_)
    show wpAny _ A.in1 (ret Value.none) _ _ s1
    obtain ⟨o, es, ep, t, ho, rest⟩ := hS
    exact wpAny_pure (hR s1 (hm.mono fun b hb => List.mem_cons_of_mem _ hb) ⟨o, es, ep, t, hm.heap S _ out ho, rest⟩)
  | succ k ih =>
    intro i s hk hi hst hS hR
    have lt : i < n := by omega
    have small := Kt.dn_le xs i
    refine codeAny_builtin PyProof.Rows.F.entry_set_update_loop ?_
    rw [Around.under_plainId PyProof.Rows.F.plain_set_update_loop _]
    show wpAny _ A.in1 (pyNext (.ref I) >>= _) _ _ s
    refine wpAny_bind (W.item i s _ _ lt hst fun v s1 hP hst1 hm => ?_)
    obtain ⟨t, rfl⟩ := hval i v hP
    have hS1 : s1.heap.SetOf (PySem.strKind prog w) S (fun k' => (xs.take i).any (· == k')) (Kt.dn xs i) := by
      obtain ⟨o, es, ep, tb, ho, rest⟩ := hS
      exact ⟨o, es, ep, tb, hm.heap S _ out ho, rest⟩
    show wpAny _ A.in1 (holding [Value.str (xs.getD i Str.empty) t] (setAdd S (.str (xs.getD i Str.empty) t)) >>= _) _ _ s1
    refine wpAny_bind (wpAny_holding ?_)
    unfold setAdd
    refine wpAny_holding (wpAny_bind ((PySem.strKind prog w).pyHash (k := xs.getD i Str.empty) (strKind_is _ _ _ _) ?_))
    refine wpAny_setAddHashed_of (knd := PySem.strKind prog w) (s := { s1 with toks := s1.toks + 1 }) (strKind_is _ _ _ _) rfl hS1 (by omega) fun h2 hsb hS2 => ?_
    have et : xs.take (i + 1) = xs.take i ++ [xs.getD i Str.empty] := by
      have e : xs.getD i Str.empty = xs[i]'(by omega) := by rw [List.getD_eq_getElem?_getD, List.getElem?_eq_getElem (by omega)]; rfl
      rw [e]; exact List.take_succ_eq_append_getElem (by omega)
    have hS3 : h2.SetOf (PySem.strKind prog w) S (fun k' => (xs.take (i + 1)).any (· == k')) (Kt.dn xs (i + 1)) := by
      refine SetOf_congr hS2 (fun k' => ?_) (by first | rfl | (unfold Kt.dn; split <;> simp_all))
      show ((xs.take i).any (· == k') || decide (k' = xs.getD i Str.empty)) = _
      rw [et, List.any_append]
      congr 1
      by_cases e : k' = xs.getD i Str.empty
      · rw [e]; simp
      · have : (xs.getD i Str.empty == k') = false := by simpa using fun z : xs.getD i Str.empty = k' => e z.symm
        rw [decide_eq_false e]
        show false = ((xs.getD i Str.empty == k') || false)
        rw [this]; rfl
    refine wpAny_pure ⟨plainId_quiet PyProof.Rows.F.plain_set_update_loop _, ih (i + 1) _ (by omega) lt (W.frame _ s1 _ _ hst1 (Nat.le_succ _) fun b hb o e => ?_) hS3 fun s2 hm2 hS4 => hR s2 (Moved.trans W.gtrans ((hm.mono fun b hb => List.mem_cons_of_mem _ hb).then_heap (Nat.le_succ _) fun b o hb e => ?_) hm2) hS4⟩
    · rw [hsb.2 b (fun h : b = S => hSf (by rw [← h]; exact hb))]; exact e
    · rw [hsb.2 b (fun h : b = S => hb (by rw [h]; exact List.mem_cons_self))]; exact e
end
section
variable {prog : Program} {w : World} {A : Around} {E : Value → Shared → Prop} {s : Shared}
set_option maxHeartbeats 3200000 in
theorem set_of_list {l : Addr} {items : Array Value} {xs : List Str} {Q : Value → Shared → Prop} (hh : A.handled = none) (hl : s.heap.IsList l items) (hi : PyProof.Rows.StrsAre items.toList xs) (hn1 : xs.length + 1 < scanBound)
    (h : ∀ (h' : Heap) (tk : Nat), h'.SetOf (PySem.strKind prog w) s.heap.objs.size (fun k' => (xs.take items.size).any (· == k')) (Kt.dn xs items.size) → (∀ b o, b < s.heap.objs.size → s.heap.get? b = some o → h'.get? b = some o) → Q (.ref s.heap.objs.size) { s with heap := h', toks := tk }) :
    wpAny (model prog w) A (call (.type "set") [.ref l]) Q E s := by
  obtain ⟨c, tl, hmro⟩ := PySem.F.called_set.mro
  have q1 := PySem.F.called_set.made
  have q2 := PySem.F.called_set.sub
  refine wpAny_call (codeAny_of_tree ?_)
  show wpAny _ _ (callAny (.type "set") _) _ _ _
  refine wpAny_pure ⟨Code.quiet_builtin _ (by decide +kernel), codeAny_builtin PySem.F.entry_type_call ?_⟩
  rw [Around.under_plain (weight_type_call_type "set" [.ref l] []) rfl]
  have q3 := PySem.F.called_set.notType
  have q4 := PySem.F.called_set.canCreate
  have q5 := PySem.F.typeCall_set_1 (.ref l)
  repeat (any_goals (first | assumption | wp_step))
  refine codeAny_mono (code_set_new_1 (.ref l) (E := E) (Q₁ := fun obj s1 => ∃ led : Bool, obj = .ref s.heap.objs.size ∧ s1 = { s with heap := s.heap.push { cls := .type "set", dict := none, data := .set #[] 0 (.fresh 0 0 led) } }) fun led => ⟨led, rfl, rfl⟩) fun r s1 hr => ?_
  match r, hr with
  | .error e, hr => exact hr
  | .ok (.ret obj), hr =>
    obtain ⟨led, rfl, rfl⟩ := hr
    have hS : (s.heap.push { cls := .type "set", dict := none, data := .set #[] 0 (.fresh 0 0 led) }).get? s.heap.objs.size = some { cls := .type "set", dict := none, data := .set #[] 0 (.fresh 0 0 led) } := Heap.get?_push_size _ rfl
    have hT : Shared.TypeIs { s with heap := s.heap.push { cls := .type "set", dict := none, data := .set #[] 0 (.fresh 0 0 led) } } (.ref s.heap.objs.size) "set" := ⟨_, hS, rfl⟩
    have q6 := PySem.F.called_set.init.lookup
    have q7 := PySem.F.called_set.init.bind (.ref s.heap.objs.size)
    repeat (any_goals (first | assumption | wp_step))
    refine codeAny_mono (codeAny_call_builtin (R := wants (fun r s2 => r = .none ∧ ∃ h' tk, s2 = { s with heap := h', toks := tk } ∧ h'.SetOf (PySem.strKind prog w) s.heap.objs.size (fun k' => (xs.take items.size).any (· == k')) (Kt.dn xs items.size) ∧ (∀ b o, b < s.heap.objs.size → s.heap.get? b = some o → h'.get? b = some o)) E)
      PySem.F.called_set.init.plain PySem.F.entry_set_init (check_set_init_1 hT ?_)) fun r2 s2 hr2 => ?_
    · obtain ⟨ol, hol, hcl, nl, hdl⟩ := hl
      obtain ⟨ocls, odict, odata, oslots⟩ := ol
      simp only at hcl hdl
      subst hcl hdl
      have hol2 : (s.heap.push { cls := .type "set", dict := none, data := .set #[] 0 (.fresh 0 0 led) }).get? l = some { cls := .type "list", dict := odict, data := .seq items nl, slots := oslots } := Heap.get?_push_of_some _ hol
      have q8 := PySem.F.sub_list_set
      have q9 := PySem.F.sub_list_frozenset
      have hne : (Value.type "list" == Value.type "dict") = false := by decide
      have hl1 : (s.heap.push { cls := .type "set", dict := none, data := .set #[] 0 (.fresh 0 0 led) }).IsList l items := ⟨_, hol2, rfl, nl, rfl⟩
      unfold Builtin.«set.__init__» noKeywords Builtin.Frozenset.updateFrom
      generalize hPI : pyIter = PI
      wp_walk
      subst hPI
      refine wpAny_pyIter_list hl1 (wpAny_bind (wpAny_runValue ?_))
      have hlS : l < s.heap.objs.size := Heap.lt_size hol
      have hneI : l ≠ (s.heap.push { cls := .type "set", dict := none, data := .set #[] 0 (.fresh 0 0 led) }).objs.size := by
        rw [Heap.size_push]; exact Nat.ne_of_lt (Nat.lt_succ_of_lt hlS)
      have hSf : s.heap.objs.size ∉ [(s.heap.push { cls := .type "set", dict := none, data := .set #[] 0 (.fresh 0 0 led) }).objs.size, l] := by
        rw [Heap.size_push]; simp only [List.mem_cons, List.not_mem_nil, or_false, not_or]
        exact ⟨Nat.ne_of_lt (Nat.lt_succ_self _), Nat.ne_of_gt hlS⟩
      have hsz : xs.length = items.size := by rw [← StrsAre.len_eq hi, Array.length_toList]
      refine walk_in ((Walks.list (by simp [hh]) _ l hneI items).toS) s.heap.objs.size hSf xs hsz (by rw [← hsz]; exact hn1) (fun i v hv => SS.strs_at hi i v (by rw [Array.getElem?_toList]; exact hv)) (items.size - 0) 0 _ (by omega) (Nat.zero_le _)
        ⟨⟨_, Heap.get?_push_size _ rfl, rfl, rfl⟩, (hl1.push _)⟩ ?_ ?_
      · have hget : ((s.heap.push { cls := .type "set", dict := none, data := .set #[] 0 (.fresh 0 0 led) }).push { cls := .type "list_iterator", data := .fields #[.ref l, .int 0 0] }).get? s.heap.objs.size = some { cls := .type "set", dict := none, data := .set #[] 0 (.fresh 0 0 led) } := Heap.get?_push_of_some _ hS
        exact PyProof.Rows.SetOf_congr ((PyProof.Rows.setObjOf_fresh (knd := PySem.strKind prog w) led).setOf hget (by unfold scanBound; omega)) (fun _ => rfl) rfl
      · intro s3 hm hS3
        obtain ⟨h3, g3, d3, tk3, os3⟩ := s3
        obtain rfl : g3 = s.gens := hm.gens
        obtain rfl : d3 = s.drawn := hm.drawn
        obtain rfl : os3 = s.os := hm.os
        show wpAny _ _ _ _ _ _
        refine wpAny_pure ?_
        show wpAny _ _ (ret Value.none) _ _ _
        refine wpAny_pure ⟨rfl, h3, tk3, rfl, hS3, fun b o hb e => hm.heap b o ?_ (Heap.get?_push_of_some _ (Heap.get?_push_of_some _ e))⟩
        simp only [List.mem_cons, List.not_mem_nil, or_false, not_or]
        exact ⟨Nat.ne_of_lt hb, by rw [Heap.size_push]; exact Nat.ne_of_lt (Nat.lt_succ_of_lt hb)⟩
    · match r2, hr2 with
      | .error e, hr2 => exact hr2
      | .ok (.ret r), hr2 =>
        obtain ⟨rfl, h3, tk, rfl, hS3, hk3⟩ := hr2
        repeat (any_goals (first | assumption | wp_step))
        exact h _ _ hS3 hk3
end
end PySem.Kt9
namespace Kt
open PySem PySem.Spec PyProof.Rows L2 StX
def tLenS (K : PySem.W.Frag) (ta : TE) : TE := fun σ H Q => ta σ H fun x H1 => ∃ (l : Addr) (xs : List Str), x = .ref l ∧ SqL K H1 l (xs.map V.str) ∧ xs.length ≤ 4000 ∧ Q (.int (dn xs xs.length : Nat)) H1
theorem pe_lenS {X : Cx} {a : Expr} {ta : TE} {p p2 q pos : Pos} (hc : X.calm = true) (hg : Gl X "len") (hm : X.mg "len" = none) (hg2 : Gl X "set") (hm2 : X.mg "set" = none) (ha : PE X a ta)
    (na : starEach [a] X.env = (false, eval a X.env) :: starEach [] X.env := by rfl) : PE X (.Call (.Name "len" p) [.Call (.Name "set" p2) [a] [] q] [] pos) (tLenS X.K ta) := by
  constructor
  intro pins s σ H Q I h
  refine Call_ (ld_blt I hg hm boot_len (PyProof.Rows.callWith_builtin1 (PyProof.Rows.args_cons (Call_ (ld_blt I hg2 hm2 boot_set (PyProof.Rows.callWith_type1 (PyProof.Rows.args_cons (thn (ha.run pins s σ H _ I h) fun v s1 ⟨x, H1, I1, r1, q1⟩ => PyProof.Rows.args_nil ?_) na) na rfl))) rfl) rfl rfl))
  obtain ⟨l, xs, rfl, hq, h1, q1⟩ := q1
  cases r1
  obtain ⟨its, r, pl, hz⟩ := I1.list hq
  have hl : its.toArray.size = xs.length := by rw [List.size_toArray, ← r.length, List.length_map]
  refine PySem.Kt9.set_of_list (I1.ok.hd hc) pl.isList (by simpa using strsAre_of r) (by unfold scanBound; omega) fun h' tk hS hk => ?_
  refine PyProof.Rows.args_nil ?_
  rw [hl] at hS
  obtain ⟨o, es, ep, t, ho, hex, hd, _, _, _, hf, hn⟩ := hS
  have I2 : Inv X pins σ H1 { s1 with heap := h', toks := tk } := I1.kept fun b o e => hk b o (Heap.lt_size e) e
  have := dn_le xs xs.length
  exact call_len_set ho hex hd hf (by rw [hn] <;> omega) ⟨.int (dn xs xs.length : Nat), H1, I2.tok _, ⟨_, by rw [hn]⟩, q1⟩
theorem ev_lenS {B : Bs} {O : Ow} {Γ : List (Option D)} {K : PySem.W.Frag} {ta : TE} {xs : List Str} (h : EvP B ta Γ O (.lst (xs.map .str))) (hz : xs.length ≤ 4000) : EvP B (tLenS K ta) Γ O (.int (dn xs xs.length : Nat)) := fun F σ H s e Q q =>
  h F σ H s e _ fun v d O1 F1 H1 s1 f1 r1 p1 => by
    obtain ⟨rfl, rfl⟩ := p1
    cases r1 with
    | lst h1 h2 =>
      have e2 := h2.str_of
      subst e2
      exact ⟨_, xs, rfl, .of (s1.fh _ _ h1), hz, q _ _ _ F1 H1 s1 f1 .int ⟨rfl, rfl⟩⟩
end Kt
set_option maxHeartbeats 2000000
namespace Kt
open PySem PySem.Spec PyProof.Rows L2 StX
def top (i : Nat) : Stmt := PySem.Challenge.pw_keysthrough_k54_books_that_are_none.main.body.getD i (.Pass ⟨0, 0, 0, 0⟩)
/-- what the top has written -/
structure Txt (K : PySem.W.Frag) (mg : Str → Option Value) (w : World) : Type where
  n_len : mg "len" = none
  n_int : mg "int" = none
  n_abs : mg "abs" = none
  n_max : mg "max" = none
  n_min : mg "min" = none
  n_all : mg "all" = none
  n_any : mg "any" = none
  n_list : mg "list" = none
  n_tuple : mg "tuple" = none
  n_dict : mg "dict" = none
  n_str : mg "str" = none
  n_range : mg "range" = none
  n_enumerate : mg "enumerate" = none
  n_zip : mg "zip" = none
  n_isinstance : mg "isinstance" = none
  n_repr : mg "repr" = none
  n_sum : mg "sum" = none
  n_set : mg "set" = none
  n_sorted : mg "sorted" = none
  n_ValueError : mg "ValueError" = none
  c_LETTERS : ∃ u, mg "LETTERS" = some u ∧ RelV (.str "abcdefghijklmnopqrstuvwxyz") u
  c_MOST_LETTERS : ∃ u, mg "MOST_LETTERS" = some u ∧ RelV (.int 8) u
  a_RULE_SIZES : Addr
  g_RULE_SIZES : mg "RULE_SIZES" = some (.ref a_RULE_SIZES)
  a_KeyTellError : Addr
  g_KeyTellError : mg "KeyTellError" = some (.ref a_KeyTellError)
  a_InvalidName : Addr
  g_InvalidName : mg "InvalidName" = some (.ref a_InvalidName)
  a_DoubleName : Addr
  g_DoubleName : mg "DoubleName" = some (.ref a_DoubleName)
  a_UnknownTable : Addr
  g_UnknownTable : mg "UnknownTable" = some (.ref a_UnknownTable)
  a_UnknownColumn : Addr
  g_UnknownColumn : mg "UnknownColumn" = some (.ref a_UnknownColumn)
  a_InvalidRule : Addr
  g_InvalidRule : mg "InvalidRule" = some (.ref a_InvalidRule)
  a_Unreadable : Addr
  g_Unreadable : mg "Unreadable" = some (.ref a_Unreadable)
  a_Book : Addr
  g_Book : mg "Book" = some (.ref a_Book)
  a_KeyTellError_init : Addr
  fd_KeyTellError_init : FuncData
  F_KeyTellError_init : FunD K "__init__" "KeyTellError.__init__" (defArgs (inClass (top 2) 0)) (defBody (inClass (top 2) 0)) (defScope (inClass (top 2) 0)) [] [] a_KeyTellError_init fd_KeyTellError_init
  a_is_name : Addr
  fd_is_name : FuncData
  F_is_name : FunD K "is_name" "is_name" (defArgs (top 13)) (defBody (top 13)) (defScope (top 13)) [] [] a_is_name fd_is_name
  g_is_name : mg "is_name" = some (.ref a_is_name)
  a_fresh : Addr
  fd_fresh : FuncData
  F_fresh : FunD K "fresh" "fresh" (defArgs (top 14)) (defBody (top 14)) (defScope (top 14)) [] [] a_fresh fd_fresh
  g_fresh : mg "fresh" = some (.ref a_fresh)
  a_checked_columns : Addr
  fd_checked_columns : FuncData
  F_checked_columns : FunD K "checked_columns" "checked_columns" (defArgs (top 15)) (defBody (top 15)) (defScope (top 15)) [] [] a_checked_columns fd_checked_columns
  g_checked_columns : mg "checked_columns" = some (.ref a_checked_columns)
  a_check_rule : Addr
  fd_check_rule : FuncData
  F_check_rule : FunD K "check_rule" "check_rule" (defArgs (top 16)) (defBody (top 16)) (defScope (top 16)) [] [] a_check_rule fd_check_rule
  g_check_rule : mg "check_rule" = some (.ref a_check_rule)
  a_Book_init : Addr
  fd_Book_init : FuncData
  F_Book_init : FunD K "__init__" "Book.__init__" (defArgs (inClass (top 17) 0)) (defBody (inClass (top 17) 0)) (defScope (inClass (top 17) 0)) [] [] a_Book_init fd_Book_init
  a_Book_tables : Addr
  fd_Book_tables : FuncData
  F_Book_tables : FunD K "tables" "Book.tables" (defArgs (inClass (top 17) 1)) (defBody (inClass (top 17) 1)) (defScope (inClass (top 17) 1)) [] [] a_Book_tables fd_Book_tables
  a_Book_rules : Addr
  fd_Book_rules : FuncData
  F_Book_rules : FunD K "rules" "Book.rules" (defArgs (inClass (top 17) 2)) (defBody (inClass (top 17) 2)) (defScope (inClass (top 17) 2)) [] [] a_Book_rules fd_Book_rules
  a_Book_getitem : Addr
  fd_Book_getitem : FuncData
  F_Book_getitem : FunD K "__getitem__" "Book.__getitem__" (defArgs (inClass (top 17) 3)) (defBody (inClass (top 17) 3)) (defScope (inClass (top 17) 3)) [] [] a_Book_getitem fd_Book_getitem
  a_Book_iter : Addr
  fd_Book_iter : FuncData
  F_Book_iter : FunD K "__iter__" "Book.__iter__" (defArgs (inClass (top 17) 4)) (defBody (inClass (top 17) 4)) (defScope (inClass (top 17) 4)) [] [] a_Book_iter fd_Book_iter
  a_Book_len : Addr
  fd_Book_len : FuncData
  F_Book_len : FunD K "__len__" "Book.__len__" (defArgs (inClass (top 17) 5)) (defBody (inClass (top 17) 5)) (defScope (inClass (top 17) 5)) [] [] a_Book_len fd_Book_len
  a_Book_eq : Addr
  fd_Book_eq : FuncData
  F_Book_eq : FunD K "__eq__" "Book.__eq__" (defArgs (inClass (top 17) 6)) (defBody (inClass (top 17) 6)) (defScope (inClass (top 17) 6)) [] [] a_Book_eq fd_Book_eq
  a_Book_with_rules : Addr
  fd_Book_with_rules : FuncData
  F_Book_with_rules : FunD K "with_rules" "Book.with_rules" (defArgs (inClass (top 17) 7)) (defBody (inClass (top 17) 7)) (defScope (inClass (top 17) 7)) [] [] a_Book_with_rules fd_Book_with_rules
  a_Book_without : Addr
  fd_Book_without : FuncData
  F_Book_without : FunD K "without" "Book.without" (defArgs (inClass (top 17) 8)) (defBody (inClass (top 17) 8)) (defScope (inClass (top 17) 8)) [] [] a_Book_without fd_Book_without
  a_show_rule : Addr
  fd_show_rule : FuncData
  F_show_rule : FunD K "show_rule" "show_rule" (defArgs (top 19)) (defBody (top 19)) (defScope (top 19)) [] [] a_show_rule fd_show_rule
  g_show_rule : mg "show_rule" = some (.ref a_show_rule)
  a_show_book : Addr
  fd_show_book : FuncData
  F_show_book : FunD K "show_book" "show_book" (defArgs (top 20)) (defBody (top 20)) (defScope (top 20)) [] [] a_show_book fd_show_book
  g_show_book : mg "show_book" = some (.ref a_show_book)
  a_rule_in : Addr
  fd_rule_in : FuncData
  F_rule_in : FunD K "rule_in" "rule_in" (defArgs (top 22)) (defBody (top 22)) (defScope (top 22)) [] [] a_rule_in fd_rule_in
  g_rule_in : mg "rule_in" = some (.ref a_rule_in)
  a_read_book : Addr
  fd_read_book : FuncData
  F_read_book : FunD K "read_book" "read_book" (defArgs (top 23)) (defBody (top 23)) (defScope (top 23)) [] [] a_read_book fd_read_book
  g_read_book : mg "read_book" = some (.ref a_read_book)
  a__law_purse : Addr
  fd__law_purse : FuncData
  F__law_purse : FunD K "_law_purse" "_law_purse" (defArgs (top 25)) (defBody (top 25)) (defScope (top 25)) [] [] a__law_purse fd__law_purse
  g__law_purse : mg "_law_purse" = some (.ref a__law_purse)
  a__law_coin : Addr
  fd__law_coin : FuncData
  F__law_coin : FunD K "_law_coin" "_law_coin" (defArgs (top 26)) (defBody (top 26)) (defScope (top 26)) [] [] a__law_coin fd__law_coin
  g__law_coin : mg "_law_coin" = some (.ref a__law_coin)
  a__law_words : Addr
  fd__law_words : FuncData
  F__law_words : FunD K "_law_words" "_law_words" (defArgs (top 27)) (defBody (top 27)) (defScope (top 27)) [] [] a__law_words fd__law_words
  g__law_words : mg "_law_words" = some (.ref a__law_words)
  a__law_drawn_tables : Addr
  fd__law_drawn_tables : FuncData
  F__law_drawn_tables : FunD K "_law_drawn_tables" "_law_drawn_tables" (defArgs (top 28)) (defBody (top 28)) (defScope (top 28)) [] [] a__law_drawn_tables fd__law_drawn_tables
  g__law_drawn_tables : mg "_law_drawn_tables" = some (.ref a__law_drawn_tables)
  a__law_drawn_rules : Addr
  fd__law_drawn_rules : FuncData
  F__law_drawn_rules : FunD K "_law_drawn_rules" "_law_drawn_rules" (defArgs (top 29)) (defBody (top 29)) (defScope (top 29)) [] [] a__law_drawn_rules fd__law_drawn_rules
  g__law_drawn_rules : mg "_law_drawn_rules" = some (.ref a__law_drawn_rules)
  a__law_rule_text : Addr
  fd__law_rule_text : FuncData
  F__law_rule_text : FunD K "_law_rule_text" "_law_rule_text" (defArgs (top 30)) (defBody (top 30)) (defScope (top 30)) [] [] a__law_rule_text fd__law_rule_text
  g__law_rule_text : mg "_law_rule_text" = some (.ref a__law_rule_text)
  a__law_book_text : Addr
  fd__law_book_text : FuncData
  F__law_book_text : FunD K "_law_book_text" "_law_book_text" (defArgs (top 31)) (defBody (top 31)) (defScope (top 31)) [] [] a__law_book_text fd__law_book_text
  g__law_book_text : mg "_law_book_text" = some (.ref a__law_book_text)
  a__law_is_title : Addr
  fd__law_is_title : FuncData
  F__law_is_title : FunD K "_law_is_title" "_law_is_title" (defArgs (top 32)) (defBody (top 32)) (defScope (top 32)) [] [] a__law_is_title fd__law_is_title
  g__law_is_title : mg "_law_is_title" = some (.ref a__law_is_title)
  a__law_is_rule : Addr
  fd__law_is_rule : FuncData
  F__law_is_rule : FunD K "_law_is_rule" "_law_is_rule" (defArgs (top 33)) (defBody (top 33)) (defScope (top 33)) [] [] a__law_is_rule fd__law_is_rule
  g__law_is_rule : mg "_law_is_rule" = some (.ref a__law_is_rule)
  a__law_is_book : Addr
  fd__law_is_book : FuncData
  F__law_is_book : FunD K "_law_is_book" "_law_is_book" (defArgs (top 34)) (defBody (top 34)) (defScope (top 34)) [] [] a__law_is_book fd__law_is_book
  g__law_is_book : mg "_law_is_book" = some (.ref a__law_is_book)
  a__law_caught_book : Addr
  fd__law_caught_book : FuncData
  F__law_caught_book : FunD K "_law_caught_book" "_law_caught_book" (defArgs (top 35)) (defBody (top 35)) (defScope (top 35)) [] [] a__law_caught_book fd__law_caught_book
  g__law_caught_book : mg "_law_caught_book" = some (.ref a__law_caught_book)
  a__law_odd_book : Addr
  fd__law_odd_book : FuncData
  F__law_odd_book : FunD K "_law_odd_book" "_law_odd_book" (defArgs (top 36)) (defBody (top 36)) (defScope (top 36)) [] [] a__law_odd_book fd__law_odd_book
  g__law_odd_book : mg "_law_odd_book" = some (.ref a__law_odd_book)
  a__law_marred_book : Addr
  fd__law_marred_book : FuncData
  F__law_marred_book : FunD K "_law_marred_book" "_law_marred_book" (defArgs (top 37)) (defBody (top 37)) (defScope (top 37)) [] [] a__law_marred_book fd__law_marred_book
  g__law_marred_book : mg "_law_marred_book" = some (.ref a__law_marred_book)
  a__law_right : Addr
  fd__law_right : FuncData
  F__law_right : FunD K "_law_right" "_law_right" (defArgs (top 38)) (defBody (top 38)) (defScope (top 38)) [] [] a__law_right fd__law_right
  g__law_right : mg "_law_right" = some (.ref a__law_right)
  a_law : Addr
  fd_law : FuncData
  F_law : FunD K "law" "law" (defArgs (top 39)) (defBody (top 39)) (defScope (top 39)) [] [] a_law fd_law
  g_law : mg "law" = some (.ref a_law)
  ti : PySem.W.typeIn K (.ref a_KeyTellError_init) = some (.type "function")
  x_KeyTellError : OexC K a_KeyTellError
  i_KeyTellError : PySem.W.findIn K (.ref a_KeyTellError) "__init__" = some (some (.ref a_KeyTellError_init))
  v_KeyTellError : PySem.W.findIn K (.ref a_KeyTellError) "value" = some none
  x_InvalidName : OexC K a_InvalidName
  i_InvalidName : PySem.W.findIn K (.ref a_InvalidName) "__init__" = some (some (.ref a_KeyTellError_init))
  v_InvalidName : PySem.W.findIn K (.ref a_InvalidName) "value" = some none
  x_DoubleName : OexC K a_DoubleName
  i_DoubleName : PySem.W.findIn K (.ref a_DoubleName) "__init__" = some (some (.ref a_KeyTellError_init))
  v_DoubleName : PySem.W.findIn K (.ref a_DoubleName) "value" = some none
  x_UnknownTable : OexC K a_UnknownTable
  i_UnknownTable : PySem.W.findIn K (.ref a_UnknownTable) "__init__" = some (some (.ref a_KeyTellError_init))
  v_UnknownTable : PySem.W.findIn K (.ref a_UnknownTable) "value" = some none
  x_UnknownColumn : OexC K a_UnknownColumn
  i_UnknownColumn : PySem.W.findIn K (.ref a_UnknownColumn) "__init__" = some (some (.ref a_KeyTellError_init))
  v_UnknownColumn : PySem.W.findIn K (.ref a_UnknownColumn) "value" = some none
  x_InvalidRule : OexC K a_InvalidRule
  i_InvalidRule : PySem.W.findIn K (.ref a_InvalidRule) "__init__" = some (some (.ref a_KeyTellError_init))
  v_InvalidRule : PySem.W.findIn K (.ref a_InvalidRule) "value" = some none
  x_Unreadable : OexC K a_Unreadable
  i_Unreadable : PySem.W.findIn K (.ref a_Unreadable) "__init__" = some (some (.ref a_KeyTellError_init))
  v_Unreadable : PySem.W.findIn K (.ref a_Unreadable) "value" = some none
  cl_Book : Cls K a_Book
  mk_Book : Mk K a_Book a_Book_init
  na_Book_kept_tables : NoAttr K a_Book "kept_tables"
  na_Book_kept_rules : NoAttr K a_Book "kept_rules"
  pr_Book_tables : ∃ q, PropOf K a_Book "tables" q a_Book_tables
  pr_Book_rules : ∃ q, PropOf K a_Book "rules" q a_Book_rules
  kd_RULE_SIZES : ∃ es n, KDict K w a_RULE_SIZES es n
  rs_key : ∃ u, PySem.W.nsIn K a_RULE_SIZES "key" = some (some u) ∧ RelV (.int 3) u
  rs_settles : ∃ u, PySem.W.nsIn K a_RULE_SIZES "settles" = some (some u) ∧ RelV (.int 4) u
  any5 : ∀ C ∈ [a_DoubleName, a_InvalidName, a_InvalidRule, a_UnknownColumn, a_UnknownTable], PySem.W.exmAny K (.ref C) [.ref a_DoubleName, .ref a_InvalidName, .ref a_InvalidRule, .ref a_UnknownColumn, .ref a_UnknownTable] = some true
  one_U : PySem.W.exmOne K (.ref a_Unreadable) (.ref a_KeyTellError) = some true
  ki_U : ∀ C ∈ [a_DoubleName, a_InvalidName, a_InvalidRule, a_UnknownColumn, a_UnknownTable], PySem.W.kitOne K (.ref a_Unreadable) (.ref C) = some false
  ki_UU : PySem.W.kitOne K (.ref a_Unreadable) (.ref a_Unreadable) = some true
  ec_U : ExcC K a_Unreadable
  xf_U : XfC K a_Unreadable
section
variable {K : PySem.W.Frag} {mg : Str → Option Value} {w : World}
theorem Txt.k_KeyTellError_init (T : Txt K mg w) : PySem.W.keepIn K (.ref T.a_KeyTellError_init) = true := T.F_KeyTellError_init.kp
theorem Txt.b_KeyTellError_init (T : Txt K mg w) : Binds K T.fd_KeyTellError_init ["self", "value"] [] := FunD.bindsN T.F_KeyTellError_init fun _ _ _ _ _ _ us hl => match us, hl with | [_, _], _ => rfl
theorem Txt.k_is_name (T : Txt K mg w) : PySem.W.keepIn K (.ref T.a_is_name) = true := T.F_is_name.kp
theorem Txt.b_is_name (T : Txt K mg w) : Binds K T.fd_is_name ["text"] [] := FunD.bindsN T.F_is_name fun _ _ _ _ _ _ us hl => match us, hl with | [_], _ => rfl
theorem Txt.k_fresh (T : Txt K mg w) : PySem.W.keepIn K (.ref T.a_fresh) = true := T.F_fresh.kp
theorem Txt.b_fresh (T : Txt K mg w) : Binds K T.fd_fresh ["thing"] [] := FunD.bindsN T.F_fresh fun _ _ _ _ _ _ us hl => match us, hl with | [_], _ => rfl
theorem Txt.k_checked_columns (T : Txt K mg w) : PySem.W.keepIn K (.ref T.a_checked_columns) = true := T.F_checked_columns.kp
theorem Txt.b_checked_columns (T : Txt K mg w) : Binds K T.fd_checked_columns ["columns"] [] := FunD.bindsN T.F_checked_columns fun _ _ _ _ _ _ us hl => match us, hl with | [_], _ => rfl
theorem Txt.k_check_rule (T : Txt K mg w) : PySem.W.keepIn K (.ref T.a_check_rule) = true := T.F_check_rule.kp
theorem Txt.b_check_rule (T : Txt K mg w) : Binds K T.fd_check_rule ["columns_of", "rule"] [] := FunD.bindsN T.F_check_rule fun _ _ _ _ _ _ us hl => match us, hl with | [_, _], _ => rfl
theorem Txt.k_Book_init (T : Txt K mg w) : PySem.W.keepIn K (.ref T.a_Book_init) = true := T.F_Book_init.kp
theorem Txt.b_Book_init (T : Txt K mg w) : Binds K T.fd_Book_init ["self", "tables", "rules"] [] := FunD.bindsN T.F_Book_init fun _ _ _ _ _ _ us hl => match us, hl with | [_, _, _], _ => rfl
theorem Txt.k_Book_tables (T : Txt K mg w) : PySem.W.keepIn K (.ref T.a_Book_tables) = true := T.F_Book_tables.kp
theorem Txt.b_Book_tables (T : Txt K mg w) : Binds K T.fd_Book_tables ["self"] [] := FunD.bindsN T.F_Book_tables fun _ _ _ _ _ _ us hl => match us, hl with | [_], _ => rfl
theorem Txt.k_Book_rules (T : Txt K mg w) : PySem.W.keepIn K (.ref T.a_Book_rules) = true := T.F_Book_rules.kp
theorem Txt.b_Book_rules (T : Txt K mg w) : Binds K T.fd_Book_rules ["self"] [] := FunD.bindsN T.F_Book_rules fun _ _ _ _ _ _ us hl => match us, hl with | [_], _ => rfl
theorem Txt.k_Book_getitem (T : Txt K mg w) : PySem.W.keepIn K (.ref T.a_Book_getitem) = true := T.F_Book_getitem.kp
theorem Txt.b_Book_getitem (T : Txt K mg w) : Binds K T.fd_Book_getitem ["self", "name"] [] := FunD.bindsN T.F_Book_getitem fun _ _ _ _ _ _ us hl => match us, hl with | [_, _], _ => rfl
theorem Txt.k_Book_iter (T : Txt K mg w) : PySem.W.keepIn K (.ref T.a_Book_iter) = true := T.F_Book_iter.kp
theorem Txt.b_Book_iter (T : Txt K mg w) : Binds K T.fd_Book_iter ["self"] [] := FunD.bindsN T.F_Book_iter fun _ _ _ _ _ _ us hl => match us, hl with | [_], _ => rfl
theorem Txt.k_Book_len (T : Txt K mg w) : PySem.W.keepIn K (.ref T.a_Book_len) = true := T.F_Book_len.kp
theorem Txt.b_Book_len (T : Txt K mg w) : Binds K T.fd_Book_len ["self"] [] := FunD.bindsN T.F_Book_len fun _ _ _ _ _ _ us hl => match us, hl with | [_], _ => rfl
theorem Txt.k_Book_eq (T : Txt K mg w) : PySem.W.keepIn K (.ref T.a_Book_eq) = true := T.F_Book_eq.kp
theorem Txt.b_Book_eq (T : Txt K mg w) : Binds K T.fd_Book_eq ["self", "other"] [] := FunD.bindsN T.F_Book_eq fun _ _ _ _ _ _ us hl => match us, hl with | [_, _], _ => rfl
theorem Txt.k_Book_with_rules (T : Txt K mg w) : PySem.W.keepIn K (.ref T.a_Book_with_rules) = true := T.F_Book_with_rules.kp
theorem Txt.b_Book_with_rules (T : Txt K mg w) : Binds K T.fd_Book_with_rules ["self", "more"] [] := FunD.bindsN T.F_Book_with_rules fun _ _ _ _ _ _ us hl => match us, hl with | [_, _], _ => rfl
theorem Txt.k_Book_without (T : Txt K mg w) : PySem.W.keepIn K (.ref T.a_Book_without) = true := T.F_Book_without.kp
theorem Txt.b_Book_without (T : Txt K mg w) : Binds K T.fd_Book_without ["self", "index"] [] := FunD.bindsN T.F_Book_without fun _ _ _ _ _ _ us hl => match us, hl with | [_, _], _ => rfl
theorem Txt.k_show_rule (T : Txt K mg w) : PySem.W.keepIn K (.ref T.a_show_rule) = true := T.F_show_rule.kp
theorem Txt.b_show_rule (T : Txt K mg w) : Binds K T.fd_show_rule ["rule"] [] := FunD.bindsN T.F_show_rule fun _ _ _ _ _ _ us hl => match us, hl with | [_], _ => rfl
theorem Txt.k_show_book (T : Txt K mg w) : PySem.W.keepIn K (.ref T.a_show_book) = true := T.F_show_book.kp
theorem Txt.b_show_book (T : Txt K mg w) : Binds K T.fd_show_book ["book"] [] := FunD.bindsN T.F_show_book fun _ _ _ _ _ _ us hl => match us, hl with | [_], _ => rfl
theorem Txt.k_rule_in (T : Txt K mg w) : PySem.W.keepIn K (.ref T.a_rule_in) = true := T.F_rule_in.kp
theorem Txt.b_rule_in (T : Txt K mg w) : Binds K T.fd_rule_in ["text"] [] := FunD.bindsN T.F_rule_in fun _ _ _ _ _ _ us hl => match us, hl with | [_], _ => rfl
theorem Txt.k_read_book (T : Txt K mg w) : PySem.W.keepIn K (.ref T.a_read_book) = true := T.F_read_book.kp
theorem Txt.b_read_book (T : Txt K mg w) : Binds K T.fd_read_book ["text"] [] := FunD.bindsN T.F_read_book fun _ _ _ _ _ _ us hl => match us, hl with | [_], _ => rfl
theorem Txt.k__law_purse (T : Txt K mg w) : PySem.W.keepIn K (.ref T.a__law_purse) = true := T.F__law_purse.kp
theorem Txt.b__law_purse (T : Txt K mg w) : Binds K T.fd__law_purse ["script", "place"] [] := FunD.bindsN T.F__law_purse fun _ _ _ _ _ _ us hl => match us, hl with | [_, _], _ => rfl
theorem Txt.k__law_coin (T : Txt K mg w) : PySem.W.keepIn K (.ref T.a__law_coin) = true := T.F__law_coin.kp
theorem Txt.b__law_coin (T : Txt K mg w) : Binds K T.fd__law_coin ["purse", "many"] [] := FunD.bindsN T.F__law_coin fun _ _ _ _ _ _ us hl => match us, hl with | [_, _], _ => rfl
theorem Txt.k__law_words (T : Txt K mg w) : PySem.W.keepIn K (.ref T.a__law_words) = true := T.F__law_words.kp
theorem Txt.b__law_words (T : Txt K mg w) : Binds K T.fd__law_words ["purse", "many"] [] := FunD.bindsN T.F__law_words fun _ _ _ _ _ _ us hl => match us, hl with | [_, _], _ => rfl
theorem Txt.k__law_drawn_tables (T : Txt K mg w) : PySem.W.keepIn K (.ref T.a__law_drawn_tables) = true := T.F__law_drawn_tables.kp
theorem Txt.b__law_drawn_tables (T : Txt K mg w) : Binds K T.fd__law_drawn_tables ["purse", "most_tables", "most_columns"] [] := FunD.bindsN T.F__law_drawn_tables fun _ _ _ _ _ _ us hl => match us, hl with | [_, _, _], _ => rfl
theorem Txt.k__law_drawn_rules (T : Txt K mg w) : PySem.W.keepIn K (.ref T.a__law_drawn_rules) = true := T.F__law_drawn_rules.kp
theorem Txt.b__law_drawn_rules (T : Txt K mg w) : Binds K T.fd__law_drawn_rules ["purse", "tables_here", "most"] [] := FunD.bindsN T.F__law_drawn_rules fun _ _ _ _ _ _ us hl => match us, hl with | [_, _, _], _ => rfl
theorem Txt.k__law_rule_text (T : Txt K mg w) : PySem.W.keepIn K (.ref T.a__law_rule_text) = true := T.F__law_rule_text.kp
theorem Txt.b__law_rule_text (T : Txt K mg w) : Binds K T.fd__law_rule_text ["rule"] [] := FunD.bindsN T.F__law_rule_text fun _ _ _ _ _ _ us hl => match us, hl with | [_], _ => rfl
theorem Txt.k__law_book_text (T : Txt K mg w) : PySem.W.keepIn K (.ref T.a__law_book_text) = true := T.F__law_book_text.kp
theorem Txt.b__law_book_text (T : Txt K mg w) : Binds K T.fd__law_book_text ["tables_here", "rules_here"] [] := FunD.bindsN T.F__law_book_text fun _ _ _ _ _ _ us hl => match us, hl with | [_, _], _ => rfl
theorem Txt.k__law_is_title (T : Txt K mg w) : PySem.W.keepIn K (.ref T.a__law_is_title) = true := T.F__law_is_title.kp
theorem Txt.b__law_is_title (T : Txt K mg w) : Binds K T.fd__law_is_title ["wording"] [] := FunD.bindsN T.F__law_is_title fun _ _ _ _ _ _ us hl => match us, hl with | [_], _ => rfl
theorem Txt.k__law_is_rule (T : Txt K mg w) : PySem.W.keepIn K (.ref T.a__law_is_rule) = true := T.F__law_is_rule.kp
theorem Txt.b__law_is_rule (T : Txt K mg w) : Binds K T.fd__law_is_rule ["wording", "by_titles"] [] := FunD.bindsN T.F__law_is_rule fun _ _ _ _ _ _ us hl => match us, hl with | [_, _], _ => rfl
theorem Txt.k__law_is_book (T : Txt K mg w) : PySem.W.keepIn K (.ref T.a__law_is_book) = true := T.F__law_is_book.kp
theorem Txt.b__law_is_book (T : Txt K mg w) : Binds K T.fd__law_is_book ["wording"] [] := FunD.bindsN T.F__law_is_book fun _ _ _ _ _ _ us hl => match us, hl with | [_], _ => rfl
theorem Txt.k__law_caught_book (T : Txt K mg w) : PySem.W.keepIn K (.ref T.a__law_caught_book) = true := T.F__law_caught_book.kp
theorem Txt.b__law_caught_book (T : Txt K mg w) : Binds K T.fd__law_caught_book ["wording", "way"] [] := FunD.bindsN T.F__law_caught_book fun _ _ _ _ _ _ us hl => match us, hl with | [_, _], _ => rfl
theorem Txt.k__law_odd_book (T : Txt K mg w) : PySem.W.keepIn K (.ref T.a__law_odd_book) = true := T.F__law_odd_book.kp
theorem Txt.b__law_odd_book (T : Txt K mg w) : Binds K T.fd__law_odd_book ["purse", "wording"] [] := FunD.bindsN T.F__law_odd_book fun _ _ _ _ _ _ us hl => match us, hl with | [_, _], _ => rfl
theorem Txt.k__law_marred_book (T : Txt K mg w) : PySem.W.keepIn K (.ref T.a__law_marred_book) = true := T.F__law_marred_book.kp
theorem Txt.b__law_marred_book (T : Txt K mg w) : Binds K T.fd__law_marred_book ["purse", "wording"] [] := FunD.bindsN T.F__law_marred_book fun _ _ _ _ _ _ us hl => match us, hl with | [_, _], _ => rfl
theorem Txt.k__law_right (T : Txt K mg w) : PySem.W.keepIn K (.ref T.a__law_right) = true := T.F__law_right.kp
theorem Txt.b__law_right (T : Txt K mg w) : Binds K T.fd__law_right ["purse"] [] := FunD.bindsN T.F__law_right fun _ _ _ _ _ _ us hl => match us, hl with | [_], _ => rfl
theorem Txt.k_law (T : Txt K mg w) : PySem.W.keepIn K (.ref T.a_law) = true := T.F_law.kp
theorem Txt.b_law (T : Txt K mg w) : Binds K T.fd_law ["script"] [] := FunD.bindsN T.F_law fun _ _ _ _ _ _ us hl => match us, hl with | [_], _ => rfl
end
end Kt
namespace Kt
open PySem PySem.Spec PyProof.Rows L2 StX
abbrev abc : Str := "abcdefghijklmnopqrstuvwxyz"
def isName (s : Str) : Bool := (decide (0 < (s.length : Int)) && decide ((s.length : Int) ≤ 8)) && s.cps.toList.all fun c => decide (c ∈ abc.cps.toList)
def c_is_name : Con where
  G := Str
  ds := fun s => [.str s]
  pre := fun s => s.length ≤ big
  post := fun s d O' => d = .bl (isName s) ∧ O' = []
section
variable {P : Program} {w : World} {K : PySem.W.Frag} {mg : Str → Option Value} {base : Heap}
/-! ### is_name -/
abbrev s_is_name : Stmt := top 13
abbrev N_is_name : List Str := ["text", "sign"]
theorem sc_is_name : FnScope N_is_name ["text"] (defScope s_is_name) := ⟨rfl, rfl, rfl, by decide +kernel, rfl, by decide +kernel, by decide +kernel⟩
def t_is_name (K : PySem.W.Frag) : TS := (tRet (tAndV (tChain rLtI rLeI (tC (.int 0)) (tCB (rLenU K) (tCons (tVar 0) tNil)) (tC (.int 8))) (tCB (rAll K) (tCons (tLc (iStr (tVar 0)) (gName 1) tYes (tOp (rInU K) (tVar 1) (tC (.str "abcdefghijklmnopqrstuvwxyz"))) [1]) tNil))))
theorem w_is_name {f : Addr} {cdv : Value} {A : Around} {outer : List PySem.Env} {s : Shared} {H : Hp} {E : XK} (T : Txt K mg w) (hr : Room 0 (A.deeper (envOfC "is_name" (defScope s_is_name) s.heap.objs.size f cdv))) : PSs (cxOf (L2.CX P w) P w K mg base N_is_name "is_name" (defScope s_is_name) f cdv A outer s H E) (defBody s_is_name) (t_is_name K) := by
  have sc := sc_is_name
  exact PSs.nox ((pss_one (ps_ret (pe_and (pe_chain op_lt op_le pe_int (pe_callB call_lenU (by rfl) T.n_len (by decide +kernel) (pa_cons (pv 0) pa_nil)) (pe_const T.c_MOST_LETTERS)) (pe_one (pe_callB (cr_all rfl) (by rfl) T.n_all (by decide +kernel) (pa_cons (pe_lc (own := [("sign", 1)]) (by rfl) sc.nd (pi_str (pv 0)) (blkOk_by (own := [("sign", 1)]) (N := N_is_name) (sc := defScope s_is_name) (by decide +kernel)) (fun _ _ _ _ _ => (pg_name (i := 1) sc.nd rfl (by first | exact Or.inl rfl | exact Or.inr rfl))) (fun _ _ _ _ _ => pts_nil) (fun _ _ _ _ _ => (pe_cmpR (op_inU (hu_of hr)) (pv 1) (pe_const T.c_LETTERS) (by rfl)))) pa_nil)))))))

theorem b_is_name (g : c_is_name.G) (B : Bs) (Q : VK) (hp : c_is_name.pre g) (rt : RT B Q (c_is_name.post g)) : NX B (t_is_name K { nx := fun _ H' => Q .non H', rt := Q }) (startD N_is_name (c_is_name.ds g)) [] := by
  refine nx_retP rt (ev_andV (ev_chain ev_cint (ev_cb (ea_cons (ev_var rfl) ea_nil) (on_lenT hp)) o2_lt (fun _ => ev_cint) fun _ => o2_le) (fun _ => ev_cb (ea_cons (ev_lcS (K := K) (b := fun _ => true) (f := fun d => match d with | .str x => .bl (decide (x.cps.getD 0 0 ∈ abc.cps.toList)) | _ => .non) (ev_var rfl) (gin_name (by simp)) hp fun B' x hx => ?_) ea_nil) (?_ : OpN _ _ _ _ (.bl (g.cps.toList.all fun c => decide (c ∈ abc.cps.toList)))))) ⟨rfl, rfl⟩
  · obtain ⟨c, hc, rfl⟩ := List.mem_map.mp hx
    exact ⟨_, gt_name, et_yes, fun _ => ev_op (ev_var rfl) ev_cstr o2_inStr⟩
  · have e : ((signsD g).filter fun _ => true).map (fun d => match d with | .str x => D.bl (decide (x.cps.getD 0 0 ∈ abc.cps.toList)) | _ => .non) = (g.cps.toList.map fun c => decide (c ∈ abc.cps.toList)).map D.bl := by
      unfold signsD
      rw [List.filter_eq_self.mpr (fun _ _ => rfl), List.map_map, List.map_map]
      rfl
    rw [e]
    have := on_all (B := B) (O := []) (K := K) (bs := g.cps.toList.map fun c => decide (c ∈ abc.cps.toList))
    rw [List.all_map] at this
    exact this
theorem G_is_name (T : Txt K mg w) : FnOk P w K mg base (L2.CX P w) 1 T.a_is_name T.fd_is_name ["text"] c_is_name.sp :=
  T.F_is_name.ok sc_is_name (Con.len fun _ => rfl) fun cdv A outer s H vs Q E hr h => ⟨t_is_name K, w_is_name T hr, body_ok (t := fun _ => t_is_name K) (fun g B Q E hp rt _ _ => b_is_name g B Q hp rt) h⟩
end
def c__law_purse : Con where
  G := List Int × Nat
  ds := fun g => [.frl (g.1.map .int), .int (g.2 : Nat)]
  post := fun g d O' => ∃ p, d = .adr p ∧ O' = [(p, .purse 0)]
def c__law_coin : Con where
  G := Addr × Nat × Int
  ds := fun g => [.adr g.1, .int g.2.2]
  own := fun g => [(g.1, .purse g.2.1)]
  pre := fun g => g.2.1 < 10 ^ 9 ∧ 0 < g.2.2 ∧ g.2.2 < 1073741824
  post := fun g d O' => ∃ i : Int, d = .int i ∧ 0 ≤ i ∧ i < g.2.2 ∧ O' = [(g.1, .purse (g.2.1 + 1))]
section
variable {P : Program} {w : World} {K : PySem.W.Frag} {mg : Str → Option Value} {base : Heap}
/-! ### _law_purse -/
abbrev s__law_purse : Stmt := top 25
abbrev N__law_purse : List Str := ["script", "place", "cell"]
theorem sc__law_purse : FnScope N__law_purse ["script", "place"] (defScope s__law_purse) := ⟨rfl, rfl, rfl, by decide +kernel, rfl, by decide +kernel, by decide +kernel⟩
def t__law_purse (K : PySem.W.Frag) : TS := (tSeq (tAsg (tIf (tTest (tOp rLtI (tVar 1) (tCB (rLenU K) (tCons (tVar 0) tNil)))) (tOp (rIxU K) (tVar 0) (tVar 1)) (tC (.int 0))) (gName 2)) (tRet (tLst (tCons (tCB rMax2 (tCons (tC (.int 0)) (tCons (tOp rSubU (tCB (rAbs) (tCons (tVar 2) tNil)) (tOp rPowU (tC (.int 10)) (tC (.int 18)))) tNil))) (tCons (tOp rModU (tCB (rInt1) (tCons (tOp (rAddU K) (tOp (rAddU K) (tOp (rMulU K) (tVar 2) (tC (.int 30011))) (tOp (rMulU K) (tVar 1) (tC (.int 7368787)))) (tC (.int 104729))) tNil)) (tOp (rAddU K) (tOp rPowU (tC (.int 10)) (tC (.int 24))) (tC (.int 7)))) (tCons (tC (.int 0)) tNil))))))
theorem w__law_purse {f : Addr} {cdv : Value} {A : Around} {outer : List PySem.Env} {s : Shared} {H : Hp} {E : XK} (T : Txt K mg w) (hr : Room 0 (A.deeper (envOfC "_law_purse" (defScope s__law_purse) s.heap.objs.size f cdv))) : PSs (cxOf (L2.CX P w) P w K mg base N__law_purse "_law_purse" (defScope s__law_purse) f cdv A outer s H E) (defBody s__law_purse) (t__law_purse K) := by
  have sc := sc__law_purse
  exact PSs.nox ((pss_cons (ps_set (i := 2) sc.nd rfl (Or.inl rfl) (pe_ifExp (pt_cmpR op_lt (pv 1) (pe_callB call_lenU (by rfl) T.n_len (by decide +kernel) (pa_cons (pv 0) pa_nil)) (nomark _)) (pe_ix (ix_U (hu_of hr)) (pv 0) (pv 1) (fun _ _ => rfl)) pe_int)) (pss_one (ps_ret (pe_lst (pa_cons (pe_callB (call_max2 rfl) (by rfl) T.n_max (by decide +kernel) (pa_cons pe_int (pa_cons (pe_op op_sub (pe_callB call_abs (by rfl) T.n_abs (by decide +kernel) (pa_cons (pv 2) pa_nil)) (pe_op op_powU pe_int pe_int)) pa_nil))) (pa_cons (pe_op op_mod (pe_callTy call_int1 (by rfl) T.n_int (by decide +kernel) (pa_cons (pe_op op_addU (pe_op op_addU (pe_op op_mulU (pv 2) pe_int) (pe_op op_mulU (pv 1) pe_int)) pe_int) pa_nil)) (pe_op op_addU (pe_op op_powU pe_int pe_int) pe_int)) (pa_cons pe_int pa_nil))))))))

/-! ### _law_coin -/
abbrev s__law_coin : Stmt := top 26
abbrev N__law_coin : List Str := ["purse", "many", "drawn", "stirred"]
theorem sc__law_coin : FnScope N__law_coin ["purse", "many"] (defScope s__law_coin) := ⟨rfl, rfl, rfl, by decide +kernel, rfl, by decide +kernel, by decide +kernel⟩
def t__law_coin (K : PySem.W.Frag) : TS := (tSeq (tIfS (tTest (tOp rGtI (tOp (rIxU K) (tVar 0) (tC (.int 0))) (tC (.int 0)))) (tSeq (tAsg (tOp rModU (tCB (rInt1) (tCons (tOp (rIxU K) (tVar 0) (tC (.int 0))) tNil)) (tVar 1)) (gName 2)) (tSeq (tAsg (tOp rDivU (tOp (rIxU K) (tVar 0) (tC (.int 0))) (tVar 1)) (gSub (tVar 0) (tC (.int 0)) rSetL)) (tRet (tVar 2)))) tNext) (tSeq (tAsg (tOp (rAddU K) (tOp (rIxU K) (tVar 0) (tC (.int 2))) (tC (.int 1))) (gSub (tVar 0) (tC (.int 2)) rSetL)) (tSeq (tAsg (tOp rModU (tOp rPowU (tCB (rInt1) (tCons (tOp (rAddU K) (tOp (rIxU K) (tVar 0) (tC (.int 1))) (tOp (rMulU K) (tC (.int 2038074743)) (tOp (rIxU K) (tVar 0) (tC (.int 2))))) tNil)) (tC (.int 3))) (tOp (rAddU K) (tOp rPowU (tC (.int 10)) (tC (.int 25))) (tC (.int 13)))) (gName 3)) (tSeq (tAsg (tOp rModU (tOp rPowU (tCB (rInt1) (tCons (tOp (rAddU K) (tVar 3) (tOp (rMulU K) (tC (.int 982451653)) (tOp (rIxU K) (tVar 0) (tC (.int 2))))) tNil)) (tC (.int 2))) (tOp (rAddU K) (tOp rPowU (tC (.int 10)) (tC (.int 24))) (tC (.int 7)))) (gName 3)) (tRet (tOp rModU (tCB (rInt1) (tCons (tOp rDivU (tVar 3) (tC (.int 1024))) tNil)) (tVar 1)))))))
theorem w__law_coin {f : Addr} {cdv : Value} {A : Around} {outer : List PySem.Env} {s : Shared} {H : Hp} {E : XK} (T : Txt K mg w) (hr : Room 0 (A.deeper (envOfC "_law_coin" (defScope s__law_coin) s.heap.objs.size f cdv))) : PSs (cxOf (L2.CX P w) P w K mg base N__law_coin "_law_coin" (defScope s__law_coin) f cdv A outer s H E) (defBody s__law_coin) (t__law_coin K) := by
  have sc := sc__law_coin
  exact PSs.nox ((pss_cons (ps_if (pt_cmpR op_gt (pe_ix (ix_U (hu_of hr)) (pv 0) pe_int (fun _ _ => rfl)) pe_int (nomark _)) (pss_cons (ps_set (i := 2) sc.nd rfl (Or.inl rfl) (pe_op op_mod (pe_callTy call_int1 (by rfl) T.n_int (by decide +kernel) (pa_cons (pe_ix (ix_U (hu_of hr)) (pv 0) pe_int (fun _ _ => rfl)) pa_nil)) (pv 1))) (pss_cons (ps_asg (pe_op op_fdiv (pe_ix (ix_U (hu_of hr)) (pv 0) pe_int (fun _ _ => rfl)) (pv 1)) (pg_sub (pv 0) pe_int set_list)) (pss_one (ps_ret (pv 2))))) pss_nil) (pss_cons (ps_asg (pe_op op_addU (pe_ix (ix_U (hu_of hr)) (pv 0) pe_int (fun _ _ => rfl)) pe_int) (pg_sub (pv 0) pe_int set_list)) (pss_cons (ps_set (i := 3) sc.nd rfl (Or.inl rfl) (pe_op op_mod (pe_op op_powU (pe_callTy call_int1 (by rfl) T.n_int (by decide +kernel) (pa_cons (pe_op op_addU (pe_ix (ix_U (hu_of hr)) (pv 0) pe_int (fun _ _ => rfl)) (pe_op op_mulU pe_int (pe_ix (ix_U (hu_of hr)) (pv 0) pe_int (fun _ _ => rfl)))) pa_nil)) pe_int) (pe_op op_addU (pe_op op_powU pe_int pe_int) pe_int))) (pss_cons (ps_set (i := 3) sc.nd rfl (Or.inl rfl) (pe_op op_mod (pe_op op_powU (pe_callTy call_int1 (by rfl) T.n_int (by decide +kernel) (pa_cons (pe_op op_addU (pv 3) (pe_op op_mulU pe_int (pe_ix (ix_U (hu_of hr)) (pv 0) pe_int (fun _ _ => rfl)))) pa_nil)) pe_int) (pe_op op_addU (pe_op op_powU pe_int pe_int) pe_int))) (pss_one (ps_ret (pe_op op_mod (pe_callTy call_int1 (by rfl) T.n_int (by decide +kernel) (pa_cons (pe_op op_fdiv (pv 3) pe_int) pa_nil)) (pv 1)))))))))

theorem atI_nat' {l : List D} {i : Nat} {d : D} (h : l[i]? = some d) : atI l (i : Int) = some d := atI_nat h
theorem ints_at {ns : List Int} {i : Nat} (h : i < ns.length) : (ns.map D.int)[i]? = some (.int (ns.getD i 0)) := by
  rw [List.getElem?_map, List.getElem?_eq_getElem h, List.getD_eq_getElem?_getD, List.getElem?_eq_getElem h]; rfl
theorem b__law_purse (g : c__law_purse.G) (B : Bs) (Q : VK) (rt : RT B Q (c__law_purse.post g)) : NX B (t__law_purse K { nx := fun _ H' => Q .non H', rt := Q }) (startD N__law_purse (c__law_purse.ds g)) [] := by
  obtain ⟨ns, pl⟩ := g
  have hlen : SeqOf [] (.frl (ns.map D.int)) (ns.map D.int) := .inl (.inr (.inl rfl))
  -- the cell: any number
  have cell : EvK B (tIf (tTest (tOp rLtI (tVar 1) (tCB (rLenU K) (tCons (tVar 0) tNil)))) (tOp (rIxU K) (tVar 0) (tVar 1)) (tC (.int 0))) (startD N__law_purse (c__law_purse.ds (ns, pl))) [] fun d O' => (∃ i : Int, d = .int i) ∧ O' = [] := by
    refine evk_if (et_test (ev_op (ev_var rfl) (ev_cb (ea_cons (ev_var rfl) ea_nil) (on_lenS hlen)) o2_lt)) (fun O' ⟨e1, e2⟩ => ?_) fun O' ⟨e1, e2⟩ => ?_
    · subst e2
      have hl : pl < ns.length := by simpa using e1.symm
      exact (ev_op (ev_var rfl) (ev_var rfl) (o2_ixS hlen (atI_nat (ints_at hl)))).imp fun d O' ⟨q1, q2⟩ => ⟨⟨_, q1⟩, q2⟩
    · subst e2
      exact ev_cint.imp fun d O' ⟨q1, q2⟩ => ⟨⟨_, q1⟩, q2⟩
  refine nx_asg cell fun d O' ⟨⟨i, e1⟩, e2⟩ => ?_
  subst e1 e2
  refine nx_ret rt (evk_weak (evo_lst (ea_cons (ev_cb (ea_cons ev_cint (ea_cons (ev_op (ev_cb (ea_cons (ev_var rfl) ea_nil) on_abs) (ev_op ev_cint ev_cint (o2_powI (cpow (i := 10) (j := 18) (k := 4) (by decide) (by decide) (by decide)))) o2_subI) ea_nil)) on_max2)
    (ea_cons (ev_op (ev_cb (ea_cons (ev_op (ev_op (ev_op (ev_var rfl) ev_cint (o2_mulI (.inr ⟨by decide, by decide⟩))) (ev_op (ev_var rfl) ev_cint (o2_mulI (.inr ⟨by decide, by decide⟩))) o2_addI) ev_cint o2_addI) ea_nil) on_int)
      (ev_op (ev_op ev_cint ev_cint (o2_powI (cpow (i := 10) (j := 24) (k := 4) (by decide) (by decide) (by decide)))) ev_cint o2_addI) (o2_modI (by decide))) (ea_cons ev_cint ea_nil))) (sz rfl))
    fun d O' ⟨p, _, e1, e2⟩ => ⟨0, p, _, .purse 0, by rw [e2]; rfl, purse_of ?_ ?_ ?_ ?_ ?_, p, e1, by rw [e2]; rfl⟩) fun d O' h => h
  · split <;> omega
  · exact Int.emod_nonneg _ (by decide)
  · exact Int.lt_trans (Int.emod_lt_of_pos _ (by decide)) (by decide)
  · decide
  · decide
theorem G__law_purse (T : Txt K mg w) : FnOk P w K mg base (L2.CX P w) 1 T.a__law_purse T.fd__law_purse ["script", "place"] c__law_purse.sp :=
  T.F__law_purse.ok sc__law_purse (Con.len fun _ => rfl) fun cdv A outer s H vs Q E hr h => ⟨t__law_purse K, w__law_purse T hr, body_ok (t := fun _ => t__law_purse K) (fun g B Q E hp rt _ _ => b__law_purse g B Q rt) h⟩
theorem b__law_coin (g : c__law_coin.G) (B : Bs) (Q : VK) (hp : c__law_coin.pre g) (rt : RT B Q (c__law_coin.post g)) : NX B (t__law_coin K { nx := fun _ H' => Q .non H', rt := Q }) (startD N__law_coin (c__law_coin.ds g)) (c__law_coin.own g) := by
  obtain ⟨pp, n, many⟩ := g
  obtain ⟨hn, hm, hm2⟩ : n < 10 ^ 9 ∧ 0 < many ∧ many < 1073741824 := hp
  refine nx_open 0 rfl fun a b c ha hb hb2 hc hcn => ?_
  have hcn : c ≤ (n : Int) := hcn
  have sq : ∀ {a b c : Int}, SeqOf [(pp, OO.lst [.int a, .int b, .int c])] (.adr pp) [.int a, .int b, .int c] := fun {a b c} => .inl (.inr (.inr ⟨pp, 0, rfl, rfl⟩))
  have ix0 : ∀ {Γ' : List (Option D)} {a b c : Int}, Γ'[0]? = some (some (.adr pp)) → EvP B (tOp (rIxU K) (tVar 0) (tC (.int 0))) Γ' [(pp, OO.lst [.int a, .int b, .int c])] (.int a) := fun h => ev_op (ev_var h) ev_cint (o2_ixS sq rfl)
  have ix1 : ∀ {Γ' : List (Option D)} {a b c : Int}, Γ'[0]? = some (some (.adr pp)) → EvP B (tOp (rIxU K) (tVar 0) (tC (.int 1))) Γ' [(pp, OO.lst [.int a, .int b, .int c])] (.int b) := fun h => ev_op (ev_var h) ev_cint (o2_ixS sq rfl)
  have ix2 : ∀ {Γ' : List (Option D)} {a b c : Int}, Γ'[0]? = some (some (.adr pp)) → EvP B (tOp (rIxU K) (tVar 0) (tC (.int 2))) Γ' [(pp, OO.lst [.int a, .int b, .int c])] (.int c) := fun h => ev_op (ev_var h) ev_cint (o2_ixS sq rfl)
  refine nx_ifP (et_test (ev_op (ix0 rfl) ev_cint o2_gt)) (fun h => ?_) fun h => ?_
  · refine nx_asgP (ev_op (ev_cb (ea_cons (ix0 rfl) ea_nil) on_int) (ev_var rfl) (o2_modI hm)) ?_
    refine nx_setL (p := pp) (ev_op (ix0 rfl) (ev_var rfl) (o2_divI ⟨hm, hm2⟩)) fun d O' ⟨e1, e2⟩ => ?_
    subst e1 e2
    refine ⟨ev_var rfl, 0, 0, 0, _, ev_cint, rfl, rfl, ?_⟩
    refine nx_weak (u' := OO.purse (n + 1)) 0 rfl (purse_of (Int.ediv_nonneg ha (Int.le_of_lt hm)) hb hb2 hc (Int.le_trans hcn (Int.ofNat_le.2 (Nat.le_succ n)))) ?_
    exact nx_retP rt (ev_var rfl) ⟨_, rfl, Int.emod_nonneg _ (Int.ne_of_gt hm), Int.emod_lt_of_pos _ hm, rfl⟩
  · refine nx_setL (p := pp) (ev_op (ix2 rfl) ev_cint o2_addI) fun d O' ⟨e1, e2⟩ => ?_
    subst e1 e2
    refine ⟨ev_var rfl, 2, 0, 2, _, ev_cint, rfl, rfl, ?_⟩
    have b1 : (b + 2038074743 * (c + 1)).natAbs < 2 ^ 100 := by omega
    refine nx_asgP (ev_op (ev_op (ev_cb (ea_cons (ev_op (ix1 rfl) (ev_op ev_cint (ix2 rfl) (o2_mulI (.inl ⟨by decide, by decide⟩))) o2_addI) ea_nil) on_int) ev_cint (o2_powI (cpow (j := 3) (k := 100) b1 (by decide) (by decide))))
      (ev_op (ev_op ev_cint ev_cint (o2_powI (cpow (i := 10) (j := 25) (k := 4) (by decide) (by decide) (by decide)))) ev_cint o2_addI) (o2_modI (by decide))) ?_
    generalize hx : (b + 2038074743 * (c + 1)) ^ (3 : Int).toNat % (10 ^ (25 : Int).toNat + 13) = x
    have x0 : 0 ≤ x := by rw [← hx]; exact Int.emod_nonneg _ (by decide)
    have x1 : x < 10 ^ 26 := by rw [← hx]; exact Int.lt_trans (Int.emod_lt_of_pos _ (by decide)) (by decide)
    have b2 : (x + 982451653 * (c + 1)).natAbs < 2 ^ 100 := by omega
    refine nx_asgP (ev_op (ev_op (ev_cb (ea_cons (ev_op (ev_var rfl) (ev_op ev_cint (ix2 rfl) (o2_mulI (.inl ⟨by decide, by decide⟩))) o2_addI) ea_nil) on_int) ev_cint (o2_powI (cpow (j := 2) (k := 100) b2 (by decide) (by decide))))
      (ev_op (ev_op ev_cint ev_cint (o2_powI (cpow (i := 10) (j := 24) (k := 4) (by decide) (by decide) (by decide)))) ev_cint o2_addI) (o2_modI (by decide))) ?_
    refine nx_weak (u' := OO.purse (n + 1)) 0 rfl (purse_of ha hb hb2 (by omega) (Int.add_le_add_right hcn 1)) ?_
    exact nx_retP rt (ev_op (ev_cb (ea_cons (ev_op (ev_var rfl) ev_cint (o2_divI ⟨by decide, by decide⟩)) ea_nil) on_int) (ev_var rfl) (o2_modI hm)) ⟨_, rfl, Int.emod_nonneg _ (Int.ne_of_gt hm), Int.emod_lt_of_pos _ hm, rfl⟩
theorem G__law_coin (T : Txt K mg w) : FnOk P w K mg base (L2.CX P w) 1 T.a__law_coin T.fd__law_coin ["purse", "many"] c__law_coin.sp :=
  T.F__law_coin.ok sc__law_coin (Con.len fun _ => rfl) fun cdv A outer s H vs Q E hr h => ⟨t__law_coin K, w__law_coin T hr, body_ok (t := fun _ => t__law_coin K) (fun g B Q E hp rt _ _ => b__law_coin g B Q hp rt) h⟩
end
theorem FnOk.calm {P : Program} {w : World} {K : PySem.W.Frag} {mg : Str → Option Value} {base : Heap} {k : Nat} {f : Addr} {fd : FuncData} {ps : List Str} {c : Con} (h : FnOk P w K mg base (L2.CX P w) k f fd ps c.sp) (n : ∀ g C d O', ¬ c.exn g C d O') : FnOk P w K mg base (L2N.CX P w) k f fd ps c.sp :=
  ⟨h.len, fun A outer s H args us vs Q E hr he hb hv hs => by
    obtain ⟨g, F, s1, r, o, hp, hq, hx⟩ := hs
    refine codeAny_mono (h.run A outer s H args us vs Q (fun _ _ _ => False) hr he hb hv ⟨g, F, s1, r, o, hp, hq, fun C dd v d O' F' H' _ _ _ _ _ z => (n g C d O' z).elim⟩) fun r s' z => ?_
    match r, z with
    | .ok (.ret u), z => exact z
    | .error er, z => exact (z.choose_spec.choose_spec.choose_spec.choose_spec.choose_spec.2.2.2.2.2.2.2).elim⟩
theorem passF {P : Program} {w : World} {X : Cx} : Passes (L2.CX P w) X fun _ _ _ => False := fun _ _ _ _ _ _ _ z => (z.choose_spec.choose_spec.choose_spec.choose_spec.choose_spec.2.2.2.2.2.2.2).elim
theorem takes0N {X : Cx} : L2N.Takes X fun _ _ _ _ => False := fun _ _ ⟨_, _, _, _, _, _, _, _, _, _, _, _, _, _, _, _, z⟩ => z.elim
section
variable {P : Program} {w : World} {K : PySem.W.Frag} {mg : Str → Option Value} {base : Heap}
abbrev s_init : Stmt := inClass (top 2) 0
theorem sc_init : FnScope ["self", "value"] ["self", "value"] (defScope s_init) := ⟨rfl, rfl, rfl, by decide +kernel, rfl, by decide +kernel, by decide +kernel⟩
theorem G_init (T : Txt K mg w) : FnOk P w K mg base (L2.CX P w) 1 T.a_KeyTellError_init T.fd_KeyTellError_init ["self", "value"] (spI K) :=
  T.F_KeyTellError_init.ok sc_init spI_len fun cdv A outer s H vs Q E hr h => ⟨tInit K, pss_one (ps_ost (pv 0) (pv 1)), tInit_ok h⟩
theorem GN_is_name (T : Txt K mg w) : FnOk P w K mg base (L2N.CX P w) 1 T.a_is_name T.fd_is_name ["text"] c_is_name.sp := FnOk.calm (G_is_name T) fun _ _ _ _ h => h
end
end Kt
set_option maxHeartbeats 4000000
namespace Kt
open PySem PySem.Spec PyProof.Rows L2 StX
/-! books, plainly -/
def okCols (cs : List Str) : Prop := (∀ c ∈ cs, isName c = true) ∧ cs.Nodup
def okTabs (ts : List (Str × List Str)) : Prop := (∀ t ∈ ts, isName t.1 = true ∧ okCols t.2) ∧ (ts.map (·.1)).Nodup
structure Rl where
  t : Str
  cs : List Str
  c : Option Str
def Rl.kind (r : Rl) : Str := if r.c.isNone then "key" else "settles"
def okRule (ts : List (Str × List Str)) (r : Rl) : Prop := ∃ cols, ts.lookup r.t = some cols ∧ ∀ c ∈ r.cs ++ r.c.toList, c ∈ cols
def okBook (ts : List (Str × List Str)) (rs : List Rl) : Prop := okTabs ts ∧ ∀ r ∈ rs, okRule ts r
def strsD (mk : List D → D) (l : List Str) : D := mk (l.map .str)
def tabD (mk : List D → D) (t : Str × List Str) : D := .tup [.str t.1, strsD mk t.2]
def rlD (mk : List D → D) (r : Rl) : D := .tup ([.str r.kind, .str r.t, strsD mk r.cs] ++ r.c.toList.map .str)
def bookF (ts : List (Str × List Str)) (rs : List Rl) : List (Str × D) := [("kept_tables", .tup (ts.map (tabD .tup))), ("kept_rules", .tup (rs.map (rlD .tup)))]
def colsK (ts : List (Str × List Str)) : List (Key × D) := ts.map fun t => (.inr t.1, strsD .tup t.2)
def cNever (n : Nat) : Con where
  G := Unit
  ds := fun _ => List.replicate n .non
  pre := fun _ => False
  post := fun _ _ _ => False
theorem fok_never {P : Program} {w : World} {K : PySem.W.Frag} {mg : Str → Option Value} {base : Heap} {CX : CXT} {k : Nat} {f : Addr} {fd : FuncData} {ps : List Str} {n : Nat} : FnOk P w K mg base CX k f fd ps (cNever n).sp :=
  ⟨fun _ _ _ _ ⟨_, _, _, _, _, hp, _⟩ => hp.elim, fun _ _ _ _ _ _ _ _ _ _ _ _ _ ⟨_, _, _, _, _, hp, _⟩ => hp.elim⟩
section
variable {B : Bs} {O : Ow} {F F' H H' : Hp} {σ : L2.St} {Γ : List (Option D)} {p : Addr} {K : PySem.W.Frag} {D₀ : Ends}
theorem nx_retF {te : TE} {Φ Ψ : D → Ow → Prop} (q : RT B D₀.rt Ψ) (h : EvK B te Γ O Φ) (k : ∀ d O', Φ d O' → ∃ O1 O2, O' = O1 ++ O2 ∧ Ψ d O2) : NX B (tRet te D₀) Γ O := fun F σ H s e =>
  h F σ H s e _ fun v d O' F' H' s' f r p => by
    obtain ⟨O1, O2, e, w⟩ := k d O' p
    rw [e] at s'
    exact q F' H' v d O2 s'.drop r w
theorem nx_endF {Q : VK} {Ψ : D → Ow → Prop} {O1 O2 : Ow} (q : RT B Q Ψ) (k : Ψ .non O2) : NX B (fun _ H' => Q .non H') Γ (O1 ++ O2) := fun F σ H s e => q F H .non .non O2 s.drop .non k
theorem str_at {ls : List Str} {i : Nat} (h : i < ls.length) : ∃ c, ls[i]? = some c ∧ (ls.map D.str).getD i .non = .str c ∧ c ∈ ls ∧ ls.take (i + 1) = ls.take i ++ [c] := by
  have e := List.getElem?_eq_getElem h
  refine ⟨ls[i], e, ?_, List.getElem_mem h, take_snoc e⟩
  rw [List.getD_eq_getElem?_getD, List.getElem?_map, e]; rfl
theorem get_at {α : Type} {ls : List α} {f : α → D} {i : Nat} (h : i < ls.length) : ∃ c, ls[i]? = some c ∧ (ls.map f).getD i .non = f c ∧ c ∈ ls ∧ ls.take (i + 1) = ls.take i ++ [c] := by
  have e := List.getElem?_eq_getElem h
  refine ⟨ls[i], e, ?_, List.getElem_mem h, take_snoc e⟩
  rw [List.getD_eq_getElem?_getD, List.getElem?_map, e]; rfl
end
def c_fresh : Con := cNever 1
def c_checked_columns {K : PySem.W.Frag} {mg : Str → Option Value} {w : World} (T : Txt K mg w) : Con where
  G := List Str
  ds := fun cs => [strsD .lst cs]
  pre := fun cs => cs.length ≤ 100000 ∧ ∀ c ∈ cs, c.length ≤ 1000000
  post := fun cs d O' => okCols cs ∧ d = strsD .tup cs ∧ O' = []
  exn := fun cs C d O' => ¬ okCols cs ∧ (C = T.a_InvalidName ∨ C = T.a_DoubleName) ∧ O' = []
section
variable {P : Program} {w : World} {K : PySem.W.Frag} {mg : Str → Option Value} {base : Heap}
theorem GN_fresh (T : Txt K mg w) : FnOk P w K mg base (L2N.CX P w) 1 T.a_fresh T.fd_fresh ["thing"] c_fresh.sp := fok_never
/-! ### checked_columns -/
abbrev s_checked_columns : Stmt := top 15
abbrev N_checked_columns : List Str := ["columns", "found", "column"]
theorem sc_checked_columns : FnScope N_checked_columns ["columns"] (defScope s_checked_columns) := ⟨rfl, rfl, rfl, by decide +kernel, rfl, by decide +kernel, by decide +kernel⟩
def t_checked_columns (K : PySem.W.Frag) {mg : Str → Option Value} {w : World} (T : Txt K mg w) (E : XK) : TS := (tSeq (tAsg (tLst tNil) (gName 1)) (tSeq (tFor (iList K (tVar 0)) (gName 2) (tSeq (tIfS (tNot (tB (tCl c_is_name [] (fun cls d _ H => E cls d H) (tCons (tVar 2) tNil)))) (tRz K T.a_InvalidName (fun cls d _ H => E cls d H) (tCons (tVar 2) tNil)) tNext) (tSeq (tIfS (tTest (tOp (rInU K) (tVar 2) (tVar 1))) (tRz K T.a_DoubleName (fun cls d _ H => E cls d H) (tCons (tVar 2) tNil)) tNext) (tDrop (tBM K "list" rAppend (tVar 1) (tCons (tVar 2) tNil)))))) (tRet (tCB (rTupleU K) (tCons (tVar 1) tNil)))))
theorem w_checked_columns {f : Addr} {cdv : Value} {A : Around} {outer : List PySem.Env} {s : Shared} {H : Hp} {E : XK} (T : Txt K mg w) (hr : Room 2 (A.deeper (envOfC "checked_columns" (defScope s_checked_columns) s.heap.objs.size f cdv))) : PSs (cxOf (L2N.CX P w) P w K mg base N_checked_columns "checked_columns" (defScope s_checked_columns) f cdv A outer s H E) (defBody s_checked_columns) (t_checked_columns K T E) := by
  have sc := sc_checked_columns
  exact (pss_cons (ps_set (i := 1) sc.nd rfl (Or.inl rfl) (pe_lst pa_nil)) (pss_cons (ps_for (passes_of rfl) rfl (pi_list (pv 0)) (pg_name (i := 2) sc.nd rfl (Or.inl rfl)) (pss_cons (ps_if (pt_not (pt_val (pe_clN (W := (fun cls d _ H => E cls d H)) (GN_is_name T) (hr.mono (by decide)) (by rfl) T.g_is_name T.k_is_name T.b_is_name (L2N.takes_of rfl rfl rfl rfl) (pa_cons (pv 2) pa_nil)))) (pss_one (L2N.ps_raise rfl (L2N.takes_of rfl rfl rfl rfl) (pmk_oexN T.x_InvalidName T.i_InvalidName T.ti (G_init T) (hr.mono (by decide)) T.b_KeyTellError_init passF (by rfl) T.g_InvalidName (pa_cons (pv 2) pa_nil)))) pss_nil) (pss_cons (ps_if (pt_cmpR (op_inU (hu_of hr)) (pv 2) (pv 1) (by rfl)) (pss_one (L2N.ps_raise rfl (L2N.takes_of rfl rfl rfl rfl) (pmk_oexN T.x_DoubleName T.i_DoubleName T.ti (G_init T) (hr.mono (by decide)) T.b_KeyTellError_init passF (by rfl) T.g_DoubleName (pa_cons (pv 2) pa_nil)))) pss_nil) (pss_one (ps_expr (pe_bm PySem.F.plainAttrs_list PySem.F.slot_list_append PySem.F.type_list_append mt_append (pv 1) (pa_cons (pv 2) pa_nil))))))) (pss_one (ps_ret (pe_callTy call_tuple_of (by rfl) T.n_tuple (by decide +kernel) (pa_cons (pv 1) pa_nil))))))

theorem b_checked_columns (T : Txt K mg w) (cs : List Str) (B : Bs) (Q : VK) (E : XK) (hp : (c_checked_columns T).pre cs) (rt : RT B Q ((c_checked_columns T).post cs)) (xt : XT B E ((c_checked_columns T).exn cs)) : NX B (t_checked_columns K T E { nx := fun _ H' => Q .non H', rt := Q }) (startD N_checked_columns ((c_checked_columns T).ds cs)) [] := by
  obtain ⟨hn, hl⟩ := hp
  refine nx_seq (nx_asg (evo_lst ea_nil (sz rfl)) fun d O' ⟨p, hB, e1, e2⟩ => ?_)
  subst e1 e2
  refine nx_seq (nx_for (K := K) (ei_list (l := cs.map .str) (ev_var rfl) (.inl rfl)) (fun i Γ O => (∃ x, Γ = [some (strsD .lst cs), some (.adr p), x]) ∧ O = [(p, OO.lst ((cs.take i).map .str))] ∧ okCols (cs.take i)) ⟨⟨_, rfl⟩, rfl, by simp [okCols]⟩ ?_ ?_)
  · rintro B' i Γ1 O1 up hH lt ⟨⟨x, rfl⟩, rfl, ok⟩
    obtain ⟨c, hc, ey, hm, et⟩ := str_at (ls := cs) (by simpa using lt)
    refine ⟨_, by rw [ey]; exact gt_name, fun N hN => nx_seq (nx_ifP (et_not (et_B (evp_cl (d := .bl (isName c)) c (ea_cons (ev_var rfl) ea_nil) rfl rfl (Nat.le_trans (hl c hm) (sz rfl)) (fun _ _ z => z) fun _ _ _ z => z))) (fun hb => ?_) fun hb => nx_seq (nx_ifP (et_test (ev_op (ev_var rfl) (ev_var rfl) (o2_inL (d := .adr p) (ls := cs.take i) (x := c) (.inl (.inr (.inr ⟨p, 0, rfl, rfl⟩)))))) (fun hb2 => ?_) fun hb2 => ?_))⟩
    · have hb : isName c = false := by simpa using hb
      exact nx_forget (nx_raiseP T.x_InvalidName T.v_InvalidName (ev_var rfl) (XW.of (up.xt xt)) ⟨fun z => by (rw [z.1 c hm] at hb; cases hb), .inl rfl, rfl⟩)
    · have hb2 : c ∈ cs.take i := by simpa using hb2.symm
      refine nx_forget (nx_raiseP T.x_DoubleName T.v_DoubleName (ev_var rfl) (XW.of (up.xt xt)) ⟨fun z => ?_, .inr rfl, rfl⟩)
      have nd : (cs.take (i + 1)).Nodup := z.2.sublist (List.take_sublist _ _)
      rw [et, List.nodup_append] at nd
      exact nd.2.2 c hb2 c (by simp) rfl
    · have hb : isName c = true := by simpa using hb
      have hb2 : c ∉ cs.take i := by simpa using hb2.symm
      refine nx_drop (Φ := fun d O' => O' = [(p, OO.lst ((cs.take (i + 1)).map .str))]) (evk_append (ev_var rfl) ⟨0, _, rfl⟩ (ev_var rfl) fun d O' ⟨e1, e2⟩ => ?_) fun d O' e => hN _ _ ⟨⟨_, rfl⟩, e, ?_⟩
      · rw [et]
        refine ⟨fun c' h => ?_, ?_⟩
        · rcases List.mem_append.mp h with h | h
          · exact ok.1 c' h
          · have : c' = c := by simpa using h
            rw [this]; exact hb
        · rw [List.nodup_append]
          refine ⟨ok.2, by simp, fun a ha b hb' e => ?_⟩
          have : b = c := by simpa using hb'
          rw [e, this] at ha
          exact hb2 ha
      · subst e1 e2
        refine ⟨0, _, rfl, ?_, ?_⟩
        · have : ((cs.take i).map D.str).length ≤ 100000 := by simp; omega
          exact Nat.lt_of_le_of_lt this (by rw [sizeLine_eq]; decide)
        · show [(p, OO.lst (((cs.take i).map D.str) ++ [.str c]))] = _
          rw [et]; simp
  · rintro Γ1 O1 ⟨⟨x, rfl⟩, rfl, ok⟩
    rw [List.length_map, List.take_length] at ok
    rw [List.length_map, List.take_length]
    exact nx_retF rt (ev_cb (ea_cons (ev_var rfl) ea_nil) (on_tupleL (.inr (.inr ⟨p, 0, rfl, rfl⟩)))) fun d O' ⟨e1, e2⟩ => ⟨_, [], by rw [List.append_nil], ok, e1, rfl⟩
theorem G_checked_columns (T : Txt K mg w) : FnOk P w K mg base (L2N.CX P w) 3 T.a_checked_columns T.fd_checked_columns ["columns"] (c_checked_columns T).sp :=
  T.F_checked_columns.ok sc_checked_columns (Con.len fun _ => rfl) fun cdv A outer s H vs Q E hr h => ⟨t_checked_columns K T E, w_checked_columns T hr, body_ok (t := t_checked_columns K T) (fun g B Q E hp rt xt _ => b_checked_columns T g B Q E hp rt xt) h⟩
end
end Kt
namespace Kt
open PySem PySem.Spec PyProof.Rows L2 StX
/-! data that == looks at -/
def okS (x : Str) : Prop := PyData.strOk x = true ∧ x.length ≤ 1000000
theorem py_strs : ∀ {ls : List Str}, (∀ x ∈ ls, PyData.strOk x = true) → D.isPyL (ls.map .str) = true ∧ PyData.depthAll (D.pyL (ls.map .str)) = 0
  | [], _ => ⟨rfl, rfl⟩
  | x :: ls, h => by
    obtain ⟨h1, h2⟩ := py_strs (ls := ls) fun y hy => h y (List.mem_cons_of_mem _ hy)
    refine ⟨?_, ?_⟩
    · show (PyData.strOk x && D.isPyL (ls.map .str)) = true
      rw [h x List.mem_cons_self, h1]; rfl
    · show max 0 (PyData.depthAll (D.pyL (ls.map .str))) = 0
      rw [h2]; rfl
def okRl (r : Rl) : Prop := okS r.t ∧ (∀ x ∈ r.cs, okS x) ∧ ∀ x ∈ r.c.toList, okS x
theorem kind_ok (r : Rl) : PyData.strOk r.kind = true := by
  unfold Rl.kind
  split
  · exact (by decide +kernel : PyData.strOk "key" = true)
  · exact (by decide +kernel : PyData.strOk "settles" = true)
theorem py_rl {r : Rl} (h : okRl r) : (rlD .lst r).isPy = true ∧ (rlD .lst r).py.depth ≤ 3 := by
  obtain ⟨t, cs, c⟩ := r
  obtain ⟨h1, h2, h3⟩ := h
  obtain ⟨a1, a2⟩ := py_strs (ls := cs) fun x hx => (h2 x hx).1
  have k := kind_ok ⟨t, cs, c⟩
  cases c with
  | none =>
    refine ⟨?_, ?_⟩
    · show (PyData.strOk (Rl.kind ⟨t, cs, none⟩) && (PyData.strOk t && (D.isPyL (cs.map .str) && true))) = true
      rw [k, h1.1, a1]; rfl
    · show max 0 (max 0 (max (PyData.depthAll (D.pyL (cs.map .str)) + 1) 0)) + 1 ≤ 3
      rw [a2]; decide
  | some c =>
    refine ⟨?_, ?_⟩
    · show (PyData.strOk (Rl.kind ⟨t, cs, some c⟩) && (PyData.strOk t && (D.isPyL (cs.map .str) && (PyData.strOk c && true)))) = true
      rw [k, h1.1, a1, (h3 c (by simp)).1]; rfl
    · show max 0 (max 0 (max (PyData.depthAll (D.pyL (cs.map .str)) + 1) (max 0 0))) + 1 ≤ 3
      rw [a2]; decide
theorem pyOf_self {O : Ow} {d : D} (h : d.isPy = true) (k : d.py.depth ≤ 64) : PyOf O d d := ⟨h, k, .inl rfl⟩
theorem valD_cons {q : Key × D} {l : List (Key × D)} {k : Key} : valD (q :: l) k = if q.1 = k then some q.2 else valD l k := by
  unfold valD
  rw [List.find?_cons]
  by_cases e : q.1 = k
  · rw [if_pos e, decide_eq_true e]; rfl
  · rw [if_neg e, decide_eq_false e]
theorem valD_cols {t : Str} : ∀ {ts : List (Str × List Str)}, valD (colsK ts) (.inr t) = (ts.lookup t).map (strsD .tup)
  | [] => rfl
  | (n, cs) :: ts => by
    show valD ((.inr n, strsD .tup cs) :: colsK ts) (.inr t) = _
    rw [valD_cons, List.lookup_cons, valD_cols (ts := ts)]
    by_cases e : n = t
    · subst e
      rw [if_pos rfl, beq_self_eq_true]; rfl
    · have e1 : (t == n) = false := by simpa using fun z : t = n => e z.symm
      rw [if_neg (fun z => e (Sum.inr.inj z)), e1]
theorem putD_cols {ts : List (Str × List Str)} {n : Str} {cs : List Str} (h : n ∉ ts.map (·.1)) : putD (colsK ts) (.inr n) (strsD .tup cs) = colsK (ts ++ [(n, cs)]) := by
  unfold putD
  rw [if_neg]
  · simp [colsK]
  · intro z
    obtain ⟨q, hq, e⟩ := List.any_eq_true.mp z
    obtain ⟨t, ht, rfl⟩ := List.mem_map.mp hq
    have e : (Sum.inr t.1 : Key) = .inr n := by simpa using e
    exact h (List.mem_map.mpr ⟨t, ht, Sum.inr.inj e⟩)
theorem lookup_none {t : Str} : ∀ {ts : List (Str × List Str)}, ts.lookup t = none ↔ t ∉ ts.map (·.1)
  | [] => by simp
  | (n, cs) :: ts => by
    rw [List.lookup_cons]
    cases e : (t == n) with
    | true =>
      have : t = n := by simpa using e
      simp [this]
    | false =>
      have h : t ≠ n := by simpa using e
      rw [lookup_none (ts := ts)]
      simp [h]
theorem lookup_mem {t : Str × List Str} : ∀ {ts : List (Str × List Str)}, (ts.map (·.1)).Nodup → t ∈ ts → ts.lookup t.1 = some t.2
  | [], _, h => by cases h
  | (n, cs) :: ts, nd, h => by
    rw [List.lookup_cons]
    rw [List.map_cons, List.nodup_cons] at nd
    rcases List.mem_cons.mp h with e | h
    · subst e; simp
    · have : t.1 ≠ n := fun e => nd.1 (by rw [← e]; exact List.mem_map.mpr ⟨t, h, rfl⟩)
      have e : (t.1 == n) = false := by simpa using this
      rw [e]
      exact lookup_mem nd.2 h
theorem five {α : Type} {a b c d e x : α} (h : x = b ∨ x = a) : x ∈ [a, b, c, d, e] := by
  rcases h with h | h <;> simp [h]
def c_check_rule {K : PySem.W.Frag} {mg : Str → Option Value} {w : World} (T : Txt K mg w) : Con where
  G := Addr × List (Str × List Str) × Rl
  ds := fun g => [.adr g.1, rlD .lst g.2.2]
  own := fun g => [(g.1, .dct (colsK g.2.1))]
  pre := fun g => okRl g.2.2 ∧ g.2.2.cs.length ≤ 100000
  post := fun g d O' => okRule g.2.1 g.2.2 ∧ d = .non ∧ O' = [(g.1, .dct (colsK g.2.1))]
  exn := fun g C d O' => ¬ okRule g.2.1 g.2.2 ∧ (C = T.a_UnknownTable ∨ C = T.a_UnknownColumn) ∧ O' = [(g.1, .dct (colsK g.2.1))]
section
variable {P : Program} {w : World} {K : PySem.W.Frag} {mg : Str → Option Value} {base : Heap}
/-! ### check_rule -/
abbrev s_check_rule : Stmt := top 16
abbrev N_check_rule : List Str := ["columns_of", "rule", "column"]
theorem sc_check_rule : FnScope N_check_rule ["columns_of", "rule"] (defScope s_check_rule) := ⟨rfl, rfl, rfl, by decide +kernel, rfl, by decide +kernel, by decide +kernel⟩
def t_check_rule (K : PySem.W.Frag) {mg : Str → Option Value} {w : World} (T : Txt K mg w) (E : XK) : TS := (tSeq (tIfS (tOr (tTest (tOp (rEqD K) (tVar 1) (tTup tNil))) (tTest (tOp (rNeD K) (tGetK K w (tC (.ref T.a_RULE_SIZES)) (tOp (rIxU K) (tVar 1) (tC (.int 0)))) (tCB (rLenU K) (tCons (tVar 1) tNil))))) (tRz K T.a_InvalidRule (fun cls d _ H => E cls d H) (tCons (tCl c_fresh [] (fun cls d _ H => E cls d H) (tCons (tVar 1) tNil)) tNil)) tNext) (tSeq (tIfS (tTest (tOp (rNotInU K) (tOp (rIxU K) (tVar 1) (tC (.int 1))) (tVar 0))) (tRz K T.a_UnknownTable (fun cls d _ H => E cls d H) (tCons (tOp (rIxU K) (tVar 1) (tC (.int 1))) tNil)) tNext) (tFor (iList K (tLst (tStar K (tOp (rIxU K) (tVar 1) (tC (.int 2))) (tStar K (tSl (rSlU K) (tVar 1) (tPart (tC (.int 3))) tNoPart) tNil)))) (gName 2) (tIfS (tTest (tOp (rNotInU K) (tVar 2) (tOp (rIxU K) (tVar 0) (tOp (rIxU K) (tVar 1) (tC (.int 1)))))) (tRz K T.a_UnknownColumn (fun cls d _ H => E cls d H) (tCons (tVar 2) tNil)) tNext))))
theorem w_check_rule {f : Addr} {cdv : Value} {A : Around} {outer : List PySem.Env} {s : Shared} {H : Hp} {E : XK} (T : Txt K mg w) (hr : Room 2 (A.deeper (envOfC "check_rule" (defScope s_check_rule) s.heap.objs.size f cdv))) : PSs (cxOf (L2N.CX P w) P w K mg base N_check_rule "check_rule" (defScope s_check_rule) f cdv A outer s H E) (defBody s_check_rule) (t_check_rule K T E) := by
  have sc := sc_check_rule
  exact (pss_cons (ps_if (PW.pt (pw_or (pt_cmpR (op_eqD hr.units) (pv 1) (pe_tup pa_nil) (nomark _)) (pw_or1 (pt_cmpR (op_neD hr.units) (pe_getK (pe_glob rfl T.g_RULE_SIZES rfl) (pe_ix (ix_U (hu_of hr)) (pv 1) pe_int (fun _ _ => rfl)) ⟨by rfl, by rfl, by rfl, by rfl⟩) (pe_callB call_lenU (by rfl) T.n_len (by decide +kernel) (pa_cons (pv 1) pa_nil)) (nomark _))))) (pss_one (L2N.ps_raise rfl (L2N.takes_of rfl rfl rfl rfl) (pmk_oexN T.x_InvalidRule T.i_InvalidRule T.ti (G_init T) (hr.mono (by decide)) T.b_KeyTellError_init passF (by rfl) T.g_InvalidRule (pa_cons (pe_clN (W := (fun cls d _ H => E cls d H)) (GN_fresh T) (hr.mono (by decide)) (by rfl) T.g_fresh T.k_fresh T.b_fresh (L2N.takes_of rfl rfl rfl rfl) (pa_cons (pv 1) pa_nil)) pa_nil)))) pss_nil) (pss_cons (ps_if (pt_cmpR (op_notInU (hu_of hr)) (pe_ix (ix_U (hu_of hr)) (pv 1) pe_int (fun _ _ => rfl)) (pv 0) (by rfl)) (pss_one (L2N.ps_raise rfl (L2N.takes_of rfl rfl rfl rfl) (pmk_oexN T.x_UnknownTable T.i_UnknownTable T.ti (G_init T) (hr.mono (by decide)) T.b_KeyTellError_init passF (by rfl) T.g_UnknownTable (pa_cons (pe_ix (ix_U (hu_of hr)) (pv 1) pe_int (fun _ _ => rfl)) pa_nil)))) pss_nil) (pss_one (ps_for (passes_of rfl) rfl (pi_list (pe_lst (pa_star (pe_ix (ix_U (hu_of hr)) (pv 1) pe_int (fun _ _ => rfl)) (pa_star (pe_slice sl_U (pv 1) (po_some pe_int) po_none) pa_nil)))) (pg_name (i := 2) sc.nd rfl (Or.inl rfl)) (pss_one (ps_if (pt_cmpR (op_notInU (hu_of hr)) (pv 2) (pe_ix (ix_U (hu_of hr)) (pv 0) (pe_ix (ix_U (hu_of hr)) (pv 1) pe_int (fun _ _ => rfl)) (fun _ _ => rfl)) (by rfl)) (pss_one (L2N.ps_raise rfl (L2N.takes_of rfl rfl rfl rfl) (pmk_oexN T.x_UnknownColumn T.i_UnknownColumn T.ti (G_init T) (hr.mono (by decide)) T.b_KeyTellError_init passF (by rfl) T.g_UnknownColumn (pa_cons (pv 2) pa_nil)))) pss_nil))))))

theorem b_check_rule (T : Txt K mg w) (g : (c_check_rule T).G) (B : Bs) (Q : VK) (E : XK) (hp : (c_check_rule T).pre g) (rt : RT B Q ((c_check_rule T).post g)) (xt : XT B E ((c_check_rule T).exn g)) : NX B (t_check_rule K T E { nx := fun _ H' => Q .non H', rt := Q }) (startD N_check_rule ((c_check_rule T).ds g)) ((c_check_rule T).own g) := by
  obtain ⟨p, ts, r⟩ := g
  obtain ⟨hr, hn⟩ : okRl r ∧ r.cs.length ≤ 100000 := hp
  obtain ⟨py1, py2⟩ := py_rl hr
  have hdct : DctOf [(p, OO.dct (colsK ts))] (.adr p) (colsK ts) := .inr (.inl ⟨p, 0, rfl, rfl⟩)
  have ix : ∀ {i : Int} {d : D} {Γ : List (Option D)}, Γ[1]? = some (some (rlD .lst r)) → atI ([.str r.kind, .str r.t, strsD .lst r.cs] ++ r.c.toList.map .str) i = some d → ∀ {B' : Bs}, EvP B' (tOp (rIxU K) (tVar 1) (tC (.int i))) Γ [(p, OO.dct (colsK ts))] d := by
    intro i d Γ h e B'
    exact ev_op (ev_var h) ev_cint (o2_ixS (.inr rfl) e)
  have i0 : atI ([.str r.kind, .str r.t, strsD .lst r.cs] ++ r.c.toList.map .str) 0 = some (.str r.kind) := by cases r.c <;> rfl
  have i1 : atI ([.str r.kind, .str r.t, strsD .lst r.cs] ++ r.c.toList.map .str) 1 = some (.str r.t) := by cases r.c <;> rfl
  have i2 : atI ([.str r.kind, .str r.t, strsD .lst r.cs] ++ r.c.toList.map .str) 2 = some (strsD .lst r.cs) := by cases r.c <;> rfl
  obtain ⟨es, n, kd⟩ := T.kd_RULE_SIZES
  have sizes : ∃ u, PySem.W.nsIn K T.a_RULE_SIZES r.kind = some (some u) ∧ RelV (.int ((([.str r.kind, .str r.t, strsD .lst r.cs] ++ r.c.toList.map .str : List D).length : Nat) : Int)) u := by
    unfold Rl.kind
    cases e : r.c with
    | none => exact T.rs_key
    | some c => exact T.rs_settles
  obtain ⟨u, su, ru⟩ := sizes
  refine nx_seq (nx_ifP (b := false) ((et_or (a := false) (b := false) (et_test (ev_op (ev_var rfl) (ev_tup ea_nil (sz rfl)) (o2_eq (pyOf_self py1 (Nat.le_trans py2 (by decide))) (pyOf_self rfl (by decide)) (by simp [rlD])))) fun _ => ?_)) (fun hb => by cases hb) fun _ => ?_)
  · refine et_test ((ev_op (ev_getK ev_cref kd (ix rfl i0) su fun F => ⟨_, ru, .int⟩) (ev_cb (ea_cons (ev_var rfl) ea_nil) (on_lenS (.inr rfl))) o2_neI).is (by simp))
  refine nx_seq (nx_ifP (et_test (ev_op (ix rfl i1) (ev_var rfl) (o2_notInDS hdct))) (fun hb => ?_) fun hb => ?_)
  · refine nx_raiseP T.x_UnknownTable T.v_UnknownTable (ix rfl i1) (XW.of xt) ⟨?_, .inl rfl, rfl⟩
    rintro ⟨cols, hc, _⟩
    rw [valD_cols, hc] at hb
    cases hb
  · rw [valD_cols] at hb
    cases hc : ts.lookup r.t with
    | none => rw [hc] at hb; cases hb
    | some cols =>
      have sl : ∀ {Γ : List (Option D)}, Γ[1]? = some (some (rlD .lst r)) → EvP B (tSl (rSlU K) (tVar 1) (tPart (tC (.int 3))) tNoPart) Γ [(p, OO.dct (colsK ts))] (.tup (r.c.toList.map .str)) := fun h => (ev_slT (ev_var h) (eo_some ev_cint) eo_none).is (by
        unfold cutD
        cases r.c <;> rfl)
      have ll : ((r.cs ++ r.c.toList).map D.str).length ≤ 100001 := by
        rw [List.length_map, List.length_append]
        have : r.c.toList.length ≤ 1 := by cases r.c <;> simp
        omega
      refine nx_for (K := K) (ei_list (l := (r.cs ++ r.c.toList).map .str) ((ev_lst (ea_star (ix rfl i2) (.inl (.inl rfl)) (ea_star (sl rfl) (.inr rfl) ea_nil)) ?_).is (by simp)) (.inl rfl))
        (fun i Γ O => (∃ x, Γ = [some (.adr p), some (rlD .lst r), x]) ∧ O = [(p, OO.dct (colsK ts))] ∧ ∀ c ∈ (r.cs ++ r.c.toList).take i, c ∈ cols) ⟨⟨_, rfl⟩, rfl, by simp⟩ ?_ ?_
      · refine Nat.le_trans (Nat.le_of_eq ?_) (Nat.le_trans ll (sz rfl))
        simp
      · rintro B' i Γ1 O1 up hH lt ⟨⟨x, rfl⟩, rfl, ok⟩
        obtain ⟨c, hc2, ey, hm, et⟩ := str_at (ls := r.cs ++ r.c.toList) (by simpa using lt)
        refine ⟨_, by rw [ey]; exact gt_name, fun N hN => nx_ifP (et_test (ev_op (ev_var rfl) (ev_op (ev_var rfl) (ix rfl i1) (o2_ixDS hdct (z := strsD .tup cols) (by rw [valD_cols, hc]; rfl))) (o2_notInL (d := strsD .tup cols) (ls := cols) (x := c) (.inr rfl)))) (fun hb => ?_) fun hb => ?_⟩
        · refine nx_raiseP T.x_UnknownColumn T.v_UnknownColumn (ev_var rfl) (XW.of (up.xt xt)) ⟨?_, .inr rfl, rfl⟩
          rintro ⟨cols', hc', ha⟩
          rw [hc] at hc'
          cases hc'
          have hb : c ∉ cols := by simpa using hb
          exact hb (ha c hm)
        · have hb : c ∈ cols := by simpa using hb
          refine nx_next (hN _ _ ⟨⟨_, rfl⟩, rfl, fun c' h => ?_⟩)
          rw [et] at h
          rcases List.mem_append.mp h with h | h
          · exact ok c' h
          · have : c' = c := by simpa using h
            rw [this]; exact hb
      · rintro Γ1 O1 ⟨⟨x, rfl⟩, rfl, ok⟩
        rw [List.length_map, List.take_length] at ok
        exact nx_end rt ⟨⟨cols, hc, ok⟩, rfl, rfl⟩
theorem G_check_rule (T : Txt K mg w) : FnOk P w K mg base (L2N.CX P w) 3 T.a_check_rule T.fd_check_rule ["columns_of", "rule"] (c_check_rule T).sp :=
  T.F_check_rule.ok sc_check_rule (Con.len fun _ => rfl) fun cdv A outer s H vs Q E hr h => ⟨t_check_rule K T E, w_check_rule T hr, body_ok (t := t_check_rule K T) (fun g B Q E hp rt xt _ => b_check_rule T g B Q E hp rt xt) h⟩
end
end Kt
namespace Kt
open PySem PySem.Spec PyProof.Rows L2 StX
def okSizes (ts : List (Str × List Str)) (rs : List Rl) : Prop := ts.length ≤ 100000 ∧ rs.length ≤ 100000 ∧ (∀ t ∈ ts, t.1.length ≤ 1000000 ∧ t.2.length ≤ 100000 ∧ ∀ c ∈ t.2, c.length ≤ 1000000) ∧ ∀ r ∈ rs, okRl r ∧ r.cs.length ≤ 100000
def c_Book_init {K : PySem.W.Frag} {mg : Str → Option Value} {w : World} (T : Txt K mg w) : Con where
  G := Addr × List (Str × List Str) × List Rl
  ds := fun g => [.adr g.1, .lst (g.2.1.map (tabD .lst)), .lst (g.2.2.map (rlD .lst))]
  own := fun g => [(g.1, .ins T.a_Book [])]
  pre := fun g => okSizes g.2.1 g.2.2
  post := fun g d O' => okBook g.2.1 g.2.2 ∧ d = .non ∧ O' = [(g.1, .ins T.a_Book (bookF g.2.1 g.2.2))]
  exn := fun g C d O' => ¬ okBook g.2.1 g.2.2 ∧ C ∈ [T.a_DoubleName, T.a_InvalidName, T.a_InvalidRule, T.a_UnknownColumn, T.a_UnknownTable]
def c_Book_tables {K : PySem.W.Frag} {mg : Str → Option Value} {w : World} (T : Txt K mg w) : Con where
  G := List (Str × List Str) × List Rl
  ds := fun g => [.ins T.a_Book (bookF g.1 g.2)]
  pre := fun g => g.1.length ≤ 100000
  post := fun g d O' => d = .lst (g.1.map (tabD .lst)) ∧ O' = []
def c_Book_rules {K : PySem.W.Frag} {mg : Str → Option Value} {w : World} (T : Txt K mg w) : Con where
  G := List (Str × List Str) × List Rl
  ds := fun g => [.ins T.a_Book (bookF g.1 g.2)]
  pre := fun g => g.2.length ≤ 100000
  post := fun g d O' => d = .lst (g.2.map (rlD .lst)) ∧ O' = []
/-- a tuple's third made a tuple, a list -/
def third (mk : List D → D) : D → D
  | .tup (a :: b :: .lst cs :: r) => .tup (a :: b :: mk cs :: r)
  | .tup (a :: b :: .tup cs :: r) => .tup (a :: b :: mk cs :: r)
  | d => d
def second (mk : List D → D) : D → D
  | .tup [a, .lst cs] => .tup [a, mk cs]
  | .tup [a, .tup cs] => .tup [a, mk cs]
  | d => d
section
variable {P : Program} {w : World} {K : PySem.W.Frag} {mg : Str → Option Value} {base : Heap}
/-! ### Book.__init__ -/
abbrev s_Book_init : Stmt := inClass (top 17) 0
abbrev N_Book_init : List Str := ["self", "tables", "rules", "columns_of", "name", "columns", "rule"]
theorem sc_Book_init : FnScope N_Book_init ["self", "tables", "rules"] (defScope s_Book_init) := ⟨rfl, rfl, rfl, by decide +kernel, rfl, by decide +kernel, by decide +kernel⟩
def t_Book_init (K : PySem.W.Frag) {mg : Str → Option Value} {w : World} (T : Txt K mg w) (E : XK) : TS := (tSeq (tAsg tDNewK (gName 3)) (tSeq (tFor (iList K (tVar 1)) (gTup K 2 (gCons (gName 4) (gCons (gName 5) gNil))) (tSeq (tIfS (tNot (tB (tCl c_is_name [] (fun cls d _ H => E cls d H) (tCons (tVar 4) tNil)))) (tRz K T.a_InvalidName (fun cls d _ H => E cls d H) (tCons (tVar 4) tNil)) tNext) (tSeq (tIfS (tTest (tOp (rInU K) (tVar 4) (tVar 3))) (tRz K T.a_DoubleName (fun cls d _ H => E cls d H) (tCons (tVar 4) tNil)) tNext) (sDPut (tVar 3) (tVar 4) (tCl (c_checked_columns T) [] (fun cls d _ H => E cls d H) (tCons (tVar 5) tNil)))))) (tSeq (tFor (iList K (tVar 2)) (gName 6) (tDrop (tCl (c_check_rule T) [] (fun cls d _ H => E cls d H) (tCons (tVar 3) (tCons (tVar 6) tNil))))) (tSeq (sFld K (tVar 0) (tCB (rTupleU K) (tCons (tLockE (tLc (iKeys (tVar 3)) (gName 4) tYes (tTup (tCons (tVar 4) (tCons (tOp (rIxU K) (tVar 3) (tVar 4)) tNil))) [4])) tNil)) "kept_tables") (sFld K (tVar 0) (tCB (rTupleU K) (tCons (tLc (iList K (tVar 2)) (gName 6) tYes (tTup (tCons (tOp (rIxU K) (tVar 6) (tC (.int 0))) (tCons (tOp (rIxU K) (tVar 6) (tC (.int 1))) (tCons (tCB (rTupleU K) (tCons (tOp (rIxU K) (tVar 6) (tC (.int 2))) tNil)) (tStar K (tSl (rSlU K) (tVar 6) (tPart (tC (.int 3))) tNoPart) tNil))))) [6]) tNil)) "kept_rules")))))
theorem w_Book_init {f : Addr} {cdv : Value} {A : Around} {outer : List PySem.Env} {s : Shared} {H : Hp} {E : XK} (T : Txt K mg w) (hr : Room 3 (A.deeper (envOfC "Book.__init__" (defScope s_Book_init) s.heap.objs.size f cdv))) : PSs (cxOf (L2N.CX P w) P w K mg base N_Book_init "Book.__init__" (defScope s_Book_init) f cdv A outer s H E) (defBody s_Book_init) (t_Book_init K T E) := by
  have sc := sc_Book_init
  exact (pss_cons (ps_set (i := 3) sc.nd rfl (Or.inr rfl) pe_dnewK) (pss_cons (ps_for (passes_of rfl) rfl (pi_list (pv 1)) (pg_tup rfl (pgs_cons (pg_name (i := 4) sc.nd rfl (Or.inl rfl)) (pgs_cons (pg_name (i := 5) sc.nd rfl (Or.inl rfl)) pgs_nil))) (pss_cons (ps_if (pt_not (pt_val (pe_clN (W := (fun cls d _ H => E cls d H)) (GN_is_name T) (hr.mono (by decide)) (by rfl) T.g_is_name T.k_is_name T.b_is_name (L2N.takes_of rfl rfl rfl rfl) (pa_cons (pv 4) pa_nil)))) (pss_one (L2N.ps_raise rfl (L2N.takes_of rfl rfl rfl rfl) (pmk_oexN T.x_InvalidName T.i_InvalidName T.ti (G_init T) (hr.mono (by decide)) T.b_KeyTellError_init passF (by rfl) T.g_InvalidName (pa_cons (pv 4) pa_nil)))) pss_nil) (pss_cons (ps_if (pt_cmpR (op_inU (hu_of hr)) (pv 4) (pv 3) (by rfl)) (pss_one (L2N.ps_raise rfl (L2N.takes_of rfl rfl rfl rfl) (pmk_oexN T.x_DoubleName T.i_DoubleName T.ti (G_init T) (hr.mono (by decide)) T.b_KeyTellError_init passF (by rfl) T.g_DoubleName (pa_cons (pv 4) pa_nil)))) pss_nil) (pss_one (ps_dput (hu_of hr) (pv 3) (pv 4) (pe_clN (W := (fun cls d _ H => E cls d H)) (G_checked_columns T) (hr.mono (by decide)) (by rfl) T.g_checked_columns T.k_checked_columns T.b_checked_columns (L2N.takes_of rfl rfl rfl rfl) (pa_cons (pv 5) pa_nil)) rfl))))) (pss_cons (ps_for (passes_of rfl) rfl (pi_list (pv 2)) (pg_name (i := 6) sc.nd rfl (Or.inl rfl)) (pss_one (ps_expr (pe_clN (W := (fun cls d _ H => E cls d H)) (G_check_rule T) (hr.mono (by decide)) (by rfl) T.g_check_rule T.k_check_rule T.b_check_rule (L2N.takes_of rfl rfl rfl rfl) (pa_cons (pv 3) (pa_cons (pv 6) pa_nil)))))) (pss_cons (ps_fld (pv 0) (pe_callTy call_tuple_of (by rfl) T.n_tuple (by decide +kernel) (pa_cons (pe_lock (pe_lc (own := [("name", 4)]) (by rfl) sc.nd (pi_keys (pv 3)) (blkOk_by (own := [("name", 4)]) (N := N_Book_init) (sc := defScope s_Book_init) (by decide +kernel)) (fun _ _ _ _ _ => (pg_name (i := 4) sc.nd rfl (by first | exact Or.inl rfl | exact Or.inr rfl))) (fun _ _ _ _ _ => pts_nil) (fun _ _ _ _ _ => (pe_tup (pa_cons (pv 4) (pa_cons (pe_ix (ix_U (hu_of hr)) (pv 3) (pv 4) (fun _ _ => rfl)) pa_nil)))))) pa_nil)) rfl) (pss_one (ps_fld (pv 0) (pe_callTy call_tuple_of (by rfl) T.n_tuple (by decide +kernel) (pa_cons (pe_lc (own := [("rule", 6)]) (by rfl) sc.nd (pi_list (pv 2)) (blkOk_by (own := [("rule", 6)]) (N := N_Book_init) (sc := defScope s_Book_init) (by decide +kernel)) (fun _ _ _ _ _ => (pg_name (i := 6) sc.nd rfl (by first | exact Or.inl rfl | exact Or.inr rfl))) (fun _ _ _ _ _ => pts_nil) (fun _ _ _ _ _ => (pe_tup (pa_cons (pe_ix (ix_U (hu_of hr)) (pv 6) pe_int (fun _ _ => rfl)) (pa_cons (pe_ix (ix_U (hu_of hr)) (pv 6) pe_int (fun _ _ => rfl)) (pa_cons (pe_callTy call_tuple_of (by rfl) T.n_tuple (by decide +kernel) (pa_cons (pe_ix (ix_U (hu_of hr)) (pv 6) pe_int (fun _ _ => rfl)) pa_nil)) (pa_star (pe_slice sl_U (pv 6) (po_some pe_int) po_none) pa_nil))))))) pa_nil)) rfl))))))

/-! ### Book.tables -/
abbrev s_Book_tables : Stmt := inClass (top 17) 1
abbrev N_Book_tables : List Str := ["self", "name", "columns"]
theorem sc_Book_tables : FnScope N_Book_tables ["self"] (defScope s_Book_tables) := ⟨rfl, rfl, rfl, by decide +kernel, rfl, by decide +kernel, by decide +kernel⟩
def t_Book_tables (K : PySem.W.Frag) : TS := (tRet (tLc (iTup K (tFld K (tVar 0) "kept_tables")) (gTup K 2 (gCons (gName 1) (gCons (gName 2) gNil))) tYes (tTup (tCons (tVar 1) (tCons (tCB (rListU K) (tCons (tVar 2) tNil)) tNil))) [1, 2]))
theorem w_Book_tables {f : Addr} {cdv : Value} {A : Around} {outer : List PySem.Env} {s : Shared} {H : Hp} {E : XK} (T : Txt K mg w) (hr : Room 0 (A.deeper (envOfC "Book.tables" (defScope s_Book_tables) s.heap.objs.size f cdv))) : PSs (cxOf (L2.CX P w) P w K mg base N_Book_tables "Book.tables" (defScope s_Book_tables) f cdv A outer s H E) (defBody s_Book_tables) (t_Book_tables K) := by
  have sc := sc_Book_tables
  exact PSs.nox ((pss_one (ps_ret (pe_lc (own := [("name", 1), ("columns", 2)]) (by rfl) sc.nd (pi_tup (pe_fld (pv 0) rfl)) (blkOk_by (own := [("name", 1), ("columns", 2)]) (N := N_Book_tables) (sc := defScope s_Book_tables) (by decide +kernel)) (fun _ _ _ _ _ => (pg_tup rfl (pgs_cons (pg_name (i := 1) sc.nd rfl (by first | exact Or.inl rfl | exact Or.inr rfl)) (pgs_cons (pg_name (i := 2) sc.nd rfl (by first | exact Or.inl rfl | exact Or.inr rfl)) pgs_nil)))) (fun _ _ _ _ _ => pts_nil) (fun _ _ _ _ _ => (pe_tup (pa_cons (pv 1) (pa_cons (pe_callTy (call_listU rfl) (by rfl) T.n_list (by decide +kernel) (pa_cons (pv 2) pa_nil)) pa_nil))))))))

/-! ### Book.rules -/
abbrev s_Book_rules : Stmt := inClass (top 17) 2
abbrev N_Book_rules : List Str := ["self", "rule"]
theorem sc_Book_rules : FnScope N_Book_rules ["self"] (defScope s_Book_rules) := ⟨rfl, rfl, rfl, by decide +kernel, rfl, by decide +kernel, by decide +kernel⟩
def t_Book_rules (K : PySem.W.Frag) : TS := (tRet (tLc (iTup K (tFld K (tVar 0) "kept_rules")) (gName 1) tYes (tTup (tCons (tOp (rIxU K) (tVar 1) (tC (.int 0))) (tCons (tOp (rIxU K) (tVar 1) (tC (.int 1))) (tCons (tCB (rListU K) (tCons (tOp (rIxU K) (tVar 1) (tC (.int 2))) tNil)) (tStar K (tSl (rSlU K) (tVar 1) (tPart (tC (.int 3))) tNoPart) tNil))))) [1]))
theorem w_Book_rules {f : Addr} {cdv : Value} {A : Around} {outer : List PySem.Env} {s : Shared} {H : Hp} {E : XK} (T : Txt K mg w) (hr : Room 0 (A.deeper (envOfC "Book.rules" (defScope s_Book_rules) s.heap.objs.size f cdv))) : PSs (cxOf (L2.CX P w) P w K mg base N_Book_rules "Book.rules" (defScope s_Book_rules) f cdv A outer s H E) (defBody s_Book_rules) (t_Book_rules K) := by
  have sc := sc_Book_rules
  exact PSs.nox ((pss_one (ps_ret (pe_lc (own := [("rule", 1)]) (by rfl) sc.nd (pi_tup (pe_fld (pv 0) rfl)) (blkOk_by (own := [("rule", 1)]) (N := N_Book_rules) (sc := defScope s_Book_rules) (by decide +kernel)) (fun _ _ _ _ _ => (pg_name (i := 1) sc.nd rfl (by first | exact Or.inl rfl | exact Or.inr rfl))) (fun _ _ _ _ _ => pts_nil) (fun _ _ _ _ _ => (pe_tup (pa_cons (pe_ix (ix_U (hu_of hr)) (pv 1) pe_int (fun _ _ => rfl)) (pa_cons (pe_ix (ix_U (hu_of hr)) (pv 1) pe_int (fun _ _ => rfl)) (pa_cons (pe_callTy (call_listU rfl) (by rfl) T.n_list (by decide +kernel) (pa_cons (pe_ix (ix_U (hu_of hr)) (pv 1) pe_int (fun _ _ => rfl)) pa_nil)) (pa_star (pe_slice sl_U (pv 1) (po_some pe_int) po_none) pa_nil))))))))))

theorem rl_ix {mk : List D → D} {r : Rl} : atI ([.str r.kind, .str r.t, strsD mk r.cs] ++ r.c.toList.map .str) 0 = some (.str r.kind) ∧ atI ([.str r.kind, .str r.t, strsD mk r.cs] ++ r.c.toList.map .str) 1 = some (.str r.t) ∧
    atI ([.str r.kind, .str r.t, strsD mk r.cs] ++ r.c.toList.map .str) 2 = some (strsD mk r.cs) ∧ cutD ([.str r.kind, .str r.t, strsD mk r.cs] ++ r.c.toList.map .str) (some 3) none = r.c.toList.map .str := by
  unfold cutD
  cases r.c <;> exact ⟨rfl, rfl, rfl, rfl⟩
theorem b_Book_tables (T : Txt K mg w) (g : (c_Book_tables T).G) (B : Bs) (Q : VK) (hp : (c_Book_tables T).pre g) (rt : RT B Q ((c_Book_tables T).post g)) : NX B (t_Book_tables K { nx := fun _ H' => Q .non H', rt := Q }) (startD N_Book_tables ((c_Book_tables T).ds g)) [] := by
  obtain ⟨ts, rs⟩ := g
  refine nx_retP rt ((ev_lcT (K := K) (l := ts.map (tabD .tup)) (b := fun _ => true) (f := second .lst) (ev_fld (ev_var rfl) T.cl_Book T.na_Book_kept_tables rfl) (gin_tup (gsin_name (by simp) (gsin_name (by simp) gsin_nil))) ?_ ?_).is (show D.lst _ = _ from ?_)) ⟨rfl, rfl⟩
  · rw [List.length_map]; exact Nat.le_trans hp (sz rfl)
  · rintro B' x hx
    obtain ⟨t, ht, rfl⟩ := List.mem_map.mp hx
    exact ⟨_, gt_tup (gs_cons gt_name (gs_cons gt_name gs_nil)) rfl, et_yes, fun _ => ev_tup (ea_cons (ev_var rfl) (ea_cons (ev_cb (ea_cons (ev_var rfl) ea_nil) (on_listS (.inr rfl))) ea_nil)) (sz rfl)⟩
  · rw [List.filter_eq_self.mpr (fun _ _ => rfl), List.map_map]; rfl
theorem b_Book_rules (T : Txt K mg w) (g : (c_Book_rules T).G) (B : Bs) (Q : VK) (hp : (c_Book_rules T).pre g) (rt : RT B Q ((c_Book_rules T).post g)) : NX B (t_Book_rules K { nx := fun _ H' => Q .non H', rt := Q }) (startD N_Book_rules ((c_Book_rules T).ds g)) [] := by
  obtain ⟨ts, rs⟩ := g
  refine nx_retP rt ((ev_lcT (K := K) (l := rs.map (rlD .tup)) (b := fun _ => true) (f := third .lst) (ev_fld (ev_var rfl) T.cl_Book T.na_Book_kept_rules rfl) (gin_name (by simp)) ?_ ?_).is (show D.lst _ = _ from ?_)) ⟨rfl, rfl⟩
  · rw [List.length_map]; exact Nat.le_trans hp (sz rfl)
  · rintro B' x hx
    obtain ⟨r, hr, rfl⟩ := List.mem_map.mp hx
    obtain ⟨i0, i1, i2, i3⟩ := rl_ix (mk := .tup) (r := r)
    refine ⟨_, gt_name, et_yes, fun _ => (ev_tup (ea_cons (ev_op (ev_var rfl) ev_cint (o2_ixS (.inr rfl) i0)) (ea_cons (ev_op (ev_var rfl) ev_cint (o2_ixS (.inr rfl) i1)) (ea_cons (ev_cb (ea_cons (ev_op (ev_var rfl) ev_cint (o2_ixS (.inr rfl) i2)) ea_nil) (on_listS (.inr rfl)))
      (ea_star (ev_slT (ev_var rfl) (eo_some ev_cint) eo_none) (.inr rfl) ea_nil)))) ?_).is ?_⟩
    · rw [i3]; cases r.c <;> exact sz rfl
    · rw [i3]; obtain ⟨t, cs, c⟩ := r; cases c <;> rfl
  · rw [List.filter_eq_self.mpr (fun _ _ => rfl), List.map_map]; rfl
theorem b_Book_init (T : Txt K mg w) (g : (c_Book_init T).G) (B : Bs) (Q : VK) (E : XK) (hp : (c_Book_init T).pre g) (rt : RT B Q ((c_Book_init T).post g)) (xt : XT B E ((c_Book_init T).exn g)) : NX B (t_Book_init K T E { nx := fun _ H' => Q .non H', rt := Q }) (startD N_Book_init ((c_Book_init T).ds g)) ((c_Book_init T).own g) := by
  obtain ⟨x, ts, rs⟩ := g
  obtain ⟨h1, h2, h3, h4⟩ : okSizes ts rs := hp
  refine nx_seq (nx_asg evo_dct fun d O' ⟨p, hB, e1, e2⟩ => ?_)
  subst e1 e2
  refine nx_seq (nx_for (K := K) (ei_list (l := ts.map (tabD .lst)) (ev_var rfl) (.inl rfl))
    (fun i Γ O => (∃ a b, Γ = [some (.adr x), some (.lst (ts.map (tabD .lst))), some (.lst (rs.map (rlD .lst))), some (.adr p), a, b, none]) ∧ O = [(p, OO.dct (colsK (ts.take i))), (x, OO.ins T.a_Book [])] ∧ okTabs (ts.take i)) ⟨⟨_, _, rfl⟩, rfl, by simp [okTabs]⟩ ?_ ?_)
  · rintro B' i Γ1 O1 up hH lt ⟨⟨a, b, rfl⟩, rfl, ok⟩
    obtain ⟨t, ht, ey, hm, et⟩ := get_at (f := tabD .lst) (ls := ts) (by simpa using lt)
    obtain ⟨n, cs⟩ := t
    obtain ⟨z1, z2, z3⟩ := h3 _ hm
    have hdct : DctOf [(p, OO.dct (colsK (ts.take i))), (x, OO.ins T.a_Book [])] (.adr p) (colsK (ts.take i)) := .inr (.inl ⟨p, 0, rfl, rfl⟩)
    have nin : n ∉ (ts.take i).map (·.1) → okCols cs → isName n = true → okTabs (ts.take (i + 1)) := fun q1 q2 q3 => by
      rw [et]
      refine ⟨fun t' h => ?_, ?_⟩
      · rcases List.mem_append.mp h with h | h
        · exact ok.1 t' h
        · have : t' = (n, cs) := by simpa using h
          rw [this]; exact ⟨q3, q2⟩
      · rw [List.map_append, List.nodup_append]
        refine ⟨ok.2, by simp, fun a ha b hb e => ?_⟩
        have : b = n := by simpa using hb
        rw [e, this] at ha
        exact q1 ha
    refine ⟨_, by rw [ey]; exact gt_tup (gs_cons gt_name (gs_cons gt_name gs_nil)) rfl, fun N hN => nx_seq (nx_ifP (et_not (et_B (evp_cl (d := .bl (isName n)) n (ea_cons (ev_var rfl) ea_nil) rfl rfl (Nat.le_trans z1 (sz rfl)) (fun _ _ z => z) fun _ _ _ z => z))) (fun hb => ?_) fun hb =>
      nx_seq (nx_ifP (et_test (ev_op (ev_var rfl) (ev_var rfl) (o2_inDS (x := n) hdct))) (fun hb2 => ?_) fun hb2 => ?_))⟩
    · have hb : isName n = false := by simpa using hb
      exact nx_raiseP T.x_InvalidName T.v_InvalidName (ev_var rfl) (XW.of (up.xt xt)) ⟨fun z => by (rw [(z.1.1 _ hm).1] at hb; cases hb), by simp⟩
    · refine nx_raiseP T.x_DoubleName T.v_DoubleName (ev_var rfl) (XW.of (up.xt xt)) ⟨fun z => ?_, by simp⟩
      have nd : ((ts.take (i + 1)).map (·.1)).Nodup := z.1.2.sublist ((List.take_sublist _ _).map _)
      rw [et, List.map_append, List.nodup_append] at nd
      have q : n ∈ (ts.take i).map (·.1) := by
        apply Classical.byContradiction
        intro h
        rw [valD_cols, lookup_none.mpr h] at hb2
        cases hb2
      exact nd.2.2 n q n (by simp) rfl
    · have hb : isName n = true := by simpa using hb
      have q : n ∉ (ts.take i).map (·.1) := by
        rw [valD_cols] at hb2
        apply lookup_none.mp
        cases e : (ts.take i).lookup n with
        | none => rfl
        | some c => rw [e] at hb2; cases hb2
      refine nx_dput (p := p) (Φ := fun d O' => okCols cs ∧ d = strsD .tup cs ∧ O' = [(p, OO.dct (colsK (ts.take i))), (x, OO.ins T.a_Book [])]) (evk_cl (dds := []) (ea_cons (ev_var rfl) ea_nil) (fun _ => .nil) fun ds O1 ⟨e1, e2⟩ => ⟨cs, O1, by rw [e1]; rfl, .refl _, ⟨z2, z3⟩, fun d O' ⟨w1, w2, w3⟩ => ⟨w1, w2, by rw [w3, e2]; rfl⟩, ?_⟩) fun d O' ⟨w1, w2, w3⟩ => ?_
      · subst w2 w3
        refine ⟨ev_var rfl, .inr n, 0, _, ev_var rfl, rfl, ?_, hN _ _ ⟨⟨_, _, rfl⟩, ?_, nin q w1 hb⟩⟩
        · have : (colsK (ts.take i)).length ≤ 100000 := by unfold colsK; rw [List.length_map, List.length_take]; omega
          exact Nat.lt_of_le_of_lt this (by rw [sizeLine_eq]; decide)
        · rw [putD_cols q, et]; rfl
      · intro F σ H C dd v d O' s e r1 r2 ⟨O2, ⟨w1, w2, w3⟩, _⟩
        refine up.xt xt F H C dd v d O' s r1 r2 ⟨fun z => w1 (z.1.1 _ hm).2, ?_⟩
        rcases w2 with rfl | rfl <;> simp
  · rintro Γ1 O1 ⟨⟨a, b, rfl⟩, rfl, ok⟩
    rw [List.length_map, List.take_length] at ok
    rw [List.length_map, List.take_length]
    have hdct : DctOf [(p, OO.dct (colsK ts)), (x, OO.ins T.a_Book [])] (.adr p) (colsK ts) := .inr (.inl ⟨p, 0, rfl, rfl⟩)
    refine nx_seq (nx_for (K := K) (ei_list (l := rs.map (rlD .lst)) (ev_var rfl) (.inl rfl))
      (fun i Γ O => (∃ c, Γ = [some (.adr x), some (.lst (ts.map (tabD .lst))), some (.lst (rs.map (rlD .lst))), some (.adr p), a, b, c]) ∧ O = [(p, OO.dct (colsK ts)), (x, OO.ins T.a_Book [])] ∧ ∀ r ∈ rs.take i, okRule ts r) ⟨⟨_, rfl⟩, rfl, by simp⟩ ?_ ?_)
    · rintro B' i Γ1 O1 up hH lt ⟨⟨c, rfl⟩, rfl, okr⟩
      obtain ⟨r, hr, ey, hm, et⟩ := get_at (f := rlD .lst) (ls := rs) (by simpa using lt)
      refine ⟨_, by rw [ey]; exact gt_name, fun N hN => nx_drop (evk_cl (dds := []) (Ψ := fun d O' => okRule ts r ∧ O' = [(p, OO.dct (colsK ts)), (x, OO.ins T.a_Book [])]) (ea_cons (ev_var (d := .adr p) rfl) (ea_cons (ev_var (d := rlD .lst r) rfl) ea_nil)) (fun _ => .nil) fun ds O1 ⟨e1, e2⟩ =>
        ⟨(p, ts, r), [(x, OO.ins T.a_Book [])], by rw [e1]; rfl, by rw [e2]; exact .refl _, h4 r hm, fun d O' ⟨w1, w2, w3⟩ => ⟨w1, by rw [w3]; rfl⟩, ?_⟩) fun d O' ⟨w1, w2⟩ => hN _ _ ⟨⟨_, rfl⟩, w2, fun r' h => ?_⟩⟩
      · intro F σ H C dd v d O' s e r1 r2 ⟨O2, ⟨w1, w2, w3⟩, _⟩
        refine up.xt xt F H C dd v d O' s r1 r2 ⟨fun z => w1 (z.2 r hm), ?_⟩
        rcases w2 with rfl | rfl <;> simp
      · rw [et] at h
        rcases List.mem_append.mp h with h | h
        · exact okr r' h
        · have : r' = r := by simpa using h
          rw [this]; exact w1
    · rintro Γ1 O1 ⟨⟨c, rfl⟩, rfl, okr⟩
      rw [List.length_map, List.take_length] at okr
      refine nx_seq (nx_fld (p := x) (C := T.a_Book) (Φ := fun d O' => d = .tup (ts.map (tabD .tup)) ∧ O' = [(p, OO.dct (colsK ts)), (x, OO.ins T.a_Book [])]) (ev_cb (ea_cons (evk_lockE (p := p) (l := colsK ts) 0 rfl fun od kvs => ?_) ea_nil) (on_tupleL (.inl rfl))) fun d O' ⟨e1, e2⟩ => ?_)
      · refine (ev_lcK (K := K) (l := colsK ts) (b := fun _ => true) (f := fun d => match d with | .str n => .tup [.str n, (valD (colsK ts) (.inr n)).getD .non] | d => d) (ev_var rfl) (by exact List.mem_cons_self) (gin_name (by simp)) ?_ ?_).imp fun d O' ⟨e1, e2⟩ => ⟨by rw [e2]; rfl, ?_, by rw [e2]; rfl⟩
        · unfold colsK; rw [List.length_map]; exact Nat.le_trans h1 (sz rfl)
        · rintro B' d hd
          obtain ⟨q, hq, rfl⟩ := List.mem_map.mp hd
          obtain ⟨t, ht, rfl⟩ := List.mem_map.mp hq
          have e : valD (colsK ts) (.inr t.1) = some (strsD .tup t.2) := by rw [valD_cols, lookup_mem ok.2 ht]; rfl
          refine ⟨_, gt_name, et_yes, fun _ => (ev_tup (ea_cons (ev_var rfl) (ea_cons (ev_op (ev_var rfl) (ev_var rfl) (o2_ixDS (x := t.1) (.inr (.inr ⟨p, 0, od, kvs, rfl, rfl⟩)) e)) ea_nil)) (sz rfl)).is ?_⟩
          show _ = D.tup [.str t.1, (valD (colsK ts) (.inr t.1)).getD .non]
          rw [e]; rfl
        · rw [e1, List.filter_eq_self.mpr (fun _ _ => rfl)]
          unfold colsK
          rw [List.map_map, List.map_map]
          congr 1
          refine List.map_congr_left fun t ht => ?_
          show D.tup [.str t.1, (valD (colsK ts) (.inr t.1)).getD .non] = _
          rw [valD_cols, lookup_mem ok.2 ht]; rfl
      · subst e1 e2
        refine ⟨ev_var rfl, 1, [], rfl, T.cl_Book, T.na_Book_kept_tables, by decide, ?_⟩
        refine nx_fld (p := x) (C := T.a_Book) (ev_cb (ea_cons (ev_lcL (K := K) (l := rs.map (rlD .lst)) (b := fun _ => true) (f := third .tup) (ev_var rfl) (.inl rfl) (gin_name (by simp)) ?_ ?_) ea_nil) (on_tupleL (.inl rfl))) fun d O' ⟨e1, e2⟩ => ?_
        · rw [List.length_map]; exact Nat.le_trans h2 (sz rfl)
        · rintro B' d hd
          obtain ⟨r, hr, rfl⟩ := List.mem_map.mp hd
          obtain ⟨i0, i1, i2, i3⟩ := rl_ix (mk := .lst) (r := r)
          refine ⟨_, gt_name, et_yes, fun _ => (ev_tup (ea_cons (ev_op (ev_var rfl) ev_cint (o2_ixS (.inr rfl) i0)) (ea_cons (ev_op (ev_var rfl) ev_cint (o2_ixS (.inr rfl) i1)) (ea_cons (ev_cb (ea_cons (ev_op (ev_var rfl) ev_cint (o2_ixS (.inr rfl) i2)) ea_nil) (on_tupleL (.inl rfl)))
            (ea_star (ev_slT (ev_var rfl) (eo_some ev_cint) eo_none) (.inr rfl) ea_nil)))) ?_).is ?_⟩
          · rw [i3]; cases r.c <;> exact sz rfl
          · rw [i3]; obtain ⟨t, cs, c⟩ := r; cases c <;> rfl
        · subst e1 e2
          refine ⟨ev_var rfl, 1, _, rfl, T.cl_Book, T.na_Book_kept_rules, Nat.lt_of_lt_of_le (show 1 < 2 from Nat.lt_succ_self 1) (Nat.le_of_ble_eq_true rfl), ?_⟩
          refine nx_forget (nx_end rt ⟨⟨ok, okr⟩, rfl, ?_⟩)
          rw [List.filter_eq_self.mpr (fun _ _ => rfl), List.map_map]
          rfl
theorem G_Book_init (T : Txt K mg w) : FnOk P w K mg base (L2N.CX P w) 4 T.a_Book_init T.fd_Book_init ["self", "tables", "rules"] (c_Book_init T).sp :=
  T.F_Book_init.ok sc_Book_init (Con.len fun _ => rfl) fun cdv A outer s H vs Q E hr h => ⟨t_Book_init K T E, w_Book_init T hr, body_ok (t := t_Book_init K T) (fun g B Q E hp rt xt _ => b_Book_init T g B Q E hp rt xt) h⟩
theorem G_Book_tables (T : Txt K mg w) : FnOk P w K mg base (L2.CX P w) 1 T.a_Book_tables T.fd_Book_tables ["self"] (c_Book_tables T).sp :=
  T.F_Book_tables.ok sc_Book_tables (Con.len fun _ => rfl) fun cdv A outer s H vs Q E hr h => ⟨t_Book_tables K, w_Book_tables T hr, body_ok (t := fun _ => t_Book_tables K) (fun g B Q E hp rt _ _ => b_Book_tables T g B Q hp rt) h⟩
theorem G_Book_rules (T : Txt K mg w) : FnOk P w K mg base (L2.CX P w) 1 T.a_Book_rules T.fd_Book_rules ["self"] (c_Book_rules T).sp :=
  T.F_Book_rules.ok sc_Book_rules (Con.len fun _ => rfl) fun cdv A outer s H vs Q E hr h => ⟨t_Book_rules K, w_Book_rules T hr, body_ok (t := fun _ => t_Book_rules K) (fun g B Q E hp rt _ _ => b_Book_rules T g B Q hp rt) h⟩
end
end Kt
/-! S1: texts cut and joined, plainly -/
namespace Kt
open PySem PySem.Spec PyProof.Rows L2 StX TL
theorem spl_ne {S : List Nat} : ∀ (l acc : List Nat) (k : Nat), spl S k acc l ≠ []
  | [], acc, k => by rw [spl_nil]; simp
  | c :: r, acc, k => by
    rw [spl_pass]
    cases e : (c :: r).drop k with
    | nil => rw [spl_nil]; simp
    | cons d q =>
      by_cases h : pre S (d :: q) = true
      · rw [spl_hit h]; simp
      · have h : pre S (d :: q) = false := by simpa using h
        rw [spl_miss h]
        have hl : q.length < (c :: r).length := by
          have := congrArg List.length e
          simp at this
          simp
          omega
        exact spl_ne q (acc ++ [d]) 0
  termination_by l => l.length
theorem joinL_cons {S p : List Nat} {ps : List (List Nat)} (h : ps ≠ []) : joinL S (p :: ps) = p ++ (S ++ joinL S ps) := by
  cases ps with
  | nil => exact absurd rfl h
  | cons q r => rfl
theorem join_spl {S : List Nat} (hS : S ≠ []) : ∀ (n : Nat) (l acc : List Nat), l.length ≤ n → joinL S (spl S 0 acc l) = acc ++ l
  | _, [], acc, _ => by rw [spl_nil, List.append_nil]; rfl
  | 0, c :: r, _, h => by simp at h
  | n + 1, c :: r, acc, h => by
    by_cases hp : pre S (c :: r) = true
    · rw [spl_hit hp, spl_pass, joinL_cons (spl_ne _ _ _)]
      have e1 : (c :: r).take S.length = S := eq_of_beq hp
      obtain ⟨s, S', rfl⟩ : ∃ s S', S = s :: S' := by
        cases S with
        | nil => exact absurd rfl hS
        | cons s S' => exact ⟨s, S', rfl⟩
      have hl : (s :: S').length - 1 = S'.length := by simp
      rw [hl, join_spl hS n (r.drop S'.length) [] (by rw [List.length_drop]; simp at h; omega)]
      rw [List.length_cons, List.take_succ_cons] at e1
      injection e1 with e2 e3
      have : r = S' ++ r.drop S'.length := by
        have := (List.take_append_drop S'.length r).symm
        rw [e3] at this
        exact this
      rw [List.nil_append, e2]
      congr 1
      show s :: (S' ++ r.drop S'.length) = s :: r
      rw [← this]
    · have hp : pre S (c :: r) = false := by simpa using hp
      rw [spl_miss hp, join_spl hS n r (acc ++ [c]) (by simp at h; omega)]
      simp
theorem joinL_mem {S p : List Nat} : ∀ {ps : List (List Nat)}, p ∈ ps → ∀ c ∈ p, c ∈ joinL S ps
  | [q], h, c, hc => by
    have : p = q := by simpa using h
    rw [this] at hc; exact hc
  | q :: q2 :: r, h, c, hc => by
    rw [joinL_cons (by simp)]
    rcases List.mem_cons.mp h with e | h
    · rw [e] at hc; exact List.mem_append_left _ hc
    · exact List.mem_append_right _ (List.mem_append_right _ (joinL_mem h c hc))
theorem joinL_len {S : List Nat} : ∀ {ps : List (List Nat)}, ps ≠ [] → (joinL S ps).length + S.length = (ps.map (·.length)).sum + ps.length * S.length
  | [], h => absurd rfl h
  | [q], _ => by simp [joinL]
  | q :: q2 :: r, _ => by
    have ih := joinL_len (S := S) (ps := q2 :: r) (by simp)
    rw [joinL_cons (by simp), List.length_append, List.length_append, List.map_cons, List.sum_cons, List.length_cons, Nat.succ_mul]
    omega
/-- a separator that split and partition know -/
structure Sep (y : Str) : Prop where
  ne : tl y ≠ []
  k : y.cps.all (· < 256) = true
theorem sep_ne {y : Str} (s : Sep y) : (y.length == 0) = false := by
  have := List.length_pos_iff.mpr s.ne
  rw [← len_tl] at this
  cases h : (y.length == 0) with
  | false => rfl
  | true => have : y.length = 0 := by simpa using h
            omega
section
variable {x y : Str}
theorem split_tl (s : Sep y) : (Txt.split x y).map tl = spl (tl y) 0 [] (tl x) := split_spl x y s.ne (TL.kind_ok s.k)
theorem join_split (s : Sep y) : Txt.join y (Txt.split x y) = x := by
  apply TL.ext_tl
  rw [join_eq, tl_join, split_tl s, join_spl s.ne _ _ _ (Nat.le_refl _), List.nil_append]
theorem split_ne (s : Sep y) : Txt.split x y ≠ [] := fun e => by
  have := split_tl (x := x) s
  rw [e] at this
  exact spl_ne _ _ _ this.symm
theorem map_len_tl : ∀ {ps : List Str}, (ps.map tl).map (·.length) = ps.map (·.length)
  | [] => rfl
  | p :: ps => by rw [List.map_cons, List.map_cons, List.map_cons, map_len_tl, ← len_tl]
theorem join_len {ps : List Str} (h : ps ≠ []) : (Txt.join y ps).length + y.length = (ps.map (·.length)).sum + ps.length * y.length := by
  have e := joinL_len (S := tl y) (ps := ps.map tl) (by simpa using h)
  rw [map_len_tl, List.length_map, ← tl_join, ← join_eq, ← len_tl, ← len_tl] at e
  exact e
theorem split_len (s : Sep y) : ((Txt.split x y).map (·.length)).sum + (Txt.split x y).length * y.length = x.length + y.length := by
  rw [← join_len (split_ne s), join_split s]
theorem sum_mem {p : Str} : ∀ {ps : List Str}, p ∈ ps → p.length ≤ (ps.map (·.length)).sum
  | q :: ps, h => by
    rw [List.map_cons, List.sum_cons]
    rcases List.mem_cons.mp h with e | h
    · rw [e]; omega
    · have := sum_mem h; omega
theorem strOk_iff {z : Str} : PyData.strOk z = true ↔ ∀ c ∈ tl z, c < 0x110000 := by
  unfold PyData.strOk
  rw [Array.all_eq_true']
  simp [tl]
theorem split_count (s : Sep y) : (Txt.split x y).length ≤ x.length + 1 := by
  have h := split_len (x := x) s
  have h1 : 1 ≤ y.length := by
    have := List.length_pos_iff.mpr s.ne
    rw [← len_tl] at this
    exact this
  have h2 : ∀ n m : Nat, n * m ≤ x.length + m → 1 ≤ m → n ≤ x.length + 1 := by
    intro n m a b
    cases n with
    | zero => omega
    | succ n =>
      rw [Nat.succ_mul] at a
      have : n * 1 ≤ n * m := Nat.mul_le_mul_left n b
      omega
  exact h2 _ y.length (by omega) h1
theorem split_mem (s : Sep y) {p : Str} (h : p ∈ Txt.split x y) : p.length ≤ x.length ∧ ∀ c ∈ tl p, c ∈ tl x := by
  refine ⟨?_, fun c hc => ?_⟩
  · have h1 := sum_mem h
    have h2 := split_len (x := x) s
    have h3 : 1 ≤ (Txt.split x y).length := List.length_pos_iff.mpr (split_ne s)
    have h4 : 1 * y.length ≤ (Txt.split x y).length * y.length := Nat.mul_le_mul_right _ h3
    omega
  · have e := join_spl s.ne _ (tl x) [] (Nat.le_refl _)
    rw [List.nil_append, ← split_tl s] at e
    rw [← e]
    exact joinL_mem (List.mem_map_of_mem h) c hc
theorem split_okS (s : Sep y) (hx : okS x) {p : Str} (h : p ∈ Txt.split x y) : okS p := by
  obtain ⟨h1, h2⟩ := split_mem s h
  exact ⟨strOk_iff.mpr fun c hc => strOk_iff.mp hx.1 c (h2 c hc), Nat.le_trans h1 hx.2⟩
/-- what partition tells -/
theorem par_some {S : List Nat} (hS : S ≠ []) {a b : List Nat} : ∀ {l acc : List Nat}, par S acc l = some (a, b) → acc ++ l = a ++ (S ++ b)
  | [], acc, h => by
    have h : (none : Option (List Nat × List Nat)) = some (a, b) := h
    cases h
  | c :: r, acc, h => by
    by_cases hp : pre S (c :: r) = true
    · rw [par_hit hp] at h
      cases h
      have e1 : (c :: r).take S.length = S := eq_of_beq hp
      congr 1
      have := (List.take_append_drop S.length (c :: r)).symm
      rw [e1] at this
      exact this
    · have hp : pre S (c :: r) = false := by simpa using hp
      rw [par_miss hp] at h
      have := par_some hS h
      rw [← this]; simp
theorem part_cases (s : Sep y) : (∃ a b, Txt.partition x y = (a, y, b) ∧ tl x = tl a ++ (tl y ++ tl b) ∧ par (tl y) [] (tl x) = some (tl a, tl b)) ∨ (Txt.partition x y = (x, Str.empty, Str.empty) ∧ par (tl y) [] (tl x) = none) := by
  rw [partition_par x y s.ne]
  cases e : par (tl y) [] (tl x) with
  | none => exact .inr ⟨rfl, rfl⟩
  | some ab =>
    obtain ⟨a, b⟩ := ab
    refine .inl ⟨⟨a.toArray⟩, ⟨b.toArray⟩, rfl, ?_, ?_⟩
    · have := par_some s.ne e
      simpa [tl] using this
    · simp [tl]
theorem part_okS (s : Sep y) (hx : okS x) : okS (Txt.partition x y).1 ∧ okS (Txt.partition x y).2.2 := by
  rcases part_cases (x := x) s with ⟨a, b, e, h, _⟩ | ⟨e, _⟩
  · rw [e]
    have hl : x.length = a.length + (y.length + b.length) := by rw [len_tl, len_tl, len_tl, len_tl, h, List.length_append, List.length_append]
    have hx2 := hx.2
    refine ⟨⟨strOk_iff.mpr fun c hc => strOk_iff.mp hx.1 c (by rw [h]; exact List.mem_append_left _ hc), ?_⟩, ⟨strOk_iff.mpr fun c hc => strOk_iff.mp hx.1 c (by rw [h]; exact List.mem_append_right _ (List.mem_append_right _ hc)), ?_⟩⟩
    · show a.length ≤ 1000000; omega
    · show b.length ≤ 1000000; omega
  · rw [e]
    exact ⟨hx, ⟨(by decide +kernel : PyData.strOk Str.empty = true), Nat.zero_le _⟩⟩
end
theorem sep1 : Sep " " := ⟨by decide +kernel, by decide +kernel⟩
theorem sep2 : Sep "; " := ⟨by decide +kernel, by decide +kernel⟩
theorem sep3 : Sep " > " := ⟨by decide +kernel, by decide +kernel⟩
end Kt
/-! S2: what show_book, rule_in, read_book make of texts, plainly -/
namespace Kt
open PySem PySem.Spec PyProof.Rows L2 StX TL
def showRule (r : Rl) : Str := match r.c with
  | none => Txt.join " " (r.kind :: r.t :: r.cs)
  | some c => ((Str.empty ++ Txt.join " " (r.kind :: r.t :: r.cs)) ++ " > ") ++ c
def showTab (t : Str × List Str) : Str := Txt.join " " ("table" :: t.1 :: t.2)
def showParts (ts : List (Str × List Str)) (rs : List Rl) : List Str := ts.map showTab ++ rs.map showRule
def showBook (ts : List (Str × List Str)) (rs : List Rl) : Str := Txt.join "; " (showParts ts rs)
def pcs (p : Str) : List Str := Txt.split p " "
def ruleIn (x : Str) : Option Rl := match pcs (Txt.partition x " > ").1 with
  | k :: t :: cs => if k = "key" ∧ (Txt.partition x " > ").2.1 = "" then some ⟨t, cs, none⟩ else if k = "settles" ∧ (Txt.partition x " > ").2.1 ≠ "" then some ⟨t, cs, some (Txt.partition x " > ").2.2⟩ else none
  | _ => none
def parts (w : Str) : List Str := if w = "" then [] else Txt.split w "; "
def isT (p : Str) : Bool := decide ((pcs p).head? = some ("table" : Str))
def tabOf (p : Str) : Str × List Str := (Txt.join " " (((pcs p).drop 1).take 1), (pcs p).drop 2)
def tabs (w : Str) : List (Str × List Str) := ((parts w).filter isT).map tabOf
def rlo (w : Str) : List (Option Rl) := ((parts w).filter fun p => !isT p).map ruleIn
def rls (w : Str) : List Rl := (rlo w).filterMap id
def readOk (w : Str) : Prop := none ∉ rlo w ∧ (∀ t ∈ tabs w, t.2 ≠ []) ∧ okBook (tabs w) (rls w) ∧ showBook (tabs w) (rls w) = w
theorem empty_tl : tl "" = [] := by decide +kernel
theorem empty_str : ("" : Str) = Str.empty := by decide +kernel
theorem partition_sign {x : Str} (h : (Txt.partition x " > ").2.1 = "") : (Txt.partition x " > ").1 = x := by
  rcases part_cases (x := x) sep3 with ⟨a, b, e, _⟩ | ⟨e, _⟩
  · rw [e] at h
    exact absurd (show (" > " : Str) = "" from h) (by decide +kernel)
  · rw [e]
theorem showRule_in {x : Str} {r : Rl} (h : ruleIn x = some r) : showRule r = x := by
  unfold ruleIn at h
  split at h
  · rename_i k t cs e
    split at h
    · rename_i hk
      cases h
      show Txt.join " " ("key" :: t :: cs) = x
      rw [← hk.1, ← e]
      unfold pcs
      rw [join_split sep1, partition_sign hk.2]
    · split at h
      · rename_i hk
        cases h
        show ((Str.empty ++ Txt.join " " ("settles" :: t :: cs)) ++ " > ") ++ (Txt.partition x " > ").2.2 = x
        rw [← hk.1, ← e]
        unfold pcs
        rw [join_split sep1]
        rcases part_cases (x := x) sep3 with ⟨a, b, e2, h2, _⟩ | ⟨e2, _⟩
        · rw [e2]
          apply TL.ext_tl
          rw [tl_append, tl_append, tl_append, h2]
          show ([] ++ tl a ++ tl " > ") ++ tl b = _
          rw [List.nil_append, List.append_assoc]
        · rw [e2] at hk
          exact absurd empty_str.symm hk.2
      · cases h
  · cases h
theorem showTab_of {p : Str} (h : isT p = true) (hc : (tabOf p).2 ≠ []) : showTab (tabOf p) = p := by
  unfold isT at h
  have h : (pcs p).head? = some ("table" : Str) := of_decide_eq_true h
  unfold tabOf at hc ⊢
  cases e : pcs p with
  | nil => rw [e] at h; cases h
  | cons a l =>
    rw [e] at h
    have ha : a = "table" := by simpa using h
    cases l with
    | nil => rw [e] at hc; exact absurd rfl hc
    | cons n cs =>
      show Txt.join " " ("table" :: n :: cs) = p
      rw [← ha, ← e]
      exact join_split sep1
theorem rlo_some {w : Str} (h : none ∉ rlo w) : rlo w = (rls w).map some := by
  unfold rls
  have key : ∀ l : List (Option Rl), none ∉ l → l = (l.filterMap id).map some := by
    intro l
    induction l with
    | nil => intro _; rfl
    | cons a l ih =>
      intro h
      cases a with
      | none => exact absurd List.mem_cons_self h
      | some r =>
        show some r :: l = some r :: (l.filterMap id).map some
        rw [← ih fun z => h (List.mem_cons_of_mem _ z)]
  exact key _ h
theorem map_showTab {w : Str} (h : ∀ t ∈ tabs w, t.2 ≠ []) : (tabs w).map showTab = (parts w).filter isT := by
  unfold tabs at h ⊢
  rw [List.map_map]
  have e : ∀ p ∈ (parts w).filter isT, (showTab ∘ tabOf) p = p := fun p hp => showTab_of (List.mem_filter.mp hp).2 (h _ (List.mem_map.mpr ⟨p, hp, rfl⟩))
  rw [List.map_congr_left e, List.map_id']
theorem map_showRule {w : Str} (h : none ∉ rlo w) : (rls w).map showRule = (parts w).filter fun p => !isT p := by
  have e := rlo_some h
  unfold rlo at e
  generalize (parts w).filter (fun p => !isT p) = l at e
  generalize rls w = rs at e
  induction l generalizing rs with
  | nil =>
    cases rs with
    | nil => rfl
    | cons => cases e
  | cons p l ih =>
    cases rs with
    | nil => cases e
    | cons r rs =>
      rw [List.map_cons, List.map_cons] at e
      injection e with e1 e2
      rw [List.map_cons, ih rs e2, showRule_in e1]
theorem sum_filter {f : Str → Bool} : ∀ {l : List Str}, ((l.filter f ++ l.filter fun p => !f p).map (·.length)).sum = (l.map (·.length)).sum
  | [] => rfl
  | p :: l => by
    have ih := sum_filter (f := f) (l := l)
    rw [List.map_append, List.sum_append] at ih ⊢
    cases e : f p with
    | true =>
      rw [List.filter_cons_of_pos e, List.filter_cons_of_neg (by simp [e]), List.map_cons, List.map_cons, List.sum_cons, List.sum_cons]
      omega
    | false =>
      rw [List.filter_cons_of_neg (by simp [e]), List.filter_cons_of_pos (by simp [e]), List.map_cons, List.map_cons, List.sum_cons, List.sum_cons]
      omega
theorem parts_sum (w : Str) : ((parts w).map (·.length)).sum ≤ w.length + 2 ∧ (parts w).length ≤ w.length + 1 := by
  unfold parts
  split
  · exact ⟨Nat.zero_le _, Nat.zero_le _⟩
  · have h := split_len (x := w) sep2
    have e : ("; " : Str).length = 2 := by decide +kernel
    rw [e] at h
    have := split_count (x := w) sep2
    exact ⟨by omega, this⟩
theorem parts_okS {w p : Str} (h : okS w) (hp : p ∈ parts w) : okS p ∧ p.length ≤ w.length := by
  unfold parts at hp
  split at hp
  · cases hp
  · exact ⟨split_okS sep2 h hp, (split_mem sep2 hp).1⟩
theorem showParts_sum {w : Str} (h1 : none ∉ rlo w) (h2 : ∀ t ∈ tabs w, t.2 ≠ []) : ((showParts (tabs w) (rls w)).map (·.length)).sum ≤ w.length + 2 := by
  unfold showParts
  rw [map_showTab h2, map_showRule h1, sum_filter]
  exact (parts_sum w).1
theorem pcs_okS {p q : Str} (h : okS p) (hq : q ∈ pcs p) : okS q := split_okS sep1 h hq
theorem pcs_count (p : Str) : (pcs p).length ≤ p.length + 1 := split_count sep1
theorem join_one (a : Str) : Txt.join " " [a] = a := by rw [join_eq]; rfl
theorem join_none : Txt.join " " [] = "" := by rw [join_eq]; exact empty_str.symm
theorem tabOf_ok {p : Str} (h : okS p) : okS (tabOf p).1 ∧ (∀ c ∈ (tabOf p).2, okS c) ∧ (tabOf p).2.length ≤ p.length + 1 := by
  unfold tabOf
  refine ⟨?_, fun c hc => pcs_okS h (List.mem_of_mem_drop hc), ?_⟩
  · cases e : (pcs p).drop 1 with
    | nil => rw [List.take_nil, join_none]; exact ⟨(by decide +kernel : PyData.strOk "" = true), Nat.zero_le _⟩
    | cons a l =>
      show okS (Txt.join " " [a])
      rw [join_one]
      exact pcs_okS h (List.mem_of_mem_drop (i := 1) (by rw [e]; exact List.mem_cons_self))
  · rw [List.length_drop]; have := pcs_count p; omega
theorem ruleIn_ok {p : Str} {r : Rl} (h : okS p) (e : ruleIn p = some r) : okRl r ∧ r.cs.length ≤ p.length + 1 := by
  obtain ⟨h1, h2⟩ := part_okS sep3 h
  have hl : (Txt.partition p " > ").1.length ≤ p.length := by
    rcases part_cases (x := p) sep3 with ⟨a, b, e, h, _⟩ | ⟨e, _⟩
    · rw [e, len_tl p, h, List.length_append, ← len_tl]; exact Nat.le_add_right _ _
    · rw [e]; exact Nat.le_refl _
  unfold ruleIn at e
  split at e
  · rename_i k t cs ep
    have hm : ∀ q ∈ t :: cs, okS q := fun q hq => pcs_okS h1 (by rw [ep]; exact List.mem_cons_of_mem _ hq)
    have hc : cs.length ≤ p.length + 1 := by
      have := pcs_count (Txt.partition p " > ").1
      rw [ep] at this
      simp at this
      omega
    split at e
    · cases e
      exact ⟨⟨hm t List.mem_cons_self, fun x hx => hm x (List.mem_cons_of_mem _ hx), by simp⟩, hc⟩
    · split at e
      · cases e
        exact ⟨⟨hm t List.mem_cons_self, fun x hx => hm x (List.mem_cons_of_mem _ hx), by simpa using h2⟩, hc⟩
      · cases e
  · cases e
end Kt
namespace Kt
open PySem PySem.Spec PyProof.Rows L2 StX TL
def unStr : D → Str
  | .str x => x
  | _ => Str.empty
def unTab : D → Str × List Str
  | .tup [.str n, .lst l] => (n, l.map unStr)
  | _ => (Str.empty, [])
def unRl : D → Rl
  | .tup [_, .str t, .lst l] => ⟨t, l.map unStr, none⟩
  | .tup [_, .str t, .lst l, .str c] => ⟨t, l.map unStr, some c⟩
  | _ => ⟨Str.empty, [], none⟩
theorem unStr_map : ∀ ls : List Str, (ls.map D.str).map unStr = ls
  | [] => rfl
  | x :: ls => congrArg (List.cons x) (unStr_map ls)
theorem unTab_tabD (t : Str × List Str) : unTab (tabD .lst t) = t := by
  show (t.1, (t.2.map D.str).map unStr) = t
  rw [unStr_map]
theorem unRl_rlD (r : Rl) : unRl (rlD .lst r) = r := by
  obtain ⟨t, cs, c⟩ := r
  cases c with
  | none => show (⟨t, (cs.map D.str).map unStr, none⟩ : Rl) = _; rw [unStr_map]
  | some c => show (⟨t, (cs.map D.str).map unStr, some c⟩ : Rl) = _; rw [unStr_map]
def optD : Option Rl → D
  | none => .non
  | some r => rlD .lst r
def c_show_rule : Con where
  G := Rl
  ds := fun r => [rlD .lst r]
  pre := fun r => (showRule r).length ≤ 1000000
  post := fun r d O' => d = .str (showRule r) ∧ O' = []
def c_show_book {K : PySem.W.Frag} {mg : Str → Option Value} {w : World} (T : Txt K mg w) : Con where
  G := List (Str × List Str) × List Rl
  ds := fun g => [.ins T.a_Book (bookF g.1 g.2)]
  pre := fun g => g.1.length ≤ 100000 ∧ g.2.length ≤ 100000 ∧ ((showParts g.1 g.2).map (·.length)).sum ≤ 1000000
  post := fun g d O' => d = .str (showBook g.1 g.2) ∧ O' = []
def c_rule_in : Con where
  G := Str
  ds := fun x => [.str x]
  pre := fun x => okS x
  post := fun x d O' => d = optD (ruleIn x) ∧ O' = []
theorem big_of {n : Nat} (h : n ≤ 16000000) : n ≤ sizeLine := Nat.le_trans h (by rw [sizeLine_eq]; decide)
theorem one_len : (" " : Str).length = 1 := by decide +kernel
section
variable {P : Program} {w : World} {K : PySem.W.Frag} {mg : Str → Option Value} {base : Heap}
/-! ### show_rule -/
abbrev s_show_rule : Stmt := top 19
abbrev N_show_rule : List Str := ["rule", "found"]
theorem sc_show_rule : FnScope N_show_rule ["rule"] (defScope s_show_rule) := ⟨rfl, rfl, rfl, by decide +kernel, rfl, by decide +kernel, by decide +kernel⟩
def t_show_rule (K : PySem.W.Frag) : TS := (tSeq (tAsg (tM1 (rJoin K) (tC (.str " ")) (tLst (tCons (tOp (rIxU K) (tVar 0) (tC (.int 0))) (tCons (tOp (rIxU K) (tVar 0) (tC (.int 1))) (tStar K (tOp (rIxU K) (tVar 0) (tC (.int 2))) tNil))))) (gName 1)) (tRet (tIf (tTest (tOp (rEqD K) (tOp (rIxU K) (tVar 0) (tC (.int 0))) (tC (.str "key")))) (tVar 1) (tJoined [(tFmt (tVar 1)), (tC (.str " > ")), (tFmt (tOp (rIxU K) (tVar 0) (tC (.int 3))))]))))
theorem w_show_rule {f : Addr} {cdv : Value} {A : Around} {outer : List PySem.Env} {s : Shared} {H : Hp} {E : XK} (T : Txt K mg w) (hr : Room 0 (A.deeper (envOfC "show_rule" (defScope s_show_rule) s.heap.objs.size f cdv))) : PSs (cxOf (L2.CX P w) P w K mg base N_show_rule "show_rule" (defScope s_show_rule) f cdv A outer s H E) (defBody s_show_rule) (t_show_rule K) := by
  have sc := sc_show_rule
  exact PSs.nox ((pss_cons (ps_set (i := 1) sc.nd rfl (Or.inl rfl) (pe_join pe_str (pe_lst (pa_cons (pe_ix (ix_U (hu_of hr)) (pv 0) pe_int (fun _ _ => rfl)) (pa_cons (pe_ix (ix_U (hu_of hr)) (pv 0) pe_int (fun _ _ => rfl)) (pa_star (pe_ix (ix_U (hu_of hr)) (pv 0) pe_int (fun _ _ => rfl)) pa_nil)))))) (pss_one (ps_ret (pe_ifExp (pt_cmpR (op_eqD hr.units) (pe_ix (ix_U (hu_of hr)) (pv 0) pe_int (fun _ _ => rfl)) pe_str (nomark _)) (pv 1) (pe_joined (.cons (pe_fmt (pv 1)) (.cons pe_str (.cons (pe_fmt (pe_ix (ix_U (hu_of hr)) (pv 0) pe_int (fun _ _ => rfl))) .nil)))))))))

theorem join_bound {ps : List Str} {n : Nat} (h : ps ≠ []) (hl : (Txt.join " " ps).length ≤ n) (hn : n ≤ 16000000) : (ps.map (·.length)).sum + ps.length * (" " : Str).length ≤ 16777216 := by
  rw [← join_len h, one_len]; omega
theorem b_show_rule (g : c_show_rule.G) (B : Bs) (Q : VK) (hp : c_show_rule.pre g) (rt : RT B Q (c_show_rule.post g)) : NX B (t_show_rule K { nx := fun _ H' => Q .non H', rt := Q }) (startD N_show_rule (c_show_rule.ds g)) [] := by
  have hp : (showRule g).length ≤ 1000000 := hp
  obtain ⟨i0, i1, i2, _⟩ := rl_ix (mk := .lst) (r := g)
  have hf : (Txt.join " " (g.kind :: g.t :: g.cs)).length ≤ 1000000 := by
    unfold showRule at hp
    split at hp
    · exact hp
    · refine Nat.le_trans ?_ hp
      rw [len_tl, len_tl, tl_append, tl_append, tl_append, List.length_append, List.length_append, List.length_append]; omega
  have ix : ∀ {i : Int} {d : D} {Γ : List (Option D)}, Γ[0]? = some (some (rlD .lst g)) → atI ([.str g.kind, .str g.t, strsD .lst g.cs] ++ g.c.toList.map .str) i = some d → EvP B (tOp (rIxU K) (tVar 0) (tC (.int i))) Γ [] d := by
    intro i d Γ h e
    exact ev_op (ev_var h) ev_cint (o2_ixS (.inr rfl) e)
  refine nx_seq (nx_asgP (d := .str (Txt.join " " (g.kind :: g.t :: g.cs))) (ev_join ev_cstr ((ev_lst (ea_cons (ix rfl i0) (ea_cons (ix rfl i1) (ea_star (ix rfl i2) (.inl (.inl rfl)) ea_nil))) ?_).is (d' := .lst ((g.kind :: g.t :: g.cs).map .str)) (by simp)) (.inl (.inl rfl)) (join_bound (by simp) hf (by decide))) ?_)
  · have h := join_bound (ps := g.kind :: g.t :: g.cs) (by simp) hf (by decide)
    rw [one_len] at h
    rw [sizeLine_eq]
    simp at h ⊢
    omega
  · have hk : (match g.c with | none => true | some _ => false) = decide (g.kind = "key") := by
      unfold Rl.kind
      cases g.c
      · exact (decide_eq_true rfl).symm
      · exact (by decide +kernel : (false : Bool) = decide (("settles" : Str) = "key"))
    refine nx_retP rt (ev_if (b := decide (g.kind = "key")) (et_test (ev_op (ix rfl i0) ev_cstr (o2_eqS (kind_ok g) (by decide +kernel)))) (fun hb => ?_) fun hb => ?_) ⟨rfl, rfl⟩
    · have : g.c = none := by
        cases e : g.c with
        | none => rfl
        | some c => rw [e] at hk; rw [hb] at hk; cases hk
      refine (ev_var rfl).is ?_
      unfold showRule
      rw [this]
    · cases e : g.c with
      | none => rw [e] at hk; rw [hb] at hk; cases hk
      | some c =>
        have i3 : atI ([.str g.kind, .str g.t, strsD .lst g.cs] ++ g.c.toList.map .str) 3 = some (.str c) := by rw [e]; rfl
        have hs : showRule g = [Txt.join " " (g.kind :: g.t :: g.cs), " > ", c].foldl (· ++ ·) Str.empty := by
          unfold showRule; rw [e]; rfl
        have hc : c.length ≤ 1000000 := by
          refine Nat.le_trans ?_ hp
          rw [hs]
          show c.length ≤ (((Str.empty ++ _) ++ _) ++ c).length
          rw [len_tl, len_tl, tl_append, List.length_append]; omega
        rw [hs]
        refine ev_joined (.cons (ev_fmt (ev_var rfl) (big_of (by omega))) (.cons ev_cstr (.cons (ev_fmt (ix rfl i3) (big_of (by omega))) .nil))) fun n => ?_
        refine big_of (Nat.le_trans ?_ (show 1000000 ≤ 16000000 by decide))
        refine Nat.le_trans ?_ (Nat.le_trans (Nat.le_of_eq (congrArg Str.length hs.symm)) hp)
        have pref : ∀ (l : List Str) (acc : Str) (n : Nat), ((l.take n).foldl (· ++ ·) acc).length ≤ (l.foldl (· ++ ·) acc).length := by
          intro l
          induction l with
          | nil => intro acc n; rw [List.take_nil]; exact Nat.le_refl _
          | cons a l ih =>
            intro acc n
            cases n with
            | succ n => exact ih (acc ++ a) n
            | zero =>
              refine Nat.le_trans ?_ (ih (acc ++ a) 0)
              show acc.length ≤ (acc ++ a).length
              rw [len_tl, len_tl, tl_append, List.length_append]; omega
        exact pref _ _ n
theorem G_show_rule (T : Txt K mg w) : FnOk P w K mg base (L2.CX P w) 1 T.a_show_rule T.fd_show_rule ["rule"] c_show_rule.sp :=
  T.F_show_rule.ok sc_show_rule (Con.len fun _ => rfl) fun cdv A outer s H vs Q E hr h => ⟨t_show_rule K, w_show_rule T hr, body_ok (t := fun _ => t_show_rule K) (fun g B Q E hp rt _ _ => b_show_rule g B Q hp rt) h⟩
/-! ### show_book -/
abbrev s_show_book : Stmt := top 20
abbrev N_show_book : List Str := ["book", "found", "name", "columns", "rule"]
theorem sc_show_book : FnScope N_show_book ["book"] (defScope s_show_book) := ⟨rfl, rfl, rfl, by decide +kernel, rfl, by decide +kernel, by decide +kernel⟩
def t_show_book (K : PySem.W.Frag) {mg : Str → Option Value} {w : World} (T : Txt K mg w) : TS := (tSeq (tAsg (tLc (iList K (tProp T.a_Book (c_Book_tables T).sp [] (fun _ _ _ => False) (tVar 0))) (gTup K 2 (gCons (gName 2) (gCons (gName 3) gNil))) tYes (tM1 (rJoin K) (tC (.str " ")) (tLst (tCons (tC (.str "table")) (tCons (tVar 2) (tStar K (tVar 3) tNil))))) [2, 3]) (gName 1)) (tRet (tM1 (rJoin K) (tC (.str "; ")) (tOp (rAddU K) (tVar 1) (tLc (iList K (tProp T.a_Book (c_Book_rules T).sp [] (fun _ _ _ => False) (tVar 0))) (gName 4) tYes (tCl c_show_rule [] W0 (tCons (tVar 4) tNil)) [4])))))
theorem w_show_book {f : Addr} {cdv : Value} {A : Around} {outer : List PySem.Env} {s : Shared} {H : Hp} {E : XK} (T : Txt K mg w) (hr : Room 2 (A.deeper (envOfC "show_book" (defScope s_show_book) s.heap.objs.size f cdv))) : PSs (cxOf (L2.CX P w) P w K mg base N_show_book "show_book" (defScope s_show_book) f cdv A outer s H E) (defBody s_show_book) (t_show_book K T) := by
  have sc := sc_show_book
  exact PSs.nox ((pss_cons (ps_setLc (i := 1) (own := [("name", 2), ("columns", 3)]) (by rfl) sc.nd rfl rfl (sw_true rfl rfl rfl (by decide +kernel)) (pi_list (pe_prop (pv 0) T.cl_Book T.pr_Book_tables.choose_spec (G_Book_tables T) (hr.mono (by decide)) T.b_Book_tables .nil passF rfl)) (blkOk_by (own := [("name", 2), ("columns", 3)]) (N := N_show_book) (sc := defScope s_show_book) (by decide +kernel)) (fun _ _ _ _ _ => (pg_tup rfl (pgs_cons (pg_name (i := 2) sc.nd rfl (by first | exact Or.inl rfl | exact Or.inr rfl)) (pgs_cons (pg_name (i := 3) sc.nd rfl (by first | exact Or.inl rfl | exact Or.inr rfl)) pgs_nil)))) (fun _ _ _ _ _ => pts_nil) (fun _ _ _ _ _ => (pe_join pe_str (pe_lst (pa_cons pe_str (pa_cons (pv 2) (pa_star (pv 3) pa_nil))))))) (pss_one (ps_ret (pe_join pe_str (pe_op op_addU (pv 1) (pe_lc (own := [("rule", 4)]) (by rfl) sc.nd (pi_list (pe_prop (pv 0) T.cl_Book T.pr_Book_rules.choose_spec (G_Book_rules T) (hr.mono (by decide)) T.b_Book_rules .nil passF rfl)) (blkOk_by (own := [("rule", 4)]) (N := N_show_book) (sc := defScope s_show_book) (by decide +kernel)) (fun _ _ _ _ _ => (pg_name (i := 4) sc.nd rfl (by first | exact Or.inl rfl | exact Or.inr rfl))) (fun _ _ _ _ _ => pts_nil) (fun _ _ _ _ _ => (pe_cl (W := W0) (G_show_rule T) (hr.mono (by decide)) (by rfl) T.g_show_rule T.k_show_rule T.b_show_rule .nil takes0 (pa_cons (pv 4) pa_nil))))))))))

theorem b_show_book (T : Txt K mg w) (g : (c_show_book T).G) (B : Bs) (Q : VK) (hp : (c_show_book T).pre g) (rt : RT B Q ((c_show_book T).post g)) : NX B (t_show_book K T { nx := fun _ H' => Q .non H', rt := Q }) (startD N_show_book ((c_show_book T).ds g)) [] := by
  obtain ⟨ts, rs⟩ := g
  obtain ⟨h1, h2, h3⟩ : ts.length ≤ 100000 ∧ rs.length ≤ 100000 ∧ ((showParts ts rs).map (·.length)).sum ≤ 1000000 := hp
  have hm : ∀ p ∈ showParts ts rs, p.length ≤ 1000000 := fun p hp => Nat.le_trans (sum_mem hp) h3
  refine nx_seq (nx_asgP (d := .lst ((ts.map showTab).map .str)) ((ev_lcL (K := K) (l := ts.map (tabD .lst)) (b := fun _ => true) (f := fun d => .str (showTab (unTab d))) (ev_prop (c := c_Book_tables T) (ts, rs) (ev_var rfl) rfl rfl h1 (fun _ _ z => z) fun _ _ _ z => z) (.inl rfl) (gin_tup (gsin_name (by simp) (gsin_name (by simp) gsin_nil))) ?_ ?_).is ?_) ?_)
  · rw [List.length_map]; exact Nat.le_trans h1 (sz rfl)
  · rintro B' x hx
    obtain ⟨t, ht, rfl⟩ := List.mem_map.mp hx
    have hl : (Txt.join " " ("table" :: t.1 :: t.2)).length ≤ 1000000 := hm (showTab t) (List.mem_append_left _ (List.mem_map.mpr ⟨t, ht, rfl⟩))
    refine ⟨_, gt_tup (gs_cons gt_name (gs_cons gt_name gs_nil)) rfl, et_yes, fun _ => ?_⟩
    rw [unTab_tabD]
    refine ev_join ev_cstr ((ev_lst (ea_cons ev_cstr (ea_cons (ev_var rfl) (ea_star (ev_var rfl) (.inl (.inl rfl)) ea_nil))) ?_).is (d' := .lst ((("table" : Str) :: t.1 :: t.2).map .str)) (by simp)) (.inl (.inl rfl)) (join_bound (by simp) hl (by decide))
    have h := join_bound (ps := ("table" : Str) :: t.1 :: t.2) (by simp) hl (by decide)
    rw [one_len] at h
    rw [sizeLine_eq]
    simp at h ⊢
    omega
  · rw [List.filter_eq_self.mpr (fun _ _ => rfl), List.map_map, List.map_map]
    congr 1
    refine List.map_congr_left fun t _ => ?_
    show D.str (showTab (unTab (tabD .lst t))) = _
    rw [unTab_tabD]; rfl
  · have hl2 : ((showParts ts rs).map (·.length)).sum + (showParts ts rs).length * ("; " : Str).length ≤ 16777216 := by
      have e : ("; " : Str).length = 2 := by decide +kernel
      rw [e]
      have : (showParts ts rs).length ≤ 200000 := by unfold showParts; rw [List.length_append, List.length_map, List.length_map]; omega
      omega
    refine nx_retP rt (ev_join ev_cstr ((ev_op (z := .lst (((ts.map showTab).map .str) ++ ((rs.map showRule).map .str))) (ev_var rfl) ((ev_lcL (K := K) (l := rs.map (rlD .lst)) (b := fun _ => true) (f := fun d => .str (showRule (unRl d))) (ev_prop (c := c_Book_rules T) (ts, rs) (ev_var rfl) rfl rfl h2 (fun _ _ z => z) fun _ _ _ z => z) (.inl rfl) (gin_name (by simp)) ?_ ?_).is (d' := .lst ((rs.map showRule).map .str)) ?_) (o2_addL ?_)).is (d' := .lst ((showParts ts rs).map .str)) ?_) (.inl (.inl rfl)) hl2) ⟨rfl, rfl⟩
    · rw [List.length_map]; exact Nat.le_trans h2 (sz rfl)
    · rintro B' x hx
      obtain ⟨r, hr, rfl⟩ := List.mem_map.mp hx
      have hl : (showRule r).length ≤ 1000000 := hm (showRule r) (List.mem_append_right _ (List.mem_map.mpr ⟨r, hr, rfl⟩))
      refine ⟨_, gt_name, et_yes, fun _ => ?_⟩
      rw [unRl_rlD]
      exact evp_cl (c := c_show_rule) r (ea_cons (ev_var rfl) ea_nil) rfl rfl hl (fun _ _ z => z) fun _ _ _ z => z
    · rw [List.filter_eq_self.mpr (fun _ _ => rfl), List.map_map, List.map_map]
      congr 1
      refine List.map_congr_left fun r _ => ?_
      show D.str (showRule (unRl (rlD .lst r))) = _
      rw [unRl_rlD]; rfl
    · rw [List.length_map, List.length_map, List.length_map, List.length_map]
      exact big_of (by omega)
    · unfold showParts; rw [List.map_append]
theorem G_show_book (T : Txt K mg w) : FnOk P w K mg base (L2.CX P w) 3 T.a_show_book T.fd_show_book ["book"] (c_show_book T).sp :=
  T.F_show_book.ok sc_show_book (Con.len fun _ => rfl) fun cdv A outer s H vs Q E hr h => ⟨t_show_book K T, w_show_book T hr, body_ok (t := fun _ => t_show_book K T) (fun g B Q E hp rt _ _ => b_show_book T g B Q hp rt) h⟩
/-! ### rule_in -/
abbrev s_rule_in : Stmt := top 22
abbrev N_rule_in : List Str := ["text", "left", "sign", "column", "pieces"]
theorem sc_rule_in : FnScope N_rule_in ["text"] (defScope s_rule_in) := ⟨rfl, rfl, rfl, by decide +kernel, rfl, by decide +kernel, by decide +kernel⟩
def t_rule_in (K : PySem.W.Frag) : TS := (tSeq (tAsg (tM1 rPartition (tVar 0) (tC (.str " > "))) (gTup K 3 (gCons (gName 1) (gCons (gName 2) (gCons (gName 3) gNil))))) (tSeq (tAsg (tM1 rSplit (tVar 1) (tC (.str " "))) (gName 4)) (tSeq (tIfS (tOr (tTest (tOp rLtI (tCB (rLenU K) (tCons (tVar 4) tNil)) (tC (.int 2)))) (tOr (tTest (tOp (rNotInU K) (tOp (rIxU K) (tVar 4) (tC (.int 0))) (tTup (tCons (tC (.str "key")) (tCons (tC (.str "settles")) tNil))))) (tTest (tOp rNe (tOp (rEqD K) (tOp (rIxU K) (tVar 4) (tC (.int 0))) (tC (.str "settles"))) (tOp (rNeD K) (tVar 2) (tC (.str ""))))))) (tRet (tC .non)) tNext) (tRet (tIf (tTest (tOp (rEqD K) (tVar 2) (tC (.str "")))) (tTup (tCons (tOp (rIxU K) (tVar 4) (tC (.int 0))) (tCons (tOp (rIxU K) (tVar 4) (tC (.int 1))) (tCons (tSl (rSlU K) (tVar 4) (tPart (tC (.int 2))) tNoPart) tNil)))) (tTup (tCons (tOp (rIxU K) (tVar 4) (tC (.int 0))) (tCons (tOp (rIxU K) (tVar 4) (tC (.int 1))) (tCons (tSl (rSlU K) (tVar 4) (tPart (tC (.int 2))) tNoPart) (tCons (tVar 3) tNil))))))))))
theorem w_rule_in {f : Addr} {cdv : Value} {A : Around} {outer : List PySem.Env} {s : Shared} {H : Hp} {E : XK} (T : Txt K mg w) (hr : Room 0 (A.deeper (envOfC "rule_in" (defScope s_rule_in) s.heap.objs.size f cdv))) : PSs (cxOf (L2.CX P w) P w K mg base N_rule_in "rule_in" (defScope s_rule_in) f cdv A outer s H E) (defBody s_rule_in) (t_rule_in K) := by
  have sc := sc_rule_in
  exact PSs.nox ((pss_cons (ps_asg (pe_partition (pv 0) pe_str) (pg_tup rfl (pgs_cons (pg_name (i := 1) sc.nd rfl (Or.inl rfl)) (pgs_cons (pg_name (i := 2) sc.nd rfl (Or.inl rfl)) (pgs_cons (pg_name (i := 3) sc.nd rfl (Or.inl rfl)) pgs_nil))))) (pss_cons (ps_set (i := 4) sc.nd rfl (Or.inl rfl) (pe_split (pv 1) pe_str)) (pss_cons (ps_if (PW.pt (pw_or (pt_cmpR op_lt (pe_callB call_lenU (by rfl) T.n_len (by decide +kernel) (pa_cons (pv 4) pa_nil)) pe_int (nomark _)) (pw_or (pt_cmpR (op_notInU (hu_of hr)) (pe_ix (ix_U (hu_of hr)) (pv 4) pe_int (fun _ _ => rfl)) (pe_tup (pa_cons pe_str (pa_cons pe_str pa_nil))) (by rfl)) (pw_or1 (pt_cmpR op_ne (pe_cmpR (op_eqD hr.units) (pe_ix (ix_U (hu_of hr)) (pv 4) pe_int (fun _ _ => rfl)) pe_str (nomark _)) (pe_cmpR (op_neD hr.units) (pv 2) pe_str (nomark _)) (nomark _)))))) (pss_one (ps_ret pe_non)) pss_nil) (pss_one (ps_ret (pe_ifExp (pt_cmpR (op_eqD hr.units) (pv 2) pe_str (nomark _)) (pe_tup (pa_cons (pe_ix (ix_U (hu_of hr)) (pv 4) pe_int (fun _ _ => rfl)) (pa_cons (pe_ix (ix_U (hu_of hr)) (pv 4) pe_int (fun _ _ => rfl)) (pa_cons (pe_slice sl_U (pv 4) (po_some pe_int) po_none) pa_nil)))) (pe_tup (pa_cons (pe_ix (ix_U (hu_of hr)) (pv 4) pe_int (fun _ _ => rfl)) (pa_cons (pe_ix (ix_U (hu_of hr)) (pv 4) pe_int (fun _ _ => rfl)) (pa_cons (pe_slice sl_U (pv 4) (po_some pe_int) po_none) (pa_cons (pv 3) pa_nil))))))))))))

theorem b_rule_in (g : c_rule_in.G) (B : Bs) (Q : VK) (hp : c_rule_in.pre g) (rt : RT B Q (c_rule_in.post g)) : NX B (t_rule_in K { nx := fun _ H' => Q .non H', rt := Q }) (startD N_rule_in (c_rule_in.ds g)) [] := by
  have hp : okS g := hp
  have rt : RT B Q fun d O' => d = optD (ruleIn g) ∧ O' = [] := rt
  obtain ⟨hl, hc⟩ := part_okS sep3 hp
  refine nx_seq (nx_asgGP (K := K) (ev_part (ev_var rfl) ev_cstr (sep_ne sep3) (big_of (Nat.le_trans hp.2 (by decide)))) (gt_tup (gs_cons gt_name (gs_cons gt_name (gs_cons gt_name gs_nil))) rfl) ?_)
  have hso : PyData.strOk (Txt.partition g " > ").2.1 = true := by
    rcases part_cases (x := g) sep3 with ⟨a, b, e, _⟩ | ⟨e, _⟩
    · rw [e]; exact (by decide +kernel : PyData.strOk " > " = true)
    · rw [e]; exact (by decide +kernel : PyData.strOk Str.empty = true)
  have hpc : ∀ q ∈ pcs (Txt.partition g " > ").1, okS q := fun q hq => pcs_okS hl hq
  have hcn := pcs_count (Txt.partition g " > ").1
  have hl2 := hl.2
  unfold ruleIn at rt
  revert rt hso hpc hcn hl2 hl hc
  generalize (Txt.partition g " > ").1 = left
  generalize (Txt.partition g " > ").2.1 = sign
  generalize (Txt.partition g " > ").2.2 = column
  intro rt hl hc hso hpc hcn hl2
  refine nx_seq (nx_asgP (d := .lst ((pcs left).map .str)) (ev_split (ev_var rfl) ev_cstr (sep_ne sep1) (big_of (by omega))) ?_)
  have hne : pcs left ≠ [] := split_ne sep1
  revert rt hpc hcn hne
  generalize pcs left = ps
  intro rt hpc hcn hne
  have hlen : EvP B (tCB (rLenU K) (tCons (tVar 4) tNil)) [some (.str g), some (.str left), some (.str sign), some (.str column), some (.lst (ps.map .str))] [] (.int ((ps.map D.str).length : Nat)) := ev_cb (ea_cons (ev_var rfl) ea_nil) (on_lenS (.inl (.inl rfl)))
  match ps, rt, hpc, hcn, hne, hlen with
  | [], _, _, _, hne, _ => exact absurd rfl hne
  | [k], rt, hpc, hcn, hne, hlen =>
    refine nx_seq (nx_ifP (b := true) (et_or (a := true) (b := true) (et_test (ev_op hlen ev_cint o2_lt)) fun z => by cases z) (fun _ => nx_retP rt ev_cnon ⟨rfl, rfl⟩) fun z => by cases z)
  | k :: t :: cs, rt, hpc, hcn, hne, hlen =>
    have hk : PyData.strOk k = true := (hpc k List.mem_cons_self).1
    have i0 : ∀ {Γ' : List (Option D)}, Γ'[4]? = some (some (.lst ((k :: t :: cs).map .str))) → EvP B (tOp (rIxU K) (tVar 4) (tC (.int 0))) Γ' [] (.str k) := fun h => ev_op (ev_var h) ev_cint (o2_ixS (.inl (.inl rfl)) (by exact atI_nat (j := 0) rfl))
    have i1 : ∀ {Γ' : List (Option D)}, Γ'[4]? = some (some (.lst ((k :: t :: cs).map .str))) → EvP B (tOp (rIxU K) (tVar 4) (tC (.int 1))) Γ' [] (.str t) := fun h => ev_op (ev_var h) ev_cint (o2_ixS (.inl (.inl rfl)) (by exact atI_nat (j := 1) rfl))
    have i2 : ∀ {Γ' : List (Option D)}, Γ'[4]? = some (some (.lst ((k :: t :: cs).map .str))) → EvP B (tSl (rSlU K) (tVar 4) (tPart (tC (.int 2))) tNoPart) Γ' [] (strsD .lst cs) := fun h => (ev_slL (ev_var h) (eo_some ev_cint) eo_none (.inl rfl)).is (by
      show D.lst (cutD ((k :: t :: cs).map D.str) (some 2) none) = D.lst (cs.map D.str)
      unfold cutD
      have e1 : HT.sIx ((k :: t :: cs).map D.str).length 0 (some 2) = 2 := by
        simp [HT.sIx]
        first | done | omega
      have e2 : HT.sIx ((k :: t :: cs).map D.str).length ((k :: t :: cs).map D.str).length none = ((k :: t :: cs).map D.str).length := rfl
      rw [e1, e2]
      simp
      exact List.take_of_length_le (by simp))
    refine nx_seq (nx_ifP (b := (decide ((((k :: t :: cs).map D.str).length : Nat) < (2 : Int))) || ((!decide (k ∈ (["key", "settles"] : List Str))) || decide (decide (k = "settles") ≠ decide (sign ≠ "")))) (et_or (et_test (ev_op hlen ev_cint o2_lt)) fun _ => et_or (et_test (ev_op (i0 rfl) (ev_tup (ea_cons ev_cstr (ea_cons ev_cstr ea_nil)) (sz rfl)) (o2_notInL (ls := ["key", "settles"]) (.inr rfl)))) fun _ =>
      et_test (ev_op (ev_op (i0 rfl) ev_cstr (o2_eqS hk (by decide +kernel))) (ev_op (ev_var rfl) ev_cstr (o2_neS hso (by decide +kernel))) o2_neB)) (fun hb => ?_) fun hb => ?_)
    · refine nx_retP rt ev_cnon ⟨?_, rfl⟩
      show D.non = optD (if k = "key" ∧ sign = "" then _ else if k = "settles" ∧ sign ≠ "" then _ else none)
      have n1 : ¬ (k = "key" ∧ sign = "") := by
        rintro ⟨rfl, rfl⟩
        have : (decide ((((("key" : Str) :: t :: cs).map D.str).length : Nat) < (2 : Int))) = false := by simp; omega
        rw [this] at hb
        exact absurd hb (by decide +kernel)
      have n2 : ¬ (k = "settles" ∧ sign ≠ "") := by
        rintro ⟨rfl, h⟩
        have : (decide ((((("settles" : Str) :: t :: cs).map D.str).length : Nat) < (2 : Int))) = false := by simp; omega
        rw [this, decide_eq_true h] at hb
        exact absurd hb (by decide +kernel)
      rw [if_neg n1, if_neg n2]; rfl
    · have hb2 := Bool.or_eq_false_iff.mp (Bool.or_eq_false_iff.mp hb).2
      have hin : k = "key" ∨ k = "settles" := by
        have := hb2.1
        simp at this
        by_cases h : k = "key"
        · exact .inl h
        · exact .inr (this h)
      have heq : decide (k = "settles") = decide (sign ≠ "") := by
        exact Classical.not_not.mp (of_decide_eq_false hb2.2)
      have ks : ("key" : Str) ≠ "settles" := by decide +kernel
      refine nx_retP rt (ev_if (b := decide (sign = "")) (et_test (ev_op (ev_var rfl) ev_cstr (o2_eqS hso (by decide +kernel)))) (fun h => ?_) fun h => ?_) ⟨rfl, rfl⟩
      · have h : sign = "" := of_decide_eq_true h
        have hk2 : k = "key" := hin.resolve_right fun z => by
          rw [z, h] at heq
          exact absurd heq (by decide +kernel)
        refine (ev_tup (ea_cons (i0 rfl) (ea_cons (i1 rfl) (ea_cons (i2 rfl) ea_nil))) (sz rfl)).is ?_
        show _ = optD (if k = "key" ∧ sign = "" then _ else _)
        rw [if_pos ⟨hk2, h⟩, hk2]; rfl
      · have h : sign ≠ "" := of_decide_eq_false h
        have hk2 : k = "settles" := hin.resolve_left fun z => by
          rw [z, decide_eq_true h, decide_eq_false ks] at heq
          cases heq
        refine (ev_tup (ea_cons (i0 rfl) (ea_cons (i1 rfl) (ea_cons (i2 rfl) (ea_cons (ev_var rfl) ea_nil)))) (sz rfl)).is ?_
        show _ = optD (if k = "key" ∧ sign = "" then _ else if k = "settles" ∧ sign ≠ "" then _ else _)
        rw [if_neg (fun z => h z.2), if_pos ⟨hk2, h⟩, hk2]; rfl
theorem G_rule_in (T : Txt K mg w) : FnOk P w K mg base (L2.CX P w) 1 T.a_rule_in T.fd_rule_in ["text"] c_rule_in.sp :=
  T.F_rule_in.ok sc_rule_in (Con.len fun _ => rfl) fun cdv A outer s H vs Q E hr h => ⟨t_rule_in K, w_rule_in T hr, body_ok (t := fun _ => t_rule_in K) (fun g B Q E hp rt _ _ => b_rule_in g B Q hp rt) h⟩
end
end Kt
namespace Kt
open PySem PySem.Spec PyProof.Rows L2 StX TL
theorem cut_nat {l : List D} {a b : Nat} (h : a ≤ b) : cutD l (some (a : Int)) (some (b : Int)) = (l.drop a).take (b - a) := by
  unfold cutD
  rw [HT.sIx_nat, HT.sIx_nat]
  by_cases ha : a ≤ l.length
  · rw [Nat.min_eq_left ha]
    by_cases hb : b ≤ l.length
    · rw [Nat.min_eq_left hb]
    · rw [Nat.min_eq_right (by omega), List.take_of_length_le (by rw [List.length_drop]; omega), List.take_of_length_le (by rw [List.length_drop]; omega)]
  · have e1 : min a l.length = l.length := Nat.min_eq_right (by omega)
    rw [e1, List.drop_eq_nil_of_le (Nat.le_refl _), List.drop_eq_nil_of_le (show l.length ≤ a by omega)]
    simp
theorem hu65 {A : Around} {k : Nat} (hr : Room k A) : A.units + 65 < cLine := by have := hr.un; omega
theorem any_none {l : List (Option Rl)} : l.any Option.isNone = true ↔ none ∈ l := by
  rw [List.any_eq_true]
  refine ⟨fun ⟨o, h, e⟩ => ?_, fun h => ⟨none, h, rfl⟩⟩
  cases o with
  | none => exact h
  | some r => cases e
theorem cut_from {l : List D} {a : Nat} : cutD l (some (a : Int)) none = l.drop a := by
  unfold cutD
  rw [HT.sIx_nat]
  show (l.drop (min a l.length)).take (l.length - min a l.length) = _
  rw [List.take_of_length_le (by rw [List.length_drop]; exact Nat.le_refl _)]
  by_cases ha : a ≤ l.length
  · rw [Nat.min_eq_left ha]
  · rw [Nat.min_eq_right (by omega), List.drop_eq_nil_of_le (Nat.le_refl _), List.drop_eq_nil_of_le (show l.length ≤ a by omega)]
theorem cut_to {l : List D} {b : Nat} : cutD l none (some (b : Int)) = l.take b := by
  unfold cutD
  rw [HT.sIx_nat]
  show (l.drop 0).take (min b l.length - 0) = _
  rw [List.drop_zero, Nat.sub_zero]
  by_cases hb : b ≤ l.length
  · rw [Nat.min_eq_left hb]
  · rw [Nat.min_eq_right (by omega), List.take_of_length_le (Nat.le_refl _), List.take_of_length_le (by omega)]
theorem py_opt {o : Option Rl} (h : ∀ r, o = some r → okRl r) : (optD o).isPy = true ∧ (optD o).py.depth ≤ 3 := by
  cases o with
  | none => exact ⟨rfl, Nat.zero_le _⟩
  | some r => exact py_rl (h r rfl)
theorem py_list {ls : List D} {n : Nat} (h : ∀ d ∈ ls, d.isPy = true ∧ d.py.depth ≤ n) : D.isPyL ls = true ∧ PyData.depthAll (D.pyL ls) ≤ n := by
  induction ls with
  | nil => exact ⟨rfl, Nat.zero_le _⟩
  | cons d ls ih =>
    obtain ⟨h1, h2⟩ := ih fun x hx => h x (List.mem_cons_of_mem _ hx)
    obtain ⟨h3, h4⟩ := h d List.mem_cons_self
    refine ⟨?_, ?_⟩
    · show (d.isPy && D.isPyL ls) = true
      rw [h3, h1]; rfl
    · show max d.py.depth (PyData.depthAll (D.pyL ls)) ≤ n
      omega
theorem pyOf_lst {O : Ow} {ls : List D} {n : Nat} (h : ∀ d ∈ ls, d.isPy = true ∧ d.py.depth ≤ n) (hn : n ≤ 63) : PyOf O (.lst ls) (.lst ls) := by
  obtain ⟨h1, h2⟩ := py_list h
  refine ⟨h1, ?_, .inl rfl⟩
  show PyData.depthAll (D.pyL ls) + 1 ≤ 64
  omega
theorem pyOf_strs {O : Ow} {ls : List Str} (h : ∀ x ∈ ls, PyData.strOk x = true) : PyOf O (.lst (ls.map .str)) (.lst (ls.map .str)) := pyOf_lst (n := 0) (fun d hd => by
  obtain ⟨x, hx, rfl⟩ := List.mem_map.mp hd
  exact ⟨h x hx, Nat.le_refl _⟩) (by decide)
def c_read_book {K : PySem.W.Frag} {mg : Str → Option Value} {w : World} (T : Txt K mg w) : Con where
  G := Str
  ds := fun x => [.str x]
  pre := fun x => okS x ∧ x.length ≤ 10000
  post := fun x d O' => readOk x ∧ d = .ins T.a_Book (bookF (tabs x) (rls x)) ∧ O' = []
  exn := fun x C d O' => ¬ readOk x ∧ C = T.a_Unreadable ∧ d = .str x ∧ O' = []
theorem book_sizes {x : Str} (h : okS x) (hl : x.length ≤ 10000) : okSizes (tabs x) (rls x) ∧ (tabs x).length ≤ 10001 ∧ (rls x).length ≤ 10001 := by
  obtain ⟨_, hp⟩ := parts_sum x
  have h1 : (tabs x).length ≤ 10001 := by
    unfold tabs
    rw [List.length_map]
    exact Nat.le_trans (List.length_filter_le _ _) (by omega)
  have h2 : (rls x).length ≤ 10001 := by
    unfold rls rlo
    refine Nat.le_trans (List.length_filterMap_le _ _) ?_
    rw [List.length_map]
    exact Nat.le_trans (List.length_filter_le _ _) (by omega)
  refine ⟨⟨by omega, by omega, fun t ht => ?_, fun r hr => ?_⟩, h1, h2⟩
  · obtain ⟨p, hp, rfl⟩ := List.mem_map.mp ht
    obtain ⟨k1, k2⟩ := parts_okS h (List.mem_filter.mp hp).1
    obtain ⟨a1, a2, a3⟩ := tabOf_ok k1
    exact ⟨a1.2, by omega, fun c hc => (a2 c hc).2⟩
  · obtain ⟨o, ho, e⟩ := List.mem_filterMap.mp hr
    obtain ⟨p, hp, rfl⟩ := List.mem_map.mp ho
    obtain ⟨k1, k2⟩ := parts_okS h (List.mem_filter.mp hp).1
    obtain ⟨a1, a2⟩ := ruleIn_ok k1 e
    exact ⟨a1, by omega⟩
section
variable {P : Program} {w : World} {K : PySem.W.Frag} {mg : Str → Option Value} {base : Heap}
theorem GH_init (T : Txt K mg w) : L2H.FnH P w K mg base (L2.CX P w) 1 T.a_KeyTellError_init T.fd_KeyTellError_init ["self", "value"] (spI K) :=
  fnh_init T.F_KeyTellError_init sc_init fun A outer s H E cdv p => pss_one (ps_ost (pv 0) (pv 1))
/-! ### read_book -/
abbrev s_read_book : Stmt := top 23
abbrev N_read_book : List Str := ["text", "tables", "rules", "part", "pieces", "found", "error", "name", "columns"]
theorem sc_read_book : FnScope N_read_book ["text"] (defScope s_read_book) := ⟨rfl, rfl, rfl, by decide +kernel, rfl, by decide +kernel, by decide +kernel⟩
def t_read_book (K : PySem.W.Frag) {mg : Str → Option Value} {w : World} (T : Txt K mg w) (E : XK) : TS := (tSeq (tPar 1 2 (tCons (tLst tNil) (tCons (tLst tNil) tNil))) (tSeq (tFor (iList K (tIf (tTest (tOp (rNeD K) (tVar 0) (tC (.str "")))) (tM1 rSplit (tVar 0) (tC (.str "; "))) (tLst tNil))) (gName 3) (tSeq (tAsg (tM1 rSplit (tVar 3) (tC (.str " "))) (gName 4)) (tIfS (tTest (tOp (rEqD K) (tOp (rIxU K) (tVar 4) (tC (.int 0))) (tC (.str "table")))) (tDrop (tBM K "list" rAppend (tVar 1) (tCons (tTup (tCons (tM1 (rJoin K) (tC (.str " ")) (tSl (rSlU K) (tVar 4) (tPart (tC (.int 1))) (tPart (tC (.int 2))))) (tCons (tSl (rSlU K) (tVar 4) (tPart (tC (.int 2))) tNoPart) tNil))) tNil))) (tDrop (tBM K "list" rAppend (tVar 2) (tCons (tCl c_rule_in [] (fun cls d _ H => E cls d H) (tCons (tVar 3) tNil)) tNil)))))) (tSeq (tIfS (tOr (tTest (tOp (rInD K) (tC .non) (tVar 2))) (tB (tCB (rAny K) (tCons (tLc (iList K (tVar 1)) (gTup K 2 (gCons (gName 7) (gCons (gName 8) gNil))) tYes (tOp (rEqD K) (tVar 8) (tLst tNil)) [7, 8]) tNil)))) (tRz K T.a_Unreadable (fun cls d _ H => E cls d H) (tCons (tVar 0) tNil)) tNext) (tSeq (tTryTup K [.ref T.a_DoubleName, .ref T.a_InvalidName, .ref T.a_InvalidRule, .ref T.a_UnknownColumn, .ref T.a_UnknownTable] 6 (fun a cls d => tRzF K T.a_Unreadable a 6 cls (fun cls d _ H => E cls d H) (tCons (tVar 0) tNil)) (fun W => tAsg (tMkC T.a_Book (c_Book_init T) W (tCons (tVar 1) (tCons (tVar 2) tNil))) (gName 5))) (tSeq (tIfS (tTest (tOp (rNeD K) (tCl (c_show_book T) [] (fun cls d _ H => E cls d H) (tCons (tVar 5) tNil)) (tVar 0))) (tRz K T.a_Unreadable (fun cls d _ H => E cls d H) (tCons (tVar 0) tNil)) tNext) (tRet (tVar 5)))))))
theorem w_read_book {f : Addr} {cdv : Value} {A : Around} {outer : List PySem.Env} {s : Shared} {H : Hp} {E : XK} (T : Txt K mg w) (hr : Room 6 (A.deeper (envOfC "read_book" (defScope s_read_book) s.heap.objs.size f cdv))) : PSs (cxOf (L2.CX P w) P w K mg base N_read_book "read_book" (defScope s_read_book) f cdv A outer s H E) (defBody s_read_book) (t_read_book K T E) := by
  have sc := sc_read_book
  exact (pss_cons (ps_par (i := 1) (j := 2) (by rfl) sc.nd rfl rfl (by decide) rfl rfl (pa_cons (pe_lst pa_nil) (pa_cons (pe_lst pa_nil) pa_nil)) (by rfl)) (pss_cons (ps_for (passes_of rfl) rfl (pi_list (pe_ifExp (pt_cmpR (op_neD hr.units) (pv 0) pe_str (nomark _)) (pe_split (pv 0) pe_str) (pe_lst pa_nil))) (pg_name (i := 3) sc.nd rfl (Or.inl rfl)) (pss_cons (ps_set (i := 4) sc.nd rfl (Or.inl rfl) (pe_split (pv 3) pe_str)) (pss_one (ps_if (pt_cmpR (op_eqD hr.units) (pe_ix (ix_U (hu_of hr)) (pv 4) pe_int (fun _ _ => rfl)) pe_str (nomark _)) (pss_one (ps_expr (pe_bm PySem.F.plainAttrs_list PySem.F.slot_list_append PySem.F.type_list_append mt_append (pv 1) (pa_cons (pe_tup (pa_cons (pe_join pe_str (pe_slice sl_U (pv 4) (po_some pe_int) (po_some pe_int))) (pa_cons (pe_slice sl_U (pv 4) (po_some pe_int) po_none) pa_nil))) pa_nil)))) (pss_one (ps_expr (pe_bm PySem.F.plainAttrs_list PySem.F.slot_list_append PySem.F.type_list_append mt_append (pv 2) (pa_cons (pe_cl (W := (fun cls d _ H => E cls d H)) (G_rule_in T) (hr.mono (by decide)) (by rfl) T.g_rule_in T.k_rule_in T.b_rule_in .nil (L2.takes_of rfl rfl rfl rfl) (pa_cons (pv 3) pa_nil)) pa_nil)))))))) (pss_cons (ps_if (PW.pt (pw_or (pt_cmpR (op_inD (hu65 hr)) pe_non (pv 2) (by rfl)) (pw_or1 (pt_val (pe_callB (cr_any rfl) (by rfl) T.n_any (by decide +kernel) (pa_cons (pe_lc (own := [("name", 7), ("columns", 8)]) (by rfl) sc.nd (pi_list (pv 1)) (blkOk_by (own := [("name", 7), ("columns", 8)]) (N := N_read_book) (sc := defScope s_read_book) (by decide +kernel)) (fun _ _ _ _ _ => (pg_tup rfl (pgs_cons (pg_name (i := 7) sc.nd rfl (by first | exact Or.inl rfl | exact Or.inr rfl)) (pgs_cons (pg_name (i := 8) sc.nd rfl (by first | exact Or.inl rfl | exact Or.inr rfl)) pgs_nil)))) (fun _ _ _ _ _ => pts_nil) (fun _ _ _ _ _ => (pe_cmpR (op_eqD hr.units) (pv 8) (pe_lst pa_nil) (nomark _)))) pa_nil)))))) (pss_one (ps_raise rfl (L2.takes_of rfl rfl rfl rfl) (pmk_oex T.x_Unreadable T.i_Unreadable T.ti (G_init T) (hr.mono (by decide)) T.b_KeyTellError_init .nil passF (by rfl) T.g_Unreadable (pa_cons (pv 0) pa_nil)))) pss_nil) (pss_cons (ps_try_tupX rfl rfl sc.nd rfl rfl (.cons ⟨by rfl, by decide, .inl T.g_DoubleName⟩ (.cons ⟨by rfl, by decide, .inl T.g_InvalidName⟩ (.cons ⟨by rfl, by decide, .inl T.g_InvalidRule⟩ (.cons ⟨by rfl, by decide, .inl T.g_UnknownColumn⟩ (.cons ⟨by rfl, by decide, .inl T.g_UnknownTable⟩ .nil))))) (fun hd => L2H.passesAt_of rfl hd) (takes_of rfl rfl rfl rfl) (fun W pn xe tkN hpo => pss_one (ps_set (i := 5) sc.nd rfl (Or.inl rfl) (pe_mkN (W := W) T.mk_Book (G_Book_init T) (hr.mono (by decide)) (by rfl) T.g_Book T.b_Book_init tkN (pa_cons (pv 1) (pa_cons (pv 2) pa_nil))))) (fun a oe cls d pn xe hz hf tkS hot => match hf with | ⟨vs, hvs⟩ => pss_one (ps_raiseHF (p := (a, oe)) rfl rfl List.mem_cons_self ⟨rfl, vs, hvs, hz.2.2 vs hvs⟩ hz.1 tkS (L2H.pmk5_oexH T.x_Unreadable T.i_Unreadable T.ti (GH_init T) (L2H.roomH_mark (hr.mono (by decide)) _) hot T.b_KeyTellError_init passF (by rfl) T.g_Unreadable (pa_cons (pv 0) pa_nil))))) (pss_cons (ps_if (pt_cmpR (op_neD hr.units) (pe_cl (W := (fun cls d _ H => E cls d H)) (G_show_book T) (hr.mono (by decide)) (by rfl) T.g_show_book T.k_show_book T.b_show_book .nil (L2.takes_of rfl rfl rfl rfl) (pa_cons (pv 5) pa_nil)) (pv 0) (nomark _)) (pss_one (ps_raise rfl (L2.takes_of rfl rfl rfl rfl) (pmk_oex T.x_Unreadable T.i_Unreadable T.ti (G_init T) (hr.mono (by decide)) T.b_KeyTellError_init .nil passF (by rfl) T.g_Unreadable (pa_cons (pv 0) pa_nil)))) pss_nil) (pss_one (ps_ret (pv 5))))))))

theorem b_read_book (T : Txt K mg w) (x : Str) (B : Bs) (Q : VK) (E : XK) (hp : (c_read_book T).pre x) (rt : RT B Q ((c_read_book T).post x)) (xt : XT B E ((c_read_book T).exn x)) : NX B (t_read_book K T E { nx := fun _ H' => Q .non H', rt := Q }) (startD N_read_book ((c_read_book T).ds x)) [] := by
  obtain ⟨hx, hl⟩ : okS x ∧ x.length ≤ 10000 := hp
  obtain ⟨psum, pcount⟩ := parts_sum x
  obtain ⟨hsz, ht1, hr1⟩ := book_sizes hx hl
  refine nx_seq (nx_par (Φ := fun ds O' => ∃ p q, B.H p = none ∧ B.H q = none ∧ ds = [.adr p, .adr q] ∧ O' = [(q, OO.lst []), (p, OO.lst [])]) (eak_cons (Φ2 := fun d ds O' => ∀ p, d = .adr p → ∃ q, B.H q = none ∧ ds = [.adr q] ∧ O' = [(q, OO.lst []), (p, OO.lst [])]) (evo_lst ea_nil (sz rfl)) ?_ ?_) ?_)
  · rintro d O1 ⟨p, hB, rfl, rfl⟩
    refine eak_cons (Φ2 := fun d2 ds O' => ds = [] ∧ ∃ q, B.H q = none ∧ d2 = .adr q ∧ O' = [(q, OO.lst []), (p, OO.lst [])]) (evo_lst ea_nil (sz rfl)) (fun d2 O2 ⟨q, hB2, e1, e2⟩ => ?_) ?_
    · subst e1 e2
      exact fun F σ H s e Q q' => ea_nil F σ H s e Q fun vs ds O' F' H' s' f r ⟨e1, e2⟩ => q' vs ds O' F' H' s' f r ⟨e1, q, hB2, rfl, e2⟩
    · rintro d2 ds O2 O3 _ ⟨rfl, q, hB2, rfl, rfl⟩ p' e
      cases e
      exact ⟨q, hB2, rfl, rfl⟩
  · rintro d ds O1 O2 ⟨p, hB, rfl, rfl⟩ h
    obtain ⟨q, hB2, rfl, rfl⟩ := h p rfl
    exact ⟨p, q, hB, hB2, rfl, rfl⟩
  · rintro ds O' ⟨p, q, hB, hB2, rfl, rfl⟩
    refine ⟨_, _, rfl, ?_⟩
    have iter : ∀ {Γ : List (Option D)} {O : Ow}, Γ[0]? = some (some (.str x)) → EvP B (tIf (tTest (tOp (rNeD K) (tVar 0) (tC (.str "")))) (tM1 rSplit (tVar 0) (tC (.str "; "))) (tLst tNil)) Γ O (.lst ((parts x).map .str)) := by
      intro Γ O h
      refine ev_if (b := decide (x ≠ "")) (et_test (ev_op (ev_var h) ev_cstr (o2_neS hx.1 (by decide +kernel)))) (fun hb => ?_) fun hb => ?_
      · have hb : x ≠ "" := of_decide_eq_true hb
        refine (ev_split (ev_var h) ev_cstr (sep_ne sep2) (big_of (by omega))).is ?_
        unfold parts; rw [if_neg hb]
      · have hb : x = "" := Classical.not_not.mp (of_decide_eq_false hb)
        refine (ev_lst ea_nil (sz rfl)).is ?_
        unfold parts; rw [if_pos hb]; rfl
    refine nx_seq (nx_for (K := K) (ei_list (l := (parts x).map .str) (iter rfl) (.inl rfl))
      (fun i Γ O => (∃ a b, Γ = [some (.str x), some (.adr p), some (.adr q), a, b, none, none, none, none]) ∧ O = [(q, OO.lst ((((parts x).take i).filter fun p => !isT p).map fun p => optD (ruleIn p))), (p, OO.lst ((((parts x).take i).filter isT).map fun p => tabD .lst (tabOf p)))]) ⟨⟨_, _, rfl⟩, by simp⟩ ?_ ?_)
    · rintro B' i Γ1 O1 up hH lt ⟨⟨a, b, rfl⟩, rfl⟩
      obtain ⟨c, hc, ey, hm, et⟩ := str_at (ls := parts x) (by simpa using lt)
      obtain ⟨co, cl⟩ := parts_okS hx hm
      have lens : ∀ f : Str → Bool, (((parts x).take i).filter f).length ≤ 10001 := fun f => Nat.le_trans (List.length_filter_le _ _) (by rw [List.length_take]; omega)
      refine ⟨_, by rw [ey]; exact gt_name, fun N hN => nx_seq (nx_asgP (d := .lst ((pcs c).map .str)) (ev_split (ev_var rfl) ev_cstr (sep_ne sep1) (big_of (by omega))) ?_)⟩
      obtain ⟨k, l, e⟩ : ∃ k l, pcs c = k :: l := by
        cases e : pcs c with
        | nil => exact absurd e (split_ne sep1)
        | cons k l => exact ⟨k, l, rfl⟩
      have hk : PyData.strOk k = true := (pcs_okS co (by rw [e]; exact List.mem_cons_self)).1
      have hT : isT c = decide (k = "table") := by
        unfold isT
        rw [e]
        simp
      have i0 : EvP B' (tOp (rIxU K) (tVar 4) (tC (.int 0))) [some (.str x), some (.adr p), some (.adr q), some (.str c), some (.lst ((pcs c).map .str)), none, none, none, none] [(q, OO.lst ((((parts x).take i).filter fun p => !isT p).map fun p => optD (ruleIn p))), (p, OO.lst ((((parts x).take i).filter isT).map fun p => tabD .lst (tabOf p)))] (.str k) :=
        ev_op (ev_var rfl) ev_cint (o2_ixS (l := (pcs c).map .str) (.inl (.inl rfl)) (by rw [e]; exact atI_nat (j := 0) rfl))
      refine nx_ifP (b := isT c) ((et_test (ev_op i0 ev_cstr (o2_eqS hk (by decide +kernel)))).is hT.symm) (fun hb => ?_) fun hb => ?_
      · obtain ⟨a1, a2, a3⟩ := tabOf_ok co
        refine nx_drop (Φ := fun d O' => O' = [(q, OO.lst ((((parts x).take (i + 1)).filter fun p => !isT p).map fun p => optD (ruleIn p))), (p, OO.lst ((((parts x).take (i + 1)).filter isT).map fun p => tabD .lst (tabOf p)))]) (evk_append (ev_var rfl) ⟨1, _, rfl⟩ (ev_tup (ea_cons (ev_join (a := " ") (ys := ((pcs c).drop 1).take 1) ev_cstr (ev_slL (ev_var rfl) (eo_some ev_cint) (eo_some ev_cint) (l := (pcs c).map .str) (.inl rfl)) ?_ ?_) (ea_cons (ev_slL (ev_var rfl) (eo_some ev_cint) eo_none (l := (pcs c).map .str) (.inl rfl)) ea_nil)) (sz rfl)) fun d O' ⟨e1, e2⟩ => ?_) fun d O' e => hN _ _ ⟨⟨_, _, rfl⟩, e⟩
        · refine .inl (.inl ?_)
          congr 1
          refine (cut_nat (a := 1) (b := 2) (by decide)).trans ?_
          rw [← List.map_drop, ← List.map_take]
        · rw [one_len]
          have h1 : (((pcs c).drop 1).take 1).length ≤ 1 := by rw [List.length_take]; omega
          cases e3 : ((pcs c).drop 1).take 1 with
          | nil => exact Nat.zero_le _
          | cons z zs =>
            rw [e3] at h1
            have : zs = [] := by cases zs with | nil => rfl | cons => simp at h1
            subst this
            have hz : z ∈ pcs c := List.mem_of_mem_drop (i := 1) (List.mem_of_mem_take (i := 1) (by rw [e3]; exact List.mem_cons_self))
            have := (pcs_okS co hz).2
            simp
            omega
        · subst e1 e2
          refine ⟨1, _, rfl, ?_, ?_⟩
          · rw [List.length_map]; exact Nat.lt_of_le_of_lt (lens _) (by rw [sizeLine_eq]; decide)
          · rw [et, List.filter_append, List.filter_append]
            have f1 : ([c].filter fun p => !isT p) = [] := by simp [hb]
            have f2 : [c].filter isT = [c] := by simp [hb]
            rw [f1, f2, List.append_nil, List.map_append]
            show [_, (p, OO.lst (_ ++ [D.tup [.str (Txt.join " " (((pcs c).drop 1).take 1)), .lst (cutD ((pcs c).map .str) (some ((2 : Nat) : Int)) none)]]))] = _
            rw [cut_from, ← List.map_drop]
            rfl
      · refine nx_drop (Φ := fun d O' => O' = [(q, OO.lst ((((parts x).take (i + 1)).filter fun p => !isT p).map fun p => optD (ruleIn p))), (p, OO.lst ((((parts x).take (i + 1)).filter isT).map fun p => tabD .lst (tabOf p)))]) (evk_append (ev_var rfl) ⟨0, _, rfl⟩ (evp_cl (c := c_rule_in) (d := optD (ruleIn c)) c (ea_cons (ev_var rfl) ea_nil) rfl rfl co (fun _ _ z => z) fun _ _ _ z => z) fun d O' ⟨e1, e2⟩ => ?_) fun d O' e => hN _ _ ⟨⟨_, _, rfl⟩, e⟩
        subst e1 e2
        refine ⟨0, _, rfl, ?_, ?_⟩
        · rw [List.length_map]; exact Nat.lt_of_le_of_lt (lens _) (by rw [sizeLine_eq]; decide)
        · rw [et, List.filter_append, List.filter_append]
          have f1 : ([c].filter fun p => !isT p) = [c] := by simp [hb]
          have f2 : [c].filter isT = [] := by simp [hb]
          rw [f1, f2, List.append_nil, List.map_append]
          rfl
    · rintro Γ1 O1 ⟨⟨a, b, rfl⟩, rfl⟩
      rw [List.length_map, List.take_length]
      have eT : ((parts x).filter isT).map (fun p => tabD .lst (tabOf p)) = (tabs x).map (tabD .lst) := by unfold tabs; rw [List.map_map]; rfl
      have eR : ((parts x).filter fun p => !isT p).map (fun p => optD (ruleIn p)) = (rlo x).map optD := by unfold rlo; rw [List.map_map]; rfl
      rw [eT, eR]
      refine nx_freeze 1 1 rfl rfl hB (nx_freeze 2 0 rfl rfl hB2 ?_)
      have rOk : ∀ o ∈ rlo x, ∀ r, o = some r → okRl r := fun o ho r e => by
        obtain ⟨p', hp', rfl⟩ := List.mem_map.mp ho
        exact (ruleIn_ok (parts_okS hx (List.mem_filter.mp hp').1).1 e).1
      have e1 : ∀ b : Bool, (b = true ↔ none ∈ rlo x) → (b = true ↔ D.non ∈ (rlo x).map optD) := fun b h => by
        rw [h]
        refine ⟨fun z => List.mem_map.mpr ⟨none, z, rfl⟩, fun z => ?_⟩
        obtain ⟨o, ho, e⟩ := List.mem_map.mp z
        cases o with
        | none => exact ho
        | some r => cases e
      refine nx_seq (nx_ifP (b := (rlo x).any Option.isNone || ((tabs x).map fun t => decide (t.2 = [])).any id) (et_or (et_test (ev_op ev_cnon (ev_var rfl) (o2_inDt pyOf_non (pyOf_lst (n := 3) (fun d hd => ?_) (by decide)) (e1 _ any_none)))) fun _ => et_B (ev_cb (ea_cons ((ev_lcL (K := K) (l := (tabs x).map (tabD .lst)) (b := fun _ => true) (f := fun d => .bl (decide ((unTab d).2 = []))) (ev_var rfl) (.inl rfl) (gin_tup (gsin_name (by simp) (gsin_name (by simp) gsin_nil))) ?_ ?_).is ?_) ea_nil) on_any)) (fun hb => ?_) fun hb => ?_)
      · obtain ⟨o, ho, rfl⟩ := List.mem_map.mp hd
        exact py_opt (rOk o ho)
      · rw [List.length_map]; exact big_of (by omega)
      · rintro B' d hd
        obtain ⟨t, ht, rfl⟩ := List.mem_map.mp hd
        refine ⟨_, gt_tup (gs_cons gt_name (gs_cons gt_name gs_nil)) rfl, et_yes, fun _ => ?_⟩
        rw [unTab_tabD]
        obtain ⟨p', hp', rfl⟩ := List.mem_map.mp ht
        refine ev_op (ev_var rfl) (ev_lst ea_nil (sz rfl)) (o2_eq (pyOf_strs fun y hy => ((tabOf_ok (parts_okS hx (List.mem_filter.mp hp').1).1).2.1 y hy).1) (pyOf_strs (ls := []) fun _ z => by cases z) ?_)
        rw [decide_eq_true_iff]
        constructor
        · intro z; rw [z]
        · intro z
          cases e : (tabOf p').2 with
          | nil => rfl
          | cons => rw [e] at z; cases z
      · rw [List.filter_eq_self.mpr (fun _ _ => rfl), List.map_map, List.map_map]
        congr 1
        refine List.map_congr_left fun t _ => ?_
        show D.bl (decide ((unTab (tabD .lst t)).2 = [])) = _
        rw [unTab_tabD]; rfl
      · refine nx_raiseP T.x_Unreadable T.v_Unreadable (ev_var rfl) (XW.of xt) ⟨fun z => ?_, rfl, rfl, rfl⟩
        rcases Bool.or_eq_true_iff.mp hb with h | h
        · exact z.1 (any_none.mp h)
        · obtain ⟨v, hv, hv2⟩ := List.any_eq_true.mp h
          obtain ⟨t, ht, rfl⟩ := List.mem_map.mp hv
          exact z.2.1 t ht (of_decide_eq_true hv2)
      · obtain ⟨hb1, hb2⟩ := Bool.or_eq_false_iff.mp hb
        have n1 : none ∉ rlo x := fun z => by rw [any_none.mpr z] at hb1; cases hb1
        have n2 : ∀ t ∈ tabs x, t.2 ≠ [] := fun t ht z => by
          have := List.any_eq_false.mp hb2 _ (List.mem_map.mpr ⟨t, ht, rfl⟩)
          exact this (decide_eq_true z)
        have eR2 : (rlo x).map optD = (rls x).map (rlD .lst) := by
          rw [rlo_some n1, List.map_map]; rfl
        rw [eR2]
        refine nx_next ?_
        dsimp only
        refine nx_seq (nx_tryTup (Ξ := fun C d O' => ¬ readOk x ∧ C ∈ [T.a_DoubleName, T.a_InvalidName, T.a_InvalidRule, T.a_UnknownColumn, T.a_UnknownTable] ∧ True) (fun xw => ?_) fun C d O' dd ad ⟨h1, h2, _⟩ => ?_)
        · refine nx_asg (Φ := fun d O' => okBook (tabs x) (rls x) ∧ d = .ins T.a_Book (bookF (tabs x) (rls x)) ∧ O' = []) (evk_mk (ea_cons (ev_var (d := .lst ((tabs x).map (tabD .lst))) rfl) (ea_cons (ev_var (d := .lst ((rls x).map (rlD .lst))) rfl) ea_nil)) fun ds O1 ⟨e1, e2⟩ y hy => ?_) fun d O' ⟨w1, w2, w3⟩ => ?_
          · subst e1 e2
            refine ⟨(y, tabs x, rls x), bookF (tabs x) (rls x), rfl, rfl, hsz, fun d O' ⟨w1, w2, w3⟩ => ⟨w2, w3, w1, rfl, rfl⟩, ?_⟩
            intro F σ H C dd v d O' s e r1 r2 ⟨O2, ⟨w1, w2⟩, _⟩
            exact xw F σ H C dd v d O' s e r1 r2 ⟨fun z => w1 z.2.2.1, w2, trivial⟩
          · subst w2 w3
            have hsum := showParts_sum n1 n2
            refine nx_seq (nx_ifP (b := decide (showBook (tabs x) (rls x) ≠ x)) (et_test (ev_op (x := .str (showBook (tabs x) (rls x))) (evp_cl (c := c_show_book T) (tabs x, rls x) (ea_cons (ev_var rfl) ea_nil) rfl rfl ⟨Nat.le_trans ht1 (by decide), Nat.le_trans hr1 (by decide), Nat.le_trans hsum (by omega)⟩ (fun _ _ z => z) fun _ _ _ z => z) (ev_var rfl) (o2_neS ?_ hx.1))) (fun hb => ?_) fun hb => ?_)
            · unfold showBook
              rw [strOk_iff]
              intro c hc
              rw [join_eq, tl_join] at hc
              have : ∀ ps : List (List Nat), (∀ p ∈ ps, ∀ c ∈ p, c < 0x110000) → ∀ c ∈ joinL (tl "; ") ps, c < 0x110000 := by
                intro ps
                induction ps with
                | nil => intro _ c hc; cases hc
                | cons a ps ih =>
                  intro h c hc
                  cases ps with
                  | nil => exact h a List.mem_cons_self c hc
                  | cons b ps =>
                    rw [joinL_cons (by simp)] at hc
                    rcases List.mem_append.mp hc with hc | hc
                    · exact h a List.mem_cons_self c hc
                    · rcases List.mem_append.mp hc with hc | hc
                      · have : ∀ c ∈ tl "; ", c < 0x110000 := by decide +kernel
                        exact this c hc
                      · exact ih (fun p hp => h p (List.mem_cons_of_mem _ hp)) c hc
              refine this _ (fun p hp c hc => ?_) c hc
              obtain ⟨s, hs, rfl⟩ := List.mem_map.mp hp
              unfold showParts at hs
              rw [map_showTab n2, map_showRule n1] at hs
              have : s ∈ parts x := by
                rcases List.mem_append.mp hs with hs | hs <;> exact (List.mem_filter.mp hs).1
              exact strOk_iff.mp (parts_okS hx this).1.1 c hc
            · refine nx_raiseP T.x_Unreadable T.v_Unreadable (ev_var rfl) (XW.of xt) ⟨fun z => of_decide_eq_true hb z.2.2.2, rfl, rfl, rfl⟩
            · exact nx_retP rt (ev_var rfl) ⟨⟨n1, n2, w1, Classical.not_not.mp (of_decide_eq_false hb)⟩, rfl, rfl⟩
        · refine ⟨T.any5 C h2, ?_⟩
          have sub : PySem.W.subIn K (.ref C) (.type "BaseException") = some true := by
            rcases List.mem_cons.mp h2 with rfl | h2
            · exact T.x_DoubleName.exC
            rcases List.mem_cons.mp h2 with rfl | h2
            · exact T.x_InvalidName.exC
            rcases List.mem_cons.mp h2 with rfl | h2
            · exact T.x_InvalidRule.exC
            rcases List.mem_cons.mp h2 with rfl | h2
            · exact T.x_UnknownColumn.exC
            rcases List.mem_cons.mp h2 with rfl | h2
            · exact T.x_UnknownTable.exC
            · cases h2
          rw [← List.append_nil O']
          exact nx_drop1 (nx_raiseF sub T.x_Unreadable T.v_Unreadable rfl (ev_var rfl) (XW.of xt) ⟨h1, rfl, rfl, rfl⟩)
theorem G_read_book (T : Txt K mg w) : FnOk P w K mg base (L2.CX P w) 7 T.a_read_book T.fd_read_book ["text"] (c_read_book T).sp :=
  T.F_read_book.ok sc_read_book (Con.len fun _ => rfl) fun cdv A outer s H vs Q E hr h => ⟨t_read_book K T E, w_read_book T hr, body_ok (t := t_read_book K T) (fun g B Q E hp rt xt _ => b_read_book T g B Q E hp rt xt) h⟩
end
end Kt
namespace Kt
open PySem PySem.Spec PyProof.Rows L2 StX TL
def c__law_caught_book {K : PySem.W.Frag} {mg : Str → Option Value} {w : World} (T : Txt K mg w) : Con where
  G := Str × Int
  ds := fun g => [.str g.1, .int g.2]
  pre := fun g => okS g.1 ∧ g.1.length ≤ 10000
  post := fun g d O' => ∃ b : Bool, (b = true ↔ readOk g.1) ∧ d = .lst (if b then [.str g.1] else []) ∧ O' = []
section
variable {P : Program} {w : World} {K : PySem.W.Frag} {mg : Str → Option Value} {base : Heap}
/-! ### _law_caught_book -/
abbrev s__law_caught_book : Stmt := top 35
abbrev N__law_caught_book : List Str := ["wording", "way", "found", "e", "odd"]
theorem sc__law_caught_book : FnScope N__law_caught_book ["wording", "way"] (defScope s__law_caught_book) := ⟨rfl, rfl, rfl, by decide +kernel, rfl, by decide +kernel, by decide +kernel⟩
def t__law_caught_book (K : PySem.W.Frag) {mg : Str → Option Value} {w : World} (T : Txt K mg w) : TS := (tSeq (tAsg (tLst tNil) (gName 2)) (tSeq (tTryAs K (.ref T.a_KeyTellError) 3 (fun a cls d => (tSeq (tAsg (tCB (rIsC K T.a_Unreadable a cls d) (tCons (tVar 3) (tCons (tTup (tCons (tC (.ref T.a_DoubleName)) (tCons (tC (.ref T.a_InvalidName)) (tCons (tC (.ref T.a_InvalidRule)) (tCons (tC (.ref T.a_UnknownColumn)) (tCons (tC (.ref T.a_UnknownTable)) tNil)))))) tNil))) (gName 4)) (tSeq (tAsg (tOrV (tVar 4) (tNotV (tCB (rIsC K T.a_Unreadable a cls d) (tCons (tVar 3) (tCons (tC (.ref T.a_Unreadable)) tNil))))) (gName 4)) (tAsg (tIf (tOr (tB (tVar 4)) (tTest (tOp (rNeD K) (tXf a cls d T.a_Unreadable "value" (tVar 3)) (tVar 0)))) (tLst (tCons (tC (.str "odd")) tNil)) (tLst tNil)) (gName 2))))) W0 (fun W => (tAsg (tLst (tCons (tCl (c_show_book T) [] W (tCons (tIf (tTest (tOp (rEqD K) (tVar 1) (tC (.int 0)))) (tCl (c_read_book T) [] W (tCons (tVar 0) tNil)) (tCl (c_read_book T) [] W (tCons (tVar 0) tNil))) tNil)) tNil)) (gName 2)))) (tRet (tVar 2))))
theorem w__law_caught_book {f : Addr} {cdv : Value} {A : Around} {outer : List PySem.Env} {s : Shared} {H : Hp} {E : XK} (T : Txt K mg w) (hr : Room 7 (A.deeper (envOfC "_law_caught_book" (defScope s__law_caught_book) s.heap.objs.size f cdv))) : PSs (cxOf (L2.CX P w) P w K mg base N__law_caught_book "_law_caught_book" (defScope s__law_caught_book) f cdv A outer s H E) (defBody s__law_caught_book) (t__law_caught_book K T) := by
  have sc := sc__law_caught_book
  exact PSs.nox ((pss_cons (ps_set (i := 2) sc.nd rfl (Or.inl rfl) (pe_lst pa_nil)) (pss_cons (L2.ps_try_as rfl rfl sc.nd rfl rfl ⟨by rfl, by decide, .inl T.g_KeyTellError⟩ takes0 (fun W pn xe tkW hpo => (pss_one (ps_set (i := 2) sc.nd rfl (Or.inl rfl) (pe_lst (pa_cons (pe_cl (W := W) (G_show_book T) (hr.mono (by decide)) (by rfl) T.g_show_book T.k_show_book T.b_show_book .nil tkW (pa_cons (pe_ifExp (pt_cmpR (op_eqD hr.units) (pv 1) pe_int (nomark _)) (pe_cl (W := W) (G_read_book T) (hr.mono (by decide)) (by rfl) T.g_read_book T.k_read_book T.b_read_book .nil tkW (pa_cons (pv 0) pa_nil)) (pe_clK1 (W := W) (G_read_book T) (hr.mono (by decide)) (by rfl) T.g_read_book T.k_read_book (bindK1_of T.F_read_book fun _ _ _ _ _ _ u => rfl) tkW (pv 0))) pa_nil)) pa_nil))))) (fun a oe cls d pn hz hf => (pss_cons (ps_set (i := 4) sc.nd rfl (Or.inl rfl) (pe_callB (call_isC T.ec_U hz hf) (by rfl) T.n_isinstance (by decide +kernel) (pa_cons (pv 3) (pa_cons (pe_tup (pa_cons (pe_glob (by rfl) T.g_DoubleName rfl) (pa_cons (pe_glob (by rfl) T.g_InvalidName rfl) (pa_cons (pe_glob (by rfl) T.g_InvalidRule rfl) (pa_cons (pe_glob (by rfl) T.g_UnknownColumn rfl) (pa_cons (pe_glob (by rfl) T.g_UnknownTable rfl) pa_nil)))))) pa_nil)))) (pss_cons (ps_set (i := 4) sc.nd rfl (Or.inl rfl) (pe_or (pv 4) (pe_one (pe_not (pe_callB (call_isC T.ec_U hz hf) (by rfl) T.n_isinstance (by decide +kernel) (pa_cons (pv 3) (pa_cons (pe_glob (by rfl) T.g_Unreadable rfl) pa_nil))))))) (pss_one (ps_set (i := 2) sc.nd rfl (Or.inl rfl) (pe_ifExp (PW.pt (pw_or (pt_val (pv 4)) (pw_or1 (pt_cmpR (op_neD hr.units) (pe_xf T.xf_U T.v_Unreadable hz hf (pv 3) rfl) (pv 0) (nomark _))))) (pe_lst (pa_cons pe_str pa_nil)) (pe_lst pa_nil)))))))) (pss_one (ps_ret (pv 2))))))

theorem kit_five (T : Txt K mg w) : PySem.W.kitAny K (.ref T.a_Unreadable) ([T.a_DoubleName, T.a_InvalidName, T.a_InvalidRule, T.a_UnknownColumn, T.a_UnknownTable].map Value.ref) = some false := by
  have k := T.ki_U
  exact kitAny_cons (k _ (by simp)) (fun _ => kitAny_cons (k _ (by simp)) (fun _ => kitAny_cons (k _ (by simp)) (fun _ => kitAny_cons (k _ (by simp)) (fun _ => kitAny_cons (k _ (by simp)) (fun _ => kitAny_nil) (fun z => by cases z)) (fun z => by cases z)) (fun z => by cases z)) (fun z => by cases z)) (fun z => by cases z)
theorem b__law_caught_book (T : Txt K mg w) (g : (c__law_caught_book T).G) (B : Bs) (Q : VK) (hp : (c__law_caught_book T).pre g) (rt : RT B Q ((c__law_caught_book T).post g)) : NX B (t__law_caught_book K T { nx := fun _ H' => Q .non H', rt := Q }) (startD N__law_caught_book ((c__law_caught_book T).ds g)) [] := by
  obtain ⟨x, i⟩ := g
  obtain ⟨hx, hl⟩ : okS x ∧ x.length ≤ 10000 := hp
  obtain ⟨hsz, ht1, hr1⟩ := book_sizes hx hl
  refine nx_seq (nx_asgP (ev_lst ea_nil (sz rfl)) ?_)
  dsimp only
  refine nx_seq (nx_tryAs (Ξ := fun C d O' => ¬ readOk x ∧ C = T.a_Unreadable ∧ d = .str x ∧ O' = []) (fun xw => ?_) fun C d O' dd a v ⟨h1, h2, h3, h4⟩ => ?_)
  · have rd : ∀ {Wv : WX} {Γ : List (Option D)}, Γ = [some (.str x), some (.int i), some (.lst []), none, none] → XW B Wv Γ (fun C d O' => ¬ readOk x ∧ C = T.a_Unreadable ∧ d = .str x ∧ O' = []) → EvK B (tCl (c_read_book T) [] Wv (tCons (tVar 0) tNil)) Γ [] fun d O' => readOk x ∧ d = .ins T.a_Book (bookF (tabs x) (rls x)) ∧ O' = [] := by
      intro Wv Γ e xw
      subst e
      exact evk_cl (c := c_read_book T) (dds := []) (ea_cons (ev_var (d := .str x) rfl) ea_nil) (fun _ => .nil) fun ds O1 ⟨e1, e2⟩ => by
        subst e1 e2
        exact ⟨x, [], rfl, .refl _, ⟨hx, hl⟩, fun d O' z => ⟨z.1, z.2.1, by rw [z.2.2]; rfl⟩, fun F σ H C dd v d O' s e r1 r2 ⟨O2, z, eO⟩ => xw F σ H C dd v d O' s e r1 r2 ⟨z.1, z.2.1, z.2.2.1, by rw [eO, z.2.2.2]; rfl⟩⟩
    refine nx_asg (Φ := fun d O' => readOk x ∧ d = .lst [.str x] ∧ O' = []) (evk_lst (Φ := fun ds O' => readOk x ∧ ds = [.str x] ∧ O' = []) (eak_cons (Φ2 := fun d ds O' => ds = [] ∧ readOk x ∧ d = .str x ∧ O' = []) (evk_cl (c := c_show_book T) (dds := []) (Φ := fun ds O' => readOk x ∧ ds = [.ins T.a_Book (bookF (tabs x) (rls x))] ∧ O' = []) (Ψ := fun d O' => readOk x ∧ d = .str x ∧ O' = [])
      (eak_cons (Φ2 := fun d ds O' => ds = [] ∧ readOk x ∧ d = .ins T.a_Book (bookF (tabs x) (rls x)) ∧ O' = []) (evk_if (Φ := fun _ O' => O' = []) ((et_test (ev_op (ev_var rfl) ev_cint o2_eqI)).imp fun _ _ z => z.2) (fun O' e => by subst e; exact rd rfl xw) fun O' e => by subst e; exact rd rfl xw) (fun d O1 z => ?_) (fun d ds O1 O2 _ z => ⟨z.2.1, by rw [z.1, z.2.2.1], z.2.2.2⟩)) (fun _ => .nil) fun ds O1 z => ?_) (fun d O1 z => ?_) fun d ds O1 O2 _ z => ⟨z.2.1, by rw [z.1, z.2.2.1], z.2.2.2⟩) fun ds O' z => ?_) fun d O' z => ?_
    · exact fun F σ H s e Q q => ea_nil F σ H s e Q fun vs ds O' F' H' s' f r ⟨e1, e2⟩ => q vs ds O' F' H' s' f r ⟨e1, z.1, z.2.1, by rw [e2, z.2.2]⟩
    · obtain ⟨ok, e1, e2⟩ := z
      subst e1 e2
      exact ⟨(tabs x, rls x), [], rfl, .refl _, ⟨Nat.le_trans ht1 (by decide), Nat.le_trans hr1 (by decide), Nat.le_trans (showParts_sum ok.1 ok.2.1) (by omega)⟩, fun d O' z => ⟨ok, by rw [z.1, ok.2.2.2], by rw [z.2]; rfl⟩, fun F σ H C dd v d O' s e r1 r2 ⟨O2, z, _⟩ => z.elim⟩
    · exact fun F σ H s e Q q => ea_nil F σ H s e Q fun vs ds O' F' H' s' f r ⟨e1, e2⟩ => q vs ds O' F' H' s' f r ⟨e1, z.1, z.2.1, by rw [e2, z.2.2]⟩
    · exact ⟨by rw [z.2.1]; exact sz rfl, z.1, by rw [z.2.1], z.2.2⟩
    · obtain ⟨ok, e1, e2⟩ := z
      subst e1 e2
      exact nx_retP rt (ev_var rfl) ⟨true, ⟨fun _ => ok, fun _ => rfl⟩, rfl, rfl⟩
  · subst h2 h3 h4
    refine ⟨T.one_U, fun F H σ s e hF hR => ?_⟩
    have st := st_here s
    have rt2 := (up_here s).rt rt
    refine (?_ : NX (here [] F H) _ _ []) F σ H st e
    have hF : (here [] F H).F dd = some (.xd [("value", v)]) := hF
    have hR : Rep (here [] F H).F v (.str x) := hR
    refine nx_seq (nx_asgP (d := .bl false) (ev_cb (ea_cons (ev_var rfl) (ea_cons (ev_tup (ds := [T.a_DoubleName, T.a_InvalidName, T.a_InvalidRule, T.a_UnknownColumn, T.a_UnknownTable].map .adr) (ea_cons ev_cref (ea_cons ev_cref (ea_cons ev_cref (ea_cons ev_cref (ea_cons ev_cref ea_nil))))) (sz rfl)) ea_nil)) (on_isCT hF (kit_five T))) ?_)
    refine nx_seq (nx_asgP (ev_orV (a := false) (b := false) (ev_var rfl) fun _ => ev_notV (a := true) (ev_cb (ea_cons (ev_var rfl) (ea_cons ev_cref ea_nil)) (on_isC hF T.ki_UU))) ?_)
    refine nx_asgP (d := .lst []) (ev_if (b := false || decide (x ≠ x)) (et_or (et_B (ev_var rfl)) fun _ => et_test (ev_op (ev_xf hF rfl hR (ev_var rfl)) (ev_var rfl) (o2_neS hx.1 hx.1))) (fun z => ?_) fun _ => ev_lst ea_nil (sz rfl)) ?_
    · simp at z
    · dsimp only
      refine nx_unset (X := tRet (tVar 2) { nx := fun x H' => Q V.non H', rt := Q }) (i := 3) ?_
      exact nx_retP rt2 (ev_var rfl) ⟨false, ⟨fun z => (by cases z), fun z => absurd z h1⟩, rfl, rfl⟩
theorem G__law_caught_book (T : Txt K mg w) : FnOk P w K mg base (L2.CX P w) 8 T.a__law_caught_book T.fd__law_caught_book ["wording", "way"] (c__law_caught_book T).sp :=
  T.F__law_caught_book.ok sc__law_caught_book (Con.len fun _ => rfl) fun cdv A outer s H vs Q E hr h => ⟨t__law_caught_book K T, w__law_caught_book T hr, body_ok (t := fun _ => t__law_caught_book K T) (fun g B Q E hp rt _ _ => b__law_caught_book T g B Q hp rt) h⟩
end
end Kt
namespace Kt
open PySem PySem.Spec PyProof.Rows L2 StX TL
/-! texts with a bound -/
def tx (L : Nat) (x : Str) : Prop := PyData.strOk x = true ∧ x.length ≤ L
theorem tx.le {a b : Nat} {x : Str} (h : tx a x) (l : a ≤ b) : tx b x := ⟨h.1, Nat.le_trans h.2 l⟩
theorem len_cat (x y : Str) : (x ++ y).length = x.length + y.length := by rw [len_tl, len_tl, len_tl, tl_append, List.length_append]
theorem tx_cat {a b : Nat} {x y : Str} (h : tx a x) (k : tx b y) : tx (a + b) (x ++ y) := by
  refine ⟨strOk_iff.mpr fun c hc => ?_, by rw [len_cat]; exact Nat.add_le_add h.2 k.2⟩
  rw [tl_append] at hc
  rcases List.mem_append.mp hc with hc | hc
  · exact strOk_iff.mp h.1 c hc
  · exact strOk_iff.mp k.1 c hc
theorem tx_cut {a : Nat} {z : Str} {lo hi : Option Int} (h : tx a z) : tx a (cutS z lo hi) := by
  refine ⟨strOk_iff.mpr fun c hc => strOk_iff.mp h.1 c ?_, ?_⟩
  · unfold cutS tl at hc
    simp at hc
    exact List.mem_of_mem_drop (List.mem_of_mem_take hc)
  · have : (cutS z lo hi).length ≤ z.length := by
      unfold cutS
      rw [len_tl, len_tl]
      simp [tl]
      have h1 := List.length_take_le (HT.sIx z.length z.length hi - HT.sIx z.length 0 lo) (z.cps.toList.drop (HT.sIx z.length 0 lo))
      have h2 : (z.cps.toList.drop (HT.sIx z.length 0 lo)).length ≤ z.cps.toList.length := by rw [List.length_drop]; omega
      simp at h2
      omega
    exact Nat.le_trans this h.2
theorem tx_sign {c : Nat} (h : c < 0x110000) : tx 1 ⟨#[c]⟩ := ⟨strOk_iff.mpr fun d hd => by
  have : d = c := by simpa [tl] using hd
  rw [this]; exact h, Nat.le_refl _⟩
theorem join_strOk {y : Str} {ps : List Str} (hy : PyData.strOk y = true) (h : ∀ p ∈ ps, PyData.strOk p = true) : PyData.strOk (Txt.join y ps) = true := by
  rw [strOk_iff]
  intro c hc
  rw [join_eq, tl_join] at hc
  have key : ∀ ls : List (List Nat), (∀ p ∈ ls, ∀ c ∈ p, c < 0x110000) → ∀ c ∈ joinL (tl y) ls, c < 0x110000 := by
    intro ls
    induction ls with
    | nil => intro _ c hc; cases hc
    | cons a ls ih =>
      intro h c hc
      cases ls with
      | nil => exact h a List.mem_cons_self c hc
      | cons b ls =>
        rw [joinL_cons (by simp)] at hc
        rcases List.mem_append.mp hc with hc | hc
        · exact h a List.mem_cons_self c hc
        · rcases List.mem_append.mp hc with hc | hc
          · exact strOk_iff.mp hy c hc
          · exact ih (fun p hp => h p (List.mem_cons_of_mem _ hp)) c hc
  refine key _ (fun p hp c hc => ?_) c hc
  obtain ⟨s, hs, rfl⟩ := List.mem_map.mp hp
  exact strOk_iff.mp (h s hs) c hc
theorem sum_le {L : Nat} : ∀ {ps : List Str}, (∀ p ∈ ps, p.length ≤ L) → (ps.map (·.length)).sum ≤ ps.length * L
  | [], _ => by simp
  | p :: ps, h => by
    rw [List.map_cons, List.sum_cons, List.length_cons, Nat.succ_mul]
    have := sum_le fun q hq => h q (List.mem_cons_of_mem _ hq)
    have := h p List.mem_cons_self
    omega
theorem tx_join {y : Str} {ps : List Str} {L m n : Nat} (hy : tx m y) (h : ∀ p ∈ ps, tx L p) (hn : ps.length ≤ n) : tx (n * (L + m)) (Txt.join y ps) ∧ (ps.map (·.length)).sum + ps.length * y.length ≤ n * (L + m) := by
  have h1 := sum_le fun p hp => (h p hp).2
  have h2 : ps.length * L ≤ n * L := Nat.mul_le_mul_right _ hn
  have h3 : ps.length * y.length ≤ n * m := Nat.mul_le_mul hn hy.2
  have h4 : n * (L + m) = n * L + n * m := Nat.mul_add _ _ _
  refine ⟨⟨join_strOk hy.1 fun p hp => (h p hp).1, ?_⟩, by omega⟩
  have h5 : (Txt.join y ps).length ≤ (ps.map (·.length)).sum + ps.length * y.length := by
    cases ps with
    | nil => rw [join_eq]; exact Nat.zero_le _
    | cons a l => have := join_len (y := y) (ps := a :: l) (by simp); omega
  omega
theorem abc_at {i : Int} (h0 : 0 ≤ i) (h1 : i < 26) : ∃ c, atI abc.cps.toList i = some c ∧ c < 0x110000 := by
  obtain ⟨n, rfl⟩ : ∃ n : Nat, i = n := ⟨i.toNat, by omega⟩
  have hn : n < abc.cps.toList.length := by
    have : abc.cps.toList.length = 26 := by decide +kernel
    omega
  refine ⟨abc.cps.toList[n], ?_, ?_⟩
  · exact atI_nat (List.getElem?_eq_getElem hn)
  · have : ∀ c ∈ abc.cps.toList, c < 0x110000 := by decide +kernel
    exact this _ (List.getElem_mem hn)
section
variable {B : Bs} {O : Ow} {F F' H H' : Hp} {σ : L2.St} {Γ : List (Option D)} {p : Addr} {K : PySem.W.Frag} {D₀ : Ends}
/-- a coin -/
def coinOut (p : Addr) (n : Nat) (m : Int) (Or : Ow) : D → Ow → Prop := fun d O' => ∃ i : Int, d = .int i ∧ 0 ≤ i ∧ i < m ∧ O' = (p, OO.purse (n + 1)) :: Or
theorem evk_coin {tp tm : TE} {n : Nat} {m : Int} {Or : Ow} (hp : EvP B tp Γ ((p, OO.purse n) :: Or) (.adr p)) (hm : EvP B tm Γ ((p, OO.purse n) :: Or) (.int m)) (hn : n < 10 ^ 9) (h0 : 0 < m) (h1 : m < 1073741824) :
    EvK B (tCl c__law_coin [] W0 (tCons tp (tCons tm tNil))) Γ ((p, OO.purse n) :: Or) (coinOut p n m Or) :=
  evk_cl (c := c__law_coin) (dds := []) (ea_cons hp (ea_cons hm ea_nil)) (fun _ => .nil) fun ds O1 ⟨e1, e2⟩ => by
    subst e1 e2
    exact ⟨(p, n, m), Or, rfl, .refl _, ⟨hn, h0, h1⟩, fun d O' ⟨i, e1, e2, e3, e4⟩ => ⟨i, e1, e2, e3, by rw [e4]; rfl⟩, fun _ _ _ _ _ _ _ _ _ _ _ _ ⟨_, z, _⟩ => z.elim⟩
/-- the first operand plain, the second a coin -/
theorem evk_opR {r : R2} {ta tb : TE} {x : D} {Φ : D → Ow → Prop} {Ψ : D → Ow → Prop} (ha : EvP B ta Γ O x) (hb : EvK B tb Γ O Φ) (h : ∀ y O2, Φ y O2 → ∃ z, Op2 r B O2 x y z ∧ Ψ z O2) : EvK B (tOp r ta tb) Γ O Ψ :=
  evk_op (Φ := fun d O' => d = x ∧ O' = O) (Φ2 := fun _ => Φ) ha (fun _ _ ⟨_, e⟩ => by rw [e]; exact hb) fun x' y O1 O2 ⟨e, _⟩ q => by rw [e]; exact h y O2 q
theorem evk_opL {r : R2} {ta tb : TE} {y : D} {Φ : D → Ow → Prop} {Ψ : D → Ow → Prop} (ha : EvK B ta Γ O Φ) (hb : ∀ x O1, Φ x O1 → EvP B tb Γ O1 y) (h : ∀ x O1, Φ x O1 → ∃ z, Op2 r B O1 x y z ∧ Ψ z O1) : EvK B (tOp r ta tb) Γ O Ψ :=
  evk_op (Φ := Φ) (Φ2 := fun x d O' => d = y ∧ Φ x O') ha (fun x O1 q F σ H s e Q k => hb x O1 q F σ H s e Q fun v d O' F' H' s' f r ⟨e1, e2⟩ => k v d O' F' H' s' f r ⟨e1, by rw [e2]; exact q⟩) fun x y' O1 O2 _ ⟨e, q⟩ => by rw [e]; exact h x O2 q
theorem ea_one {te : TE} {Φ : D → Ow → Prop} (h : EvK B te Γ O Φ) : EaK B (tCons te tNil) Γ O fun ds O' => ∃ d, ds = [d] ∧ Φ d O' := fun F σ H s e Q q =>
  h F σ H s e _ fun v d O' F' H' s' f r p => q [v] [d] O' F' H' s' f (.cons r .nil) ⟨d, rfl, p⟩
theorem ea_PK {ta te : TE} {a : D} {Φ : D → Ow → Prop} (ha : EvP B ta Γ O a) (h : EvK B te Γ O Φ) : EaK B (tCons ta (tCons te tNil)) Γ O fun ds O' => ∃ d, ds = [a, d] ∧ Φ d O' := fun F σ H s e Q q =>
  ha F σ H s e _ fun v d O' F' H' s' f r p => by
    obtain ⟨rfl, rfl⟩ := p
    exact h F' σ H' s' (e.same f) _ fun v2 d2 O2 F2 H2 s2 f2 r2 p2 => q [v, v2] [d, d2] O2 F2 H2 s2 (f.trans f2) (.cons (r.same f2) (.cons r2 .nil)) ⟨d2, rfl, p2⟩
theorem ei_rangeK {te : TE} {Φ : D → Ow → Prop} (h : EvK B te Γ O Φ) : True := trivial
end
def c__law_words : Con where
  G := Addr × Nat × Int
  ds := fun g => [.adr g.1, .int g.2.2]
  own := fun g => [(g.1, .purse g.2.1)]
  pre := fun g => g.2.1 < 100000000 ∧ 1 ≤ g.2.2 ∧ g.2.2 ≤ 200
  post := fun g d O' => ∃ ls : List Str, d = .lst (ls.map .str) ∧ (ls.length : Int) = g.2.2 ∧ (∀ x ∈ ls, tx 9 x) ∧ O' = [(g.1, .purse (g.2.1 + 10))]
section
variable {P : Program} {w : World} {K : PySem.W.Frag} {mg : Str → Option Value} {base : Heap}
/-! ### _law_words -/
abbrev s__law_words : Stmt := top 27
abbrev N__law_words : List Str := ["purse", "many", "letters", "way", "menu", "stem", "start", "turn", "rank"]
theorem sc__law_words : FnScope N__law_words ["purse", "many"] (defScope s__law_words) := ⟨rfl, rfl, rfl, by decide +kernel, rfl, by decide +kernel, by decide +kernel⟩
def t__law_words (K : PySem.W.Frag) : TS := (tSeq (tAsg (tTup (tCons (tC (.str "abcdefghijklmnopqrstuvwxyz")) (tCons (tCl c__law_coin [] W0 (tCons (tVar 0) (tCons (tC (.int 3)) tNil))) tNil))) (gTup K 2 (gCons (gName 2) (gCons (gName 3) gNil)))) (tSeq (tAsg (tLst (tCons (tC (.str "all")) (tCons (tC (.str "as")) (tCons (tC (.str "key")) (tCons (tC (.str "id")) (tCons (tC (.str "town")) (tCons (tC (.str "table")) (tCons (tC (.str "is")) (tCons (tC (.str "same")) (tCons (tC (.str "missing")) (tCons (tC (.str "settles")) (tCons (tC (.str "pair")) (tCons (tC (.str "left")) (tCons (tC (.str "a")) (tCons (tC (.str "b")) tNil))))))))))))))) (gName 4)) (tSeq (tAsg (tM1 (rJoin K) (tC (.str "")) (tLc (iRng1 (tCons (tC (.int 8)) tNil)) (gName 7) tYes (tOp (rIxU K) (tVar 2) (tCl c__law_coin [] W0 (tCons (tVar 0) (tCons (tC (.int 26)) tNil)))) [7])) (gName 5)) (tSeq (tIfS (tAnd (tTest (tOp (rEqD K) (tVar 3) (tC (.int 0)))) (tTest (tOp rLtI (tVar 1) (tC (.int 15))))) (tSeq (tAsg (tCl c__law_coin [] W0 (tCons (tVar 0) (tCons (tC (.int 14)) tNil))) (gName 6)) (tRet (tLc (iRng1 (tCons (tVar 1) tNil)) (gName 8) tYes (tOp (rIxU K) (tVar 4) (tOp rModU (tCB (rInt1) (tCons (tOp (rAddU K) (tVar 6) (tOp (rMulU K) (tC (.int 3)) (tVar 8))) tNil)) (tC (.int 14)))) [8]))) tNext) (tSeq (tIfS (tAnd (tTest (tOp (rEqD K) (tVar 3) (tC (.int 1)))) (tTest (tOp rLtI (tVar 1) (tC (.int 9))))) (tRet (tLc (iRng1 (tCons (tVar 1) tNil)) (gName 8) tYes (tSl (rSlU K) (tVar 5) tNoPart (tPart (tOp (rAddU K) (tVar 8) (tC (.int 1))))) [8])) tNext) (tSeq (tAsg (tCl c__law_coin [] W0 (tCons (tVar 0) (tCons (tC (.int 26)) tNil))) (gName 6)) (tRet (tLc (iRng1 (tCons (tVar 1) tNil)) (gName 8) tYes (tOp (rAddU K) (tOp (rIxU K) (tVar 2) (tOp rModU (tCB (rInt1) (tCons (tOp (rAddU K) (tVar 6) (tVar 8)) tNil)) (tC (.int 26)))) (tSl (rSlU K) (tVar 5) tNoPart (tPart (tOp rDivU (tVar 8) (tC (.int 26)))))) [8]))))))))
theorem w__law_words {f : Addr} {cdv : Value} {A : Around} {outer : List PySem.Env} {s : Shared} {H : Hp} {E : XK} (T : Txt K mg w) (hr : Room 1 (A.deeper (envOfC "_law_words" (defScope s__law_words) s.heap.objs.size f cdv))) : PSs (cxOf (L2.CX P w) P w K mg base N__law_words "_law_words" (defScope s__law_words) f cdv A outer s H E) (defBody s__law_words) (t__law_words K) := by
  have sc := sc__law_words
  exact PSs.nox ((pss_cons (ps_asg (pe_tup (pa_cons pe_str (pa_cons (pe_cl (W := W0) (G__law_coin T) (hr.mono (by decide)) (by rfl) T.g__law_coin T.k__law_coin T.b__law_coin .nil takes0 (pa_cons (pv 0) (pa_cons pe_int pa_nil))) pa_nil))) (pg_tup rfl (pgs_cons (pg_name (i := 2) sc.nd rfl (Or.inr rfl)) (pgs_cons (pg_name (i := 3) sc.nd rfl (Or.inl rfl)) pgs_nil)))) (pss_cons (ps_set (i := 4) sc.nd rfl (Or.inr rfl) (pe_lst (pa_cons pe_str (pa_cons pe_str (pa_cons pe_str (pa_cons pe_str (pa_cons pe_str (pa_cons pe_str (pa_cons pe_str (pa_cons pe_str (pa_cons pe_str (pa_cons pe_str (pa_cons pe_str (pa_cons pe_str (pa_cons pe_str (pa_cons pe_str pa_nil)))))))))))))))) (pss_cons (ps_set (i := 5) sc.nd rfl (Or.inr rfl) (pe_join pe_str (pe_lc (own := [("turn", 7)]) (by rfl) sc.nd (pi_range1 (by rfl) T.n_range (pa_cons pe_int pa_nil)) (blkOk_by (own := [("turn", 7)]) (N := N__law_words) (sc := defScope s__law_words) (by decide +kernel)) (fun _ _ _ _ _ => (pg_name (i := 7) sc.nd rfl (by first | exact Or.inl rfl | exact Or.inr rfl))) (fun _ _ _ _ _ => pts_nil) (fun _ _ _ _ _ => (pe_ix (ix_U (hu_of hr)) (pv 2) (pe_cl (W := W0) (G__law_coin T) (hr.mono (by decide)) (by rfl) T.g__law_coin T.k__law_coin T.b__law_coin .nil takes0 (pa_cons (pv 0) (pa_cons pe_int pa_nil))) (fun _ _ => rfl)))))) (pss_cons (ps_if (PW.pt (pw_and (pt_cmpR (op_eqD hr.units) (pv 3) pe_int (nomark _)) (pw_and1 (pt_cmpR op_lt (pv 1) pe_int (nomark _))))) (pss_cons (ps_set (i := 6) sc.nd rfl (Or.inr rfl) (pe_cl (W := W0) (G__law_coin T) (hr.mono (by decide)) (by rfl) T.g__law_coin T.k__law_coin T.b__law_coin .nil takes0 (pa_cons (pv 0) (pa_cons pe_int pa_nil)))) (pss_one (ps_ret (pe_lc (own := [("rank", 8)]) (by rfl) sc.nd (pi_range1 (by rfl) T.n_range (pa_cons (pv 1) pa_nil)) (blkOk_by (own := [("rank", 8)]) (N := N__law_words) (sc := defScope s__law_words) (by decide +kernel)) (fun _ _ _ _ _ => (pg_name (i := 8) sc.nd rfl (by first | exact Or.inl rfl | exact Or.inr rfl))) (fun _ _ _ _ _ => pts_nil) (fun _ _ _ _ _ => (pe_ix (ix_U (hu_of hr)) (pv 4) (pe_op op_mod (pe_callTy call_int1 (by rfl) T.n_int (by decide +kernel) (pa_cons (pe_op op_addU (pv 6) (pe_op op_mulU pe_int (pv 8))) pa_nil)) pe_int) (fun _ _ => rfl))))))) pss_nil) (pss_cons (ps_if (PW.pt (pw_and (pt_cmpR (op_eqD hr.units) (pv 3) pe_int (nomark _)) (pw_and1 (pt_cmpR op_lt (pv 1) pe_int (nomark _))))) (pss_one (ps_ret (pe_lc (own := [("rank", 8)]) (by rfl) sc.nd (pi_range1 (by rfl) T.n_range (pa_cons (pv 1) pa_nil)) (blkOk_by (own := [("rank", 8)]) (N := N__law_words) (sc := defScope s__law_words) (by decide +kernel)) (fun _ _ _ _ _ => (pg_name (i := 8) sc.nd rfl (by first | exact Or.inl rfl | exact Or.inr rfl))) (fun _ _ _ _ _ => pts_nil) (fun _ _ _ _ _ => (pe_slice sl_U (pv 5) po_none (po_some (pe_op op_addU (pv 8) pe_int))))))) pss_nil) (pss_cons (ps_set (i := 6) sc.nd rfl (Or.inr rfl) (pe_cl (W := W0) (G__law_coin T) (hr.mono (by decide)) (by rfl) T.g__law_coin T.k__law_coin T.b__law_coin .nil takes0 (pa_cons (pv 0) (pa_cons pe_int pa_nil)))) (pss_one (ps_ret (pe_lc (own := [("rank", 8)]) (by rfl) sc.nd (pi_range1 (by rfl) T.n_range (pa_cons (pv 1) pa_nil)) (blkOk_by (own := [("rank", 8)]) (N := N__law_words) (sc := defScope s__law_words) (by decide +kernel)) (fun _ _ _ _ _ => (pg_name (i := 8) sc.nd rfl (by first | exact Or.inl rfl | exact Or.inr rfl))) (fun _ _ _ _ _ => pts_nil) (fun _ _ _ _ _ => (pe_op op_addU (pe_ix (ix_U (hu_of hr)) (pv 2) (pe_op op_mod (pe_callTy call_int1 (by rfl) T.n_int (by decide +kernel) (pa_cons (pe_op op_addU (pv 6) (pv 8)) pa_nil)) pe_int) (fun _ _ => rfl)) (pe_slice sl_U (pv 5) po_none (po_some (pe_op op_fdiv (pv 8) pe_int)))))))))))))))

def menuL : List Str := ["all", "as", "key", "id", "town", "table", "is", "same", "missing", "settles", "pair", "left", "a", "b"]
theorem menu_tx : ∀ x ∈ menuL, tx 9 x := by
  have : ∀ x ∈ menuL, PyData.strOk x = true ∧ x.length ≤ 9 := by decide +kernel
  exact this
theorem at_strs {ls : List Str} {j : Int} (h0 : 0 ≤ j) (h1 : j < ls.length) : ∃ x, x ∈ ls ∧ atI (ls.map D.str) j = some (.str x) := by
  obtain ⟨n, rfl⟩ : ∃ n : Nat, j = n := ⟨j.toNat, by omega⟩
  have hn : n < ls.length := by omega
  exact ⟨ls[n], List.getElem_mem hn, atI_nat (by rw [List.getElem?_map, List.getElem?_eq_getElem hn]; rfl)⟩
theorem strs_snoc {ls : List Str} {x : Str} : ls.map D.str ++ [.str x] = (ls ++ [x]).map D.str := by simp
theorem b__law_words (g : c__law_words.G) (B : Bs) (Q : VK) (hp : c__law_words.pre g) (rt : RT B Q (c__law_words.post g)) : NX B (t__law_words K { nx := fun _ H' => Q .non H', rt := Q }) (startD N__law_words (c__law_words.ds g)) (c__law_words.own g) := by
  obtain ⟨p, n, m⟩ := g
  obtain ⟨hn, hm, hm2⟩ : n < 100000000 ∧ 1 ≤ m ∧ m ≤ 200 := hp
  have abcl : abc.length ≤ big := sz (by decide +kernel)
  have mR : (m.toNat : Int) = m := by omega
  refine nx_seq (nx_asgG (K := K) (evk_tup (Ψ := fun d O' => ∃ i : Int, d = .tup [.str abc, .int i] ∧ 0 ≤ i ∧ i < 3 ∧ O' = [(p, OO.purse (n + 1))]) (ea_PK ev_cstr (evk_coin (n := n) (Or := []) (ev_var rfl) ev_cint (by omega) (by decide) (by decide))) fun ds O' ⟨d, e, i, e1, h0, h1, e2⟩ => ⟨by rw [e]; exact sz rfl, i, by rw [e, e1], h0, h1, e2⟩) fun d O' ⟨i, e, h1, h2, h3⟩ => ?_)
  subst e h3
  refine ⟨_, gt_tup (gs_cons gt_name (gs_cons gt_name gs_nil)) rfl, ?_⟩
  refine nx_seq (nx_asgP (d := .lst (menuL.map .str)) (ev_lst (ea_cons ev_cstr (ea_cons ev_cstr (ea_cons ev_cstr (ea_cons ev_cstr (ea_cons ev_cstr (ea_cons ev_cstr (ea_cons ev_cstr (ea_cons ev_cstr (ea_cons ev_cstr (ea_cons ev_cstr (ea_cons ev_cstr (ea_cons ev_cstr (ea_cons ev_cstr (ea_cons ev_cstr ea_nil)))))))))))))) (sz rfl)) ?_)
  refine nx_seq (nx_asg (Φ := fun d O' => ∃ stem, d = .str stem ∧ tx 8 stem ∧ O' = [(p, OO.purse (n + 9))]) (evk_join ev_cstr (evk_lc (K := K) (Ψ := fun d O' => ∃ ls : List Str, d = .lst (ls.map .str) ∧ ls.length = 8 ∧ (∀ x ∈ ls, tx 1 x) ∧ O' = [(p, OO.purse (n + 9))]) (ei_range1 (ea_cons ev_cint ea_nil) (by decide) (by decide)) (fun i acc O1 => ∃ ls : List Str, acc = ls.map .str ∧ ls.length = i ∧ (∀ x ∈ ls, tx 1 x) ∧ O1 = [(p, OO.purse (n + 1 + i))]) ⟨[], rfl, rfl, by simp, rfl⟩ (gin_name (by simp)) ?step ?len ?done) ?jn) ?rest)
  case step =>
    rintro B' i' acc O1 up lt ⟨ls, rfl, rfl, hx, rfl⟩
    have lt8 : ls.length < 8 := lt
    refine ⟨_, gt_name, et_yes.imp fun b O2 ⟨e1, e2⟩ => ?_⟩
    subst e1 e2
    refine ⟨fun z => (by cases z), fun _ => evk_opR (ev_var rfl) (evk_coin (Or := []) (ev_var rfl) ev_cint (by omega) (by decide) (by decide)) fun y O2 ⟨j, e1, k0, k1, e2⟩ => ?_⟩
    subst e1 e2
    obtain ⟨c, hc, hc2⟩ := abc_at k0 k1
    refine ⟨.str ⟨#[c]⟩, o2_ixT abcl hc, ls ++ [⟨#[c]⟩], by rw [← strs_snoc], by simp, fun x h => ?_, rfl⟩
    rcases List.mem_append.mp h with h | h
    · exact hx x h
    · have : x = ⟨#[c]⟩ := by simpa using h
      rw [this]; exact tx_sign hc2
  case len =>
    rintro i' acc O1 ⟨ls, rfl, rfl, _, _⟩ hi
    rw [List.length_map]
    exact Nat.le_trans hi (by decide)
  case done =>
    rintro acc O1 ⟨ls, rfl, hl, hx, rfl⟩
    exact ⟨ls, rfl, hl, hx, rfl⟩
  case jn =>
    rintro d O' ⟨ls, rfl, hl, hx, rfl⟩
    have e0 : tx 0 "" := ⟨by decide +kernel, by decide +kernel⟩
    obtain ⟨t1, t2⟩ := tx_join (n := 8) e0 hx (by omega)
    exact ⟨ls, .inl (.inl rfl), by omega, _, rfl, t1, rfl⟩
  case rest =>
    rintro d O' ⟨stem, rfl, hs, rfl⟩
    have rng : ∀ {B' : Bs} {Γ : List (Option D)} {O : Ow}, Γ[1]? = some (some (.int m)) → EiK B' (iRng1 (tCons (tVar 1) tNil)) Γ O m.toNat fun i => .int (i : Nat) := fun h => ei_range1 (ea_cons (ev_var h) ea_nil) (by omega) (by omega)
    -- a comprehension over the ranks whose items are texts
    have lc : ∀ {te : TE} {Γ : List (Option D)} {O : Ow}, Γ[1]? = some (some (.int m)) → (∀ (B' : Bs) (r : Nat), r < m.toNat → ∃ x, tx 9 x ∧ EvP B' te ((wipeD Γ [8]).set 8 (some (.int (r : Nat)))) O (.str x)) →
        EvK B (tLc (iRng1 (tCons (tVar 1) tNil)) (gName 8) tYes te [8]) Γ O fun d O' => ∃ ls : List Str, d = .lst (ls.map .str) ∧ (ls.length : Int) = m ∧ (∀ x ∈ ls, tx 9 x) ∧ O' = O := by
      intro te Γ O h1 ht
      refine evk_lc (K := K) (rng h1) (fun i acc O1 => ∃ ls : List Str, acc = ls.map .str ∧ ls.length = i ∧ (∀ x ∈ ls, tx 9 x) ∧ O1 = O) ⟨[], rfl, rfl, by simp, rfl⟩ (gin_name (by simp)) ?step ?len ?done
      case step =>
        rintro B' i' acc O1 up lt ⟨ls, rfl, rfl, hx, rfl⟩
        obtain ⟨x, hx1, hx2⟩ := ht B' ls.length lt
        refine ⟨_, gt_name, et_yes.imp fun b O2 ⟨e1, e2⟩ => ?_⟩
        subst e1 e2
        refine ⟨fun z => (by cases z), fun _ => hx2.imp fun d O3 ⟨e1, e2⟩ => ?_⟩
        subst e1 e2
        refine ⟨ls ++ [x], by rw [← strs_snoc], by simp, fun y h => ?_, rfl⟩
        rcases List.mem_append.mp h with h | h
        · exact hx y h
        · have : y = x := by simpa using h
          rw [this]; exact hx1
      case len =>
        rintro i' acc O1 ⟨ls, rfl, rfl, _, _⟩ hi
        rw [List.length_map]
        have : m.toNat ≤ 200 := by omega
        exact Nat.le_trans hi (Nat.le_trans this (sz rfl))
      case done =>
        rintro acc O1 ⟨ls, rfl, hl, hx, rfl⟩
        exact ⟨ls, rfl, by omega, hx, rfl⟩
    refine nx_seq (nx_ifP (et_and (et_test (ev_op (ev_var rfl) ev_cint o2_eqI)) fun _ => et_test (ev_op (ev_var rfl) ev_cint o2_lt)) (fun hb => ?_) fun hb => ?_)
    · refine nx_seq (nx_asg (evk_coin (Or := []) (ev_var rfl) ev_cint (by omega) (by decide) (by decide)) fun d O' ⟨j, e1, k0, k1, e2⟩ => ?_)
      subst e1 e2
      refine nx_ret rt (lc rfl fun B' r hr => ?_) fun d O' ⟨ls, e1, e2, e3, e4⟩ => ⟨ls, e1, e2, e3, e4⟩
      obtain ⟨x, hm, he⟩ := at_strs (ls := menuL) (j := (j + 3 * (r : Int)) % 14) (Int.emod_nonneg _ (by decide)) (Int.lt_of_lt_of_le (Int.emod_lt_of_pos _ (by decide)) (by decide))
      exact ⟨x, menu_tx x hm, ev_op (ev_var rfl) (ev_op (ev_cb (ea_cons (ev_op (ev_var rfl) (ev_op ev_cint (ev_var rfl) (o2_mulI (.inl ⟨by decide, by decide⟩))) o2_addI) ea_nil) on_int) ev_cint (o2_modI (by decide))) (o2_ixS (.inl (.inl rfl)) he)⟩
    · refine nx_next ?_
      dsimp only
      refine nx_seq (nx_ifP (et_and (et_test (ev_op (ev_var rfl) ev_cint o2_eqI)) fun _ => et_test (ev_op (ev_var rfl) ev_cint o2_lt)) (fun hb => ?_) fun hb => ?_)
      · refine nx_weak (u' := OO.purse (n + 10)) 0 rfl (purse_le (by omega)) ?_
        refine nx_ret rt (lc rfl fun B' r hr => ?_) fun d O' ⟨ls, e1, e2, e3, e4⟩ => ⟨ls, e1, e2, e3, e4⟩
        exact ⟨_, (tx_cut hs).le (by decide), ev_slS (ev_var rfl) eo_none (eo_some (ev_op (ev_var rfl) ev_cint o2_addI)) (Nat.le_trans hs.2 (sz rfl))⟩
      · refine nx_next ?_
        dsimp only
        refine nx_seq (nx_asg (evk_coin (Or := []) (ev_var rfl) ev_cint (by omega) (by decide) (by decide)) fun d O' ⟨j, e1, k0, k1, e2⟩ => ?_)
        subst e1 e2
        refine nx_ret rt (lc rfl fun B' r hr => ?_) fun d O' ⟨ls, e1, e2, e3, e4⟩ => ⟨ls, e1, e2, e3, e4⟩
        obtain ⟨c, hc, hc2⟩ := abc_at (i := (j + (r : Int)) % 26) (Int.emod_nonneg _ (by decide)) (Int.emod_lt_of_pos _ (by decide))
        refine ⟨_, tx_cat (tx_sign hc2) (tx_cut hs), ev_op (ev_op (ev_var rfl) (ev_op (ev_cb (ea_cons (ev_op (ev_var rfl) (ev_var rfl) o2_addI) ea_nil) on_int) ev_cint (o2_modI (by decide))) (o2_ixT abcl hc)) (ev_slS (ev_var rfl) eo_none (eo_some (ev_op (ev_var rfl) ev_cint (o2_divI ⟨by decide, by decide⟩))) (Nat.le_trans hs.2 (sz rfl))) (o2_addS ?_)⟩
        have := (tx_cat (tx_sign hc2) (tx_cut (lo := none) (hi := some ((r : Int) / 26)) hs)).2
        rw [len_cat] at this
        exact Nat.le_trans this (sz rfl)
theorem G__law_words (T : Txt K mg w) : FnOk P w K mg base (L2.CX P w) 2 T.a__law_words T.fd__law_words ["purse", "many"] c__law_words.sp :=
  T.F__law_words.ok sc__law_words (Con.len fun _ => rfl) fun cdv A outer s H vs Q E hr h => ⟨t__law_words K, w__law_words T hr, body_ok (t := fun _ => t__law_words K) (fun g B Q E hp rt _ _ => b__law_words g B Q hp rt) h⟩
end
end Kt
namespace Kt
open PySem PySem.Spec PyProof.Rows L2 StX TL
def goodT (t : Str × List Str) (b : Int) : Prop := tx 9 t.1 ∧ (1 : Int) ≤ t.2.length ∧ (t.2.length : Int) ≤ b ∧ ∀ c ∈ t.2, tx 9 c
def goodR (r : Rl) (b : Int) : Prop := tx 9 r.t ∧ (r.cs.length : Int) ≤ b ∧ (∀ c ∈ r.cs, tx 9 c) ∧ ∀ c ∈ r.c.toList, tx 9 c
def c__law_drawn_tables : Con where
  G := Addr × Nat × Int × Int
  ds := fun g => [.adr g.1, .int g.2.2.1, .int g.2.2.2]
  own := fun g => [(g.1, .purse g.2.1)]
  pre := fun g => g.2.1 < 10000000 ∧ (1 ≤ g.2.2.1 ∧ g.2.2.1 ≤ 60) ∧ 1 ≤ g.2.2.2 ∧ g.2.2.2 ≤ 60
  post := fun g d O' => ∃ ts : List (Str × List Str), d = .lst (ts.map (tabD .lst)) ∧ (1 : Int) ≤ ts.length ∧ (ts.length : Int) ≤ g.2.2.1 ∧ (∀ t ∈ ts, goodT t g.2.2.2) ∧ O' = [(g.1, .purse (g.2.1 + 1000))]
def c__law_drawn_rules : Con where
  G := Addr × Nat × List (Str × List Str) × Int × Int
  ds := fun g => [.adr g.1, .lst (g.2.2.1.map (tabD .lst)), .int g.2.2.2.1]
  own := fun g => [(g.1, .purse g.2.1)]
  pre := fun g => g.2.1 < 10000000 ∧ (0 ≤ g.2.2.2.1 ∧ g.2.2.2.1 ≤ 60) ∧ ((1 : Int) ≤ g.2.2.1.length ∧ (g.2.2.1.length : Int) ≤ 60) ∧ g.2.2.2.2 ≤ 60 ∧ ∀ t ∈ g.2.2.1, goodT t g.2.2.2.2
  post := fun g d O' => ∃ rs : List Rl, d = .lst (rs.map (rlD .lst)) ∧ (rs.length : Int) ≤ g.2.2.2.1 ∧ (∀ r ∈ rs, goodR r g.2.2.2.2) ∧ O' = [(g.1, .purse (g.2.1 + 4000))]
theorem at_mapL {α : Type} {f : α → D} {ls : List α} {j : Int} (h0 : 0 ≤ j) (h1 : j < ls.length) : ∃ x, x ∈ ls ∧ atI (ls.map f) j = some (f x) := by
  obtain ⟨n, rfl⟩ : ∃ n : Nat, j = n := ⟨j.toNat, by omega⟩
  have hn : n < ls.length := by omega
  exact ⟨ls[n], List.getElem_mem hn, atI_nat (by rw [List.getElem?_map, List.getElem?_eq_getElem hn]; rfl)⟩
section
variable {P : Program} {w : World} {K : PySem.W.Frag} {mg : Str → Option Value} {base : Heap}
theorem evk_words {B : Bs} {Γ : List (Option D)} {tp tm : TE} {p : Addr} {n : Nat} {Or : Ow} {Φ : D → Ow → Prop} (hp : EvP B tp Γ ((p, OO.purse n) :: Or) (.adr p)) (hm : EvK B tm Γ ((p, OO.purse n) :: Or) fun d O' => ∃ m : Int, d = .int m ∧ Φ d O' ∧ 1 ≤ m ∧ m ≤ 200 ∧ ∃ n', O' = (p, OO.purse n') :: Or ∧ n' = n + 1) (hn : n < 90000000) :
    EvK B (tCl c__law_words [] W0 (tCons tp (tCons tm tNil))) Γ ((p, OO.purse n) :: Or) fun d O' => ∃ (m : Int) (ls : List Str), (∃ O1, Φ (.int m) O1) ∧ d = .lst (ls.map .str) ∧ (ls.length : Int) = m ∧ (∀ x ∈ ls, tx 9 x) ∧ O' = (p, OO.purse (n + 11)) :: Or :=
  evk_cl (c := c__law_words) (dds := []) (ea_PK hp hm) (fun _ => .nil) fun ds O1 ⟨d, e1, m, e2, hf, h1, h2, n', e3, e4⟩ => by
    subst e1 e2 e3 e4
    exact ⟨(p, n + 1, m), Or, rfl, .refl _, ⟨show n + 1 < 100000000 by omega, h1, h2⟩, fun d O' ⟨ls, e1, e2, e3, e4⟩ => ⟨m, ls, ⟨_, hf⟩, e1, e2, e3, by rw [e4]; rfl⟩, fun _ _ _ _ _ _ _ _ _ _ _ _ ⟨_, z, _⟩ => z.elim⟩
/-! ### _law_drawn_tables -/
abbrev s__law_drawn_tables : Stmt := top 28
abbrev N__law_drawn_tables : List Str := ["purse", "most_tables", "most_columns", "found", "title"]
theorem sc__law_drawn_tables : FnScope N__law_drawn_tables ["purse", "most_tables", "most_columns"] (defScope s__law_drawn_tables) := ⟨rfl, rfl, rfl, by decide +kernel, rfl, by decide +kernel, by decide +kernel⟩
def t__law_drawn_tables (K : PySem.W.Frag) : TS := (tSeq (tAsg (tLst tNil) (gName 3)) (tSeq (tFor (iList K (tCl c__law_words [] W0 (tCons (tVar 0) (tCons (tOp (rAddU K) (tC (.int 1)) (tCl c__law_coin [] W0 (tCons (tVar 0) (tCons (tVar 1) tNil)))) tNil)))) (gName 4) (tDrop (tBM K "list" rAppend (tVar 3) (tCons (tTup (tCons (tVar 4) (tCons (tCl c__law_words [] W0 (tCons (tVar 0) (tCons (tOp (rAddU K) (tC (.int 1)) (tCl c__law_coin [] W0 (tCons (tVar 0) (tCons (tVar 2) tNil)))) tNil))) tNil))) tNil)))) (tRet (tVar 3))))
theorem w__law_drawn_tables {f : Addr} {cdv : Value} {A : Around} {outer : List PySem.Env} {s : Shared} {H : Hp} {E : XK} (T : Txt K mg w) (hr : Room 2 (A.deeper (envOfC "_law_drawn_tables" (defScope s__law_drawn_tables) s.heap.objs.size f cdv))) : PSs (cxOf (L2.CX P w) P w K mg base N__law_drawn_tables "_law_drawn_tables" (defScope s__law_drawn_tables) f cdv A outer s H E) (defBody s__law_drawn_tables) (t__law_drawn_tables K) := by
  have sc := sc__law_drawn_tables
  exact PSs.nox ((pss_cons (ps_set (i := 3) sc.nd rfl (Or.inl rfl) (pe_lst pa_nil)) (pss_cons (ps_for PassesOwn.never rfl (pi_list (pe_cl (W := W0) (G__law_words T) (hr.mono (by decide)) (by rfl) T.g__law_words T.k__law_words T.b__law_words .nil takes0 (pa_cons (pv 0) (pa_cons (pe_op op_addU pe_int (pe_cl (W := W0) (G__law_coin T) (hr.mono (by decide)) (by rfl) T.g__law_coin T.k__law_coin T.b__law_coin .nil takes0 (pa_cons (pv 0) (pa_cons (pv 1) pa_nil)))) pa_nil)))) (pg_name (i := 4) sc.nd rfl (Or.inl rfl)) (pss_one (ps_expr (pe_bm PySem.F.plainAttrs_list PySem.F.slot_list_append PySem.F.type_list_append mt_append (pv 3) (pa_cons (pe_tup (pa_cons (pv 4) (pa_cons (pe_cl (W := W0) (G__law_words T) (hr.mono (by decide)) (by rfl) T.g__law_words T.k__law_words T.b__law_words .nil takes0 (pa_cons (pv 0) (pa_cons (pe_op op_addU pe_int (pe_cl (W := W0) (G__law_coin T) (hr.mono (by decide)) (by rfl) T.g__law_coin T.k__law_coin T.b__law_coin .nil takes0 (pa_cons (pv 0) (pa_cons (pv 2) pa_nil)))) pa_nil))) pa_nil))) pa_nil))))) (pss_one (ps_ret (pv 3))))))

theorem b__law_drawn_tables (g : c__law_drawn_tables.G) (B : Bs) (Q : VK) (hp : c__law_drawn_tables.pre g) (rt : RT B Q (c__law_drawn_tables.post g)) : NX B (t__law_drawn_tables K { nx := fun _ H' => Q .non H', rt := Q }) (startD N__law_drawn_tables (c__law_drawn_tables.ds g)) (c__law_drawn_tables.own g) := by
  obtain ⟨p, n, a, b⟩ := g
  obtain ⟨hn, ⟨ha, ha2⟩, hb, hb2⟩ : n < 10000000 ∧ (1 ≤ a ∧ a ≤ 60) ∧ 1 ≤ b ∧ b ≤ 60 := hp
  refine nx_seq (nx_asg (evo_lst ea_nil (sz rfl)) fun d O' ⟨q, hB, e1, e2⟩ => ?_)
  subst e1 e2
  refine nx_perm (List.Perm.swap (p, OO.purse n) (q, OO.lst []) []) ?_
  have one : ∀ {B' : Bs} {Γ : List (Option D)} {i : Nat} {m : Int} {n' : Nat} {Or : Ow}, Γ[0]? = some (some (.adr p)) → Γ[i]? = some (some (.int m)) → 1 ≤ m → m ≤ 60 → n' < 20000000 → EvK B' (tOp (rAddU K) (tC (.int 1)) (tCl c__law_coin [] W0 (tCons (tVar 0) (tCons (tVar i) tNil)))) Γ ((p, OO.purse n') :: Or) fun d O' => ∃ k : Int, d = .int k ∧ (∃ k : Int, d = .int k ∧ 1 ≤ k ∧ k ≤ m) ∧ 1 ≤ k ∧ k ≤ 200 ∧ ∃ n2, O' = (p, OO.purse n2) :: Or ∧ n2 = n' + 1 := by
    intro B' Γ i m n' Or h0 hi h1 h2 h3
    refine evk_opR ev_cint (evk_coin (n := n') (Or := Or) (ev_var h0) (ev_var hi) (by omega) (by omega) (by omega)) fun y O2 ⟨j, e1, k0, k1, e2⟩ => ?_
    subst e1 e2
    exact ⟨_, o2_addI, _, rfl, ⟨_, rfl, by omega, by omega⟩, by omega, by omega, _, rfl, rfl⟩
  refine nx_seq (nx_forL (K := K) (evk_words (n := n) (Or := [(q, OO.lst [])]) (ev_var rfl) (one rfl rfl ha ha2 (by omega)) (by omega)) fun d O1 ⟨m, ls, ⟨_, k, ek, hk1, hk2⟩, e1, e2, e3, e4⟩ B' te' up hH hte => ?_)
  subst e1 e4
  cases ek
  refine nx_for (K := K) (ei_list (l := ls.map .str) hte (.inl rfl)) (fun i Γ O => (∃ c, Γ = [some (.adr p), some (.int a), some (.int b), some (.adr q), c]) ∧ ∃ ts : List (Str × List Str), ts.length = i ∧ O = [(p, OO.purse (n + 11 + 12 * i)), (q, OO.lst (ts.map (tabD .lst)))] ∧ ∀ t ∈ ts, goodT t b) ⟨⟨_, rfl⟩, [], rfl, rfl, by simp⟩ ?_ ?_
  · rintro B2 i Γ1 O1 up2 hH2 lt ⟨⟨c, rfl⟩, ts, rfl, rfl, hg⟩
    obtain ⟨x, hx, ey, hm, et⟩ := str_at (ls := ls) (by simpa using lt)
    have hi : ts.length < 60 := by
      have : ts.length < ls.length := by simpa using lt
      omega
    refine ⟨_, by rw [ey]; exact gt_name, fun N hN => nx_drop (Φ := fun d O' => ∃ cs : List Str, ((1 : Int) ≤ cs.length ∧ (cs.length : Int) ≤ b) ∧ (∀ c ∈ cs, tx 9 c) ∧ O' = [(p, OO.purse (n + 11 + 12 * ts.length + 11)), (q, OO.lst ((ts ++ [(x, cs)]).map (tabD .lst)))]) (evk_append (ev_var rfl) ⟨1, _, rfl⟩ (evk_tup (Ψ := fun d O' => ∃ cs : List Str, d = tabD .lst (x, cs) ∧ ((1 : Int) ≤ cs.length ∧ (cs.length : Int) ≤ b) ∧ (∀ c ∈ cs, tx 9 c) ∧ O' = [(p, OO.purse (n + 11 + 12 * ts.length + 11)), (q, OO.lst (ts.map (tabD .lst)))]) (ea_PK (ev_var (d := .str x) rfl) (evk_words (n := n + 11 + 12 * ts.length) (Or := [(q, OO.lst (ts.map (tabD .lst)))]) (ev_var rfl) (one rfl rfl hb hb2 (by omega)) (by omega))) fun ds O' ⟨d, e, m, cs, ⟨_, k, ek, k1, k2⟩, w1, w2, w3, w4⟩ => ?tup) fun d O' ⟨cs, e1, e2, e3, e4⟩ => ?app) fun d O' ⟨cs, e1, e2, eO⟩ => ?nxt⟩
    case tup =>
      cases ek
      subst e w1
      exact ⟨sz rfl, cs, rfl, ⟨by omega, by omega⟩, w3, w4⟩
    case app =>
      subst e1 e4
      refine ⟨1, _, rfl, ?_, cs, e2, e3, ?_⟩
      · rw [List.length_map]; exact Nat.lt_of_lt_of_le hi (sz rfl)
      · show [_, (q, OO.lst (_ ++ [_]))] = _
        simp
    case nxt =>
      subst eO
      refine nx_weak (u' := OO.purse (n + 11 + 12 * (ts.length + 1))) 0 rfl (purse_le (by omega)) (hN _ _ ⟨⟨_, rfl⟩, ts ++ [(x, cs)], by simp, rfl, fun t h => ?_⟩)
      rcases List.mem_append.mp h with h | h
      · exact hg t h
      · have : t = (x, cs) := by simpa using h
        rw [this]; exact ⟨e3 x hm, e1.1, e1.2, e2⟩
  · rintro Γ1 O1 ⟨⟨c, rfl⟩, ts, hl, rfl, hg⟩
    have hlen : (ts.length : Int) = ls.length := by rw [hl]; simp
    have t1 : (1 : Int) ≤ ts.length := by rw [hlen, e2]; exact hk1
    have t2 : (ts.length : Int) ≤ a := by rw [hlen, e2]; exact hk2
    have t3 : n + 11 + 12 * (ls.map D.str).length ≤ n + 1000 := by rw [List.length_map]; omega
    refine nx_weak (u' := OO.purse (n + 1000)) 0 rfl (purse_le t3) ?_
    exact nx_ret (up.rt rt) (evk_freeze (Ψ := fun d O' => d = .lst (ts.map (tabD .lst)) ∧ O' = [(p, OO.purse (n + 1000))]) (ev_var rfl) fun d O' ⟨e1, e2⟩ => ⟨q, 1, _, e1, by rw [e2]; rfl, by rw [hH]; exact hB, rfl, by rw [e2]; rfl⟩) fun d O' ⟨e1, e2⟩ => ⟨ts, e1, t1, t2, hg, e2⟩
theorem G__law_drawn_tables (T : Txt K mg w) : FnOk P w K mg base (L2.CX P w) 3 T.a__law_drawn_tables T.fd__law_drawn_tables ["purse", "most_tables", "most_columns"] c__law_drawn_tables.sp :=
  T.F__law_drawn_tables.ok sc__law_drawn_tables (Con.len fun _ => rfl) fun cdv A outer s H vs Q E hr h => ⟨t__law_drawn_tables K, w__law_drawn_tables T hr, body_ok (t := fun _ => t__law_drawn_tables K) (fun g B Q E hp rt _ _ => b__law_drawn_tables g B Q hp rt) h⟩
end
end Kt
namespace Kt
open PySem PySem.Spec PyProof.Rows L2 StX TL
section
variable {P : Program} {w : World} {K : PySem.W.Frag} {mg : Str → Option Value} {base : Heap}
/-! ### _law_drawn_rules -/
abbrev s__law_drawn_rules : Stmt := top 29
abbrev N__law_drawn_rules : List Str := ["purse", "tables_here", "most", "found", "turn", "title", "known", "some", "column"]
theorem sc__law_drawn_rules : FnScope N__law_drawn_rules ["purse", "tables_here", "most"] (defScope s__law_drawn_rules) := ⟨rfl, rfl, rfl, by decide +kernel, rfl, by decide +kernel, by decide +kernel⟩
def t__law_drawn_rules (K : PySem.W.Frag) : TS := (tSeq (tAsg (tLst tNil) (gName 3)) (tSeq (tFor (iRng1 (tCons (tCl c__law_coin [] W0 (tCons (tVar 0) (tCons (tOp (rAddU K) (tVar 2) (tC (.int 1))) tNil))) tNil)) (gName 4) (tSeq (tAsg (tOp (rIxU K) (tVar 1) (tCl c__law_coin [] W0 (tCons (tVar 0) (tCons (tCB (rLenU K) (tCons (tVar 1) tNil)) tNil)))) (gTup K 2 (gCons (gName 5) (gCons (gName 6) gNil)))) (tSeq (tAsg (tLc (iList K (tVar 6)) (gName 8) (tTest (tOp (rEqD K) (tCl c__law_coin [] W0 (tCons (tVar 0) (tCons (tC (.int 2)) tNil))) (tC (.int 0)))) (tVar 8) [8]) (gName 7)) (tIfS (tTest (tOp (rEqD K) (tCl c__law_coin [] W0 (tCons (tVar 0) (tCons (tC (.int 2)) tNil))) (tC (.int 0)))) (tDrop (tBM K "list" rAppend (tVar 3) (tCons (tTup (tCons (tC (.str "key")) (tCons (tVar 5) (tCons (tVar 7) tNil)))) tNil))) (tSeq (tAsg (tOp (rIxU K) (tVar 6) (tCl c__law_coin [] W0 (tCons (tVar 0) (tCons (tCB (rLenU K) (tCons (tVar 6) tNil)) tNil)))) (gName 8)) (tDrop (tBM K "list" rAppend (tVar 3) (tCons (tTup (tCons (tC (.str "settles")) (tCons (tVar 5) (tCons (tVar 7) (tCons (tVar 8) tNil))))) tNil)))))))) (tRet (tVar 3))))
theorem w__law_drawn_rules {f : Addr} {cdv : Value} {A : Around} {outer : List PySem.Env} {s : Shared} {H : Hp} {E : XK} (T : Txt K mg w) (hr : Room 1 (A.deeper (envOfC "_law_drawn_rules" (defScope s__law_drawn_rules) s.heap.objs.size f cdv))) : PSs (cxOf (L2.CX P w) P w K mg base N__law_drawn_rules "_law_drawn_rules" (defScope s__law_drawn_rules) f cdv A outer s H E) (defBody s__law_drawn_rules) (t__law_drawn_rules K) := by
  have sc := sc__law_drawn_rules
  exact PSs.nox ((pss_cons (ps_set (i := 3) sc.nd rfl (Or.inl rfl) (pe_lst pa_nil)) (pss_cons (ps_for PassesOwn.never rfl (pi_range1 (by rfl) T.n_range (pa_cons (pe_cl (W := W0) (G__law_coin T) (hr.mono (by decide)) (by rfl) T.g__law_coin T.k__law_coin T.b__law_coin .nil takes0 (pa_cons (pv 0) (pa_cons (pe_op op_addU (pv 2) pe_int) pa_nil))) pa_nil)) (pg_name (i := 4) sc.nd rfl (Or.inl rfl)) (pss_cons (ps_asg (pe_ix (ix_U (hu_of hr)) (pv 1) (pe_cl (W := W0) (G__law_coin T) (hr.mono (by decide)) (by rfl) T.g__law_coin T.k__law_coin T.b__law_coin .nil takes0 (pa_cons (pv 0) (pa_cons (pe_callB call_lenU (by rfl) T.n_len (by decide +kernel) (pa_cons (pv 1) pa_nil)) pa_nil))) (fun _ _ => rfl)) (pg_tup rfl (pgs_cons (pg_name (i := 5) sc.nd rfl (Or.inl rfl)) (pgs_cons (pg_name (i := 6) sc.nd rfl (Or.inl rfl)) pgs_nil)))) (pss_cons (ps_setLc (i := 7) (own := [("column", 8)]) (by rfl) sc.nd rfl rfl (sw_true rfl rfl rfl (by decide +kernel)) (pi_list (pv 6)) (blkOk_by (own := [("column", 8)]) (N := N__law_drawn_rules) (sc := defScope s__law_drawn_rules) (by decide +kernel)) (fun _ _ _ _ _ => (pg_name (i := 8) sc.nd rfl (by first | exact Or.inl rfl | exact Or.inr rfl))) (fun _ _ _ _ _ => (pts_one (pt_cmpR (op_eqD hr.units) (pe_cl (W := W0) (G__law_coin T) (hr.mono (by decide)) (by rfl) T.g__law_coin T.k__law_coin T.b__law_coin .nil takes0 (pa_cons (pv 0) (pa_cons pe_int pa_nil))) pe_int (nomark _)))) (fun _ _ _ _ _ => (pv 8))) (pss_one (ps_if (pt_cmpR (op_eqD hr.units) (pe_cl (W := W0) (G__law_coin T) (hr.mono (by decide)) (by rfl) T.g__law_coin T.k__law_coin T.b__law_coin .nil takes0 (pa_cons (pv 0) (pa_cons pe_int pa_nil))) pe_int (nomark _)) (pss_one (ps_expr (pe_bm PySem.F.plainAttrs_list PySem.F.slot_list_append PySem.F.type_list_append mt_append (pv 3) (pa_cons (pe_tup (pa_cons pe_str (pa_cons (pv 5) (pa_cons (pv 7) pa_nil)))) pa_nil)))) (pss_cons (ps_set (i := 8) sc.nd rfl (Or.inl rfl) (pe_ix (ix_U (hu_of hr)) (pv 6) (pe_cl (W := W0) (G__law_coin T) (hr.mono (by decide)) (by rfl) T.g__law_coin T.k__law_coin T.b__law_coin .nil takes0 (pa_cons (pv 0) (pa_cons (pe_callB call_lenU (by rfl) T.n_len (by decide +kernel) (pa_cons (pv 6) pa_nil)) pa_nil))) (fun _ _ => rfl))) (pss_one (ps_expr (pe_bm PySem.F.plainAttrs_list PySem.F.slot_list_append PySem.F.type_list_append mt_append (pv 3) (pa_cons (pe_tup (pa_cons pe_str (pa_cons (pv 5) (pa_cons (pv 7) (pa_cons (pv 8) pa_nil))))) pa_nil)))))))))) (pss_one (ps_ret (pv 3))))))

theorem b__law_drawn_rules (g : c__law_drawn_rules.G) (B : Bs) (Q : VK) (hp : c__law_drawn_rules.pre g) (rt : RT B Q (c__law_drawn_rules.post g)) : NX B (t__law_drawn_rules K { nx := fun _ H' => Q .non H', rt := Q }) (startD N__law_drawn_rules (c__law_drawn_rules.ds g)) (c__law_drawn_rules.own g) := by
  obtain ⟨p, n, ts, a, b⟩ := g
  obtain ⟨hn, ⟨ha, ha2⟩, ⟨ht, ht2⟩, hb2, hg⟩ : n < 10000000 ∧ (0 ≤ a ∧ a ≤ 60) ∧ ((1 : Int) ≤ ts.length ∧ (ts.length : Int) ≤ 60) ∧ b ≤ 60 ∧ ∀ t ∈ ts, goodT t b := hp
  refine nx_seq (nx_asg (evo_lst ea_nil (sz rfl)) fun d O' ⟨q, hB, e1, e2⟩ => ?_)
  subst e1 e2
  refine nx_perm (List.Perm.swap (p, OO.purse n) (q, OO.lst []) []) ?_
  refine nx_seq (nx_forR (ea_one (evk_coin (n := n) (m := a + 1) (Or := [(q, OO.lst [])]) (ev_var rfl) (ev_op (ev_var rfl) ev_cint o2_addI) (by omega) (by omega) (by omega))) fun ds O1 ⟨d, e1, k, e2, k0, k1, e3⟩ B' ta' up hH hta => ?_)
  subst e1 e2 e3
  refine nx_for (K := K) (ei_range1 hta (by omega) (by omega)) (fun i Γ O => (∃ c0 c1 c2 c3 c4, Γ = [some (.adr p), some (.lst (ts.map (tabD .lst))), some (.int a), some (.adr q), c0, c1, c2, c3, c4]) ∧ ∃ rs : List Rl, rs.length = i ∧ O = [(p, OO.purse (n + 1 + 63 * i)), (q, OO.lst (rs.map (rlD .lst)))] ∧ ∀ r ∈ rs, goodR r b) ⟨⟨_, _, _, _, _, rfl⟩, [], rfl, rfl, by simp⟩ ?_ ?_
  · rintro B2 i Γ1 O1 up2 hH2 lt ⟨⟨c0, c1, c2, c3, c4, rfl⟩, rs, rfl, rfl, hr⟩
    have hi : rs.length < 60 := by omega
    refine ⟨_, gt_name, fun N hN => nx_seq (nx_asgG (K := K) (Φ := fun d O' => ∃ t ∈ ts, d = tabD .lst t ∧ O' = [(p, OO.purse (n + 1 + 63 * rs.length + 1)), (q, OO.lst (rs.map (rlD .lst)))]) (evk_opR (ev_var rfl) (evk_coin (n := n + 1 + 63 * rs.length) (m := ((ts.map (tabD .lst)).length : Nat)) (Or := [(q, OO.lst (rs.map (rlD .lst)))]) (ev_var rfl) (ev_cb (ea_cons (ev_var rfl) ea_nil) (on_lenS (.inl (.inl rfl)))) (by omega) (by rw [List.length_map]; omega) (by rw [List.length_map]; omega)) fun y O2 ⟨j, e1, j0, j1, e2⟩ => ?ix) fun d O' ⟨t, htm, e1, e2⟩ => ?body)⟩
    case ix =>
      subst e1 e2
      rw [List.length_map] at j1
      obtain ⟨t, h1, h2⟩ := at_mapL (f := tabD .lst) j0 j1
      exact ⟨_, o2_ixS (.inl (.inl rfl)) h2, t, h1, rfl, rfl⟩
    case body =>
      subst e1 e2
      obtain ⟨g1, g2, g3, g4⟩ := hg t htm
      refine ⟨_, gt_tup (gs_cons gt_name (gs_cons gt_name gs_nil)) rfl, ?_⟩
      refine nx_seq (nx_asg (Φ := fun d O' => ∃ ls : List Str, d = .lst (ls.map .str) ∧ ls.length ≤ t.2.length ∧ (∀ c ∈ ls, tx 9 c) ∧ O' = [(p, OO.purse (n + 1 + 63 * rs.length + 1 + t.2.length)), (q, OO.lst (rs.map (rlD .lst)))]) (evk_lc (K := K) (ei_list (l := t.2.map .str) (ev_var rfl) (.inl rfl)) (fun i acc O1 => ∃ ls : List Str, acc = ls.map .str ∧ ls.length ≤ i ∧ (∀ c ∈ ls, tx 9 c) ∧ O1 = [(p, OO.purse (n + 1 + 63 * rs.length + 1 + i)), (q, OO.lst (rs.map (rlD .lst)))]) ⟨[], rfl, Nat.le_refl _, by simp, rfl⟩ (gin_name (by simp)) ?step ?len ?done) fun d O' ⟨ls, e1, e2, e3, e4⟩ => ?after)
      case step =>
        rintro B3 i acc O1 up3 lt3 ⟨ls, rfl, hl, hx, rfl⟩
        have lt4 : i < t.2.length := by simpa using lt3
        obtain ⟨x, _, ey, hm, _⟩ := str_at (ls := t.2) lt4
        refine ⟨_, by rw [ey]; exact gt_name, etk_test (evk_opL (Ψ := fun d O2 => ∃ b, d = .bl b ∧ O2 = [(p, OO.purse (n + 1 + 63 * rs.length + 1 + (i + 1))), (q, OO.lst (rs.map (rlD .lst)))]) (evk_coin (n := n + 1 + 63 * rs.length + 1 + i) (m := 2) (Or := [(q, OO.lst (rs.map (rlD .lst)))]) (ev_var rfl) ev_cint (by omega) (by decide) (by decide)) (fun _ _ _ => ev_cint) fun y O2 ⟨j, e1, _, _, e2⟩ => ⟨.bl (decide (j = 0)), by rw [e1]; exact o2_eqI, _, rfl, e2⟩) fun d O2 ⟨b', e1, e2⟩ => ⟨b', e1, fun _ => ⟨ls, rfl, by omega, hx, e2⟩, fun _ => (ev_var (d := .str x) rfl).imp fun d O3 ⟨w1, w2⟩ => ?_⟩⟩
        subst w1 w2
        refine ⟨ls ++ [x], by rw [← strs_snoc], by simp; omega, fun c h => ?_, e2⟩
        rcases List.mem_append.mp h with h | h
        · exact hx c h
        · have : c = x := by simpa using h
          rw [this]; exact g4 x hm
      case len =>
        rintro i acc O1 ⟨ls, rfl, hl, _, _⟩ hi2
        rw [List.length_map] at hi2 ⊢
        have : ls.length ≤ 60 := by omega
        exact Nat.le_trans this (sz rfl)
      case done =>
        rintro acc O1 ⟨ls, rfl, hl, hx, rfl⟩
        rw [List.length_map] at hl ⊢
        exact ⟨ls, rfl, hl, hx, rfl⟩
      case after =>
        subst e1 e4
        have fin : ∀ {k : Nat} {Γ2 : List (Option D)} {r : Rl}, k ≤ n + 1 + 63 * (rs.length + 1) → (∃ c0 c1 c2 c3 c4, Γ2 = [some (.adr p), some (.lst (ts.map (tabD .lst))), some (.int a), some (.adr q), c0, c1, c2, c3, c4]) → goodR r b → NX B2 N Γ2 [(p, OO.purse k), (q, OO.lst ((rs ++ [r]).map (rlD .lst)))] := by
          intro k Γ2 r hk hΓ hr2
          refine nx_weak (u' := OO.purse (n + 1 + 63 * (rs.length + 1))) 0 rfl (purse_le hk) (hN _ _ ⟨hΓ, rs ++ [r], by simp, rfl, fun r' h => ?_⟩)
          rcases List.mem_append.mp h with h | h
          · exact hr r' h
          · have : r' = r := by simpa using h
            rw [this]; exact hr2
        have hrl : (rs.map (rlD .lst)).length < sizeLine := by rw [List.length_map]; exact Nat.lt_of_lt_of_le hi (sz rfl)
        refine nx_if (Φ := fun _ O' => O' = [(p, OO.purse (n + 1 + 63 * rs.length + 1 + t.2.length + 1)), (q, OO.lst (rs.map (rlD .lst)))]) (etk_test (evk_opL (Ψ := fun d O2 => ∃ b, d = .bl b ∧ O2 = [(p, OO.purse (n + 1 + 63 * rs.length + 1 + t.2.length + 1)), (q, OO.lst (rs.map (rlD .lst)))]) (evk_coin (n := n + 1 + 63 * rs.length + 1 + t.2.length) (m := 2) (Or := [(q, OO.lst (rs.map (rlD .lst)))]) (ev_var rfl) ev_cint (by omega) (by decide) (by decide)) (fun _ _ _ => ev_cint) fun y O2 ⟨j, e1, _, _, e2⟩ => ⟨.bl (decide (j = 0)), by rw [e1]; exact o2_eqI, _, rfl, e2⟩) fun d O2 ⟨b', e1, e2⟩ => ⟨b', e1, e2⟩) (fun O' eO => ?yes) fun O' eO => ?no
        case yes =>
          subst eO
          refine nx_drop (Φ := fun d O' => O' = [(p, OO.purse (n + 1 + 63 * rs.length + 1 + t.2.length + 1)), (q, OO.lst ((rs ++ [Rl.mk t.1 ls none]).map (rlD .lst)))]) (evk_append (ev_var rfl) ⟨1, _, rfl⟩ (ev_tup (ea_cons ev_cstr (ea_cons (ev_var (d := .str t.1) rfl) (ea_cons (ev_var (d := .lst (ls.map .str)) rfl) ea_nil))) (sz rfl)) fun d O' ⟨w1, w2⟩ => ?_) fun d O' e => ?_
          · subst w1 w2
            refine ⟨1, _, rfl, hrl, ?_⟩
            show [_, (q, OO.lst (_ ++ [rlD .lst ⟨t.1, ls, none⟩]))] = _
            simp
          · subst e
            exact fin (by omega) ⟨_, _, _, _, _, rfl⟩ ⟨g1, by show (ls.length : Int) ≤ b; omega, e3, by simp⟩
        case no =>
          subst eO
          refine nx_seq (nx_asg (Φ := fun d O' => ∃ c, d = .str c ∧ tx 9 c ∧ O' = [(p, OO.purse (n + 1 + 63 * rs.length + 1 + t.2.length + 1 + 1)), (q, OO.lst (rs.map (rlD .lst)))]) (evk_opR (ev_var (d := .lst (t.2.map .str)) rfl) (evk_coin (n := n + 1 + 63 * rs.length + 1 + t.2.length + 1) (m := ((t.2.map D.str).length : Nat)) (Or := [(q, OO.lst (rs.map (rlD .lst)))]) (ev_var rfl) (ev_cb (ea_cons (ev_var (d := .lst (t.2.map .str)) rfl) ea_nil) (on_lenS (.inl (.inl rfl)))) (by omega) (by rw [List.length_map]; omega) (by rw [List.length_map]; omega)) fun y O2 ⟨j, e1, j0, j1, e2⟩ => ?_) fun d O' ⟨c, e1, e2, e3'⟩ => ?_)
          · subst e1 e2
            rw [List.length_map] at j1
            obtain ⟨c, h1, h2⟩ := at_strs j0 j1
            exact ⟨_, o2_ixS (.inl (.inl rfl)) h2, c, rfl, g4 c h1, rfl⟩
          · subst e1 e3'
            refine nx_drop (Φ := fun d O' => O' = [(p, OO.purse (n + 1 + 63 * rs.length + 1 + t.2.length + 1 + 1)), (q, OO.lst ((rs ++ [Rl.mk t.1 ls (some c)]).map (rlD .lst)))]) (evk_append (ev_var rfl) ⟨1, _, rfl⟩ (ev_tup (ea_cons ev_cstr (ea_cons (ev_var (d := .str t.1) rfl) (ea_cons (ev_var (d := .lst (ls.map .str)) rfl) (ea_cons (ev_var (d := .str c) rfl) ea_nil)))) (sz rfl)) fun d O' ⟨w1, w2⟩ => ?ap) fun d O' e => ?nx
            case ap =>
              subst w1 w2
              refine ⟨1, _, rfl, hrl, ?_⟩
              show [_, (q, OO.lst (_ ++ [rlD .lst ⟨t.1, ls, some c⟩]))] = _
              simp
            case nx =>
              subst e
              exact fin (by omega) ⟨_, _, _, _, _, rfl⟩ ⟨g1, by show (ls.length : Int) ≤ b; omega, e3, by simpa using e2⟩
  · rintro Γ1 O1 ⟨⟨c0, c1, c2, c3, c4, rfl⟩, rs, hl, rfl, hr⟩
    have t2 : (rs.length : Int) ≤ a := by omega
    refine nx_weak (u' := OO.purse (n + 4000)) 0 rfl (purse_le (by omega)) ?_
    exact nx_ret (up.rt rt) (evk_freeze (Ψ := fun d O' => d = .lst (rs.map (rlD .lst)) ∧ O' = [(p, OO.purse (n + 4000))]) (ev_var rfl) fun d O' ⟨e1, e2⟩ => ⟨q, 1, _, e1, by rw [e2]; rfl, by rw [hH]; exact hB, rfl, by rw [e2]; rfl⟩) fun d O' ⟨e1, e2⟩ => ⟨rs, e1, t2, hr, e2⟩
theorem G__law_drawn_rules (T : Txt K mg w) : FnOk P w K mg base (L2.CX P w) 2 T.a__law_drawn_rules T.fd__law_drawn_rules ["purse", "tables_here", "most"] c__law_drawn_rules.sp :=
  T.F__law_drawn_rules.ok sc__law_drawn_rules (Con.len fun _ => rfl) fun cdv A outer s H vs Q E hr h => ⟨t__law_drawn_rules K, w__law_drawn_rules T hr, body_ok (t := fun _ => t__law_drawn_rules K) (fun g B Q E hp rt _ _ => b__law_drawn_rules g B Q hp rt) h⟩
end
end Kt
namespace Kt
open PySem PySem.Spec PyProof.Rows L2 StX TL
def c__law_rule_text : Con where
  G := Rl
  ds := fun r => [rlD .lst r]
  pre := fun r => goodR r 8
  post := fun r d O' => (∃ x, d = .str x ∧ tx 120 x) ∧ O' = []
def c__law_book_text : Con where
  G := List (Str × List Str) × List Rl
  ds := fun g => [.lst (g.1.map (tabD .lst)), .lst (g.2.map (rlD .lst))]
  pre := fun g => (g.1.length ≤ 3 ∧ ∀ t ∈ g.1, goodT t 8) ∧ g.2.length ≤ 5 ∧ ∀ r ∈ g.2, goodR r 8
  post := fun g d O' => (∃ x, d = .str x ∧ tx 1000 x) ∧ O' = []
theorem sp_tx : tx 1 " " := ⟨by decide +kernel, by decide +kernel⟩
theorem sc_tx : tx 2 "; " := ⟨by decide +kernel, by decide +kernel⟩
theorem lit_tx : ∀ x ∈ (["key", "settles", ">", "table"] : List Str), tx 9 x := by
  have : ∀ x ∈ (["key", "settles", ">", "table"] : List Str), PyData.strOk x = true ∧ x.length ≤ 9 := by decide +kernel
  exact this
section
variable {P : Program} {w : World} {K : PySem.W.Frag} {mg : Str → Option Value} {base : Heap}
/-! ### _law_rule_text -/
abbrev s__law_rule_text : Stmt := top 30
abbrev N__law_rule_text : List Str := ["rule"]
theorem sc__law_rule_text : FnScope N__law_rule_text ["rule"] (defScope s__law_rule_text) := ⟨rfl, rfl, rfl, by decide +kernel, rfl, by decide +kernel, by decide +kernel⟩
def t__law_rule_text (K : PySem.W.Frag) : TS := (tSeq (tIfS (tTest (tOp (rEqD K) (tOp (rIxU K) (tVar 0) (tC (.int 0))) (tC (.str "key")))) (tRet (tM1 (rJoin K) (tC (.str " ")) (tOp (rAddU K) (tLst (tCons (tC (.str "key")) (tCons (tOp (rIxU K) (tVar 0) (tC (.int 1))) tNil))) (tOp (rIxU K) (tVar 0) (tC (.int 2)))))) tNext) (tRet (tM1 (rJoin K) (tC (.str " ")) (tOp (rAddU K) (tOp (rAddU K) (tLst (tCons (tC (.str "settles")) (tCons (tOp (rIxU K) (tVar 0) (tC (.int 1))) tNil))) (tOp (rIxU K) (tVar 0) (tC (.int 2)))) (tLst (tCons (tC (.str ">")) (tCons (tOp (rIxU K) (tVar 0) (tC (.int 3))) tNil)))))))
theorem w__law_rule_text {f : Addr} {cdv : Value} {A : Around} {outer : List PySem.Env} {s : Shared} {H : Hp} {E : XK} (T : Txt K mg w) (hr : Room 0 (A.deeper (envOfC "_law_rule_text" (defScope s__law_rule_text) s.heap.objs.size f cdv))) : PSs (cxOf (L2.CX P w) P w K mg base N__law_rule_text "_law_rule_text" (defScope s__law_rule_text) f cdv A outer s H E) (defBody s__law_rule_text) (t__law_rule_text K) := by
  have sc := sc__law_rule_text
  exact PSs.nox ((pss_cons (ps_if (pt_cmpR (op_eqD hr.units) (pe_ix (ix_U (hu_of hr)) (pv 0) pe_int (fun _ _ => rfl)) pe_str (nomark _)) (pss_one (ps_ret (pe_join pe_str (pe_op op_addU (pe_lst (pa_cons pe_str (pa_cons (pe_ix (ix_U (hu_of hr)) (pv 0) pe_int (fun _ _ => rfl)) pa_nil))) (pe_ix (ix_U (hu_of hr)) (pv 0) pe_int (fun _ _ => rfl)))))) pss_nil) (pss_one (ps_ret (pe_join pe_str (pe_op op_addU (pe_op op_addU (pe_lst (pa_cons pe_str (pa_cons (pe_ix (ix_U (hu_of hr)) (pv 0) pe_int (fun _ _ => rfl)) pa_nil))) (pe_ix (ix_U (hu_of hr)) (pv 0) pe_int (fun _ _ => rfl))) (pe_lst (pa_cons pe_str (pa_cons (pe_ix (ix_U (hu_of hr)) (pv 0) pe_int (fun _ _ => rfl)) pa_nil)))))))))

theorem b__law_rule_text (g : c__law_rule_text.G) (B : Bs) (Q : VK) (hp : c__law_rule_text.pre g) (rt : RT B Q (c__law_rule_text.post g)) : NX B (t__law_rule_text K { nx := fun _ H' => Q .non H', rt := Q }) (startD N__law_rule_text (c__law_rule_text.ds g)) [] := by
  obtain ⟨h1, h2, h3, h4⟩ : goodR g 8 := hp
  obtain ⟨i0, i1, i2, _⟩ := rl_ix (mk := .lst) (r := g)
  have ix : ∀ {i : Int} {d : D} {Γ : List (Option D)}, Γ[0]? = some (some (rlD .lst g)) → atI ([.str g.kind, .str g.t, strsD .lst g.cs] ++ g.c.toList.map .str) i = some d → EvP B (tOp (rIxU K) (tVar 0) (tC (.int i))) Γ [] d := by
    intro i d Γ h e
    exact ev_op (ev_var h) ev_cint (o2_ixS (.inr rfl) e)
  have hl : g.cs.length ≤ 8 := by omega
  have ad : ∀ {a b : List Str}, a.length ≤ 70 → b.length ≤ 70 → (a.map D.str).length + (b.map D.str).length ≤ big := fun {a b} x y => by
    rw [List.length_map, List.length_map]
    exact Nat.le_trans (Nat.add_le_add x y) (sz rfl)
  refine nx_seq (nx_ifP (et_test (ev_op (ix rfl i0) ev_cstr (o2_eqS (kind_ok g) (by decide +kernel)))) (fun hb => ?_) fun hb => ?_)
  · have hm : ∀ x ∈ ([("key" : Str), g.t] ++ g.cs : List Str), tx 9 x := fun x hx => by
      rcases List.mem_append.mp hx with hx | hx
      · rcases List.mem_cons.mp hx with rfl | hx
        · exact lit_tx _ (by simp)
        · have : x = g.t := by simpa using hx
          rw [this]; exact h1
      · exact h3 x hx
    obtain ⟨t1, t2⟩ := tx_join (n := 10) sp_tx hm (by simp; omega)
    exact nx_retP rt (ev_join (ys := [("key" : Str), g.t] ++ g.cs) ev_cstr ((ev_op (ev_lst (ds := ([("key" : Str), g.t]).map .str) (ea_cons ev_cstr (ea_cons (ix rfl i1) ea_nil)) (sz rfl)) (ix rfl i2) (o2_addL (b := g.cs.map .str) (ad (by simp) (by omega)))).is (by rw [List.map_append])) (.inl (.inl rfl)) (by omega)) ⟨⟨_, rfl, t1.le (by decide)⟩, rfl⟩
  · refine nx_next ?_
    dsimp only
    have hk : g.kind ≠ "key" := of_decide_eq_false hb
    obtain ⟨c, hc⟩ : ∃ c, g.c = some c := by
      cases e : g.c with
      | none => exact absurd (by unfold Rl.kind; rw [e]; rfl) hk
      | some c => exact ⟨c, rfl⟩
    have i3 : atI ([.str g.kind, .str g.t, strsD .lst g.cs] ++ g.c.toList.map .str) 3 = some (.str c) := by rw [hc]; rfl
    have hm : ∀ x ∈ ([("settles" : Str), g.t] ++ g.cs ++ [(">" : Str), c] : List Str), tx 9 x := fun x hx => by
      rcases List.mem_append.mp hx with hx | hx
      · rcases List.mem_append.mp hx with hx | hx
        · rcases List.mem_cons.mp hx with rfl | hx
          · exact lit_tx _ (by simp)
          · have : x = g.t := by simpa using hx
            rw [this]; exact h1
        · exact h3 x hx
      · rcases List.mem_cons.mp hx with rfl | hx
        · exact lit_tx _ (by simp)
        · have : x = c := by simpa using hx
          rw [this]; exact h4 c (by rw [hc]; simp)
    obtain ⟨t1, t2⟩ := tx_join (n := 12) sp_tx hm (by simp; omega)
    refine nx_retP rt (ev_join (ys := [("settles" : Str), g.t] ++ g.cs ++ [(">" : Str), c]) ev_cstr ((ev_op (ev_op (ev_lst (ds := ([("settles" : Str), g.t]).map .str) (ea_cons ev_cstr (ea_cons (ix rfl i1) ea_nil)) (sz rfl)) (ix rfl i2) (o2_addL (b := g.cs.map .str) (ad (by simp) (by omega)))) (ev_lst (ds := ([(">" : Str), c]).map .str) (ea_cons ev_cstr (ea_cons (ix rfl i3) ea_nil)) (sz rfl)) (o2_addL ?_)).is (by rw [List.map_append, List.map_append])) (.inl (.inl rfl)) (by omega)) ⟨⟨_, rfl, t1.le (by decide)⟩, rfl⟩
    rw [List.length_append, List.length_map, List.length_map, List.length_map]
    exact Nat.le_trans (show 2 + g.cs.length + 2 ≤ 100 by omega) (sz rfl)
theorem G__law_rule_text (T : Txt K mg w) : FnOk P w K mg base (L2.CX P w) 1 T.a__law_rule_text T.fd__law_rule_text ["rule"] c__law_rule_text.sp :=
  T.F__law_rule_text.ok sc__law_rule_text (Con.len fun _ => rfl) fun cdv A outer s H vs Q E hr h => ⟨t__law_rule_text K, w__law_rule_text T hr, body_ok (t := fun _ => t__law_rule_text K) (fun g B Q E hp rt _ _ => b__law_rule_text g B Q hp rt) h⟩
/-! ### _law_book_text -/
abbrev s__law_book_text : Stmt := top 31
abbrev N__law_book_text : List Str := ["tables_here", "rules_here", "found", "title", "known", "rule"]
theorem sc__law_book_text : FnScope N__law_book_text ["tables_here", "rules_here"] (defScope s__law_book_text) := ⟨rfl, rfl, rfl, by decide +kernel, rfl, by decide +kernel, by decide +kernel⟩
def t__law_book_text (K : PySem.W.Frag) : TS := (tSeq (tAsg (tLc (iList K (tVar 0)) (gTup K 2 (gCons (gName 3) (gCons (gName 4) gNil))) tYes (tM1 (rJoin K) (tC (.str " ")) (tOp (rAddU K) (tLst (tCons (tC (.str "table")) (tCons (tVar 3) tNil))) (tVar 4))) [3, 4]) (gName 2)) (tRet (tM1 (rJoin K) (tC (.str "; ")) (tOp (rAddU K) (tVar 2) (tLc (iList K (tVar 1)) (gName 5) tYes (tCl c__law_rule_text [] W0 (tCons (tVar 5) tNil)) [5])))))
theorem w__law_book_text {f : Addr} {cdv : Value} {A : Around} {outer : List PySem.Env} {s : Shared} {H : Hp} {E : XK} (T : Txt K mg w) (hr : Room 1 (A.deeper (envOfC "_law_book_text" (defScope s__law_book_text) s.heap.objs.size f cdv))) : PSs (cxOf (L2.CX P w) P w K mg base N__law_book_text "_law_book_text" (defScope s__law_book_text) f cdv A outer s H E) (defBody s__law_book_text) (t__law_book_text K) := by
  have sc := sc__law_book_text
  exact PSs.nox ((pss_cons (ps_setLc (i := 2) (own := [("title", 3), ("known", 4)]) (by rfl) sc.nd rfl rfl (sw_true rfl rfl rfl (by decide +kernel)) (pi_list (pv 0)) (blkOk_by (own := [("title", 3), ("known", 4)]) (N := N__law_book_text) (sc := defScope s__law_book_text) (by decide +kernel)) (fun _ _ _ _ _ => (pg_tup rfl (pgs_cons (pg_name (i := 3) sc.nd rfl (by first | exact Or.inl rfl | exact Or.inr rfl)) (pgs_cons (pg_name (i := 4) sc.nd rfl (by first | exact Or.inl rfl | exact Or.inr rfl)) pgs_nil)))) (fun _ _ _ _ _ => pts_nil) (fun _ _ _ _ _ => (pe_join pe_str (pe_op op_addU (pe_lst (pa_cons pe_str (pa_cons (pv 3) pa_nil))) (pv 4))))) (pss_one (ps_ret (pe_join pe_str (pe_op op_addU (pv 2) (pe_lc (own := [("rule", 5)]) (by rfl) sc.nd (pi_list (pv 1)) (blkOk_by (own := [("rule", 5)]) (N := N__law_book_text) (sc := defScope s__law_book_text) (by decide +kernel)) (fun _ _ _ _ _ => (pg_name (i := 5) sc.nd rfl (by first | exact Or.inl rfl | exact Or.inr rfl))) (fun _ _ _ _ _ => pts_nil) (fun _ _ _ _ _ => (pe_cl (W := W0) (G__law_rule_text T) (hr.mono (by decide)) (by rfl) T.g__law_rule_text T.k__law_rule_text T.b__law_rule_text .nil takes0 (pa_cons (pv 5) pa_nil))))))))))

/-- a comprehension over a list whose items are texts -/
theorem evk_lcX {α : Type} {B : Bs} {O : Ow} {Γ : List (Option D)} {te0 te : TE} {g : TG} {vs : List Nat} {f : α → D} {ls : List α} {L : Nat} (h : EvP B te0 Γ O (.lst (ls.map f))) (hgi : GIn g vs) (hz : ls.length ≤ sizeLine) (hs : ∀ B' x, x ∈ ls → ∃ Γ2, GtP K g (f x) (wipeD Γ vs) Γ2 ∧ EvK B' te Γ2 O fun d O' => (∃ y, d = .str y ∧ tx L y) ∧ O' = O) :
    EvK B (tLc (iList K te0) g tYes te vs) Γ O fun d O' => (∃ ys : List Str, d = .lst (ys.map .str) ∧ ys.length = ls.length ∧ ∀ y ∈ ys, tx L y) ∧ O' = O := by
  refine evk_lc (K := K) (ei_list h (.inl rfl)) (fun i acc O1 => (∃ ys : List Str, acc = ys.map .str ∧ ys.length = i ∧ ∀ y ∈ ys, tx L y) ∧ O1 = O) ⟨⟨[], rfl, rfl, by simp⟩, rfl⟩ hgi ?step ?len ?done
  case step =>
    rintro B' i acc O1 up lt ⟨⟨ys, rfl, rfl, hy⟩, rfl⟩
    obtain ⟨x, _, ey, hm, _⟩ := get_at (f := f) (ls := ls) (by simpa using lt)
    obtain ⟨Γ2, hg, ht⟩ := hs B' x hm
    refine ⟨Γ2, by rw [ey]; exact hg, et_yes.imp fun b O2 ⟨e1, e2⟩ => ?_⟩
    subst e1 e2
    refine ⟨fun z => (by cases z), fun _ => ht.imp fun d O3 ⟨⟨y, e1, ty⟩, e2⟩ => ⟨⟨ys ++ [y], by rw [e1, ← strs_snoc], by simp, fun z hz => ?_⟩, e2⟩⟩
    rcases List.mem_append.mp hz with hz | hz
    · exact hy z hz
    · have : z = y := by simpa using hz
      rw [this]; exact ty
  case len =>
    rintro i acc O1 ⟨⟨ys, rfl, rfl, _⟩, _⟩ hi
    rw [List.length_map] at hi ⊢
    omega
  case done =>
    rintro acc O1 ⟨⟨ys, rfl, hl, hy⟩, rfl⟩
    exact ⟨⟨ys, rfl, by rw [hl, List.length_map], hy⟩, rfl⟩
theorem b__law_book_text (g : c__law_book_text.G) (B : Bs) (Q : VK) (hp : c__law_book_text.pre g) (rt : RT B Q (c__law_book_text.post g)) : NX B (t__law_book_text K { nx := fun _ H' => Q .non H', rt := Q }) (startD N__law_book_text (c__law_book_text.ds g)) [] := by
  obtain ⟨ts, rs⟩ := g
  obtain ⟨⟨h1, h2⟩, h3, h4⟩ : (ts.length ≤ 3 ∧ ∀ t ∈ ts, goodT t 8) ∧ rs.length ≤ 5 ∧ ∀ r ∈ rs, goodR r 8 := hp
  refine nx_seq (nx_asg (evk_lcX (K := K) (L := 120) (f := tabD .lst) (ls := ts) (ev_var rfl) (gin_tup (gsin_name (by simp) (gsin_name (by simp) gsin_nil))) (Nat.le_trans h1 (sz rfl)) fun B' t ht => ⟨_, gt_tup (gs_cons gt_name (gs_cons gt_name gs_nil)) rfl, ?_⟩) fun d O' ⟨⟨ys, e1, e2, e3⟩, e4⟩ => ?_)
  · obtain ⟨g1, g2, g3, g4⟩ := h2 t ht
    have hm : ∀ x ∈ ([("table" : Str), t.1] ++ t.2 : List Str), tx 9 x := fun x hx => by
      rcases List.mem_append.mp hx with hx | hx
      · rcases List.mem_cons.mp hx with rfl | hx
        · exact lit_tx _ (by simp)
        · have : x = t.1 := by simpa using hx
          rw [this]; exact g1
      · exact g4 x hx
    have hl : t.2.length ≤ 8 := by omega
    obtain ⟨t1, t2⟩ := tx_join (n := 10) sp_tx hm (by simp; omega)
    refine (ev_join (ys := [("table" : Str), t.1] ++ t.2) ev_cstr ((ev_op (ev_lst (ds := ([("table" : Str), t.1]).map .str) (ea_cons ev_cstr (ea_cons (ev_var rfl) ea_nil)) (sz rfl)) (ev_var rfl) (o2_addL (b := t.2.map .str) ?_)).is (by rw [List.map_append])) (.inl (.inl rfl)) (by omega)).imp fun d O' ⟨w1, w2⟩ => ⟨⟨_, w1, t1.le (by decide)⟩, w2⟩
    rw [List.length_map, List.length_map]
    exact Nat.le_trans (show 2 + t.2.length ≤ 100 by omega) (sz rfl)
  · subst e1 e4
    refine nx_ret rt (evk_join ev_cstr (evk_opR (Ψ := fun d O' => (∃ zs : List Str, d = .lst (zs.map .str) ∧ zs.length ≤ 8 ∧ ∀ z ∈ zs, tx 120 z) ∧ O' = []) (ev_var (d := .lst (ys.map .str)) rfl) (evk_lcX (K := K) (L := 120) (f := rlD .lst) (ls := rs) (ev_var rfl) (gin_name (by simp)) (Nat.le_trans h3 (sz rfl)) fun B' r hr => ⟨_, gt_name, evk_cl (c := c__law_rule_text) (dds := []) (ea_cons (ev_var (d := rlD .lst r) rfl) ea_nil) (fun _ => .nil) fun ds O1 ⟨w1, w2⟩ => ?cl⟩) fun y O2 ⟨⟨zs, w1, w2, w3⟩, w4⟩ => ?op) fun d O' ⟨⟨zs, w1, w2, w3⟩, w4⟩ => ?jn) fun d O' z => z
    case cl =>
      subst w1 w2
      exact ⟨r, [], rfl, .refl _, h4 r hr, fun d O' ⟨z1, z2⟩ => ⟨z1, by rw [z2]; rfl⟩, fun _ _ _ _ _ _ _ _ _ _ _ _ ⟨_, z, _⟩ => z.elim⟩
    case op =>
      subst w1 w4
      refine ⟨_, o2_addL ?_, ⟨ys ++ zs, by rw [List.map_append], by rw [List.length_append]; omega, fun z hz => ?_⟩, rfl⟩
      · rw [List.length_map, List.length_map]
        exact Nat.le_trans (show ys.length + zs.length ≤ 200 by omega) (sz rfl)
      · rcases List.mem_append.mp hz with hz | hz
        · exact e3 z hz
        · exact w3 z hz
    case jn =>
      obtain ⟨t1, t2⟩ := tx_join (n := 8) sc_tx w3 w2
      exact ⟨zs, .inl (.inl w1), by omega, ⟨_, rfl, t1.le (by decide)⟩, w4⟩
theorem G__law_book_text (T : Txt K mg w) : FnOk P w K mg base (L2.CX P w) 2 T.a__law_book_text T.fd__law_book_text ["tables_here", "rules_here"] c__law_book_text.sp :=
  T.F__law_book_text.ok sc__law_book_text (Con.len fun _ => rfl) fun cdv A outer s H vs Q E hr h => ⟨t__law_book_text K, w__law_book_text T hr, body_ok (t := fun _ => t__law_book_text K) (fun g B Q E hp rt _ _ => b__law_book_text g B Q hp rt) h⟩
end
end Kt
namespace Kt
open PySem PySem.Spec PyProof.Rows L2 StX TL
def colsL (ts : List (Str × List Str)) : List (Key × D) := ts.map fun t => (.inr t.1, strsD .lst t.2)
theorem valD_colsL {t : Str} : ∀ {ts : List (Str × List Str)}, valD (colsL ts) (.inr t) = (ts.lookup t).map (strsD .lst)
  | [] => rfl
  | (n, cs) :: ts => by
    show valD ((.inr n, strsD .lst cs) :: colsL ts) (.inr t) = _
    rw [valD_cons, List.lookup_cons, valD_colsL (ts := ts)]
    by_cases e : n = t
    · subst e
      rw [if_pos rfl, beq_self_eq_true]; rfl
    · have e1 : (t == n) = false := by simpa using fun z : t = n => e z.symm
      rw [if_neg (fun z => e (Sum.inr.inj z)), e1]
theorem putD_colsL {ts : List (Str × List Str)} {n : Str} {cs : List Str} (h : n ∉ ts.map (·.1)) : putD (colsL ts) (.inr n) (strsD .lst cs) = colsL (ts ++ [(n, cs)]) := by
  unfold putD
  rw [if_neg]
  · simp [colsL]
  · intro z
    obtain ⟨q, hq, e⟩ := List.any_eq_true.mp z
    obtain ⟨t, ht, rfl⟩ := List.mem_map.mp hq
    have e : (Sum.inr t.1 : Key) = .inr n := by simpa using e
    exact h (List.mem_map.mpr ⟨t, ht, Sum.inr.inj e⟩)
def isRuleL (ts : List (Str × List Str)) : List Str → Bool
  | k :: t :: cs => match ts.lookup t with
    | none => false
    | some cols => if k = "key" then cs.all fun c => decide (c ∈ cols) else if k = "settles" then (match cs.reverse with
      | c :: g :: r => decide (g = ">") && ((r.reverse ++ [c]).all fun c => decide (c ∈ cols))
      | _ => false) else false
  | _ => false
theorem isRuleL_none {ts : List (Str × List Str)} {k t : Str} {cs : List Str} (h : ts.lookup t = none) : isRuleL ts (k :: t :: cs) = false := by
  simp only [isRuleL, h]
theorem isRuleL_key {ts : List (Str × List Str)} {k t : Str} {cs cols : List Str} (h : ts.lookup t = some cols) (hk : k = "key") : isRuleL ts (k :: t :: cs) = cs.all fun c => decide (c ∈ cols) := by
  simp only [isRuleL, h]
  rw [if_pos hk]
theorem isRuleL_set {ts : List (Str × List Str)} {k t : Str} {cs cols : List Str} (h : ts.lookup t = some cols) (hk : k = "settles") (hn : k ≠ "key") : isRuleL ts (k :: t :: cs) = (match cs.reverse with
      | c :: g :: r => decide (g = ">") && ((r.reverse ++ [c]).all fun c => decide (c ∈ cols))
      | _ => false) := by
  simp only [isRuleL, h]
  rw [if_neg hn, if_pos hk]
theorem isRuleL_no {ts : List (Str × List Str)} {k t : Str} {cs cols : List Str} (h : ts.lookup t = some cols) (hn : k ≠ "key") (hs : k ≠ "settles") : isRuleL ts (k :: t :: cs) = false := by
  simp only [isRuleL, h]
  rw [if_neg hn, if_neg hs]
def c__law_is_title : Con where
  G := Str
  ds := fun x => [.str x]
  pre := fun x => okS x
  post := fun x d O' => d = .bl (isName x) ∧ O' = []
def c__law_is_rule : Con where
  G := Addr × List (Str × List Str) × Str
  ds := fun g => [.str g.2.2, .adr g.1]
  own := fun g => [(g.1, .dct (colsL g.2.1))]
  pre := fun g => okS g.2.2
  post := fun g d O' => d = .bl (isRuleL g.2.1 (pcs g.2.2)) ∧ O' = [(g.1, .dct (colsL g.2.1))]
section
variable {P : Program} {w : World} {K : PySem.W.Frag} {mg : Str → Option Value} {base : Heap}
/-! ### _law_is_title -/
abbrev s__law_is_title : Stmt := top 32
abbrev N__law_is_title : List Str := ["wording", "letters", "sign"]
theorem sc__law_is_title : FnScope N__law_is_title ["wording"] (defScope s__law_is_title) := ⟨rfl, rfl, rfl, by decide +kernel, rfl, by decide +kernel, by decide +kernel⟩
def t__law_is_title (K : PySem.W.Frag) : TS := (tSeq (tAsg (tC (.str "abcdefghijklmnopqrstuvwxyz")) (gName 1)) (tRet (tAndV (tChain rLtI rLtI (tC (.int 0)) (tCB (rLenU K) (tCons (tVar 0) tNil)) (tC (.int 9))) (tOp (rEqD K) (tLc (iStr (tVar 0)) (gName 2) (tTest (tOp (rNotInU K) (tVar 2) (tVar 1))) (tVar 2) [2]) (tLst tNil)))))
theorem w__law_is_title {f : Addr} {cdv : Value} {A : Around} {outer : List PySem.Env} {s : Shared} {H : Hp} {E : XK} (T : Txt K mg w) (hr : Room 0 (A.deeper (envOfC "_law_is_title" (defScope s__law_is_title) s.heap.objs.size f cdv))) : PSs (cxOf (L2.CX P w) P w K mg base N__law_is_title "_law_is_title" (defScope s__law_is_title) f cdv A outer s H E) (defBody s__law_is_title) (t__law_is_title K) := by
  have sc := sc__law_is_title
  exact PSs.nox ((pss_cons (ps_set (i := 1) sc.nd rfl (Or.inr rfl) pe_str) (pss_one (ps_ret (pe_and (pe_chain op_lt op_lt pe_int (pe_callB call_lenU (by rfl) T.n_len (by decide +kernel) (pa_cons (pv 0) pa_nil)) pe_int) (pe_one (pe_cmpR (op_eqD hr.units) (pe_lc (own := [("sign", 2)]) (by rfl) sc.nd (pi_str (pv 0)) (blkOk_by (own := [("sign", 2)]) (N := N__law_is_title) (sc := defScope s__law_is_title) (by decide +kernel)) (fun _ _ _ _ _ => (pg_name (i := 2) sc.nd rfl (by first | exact Or.inl rfl | exact Or.inr rfl))) (fun _ _ _ _ _ => (pts_one (pt_cmpR (op_notInU (hu_of hr)) (pv 2) (pv 1) (by rfl)))) (fun _ _ _ _ _ => (pv 2))) (pe_lst pa_nil) (nomark _))))))))

theorem b__law_is_title (g : c__law_is_title.G) (B : Bs) (Q : VK) (hp : c__law_is_title.pre g) (rt : RT B Q (c__law_is_title.post g)) : NX B (t__law_is_title K { nx := fun _ H' => Q .non H', rt := Q }) (startD N__law_is_title (c__law_is_title.ds g)) [] := by
  have hp : okS g := hp
  have hb : g.length ≤ big := Nat.le_trans hp.2 (sz rfl)
  refine nx_seq (nx_asgP ev_cstr ?_)
  have ok1 : ∀ c ∈ g.cps.toList, PyData.strOk ⟨#[c]⟩ = true := fun c hc => (tx_sign (strOk_iff.mp hp.1 c hc)).1
  refine nx_retP rt (ev_andV (ev_chain ev_cint (ev_cb (ea_cons (ev_var rfl) ea_nil) (on_lenT hb)) o2_lt (fun _ => ev_cint) fun _ => o2_lt) (b := g.cps.toList.all fun c => decide (c ∈ abc.cps.toList)) fun _ => ev_op (ev_lcS (K := K) (b := fun d => match d with | .str x => !decide (x.cps.getD 0 0 ∈ abc.cps.toList) | _ => false) (f := id) (ev_var rfl) (gin_name (by simp)) hb fun B' x hx => ?_) (ev_lst ea_nil (sz rfl)) (o2_eq (d := .lst (((signsD g).filter fun d => match d with | .str x => !decide (x.cps.getD 0 0 ∈ abc.cps.toList) | _ => false).map id)) (e := .lst []) ?_ (pyOf_strs (ls := []) fun _ z => by cases z) ?_)) ⟨?_, rfl⟩
  · obtain ⟨c, hc, rfl⟩ := List.mem_map.mp hx
    exact ⟨_, gt_name, et_test (ev_op (ev_var rfl) (ev_var rfl) o2_notInStr), fun _ => ev_var rfl⟩
  · refine pyOf_lst (n := 0) (fun d hd => ?_) (by decide)
    rw [List.map_id] at hd
    obtain ⟨c, hc, rfl⟩ := List.mem_map.mp (List.mem_filter.mp hd).1
    exact ⟨ok1 c hc, Nat.le_refl _⟩
  · rw [List.map_id, List.all_eq_true]
    constructor
    · intro h
      congr 1
      rw [List.filter_eq_nil_iff]
      intro d hd
      obtain ⟨c, hc, rfl⟩ := List.mem_map.mp hd
      have := h c hc
      show ¬ (!decide (c ∈ abc.cps.toList)) = true
      rw [this]; decide
    · intro h c hc
      have h : (signsD g).filter _ = [] := D.lst.inj h
      have := List.filter_eq_nil_iff.mp h (.str ⟨#[c]⟩) (List.mem_map.mpr ⟨c, hc, rfl⟩)
      have : ¬ (!decide (c ∈ abc.cps.toList)) = true := this
      simpa using this
  · unfold isName
    congr 1
    congr 1
    congr 1
    rw [decide_eq_decide]
    omega
theorem G__law_is_title (T : Txt K mg w) : FnOk P w K mg base (L2.CX P w) 1 T.a__law_is_title T.fd__law_is_title ["wording"] c__law_is_title.sp :=
  T.F__law_is_title.ok sc__law_is_title (Con.len fun _ => rfl) fun cdv A outer s H vs Q E hr h => ⟨t__law_is_title K, w__law_is_title T hr, body_ok (t := fun _ => t__law_is_title K) (fun g B Q E hp rt _ _ => b__law_is_title g B Q hp rt) h⟩
/-! ### _law_is_rule -/
abbrev s__law_is_rule : Stmt := top 33
abbrev N__law_is_rule : List Str := ["wording", "by_titles", "pieces", "some", "column"]
theorem sc__law_is_rule : FnScope N__law_is_rule ["wording", "by_titles"] (defScope s__law_is_rule) := ⟨rfl, rfl, rfl, by decide +kernel, rfl, by decide +kernel, by decide +kernel⟩
def t__law_is_rule (K : PySem.W.Frag) : TS := (tSeq (tAsg (tM1 rSplit (tVar 0) (tC (.str " "))) (gName 2)) (tSeq (tIfS (tOr (tTest (tOp (rNotInU K) (tOp (rIxU K) (tVar 2) (tC (.int 0))) (tTup (tCons (tC (.str "key")) (tCons (tC (.str "settles")) tNil))))) (tOr (tTest (tOp rLtI (tCB (rLenU K) (tCons (tVar 2) tNil)) (tC (.int 2)))) (tTest (tOp (rNotInU K) (tOp (rIxU K) (tVar 2) (tC (.int 1))) (tVar 1))))) (tRet (tC (.bl false))) tNext) (tSeq (tAsg (tSl (rSlU K) (tVar 2) (tPart (tC (.int 2))) tNoPart) (gName 3)) (tSeq (tIfS (tTest (tOp (rEqD K) (tOp (rIxU K) (tVar 2) (tC (.int 0))) (tC (.str "settles")))) (tSeq (tIfS (tOr (tTest (tOp rLtI (tCB (rLenU K) (tCons (tVar 3) tNil)) (tC (.int 2)))) (tTest (tOp (rNeD K) (tOp (rIxU K) (tVar 3) (tUn rNegU (tC (.int 2)))) (tC (.str ">"))))) (tRet (tC (.bl false))) tNext) (tAsg (tOp (rAddU K) (tSl (rSlU K) (tVar 3) tNoPart (tPart (tUn rNegU (tC (.int 2))))) (tSl (rSlU K) (tVar 3) (tPart (tUn rNegU (tC (.int 1)))) tNoPart)) (gName 3))) tNext) (tRet (tOp (rEqD K) (tLc (iList K (tVar 3)) (gName 4) (tTest (tOp (rNotInU K) (tVar 4) (tOp (rIxU K) (tVar 1) (tOp (rIxU K) (tVar 2) (tC (.int 1)))))) (tVar 4) [4]) (tLst tNil)))))))
theorem w__law_is_rule {f : Addr} {cdv : Value} {A : Around} {outer : List PySem.Env} {s : Shared} {H : Hp} {E : XK} (T : Txt K mg w) (hr : Room 0 (A.deeper (envOfC "_law_is_rule" (defScope s__law_is_rule) s.heap.objs.size f cdv))) : PSs (cxOf (L2.CX P w) P w K mg base N__law_is_rule "_law_is_rule" (defScope s__law_is_rule) f cdv A outer s H E) (defBody s__law_is_rule) (t__law_is_rule K) := by
  have sc := sc__law_is_rule
  exact PSs.nox ((pss_cons (ps_set (i := 2) sc.nd rfl (Or.inr rfl) (pe_split (pv 0) pe_str)) (pss_cons (ps_if (PW.pt (pw_or (pt_cmpR (op_notInU (hu_of hr)) (pe_ix (ix_U (hu_of hr)) (pv 2) pe_int (fun _ _ => rfl)) (pe_tup (pa_cons pe_str (pa_cons pe_str pa_nil))) (by rfl)) (pw_or (pt_cmpR op_lt (pe_callB call_lenU (by rfl) T.n_len (by decide +kernel) (pa_cons (pv 2) pa_nil)) pe_int (nomark _)) (pw_or1 (pt_cmpR (op_notInU (hu_of hr)) (pe_ix (ix_U (hu_of hr)) (pv 2) pe_int (fun _ _ => rfl)) (pv 1) (by rfl)))))) (pss_one (ps_ret pe_bl)) pss_nil) (pss_cons (ps_set (i := 3) sc.nd rfl (Or.inl rfl) (pe_slice sl_U (pv 2) (po_some pe_int) po_none)) (pss_cons (ps_if (pt_cmpR (op_eqD hr.units) (pe_ix (ix_U (hu_of hr)) (pv 2) pe_int (fun _ _ => rfl)) pe_str (nomark _)) (pss_cons (ps_if (PW.pt (pw_or (pt_cmpR op_lt (pe_callB call_lenU (by rfl) T.n_len (by decide +kernel) (pa_cons (pv 3) pa_nil)) pe_int (nomark _)) (pw_or1 (pt_cmpR (op_neD hr.units) (pe_ix (ix_U (hu_of hr)) (pv 3) (pe_un un_neg pe_int) (fun _ _ => rfl)) pe_str (nomark _))))) (pss_one (ps_ret pe_bl)) pss_nil) (pss_one (ps_set (i := 3) sc.nd rfl (Or.inl rfl) (pe_op op_addU (pe_slice sl_U (pv 3) po_none (po_some (pe_un un_neg pe_int))) (pe_slice sl_U (pv 3) (po_some (pe_un un_neg pe_int)) po_none))))) pss_nil) (pss_one (ps_ret (pe_cmpR (op_eqD hr.units) (pe_lc (own := [("column", 4)]) (by rfl) sc.nd (pi_list (pv 3)) (blkOk_by (own := [("column", 4)]) (N := N__law_is_rule) (sc := defScope s__law_is_rule) (by decide +kernel)) (fun _ _ _ _ _ => (pg_name (i := 4) sc.nd rfl (by first | exact Or.inl rfl | exact Or.inr rfl))) (fun _ _ _ _ _ => (pts_one (pt_cmpR (op_notInU (hu_of hr)) (pv 4) (pe_ix (ix_U (hu_of hr)) (pv 1) (pe_ix (ix_U (hu_of hr)) (pv 2) pe_int (fun _ _ => rfl)) (fun _ _ => rfl)) (by rfl)))) (fun _ _ _ _ _ => (pv 4))) (pe_lst pa_nil) (nomark _)))))))))

theorem cut_neg_to {l : List D} {k : Nat} (h : k ≤ l.length) (h0 : 0 < k) : cutD l none (some (-((k : Nat) : Int))) = l.take (l.length - k) := by
  unfold cutD
  show (l.drop 0).take (HT.sIx l.length l.length (some (-((k : Nat) : Int))) - 0) = _
  rw [List.drop_zero, Nat.sub_zero]
  congr 1
  show (if -((k : Nat) : Int) < 0 then (-((k : Nat) : Int) + (l.length : Int)).toNat else min (-((k : Nat) : Int)).toNat l.length) = _
  rw [if_pos (by omega)]
  omega
theorem cut_neg_from {l : List D} {k : Nat} (h : k ≤ l.length) (h0 : 0 < k) : cutD l (some (-((k : Nat) : Int))) none = l.drop (l.length - k) := by
  unfold cutD
  have e : HT.sIx l.length 0 (some (-((k : Nat) : Int))) = l.length - k := by
    show (if -((k : Nat) : Int) < 0 then (-((k : Nat) : Int) + (l.length : Int)).toNat else _) = _
    rw [if_pos (by omega)]
    omega
  rw [e]
  show (l.drop (l.length - k)).take (l.length - (l.length - k)) = _
  rw [List.take_of_length_le (by rw [List.length_drop]; omega)]
theorem b__law_is_rule (g : c__law_is_rule.G) (B : Bs) (Q : VK) (hp : c__law_is_rule.pre g) (rt : RT B Q (c__law_is_rule.post g)) : NX B (t__law_is_rule K { nx := fun _ H' => Q .non H', rt := Q }) (startD N__law_is_rule (c__law_is_rule.ds g)) (c__law_is_rule.own g) := by
  obtain ⟨p, ts, x⟩ := g
  have hp : okS x := hp
  have rt : RT B Q fun d O' => d = .bl (isRuleL ts (pcs x)) ∧ O' = [(p, .dct (colsL ts))] := rt
  have hdct : DctOf [(p, OO.dct (colsL ts))] (.adr p) (colsL ts) := .inr (.inl ⟨p, 0, rfl, rfl⟩)
  have hxl := hp.2
  refine nx_seq (nx_asgP (d := .lst ((pcs x).map .str)) (ev_split (ev_var rfl) ev_cstr (sep_ne sep1) (big_of (by omega))) ?_)
  have hne : pcs x ≠ [] := split_ne sep1
  have hok : ∀ q ∈ pcs x, okS q := fun q hq => pcs_okS hp hq
  have hcn := pcs_count x
  revert rt hne hok hcn
  generalize pcs x = ps
  intro rt hne hok hcn
  have seqP : SeqOf [(p, OO.dct (colsL ts))] (.lst (ps.map .str)) (ps.map .str) := .inl (.inl rfl)
  have hlen : EvP B (tCB (rLenU K) (tCons (tVar 2) tNil)) [some (.str x), some (.adr p), some (.lst (ps.map .str)), none, none] [(p, OO.dct (colsL ts))] (.int ((ps.map D.str).length : Nat)) := ev_cb (ea_cons (ev_var rfl) ea_nil) (on_lenS seqP)
  have i0 : ∀ {Γ' : List (Option D)} {k : Str} {l : List Str}, ps = k :: l → Γ'[2]? = some (some (.lst (ps.map .str))) → EvP B (tOp (rIxU K) (tVar 2) (tC (.int 0))) Γ' [(p, OO.dct (colsL ts))] (.str k) := by
    intro Γ' k l e h
    exact ev_op (ev_var h) ev_cint (o2_ixS seqP (by rw [e]; exact atI_nat (j := 0) rfl))
  have i1 : ∀ {Γ' : List (Option D)} {k t : Str} {l : List Str}, ps = k :: t :: l → Γ'[2]? = some (some (.lst (ps.map .str))) → EvP B (tOp (rIxU K) (tVar 2) (tC (.int 1))) Γ' [(p, OO.dct (colsL ts))] (.str t) := by
    intro Γ' k t l e h
    exact ev_op (ev_var h) ev_cint (o2_ixS seqP (by rw [e]; exact atI_nat (j := 1) rfl))
  have ks : ("key" : Str) ≠ "settles" := by decide +kernel
  cases ps with
  | nil => exact absurd rfl hne
  | cons k l =>
  cases l with
  | nil =>
    refine nx_seq (nx_ifP (b := !decide (k ∈ (["key", "settles"] : List Str)) || true) (et_or (et_test (ev_op (i0 rfl rfl) (ev_tup (ea_cons ev_cstr (ea_cons ev_cstr ea_nil)) (sz rfl)) (o2_notInL (ls := ["key", "settles"]) (.inr rfl)))) fun _ => et_or (a := true) (b := true) (et_test (ev_op hlen ev_cint o2_lt)) fun z => by cases z) (fun _ => nx_retP rt ev_cbl ⟨rfl, rfl⟩) fun z => by simp at z)
  | cons t cs =>
    have rt : RT B Q fun d O' => d = .bl (isRuleL ts (k :: t :: cs)) ∧ O' = [(p, .dct (colsL ts))] := rt
    have hl2 : (decide ((((k :: t :: cs).map D.str).length : Nat) < (2 : Int))) = false := by simp; omega
    have hcok : ∀ c ∈ cs, okS c := fun c hc => hok c (List.mem_cons_of_mem _ (List.mem_cons_of_mem _ hc))
    have ccn : cs.length ≤ 1000001 := by simp at hcn; omega
    refine nx_seq (nx_ifP (b := !decide (k ∈ (["key", "settles"] : List Str)) || (decide ((((k :: t :: cs).map D.str).length : Nat) < (2 : Int)) || !((ts.lookup t).map (strsD .lst)).isSome)) (et_or (et_test (ev_op (i0 rfl rfl) (ev_tup (ea_cons ev_cstr (ea_cons ev_cstr ea_nil)) (sz rfl)) (o2_notInL (ls := ["key", "settles"]) (.inr rfl)))) fun _ => et_or (et_test (ev_op hlen ev_cint o2_lt)) fun _ => et_test ((ev_op (i1 rfl rfl) (ev_var rfl) (o2_notInDS hdct)).is (by rw [valD_colsL]))) (fun hb => ?_) fun hb => ?_)
    · refine nx_retP rt ev_cbl ⟨?_, rfl⟩
      congr 1
      rw [hl2, Bool.false_or] at hb
      cases e : ts.lookup t with
      | none => exact (isRuleL_none e).symm
      | some cols =>
        rw [e] at hb
        have hk : k ∉ (["key", "settles"] : List Str) := by simpa using hb
        exact (isRuleL_no e (fun z => hk (by simp [z])) (fun z => hk (by simp [z]))).symm
    · rw [hl2, Bool.false_or] at hb
      obtain ⟨hb1, hb2⟩ := Bool.or_eq_false_iff.mp hb
      have hk : k = "key" ∨ k = "settles" := by
        simp at hb1
        by_cases h : k = "key"
        · exact .inl h
        · exact .inr (hb1 h)
      cases e : ts.lookup t with
      | none => rw [e] at hb2; cases hb2
      | some cols =>
        have dropE : EvP B (tSl (rSlU K) (tVar 2) (tPart (tC (.int 2))) tNoPart) [some (.str x), some (.adr p), some (.lst ((k :: t :: cs).map .str)), none, none] [(p, OO.dct (colsL ts))] (strsD .lst cs) := (ev_slL (ev_var rfl) (eo_some ev_cint) eo_none (.inl rfl)).is (congrArg D.lst (cut_from (a := 2)))
        refine nx_seq (nx_asgP dropE ?_)
        -- what stands at the end
        have fin : ∀ {Γ' : List (Option D)} {zs : List Str}, Γ'[1]? = some (some (.adr p)) → Γ'[2]? = some (some (.lst ((k :: t :: cs).map .str))) → Γ'[3]? = some (some (strsD .lst zs)) → Γ'.length = 5 → zs.length ≤ 1000001 → (∀ z ∈ zs, okS z) → (isRuleL ts (k :: t :: cs) = zs.all fun c => decide (c ∈ cols)) →
            NX B (tRet (tOp (rEqD K) (tLc (iList K (tVar 3)) (gName 4) (tTest (tOp (rNotInU K) (tVar 4) (tOp (rIxU K) (tVar 1) (tOp (rIxU K) (tVar 2) (tC (.int 1)))))) (tVar 4) [4]) (tLst tNil)) { nx := fun _ H' => Q .non H', rt := Q }) Γ' [(p, OO.dct (colsL ts))] := by
          intro Γ' zs g1 g2 g3 g4 hz hzo hfin
          have i1' : ∀ {B' : Bs} {Γ2 : List (Option D)}, Γ2[2]? = some (some (.lst ((k :: t :: cs).map .str))) → EvP B' (tOp (rIxU K) (tVar 2) (tC (.int 1))) Γ2 [(p, OO.dct (colsL ts))] (.str t) := fun h => ev_op (ev_var h) ev_cint (o2_ixS (.inl (.inl rfl)) (by exact atI_nat (j := 1) rfl))
          refine nx_retP rt (ev_op (ev_lcL (K := K) (l := zs.map .str) (b := fun d => match d with | .str c => !decide (c ∈ cols) | _ => false) (f := id) (ev_var g3) (.inl rfl) (gin_name (by simp)) (by rw [List.length_map]; exact big_of (by omega)) fun B' d hd => ?_) (ev_lst ea_nil (sz rfl)) (o2_eq (d := .lst (((zs.map D.str).filter fun d => match d with | .str c => !decide (c ∈ cols) | _ => false).map id)) (e := .lst []) (pyOf_lst (n := 0) (fun d hd => ?_) (by decide)) (pyOf_strs (ls := []) fun _ z => by cases z) ?_)) ⟨rfl, rfl⟩
          · obtain ⟨c, hc, rfl⟩ := List.mem_map.mp hd
            have w1 : ((wipeD Γ' [4]).set 4 (some (.str c)))[1]? = some (some (.adr p)) := by
              show (((Γ'.set 4 none).set 4 (some (.str c))))[1]? = _
              rw [List.getElem?_set_ne (by decide), List.getElem?_set_ne (by decide), g1]
            have w2 : ((wipeD Γ' [4]).set 4 (some (.str c)))[2]? = some (some (.lst ((k :: t :: cs).map .str))) := by
              show (((Γ'.set 4 none).set 4 (some (.str c))))[2]? = _
              rw [List.getElem?_set_ne (by decide), List.getElem?_set_ne (by decide), g2]
            have w4 : ((wipeD Γ' [4]).set 4 (some (.str c)))[4]? = some (some (.str c)) := by
              show (((Γ'.set 4 none).set 4 (some (.str c))))[4]? = _
              rw [List.getElem?_set_self (by rw [List.length_set]; omega)]
            refine ⟨_, gt_name, et_test (ev_op (ev_var w4) (ev_op (ev_var w1) (i1' w2) (o2_ixDS hdct (z := strsD .lst cols) (by rw [valD_colsL, e]; rfl))) (o2_notInL (d := strsD .lst cols) (ls := cols) (x := c) (.inl (.inl rfl)))), fun _ => ev_var w4⟩
          · rw [List.map_id] at hd
            obtain ⟨c, hc, rfl⟩ := List.mem_map.mp (List.mem_filter.mp hd).1
            exact ⟨(hzo c hc).1, Nat.le_refl _⟩
          · rw [List.map_id, hfin, List.all_eq_true]
            constructor
            · intro h
              congr 1
              rw [List.filter_eq_nil_iff]
              intro d hd
              obtain ⟨c, hc, rfl⟩ := List.mem_map.mp hd
              have := h c hc
              show ¬ (!decide (c ∈ cols)) = true
              rw [this]; decide
            · intro h c hc
              have h : (zs.map D.str).filter _ = [] := D.lst.inj h
              have := List.filter_eq_nil_iff.mp h (.str c) (List.mem_map.mpr ⟨c, hc, rfl⟩)
              have : ¬ (!decide (c ∈ cols)) = true := this
              simpa using this
        have lenS : EvP B (tCB (rLenU K) (tCons (tVar 3) tNil)) [some (.str x), some (.adr p), some (.lst ((k :: t :: cs).map .str)), some (strsD .lst cs), none] [(p, OO.dct (colsL ts))] (.int ((cs.map D.str).length : Nat)) := ev_cb (ea_cons (ev_var rfl) ea_nil) (on_lenS (.inl (.inl rfl)))
        refine nx_seq (nx_ifP (et_test (ev_op (i0 rfl rfl) ev_cstr (o2_eqS (hok k List.mem_cons_self).1 (by decide +kernel)))) (fun hb => ?_) fun hb => ?_)
        · have hks : k = "settles" := of_decide_eq_true hb
          have hnk : k ≠ "key" := fun z => ks (z.symm.trans hks)
          have val : isRuleL ts (k :: t :: cs) = (match cs.reverse with
              | c :: g :: r => decide (g = ">") && ((r.reverse ++ [c]).all fun c => decide (c ∈ cols))
              | _ => false) := isRuleL_set e hks hnk
          cases er : cs.reverse with
          | nil =>
            have hcs : cs = [] := by simpa using er
            subst hcs
            refine nx_seq (nx_ifP (b := true) (et_or (a := true) (b := true) (et_test (ev_op lenS ev_cint o2_lt)) fun z => by cases z) (fun _ => nx_retP rt ev_cbl ⟨by rw [val]; rfl, rfl⟩) fun z => by cases z)
          | cons c r =>
            cases r with
            | nil =>
              have hcs : cs = [c] := by rw [← List.reverse_reverse cs, er]; rfl
              subst hcs
              refine nx_seq (nx_ifP (b := true) (et_or (a := true) (b := true) (et_test (ev_op lenS ev_cint o2_lt)) fun z => by cases z) (fun _ => nx_retP rt ev_cbl ⟨by rw [val]; rfl, rfl⟩) fun z => by cases z)
            | cons gt r =>
              have hcs : cs = r.reverse ++ [gt, c] := by rw [← List.reverse_reverse cs, er]; simp
              have hl : (cs.map D.str).length = r.length + 2 := by rw [hcs]; simp
              have hat : atI (cs.map D.str) (-2) = some (.str gt) := by
                have e1 : ixN (cs.map D.str).length (-2) = some r.length := by
                  unfold ixN
                  rw [hl]
                  simp
                  omega
                unfold atI
                rw [e1, hcs]
                simp
              have two0 : (decide (((cs.map D.str).length : Nat) < (2 : Int))) = false := by rw [hl]; simp; omega
              have hgt : PyData.strOk gt = true := (hcok gt (by rw [hcs]; simp)).1
              refine nx_seq (nx_ifP (b := decide (((cs.map D.str).length : Nat) < (2 : Int)) || decide (gt ≠ ">")) (et_or (et_test (ev_op lenS ev_cint o2_lt)) fun _ => et_test (ev_op (ev_op (ev_var (d := .lst (cs.map .str)) rfl) (ev_neg ev_cint) (o2_ixS (.inl (.inl rfl)) hat)) ev_cstr (o2_neS hgt (by decide +kernel)))) (fun hb3 => ?_) fun hb3 => ?_)
              · rw [two0, Bool.false_or] at hb3
                refine nx_retP rt ev_cbl ⟨?_, rfl⟩
                rw [val, er]
                show _ = D.bl (decide (gt = ">") && _)
                rw [decide_eq_false (of_decide_eq_true hb3)]; rfl
              · rw [two0, Bool.false_or] at hb3
                have hg2 : gt = ">" := Classical.not_not.mp (of_decide_eq_false hb3)
                refine nx_next ?_
                dsimp only
                refine nx_asgP (d := strsD .lst (r.reverse ++ [c])) ((ev_op (ev_slL (ev_var (d := .lst (cs.map .str)) rfl) eo_none (eo_some (ev_neg ev_cint)) (l := cs.map .str) (.inl rfl)) (ev_slL (ev_var (d := .lst (cs.map .str)) rfl) (eo_some (ev_neg ev_cint)) eo_none (l := cs.map .str) (.inl rfl)) (o2_addL ?_)).is ?_) ?_
                · have h1 : ∀ lo hi, (cutD (cs.map D.str) lo hi).length ≤ (cs.map D.str).length := fun lo hi => by
                    unfold cutD
                    rw [List.length_take, List.length_drop]; omega
                  have h2 := h1 none (some (-2))
                  have h3 := h1 (some (-1)) none
                  have h4 : (cs.map D.str).length = cs.length := List.length_map ..
                  exact big_of (Nat.le_trans (Nat.add_le_add h2 h3) (by omega))
                · show D.lst (cutD (cs.map D.str) none (some (-((2 : Nat) : Int))) ++ cutD (cs.map D.str) (some (-((1 : Nat) : Int))) none) = _
                  rw [cut_neg_to (by rw [hl]; omega) (by decide), cut_neg_from (by rw [hl]; omega) (by decide), hl, hcs]
                  unfold strsD
                  congr 1
                  simp [List.take_append, List.drop_append]
                · refine fin rfl rfl rfl rfl (by rw [hcs] at ccn; simp at ccn ⊢; omega) (fun z hz => hcok z (by rw [hcs]; simp at hz ⊢; exact hz.elim Or.inl fun h => Or.inr (Or.inr h))) ?_
                  rw [val, er]
                  show (decide (gt = ">") && _) = _
                  rw [decide_eq_true hg2, Bool.true_and]
        · have hk1 : k = "key" := hk.resolve_right (of_decide_eq_false hb)
          refine nx_next ?_
          dsimp only
          exact fin rfl rfl rfl rfl ccn hcok (isRuleL_key e hk1)
theorem G__law_is_rule (T : Txt K mg w) : FnOk P w K mg base (L2.CX P w) 1 T.a__law_is_rule T.fd__law_is_rule ["wording", "by_titles"] c__law_is_rule.sp :=
  T.F__law_is_rule.ok sc__law_is_rule (Con.len fun _ => rfl) fun cdv A outer s H vs Q E hr h => ⟨t__law_is_rule K, w__law_is_rule T hr, body_ok (t := fun _ => t__law_is_rule K) (fun g B Q E hp rt _ _ => b__law_is_rule g B Q hp rt) h⟩
end
end Kt
namespace Kt
open PySem PySem.Spec PyProof.Rows L2 StX TL
def scan : List Str → List (Str × List Str) → Bool → Bool
  | [], _, _ => true
  | p :: ps, ts, bh => if isT p = true then (match pcs p with
      | _ :: n :: c :: cs => (!bh && !decide (n ∈ ts.map (·.1))) && ((n :: c :: cs).all isName && (decide ((c :: cs).Nodup) && scan ps (ts ++ [(n, c :: cs)]) bh))
      | _ => false) else (isRuleL ts (pcs p) && scan ps ts true)
theorem scan_rule {p : Str} {ps : List Str} {ts : List (Str × List Str)} {bh : Bool} (h : isT p = false) : scan (p :: ps) ts bh = (isRuleL ts (pcs p) && scan ps ts true) := by
  simp only [scan]
  rw [if_neg (by rw [h]; decide)]
theorem scan_few {p : Str} {ps : List Str} {ts : List (Str × List Str)} {bh : Bool} (h : isT p = true) (hl : (pcs p).length < 3) : scan (p :: ps) ts bh = false := by
  simp only [scan]
  rw [if_pos h]
  split
  · rename_i e
    rw [e] at hl
    simp at hl
    omega
  · rfl
theorem scan_table {p k n c : Str} {cs ps : List Str} {ts : List (Str × List Str)} {bh : Bool} (h : isT p = true) (e : pcs p = k :: n :: c :: cs) : scan (p :: ps) ts bh = ((!bh && !decide (n ∈ ts.map (·.1))) && ((n :: c :: cs).all isName && (decide ((c :: cs).Nodup) && scan ps (ts ++ [(n, c :: cs)]) bh))) := by
  simp only [scan]
  rw [if_pos h, e]
def c__law_is_book : Con where
  G := Str
  ds := fun x => [.str x]
  pre := fun x => tx 3900 x
  post := fun x d O' => d = .bl (scan (parts x) [] false) ∧ O' = []
section
variable {P : Program} {w : World} {K : PySem.W.Frag} {mg : Str → Option Value} {base : Heap}
/-! ### _law_is_book -/
abbrev s__law_is_book : Stmt := top 34
abbrev N__law_is_book : List Str := ["wording", "by_titles", "is_behind", "part", "pieces", "piece"]
theorem sc__law_is_book : FnScope N__law_is_book ["wording"] (defScope s__law_is_book) := ⟨rfl, rfl, rfl, by decide +kernel, rfl, by decide +kernel, by decide +kernel⟩
def t__law_is_book (K : PySem.W.Frag) : TS := (tSeq (tPar 1 2 (tCons tDNewK (tCons (tC (.bl false)) tNil))) (tSeq (tFor (iList K (tIf (tTest (tOp (rNeD K) (tVar 0) (tC (.str "")))) (tM1 rSplit (tVar 0) (tC (.str "; "))) (tLst tNil))) (gName 3) (tSeq (tAsg (tM1 rSplit (tVar 3) (tC (.str " "))) (gName 4)) (tIfS (tTest (tOp (rNeD K) (tOp (rIxU K) (tVar 4) (tC (.int 0))) (tC (.str "table")))) (tSeq (tAsg (tC (.bl true)) (gName 2)) (tIfS (tNot (tB (tCl c__law_is_rule [] W0 (tCons (tVar 3) (tCons (tVar 1) tNil))))) (tRet (tC (.bl false))) tNext)) (tIfS (tOr (tB (tVar 2)) (tOr (tTest (tOp rLtI (tCB (rLenU K) (tCons (tVar 4) tNil)) (tC (.int 3)))) (tTest (tOp (rInU K) (tOp (rIxU K) (tVar 4) (tC (.int 1))) (tVar 1))))) (tRet (tC (.bl false))) (tSeq (tIfS (tTest (tOp (rNeD K) (tLc (iList K (tSl (rSlU K) (tVar 4) (tPart (tC (.int 1))) tNoPart)) (gName 5) (tNot (tB (tCl c__law_is_title [] W0 (tCons (tVar 5) tNil)))) (tVar 5) [5]) (tLst tNil))) (tRet (tC (.bl false))) tNext) (tSeq (tIfS (tTest (tOp rLtI (tLenS K (tSl (rSlU K) (tVar 4) (tPart (tC (.int 2))) tNoPart)) (tCB (rLenU K) (tCons (tSl (rSlU K) (tVar 4) (tPart (tC (.int 2))) tNoPart) tNil)))) (tRet (tC (.bl false))) tNext) (sDPut (tVar 1) (tOp (rIxU K) (tVar 4) (tC (.int 1))) (tSl (rSlU K) (tVar 4) (tPart (tC (.int 2))) tNoPart)))))))) (tRet (tC (.bl true)))))
theorem w__law_is_book {f : Addr} {cdv : Value} {A : Around} {outer : List PySem.Env} {s : Shared} {H : Hp} {E : XK} (T : Txt K mg w) (hr : Room 1 (A.deeper (envOfC "_law_is_book" (defScope s__law_is_book) s.heap.objs.size f cdv))) : PSs (cxOf (L2.CX P w) P w K mg base N__law_is_book "_law_is_book" (defScope s__law_is_book) f cdv A outer s H E) (defBody s__law_is_book) (t__law_is_book K) := by
  have sc := sc__law_is_book
  exact PSs.nox ((pss_cons (ps_par (i := 1) (j := 2) (by rfl) sc.nd rfl rfl (by decide) rfl rfl (pa_cons pe_dnewK (pa_cons pe_bl pa_nil)) (by rfl)) (pss_cons (ps_for PassesOwn.never rfl (pi_list (pe_ifExp (pt_cmpR (op_neD hr.units) (pv 0) pe_str (nomark _)) (pe_split (pv 0) pe_str) (pe_lst pa_nil))) (pg_name (i := 3) sc.nd rfl (Or.inl rfl)) (pss_cons (ps_set (i := 4) sc.nd rfl (Or.inl rfl) (pe_split (pv 3) pe_str)) (pss_one (ps_if (pt_cmpR (op_neD hr.units) (pe_ix (ix_U (hu_of hr)) (pv 4) pe_int (fun _ _ => rfl)) pe_str (nomark _)) (pss_cons (ps_set (i := 2) sc.nd rfl (Or.inl rfl) pe_bl) (pss_one (ps_if (pt_not (pt_val (pe_cl (W := W0) (G__law_is_rule T) (hr.mono (by decide)) (by rfl) T.g__law_is_rule T.k__law_is_rule T.b__law_is_rule .nil takes0 (pa_cons (pv 3) (pa_cons (pv 1) pa_nil))))) (pss_one (ps_ret pe_bl)) pss_nil))) (pss_one (ps_if (PW.pt (pw_or (pt_val (pv 2)) (pw_or (pt_cmpR op_lt (pe_callB call_lenU (by rfl) T.n_len (by decide +kernel) (pa_cons (pv 4) pa_nil)) pe_int (nomark _)) (pw_or1 (pt_cmpR (op_inU (hu_of hr)) (pe_ix (ix_U (hu_of hr)) (pv 4) pe_int (fun _ _ => rfl)) (pv 1) (by rfl)))))) (pss_one (ps_ret pe_bl)) (pss_cons (ps_if (pt_cmpR (op_neD hr.units) (pe_lc (own := [("piece", 5)]) (by rfl) sc.nd (pi_list (pe_slice sl_U (pv 4) (po_some pe_int) po_none)) (blkOk_by (own := [("piece", 5)]) (N := N__law_is_book) (sc := defScope s__law_is_book) (by decide +kernel)) (fun _ _ _ _ _ => (pg_name (i := 5) sc.nd rfl (by first | exact Or.inl rfl | exact Or.inr rfl))) (fun _ _ _ _ _ => (pts_one (pt_not (pt_val (pe_cl (W := W0) (G__law_is_title T) (hr.mono (by decide)) (by rfl) T.g__law_is_title T.k__law_is_title T.b__law_is_title .nil takes0 (pa_cons (pv 5) pa_nil)))))) (fun _ _ _ _ _ => (pv 5))) (pe_lst pa_nil) (nomark _)) (pss_one (ps_ret pe_bl)) pss_nil) (pss_cons (ps_if (pt_cmpR op_lt (pe_lenS rfl (by rfl) T.n_len (by rfl) T.n_set (pe_slice sl_U (pv 4) (po_some pe_int) po_none)) (pe_callB call_lenU (by rfl) T.n_len (by decide +kernel) (pa_cons (pe_slice sl_U (pv 4) (po_some pe_int) po_none) pa_nil)) (nomark _)) (pss_one (ps_ret pe_bl)) pss_nil) (pss_one (ps_dput (hu_of hr) (pv 1) (pe_ix (ix_U (hu_of hr)) (pv 4) pe_int (fun _ _ => rfl)) (pe_slice sl_U (pv 4) (po_some pe_int) po_none) rfl)))))))))) (pss_one (ps_ret pe_bl)))))

theorem b__law_is_book (x : Str) (B : Bs) (Q : VK) (hp : c__law_is_book.pre x) (rt : RT B Q (c__law_is_book.post x)) : NX B (t__law_is_book K { nx := fun _ H' => Q .non H', rt := Q }) (startD N__law_is_book (c__law_is_book.ds x)) [] := by
  have hx0 : tx 3900 x := hp
  have hx : okS x := ⟨hx0.1, Nat.le_trans hx0.2 (by decide)⟩
  have hxl := hx0.2
  have rt : RT B Q fun d O' => d = .bl (scan (parts x) [] false) ∧ O' = [] := rt
  obtain ⟨psum, pcount⟩ := parts_sum x
  refine nx_seq (nx_par (Φ := fun ds O' => ∃ p, ds = [.adr p, .bl false] ∧ O' = [(p, OO.dct [])]) (eak_cons (Φ2 := fun d ds O' => ds = [.bl false] ∧ ∃ p, d = .adr p ∧ O' = [(p, OO.dct [])]) evo_dct (fun d O1 ⟨p, _, e1, e2⟩ => ?args) fun d ds O1 O2 _ ⟨e, p, e1, e2⟩ => ⟨p, by rw [e, e1], e2⟩) fun ds O' ⟨p, e1, e2⟩ => ⟨_, _, e1, ?main⟩)
  case args =>
    exact fun F σ H s e Q q => (ea_cons ev_cbl ea_nil : EaP B _ _ O1 [.bl false]) F σ H s e Q fun vs ds O' F' H' s' f r ⟨w1, w2⟩ => q vs ds O' F' H' s' f r ⟨w1, p, e1, by rw [w2, e2]⟩
  case main =>
  subst e1 e2
  have iter : ∀ {Γ : List (Option D)} {O : Ow}, Γ[0]? = some (some (.str x)) → EvP B (tIf (tTest (tOp (rNeD K) (tVar 0) (tC (.str "")))) (tM1 rSplit (tVar 0) (tC (.str "; "))) (tLst tNil)) Γ O (.lst ((parts x).map .str)) := by
    intro Γ O h
    refine ev_if (b := decide (x ≠ "")) (et_test (ev_op (ev_var h) ev_cstr (o2_neS hx.1 (by decide +kernel)))) (fun hb => ?_) fun hb => ?_
    · have hb : x ≠ "" := of_decide_eq_true hb
      refine (ev_split (ev_var h) ev_cstr (sep_ne sep2) (big_of (by omega))).is ?_
      unfold parts; rw [if_neg hb]
    · have hb : x = "" := Classical.not_not.mp (of_decide_eq_false hb)
      refine (ev_lst ea_nil (sz rfl)).is ?_
      unfold parts; rw [if_pos hb]; rfl
  refine nx_seq (nx_for (K := K) (ei_list (l := (parts x).map .str) (iter rfl) (.inl rfl)) (fun i Γ O => ∃ (c0 c1 c2 : Option D) (bh : Bool) (ts : List (Str × List Str)), Γ = [some (.str x), some (.adr p), some (.bl bh), c0, c1, c2] ∧ O = [(p, OO.dct (colsL ts))] ∧ ts.length ≤ i ∧ scan (parts x) [] false = scan ((parts x).drop i) ts bh) ⟨_, _, _, false, [], rfl, rfl, Nat.le_refl _, rfl⟩ ?_ ?_)
  · rintro B' i Γ1 O1 up hH lt ⟨c0, c1, c2, bh, ts, rfl, rfl, htl, hsc⟩
    have lt : i < (parts x).length := by simpa using lt
    obtain ⟨c, hc, ey, hm, et⟩ := str_at lt
    obtain ⟨co, cl⟩ := parts_okS hx hm
    have hd : (parts x).drop i = c :: (parts x).drop (i + 1) := by
      rw [List.drop_eq_getElem_cons lt]
      rw [List.getElem?_eq_getElem lt] at hc
      rw [Option.some.inj hc]
    rw [hd] at hsc
    have rt2 := up.rt rt
    have rf : ∀ {Γ' : List (Option D)} {N : L2.St → Hp → Prop}, scan (c :: (parts x).drop (i + 1)) ts bh = false → ∀ {D₀ : Ends}, D₀.rt = Q → NX B' (tRet (tC (.bl false)) D₀) Γ' [(p, OO.dct (colsL ts))] := by
      intro Γ' N h D₀ e
      exact nx_retF (Ψ := fun d O' => d = .bl (scan (parts x) [] false) ∧ O' = []) (by rw [e]; exact rt2) ev_cbl fun d O' ⟨w1, w2⟩ => ⟨[(p, OO.dct (colsL ts))], [], by rw [w2]; rfl, by rw [w1, hsc, h], rfl⟩
    have hdct : DctOf [(p, OO.dct (colsL ts))] (.adr p) (colsL ts) := .inr (.inl ⟨p, 0, rfl, rfl⟩)
    refine ⟨_, by rw [ey]; exact gt_name, fun N hN => nx_seq (nx_asgP (d := .lst ((pcs c).map .str)) (ev_split (ev_var rfl) ev_cstr (sep_ne sep1) (big_of (by omega))) ?_)⟩
    have pok : ∀ q ∈ pcs c, okS q := fun q hq => pcs_okS co hq
    have pcn := pcs_count c
    obtain ⟨k, l, e⟩ : ∃ k l, pcs c = k :: l := by
      cases e : pcs c with
      | nil => exact absurd e (split_ne sep1)
      | cons k l => exact ⟨k, l, rfl⟩
    have hT : isT c = decide (k = "table") := by
      unfold isT
      rw [e]
      simp
    have seqP : ∀ {O : Ow}, SeqOf O (.lst ((pcs c).map .str)) ((pcs c).map .str) := .inl (.inl rfl)
    refine nx_ifP (b := !isT c) ((et_test (ev_op (ev_op (z := .str k) (ev_var rfl) ev_cint (o2_ixS seqP (by rw [e]; exact atI_nat (j := 0) rfl))) ev_cstr (o2_neS (pok k (by rw [e]; exact List.mem_cons_self)).1 (by decide +kernel)))).is (by rw [hT]; simp)) (fun hb => ?_) fun hb => ?_
    · have hb : isT c = false := by simpa using hb
      refine nx_seq (nx_asgP ev_cbl (nx_if (Φ := fun b O' => b = !isRuleL ts (pcs c) ∧ O' = [(p, OO.dct (colsL ts))]) (etk_not (etk_B (evk_cl (c := c__law_is_rule) (dds := []) (Ψ := fun d O' => d = .bl (isRuleL ts (pcs c)) ∧ O' = [(p, OO.dct (colsL ts))]) (ea_cons (ev_var (d := .str c) rfl) (ea_cons (ev_var (d := .adr p) rfl) ea_nil)) (fun _ => .nil) fun ds O1 ⟨w1, w2⟩ => ?cl) fun d O' ⟨w1, w2⟩ => ⟨_, w1, rfl, w2⟩)) (fun O' ⟨w1, w2⟩ => ?yes) fun O' ⟨w1, w2⟩ => ?no))
      case cl =>
        subst w1 w2
        exact ⟨(p, ts, c), [], rfl, .refl _, co, fun d O' ⟨z1, z2⟩ => ⟨z1, by rw [z2]; rfl⟩, fun _ _ _ _ _ _ _ _ _ _ _ _ ⟨_, z, _⟩ => z.elim⟩
      case yes =>
        subst w2
        refine rf (N := N) ?_ rfl
        rw [scan_rule hb]
        have : isRuleL ts (pcs c) = false := by simpa using w1.symm
        rw [this]; rfl
      case no =>
        subst w2
        refine nx_next (hN _ _ ⟨_, _, _, true, ts, rfl, rfl, by omega, ?_⟩)
        rw [hsc, scan_rule hb]
        have : isRuleL ts (pcs c) = true := by simpa using w1.symm
        rw [this]; rfl
    · have hb : isT c = true := by simpa using hb
      have hlen : ∀ {Γ' : List (Option D)}, Γ'[4]? = some (some (.lst ((pcs c).map .str))) → EvP B' (tCB (rLenU K) (tCons (tVar 4) tNil)) Γ' [(p, OO.dct (colsL ts))] (.int (((pcs c).map D.str).length : Nat)) := fun h => ev_cb (ea_cons (ev_var h) ea_nil) (on_lenS seqP)
      by_cases h3 : (pcs c).length < 3
      · have b3 : decide ((((pcs c).map D.str).length : Nat) < (3 : Int)) = true := by rw [List.length_map]; exact decide_eq_true (by omega)
        refine nx_ifP (b := bh || true) (et_or (et_B (ev_var rfl)) fun _ => et_or (a := true) (b := true) ((et_test (ev_op (hlen rfl) ev_cint o2_lt)).is b3) fun z => by cases z) (fun _ => rf (N := N) (scan_few hb h3) rfl) fun z => by simp at z
      · obtain ⟨n, c', cs, e2⟩ : ∃ n c' cs, l = n :: c' :: cs := by
          rw [e] at h3
          match l, h3 with
          | [], h => simp at h
          | [_], h => simp at h
          | n :: c' :: cs, _ => exact ⟨n, c', cs, rfl⟩
        subst e2
        have b3 : decide ((((pcs c).map D.str).length : Nat) < (3 : Int)) = false := by rw [List.length_map]; exact decide_eq_false (by omega)
        have i1 : ∀ {Γ' : List (Option D)} {O : Ow}, Γ'[4]? = some (some (.lst ((pcs c).map .str))) → EvP B' (tOp (rIxU K) (tVar 4) (tC (.int 1))) Γ' O (.str n) := fun h => ev_op (ev_var h) ev_cint (o2_ixS seqP (by rw [e]; exact atI_nat (j := 1) rfl))
        have d1 : ∀ {B' : Bs} {Γ' : List (Option D)} {O : Ow}, Γ'[4]? = some (some (.lst ((pcs c).map .str))) → EvP B' (tSl (rSlU K) (tVar 4) (tPart (tC (.int 1))) tNoPart) Γ' O (.lst ((n :: c' :: cs).map .str)) := fun h => (ev_slL (ev_var h) (eo_some ev_cint) eo_none (l := (pcs c).map .str) (.inl rfl)).is (by
          refine congrArg D.lst ((cut_from (a := 1)).trans ?_)
          rw [e]; rfl)
        have d2 : ∀ {B' : Bs} {Γ' : List (Option D)} {O : Ow}, Γ'[4]? = some (some (.lst ((pcs c).map .str))) → EvP B' (tSl (rSlU K) (tVar 4) (tPart (tC (.int 2))) tNoPart) Γ' O (.lst ((c' :: cs).map .str)) := fun h => (ev_slL (ev_var h) (eo_some ev_cint) eo_none (l := (pcs c).map .str) (.inl rfl)).is (by
          refine congrArg D.lst ((cut_from (a := 2)).trans ?_)
          rw [e]; rfl)
        have hsct := scan_table (ps := (parts x).drop (i + 1)) (ts := ts) (bh := bh) hb e
        have ln : (c' :: cs).length ≤ 3901 := by rw [e] at pcn; simp at pcn ⊢; omega
        have tok : ∀ q ∈ n :: c' :: cs, okS q := fun q hq => pok q (by rw [e]; exact List.mem_cons_of_mem _ hq)
        have hin : ((valD (colsL ts) (.inr n)).isSome = true) ↔ n ∈ ts.map (·.1) := by
          rw [valD_colsL]
          cases e3 : ts.lookup n with
          | none => exact ⟨fun z => (by cases z), fun z => absurd z (lookup_none.mp e3)⟩
          | some v => exact ⟨fun _ => Classical.byContradiction fun z => (by rw [lookup_none.mpr z] at e3; cases e3), fun _ => rfl⟩
        refine nx_ifP (b := bh || (decide ((((pcs c).map D.str).length : Nat) < (3 : Int)) || (valD (colsL ts) (.inr n)).isSome)) (et_or (et_B (ev_var rfl)) fun _ => et_or (et_test (ev_op (hlen rfl) ev_cint o2_lt)) fun _ => et_test (ev_op (i1 rfl) (ev_var rfl) (o2_inDS hdct))) (fun h => ?_) fun h => ?_
        · refine rf (N := N) ?_ rfl
          rw [hsct]
          rw [b3, Bool.false_or] at h
          rcases Bool.or_eq_true_iff.mp h with h | h
          · rw [h]; rfl
          · rw [decide_eq_true (hin.mp h)]; simp
        · rw [b3, Bool.false_or] at h
          obtain ⟨h1, h2⟩ := Bool.or_eq_false_iff.mp h
          have hn : n ∉ ts.map (·.1) := fun z => by rw [hin.mpr z] at h2; cases h2
          subst h1
          rw [decide_eq_false hn] at hsct
          simp only [Bool.not_false, Bool.true_and, Bool.and_self] at hsct
          refine nx_seq (nx_ifP (b := !((n :: c' :: cs).all isName)) (et_test (ev_op (ev_lcL (K := K) (l := (n :: c' :: cs).map .str) (b := fun d => match d with | .str s => !isName s | _ => false) (f := id) (d1 rfl) (.inl rfl) (gin_name (by simp)) ?len fun B3 d hd => ?item) (ev_lst ea_nil (sz rfl)) (o2_ne (d := .lst ((((n :: c' :: cs).map D.str).filter fun d => match d with | .str s => !isName s | _ => false).map id)) (e := .lst []) (pyOf_lst (n := 0) (fun d hd => ?py) (by decide)) (pyOf_strs (ls := []) fun _ z => by cases z) ?iff))) (fun ha => ?bad) fun ha => ?good)
          case len => rw [List.length_map]; exact big_of (by simp at ln ⊢; omega)
          case item =>
            obtain ⟨s, hs, rfl⟩ := List.mem_map.mp hd
            exact ⟨_, gt_name, et_not (et_B (evp_cl (c := c__law_is_title) (d := .bl (isName s)) s (ea_cons (ev_var rfl) ea_nil) rfl rfl (tok s hs) (fun _ _ z => z) fun _ _ _ z => z)), fun _ => ev_var rfl⟩
          case py =>
            rw [List.map_id] at hd
            obtain ⟨s, hs, rfl⟩ := List.mem_map.mp (List.mem_filter.mp hd).1
            exact ⟨(tok s hs).1, Nat.le_refl _⟩
          case iff =>
            rw [List.map_id]
            constructor
            · intro z z2
              have z2 : ((n :: c' :: cs).map D.str).filter _ = [] := D.lst.inj z2
              have : (n :: c' :: cs).all isName = true := by
                rw [List.all_eq_true]
                intro s hs
                have := List.filter_eq_nil_iff.mp z2 (.str s) (List.mem_map.mpr ⟨s, hs, rfl⟩)
                have : ¬ (!isName s) = true := this
                simpa using this
              rw [this] at z; cases z
            · intro z
              cases ea : (n :: c' :: cs).all isName with
              | false => rfl
              | true =>
                refine absurd ?_ z
                congr 1
                rw [List.filter_eq_nil_iff]
                intro d hd
                obtain ⟨s, hs, rfl⟩ := List.mem_map.mp hd
                have := List.all_eq_true.mp ea s hs
                show ¬ (!isName s) = true
                rw [this]; decide
          case bad =>
            refine rf (N := N) ?_ rfl
            rw [hsct]
            have : (n :: c' :: cs).all isName = false := by
              cases ea : (n :: c' :: cs).all isName with
              | false => rfl
              | true => rw [ea] at ha; cases ha
            rw [this]; rfl
          case good =>
            have hall : (n :: c' :: cs).all isName = true := by
              cases ea : (n :: c' :: cs).all isName with
              | true => rfl
              | false => rw [ea] at ha; cases ha
            rw [hall, Bool.true_and] at hsct
            refine nx_next ?_
            dsimp only
            have hdn := dn_nodup (c' :: cs) (c' :: cs).length (Nat.le_refl _)
            have hdl := dn_le (c' :: cs) (c' :: cs).length
            rw [List.take_length] at hdn
            have hdd : decide (((dn (c' :: cs) (c' :: cs).length : Nat) : Int) < (((c' :: cs).map D.str).length : Nat)) = !decide ((c' :: cs).Nodup) := by
              rw [List.length_map]
              by_cases q : (c' :: cs).Nodup
              · rw [decide_eq_true q, hdn.mpr q]
                exact decide_eq_false (by omega)
              · rw [decide_eq_false q]
                have : dn (c' :: cs) (c' :: cs).length ≠ (c' :: cs).length := fun z => q (hdn.mp z)
                exact decide_eq_true (by omega)
            refine nx_seq (nx_ifP (b := !decide ((c' :: cs).Nodup)) ((et_test (ev_op (ev_lenS (d2 rfl) (by omega)) (ev_cb (ea_cons (d2 rfl) ea_nil) (on_lenS (.inl (.inl rfl)))) o2_lt)).is hdd) (fun hq => ?_) fun hq => ?_)
            · refine rf (N := N) ?_ rfl
              rw [hsct]
              have : decide ((c' :: cs).Nodup) = false := by
                cases ea : decide ((c' :: cs).Nodup) with
                | false => rfl
                | true => rw [ea] at hq; cases hq
              rw [this]; rfl
            · have hq : decide ((c' :: cs).Nodup) = true := by
                cases ea : decide ((c' :: cs).Nodup) with
                | true => rfl
                | false => rw [ea] at hq; cases hq
              rw [hq, Bool.true_and] at hsct
              refine nx_next ?_
              dsimp only
              refine nx_dput (p := p) (d2 rfl) fun d O' ⟨w1, w2⟩ => ?_
              subst w1 w2
              refine ⟨ev_var rfl, .inr n, 0, _, i1 rfl, rfl, ?_, hN _ _ ⟨_, _, _, false, ts ++ [(n, c' :: cs)], by rfl, ?_, by rw [List.length_append]; simp; omega, by rw [hsc, hsct]⟩⟩
              · have : (colsL ts).length ≤ 10000 := by unfold colsL; rw [List.length_map]; omega
                exact Nat.lt_of_le_of_lt this (by rw [sizeLine_eq]; decide)
              · show [(p, OO.dct (putD (colsL ts) (.inr n) (strsD .lst (c' :: cs))))] = _
                rw [putD_colsL hn]
  · rintro Γ1 O1 ⟨c0, c1, c2, bh, ts, rfl, rfl, _, hsc⟩
    rw [List.length_map, List.drop_length] at hsc
    refine nx_next ?_
    dsimp only
    exact nx_retF (Ψ := fun d O' => d = .bl (scan (parts x) [] false) ∧ O' = []) rt ev_cbl fun d O' ⟨w1, w2⟩ => ⟨[(p, OO.dct (colsL ts))], [], by rw [w2]; rfl, by rw [w1, hsc]; rfl, rfl⟩
theorem G__law_is_book (T : Txt K mg w) : FnOk P w K mg base (L2.CX P w) 2 T.a__law_is_book T.fd__law_is_book ["wording"] c__law_is_book.sp :=
  T.F__law_is_book.ok sc__law_is_book (Con.len fun _ => rfl) fun cdv A outer s H vs Q E hr h => ⟨t__law_is_book K, w__law_is_book T hr, body_ok (t := fun _ => t__law_is_book K) (fun g B Q E hp rt _ _ => b__law_is_book g B Q hp rt) h⟩
end
end Kt
/-! X10: a text times an int; replace of written texts in a list display -/
namespace Kt
open PySem PySem.Spec PyProof.Rows L2 StX TL
def repS (a : Str) (k : Int) : Str := ⟨(List.replicate k.toNat a.cps).foldl (· ++ ·) #[]⟩
theorem foldl_rep_app (a : Array Nat) : ∀ (n : Nat) (b : Array Nat), (((List.replicate n a).foldl (· ++ ·) b)).toList = b.toList ++ (List.replicate n a.toList).flatten
  | 0, b => by simp
  | n + 1, b => by
    rw [List.replicate_succ, List.foldl_cons, foldl_rep_app a n (b ++ a), List.replicate_succ, List.flatten_cons]
    simp
theorem tl_repS (a : Str) (k : Int) : tl (repS a k) = (List.replicate k.toNat (tl a)).flatten := by
  unfold repS tl
  rw [foldl_rep_app]
  simp
theorem len_repS (a : Str) (k : Int) : (repS a k).length = a.length * k.toNat := by
  rw [len_tl, len_tl, tl_repS, List.length_flatten]
  simp
  rw [Nat.mul_comm]
theorem tx_repS {a : Str} {k : Int} {m n : Nat} (h : tx m a) (hk : k ≤ n) : tx (m * n) (repS a k) := by
  refine ⟨strOk_iff.mpr fun c hc => ?_, ?_⟩
  · rw [tl_repS] at hc
    obtain ⟨l, hl, hc⟩ := List.mem_flatten.mp hc
    rw [(List.mem_replicate.mp hl).2] at hc
    exact strOk_iff.mp h.1 c hc
  · rw [len_repS]
    exact Nat.mul_le_mul h.2 (by omega)
theorem tl_inj' {a b : Str} (h : tl a = tl b) : a = b := by
  have : a.cps = b.cps := Array.toList_inj.mp h
  cases a; cases b
  exact congrArg _ this
theorem repS_none {a : Str} {k : Int} (h : k < 1) : repS a k = Str.empty := by
  unfold repS
  have : k.toNat = 0 := by omega
  rw [this]; rfl
theorem repS_same {a : Str} {k : Int} (h1 : ¬ k < 1) (h : (k == 1 || a.length == 0) = true) : repS a k = a := by
  have : tl (repS a k) = tl a := by
    rw [tl_repS]
    rcases Bool.or_eq_true_iff.mp h with h | h
    · have : k = 1 := by simpa using h
      subst this
      simp
    · have : a.length = 0 := by simpa using h
      rw [len_tl] at this
      have : tl a = [] := List.length_eq_zero_iff.mp this
      rw [this]
      simp
  exact tl_inj' this
def rMulS : R2 := fun x y H Q => ∃ a k, x = .str a ∧ y = .int k ∧ 0 ≤ k ∧ k ≤ 1000000 ∧ a.length ≤ 1000000 ∧ a.length * k.toNat ≤ 1000000 ∧ Q (.str (repS a k)) H
theorem op_mulS {X : Cx} : OpR X (binaryOp .Mult) rMulS := by
  intro pins s σ H x y v u Q I rx ry h
  obtain ⟨a, k, rfl, rfl, k0, k1, ha, hz, q⟩ := h
  obtain ⟨t, rfl⟩ := rx
  obtain ⟨t2, rfl⟩ := ry
  have hlen : (repS a k).length ≤ sizeLine := by
    rw [len_repS]
    exact Nat.le_trans hz (by decide)
  refine PySem.P.mul_str ?_ (fun h1 _ => ?_) (fun _ _ => ?_) ?_
  · rw [decide_eq_false (by omega), decide_eq_false (by omega)]; rfl
  · have : (1000000 : Int) ≤ (2 ^ 63 - 1) / k := by
      rw [Int.le_ediv_iff_mul_le (by omega)]
      have : (1000000 : Int) * k ≤ 1000000 * 1000000 := by omega
      omega
    omega
  · unfold Builtin.Str.tooLong
    exact decide_eq_false (by
      have : sizeLine ≥ 1000000 := by decide
      omega)
  · split
    · rename_i h1
      rw [repS_none h1] at q hlen
      exact ⟨hlen, .str Str.empty, H, I.tok _, ⟨_, rfl⟩, q⟩
    · rename_i h1
      split
      · rename_i h2
        rw [repS_same h1 h2] at q
        exact ⟨.str a, H, I, ⟨t, rfl⟩, q⟩
      · exact ⟨hlen, .str (repS a k), H, I.tok _, ⟨_, rfl⟩, q⟩
section
variable {B : Bs} {O : Ow} {F F' H H' : Hp} {σ : L2.St} {Γ : List (Option D)} {p : Addr} {K : PySem.W.Frag} {D₀ : Ends}
theorem o2_mulS {a : Str} {k : Int} (k0 : 0 ≤ k) (k1 : k ≤ 1000000) (ha : a.length ≤ 1000000) (hz : a.length * k.toNat ≤ 1000000) : Op2 rMulS B O (.str a) (.int k) (.str (repS a k)) := fun F H v u s r1 r2 Q q => by
  cases r1; cases r2
  exact ⟨a, k, rfl, rfl, k0, k1, ha, hz, q _ F H (.refl s.fh) .str⟩
/-! ### replace -/
theorem mem_replS {y z : List Nat} : ∀ (n : Nat) (l : List Nat), (∀ c ∈ l, c < 0x110000) → (∀ c ∈ z, c < 0x110000) → ∀ c ∈ StrLaws.replS y z n l, c < 0x110000
  | _, [], _, _, c, hc => by rw [StrLaws.replS] at hc; cases hc
  | 0, a :: r, h, hz, c, hc => by
    have hr : ∀ c ∈ r, c < 0x110000 := fun c hc => h c (List.mem_cons_of_mem _ hc)
    rw [StrLaws.replS] at hc
    split at hc
    · rcases List.mem_append.mp hc with hc | hc
      · exact hz c hc
      · exact mem_replS _ r hr hz c hc
    · rcases List.mem_cons.mp hc with hc | hc
      · rw [hc]; exact h a List.mem_cons_self
      · exact mem_replS 0 r hr hz c hc
  | n + 1, a :: r, h, hz, c, hc => by
    rw [StrLaws.replS] at hc
    exact mem_replS n r (fun c hc => h c (List.mem_cons_of_mem _ hc)) hz c hc
theorem tx_replace {x y z : Str} {a m : Nat} (hy : 1 ≤ y.length) (h : tx a x) (k : tx m z) : tx (a + (a + 1) * m) (Txt.replace x y z) := by
  refine ⟨strOk_iff.mpr fun c hc => ?_, ?_⟩
  · have e : tl (Txt.replace x y z) = StrLaws.replS (tl y) (tl z) 0 (tl x) := StrLaws.replace_list hy
    rw [e] at hc
    exact mem_replS 0 (tl x) (strOk_iff.mp h.1) (strOk_iff.mp k.1) c hc
  · refine Nat.le_trans (TK.replace_len x y z) ?_
    have : (x.length + 1) * z.length ≤ (a + 1) * m := Nat.mul_le_mul (Nat.succ_le_succ h.2) k.2
    have := h.2
    omega
theorem ev_repl {to : TE} {x y z : Str} (ho : EvP B to Γ O (.str x)) (hb : x.length + (x.length + 1) * z.length ≤ 16777216) : EvP B (CwR.tReplC to y z) Γ O (.str (Txt.replace x y z)) := fun F σ H s e Q q =>
  ho F σ H s e _ fun v d O1 F1 H1 s1 f1 r1 p1 => by
    obtain ⟨rfl, rfl⟩ := p1
    cases r1
    exact ⟨x, rfl, hb, q _ _ _ F1 H1 s1 f1 .str ⟨rfl, rfl⟩⟩
end
/-! ### a display whose first item leaves a token out -/
section
variable {X : Cx}
/-- behind e a token is out -/
def PEt (X : Cx) (e : Expr) (t : TE) : Prop :=
  ∀ (pins : List (Addr × Obj)) (s : Shared) (σ : L2.St) (H : Hp) (Q : VK), Inv X pins σ H s → t σ H Q → wpAny (model X.prog X.w) X.A (eval e X.env) (fun v s1 => 1 ≤ s1.toks ∧ EP X pins σ Q v s1) X.xe s
theorem pE_str {x j pos} : PEt X (.Constant (.str x) j pos) (tC (.str x)) := fun _ s _ H _ I h => Calls.Constant_str ⟨Nat.succ_le_succ (Nat.zero_le _), .str x, H, I.tok _, ⟨_, rfl⟩, h⟩
theorem pE_op {op : Operator} {r : R2} {a b : Expr} {ta tb : TE} {pos : Pos} (ho : OpR X (binaryOp op) r) (ha : PE X a ta) (hb : PEt X b tb) : PEt X (.BinOp a op b pos) (tOp r ta tb) := by
  intro pins s σ H Q I h
  refine wpAny_BinOp (thn (ha.run pins s σ H _ I h) fun v s1 ⟨x, H1, I1, r1, q1⟩ => ?_)
  refine thn (hb pins s1 σ H1 _ I1 q1) fun u s2 ⟨hk, y, H2, I2, r2, q2⟩ => ?_
  exact wpAny_mono (PySem.wpAny_toks (ho pins s2 σ H2 x y v u Q I2 r1 r2 q2)) (fun w s3 q => ⟨Nat.le_trans hk q.1, q.2⟩) fun _ _ z => z.2
theorem pa_consR {e : Expr} {es : List Expr} {te : TE} {ta : TA} (ha : PEt X e te) (hr : PAT X es ta) (hs : starEach (e :: es) X.env = (false, eval e X.env) :: starEach es X.env := by rfl) : PA X (e :: es) (tCons te ta) := by
  refine ⟨fun pos pins s σ H Q I h => ?_⟩
  rw [hs]
  show wpAny _ _ (spliced ((false, eval e X.env) :: backTo pos (starEach es X.env))) _ _ s
  refine Calls.spliced_cons (thn (ha pins s σ H _ I h) fun v s1 ⟨hk, x, H1, I1, r1, q1⟩ => ?_)
  exact thn (hr pos pins s1 σ H1 _ hk I1 q1) fun us s2 ⟨xs, H2, I2, r2, q2⟩ => ⟨x :: xs, H2, I2, .cons r1 r2, q2⟩
end
end Kt
set_option maxHeartbeats 8000000
namespace Kt
open PySem PySem.Spec PyProof.Rows L2 StX TL
section
variable {B : Bs} {O : Ow} {Γ : List (Option D)} {p : Addr} {K : PySem.W.Frag} {D₀ : Ends}
/-! texts with a bound, however they are made -/
abbrev TxE (B : Bs) (te : TE) (Γ : List (Option D)) (O : Ow) (n : Nat) : Prop := EvK B te Γ O fun d O' => (∃ s, d = .str s ∧ tx n s) ∧ O' = O
abbrev TxA (B : Bs) (ta : TA) (Γ : List (Option D)) (O : Ow) (n k : Nat) : Prop := EaK B ta Γ O fun ds O' => (∃ l : List Str, ds = l.map .str ∧ l.length = k ∧ ∀ s ∈ l, tx n s) ∧ O' = O
abbrev TxL (B : Bs) (te : TE) (Γ : List (Option D)) (O : Ow) (n k : Nat) : Prop := EvK B te Γ O fun d O' => (∃ l : List Str, d = .lst (l.map .str) ∧ l.length ≤ k ∧ ∀ s ∈ l, tx n s) ∧ O' = O
theorem tx_of {n : Nat} {s : Str} (h : (PyData.strOk s && Nat.ble s.length n) = true) : tx n s := by
  obtain ⟨h1, h2⟩ := Bool.and_eq_true_iff.mp h
  exact ⟨h1, Nat.le_of_ble_eq_true h2⟩
theorem txe_c {s : Str} {n : Nat} (h : (PyData.strOk s && Nat.ble s.length n) = true) : TxE B (tC (.str s)) Γ O n := (ev_cstr (i := s)).imp fun d O' ⟨e1, e2⟩ => ⟨⟨s, e1, tx_of h⟩, e2⟩
theorem txe_v {s : Str} {n i : Nat} (h : Γ[i]? = some (some (.str s))) (k : tx n s) : TxE B (tVar i) Γ O n := (ev_var h).imp fun d O' ⟨e1, e2⟩ => ⟨⟨s, e1, k⟩, e2⟩
theorem txe_add {ta tb : TE} {m n : Nat} (ha : TxE B ta Γ O m) (hb : TxE B tb Γ O n) (hz : m + n ≤ 100000) : TxE B (tOp (rAddU K) ta tb) Γ O (m + n) :=
  evk_op (Φ2 := fun _ d O' => (∃ s, d = .str s ∧ tx n s) ∧ O' = O) ha (fun _ _ ⟨_, e⟩ => by rw [e]; exact hb) fun x y O1 O2 ⟨⟨a, e1, t1⟩, _⟩ ⟨⟨b, e2, t2⟩, e3⟩ => by
    subst e1 e2
    exact ⟨.str (a ++ b), o2_addS (Nat.le_trans (Nat.add_le_add t1.2 t2.2) (Nat.le_trans hz (by decide))), ⟨a ++ b, rfl, tx_cat t1 t2⟩, e3⟩
theorem txe_mul {ta tb : TE} {m n : Nat} {i : Int} (ha : TxE B ta Γ O m) (hb : EvP B tb Γ O (.int i)) (h0 : 0 ≤ i) (h1 : i ≤ n) (hz : (Nat.ble (m * n) 100000 && Nat.ble m 100000 && Nat.ble n 100000) = true) : TxE B (tOp rMulS ta tb) Γ O (m * n) :=
  evk_op (Φ2 := fun _ d O' => d = .int i ∧ O' = O) ha (fun _ _ ⟨_, e⟩ => by rw [e]; exact hb) fun x y O1 O2 ⟨⟨a, e1, t1⟩, _⟩ ⟨e2, e3⟩ => by
    subst e1 e2
    obtain ⟨hz, z3⟩ := Bool.and_eq_true_iff.mp hz
    obtain ⟨z1, z2⟩ := Bool.and_eq_true_iff.mp hz
    have z1 := Nat.le_of_ble_eq_true z1
    have z2 := Nat.le_of_ble_eq_true z2
    have z3 := Nat.le_of_ble_eq_true z3
    have h2 : a.length * i.toNat ≤ m * n := Nat.mul_le_mul t1.2 (by omega)
    have h3 := t1.2
    exact ⟨.str (repS a i), o2_mulS h0 (by omega) (by omega) (by omega), ⟨_, rfl, tx_repS t1 h1⟩, e3⟩
theorem txe_repl {te : TE} {y z : Str} {n m : Nat} (hy : Nat.ble 1 y.length = true) (hz : (PyData.strOk z && Nat.ble z.length m) = true) (h : TxE B te Γ O n) (hb : n + (n + 1) * m ≤ 100000) : TxE B (CwR.tReplC te y z) Γ O (n + (n + 1) * m) := fun F σ H s e Q q =>
  h F σ H s e _ fun v d O1 F1 H1 s1 f1 r1 p1 => by
    obtain ⟨⟨x, e1, t⟩, e2⟩ := p1
    subst e1 e2
    cases r1
    have tz := tx_of hz
    have l1 : (x.length + 1) * z.length ≤ (n + 1) * m := Nat.mul_le_mul (Nat.succ_le_succ t.2) tz.2
    have l2 := t.2
    exact ⟨x, rfl, by omega, q _ _ _ F1 H1 s1 f1 .str ⟨⟨_, rfl, tx_replace (Nat.le_of_ble_eq_true hy) t tz⟩, rfl⟩⟩
theorem txe_join {te : TE} {a : Str} {n m k : Nat} (ha : (PyData.strOk a && Nat.ble a.length m) = true) (h : TxL B te Γ O n k) (hz : k * (n + m) ≤ 100000) : TxE B (tM1 (rJoin K) (tC (.str a)) te) Γ O (k * (n + m)) :=
  evk_join ev_cstr h fun d O' ⟨⟨l, e1, hl, hs⟩, e2⟩ => by
    subst e1 e2
    obtain ⟨t1, t2⟩ := tx_join (tx_of ha) hs hl
    exact ⟨l, .inl (.inl rfl), Nat.le_trans t2 (Nat.le_trans hz (by decide)), ⟨_, rfl, t1⟩, rfl⟩
theorem txa_nil {n : Nat} : TxA B tNil Γ O n 0 := fun F σ H s e Q q => ea_nil F σ H s e Q fun vs ds O' F' H' s' f r ⟨e1, e2⟩ => q vs ds O' F' H' s' f r ⟨⟨[], e1, rfl, fun _ z => by cases z⟩, e2⟩
theorem txa_cons {te : TE} {ta : TA} {m n k : Nat} (h : TxE B te Γ O m) (hm : m ≤ n) (hr : TxA B ta Γ O n k) : TxA B (tCons te ta) Γ O n (k + 1) :=
  eak_cons (Φ2 := fun d ds O' => (∃ l : List Str, ds = l.map .str ∧ l.length = k ∧ ∀ s ∈ l, tx n s) ∧ O' = O) h (fun d O1 ⟨_, e⟩ => by rw [e]; exact hr) fun d ds O1 O2 ⟨⟨s, e1, t⟩, _⟩ ⟨⟨l, e2, hl, hs⟩, e3⟩ => by
    subst e1 e2
    exact ⟨⟨s :: l, rfl, by rw [List.length_cons, hl], fun x hx => (List.mem_cons.mp hx).elim (fun z => by rw [z]; exact t.le hm) (hs x)⟩, e3⟩
theorem txl_v {l : List Str} {n k i : Nat} (h : Γ[i]? = some (some (.lst (l.map .str)))) (hs : ∀ s ∈ l, tx n s) (hl : l.length ≤ k) : TxL B (tVar i) Γ O n k := (ev_var h).imp fun d O' ⟨e1, e2⟩ => ⟨⟨l, e1, hl, hs⟩, e2⟩
theorem txl_rev {l : List Str} {n k i : Nat} (h : Γ[i]? = some (some (.lst (l.map .str)))) (hs : ∀ s ∈ l, tx n s) (hl : l.length ≤ k) : TxL B (tRevL K (tVar i)) Γ O n k := (ev_revL (ev_var h) (.inl rfl)).imp fun d O' ⟨e1, e2⟩ => ⟨⟨l.reverse, by rw [e1, List.map_reverse], by rw [List.length_reverse]; exact hl, fun s h => hs s (List.mem_reverse.mp h)⟩, e2⟩
theorem txl_one {l : List Str} {n k i : Nat} (h : Γ[i]? = some (some (.lst (l.map .str)))) (hs : ∀ s ∈ l, tx n s) (hl : l.length ≤ k) : TxL B (tSl (rSlU K) (tVar i) tNoPart (tPart (tC (.int 1)))) Γ O n k := (ev_slL (ev_var h) eo_none (eo_some ev_cint) (l := l.map .str) (.inl rfl)).imp fun d O' ⟨e1, e2⟩ => ⟨⟨l.take 1, by rw [e1]; refine congrArg D.lst ((cut_to (b := 1)).trans ?_); exact List.map_take.symm, Nat.le_trans (List.length_take_le' _ _) hl, fun s h => hs s (List.mem_of_mem_take h)⟩, e2⟩
theorem txl_add {ta tb : TE} {n k j : Nat} (ha : TxL B ta Γ O n k) (hb : TxL B tb Γ O n j) (hz : k + j ≤ 100000) : TxL B (tOp (rAddU K) ta tb) Γ O n (k + j) :=
  evk_op (Φ2 := fun _ d O' => (∃ l : List Str, d = .lst (l.map .str) ∧ l.length ≤ j ∧ ∀ s ∈ l, tx n s) ∧ O' = O) ha (fun _ _ ⟨_, e⟩ => by rw [e]; exact hb) fun x y O1 O2 ⟨⟨a, e1, l1, t1⟩, _⟩ ⟨⟨b, e2, l2, t2⟩, e3⟩ => by
    subst e1 e2
    exact ⟨_, o2_addL (by rw [List.length_map, List.length_map]; exact Nat.le_trans (Nat.add_le_add l1 l2) (Nat.le_trans hz (by decide))), ⟨a ++ b, by rw [List.map_append], by rw [List.length_append]; omega, fun s h => (List.mem_append.mp h).elim (t1 s) (t2 s)⟩, e3⟩
theorem txl_lc {g : TG} {te : TE} {vs : List Nat} {l : List Str} {n m k i : Nat} (h : Γ[i]? = some (some (.lst (l.map .str)))) (hs : ∀ s ∈ l, tx n s) (hl : l.length ≤ k) (hgi : GIn g vs)
    (ht : ∀ B' s, tx n s → ∃ Γ2, GtP K g (.str s) (wipeD Γ vs) Γ2 ∧ TxE B' te Γ2 O m) (hz : k ≤ 100000 := by decide) : TxL B (tLc (iList K (tVar i)) g tYes te vs) Γ O m k :=
  (evk_lcX (K := K) (L := m) (f := D.str) (ls := l) (ev_var h) hgi (Nat.le_trans hl (Nat.le_trans hz (by decide))) fun B' s hm => ht B' s (hs s hm)).imp fun d O' ⟨⟨ys, e1, e2, e3⟩, e4⟩ => ⟨⟨ys, e1, by rw [e2]; exact hl, e3⟩, e4⟩
theorem txl_rng8 {g : TG} {te : TE} {vs : List Nat} {m : Nat} (hgi : GIn g vs) (ht : ∀ B' (i : Int), 0 ≤ i → i < 8 → ∃ Γ2, GtP K g (.int i) (wipeD Γ vs) Γ2 ∧ TxE B' te Γ2 O m) : TxL B (tLc (iRng1 (tCons (tC (.int 8)) tNil)) g tYes te vs) Γ O m 8 := by
  refine evk_lc (K := K) (ei_range1 (ea_cons ev_cint ea_nil) (by decide) (by decide)) (fun i acc O1 => (∃ ys : List Str, acc = ys.map .str ∧ ys.length = i ∧ ∀ y ∈ ys, tx m y) ∧ O1 = O) ⟨⟨[], rfl, rfl, by simp⟩, rfl⟩ hgi ?step ?len ?done
  case step =>
    rintro B' i acc O1 up lt ⟨⟨ys, rfl, rfl, hy⟩, rfl⟩
    have lt : ys.length < 8 := lt
    obtain ⟨Γ2, hg, ht⟩ := ht B' (ys.length : Int) (by omega) (by omega)
    refine ⟨Γ2, hg, et_yes.imp fun b O2 ⟨e1, e2⟩ => ?_⟩
    subst e1 e2
    refine ⟨fun z => (by cases z), fun _ => ht.imp fun d O3 ⟨⟨y, e1, ty⟩, e2⟩ => ⟨⟨ys ++ [y], by rw [e1, ← strs_snoc], by simp, fun z hz => ?_⟩, e2⟩⟩
    rcases List.mem_append.mp hz with hz | hz
    · exact hy z hz
    · have : z = y := by simpa using hz
      rw [this]; exact ty
  case len =>
    rintro i acc O1 ⟨⟨ys, rfl, rfl, _⟩, _⟩ hi
    have hi : ys.length ≤ 8 := hi
    rw [List.length_map]
    have : ys.length ≤ 8 := by omega
    exact Nat.le_trans this (sz rfl)
  case done =>
    rintro acc O1 ⟨⟨ys, rfl, hl, hy⟩, rfl⟩
    exact ⟨⟨ys, rfl, Nat.le_of_eq hl, hy⟩, rfl⟩
theorem nx_menu0 {ta : TA} {k i : Nat} (ha : TxA B ta Γ O 3000 k) (hz : k ≤ 1000) (next : ∀ M : List Str, (∀ s ∈ M, tx 3000 s) → M.length = k → NX B D₀.nx (Γ.set i (some (.lst (M.map .str)))) O) : NX B (tAsg (tLst ta) (gName i) D₀) Γ O :=
  nx_asg (evk_lst (Ψ := fun d O' => (∃ l : List Str, d = .lst (l.map .str) ∧ l.length = k ∧ ∀ s ∈ l, tx 3000 s) ∧ O' = O) ha fun ds O' ⟨⟨l, e1, hl, hs⟩, e2⟩ => ⟨by rw [e1, List.length_map, hl]; exact Nat.le_trans hz (by decide), ⟨l, by rw [e1], hl, hs⟩, e2⟩) fun d O' ⟨⟨l, e1, hl, hs⟩, e2⟩ => by
    subst e1 e2
    exact next l hs hl
theorem nx_menu {ta : TA} {k i n : Nat} {M : List Str} (h : Γ[i]? = some (some (.lst (M.map .str)))) (hM : ∀ s ∈ M, tx 3000 s) (hl : M.length = n) (ha : TxA B ta Γ O 3000 k) (hz : n + k ≤ 1000) (next : ∀ M : List Str, (∀ s ∈ M, tx 3000 s) → M.length = n + k → NX B D₀.nx (Γ.set i (some (.lst (M.map .str)))) O) : NX B (tAsg (tOp (rAddU K) (tVar i) (tLst ta)) (gName i) D₀) Γ O :=
  nx_asg (evk_opR (Ψ := fun d O' => (∃ l : List Str, d = .lst (l.map .str) ∧ l.length = n + k ∧ ∀ s ∈ l, tx 3000 s) ∧ O' = O) (ev_var h) (evk_lst (Ψ := fun d O' => (∃ l : List Str, d = .lst (l.map .str) ∧ l.length = k ∧ ∀ s ∈ l, tx 3000 s) ∧ O' = O) ha fun ds O' ⟨⟨l, e1, hl, hs⟩, e2⟩ => ⟨by rw [e1, List.length_map, hl]; exact Nat.le_trans (show k ≤ 1000 by omega) (by decide), ⟨l, by rw [e1], hl, hs⟩, e2⟩) fun y O2 ⟨⟨l, e1, h1, h2⟩, e2⟩ => by
      subst e1 e2
      exact ⟨_, o2_addL (by rw [List.length_map, List.length_map, hl, h1]; exact Nat.le_trans hz (by decide)), ⟨M ++ l, by rw [List.map_append], by rw [List.length_append, hl, h1], fun s hs => (List.mem_append.mp hs).elim (hM s) (h2 s)⟩, rfl⟩) fun d O' ⟨⟨l, e1, hl, hs⟩, e2⟩ => by
    subst e1 e2
    exact next l hs hl
end
def c__law_odd_book : Con where
  G := Addr × Nat × Str
  ds := fun g => [.adr g.1, .str g.2.2]
  own := fun g => [(g.1, .purse g.2.1)]
  pre := fun g => g.2.1 < 10000000 ∧ tx 1000 g.2.2
  post := fun g d O' => (∃ x, d = .str x ∧ tx 3000 x) ∧ O' = [(g.1, .purse (g.2.1 + 3))]
section
variable {P : Program} {w : World} {K : PySem.W.Frag} {mg : Str → Option Value} {base : Heap}
/-! ### _law_odd_book -/
abbrev s__law_odd_book : Stmt := top 36
abbrev N__law_odd_book : List Str := ["purse", "wording", "menu", "head", "lot", "many", "at", "title"]
theorem sc__law_odd_book : FnScope N__law_odd_book ["purse", "wording"] (defScope s__law_odd_book) := ⟨rfl, rfl, rfl, by decide +kernel, rfl, by decide +kernel, by decide +kernel⟩
def t__law_odd_book (K : PySem.W.Frag) : TS := (tSeq (tAsg (tLst (tCons (tC (.str "")) (tCons (tC (.str " ")) (tCons (tC (.str "table")) (tCons (tC (.str "table p")) (tCons (tC (.str "table p ")) (tCons (tC (.str "table p id")) (tCons (tC (.str "table p  id")) tNil)))))))) (gName 2)) (tSeq (tAsg (tOp (rAddU K) (tVar 2) (tLst (tCons (tC (.str "table p id id")) (tCons (tC (.str "table P id")) (tCons (tC (.str "table p Id")) (tCons (tC (.str "table p i1")) tNil)))))) (gName 2)) (tSeq (tAsg (tOp (rAddU K) (tVar 2) (tLst (tCons (tC (.str "table p id town")) (tCons (tC (.str "table abcdefgh a")) (tCons (tC (.str "table abcdefghi a")) (tCons (tC (.str "table p abcdefghi")) tNil)))))) (gName 2)) (tSeq (tAsg (tOp (rAddU K) (tVar 2) (tLst (tCons (tC (.str "table p id; table p id")) tNil))) (gName 2)) (tSeq (tAsg (tOp (rAddU K) (tVar 2) (tLst (tCons (tC (.str "table p id; table q id")) (tCons (tC (.str "table p id;table q id")) (tCons (tC (.str "table p id; ")) tNil))))) (gName 2)) (tSeq (tAsg (tOp (rAddU K) (tVar 2) (tLst (tCons (tC (.str "; table p id")) (tCons (tC (.str "table p id;")) (tCons (tC (.str "table table table")) tNil))))) (gName 2)) (tSeq (tAsg (tC (.str "table p id town")) (gName 3)) (tSeq (tAsg (tOp (rAddU K) (tVar 2) (tLst (tCons (tOp (rAddU K) (tVar 3) (tC (.str "; key p"))) (tCons (tOp (rAddU K) (tVar 3) (tC (.str "; key p id"))) (tCons (tOp (rAddU K) (tVar 3) (tC (.str "; key p id id"))) tNil))))) (gName 2)) (tSeq (tAsg (tOp (rAddU K) (tVar 2) (tLst (tCons (tOp (rAddU K) (tVar 3) (tC (.str "; key p town id"))) (tCons (tOp (rAddU K) (tVar 3) (tC (.str "; key q id"))) (tCons (tOp (rAddU K) (tVar 3) (tC (.str "; key"))) tNil))))) (gName 2)) (tSeq (tAsg (tOp (rAddU K) (tVar 2) (tLst (tCons (tOp (rAddU K) (tVar 3) (tC (.str "; key p no"))) (tCons (tOp (rAddU K) (tVar 3) (tC (.str "; key p id > town"))) (tCons (tOp (rAddU K) (tVar 3) (tC (.str "; settles p id > town"))) tNil))))) (gName 2)) (tSeq (tAsg (tOp (rAddU K) (tVar 2) (tLst (tCons (tOp (rAddU K) (tVar 3) (tC (.str "; settles p > town"))) (tCons (tOp (rAddU K) (tVar 3) (tC (.str "; settles p"))) tNil)))) (gName 2)) (tSeq (tAsg (tOp (rAddU K) (tVar 2) (tLst (tCons (tOp (rAddU K) (tVar 3) (tC (.str "; settles p id town"))) (tCons (tOp (rAddU K) (tVar 3) (tC (.str "; settles p id >"))) (tCons (tOp (rAddU K) (tVar 3) (tC (.str "; settles p > "))) tNil))))) (gName 2)) (tSeq (tAsg (tOp (rAddU K) (tVar 2) (tLst (tCons (tOp (rAddU K) (tVar 3) (tC (.str "; settles p id > town id"))) tNil))) (gName 2)) (tSeq (tAsg (tOp (rAddU K) (tVar 2) (tLst (tCons (tOp (rAddU K) (tVar 3) (tC (.str "; settles p id > no"))) (tCons (tOp (rAddU K) (tVar 3) (tC (.str "; settles p no > id"))) tNil)))) (gName 2)) (tSeq (tAsg (tOp (rAddU K) (tVar 2) (tLst (tCons (tOp (rAddU K) (tVar 3) (tC (.str "; settles q > id"))) (tCons (tOp (rAddU K) (tVar 3) (tC (.str "; settles p id  > town"))) tNil)))) (gName 2)) (tSeq (tAsg (tOp (rAddU K) (tVar 2) (tLst (tCons (tOp (rAddU K) (tVar 3) (tC (.str "; settles p id > id"))) (tCons (tOp (rAddU K) (tVar 3) (tC (.str "; settles p > id > town"))) tNil)))) (gName 2)) (tSeq (tAsg (tOp (rAddU K) (tVar 2) (tLst (tCons (tOp (rAddU K) (tVar 3) (tC (.str "; Key p id"))) (tCons (tOp (rAddU K) (tVar 3) (tC (.str "; keys p id"))) (tCons (tOp (rAddU K) (tVar 3) (tC (.str "; key  p id"))) tNil))))) (gName 2)) (tSeq (tAsg (tOp (rAddU K) (tVar 2) (tLst (tCons (tOp (rAddU K) (tC (.str "key p id; ")) (tVar 3)) (tCons (tOp (rAddU K) (tVar 3) (tC (.str "; key p id; table q id"))) tNil)))) (gName 2)) (tSeq (tAsg (tOp (rAddU K) (tVar 2) (tLst (tCons (tOp (rAddU K) (tVar 3) (tC (.str "; key p id; key p id"))) (tCons (tOp (rAddU K) (tVar 3) (tC (.str "; key p id; settles p id > town"))) tNil)))) (gName 2)) (tSeq (tAsg (tLc (iRng1 (tCons (tOp (rAddU K) (tC (.int 7)) (tCl c__law_coin [] W0 (tCons (tVar 0) (tCons (tC (.int 20)) tNil)))) tNil)) (gName 6) tYes (tOp (rIxU K) (tC (.str "abcdefghijklmnopqrstuvwxyz")) (tVar 6)) [6]) (gName 4)) (tSeq (tAsg (tOp (rAddU K) (tVar 2) (tLst (tCons (tM1 (rJoin K) (tC (.str "; ")) (tLc (iList K (tVar 4)) (gName 7) tYes (tOp (rAddU K) (tOp (rAddU K) (tC (.str "table ")) (tVar 7)) (tC (.str " id"))) [7])) (tCons (tOp (rAddU K) (tC (.str "table p ")) (tM1 (rJoin K) (tC (.str " ")) (tVar 4))) tNil)))) (gName 2)) (tSeq (tAsg (tOp (rAddU K) (tVar 2) (tLst (tCons (tOp (rAddU K) (tOp (rAddU K) (tOp (rAddU K) (tC (.str "table p ")) (tM1 (rJoin K) (tC (.str " ")) (tVar 4))) (tC (.str "; key p "))) (tM1 (rJoin K) (tC (.str " ")) (tRevL K (tVar 4)))) (tCons (tOp (rAddU K) (tC (.str "table p ")) (tM1 (rJoin K) (tC (.str " ")) (tOp (rAddU K) (tVar 4) (tSl (rSlU K) (tVar 4) tNoPart (tPart (tC (.int 1))))))) tNil)))) (gName 2)) (tSeq (tAsg (tOp (rAddU K) (tC (.int 1)) (tCl c__law_coin [] W0 (tCons (tVar 0) (tCons (tC (.int 150)) tNil)))) (gName 5)) (tSeq (tAsg (tOp (rAddU K) (tVar 2) (tLst (tCons (tOp (rAddU K) (tVar 3) (tOp rMulS (tC (.str "; key p id")) (tVar 5))) tNil))) (gName 2)) (tSeq (tAsg (tOp (rAddU K) (tVar 2) (tLst (tCons (tOp (rAddU K) (tC (.str "table p ")) (tM1 (rJoin K) (tC (.str " ")) (tLc (iRng1 (tCons (tC (.int 8)) tNil)) (gName 6) tYes (tOp rMulS (tC (.str "a")) (tOp (rAddU K) (tC (.int 1)) (tVar 6))) [6]))) tNil))) (gName 2)) (tSeq (tAsg (tOp (rAddU K) (tVar 2) (tLst (tCons (tOp (rAddU K) (tOp (rAddU K) (tVar 3) (tC (.str "; key p"))) (tOp rMulS (tC (.str " id")) (tVar 5))) tNil))) (gName 2)) (tSeq (tAsg (tOp (rAddU K) (tVar 2) (tLst (tCons (tOp (rAddU K) (tVar 1) (tC (.str "; key zz"))) (tCons (tOp (rAddU K) (tVar 1) (tC (.str "; table zz id"))) (tCons (CwR.tReplC (tVar 1) "; " ";") tNil))))) (gName 2)) (tSeq (tAsg (tOp (rAddU K) (tVar 2) (tLst (tCons (tOp (rAddU K) (tVar 1) (tC (.str " "))) (tCons (CwR.tReplC (tVar 1) " > " " ") tNil)))) (gName 2)) (tRet (tOp (rIxU K) (tVar 2) (tCl c__law_coin [] W0 (tCons (tVar 0) (tCons (tCB (rLenU K) (tCons (tVar 2) tNil)) tNil)))))))))))))))))))))))))))))))))
theorem w__law_odd_book {f : Addr} {cdv : Value} {A : Around} {outer : List PySem.Env} {s : Shared} {H : Hp} {E : XK} (T : Txt K mg w) (hr : Room 1 (A.deeper (envOfC "_law_odd_book" (defScope s__law_odd_book) s.heap.objs.size f cdv))) : PSs (cxOf (L2.CX P w) P w K mg base N__law_odd_book "_law_odd_book" (defScope s__law_odd_book) f cdv A outer s H E) (defBody s__law_odd_book) (t__law_odd_book K) := by
  have sc := sc__law_odd_book
  exact PSs.nox ((pss_cons (ps_set (i := 2) sc.nd rfl (Or.inl rfl) (pe_lst (pa_cons pe_str (pa_cons pe_str (pa_cons pe_str (pa_cons pe_str (pa_cons pe_str (pa_cons pe_str (pa_cons pe_str pa_nil))))))))) (pss_cons (ps_set (i := 2) sc.nd rfl (Or.inl rfl) (pe_op op_addU (pv 2) (pe_lst (pa_cons pe_str (pa_cons pe_str (pa_cons pe_str (pa_cons pe_str pa_nil))))))) (pss_cons (ps_set (i := 2) sc.nd rfl (Or.inl rfl) (pe_op op_addU (pv 2) (pe_lst (pa_cons pe_str (pa_cons pe_str (pa_cons pe_str (pa_cons pe_str pa_nil))))))) (pss_cons (ps_set (i := 2) sc.nd rfl (Or.inl rfl) (pe_op op_addU (pv 2) (pe_lst (pa_cons pe_str pa_nil)))) (pss_cons (ps_set (i := 2) sc.nd rfl (Or.inl rfl) (pe_op op_addU (pv 2) (pe_lst (pa_cons pe_str (pa_cons pe_str (pa_cons pe_str pa_nil)))))) (pss_cons (ps_set (i := 2) sc.nd rfl (Or.inl rfl) (pe_op op_addU (pv 2) (pe_lst (pa_cons pe_str (pa_cons pe_str (pa_cons pe_str pa_nil)))))) (pss_cons (ps_set (i := 3) sc.nd rfl (Or.inl rfl) pe_str) (pss_cons (ps_set (i := 2) sc.nd rfl (Or.inl rfl) (pe_op op_addU (pv 2) (pe_lst (pa_cons (pe_op op_addU (pv 3) pe_str) (pa_cons (pe_op op_addU (pv 3) pe_str) (pa_cons (pe_op op_addU (pv 3) pe_str) pa_nil)))))) (pss_cons (ps_set (i := 2) sc.nd rfl (Or.inl rfl) (pe_op op_addU (pv 2) (pe_lst (pa_cons (pe_op op_addU (pv 3) pe_str) (pa_cons (pe_op op_addU (pv 3) pe_str) (pa_cons (pe_op op_addU (pv 3) pe_str) pa_nil)))))) (pss_cons (ps_set (i := 2) sc.nd rfl (Or.inl rfl) (pe_op op_addU (pv 2) (pe_lst (pa_cons (pe_op op_addU (pv 3) pe_str) (pa_cons (pe_op op_addU (pv 3) pe_str) (pa_cons (pe_op op_addU (pv 3) pe_str) pa_nil)))))) (pss_cons (ps_set (i := 2) sc.nd rfl (Or.inl rfl) (pe_op op_addU (pv 2) (pe_lst (pa_cons (pe_op op_addU (pv 3) pe_str) (pa_cons (pe_op op_addU (pv 3) pe_str) pa_nil))))) (pss_cons (ps_set (i := 2) sc.nd rfl (Or.inl rfl) (pe_op op_addU (pv 2) (pe_lst (pa_cons (pe_op op_addU (pv 3) pe_str) (pa_cons (pe_op op_addU (pv 3) pe_str) (pa_cons (pe_op op_addU (pv 3) pe_str) pa_nil)))))) (pss_cons (ps_set (i := 2) sc.nd rfl (Or.inl rfl) (pe_op op_addU (pv 2) (pe_lst (pa_cons (pe_op op_addU (pv 3) pe_str) pa_nil)))) (pss_cons (ps_set (i := 2) sc.nd rfl (Or.inl rfl) (pe_op op_addU (pv 2) (pe_lst (pa_cons (pe_op op_addU (pv 3) pe_str) (pa_cons (pe_op op_addU (pv 3) pe_str) pa_nil))))) (pss_cons (ps_set (i := 2) sc.nd rfl (Or.inl rfl) (pe_op op_addU (pv 2) (pe_lst (pa_cons (pe_op op_addU (pv 3) pe_str) (pa_cons (pe_op op_addU (pv 3) pe_str) pa_nil))))) (pss_cons (ps_set (i := 2) sc.nd rfl (Or.inl rfl) (pe_op op_addU (pv 2) (pe_lst (pa_cons (pe_op op_addU (pv 3) pe_str) (pa_cons (pe_op op_addU (pv 3) pe_str) pa_nil))))) (pss_cons (ps_set (i := 2) sc.nd rfl (Or.inl rfl) (pe_op op_addU (pv 2) (pe_lst (pa_cons (pe_op op_addU (pv 3) pe_str) (pa_cons (pe_op op_addU (pv 3) pe_str) (pa_cons (pe_op op_addU (pv 3) pe_str) pa_nil)))))) (pss_cons (ps_set (i := 2) sc.nd rfl (Or.inl rfl) (pe_op op_addU (pv 2) (pe_lst (pa_cons (pe_op op_addU pe_str (pv 3)) (pa_cons (pe_op op_addU (pv 3) pe_str) pa_nil))))) (pss_cons (ps_set (i := 2) sc.nd rfl (Or.inl rfl) (pe_op op_addU (pv 2) (pe_lst (pa_cons (pe_op op_addU (pv 3) pe_str) (pa_cons (pe_op op_addU (pv 3) pe_str) pa_nil))))) (pss_cons (ps_setLc (i := 4) (own := [("at", 6)]) (by rfl) sc.nd rfl rfl (sw_true rfl rfl rfl (by decide +kernel)) (pi_range1 (by rfl) T.n_range (pa_cons (pe_op op_addU pe_int (pe_cl (W := W0) (G__law_coin T) (hr.mono (by decide)) (by rfl) T.g__law_coin T.k__law_coin T.b__law_coin .nil takes0 (pa_cons (pv 0) (pa_cons pe_int pa_nil)))) pa_nil)) (blkOk_by (own := [("at", 6)]) (N := N__law_odd_book) (sc := defScope s__law_odd_book) (by decide +kernel)) (fun _ _ _ _ _ => (pg_name (i := 6) sc.nd rfl (by first | exact Or.inl rfl | exact Or.inr rfl))) (fun _ _ _ _ _ => pts_nil) (fun _ _ _ _ _ => (pe_ix (ix_U (hu_of hr)) pe_str (pv 6) (fun _ _ => rfl)))) (pss_cons (ps_set (i := 2) sc.nd rfl (Or.inl rfl) (pe_op op_addU (pv 2) (pe_lst (pa_cons (pe_join pe_str (pe_lc (own := [("title", 7)]) (by rfl) sc.nd (pi_list (pv 4)) (blkOk_by (own := [("title", 7)]) (N := N__law_odd_book) (sc := defScope s__law_odd_book) (by decide +kernel)) (fun _ _ _ _ _ => (pg_name (i := 7) sc.nd rfl (by first | exact Or.inl rfl | exact Or.inr rfl))) (fun _ _ _ _ _ => pts_nil) (fun _ _ _ _ _ => (pe_op op_addU (pe_op op_addU pe_str (pv 7)) pe_str)))) (pa_cons (pe_op op_addU pe_str (pe_join pe_str (pv 4))) pa_nil))))) (pss_cons (ps_set (i := 2) sc.nd rfl (Or.inl rfl) (pe_op op_addU (pv 2) (pe_lst (pa_cons (pe_op op_addU (pe_op op_addU (pe_op op_addU pe_str (pe_join pe_str (pv 4))) pe_str) (pe_join pe_str (pe_revL (pv 4)))) (pa_cons (pe_op op_addU pe_str (pe_join pe_str (pe_op op_addU (pv 4) (pe_slice sl_U (pv 4) po_none (po_some pe_int))))) pa_nil))))) (pss_cons (ps_set (i := 5) sc.nd rfl (Or.inl rfl) (pe_op op_addU pe_int (pe_cl (W := W0) (G__law_coin T) (hr.mono (by decide)) (by rfl) T.g__law_coin T.k__law_coin T.b__law_coin .nil takes0 (pa_cons (pv 0) (pa_cons pe_int pa_nil))))) (pss_cons (ps_set (i := 2) sc.nd rfl (Or.inl rfl) (pe_op op_addU (pv 2) (pe_lst (pa_cons (pe_op op_addU (pv 3) (pe_op op_mulS pe_str (pv 5))) pa_nil)))) (pss_cons (ps_set (i := 2) sc.nd rfl (Or.inl rfl) (pe_op op_addU (pv 2) (pe_lst (pa_cons (pe_op op_addU pe_str (pe_join pe_str (pe_lc (own := [("at", 6)]) (by rfl) sc.nd (pi_range1 (by rfl) T.n_range (pa_cons pe_int pa_nil)) (blkOk_by (own := [("at", 6)]) (N := N__law_odd_book) (sc := defScope s__law_odd_book) (by decide +kernel)) (fun _ _ _ _ _ => (pg_name (i := 6) sc.nd rfl (by first | exact Or.inl rfl | exact Or.inr rfl))) (fun _ _ _ _ _ => pts_nil) (fun _ _ _ _ _ => (pe_op op_mulS pe_str (pe_op op_addU pe_int (pv 6))))))) pa_nil)))) (pss_cons (ps_set (i := 2) sc.nd rfl (Or.inl rfl) (pe_op op_addU (pv 2) (pe_lst (pa_cons (pe_op op_addU (pe_op op_addU (pv 3) pe_str) (pe_op op_mulS pe_str (pv 5))) pa_nil)))) (pss_cons (ps_set (i := 2) sc.nd rfl (Or.inl rfl) (pe_op op_addU (pv 2) (pe_lst (pa_consR (pE_op op_addU (pv 1) pE_str) (pat_cons (CwR.PET.of (pe_op op_addU (pv 1) pe_str)) (pat_cons (CwR.pet_replC (pv 1)) pat_nil)))))) (pss_cons (ps_set (i := 2) sc.nd rfl (Or.inl rfl) (pe_op op_addU (pv 2) (pe_lst (pa_consR (pE_op op_addU (pv 1) pE_str) (pat_cons (CwR.pet_replC (pv 1)) pat_nil))))) (pss_one (ps_ret (pe_ix (ix_U (hu_of hr)) (pv 2) (pe_cl (W := W0) (G__law_coin T) (hr.mono (by decide)) (by rfl) T.g__law_coin T.k__law_coin T.b__law_coin .nil takes0 (pa_cons (pv 0) (pa_cons (pe_callB call_lenU (by rfl) T.n_len (by decide +kernel) (pa_cons (pv 2) pa_nil)) pa_nil))) (fun _ _ => rfl)))))))))))))))))))))))))))))))))

theorem b__law_odd_book (g : c__law_odd_book.G) (B : Bs) (Q : VK) (hp : c__law_odd_book.pre g) (rt : RT B Q (c__law_odd_book.post g)) : NX B (t__law_odd_book K { nx := fun _ H' => Q .non H', rt := Q }) (startD N__law_odd_book (c__law_odd_book.ds g)) (c__law_odd_book.own g) := by
  obtain ⟨p, n, x⟩ := g
  obtain ⟨hn, hx⟩ : n < 10000000 ∧ tx 1000 x := hp
  have e0 : startD N__law_odd_book (c__law_odd_book.ds (p, n, x)) = [some (.adr p), some (.str x), none, none, none, none, none, none] := rfl
  rw [e0]
  refine nx_seq (nx_menu0 (k := 7) (txa_cons (txe_c (n := 0) (by decide +kernel)) (by decide) (txa_cons (txe_c (n := 1) (by decide +kernel)) (by decide) (txa_cons (txe_c (n := 5) (by decide +kernel)) (by decide) (txa_cons (txe_c (n := 7) (by decide +kernel)) (by decide) (txa_cons (txe_c (n := 8) (by decide +kernel)) (by decide) (txa_cons (txe_c (n := 10) (by decide +kernel)) (by decide) (txa_cons (txe_c (n := 11) (by decide +kernel)) (by decide) txa_nil))))))) (by decide) fun M hM hl => ?_)
  dsimp only [List.set]
  refine nx_seq (nx_menu (k := 4) rfl hM hl (txa_cons (txe_c (n := 13) (by decide +kernel)) (by decide) (txa_cons (txe_c (n := 10) (by decide +kernel)) (by decide) (txa_cons (txe_c (n := 10) (by decide +kernel)) (by decide) (txa_cons (txe_c (n := 10) (by decide +kernel)) (by decide) txa_nil)))) (by decide) fun M hM hl => ?_)
  dsimp only [List.set]
  refine nx_seq (nx_menu (k := 4) rfl hM hl (txa_cons (txe_c (n := 15) (by decide +kernel)) (by decide) (txa_cons (txe_c (n := 16) (by decide +kernel)) (by decide) (txa_cons (txe_c (n := 17) (by decide +kernel)) (by decide) (txa_cons (txe_c (n := 17) (by decide +kernel)) (by decide) txa_nil)))) (by decide) fun M hM hl => ?_)
  dsimp only [List.set]
  refine nx_seq (nx_menu (k := 1) rfl hM hl (txa_cons (txe_c (n := 22) (by decide +kernel)) (by decide) txa_nil) (by decide) fun M hM hl => ?_)
  dsimp only [List.set]
  refine nx_seq (nx_menu (k := 3) rfl hM hl (txa_cons (txe_c (n := 22) (by decide +kernel)) (by decide) (txa_cons (txe_c (n := 21) (by decide +kernel)) (by decide) (txa_cons (txe_c (n := 12) (by decide +kernel)) (by decide) txa_nil))) (by decide) fun M hM hl => ?_)
  dsimp only [List.set]
  refine nx_seq (nx_menu (k := 3) rfl hM hl (txa_cons (txe_c (n := 12) (by decide +kernel)) (by decide) (txa_cons (txe_c (n := 11) (by decide +kernel)) (by decide) (txa_cons (txe_c (n := 17) (by decide +kernel)) (by decide) txa_nil))) (by decide) fun M hM hl => ?_)
  dsimp only [List.set]
  refine nx_seq (nx_asg (txe_c (n := 15) (by decide +kernel)) fun d O' ⟨⟨hd, e1, hh⟩, e2⟩ => ?_)
  subst e1 e2
  dsimp only [List.set]
  refine nx_seq (nx_menu (k := 3) rfl hM hl (txa_cons (txe_add (txe_v (i := 3) rfl hh) (txe_c (n := 7) (by decide +kernel)) (by decide)) (by decide) (txa_cons (txe_add (txe_v (i := 3) rfl hh) (txe_c (n := 10) (by decide +kernel)) (by decide)) (by decide) (txa_cons (txe_add (txe_v (i := 3) rfl hh) (txe_c (n := 13) (by decide +kernel)) (by decide)) (by decide) txa_nil))) (by decide) fun M hM hl => ?_)
  dsimp only [List.set]
  refine nx_seq (nx_menu (k := 3) rfl hM hl (txa_cons (txe_add (txe_v (i := 3) rfl hh) (txe_c (n := 15) (by decide +kernel)) (by decide)) (by decide) (txa_cons (txe_add (txe_v (i := 3) rfl hh) (txe_c (n := 10) (by decide +kernel)) (by decide)) (by decide) (txa_cons (txe_add (txe_v (i := 3) rfl hh) (txe_c (n := 5) (by decide +kernel)) (by decide)) (by decide) txa_nil))) (by decide) fun M hM hl => ?_)
  dsimp only [List.set]
  refine nx_seq (nx_menu (k := 3) rfl hM hl (txa_cons (txe_add (txe_v (i := 3) rfl hh) (txe_c (n := 10) (by decide +kernel)) (by decide)) (by decide) (txa_cons (txe_add (txe_v (i := 3) rfl hh) (txe_c (n := 17) (by decide +kernel)) (by decide)) (by decide) (txa_cons (txe_add (txe_v (i := 3) rfl hh) (txe_c (n := 21) (by decide +kernel)) (by decide)) (by decide) txa_nil))) (by decide) fun M hM hl => ?_)
  dsimp only [List.set]
  refine nx_seq (nx_menu (k := 2) rfl hM hl (txa_cons (txe_add (txe_v (i := 3) rfl hh) (txe_c (n := 18) (by decide +kernel)) (by decide)) (by decide) (txa_cons (txe_add (txe_v (i := 3) rfl hh) (txe_c (n := 11) (by decide +kernel)) (by decide)) (by decide) txa_nil)) (by decide) fun M hM hl => ?_)
  dsimp only [List.set]
  refine nx_seq (nx_menu (k := 3) rfl hM hl (txa_cons (txe_add (txe_v (i := 3) rfl hh) (txe_c (n := 19) (by decide +kernel)) (by decide)) (by decide) (txa_cons (txe_add (txe_v (i := 3) rfl hh) (txe_c (n := 16) (by decide +kernel)) (by decide)) (by decide) (txa_cons (txe_add (txe_v (i := 3) rfl hh) (txe_c (n := 14) (by decide +kernel)) (by decide)) (by decide) txa_nil))) (by decide) fun M hM hl => ?_)
  dsimp only [List.set]
  refine nx_seq (nx_menu (k := 1) rfl hM hl (txa_cons (txe_add (txe_v (i := 3) rfl hh) (txe_c (n := 24) (by decide +kernel)) (by decide)) (by decide) txa_nil) (by decide) fun M hM hl => ?_)
  dsimp only [List.set]
  refine nx_seq (nx_menu (k := 2) rfl hM hl (txa_cons (txe_add (txe_v (i := 3) rfl hh) (txe_c (n := 19) (by decide +kernel)) (by decide)) (by decide) (txa_cons (txe_add (txe_v (i := 3) rfl hh) (txe_c (n := 19) (by decide +kernel)) (by decide)) (by decide) txa_nil)) (by decide) fun M hM hl => ?_)
  dsimp only [List.set]
  refine nx_seq (nx_menu (k := 2) rfl hM hl (txa_cons (txe_add (txe_v (i := 3) rfl hh) (txe_c (n := 16) (by decide +kernel)) (by decide)) (by decide) (txa_cons (txe_add (txe_v (i := 3) rfl hh) (txe_c (n := 22) (by decide +kernel)) (by decide)) (by decide) txa_nil)) (by decide) fun M hM hl => ?_)
  dsimp only [List.set]
  refine nx_seq (nx_menu (k := 2) rfl hM hl (txa_cons (txe_add (txe_v (i := 3) rfl hh) (txe_c (n := 19) (by decide +kernel)) (by decide)) (by decide) (txa_cons (txe_add (txe_v (i := 3) rfl hh) (txe_c (n := 23) (by decide +kernel)) (by decide)) (by decide) txa_nil)) (by decide) fun M hM hl => ?_)
  dsimp only [List.set]
  refine nx_seq (nx_menu (k := 3) rfl hM hl (txa_cons (txe_add (txe_v (i := 3) rfl hh) (txe_c (n := 10) (by decide +kernel)) (by decide)) (by decide) (txa_cons (txe_add (txe_v (i := 3) rfl hh) (txe_c (n := 11) (by decide +kernel)) (by decide)) (by decide) (txa_cons (txe_add (txe_v (i := 3) rfl hh) (txe_c (n := 11) (by decide +kernel)) (by decide)) (by decide) txa_nil))) (by decide) fun M hM hl => ?_)
  dsimp only [List.set]
  refine nx_seq (nx_menu (k := 2) rfl hM hl (txa_cons (txe_add (txe_c (n := 10) (by decide +kernel)) (txe_v (i := 3) rfl hh) (by decide)) (by decide) (txa_cons (txe_add (txe_v (i := 3) rfl hh) (txe_c (n := 22) (by decide +kernel)) (by decide)) (by decide) txa_nil)) (by decide) fun M hM hl => ?_)
  dsimp only [List.set]
  refine nx_seq (nx_menu (k := 2) rfl hM hl (txa_cons (txe_add (txe_v (i := 3) rfl hh) (txe_c (n := 20) (by decide +kernel)) (by decide)) (by decide) (txa_cons (txe_add (txe_v (i := 3) rfl hh) (txe_c (n := 31) (by decide +kernel)) (by decide)) (by decide) txa_nil)) (by decide) fun M hM hl => ?_)
  dsimp only [List.set]
  refine nx_seq (nx_asg (Φ := fun d O' => ∃ ls : List Str, d = .lst (ls.map .str) ∧ ls.length ≤ 26 ∧ (∀ s ∈ ls, tx 1 s) ∧ O' = [(p, OO.purse (n + 1))]) (evk_lcR (ea_one (evk_opR (Ψ := fun d O' => ∃ i : Int, d = .int i ∧ 7 ≤ i ∧ i < 27 ∧ O' = [(p, OO.purse (n + 1))]) ev_cint (evk_coin (n := n) (Or := []) (ev_var rfl) ev_cint (by omega) (by decide) (by decide)) fun y O2 ⟨j, e1, k0, k1, e2⟩ => ⟨.int (7 + j), by rw [e1]; exact o2_addI, 7 + j, rfl, by omega, by omega, e2⟩)) fun ds O1 ⟨d, e1, i, e2, i0, i1, e3⟩ B' ta' up hH hta => ?lot) fun d O' ⟨lot, e1, hlotn, hlot, e2⟩ => ?_)
  case lot =>
    subst e1 e2 e3
    refine evk_lc (K := K) (ei_range1 hta (by omega) (by omega)) (fun j acc O2 => ∃ ls : List Str, acc = ls.map .str ∧ ls.length = j ∧ (∀ s ∈ ls, tx 1 s) ∧ O2 = [(p, OO.purse (n + 1))]) ⟨[], rfl, rfl, by simp, rfl⟩ (gin_name (by simp)) ?step ?len ?done
    case step =>
      rintro B2 j acc O2 up2 lt ⟨ls, rfl, rfl, hs, rfl⟩
      have lt : ls.length < i.toNat := lt
      obtain ⟨c, hc, hc2⟩ := abc_at (i := (ls.length : Int)) (by omega) (by omega)
      refine ⟨_, gt_name, et_yes.imp fun b O3 ⟨w1, w2⟩ => ?_⟩
      subst w1 w2
      refine ⟨fun z => (by cases z), fun _ => (ev_op ev_cstr (ev_var rfl) (o2_ixT (sz (by decide +kernel)) hc)).imp fun d O3 ⟨w1, w2⟩ => ?_⟩
      subst w1 w2
      refine ⟨ls ++ [⟨#[c]⟩], by rw [← strs_snoc], by simp, fun s h => ?_, rfl⟩
      rcases List.mem_append.mp h with h | h
      · exact hs s h
      · have : s = ⟨#[c]⟩ := by simpa using h
        rw [this]; exact tx_sign hc2
    case len =>
      rintro j acc O2 ⟨ls, rfl, rfl, _, _⟩ hj
      rw [List.length_map]
      have : ls.length ≤ 26 := by omega
      exact Nat.le_trans this (sz rfl)
    case done =>
      rintro acc O2 ⟨ls, rfl, hl, hs, rfl⟩
      exact ⟨ls, rfl, by omega, hs, rfl⟩
  subst e1 e2
  dsimp only [List.set]
  refine nx_seq (nx_menu (k := 2) rfl hM hl (txa_cons (txe_join (m := 2) (by decide +kernel) (txl_lc (i := 4) rfl hlot hlotn (gin_name (by simp)) fun B' s hs => ⟨_, gt_name, (txe_add (txe_add (txe_c (n := 6) (by decide +kernel)) (txe_v (i := 7) rfl hs) (by decide)) (txe_c (n := 3) (by decide +kernel)) (by decide))⟩) (by decide)) (by decide) (txa_cons (txe_add (txe_c (n := 8) (by decide +kernel)) (txe_join (m := 1) (by decide +kernel) (txl_v (i := 4) rfl hlot hlotn) (by decide)) (by decide)) (by decide) txa_nil)) (by decide) fun M hM hl => ?_)
  dsimp only [List.set]
  refine nx_seq (nx_menu (k := 2) rfl hM hl (txa_cons (txe_add (txe_add (txe_add (txe_c (n := 8) (by decide +kernel)) (txe_join (m := 1) (by decide +kernel) (txl_v (i := 4) rfl hlot hlotn) (by decide)) (by decide)) (txe_c (n := 8) (by decide +kernel)) (by decide)) (txe_join (m := 1) (by decide +kernel) (txl_rev (i := 4) rfl hlot hlotn) (by decide)) (by decide)) (by decide) (txa_cons (txe_add (txe_c (n := 8) (by decide +kernel)) (txe_join (m := 1) (by decide +kernel) (txl_add (txl_v (i := 4) rfl hlot hlotn) (txl_one (i := 4) rfl hlot hlotn) (by decide)) (by decide)) (by decide)) (by decide) txa_nil)) (by decide) fun M hM hl => ?_)
  dsimp only [List.set]
  refine nx_seq (nx_asg (Φ := fun d O' => ∃ i : Int, d = .int i ∧ 1 ≤ i ∧ i < 151 ∧ O' = [(p, OO.purse (n + 2))]) (evk_opR ev_cint (evk_coin (n := n + 1) (Or := []) (ev_var rfl) ev_cint (by omega) (by decide) (by decide)) fun y O2 ⟨j, e1, k0, k1, e2⟩ => ⟨.int (1 + j), by rw [e1]; exact o2_addI, 1 + j, rfl, by omega, by omega, e2⟩) fun d O' ⟨many, e1, m0, m1, e2⟩ => ?_)
  subst e1 e2
  dsimp only [List.set]
  have hm0 : 0 ≤ many := by omega
  have hm1 : many ≤ 150 := by omega
  refine nx_seq (nx_menu (k := 1) rfl hM hl (txa_cons (txe_add (txe_v (i := 3) rfl hh) (txe_mul (n := 150) (txe_c (n := 10) (by decide +kernel)) (ev_var rfl) hm0 hm1 (by decide)) (by decide)) (by decide) txa_nil) (by decide) fun M hM hl => ?_)
  dsimp only [List.set]
  refine nx_seq (nx_menu (k := 1) rfl hM hl (txa_cons (txe_add (txe_c (n := 8) (by decide +kernel)) (txe_join (m := 1) (by decide +kernel) (txl_rng8 (K := K) (gin_name (by simp)) fun B' i h0 h1 => ⟨_, gt_name, txe_mul (n := 8) (txe_c (n := 1) (by decide +kernel)) (ev_op ev_cint (ev_var rfl) o2_addI) (by omega) (by omega) (by decide)⟩) (by decide)) (by decide)) (by decide) txa_nil) (by decide) fun M hM hl => ?_)
  dsimp only [List.set]
  refine nx_seq (nx_menu (k := 1) rfl hM hl (txa_cons (txe_add (txe_add (txe_v (i := 3) rfl hh) (txe_c (n := 7) (by decide +kernel)) (by decide)) (txe_mul (n := 150) (txe_c (n := 3) (by decide +kernel)) (ev_var rfl) hm0 hm1 (by decide)) (by decide)) (by decide) txa_nil) (by decide) fun M hM hl => ?_)
  dsimp only [List.set]
  refine nx_seq (nx_menu (k := 3) rfl hM hl (txa_cons (txe_add (txe_v (i := 1) rfl hx) (txe_c (n := 8) (by decide +kernel)) (by decide)) (by decide) (txa_cons (txe_add (txe_v (i := 1) rfl hx) (txe_c (n := 13) (by decide +kernel)) (by decide)) (by decide) (txa_cons (txe_repl (m := 1) (by decide +kernel) (by decide +kernel) (txe_v (i := 1) rfl hx) (by decide)) (by decide) txa_nil))) (by decide) fun M hM hl => ?_)
  dsimp only [List.set]
  refine nx_seq (nx_menu (k := 2) rfl hM hl (txa_cons (txe_add (txe_v (i := 1) rfl hx) (txe_c (n := 1) (by decide +kernel)) (by decide)) (by decide) (txa_cons (txe_repl (m := 1) (by decide +kernel) (by decide +kernel) (txe_v (i := 1) rfl hx) (by decide)) (by decide) txa_nil)) (by decide) fun M hM hl => ?_)
  dsimp only [List.set]
  refine nx_ret rt (evk_opR (Ψ := fun d O' => (∃ x, d = .str x ∧ tx 3000 x) ∧ O' = [(p, OO.purse (n + 3))]) (ev_var rfl) (evk_coin (n := n + 2) (m := ((M.map D.str).length : Nat)) (Or := []) (ev_var rfl) (ev_cb (ea_cons (ev_var rfl) ea_nil) (on_lenS (.inl (.inl rfl)))) (by omega) (by rw [List.length_map, hl]; decide) (by rw [List.length_map, hl]; decide)) fun y O2 ⟨j, e1, k0, k1, e2⟩ => ?_) fun d O' h => h
  subst e1 e2
  rw [List.length_map] at k1
  obtain ⟨y, h1, h2⟩ := at_strs k0 k1
  exact ⟨_, o2_ixS (.inl (.inl rfl)) h2, ⟨y, rfl, hM y h1⟩, rfl⟩
theorem G__law_odd_book (T : Txt K mg w) : FnOk P w K mg base (L2.CX P w) 2 T.a__law_odd_book T.fd__law_odd_book ["purse", "wording"] c__law_odd_book.sp :=
  T.F__law_odd_book.ok sc__law_odd_book (Con.len fun _ => rfl) fun cdv A outer s H vs Q E hr h => ⟨t__law_odd_book K, w__law_odd_book T hr, body_ok (t := fun _ => t__law_odd_book K) (fun g B Q E hp rt _ _ => b__law_odd_book g B Q hp rt) h⟩
end
end Kt
set_option maxHeartbeats 4000000
namespace Kt
open PySem PySem.Spec PyProof.Rows L2 StX TL
section
variable {B : Bs} {O : Ow} {Γ : List (Option D)} {p : Addr} {K : PySem.W.Frag} {D₀ : Ends}
theorem evo_split {to te : TE} {a b : Str} (ho : EvP B to Γ O (.str a)) (he : EvP B te Γ O (.str b)) (hb : (b.length == 0) = false) (hz : a.length + 2 ≤ sizeLine) : EvK B (tM1 rSplit to te) Γ O fun d O' => ∃ p, B.H p = none ∧ d = .adr p ∧ O' = (p, OO.lst ((Txt.split a b).map .str)) :: O := fun F σ H s e Q q =>
  ho F σ H s e _ fun v d1 O1 F1 H1 s1 f1 r1 p1 => by
    obtain ⟨rfl, rfl⟩ := p1
    cases r1
    refine ⟨⟨a, rfl⟩, he F1 σ H1 s1 (e.same f1) _ fun u d2 O2 F2 H2 s2 f2 r2 p2 => ?_⟩
    obtain ⟨rfl, rfl⟩ := p2
    cases r2
    refine ⟨a, b, rfl, rfl, hb, hz, fun p hp => ?_⟩
    exact q _ _ _ _ _ (s2.laid (o := .lst ((Txt.split a b).map V.str)) (u := .lst ((Txt.split a b).map D.str)) hp ⟨_, rfl, RepL.strs _⟩) (f1.trans f2) .adr ⟨p, s2.bnone hp, rfl, rfl⟩
theorem o2_in2 {i a b : Int} : Op2 (rInU K) B O (.int i) (.tup [.int a, .int b]) (.bl (decide (i = a ∨ i = b))) := fun F H v u s r1 r2 Q q => by
  cases r1
  obtain ⟨l, vs, rfl, g1, g2⟩ := seqOf (K := K) (l := [.int a, .int b]) s r2 (.inr rfl)
  have e : vs = [.int a, .int b] := by
    cases g2 with
    | cons h1 h2 => cases h2 with
      | cons h3 h4 => cases h4; cases h1; cases h3; rfl
  subst e
  refine .inl ⟨l, _, rfl, g1, rfl, rfl, ?_⟩
  have : inV (.int i) [.int a, .int b] = decide (i = a ∨ i = b) := by
    show ((a == i) || ((b == i) || false)) = _
    by_cases h1 : a = i
    · subst h1
      have : decide (a = a ∨ a = b) = true := decide_eq_true (.inl rfl)
      rw [this, beq_self_eq_true]; rfl
    · have e1 : (a == i) = false := beq_eq_false_iff_ne.mpr h1
      rw [e1]
      by_cases h2 : b = i
      · subst h2
        have : decide (b = a ∨ b = b) = true := decide_eq_true (.inr rfl)
        rw [this, beq_self_eq_true]; rfl
      · have e2 : (b == i) = false := beq_eq_false_iff_ne.mpr h2
        have : decide (i = a ∨ i = b) = false := decide_eq_false fun z => z.elim (fun z => h1 z.symm) fun z => h2 z.symm
        rw [e2, this]; rfl
  show Q (.bl (inV (.int i) [.int a, .int b])) H
  rw [this]
  exact q _ F H (.refl s.fh) .bl
end
def c__law_marred_book : Con where
  G := Addr × Nat × Str
  ds := fun g => [.adr g.1, .str g.2.2]
  own := fun g => [(g.1, .purse g.2.1)]
  pre := fun g => g.2.1 < 9000000 ∧ tx 1000 g.2.2
  post := fun g d O' => (∃ x, d = .str x ∧ tx 3900 x) ∧ O' = [(g.1, .purse (g.2.1 + 10))]
section
variable {P : Program} {w : World} {K : PySem.W.Frag} {mg : Str → Option Value} {base : Heap}
/-! ### _law_marred_book -/
abbrev s__law_marred_book : Stmt := top 37
abbrev N__law_marred_book : List Str := ["purse", "wording", "spot", "way", "wide", "signs", "sign", "between", "pieces", "left", "right", "piece"]
theorem sc__law_marred_book : FnScope N__law_marred_book ["purse", "wording"] (defScope s__law_marred_book) := ⟨rfl, rfl, rfl, by decide +kernel, rfl, by decide +kernel, by decide +kernel⟩
def t__law_marred_book (K : PySem.W.Frag) : TS := (tSeq (tPar 2 3 (tCons (tCl c__law_coin [] W0 (tCons (tVar 0) (tCons (tOp (rAddU K) (tCB (rLenU K) (tCons (tVar 1) tNil)) (tC (.int 1))) tNil))) (tCons (tCl c__law_coin [] W0 (tCons (tVar 0) (tCons (tC (.int 8)) tNil))) tNil))) (tSeq (tAsg (tC (.str "ABCDEFGHIJKLMNOPQRSTUVWXYZ0123456789abcdefghijklmnopqrstuvwxyz !#$&'()*+,-./:;<=>?\x40[]^_`{|}~\"\\")) (gName 4)) (tSeq (tAsg (tOp (rIxU K) (tLst (tCons (tC (.str "pid town;>keysab")) (tCons (tVar 4) tNil))) (tCl c__law_coin [] W0 (tCons (tVar 0) (tCons (tC (.int 2)) tNil)))) (gName 5)) (tSeq (tAsg (tOp (rIxU K) (tVar 5) (tCl c__law_coin [] W0 (tCons (tVar 0) (tCons (tCB (rLenU K) (tCons (tVar 5) tNil)) tNil)))) (gName 6)) (tSeq (tIfS (tTest (tOp (rEqD K) (tVar 3) (tC (.int 0)))) (tRet (tOp (rAddU K) (tOp (rAddU K) (tSl (rSlU K) (tVar 1) tNoPart (tPart (tVar 2))) (tVar 6)) (tSl (rSlU K) (tVar 1) (tPart (tVar 2)) tNoPart))) tNext) (tSeq (tIfS (tTest (tOp (rEqD K) (tVar 3) (tC (.int 1)))) (tRet (tOp (rAddU K) (tSl (rSlU K) (tVar 1) tNoPart (tPart (tVar 2))) (tSl (rSlU K) (tVar 1) (tPart (tOp (rAddU K) (tVar 2) (tC (.int 1)))) tNoPart))) tNext) (tSeq (tIfS (tTest (tOp (rEqD K) (tVar 3) (tC (.int 2)))) (tRet (tOp (rAddU K) (tOp (rAddU K) (tSl (rSlU K) (tVar 1) tNoPart (tPart (tVar 2))) (tVar 6)) (tSl (rSlU K) (tVar 1) (tPart (tOp (rAddU K) (tVar 2) (tC (.int 1)))) tNoPart))) tNext) (tSeq (tIfS (tTest (tOp (rEqD K) (tVar 3) (tC (.int 3)))) (tRet (tCl c__law_odd_book [] W0 (tCons (tVar 0) (tCons (tVar 1) tNil)))) tNext) (tSeq (tIfS (tTest (tOp (rInU K) (tVar 3) (tTup (tCons (tC (.int 4)) (tCons (tC (.int 5)) tNil))))) (tSeq (tAsg (tOp (rIxU K) (tLst (tCons (tC (.str " ")) (tCons (tC (.str "; ")) tNil))) (tOp rSubU (tVar 3) (tC (.int 4)))) (gName 7)) (tSeq (tAsg (tM1 rSplit (tVar 1) (tVar 7)) (gName 8)) (tSeq (tPar 9 10 (tCons (tCl c__law_coin [] W0 (tCons (tVar 0) (tCons (tCB (rLenU K) (tCons (tVar 8) tNil)) tNil))) (tCons (tCl c__law_coin [] W0 (tCons (tVar 0) (tCons (tCB (rLenU K) (tCons (tVar 8) tNil)) tNil))) tNil))) (tSeq (tAsg (tOp (rIxU K) (tVar 8) (tVar 9)) (gName 11)) (tSeq (tAsg (tOp (rIxU K) (tVar 8) (tVar 10)) (gSub (tVar 8) (tVar 9) rSetL)) (tSeq (tAsg (tVar 11) (gSub (tVar 8) (tVar 10) rSetL)) (tRet (tM1 (rJoin K) (tVar 7) (tVar 8))))))))) tNext) (tRet (tVar 1)))))))))))
theorem w__law_marred_book {f : Addr} {cdv : Value} {A : Around} {outer : List PySem.Env} {s : Shared} {H : Hp} {E : XK} (T : Txt K mg w) (hr : Room 2 (A.deeper (envOfC "_law_marred_book" (defScope s__law_marred_book) s.heap.objs.size f cdv))) : PSs (cxOf (L2.CX P w) P w K mg base N__law_marred_book "_law_marred_book" (defScope s__law_marred_book) f cdv A outer s H E) (defBody s__law_marred_book) (t__law_marred_book K) := by
  have sc := sc__law_marred_book
  exact PSs.nox ((pss_cons (ps_par (i := 2) (j := 3) (by rfl) sc.nd rfl rfl (by decide) rfl rfl (pa_cons (pe_cl (W := W0) (G__law_coin T) (hr.mono (by decide)) (by rfl) T.g__law_coin T.k__law_coin T.b__law_coin .nil takes0 (pa_cons (pv 0) (pa_cons (pe_op op_addU (pe_callB call_lenU (by rfl) T.n_len (by decide +kernel) (pa_cons (pv 1) pa_nil)) pe_int) pa_nil))) (pa_cons (pe_cl (W := W0) (G__law_coin T) (hr.mono (by decide)) (by rfl) T.g__law_coin T.k__law_coin T.b__law_coin .nil takes0 (pa_cons (pv 0) (pa_cons pe_int pa_nil))) pa_nil)) (by rfl)) (pss_cons (ps_set (i := 4) sc.nd rfl (Or.inl rfl) pe_str) (pss_cons (ps_set (i := 5) sc.nd rfl (Or.inl rfl) (pe_ix (ix_U (hu_of hr)) (pe_lst (pa_cons pe_str (pa_cons (pv 4) pa_nil))) (pe_cl (W := W0) (G__law_coin T) (hr.mono (by decide)) (by rfl) T.g__law_coin T.k__law_coin T.b__law_coin .nil takes0 (pa_cons (pv 0) (pa_cons pe_int pa_nil))) (fun _ _ => rfl))) (pss_cons (ps_set (i := 6) sc.nd rfl (Or.inl rfl) (pe_ix (ix_U (hu_of hr)) (pv 5) (pe_cl (W := W0) (G__law_coin T) (hr.mono (by decide)) (by rfl) T.g__law_coin T.k__law_coin T.b__law_coin .nil takes0 (pa_cons (pv 0) (pa_cons (pe_callB call_lenU (by rfl) T.n_len (by decide +kernel) (pa_cons (pv 5) pa_nil)) pa_nil))) (fun _ _ => rfl))) (pss_cons (ps_if (pt_cmpR (op_eqD hr.units) (pv 3) pe_int (nomark _)) (pss_one (ps_ret (pe_op op_addU (pe_op op_addU (pe_slice sl_U (pv 1) po_none (po_some (pv 2))) (pv 6)) (pe_slice sl_U (pv 1) (po_some (pv 2)) po_none)))) pss_nil) (pss_cons (ps_if (pt_cmpR (op_eqD hr.units) (pv 3) pe_int (nomark _)) (pss_one (ps_ret (pe_op op_addU (pe_slice sl_U (pv 1) po_none (po_some (pv 2))) (pe_slice sl_U (pv 1) (po_some (pe_op op_addU (pv 2) pe_int)) po_none)))) pss_nil) (pss_cons (ps_if (pt_cmpR (op_eqD hr.units) (pv 3) pe_int (nomark _)) (pss_one (ps_ret (pe_op op_addU (pe_op op_addU (pe_slice sl_U (pv 1) po_none (po_some (pv 2))) (pv 6)) (pe_slice sl_U (pv 1) (po_some (pe_op op_addU (pv 2) pe_int)) po_none)))) pss_nil) (pss_cons (ps_if (pt_cmpR (op_eqD hr.units) (pv 3) pe_int (nomark _)) (pss_one (ps_ret (pe_cl (W := W0) (G__law_odd_book T) (hr.mono (by decide)) (by rfl) T.g__law_odd_book T.k__law_odd_book T.b__law_odd_book .nil takes0 (pa_cons (pv 0) (pa_cons (pv 1) pa_nil))))) pss_nil) (pss_cons (ps_if (pt_cmpR (op_inU (hu_of hr)) (pv 3) (pe_tup (pa_cons pe_int (pa_cons pe_int pa_nil))) (by rfl)) (pss_cons (ps_set (i := 7) sc.nd rfl (Or.inl rfl) (pe_ix (ix_U (hu_of hr)) (pe_lst (pa_cons pe_str (pa_cons pe_str pa_nil))) (pe_op op_sub (pv 3) pe_int) (fun _ _ => rfl))) (pss_cons (ps_set (i := 8) sc.nd rfl (Or.inl rfl) (pe_split (pv 1) (pv 7))) (pss_cons (ps_par (i := 9) (j := 10) (by rfl) sc.nd rfl rfl (by decide) rfl rfl (pa_cons (pe_cl (W := W0) (G__law_coin T) (hr.mono (by decide)) (by rfl) T.g__law_coin T.k__law_coin T.b__law_coin .nil takes0 (pa_cons (pv 0) (pa_cons (pe_callB call_lenU (by rfl) T.n_len (by decide +kernel) (pa_cons (pv 8) pa_nil)) pa_nil))) (pa_cons (pe_cl (W := W0) (G__law_coin T) (hr.mono (by decide)) (by rfl) T.g__law_coin T.k__law_coin T.b__law_coin .nil takes0 (pa_cons (pv 0) (pa_cons (pe_callB call_lenU (by rfl) T.n_len (by decide +kernel) (pa_cons (pv 8) pa_nil)) pa_nil))) pa_nil)) (by rfl)) (pss_cons (ps_set (i := 11) sc.nd rfl (Or.inl rfl) (pe_ix (ix_U (hu_of hr)) (pv 8) (pv 9) (fun _ _ => rfl))) (pss_cons (ps_asg (pe_ix (ix_U (hu_of hr)) (pv 8) (pv 10) (fun _ _ => rfl)) (pg_sub (pv 8) (pv 9) set_list)) (pss_cons (ps_asg (pv 11) (pg_sub (pv 8) (pv 10) set_list)) (pss_one (ps_ret (pe_join (pv 7) (pv 8)))))))))) pss_nil) (pss_one (ps_ret (pv 1)))))))))))))

def wideS : Str := "ABCDEFGHIJKLMNOPQRSTUVWXYZ0123456789abcdefghijklmnopqrstuvwxyz !#$&'()*+,-./:;<=>?\x40[]^_`{|}~\"\\"
theorem sign_at {z : Str} {i : Int} (hz : PyData.strOk z = true) (h0 : 0 ≤ i) (h1 : i < z.length) : ∃ c, atI z.cps.toList i = some c ∧ tx 1 ⟨#[c]⟩ := by
  obtain ⟨n, rfl⟩ : ∃ n : Nat, i = n := ⟨i.toNat, by omega⟩
  have hn : n < z.cps.toList.length := by
    have : z.length = z.cps.toList.length := len_tl z
    omega
  exact ⟨z.cps.toList[n], atI_nat (List.getElem?_eq_getElem hn), tx_sign (strOk_iff.mp hz _ (List.getElem_mem hn))⟩
theorem txe_cut {B : Bs} {O : Ow} {Γ : List (Option D)} {K : PySem.W.Frag} {i : Nat} {x : Str} {tlo thi : TO} {lo hi : Option Int} (h : Γ[i]? = some (some (.str x))) (hx : tx 1000 x) (hl : EoP B tlo Γ O lo) (hh : EoP B thi Γ O hi) : TxE B (tSl (rSlU K) (tVar i) tlo thi) Γ O 1000 :=
  (ev_slS (ev_var h) hl hh (Nat.le_trans hx.2 (by decide))).imp fun d O' ⟨e1, e2⟩ => ⟨⟨_, e1, tx_cut hx⟩, e2⟩
theorem ixNat {n j : Nat} (h : j < n) : ixN n (j : Int) = some j := by
  unfold ixN
  rw [if_pos (by omega), if_pos (by omega)]
  rfl
theorem sum_set {ls : List Str} {i : Nat} (y : Str) (h : i < ls.length) : ((ls.set i y).map (·.length)).sum + (ls[i]).length = (ls.map (·.length)).sum + y.length := by
  induction ls generalizing i with
  | nil => simp at h
  | cons a l ih =>
    cases i with
    | zero => simp; omega
    | succ j =>
      have := ih (i := j) (by simpa using h)
      simp at this ⊢
      omega
theorem b__law_marred_book (g : c__law_marred_book.G) (B : Bs) (Q : VK) (hp : c__law_marred_book.pre g) (rt : RT B Q (c__law_marred_book.post g)) : NX B (t__law_marred_book K { nx := fun _ H' => Q .non H', rt := Q }) (startD N__law_marred_book (c__law_marred_book.ds g)) (c__law_marred_book.own g) := by
  obtain ⟨p, n, x⟩ := g
  obtain ⟨hn, hx⟩ : n < 9000000 ∧ tx 1000 x := hp
  have hx2 := hx.2
  have hxb : x.length ≤ big := Nat.le_trans hx2 (by decide)
  have e0 : startD N__law_marred_book (c__law_marred_book.ds (p, n, x)) = [some (.adr p), some (.str x), none, none, none, none, none, none, none, none, none, none] := rfl
  rw [e0]
  have hw : tx 100 wideS ∧ 1 ≤ wideS.length := ⟨tx_of (by decide +kernel), by decide +kernel⟩
  refine nx_seq (nx_par (Φ := fun ds O' => ∃ i j : Int, ds = [.int i, .int j] ∧ (0 ≤ j ∧ j < 8) ∧ O' = [(p, OO.purse (n + 2))]) (eak_cons (Φ2 := fun d ds O' => ∃ j : Int, ds = [.int j] ∧ (0 ≤ j ∧ j < 8) ∧ O' = [(p, OO.purse (n + 2))]) (evk_coin (n := n) (m := x.length + 1) (Or := []) (ev_var rfl) (ev_op (ev_cb (ea_cons (ev_var (d := .str x) rfl) ea_nil) (on_lenT hxb)) ev_cint o2_addI) (by omega) (by omega) (by omega)) (fun d O1 ⟨i, e1, i0, i1, e2⟩ => ?c2) fun d ds O1 O2 ⟨i, e1, i0, i1, e2⟩ ⟨j, e3, hj, e4⟩ => ⟨i, j, by rw [e1, e3], hj, e4⟩) fun ds O' ⟨i, j, e1, hj, e2⟩ => ⟨_, _, e1, ?main⟩)
  case c2 =>
    subst e2
    exact fun F σ H s e Q q => (ea_one (evk_coin (n := n + 1) (m := 8) (Or := []) (ev_var rfl) ev_cint (by omega) (by decide) (by decide))) F σ H s e Q fun vs ds O' F' H' s' f r ⟨d, w1, j, w2, j0, j1, w3⟩ => q vs ds O' F' H' s' f r ⟨j, by rw [w1, w2], ⟨j0, j1⟩, w3⟩
  case main =>
  subst e1 e2
  dsimp only [List.set]
  refine nx_seq (nx_asgP (d := .str wideS) ev_cstr ?_)
  dsimp only [List.set]
  refine nx_seq (nx_asg (evk_opR (Ψ := fun d O' => (∃ s, d = .str s ∧ tx 100 s ∧ 1 ≤ s.length) ∧ O' = [(p, OO.purse (n + 3))]) (x := .lst ((["pid town;>keysab", wideS] : List Str).map .str)) (ev_lst (ea_cons ev_cstr (ea_cons (ev_var rfl) ea_nil)) (sz rfl)) (evk_coin (n := n + 2) (m := 2) (Or := []) (ev_var rfl) ev_cint (by omega) (by decide) (by decide)) fun y O2 ⟨k, e1, k0, k1, e2⟩ => ?_) fun d O' ⟨⟨s, e1, hs, hs1⟩, e2⟩ => ?_)
  · subst e1 e2
    obtain ⟨y, h1, h2⟩ := at_strs (ls := (["pid town;>keysab", wideS] : List Str)) k0 k1
    refine ⟨_, o2_ixS (.inl (.inl rfl)) h2, ⟨y, rfl, ?_⟩, rfl⟩
    rcases List.mem_cons.mp h1 with h | h
    · rw [h]; exact ⟨tx_of (by decide +kernel), by decide +kernel⟩
    · rw [List.mem_singleton.mp h]; exact hw
  subst e1 e2
  dsimp only [List.set]
  have hs2 := hs.2
  refine nx_seq (nx_asg (evk_opR (Ψ := fun d O' => (∃ s, d = .str s ∧ tx 1 s) ∧ O' = [(p, OO.purse (n + 4))]) (ev_var (d := .str s) rfl) (evk_coin (n := n + 3) (m := s.length) (Or := []) (ev_var rfl) (ev_cb (ea_cons (ev_var (d := .str s) rfl) ea_nil) (on_lenT (Nat.le_trans hs2 (by decide)))) (by omega) (by omega) (by omega)) fun y O2 ⟨k, e1, k0, k1, e2⟩ => ?_) fun d O' ⟨⟨sg, e1, hsg⟩, e2⟩ => ?_)
  · subst e1 e2
    obtain ⟨c, h1, h2⟩ := sign_at hs.1 k0 k1
    exact ⟨_, o2_ixT (Nat.le_trans hs2 (by decide)) h1, ⟨_, rfl, h2⟩, rfl⟩
  subst e1 e2
  dsimp only [List.set]
  have fin : ∀ {te : TE} {m k : Nat} {Γ : List (Option D)} {D₀ : Ends}, D₀.rt = Q → k ≤ n + 10 → TxE B te Γ [(p, OO.purse (n + 10))] m → m ≤ 3900 → NX B (tRet te D₀) Γ [(p, OO.purse k)] := fun e hk h hm => nx_weak (u' := OO.purse (n + 10)) 0 rfl (purse_le hk) (nx_ret (Ψ := c__law_marred_book.post (p, n, x)) (by rw [e]; exact rt) h fun d O' ⟨⟨s, e1, t⟩, e2⟩ => ⟨⟨s, e1, t.le hm⟩, e2⟩)
  refine nx_seq (nx_ifP (b := decide (j = 0)) (et_test (ev_op (ev_var rfl) ev_cint o2_eqI)) (fun _ => fin rfl (by omega) (txe_add (txe_add (txe_cut (i := 1) rfl hx eo_none (eo_some (ev_var rfl))) (txe_v (i := 6) rfl hsg) (by decide)) (txe_cut (i := 1) rfl hx (eo_some (ev_var rfl)) eo_none) (by decide)) (by decide)) fun _ => nx_next ?_)
  dsimp only
  refine nx_seq (nx_ifP (b := decide (j = 1)) (et_test (ev_op (ev_var rfl) ev_cint o2_eqI)) (fun _ => fin rfl (by omega) (txe_add (txe_cut (i := 1) rfl hx eo_none (eo_some (ev_var rfl))) (txe_cut (i := 1) rfl hx (eo_some (ev_op (ev_var rfl) ev_cint o2_addI)) eo_none) (by decide)) (by decide)) fun _ => nx_next ?_)
  dsimp only
  refine nx_seq (nx_ifP (b := decide (j = 2)) (et_test (ev_op (ev_var rfl) ev_cint o2_eqI)) (fun _ => fin rfl (by omega) (txe_add (txe_add (txe_cut (i := 1) rfl hx eo_none (eo_some (ev_var rfl))) (txe_v (i := 6) rfl hsg) (by decide)) (txe_cut (i := 1) rfl hx (eo_some (ev_op (ev_var rfl) ev_cint o2_addI)) eo_none) (by decide)) (by decide)) fun _ => nx_next ?_)
  dsimp only
  refine nx_seq (nx_ifP (b := decide (j = 3)) (et_test (ev_op (ev_var rfl) ev_cint o2_eqI)) (fun _ => nx_weak (u' := OO.purse (n + 7)) 0 rfl (purse_le (by omega)) (nx_ret (Φ := fun d O' => (∃ s, d = .str s ∧ tx 3000 s) ∧ O' = [(p, OO.purse (n + 10))]) rt (evk_cl (c := c__law_odd_book) (dds := []) (ea_cons (ev_var rfl) (ea_cons (ev_var rfl) ea_nil)) (fun _ => .nil) fun ds O1 ⟨e1, e2⟩ => by
      subst e1 e2
      exact ⟨(p, n + 7, x), [], rfl, .refl _, ⟨by show n + 7 < 10000000; omega, hx⟩, fun d O' ⟨w1, w2⟩ => ⟨w1, by rw [w2]; rfl⟩, fun _ _ _ _ _ _ _ _ _ _ _ _ ⟨_, z, _⟩ => z.elim⟩) fun d O' ⟨⟨s, e1, t⟩, e2⟩ => ⟨⟨s, e1, t.le (by decide)⟩, e2⟩)) fun _ => nx_next ?_)
  dsimp only
  refine nx_seq (nx_ifP (b := decide (j = 4 ∨ j = 5)) (et_test (ev_op (ev_var rfl) (ev_tup (ea_cons ev_cint (ea_cons ev_cint ea_nil)) (sz rfl)) o2_in2)) (fun hb => ?ex) fun _ => nx_next ?_)
  case ex =>
    have hb : j = 4 ∨ j = 5 := of_decide_eq_true hb
    obtain ⟨b, h1, h2⟩ := at_strs (ls := ([" ", "; "] : List Str)) (j := j - 4) (by omega) (by show j - 4 < 2; omega)
    have hsep : Sep b := by
      rcases List.mem_cons.mp h1 with h | h
      · rw [h]; exact sep1
      · rw [List.mem_singleton.mp h]; exact sep2
    refine nx_seq (nx_asgP (d := .str b) (ev_op (ev_lst (ea_cons ev_cstr (ea_cons ev_cstr ea_nil)) (sz rfl)) (ev_op (ev_var rfl) ev_cint o2_subI) (o2_ixS (.inl (.inl rfl)) h2)) ?_)
    dsimp only [List.set]
    refine nx_seq (nx_asg (evo_split (ev_var (d := .str x) rfl) (ev_var (d := .str b) rfl) (sep_ne hsep) (Nat.le_trans (Nat.add_le_add_right hx2 2) (by decide))) fun d O' ⟨q, hB, e1, e2⟩ => ?_)
    subst e1 e2
    refine nx_perm (List.Perm.swap (p, OO.purse (n + 4)) (q, OO.lst ((Txt.split x b).map .str)) []) ?_
    dsimp only [List.set]
    generalize els : Txt.split x b = ls
    have hne : ls ≠ [] := by rw [← els]; exact split_ne hsep
    have hlen : 1 ≤ ls.length := List.length_pos_iff.mpr hne
    have hcnt : ls.length ≤ 1001 := by rw [← els]; have := split_count (x := x) hsep; omega
    have hok : ∀ y ∈ ls, PyData.strOk y = true := fun y hy => (split_okS hsep ⟨hx.1, Nat.le_trans hx2 (by decide)⟩ (by rw [els]; exact hy)).1
    have hsum : (ls.map (·.length)).sum + ls.length * b.length = x.length + b.length := by rw [← els]; exact split_len hsep
    have seqQ : ∀ {k : Nat} {l : List D}, SeqOf [(p, OO.purse k), (q, OO.lst l)] (.adr q) l := .inl (.inr (.inr ⟨q, 1, rfl, rfl⟩))
    refine nx_seq (nx_par (Φ := fun ds O' => ∃ i j : Nat, ds = [.int i, .int j] ∧ i < ls.length ∧ j < ls.length ∧ O' = [(p, OO.purse (n + 6)), (q, OO.lst (ls.map .str))]) (eak_cons (Φ2 := fun d ds O' => ∃ j : Nat, ds = [.int j] ∧ j < ls.length ∧ O' = [(p, OO.purse (n + 6)), (q, OO.lst (ls.map .str))]) (evk_coin (n := n + 4) (m := ((ls.map D.str).length : Nat)) (Or := [(q, OO.lst (ls.map .str))]) (ev_var rfl) (ev_cb (ea_cons (ev_var (d := .adr q) rfl) ea_nil) (on_lenS seqQ)) (by omega) (by rw [List.length_map]; omega) (by rw [List.length_map]; omega)) (fun d O1 ⟨i, e1, i0, i1, e2⟩ => ?d2) fun d ds O1 O2 ⟨i, e1, i0, i1, e2⟩ ⟨j, e3, hj, e4⟩ => ⟨i.toNat, j, by rw [e1, e3, Int.toNat_of_nonneg i0], by rw [List.length_map] at i1; omega, hj, e4⟩) fun ds O' ⟨l, r, e1, hl, hr, e2⟩ => ⟨_, _, e1, ?go⟩)
    case d2 =>
      subst e2
      exact fun F σ H s e Q q2 => (ea_one (evk_coin (n := n + 5) (m := ((ls.map D.str).length : Nat)) (Or := [(q, OO.lst (ls.map .str))]) (ev_var rfl) (ev_cb (ea_cons (ev_var (d := .adr q) rfl) ea_nil) (on_lenS seqQ)) (by omega) (by rw [List.length_map]; omega) (by rw [List.length_map]; omega))) F σ H s e Q fun vs ds O' F' H' s' f r ⟨d, w1, j, w2, j0, j1, w3⟩ => q2 vs ds O' F' H' s' f r ⟨j.toNat, by rw [w1, w2, Int.toNat_of_nonneg j0], by rw [List.length_map] at j1; omega, w3⟩
    case go =>
    subst e1 e2
    dsimp only [List.set]
    have at1 : ∀ {i : Nat} {zs : List Str} (h : i < zs.length), atI (zs.map D.str) (i : Int) = some (.str zs[i]) := fun h => atI_nat (by rw [List.getElem?_map, List.getElem?_eq_getElem h]; rfl)
    refine nx_seq (nx_asgP (d := .str ls[l]) (ev_op (ev_var rfl) (ev_var rfl) (o2_ixS seqQ (at1 hl))) ?_)
    dsimp only [List.set]
    refine nx_seq (nx_setL (p := q) (ev_op (ev_var rfl) (ev_var rfl) (o2_ixS seqQ (at1 hr))) fun d O' ⟨e1, e2⟩ => ?_)
    subst e1 e2
    refine ⟨ev_var rfl, (l : Nat), 1, l, ls.map .str, ev_var rfl, rfl, by rw [List.length_map]; exact ixNat hl, ?_⟩
    have es : (ls.map D.str).set l (.str ls[r]) = (ls.set l ls[r]).map .str := List.map_set.symm
    rw [es]
    dsimp only [List.set]
    refine nx_seq (nx_setL (p := q) (ev_var (d := .str ls[l]) rfl) fun d O' ⟨e1, e2⟩ => ?_)
    subst e1 e2
    refine ⟨ev_var rfl, (r : Nat), 1, r, (ls.set l ls[r]).map .str, ev_var rfl, rfl, by rw [List.length_map, List.length_set]; exact ixNat hr, ?_⟩
    have es2 : ((ls.set l ls[r]).map D.str).set r (.str ls[l]) = ((ls.set l ls[r]).set r ls[l]).map .str := List.map_set.symm
    rw [es2]
    dsimp only [List.set]
    have hs1 := sum_set (ls := ls) ls[r] hl
    have hr' : r < (ls.set l ls[r]).length := by rw [List.length_set]; exact hr
    have hs2 := sum_set (ls := ls.set l ls[r]) ls[l] hr'
    have hg : (ls.set l ls[r])[r] = ls[r] := by rw [List.getElem_set]; split <;> rfl
    rw [hg] at hs2
    generalize ez : (ls.set l ls[r]).set r ls[l] = zs at *
    have hzl : zs.length = ls.length := by rw [← ez, List.length_set, List.length_set]
    have hzs : (zs.map (·.length)).sum = (ls.map (·.length)).sum := by omega
    have hzm : ∀ y ∈ zs, PyData.strOk y = true := fun y hy => by
      rw [← ez] at hy
      rcases List.mem_or_eq_of_mem_set hy with h | h
      · rcases List.mem_or_eq_of_mem_set h with h | h
        · exact hok y h
        · rw [h]; exact hok _ (List.getElem_mem hr)
      · rw [h]; exact hok _ (List.getElem_mem hl)
    have hz0 : zs ≠ [] := fun z => by rw [z] at hzl; simp at hzl; omega
    have hb1 : PyData.strOk b = true ∧ b.length ≤ 2 := by
      rcases List.mem_cons.mp h1 with h | h
      · rw [h]; exact tx_of (n := 2) (by decide +kernel)
      · rw [List.mem_singleton.mp h]; exact tx_of (n := 2) (by decide +kernel)
    have hj2 := join_len (y := b) hz0
    have hjt : tx 3900 (Txt.join b zs) := ⟨join_strOk hb1.1 hzm, by rw [hzs, hzl, hsum] at hj2; omega⟩
    exact nx_weak (u' := OO.purse (n + 10)) 0 rfl (purse_le (by omega)) (nx_perm (List.Perm.swap (q, OO.lst (zs.map .str)) (p, OO.purse (n + 10)) []) (nx_retF (Ψ := c__law_marred_book.post (p, n, x)) rt (ev_join (ev_var (d := .str b) rfl) (ev_var (d := .adr q) rfl) (.inl (.inr (.inr ⟨q, 0, rfl, rfl⟩))) (by rw [hzs, hzl, hsum]; omega)) fun d O' ⟨w1, w2⟩ => ⟨[(q, OO.lst (zs.map .str))], [(p, OO.purse (n + 10))], by rw [w2]; rfl, ⟨_, w1, hjt⟩, rfl⟩))
  dsimp only
  exact fin rfl (by omega) (txe_v (i := 1) rfl hx) (by decide)
theorem G__law_marred_book (T : Txt K mg w) : FnOk P w K mg base (L2.CX P w) 3 T.a__law_marred_book T.fd__law_marred_book ["purse", "wording"] c__law_marred_book.sp :=
  T.F__law_marred_book.ok sc__law_marred_book (Con.len fun _ => rfl) fun cdv A outer s H vs Q E hr h => ⟨t__law_marred_book K, w__law_marred_book T hr, body_ok (t := fun _ => t__law_marred_book K) (fun g B Q E hp rt _ _ => b__law_marred_book g B Q hp rt) h⟩
end
end Kt
/-! S3a: cutting and joining by two signs, by one, plainly -/
namespace Kt
open PySem PySem.Spec PyProof.Rows L2 TL
/-- a text without a ahead of b -/
def cl2 (a b : Nat) : List Nat → Bool
  | x :: y :: r => !(decide (x = a) && decide (y = b)) && cl2 a b (y :: r)
  | _ => true
section
variable {a b : Nat}
theorem pre2 {x y : Nat} {r : List Nat} : pre [a, b] (x :: y :: r) = (decide (x = a) && decide (y = b)) := by
  show ([x, y] == [a, b]) = _
  rw [Bool.eq_iff_iff]
  simp
theorem pre2s {x : Nat} : pre [a, b] [x] = false := by
  show ([x] == [a, b]) = false
  rw [Bool.eq_false_iff]
  simp
theorem spl_two (ab : a ≠ b) {rest : List Nat} : ∀ {p acc : List Nat}, cl2 a b p = true → spl [a, b] 0 acc (p ++ a :: b :: rest) = (acc ++ p) :: spl [a, b] 0 [] rest
  | [], acc, _ => by
    rw [List.nil_append, spl_hit (by rw [pre2]; simp), spl_pass, List.append_nil]
    rfl
  | [x], acc, _ => by
    show spl [a, b] 0 acc (x :: a :: b :: rest) = _
    rw [spl_miss (by rw [pre2]; simp [ab])]
    have := spl_two ab (rest := rest) (p := []) (acc := acc ++ [x]) rfl
    rw [List.nil_append, List.append_nil] at this
    exact this
  | x :: y :: r, acc, h => by
    have h : (!(decide (x = a) && decide (y = b)) && cl2 a b (y :: r)) = true := h
    obtain ⟨h1, h2⟩ := Bool.and_eq_true_iff.mp h
    show spl [a, b] 0 acc (x :: y :: (r ++ a :: b :: rest)) = _
    rw [spl_miss (by rw [pre2]; exact Bool.not_eq_true' _ ▸ h1)]
    have := spl_two ab (rest := rest) (p := y :: r) (acc := acc ++ [x]) h2
    rw [List.append_assoc] at this
    exact this
theorem spl_two_last : ∀ {p acc : List Nat}, cl2 a b p = true → spl [a, b] 0 acc p = [acc ++ p]
  | [], acc, _ => by rw [spl_nil, List.append_nil]
  | [x], acc, _ => by rw [spl_miss pre2s, spl_nil]
  | x :: y :: r, acc, h => by
    have h : (!(decide (x = a) && decide (y = b)) && cl2 a b (y :: r)) = true := h
    obtain ⟨h1, h2⟩ := Bool.and_eq_true_iff.mp h
    rw [spl_miss (by rw [pre2]; exact Bool.not_eq_true' _ ▸ h1)]
    have := spl_two_last (p := y :: r) (acc := acc ++ [x]) h2
    rw [List.append_assoc] at this
    exact this
theorem cl2_snoc {x y : Nat} (h : ¬(x = a ∧ y = b)) : ∀ {l : List Nat}, cl2 a b (l ++ [x]) = true → cl2 a b (l ++ [x, y]) = true
  | [], _ => by
    show (!(decide (x = a) && decide (y = b)) && true) = true
    rw [Bool.and_true, Bool.not_eq_true']
    rw [Bool.eq_false_iff]
    intro z
    obtain ⟨z1, z2⟩ := Bool.and_eq_true_iff.mp z
    exact h ⟨of_decide_eq_true z1, of_decide_eq_true z2⟩
  | [z], q => by
    have q : (!(decide (z = a) && decide (x = b)) && true) = true := q
    have := cl2_snoc (l := []) h rfl
    show (!(decide (z = a) && decide (x = b)) && cl2 a b [x, y]) = true
    rw [Bool.and_true] at q
    rw [q, Bool.true_and]
    exact this
  | z :: w :: r, q => by
    have q : (!(decide (z = a) && decide (w = b)) && cl2 a b ((w :: r) ++ [x])) = true := q
    obtain ⟨q1, q2⟩ := Bool.and_eq_true_iff.mp q
    have := cl2_snoc (l := w :: r) h q2
    show (!(decide (z = a) && decide (w = b)) && cl2 a b ((w :: r) ++ [x, y])) = true
    rw [q1, this]
    rfl
theorem cl2_one {l : List Nat} (h : l.length ≤ 1) : cl2 a b l = true := by
  match l, h with
  | [], _ => rfl
  | [_], _ => rfl
theorem cl2_init {x : Nat} : ∀ {l : List Nat}, cl2 a b (l ++ [x]) = true → cl2 a b l = true
  | [], _ => rfl
  | [_], _ => rfl
  | z :: w :: r, q => by
    have q : (!(decide (z = a) && decide (w = b)) && cl2 a b ((w :: r) ++ [x])) = true := q
    obtain ⟨q1, q2⟩ := Bool.and_eq_true_iff.mp q
    show (!(decide (z = a) && decide (w = b)) && cl2 a b (w :: r)) = true
    rw [q1, cl2_init q2]
    rfl
theorem spl_clean : ∀ (n : Nat) (l acc : List Nat), l.length ≤ n → cl2 a b (acc ++ l.take 1) = true → ∀ q ∈ spl [a, b] 0 acc l, cl2 a b q = true
  | _, [], acc, _, h, q, hq => by
    rw [spl_nil] at hq
    rw [List.mem_singleton.mp hq]
    simpa using h
  | 0, c :: r, _, hn, _, _, _ => by simp at hn
  | n + 1, c :: r, acc, hn, h, q, hq => by
    have h : cl2 a b (acc ++ [c]) = true := h
    have hn : r.length ≤ n := by simpa using hn
    by_cases hp : pre [a, b] (c :: r) = true
    · rw [spl_hit hp, spl_pass] at hq
      rcases List.mem_cons.mp hq with e | hq
      · rw [e]; exact cl2_init h
      · exact spl_clean n _ [] (by rw [List.length_drop]; omega) (cl2_one (by rw [List.nil_append, List.length_take]; omega)) q hq
    · have hp : pre [a, b] (c :: r) = false := by simpa using hp
      rw [spl_miss hp] at hq
      refine spl_clean n r (acc ++ [c]) hn ?_ q hq
      cases r with
      | nil => simpa using h
      | cons d r =>
        rw [pre2] at hp
        have := cl2_snoc (l := acc) (x := c) (y := d) (fun z => by rw [decide_eq_true z.1, decide_eq_true z.2] at hp; cases hp) h
        simpa using this
theorem spl_joinL2 (ab : a ≠ b) : ∀ {ps : List (List Nat)}, ps ≠ [] → (∀ p ∈ ps, cl2 a b p = true) → spl [a, b] 0 [] (joinL [a, b] ps) = ps
  | [], h, _ => absurd rfl h
  | [p], _, hp => by
    show spl [a, b] 0 [] p = [p]
    rw [spl_two_last (hp p (List.mem_singleton.mpr rfl)), List.nil_append]
  | p :: q :: r, _, hp => by
    show spl [a, b] 0 [] (p ++ a :: b :: joinL [a, b] (q :: r)) = p :: q :: r
    rw [spl_two ab (hp p List.mem_cons_self), List.nil_append, spl_joinL2 ab (by simp) fun z hz => hp z (List.mem_cons_of_mem _ hz)]
/-- one sign -/
theorem spl_one_app {v : List Nat} : ∀ {u acc : List Nat}, spl [a] 0 acc (u ++ a :: v) = spl [a] 0 acc u ++ spl [a] 0 [] v
  | [], acc => by
    rw [List.nil_append, spl_hit (by show ([a] == [a]) = true; simp), spl_pass, spl_nil]
    rfl
  | c :: r, acc => by
    by_cases h : c = a
    · have hp : ∀ l, pre [a] (c :: l) = true := fun l => by show ([c] == [a]) = true; simp [h]
      rw [List.cons_append, spl_hit (hp _), spl_hit (hp _), spl_pass, spl_pass]
      show acc :: spl [a] 0 [] (r ++ a :: v) = acc :: (spl [a] 0 [] r ++ _)
      rw [spl_one_app]
    · have hp : ∀ l, pre [a] (c :: l) = false := fun l => by show ([c] == [a]) = false; simp [h]
      rw [List.cons_append, spl_miss (hp _), spl_miss (hp _), spl_one_app]
theorem joinL_app {S : List Nat} : ∀ {u v : List (List Nat)}, u ≠ [] → v ≠ [] → joinL S (u ++ v) = joinL S u ++ (S ++ joinL S v)
  | [], _, h, _ => absurd rfl h
  | [p], q :: r, _, _ => rfl
  | p :: p2 :: u, v, _, hv => by
    show p ++ (S ++ joinL S ((p2 :: u) ++ v)) = (p ++ (S ++ joinL S (p2 :: u))) ++ _
    rw [joinL_app (by simp) hv]
    simp only [List.append_assoc]
  | [_], [], _, h => absurd rfl h
theorem par_hits {S v : List Nat} (hS : S ≠ []) : ∀ {u acc : List Nat}, par S acc (u ++ (S ++ v)) ≠ none
  | [], acc => by
    obtain ⟨s, S', rfl⟩ : ∃ s S', S = s :: S' := by
      cases S with
      | nil => exact absurd rfl hS
      | cons s S' => exact ⟨s, S', rfl⟩
    have := pre_self (s :: S') v
    rw [List.nil_append, List.cons_append] at *
    rw [par_hit this]
    simp
  | c :: r, acc => by
    by_cases hp : pre S (c :: (r ++ (S ++ v))) = true
    · rw [List.cons_append, par_hit hp]; simp
    · have hp : pre S (c :: (r ++ (S ++ v))) = false := by simpa using hp
      rw [List.cons_append, par_miss hp]
      exact par_hits hS
end
end Kt
/-! S3: the law's way to read a book's text and the program's, plainly -/
namespace Kt
open PySem PySem.Spec PyProof.Rows L2 StX TL
theorem name_sign {s : Str} (h : isName s = true) {c : Nat} (hc : c ∈ tl s) : c ∈ tl abc := by
  unfold isName at h
  exact of_decide_eq_true (List.all_eq_true.mp (Bool.and_eq_true_iff.mp h).2 c hc)
theorem name_gt : isName ">" = false := by decide +kernel
theorem abc_sp : 32 ∉ tl abc := by decide +kernel
theorem name_sp {s : Str} (h : isName s = true) : 32 ∉ tl s := fun z => abc_sp (name_sign h z)
theorem tl_gt3 : tl " > " = [32, 62, 32] := by decide +kernel
theorem tl_gt : tl ">" = [62] := by decide +kernel
theorem tl_sp : tl " " = [32] := by decide +kernel
theorem tl_semi : tl "; " = [59, 32] := by decide +kernel
theorem lookup_some {ts : List (Str × List Str)} {t : Str} {cols : List Str} (h : ts.lookup t = some cols) : (t, cols) ∈ ts := by
  induction ts with
  | nil => cases h
  | cons a ts ih =>
    obtain ⟨n, cs⟩ := a
    rw [List.lookup_cons] at h
    cases e : (t == n) with
    | true =>
      rw [e] at h
      have h : cs = cols := Option.some.inj h
      rw [← h, eq_of_beq e]
      exact List.mem_cons_self
    | false =>
      rw [e] at h
      exact List.mem_cons_of_mem _ (ih h)
theorem cols_name {ts : List (Str × List Str)} (ok : okTabs ts) {t : Str} {cols : List Str} (h : ts.lookup t = some cols) : isName t = true ∧ ∀ c ∈ cols, isName c = true := by
  obtain ⟨h1, h2⟩ := ok.1 _ (lookup_some h)
  exact ⟨h1, h2.1⟩
theorem tl_join1 {s : Str} {l : List Str} : tl (Txt.join s l) = joinL (tl s) (l.map tl) := by rw [join_eq, tl_join]
/-- a text with " > " in it, in pieces -/
theorem pcs_gt {p a b : Str} (h : tl p = tl a ++ (tl " > " ++ tl b)) : pcs p = pcs a ++ (">" : Str) :: pcs b := by
  refine map_tl_inj ?_
  unfold pcs
  rw [List.map_append, List.map_cons, split_tl sep1, split_tl sep1, split_tl sep1, tl_sp, tl_gt, h, tl_gt3]
  show spl [32] 0 [] (tl a ++ 32 :: (62 :: 32 :: tl b)) = _
  rw [spl_one_app]
  have e : spl [32] 0 [] (62 :: 32 :: tl b) = [62] :: spl [32] 0 [] (tl b) := (spl_one_app (a := 32) (u := [62]) (v := tl b) (acc := [])).trans rfl
  rw [e]
/-- pieces with ">" ahead of the last one: the text has " > " -/
theorem gt_pcs {p c : Str} {u : List Str} (h : pcs p = u ++ [(">" : Str), c]) (hu : u ≠ []) : par (tl " > ") [] (tl p) ≠ none := by
  have e : p = Txt.join " " (u ++ [(">" : Str), c]) := by
    rw [← h]
    exact (join_split sep1).symm
  rw [e, tl_join1, List.map_append, joinL_app (by simpa using hu) (by simp), tl_sp, tl_gt3]
  show par [32, 62, 32] [] (joinL [32] (u.map tl) ++ ([32] ++ (tl ">" ++ ([32] ++ tl c)))) ≠ none
  rw [tl_gt]
  exact par_hits (S := [32, 62, 32]) (v := tl c) (by simp)
theorem all_mem {cs cols : List Str} : (cs.all fun c => decide (c ∈ cols)) = true ↔ ∀ c ∈ cs, c ∈ cols := by
  rw [List.all_eq_true]
  exact ⟨fun h c hc => of_decide_eq_true (h c hc), fun h c hc => decide_eq_true (h c hc)⟩
theorem pcs_one {b : Str} (h : 32 ∉ tl b) : pcs b = [b] := by
  refine map_tl_inj ?_
  unfold pcs
  rw [split_tl sep1, tl_sp, spl_last1 h]
  rfl
theorem pcs_two {b x y : Str} {r : List Str} (h : pcs b = x :: y :: r) : 32 ∈ tl b := Classical.byContradiction fun z => by
  rw [pcs_one z] at h
  cases h
theorem rule_same {ts : List (Str × List Str)} (ok : okTabs ts) (p : Str) : isRuleL ts (pcs p) = true ↔ ∃ r, ruleIn p = some r ∧ okRule ts r := by
  have k1 : ("key" : Str) ≠ "settles" := by decide +kernel
  have k2 : (" > " : Str) ≠ "" := by decide +kernel
  rcases part_cases (x := p) sep3 with ⟨a, b, e, h, _⟩ | ⟨e, hn⟩
  · have hp := pcs_gt h
    have hr : ruleIn p = (match pcs a with
      | k :: t :: cs => if k = "settles" then some (Rl.mk t cs (some b)) else none
      | _ => none) := by
      unfold ruleIn
      rw [e]
      show (match pcs a with | k :: t :: cs => if k = "key" ∧ (" > " : Str) = "" then some (Rl.mk t cs none) else if k = "settles" ∧ (" > " : Str) ≠ "" then some (Rl.mk t cs (some b)) else none | _ => none) = _
      split
      · rename_i k t cs _
        rw [if_neg (fun z => k2 z.2)]
        by_cases hk : k = "settles"
        · rw [if_pos ⟨hk, k2⟩, if_pos hk]
        · rw [if_neg (fun z => hk z.1), if_neg hk]
      · rfl
    rw [hr, hp]
    cases ea : pcs a with
    | nil => exact absurd ea (split_ne sep1)
    | cons k l =>
      cases l with
      | nil =>
        show isRuleL ts (k :: (">" : Str) :: pcs b) = true ↔ _
        have : ts.lookup (">" : Str) = none := by
          cases q : ts.lookup (">" : Str) with
          | none => rfl
          | some cols => have := (cols_name ok q).1; rw [name_gt] at this; cases this
        rw [isRuleL_none this]
        exact ⟨fun z => (by cases z), fun ⟨r, z, _⟩ => by cases z⟩
      | cons t cs =>
        show isRuleL ts (k :: t :: (cs ++ (">" : Str) :: pcs b)) = true ↔ ∃ r, (if k = "settles" then some (Rl.mk t cs (some b)) else none) = some r ∧ okRule ts r
        cases q : ts.lookup t with
        | none =>
          rw [isRuleL_none q]
          refine ⟨fun z => (by cases z), fun ⟨r, z, w⟩ => ?_⟩
          split at z
          · cases z
            obtain ⟨cols, w, _⟩ := w
            have w : ts.lookup t = some cols := w
            rw [q] at w; cases w
          · cases z
        | some cols =>
          have nm := (cols_name ok q).2
          have ngt : (">" : Str) ∉ cols := fun z => by have := nm _ z; rw [name_gt] at this; cases this
          by_cases hk : k = "settles"
          · rw [isRuleL_set q hk (by rw [hk]; exact k1.symm), if_pos hk]
            have okr : okRule ts ⟨t, cs, some b⟩ ↔ (∀ c ∈ cs ++ [b], c ∈ cols) := by
              constructor
              · rintro ⟨cols', w1, w2⟩
                have w1 : ts.lookup t = some cols' := w1
                rw [q] at w1
                cases w1
                exact w2
              · intro w
                exact ⟨cols, q, w⟩
            have rhs : (∃ r, (some (Rl.mk t cs (some b)) : Option Rl) = some r ∧ okRule ts r) ↔ (∀ c ∈ cs ++ [b], c ∈ cols) := by
              rw [← okr]
              exact ⟨fun ⟨r, z, w⟩ => by cases z; exact w, fun w => ⟨_, rfl, w⟩⟩
            rw [rhs]
            by_cases sp : 32 ∈ tl b
            · -- more than one piece behind: no column
              constructor
              · intro z
                exfalso
                obtain ⟨y, c, v, ev⟩ : ∃ y c v, pcs b = v ++ [y, c] := by
                  have hl : 2 ≤ (pcs b).length := by
                    match hb : pcs b with
                    | [] => exact absurd hb (split_ne sep1)
                    | [c] =>
                      have e2 : b = Txt.join " " [c] := by rw [← hb]; exact (join_split sep1).symm
                      have hm := split_mem (x := b) sep1 (p := c) (by show c ∈ pcs b; rw [hb]; simp)
                      have hc : 32 ∉ tl c := by
                        have es := split_tl (x := b) sep1
                        have es : (pcs b).map tl = spl (tl " ") 0 [] (tl b) := es
                        rw [hb, tl_sp] at es
                        obtain ⟨u, v, euv⟩ := List.append_of_mem sp
                        rw [euv, spl_one_app] at es
                        have := congrArg List.length es
                        rw [List.length_append] at this
                        have a1 := List.length_pos_iff.mpr (spl_ne (S := [32]) u [] 0)
                        have a2 := List.length_pos_iff.mpr (spl_ne (S := [32]) v [] 0)
                        simp at this
                        omega
                      rw [e2, tl_join1] at sp
                      exact absurd sp hc
                    | _ :: _ :: _ => simp
                  have hne : pcs b ≠ [] := split_ne sep1
                  refine ⟨(pcs b).dropLast.getLast (by intro z; have := congrArg List.length z; simp at this; omega), (pcs b).getLast hne, (pcs b).dropLast.dropLast, ?_⟩
                  have e1 := List.dropLast_concat_getLast hne
                  have hne2 : (pcs b).dropLast ≠ [] := by intro z; have := congrArg List.length z; simp at this; omega
                  have e2 := List.dropLast_concat_getLast hne2
                  rw [show ∀ (u : List Str) (x y : Str), u ++ [x, y] = (u ++ [x]) ++ [y] from fun u x y => by simp, e2, e1]
                have hrev : (cs ++ (">" : Str) :: pcs b).reverse = c :: y :: (v.reverse ++ (">" : Str) :: cs.reverse) := by
                  rw [ev]; simp
                rw [hrev] at z
                have z : (decide (y = ">") && (((v.reverse ++ (">" : Str) :: cs.reverse).reverse ++ [c]).all fun c => decide (c ∈ cols))) = true := z
                have := all_mem.mp (Bool.and_eq_true_iff.mp z).2 ">" (by simp)
                exact ngt this
              · intro z
                exact absurd sp (name_sp (nm b (z b (by simp))))
            · rw [pcs_one sp]
              have hrev : (cs ++ (">" : Str) :: [b]).reverse = b :: (">" : Str) :: cs.reverse := by simp
              rw [hrev]
              show (decide ((">" : Str) = ">") && ((cs.reverse.reverse ++ [b]).all fun c => decide (c ∈ cols))) = true ↔ _
              rw [List.reverse_reverse, decide_eq_true rfl, Bool.true_and, all_mem]
          · rw [if_neg hk]
            have rf : ¬∃ r, (none : Option Rl) = some r ∧ okRule ts r := fun ⟨r, z, _⟩ => by cases z
            by_cases hk2 : k = "key"
            · rw [isRuleL_key q hk2, all_mem]
              exact ⟨fun z => absurd (z ">" (by simp)) ngt, fun z => absurd z rf⟩
            · rw [isRuleL_no q hk2 hk]
              exact ⟨fun z => (by cases z), fun z => absurd z rf⟩
  · have hr : ruleIn p = (match pcs p with
      | k :: t :: cs => if k = "key" then some (Rl.mk t cs none) else none
      | _ => none) := by
      unfold ruleIn
      rw [e]
      show (match pcs p with | k :: t :: cs => if k = "key" ∧ Str.empty = "" then some (Rl.mk t cs none) else if k = "settles" ∧ Str.empty ≠ "" then some (Rl.mk t cs (some Str.empty)) else none | _ => none) = _
      split
      · rename_i k t cs _
        by_cases hk : k = "key"
        · rw [if_pos ⟨hk, empty_str.symm⟩, if_pos hk]
        · rw [if_neg (fun z => hk z.1), if_neg (fun z => z.2 empty_str.symm), if_neg hk]
      · rfl
    rw [hr]
    cases ea : pcs p with
    | nil => exact absurd ea (split_ne sep1)
    | cons k l =>
      cases l with
      | nil => exact ⟨fun z => (by cases z), fun ⟨r, z, _⟩ => by cases z⟩
      | cons t cs =>
        show isRuleL ts (k :: t :: cs) = true ↔ ∃ r, (if k = "key" then some (Rl.mk t cs none) else none) = some r ∧ okRule ts r
        cases q : ts.lookup t with
        | none =>
          rw [isRuleL_none q]
          refine ⟨fun z => (by cases z), fun ⟨r, z, w⟩ => ?_⟩
          split at z
          · cases z
            obtain ⟨cols, w, _⟩ := w
            have w : ts.lookup t = some cols := w
            rw [q] at w; cases w
          · cases z
        | some cols =>
          by_cases hk : k = "key"
          · rw [isRuleL_key q hk, if_pos hk, all_mem]
            constructor
            · intro w
              exact ⟨_, rfl, cols, q, fun c hc => w c (by simpa using hc)⟩
            · rintro ⟨r, z, cols', w1, w2⟩ c hc
              cases z
              have w1 : ts.lookup t = some cols' := w1
              rw [q] at w1
              cases w1
              exact w2 c (by simpa using hc)
          · rw [if_neg hk]
            refine ⟨fun z => ?_, fun ⟨r, z, _⟩ => by cases z⟩
            by_cases hk2 : k = "settles"
            · rw [isRuleL_set q hk2 hk] at z
              split at z
              · rename_i c g r er
                obtain ⟨z1, z2⟩ := Bool.and_eq_true_iff.mp z
                have z1 := of_decide_eq_true z1
                have ecs : cs = r.reverse ++ [g, c] := by
                  have := congrArg List.reverse er
                  rw [List.reverse_reverse] at this
                  rw [this]; simp
                have : pcs p = (k :: t :: r.reverse) ++ [(">" : Str), c] := by rw [ea, ecs, z1]; rfl
                exact absurd hn (gt_pcs this (by simp))
              · cases z
            · rw [isRuleL_no q hk hk2] at z; cases z
/-! ### the parts: tables, then rules -/
theorem scan_behind {ts : List (Str × List Str)} : ∀ {P : List Str}, scan P ts true = true ↔ ∀ p ∈ P, isT p = false ∧ isRuleL ts (pcs p) = true
  | [] => ⟨fun _ _ z => (by cases z), fun _ => rfl⟩
  | p :: P => by
    cases h : isT p with
    | false =>
      rw [scan_rule h, Bool.and_eq_true_iff, scan_behind]
      constructor
      · rintro ⟨h1, h2⟩ q hq
        rcases List.mem_cons.mp hq with e | hq
        · rw [e]; exact ⟨h, h1⟩
        · exact h2 q hq
      · intro z
        exact ⟨(z p List.mem_cons_self).2, fun q hq => z q (List.mem_cons_of_mem _ hq)⟩
    | true =>
      refine ⟨fun z => ?_, fun z => by have := (z p List.mem_cons_self).1; rw [h] at this; cases this⟩
      exfalso
      match e : pcs p with
      | [] => rw [scan_few h (by rw [e]; simp)] at z; cases z
      | [_] => rw [scan_few h (by rw [e]; simp)] at z; cases z
      | [_, _] => rw [scan_few h (by rw [e]; simp)] at z; cases z
      | k :: n :: c :: cs => rw [scan_table h e] at z; cases z
theorem okTabs_snoc {ts : List (Str × List Str)} {n : Str} {cs : List Str} (ok : okTabs ts) : okTabs (ts ++ [(n, cs)]) ↔ n ∉ ts.map (·.1) ∧ isName n = true ∧ okCols cs := by
  constructor
  · rintro ⟨h1, h2⟩
    have := h1 (n, cs) (by simp)
    refine ⟨fun z => ?_, this.1, this.2⟩
    rw [List.map_append, List.nodup_append] at h2
    exact h2.2.2 n z n (by simp) rfl
  · rintro ⟨h1, h2, h3⟩
    refine ⟨fun t ht => ?_, ?_⟩
    · rcases List.mem_append.mp ht with h | h
      · exact ok.1 t h
      · rw [List.mem_singleton.mp h]; exact ⟨h2, h3⟩
    · rw [List.map_append, List.nodup_append]
      refine ⟨ok.2, by simp, fun a ha b hb e => ?_⟩
      have : b = n := by simpa using hb
      rw [e, this] at ha
      exact h1 ha
theorem okTabs_pre {ts us : List (Str × List Str)} (h : okTabs (ts ++ us)) : okTabs ts :=
  ⟨fun t ht => h.1 t (List.mem_append_left _ ht), by
    have := h.2
    rw [List.map_append] at this
    exact (List.nodup_append.mp this).1⟩
def goodP (ts : List (Str × List Str)) (P : List Str) : Prop :=
  (∀ p ∈ P.filter isT, (tabOf p).2 ≠ []) ∧ okTabs (ts ++ (P.filter isT).map tabOf) ∧ (∀ p ∈ P.filter fun p => !isT p, isRuleL (ts ++ (P.filter isT).map tabOf) (pcs p) = true) ∧ P.filter isT ++ P.filter (fun p => !isT p) = P
theorem scan_ahead : ∀ {P : List Str} {ts : List (Str × List Str)}, okTabs ts → (scan P ts false = true ↔ goodP ts P)
  | [], ts, ok => ⟨fun _ => ⟨fun _ z => (by cases z), by simpa using ok, fun _ z => (by cases z), rfl⟩, fun _ => rfl⟩
  | p :: P, ts, ok => by
    cases h : isT p with
    | false =>
      have f1 : (p :: P).filter isT = P.filter isT := List.filter_cons_of_neg (by simp [h])
      have f2 : (p :: P).filter (fun p => !isT p) = p :: P.filter fun p => !isT p := List.filter_cons_of_pos (by simp [h])
      rw [scan_rule h, Bool.and_eq_true_iff, scan_behind]
      unfold goodP
      rw [f1, f2]
      constructor
      · rintro ⟨h1, h2⟩
        have e0 : P.filter isT = [] := List.filter_eq_nil_iff.mpr fun q hq => by rw [(h2 q hq).1]; decide
        rw [e0]
        simp only [List.map_nil, List.append_nil, List.nil_append]
        refine ⟨fun _ z => (by cases z), ok, fun q hq => ?_, ?_⟩
        · rcases List.mem_cons.mp hq with e | hq
          · rw [e]; exact h1
          · exact (h2 q (List.mem_filter.mp hq).1).2
        · congr 1
          exact List.filter_eq_self.mpr fun q hq => by rw [(h2 q hq).1]; rfl
      · rintro ⟨h1, h2, h3, h4⟩
        have e0 : P.filter isT = [] := by
          cases q : P.filter isT with
          | nil => rfl
          | cons a l =>
            rw [q] at h4
            have h4 : a :: (l ++ p :: P.filter fun p => !isT p) = p :: P := h4
            injection h4 with e1 e2
            have := (List.mem_filter.mp (show a ∈ P.filter isT by rw [q]; exact List.mem_cons_self)).2
            rw [e1, h] at this; cases this
        rw [e0] at h3
        simp only [List.map_nil, List.append_nil] at h3
        refine ⟨h3 p List.mem_cons_self, fun q hq => ?_⟩
        have hq0 : isT q = false := by
          have := List.filter_eq_nil_iff.mp e0 q hq
          simpa using this
        exact ⟨hq0, h3 q (List.mem_cons_of_mem _ (List.mem_filter.mpr ⟨hq, by rw [hq0]; rfl⟩))⟩
    | true =>
      have f1 : (p :: P).filter isT = p :: P.filter isT := List.filter_cons_of_pos h
      have f2 : (p :: P).filter (fun p => !isT p) = P.filter fun p => !isT p := List.filter_cons_of_neg (by simp [h])
      have few : (pcs p).length < 3 → (scan (p :: P) ts false = true ↔ goodP ts (p :: P)) := fun hl => by
        rw [scan_few h hl]
        refine ⟨fun z => (by cases z), fun z => ?_⟩
        have := z.1 p (by rw [f1]; exact List.mem_cons_self)
        refine absurd ?_ this
        unfold tabOf
        exact List.drop_eq_nil_of_le (by omega)
      match e : pcs p with
      | [] => exact few (by rw [e]; simp)
      | [_] => exact few (by rw [e]; simp)
      | [_, _] => exact few (by rw [e]; simp)
      | k :: n :: c :: cs =>
        have et : tabOf p = (n, c :: cs) := by
          unfold tabOf
          rw [e]
          show (Txt.join " " [n], c :: cs) = _
          rw [join_one]
        rw [scan_table h e]
        have gp : goodP ts (p :: P) ↔ goodP (ts ++ [(n, c :: cs)]) P := by
          unfold goodP
          rw [f1, f2, List.map_cons, et]
          have ea : ts ++ (n, c :: cs) :: (P.filter isT).map tabOf = (ts ++ [(n, c :: cs)]) ++ (P.filter isT).map tabOf := by simp
          rw [ea]
          constructor
          · rintro ⟨h1, h2, h3, h4⟩
            exact ⟨fun q hq => h1 q (List.mem_cons_of_mem _ hq), h2, h3, List.tail_eq_of_cons_eq h4⟩
          · rintro ⟨h1, h2, h3, h4⟩
            refine ⟨fun q hq => ?_, h2, h3, congrArg (List.cons p) h4⟩
            rcases List.mem_cons.mp hq with e | hq
            · rw [e, et]; simp
            · exact h1 q hq
        rw [gp]
        have hall : (n :: c :: cs).all isName = true ↔ isName n = true ∧ ∀ x ∈ c :: cs, isName x = true := by
          rw [List.all_cons, Bool.and_eq_true_iff, List.all_eq_true]
        by_cases ok2 : okTabs (ts ++ [(n, c :: cs)])
        · rw [← scan_ahead ok2]
          obtain ⟨q1, q2, q3, q4⟩ := (okTabs_snoc ok).mp ok2
          rw [decide_eq_false q1, hall.mpr ⟨q2, q3⟩, decide_eq_true q4]
          simp
        · refine ⟨fun z => ?_, fun z => absurd (okTabs_pre z.2.1) ok2⟩
          exfalso
          simp only [Bool.not_false, Bool.true_and, Bool.and_eq_true, Bool.not_eq_true', decide_eq_false_iff_not, decide_eq_true_eq] at z
          obtain ⟨z1, z2, z3, _⟩ := z
          exact ok2 ((okTabs_snoc ok).mpr ⟨z1, (hall.mp z2).1, (hall.mp z2).2, z3⟩)
/-! ### the law's reading is the program's -/
theorem parts_clean {w p : Str} (h : p ∈ parts w) : cl2 59 32 (tl p) = true := by
  unfold parts at h
  split at h
  · cases h
  · have hm : tl p ∈ (Txt.split w "; ").map tl := List.mem_map_of_mem h
    rw [split_tl sep2, tl_semi] at hm
    exact spl_clean _ _ [] (Nat.le_refl _) (cl2_one (by rw [List.nil_append, List.length_take]; omega)) _ hm
theorem join_inj {ps qs : List Str} (hp : ps ≠ []) (hq : qs ≠ []) (cp : ∀ p ∈ ps, cl2 59 32 (tl p) = true) (cq : ∀ p ∈ qs, cl2 59 32 (tl p) = true) (h : Txt.join "; " ps = Txt.join "; " qs) : ps = qs := by
  have e : joinL [59, 32] (ps.map tl) = joinL [59, 32] (qs.map tl) := by rw [← tl_semi, ← tl_join1, ← tl_join1, h]
  have m : ∀ {l : List Str}, (∀ p ∈ l, cl2 59 32 (tl p) = true) → ∀ p ∈ l.map tl, cl2 59 32 p = true := fun h p hp => by
    obtain ⟨q, hq, rfl⟩ := List.mem_map.mp hp
    exact h q hq
  have a := spl_joinL2 (a := 59) (b := 32) (by decide) (ps := ps.map tl) (by simpa using hp) (m cp)
  have b := spl_joinL2 (a := 59) (b := 32) (by decide) (ps := qs.map tl) (by simpa using hq) (m cq)
  rw [e, b] at a
  exact (map_tl_inj a).symm
theorem okTabs_nil : okTabs [] := ⟨fun _ z => (by cases z), List.nodup_nil⟩
theorem read_scan {x : Str} : scan (parts x) [] false = true ↔ readOk x := by
  rw [scan_ahead okTabs_nil]
  unfold goodP readOk okBook
  simp only [List.nil_append]
  have ht : ((parts x).filter isT).map tabOf = tabs x := rfl
  rw [ht]
  have hcols : (∀ p ∈ (parts x).filter isT, (tabOf p).2 ≠ []) ↔ ∀ t ∈ tabs x, t.2 ≠ [] := by
    rw [← ht]
    exact ⟨fun h t hm => by obtain ⟨p, hp, rfl⟩ := List.mem_map.mp hm; exact h p hp, fun h p hp => h _ (List.mem_map_of_mem hp)⟩
  rw [hcols]
  have hsh : none ∉ rlo x → (∀ t ∈ tabs x, t.2 ≠ []) → (showBook (tabs x) (rls x) = x ↔ (parts x).filter isT ++ (parts x).filter (fun p => !isT p) = parts x) := fun h1 h2 => by
    unfold showBook showParts
    rw [map_showTab h2, map_showRule h1]
    by_cases hx : x = ""
    · subst hx
      have : parts "" = [] := by unfold parts; rw [if_pos rfl]
      rw [this]
      refine ⟨fun _ => rfl, fun _ => ?_⟩
      show Txt.join "; " [] = ""
      rw [join_eq]; exact empty_str.symm
    · have hpx : parts x = Txt.split x "; " := by unfold parts; rw [if_neg hx]
      have hj : Txt.join "; " (parts x) = x := by rw [hpx]; exact join_split sep2
      have hne : parts x ≠ [] := by rw [hpx]; exact split_ne sep2
      have mem : ∀ p ∈ (parts x).filter isT ++ (parts x).filter (fun p => !isT p), p ∈ parts x := fun p hp => by
        rcases List.mem_append.mp hp with h | h <;> exact (List.mem_filter.mp h).1
      have hne2 : (parts x).filter isT ++ (parts x).filter (fun p => !isT p) ≠ [] := fun z => by
        obtain ⟨p, l, e⟩ : ∃ p l, parts x = p :: l := by
          cases e : parts x with
          | nil => exact absurd e hne
          | cons p l => exact ⟨p, l, rfl⟩
        have hp : p ∈ parts x := by rw [e]; exact List.mem_cons_self
        have : p ∈ (parts x).filter isT ++ (parts x).filter (fun p => !isT p) := by
          cases q : isT p with
          | true => exact List.mem_append_left _ (List.mem_filter.mpr ⟨hp, q⟩)
          | false => exact List.mem_append_right _ (List.mem_filter.mpr ⟨hp, by rw [q]; rfl⟩)
        rw [z] at this
        cases this
      constructor
      · intro h
        refine join_inj hne2 hne (fun p hp => parts_clean (mem p hp)) (fun p hp => parts_clean hp) ?_
        rw [h, hj]
      · intro h
        rw [h, hj]
  have hrl : okTabs (tabs x) → ((∀ p ∈ (parts x).filter fun p => !isT p, isRuleL (tabs x) (pcs p) = true) ↔ none ∉ rlo x ∧ ∀ r ∈ rls x, okRule (tabs x) r) := fun ok => by
    have e : ∀ p, isRuleL (tabs x) (pcs p) = true ↔ ∃ r, ruleIn p = some r ∧ okRule (tabs x) r := rule_same ok
    constructor
    · intro h
      refine ⟨fun z => ?_, fun r hr => ?_⟩
      · obtain ⟨p, hp, e1⟩ := List.mem_map.mp z
        obtain ⟨r, e2, _⟩ := (e p).mp (h p hp)
        rw [e1] at e2; cases e2
      · obtain ⟨o, ho, e1⟩ := List.mem_filterMap.mp hr
        obtain ⟨p, hp, e2⟩ := List.mem_map.mp ho
        obtain ⟨r', e3, e4⟩ := (e p).mp (h p hp)
        rw [e2] at e3
        subst e3
        cases e1
        exact e4
    · rintro ⟨h1, h2⟩ p hp
      refine (e p).mpr ?_
      cases q : ruleIn p with
      | none => exact absurd (List.mem_map.mpr ⟨p, hp, q⟩) h1
      | some r => exact ⟨r, rfl, h2 r (List.mem_filterMap.mpr ⟨some r, List.mem_map.mpr ⟨p, hp, q⟩, rfl⟩)⟩
  constructor
  · rintro ⟨h1, h2, h3, h4⟩
    obtain ⟨r1, r2⟩ := (hrl h2).mp h3
    exact ⟨r1, h1, ⟨h2, r2⟩, (hsh r1 h1).mpr h4⟩
  · rintro ⟨h1, h2, ⟨h3, h4⟩, h5⟩
    exact ⟨h2, h3, (hrl h3).mpr ⟨h1, h4⟩, (hsh h1 h2).mp h5⟩
end Kt
namespace Kt
open PySem PySem.Spec PyProof.Rows L2 StX TL
def c__law_right {K : PySem.W.Frag} {mg : Str → Option Value} {w : World} (T : Txt K mg w) : Con where
  G := Addr × Nat
  ds := fun g => [.adr g.1]
  own := fun g => [(g.1, .purse g.2)]
  pre := fun g => g.2 < 8000000
  post := fun g d O' => d = .bl true ∧ O' = [(g.1, .purse (g.2 + 6000))]
theorem goodT.mono {t : Str × List Str} {a b : Int} (h : goodT t a) (l : a ≤ b) : goodT t b := ⟨h.1, h.2.1, Int.le_trans h.2.2.1 l, h.2.2.2⟩
theorem goodR.mono {t : Rl} {a b : Int} (h : goodR t a) (l : a ≤ b) : goodR t b := ⟨h.1, Int.le_trans h.2.1 l, h.2.2.1, h.2.2.2⟩
section
variable {P : Program} {w : World} {K : PySem.W.Frag} {mg : Str → Option Value} {base : Heap}
/-! ### _law_right -/
abbrev s__law_right : Stmt := top 38
abbrev N__law_right : List Str := ["purse", "tables_here", "rules_here", "turn", "bent", "owed"]
theorem sc__law_right : FnScope N__law_right ["purse"] (defScope s__law_right) := ⟨rfl, rfl, rfl, by decide +kernel, rfl, by decide +kernel, by decide +kernel⟩
def t__law_right (K : PySem.W.Frag) {mg : Str → Option Value} {w : World} (T : Txt K mg w) : TS := (tSeq (tAsg (tCl c__law_drawn_tables [] W0 (tCons (tVar 0) (tCons (tC (.int 3)) (tCons (tC (.int 4)) tNil)))) (gName 1)) (tSeq (tAsg (tCl c__law_drawn_rules [] W0 (tCons (tVar 0) (tCons (tVar 1) (tCons (tC (.int 5)) tNil)))) (gName 2)) (tSeq (tFor (iRng1 (tCons (tC (.int 6)) tNil)) (gName 3) (tSeq (tAsg (tCl c__law_marred_book [] W0 (tCons (tVar 0) (tCons (tCl c__law_book_text [] W0 (tCons (tVar 1) (tCons (tVar 2) tNil))) tNil))) (gName 4)) (tSeq (tAsg (tIf (tB (tCl c__law_is_book [] W0 (tCons (tVar 4) tNil))) (tLst (tCons (tVar 4) tNil)) (tLst tNil)) (gName 5)) (tIfS (tAnd (tTest (tOp rLeI (tCB (rLenU K) (tCons (tVar 4) tNil)) (tC (.int 3000)))) (tTest (tOp (rNeD K) (tCl (c__law_caught_book T) [] W0 (tCons (tVar 4) (tCons (tCl c__law_coin [] W0 (tCons (tVar 0) (tCons (tC (.int 2)) tNil))) tNil))) (tVar 5)))) (tRet (tC (.bl false))) tNext)))) (tRet (tC (.bl true))))))
theorem w__law_right {f : Addr} {cdv : Value} {A : Around} {outer : List PySem.Env} {s : Shared} {H : Hp} {E : XK} (T : Txt K mg w) (hr : Room 8 (A.deeper (envOfC "_law_right" (defScope s__law_right) s.heap.objs.size f cdv))) : PSs (cxOf (L2.CX P w) P w K mg base N__law_right "_law_right" (defScope s__law_right) f cdv A outer s H E) (defBody s__law_right) (t__law_right K T) := by
  have sc := sc__law_right
  exact PSs.nox ((pss_cons (ps_set (i := 1) sc.nd rfl (Or.inl rfl) (pe_cl (W := W0) (G__law_drawn_tables T) (hr.mono (by decide)) (by rfl) T.g__law_drawn_tables T.k__law_drawn_tables T.b__law_drawn_tables .nil takes0 (pa_cons (pv 0) (pa_cons pe_int (pa_cons pe_int pa_nil))))) (pss_cons (ps_set (i := 2) sc.nd rfl (Or.inl rfl) (pe_cl (W := W0) (G__law_drawn_rules T) (hr.mono (by decide)) (by rfl) T.g__law_drawn_rules T.k__law_drawn_rules T.b__law_drawn_rules .nil takes0 (pa_cons (pv 0) (pa_cons (pv 1) (pa_cons pe_int pa_nil))))) (pss_cons (ps_for PassesOwn.never rfl (pi_range1 (by rfl) T.n_range (pa_cons pe_int pa_nil)) (pg_name (i := 3) sc.nd rfl (Or.inl rfl)) (pss_cons (ps_set (i := 4) sc.nd rfl (Or.inl rfl) (pe_cl (W := W0) (G__law_marred_book T) (hr.mono (by decide)) (by rfl) T.g__law_marred_book T.k__law_marred_book T.b__law_marred_book .nil takes0 (pa_cons (pv 0) (pa_cons (pe_cl (W := W0) (G__law_book_text T) (hr.mono (by decide)) (by rfl) T.g__law_book_text T.k__law_book_text T.b__law_book_text .nil takes0 (pa_cons (pv 1) (pa_cons (pv 2) pa_nil))) pa_nil)))) (pss_cons (ps_set (i := 5) sc.nd rfl (Or.inl rfl) (pe_ifExp (pt_val (pe_cl (W := W0) (G__law_is_book T) (hr.mono (by decide)) (by rfl) T.g__law_is_book T.k__law_is_book T.b__law_is_book .nil takes0 (pa_cons (pv 4) pa_nil))) (pe_lst (pa_cons (pv 4) pa_nil)) (pe_lst pa_nil))) (pss_one (ps_if (PW.pt (pw_and (pt_cmpR op_le (pe_callB call_lenU (by rfl) T.n_len (by decide +kernel) (pa_cons (pv 4) pa_nil)) pe_int (nomark _)) (pw_and1 (pt_cmpR (op_neD hr.units) (pe_cl (W := W0) (G__law_caught_book T) (hr.mono (by decide)) (by rfl) T.g__law_caught_book T.k__law_caught_book T.b__law_caught_book .nil takes0 (pa_cons (pv 4) (pa_cons (pe_cl (W := W0) (G__law_coin T) (hr.mono (by decide)) (by rfl) T.g__law_coin T.k__law_coin T.b__law_coin .nil takes0 (pa_cons (pv 0) (pa_cons pe_int pa_nil))) pa_nil))) (pv 5) (nomark _))))) (pss_one (ps_ret pe_bl)) pss_nil))))) (pss_one (ps_ret pe_bl))))))

def bentL (x : Str) : List Str := if scan (parts x) [] false = true then [x] else []
theorem b__law_right (T : Txt K mg w) (g : (c__law_right T).G) (B : Bs) (Q : VK) (hp : (c__law_right T).pre g) (rt : RT B Q ((c__law_right T).post g)) : NX B (t__law_right K T { nx := fun _ H' => Q .non H', rt := Q }) (startD N__law_right ((c__law_right T).ds g)) ((c__law_right T).own g) := by
  obtain ⟨p, n⟩ := g
  have hn : n < 8000000 := hp
  have e0 : startD N__law_right ((c__law_right T).ds (p, n)) = [some (.adr p), none, none, none, none, none] := rfl
  rw [e0]
  refine nx_seq (nx_asg (evk_cl (c := c__law_drawn_tables) (dds := []) (Ψ := fun d O' => ∃ ts : List (Str × List Str), d = .lst (ts.map (tabD .lst)) ∧ (1 : Int) ≤ ts.length ∧ (ts.length : Int) ≤ 3 ∧ (∀ t ∈ ts, goodT t 4) ∧ O' = [(p, OO.purse (n + 1000))]) (ea_cons (ev_var (d := .adr p) rfl) (ea_cons ev_cint (ea_cons ev_cint ea_nil))) (fun _ => .nil) fun ds O1 ⟨w1, w2⟩ => ?tb) fun d O' ⟨ts, e1, t1, t2, t3, e2⟩ => ?_)
  case tb =>
    subst w1 w2
    exact ⟨(p, n, 3, 4), [], rfl, .refl _, ⟨show n < 10000000 by omega, (show (1 : Int) ≤ 3 ∧ (3 : Int) ≤ 60 from by decide), (show (1 : Int) ≤ 4 from by decide), (show (4 : Int) ≤ 60 from by decide)⟩, fun d O' ⟨ts, z1, z2, z3, z4, z5⟩ => ⟨ts, z1, z2, z3, z4, by rw [z5]; rfl⟩, fun _ _ _ _ _ _ _ _ _ _ _ _ ⟨_, z, _⟩ => z.elim⟩
  subst e1 e2
  dsimp only [List.set]
  refine nx_seq (nx_asg (evk_cl (c := c__law_drawn_rules) (dds := []) (Ψ := fun d O' => ∃ rs : List Rl, d = .lst (rs.map (rlD .lst)) ∧ (rs.length : Int) ≤ 5 ∧ (∀ r ∈ rs, goodR r 4) ∧ O' = [(p, OO.purse (n + 5000))]) (ea_cons (ev_var (d := .adr p) rfl) (ea_cons (ev_var (d := .lst (ts.map (tabD .lst))) rfl) (ea_cons ev_cint ea_nil))) (fun _ => .nil) fun ds O1 ⟨w1, w2⟩ => ?rb) fun d O' ⟨rs, e1, r1, r2, e2⟩ => ?_)
  case rb =>
    subst w1 w2
    exact ⟨(p, n + 1000, ts, 5, 4), [], rfl, .refl _, ⟨show n + 1000 < 10000000 by omega, (show (0 : Int) ≤ 5 ∧ (5 : Int) ≤ 60 from by decide), ⟨t1, by show (ts.length : Int) ≤ 60; omega⟩, (show (4 : Int) ≤ 60 from by decide), t3⟩, fun d O' ⟨rs, z1, z2, z3, z4⟩ => ⟨rs, z1, z2, z3, by rw [z4]; rfl⟩, fun _ _ _ _ _ _ _ _ _ _ _ _ ⟨_, z, _⟩ => z.elim⟩
  subst e1 e2
  dsimp only [List.set]
  refine nx_seq (nx_for (K := K) (ei_range1 (n := 6) (ea_cons ev_cint ea_nil) (by decide) (by decide)) (fun i Γ O => ∃ c3 c4 c5 : Option D, Γ = [some (.adr p), some (.lst (ts.map (tabD .lst))), some (.lst (rs.map (rlD .lst))), c3, c4, c5] ∧ O = [(p, OO.purse (n + 5000 + 20 * i))]) ⟨_, _, _, rfl, rfl⟩ ?_ ?_)
  · rintro B' i Γ1 O1 up hH lt ⟨c3, c4, c5, rfl, rfl⟩
    have lt : i < 6 := lt
    refine ⟨_, gt_name, fun N hN => ?_⟩
    dsimp only [List.set]
    generalize em : n + 5000 + 20 * i = m
    have hm : m < 8100000 := by omega
    refine nx_seq (nx_asg (evk_cl (c := c__law_marred_book) (dds := []) (Ψ := fun d O' => ∃ x, d = .str x ∧ tx 3900 x ∧ O' = [(p, OO.purse (m + 10))]) (ea_PK (Φ := fun d O' => ∃ x, d = .str x ∧ tx 1000 x ∧ O' = [(p, OO.purse m)]) (ev_var (d := .adr p) rfl)
      (evk_cl (c := c__law_book_text) (dds := []) (ea_cons (ev_var (d := .lst (ts.map (tabD .lst))) rfl) (ea_cons (ev_var (d := .lst (rs.map (rlD .lst))) rfl) ea_nil)) (fun _ => .nil) fun ds O1 ⟨w1, w2⟩ => ?bt)) (fun _ => .nil) fun ds O1 ⟨d, w1, x, w2, hx, w3⟩ => ?mb) fun d O' ⟨x, e1, hx, e2⟩ => ?_)
    case bt =>
      subst w1 w2
      exact ⟨(ts, rs), [(p, OO.purse m)], rfl, .refl _, ⟨⟨by show ts.length ≤ 3; omega, fun t ht => (t3 t ht).mono (by decide)⟩, by show rs.length ≤ 5; omega, fun r hr => (r2 r hr).mono (by decide)⟩, fun d O' ⟨⟨x, z1, z2⟩, z3⟩ => ⟨x, z1, z2, by rw [z3]; rfl⟩, fun _ _ _ _ _ _ _ _ _ _ _ _ ⟨_, z, _⟩ => z.elim⟩
    case mb =>
      subst w1 w2 w3
      exact ⟨(p, m, x), [], rfl, .refl _, ⟨show m < 9000000 by omega, hx⟩, fun d O' ⟨⟨y, z1, z2⟩, z3⟩ => ⟨y, z1, z2, by rw [z3]; rfl⟩, fun _ _ _ _ _ _ _ _ _ _ _ _ ⟨_, z, _⟩ => z.elim⟩
    subst e1 e2
    dsimp only [List.set]
    have hxo : okS x := ⟨hx.1, Nat.le_trans hx.2 (by decide)⟩
    have hx2 := hx.2
    refine nx_seq (nx_asgP (d := .lst ((bentL x).map .str)) (ev_if (b := scan (parts x) [] false) (et_B (evp_cl (c := c__law_is_book) (d := .bl (scan (parts x) [] false)) x (ea_cons (ev_var rfl) ea_nil) rfl rfl hx (fun _ _ z => z) fun _ _ _ z => z)) (fun hb => (ev_lst (ea_cons (ev_var rfl) ea_nil) (sz rfl)).is (by unfold bentL; rw [if_pos hb]; rfl)) fun hb => (ev_lst ea_nil (sz rfl)).is (by unfold bentL; rw [if_neg (by rw [hb]; decide)]; rfl)) ?_)
    dsimp only [List.set]
    have fin : ∀ {Γ' : List (Option D)} {k : Nat} {a b c : Option D}, Γ' = [some (.adr p), some (.lst (ts.map (tabD .lst))), some (.lst (rs.map (rlD .lst))), a, b, c] → k ≤ m + 20 → NX B' N Γ' [(p, OO.purse k)] := fun e hk => nx_weak (u' := OO.purse (m + 20)) 0 rfl (purse_le hk) (hN _ _ ⟨_, _, _, e, by subst em; rfl⟩)
    refine nx_if (Φ := fun b O' => b = false ∧ ∃ k, k ≤ m + 20 ∧ O' = [(p, OO.purse k)]) (etk_and (Φ := fun _ O' => O' = [(p, OO.purse (m + 10))]) ((et_test (b := decide ((x.length : Int) ≤ 3000)) (ev_op (ev_cb (ea_cons (ev_var (d := .str x) rfl) ea_nil) (on_lenT (Nat.le_trans hx2 (by decide)))) ev_cint o2_le)).imp fun _ _ z => z.2) (fun O' e => ?two) fun O' e => ⟨rfl, m + 10, by omega, e⟩) (fun O' z => by cases z.1) fun O' ⟨_, k, hk, e⟩ => ?rest
    case rest =>
      subst e
      exact nx_next (fin rfl hk)
    case two =>
      subst e
      refine etk_test (Φ := fun d O' => d = .bl false ∧ O' = [(p, OO.purse (m + 11))]) (evk_opL (y := .lst ((bentL x).map .str)) (evk_cl (c := c__law_caught_book T) (dds := []) (Ψ := fun d O' => d = .lst ((bentL x).map .str) ∧ O' = [(p, OO.purse (m + 11))]) (ea_PK (ev_var (d := .str x) rfl) (evk_coin (n := m + 10) (m := 2) (Or := []) (ev_var rfl) ev_cint (by omega) (by decide) (by decide))) (fun _ => .nil) fun ds O1 ⟨d, w1, i, w2, _, _, w3⟩ => ?cc) (fun x O1 z => ?v5) fun d O1 ⟨z1, z2⟩ => ?ne) fun d O' ⟨z1, z2⟩ => ⟨false, z1, rfl, m + 11, by omega, z2⟩
      case cc =>
        subst w1 w2 w3
        refine ⟨(x, i), [(p, OO.purse (m + 11))], rfl, .refl _, ⟨hxo, by show x.length ≤ 10000; omega⟩, fun d O' ⟨b, z1, z2, z3⟩ => ⟨?_, by rw [z3]; rfl⟩, fun _ _ _ _ _ _ _ _ _ _ _ _ ⟨_, z, _⟩ => z.elim⟩
        rw [z2]
        unfold bentL
        have hb : b = true ↔ scan (parts x) [] false = true := z1.trans read_scan.symm
        by_cases hs : scan (parts x) [] false = true
        · rw [if_pos hs, if_pos (hb.mpr hs)]; rfl
        · rw [if_neg hs, if_neg (fun z => hs (hb.mp z))]; rfl
      case v5 =>
        exact (ev_var rfl)
      case ne =>
        have hs : ∀ s ∈ bentL x, PyData.strOk s = true := fun s hs => by
          unfold bentL at hs
          split at hs
          · rw [List.mem_singleton.mp hs]; exact hx.1
          · cases hs
        exact ⟨.bl false, by rw [z1]; exact o2_ne (pyOf_strs hs) (pyOf_strs hs) (by simp), rfl, z2⟩
  · rintro Γ1 O1 ⟨c3, c4, c5, rfl, rfl⟩
    refine nx_weak (u' := OO.purse (n + 6000)) 0 rfl (purse_le (by show n + 5000 + 20 * 6 ≤ n + 6000; omega)) ?_
    exact (nx_retP (D₀ := { nx := fun _ H' => Q .non H', rt := Q }) (O := [(p, OO.purse (n + 6000))]) (Ψ := (c__law_right T).post (p, n)) rt ev_cbl ⟨rfl, rfl⟩)
theorem G__law_right (T : Txt K mg w) : FnOk P w K mg base (L2.CX P w) 9 T.a__law_right T.fd__law_right ["purse"] (c__law_right T).sp :=
  T.F__law_right.ok sc__law_right (Con.len fun _ => rfl) fun cdv A outer s H vs Q E hr h => ⟨t__law_right K T, w__law_right T hr, body_ok (t := fun _ => t__law_right K T) (fun g B Q E hp rt _ _ => b__law_right T g B Q hp rt) h⟩
end
end Kt
namespace Kt
open PySem PySem.Spec PyProof.Rows L2 StX TL
def c_law : Con where
  G := List Int
  ds := fun ns => [.frl (ns.map .int)]
  pre := fun ns => ns.length ≤ 63
  post := fun _ d O' => d = .bl true ∧ O' = []
section
variable {P : Program} {w : World} {K : PySem.W.Frag} {mg : Str → Option Value} {base : Heap}
/-! ### law -/
abbrev s_law : Stmt := top 39
abbrev N_law : List Str := ["script", "spot", "purse", "turn"]
theorem sc_law : FnScope N_law ["script"] (defScope s_law) := ⟨rfl, rfl, rfl, by decide +kernel, rfl, by decide +kernel, by decide +kernel⟩
def t_law (K : PySem.W.Frag) {mg : Str → Option Value} {w : World} (T : Txt K mg w) : TS := (tSeq (tFor (iRng1 (tCons (tCB rMax2 (tCons (tC (.int 1)) (tCons (tCB rMin2 (tCons (tC (.int 6)) (tCons (tCB (rLenU K) (tCons (tVar 0) tNil)) tNil))) tNil))) tNil)) (gName 1) (tSeq (tAsg (tCl c__law_purse [] W0 (tCons (tVar 0) (tCons (tVar 1) tNil))) (gName 2)) (tFor (iRng1 (tCons (tC (.int 2)) tNil)) (gName 3) (tIfS (tNot (tB (tCl (c__law_right T) [] W0 (tCons (tVar 2) tNil)))) (tRet (tC (.bl false))) tNext)))) (tRet (tC (.bl true))))
theorem w_law {f : Addr} {cdv : Value} {A : Around} {outer : List PySem.Env} {s : Shared} {H : Hp} {E : XK} (T : Txt K mg w) (hr : Room 9 (A.deeper (envOfC "law" (defScope s_law) s.heap.objs.size f cdv))) : PSs (cxOf (L2.CX P w) P w K mg base N_law "law" (defScope s_law) f cdv A outer s H E) (defBody s_law) (t_law K T) := by
  have sc := sc_law
  exact PSs.nox ((pss_cons (ps_for PassesOwn.never rfl (pi_range1 (by rfl) T.n_range (pa_cons (pe_callB (call_max2 rfl) (by rfl) T.n_max (by decide +kernel) (pa_cons pe_int (pa_cons (pe_callB (call_min2 rfl) (by rfl) T.n_min (by decide +kernel) (pa_cons pe_int (pa_cons (pe_callB call_lenU (by rfl) T.n_len (by decide +kernel) (pa_cons (pv 0) pa_nil)) pa_nil))) pa_nil))) pa_nil)) (pg_name (i := 1) sc.nd rfl (Or.inl rfl)) (pss_cons (ps_set (i := 2) sc.nd rfl (Or.inl rfl) (pe_cl (W := W0) (G__law_purse T) (hr.mono (by decide)) (by rfl) T.g__law_purse T.k__law_purse T.b__law_purse .nil takes0 (pa_cons (pv 0) (pa_cons (pv 1) pa_nil)))) (pss_one (ps_for PassesOwn.never rfl (pi_range1 (by rfl) T.n_range (pa_cons pe_int pa_nil)) (pg_name (i := 3) sc.nd rfl (Or.inl rfl)) (pss_one (ps_if (pt_not (pt_val (pe_cl (W := W0) (G__law_right T) (hr.mono (by decide)) (by rfl) T.g__law_right T.k__law_right T.b__law_right .nil takes0 (pa_cons (pv 2) pa_nil)))) (pss_one (ps_ret pe_bl)) pss_nil)))))) (pss_one (ps_ret pe_bl))))

theorem b_law (T : Txt K mg w) (ns : List Int) (B : Bs) (Q : VK) (hp : c_law.pre ns) (rt : RT B Q (c_law.post ns)) : NX B (t_law K T { nx := fun _ H' => Q .non H', rt := Q }) (startD N_law (c_law.ds ns)) [] := by
  have hl : ns.length ≤ 63 := hp
  have e0 : startD N_law (c_law.ds ns) = [some (.frl (ns.map .int)), none, none, none] := rfl
  rw [e0]
  obtain ⟨m, hm, hm0, hm1⟩ : ∃ m : Int, (if (if ((ns.map D.int).length : Int) < 6 then ((ns.map D.int).length : Int) else 6) > 1 then (if ((ns.map D.int).length : Int) < 6 then ((ns.map D.int).length : Int) else 6) else 1) = m ∧ 0 ≤ m ∧ m ≤ 6 := by
    refine ⟨_, rfl, ?_, ?_⟩ <;> (repeat' split) <;> omega
  refine nx_seq (nx_for (K := K) (ei_range1 (n := m) (ea_cons ((ev_cb (ea_cons ev_cint (ea_cons (ev_cb (ea_cons ev_cint (ea_cons (ev_cb (ea_cons (ev_var (d := .frl (ns.map .int)) rfl) ea_nil) (on_lenS (.inl (.inr (.inl rfl))))) ea_nil)) on_min2) ea_nil)) on_max2).is (congrArg D.int hm)) ea_nil) (by omega) (by omega)) (fun i Γ O => ∃ c1 c2 c3 : Option D, Γ = [some (.frl (ns.map .int)), c1, c2, c3] ∧ O = []) ⟨_, _, _, rfl, rfl⟩ ?_ ?_)
  · rintro B' i Γ1 O1 up hH lt ⟨c1, c2, c3, rfl, rfl⟩
    refine ⟨_, gt_name, fun N hN => ?_⟩
    dsimp only [List.set]
    refine nx_seq (nx_asg (evk_cl (c := c__law_purse) (dds := []) (Ψ := fun d O' => ∃ p, d = .adr p ∧ O' = [(p, OO.purse 0)]) (ea_cons (ev_var (d := .frl (ns.map .int)) rfl) (ea_cons (ev_var (d := .int (i : Nat)) rfl) ea_nil)) (fun _ => .nil) fun ds O1 ⟨w1, w2⟩ => ?pu) fun d O' ⟨p, e1, e2⟩ => ?_)
    case pu =>
      subst w1 w2
      exact ⟨(ns, i), [], rfl, .refl _, trivial, fun d O' ⟨p, z1, z2⟩ => ⟨p, z1, by rw [z2]; rfl⟩, fun _ _ _ _ _ _ _ _ _ _ _ _ ⟨_, z, _⟩ => z.elim⟩
    subst e1 e2
    dsimp only [List.set]
    refine nx_for (K := K) (ei_range1 (n := 2) (ea_cons ev_cint ea_nil) (by decide) (by decide)) (fun j Γ O => ∃ c3 : Option D, Γ = [some (.frl (ns.map .int)), some (.int (i : Nat)), some (.adr p), c3] ∧ O = [(p, OO.purse (6000 * j))]) ⟨_, rfl, rfl⟩ ?_ ?_
    · rintro B2 j Γ2 O2 up2 hH2 lt2 ⟨c3, rfl, rfl⟩
      have lt2 : j < 2 := lt2
      refine ⟨_, gt_name, fun N2 hN2 => ?_⟩
      dsimp only [List.set]
      refine nx_if (Φ := fun b O' => b = false ∧ O' = [(p, OO.purse (6000 * j + 6000))]) (etk_not (etk_B (evk_cl (c := c__law_right T) (dds := []) (Ψ := fun d O' => d = .bl true ∧ O' = [(p, OO.purse (6000 * j + 6000))]) (ea_cons (ev_var (d := .adr p) rfl) ea_nil) (fun _ => .nil) fun ds O1 ⟨w1, w2⟩ => ?ri) fun d O' ⟨z1, z2⟩ => ⟨true, z1, rfl, z2⟩)) (fun O' z => by cases z.1) fun O' ⟨_, e⟩ => ?_
      case ri =>
        subst w1 w2
        exact ⟨(p, 6000 * j), [], rfl, .refl _, show 6000 * j < 8000000 by omega, fun d O' ⟨z1, z2⟩ => ⟨z1, by rw [z2]; rfl⟩, fun _ _ _ _ _ _ _ _ _ _ _ _ ⟨_, z, _⟩ => z.elim⟩
      · subst e
        exact nx_next (hN2 _ _ ⟨_, rfl, by rw [Nat.mul_succ]⟩)
    · rintro Γ2 O2 ⟨c3, rfl, rfl⟩
      exact nx_forget (hN _ _ ⟨_, _, _, rfl, rfl⟩)
  · rintro Γ1 O1 ⟨c1, c2, c3, rfl, rfl⟩
    exact nx_retP (D₀ := { nx := fun _ H' => Q .non H', rt := Q }) (Ψ := c_law.post ns) rt ev_cbl ⟨rfl, rfl⟩
theorem G_law (T : Txt K mg w) : FnOk P w K mg base (L2.CX P w) 10 T.a_law T.fd_law ["script"] c_law.sp :=
  T.F_law.ok sc_law (Con.len fun _ => rfl) fun cdv A outer s H vs Q E hr h => ⟨t_law K T, w_law T hr, body_ok (t := fun _ => t_law K T) (fun g B Q E hp rt _ _ => b_law T g B Q hp rt) h⟩
end
end Kt
set_option maxHeartbeats 2000000
/-! HeadK: the head's facts of own exceptions, properties, getters, by Bools; a Hook of one's own -/
namespace Kt
open PySem PySem.Spec PyProof.Rows L2
def oexB (K : PySem.W.Frag) (C : Addr) : Bool := (match K.lookup C with
  | some ⟨.type t, _, .cls cd, sl⟩ => (match cd.mro, sl.toList with
    | .ref C' :: bm, [_, _, _, _, some (.builtin n), _] => decide (t = "type") && (decide (C' = C) && (decide (n = "ValueError.__new__") && (cd.hasDict && (!cd.hasDel && PySem.HandSPX.refsVE bm))))
    | _, _ => false)
  | _ => false) && (He.eqO (PySem.W.findIn K (.ref C) "__setattr__") (some (some (.builtin "object.__setattr__"))) && (decide (PySem.W.subIn K (.ref C) (.type "BaseException") = some true) && (decide (PySem.W.typeIn K (.ref C) = some (.type "type")) && PySem.W.keepIn K (.ref C))))
theorem oexB_ok {K : PySem.W.Frag} {C : Addr} (h : oexB K C = true) : OexC K C := by
  obtain ⟨h1, h⟩ := He.ba h
  obtain ⟨h2, h⟩ := He.ba h
  obtain ⟨h3, h⟩ := He.ba h
  obtain ⟨h4, h5⟩ := He.ba h
  refine ⟨?_, He.eqO_ok h2, of_decide_eq_true h3, of_decide_eq_true h4, h5⟩
  split at h1
  · rename_i t dd cd sl ho
    split at h1
    · rename_i C' bm k0 k1 k2 k3 n k5 hm hs
      obtain ⟨a1, a⟩ := He.ba h1
      obtain ⟨a2, a⟩ := He.ba a
      obtain ⟨a3, a⟩ := He.ba a
      obtain ⟨a4, a⟩ := He.ba a
      obtain ⟨a5, a6⟩ := He.ba a
      have e1 := of_decide_eq_true a1
      have e2 := of_decide_eq_true a2
      have e3 := of_decide_eq_true a3
      obtain ⟨nm, bs, mro, ns, qn, hd, sn, sub, ab, col, del⟩ := cd
      dsimp only at hm a4 a5
      have e5 : del = false := by
        cases del with
        | false => rfl
        | true => cases a5
      subst e1 e2 e3 hm a4 e5
      have hsl : sl = #[k0, k1, k2, k3, some (.builtin "ValueError.__new__"), k5] := by
        obtain ⟨l⟩ := sl
        simp only at hs
        rw [hs]
      subst hsl
      exact ⟨nm, qn, ns, bs, bm, sn, sub, ab, col, dd, k0, k1, k2, k3, k5, ho, a6⟩
    · cases h1
  · cases h1
def excB (K : PySem.W.Frag) (D : Addr) : Bool :=
  He.eqO (PySem.W.findIn K (.ref D) "__getattribute__") (some (some (.builtin "BaseException.__getattribute__"))) && (He.eqO (PySem.W.findIn K (.ref D) "__getattr__") (some none) && (decide (PySem.W.subIn K (.ref D) (.type "BaseException") = some true) && (PySem.W.hasDictIn K D &&
  (He.eqO (PySem.W.findIn K (.ref D) "__class__") (some (some (.builtin "object.__class__"))) && (He.eqO (PySem.W.specialIn K (.builtin "object.__class__") "__get__") (some (some (.builtin "getset_descriptor.__get__"))) && (decide (PySem.W.takesIn K (.builtin "object.__class__") = some true) && decide (PySem.W.mroIn K D (.type "object") = some true)))))))
theorem excB_ok {K : PySem.W.Frag} {D : Addr} (h : excB K D = true) : ExcC K D := by
  obtain ⟨h1, h⟩ := He.ba h
  obtain ⟨h2, h⟩ := He.ba h
  obtain ⟨h3, h⟩ := He.ba h
  obtain ⟨h4, h⟩ := He.ba h
  obtain ⟨h5, h⟩ := He.ba h
  obtain ⟨h6, h⟩ := He.ba h
  obtain ⟨h7, h8⟩ := He.ba h
  exact ⟨He.eqO_ok h1, He.eqO_ok h2, of_decide_eq_true h3, h4, He.eqO_ok h5, He.eqO_ok h6, of_decide_eq_true h7, of_decide_eq_true h8⟩
/-- the getter of a class's property -/
def propG (K : PySem.W.Frag) (C : Addr) (f : Str) : Addr := match PySem.W.findIn K (.ref C) f with
  | some (some (.ref p)) => (match PySem.W.recIn K p "property" with
    | some (.ref g :: _) => g
    | _ => 0)
  | _ => 0
def propB (K : PySem.W.Frag) (C : Addr) (f : Str) : Bool := match PySem.W.findIn K (.ref C) f with
  | some (some (.ref p)) => He.eqO (PySem.W.specialIn K (.ref p) "__get__") (some (some (.builtin "property.__get__"))) && (decide (PySem.W.takesIn K (.ref p) = some true) && (match PySem.W.recIn K p "property" with
    | some (.ref _ :: _) => true
    | _ => false))
  | _ => false
theorem propB_ok {K : PySem.W.Frag} {C : Addr} {f : Str} (h : propB K C f = true) : ∃ q, PropOf K C f q (propG K C f) := by
  unfold propB at h
  unfold propG
  split at h
  · rename_i p hp
    obtain ⟨h1, h⟩ := He.ba h
    obtain ⟨h2, h3⟩ := He.ba h
    split at h3
    · rename_i g r hr
      exact ⟨p, hp, He.eqO_ok h1, of_decide_eq_true h2, r, by rw [hr]⟩
    · cases h3
  · cases h
def noLst (K : PySem.W.Frag) : Bool := K.all fun q => match q.2.cls with
  | .type c => !decide (c = "list")
  | _ => true
theorem noLst_ok {K : PySem.W.Frag} (h : noLst K = true) {a : Addr} {o : Obj} (e : K.lookup a = some o) : o.cls ≠ .type "list" := fun z => by
  have := List.all_eq_true.mp h (a, o) (He.lookup_mem e)
  dsimp only at this
  rw [z] at this
  cases this
/-! ### a def, wherever it stands -/
structure DefA where
  at_ : PySem.W.Frag → Addr
  name : Str
  qual : Str
  params : Arguments
  body : List Stmt
  scope : Scope
  dfl : List He.Dv := []
def DefA.dvs (K : PySem.W.Frag) (d : DefA) : List V := d.dfl.map (He.Dv.v K)
def DefA.val (d : DefA) : He.FnW := some (d.name, d.qual, d.params, .stmts d.body, d.scope, mainGlobals, [], builtinsNs)
def fnA (K : PySem.W.Frag) (a : Addr) : He.FnW := match K.lookup a with
  | some ⟨_, _, .func fd, _⟩ => some (fd.name, fd.qualname, fd.params, fd.body, fd.scope, fd.globals, fd.closure, fd.builtins)
  | _ => none
def DefA.ok (K : PySem.W.Frag) (d : DefA) : Bool := PySem.W.keepIn K (.ref (d.at_ K)) && (match K.lookup (d.at_ K) with
  | some ⟨_, _, .func fd, _⟩ => PySem.W.codeIn K fd.code d.qual && (He.dflB K fd.defaults (d.dvs K) && He.kwdB K fd.kwdefaults [])
  | _ => false)
theorem DefA.funD {K : PySem.W.Frag} {d : DefA} (e : fnA K (d.at_ K) = d.val) (c : d.ok K = true) : ∃ fd, FunD K d.name d.qual d.params d.body d.scope (d.dvs K) [] (d.at_ K) fd := by
  obtain ⟨kp, c2⟩ := He.ba c
  unfold fnA at e
  cases q : K.lookup (d.at_ K) with
  | none =>
    rw [q] at c2
    cases c2
  | some o =>
    obtain ⟨oc, od, dt, osl⟩ := o
    rw [q] at c2 e
    cases dt with
    | func fd =>
      obtain ⟨n1, n2, n3, n4, n5, n6, n7, n8, n9, n10, n11, n12, n13, n14, n15⟩ := fd
      have e2 : (some (n1, n2, n3, n4, n5, n6, n7, n15) : He.FnW) = some (d.name, d.qual, d.params, .stmts d.body, d.scope, mainGlobals, [], builtinsNs) := e
      simp only [Option.some.injEq, Prod.mk.injEq] at e2
      obtain ⟨h1, h2, h3, h4, h5, h6, h7, h8⟩ := e2
      subst h1 h2 h3 h4 h5 h6 h7 h8
      have c3 : (PySem.W.codeIn K n13 d.qual && (He.dflB K n8 (d.dvs K) && He.kwdB K n9 [])) = true := c2
      obtain ⟨k1, k2⟩ := He.ba c3
      obtain ⟨k3, k4⟩ := He.ba k2
      exact ⟨_, ⟨oc, od, n8, n9, n10, n11, n12, n13, n14, osl, rfl, q, k1, He.dflB_ok k3, He.kwdB_ok k4⟩, kp⟩
    | _ => cases c2
/-! ### the Hook -/
abbrev AlY : Type := Bool × List He.FnW × List (Option (List (Option (Str × Int))))
def obsK (ds : List DefA) (ts : List He.Tab) (ex : PySem.W.Frag → Bool) (K : PySem.W.Frag) : AlY := (ex K && ds.all fun d => d.ok K, ds.map fun d => fnA K (d.at_ K), ts.map fun t => He.dicW K (t.1 K))
def valY (ds : List DefA) (ts : List He.Tab) (w : World) : AlY := (true, ds.map DefA.val, ts.map fun t => some (He.keysIn w.params t.2))
def obsY (n : Nat) (ds : List DefA) (ts : List He.Tab) (ex : PySem.W.Frag → Bool) (g : Addr → Option Obj) : AlY := obsK ds ts ex (He.frT g (He.asD g n))
def hookY (n : Nat) (ds : List DefA) (ts : List He.Tab) (ex : PySem.W.Frag → Bool) : PySem.W.Hook where
  α := AlY
  obs := fun s => obsY n ds ts ex s.heap.get?
  val := fun w => valY ds ts w
  says := fun w h => ∃ K : PySem.W.Frag, K.In h ∧ obsK ds ts ex K = valY ds ts w
  of := fun _ _ e => ⟨_, He.frT_in, e⟩
  keeps := fun _ _ _ ⟨K, hK, c⟩ k => ⟨K, PySem.W.Frag.In.keeps hK k, c⟩
theorem obsY_eq {n : Nat} {ds : List DefA} {ts : List He.Tab} {ex : PySem.W.Frag → Bool} {g : Addr → Option Obj} {s : Shared} (h : ∀ a, g a = s.heap.get? a) : obsY n ds ts ex g = (hookY n ds ts ex).obs s := by
  have e : g = s.heap.get? := funext h
  rw [e] <;> rfl
section
variable {ds : List DefA} {ts : List He.Tab} {ex : PySem.W.Frag → Bool} {K : PySem.W.Frag} {w : World}
theorem saysK_ex (c : obsK ds ts ex K = valY ds ts w) : ex K = true := (He.ba (show (ex K && ds.all fun d => d.ok K) = true from congrArg (fun z : AlY => z.1) c)).1
theorem saysK_def (c : obsK ds ts ex K = valY ds ts w) (i : Nat) {d : DefA} (h : ds[i]? = some d := by rfl) : ∃ fd, FunD K d.name d.qual d.params d.body d.scope (d.dvs K) [] (d.at_ K) fd := by
  have c2 := (He.ba (show (ex K && ds.all fun d => d.ok K) = true from congrArg (fun z : AlY => z.1) c)).2
  have e : ds.map (fun d => fnA K (d.at_ K)) = ds.map DefA.val := congrArg (fun z : AlY => z.2.1) c
  have e2 : (ds.map fun d => fnA K (d.at_ K))[i]? = (ds.map DefA.val)[i]? := by rw [e]
  rw [List.getElem?_map, List.getElem?_map, h] at e2
  exact DefA.funD (Option.some.inj e2) (List.all_eq_true.mp c2 d (List.mem_of_getElem? h))
theorem saysK_tab (c : obsK ds ts ex K = valY ds ts w) (i : Nat) {t : He.Tab} (h : ts[i]? = some t := by rfl) : ∃ es n, KDict K w (t.1 K) es n := by
  have e : ts.map (fun t => He.dicW K (t.1 K)) = ts.map fun t => some (He.keysIn w.params t.2) := congrArg (fun z : AlY => z.2.2) c
  have e2 : (ts.map fun t => He.dicW K (t.1 K))[i]? = (ts.map fun t => some (He.keysIn w.params t.2))[i]? := by rw [e]
  rw [List.getElem?_map, List.getElem?_map, h] at e2
  exact He.dicW_ok (Option.some.inj e2)
end
theorem facts_of {fa : List He.Fa} {K : PySem.W.Frag} (h : (fa.all fun f => f.ok K) = true) (i : Nat) {f : He.Fa} (e : fa[i]? = some f := by rfl) : f.ok K = true := List.all_eq_true.mp h f (List.mem_of_getElem? e)
theorem con_int {K : PySem.W.Frag} {h : Heap} {mg : Str → Option Value} (X : K.In h) (G : h.Ns mainGlobals mg) {x : Str} {i : Int} (c : (He.Fa.int x i).ok K = true) : ∃ u, mg x = some u ∧ RelV (.int i) u := by
  obtain ⟨t, e⟩ := He.int_ok X G c
  exact ⟨_, e, t, rfl⟩
theorem con_str {K : PySem.W.Frag} {h : Heap} {mg : Str → Option Value} (X : K.In h) (G : h.Ns mainGlobals mg) {x z : Str} (c : (He.Fa.str x z).ok K = true) : ∃ u, mg x = some u ∧ RelV (.str z) u := by
  obtain ⟨t, e⟩ := He.str_ok X G c
  exact ⟨_, e, t, rfl⟩
/-- the end: a law's promise over the script -/
theorem hsp_law {K : PySem.W.Frag} {c : Con} {ns : List Int} {H : Hp} {a : Addr} (hK : noLst K = true) (hS : SqL K H a (ns.map V.int)) (g : c.G) (e1 : c.ds g = [.frl (ns.map .int)]) (e2 : c.own g = []) (hp : c.pre g) (hq : ∀ d O', c.post g d O' → d = .bl true) (hx : ∀ C d O', ¬ c.exn g C d O') :
    c.sp [.ref a] H (fun v _ => v = .bl true) fun _ _ _ => False := by
  rcases hS with hS | ⟨o, its, n, hl, hc, _⟩
  · refine ⟨g, H, Same.refl H, ?_, ?_, hp, fun v d O' F' H' _ _ _ r p => ?_, fun C dd v d O' F' H' _ _ _ _ _ z => hx C d O' z⟩
    · rw [e1]
      exact .cons (.frl hS (RepL.ints ns)) .nil
    · rw [e2]
      exact ⟨fun _ z => (by cases z), List.nodup_nil⟩
    · have := hq d O' p
      subst this
      cases r
      rfl
  · exact absurd hc (noLst_ok hK hl)
end Kt
set_option maxHeartbeats 0
namespace Kt
open PySem PySem.Spec PyProof.Rows L2
def d_KeyTellError_init : DefA := ⟨fun K => He.ma K (He.ga K "KeyTellError") "__init__", "__init__", "KeyTellError.__init__", defArgs (inClass (top 2) 0), defBody (inClass (top 2) 0), defScope (inClass (top 2) 0), []⟩
def d_is_name : DefA := ⟨fun K => He.ga K "is_name", "is_name", "is_name", defArgs (top 13), defBody (top 13), defScope (top 13), []⟩
def d_fresh : DefA := ⟨fun K => He.ga K "fresh", "fresh", "fresh", defArgs (top 14), defBody (top 14), defScope (top 14), []⟩
def d_checked_columns : DefA := ⟨fun K => He.ga K "checked_columns", "checked_columns", "checked_columns", defArgs (top 15), defBody (top 15), defScope (top 15), []⟩
def d_check_rule : DefA := ⟨fun K => He.ga K "check_rule", "check_rule", "check_rule", defArgs (top 16), defBody (top 16), defScope (top 16), []⟩
def d_Book_init : DefA := ⟨fun K => He.ma K (He.ga K "Book") "__init__", "__init__", "Book.__init__", defArgs (inClass (top 17) 0), defBody (inClass (top 17) 0), defScope (inClass (top 17) 0), []⟩
def d_Book_tables : DefA := ⟨fun K => propG K (He.ga K "Book") "tables", "tables", "Book.tables", defArgs (inClass (top 17) 1), defBody (inClass (top 17) 1), defScope (inClass (top 17) 1), []⟩
def d_Book_rules : DefA := ⟨fun K => propG K (He.ga K "Book") "rules", "rules", "Book.rules", defArgs (inClass (top 17) 2), defBody (inClass (top 17) 2), defScope (inClass (top 17) 2), []⟩
def d_Book_getitem : DefA := ⟨fun K => He.ma K (He.ga K "Book") "__getitem__", "__getitem__", "Book.__getitem__", defArgs (inClass (top 17) 3), defBody (inClass (top 17) 3), defScope (inClass (top 17) 3), []⟩
def d_Book_iter : DefA := ⟨fun K => He.ma K (He.ga K "Book") "__iter__", "__iter__", "Book.__iter__", defArgs (inClass (top 17) 4), defBody (inClass (top 17) 4), defScope (inClass (top 17) 4), []⟩
def d_Book_len : DefA := ⟨fun K => He.ma K (He.ga K "Book") "__len__", "__len__", "Book.__len__", defArgs (inClass (top 17) 5), defBody (inClass (top 17) 5), defScope (inClass (top 17) 5), []⟩
def d_Book_eq : DefA := ⟨fun K => He.ma K (He.ga K "Book") "__eq__", "__eq__", "Book.__eq__", defArgs (inClass (top 17) 6), defBody (inClass (top 17) 6), defScope (inClass (top 17) 6), []⟩
def d_Book_with_rules : DefA := ⟨fun K => He.ma K (He.ga K "Book") "with_rules", "with_rules", "Book.with_rules", defArgs (inClass (top 17) 7), defBody (inClass (top 17) 7), defScope (inClass (top 17) 7), []⟩
def d_Book_without : DefA := ⟨fun K => He.ma K (He.ga K "Book") "without", "without", "Book.without", defArgs (inClass (top 17) 8), defBody (inClass (top 17) 8), defScope (inClass (top 17) 8), []⟩
def d_show_rule : DefA := ⟨fun K => He.ga K "show_rule", "show_rule", "show_rule", defArgs (top 19), defBody (top 19), defScope (top 19), []⟩
def d_show_book : DefA := ⟨fun K => He.ga K "show_book", "show_book", "show_book", defArgs (top 20), defBody (top 20), defScope (top 20), []⟩
def d_rule_in : DefA := ⟨fun K => He.ga K "rule_in", "rule_in", "rule_in", defArgs (top 22), defBody (top 22), defScope (top 22), []⟩
def d_read_book : DefA := ⟨fun K => He.ga K "read_book", "read_book", "read_book", defArgs (top 23), defBody (top 23), defScope (top 23), []⟩
def d__law_purse : DefA := ⟨fun K => He.ga K "_law_purse", "_law_purse", "_law_purse", defArgs (top 25), defBody (top 25), defScope (top 25), []⟩
def d__law_coin : DefA := ⟨fun K => He.ga K "_law_coin", "_law_coin", "_law_coin", defArgs (top 26), defBody (top 26), defScope (top 26), []⟩
def d__law_words : DefA := ⟨fun K => He.ga K "_law_words", "_law_words", "_law_words", defArgs (top 27), defBody (top 27), defScope (top 27), []⟩
def d__law_drawn_tables : DefA := ⟨fun K => He.ga K "_law_drawn_tables", "_law_drawn_tables", "_law_drawn_tables", defArgs (top 28), defBody (top 28), defScope (top 28), []⟩
def d__law_drawn_rules : DefA := ⟨fun K => He.ga K "_law_drawn_rules", "_law_drawn_rules", "_law_drawn_rules", defArgs (top 29), defBody (top 29), defScope (top 29), []⟩
def d__law_rule_text : DefA := ⟨fun K => He.ga K "_law_rule_text", "_law_rule_text", "_law_rule_text", defArgs (top 30), defBody (top 30), defScope (top 30), []⟩
def d__law_book_text : DefA := ⟨fun K => He.ga K "_law_book_text", "_law_book_text", "_law_book_text", defArgs (top 31), defBody (top 31), defScope (top 31), []⟩
def d__law_is_title : DefA := ⟨fun K => He.ga K "_law_is_title", "_law_is_title", "_law_is_title", defArgs (top 32), defBody (top 32), defScope (top 32), []⟩
def d__law_is_rule : DefA := ⟨fun K => He.ga K "_law_is_rule", "_law_is_rule", "_law_is_rule", defArgs (top 33), defBody (top 33), defScope (top 33), []⟩
def d__law_is_book : DefA := ⟨fun K => He.ga K "_law_is_book", "_law_is_book", "_law_is_book", defArgs (top 34), defBody (top 34), defScope (top 34), []⟩
def d__law_caught_book : DefA := ⟨fun K => He.ga K "_law_caught_book", "_law_caught_book", "_law_caught_book", defArgs (top 35), defBody (top 35), defScope (top 35), []⟩
def d__law_odd_book : DefA := ⟨fun K => He.ga K "_law_odd_book", "_law_odd_book", "_law_odd_book", defArgs (top 36), defBody (top 36), defScope (top 36), []⟩
def d__law_marred_book : DefA := ⟨fun K => He.ga K "_law_marred_book", "_law_marred_book", "_law_marred_book", defArgs (top 37), defBody (top 37), defScope (top 37), []⟩
def d__law_right : DefA := ⟨fun K => He.ga K "_law_right", "_law_right", "_law_right", defArgs (top 38), defBody (top 38), defScope (top 38), []⟩
def d_law : DefA := ⟨fun K => He.ga K "law", "law", "law", defArgs (top 39), defBody (top 39), defScope (top 39), []⟩
def ds : List DefA := [d_KeyTellError_init, d_is_name, d_fresh, d_checked_columns, d_check_rule, d_Book_init, d_Book_tables, d_Book_rules, d_Book_getitem, d_Book_iter, d_Book_len, d_Book_eq, d_Book_with_rules, d_Book_without, d_show_rule, d_show_book, d_rule_in, d_read_book, d__law_purse, d__law_coin, d__law_words, d__law_drawn_tables, d__law_drawn_rules, d__law_rule_text, d__law_book_text, d__law_is_title, d__law_is_rule, d__law_is_book, d__law_caught_book, d__law_odd_book, d__law_marred_book, d__law_right, d_law]
def fa : List He.Fa := [.free "len", .free "int", .free "abs", .free "max", .free "min", .free "all", .free "any", .free "list", .free "tuple", .free "dict", .free "str", .free "range", .free "enumerate", .free "zip", .free "isinstance", .free "repr", .free "sum", .free "set", .free "sorted", .free "ValueError", .str "LETTERS" "abcdefghijklmnopqrstuvwxyz", .int "MOST_LETTERS" 8, .glo "RULE_SIZES", .glo "KeyTellError", .glo "InvalidName", .glo "DoubleName", .glo "UnknownTable", .glo "UnknownColumn", .glo "InvalidRule", .glo "Unreadable", .glo "Book", .glo "is_name", .glo "fresh", .glo "checked_columns", .glo "check_rule", .glo "show_rule", .glo "show_book", .glo "rule_in", .glo "read_book", .glo "_law_purse", .glo "_law_coin", .glo "_law_words", .glo "_law_drawn_tables", .glo "_law_drawn_rules", .glo "_law_rule_text", .glo "_law_book_text", .glo "_law_is_title", .glo "_law_is_rule", .glo "_law_is_book", .glo "_law_caught_book", .glo "_law_odd_book", .glo "_law_marred_book", .glo "_law_right", .glo "law", .cls "Book", .mkr "Book", .noat "Book" "kept_tables", .noat "Book" "kept_rules"]
def ex0 (K : PySem.W.Frag) : Bool := decide (PySem.W.typeIn K (.ref (He.ma K (He.ga K "KeyTellError") "__init__")) = some (.type "function"))
def ex1 (K : PySem.W.Frag) : Bool := oexB K (He.ga K "KeyTellError")
def ex2 (K : PySem.W.Frag) : Bool := He.eqO (PySem.W.findIn K (.ref (He.ga K "KeyTellError")) "__init__") (some (some (.ref (He.ma K (He.ga K "KeyTellError") "__init__"))))
def ex3 (K : PySem.W.Frag) : Bool := He.eqO (PySem.W.findIn K (.ref (He.ga K "KeyTellError")) "value") (some none)
def ex4 (K : PySem.W.Frag) : Bool := oexB K (He.ga K "InvalidName")
def ex5 (K : PySem.W.Frag) : Bool := He.eqO (PySem.W.findIn K (.ref (He.ga K "InvalidName")) "__init__") (some (some (.ref (He.ma K (He.ga K "KeyTellError") "__init__"))))
def ex6 (K : PySem.W.Frag) : Bool := He.eqO (PySem.W.findIn K (.ref (He.ga K "InvalidName")) "value") (some none)
def ex7 (K : PySem.W.Frag) : Bool := oexB K (He.ga K "DoubleName")
def ex8 (K : PySem.W.Frag) : Bool := He.eqO (PySem.W.findIn K (.ref (He.ga K "DoubleName")) "__init__") (some (some (.ref (He.ma K (He.ga K "KeyTellError") "__init__"))))
def ex9 (K : PySem.W.Frag) : Bool := He.eqO (PySem.W.findIn K (.ref (He.ga K "DoubleName")) "value") (some none)
def ex10 (K : PySem.W.Frag) : Bool := oexB K (He.ga K "UnknownTable")
def ex11 (K : PySem.W.Frag) : Bool := He.eqO (PySem.W.findIn K (.ref (He.ga K "UnknownTable")) "__init__") (some (some (.ref (He.ma K (He.ga K "KeyTellError") "__init__"))))
def ex12 (K : PySem.W.Frag) : Bool := He.eqO (PySem.W.findIn K (.ref (He.ga K "UnknownTable")) "value") (some none)
def ex13 (K : PySem.W.Frag) : Bool := oexB K (He.ga K "UnknownColumn")
def ex14 (K : PySem.W.Frag) : Bool := He.eqO (PySem.W.findIn K (.ref (He.ga K "UnknownColumn")) "__init__") (some (some (.ref (He.ma K (He.ga K "KeyTellError") "__init__"))))
def ex15 (K : PySem.W.Frag) : Bool := He.eqO (PySem.W.findIn K (.ref (He.ga K "UnknownColumn")) "value") (some none)
def ex16 (K : PySem.W.Frag) : Bool := oexB K (He.ga K "InvalidRule")
def ex17 (K : PySem.W.Frag) : Bool := He.eqO (PySem.W.findIn K (.ref (He.ga K "InvalidRule")) "__init__") (some (some (.ref (He.ma K (He.ga K "KeyTellError") "__init__"))))
def ex18 (K : PySem.W.Frag) : Bool := He.eqO (PySem.W.findIn K (.ref (He.ga K "InvalidRule")) "value") (some none)
def ex19 (K : PySem.W.Frag) : Bool := oexB K (He.ga K "Unreadable")
def ex20 (K : PySem.W.Frag) : Bool := He.eqO (PySem.W.findIn K (.ref (He.ga K "Unreadable")) "__init__") (some (some (.ref (He.ma K (He.ga K "KeyTellError") "__init__"))))
def ex21 (K : PySem.W.Frag) : Bool := He.eqO (PySem.W.findIn K (.ref (He.ga K "Unreadable")) "value") (some none)
def ex22 (K : PySem.W.Frag) : Bool := propB K (He.ga K "Book") "tables"
def ex23 (K : PySem.W.Frag) : Bool := propB K (He.ga K "Book") "rules"
def ex24 (K : PySem.W.Frag) : Bool := He.valsB K (He.ga K "RULE_SIZES") [("key", .int 3), ("settles", .int 4)]
def ex25 (K : PySem.W.Frag) : Bool := [He.ga K "DoubleName", He.ga K "InvalidName", He.ga K "InvalidRule", He.ga K "UnknownColumn", He.ga K "UnknownTable"].all fun C => decide (PySem.W.exmAny K (.ref C) [.ref (He.ga K "DoubleName"), .ref (He.ga K "InvalidName"), .ref (He.ga K "InvalidRule"), .ref (He.ga K "UnknownColumn"), .ref (He.ga K "UnknownTable")] = some true)
def ex26 (K : PySem.W.Frag) : Bool := decide (PySem.W.exmOne K (.ref (He.ga K "Unreadable")) (.ref (He.ga K "KeyTellError")) = some true)
def ex27 (K : PySem.W.Frag) : Bool := [He.ga K "DoubleName", He.ga K "InvalidName", He.ga K "InvalidRule", He.ga K "UnknownColumn", He.ga K "UnknownTable"].all fun C => decide (PySem.W.kitOne K (.ref (He.ga K "Unreadable")) (.ref C) = some false)
def ex28 (K : PySem.W.Frag) : Bool := decide (PySem.W.kitOne K (.ref (He.ga K "Unreadable")) (.ref (He.ga K "Unreadable")) = some true)
def ex29 (K : PySem.W.Frag) : Bool := excB K (He.ga K "Unreadable")
def ex30 (K : PySem.W.Frag) : Bool := xfB K (He.ga K "Unreadable")
def ex31 (K : PySem.W.Frag) : Bool := noLst K
def exs : List (PySem.W.Frag → Bool) := [ex0, ex1, ex2, ex3, ex4, ex5, ex6, ex7, ex8, ex9, ex10, ex11, ex12, ex13, ex14, ex15, ex16, ex17, ex18, ex19, ex20, ex21, ex22, ex23, ex24, ex25, ex26, ex27, ex28, ex29, ex30, ex31]
def ex (K : PySem.W.Frag) : Bool := (fa.all fun f => f.ok K) && exs.all fun b => b K
def tabs_ : List He.Tab := [(fun K => He.ga K "RULE_SIZES", ["key", "settles"])]
abbrev R : PySem.W.OpenRow := PySem.W.OpenLaw.row PySem.Challenge.rw_keysthrough_k54_books_that_are_none
abbrev hk : PySem.W.Hook := hookY 7 ds tabs_ ex
def ob (s : PySem.W.SharedT) : AlY := obsY 7 ds tabs_ ex (HandSHeadRun.getT s)
theorem ob_eq (s : PySem.W.SharedT) : ob s = hk.obs s.abs := obsY_eq (HandSHeadRun.getT_eq s)
def loose0 : List PySem.Str := ["_wall", "KeyTellError", "InvalidName", "DoubleName", "UnknownTable", "UnknownColumn", "InvalidRule", "Unreadable", "LETTERS", "MOST_LETTERS", "RULE_SIZES", "is_name", "fresh", "checked_columns", "check_rule", "Book", "show_rule", "show_book", "rule_in", "read_book", "_law_purse", "_law_coin", "_law_words", "_law_drawn_tables", "_law_drawn_rules", "_law_rule_text", "_law_book_text", "_law_is_title", "_law_is_rule", "_law_is_book"]
def loose1 : List PySem.Str := ["_law_caught_book", "_law_odd_book", "_law_marred_book", "_law_right"]
def loose : List PySem.Str := loose0 ++ loose1
theorem run0 (w : World) : HandSHeadRun.RunEq R (PySem.W.view R.prog [39]) hk ob 6000 loose (w.withFollow "special-get-raises" false) := by
  intro os
  kernel_rfl
theorem run1 (w : World) : HandSHeadRun.RunEq R (PySem.W.view R.prog [39]) hk ob 6000 loose (w.withFollow "special-get-raises" true) := by
  intro os
  kernel_rfl
theorem run (w : World) : HandSHeadRun.RunEq R (PySem.W.view R.prog [39]) hk ob 6000 loose w :=
  PySem.W.byRow2 "special-get-raises" (P := fun w => HandSHeadRun.RunEq R (PySem.W.view R.prog [39]) hk ob 6000 loose w) run0 run1 w
theorem exs_of {K : PySem.W.Frag} (h : (exs.all fun b => b K) = true) (i : Nat) {b : PySem.W.Frag → Bool} (e : exs[i]? = some b := by rfl) : b K = true := List.all_eq_true.mp h b (List.mem_of_getElem? e)
end Kt
namespace Kt
open PySem PySem.Spec PyProof.Rows L2
theorem txt_of {w : World} {K : PySem.W.Frag} {h : Heap} {mg : Str → Option Value} (X : K.In h) (G : h.Ns mainGlobals mg) (c : obsK ds tabs_ ex K = valY ds tabs_ w) : ∃ T : Txt K mg w, T.a_law = He.ga K "law" := by
  obtain ⟨hf, hx⟩ := He.ba (saysK_ex c)
  obtain ⟨fd_KeyTellError_init, F_KeyTellError_init⟩ := saysK_def c 0 (d := d_KeyTellError_init)
  obtain ⟨fd_is_name, F_is_name⟩ := saysK_def c 1 (d := d_is_name)
  obtain ⟨fd_fresh, F_fresh⟩ := saysK_def c 2 (d := d_fresh)
  obtain ⟨fd_checked_columns, F_checked_columns⟩ := saysK_def c 3 (d := d_checked_columns)
  obtain ⟨fd_check_rule, F_check_rule⟩ := saysK_def c 4 (d := d_check_rule)
  obtain ⟨fd_Book_init, F_Book_init⟩ := saysK_def c 5 (d := d_Book_init)
  obtain ⟨fd_Book_tables, F_Book_tables⟩ := saysK_def c 6 (d := d_Book_tables)
  obtain ⟨fd_Book_rules, F_Book_rules⟩ := saysK_def c 7 (d := d_Book_rules)
  obtain ⟨fd_Book_getitem, F_Book_getitem⟩ := saysK_def c 8 (d := d_Book_getitem)
  obtain ⟨fd_Book_iter, F_Book_iter⟩ := saysK_def c 9 (d := d_Book_iter)
  obtain ⟨fd_Book_len, F_Book_len⟩ := saysK_def c 10 (d := d_Book_len)
  obtain ⟨fd_Book_eq, F_Book_eq⟩ := saysK_def c 11 (d := d_Book_eq)
  obtain ⟨fd_Book_with_rules, F_Book_with_rules⟩ := saysK_def c 12 (d := d_Book_with_rules)
  obtain ⟨fd_Book_without, F_Book_without⟩ := saysK_def c 13 (d := d_Book_without)
  obtain ⟨fd_show_rule, F_show_rule⟩ := saysK_def c 14 (d := d_show_rule)
  obtain ⟨fd_show_book, F_show_book⟩ := saysK_def c 15 (d := d_show_book)
  obtain ⟨fd_rule_in, F_rule_in⟩ := saysK_def c 16 (d := d_rule_in)
  obtain ⟨fd_read_book, F_read_book⟩ := saysK_def c 17 (d := d_read_book)
  obtain ⟨fd__law_purse, F__law_purse⟩ := saysK_def c 18 (d := d__law_purse)
  obtain ⟨fd__law_coin, F__law_coin⟩ := saysK_def c 19 (d := d__law_coin)
  obtain ⟨fd__law_words, F__law_words⟩ := saysK_def c 20 (d := d__law_words)
  obtain ⟨fd__law_drawn_tables, F__law_drawn_tables⟩ := saysK_def c 21 (d := d__law_drawn_tables)
  obtain ⟨fd__law_drawn_rules, F__law_drawn_rules⟩ := saysK_def c 22 (d := d__law_drawn_rules)
  obtain ⟨fd__law_rule_text, F__law_rule_text⟩ := saysK_def c 23 (d := d__law_rule_text)
  obtain ⟨fd__law_book_text, F__law_book_text⟩ := saysK_def c 24 (d := d__law_book_text)
  obtain ⟨fd__law_is_title, F__law_is_title⟩ := saysK_def c 25 (d := d__law_is_title)
  obtain ⟨fd__law_is_rule, F__law_is_rule⟩ := saysK_def c 26 (d := d__law_is_rule)
  obtain ⟨fd__law_is_book, F__law_is_book⟩ := saysK_def c 27 (d := d__law_is_book)
  obtain ⟨fd__law_caught_book, F__law_caught_book⟩ := saysK_def c 28 (d := d__law_caught_book)
  obtain ⟨fd__law_odd_book, F__law_odd_book⟩ := saysK_def c 29 (d := d__law_odd_book)
  obtain ⟨fd__law_marred_book, F__law_marred_book⟩ := saysK_def c 30 (d := d__law_marred_book)
  obtain ⟨fd__law_right, F__law_right⟩ := saysK_def c 31 (d := d__law_right)
  obtain ⟨fd_law, F_law⟩ := saysK_def c 32 (d := d_law)
  exact ⟨{
    n_len := He.free_ok X G (facts_of hf 0 (f := .free "len")),
    n_int := He.free_ok X G (facts_of hf 1 (f := .free "int")),
    n_abs := He.free_ok X G (facts_of hf 2 (f := .free "abs")),
    n_max := He.free_ok X G (facts_of hf 3 (f := .free "max")),
    n_min := He.free_ok X G (facts_of hf 4 (f := .free "min")),
    n_all := He.free_ok X G (facts_of hf 5 (f := .free "all")),
    n_any := He.free_ok X G (facts_of hf 6 (f := .free "any")),
    n_list := He.free_ok X G (facts_of hf 7 (f := .free "list")),
    n_tuple := He.free_ok X G (facts_of hf 8 (f := .free "tuple")),
    n_dict := He.free_ok X G (facts_of hf 9 (f := .free "dict")),
    n_str := He.free_ok X G (facts_of hf 10 (f := .free "str")),
    n_range := He.free_ok X G (facts_of hf 11 (f := .free "range")),
    n_enumerate := He.free_ok X G (facts_of hf 12 (f := .free "enumerate")),
    n_zip := He.free_ok X G (facts_of hf 13 (f := .free "zip")),
    n_isinstance := He.free_ok X G (facts_of hf 14 (f := .free "isinstance")),
    n_repr := He.free_ok X G (facts_of hf 15 (f := .free "repr")),
    n_sum := He.free_ok X G (facts_of hf 16 (f := .free "sum")),
    n_set := He.free_ok X G (facts_of hf 17 (f := .free "set")),
    n_sorted := He.free_ok X G (facts_of hf 18 (f := .free "sorted")),
    n_ValueError := He.free_ok X G (facts_of hf 19 (f := .free "ValueError")),
    c_LETTERS := con_str X G (facts_of hf 20 (f := .str "LETTERS" "abcdefghijklmnopqrstuvwxyz")),
    c_MOST_LETTERS := con_int X G (facts_of hf 21 (f := .int "MOST_LETTERS" 8)),
    a_RULE_SIZES := He.ga K "RULE_SIZES",
    g_RULE_SIZES := He.glo_ok X G (facts_of hf 22 (f := .glo "RULE_SIZES")),
    a_KeyTellError := He.ga K "KeyTellError",
    g_KeyTellError := He.glo_ok X G (facts_of hf 23 (f := .glo "KeyTellError")),
    a_InvalidName := He.ga K "InvalidName",
    g_InvalidName := He.glo_ok X G (facts_of hf 24 (f := .glo "InvalidName")),
    a_DoubleName := He.ga K "DoubleName",
    g_DoubleName := He.glo_ok X G (facts_of hf 25 (f := .glo "DoubleName")),
    a_UnknownTable := He.ga K "UnknownTable",
    g_UnknownTable := He.glo_ok X G (facts_of hf 26 (f := .glo "UnknownTable")),
    a_UnknownColumn := He.ga K "UnknownColumn",
    g_UnknownColumn := He.glo_ok X G (facts_of hf 27 (f := .glo "UnknownColumn")),
    a_InvalidRule := He.ga K "InvalidRule",
    g_InvalidRule := He.glo_ok X G (facts_of hf 28 (f := .glo "InvalidRule")),
    a_Unreadable := He.ga K "Unreadable",
    g_Unreadable := He.glo_ok X G (facts_of hf 29 (f := .glo "Unreadable")),
    a_Book := He.ga K "Book",
    g_Book := He.glo_ok X G (facts_of hf 30 (f := .glo "Book")),
    a_KeyTellError_init := (He.ma K (He.ga K "KeyTellError") "__init__"),
    fd_KeyTellError_init := fd_KeyTellError_init,
    F_KeyTellError_init := F_KeyTellError_init,
    a_is_name := (He.ga K "is_name"),
    fd_is_name := fd_is_name,
    F_is_name := F_is_name,
    g_is_name := He.glo_ok X G (facts_of hf 31 (f := .glo "is_name")),
    a_fresh := (He.ga K "fresh"),
    fd_fresh := fd_fresh,
    F_fresh := F_fresh,
    g_fresh := He.glo_ok X G (facts_of hf 32 (f := .glo "fresh")),
    a_checked_columns := (He.ga K "checked_columns"),
    fd_checked_columns := fd_checked_columns,
    F_checked_columns := F_checked_columns,
    g_checked_columns := He.glo_ok X G (facts_of hf 33 (f := .glo "checked_columns")),
    a_check_rule := (He.ga K "check_rule"),
    fd_check_rule := fd_check_rule,
    F_check_rule := F_check_rule,
    g_check_rule := He.glo_ok X G (facts_of hf 34 (f := .glo "check_rule")),
    a_Book_init := (He.ma K (He.ga K "Book") "__init__"),
    fd_Book_init := fd_Book_init,
    F_Book_init := F_Book_init,
    a_Book_tables := (propG K (He.ga K "Book") "tables"),
    fd_Book_tables := fd_Book_tables,
    F_Book_tables := F_Book_tables,
    a_Book_rules := (propG K (He.ga K "Book") "rules"),
    fd_Book_rules := fd_Book_rules,
    F_Book_rules := F_Book_rules,
    a_Book_getitem := (He.ma K (He.ga K "Book") "__getitem__"),
    fd_Book_getitem := fd_Book_getitem,
    F_Book_getitem := F_Book_getitem,
    a_Book_iter := (He.ma K (He.ga K "Book") "__iter__"),
    fd_Book_iter := fd_Book_iter,
    F_Book_iter := F_Book_iter,
    a_Book_len := (He.ma K (He.ga K "Book") "__len__"),
    fd_Book_len := fd_Book_len,
    F_Book_len := F_Book_len,
    a_Book_eq := (He.ma K (He.ga K "Book") "__eq__"),
    fd_Book_eq := fd_Book_eq,
    F_Book_eq := F_Book_eq,
    a_Book_with_rules := (He.ma K (He.ga K "Book") "with_rules"),
    fd_Book_with_rules := fd_Book_with_rules,
    F_Book_with_rules := F_Book_with_rules,
    a_Book_without := (He.ma K (He.ga K "Book") "without"),
    fd_Book_without := fd_Book_without,
    F_Book_without := F_Book_without,
    a_show_rule := (He.ga K "show_rule"),
    fd_show_rule := fd_show_rule,
    F_show_rule := F_show_rule,
    g_show_rule := He.glo_ok X G (facts_of hf 35 (f := .glo "show_rule")),
    a_show_book := (He.ga K "show_book"),
    fd_show_book := fd_show_book,
    F_show_book := F_show_book,
    g_show_book := He.glo_ok X G (facts_of hf 36 (f := .glo "show_book")),
    a_rule_in := (He.ga K "rule_in"),
    fd_rule_in := fd_rule_in,
    F_rule_in := F_rule_in,
    g_rule_in := He.glo_ok X G (facts_of hf 37 (f := .glo "rule_in")),
    a_read_book := (He.ga K "read_book"),
    fd_read_book := fd_read_book,
    F_read_book := F_read_book,
    g_read_book := He.glo_ok X G (facts_of hf 38 (f := .glo "read_book")),
    a__law_purse := (He.ga K "_law_purse"),
    fd__law_purse := fd__law_purse,
    F__law_purse := F__law_purse,
    g__law_purse := He.glo_ok X G (facts_of hf 39 (f := .glo "_law_purse")),
    a__law_coin := (He.ga K "_law_coin"),
    fd__law_coin := fd__law_coin,
    F__law_coin := F__law_coin,
    g__law_coin := He.glo_ok X G (facts_of hf 40 (f := .glo "_law_coin")),
    a__law_words := (He.ga K "_law_words"),
    fd__law_words := fd__law_words,
    F__law_words := F__law_words,
    g__law_words := He.glo_ok X G (facts_of hf 41 (f := .glo "_law_words")),
    a__law_drawn_tables := (He.ga K "_law_drawn_tables"),
    fd__law_drawn_tables := fd__law_drawn_tables,
    F__law_drawn_tables := F__law_drawn_tables,
    g__law_drawn_tables := He.glo_ok X G (facts_of hf 42 (f := .glo "_law_drawn_tables")),
    a__law_drawn_rules := (He.ga K "_law_drawn_rules"),
    fd__law_drawn_rules := fd__law_drawn_rules,
    F__law_drawn_rules := F__law_drawn_rules,
    g__law_drawn_rules := He.glo_ok X G (facts_of hf 43 (f := .glo "_law_drawn_rules")),
    a__law_rule_text := (He.ga K "_law_rule_text"),
    fd__law_rule_text := fd__law_rule_text,
    F__law_rule_text := F__law_rule_text,
    g__law_rule_text := He.glo_ok X G (facts_of hf 44 (f := .glo "_law_rule_text")),
    a__law_book_text := (He.ga K "_law_book_text"),
    fd__law_book_text := fd__law_book_text,
    F__law_book_text := F__law_book_text,
    g__law_book_text := He.glo_ok X G (facts_of hf 45 (f := .glo "_law_book_text")),
    a__law_is_title := (He.ga K "_law_is_title"),
    fd__law_is_title := fd__law_is_title,
    F__law_is_title := F__law_is_title,
    g__law_is_title := He.glo_ok X G (facts_of hf 46 (f := .glo "_law_is_title")),
    a__law_is_rule := (He.ga K "_law_is_rule"),
    fd__law_is_rule := fd__law_is_rule,
    F__law_is_rule := F__law_is_rule,
    g__law_is_rule := He.glo_ok X G (facts_of hf 47 (f := .glo "_law_is_rule")),
    a__law_is_book := (He.ga K "_law_is_book"),
    fd__law_is_book := fd__law_is_book,
    F__law_is_book := F__law_is_book,
    g__law_is_book := He.glo_ok X G (facts_of hf 48 (f := .glo "_law_is_book")),
    a__law_caught_book := (He.ga K "_law_caught_book"),
    fd__law_caught_book := fd__law_caught_book,
    F__law_caught_book := F__law_caught_book,
    g__law_caught_book := He.glo_ok X G (facts_of hf 49 (f := .glo "_law_caught_book")),
    a__law_odd_book := (He.ga K "_law_odd_book"),
    fd__law_odd_book := fd__law_odd_book,
    F__law_odd_book := F__law_odd_book,
    g__law_odd_book := He.glo_ok X G (facts_of hf 50 (f := .glo "_law_odd_book")),
    a__law_marred_book := (He.ga K "_law_marred_book"),
    fd__law_marred_book := fd__law_marred_book,
    F__law_marred_book := F__law_marred_book,
    g__law_marred_book := He.glo_ok X G (facts_of hf 51 (f := .glo "_law_marred_book")),
    a__law_right := (He.ga K "_law_right"),
    fd__law_right := fd__law_right,
    F__law_right := F__law_right,
    g__law_right := He.glo_ok X G (facts_of hf 52 (f := .glo "_law_right")),
    a_law := (He.ga K "law"),
    fd_law := fd_law,
    F_law := F_law,
    g_law := He.glo_ok X G (facts_of hf 53 (f := .glo "law")),
    ti := of_decide_eq_true (exs_of hx 0 (b := ex0)),
    x_KeyTellError := oexB_ok (exs_of hx 1 (b := ex1)),
    i_KeyTellError := He.eqO_ok (exs_of hx 2 (b := ex2)),
    v_KeyTellError := He.eqO_ok (exs_of hx 3 (b := ex3)),
    x_InvalidName := oexB_ok (exs_of hx 4 (b := ex4)),
    i_InvalidName := He.eqO_ok (exs_of hx 5 (b := ex5)),
    v_InvalidName := He.eqO_ok (exs_of hx 6 (b := ex6)),
    x_DoubleName := oexB_ok (exs_of hx 7 (b := ex7)),
    i_DoubleName := He.eqO_ok (exs_of hx 8 (b := ex8)),
    v_DoubleName := He.eqO_ok (exs_of hx 9 (b := ex9)),
    x_UnknownTable := oexB_ok (exs_of hx 10 (b := ex10)),
    i_UnknownTable := He.eqO_ok (exs_of hx 11 (b := ex11)),
    v_UnknownTable := He.eqO_ok (exs_of hx 12 (b := ex12)),
    x_UnknownColumn := oexB_ok (exs_of hx 13 (b := ex13)),
    i_UnknownColumn := He.eqO_ok (exs_of hx 14 (b := ex14)),
    v_UnknownColumn := He.eqO_ok (exs_of hx 15 (b := ex15)),
    x_InvalidRule := oexB_ok (exs_of hx 16 (b := ex16)),
    i_InvalidRule := He.eqO_ok (exs_of hx 17 (b := ex17)),
    v_InvalidRule := He.eqO_ok (exs_of hx 18 (b := ex18)),
    x_Unreadable := oexB_ok (exs_of hx 19 (b := ex19)),
    i_Unreadable := He.eqO_ok (exs_of hx 20 (b := ex20)),
    v_Unreadable := He.eqO_ok (exs_of hx 21 (b := ex21)),
    cl_Book := He.cls_ok (facts_of hf 54 (f := .cls "Book")),
    mk_Book := He.mkr_ok (facts_of hf 55 (f := .mkr "Book")),
    na_Book_kept_tables := He.noat_ok (facts_of hf 56 (f := .noat "Book" "kept_tables")),
    na_Book_kept_rules := He.noat_ok (facts_of hf 57 (f := .noat "Book" "kept_rules")),
    pr_Book_tables := propB_ok (exs_of hx 22 (b := ex22)),
    pr_Book_rules := propB_ok (exs_of hx 23 (b := ex23)),
    kd_RULE_SIZES := saysK_tab c 0,
    rs_key := He.valsB_ok (exs_of hx 24 (b := ex24)) (q := ("key", .int 3)) (by simp),
    rs_settles := He.valsB_ok (exs_of hx 24 (b := ex24)) (q := ("settles", .int 4)) (by simp),
    any5 := fun C hC => of_decide_eq_true (List.all_eq_true.mp (exs_of hx 25 (b := ex25)) C hC),
    one_U := of_decide_eq_true (exs_of hx 26 (b := ex26)),
    ki_U := fun C hC => of_decide_eq_true (List.all_eq_true.mp (exs_of hx 27 (b := ex27)) C hC),
    ki_UU := of_decide_eq_true (exs_of hx 28 (b := ex28)),
    ec_U := excB_ok (exs_of hx 29 (b := ex29)),
    xf_U := xfB_ok (exs_of hx 30 (b := ex30)) }, rfl⟩
end Kt
open PySem PySem.W PySem.Calls PyProof.Rows
theorem PySem.Challenge.cw_keysthrough_k54_books_that_are_none_holds : PySem.Challenge.rw_keysthrough_k54_books_that_are_none.Holds := by
  w_on; o_law
  refine HandSHeadRun.head_any (r := OpenLaw.row PySem.Challenge.rw_keysthrough_k54_books_that_are_none) (q := view (OpenLaw.row PySem.Challenge.rw_keysthrough_k54_books_that_are_none).prog [39]) (H := Kt.hk) (ob := Kt.ob) (M := 6000) (loose := Kt.loose) (d := HandSHeadRun.topDef (OpenLaw.row PySem.Challenge.rw_keysthrough_k54_books_that_are_none).prog 39) (kwd := []) Kt.ob_eq
    (by kernel_rfl) (fun s => by kernel_rfl) Kt.run (by kernel_rfl) (by kernel_rfl) (by kernel_rfl) (by rfl) (by first | assumption | decide +kernel) (by decide +kernel) ⟨rfl, rfl, rfl, rfl, rfl, by decide +kernel⟩ ?hw ?hc
  case hw => w_witness2
  case hc =>
    refine LamX.walk_ofTsE (l := PySem.Challenge.rw_keysthrough_k54_books_that_are_none) (n := 63) (k := 10) (x := "script") (CX := fun w => L2.CX (PySem.Challenge.rw_keysthrough_k54_books_that_are_none).prog w) rfl (by decide) (by kernel_rfl) ⟨rfl, by decide, by decide⟩ ?F (fun _ _ _ _ _ ⟨_, _, _, _, _, _, _, _, _, _, _, _, z⟩ => z)
    intro w mg fa h Y G hmg0
    obtain ⟨K, KX, c⟩ := Y
    have hmg : mg ("law" : PySem.Str) = some (.ref fa) := by
      have e : (HandSHeadRun.topDef (OpenLaw.row PySem.Challenge.rw_keysthrough_k54_books_that_are_none).prog 39).name = ("law" : PySem.Str) := by kernel_rfl
      rw [← e]
      exact hmg0
    obtain ⟨T, _⟩ := Kt.txt_of KX G c
    have e := hmg.symm.trans T.g_law
    cases e
    have b := L2.FunD.bindsA (ps := ["script"]) T.F_law fun _ _ _ _ _ _ us hl => match us, hl with | [_], _ => rfl
    have hno : Kt.noLst K = true := Kt.exs_of (He.ba (Kt.saysK_ex c)).2 31 (b := Kt.ex31)
    exact ⟨K, KX, T.fd_law, [], Kt.c_law.sp, (fun _ z => nomatch z), (fun _ z => nomatch z), (fun _ z => nomatch z), fun s v => b s [v] rfl, fun H a ns hl hb _ hS => Kt.hsp_law hno hS ns rfl rfl hl (fun d O' z => z.1) (fun _ _ _ z => z), fun base _ _ _ => Kt.G_law T⟩
