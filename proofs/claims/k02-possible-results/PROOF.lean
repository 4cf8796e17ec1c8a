import PyProof.Rows.All
import Wide.All
import OpenK.AllK
import Wide.FinOn
import HandS.Base
import HandS.Call
import HandS.List
import HandS.Words
import HandS.Comp
import HandS.Deep
import HandS.TupAny
import HandS.Text
import KE.SortData
import KE.DataEq
import HandS.Dict
import HandS.More
import HandS.Style
import HandS.CallLocal
import HandS.IsInst
import HandS.Iter
import HandS.Ends
import PySem.Challenge.RW_ordershown_k02_possible_results
set_option Elab.async false
set_option linter.all false
set_option maxRecDepth 100000
set_option maxHeartbeats 4000000
/-! VL: a layer of values over the hand layer: what stands at names is data (PyData); what a term of the program does is a function of data. -/
namespace VL
open PySem PySem.Spec
open PyProof.Rows L2
abbrev D := PyData
/-- a key as data -/
def kD : Key → D
  | .inl i => .int i
  | .inr x => .str x
/-- a list, a tuple of the written part -/
def LK (K : PySem.W.Frag) (a : Addr) (xs : List V) : Prop :=
  ∃ (o : Obj) (its : Array Value) (n : Nat), K.lookup a = some o ∧ o.cls = .type "list" ∧ o.dict = none ∧ o.data = .seq its n ∧ its.size ≤ sizeLine ∧ Vals xs its.toList
def TK (K : PySem.W.Frag) (a : Addr) (xs : List V) : Prop :=
  ∃ (o : Obj) (its : Array Value) (n : Nat), K.lookup a = some o ∧ o.cls = .type "tuple" ∧ o.data = .seq its n ∧ its.size ≤ sizeLine ∧ Vals xs its.toList
/-- a def as data: its name -/
def fnD (x : Str) : D := .dict [(.none, .str x)]
/-- the def of that name at the top -/
def FnAt (K : PySem.W.Frag) (a : Addr) (x : Str) : Prop := PySem.W.nsIn K mainGlobals x = some (some (.ref a))
theorem FnAt.one {K : PySem.W.Frag} {a b : Addr} {x : Str} (h : FnAt K a x) (k : FnAt K b x) : a = b := Value.ref.inj (Option.some.inj (Option.some.inj (h.symm.trans k)))
mutual
/-- the value stands for the data; none of its objects is in O -/
inductive Rep (K : PySem.W.Frag) (H : Hp) (O : List Addr) : V → D → Prop
  | non : Rep K H O .non .none
  | bl (b : Bool) : Rep K H O (.bl b) (.bool b)
  | int (i : Int) : Rep K H O (.int i) (.int i)
  | str (x : Str) : Rep K H O (.str x) (.str x)
  | lst {a : Addr} {xs : List V} {ds : List D} : Rd H a (.lst xs) → a ∉ O → xs.length ≤ sizeLine → Reps K H O xs ds → Rep K H O (.ref a) (.list ds)
  | lstK {a : Addr} {xs : List V} {ds : List D} : LK K a xs → Reps K H O xs ds → Rep K H O (.ref a) (.list ds)
  | tup {a : Addr} {xs : List V} {ds : List D} : Rd H a (.tup xs) → a ∉ O → xs.length ≤ sizeLine → Reps K H O xs ds → Rep K H O (.ref a) (.tuple ds)
  | tupK {a : Addr} {xs : List V} {ds : List D} : TK K a xs → Reps K H O xs ds → Rep K H O (.ref a) (.tuple ds)
  | dic {a : Addr} {kvs : List (Key × V)} {ds : List (D × D)} : Rd H a (.dK kvs) → a ∉ O → KReps K H O kvs ds → Rep K H O (.ref a) (.dict ds)
  | fn {a : Addr} {x : Str} : FnAt K a x → Rep K H O (.ref a) (fnD x)
inductive Reps (K : PySem.W.Frag) (H : Hp) (O : List Addr) : List V → List D → Prop
  | nil : Reps K H O [] []
  | cons {v : V} {vs : List V} {d : D} {ds : List D} : Rep K H O v d → Reps K H O vs ds → Reps K H O (v :: vs) (d :: ds)
inductive KReps (K : PySem.W.Frag) (H : Hp) (O : List Addr) : List (Key × V) → List (D × D) → Prop
  | nil : KReps K H O [] []
  | cons {k : Key} {v : V} {d : D} {vs : List (Key × V)} {ds : List (D × D)} : Rep K H O v d → KReps K H O vs ds → KReps K H O ((k, v) :: vs) ((kD k, d) :: ds)
end
section
variable {K : PySem.W.Frag} {H H' : Hp} {O O' : List Addr}
theorem Rd.keep {a : Addr} {u : HO} (h : Rd H a u) (k : ∀ o, H a = some o → H' a = some o) : Rd H' a u := by
  rcases h with h | ⟨o, h⟩
  · exact .inl (k _ h)
  · exact .inr ⟨o, k _ h⟩
theorem Rd.has {a : Addr} {u : HO} (h : Rd H a u) : H a ≠ none := by
  rcases h with h | ⟨o, h⟩
  · rw [h]; exact fun z => nomatch z
  · rw [h]; exact fun z => nomatch z
mutual
/-- what was readable outside O is readable; what is in O' was in O or is new -/
theorem Rep.evR (k : ∀ a u, a ∉ O → Rd H a u → Rd H' a u) (n : ∀ a ∈ O', a ∈ O ∨ H a = none) : ∀ {v : V} {d : D}, Rep K H O v d → Rep K H' O' v d
  | _, _, .non => .non
  | _, _, .bl b => .bl b
  | _, _, .int i => .int i
  | _, _, .str x => .str x
  | _, _, .lst h1 h2 hz h3 => .lst (k _ _ h2 h1) (fun z => (n _ z).elim h2 fun e => Rd.has h1 e) hz (Reps.evR k n h3)
  | _, _, .lstK h1 h3 => .lstK h1 (Reps.evR k n h3)
  | _, _, .tup h1 h2 hz h3 => .tup (k _ _ h2 h1) (fun z => (n _ z).elim h2 fun e => Rd.has h1 e) hz (Reps.evR k n h3)
  | _, _, .tupK h1 h3 => .tupK h1 (Reps.evR k n h3)
  | _, _, .dic h1 h2 h3 => .dic (k _ _ h2 h1) (fun z => (n _ z).elim h2 fun e => Rd.has h1 e) (KReps.evR k n h3)
  | _, _, .fn h => .fn h
theorem Reps.evR (k : ∀ a u, a ∉ O → Rd H a u → Rd H' a u) (n : ∀ a ∈ O', a ∈ O ∨ H a = none) : ∀ {vs : List V} {ds : List D}, Reps K H O vs ds → Reps K H' O' vs ds
  | _, _, .nil => .nil
  | _, _, .cons h1 h2 => .cons (Rep.evR k n h1) (Reps.evR k n h2)
theorem KReps.evR (k : ∀ a u, a ∉ O → Rd H a u → Rd H' a u) (n : ∀ a ∈ O', a ∈ O ∨ H a = none) : ∀ {vs : List (Key × V)} {ds : List (D × D)}, KReps K H O vs ds → KReps K H' O' vs ds
  | _, _, .nil => .nil
  | _, _, .cons h1 h2 => .cons (Rep.evR k n h1) (KReps.evR k n h2)
end
/-- what was tracked outside O is as it was; what is in O' was in O or is new -/
theorem Rep.ev (k : ∀ a o, H a = some o → a ∉ O → H' a = some o) (n : ∀ a ∈ O', a ∈ O ∨ H a = none) {v : V} {d : D} (r : Rep K H O v d) : Rep K H' O' v d := r.evR (fun _ _ h q => Rd.keep q fun o e => k _ o e h) n
theorem Reps.ev (k : ∀ a o, H a = some o → a ∉ O → H' a = some o) (n : ∀ a ∈ O', a ∈ O ∨ H a = none) {vs : List V} {ds : List D} (r : Reps K H O vs ds) : Reps K H' O' vs ds := r.evR (fun _ _ h q => Rd.keep q fun o e => k _ o e h) n
theorem KReps.ev (k : ∀ a o, H a = some o → a ∉ O → H' a = some o) (n : ∀ a ∈ O', a ∈ O ∨ H a = none) {vs : List (Key × V)} {ds : List (D × D)} (r : KReps K H O vs ds) : KReps K H' O' vs ds := r.evR (fun _ _ h q => Rd.keep q fun o e => k _ o e h) n
theorem Rep.same (h : Same H H') {v : V} {d : D} (r : Rep K H O v d) : Rep K H' O v d := r.ev (fun a o e _ => h a o e) fun _ z => .inl z
theorem Reps.same (h : Same H H') {vs : List V} {ds : List D} (r : Reps K H O vs ds) : Reps K H' O vs ds := r.ev (fun a o e _ => h a o e) fun _ z => .inl z
theorem KReps.same (h : Same H H') {vs : List (Key × V)} {ds : List (D × D)} (r : KReps K H O vs ds) : KReps K H' O vs ds := r.ev (fun a o e _ => h a o e) fun _ z => .inl z
theorem Reps.length : ∀ {vs : List V} {ds : List D}, Reps K H O vs ds → vs.length = ds.length
  | _, _, .nil => rfl
  | _, _, .cons _ t => congrArg (· + 1) (Reps.length t)
theorem Reps.get : ∀ {vs : List V} {ds : List D} {i : Nat} {v : V}, Reps K H O vs ds → vs[i]? = some v → ∃ d, ds[i]? = some d ∧ Rep K H O v d
  | _, _, _, _, .nil, e => by simp at e
  | _, _, 0, _, .cons r _, e => by simp at e; subst e; exact ⟨_, rfl, r⟩
  | _, _, i + 1, _, .cons _ t, e => by
    obtain ⟨d, h1, h2⟩ := Reps.get (i := i) t (by simpa using e)
    exact ⟨d, by simpa using h1, h2⟩
theorem Reps.get' : ∀ {vs : List V} {ds : List D} {i : Nat} {d : D}, Reps K H O vs ds → ds[i]? = some d → ∃ v, vs[i]? = some v ∧ Rep K H O v d
  | _, _, _, _, .nil, e => by simp at e
  | _, _, 0, _, .cons r _, e => by simp at e; subst e; exact ⟨_, rfl, r⟩
  | _, _, i + 1, _, .cons _ t, e => by
    obtain ⟨d, h1, h2⟩ := Reps.get' (i := i) t (by simpa using e)
    exact ⟨d, by simpa using h1, h2⟩
theorem Reps.append : ∀ {vs ws : List V} {ds es : List D}, Reps K H O vs ds → Reps K H O ws es → Reps K H O (vs ++ ws) (ds ++ es)
  | _, _, _, _, .nil, s => s
  | _, _, _, _, .cons r t, s => .cons r (Reps.append t s)
theorem Reps.take : ∀ {vs : List V} {ds : List D} (n : Nat), Reps K H O vs ds → Reps K H O (vs.take n) (ds.take n)
  | _, _, 0, _ => .nil
  | _, _, _ + 1, .nil => .nil
  | _, _, n + 1, .cons r t => .cons r (Reps.take n t)
theorem Reps.drop : ∀ {vs : List V} {ds : List D} (n : Nat), Reps K H O vs ds → Reps K H O (vs.drop n) (ds.drop n)
  | _, _, 0, r => r
  | _, _, _ + 1, .nil => .nil
  | _, _, n + 1, .cons _ t => Reps.drop n t
theorem Reps.set {v : V} {d : D} (r : Rep K H O v d) : ∀ {vs : List V} {ds : List D} (i : Nat), Reps K H O vs ds → Reps K H O (vs.set i v) (ds.set i d)
  | _, _, _, .nil => .nil
  | _, _, 0, .cons _ t => .cons r t
  | _, _, i + 1, .cons q t => .cons q (Reps.set r i t)
theorem Reps.rev {vs : List V} {ds : List D} (r : Reps K H O vs ds) : Reps K H O vs.reverse ds.reverse := by
  induction ds generalizing vs with
  | nil => cases r; exact .nil
  | cons d ds ih =>
    cases r with
    | cons h1 h2 =>
      rw [List.reverse_cons, List.reverse_cons]
      exact (ih h2).append (.cons h1 .nil)
theorem Reps.rep {vs : List V} {ds : List D} (r : Reps K H O vs ds) : ∀ k : Nat, Reps K H O (List.replicate k vs).flatten (List.replicate k ds).flatten
  | 0 => .nil
  | k + 1 => by
    rw [List.replicate_succ, List.replicate_succ, List.flatten_cons, List.flatten_cons]
    exact r.append (Reps.rep r k)
end
/-- as Rep, but the value's own object may be in O -/
inductive Top (K : PySem.W.Frag) (H : Hp) (O : List Addr) : V → D → Prop
  | rep {v : V} {d : D} : Rep K H O v d → Top K H O v d
  | lst {a : Addr} {xs : List V} {ds : List D} : H a = some (.lst xs) → xs.length ≤ sizeLine → Reps K H O xs ds → Top K H O (.ref a) (.list ds)
  | dic {a : Addr} {kvs : List (Key × V)} {ds : List (D × D)} : H a = some (.dK kvs) → KReps K H O kvs ds → Top K H O (.ref a) (.dict ds)
section
variable {K : PySem.W.Frag} {H H' : Hp} {O O' : List Addr} {v : V}
theorem Top.same (h : Same H H') {d : D} (r : Top K H O v d) : Top K H' O v d := by
  cases r with
  | rep r => exact .rep (r.same h)
  | lst e z r => exact .lst (h _ _ e) z (r.same h)
  | dic e r => exact .dic (h _ _ e) (r.same h)
theorem LK.len {a : Addr} {xs : List V} (h : LK K a xs) : xs.length ≤ sizeLine := by
  obtain ⟨o, its, n, _, _, _, _, z, r⟩ := h
  have e := r.length
  simp only [Array.length_toList] at e
  omega
theorem TK.len {a : Addr} {xs : List V} (h : TK K a xs) : xs.length ≤ sizeLine := by
  obtain ⟨o, its, n, _, _, _, z, r⟩ := h
  have e := r.length
  simp only [Array.length_toList] at e
  omega
theorem Top.list {ds : List D} (t : Top K H O v (.list ds)) : ∃ a xs, v = .ref a ∧ SqL K H a xs ∧ Reps K H O xs ds ∧ xs.length ≤ sizeLine := by
  cases t with
  | rep r =>
    cases r with
    | lst h1 h2 hz h3 => exact ⟨_, _, rfl, .inl h1, h3, hz⟩
    | lstK h1 h3 => exact ⟨_, _, rfl, .inr h1, h3, h1.len⟩
  | lst e z r => exact ⟨_, _, rfl, .of e, r, z⟩
theorem Top.tuple {ds : List D} (t : Top K H O v (.tuple ds)) : ∃ a xs, v = .ref a ∧ SqT K H a xs ∧ Reps K H O xs ds ∧ xs.length ≤ sizeLine := by
  cases t with
  | rep r =>
    cases r with
    | tup h1 h2 hz h3 => exact ⟨_, _, rfl, .inl h1, h3, hz⟩
    | tupK h1 h3 => exact ⟨_, _, rfl, .inr h1, h3, h1.len⟩
theorem Top.int {i : Int} (t : Top K H O v (.int i)) : v = .int i := by
  cases t with
  | rep r => cases r; rfl
theorem Top.str {x : Str} (t : Top K H O v (.str x)) : v = .str x := by
  cases t with
  | rep r => cases r; rfl
theorem Top.bool {b : Bool} (t : Top K H O v (.bool b)) : v = .bl b := by
  cases t with
  | rep r => cases r; rfl
theorem Top.none (t : Top K H O v .none) : v = .non := by
  cases t with
  | rep r => cases r; rfl
end
/-! ### results -/
/-- what an expression gives: data; a new list or dict of one's own; the object that a name owns -/
inductive R where
  | fr (d : D) | ol (xs : List D) | od (kvs : List (D × D)) | bw (d : D)
def R.d : R → D
  | .fr d => d
  | .ol xs => .list xs
  | .od kvs => .dict kvs
  | .bw d => d
@[simp] theorem R.d_fr (d : D) : (R.fr d).d = d := rfl
@[simp] theorem R.d_ol (xs : List D) : (R.ol xs).d = .list xs := rfl
@[simp] theorem R.d_od (xs : List (D × D)) : (R.od xs).d = .dict xs := rfl
@[simp] theorem R.d_bw (d : D) : (R.bw d).d = d := rfl
/-- what an exception tells -/
structure Exn where
  cls : String
  args : List D
/-- an outcome -/
inductive Rs (α : Type) where
  | ok (a : α) | ex (e : Exn) | bad
def Rs.bind {α β : Type} (x : Rs α) (f : α → Rs β) : Rs β := match x with
  | .ok a => f a
  | .ex e => .ex e
  | .bad => .bad
@[simp] theorem Rs.bind_ok {α β : Type} (a : α) (f : α → Rs β) : (Rs.ok a).bind f = f a := rfl
@[simp] theorem Rs.bind_ex {α β : Type} (e : Exn) (f : α → Rs β) : (Rs.ex e : Rs α).bind f = .ex e := rfl
@[simp] theorem Rs.bind_bad {α β : Type} (f : α → Rs β) : (Rs.bad : Rs α).bind f = .bad := rfl
theorem Rs.bind_eq {α β : Type} {x : Rs α} {f : α → Rs β} {b : β} (h : x.bind f = .ok b) : ∃ a, x = .ok a ∧ f a = .ok b := by
  cases x with
  | ok a => exact ⟨a, rfl, h⟩
  | ex e => cases h
  | bad => cases h
/-- the value v, in the heap H' behind H, for a result -/
def RR (K : PySem.W.Frag) (O : List Addr) (H H' : Hp) (v : V) : R → Prop
  | .fr d => Rep K H' O v d
  | .ol xs => ∃ p vs, v = .ref p ∧ H p = none ∧ H' p = some (.lst vs) ∧ vs.length ≤ sizeLine ∧ Reps K H' (p :: O) vs xs
  | .od kvs => ∃ p vs, v = .ref p ∧ H p = none ∧ H' p = some (.dK vs) ∧ KReps K H' (p :: O) vs kvs
  | .bw d => Top K H' O v d
section
variable {K : PySem.W.Frag} {H H1 H2 : Hp} {O : List Addr} {v : V}
theorem RR.top {r : R} (h : RR K O H H1 v r) : Top K H1 O v r.d := by
  cases r with
  | fr d => exact .rep h
  | ol xs =>
    obtain ⟨p, vs, rfl, _, e, z, q⟩ := h
    exact .lst e z (q.ev (fun _ _ e _ => e) fun _ z => .inl (List.mem_cons_of_mem _ z))
  | od kvs =>
    obtain ⟨p, vs, rfl, _, e, q⟩ := h
    exact .dic e (q.ev (fun _ _ e _ => e) fun _ z => .inl (List.mem_cons_of_mem _ z))
  | bw d => exact h
theorem RR.left {r : R} (s : Same H H1) (h : RR K O H1 H2 v r) : RR K O H H2 v r := by
  cases r with
  | fr d => exact h
  | ol xs =>
    obtain ⟨p, vs, e1, e2, e3, z, q⟩ := h
    exact ⟨p, vs, e1, s.free e2, e3, z, q⟩
  | od xs =>
    obtain ⟨p, vs, e1, e2, e3, q⟩ := h
    exact ⟨p, vs, e1, s.free e2, e3, q⟩
  | bw d => exact h
theorem RR.right {r : R} (h : RR K O H H1 v r) (s : Same H1 H2) : RR K O H H2 v r := by
  cases r with
  | fr d => exact Rep.same s h
  | ol xs =>
    obtain ⟨p, vs, e1, e2, e3, z, q⟩ := h
    exact ⟨p, vs, e1, e2, s _ _ e3, z, q.same s⟩
  | od xs =>
    obtain ⟨p, vs, e1, e2, e3, q⟩ := h
    exact ⟨p, vs, e1, e2, s _ _ e3, q.same s⟩
  | bw d => exact Top.same s h
/-- as data alone -/
def R.fz : R → Option D
  | .fr d => some d
  | .ol xs => some (.list xs)
  | .od kvs => some (.dict kvs)
  | .bw _ => none
theorem RR.rep {r : R} {d : D} (hO : ∀ a ∈ O, H a ≠ none) (h : RR K O H H1 v r) (e : r.fz = some d) : Rep K H1 O v d := by
  cases r with
  | fr d' => cases e; exact h
  | ol xs =>
    cases e
    obtain ⟨p, vs, rfl, e2, e3, hz, q⟩ := h
    exact .lst (.inl e3) (fun z => hO _ z e2) hz (q.ev (fun _ _ e _ => e) fun _ z => .inl (List.mem_cons_of_mem _ z))
  | od xs =>
    cases e
    obtain ⟨p, vs, rfl, e2, e3, q⟩ := h
    exact .dic (.inl e3) (fun z => hO _ z e2) (q.ev (fun _ _ e _ => e) fun _ z => .inl (List.mem_cons_of_mem _ z))
  | bw d => cases e
end
/-! ### names -/
/-- what stands at a name: unknown; data; an own list, an own dict -/
inductive Sl where
  | un | fr (d : D) | ol (xs : List D) | od (kvs : List (D × D))
abbrev En := List Sl
def Sl.own : Option V → Sl → List Addr
  | some (.ref a), .ol _ => [a]
  | some (.ref a), .od _ => [a]
  | _, _ => []
def own : L2.St → En → List Addr
  | ov :: σ, s :: ρ => Sl.own ov s ++ own σ ρ
  | _, _ => []
/-- one name -/
def SR (K : PySem.W.Frag) (H : Hp) (O : List Addr) (ov : Option V) : Sl → Prop
  | .un => True
  | .fr d => ∃ v, ov = some v ∧ Rep K H O v d
  | .ol xs => ∃ a vs, ov = some (.ref a) ∧ H a = some (.lst vs) ∧ vs.length ≤ sizeLine ∧ Reps K H O vs xs
  | .od kvs => ∃ a vs, ov = some (.ref a) ∧ H a = some (.dK vs) ∧ KReps K H O vs kvs
inductive All2 {α β : Type} (P : α → β → Prop) : List α → List β → Prop
  | nil : All2 P [] []
  | cons {a : α} {b : β} {as : List α} {bs : List β} : P a b → All2 P as bs → All2 P (a :: as) (b :: bs)
theorem All2.imp {α β : Type} {P Q : α → β → Prop} (h : ∀ a b, P a b → Q a b) : ∀ {as : List α} {bs : List β}, All2 P as bs → All2 Q as bs
  | _, _, .nil => .nil
  | _, _, .cons r t => .cons (h _ _ r) (All2.imp h t)
theorem All2.length {α β : Type} {P : α → β → Prop} : ∀ {as : List α} {bs : List β}, All2 P as bs → as.length = bs.length
  | _, _, .nil => rfl
  | _, _, .cons _ t => congrArg (· + 1) (All2.length t)
theorem All2.get {α β : Type} {P : α → β → Prop} : ∀ {as : List α} {bs : List β} {i : Nat} {b : β}, All2 P as bs → bs[i]? = some b → ∃ a, as[i]? = some a ∧ P a b
  | _, _, _, _, .nil, e => by simp at e
  | _, _, 0, _, .cons r _, e => by simp at e; subst e; exact ⟨_, rfl, r⟩
  | _, _, i + 1, _, .cons _ t, e => by
    obtain ⟨d, h1, h2⟩ := All2.get (i := i) t (by simpa using e)
    exact ⟨d, by simpa using h1, h2⟩
theorem All2.set {α β : Type} {P : α → β → Prop} {a : α} {b : β} (r : P a b) : ∀ {as : List α} {bs : List β} (i : Nat), All2 P as bs → All2 P (as.set i a) (bs.set i b)
  | _, _, _, .nil => .nil
  | _, _, 0, .cons _ t => .cons r t
  | _, _, i + 1, .cons q t => .cons q (All2.set r i t)
/-- the names hold what ρ says; O: the own objects (and those of the contexts around) -/
structure ER (K : PySem.W.Frag) (O : List Addr) (H : Hp) (σ : L2.St) (ρ : En) : Prop where
  at_ : All2 (SR K H O) σ ρ
  nd : (own σ ρ).Nodup
  sub : ∀ a ∈ own σ ρ, a ∈ O
  tr : ∀ a ∈ O, H a ≠ none
section
variable {K : PySem.W.Frag} {H H' : Hp} {O O' : List Addr} {σ : L2.St} {ρ : En}
theorem SR.same (h : Same H H') {ov : Option V} {s : Sl} (r : SR K H O ov s) : SR K H' O ov s := by
  cases s with
  | un => trivial
  | fr d => obtain ⟨v, e, q⟩ := r; exact ⟨v, e, q.same h⟩
  | ol xs => obtain ⟨a, vs, e, q, w, z⟩ := r; exact ⟨a, vs, e, h _ _ q, w, z.same h⟩
  | od xs => obtain ⟨a, vs, e, q, z⟩ := r; exact ⟨a, vs, e, h _ _ q, z.same h⟩
theorem Same.tr (h : Same H H') (t : ∀ a ∈ O, H a ≠ none) : ∀ a ∈ O, H' a ≠ none := fun a z e => t a z (h.free e)
theorem ER.same (I : ER K O H σ ρ) (h : Same H H') : ER K O H' σ ρ := ⟨I.at_.imp fun _ _ r => r.same h, I.nd, I.sub, Same.tr h I.tr⟩
theorem ER.get (I : ER K O H σ ρ) {i : Nat} {s : Sl} (e : ρ[i]? = some s) : ∃ ov, σ[i]? = some ov ∧ SR K H O ov s := I.at_.get e
theorem ER.len (I : ER K O H σ ρ) : σ.length = ρ.length := I.at_.length
end
/-! ### expressions -/
/-- what an expression does: a result of the names -/
abbrev FE := En → Rs R
/-- the reading of an expression that is f -/
def tE (K : PySem.W.Frag) (f : FE) : TE := fun σ H Q => ∃ O ρ r, ER K O H σ ρ ∧ f ρ = .ok r ∧ ∀ v H', Same H H' → RR K O H H' v r → Q v H'
/-- .. of a test -/
def tT (K : PySem.W.Frag) (f : En → Rs Bool) : TT := fun σ H Q => ∃ O ρ b, ER K O H σ ρ ∧ f ρ = .ok b ∧ ∀ H', Same H H' → Q b H'
/-- .. of arguments -/
def tA (K : PySem.W.Frag) (f : En → Rs (List R)) : TA := fun σ H Q => ∃ O ρ rs, ER K O H σ ρ ∧ f ρ = .ok rs ∧ ∀ vs H', Same H H' → All2 (RR K O H H') vs rs → Q vs H'
structure EV (X : Cx) (e : Expr) (f : FE) : Prop where
  run : PE X e (tE X.K f)
structure TV (X : Cx) (e : Expr) (f : En → Rs Bool) : Prop where
  run : PT X e (tT X.K f)
structure AV (X : Cx) (es : List Expr) (f : En → Rs (List R)) : Prop where
  run : PA X es (tA X.K f)
  len : ∀ ρ rs, f ρ = .ok rs → rs.length = es.length
theorem pe_imp {X : Cx} {e : Expr} {t u : TE} (h : PE X e t) (i : ∀ σ H Q, u σ H Q → t σ H Q) : PE X e u := ⟨fun pins s σ H Q I q => h.run pins s σ H Q I (i σ H Q q)⟩
theorem pt_imp {X : Cx} {e : Expr} {t u : TT} (h : PT X e t) (i : ∀ σ H Q, u σ H Q → t σ H Q) : PT X e u := ⟨fun pins s σ H Q I q => h.run pins s σ H Q I (i σ H Q q)⟩
theorem pa_imp {X : Cx} {e : List Expr} {t u : TA} (h : PA X e t) (i : ∀ σ H Q, u σ H Q → t σ H Q) : PA X e u := ⟨fun pos pins s σ H Q I q => h.run pos pins s σ H Q I (i σ H Q q)⟩
section
variable {X : Cx} {a b c e : Expr} {es : List Expr} {f fa fb fc : FE} {pos : Pos}
/-! names and constants -/
def fVar (i : Nat) : FE := fun ρ => match ρ[i]? with
  | some (.fr d) => .ok (.fr d)
  | some (.ol xs) => .ok (.bw (.list xs))
  | some (.od xs) => .ok (.bw (.dict xs))
  | _ => .bad
theorem e_var (i : Nat) {x : Str} (hN : X.N[i]? = some x := by rfl) (hv : Vis X.env.scope x := by first | exact Or.inl rfl | exact Or.inr (Or.inl rfl) | exact Or.inr (Or.inr rfl)) (hd : (x == ("__debug__" : Str)) = false := by decide)
    (hcd : (x == ("__classdict__" : Str)) = false := by decide) : EV X (.Name x pos) (fVar i) := by
  refine ⟨pe_imp (pe_var hN hv hd hcd) fun σ H Q ⟨O, ρ, r, I, hf, q⟩ => ?_⟩
  unfold fVar at hf
  split at hf
  · rename_i d e
    cases hf
    obtain ⟨ov, e1, v, rfl, r⟩ := I.get e
    exact ⟨v, e1, q v H (Same.refl H) r⟩
  · rename_i xs e
    cases hf
    obtain ⟨ov, e1, p, vs, rfl, h1, z, r⟩ := I.get e
    exact ⟨_, e1, q _ H (Same.refl H) (.lst h1 z r)⟩
  · rename_i xs e
    cases hf
    obtain ⟨ov, e1, p, vs, rfl, h1, r⟩ := I.get e
    exact ⟨_, e1, q _ H (Same.refl H) (.dic h1 r)⟩
  · cases hf
def fC (d : D) : FE := fun _ => .ok (.fr d)
theorem e_of_c {v : V} {d : D} (h : PE X e (tC v)) (r : ∀ H O, Rep X.K H O v d) : EV X e (fC d) := by
  refine ⟨pe_imp h fun σ H Q ⟨O, ρ, r', I, hf, q⟩ => ?_⟩
  cases hf
  exact q v H (Same.refl H) (r H O)
theorem e_int {i : Int} {j : Nat} : EV X (.Constant (.int i) j pos) (fC (.int i)) := e_of_c pe_int fun _ _ => .int i
theorem e_bl {b : Bool} {j : Nat} : EV X (.Constant (.bool b) j pos) (fC (.bool b)) := e_of_c pe_bl fun _ _ => .bl b
theorem e_non {j : Nat} : EV X (.Constant .none j pos) (fC .none) := e_of_c pe_non fun _ _ => .non
theorem e_str {x : Str} {j : Nat} : EV X (.Constant (.str x) j pos) (fC (.str x)) := e_of_c pe_str fun _ _ => .str x
/-! arguments -/
def fNil : En → Rs (List R) := fun _ => .ok []
def fCons (f : FE) (g : En → Rs (List R)) : En → Rs (List R) := fun ρ => (f ρ).bind fun x => (g ρ).bind fun xs => .ok (x :: xs)
theorem a_nil : AV X [] fNil := ⟨pa_imp pa_nil fun σ H Q ⟨O, ρ, rs, I, hf, q⟩ => by cases hf; exact q [] H (Same.refl H) .nil, fun ρ rs h => by cases h; rfl⟩
theorem a_cons {g : En → Rs (List R)} (h : EV X e f) (t : AV X es g) (hs : starEach (e :: es) X.env = (false, eval e X.env) :: starEach es X.env := by rfl) : AV X (e :: es) (fCons f g) := by
  refine ⟨pa_imp (pa_cons h.run t.run hs) fun σ H Q ⟨O, ρ, rs, I, hf, q⟩ => ?_, fun ρ rs hf => by
    obtain ⟨x, e1, hf⟩ := Rs.bind_eq hf
    obtain ⟨xs, e2, hf⟩ := Rs.bind_eq hf
    cases hf
    exact congrArg (· + 1) (t.len ρ xs e2)⟩
  obtain ⟨x, e1, hf⟩ := Rs.bind_eq hf
  obtain ⟨xs, e2, hf⟩ := Rs.bind_eq hf
  cases hf
  refine ⟨O, ρ, x, I, e1, fun v H1 s1 r1 => ⟨O, ρ, xs, I.same s1, e2, fun vs H2 s2 r2 => q _ H2 (s1.trans s2) (.cons (r1.right s2) (r2.imp fun _ _ r => r.left s1))⟩⟩
/-! operations on values -/
/-- the operation on two values is F on their data -/
def VOp (X : Cx) (f : Value → Value → Sem Value) (F : D → D → Rs R) : Prop :=
  OpR X f fun x y H Q => ∃ O d e r, Top X.K H O x d ∧ Top X.K H O y e ∧ F d e = .ok r ∧ ∀ v H', Same H H' → RR X.K O H H' v r → Q v H'
def fOp (F : D → D → Rs R) (fa fb : FE) : FE := fun ρ => (fa ρ).bind fun x => (fb ρ).bind fun y => F x.d y.d
theorem two {F : D → D → Rs R} (ha : EV X a fa) (hb : EV X b fb) {σ : L2.St} {H : Hp} {Q : VK} (h : tE X.K (fOp F fa fb) σ H Q) :
    tE X.K fa σ H fun x H1 => tE X.K fb σ H1 fun y H2 => ∃ O d e r, Top X.K H2 O x d ∧ Top X.K H2 O y e ∧ F d e = .ok r ∧ ∀ v H', Same H2 H' → RR X.K O H2 H' v r → Q v H' := by
  obtain ⟨O, ρ, r, I, hf, q⟩ := h
  obtain ⟨x, e1, hf⟩ := Rs.bind_eq hf
  obtain ⟨y, e2, hf⟩ := Rs.bind_eq hf
  exact ⟨O, ρ, x, I, e1, fun v H1 s1 r1 => ⟨O, ρ, y, I.same s1, e2, fun u H2 s2 r2 => ⟨O, _, _, r, (r1.right s2).top, r2.top, hf, fun v' H' s3 r3 => q v' H' ((s1.trans s2).trans s3) (r3.left (s1.trans s2))⟩⟩⟩
theorem e_op {op : Operator} {F : D → D → Rs R} (ho : VOp X (binaryOp op) F) (ha : EV X a fa) (hb : EV X b fb) : EV X (.BinOp a op b pos) (fOp F fa fb) :=
  ⟨pe_imp (pe_op ho ha.run hb.run) fun σ H Q h => two ha hb h⟩
theorem e_cmp {op : CmpOp} {F : D → D → Rs R} (ho : VOp X (compareOp op) F) (ha : EV X a fa) (hb : EV X b fb) (hm : behindInMarks op b = false := by first | exact nomark _ | rfl) : EV X (.Compare a [op] [b] pos) (fOp F fa fb) :=
  ⟨pe_imp (pe_cmpR ho ha.run hb.run hm) fun σ H Q h => two ha hb h⟩
/-- a value as a test -/
def toB : R → Rs Bool
  | .fr (.bool b) => .ok b
  | _ => .bad
def fB (f : FE) : En → Rs Bool := fun ρ => (f ρ).bind toB
theorem toB_eq {r : R} {b : Bool} (h : toB r = .ok b) : r = .fr (.bool b) := by
  unfold toB at h
  split at h
  · cases h; rfl
  · cases h
theorem t_cmp {op : CmpOp} {F : D → D → Rs R} (ho : VOp X (compareOp op) F) (ha : EV X a fa) (hb : EV X b fb) (hm : behindInMarks op b = false := by first | exact nomark _ | rfl) : TV X (.Compare a [op] [b] pos) (fB (fOp F fa fb)) := by
  refine ⟨pt_imp (pt_cmpR ho ha.run hb.run hm) fun σ H Q ⟨O, ρ, k, I, hf, q⟩ => ?_⟩
  obtain ⟨r, e1, e2⟩ := Rs.bind_eq hf
  cases toB_eq e2
  refine two ha hb ⟨O, ρ, _, I, e1, fun v H' s r => ?_⟩
  cases (show Rep X.K H' O v (.bool k) from r)
  exact ⟨k, rfl, q H' s⟩
end
end VL
namespace VL
open PySem PySem.Spec
open PyProof.Rows L2
/-! ### statements -/
/-- a statement's outcome -/
inductive So where
  | nx (ρ : En) | rt (r : R) | bk (ρ : En) | ct (ρ : En) | ex (e : Exn) | bad
abbrev FS := En → So
/-- the contexts' own objects -/
def ctx (O : List Addr) (σ : L2.St) (ρ : En) : List Addr := O.filter fun a => decide (a ∉ own σ ρ)
theorem mem_ctx {O : List Addr} {σ : L2.St} {ρ : En} {a : Addr} : a ∈ ctx O σ ρ ↔ a ∈ O ∧ a ∉ own σ ρ := by simp [ctx]
/-- from one state to a later one -/
structure Evo (O : List Addr) (H : Hp) (σ : L2.St) (ρ : En) (O' : List Addr) (H' : Hp) (σ' : L2.St) (ρ' : En) : Prop where
  same : ∀ a o, H a = some o → a ∉ own σ ρ → H' a = some o
  keep : ∀ a ∈ O, a ∉ own σ ρ → a ∈ O'
  new : ∀ a ∈ own σ' ρ', a ∈ own σ ρ ∨ H a = none
  newO : ∀ a ∈ O', a ∈ O ∨ H a = none
section
variable {K : PySem.W.Frag} {H H1 H2 : Hp} {O O1 O2 : List Addr} {σ σ1 σ2 : L2.St} {ρ ρ1 ρ2 : En}
theorem Evo.refl : Evo O H σ ρ O H σ ρ := ⟨fun _ _ e _ => e, fun _ e _ => e, fun _ e => .inl e, fun _ e => .inl e⟩
theorem Evo.back (I : ER K O H σ ρ) (E : Evo O H σ ρ O1 H1 σ1 ρ1) {a : Addr} (h : H1 a = none) : a ∈ own σ ρ ∨ H a = none := by
  cases q : H a with
  | none => exact .inr rfl
  | some o =>
    by_cases z : a ∈ own σ ρ
    · exact .inl z
    · rw [E.same a o q z] at h; cases h
theorem Evo.out (I : ER K O H σ ρ) (E : Evo O H σ ρ O1 H1 σ1 ρ1) {a : Addr} (h : a ∉ own σ ρ) (t : H a ≠ none) : a ∉ own σ1 ρ1 := fun z => (E.new a z).elim h t
theorem Evo.trans (I : ER K O H σ ρ) (E : Evo O H σ ρ O1 H1 σ1 ρ1) (F : Evo O1 H1 σ1 ρ1 O2 H2 σ2 ρ2) : Evo O H σ ρ O2 H2 σ2 ρ2 where
  same := fun a o e n => F.same a o (E.same a o e n) (E.out I n (by rw [e]; exact fun z => nomatch z))
  keep := fun a e n => F.keep a (E.keep a e n) (E.out I n (I.tr a e))
  new := fun a e => (F.new a e).elim (fun z => E.new a z) fun z => E.back I z
  newO := fun a e => (F.newO a e).elim (fun z => E.newO a z) fun z => (E.back I z).imp (I.sub a) fun z => z
theorem ER.same_evo (h : Same H H1) : Evo O H σ ρ O H1 σ ρ := ⟨fun a o e _ => h a o e, fun _ e _ => e, fun _ e => .inl e, fun _ e => .inl e⟩
/-- a returned value -/
def RT (K : PySem.W.Frag) (O : List Addr) (σ : L2.St) (ρ : En) (H H' : Hp) (v : V) : R → Prop
  | .fr d => Rep K H' (ctx O σ ρ) v d
  | .ol xs => ∃ p vs, v = .ref p ∧ (p ∈ own σ ρ ∨ H p = none) ∧ H' p = some (.lst vs) ∧ vs.length ≤ sizeLine ∧ Reps K H' (p :: ctx O σ ρ) vs xs
  | .od xs => ∃ p vs, v = .ref p ∧ (p ∈ own σ ρ ∨ H p = none) ∧ H' p = some (.dK vs) ∧ KReps K H' (p :: ctx O σ ρ) vs xs
  | .bw _ => False
theorem Evo.ctx (I : ER K O H σ ρ) (E : Evo O H σ ρ O1 H1 σ1 ρ1) : ∀ a ∈ VL.ctx O σ ρ, a ∈ VL.ctx O1 σ1 ρ1 := fun a h => by
  obtain ⟨h1, h2⟩ := mem_ctx.mp h
  exact mem_ctx.mpr ⟨E.keep a h1 h2, E.out I h2 (I.tr a h1)⟩
theorem Rep.less {v : V} {d : D} (h : Rep K H O v d) (s : ∀ a ∈ O1, a ∈ O) : Rep K H O1 v d := h.ev (fun _ _ e _ => e) fun a z => .inl (s a z)
theorem Reps.less {v : List V} {d : List D} (h : Reps K H O v d) (s : ∀ a ∈ O1, a ∈ O) : Reps K H O1 v d := h.ev (fun _ _ e _ => e) fun a z => .inl (s a z)
theorem KReps.less {v : List (Key × V)} {d : List (D × D)} (h : KReps K H O v d) (s : ∀ a ∈ O1, a ∈ O) : KReps K H O1 v d := h.ev (fun _ _ e _ => e) fun a z => .inl (s a z)
theorem cons_less {p : Addr} (s : ∀ a ∈ O1, a ∈ O) : ∀ a ∈ p :: O1, a ∈ p :: O := fun a h => (List.mem_cons.mp h).elim (fun e => e ▸ List.mem_cons_self) fun z => List.mem_cons_of_mem _ (s a z)
theorem RT.back (I : ER K O H σ ρ) (E : Evo O H σ ρ O1 H1 σ1 ρ1) {v : V} {r : R} (h : RT K O1 σ1 ρ1 H1 H2 v r) : RT K O σ ρ H H2 v r := by
  cases r with
  | fr d => exact Rep.less h (E.ctx I)
  | ol xs =>
    obtain ⟨p, vs, e1, e2, e3, z, q⟩ := h
    exact ⟨p, vs, e1, e2.elim (fun z => E.new p z) fun z => E.back I z, e3, z, q.less (cons_less (E.ctx I))⟩
  | od xs =>
    obtain ⟨p, vs, e1, e2, e3, q⟩ := h
    exact ⟨p, vs, e1, e2.elim (fun z => E.new p z) fun z => E.back I z, e3, q.less (cons_less (E.ctx I))⟩
  | bw d => exact h
/-- what is wanted behind a statement of this outcome -/
def Post (K : PySem.W.Frag) (O : List Addr) (H : Hp) (σ : L2.St) (ρ : En) (D : Ends) : So → Prop
  | .nx ρ' => ∀ O' H' σ', ER K O' H' σ' ρ' → Evo O H σ ρ O' H' σ' ρ' → D.nx σ' H'
  | .bk ρ' => ∀ O' H' σ', ER K O' H' σ' ρ' → Evo O H σ ρ O' H' σ' ρ' → D.bk σ' H'
  | .ct ρ' => ∀ O' H' σ', ER K O' H' σ' ρ' → Evo O H σ ρ O' H' σ' ρ' → D.ct σ' H'
  | .rt r => ∀ v H', (∀ a o, H a = some o → a ∉ own σ ρ → H' a = some o) → RT K O σ ρ H H' v r → D.rt v H'
  | .ex _ => False
  | .bad => False
theorem Post.next (I : ER K O H σ ρ) (E : Evo O H σ ρ O1 H1 σ1 ρ1) {D : Ends} {o : So} (h : Post K O H σ ρ D o) : Post K O1 H1 σ1 ρ1 D o := by
  cases o with
  | nx ρ' => exact fun O' H' σ' J F => h O' H' σ' J (E.trans I F)
  | bk ρ' => exact fun O' H' σ' J F => h O' H' σ' J (E.trans I F)
  | ct ρ' => exact fun O' H' σ' J F => h O' H' σ' J (E.trans I F)
  | rt r => exact fun v H' k q => h v H' (fun a o e n => k a o (E.same a o e n) (E.out I n (by rw [e]; exact fun z => nomatch z))) (q.back I E)
  | ex e => exact h
  | bad => exact h
end
/-- the reading of a statement that is g -/
def tS (K : PySem.W.Frag) (g : FS) : TS := fun D σ H => ∃ O ρ, ER K O H σ ρ ∧ Post K O H σ ρ D (g ρ)
structure SV (X : Cx) (st : Stmt) (g : FS) : Prop where
  run : PS X st (tS X.K g)
structure BV (X : Cx) (st : List Stmt) (g : FS) : Prop where
  run : PSs X st (tS X.K g)
theorem ps_imp {X : Cx} {e : Stmt} {t u : TS} (h : PS X e t) (i : ∀ D σ H, u D σ H → t D σ H) : PS X e u := ⟨fun pins s σ H D I q => h.run pins s σ H D I (i D σ H q)⟩
theorem pss_imp {X : Cx} {e : List Stmt} {t u : TS} (h : PSs X e t) (i : ∀ D σ H, u D σ H → t D σ H) : PSs X e u := ⟨fun pins s σ H D I q => h.run pins s σ H D I (i D σ H q)⟩
section
variable {X : Cx} {st : Stmt} {sts : List Stmt} {g g1 g2 : FS} {e c : Expr} {f : FE} {pos : Pos}
def gNext : FS := fun ρ => .nx ρ
def So.bind (o : So) (g : FS) : So := match o with
  | .nx ρ => g ρ
  | o => o
@[simp] theorem So.bind_nx (ρ : En) (g : FS) : (So.nx ρ).bind g = g ρ := rfl
@[simp] theorem So.bind_rt (r : R) (g : FS) : (So.rt r).bind g = .rt r := rfl
@[simp] theorem So.bind_bk (ρ : En) (g : FS) : (So.bk ρ).bind g = .bk ρ := rfl
@[simp] theorem So.bind_ct (ρ : En) (g : FS) : (So.ct ρ).bind g = .ct ρ := rfl
@[simp] theorem So.bind_ex (e : Exn) (g : FS) : (So.ex e).bind g = .ex e := rfl
@[simp] theorem So.bind_bad (g : FS) : So.bad.bind g = .bad := rfl
def gSeq (g1 g2 : FS) : FS := fun ρ => (g1 ρ).bind g2
theorem b_nil : BV X [] gNext := ⟨pss_imp pss_nil fun D σ H ⟨O, ρ, I, q⟩ => q O H σ I .refl⟩
theorem b_cons (h1 : SV X st g1) (h2 : BV X sts g2) : BV X (st :: sts) (gSeq g1 g2) := by
  refine ⟨pss_imp (pss_cons h1.run h2.run) fun D σ H ⟨O, ρ, I, q⟩ => ?_⟩
  refine ⟨O, ρ, I, ?_⟩
  unfold gSeq at q
  cases e : g1 ρ with
  | nx ρ1 =>
    rw [e] at q
    exact fun O1 H1 σ1 J E => ⟨O1, ρ1, J, q.next I E⟩
  | rt r => rw [e] at q; exact q
  | bk r => rw [e] at q; exact q
  | ct r => rw [e] at q; exact q
  | ex r => rw [e] at q; exact q
  | bad => rw [e] at q; exact q
theorem b_one (h1 : SV X st g1) : BV X [st] g1 := ⟨pss_one h1.run⟩
theorem s_pass : SV X (.Pass pos) gNext := ⟨ps_imp ps_pass fun D σ H ⟨O, ρ, I, q⟩ => q O H σ I .refl⟩
def gCont : FS := fun ρ => .ct ρ
def gBreak : FS := fun ρ => .bk ρ
theorem s_continue : SV X (.Continue pos) gCont := ⟨ps_imp ps_continue fun D σ H ⟨O, ρ, I, q⟩ => q O H σ I .refl⟩
theorem s_break : SV X (.Break pos) gBreak := ⟨ps_imp ps_break fun D σ H ⟨O, ρ, I, q⟩ => q O H σ I .refl⟩
/-! an if -/
def gIf (t : En → Rs Bool) (g1 g2 : FS) : FS := fun ρ => match t ρ with
  | .ok true => g1 ρ
  | .ok false => g2 ρ
  | .ex e => .ex e
  | .bad => .bad
theorem s_if {t : En → Rs Bool} {a b : List Stmt} (hc : TV X c t) (h1 : BV X a g1) (h2 : BV X b g2) : SV X (.If c a b pos) (gIf t g1 g2) := by
  refine ⟨ps_imp (ps_if hc.run h1.run h2.run) fun D σ H ⟨O, ρ, I, q⟩ => ?_⟩
  unfold gIf at q
  split at q
  · rename_i e
    exact ⟨O, ρ, true, I, e, fun H1 s => ⟨O, ρ, I.same s, q.next I (ER.same_evo s)⟩⟩
  · rename_i e
    exact ⟨O, ρ, false, I, e, fun H1 s => ⟨O, ρ, I.same s, q.next I (ER.same_evo s)⟩⟩
  · exact q.elim
  · exact q.elim
/-! return -/
def gRet (f : FE) : FS := fun ρ => match f ρ with
  | .ok (.bw _) => .bad
  | .ok r => .rt r
  | .ex e => .ex e
  | .bad => .bad
theorem RR.rt {K : PySem.W.Frag} {O : List Addr} {σ : L2.St} {ρ : En} {H H' : Hp} {v : V} {r : R} (h : RR K O H H' v r) (n : ∀ d, r ≠ .bw d) : RT K O σ ρ H H' v r := by
  have hl : ∀ a ∈ ctx O σ ρ, a ∈ O := fun a z => (mem_ctx.mp z).1
  cases r with
  | fr d => exact Rep.less h hl
  | ol xs =>
    obtain ⟨p, vs, e1, e2, e3, z, q⟩ := h
    exact ⟨p, vs, e1, .inr e2, e3, z, q.less (cons_less hl)⟩
  | od xs =>
    obtain ⟨p, vs, e1, e2, e3, q⟩ := h
    exact ⟨p, vs, e1, .inr e2, e3, q.less (cons_less hl)⟩
  | bw d => exact absurd rfl (n d)
theorem s_ret (h : EV X e f) : SV X (.Return (some e) pos) (gRet f) := by
  refine ⟨ps_imp (ps_ret h.run) fun D σ H ⟨O, ρ, I, q⟩ => ?_⟩
  unfold gRet at q
  split at q
  · exact q.elim
  · rename_i r n e
    exact ⟨O, ρ, r, I, e, fun v H' s rr => q v H' (fun a o z _ => s a o z) (rr.rt fun d z => n d z)⟩
  · exact q.elim
  · exact q.elim
/-- return x -/
def gRetV (i : Nat) : FS := fun ρ => match ρ[i]? with
  | some (.fr d) => .rt (.fr d)
  | some (.ol xs) => .rt (.ol xs)
  | some (.od xs) => .rt (.od xs)
  | _ => .bad
theorem own_at : ∀ {σ : L2.St} {ρ : En} {i : Nat} {ov : Option V} {s : Sl} {a : Addr}, σ[i]? = some ov → ρ[i]? = some s → a ∈ Sl.own ov s → a ∈ own σ ρ
  | [], _, _, _, _, _, h, _, _ => by simp at h
  | _ :: _, [], _, _, _, _, _, h, _ => by simp at h
  | x :: σ, y :: ρ, 0, _, _, _, h, h', ha => by
    simp at h h'; subst h; subst h'
    exact List.mem_append_left _ ha
  | x :: σ, y :: ρ, i + 1, _, _, _, h, h', ha => List.mem_append_right _ (own_at (i := i) (by simpa using h) (by simpa using h') ha)
theorem s_retv (i : Nat) {x : Str} {p2 : Pos} (hN : X.N[i]? = some x := by rfl) (hv : Vis X.env.scope x := by first | exact Or.inl rfl | exact Or.inr (Or.inl rfl) | exact Or.inr (Or.inr rfl)) (hd : (x == ("__debug__" : Str)) = false := by decide)
    (hcd : (x == ("__classdict__" : Str)) = false := by decide) : SV X (.Return (some (.Name x p2)) pos) (gRetV i) := by
  refine ⟨ps_imp (ps_ret (pe_var hN hv hd hcd)) fun D σ H ⟨O, ρ, I, q⟩ => ?_⟩
  have hl : ∀ a ∈ ctx O σ ρ, a ∈ O := fun a z => (mem_ctx.mp z).1
  unfold gRetV at q
  split at q
  · rename_i d e
    obtain ⟨ov, e1, v, rfl, r⟩ := I.get e
    exact ⟨v, e1, q v H (fun a o z _ => z) (Rep.less r hl)⟩
  · rename_i xs e
    obtain ⟨ov, e1, p, vs, rfl, h1, z, r⟩ := I.get e
    have hp : p ∈ own σ ρ := own_at e1 e (by simp [Sl.own])
    exact ⟨_, e1, q _ H (fun a o z _ => z) ⟨p, vs, rfl, .inl hp, h1, z, r.less fun a h => (List.mem_cons.mp h).elim (fun e => e ▸ I.sub p hp) (hl a)⟩⟩
  · rename_i xs e
    obtain ⟨ov, e1, p, vs, rfl, h1, r⟩ := I.get e
    have hp : p ∈ own σ ρ := own_at e1 e (by simp [Sl.own])
    exact ⟨_, e1, q _ H (fun a o z _ => z) ⟨p, vs, rfl, .inl hp, h1, r.less fun a h => (List.mem_cons.mp h).elim (fun e => e ▸ I.sub p hp) (hl a)⟩⟩
  · exact q.elim
end
/-! ### a name is stored -/
theorem own_split : ∀ {σ : L2.St} {ρ : En} (i : Nat), i < σ.length → i < ρ.length → ∃ A B : List Addr, ∃ ov s, σ[i]? = some ov ∧ ρ[i]? = some s ∧ own σ ρ = A ++ (Sl.own ov s ++ B) ∧ ∀ ov' s', own (σ.set i ov') (ρ.set i s') = A ++ (Sl.own ov' s' ++ B)
  | [], _, _, h, _ => absurd h (Nat.not_lt_zero _)
  | _ :: _, [], _, _, h => absurd h (Nat.not_lt_zero _)
  | x :: σ, y :: ρ, 0, _, _ => ⟨[], own σ ρ, x, y, rfl, rfl, rfl, fun _ _ => rfl⟩
  | x :: σ, y :: ρ, i + 1, h, h' => by
    obtain ⟨A, B, ov, s, e1, e2, e3, e4⟩ := own_split (σ := σ) (ρ := ρ) i (Nat.lt_of_succ_lt_succ h) (Nat.lt_of_succ_lt_succ h')
    refine ⟨Sl.own x y ++ A, B, ov, s, by simpa using e1, by simpa using e2, ?_, fun ov' s' => ?_⟩
    · show Sl.own x y ++ own σ ρ = _
      rw [e3, List.append_assoc]
    · show Sl.own x y ++ own (σ.set i ov') (ρ.set i s') = _
      rw [e4, List.append_assoc]
/-- a slot for a result -/
def slot : R → Sl
  | .fr d => .fr d
  | .ol xs => .ol xs
  | .od xs => .od xs
  | .bw _ => .un
section
variable {K : PySem.W.Frag} {H H1 : Hp} {O : List Addr} {σ : L2.St} {ρ : En}
theorem nd_mid {A m B : List Addr} (h : (A ++ (m ++ B)).Nodup) : (A ++ B).Nodup := h.sublist (List.Sublist.append (List.Sublist.refl A) (List.sublist_append_right m B))
theorem nd_ins {A B : List Addr} {p : Addr} (h : (A ++ B).Nodup) (n : p ∉ A ++ B) : (A ++ ([p] ++ B)).Nodup := by
  have e : (A ++ ([p] ++ B)).Perm (p :: (A ++ B)) := List.perm_middle
  exact e.nodup_iff.mpr (List.nodup_cons.mpr ⟨n, h⟩)
/-- data put at a name -/
theorem ER.put (I : ER K O H σ ρ) {v : V} {d : D} (r : Rep K H O v d) (i : Nat) : ER K O H (σ.set i (some v)) (ρ.set i (.fr d)) ∧ ∀ a ∈ own (σ.set i (some v)) (ρ.set i (.fr d)), a ∈ own σ ρ := by
  by_cases hi : i < σ.length
  · obtain ⟨A, B, ov, s, e1, e2, e3, e4⟩ := own_split (σ := σ) (ρ := ρ) i hi (I.len ▸ hi)
    have e5 : own (σ.set i (some v)) (ρ.set i (.fr d)) = A ++ B := by
      rw [e4]
      cases v <;> rfl
    have hs : ∀ a ∈ own (σ.set i (some v)) (ρ.set i (.fr d)), a ∈ own σ ρ := fun a h => by
      rw [e5] at h
      rw [e3]
      simp only [List.mem_append] at h ⊢
      exact h.imp id .inr
    refine ⟨⟨I.at_.set ⟨v, rfl, r⟩ i, ?_, fun a h => I.sub a (hs a h), I.tr⟩, hs⟩
    rw [e5]
    have := I.nd
    rw [e3] at this
    exact nd_mid this
  · have z1 : σ.set i (some v) = σ := List.set_eq_of_length_le (by omega)
    have z2 : ρ.set i (.fr d) = ρ := List.set_eq_of_length_le (by have := I.len; omega)
    rw [z1, z2]
    exact ⟨I, fun _ h => h⟩
theorem SR.more {p : Addr} {ov : Option V} {s : Sl} (s1 : Same H1 H) (h1 : H1 p = none) (r : SR K H1 O ov s) : SR K H (p :: O) ov s := by
  have k : ∀ a o, H1 a = some o → a ∉ O → H a = some o := fun a o e _ => s1 a o e
  have n : ∀ a ∈ p :: O, a ∈ O ∨ H1 a = none := fun a h => (List.mem_cons.mp h).elim (fun e => .inr (e ▸ h1)) .inl
  cases s with
  | un => trivial
  | fr d => obtain ⟨v, e, q⟩ := r; exact ⟨v, e, q.ev k n⟩
  | ol xs => obtain ⟨a, vs, e, q, w, z⟩ := r; exact ⟨a, vs, e, s1 _ _ q, w, z.ev k n⟩
  | od xs => obtain ⟨a, vs, e, q, z⟩ := r; exact ⟨a, vs, e, s1 _ _ q, z.ev k n⟩
/-- a result put at a name -/
theorem ER.store (I : ER K O H σ ρ) (s : Same H H1) {v : V} {r : R} (h : RR K O H H1 v r) (n : ∀ d, r ≠ .bw d) (i : Nat) :
    ∃ O', ER K O' H1 (σ.set i (some v)) (ρ.set i (slot r)) ∧ Evo O H σ ρ O' H1 (σ.set i (some v)) (ρ.set i (slot r)) := by
  have Is := I.same s
  have fin : ∀ (p : Addr) (sl : Sl), H p = none → H1 p ≠ none → Sl.own (some (.ref p)) sl = [p] → SR K H1 (p :: O) (some (.ref p)) sl →
      ∃ O', ER K O' H1 (σ.set i (some (.ref p))) (ρ.set i sl) ∧ Evo O H σ ρ O' H1 (σ.set i (some (.ref p))) (ρ.set i sl) := fun p sl e2 e3 hs hr => by
    have hp : p ∉ O := fun z => I.tr p z e2
    have I2 : All2 (SR K H1 (p :: O)) σ ρ := I.at_.imp fun ov s' q => SR.more s e2 q
    by_cases hi : i < σ.length
    · obtain ⟨A, B, ov, s0, f1, f2, f3, f4⟩ := own_split (σ := σ) (ρ := ρ) i hi (I.len ▸ hi)
      have f5 := f4 (some (.ref p)) sl
      rw [hs] at f5
      have hm : ∀ a ∈ own (σ.set i (some (.ref p))) (ρ.set i sl), a ∈ own σ ρ ∨ a = p := fun a h => by
        rw [f5] at h
        rw [f3]
        simp only [List.mem_append, List.mem_singleton] at h ⊢
        rcases h with h | h | h
        · exact .inl (.inl h)
        · exact .inr h
        · exact .inl (.inr (.inr h))
      refine ⟨p :: O, ⟨I2.set hr i, ?_, fun a h => ?_, fun a h => ?_⟩, ⟨fun a o e _ => s a o e, fun a h _ => List.mem_cons_of_mem _ h, fun a h => (hm a h).imp id fun (e : a = p) => by rw [e]; exact e2, fun a h => (List.mem_cons.mp h).elim (fun e => .inr (by rw [e]; exact e2)) .inl⟩⟩
      · rw [f5]
        have := I.nd
        rw [f3] at this
        refine nd_ins (nd_mid this) fun z => hp (I.sub p ?_)
        rw [f3]
        simp only [List.mem_append] at z ⊢
        exact z.imp id .inr
      · rcases hm a h with z | z
        · exact List.mem_cons_of_mem _ (I.sub a z)
        · rw [z]; exact List.mem_cons_self
      · rcases List.mem_cons.mp h with z | z
        · rw [z]; exact e3
        · exact Is.tr a z
    · have z1 : σ.set i (some (.ref p)) = σ := List.set_eq_of_length_le (by omega)
      have z2 : ρ.set i sl = ρ := List.set_eq_of_length_le (by have := I.len; omega)
      rw [z1, z2]
      refine ⟨p :: O, ⟨I2, I.nd, fun a h => List.mem_cons_of_mem _ (I.sub a h), fun a h => ?_⟩, ⟨fun a o e _ => s a o e, fun a h _ => List.mem_cons_of_mem _ h, fun a h => .inl h, fun a h => (List.mem_cons.mp h).elim (fun e => .inr (e ▸ e2)) .inl⟩⟩
      rcases List.mem_cons.mp h with z | z
      · rw [z]; exact e3
      · exact Is.tr a z
  cases r with
  | fr d =>
    obtain ⟨J, hs⟩ := Is.put (show Rep K H1 O v d from h) i
    exact ⟨O, J, fun a o e _ => s a o e, fun a h _ => h, fun a h => .inl (hs a h), fun a h => .inl h⟩
  | ol xs =>
    obtain ⟨p, vs, rfl, e2, e3, z, q⟩ := h
    exact fin p (.ol xs) e2 (by rw [e3]; exact fun z => nomatch z) rfl ⟨p, vs, rfl, e3, z, q⟩
  | od xs =>
    obtain ⟨p, vs, rfl, e2, e3, q⟩ := h
    exact fin p (.od xs) e2 (by rw [e3]; exact fun z => nomatch z) rfl ⟨p, vs, rfl, e3, q⟩
  | bw d => exact absurd rfl (n d)
end
section
variable {X : Cx} {e : Expr} {f : FE} {pos : Pos}
/-- x = e, what is new is x's own -/
def gOwn (i : Nat) (f : FE) : FS := fun ρ => match f ρ with
  | .ok (.bw _) => .bad
  | .ok r => .nx (ρ.set i (slot r))
  | .ex e => .ex e
  | .bad => .bad
theorem s_own (i : Nat) {x : Str} {p2 : Pos} (hN : X.N.Nodup) (h : EV X e f) (hi : X.N[i]? = some x := by rfl) (hx : Loc X.env.scope x := by first | exact Or.inl rfl | exact Or.inr rfl) (hs : swapsWith e (some (.Name x p2)) pos.line X.env = pure false := by rfl)
    (hf : X.fn x = true ∨ X.env.scope.names.lookup x = some .local := by first | exact .inl rfl | exact .inr rfl | assumption) : SV X (.Assign [.Name x p2] e pos) (gOwn i f) := by
  refine ⟨ps_imp (ps_set hN hi hx h.run hs hf) fun D σ H ⟨O, ρ, I, q⟩ => ?_⟩
  unfold gOwn at q
  split at q
  · exact q.elim
  · rename_i r n e
    refine ⟨O, ρ, r, I, e, fun v H1 s rr => ?_⟩
    obtain ⟨O', J, E⟩ := I.store s rr (fun d z => n d z) i
    exact q O' H1 _ J E
  · exact q.elim
  · exact q.elim
/-- x = e, data from then on -/
def gSet (i : Nat) (f : FE) : FS := fun ρ => match f ρ with
  | .ok r => match r.fz with
    | some d => .nx (ρ.set i (.fr d))
    | none => .bad
  | .ex e => .ex e
  | .bad => .bad
theorem ER.putFz {K : PySem.W.Frag} {H H1 : Hp} {O : List Addr} {σ : L2.St} {ρ : En} (I : ER K O H σ ρ) (s : Same H H1) {v : V} {d : D} (h : Rep K H1 O v d) (i : Nat) : ER K O H1 (σ.set i (some v)) (ρ.set i (.fr d)) ∧ Evo O H σ ρ O H1 (σ.set i (some v)) (ρ.set i (.fr d)) := by
  obtain ⟨J, hs⟩ := (I.same s).put h i
  exact ⟨J, fun a o e _ => s a o e, fun a h _ => h, fun a h => .inl (hs a h), fun a h => .inl h⟩
theorem s_set (i : Nat) {x : Str} {p2 : Pos} (hN : X.N.Nodup) (h : EV X e f) (hi : X.N[i]? = some x := by rfl) (hx : Loc X.env.scope x := by first | exact Or.inl rfl | exact Or.inr rfl) (hs : swapsWith e (some (.Name x p2)) pos.line X.env = pure false := by rfl)
    (hf : X.fn x = true ∨ X.env.scope.names.lookup x = some .local := by first | exact .inl rfl | exact .inr rfl | assumption) : SV X (.Assign [.Name x p2] e pos) (gSet i f) := by
  refine ⟨ps_imp (ps_set hN hi hx h.run hs hf) fun D σ H ⟨O, ρ, I, q⟩ => ?_⟩
  unfold gSet at q
  split at q
  · rename_i r e
    split at q
    · rename_i d ed
      refine ⟨O, ρ, r, I, e, fun v H1 s rr => ?_⟩
      obtain ⟨J, E⟩ := I.putFz s (rr.rep I.tr ed) i
      exact q O H1 _ J E
    · exact q.elim
  · exact q.elim
  · exact q.elim
/-- a name is data from here on -/
def frz (i : Nat) (ρ : En) : En := match ρ[i]? with
  | some (.ol xs) => ρ.set i (.fr (.list xs))
  | some (.od xs) => ρ.set i (.fr (.dict xs))
  | _ => ρ
theorem set_get {α : Type} : ∀ {l : List α} {i : Nat} {x : α}, l[i]? = some x → l.set i x = l
  | [], _, _, h => by simp at h
  | a :: l, 0, x, h => by simp at h; subst h; rfl
  | a :: l, i + 1, x, h => by
    show a :: l.set i x = a :: l
    rw [set_get (by simpa using h)]
theorem ER.frz {K : PySem.W.Frag} {H : Hp} {O : List Addr} {σ : L2.St} {ρ : En} (I : ER K O H σ ρ) (i : Nat) : ∃ O', ER K O' H σ (frz i ρ) ∧ Evo O H σ ρ O' H σ (VL.frz i ρ) := by
  have main : ∀ (p : Addr) (sl : Sl) (d : D), σ[i]? = some (some (.ref p)) → ρ[i]? = some sl → Sl.own (some (.ref p)) sl = [p] → Rep K H (O.filter fun a => decide (a ≠ p)) (.ref p) d →
      ∃ O', ER K O' H σ (ρ.set i (.fr d)) ∧ Evo O H σ ρ O' H σ (ρ.set i (.fr d)) := fun p sl d e1 e2 ho hr => by
    have hlt : i < σ.length := (List.getElem?_eq_some_iff.mp e1).1
    obtain ⟨A, B, ov, s0, f1, f2, f3, f4⟩ := own_split (σ := σ) (ρ := ρ) i hlt (I.len ▸ hlt)
    rw [e1] at f1; cases f1
    rw [e2] at f2; cases f2
    rw [ho] at f3
    have f5 := f4 (some (.ref p)) (.fr d)
    have ez : σ.set i (some (.ref p)) = σ := set_get e1
    rw [ez] at f5
    have f6 : own σ (ρ.set i (.fr d)) = A ++ B := f5
    have hin : p ∈ own σ ρ := by rw [f3]; simp
    have nd := I.nd
    rw [f3] at nd
    have np : p ∉ A ++ B := by
      have e : (A ++ ([p] ++ B)).Perm (p :: (A ++ B)) := List.perm_middle
      exact (List.nodup_cons.mp (e.nodup_iff.mp nd)).1
    have hs : ∀ a ∈ own σ (ρ.set i (.fr d)), a ∈ own σ ρ := fun a h => by
      rw [f6] at h
      rw [f3]
      simp only [List.mem_append] at h ⊢
      exact h.imp id .inr
    have hl : ∀ a ∈ O.filter (fun a => decide (a ≠ p)), a ∈ O := fun a h => (List.mem_filter.mp h).1
    refine ⟨O.filter fun a => decide (a ≠ p), ⟨?_, ?_, fun a h => ?_, fun a h => I.tr a (hl a h)⟩, ⟨fun a o e _ => e, fun a h n => ?_, fun a h => .inl (hs a h), fun a h => .inl (hl a h)⟩⟩
    · have I2 : All2 (SR K H (O.filter fun a => decide (a ≠ p))) σ ρ := I.at_.imp fun ov s q => by
        cases s with
        | un => trivial
        | fr d => obtain ⟨v, e, q⟩ := q; exact ⟨v, e, q.less hl⟩
        | ol xs => obtain ⟨a, vs, e, q, w, z⟩ := q; exact ⟨a, vs, e, q, w, z.less hl⟩
        | od xs => obtain ⟨a, vs, e, q, z⟩ := q; exact ⟨a, vs, e, q, z.less hl⟩
      have := I2.set (a := some (.ref p)) (b := .fr d) ⟨_, rfl, hr⟩ i
      rw [ez] at this
      exact this
    · rw [f6]; exact nd_mid nd
    · refine List.mem_filter.mpr ⟨I.sub a (hs a h), decide_eq_true fun z => np ?_⟩
      rw [← z, ← f6]; exact h
    · exact List.mem_filter.mpr ⟨h, decide_eq_true fun z => n (z ▸ hin)⟩
  have hl : ∀ p : Addr, ∀ a ∈ O.filter (fun a => decide (a ≠ p)), a ∈ O := fun p a h => (List.mem_filter.mp h).1
  have hn : ∀ p : Addr, p ∉ O.filter (fun a => decide (a ≠ p)) := fun p h => of_decide_eq_true (List.mem_filter.mp h).2 rfl
  unfold VL.frz
  split
  · rename_i xs e
    obtain ⟨ov, e1, p, vs, rfl, h1, z, r⟩ := I.get e
    exact main p _ _ e1 e rfl (.lst (.inl h1) (hn p) z (r.less (hl p)))
  · rename_i xs e
    obtain ⟨ov, e1, p, vs, rfl, h1, r⟩ := I.get e
    exact main p _ _ e1 e rfl (.dic (.inl h1) (hn p) (r.less (hl p)))
  · exact ⟨O, I, .refl⟩
def gFz (i : Nat) (g : FS) : FS := fun ρ => g (frz i ρ)
theorem s_fz (i : Nat) {st : Stmt} {g : FS} (h : SV X st g) : SV X st (gFz i g) := by
  refine ⟨ps_imp h.run fun D σ H ⟨O, ρ, I, q⟩ => ?_⟩
  obtain ⟨O', J, E⟩ := I.frz i
  exact ⟨O', _, J, q.next I E⟩
end
end VL
namespace VL
open PySem PySem.Spec
open PyProof.Rows L2
/-! ### defs -/
/-- a body as a function of the arguments: n names in all -/
def fnR (n : Nat) (g : FS) (ds : List D) : Rs R := match g (ds.map Sl.fr ++ List.replicate (n - ds.length) Sl.un) with
  | .nx _ => .ok (.fr .none)
  | .rt (.bw _) => .bad
  | .rt r => .ok r
  | .ex e => .ex e
  | _ => .bad
/-- the promise of a def of n parameters whose function is F -/
def spF (K : PySem.W.Frag) (n : Nat) (F : List D → Rs R) : Sp := fun vs H Q _ => vs.length = n ∧ ∃ A ds r, Reps K H A vs ds ∧ (∀ a ∈ A, H a ≠ none) ∧ F ds = .ok r ∧ ∀ v H', Same H H' → RR K A H H' v r → Q v H'
theorem start_all {K : PySem.W.Frag} {H : Hp} {A : List Addr} : ∀ {vs : List V} {ds : List D} (m : Nat), Reps K H A vs ds → All2 (SR K H A) (vs.map some ++ List.replicate m none) (ds.map Sl.fr ++ List.replicate m Sl.un)
  | _, _, 0, .nil => .nil
  | _, _, m + 1, .nil => by
    rw [List.replicate_succ, List.replicate_succ]
    exact .cons trivial (start_all m .nil)
  | _, _, m, .cons r t => .cons ⟨_, rfl, r⟩ (start_all m t)
theorem start_own : ∀ (vs : List V) (ds : List D) (m : Nat), vs.length = ds.length → own (vs.map some ++ List.replicate m none) (ds.map Sl.fr ++ List.replicate m Sl.un) = []
  | [], [], 0, _ => rfl
  | [], [], m + 1, _ => by
    rw [List.replicate_succ, List.replicate_succ]
    show Sl.own none Sl.un ++ own (List.replicate m none) (List.replicate m Sl.un) = []
    exact start_own [] [] m rfl
  | v :: vs, d :: ds, m, h => by
    show Sl.own (some v) (Sl.fr d) ++ own _ _ = []
    have e : Sl.own (some v) (Sl.fr d) = [] := by cases v <;> rfl
    rw [e, List.nil_append]
    exact start_own vs ds m (Nat.succ.inj h)
  | [], _ :: _, _, h => by cases h
  | _ :: _, [], _, h => by cases h
theorem start_ER {K : PySem.W.Frag} {H : Hp} {A : List Addr} {vs : List V} {ds : List D} (r : Reps K H A vs ds) (t : ∀ a ∈ A, H a ≠ none) (N : List Str) : ER K A H (L2.start N vs) (ds.map Sl.fr ++ List.replicate (N.length - ds.length) Sl.un) := by
  have hl := r.length
  unfold L2.start
  rw [hl]
  have e := start_own vs ds (N.length - ds.length) hl
  exact ⟨start_all _ r, by rw [e]; exact List.nodup_nil, fun a h => (by rw [e] at h; cases h), t⟩
theorem filter_all {l : List Addr} {p : Addr → Bool} (h : ∀ a ∈ l, p a = true) : l.filter p = l := List.filter_eq_self.mpr h
section
variable {P : Program} {w : World} {K : PySem.W.Frag} {mg : Str → Option Value} {base : Heap}
/-- a def keeps its promise -/
theorem fn_ok {x qual : Str} {st : Stmt} {f : Addr} {fd : FuncData} {N ps : List Str} {k n m : Nat} {g : FS} (hn : N.length = n) (hm : ps.length = m) (F : Fun K x qual st f fd) (S : FnScope N ps (defScope st))
    (hbody : ∀ (cdv : Value) (A : Around) (outer : List Env) (s : Shared) (H : Hp) (E : XK), Room k (A.deeper (envOfC qual (defScope st) s.heap.objs.size f cdv)) →
      BV (cxOf CX0 P w K mg base N qual (defScope st) f cdv A outer s H E).nox (defBody st) g) : FnOk P w K mg base CX0 (k + 1) f fd ps (spF K m (fnR n g)) := by
  subst hn hm
  refine F.ok S (fun vs H Q E h => h.1) fun cdv A outer s H vs Q E hr h => ⟨_, (hbody cdv A outer s H E hr).run, ?_⟩
  obtain ⟨_, A0, ds, r, hrep, ht, hf, q⟩ := h
  have I := start_ER hrep ht N
  have e0 := start_own vs ds (N.length - ds.length) hrep.length
  have e1 : own (L2.start N vs) (ds.map Sl.fr ++ List.replicate (N.length - ds.length) Sl.un) = [] := by
    unfold L2.start
    rw [hrep.length]
    exact e0
  refine ⟨A0, _, I, ?_⟩
  show Post K A0 H (L2.start N vs) _ _ (g (ds.map Sl.fr ++ List.replicate (N.length - ds.length) Sl.un))
  unfold fnR at hf
  have ec : ctx A0 (L2.start N vs) (ds.map Sl.fr ++ List.replicate (N.length - ds.length) Sl.un) = A0 := by
    unfold ctx
    rw [e1]
    exact filter_all fun a _ => by simp
  split at hf
  · rename_i ρ' e
    rw [e]
    cases hf
    exact fun O' H' σ' J E => q _ H' (fun a o z => E.same a o z (by rw [e1]; exact fun z => nomatch z)) .non
  · cases hf
  · rename_i r' n e
    rw [e]
    cases hf
    intro v H' k rt
    refine q v H' (fun a o z => k a o z (by rw [e1]; exact fun z => nomatch z)) ?_
    cases r with
    | fr d =>
      have z : Rep K H' (ctx A0 (L2.start N vs) _) v d := rt
      rw [ec] at z
      exact z
    | ol xs =>
      obtain ⟨p, us, a1, a2, a3, a4, a5⟩ := rt
      rw [ec] at a5
      rw [e1] at a2
      exact ⟨p, us, a1, a2.elim (fun z => nomatch z) id, a3, a4, a5⟩
    | od xs =>
      obtain ⟨p, us, a1, a2, a3, a5⟩ := rt
      rw [ec] at a5
      rw [e1] at a2
      exact ⟨p, us, a1, a2.elim (fun z => nomatch z) id, a3, a5⟩
    | bw d => exact rt.elim
  · cases hf
  · cases hf
end
/-! ### calls -/
def R.flat : R → Bool
  | .fr .none => true
  | .fr (.bool _) => true
  | .fr (.int _) => true
  | .fr (.str _) => true
  | _ => false
def fzAll : List R → Option (List D)
  | [] => some []
  | r :: rs => match r.fz, fzAll rs with
    | some d, some ds => some (d :: ds)
    | _, _ => none
/-- F on results: where an own object is handed on, what comes back is flat -/
def callR (F : List D → Rs R) (rs : List R) : Rs R := match fzAll rs with
  | some ds => F ds
  | none => (F (rs.map R.d)).bind fun r => if r.flat then .ok r else .bad
section
variable {K : PySem.W.Frag} {H H1 : Hp} {O : List Addr}
theorem fzAll_reps (ht : ∀ a ∈ O, H a ≠ none) : ∀ {vs : List V} {rs : List R} {ds : List D}, All2 (RR K O H H1) vs rs → fzAll rs = some ds → Reps K H1 O vs ds
  | _, _, _, .nil, e => by cases e; exact .nil
  | _, _, _, .cons r t, e => by
    unfold fzAll at e
    split at e
    · rename_i d ds e1 e2
      cases e
      exact .cons (r.rep ht e1) (fzAll_reps ht t e2)
    · cases e
theorem Top.bare {v : V} {d : D} (t : Top K H O v d) : Rep K H [] v d := by
  have n : ∀ a ∈ ([] : List Addr), a ∈ O := fun _ h => nomatch h
  cases t with
  | rep r => exact r.less n
  | lst e z r => exact .lst (.inl e) (fun h => nomatch h) z (r.less n)
  | dic e r => exact .dic (.inl e) (fun h => nomatch h) (r.less n)
theorem all_bare : ∀ {vs : List V} {rs : List R}, All2 (RR K O H H1) vs rs → Reps K H1 [] vs (rs.map R.d)
  | _, _, .nil => .nil
  | _, _, .cons r t => .cons r.top.bare (all_bare t)
theorem RR.flat {A : List Addr} {v : V} {r : R} (h : RR K A H H1 v r) (f : r.flat = true) : RR K O H H1 v r := by
  cases r with
  | fr d =>
    have h : Rep K H1 A v d := h
    cases h with
    | non => exact Rep.non
    | bl b => exact Rep.bl b
    | int i => exact Rep.int i
    | str x => exact Rep.str x
    | lst _ _ _ => cases f
    | lstK _ _ => cases f
    | tup _ _ _ => cases f
    | tupK _ _ => cases f
    | dic _ _ _ => cases f
    | fn _ => cases f
  | ol xs => cases f
  | od xs => cases f
  | bw d => cases f
end
def fCall (F : List D → Rs R) (g : En → Rs (List R)) : FE := fun ρ => (g ρ).bind (callR F)
section
variable {X : Cx} {k : Nat} {f : Addr} {fd : FuncData} {ps : List Str} {F : List D → Rs R} {x : Str} {p pos : Pos} {e : Expr} {es : List Expr} {g : En → Rs (List R)} {n : Nat}
theorem e_call (G : FnOk X.prog X.w X.K X.mg X.base CX0 k f fd ps (spF X.K n F)) (hr : Room k X.A) (hm : X.mg x = some (.ref f)) (hk : PySem.W.keepIn X.K (.ref f) = true) (hb : Binds X.K fd ps []) (ha : AV X (e :: es) g) (hn : (e :: es).length = n := by rfl) (hg : Gl X x := by rfl) (hdb : (x == ("__debug__" : Str)) = false := by decide)
    (he : starEach (e :: es) X.env = (false, eval e X.env) :: starEach es X.env := by rfl) (hpl : (backTo pos (starEach es X.env)).any (·.1) = false := by rfl) :
    EV X (.Call (.Name x p) (e :: es) [] pos) (fCall F g) := by
  refine ⟨pe_imp (pe_call G hr hg hm hk hb .nil pass0 ha.run hdb he hpl) fun σ H Q ⟨O, ρ, r, I, hf, q⟩ => ?_⟩
  obtain ⟨rs, e1, hf⟩ := Rs.bind_eq hf
  refine ⟨O, ρ, rs, I, e1, fun vs H1 s1 hv => ?_⟩
  show spF X.K n F (vs ++ []) H1 Q E0
  rw [List.append_nil]
  have hlv : vs.length = n := by rw [hv.length, ha.len ρ rs e1]; exact hn
  unfold callR at hf
  split at hf
  · rename_i ds ed
    exact ⟨hlv, O, ds, r, fzAll_reps I.tr hv ed, Same.tr s1 I.tr, hf, fun v H' s2 rr => q v H' (s1.trans s2) (rr.left s1)⟩
  · obtain ⟨r', e2, hf⟩ := Rs.bind_eq hf
    split at hf
    · rename_i hfl
      cases hf
      exact ⟨hlv, [], _, r, all_bare hv, (fun _ z => nomatch z), e2, fun v H' s2 rr => q v H' (s1.trans s2) ((rr.left s1).flat hfl)⟩
    · cases hf
end
/-! ### what is walked -/
/-- J gives the data ds one after the other; what stands in E may change meanwhile -/
def JOk (K : PySem.W.Frag) (O E : List Addr) (H1 : Hp) (J : It) (ds : List D) : Prop := ∀ i H2, (∀ a o, H1 a = some o → a ∉ E → H2 a = some o) →
  (∀ d, ds[i]? = some d → J.go i H2 ∧ ∀ x H3, J.yld i H2 x H3 → Same H2 H3 ∧ ∀ O2, (∀ a ∈ O2, a ∈ O ∨ H1 a = none) → (∀ a ∈ O2, H2 a ≠ none) → Rep K H3 O2 x d) ∧ (ds.length ≤ i → J.stop i H2)
/-- q: within a comprehension (nothing that stands is changed) -/
def mayE (q : Bool) (O : List Addr) : List Addr := if q then [] else O
def tI (K : PySem.W.Frag) (q : Bool) (f : En → Rs (List D)) : TI := fun σ H R => ∃ O ρ ds, ER K O H σ ρ ∧ f ρ = .ok ds ∧ ∀ J H1, Same H H1 → JOk K O (mayE q O) H1 J ds → (q = true → ds.length ≤ sizeLine) → R J H1
structure IV (X : Cx) (q : Bool) (tg iter : Expr) (f : En → Rs (List D)) : Prop where
  run : PI X tg iter (tI X.K q f)
theorem pi_imp {X : Cx} {tg e : Expr} {t u : TI} (h : PI X tg e t) (i : ∀ σ H Q, u σ H Q → t σ H Q) : PI X tg e u := ⟨fun pins s σ H Q I q => h.run pins s σ H Q I (i σ H Q q)⟩
/-- the items of a list, of a tuple; an own list only within a comprehension -/
def listOf' (q : Bool) : R → Rs (List D)
  | .fr (.list ds) => .ok ds
  | .ol ds => .ok ds
  | .bw (.list ds) => if q then .ok ds else .bad
  | _ => .bad
def tupOf' : R → Rs (List D)
  | .fr (.tuple ds) => .ok ds
  | _ => .bad
def fIter (f : FE) (o : R → Rs (List D)) : En → Rs (List D) := fun ρ => (f ρ).bind o
section
variable {K : PySem.W.Frag} {H H1 : Hp} {O E : List Addr}
theorem JOk.seq {J : It} {ds : List D} {xs : List V} {S : Hp → Prop} (hr : Reps K H1 O xs ds) (hE : ∀ a ∈ E, a ∈ O) (hS : ∀ H2, (∀ a o, H1 a = some o → a ∉ E → H2 a = some o) → S H2)
    (go : ∀ i H2 x, S H2 → xs[i]? = some x → J.go i H2 ∧ ∀ y H3, J.yld i H2 y H3 → H3 = H2 ∧ y = x) (stop : ∀ i H2, S H2 → xs.length ≤ i → J.stop i H2) : JOk K O E H1 J ds := fun i H2 k => by
  refine ⟨fun d hd => ?_, fun hle => stop i H2 (hS H2 k) (by rw [hr.length]; exact hle)⟩
  obtain ⟨x, hx, hxd⟩ := hr.get' hd
  obtain ⟨g1, g2⟩ := go i H2 x (hS H2 k) hx
  refine ⟨g1, fun y H3 hy => ?_⟩
  obtain ⟨rfl, rfl⟩ := g2 y H3 hy
  exact ⟨Same.refl _, fun O2 h1 h2 => hxd.ev (fun a o e n => k a o e fun z => n (hE a z)) h1⟩
theorem JOk.list {ds : List D} {a : Addr} {xs : List V} (hr : Reps K H1 O xs ds) (hE : ∀ a ∈ E, a ∈ O) (hS : ∀ H2, (∀ a o, H1 a = some o → a ∉ E → H2 a = some o) → SqL K H2 a xs) : JOk K O E H1 (Itl K a) ds :=
  JOk.seq hr hE hS (fun i H2 x h hx => ⟨⟨xs, x, h, hx⟩, fun y H3 ⟨e, hy⟩ => ⟨e, Option.some.inj ((hy xs h).symm.trans hx)⟩⟩) fun i H2 h hle => ⟨xs, h, hle⟩
theorem JOk.tup {ds : List D} {a : Addr} {xs : List V} (hr : Reps K H1 O xs ds) (hE : ∀ a ∈ E, a ∈ O) (hS : ∀ H2, (∀ a o, H1 a = some o → a ∉ E → H2 a = some o) → SqT K H2 a xs) : JOk K O E H1 (Itt K a) ds :=
  JOk.seq hr hE hS (fun i H2 x h hx => ⟨⟨xs, x, h, hx⟩, fun y H3 ⟨e, hy⟩ => ⟨e, Option.some.inj ((hy xs h).symm.trans hx)⟩⟩) fun i H2 h hle => ⟨xs, h, hle⟩
theorem mayE_sub (q : Bool) : ∀ a ∈ mayE q O, a ∈ O := fun a h => by
  unfold mayE at h
  cases q with
  | true => cases h
  | false => exact h
end
section
variable {X : Cx} {q : Bool} {tg e : Expr} {f : FE} {pos p : Pos}
theorem i_list (h : EV X e f) : IV X q tg e (fIter f (listOf' q)) := by
  refine ⟨pi_imp (pi_list h.run) fun σ H Q ⟨O, ρ, ds, I, hf, qq⟩ => ?_⟩
  obtain ⟨r, e1, hf⟩ := Rs.bind_eq hf
  refine ⟨O, ρ, r, I, e1, fun v H1 s rr => ?_⟩
  have main : ∀ (a : Addr) (xs : List V), v = .ref a → SqL X.K H1 a xs → xs.length ≤ sizeLine → Reps X.K H1 O xs ds → (∀ H2, (∀ a o, H1 a = some o → a ∉ mayE q O → H2 a = some o) → SqL X.K H2 a xs) → iList X.K (fun _ _ Q' => Q' v H1) σ H Q := fun a xs ev hs hz hr hS => by
    exact ⟨a, ev, ⟨xs, hs⟩, qq _ H1 s (JOk.list hr (mayE_sub q) hS) fun _ => by rw [← hr.length]; exact hz⟩
  have go : ∀ {z : Rep X.K H1 O v (.list ds)}, iList X.K (fun _ _ Q' => Q' v H1) σ H Q := fun {z} => by
    cases z with
    | lst h1 h2 hz h3 => exact main _ _ rfl (.inl h1) hz h3 fun H2 k => .inl (Rd.keep h1 fun o e => k _ o e fun z => h2 (mayE_sub q _ z))
    | lstK h1 h3 => exact main _ _ rfl (.inr h1) h1.len h3 fun H2 k => .inr h1
  unfold listOf' at hf
  split at hf
  · cases hf
    exact go (z := rr.rep I.tr rfl)
  · cases hf
    exact go (z := rr.rep I.tr rfl)
  · split at hf
    · rename_i hq
      cases hf
      subst hq
      cases (show Top X.K H1 O v (.list ds) from rr) with
      | rep z => exact go (z := z)
      | lst e z r => exact main _ _ rfl (.of e) z r fun H2 k => .of (k _ _ e (fun z => nomatch z))
    · cases hf
  · cases hf
theorem i_tup (h : EV X e f) : IV X q tg e (fIter f tupOf') := by
  refine ⟨pi_imp (pi_tup h.run) fun σ H Q ⟨O, ρ, ds, I, hf, qq⟩ => ?_⟩
  obtain ⟨r, e1, hf⟩ := Rs.bind_eq hf
  refine ⟨O, ρ, r, I, e1, fun v H1 s rr => ?_⟩
  have hz : r.fz = some (.tuple ds) := by
    unfold tupOf' at hf
    split at hf
    · cases hf; rfl
    · cases hf
  cases rr.rep I.tr hz with
  | tup h1 h2 hz h3 => exact ⟨_, rfl, ⟨_, .inl h1⟩, qq _ H1 s (JOk.tup h3 (mayE_sub q) fun H2 k => .inl (Rd.keep h1 fun o e => k _ o e fun z => h2 (mayE_sub q _ z))) fun _ => by rw [← h3.length]; exact hz⟩
  | tupK h1 h3 => exact ⟨_, rfl, ⟨_, .inr h1⟩, qq _ H1 s (JOk.tup h3 (mayE_sub q) fun H2 k => .inr h1) fun _ => by rw [← h3.length]; exact h1.len⟩
def rng (lo : Int) (n : Nat) : List D := (List.range n).map fun (i : Nat) => PyData.int (lo + (i : Int))
theorem JOk.rng {K : PySem.W.Frag} {O E : List Addr} {H1 : Hp} (lo : Int) (n : Nat) : JOk K O E H1 (Itr lo n) (rng lo n) := fun i H2 k => by
  refine ⟨fun d hd => ?_, fun hle => ?_⟩
  · unfold VL.rng at hd
    rw [List.getElem?_map] at hd
    obtain ⟨j, hj, e⟩ := Option.map_eq_some_iff.mp hd
    obtain ⟨h1, h2⟩ := List.getElem?_eq_some_iff.mp hj
    rw [List.length_range] at h1
    rw [List.getElem_range] at h2
    subst h2
    subst e
    refine ⟨h1, fun x H3 hy => ?_⟩
    obtain ⟨rfl, rfl⟩ := hy
    exact ⟨Same.refl _, fun _ _ _ => .int _⟩
  · unfold VL.rng at hle
    rw [List.length_map, List.length_range] at hle
    exact hle
def big : Int := 2 ^ 62
/-- a range's end -/
def rngOk (i : Int) : Bool := decide (-8000000 ≤ i) && decide (i ≤ 8000000)
def oRng1 : List R → Rs (List D)
  | [.fr (.int j)] => if rngOk j then .ok (rng 0 j.toNat) else .bad
  | _ => .bad
def oRng2 : List R → Rs (List D)
  | [.fr (.int i), .fr (.int j)] => if rngOk i && rngOk j then .ok (rng i (j - i).toNat) else .bad
  | _ => .bad
theorem rngOk_iff {i : Int} (h : rngOk i = true) : -8000000 ≤ i ∧ i ≤ 8000000 := by
  unfold rngOk at h
  rw [Bool.and_eq_true] at h
  exact ⟨of_decide_eq_true h.1, of_decide_eq_true h.2⟩
theorem rng_len {lo : Int} {n : Nat} (h : n ≤ 16777216) : (rng lo n).length ≤ sizeLine := by
  unfold rng
  rw [List.length_map, List.length_range, sizeLine_eq]
  exact h
theorem all2_1 {α β : Type} {P : α → β → Prop} {vs : List α} {b : β} (h : All2 P vs [b]) : ∃ a, vs = [a] ∧ P a b := by
  cases h with
  | cons r t => cases t; exact ⟨_, rfl, r⟩
theorem all2_2 {α β : Type} {P : α → β → Prop} {vs : List α} {b c : β} (h : All2 P vs [b, c]) : ∃ a a', vs = [a, a'] ∧ P a b ∧ P a' c := by
  cases h with
  | cons r t =>
    obtain ⟨a', rfl, q⟩ := all2_1 t
    exact ⟨_, _, rfl, r, q⟩
theorem all2_3 {α β : Type} {P : α → β → Prop} {vs : List α} {b c d : β} (h : All2 P vs [b, c, d]) : ∃ a a' a'', vs = [a, a', a''] ∧ P a b ∧ P a' c ∧ P a'' d := by
  cases h with
  | cons r t =>
    obtain ⟨a', a'', rfl, q, z⟩ := all2_2 t
    exact ⟨_, _, _, rfl, r, q, z⟩
def fRng1 (g : En → Rs (List R)) : En → Rs (List D) := fun ρ => (g ρ).bind oRng1
def fRng2 (g : En → Rs (List R)) : En → Rs (List D) := fun ρ => (g ρ).bind oRng2
theorem i_range1 {a : Expr} {g : En → Rs (List R)} (hm : X.mg "range" = none) (ha : AV X [a] g) (hg : Gl X "range" := by rfl) (hs : starEach [a] X.env = [(false, eval a X.env)] := by rfl) : IV X q tg (.Call (.Name "range" p) [a] [] pos) (fRng1 g) := by
  refine ⟨pi_imp (pi_range1 hg hm ha.run hs) fun σ H Q ⟨O, ρ, ds, I, hf, qq⟩ => ?_⟩
  obtain ⟨rs, e1, hf⟩ := Rs.bind_eq hf
  refine ⟨O, ρ, rs, I, e1, fun vs H1 s hv => ?_⟩
  unfold oRng1 at hf
  split at hf
  · rename_i j
    split at hf
    · rename_i hj
      cases hf
      obtain ⟨v, rfl, hr⟩ := all2_1 hv
      cases (show Rep X.K H1 O v (.int j) from hr)
      obtain ⟨h1, h2⟩ := rngOk_iff hj
      exact ⟨j, rfl, by omega, by omega, qq _ H1 s (JOk.rng 0 j.toNat) fun _ => rng_len (by omega)⟩
    · cases hf
  · cases hf
theorem i_range2 {a b : Expr} {g : En → Rs (List R)} (hm : X.mg "range" = none) (ha : AV X [a, b] g) (hg : Gl X "range" := by rfl) (hs : starEach [a, b] X.env = [(false, eval a X.env), (false, eval b X.env)] := by rfl) (hs2 : starEach [b] X.env = [(false, eval b X.env)] := by rfl) : IV X q tg (.Call (.Name "range" p) [a, b] [] pos) (fRng2 g) := by
  refine ⟨pi_imp (pi_range2 hg hm ha.run hs hs2) fun σ H Q ⟨O, ρ, ds, I, hf, qq⟩ => ?_⟩
  obtain ⟨rs, e1, hf⟩ := Rs.bind_eq hf
  refine ⟨O, ρ, rs, I, e1, fun vs H1 s hv => ?_⟩
  unfold oRng2 at hf
  split at hf
  · rename_i i j
    split at hf
    · rename_i hj
      cases hf
      obtain ⟨v, v', rfl, hr, hr'⟩ := all2_2 hv
      cases (show Rep X.K H1 O v (.int i) from hr)
      cases (show Rep X.K H1 O v' (.int j) from hr')
      rw [Bool.and_eq_true] at hj
      obtain ⟨h1, h2⟩ := rngOk_iff hj.1
      obtain ⟨h3, h4⟩ := rngOk_iff hj.2
      exact ⟨i, j, rfl, ⟨by omega, by omega, by omega, by omega⟩, qq _ H1 s (JOk.rng i (j - i).toNat) fun _ => rng_len (by omega)⟩
    · cases hf
  · cases hf
end
/-! ### targets -/
/-- σ' is σ but for the names at js -/
def Only (js : List Nat) (σ σ' : L2.St) : Prop := σ'.length = σ.length ∧ ∀ i, i ∉ js → σ'[i]? = σ[i]?
theorem Only.refl {js : List Nat} {σ : L2.St} : Only js σ σ := ⟨rfl, fun _ _ => rfl⟩
theorem Only.trans {js ks : List Nat} {σ σ1 σ2 : L2.St} (h : Only js σ σ1) (k : Only ks σ1 σ2) : Only (js ++ ks) σ σ2 :=
  ⟨k.1.trans h.1, fun i hi => (k.2 i fun z => hi (List.mem_append_right _ z)).trans (h.2 i fun z => hi (List.mem_append_left _ z))⟩
def tG (K : PySem.W.Frag) (js : List Nat) (st : D → En → Option En) : TG := fun v σ H Q => ∃ O ρ d ρ', ER K O H σ ρ ∧ Rep K H O v d ∧ st d ρ = some ρ' ∧ ∀ σ', ER K O H σ' ρ' → (∀ a ∈ own σ' ρ', a ∈ own σ ρ) → Only js σ σ' → Q σ' H
structure GV (X : Cx) (tg : Expr) (js : List Nat) (st : D → En → Option En) : Prop where
  run : PG X tg (tG X.K js st)
def tGs (K : PySem.W.Frag) (js : List Nat) (st : List D → En → Option En) : TGs := fun vs σ H Q => ∃ O ρ ds ρ', ER K O H σ ρ ∧ Reps K H O vs ds ∧ st ds ρ = some ρ' ∧ ∀ σ', ER K O H σ' ρ' → (∀ a ∈ own σ' ρ', a ∈ own σ ρ) → Only js σ σ' → Q σ' H
structure GsV (X : Cx) (tgs : List Expr) (js : List Nat) (st : List D → En → Option En) : Prop where
  run : PGs X tgs (tGs X.K js st)
theorem pg_imp {X : Cx} {e : Expr} {t u : TG} (h : PG X e t) (i : ∀ v σ H Q, u v σ H Q → t v σ H Q) : PG X e u := ⟨fun pins s σ H v u' Q I r q => h.run pins s σ H v u' Q I r (i v σ H Q q)⟩
theorem pgs_imp {X : Cx} {e : List Expr} {t u : TGs} (h : PGs X e t) (i : ∀ v σ H Q, u v σ H Q → t v σ H Q) : PGs X e u := ⟨fun pins s σ H v u' Q I r q => h.run pins s σ H v u' Q I r (i v σ H Q q)⟩
def sName (i : Nat) : D → En → Option En := fun d ρ => some (ρ.set i (.fr d))
def sNil : List D → En → Option En
  | [], ρ => some ρ
  | _, _ => none
def sCons (s : D → En → Option En) (t : List D → En → Option En) : List D → En → Option En
  | d :: ds, ρ => (s d ρ).bind (t ds)
  | [], _ => none
def sTup (t : List D → En → Option En) : D → En → Option En
  | .tuple ds, ρ => t ds ρ
  | _, _ => none
section
variable {X : Cx} {pos : Pos}
theorem g_name (i : Nat) {x : Str} (hN : X.N.Nodup) (hi : X.N[i]? = some x := by rfl) (hx : Loc X.env.scope x := by first | exact Or.inl rfl | exact Or.inr rfl) (hf : X.fn x = true ∨ X.env.scope.names.lookup x = some .local := by first | exact .inl rfl | exact .inr rfl | assumption) : GV X (.Name x pos) [i] (sName i) := by
  refine ⟨pg_imp (pg_name hN hi hx hf) fun v σ H Q ⟨O, ρ, d, ρ', I, r, hs, q⟩ => ?_⟩
  cases hs
  obtain ⟨J, hm⟩ := I.put r i
  exact q _ J hm ⟨List.length_set .., fun j hj => List.getElem?_set_ne fun e => hj (by simp [e])⟩
theorem gs_nil : GsV X [] [] sNil := by
  refine ⟨pgs_imp pgs_nil fun vs σ H Q ⟨O, ρ, ds, ρ', I, r, hs, q⟩ => ?_⟩
  unfold sNil at hs
  split at hs
  · cases hs
    cases r
    exact ⟨rfl, q σ I (fun _ h => h) .refl⟩
  · cases hs
theorem gs_cons {e : Expr} {es : List Expr} {js ks : List Nat} {s : D → En → Option En} {t : List D → En → Option En} (h1 : GV X e js s) (h2 : GsV X es ks t) (hs : (assignEach (e :: es) X.env).map (·.2) = assign e X.env :: (assignEach es X.env).map (·.2) := by rfl) : GsV X (e :: es) (js ++ ks) (sCons s t) := by
  refine ⟨pgs_imp (pgs_cons h1.run h2.run hs) fun vs σ H Q ⟨O, ρ, ds, ρ', I, r, hs, q⟩ => ?_⟩
  unfold sCons at hs
  split at hs
  · cases r with
    | cons r1 r2 =>
      obtain ⟨ρ1, e1, e2⟩ := Option.bind_eq_some_iff.mp hs
      exact ⟨_, _, rfl, O, ρ, _, ρ1, I, r1, e1, fun σ1 J hm o1 => ⟨O, ρ1, _, ρ', J, r2, e2, fun σ2 J2 hm2 o2 => q σ2 J2 (fun a h => hm a (hm2 a h)) (o1.trans o2)⟩⟩
  · cases hs
theorem g_tup {es : List Expr} {k : Nat} {js : List Nat} {t : List D → En → Option En} {n : Nat} (hc : X.calm = true) (h : GsV X es js t) (hlen : ∀ ds ρ ρ', t ds ρ = some ρ' → ds.length = n)
    (hn : (assignEach es X.env).length = n := by rfl) (hst : (assignEach es X.env).findIdx? (·.1) = none := by rfl) : GV X (.Tuple es k pos) js (sTup t) := by
  refine ⟨pg_imp (pg_tup hc h.run hn hst) fun v σ H Q ⟨O, ρ, d, ρ', I, r, hs, q⟩ => ?_⟩
  unfold sTup at hs
  split at hs
  · rename_i ds
    obtain ⟨a, xs, rfl, hq, hr, _⟩ := (Top.rep r).tuple
    exact ⟨a, xs, rfl, hq, by rw [hr.length]; exact hlen ds ρ ρ' hs, O, ρ, ds, ρ', I, hr, hs, q⟩
  · cases hs
theorem sNil_len (ds : List D) (ρ ρ' : En) (h : sNil ds ρ = some ρ') : ds.length = 0 := by
  unfold sNil at h
  split at h
  · rfl
  · cases h
theorem sCons_len {s : D → En → Option En} {t : List D → En → Option En} {n : Nat} (ht : ∀ ds ρ ρ', t ds ρ = some ρ' → ds.length = n) (ds : List D) (ρ ρ' : En) (h : sCons s t ds ρ = some ρ') : ds.length = n + 1 := by
  unfold sCons at h
  split at h
  · obtain ⟨ρ1, _, e2⟩ := Option.bind_eq_some_iff.mp h
    rw [List.length_cons, ht _ _ _ e2]
  · cases h
end
/-- target = value -/
def gAsg (f : FE) (st : D → En → Option En) : FS := fun ρ => match f ρ with
  | .ok r => match r.fz with
    | some d => match st d ρ with
      | some ρ' => .nx ρ'
      | none => .bad
    | none => .bad
  | .ex e => .ex e
  | .bad => .bad
section
variable {X : Cx} {pos : Pos}
theorem s_asg {tg e : Expr} {f : FE} {js : List Nat} {st : D → En → Option En} (he : EV X e f) (hg : GV X tg js st) (hs : swapsWithSole [tg] e pos.line X.env = pure false := by rfl) (hw : swappedStores [tg] e X.env = pure none := by rfl)
    (h1 : (assignEach [tg] X.env).map (·.2) = [assign tg X.env] := by rfl) : SV X (.Assign [tg] e pos) (gAsg f st) := by
  refine ⟨ps_imp (ps_asg he.run hg.run hs hw h1) fun D σ H ⟨O, ρ, I, q⟩ => ?_⟩
  unfold gAsg at q
  split at q
  · rename_i r e
    split at q
    · rename_i d ed
      split at q
      · rename_i ρ' es
        exact ⟨O, ρ, r, I, e, fun v H1 s rr => ⟨O, ρ, d, ρ', I.same s, rr.rep I.tr ed, es, fun σ' J hm _ => q O H1 σ' J ⟨fun a o z _ => s a o z, fun a h _ => h, fun a h => .inl (hm a h), fun a h => .inl h⟩⟩⟩
      · exact q.elim
    · exact q.elim
  · exact q.elim
  · exact q.elim
end
/-! ### for -/
def gLoop (st : D → En → Option En) (body : FS) : List D → En → So
  | [], ρ => .nx ρ
  | d :: ds, ρ => match st d ρ with
    | none => .bad
    | some ρ1 => match body ρ1 with
      | .nx ρ2 => gLoop st body ds ρ2
      | .ct ρ2 => gLoop st body ds ρ2
      | .bk ρ2 => .nx ρ2
      | .rt r => .rt r
      | .ex e => .ex e
      | .bad => .bad
theorem gLoop_nil (st : D → En → Option En) (body : FS) (ρ : En) : gLoop st body [] ρ = .nx ρ := rfl
theorem gLoop_cons (st : D → En → Option En) (body : FS) (d : D) (ds : List D) (ρ : En) : gLoop st body (d :: ds) ρ = match st d ρ with
    | none => .bad
    | some ρ1 => match body ρ1 with
      | .nx ρ2 => gLoop st body ds ρ2
      | .ct ρ2 => gLoop st body ds ρ2
      | .bk ρ2 => .nx ρ2
      | .rt r => .rt r
      | .ex e => .ex e
      | .bad => .bad := rfl
def gFor (f : En → Rs (List D)) (st : D → En → Option En) (body : FS) : FS := fun ρ => match f ρ with
  | .ok ds => gLoop st body ds ρ
  | .ex e => .ex e
  | .bad => .bad
section
variable {X : Cx} {pos : Pos}
theorem s_for {tg iter : Expr} {body : List Stmt} {f : En → Rs (List D)} {js : List Nat} {st : D → En → Option En} {g : FS} (hp : PassesOwn (model X.prog X.w) X.A X.env X.xe) (hc : X.calm = true) (hi : IV X false tg iter f) (hg : GV X tg js st) (hb : BV X body g)
    (hs : ∀ x, foldedSetIterable iter X.env x = pure x := by intro _; rfl) : SV X (.For tg iter body [] pos) (gFor f st g) := by
  refine ⟨ps_imp (ps_for hp hc hi.run hg.run hb.run hs) fun D σ H ⟨O, ρ, I, q⟩ => ?_⟩
  unfold gFor at q
  split at q
  · rename_i ds e
    refine ⟨O, ρ, ds, I, e, fun J H1 s jok _ => ?_⟩
    have I1 := I.same s
    have q1 : Post X.K O H1 σ ρ D (gLoop st g ds ρ) := q.next I (ER.same_evo s)
    refine ⟨fun i m σ' H' => m = ds.length - i ∧ i ≤ ds.length ∧ ∃ O' ρ', ER X.K O' H' σ' ρ' ∧ Evo O H1 σ ρ O' H' σ' ρ' ∧ gLoop st g (ds.drop i) ρ' = gLoop st g ds ρ,
      ⟨ds.length, by simp, Nat.zero_le _, O, ρ, I1, .refl, by simp⟩, ?_⟩
    rintro i m σ' H' ⟨rfl, hi, O', ρ', I', E, hl⟩
    have k : ∀ a o, H1 a = some o → a ∉ O → H' a = some o := fun a o e n => E.same a o e fun z => n (I1.sub a z)
    obtain ⟨jgo, jstop⟩ := jok i H' k
    by_cases hlt : i < ds.length
    · obtain ⟨go, item⟩ := jgo ds[i] (List.getElem?_eq_getElem hlt)
      refine .inr ⟨go, fun σ3 H3 => i + 1 ≤ ds.length ∧ ∃ O' ρ', ER X.K O' H3 σ3 ρ' ∧ Evo O H1 σ ρ O' H3 σ3 ρ' ∧ gLoop st g (ds.drop (i + 1)) ρ' = gLoop st g ds ρ, fun σ3 H3 h3 => ⟨ds.length - (i + 1), by omega, rfl, h3⟩, fun x H2 hy => ?_⟩
      obtain ⟨s2, hx⟩ := item x H2 hy
      have I2 := I'.same s2
      have E2 : Evo O H1 σ ρ O' H2 σ' ρ' := E.trans I1 (ER.same_evo s2)
      have hd := hx O' (fun a h => E.newO a h) I'.tr
      rw [List.drop_eq_getElem_cons hlt] at hl
      have q2 : Post X.K O' H2 σ' ρ' D (gLoop st g (ds[i] :: ds.drop (i + 1)) ρ') := by
        rw [hl]
        exact q1.next I1 E2
      rw [gLoop_cons] at hl q2
      cases e1 : st ds[i] ρ' with
      | none => rw [e1] at q2; exact q2.elim
      | some ρ1 =>
        rw [e1] at hl q2
        dsimp only at hl q2
        refine ⟨O', ρ', ds[i], ρ1, I2, hd, e1, fun σ2 J2 hm _ => ⟨O', ρ1, J2, ?_⟩⟩
        have E3 : Evo O' H2 σ' ρ' O' H2 σ2 ρ1 := ⟨fun a o z _ => z, fun a h _ => h, fun a h => .inl (hm a h), fun a h => .inl h⟩
        have E4 : Evo O H1 σ ρ O' H2 σ2 ρ1 := E2.trans I1 E3
        cases e2 : g ρ1 with
        | nx ρ2 =>
          rw [e2] at hl
          exact fun O3 H3 σ3 J3 E5 => ⟨hlt, O3, ρ2, J3, E4.trans I1 E5, hl⟩
        | ct ρ2 =>
          rw [e2] at hl
          exact fun O3 H3 σ3 J3 E5 => ⟨hlt, O3, ρ2, J3, E4.trans I1 E5, hl⟩
        | bk ρ2 =>
          rw [e2] at q2
          exact q2.next I2 E3
        | rt r =>
          rw [e2] at q2
          exact q2.next I2 E3
        | ex z => rw [e2] at q2; exact q2.elim
        | bad => rw [e2] at q2; exact q2.elim
    · have e : i = ds.length := by omega
      subst e
      rw [List.drop_length] at hl
      have hl : So.nx ρ' = gLoop st g ds ρ := hl
      rw [← hl] at q1
      exact .inl ⟨jstop (Nat.le_refl _), q1 O' H' σ' I' E⟩
  · exact q.elim
  · exact q.elim
end
end VL
namespace VL
open PySem PySem.Spec
open PyProof.Rows L2
/-! ### operations on ints, texts, tuples, lists -/
theorem vop_or {X : Cx} {f : Value → Value → Sem Value} {r : R2} {F : D → D → Rs R} (h : OpR X f r) (i : ∀ x y H Q, (∃ O d e r, Top X.K H O x d ∧ Top X.K H O y e ∧ F d e = .ok r ∧ ∀ v H', Same H H' → RR X.K O H H' v r → Q v H') → r x y H Q) : VOp X f F :=
  fun pins s σ H x y v u Q I rx ry q => h pins s σ H x y v u Q I rx ry (i x y H Q q)
def sizeN : Nat := 16777216
theorem sizeN_eq : sizeN = sizeLine := sizeLine_eq.symm
section
variable {X : Cx}
/-- list + list -/
def rCatL (K : PySem.W.Frag) : R2 := fun x y H Q => ∃ l b xs zs, x = .ref l ∧ y = .ref b ∧ SqL K H l xs ∧ SqL K H b zs ∧ xs.length + zs.length ≤ sizeLine ∧ ∀ p, H p = none → Q (.ref p) (upd H p (.lst (xs ++ zs)))
theorem op_catL : OpR X (binaryOp .Add) (rCatL X.K) := by
  intro pins s σ H x y v u Q I rx ry h
  obtain ⟨l, b, xs, zs, rfl, rfl, hH, hB, hz, q⟩ := h
  cases rx
  cases ry
  obtain ⟨its, r, p1, _⟩ := I.list hH
  obtain ⟨its2, r2, p2, _⟩ := I.list hB
  obtain ⟨⟨cls, dd, data, sl⟩, ho, hc, n, hd⟩ := p1.isList
  obtain ⟨⟨cls2, dd2, data2, sl2⟩, ho2, hc2, n2, hd2⟩ := p2.isList
  simp only at hc hd hc2 hd2
  subst hc hd hc2 hd2
  have hl := r.length
  have hl2 := r2.length
  have e : its.toArray ++ its2.toArray = (its ++ its2).toArray := by simp
  refine concat_meets ⟨_, ho, rfl⟩ ⟨_, ho2, rfl⟩ noFill_list_add seq_list_add PySem.F.slot_list_add PySem.F.entry_list_add (PySem.F.args_list_add_2 _ _) (list_addW l b its.toArray its2.toArray n n2 dd dd2 sl sl2 (by simp only [List.size_toArray]; omega)) ⟨ho, ho2, ?_⟩
  rw [e]
  exact ⟨.ref _, _, I.lnew (t' := s.toks) (r.append r2) (by rw [List.length_append]; omega), rfl, q _ I.fresh⟩
theorem same_upd {H : Hp} {p : Addr} {o : HO} (h : H p = none) : Same H (upd H p o) := fun b x e => by
  rw [upd_ne (ne_of_none e h)]
  exact e
/-- a new list of items -/
theorem rr_newL {K : PySem.W.Frag} {O : List Addr} {H : Hp} {p : Addr} {vs : List V} {ds : List D} (hp : H p = none) (hz : vs.length ≤ sizeLine) (r : Reps K H O vs ds) : RR K O H (upd H p (.lst vs)) (.ref p) (.ol ds) :=
  ⟨p, vs, rfl, hp, upd_same, hz, r.ev (fun a o e _ => same_upd hp a o e) fun a z => (List.mem_cons.mp z).elim (fun e => .inr (by rw [e]; exact hp)) .inl⟩
theorem rr_newT {K : PySem.W.Frag} {O : List Addr} {H : Hp} {p : Addr} {vs : List V} {ds : List D} (hO : ∀ a ∈ O, H a ≠ none) (hp : H p = none) (hz : vs.length ≤ sizeLine) (r : Reps K H O vs ds) : RR K O H (upd H p (.tup vs)) (.ref p) (.fr (.tuple ds)) :=
  .tup (.inl upd_same) (fun z => hO p z hp) hz (r.same (same_upd hp))
/-- + -/
def dAdd : D → D → Rs R
  | .int i, .int j => .ok (.fr (.int (i + j)))
  | .str x, .str y => if x.length + y.length ≤ sizeN then .ok (.fr (.str (x ++ y))) else .bad
  | .tuple xs, .tuple ys => if xs.length + ys.length ≤ sizeN then .ok (.fr (.tuple (xs ++ ys))) else .bad
  | .list xs, .list ys => if xs.length + ys.length ≤ sizeN then .ok (.ol (xs ++ ys)) else .bad
  | _, _ => .bad
/-- as VOp, the own objects known to stand -/
def VOpT (X : Cx) (f : Value → Value → Sem Value) (F : D → D → Rs R) : Prop :=
  OpR X f fun x y H Q => ∃ O d e r, Top X.K H O x d ∧ Top X.K H O y e ∧ (∀ a ∈ O, H a ≠ none) ∧ F d e = .ok r ∧ ∀ v H', Same H H' → RR X.K O H H' v r → Q v H'
theorem two_t {a b : Expr} {fa fb : FE} {F : D → D → Rs R} (ha : EV X a fa) (hb : EV X b fb) {σ : L2.St} {H : Hp} {Q : VK} (h : tE X.K (fOp F fa fb) σ H Q) :
    tE X.K fa σ H fun x H1 => tE X.K fb σ H1 fun y H2 => ∃ O d e r, Top X.K H2 O x d ∧ Top X.K H2 O y e ∧ (∀ a ∈ O, H2 a ≠ none) ∧ F d e = .ok r ∧ ∀ v H', Same H2 H' → RR X.K O H2 H' v r → Q v H' := by
  obtain ⟨O, ρ, r, I, hf, q⟩ := h
  obtain ⟨x, e1, hf⟩ := Rs.bind_eq hf
  obtain ⟨y, e2, hf⟩ := Rs.bind_eq hf
  exact ⟨O, ρ, x, I, e1, fun v H1 s1 r1 => ⟨O, ρ, y, I.same s1, e2, fun u H2 s2 r2 => ⟨O, _, _, r, (r1.right s2).top, r2.top, Same.tr (s1.trans s2) I.tr, hf, fun v' H' s3 r3 => q v' H' ((s1.trans s2).trans s3) (r3.left (s1.trans s2))⟩⟩⟩
theorem e_opT {op : Operator} {F : D → D → Rs R} {a b : Expr} {fa fb : FE} {pos : Pos} (ho : VOpT X (binaryOp op) F) (ha : EV X a fa) (hb : EV X b fb) : EV X (.BinOp a op b pos) (fOp F fa fb) :=
  ⟨pe_imp (pe_op ho ha.run hb.run) fun σ H Q h => two_t ha hb h⟩
theorem v_add : VOpT X (binaryOp .Add) dAdd := by
  intro pins s σ H x y v u Q I rx ry h
  obtain ⟨O, d, e, r, hx, hy, ht, hf, q⟩ := h
  unfold dAdd at hf
  split at hf
  · cases hf
    exact op_add pins s σ H x y v u Q I rx ry ⟨_, _, hx.int, hy.int, q _ H (Same.refl H) (.int _)⟩
  · split at hf
    · rename_i hz
      cases hf
      exact op_add_str pins s σ H x y v u Q I rx ry ⟨_, _, hx.str, hy.str, by rw [sizeN_eq] at hz; exact hz, q _ H (Same.refl H) (.str _)⟩
    · cases hf
  · rename_i ds es
    split at hf
    · rename_i hz
      cases hf
      obtain ⟨a, xs, rfl, hq, hr, hl⟩ := hx.tuple
      obtain ⟨b, ys, rfl, hq2, hr2, hl2⟩ := hy.tuple
      have e1 := hr.length
      have e2 := hr2.length
      rw [sizeN_eq] at hz
      have back : ∀ {c : Addr} {zs : List V} {cs : List D}, Top X.K H O (.ref c) (.tuple cs) → Rep X.K H O (.ref c) (.tuple cs) := fun {c zs cs} t => by
        cases t with
        | rep r => exact r
      refine op_catA pins s σ H _ _ v u Q I rx ry ⟨a, b, xs, ys, rfl, rfl, hq, hq2, by omega, fun z => ?_, fun _ z => ?_, fun _ _ p hp => ?_⟩
      · subst z
        cases hr
        exact q _ H (Same.refl H) (back (zs := ys) hy)
      · subst z
        cases hr2
        rw [List.append_nil] at q
        exact q _ H (Same.refl H) (back (zs := xs) hx)
      · exact q _ _ (same_upd hp) (rr_newT ht hp (by rw [List.length_append]; omega) (hr.append hr2))
    · cases hf
  · split at hf
    · rename_i hz
      cases hf
      obtain ⟨a, xs, rfl, hq, hr, hl⟩ := hx.list
      obtain ⟨b, ys, rfl, hq2, hr2, hl2⟩ := hy.list
      have e1 := hr.length
      have e2 := hr2.length
      rw [sizeN_eq] at hz
      exact op_catL pins s σ H _ _ v u Q I rx ry ⟨a, b, xs, ys, rfl, rfl, hq, hq2, by omega, fun p hp => q _ _ (same_upd hp) (rr_newL hp (by rw [List.length_append]; omega) (hr.append hr2))⟩
    · cases hf
  · cases hf
/-- ints -/
def dI (C : Int → Int → Bool) (g : Int → Int → D) : D → D → Rs R
  | .int i, .int j => if C i j then .ok (.fr (g i j)) else .bad
  | _, _ => .bad
theorem v_int {f : Value → Value → Sem Value} {C : Int → Int → Bool} {C' : Int → Int → Prop} {g : Int → Int → V} {g' : Int → Int → D} (h : OpR X f (rI C' g)) (hC : ∀ i j, C i j = true → C' i j) (hg : ∀ K H O i j, Rep K H O (g i j) (g' i j)) : VOp X f (dI C g') := by
  refine vop_or h fun x y H Q ⟨O, d, e, r, hx, hy, hf, q⟩ => ?_
  unfold dI at hf
  split at hf
  · split at hf
    · rename_i hc
      cases hf
      exact ⟨_, _, hx.int, hy.int, hC _ _ hc, q _ H (Same.refl H) (hg _ _ _ _ _)⟩
    · cases hf
  · cases hf
theorem v_int0 {f : Value → Value → Sem Value} {g : Int → Int → V} {g' : Int → Int → D} (h : OpR X f (rI0 g)) (hg : ∀ K H O i j, Rep K H O (g i j) (g' i j)) : VOp X f (dI (fun _ _ => true) g') := by
  refine vop_or h fun x y H Q ⟨O, d, e, r, hx, hy, hf, q⟩ => ?_
  unfold dI at hf
  split at hf
  · simp only [if_true] at hf
    cases hf
    exact ⟨_, _, hx.int, hy.int, q _ H (Same.refl H) (hg _ _ _ _ _)⟩
  · cases hf
def dSub := dI (fun _ _ => true) fun i j => .int (i - j)
theorem v_sub : VOp X (binaryOp .Sub) dSub := v_int0 op_sub fun _ _ _ _ _ => .int _
def cMul (i j : Int) : Bool := (decide (-(2 ^ 64) < i) && decide (i < 2 ^ 64)) || (decide (-(2 ^ 64) < j) && decide (j < 2 ^ 64))
def dMul := dI cMul fun i j => .int (i * j)
theorem v_mul : VOp X (binaryOp .Mult) dMul := v_int op_mul (fun i j h => by
  unfold cMul at h
  simp only [Bool.or_eq_true, Bool.and_eq_true, decide_eq_true_eq] at h
  exact h) fun _ _ _ _ _ => .int _
def dMod := dI (fun _ j => decide (0 < j)) fun i j => .int (i % j)
theorem v_mod : VOp X (binaryOp .Mod) dMod := v_int op_mod (fun i j h => of_decide_eq_true h) fun _ _ _ _ _ => .int _
def dDiv := dI (fun _ j => decide (0 < j) && decide (j < 1073741824)) fun i j => .int (i / j)
theorem v_div : VOp X (binaryOp .FloorDiv) dDiv := v_int op_fdiv (fun i j h => by
  simp only [Bool.and_eq_true, decide_eq_true_eq] at h
  exact h) fun _ _ _ _ _ => .int _
def dPow := dI (fun i j => decide (0 ≤ j) && decide (j ≤ 1000) && decide (i.natAbs < 2 ^ 64)) fun i j => .int (i ^ j.toNat)
theorem v_pow : VOp X (binaryOp .Pow) dPow := v_int op_pow (fun i j h => by
  simp only [Bool.and_eq_true, decide_eq_true_eq] at h
  exact ⟨h.1.1, by omega, h.2⟩) fun _ _ _ _ _ => .int _
def dLt := dI (fun _ _ => true) fun i j => .bool (decide (i < j))
def dLe := dI (fun _ _ => true) fun i j => .bool (decide (i ≤ j))
def dGt := dI (fun _ _ => true) fun i j => .bool (decide (j < i))
def dGe := dI (fun _ _ => true) fun i j => .bool (decide (j ≤ i))
theorem v_lt : VOp X (compareOp .Lt) dLt := v_int0 op_lt fun _ _ _ _ _ => .bl _
theorem v_le : VOp X (compareOp .LtE) dLe := v_int0 op_le fun _ _ _ _ _ => .bl _
theorem v_gt : VOp X (compareOp .Gt) dGt := v_int0 op_gt fun _ _ _ _ _ => .bl _
theorem v_ge : VOp X (compareOp .GtE) dGe := v_int0 op_ge fun _ _ _ _ _ => .bl _
/-! == of data -/
/-- the data that == is known of -/
def okD (d : D) : Bool := d.plain && decide (d.depth ≤ 50)
theorem Rep.dp : ∀ {d : D} {v : V} {K : PySem.W.Frag} {H : Hp} {O : List Addr}, d.plain = true → Rep K H O v d → Dp K H v d
  | .none, _, _, _, _, _, h => by cases h; exact .non
  | .bool _, _, _, _, _, _, h => by cases h; exact .bl _
  | .int _, _, _, _, _, _, h => by cases h; exact .int _
  | .str _, _, _, _, _, _, h => by cases h; exact .str _
  | .list ds, _, _, _, _, p, h => by
    have p' : PyData.plainAll ds = true := p
    cases h with
    | lst h1 h2 hz h3 => exact .lst (.inl h1) (repsDp p' h3)
    | lstK h1 h3 => exact .lst (.inr h1) (repsDp p' h3)
  | .tuple ds, _, _, _, _, p, h => by
    have p' : PyData.plainAll ds = true := p
    cases h with
    | tup h1 h2 hz h3 => exact .tup (.inl h1) (repsDp p' h3)
    | tupK h1 h3 => exact .tup (.inr h1) (repsDp p' h3)
  | .dict _, _, _, _, _, p, _ => by cases p
where
  repsDp : ∀ {ds : List D} {vs : List V} {K : PySem.W.Frag} {H : Hp} {O : List Addr}, PyData.plainAll ds = true → Reps K H O vs ds → DpAll K H vs ds
  | [], _, _, _, _, _, h => by cases h; exact .nil
  | d :: ds, _, _, _, _, p, h => by
    have p' : (d.plain && PyData.plainAll ds) = true := p
    rw [Bool.and_eq_true] at p'
    cases h with
    | cons r t => exact .cons (Rep.dp p'.1 r) (repsDp p'.2 t)
theorem Top.dp {K : PySem.W.Frag} {H : Hp} {O : List Addr} {v : V} {d : D} (p : d.plain = true) (t : Top K H O v d) : Dp K H v d := Rep.dp p t.bare
def dEq : D → D → Rs R := fun d e => if okD d && okD e then .ok (.fr (.bool (PyData.eqv d e))) else .bad
def dNe : D → D → Rs R := fun d e => if okD d && okD e then .ok (.fr (.bool (!PyData.eqv d e))) else .bad
theorem v_eq (hu : X.A.units + 64 < cLine) : VOp X (compareOp .Eq) dEq := by
  intro pins s σ H x y v u Q I rx ry h
  obtain ⟨O, d, e, r, hx, hy, hf, q⟩ := h
  unfold dEq okD at hf
  split at hf
  · rename_i hc
    simp only [Bool.and_eq_true, decide_eq_true_eq] at hc
    cases hf
    obtain ⟨as, r1⟩ := Dp.reads I d x v (hx.dp hc.1.1) rx
    obtain ⟨bs, r2⟩ := Dp.reads I e y u (hy.dp hc.2.1) ry
    exact SeqAt.eq_plain r1 r2 hc.1.1 hc.2.1 (by omega) ⟨.bl _, H, I, rfl, q _ H (Same.refl H) (.bl _)⟩
  · cases hf
theorem v_ne (hu : X.A.units + 64 < cLine) : VOp X (compareOp .NotEq) dNe := by
  intro pins s σ H x y v u Q I rx ry h
  obtain ⟨O, d, e, r, hx, hy, hf, q⟩ := h
  unfold dNe okD at hf
  split at hf
  · rename_i hc
    simp only [Bool.and_eq_true, decide_eq_true_eq] at hc
    cases hf
    obtain ⟨as, r1⟩ := Dp.reads I d x v (hx.dp hc.1.1) rx
    obtain ⟨bs, r2⟩ := Dp.reads I e y u (hy.dp hc.2.1) ry
    exact SeqAt.ne_plain r1 r2 hc.1.1 hc.2.1 (by omega) ⟨.bl _, H, I, rfl, q _ H (Same.refl H) (.bl _)⟩
  · cases hf
end
end VL
namespace VL
open PySem PySem.Spec
open PyProof.Rows L2
/-! ### dicts as data -/
def kEq : D → D → Bool
  | .int i, .int j => decide (i = j)
  | .str x, .str y => decide (x = y)
  | _, _ => false
def isKey : D → Bool
  | .int _ => true
  | .str _ => true
  | _ => false
def dgetD (kvs : List (D × D)) (k : D) : Option D := (kvs.find? fun p => kEq p.1 k).map (·.2)
def dputD (kvs : List (D × D)) (k v : D) : List (D × D) := if (kvs.any fun p => kEq p.1 k) = true then kvs.map (fun p => if kEq p.1 k = true then (p.1, v) else p) else kvs ++ [(k, v)]
def ddropD (kvs : List (D × D)) (k : D) : List (D × D) := kvs.filter fun p => !kEq p.1 k
/-- not a def -/
def okDict : List (D × D) → Bool
  | (.none, _) :: _ => false
  | _ => true
theorem kEq_kD (a b : Key) : kEq (kD a) (kD b) = decide (a = b) := by
  cases a <;> cases b <;> simp [kD, kEq]
theorem isKey_kD {d : D} (h : isKey d = true) : ∃ k : Key, d = kD k := by
  cases d with
  | int i => exact ⟨.inl i, rfl⟩
  | str x => exact ⟨.inr x, rfl⟩
  | _ => cases h
theorem rep_kD {K : PySem.W.Frag} {H : Hp} {O : List Addr} {v : V} {k : Key} (h : Top K H O v (kD k)) : v = kV k := by
  cases k with
  | inl i => exact h.int
  | inr x => exact h.str
section
variable {K : PySem.W.Frag} {H : Hp} {O : List Addr} {v : V}
theorem KReps.get {k : Key} : ∀ {vs : List (Key × V)} {ds : List (D × D)}, KReps K H O vs ds → (∀ d, dgetD ds (kD k) = some d → ∃ v, valV vs k = some v ∧ Rep K H O v d) ∧ (dgetD ds (kD k) = none → valV vs k = none)
  | _, _, .nil => ⟨(fun d h => nomatch h), fun _ => rfl⟩
  | _, _, .cons (k := k') (v := w) (d := d0) (vs := vs) (ds := ds) r t => by
    obtain ⟨h1, h2⟩ := KReps.get (k := k) t
    unfold dgetD at h1 h2 ⊢
    rw [List.find?_cons]
    dsimp only
    rw [kEq_kD]
    by_cases e : k' = k
    · rw [decide_eq_true e]
      exact ⟨fun d h => by cases h; exact ⟨w, valV_pos e, r⟩, fun h => by cases h⟩
    · rw [decide_eq_false e]
      rw [valV_neg (p := (k', w)) e]
      exact ⟨h1, h2⟩
theorem KReps.length : ∀ {vs : List (Key × V)} {ds : List (D × D)}, KReps K H O vs ds → vs.length = ds.length
  | _, _, .nil => rfl
  | _, _, .cons _ t => congrArg (· + 1) (KReps.length t)
theorem KReps.anyK {k : Key} : ∀ {vs : List (Key × V)} {ds : List (D × D)}, KReps K H O vs ds → (vs.any fun kv => decide (kv.1 = k)) = ds.any fun p => kEq p.1 (kD k)
  | _, _, .nil => rfl
  | _, _, .cons (k := k') r t => by
    rw [List.any_cons, List.any_cons, KReps.anyK t]
    dsimp only
    rw [kEq_kD]
theorem KReps.mapK {k : Key} {d : D} (r : Rep K H O v d) : ∀ {vs : List (Key × V)} {ds : List (D × D)}, KReps K H O vs ds → KReps K H O (vs.map fun kv => if kv.1 = k then (kv.1, v) else kv) (ds.map fun p => if kEq p.1 (kD k) = true then (p.1, d) else p)
  | _, _, .nil => .nil
  | _, _, .cons (k := k') q t => by
    rw [List.map_cons, List.map_cons]
    dsimp only
    rw [kEq_kD]
    by_cases e : k' = k
    · rw [if_pos e, if_pos (decide_eq_true e)]
      exact .cons r (KReps.mapK r t)
    · rw [if_neg e, if_neg (by rw [decide_eq_false e]; exact Bool.false_ne_true)]
      exact .cons q (KReps.mapK r t)
theorem KReps.append : ∀ {vs ws : List (Key × V)} {ds es : List (D × D)}, KReps K H O vs ds → KReps K H O ws es → KReps K H O (vs ++ ws) (ds ++ es)
  | _, _, _, _, .nil, s => s
  | _, _, _, _, .cons r t, s => .cons r (KReps.append t s)
theorem KReps.put {k : Key} {d : D} {vs : List (Key × V)} {ds : List (D × D)} (r : Rep K H O v d) (h : KReps K H O vs ds) : KReps K H O (putK vs k v) (dputD ds (kD k) d) := by
  unfold putK dputD
  rw [h.anyK (k := k)]
  split
  · exact h.mapK r
  · exact h.append (.cons r .nil)
theorem KReps.drop {k : Key} : ∀ {vs : List (Key × V)} {ds : List (D × D)}, KReps K H O vs ds → KReps K H O (dropK vs k) (ddropD ds (kD k))
  | _, _, .nil => .nil
  | _, _, .cons (k := k') (v := w) (d := d0) (vs := vs) (ds := ds) q t => by
    have ih := KReps.drop (k := k) t
    unfold dropK ddropD at ih ⊢
    rw [List.filter_cons, List.filter_cons]
    dsimp only
    rw [kEq_kD]
    by_cases e : k' = k
    · simp only [e, ne_eq, not_true, decide_false, decide_true, Bool.not_true]
      exact ih
    · simp only [e, ne_eq, not_false_iff, decide_true, decide_false, Bool.not_false, if_true]
      exact .cons q ih
/-- what a dict's data stands for -/
theorem Top.dict {ds : List (D × D)} (t : Top K H O v (.dict ds)) (h : okDict ds = true) : ∃ a vs, v = .ref a ∧ Rd H a (.dK vs) ∧ KReps K H O vs ds := by
  cases t with
  | rep r =>
    generalize hd : PyData.dict ds = d at r
    cases r with
    | dic h1 h2 h3 => cases hd; exact ⟨_, _, rfl, h1, h3⟩
    | fn h1 => unfold fnD at hd; cases hd; cases h
    | _ => cases hd
  | dic h1 h3 => exact ⟨_, _, rfl, .inl h1, h3⟩
end
/-- d[y], there, by values -/
theorem ix_dict {X : Cx} (hu : X.A.units + 64 < cLine) : IxR X (fun x y H Q => ∃ a v, x = .ref a ∧ DGet H a y (some v) ∧ Q v H) := by
  intro value slice pins s σ H x y v u Q I rx ry h hs
  obtain ⟨a, w, rfl, g, q⟩ := h
  obtain rfl : v = Value.ref a := rx
  exact tail_any (dict_typeIs I g) slot_dict_getitem.lookup (d_getItem (by omega) I g ry fun w' s' I' rw' => ⟨w, H, I', rw', q⟩) hs
section
variable {X : Cx}
/-! x in c, c a list, a tuple, a text (one sign), a dict -/
def dInB (neg : Bool) (b : Bool) : Rs R := .ok (.fr (.bool (if neg then !b else b)))
def signOf (x : Str) : Option Nat := match x.cps.toList with
  | [c] => some c
  | _ => none
theorem signOf_eq {x : Str} {c : Nat} (h : signOf x = some c) : x = ⟨#[c]⟩ := by
  unfold signOf at h
  split at h
  · rename_i c' e
    cases h
    cases x with
    | mk cps =>
      simp only at e
      congr 1
      apply Array.toList_inj.mp
      rw [e]
  · cases h
def dIn (neg : Bool) : D → D → Rs R
  | d, .list ds => if okD d && okD (.list ds) then dInB neg (ds.any fun y => PyData.eqv y d) else .bad
  | d, .tuple ds => if okD d && okD (.tuple ds) then dInB neg (ds.any fun y => PyData.eqv y d) else .bad
  | .str x, .str y => match signOf x with
    | some c => dInB neg (decide (c ∈ y.cps.toList))
    | none => .bad
  | d, .dict kvs => if isKey d && okDict kvs then dInB neg (dgetD kvs d).isSome else .bad
  | _, _ => .bad
theorem dIn_get {K : PySem.W.Frag} {H : Hp} {O : List Addr} {x y : V} {d : D} {kvs : List (D × D)} (hc : (isKey d && okDict kvs) = true) (hx : Top K H O x d) (hy : Top K H O y (.dict kvs)) : ∃ a o, y = .ref a ∧ DGet H a x o ∧ o.isSome = (dgetD kvs d).isSome := by
  rw [Bool.and_eq_true] at hc
  obtain ⟨k, rfl⟩ := isKey_kD hc.1
  obtain ⟨a, vs, rfl, h1, h2⟩ := hy.dict hc.2
  obtain ⟨g1, g2⟩ := h2.get (k := k)
  refine ⟨a, valV vs k, rfl, by rw [rep_kD hx]; exact .inl ⟨vs, k, h1, rfl, rfl⟩, ?_⟩
  cases e : dgetD kvs (kD k) with
  | none => rw [g2 e]; rfl
  | some d' =>
    obtain ⟨v, e2, _⟩ := g1 d' e
    rw [e2]
    rfl
theorem dInB_ok {K : PySem.W.Frag} {neg b : Bool} {r : R} {O : List Addr} {H : Hp} {Q : VK} (h : dInB neg b = .ok r) (q : ∀ v H', Same H H' → RR K O H H' v r → Q v H') : Q (.bl (if neg then !b else b)) H := by
  unfold dInB at h
  cases h
  exact q _ H (Same.refl H) (.bl _)
theorem okD_seq {d : D} {ds : List D} {A : Nat} (h : (okD d && okD (.list ds)) = true) (hu : A + 64 < cLine) : d.plain = true ∧ PyData.plainAll ds = true ∧ A + 1 + min (PyData.depthAll ds) d.depth < cLine := by
  unfold okD at h
  simp only [Bool.and_eq_true, decide_eq_true_eq] at h
  exact ⟨h.1.1, h.2.1, by omega⟩
theorem v_in (hu : X.A.units + 64 < cLine) : VOp X (compareOp .In) (dIn false) := by
  intro pins s σ H x y v u Q I rx ry h
  obtain ⟨O, d, e, r, hx, hy, hf, q⟩ := h
  unfold dIn at hf
  split at hf
  · rename_i ds
    split at hf
    · rename_i hc
      obtain ⟨p1, p2, hm⟩ := okD_seq hc hu
      have fin := dInB_ok hf q
      obtain ⟨as, r1⟩ := Dp.reads I _ x v (hx.dp p1) rx
      obtain ⟨bs, r2⟩ := Dp.reads I (.list ds) y u (hy.dp p2) ry
      exact SeqAt.in_list_data r2 r1 p2 p1 hm ⟨.bl _, H, I, rfl, fin⟩
    · cases hf
  · rename_i ds
    split at hf
    · rename_i hc
      obtain ⟨p1, p2, hm⟩ := okD_seq (ds := ds) hc hu
      have fin := dInB_ok hf q
      obtain ⟨as, r1⟩ := Dp.reads I _ x v (hx.dp p1) rx
      obtain ⟨bs, r2⟩ := Dp.reads I (.tuple ds) y u (hy.dp p2) ry
      exact SeqAt.in_tuple_data r2 r1 p2 p1 hm ⟨.bl _, H, I, rfl, fin⟩
    · cases hf
  · split at hf
    · rename_i c e
      have fin := dInB_ok hf q
      exact op_in_sign pins s σ H x y v u Q I rx ry ⟨c, _, by rw [hx.str, signOf_eq e], hy.str, fin⟩
    · cases hf
  · split at hf
    · rename_i hc
      have fin := dInB_ok hf q
      obtain ⟨a, o, rfl, g, e⟩ := dIn_get hc hx hy
      obtain rfl : u = Value.ref a := ry
      exact d_in (by omega) I g rx fun s' I' => ⟨.bl o.isSome, H, I', rfl, by rw [e]; exact fin⟩
    · cases hf
  · cases hf
theorem v_notin (hu : X.A.units + 64 < cLine) : VOp X (compareOp .NotIn) (dIn true) := by
  intro pins s σ H x y v u Q I rx ry h
  obtain ⟨O, d, e, r, hx, hy, hf, q⟩ := h
  unfold dIn at hf
  split at hf
  · rename_i ds
    split at hf
    · rename_i hc
      obtain ⟨p1, p2, hm⟩ := okD_seq hc hu
      have fin := dInB_ok hf q
      obtain ⟨as, r1⟩ := Dp.reads I _ x v (hx.dp p1) rx
      obtain ⟨bs, r2⟩ := Dp.reads I (.list ds) y u (hy.dp p2) ry
      exact SeqAt.notIn_list_data r2 r1 p2 p1 hm ⟨.bl _, H, I, rfl, fin⟩
    · cases hf
  · rename_i ds
    split at hf
    · rename_i hc
      obtain ⟨p1, p2, hm⟩ := okD_seq (ds := ds) hc hu
      have fin := dInB_ok hf q
      obtain ⟨as, r1⟩ := Dp.reads I _ x v (hx.dp p1) rx
      obtain ⟨bs, r2⟩ := Dp.reads I (.tuple ds) y u (hy.dp p2) ry
      exact SeqAt.notIn_tuple_data r2 r1 p2 p1 hm ⟨.bl _, H, I, rfl, fin⟩
    · cases hf
  · split at hf
    · rename_i c e
      have fin := dInB_ok hf q
      exact op_notIn_sign pins s σ H x y v u Q I rx ry ⟨c, _, by rw [hx.str, signOf_eq e], hy.str, fin⟩
    · cases hf
  · split at hf
    · rename_i hc
      have fin := dInB_ok hf q
      obtain ⟨a, o, rfl, g, e⟩ := dIn_get hc hx hy
      obtain rfl : u = Value.ref a := ry
      exact d_notIn (by omega) I g rx fun s' I' => ⟨.bl (!o.isSome), H, I', rfl, by rw [e]; exact fin⟩
    · cases hf
  · cases hf
/-! is None -/
def isNone : D → Bool
  | .none => true
  | _ => false
def dIsN (d e : D) : Rs R := match e with
  | .none => .ok (.fr (.bool (isNone d)))
  | _ => .bad
def dNotN (d e : D) : Rs R := match e with
  | .none => .ok (.fr (.bool (!isNone d)))
  | _ => .bad
theorem Top.isNone {K : PySem.W.Frag} {H : Hp} {O : List Addr} {v : V} {d : D} (t : Top K H O v d) : decide (v = .non) = VL.isNone d := by
  cases t with
  | rep r => cases r <;> first | rfl | exact decide_eq_false (fun z => nomatch z)
  | lst _ _ _ => exact decide_eq_false (fun z => nomatch z)
  | dic _ _ => exact decide_eq_false (fun z => nomatch z)
theorem v_isN : VOp X (compareOp .Is) dIsN := by
  refine vop_or op_isN fun x y H Q ⟨O, d, e, r, hx, hy, hf, q⟩ => ?_
  unfold dIsN at hf
  split at hf
  · cases hf
    refine ⟨hy.none, ?_⟩
    rw [hx.isNone]
    exact q _ H (Same.refl H) (.bl _)
  · cases hf
theorem v_notN : VOp X (compareOp .IsNot) dNotN := by
  refine vop_or op_notN fun x y H Q ⟨O, d, e, r, hx, hy, hf, q⟩ => ?_
  unfold dNotN at hf
  split at hf
  · cases hf
    refine ⟨hy.none, ?_⟩
    rw [hx.isNone]
    exact q _ H (Same.refl H) (.bl _)
  · cases hf
/-! ### subscripts -/
def atD (ds : List D) (i : Int) : Rs R := match atI ds i with
  | some d => .ok (.fr d)
  | none => .bad
def dIx : D → D → Rs R
  | .list ds, .int i => atD ds i
  | .tuple ds, .int i => atD ds i
  | .str x, .int i => if x.length ≤ sizeN then match atI x.cps.toList i with
    | some c => .ok (.fr (.str ⟨#[c]⟩))
    | none => .bad
    else .bad
  | .dict kvs, k => if isKey k && okDict kvs then match dgetD kvs k with
    | some d => .ok (.fr d)
    | none => .bad
    else .bad
  | _, _ => .bad
def VIx (X : Cx) (F : D → D → Rs R) : Prop :=
  IxR X fun x y H Q => ∃ O d e r, Top X.K H O x d ∧ Top X.K H O y e ∧ F d e = .ok r ∧ ∀ v H', Same H H' → RR X.K O H H' v r → Q v H'
theorem reps_at {K : PySem.W.Frag} {H : Hp} {O : List Addr} {vs : List V} {ds : List D} {i : Int} {d : D} (r : Reps K H O vs ds) (h : atI ds i = some d) : ∃ v, atI vs i = some v ∧ Rep K H O v d := by
  unfold atI at h ⊢
  rw [r.length]
  cases e : ixN ds.length i with
  | none => rw [e] at h; cases h
  | some j =>
    rw [e] at h
    exact r.get' (i := j) h
theorem v_ix (hu : X.A.units + 64 < cLine) : VIx X dIx := by
  intro value slice pins s σ H x y v u Q I rx ry h hs
  obtain ⟨O, d, e, r, hx, hy, hf, q⟩ := h
  unfold dIx at hf
  split at hf
  · unfold atD at hf
    split at hf
    · rename_i d' ed
      cases hf
      obtain ⟨a, xs, rfl, hq, hr, _⟩ := hx.list
      obtain ⟨w, h1, h2⟩ := reps_at hr ed
      exact ix_list value slice pins s σ H _ y v u Q I rx ry ⟨a, xs, _, w, rfl, hy.int, hq, h1, q _ H (Same.refl H) h2⟩ hs
    · cases hf
  · unfold atD at hf
    split at hf
    · rename_i d' ed
      cases hf
      obtain ⟨a, xs, rfl, hq, hr, _⟩ := hx.tuple
      obtain ⟨w, h1, h2⟩ := reps_at hr ed
      exact ix_tup value slice pins s σ H _ y v u Q I rx ry ⟨a, xs, _, w, rfl, hy.int, hq, h1, q _ H (Same.refl H) h2⟩ hs
    · cases hf
  · split at hf
    · rename_i hz
      split at hf
      · rename_i c ec
        cases hf
        rw [sizeN_eq] at hz
        exact ix_str value slice pins s σ H x y v u Q I rx ry ⟨_, _, c, hx.str, hy.int, hz, ec, q _ H (Same.refl H) (.str _)⟩ hs
      · cases hf
    · cases hf
  · split at hf
    · rename_i hc
      split at hf
      · rename_i d' ed
        cases hf
        rw [Bool.and_eq_true] at hc
        obtain ⟨k, rfl⟩ := isKey_kD hc.1
        obtain ⟨a, vs, rfl, h1, h2⟩ := hx.dict hc.2
        obtain ⟨w, h3, h4⟩ := (h2.get (k := k)).1 d' ed
        exact ix_dict hu value slice pins s σ H _ y v u Q I rx ry ⟨a, w, rfl, by rw [rep_kD hy, ← h3]; exact .inl ⟨vs, k, h1, rfl, rfl⟩, q _ H (Same.refl H) h4⟩ hs
      · cases hf
    · cases hf
  · cases hf
variable {a b c e : Expr} {es : List Expr} {f fa fb fc : FE} {g : En → Rs (List R)} {pos p p2 : Pos}
theorem e_ix (hu : X.A.units + 64 < cLine) (ha : EV X a fa) (hb : EV X b fb) (hs : PlainIx b := by exact fun _ _ => rfl) : EV X (.Subscript a b pos) (fOp dIx fa fb) :=
  ⟨pe_imp (pe_ix (v_ix hu) ha.run hb.run hs) fun σ H Q h => two ha hb h⟩
/-! slices -/
/-- an optional part -/
def fNoP : En → Rs (Option Int) := fun _ => .ok none
def fP (f : FE) : En → Rs (Option Int) := fun ρ => (f ρ).bind fun r => match r with
  | .fr (.int i) => .ok (some i)
  | _ => .bad
def tO (K : PySem.W.Frag) (f : En → Rs (Option Int)) : TO := fun σ H Q => ∃ O ρ o, ER K O H σ ρ ∧ f ρ = .ok o ∧ ∀ H', Same H H' → Q o H'
structure OV (X : Cx) (e : Option Expr) (f : En → Rs (Option Int)) : Prop where
  run : PO X e (tO X.K f)
theorem o_none : OV X none fNoP := ⟨⟨fun pins s σ H Q I ⟨O, ρ, o, J, hf, q⟩ => by
  cases hf
  exact po_none.run pins s σ H Q I (q H (Same.refl H))⟩⟩
theorem o_some (h : EV X e f) : OV X (some e) (fP f) := ⟨⟨fun pins s σ H Q I ⟨O, ρ, o, J, hf, q⟩ => by
  obtain ⟨r, e1, hf⟩ := Rs.bind_eq hf
  refine (po_some h.run).run pins s σ H Q I ⟨O, ρ, r, J, e1, fun v H1 s1 rr => ?_⟩
  split at hf
  · cases hf
    cases (show Rep X.K H1 O v (.int _) from rr)
    exact ⟨_, rfl, q H1 s1⟩
  · cases hf⟩⟩
/-- the items of xs[lo:hi] -/
def cutD {α : Type} (xs : List α) (lo hi : Option Int) : List α := (xs.drop (HT.sIx xs.length 0 lo)).take (HT.sIx xs.length xs.length hi - HT.sIx xs.length 0 lo)
def dSl (d : D) (lo hi : Option Int) : Rs R := match d with
  | .list ds => .ok (.ol (cutD ds lo hi))
  | .tuple ds => .ok (.fr (.tuple (cutD ds lo hi)))
  | _ => .bad
def fSl (f : FE) (l h : En → Rs (Option Int)) : FE := fun ρ => (f ρ).bind fun r => (l ρ).bind fun lo => (h ρ).bind fun hi => dSl r.d lo hi
theorem reps_cut {K : PySem.W.Frag} {H : Hp} {O : List Addr} {vs : List V} {ds : List D} (r : Reps K H O vs ds) (lo hi : Option Int) : Reps K H O (cutV vs lo hi) (cutD ds lo hi) := by
  unfold cutV cutD
  rw [r.length]
  exact (r.drop _).take _
theorem sIx_whole {α : Type} {xs : List α} {lo hi : Option Int} (h : HT.sIx xs.length 0 lo = 0 ∧ HT.sIx xs.length xs.length hi = xs.length) : cutD xs lo hi = xs := by
  unfold cutD
  rw [h.1, h.2]
  simp
theorem e_slice {lo hi : Option Expr} {l h : En → Rs (Option Int)} (he : EV X e f) (hl : OV X lo l) (hh : OV X hi h) : EV X (.Subscript e (.Slice lo hi none p2) pos) (fSl f l h) := by
  refine ⟨pe_imp (pe_slice (sl_list.or sl_tupA) he.run hl.run hh.run) fun σ H Q ⟨O, ρ, r, I, hf, q⟩ => ?_⟩
  obtain ⟨x, e1, hf⟩ := Rs.bind_eq hf
  obtain ⟨lo, e2, hf⟩ := Rs.bind_eq hf
  obtain ⟨hi, e3, hf⟩ := Rs.bind_eq hf
  refine ⟨O, ρ, x, I, e1, fun v H1 s1 rr => ⟨O, ρ, lo, I.same s1, e2, fun H2 s2 => ⟨O, ρ, hi, I.same (s1.trans s2), e3, fun H3 s3 => ?_⟩⟩⟩
  have s13 := (s1.trans s2).trans s3
  have t := (rr.right (s2.trans s3)).top
  have tr := Same.tr s13 I.tr
  unfold dSl at hf
  split at hf
  · rename_i ds ed
    cases hf
    rw [ed] at t
    obtain ⟨a, xs, rfl, hq, hr, hz⟩ := t.list
    exact .inl ⟨a, xs, rfl, hq, fun p hp => q _ _ (s13.trans (same_upd hp)) (((rr_newL hp (Nat.le_trans (cutV_length xs lo hi) hz) (reps_cut hr lo hi))).left s13)⟩
  · rename_i ds ed
    cases hf
    rw [ed] at t
    obtain ⟨a, xs, rfl, hq, hr, hz⟩ := t.tuple
    have back : Rep X.K H3 O (.ref a) (.tuple ds) := by
      cases t with
      | rep r => exact r
    refine .inr ⟨a, xs, rfl, hq, fun w => ?_, fun _ p hp => q _ _ (s13.trans (same_upd hp)) ((rr_newT tr hp (Nat.le_trans (cutV_length xs lo hi) hz) (reps_cut hr lo hi)).left s13)⟩
    rw [hr.length] at w
    rw [sIx_whole w] at q
    exact q _ H3 s13 (RR.left (r := .fr (.tuple ds)) s13 (H1 := H3) back)
  · cases hf
/-! ### displays -/
def fzL (rs : List R) (k : List D → R) : Rs R := match fzAll rs with
  | some ds => .ok (k ds)
  | none => .bad
def fLst (g : En → Rs (List R)) : FE := fun ρ => (g ρ).bind fun rs => fzL rs .ol
def fTup (g : En → Rs (List R)) : FE := fun ρ => (g ρ).bind fun rs => fzL rs fun ds => .fr (.tuple ds)
theorem e_lst (h : AV X es g) (hz : es.length ≤ 16777216 := by decide) : EV X (.List es pos) (fLst g) := by
  refine ⟨pe_imp (pe_lst h.run) fun σ H Q ⟨O, ρ, r, I, hf, q⟩ => ?_⟩
  obtain ⟨rs, e1, hf⟩ := Rs.bind_eq hf
  refine ⟨O, ρ, rs, I, e1, fun vs H1 s1 hv => ?_⟩
  unfold fzL at hf
  split at hf
  · rename_i ds ed
    cases hf
    have hr := fzAll_reps I.tr hv ed
    have hl : vs.length ≤ sizeLine := by rw [hv.length, h.len ρ rs e1, sizeLine_eq]; exact hz
    exact ⟨hl, fun p hp => q _ _ (s1.trans (same_upd hp)) ((rr_newL hp hl hr).left s1)⟩
  · cases hf
theorem e_tup {k : Nat} (h : AV X es g) (hz : es.length ≤ 16777216 := by decide) : EV X (.Tuple es k pos) (fTup g) := by
  refine ⟨pe_imp (pe_tup h.run) fun σ H Q ⟨O, ρ, r, I, hf, q⟩ => ?_⟩
  obtain ⟨rs, e1, hf⟩ := Rs.bind_eq hf
  refine ⟨O, ρ, rs, I, e1, fun vs H1 s1 hv => ?_⟩
  unfold fzL at hf
  split at hf
  · rename_i ds ed
    cases hf
    have hr := fzAll_reps I.tr hv ed
    have hl : vs.length ≤ sizeLine := by rw [hv.length, h.len ρ rs e1, sizeLine_eq]; exact hz
    exact ⟨hl, fun p hp => q _ _ (s1.trans (same_upd hp)) ((rr_newT (Same.tr s1 I.tr) hp hl hr).left s1)⟩
  · cases hf
/-- [..] * n -/
def oRep : R → R → Rs R
  | .ol xs, .fr (.int k) => if decide (0 ≤ k) && decide (k ≤ 1000000) && decide (xs.length * k.toNat ≤ sizeN) then .ok (.ol (List.replicate k.toNat xs).flatten) else .bad
  | _, _ => .bad
def fRep (fa fb : FE) : FE := fun ρ => (fa ρ).bind fun x => (fb ρ).bind fun y => oRep x y
theorem len_rep {α : Type} (xs : List α) : ∀ k : Nat, (List.replicate k xs).flatten.length = k * xs.length
  | 0 => by simp
  | k + 1 => by
    rw [List.replicate_succ, List.flatten_cons, List.length_append, len_rep xs k, Nat.succ_mul]
    omega
theorem e_rep (ha : EV X a fa) (hb : EV X b fb) : EV X (.BinOp a .Mult b pos) (fRep fa fb) := by
  refine ⟨pe_imp (pe_op op_rep ha.run hb.run) fun σ H Q ⟨O, ρ, r, I, hf, q⟩ => ?_⟩
  obtain ⟨x, e1, hf⟩ := Rs.bind_eq hf
  obtain ⟨y, e2, hf⟩ := Rs.bind_eq hf
  refine ⟨O, ρ, x, I, e1, fun v H1 s1 r1 => ⟨O, ρ, y, I.same s1, e2, fun u H2 s2 r2 => ?_⟩⟩
  unfold oRep at hf
  split at hf
  · rename_i _ xs k _
    split at hf
    · rename_i hc
      simp only [Bool.and_eq_true, decide_eq_true_eq] at hc
      cases hf
      obtain ⟨l, vs, rfl, h0, h1, hz, hr⟩ := r1
      cases (show Rep X.K H2 O u (.int k) from r2)
      have hn := hc.2
      rw [sizeN_eq] at hn
      have hr2 : Reps X.K H2 O vs xs := (hr.same s2).less fun a z => List.mem_cons_of_mem _ z
      have hl := hr2.length
      refine ⟨l, k, vs, rfl, rfl, s2 _ _ h1, by omega, by omega, by rw [hl]; exact hn, fun p hp => ?_⟩
      have s12 := s1.trans s2
      exact q _ _ (s12.trans (same_upd hp)) ((rr_newL hp (by rw [len_rep, hl, Nat.mul_comm]; exact hn) (hr2.rep k.toNat)).left s12)
    · cases hf
  · cases hf
/-! ### calls of built-ins -/
/-- the call of f is F -/
def VCall (X : Cx) (f : Value) (F : List D → Rs R) : Prop :=
  CallR X f fun xs H Q => ∃ (O : List Addr) (rs : List R) (r : R), All2 (Top X.K H O) xs (rs.map R.d) ∧ (∀ a ∈ O, H a ≠ none) ∧ F (rs.map R.d) = .ok r ∧ ∀ v H', Same H H' → RR X.K O H H' v r → Q v H'
def fBlt (F : List D → Rs R) (g : En → Rs (List R)) : FE := fun ρ => (g ρ).bind fun rs => F (rs.map R.d)
theorem all_top {K : PySem.W.Frag} {H H1 : Hp} {O : List Addr} : ∀ {vs : List V} {rs : List R}, All2 (RR K O H H1) vs rs → All2 (Top K H1 O) vs (rs.map R.d)
  | _, _, .nil => .nil
  | _, _, .cons r t => .cons r.top (all_top t)
theorem e_blt {F : List D → Rs R} {id : String} {x : Str} (hc : VCall X (.builtin id) F) (hm : X.mg x = none) (hv : bootBuiltins x = some (.builtin id)) (ha : AV X (e :: es) g) (hg : Gl X x := by rfl) (hn : x ≠ "__name__" := by decide) (hdb : (x == ("__debug__" : Str)) = false := by decide)
    (he : starEach (e :: es) X.env = (false, eval e X.env) :: starEach es X.env := by rfl) (hpl : (backTo pos (starEach es X.env)).any (·.1) = false := by rfl) : EV X (.Call (.Name x p) (e :: es) [] pos) (fBlt F g) := by
  refine ⟨pe_imp (pe_callB hc hg hm hv ha.run hn hdb he hpl) fun σ H Q ⟨O, ρ, r, I, hf, q⟩ => ?_⟩
  obtain ⟨rs, e1, hf⟩ := Rs.bind_eq hf
  exact ⟨O, ρ, rs, I, e1, fun vs H1 s1 hv => ⟨O, rs, r, all_top hv, Same.tr s1 I.tr, hf, fun v H' s2 rr => q v H' (s1.trans s2) (rr.left s1)⟩⟩
theorem e_ty {F : List D → Rs R} {T : String} {x : Str} (hc : VCall X (.type T) F) (hm : X.mg x = none) (hv : bootBuiltins x = some (.type T)) (ha : AV X (e :: es) g) (hg : Gl X x := by rfl) (hn : x ≠ "__name__" := by decide) (hdb : (x == ("__debug__" : Str)) = false := by decide)
    (he : starEach (e :: es) X.env = (false, eval e X.env) :: starEach es X.env := by rfl) (hpl : (backTo pos (starEach es X.env)).any (·.1) = false := by rfl) : EV X (.Call (.Name x p) (e :: es) [] pos) (fBlt F g) := by
  refine ⟨pe_imp (pe_callTy hc hg hm hv ha.run hn hdb he hpl) fun σ H Q ⟨O, ρ, r, I, hf, q⟩ => ?_⟩
  obtain ⟨rs, e1, hf⟩ := Rs.bind_eq hf
  exact ⟨O, ρ, rs, I, e1, fun vs H1 s1 hv => ⟨O, rs, r, all_top hv, Same.tr s1 I.tr, hf, fun v H' s2 rr => q v H' (s1.trans s2) (rr.left s1)⟩⟩
theorem vcall_or {f : Value} {r : List V → Hp → VK → Prop} {F : List D → Rs R} (h : CallR X f r) (i : ∀ xs H Q, (∃ O ds r, All2 (Top X.K H O) xs ds ∧ (∀ a ∈ O, H a ≠ none) ∧ F ds = .ok r ∧ ∀ v H', Same H H' → RR X.K O H H' v r → Q v H') → r xs H Q) : VCall X f F :=
  fun pins s σ H xs us Q I rx ⟨O, rs, r', h1, h2, h3, h4⟩ => h pins s σ H xs us Q I rx (i xs H Q ⟨O, _, r', h1, h2, h3, h4⟩)
/-- len -/
def dLen : List D → Rs R
  | [.list ds] => .ok (.fr (.int ds.length))
  | [.tuple ds] => .ok (.fr (.int ds.length))
  | [.str x] => if x.length ≤ sizeN then .ok (.fr (.int x.length)) else .bad
  | _ => .bad
theorem c_len : VCall X (.builtin "len") dLen := by
  refine vcall_or call_len fun xs H Q ⟨O, ds, r, hx, ht, hf, q⟩ => ?_
  unfold dLen at hf
  split at hf
  · obtain ⟨v, rfl, hv⟩ := all2_1 hx
    cases hf
    obtain ⟨a, vs, rfl, hq, hr, _⟩ := hv.list
    exact ⟨_, _, rfl, .inl ⟨vs, hq, rfl⟩, q _ H (Same.refl H) (by rw [hr.length]; exact .int _)⟩
  · obtain ⟨v, rfl, hv⟩ := all2_1 hx
    cases hf
    obtain ⟨a, vs, rfl, hq, hr, _⟩ := hv.tuple
    exact ⟨_, _, rfl, .inr ⟨vs, hq, rfl⟩, q _ H (Same.refl H) (by rw [hr.length]; exact .int _)⟩
  · obtain ⟨v, rfl, hv⟩ := all2_1 hx
    split at hf
    · rename_i hz
      cases hf
      cases hv.str
      rw [sizeN_eq] at hz
      exact ⟨_, _, rfl, ⟨hz, rfl⟩, q _ H (Same.refl H) (.int _)⟩
    · cases hf
  · cases hf
/-- min, max of two ints -/
def dMin2 : List D → Rs R
  | [.int i, .int j] => .ok (.fr (.int (if j < i then j else i)))
  | _ => .bad
def dMax2 : List D → Rs R
  | [.int i, .int j] => .ok (.fr (.int (if j > i then j else i)))
  | _ => .bad
theorem c_min2 (hc : X.calm = true) : VCall X (.builtin "min") dMin2 := by
  refine vcall_or (call_min2 hc) fun xs H Q ⟨O, ds, r, hx, ht, hf, q⟩ => ?_
  unfold dMin2 at hf
  split at hf
  · obtain ⟨v, w, rfl, hv, hw⟩ := all2_2 hx
    cases hf
    exact ⟨_, _, by rw [hv.int, hw.int], q _ H (Same.refl H) (.int _)⟩
  · cases hf
theorem c_max2 (hc : X.calm = true) : VCall X (.builtin "max") dMax2 := by
  refine vcall_or (call_max2 hc) fun xs H Q ⟨O, ds, r, hx, ht, hf, q⟩ => ?_
  unfold dMax2 at hf
  split at hf
  · obtain ⟨v, w, rfl, hv, hw⟩ := all2_2 hx
    cases hf
    exact ⟨_, _, by rw [hv.int, hw.int], q _ H (Same.refl H) (.int _)⟩
  · cases hf
/-- list(x), tuple(x) of a list or a tuple -/
def dListOf : List D → Rs R
  | [.list ds] => .ok (.ol ds)
  | [.tuple ds] => .ok (.ol ds)
  | _ => .bad
theorem c_list : VCall X (.type "list") dListOf := by
  refine vcall_or call_list_of fun xs H Q ⟨O, ds, r, hx, ht, hf, q⟩ => ?_
  unfold dListOf at hf
  split at hf
  · obtain ⟨v, rfl, hv⟩ := all2_1 hx
    cases hf
    obtain ⟨a, vs, rfl, hq, hr, hz⟩ := hv.list
    exact ⟨a, vs, rfl, .inl hq, fun l hl => q _ _ (same_upd hl) (rr_newL hl hz hr)⟩
  · obtain ⟨v, rfl, hv⟩ := all2_1 hx
    cases hf
    obtain ⟨a, vs, rfl, hq, hr, hz⟩ := hv.tuple
    exact ⟨a, vs, rfl, .inr hq, fun l hl => q _ _ (same_upd hl) (rr_newL hl hz hr)⟩
  · cases hf
def dTupOf : List D → Rs R
  | [.list ds] => .ok (.fr (.tuple ds))
  | [.tuple ds] => .ok (.fr (.tuple ds))
  | _ => .bad
theorem c_tuple : VCall X (.type "tuple") dTupOf := by
  refine vcall_or call_tuple_of fun xs H Q ⟨O, ds, r, hx, ht, hf, q⟩ => ?_
  unfold dTupOf at hf
  split at hf
  · obtain ⟨v, rfl, hv⟩ := all2_1 hx
    cases hf
    obtain ⟨a, vs, rfl, hq, hr, hz⟩ := hv.list
    exact ⟨a, vs, rfl, .inl ⟨hq, fun l hl => q _ _ (same_upd hl) (rr_newT ht hl hz hr)⟩⟩
  · obtain ⟨v, rfl, hv⟩ := all2_1 hx
    cases hf
    obtain ⟨a, vs, rfl, hq, hr, hz⟩ := id hv.tuple
    refine ⟨a, vs, rfl, .inr ⟨hq, q _ H (Same.refl H) ?_⟩⟩
    cases hv with
    | rep r => exact r
  · cases hf
/-- int(n), int(True) -/
def dInt1 : List D → Rs R
  | [.int i] => .ok (.fr (.int i))
  | [.bool b] => .ok (.fr (.int (if b then 1 else 0)))
  | _ => .bad
theorem c_int : VCall X (.type "int") dInt1 := by
  refine vcall_or call_int1 fun xs H Q ⟨O, ds, r, hx, ht, hf, q⟩ => ?_
  unfold dInt1 at hf
  split at hf
  · obtain ⟨v, rfl, hv⟩ := all2_1 hx
    cases hf
    exact .inl ⟨_, by rw [hv.int], q _ H (Same.refl H) (.int _)⟩
  · obtain ⟨v, rfl, hv⟩ := all2_1 hx
    cases hf
    exact .inr ⟨_, by rw [hv.bool], q _ H (Same.refl H) (.int _)⟩
  · cases hf
/-- sorted -/
def dleD : D → D → Bool := PySem.W.dataLe false (fun d : D => d)
def sortableB (ds : List D) : Bool := (ds.all fun d => match d with | .tuple (_ :: _) => true | _ => false) || ds.all fun d => match d with | .none => false | .tuple _ => false | _ => true
def alikeB (ds : List D) : Bool := ds.all fun d => ds.all fun e => PySem.W.alike d e
def dSorted : List D → Rs R
  | [.list ds] => if okD (.list ds) && alikeB ds && sortableB ds then .ok (.ol (ds.mergeSort dleD)) else .bad
  | _ => .bad
theorem depth_mem : ∀ {ds : List D} {d : D}, d ∈ ds → d.depth ≤ PyData.depthAll ds
  | x :: ds, d, h => by
    simp only [PyData.depthAll]
    rcases List.mem_cons.mp h with e | h
    · rw [e]; omega
    · have := depth_mem h; omega
theorem each_of {K : PySem.W.Frag} {H : Hp} {O : List Addr} : ∀ {vs : List V} {us : List Value} {ds : List D}, Vals vs us → Reps K H O vs ds → PySem.W.EachIs (fun u d => ∃ v, RelV v u ∧ Rep K H O v d) us ds
  | _, _, _, .nil, .nil => .nil
  | _, _, _, .cons r t, .cons r' t' => .cons ⟨_, r, r'⟩ (each_of t t')
theorem of_each {K : PySem.W.Frag} {H : Hp} {O : List Addr} : ∀ {us : List Value} {ds : List D}, PySem.W.EachIs (fun u d => ∃ v, RelV v u ∧ Rep K H O v d) us ds → ∃ vs, Vals vs us ∧ Reps K H O vs ds
  | _, _, .nil => ⟨[], .nil, .nil⟩
  | _, _, .cons ⟨v, r, r'⟩ t => by
    obtain ⟨vs, h1, h2⟩ := of_each t
    exact ⟨v :: vs, .cons r h1, .cons r' h2⟩
theorem sortable_of {ds : List D} (h : sortableB ds = true) : PySem.W.Sortable ds := by
  unfold sortableB at h
  rw [Bool.or_eq_true, List.all_eq_true, List.all_eq_true] at h
  rcases h with h | h
  · refine .inl fun d hd => ?_
    have := h d hd
    split at this
    · exact ⟨_, _, rfl⟩
    · cases this
  · refine .inr fun d hd => ?_
    have := h d hd
    split at this
    · cases this
    · cases this
    · rename_i n1 n2
      exact ⟨n1, n2⟩
theorem reads_all {X : Cx} {pins : List (Addr × Obj)} {σ : L2.St} {H : Hp} {s : Shared} {O : List Addr} (I : Inv X pins σ H s) : ∀ {ds : List D} {vs : List V} {us : List Value}, PyData.plainAll ds = true → Vals vs us → Reps X.K H O vs ds → PySem.W.EachIs (fun u d => ∃ as, Reads s.heap u d as) us ds
  | [], _, _, _, r, h => by cases h; cases r; exact .nil
  | d :: ds, _, _, p, r, h => by
    have p' : (d.plain && PyData.plainAll ds) = true := p
    rw [Bool.and_eq_true] at p'
    cases h with
    | cons r' t' =>
      cases r with
      | cons r1 r2 => exact .cons (Dp.reads I d _ _ (r'.dp p'.1) r1) (reads_all I p'.2 r2 t')
theorem c_sorted (hu : X.A.units + 64 < cLine) : VCall X (.builtin "sorted") dSorted := by
  intro pins s σ H xs us Q I rx ⟨O, rs, r, hx, ht, hf, q⟩
  generalize rs.map R.d = ds' at hx hf
  unfold dSorted at hf
  split at hf
  · rename_i ds
    split at hf
    · rename_i hc
      unfold okD at hc
      simp only [Bool.and_eq_true, decide_eq_true_eq] at hc
      obtain ⟨⟨⟨p1, p2⟩, p3⟩, p4⟩ := hc
      have p1' : PyData.plainAll ds = true := p1
      have p2' : PyData.depthAll ds + 1 ≤ 50 := p2
      cases hf
      obtain ⟨v, rfl, hv⟩ := all2_1 hx
      obtain ⟨a, vs, rfl, hq, hr, hz⟩ := hv.list
      obtain ⟨u, rfl, ru⟩ := vals1 rx
      cases ru
      obtain ⟨its, rv, pl, _⟩ := I.list hq
      have hal : PySem.W.AllAlike (ds.map fun d : D => d) := by
        rw [List.map_id']
        intro d hd d' hd'
        exact List.all_eq_true.mp (List.all_eq_true.mp p3 d hd) d' hd'
      have hk : PySem.W.Sortable (ds.map fun d : D => d) := by
        rw [List.map_id']
        exact sortable_of p4
      refine PySem.W.sorted_data (enc := fun d : D => d) pl.isList (each_of rv hr) (reads_all I p1' rv hr) hal hk (by rw [← hr.length]; exact hz) (fun d hd => by have := depth_mem hd; show X.A.units + 2 + d.depth < _; omega) fun out hlo hout => ?_
      obtain ⟨ws, h1, h2⟩ := of_each hout
      have hlw : ws.length ≤ sizeLine := by rw [h1.length, hlo, ← hr.length]; exact hz
      have hnew : H (s.heap.objs.size + 1) = none := I.hok.fresh (Nat.le_succ _)
      refine ⟨.ref (s.heap.objs.size + 1), upd H (s.heap.objs.size + 1) (.lst ws), ?_, rfl, q _ _ (same_upd hnew) (rr_newL hnew hlw h2)⟩
      obtain ⟨c, hc⟩ := sortedAll_at s.heap its out.toArray
      refine I.laid (t' := s.toks) (fun b o e => sortedAll_old e) (Nat.le_succ _) ?_
      exact ⟨hlw, out, c, h1, hc⟩
    · cases hf
  · cases hf
end
end VL
namespace VL
open PySem PySem.Spec
open PyProof.Rows L2
section
variable {X : Cx} {a b c e : Expr} {es rest : List Expr} {f fa fb fc : FE} {g : En → Rs (List R)} {t t1 t2 : En → Rs Bool} {pos p p2 : Pos}
/-! ### and, or, not, if else, chains -/
def fAnd (fa fb : FE) : FE := fun ρ => (fa ρ).bind fun r => match r with
  | .fr (.bool true) => fb ρ
  | .fr (.bool false) => .ok (.fr (.bool false))
  | _ => .bad
def fOr (fa fb : FE) : FE := fun ρ => (fa ρ).bind fun r => match r with
  | .fr (.bool true) => .ok (.fr (.bool true))
  | .fr (.bool false) => fb ρ
  | _ => .bad
def fNot (fa : FE) : FE := fun ρ => (fa ρ).bind fun r => match r with
  | .fr (.bool b) => .ok (.fr (.bool (!b)))
  | _ => .bad
theorem e_one {op : BoolOp} (h : EV X a fa) : EV X (.BoolOp op [a] pos) fa := ⟨pe_one h.run⟩
theorem e_and (ha : EV X a fa) (hb : EV X (.BoolOp .And (b :: rest) pos) fb) : EV X (.BoolOp .And (a :: b :: rest) pos) (fAnd fa fb) := by
  refine ⟨pe_imp (pe_and ha.run hb.run) fun σ H Q ⟨O, ρ, r, I, hf, q⟩ => ?_⟩
  obtain ⟨x, e1, hf⟩ := Rs.bind_eq hf
  refine ⟨O, ρ, x, I, e1, fun v H1 s1 rr => ?_⟩
  split at hf
  · cases (show Rep X.K H1 O v (.bool true) from rr)
    exact ⟨true, rfl, O, ρ, r, I.same s1, hf, fun v H2 s2 rr => q v H2 (s1.trans s2) (rr.left s1)⟩
  · cases (show Rep X.K H1 O v (.bool false) from rr)
    cases hf
    exact ⟨false, rfl, q _ H1 s1 (.bl _)⟩
  · cases hf
theorem e_or (ha : EV X a fa) (hb : EV X (.BoolOp .Or (b :: rest) pos) fb) : EV X (.BoolOp .Or (a :: b :: rest) pos) (fOr fa fb) := by
  refine ⟨pe_imp (pe_or ha.run hb.run) fun σ H Q ⟨O, ρ, r, I, hf, q⟩ => ?_⟩
  obtain ⟨x, e1, hf⟩ := Rs.bind_eq hf
  refine ⟨O, ρ, x, I, e1, fun v H1 s1 rr => ?_⟩
  split at hf
  · cases (show Rep X.K H1 O v (.bool true) from rr)
    cases hf
    exact ⟨true, rfl, q _ H1 s1 (.bl _)⟩
  · cases (show Rep X.K H1 O v (.bool false) from rr)
    exact ⟨false, rfl, O, ρ, r, I.same s1, hf, fun v H2 s2 rr => q v H2 (s1.trans s2) (rr.left s1)⟩
  · cases hf
theorem e_not (ha : EV X a fa) : EV X (.UnaryOp .Not a pos) (fNot fa) := by
  refine ⟨pe_imp (pe_not ha.run) fun σ H Q ⟨O, ρ, r, I, hf, q⟩ => ?_⟩
  obtain ⟨x, e1, hf⟩ := Rs.bind_eq hf
  refine ⟨O, ρ, x, I, e1, fun v H1 s1 rr => ?_⟩
  split at hf
  · cases (show Rep X.K H1 O v (.bool _) from rr)
    cases hf
    exact ⟨_, rfl, q _ H1 s1 (.bl _)⟩
  · cases hf
def dNeg : D → Rs R
  | .int i => .ok (.fr (.int (-i)))
  | _ => .bad
def fNeg (fa : FE) : FE := fun ρ => (fa ρ).bind fun r => dNeg r.d
theorem e_neg (ha : EV X a fa) : EV X (.UnaryOp .USub a pos) (fNeg fa) := by
  refine ⟨pe_imp (pe_un un_neg ha.run) fun σ H Q ⟨O, ρ, r, I, hf, q⟩ => ?_⟩
  obtain ⟨x, e1, hf⟩ := Rs.bind_eq hf
  refine ⟨O, ρ, x, I, e1, fun v H1 s1 rr => ?_⟩
  have t := rr.top
  unfold dNeg at hf
  split at hf
  · rename_i i ed
    rw [ed] at t
    cases hf
    exact ⟨i, t.int, q _ H1 s1 (.int _)⟩
  · cases hf
def fIf (t : En → Rs Bool) (fa fb : FE) : FE := fun ρ => (t ρ).bind fun k => if k then fa ρ else fb ρ
theorem e_if (hc : TV X c t) (ha : EV X a fa) (hb : EV X b fb) : EV X (.IfExp c a b pos) (fIf t fa fb) := by
  refine ⟨pe_imp (pe_ifExp hc.run ha.run hb.run) fun σ H Q ⟨O, ρ, r, I, hf, q⟩ => ?_⟩
  obtain ⟨k, e1, hf⟩ := Rs.bind_eq hf
  refine ⟨O, ρ, k, I, e1, fun H1 s1 => ?_⟩
  cases k with
  | true => exact ⟨O, ρ, r, I.same s1, hf, fun v H2 s2 rr => q v H2 (s1.trans s2) (rr.left s1)⟩
  | false => exact ⟨O, ρ, r, I.same s1, hf, fun v H2 s2 rr => q v H2 (s1.trans s2) (rr.left s1)⟩
/-! tests -/
structure WV (X : Cx) (e : Expr) (f : En → Rs Bool) : Prop where
  run : PW X e (tT X.K f)
theorem pw_imp {X : Cx} {e : Expr} {t u : TT} (h : PW X e t) (i : ∀ σ H Q, u σ H Q → t σ H Q) : PW X e u := ⟨fun wh pins s σ H Q I q => h.run wh pins s σ H Q I (i σ H Q q)⟩
theorem t_w (h : WV X e t) : TV X e t := ⟨h.run.pt⟩
def tAndB (t1 t2 : En → Rs Bool) : En → Rs Bool := fun ρ => (t1 ρ).bind fun k => if k then t2 ρ else .ok false
def tOrB (t1 t2 : En → Rs Bool) : En → Rs Bool := fun ρ => (t1 ρ).bind fun k => if k then .ok true else t2 ρ
def tNotB (t1 : En → Rs Bool) : En → Rs Bool := fun ρ => (t1 ρ).bind fun k => .ok (!k)
theorem w_and1 (h : TV X a t) : WV X (.BoolOp .And [a] pos) t := ⟨pw_and1 h.run⟩
theorem w_or1 (h : TV X a t) : WV X (.BoolOp .Or [a] pos) t := ⟨pw_or1 h.run⟩
theorem w_and (h1 : TV X a t1) (h2 : WV X (.BoolOp .And (b :: rest) pos) t2) : WV X (.BoolOp .And (a :: b :: rest) pos) (tAndB t1 t2) := by
  refine ⟨pw_imp (pw_and h1.run h2.run) fun σ H Q ⟨O, ρ, k, I, hf, q⟩ => ?_⟩
  obtain ⟨k1, e1, hf⟩ := Rs.bind_eq hf
  refine ⟨O, ρ, k1, I, e1, fun H1 s1 => ?_⟩
  cases k1 with
  | true => exact ⟨O, ρ, k, I.same s1, hf, fun H2 s2 => q H2 (s1.trans s2)⟩
  | false => cases hf; exact q H1 s1
theorem w_or (h1 : TV X a t1) (h2 : WV X (.BoolOp .Or (b :: rest) pos) t2) : WV X (.BoolOp .Or (a :: b :: rest) pos) (tOrB t1 t2) := by
  refine ⟨pw_imp (pw_or h1.run h2.run) fun σ H Q ⟨O, ρ, k, I, hf, q⟩ => ?_⟩
  obtain ⟨k1, e1, hf⟩ := Rs.bind_eq hf
  refine ⟨O, ρ, k1, I, e1, fun H1 s1 => ?_⟩
  cases k1 with
  | true => cases hf; exact q H1 s1
  | false => exact ⟨O, ρ, k, I.same s1, hf, fun H2 s2 => q H2 (s1.trans s2)⟩
theorem t_not (h : TV X a t) : TV X (.UnaryOp .Not a pos) (tNotB t) := by
  refine ⟨pt_imp (pt_not h.run) fun σ H Q ⟨O, ρ, k, I, hf, q⟩ => ?_⟩
  obtain ⟨k1, e1, hf⟩ := Rs.bind_eq hf
  cases hf
  exact ⟨O, ρ, k1, I, e1, fun H1 s1 => q H1 s1⟩
/-- truth -/
def truth : D → Rs Bool
  | .none => .ok false
  | .bool b => .ok b
  | .int i => .ok (i != 0)
  | .str x => if x.length ≤ sizeN then .ok ((x.length : Int) != 0) else .bad
  | .list ds => .ok (!ds.isEmpty)
  | .tuple ds => .ok (!ds.isEmpty)
  | _ => .bad
def fTr (f : FE) : En → Rs Bool := fun ρ => (f ρ).bind fun r => truth r.d
theorem reps_empty {K : PySem.W.Frag} {H : Hp} {O : List Addr} {vs : List V} {ds : List D} (r : Reps K H O vs ds) : vs.isEmpty = ds.isEmpty := by cases r <;> rfl
theorem t_truth (h : EV X a fa) (he : ∀ whole, isTrue a X.env whole = (do let v ← whole; standAt a.pos; holding [v] (truthy v)) := by exact fun _ => rfl) : TV X a (fTr fa) := by
  refine ⟨pt_imp (pt_truth h.run he) fun σ H Q ⟨O, ρ, k, I, hf, q⟩ => ?_⟩
  obtain ⟨x, e1, hf⟩ := Rs.bind_eq hf
  refine ⟨O, ρ, x, I, e1, fun v H1 s1 rr => ?_⟩
  have t := rr.top
  generalize x.d = d at t hf
  unfold truth at hf
  split at hf
  · cases hf; rw [t.none]; exact ⟨false, rfl, q H1 s1⟩
  · cases hf; rw [t.bool]; exact ⟨_, rfl, q H1 s1⟩
  · cases hf; rw [t.int]; exact ⟨_, rfl, q H1 s1⟩
  · split at hf
    · rename_i hz
      cases hf
      rw [t.str]
      rw [sizeN_eq] at hz
      exact ⟨_, ⟨hz, rfl⟩, q H1 s1⟩
    · cases hf
  · cases hf
    obtain ⟨p, vs, rfl, hq, hr, _⟩ := t.list
    exact ⟨_, .inl ⟨vs, hq, by rw [reps_empty hr]⟩, q H1 s1⟩
  · cases hf
    obtain ⟨p, vs, rfl, hq, hr, _⟩ := t.tuple
    exact ⟨_, .inr (.inl ⟨vs, hq, by rw [reps_empty hr]⟩), q H1 s1⟩
  · cases hf
/-- a op b op' c -/
def fChain (F G : D → D → Rs R) (fa fb fc : FE) : FE := fun ρ => (fa ρ).bind fun x => (fb ρ).bind fun y => (F x.d y.d).bind fun z => match z with
  | .fr (.bool true) => (fc ρ).bind fun w => G y.d w.d
  | .fr (.bool false) => .ok (.fr (.bool false))
  | _ => .bad
theorem chain_read {F G : D → D → Rs R} {ha : EV X a fa} {hb : EV X b fb} {hc : EV X c fc} {σ : L2.St} {H : Hp} {Q : VK} (h : tE X.K (fChain F G fa fb fc) σ H Q) :
    tChain (fun x y H Q => ∃ O d e r, Top X.K H O x d ∧ Top X.K H O y e ∧ F d e = .ok r ∧ ∀ v H', Same H H' → RR X.K O H H' v r → Q v H') (fun x y H Q => ∃ O d e r, Top X.K H O x d ∧ Top X.K H O y e ∧ G d e = .ok r ∧ ∀ v H', Same H H' → RR X.K O H H' v r → Q v H')
      (tE X.K fa) (tE X.K fb) (tE X.K fc) σ H Q := by
  obtain ⟨O, ρ, r, I, hf, q⟩ := h
  obtain ⟨x, e1, hf⟩ := Rs.bind_eq hf
  obtain ⟨y, e2, hf⟩ := Rs.bind_eq hf
  obtain ⟨z, e3, hf⟩ := Rs.bind_eq hf
  refine ⟨O, ρ, x, I, e1, fun v H1 s1 r1 => ⟨O, ρ, y, I.same s1, e2, fun u H2 s2 r2 => ⟨O, _, _, z, (r1.right s2).top, r2.top, e3, fun k H3 s3 r3 => ?_⟩⟩⟩
  have s13 := (s1.trans s2).trans s3
  split at hf
  · cases (show Rep X.K H3 O k (.bool true) from r3)
    obtain ⟨w, e4, hf⟩ := Rs.bind_eq hf
    refine ⟨true, rfl, ?_⟩
    rw [if_pos rfl]
    exact ⟨O, ρ, w, I.same s13, e4, fun u' H4 s4 r4 => ⟨O, _, _, r, (r2.right (s3.trans s4)).top, r4.top, hf, fun v' H' s5 r5 => q v' H' ((s13.trans s4).trans s5) (r5.left (s13.trans s4))⟩⟩
  · cases (show Rep X.K H3 O k (.bool false) from r3)
    cases hf
    refine ⟨false, rfl, ?_⟩
    rw [if_neg Bool.false_ne_true]
    exact q _ H3 s13 (.bl _)
  · cases hf
theorem e_chain {op op' : CmpOp} {F G : D → D → Rs R} (ho : VOp X (compareOp op) F) (ho' : VOp X (compareOp op') G) (ha : EV X a fa) (hb : EV X b fb) (hc : EV X c fc) (hm : lastMarks [op, op'] [b, c] = false := by with_unfolding_all rfl) :
    EV X (.Compare a [op, op'] [b, c] pos) (fChain F G fa fb fc) := ⟨pe_imp (pe_chain ho ho' ha.run hb.run hc.run hm) fun σ H Q h => chain_read (ha := ha) (hb := hb) (hc := hc) h⟩
theorem t_chain {op op' : CmpOp} {F G : D → D → Rs R} (ho : VOp X (compareOp op) F) (ho' : VOp X (compareOp op') G) (ha : EV X a fa) (hb : EV X b fb) (hc : EV X c fc) (hm : lastMarks [op, op'] [b, c] = false := by with_unfolding_all rfl) :
    TV X (.Compare a [op, op'] [b, c] pos) (fB (fChain F G fa fb fc)) := by
  refine ⟨pt_imp (pt_chain ho ho' ha.run hb.run hc.run hm) fun σ H Q ⟨O, ρ, k, I, hf, q⟩ => ?_⟩
  obtain ⟨r, e1, e2⟩ := Rs.bind_eq hf
  cases toB_eq e2
  refine chain_read (ha := ha) (hb := hb) (hc := hc) ⟨O, ρ, _, I, e1, fun v H' s r => ?_⟩
  cases (show Rep X.K H' O v (.bool k) from r)
  exact ⟨k, rfl, q H' s⟩
end
/-! ### list comprehensions -/
def wipeE (ρ : En) : List Nat → En
  | [] => ρ
  | v :: vs => (wipeE ρ vs).set v .un
/-- the items -/
def lcLoop (st : D → En → Option En) (tt : En → Rs Bool) (fe : FE) (ρ : En) : List D → Rs (List D)
  | [] => .ok []
  | d :: ds => match st d ρ with
    | none => .bad
    | some ρ1 => (tt ρ1).bind fun k => if k then (fe ρ1).bind fun r => match r.fz with
        | some y => (lcLoop st tt fe ρ ds).bind fun ys => .ok (y :: ys)
        | none => .bad
      else lcLoop st tt fe ρ ds
def fLc (fi : En → Rs (List D)) (st : D → En → Option En) (tt : En → Rs Bool) (fe : FE) (vs : List Nat) : FE := fun ρ => (fi ρ).bind fun ds => (lcLoop st tt fe (wipeE ρ vs) ds).bind fun ys => .ok (.ol ys)
def ttYes : En → Rs Bool := fun _ => .ok true
structure TsV (X : Cx) (es : List Expr) (f : En → Rs Bool) : Prop where
  run : PTs X es (tT X.K f)
theorem ts_nil {X : Cx} : TsV X [] ttYes := ⟨⟨fun pins s σ H Q I ⟨O, ρ, b, J, hf, q⟩ => pts_nil.run pins s σ H Q I (by cases hf; exact q H (Same.refl H))⟩⟩
theorem ts_one {X : Cx} {c : Expr} {t : En → Rs Bool} (h : TV X c t) : TsV X [c] t := ⟨pts_one h.run⟩
theorem ER.wipe {K : PySem.W.Frag} {O : List Addr} {H : Hp} {σ : L2.St} {ρ : En} (I : ER K O H σ ρ) : ∀ vs : List Nat, ER K O H (L2.wipe σ vs) (wipeE ρ vs)
  | [] => I
  | v :: vs => by
    have J := I.wipe vs
    show ER K O H ((L2.wipe σ vs).set v none) ((wipeE ρ vs).set v .un)
    by_cases hi : v < (L2.wipe σ vs).length
    · obtain ⟨A, B, ov, s, e1, e2, e3, e4⟩ := own_split (σ := L2.wipe σ vs) (ρ := wipeE ρ vs) v hi (J.len ▸ hi)
      have e5 : own ((L2.wipe σ vs).set v none) ((wipeE ρ vs).set v .un) = A ++ B := e4 none .un
      have nd := J.nd
      rw [e3] at nd
      refine ⟨J.at_.set (a := none) (b := .un) trivial v, by rw [e5]; exact nd_mid nd, fun a h => J.sub a ?_, J.tr⟩
      rw [e5] at h
      rw [e3]
      simp only [List.mem_append] at h ⊢
      exact h.imp id .inr
    · have z1 : (L2.wipe σ vs).set v none = L2.wipe σ vs := List.set_eq_of_length_le (by omega)
      have z2 : (wipeE ρ vs).set v .un = wipeE ρ vs := List.set_eq_of_length_le (by have := J.len; omega)
      rw [z1, z2]
      exact J
theorem wipe_only : ∀ {vs : List Nat} {σ σ' : L2.St}, Only vs σ σ' → L2.wipe σ' vs = L2.wipe σ vs := by
  intro vs σ σ' h
  apply List.ext_getElem?
  intro i
  have key : ∀ (vs : List Nat) (τ : L2.St), (L2.wipe τ vs)[i]? = if i ∈ vs then (if i < τ.length then some none else none) else τ[i]? := by
    intro vs
    induction vs with
    | nil => intro τ; simp [L2.wipe]
    | cons v vs ih =>
      intro τ
      show ((L2.wipe τ vs).set v none)[i]? = _
      by_cases hv : v = i
      · subst hv
        rw [List.getElem?_set_self', ih τ]
        simp only [List.mem_cons, true_or, if_true]
        by_cases hl : v < τ.length
        · by_cases hm : v ∈ vs
          · simp [hl, hm]
          · simp [hl, hm]
        · by_cases hm : v ∈ vs
          · simp [hl, hm]
          · simp [hl, hm]
      · rw [List.getElem?_set_ne hv, ih τ]
        have : (i ∈ v :: vs) = (i ∈ vs) := by simp [Ne.symm hv]
        simp only [this]
  rw [key, key, h.1]
  by_cases hm : i ∈ vs
  · simp [hm]
  · simp only [hm, if_false]
    exact h.2 i hm
theorem wipe_wipe (σ : L2.St) (vs : List Nat) : L2.wipe (L2.wipe σ vs) vs = L2.wipe σ vs := by
  refine wipe_only ⟨wipe_length σ vs, fun i hi => ?_⟩
  have : ∀ (ws : List Nat), i ∉ ws → (L2.wipe σ ws)[i]? = σ[i]? := by
    intro ws
    induction ws with
    | nil => intro _; rfl
    | cons w ws ih =>
      intro h
      show ((L2.wipe σ ws).set w none)[i]? = _
      rw [List.getElem?_set_ne (fun e => h (by simp [e])), ih fun z => h (List.mem_cons_of_mem _ z)]
  exact this vs hi
section
variable {X : Cx}
theorem lc_read {K : PySem.W.Frag} {fi : En → Rs (List D)} {st : D → En → Option En} {tt : En → Rs Bool} {fe : FE} {vs js : List Nat} (hj : ∀ j ∈ js, j ∈ vs) {σ : L2.St} {H : Hp} {Q : VK} (h : tE K (fLc fi st tt fe vs) σ H Q) :
    tLc (tI K true fi) (tG K js st) (tT K tt) (tE K fe) vs σ H Q := by
  obtain ⟨O, ρ, r, I, hf, q⟩ := h
  obtain ⟨ds, e1, hf⟩ := Rs.bind_eq hf
  obtain ⟨zs, e2, hf⟩ := Rs.bind_eq hf
  cases hf
  refine ⟨O, ρ, ds, I, e1, fun J H1 s1 jok hlen D hD => ?_⟩
  have hz := hlen rfl
  have I1 := I.same s1
  have hDO : D ∉ O := fun z => I1.tr D z hD
  refine ⟨fun i m H' => m = ds.length - i ∧ i ≤ ds.length ∧ ∃ acc ys, Same H1 H' ∧ H' D = some (.lst acc) ∧ Reps K H' (D :: O) acc ys ∧ acc.length ≤ i ∧ ∃ rest, lcLoop st tt fe (wipeE ρ vs) (ds.drop i) = .ok rest ∧ ys ++ rest = zs,
    ⟨ds.length, by simp, Nat.zero_le _, [], [], same_upd hD, upd_same, .nil, Nat.le_refl _, zs, e2, rfl⟩, ?_⟩
  rintro i m H' ⟨rfl, hi, acc, ys, sm, hd, hr, ha, rest, hl, hzs⟩
  obtain ⟨jgo, jstop⟩ := jok i H' (fun a o e _ => sm a o e)
  have EW : ∀ {H2 : Hp}, Same H1 H2 → H2 D ≠ none → ER K (D :: O) H2 (L2.wipe σ vs) (wipeE ρ vs) := fun {H2} s2 hn => by
    have B : ER K (D :: O) H2 σ ρ := ⟨I1.at_.imp fun ov s q => SR.more s2 hD q, I1.nd, fun a h => List.mem_cons_of_mem _ (I1.sub a h), fun a h => (List.mem_cons.mp h).elim (fun e => by rw [e]; exact hn) (Same.tr s2 I1.tr a)⟩
    exact B.wipe vs
  by_cases hlt : i < ds.length
  · obtain ⟨go, item⟩ := jgo ds[i] (List.getElem?_eq_getElem hlt)
    refine .inr ⟨go, fun H3 => i + 1 ≤ ds.length ∧ ∃ acc ys, Same H1 H3 ∧ H3 D = some (.lst acc) ∧ Reps K H3 (D :: O) acc ys ∧ acc.length ≤ i + 1 ∧ ∃ rest, lcLoop st tt fe (wipeE ρ vs) (ds.drop (i + 1)) = .ok rest ∧ ys ++ rest = zs, fun H3 h3 => ⟨ds.length - (i + 1), by omega, rfl, h3⟩, fun x H2 hy => ?_⟩
    obtain ⟨s2, hx⟩ := item x H2 hy
    have s12 := sm.trans s2
    have hd2 : H2 D = some (.lst acc) := s2 _ _ hd
    have I2 := EW s12 (by rw [hd2]; exact fun z => nomatch z)
    have hxd := hx (D :: O) (fun a h => (List.mem_cons.mp h).elim (fun e => .inr (by rw [e]; exact hD)) .inl) (fun a h => (List.mem_cons.mp h).elim (fun e => by rw [e, hd]; exact fun z => nomatch z) (Same.tr sm I1.tr a))
    rw [List.drop_eq_getElem_cons hlt] at hl
    unfold lcLoop at hl
    cases e3 : st ds[i] (wipeE ρ vs) with
    | none => rw [e3] at hl; cases hl
    | some ρ1 =>
      rw [e3] at hl
      dsimp only at hl
      obtain ⟨k, e4, hl⟩ := Rs.bind_eq hl
      refine ⟨D :: O, wipeE ρ vs, ds[i], ρ1, I2, hxd, e3, fun σ2 J2 hm on => ⟨?_, D :: O, ρ1, k, J2, e4, fun H3 s3 => ?_⟩⟩
      · rw [← wipe_wipe σ vs]
        exact wipe_only ⟨on.1, fun i hi => on.2 i fun z => hi (hj i z)⟩
      · have s13 := s12.trans s3
        have hd3 : H3 D = some (.lst acc) := s3 _ _ hd2
        cases k with
        | false =>
          simp only [Bool.false_eq_true, if_false] at hl ⊢
          exact ⟨hlt, acc, ys, s13, hd3, (hr.same s2).same s3, by omega, rest, hl, hzs⟩
        | true =>
          simp only [if_true] at hl ⊢
          obtain ⟨r, e5, hl⟩ := Rs.bind_eq hl
          refine ⟨D :: O, ρ1, r, J2.same s3, e5, fun v H4 s4 rr => ?_⟩
          split at hl
          · rename_i y ey
            obtain ⟨rest', e6, hl⟩ := Rs.bind_eq hl
            cases hl
            have hd4 : H4 D = some (.lst acc) := s4 _ _ hd3
            have hv := rr.rep (fun a h => (J2.same s3).tr a h) ey
            have kp : ∀ a o, H4 a = some o → a ∉ D :: O → (upd H4 D (.lst (acc ++ [v]))) a = some o := fun a o e n => by
              rw [upd_ne fun z => n (by rw [z]; exact List.mem_cons_self)]
              exact e
            refine ⟨acc, hd4, by omega, hlt, acc ++ [v], ys ++ [y], ?_, upd_same, ?_, by rw [List.length_append, List.length_singleton]; omega, rest', e6, by rw [List.append_assoc]; exact hzs⟩
            · intro a o e
              rw [upd_ne (ne_of_none e hD)]
              exact s4 _ _ (s13 _ _ e)
            · exact ((((hr.same s2).same s3).same s4).append (.cons hv .nil)).ev kp fun a z => .inl z
          · cases hl
  · have e : i = ds.length := by omega
    subst e
    rw [List.drop_length] at hl
    cases hl
    rw [List.append_nil] at hzs
    subst hzs
    exact .inl ⟨jstop (Nat.le_refl _), q _ H' (s1.trans sm) ⟨D, acc, rfl, s1.free hD, hd, Nat.le_trans ha hz, hr⟩⟩
variable {elt tg iter : Expr} {ifs : List Expr} {scope : Scope} {own' : List (Str × Nat)} {pos spos : Pos} {fi : En → Rs (List D)} {st : D → En → Option En} {tt : En → Rs Bool} {fe : FE} {js : List Nat}
theorem e_lc (hc : X.calm = true) (hN : X.N.Nodup) (hi : IV X true tg iter fi) (ok : BlkOk X.N X.env.scope scope own')
    (hg : ∀ (s : Shared) (H : Hp) (C : Addr) (cl : List (Str × Addr)) (fp : List Addr), GV (X.blk s H scope (compEnvC scope cl C X.env) fp) tg js st) (ht : ∀ (s : Shared) (H : Hp) (C : Addr) (cl : List (Str × Addr)) (fp : List Addr), TsV (X.blk s H scope (compEnvC scope cl C X.env) fp) ifs tt)
    (he : ∀ (s : Shared) (H : Hp) (C : Addr) (cl : List (Str × Addr)) (fp : List Addr), EV (X.blk s H scope (compEnvC scope cl C X.env) fp) elt fe) (hj : ∀ j ∈ js, j ∈ own'.map (·.2) := by decide) (hs : ∀ x, foldedSetIterable iter X.env x = pure x := by intro _; rfl) :
    EV X (.ListComp elt [⟨tg, iter, ifs, 0⟩] scope pos) (fLc fi st tt fe (own'.map (·.2))) :=
  ⟨pe_imp (pe_lc hc hN hi.run ok (fun s H C cl fp => (hg s H C cl fp).run) (fun s H C cl fp => (ht s H C cl fp).run) (fun s H C cl fp => (he s H C cl fp).run) hs) fun σ H Q h => lc_read hj h⟩
theorem setLc_ps {i : Nat} {y : Str} {py : Pos} (hc : X.calm = true) (hN : X.N.Nodup) (hi : IV X true tg iter fi) (ok : BlkOk X.N X.env.scope scope own')
    (hg : ∀ (s : Shared) (H : Hp) (C : Addr) (cl : List (Str × Addr)) (fp : List Addr), GV (X.blk s H scope (compEnvC scope cl C X.env) fp) tg js st) (ht : ∀ (s : Shared) (H : Hp) (C : Addr) (cl : List (Str × Addr)) (fp : List Addr), TsV (X.blk s H scope (compEnvC scope cl C X.env) fp) ifs tt)
    (he : ∀ (s : Shared) (H : Hp) (C : Addr) (cl : List (Str × Addr)) (fp : List Addr), EV (X.blk s H scope (compEnvC scope cl C X.env) fp) elt fe) (hj : ∀ j ∈ js, j ∈ own'.map (·.2))
    (hy : X.N[i]? = some y) (hyl : X.env.scope.names.lookup y = some .local)
    (hsw : swapsWith (.ListComp elt [⟨tg, iter, ifs, 0⟩] scope pos) (some (.Name y py)) spos.line X.env = pure true) (hs : ∀ x, foldedSetIterable iter X.env x = pure x := by intro _; rfl) :
    PS X (.Assign [.Name y py] (.ListComp elt [⟨tg, iter, ifs, 0⟩] scope pos) spos) (tAsg (tE X.K (fLc fi st tt fe (own'.map (·.2)))) (gName i)) :=
  ps_imp (ps_setLc hc hN hy hyl hsw hi.run ok (fun s H C cl fp => (hg s H C cl fp).run) (fun s H C cl fp => (ht s H C cl fp).run) (fun s H C cl fp => (he s H C cl fp).run) hs) fun D σ H h => lc_read hj h
/-- y = [..]: from the statement's reading -/
theorem s_own_of {i : Nat} {st' : Stmt} {f : FE} (h : PS X st' (tAsg (tE X.K f) (gName i))) : SV X st' (gOwn i f) := by
  refine ⟨ps_imp h fun D σ H ⟨O, ρ, I, q⟩ => ?_⟩
  unfold gOwn at q
  split at q
  · exact q.elim
  · rename_i r n e
    refine ⟨O, ρ, r, I, e, fun v H1 s rr => ?_⟩
    obtain ⟨O', J, E⟩ := I.store s rr (fun d z => n d z) i
    exact q O' H1 _ J E
  · exact q.elim
  · exact q.elim
theorem s_set_of {i : Nat} {st' : Stmt} {f : FE} (h : PS X st' (tAsg (tE X.K f) (gName i))) : SV X st' (gSet i f) := by
  refine ⟨ps_imp h fun D σ H ⟨O, ρ, I, q⟩ => ?_⟩
  unfold gSet at q
  split at q
  · rename_i r e
    split at q
    · rename_i d ed
      refine ⟨O, ρ, r, I, e, fun v H1 s rr => ?_⟩
      obtain ⟨J, E⟩ := I.putFz s (rr.rep I.tr ed) i
      exact q O H1 _ J E
    · exact q.elim
  · exact q.elim
  · exact q.elim
end
end VL
namespace VL
open PySem PySem.Spec
open PyProof.Rows L2
/-! ### own lists are changed -/
theorem All2.of_get {α β : Type} {P : α → β → Prop} : ∀ {as : List α} {bs : List β}, as.length = bs.length → (∀ (i : Nat) (a : α) (b : β), as[i]? = some a → bs[i]? = some b → P a b) → All2 P as bs
  | [], [], _, _ => .nil
  | a :: as, b :: bs, h, k => .cons (k 0 a b rfl rfl) (All2.of_get (Nat.succ.inj h) fun i x y e1 e2 => k (i + 1) x y (by simpa using e1) (by simpa using e2))
  | [], _ :: _, h, _ => by cases h
  | _ :: _, [], h, _ => by cases h
theorem All2.get2 {α β : Type} {P : α → β → Prop} : ∀ {as : List α} {bs : List β}, All2 P as bs → ∀ (i : Nat) (a : α) (b : β), as[i]? = some a → bs[i]? = some b → P a b
  | _, _, .nil, _, _, _, e, _ => by simp at e
  | _, _, .cons r _, 0, _, _, e1, e2 => by simp at e1 e2; subst e1; subst e2; exact r
  | _, _, .cons _ t, i + 1, a, b, e1, e2 => All2.get2 t i a b (by simpa using e1) (by simpa using e2)
theorem own_ne : ∀ {σ : L2.St} {ρ : En} {i j : Nat} {a b : Addr} {oi oj : Option V} {si sj : Sl}, (own σ ρ).Nodup → i ≠ j → σ[i]? = some oi → ρ[i]? = some si → σ[j]? = some oj → ρ[j]? = some sj → a ∈ Sl.own oi si → b ∈ Sl.own oj sj → a ≠ b
  | [], _, _, _, _, _, _, _, _, _, _, _, h, _, _, _, _, _ => by simp at h
  | _ :: _, [], _, _, _, _, _, _, _, _, _, _, _, h, _, _, _, _ => by simp at h
  | x :: σ, y :: ρ, 0, 0, _, _, _, _, _, _, _, n, _, _, _, _, _, _ => absurd rfl n
  | x :: σ, y :: ρ, 0, j + 1, a, b, _, _, _, _, nd, _, h1, h2, h3, h4, ha, hb => by
    simp at h1 h2; subst h1; subst h2
    have hb' : b ∈ own σ ρ := own_at (i := j) (by simpa using h3) (by simpa using h4) hb
    exact fun e => (List.nodup_append.mp nd).2.2 a ha b hb' e
  | x :: σ, y :: ρ, i + 1, 0, a, b, _, _, _, _, nd, _, h1, h2, h3, h4, ha, hb => by
    simp at h3 h4; subst h3; subst h4
    have ha' : a ∈ own σ ρ := own_at (i := i) (by simpa using h1) (by simpa using h2) ha
    exact fun e => (List.nodup_append.mp nd).2.2 b hb a ha' e.symm
  | x :: σ, y :: ρ, i + 1, j + 1, a, b, _, _, _, _, nd, n, h1, h2, h3, h4, ha, hb =>
    own_ne (i := i) (j := j) (List.nodup_append.mp nd).2.1 (fun e => n (by rw [e])) (by simpa using h1) (by simpa using h2) (by simpa using h3) (by simpa using h4) ha hb
section
variable {K : PySem.W.Frag} {H : Hp} {O : List Addr} {σ : L2.St} {ρ : En}
/-- the own object at the name i is written -/
theorem ER.mut (I : ER K O H σ ρ) {i : Nat} {p : Addr} {s s' : Sl} {o : HO} (e1 : σ[i]? = some (some (.ref p))) (e2 : ρ[i]? = some s) (hs : Sl.own (some (.ref p)) s = [p]) (hs' : Sl.own (some (.ref p)) s' = [p])
    (r : SR K (upd H p o) O (some (.ref p)) s') : ER K O (upd H p o) σ (ρ.set i s') ∧ Evo O H σ ρ O (upd H p o) σ (ρ.set i s') := by
  have hin : p ∈ own σ ρ := own_at e1 e2 (by rw [hs]; exact List.mem_singleton_self p)
  have hpO := I.sub p hin
  have hlt : i < σ.length := (List.getElem?_eq_some_iff.mp e1).1
  have hlr : i < ρ.length := (List.getElem?_eq_some_iff.mp e2).1
  obtain ⟨A, B, ov, s0, f1, f2, f3, f4⟩ := own_split (σ := σ) (ρ := ρ) i hlt hlr
  rw [e1] at f1; cases f1
  rw [e2] at f2; cases f2
  have eo : own σ (ρ.set i s') = own σ ρ := by
    have := f4 (some (.ref p)) s'
    rw [set_get e1, hs'] at this
    rw [this, f3, hs]
  have kp : ∀ a u, H a = some u → a ∉ O → upd H p o a = some u := fun a u e n => by
    rw [upd_ne fun z => n (by rw [z]; exact hpO)]
    exact e
  have nn : ∀ a ∈ O, a ∈ O ∨ H a = none := fun a h => .inl h
  refine ⟨⟨All2.of_get (by rw [List.length_set]; exact I.len) fun j ov sl g1 g2 => ?_, by rw [eo]; exact I.nd, fun a h => I.sub a (by rw [eo] at h; exact h), fun a h => ?_⟩, ⟨fun a u e n => ?_, fun a h _ => h, fun a h => .inl (by rw [eo] at h; exact h), nn⟩⟩
  · by_cases hj : i = j
    · subst hj
      rw [List.getElem?_set_self hlr] at g2
      cases g2
      rw [e1] at g1
      cases g1
      exact r
    · rw [List.getElem?_set_ne hj] at g2
      have q := I.at_.get2 j ov sl g1 g2
      cases sl with
      | un => trivial
      | fr d => obtain ⟨v, e, q⟩ := q; exact ⟨v, e, q.ev kp nn⟩
      | ol xs =>
        obtain ⟨a, vs, rfl, q1, q2, q3⟩ := q
        have ne : p ≠ a := own_ne I.nd hj e1 e2 g1 g2 (by rw [hs]; exact List.mem_singleton_self p) (by simp [Sl.own])
        exact ⟨a, vs, rfl, by rw [upd_ne ne.symm]; exact q1, q2, q3.ev kp nn⟩
      | od xs =>
        obtain ⟨a, vs, rfl, q1, q3⟩ := q
        have ne : p ≠ a := own_ne I.nd hj e1 e2 g1 g2 (by rw [hs]; exact List.mem_singleton_self p) (by simp [Sl.own])
        exact ⟨a, vs, rfl, by rw [upd_ne ne.symm]; exact q1, q3.ev kp nn⟩
  · by_cases z : a = p
    · rw [z, upd_same]; exact fun z => nomatch z
    · rw [upd_ne z]; exact I.tr a h
  · rw [upd_ne fun z => n (by rw [z]; exact hin)]
    exact e
theorem upd_reps {p : Addr} {o : HO} {vs : List V} {ds : List D} (hp : p ∈ O) (r : Reps K H O vs ds) : Reps K (upd H p o) O vs ds :=
  r.ev (fun a u e n => by rw [upd_ne fun z => n (by rw [z]; exact hp)]; exact e) fun a h => .inl h
end
section
variable {X : Cx} {e : Expr} {f : FE} {pos cpos apos : Pos}
/-- xs.append(e) -/
def gApp (i : Nat) (f : FE) : FS := fun ρ => match ρ[i]? with
  | some (.ol xs) => match f ρ with
    | .ok r => match r.fz with
      | some d => if xs.length < sizeN then .nx (ρ.set i (.ol (xs ++ [d]))) else .bad
      | none => .bad
    | .ex e => .ex e
    | .bad => .bad
  | _ => .bad
theorem s_app (i : Nat) {x : Str} {p2 : Pos} (he : EV X e f) (hN : X.N[i]? = some x := by rfl) (hv : Vis X.env.scope x := by first | exact Or.inl rfl | exact Or.inr (Or.inl rfl) | exact Or.inr (Or.inr rfl)) (hd : (x == ("__debug__" : Str)) = false := by decide)
    (hcd : (x == ("__classdict__" : Str)) = false := by decide)
    (hbase : attributeBase (.Name x p2) "append" X.env (eval (.Name x p2) X.env) = eval (.Name x p2) X.env := by rfl)
    (hfew : ((backTo cpos (starEach [e] X.env)).all (fun x => !x.1) && (backToKw cpos (keywordEach [] X.env)).all (fun x => x.1.isSome)
      && decide (([e]).length + ([] : List Keyword).length + (if ([] : List Keyword).isEmpty then 0 else 1) < 30)) = true := by rfl)
    (hline : (apos.endLine == cpos.line) = true := by rfl) (hs : starEach [e] X.env = (false, eval e X.env) :: starEach [] X.env := by rfl) (hplain : (backTo cpos (starEach [] X.env)).any (·.1) = false := by rfl)
    (hsw : swapsWith (.Call (.Attribute (.Name x p2) "append" apos) [e] [] cpos) none pos.line X.env = pure false := by rfl) : SV X (.Expr (.Call (.Attribute (.Name x p2) "append" apos) [e] [] cpos) pos) (gApp i f) := by
  refine ⟨ps_imp (ps_expr (pe_bm PySem.F.plainAttrs_list PySem.F.slot_list_append PySem.F.type_list_append mt_append (pe_var hN hv hd hcd) (pa_cons he.run pa_nil hs) hbase hfew hline hs hplain) hsw) fun D σ H ⟨O, ρ, I, q⟩ => ?_⟩
  unfold gApp at q
  split at q
  · rename_i xs ei
    split at q
    · rename_i r ef
      split at q
      · rename_i d ed
        split at q
        · rename_i hz
          obtain ⟨ov, e1, p, vs, rfl, h1, hzz, hr⟩ := I.get ei
          have hp : p ∈ O := I.sub p (own_at e1 ei (by simp [Sl.own]))
          refine ⟨_, e1, .inl ⟨rfl, vs, .of h1⟩, O, ρ, r, I, ef, fun v H1 s rr => ?_⟩
          rw [sizeN_eq] at hz
          have hl := hr.length
          have I1 := I.same s
          have hv := rr.rep I.tr ed
          obtain ⟨J, E⟩ := I1.mut (o := .lst (vs ++ [v])) (s' := .ol (xs ++ [d])) e1 ei rfl rfl ⟨p, _, rfl, upd_same, by rw [List.length_append, List.length_singleton]; omega, upd_reps hp ((hr.same s).append (.cons hv .nil))⟩
          exact ⟨p, vs, v, rfl, rfl, s _ _ h1, by omega, q O _ σ J ((ER.same_evo s).trans I E)⟩
        · exact q.elim
      · exact q.elim
    · exact q.elim
    · exact q.elim
  · exact q.elim
/-- xs[k] = e -/
def gSetIx (i : Nat) (fk f : FE) : FS := fun ρ => match f ρ with
  | .ok r => match r.fz with
    | some d => match ρ[i]? with
      | some (.ol xs) => match fk ρ with
        | .ok (.fr (.int k)) => match ixN xs.length k with
          | some j => .nx (ρ.set i (.ol (xs.set j d)))
          | none => .bad
        | _ => .bad
      | _ => .bad
    | none => .bad
  | .ex e => .ex e
  | .bad => .bad
theorem s_setIx (i : Nat) {x : Str} {p2 : Pos} {k : Expr} {fk : FE} {spos : Pos} (he : EV X e f) (hk : EV X k fk) (hN : X.N[i]? = some x := by rfl) (hv : Vis X.env.scope x := by first | exact Or.inl rfl | exact Or.inr (Or.inl rfl) | exact Or.inr (Or.inr rfl)) (hd : (x == ("__debug__" : Str)) = false := by decide)
    (hcd : (x == ("__classdict__" : Str)) = false := by decide)
    (ha : ∀ v, assign (.Subscript (.Name x p2) k spos) X.env v = (do
      let ov ← holding [v] (eval (.Name x p2) X.env)
      let iv ← holding [v, ov] (eval k X.env)
      standAt spos
      holding [v, ov, iv] (setItem ov iv v)
      release [v, ov, iv] []) := by intro _; rfl)
    (hs : swapsWithSole [.Subscript (.Name x p2) k spos] e pos.line X.env = pure false := by rfl) (hw : swappedStores [.Subscript (.Name x p2) k spos] e X.env = pure none := by rfl)
    (h1 : (assignEach [.Subscript (.Name x p2) k spos] X.env).map (·.2) = [assign (.Subscript (.Name x p2) k spos) X.env] := by rfl) : SV X (.Assign [.Subscript (.Name x p2) k spos] e pos) (gSetIx i fk f) := by
  refine ⟨ps_imp (ps_asg he.run (pg_sub (pe_var hN hv hd hcd) hk.run set_list ha) hs hw h1) fun D σ H ⟨O, ρ, I, q⟩ => ?_⟩
  unfold gSetIx at q
  split at q
  · rename_i r ef
    split at q
    · rename_i d ed
      split at q
      · rename_i xs ei
        split at q
        · rename_i kk ek
          split at q
          · rename_i j ej
            obtain ⟨ov, e1, p, vs, rfl, h1, hzz, hr⟩ := I.get ei
            have hp : p ∈ O := I.sub p (own_at e1 ei (by simp [Sl.own]))
            refine ⟨O, ρ, r, I, ef, fun v H1 s rr => ?_⟩
            have I1 := I.same s
            refine ⟨_, e1, O, ρ, _, I1, ek, fun w H2 s2 r2 => ?_⟩
            cases (show Rep X.K H2 O w (.int kk) from r2)
            have s12 := s.trans s2
            have hv := (rr.rep I.tr ed).same s2
            have hl := hr.length
            obtain ⟨J, E⟩ := (I.same s12).mut (o := .lst (vs.set j v)) (s' := .ol (xs.set j d)) e1 ei rfl rfl ⟨p, _, rfl, upd_same, by rw [List.length_set]; exact hzz, upd_reps hp ((hr.same s12).set hv j)⟩
            exact ⟨p, vs, kk, j, rfl, rfl, s12 _ _ h1, by rw [hl]; exact ej, q O _ σ J ((ER.same_evo s12).trans I E)⟩
          · exact q.elim
        · exact q.elim
      · exact q.elim
    · exact q.elim
  · exact q.elim
  · exact q.elim
/-- x = y.pop() -/
def gPop (i j : Nat) : FS := fun ρ => match ρ[j]? with
  | some (.ol xs) => match xs[xs.length - 1]? with
    | some d => .nx ((ρ.set j (.ol xs.dropLast)).set i (.fr d))
    | none => .bad
  | _ => .bad
theorem reps_dropLast {K : PySem.W.Frag} {H : Hp} {O : List Addr} {vs : List V} {ds : List D} (r : Reps K H O vs ds) : Reps K H O vs.dropLast ds.dropLast := by
  rw [List.dropLast_eq_take, List.dropLast_eq_take, r.length]
  exact r.take _
theorem s_pop (i j : Nat) {x y : Str} {p1 p2 : Pos} (hN : X.N.Nodup) (hi : X.N[i]? = some x := by rfl) (hx : Loc X.env.scope x := by first | exact Or.inl rfl | exact Or.inr rfl) (hj : X.N[j]? = some y := by rfl) (hv : Vis X.env.scope y := by first | exact Or.inl rfl | exact Or.inr (Or.inl rfl) | exact Or.inr (Or.inr rfl)) (hd : (y == ("__debug__" : Str)) = false := by decide)
    (hcd : (y == ("__classdict__" : Str)) = false := by decide)
    (hbase : attributeBase (.Name y p2) "pop" X.env (eval (.Name y p2) X.env) = eval (.Name y p2) X.env := by rfl) (hline : (apos.endLine == cpos.line) = true := by rfl)
    (hsw : swapsWith (.Call (.Attribute (.Name y p2) "pop" apos) [] [] cpos) (some (.Name x p1)) pos.line X.env = pure false := by rfl) (hf : X.fn x = true ∨ X.env.scope.names.lookup x = some .local := by first | exact .inl rfl | exact .inr rfl | assumption) :
    SV X (.Assign [.Name x p1] (.Call (.Attribute (.Name y p2) "pop" apos) [] [] cpos) pos) (gPop i j) := by
  refine ⟨ps_imp (ps_set hN hi hx (pe_bm0 PySem.F.plainAttrs_list PySem.F.slot_list_pop PySem.F.type_list_pop mt_pop (pe_var hj hv hd hcd) hbase hline) hsw hf) fun D σ H ⟨O, ρ, I, q⟩ => ?_⟩
  unfold gPop at q
  split at q
  · rename_i xs ei
    split at q
    · rename_i d ed
      obtain ⟨ov, e1, p, vs, rfl, h1, hzz, hr⟩ := I.get ei
      have hp : p ∈ O := I.sub p (own_at e1 ei (by simp [Sl.own]))
      obtain ⟨v, hv1, hv2⟩ := hr.get' ed
      rw [← hr.length] at hv1
      have up : Rep X.K (upd H p (.lst vs.dropLast)) O v d := hv2.ev (fun a u e n => by rw [upd_ne fun z => n (by rw [z]; exact hp)]; exact e) fun a h => .inl h
      obtain ⟨J, E⟩ := I.mut (o := .lst vs.dropLast) (s' := .ol xs.dropLast) e1 ei rfl rfl ⟨p, _, rfl, upd_same, by rw [List.length_dropLast]; omega, upd_reps hp (reps_dropLast hr)⟩
      obtain ⟨J2, E2⟩ := J.putFz (Same.refl _) up i
      exact ⟨_, e1, .inl ⟨rfl, vs, .of h1⟩, p, vs, v, rfl, rfl, h1, hv1, q O _ _ J2 (E.trans I E2)⟩
    · exact q.elim
  · exact q.elim
/-- x += e, ints -/
def gAug (i : Nat) (op : Int → Int → Int) (f : FE) : FS := fun ρ => match ρ[i]? with
  | some (.fr (.int a)) => match f ρ with
    | .ok (.fr (.int b)) => .nx (ρ.set i (.fr (.int (op a b))))
    | .ex e => .ex e
    | _ => .bad
  | _ => .bad
theorem s_aug (i : Nat) {x : Str} {p2 : Pos} {op : Operator} {g : Int → Int → Int} (hN : X.N.Nodup) (ho : PIp X op (ipI g)) (he : EV X e f) (hi : X.N[i]? = some x := by rfl) (hx : Loc X.env.scope x := by first | exact Or.inl rfl | exact Or.inr rfl)
    (hf : X.fn x = true ∨ X.env.scope.names.lookup x = some .local := by first | exact .inl rfl | exact .inr rfl | assumption) : SV X (.AugAssign (.Name x p2) op e pos) (gAug i g f) := by
  refine ⟨ps_imp (ps_aug hN hi hx he.run ho hf) fun D σ H ⟨O, ρ, I, q⟩ => ?_⟩
  unfold gAug at q
  split at q
  · rename_i a ei
    split at q
    · rename_i b ef
      obtain ⟨ov, e1, v, rfl, hr⟩ := I.get ei
      cases (show Rep X.K H O v (.int a) from hr)
      refine ⟨_, e1, O, ρ, _, I, ef, fun w H1 s rr => ?_⟩
      cases (show Rep X.K H1 O w (.int b) from rr)
      obtain ⟨J, E⟩ := I.putFz s (Rep.int (g a b)) i
      exact ⟨a, b, rfl, rfl, q O _ _ J E⟩
    · exact q.elim
    · exact q.elim
  · exact q.elim
/-! ### while -/
def whl (t : En → Rs Bool) (body : FS) : Nat → En → So
  | 0, _ => .bad
  | n + 1, ρ => match t ρ with
    | .ok true => match body ρ with
      | .nx ρ2 => whl t body n ρ2
      | .ct ρ2 => whl t body n ρ2
      | .bk ρ2 => .nx ρ2
      | .rt r => .rt r
      | .ex e => .ex e
      | .bad => .bad
    | .ok false => .nx ρ
    | .ex e => .ex e
    | .bad => .bad
theorem whl_succ (t : En → Rs Bool) (body : FS) (n : Nat) (ρ : En) : whl t body (n + 1) ρ = match t ρ with
    | .ok true => match body ρ with
      | .nx ρ2 => whl t body n ρ2
      | .ct ρ2 => whl t body n ρ2
      | .bk ρ2 => .nx ρ2
      | .rt r => .rt r
      | .ex e => .ex e
      | .bad => .bad
    | .ok false => .nx ρ
    | .ex e => .ex e
    | .bad => .bad := rfl
def gWhile (fuel : Nat) (t : En → Rs Bool) (body : FS) : FS := whl t body fuel
theorem s_while (fuel : Nat) {c : Expr} {body : List Stmt} {t : En → Rs Bool} {g : FS} (hp : PassesOwn (model X.prog X.w) X.A X.env X.xe) (hc : TV X c t) (hb : BV X body g) : SV X (.While c body [] pos) (gWhile fuel t g) := by
  refine ⟨ps_imp (ps_while hp hc.run hb.run) fun D σ H ⟨O, ρ, I, q⟩ => ?_⟩
  have q : Post X.K O H σ ρ D (whl t g fuel ρ) := q
  refine ⟨fun m σ' H' => ∃ O' ρ', ER X.K O' H' σ' ρ' ∧ Evo O H σ ρ O' H' σ' ρ' ∧ whl t g m ρ' = whl t g fuel ρ, ⟨fuel, O, ρ, I, .refl, rfl⟩, ?_⟩
  rintro m σ' H' ⟨O', ρ', I', E, hl⟩
  have q1 : Post X.K O' H' σ' ρ' D (whl t g m ρ') := by rw [hl]; exact q.next I E
  cases m with
  | zero => exact q1.elim
  | succ m =>
    rw [whl_succ] at hl q1
    cases e1 : t ρ' with
    | ex z => rw [e1] at q1; exact q1.elim
    | bad => rw [e1] at q1; exact q1.elim
    | ok b =>
      refine ⟨O', ρ', b, I', e1, fun H1 s1 => ?_⟩
      rw [e1] at hl q1
      have I1 := I'.same s1
      have E1 := E.trans I (ER.same_evo s1)
      cases b with
      | false =>
        rw [if_neg Bool.false_ne_true]
        exact q1 O' H1 σ' I1 (ER.same_evo s1)
      | true =>
        rw [if_pos rfl]
        dsimp only at hl q1
        refine ⟨fun σ2 H2 => ∃ O2 ρ2, ER X.K O2 H2 σ2 ρ2 ∧ Evo O H σ ρ O2 H2 σ2 ρ2 ∧ whl t g m ρ2 = whl t g fuel ρ, fun σ2 H2 h => ⟨m, Nat.lt_succ_self m, h⟩, O', ρ', I1, ?_⟩
        cases e2 : g ρ' with
        | nx ρ2 =>
          rw [e2] at hl
          have hl' : whl t g m ρ2 = whl t g fuel ρ := hl
          exact fun O3 H3 σ3 J3 E5 => ⟨O3, ρ2, J3, E1.trans I E5, hl'⟩
        | ct ρ2 =>
          rw [e2] at hl
          have hl' : whl t g m ρ2 = whl t g fuel ρ := hl
          exact fun O3 H3 σ3 J3 E5 => ⟨O3, ρ2, J3, E1.trans I E5, hl'⟩
        | bk ρ2 => rw [e2] at q1; exact q1.next I' (ER.same_evo s1)
        | rt r => rw [e2] at q1; exact q1.next I' (ER.same_evo s1)
        | ex z => rw [e2] at q1; exact q1.elim
        | bad => rw [e2] at q1; exact q1.elim
end
end VL
namespace VL
open PySem PySem.Spec
open PyProof.Rows L2
/-! ### names are forgotten -/
theorem ER.forget {K : PySem.W.Frag} {O : List Addr} {H : Hp} {σ : L2.St} {ρ : En} (I : ER K O H σ ρ) : ∀ vs : List Nat, ER K O H σ (wipeE ρ vs) ∧ ∀ a ∈ own σ (wipeE ρ vs), a ∈ own σ ρ
  | [] => ⟨I, fun _ h => h⟩
  | v :: vs => by
    obtain ⟨J, hJ⟩ := I.forget vs
    show ER K O H σ ((wipeE ρ vs).set v .un) ∧ ∀ a ∈ own σ ((wipeE ρ vs).set v .un), a ∈ own σ ρ
    by_cases hi : v < σ.length
    · obtain ⟨A, B, ov, s, e1, e2, e3, e4⟩ := own_split (σ := σ) (ρ := wipeE ρ vs) v hi (J.len ▸ hi)
      have e5 : own σ ((wipeE ρ vs).set v .un) = A ++ B := by
        have := e4 ov .un
        rw [set_get e1] at this
        rw [this]
        cases ov with
        | none => rfl
        | some x => cases x <;> rfl
      have nd := J.nd
      rw [e3] at nd
      have hs : ∀ a ∈ own σ ((wipeE ρ vs).set v .un), a ∈ own σ (wipeE ρ vs) := fun a h => by
        rw [e5] at h
        rw [e3]
        simp only [List.mem_append] at h ⊢
        exact h.imp id .inr
      have hA := J.at_.set (a := ov) (b := .un) trivial v
      rw [set_get e1] at hA
      exact ⟨⟨hA, by rw [e5]; exact nd_mid nd, fun a h => J.sub a (hs a h), J.tr⟩, fun a h => hJ a (hs a h)⟩
    · have z2 : (wipeE ρ vs).set v .un = wipeE ρ vs := List.set_eq_of_length_le (by have := J.len; omega)
      rw [z2]
      exact ⟨J, hJ⟩
def gForget (js : List Nat) (g : FS) : FS := fun ρ => match g ρ with
  | .nx ρ' => .nx (wipeE ρ' js)
  | .ct ρ' => .ct (wipeE ρ' js)
  | o => o
theorem b_forget (js : List Nat) {X : Cx} {sts : List Stmt} {g : FS} (h : BV X sts g) : BV X sts (gForget js g) := by
  refine ⟨pss_imp h.run fun D σ H ⟨O, ρ, I, q⟩ => ⟨O, ρ, I, ?_⟩⟩
  have ev : ∀ {O' : List Addr} {H' : Hp} {σ' : L2.St} {ρ' : En}, ER X.K O' H' σ' ρ' → Evo O H σ ρ O' H' σ' ρ' → ER X.K O' H' σ' (wipeE ρ' js) ∧ Evo O H σ ρ O' H' σ' (wipeE ρ' js) := fun {O' H' σ' ρ'} J E => by
    obtain ⟨J2, hm⟩ := J.forget js
    exact ⟨J2, E.same, E.keep, fun a h => E.new a (hm a h), E.newO⟩
  unfold gForget at q
  cases e : g ρ with
  | nx ρ' =>
    rw [e] at q
    exact fun O' H' σ' J E => let ⟨J2, E2⟩ := ev J E; q O' H' σ' J2 E2
  | ct ρ' =>
    rw [e] at q
    exact fun O' H' σ' J E => let ⟨J2, E2⟩ := ev J E; q O' H' σ' J2 E2
  | rt r => rw [e] at q; exact q
  | bk r => rw [e] at q; exact q
  | ex r => rw [e] at q; exact q
  | bad => rw [e] at q; exact q
/-! ### loops as folds -/
section
variable {α β : Type} {f : α → D} {E : β → En} {st : D → En → Option En} {body : FS}
theorem loop_fold {step : β → α → β} (Q : β → Prop) : ∀ (xs : List α) (b : β), Q b → (∀ b x, x ∈ xs → Q b → Q (step b x) ∧ ∃ ρ1, st (f x) (E b) = some ρ1 ∧ (body ρ1 = .nx (E (step b x)) ∨ body ρ1 = .ct (E (step b x)))) → gLoop st body (xs.map f) (E b) = .nx (E (xs.foldl step b)) ∧ Q (xs.foldl step b)
  | [], b, hb, _ => ⟨rfl, hb⟩
  | x :: xs, b, hb, h => by
    obtain ⟨h1, ρ1, e1, e2⟩ := h b x List.mem_cons_self hb
    have ih := loop_fold Q xs (step b x) h1 fun b y hy => h b y (List.mem_cons_of_mem _ hy)
    rw [List.map_cons, gLoop_cons, e1]
    dsimp only
    rcases e2 with e2 | e2
    · rw [e2]; exact ih
    · rw [e2]; exact ih
/-- by the place -/
theorem loop_foldi {step : β → α → β} (Q : Nat → β → Prop) (xs : List α) (b : β) (h0 : Q 0 b) (h : ∀ i b x, xs[i]? = some x → Q i b → Q (i + 1) (step b x) ∧ ∃ ρ1, st (f x) (E b) = some ρ1 ∧ (body ρ1 = .nx (E (step b x)) ∨ body ρ1 = .ct (E (step b x)))) :
    gLoop st body (xs.map f) (E b) = .nx (E (xs.foldl step b)) ∧ Q xs.length (xs.foldl step b) := by
  have main : ∀ (xs ys : List α) (i : Nat) (b : β), Q i b → (∀ j, ys[j]? = xs[i + j]?) → ys.length + i = xs.length → (∀ i b x, xs[i]? = some x → Q i b → Q (i + 1) (step b x) ∧ ∃ ρ1, st (f x) (E b) = some ρ1 ∧ (body ρ1 = .nx (E (step b x)) ∨ body ρ1 = .ct (E (step b x)))) →
      gLoop st body (ys.map f) (E b) = .nx (E (ys.foldl step b)) ∧ Q xs.length (ys.foldl step b) := by
    intro xs ys
    induction ys with
    | nil =>
      intro i b hb _ hl _
      simp only [List.length_nil] at hl
      have e : i = xs.length := by omega
      exact ⟨rfl, e ▸ hb⟩
    | cons y ys ih =>
      intro i b hb hj hl hh
      obtain ⟨h1, ρ1, e1, e2⟩ := hh i b y (by have := hj 0; simpa using this.symm) hb
      have ih' := ih (i + 1) (step b y) h1 (fun j => by have := hj (j + 1); rw [show i + 1 + j = i + (j + 1) by omega, ← this]; simp) (by simp only [List.length_cons] at hl; omega) hh
      rw [List.map_cons, gLoop_cons, e1]
      dsimp only
      rcases e2 with e2 | e2
      · rw [e2]; exact ih'
      · rw [e2]; exact ih'
  exact main xs xs 0 b h0 (fun j => by simp) (by simp) h
/-- nothing is carried -/
theorem loop_all {ρ : En} : ∀ (xs : List α), (∀ x ∈ xs, ∃ ρ1, st (f x) ρ = some ρ1 ∧ (body ρ1 = .nx ρ ∨ body ρ1 = .ct ρ)) → gLoop st body (xs.map f) ρ = .nx ρ
  | [], _ => rfl
  | x :: xs, h => by
    obtain ⟨ρ1, e1, e2⟩ := h x List.mem_cons_self
    have ih := loop_all xs fun y hy => h y (List.mem_cons_of_mem _ hy)
    rw [List.map_cons, gLoop_cons, e1]
    dsimp only
    rcases e2 with e2 | e2
    · rw [e2]; exact ih
    · rw [e2]; exact ih
/-- a search: the first item at which the body returns -/
theorem loop_find {ρ : En} {r : α → Option R} : ∀ (xs : List α), (∀ x ∈ xs, ∃ ρ1, st (f x) ρ = some ρ1 ∧ ((r x = none ∧ (body ρ1 = .nx ρ ∨ body ρ1 = .ct ρ)) ∨ ∃ v, r x = some v ∧ body ρ1 = .rt v)) →
    gLoop st body (xs.map f) ρ = match xs.findSome? r with | some v => .rt v | none => .nx ρ
  | [], _ => rfl
  | x :: xs, h => by
    obtain ⟨ρ1, e1, e2⟩ := h x List.mem_cons_self
    have ih := loop_find xs fun y hy => h y (List.mem_cons_of_mem _ hy)
    rw [List.map_cons, gLoop_cons, e1]
    dsimp only
    rw [List.findSome?_cons]
    rcases e2 with ⟨e3, e2⟩ | ⟨v, e3, e2⟩
    · rw [e3]
      rcases e2 with e2 | e2
      · rw [e2]; exact ih
      · rw [e2]; exact ih
    · rw [e3, e2]
end
/-- a comprehension over data of one make -/
theorem lc_map {α : Type} {f : α → D} {st : D → En → Option En} {tt : En → Rs Bool} {fe : FE} {ρ : En} {p : α → Bool} {g : α → D} : ∀ (xs : List α), (∀ x ∈ xs, ∃ ρ1, st (f x) ρ = some ρ1 ∧ tt ρ1 = .ok (p x) ∧ (p x = true → ∃ r, fe ρ1 = .ok r ∧ r.fz = some (g x))) →
    lcLoop st tt fe ρ (xs.map f) = .ok ((xs.filter p).map g)
  | [], _ => rfl
  | x :: xs, h => by
    obtain ⟨ρ1, e1, e2, e3⟩ := h x List.mem_cons_self
    have ih := lc_map xs fun y hy => h y (List.mem_cons_of_mem _ hy)
    rw [List.map_cons]
    unfold lcLoop
    rw [e1]
    dsimp only
    rw [e2, Rs.bind_ok]
    cases hp : p x with
    | false =>
      rw [if_neg Bool.false_ne_true, ih, List.filter_cons_of_neg (by rw [hp]; exact Bool.false_ne_true)]
    | true =>
      obtain ⟨r, e4, e5⟩ := e3 hp
      rw [if_pos rfl, e4, Rs.bind_ok, e5]
      dsimp only
      rw [ih, Rs.bind_ok, List.filter_cons_of_pos hp, List.map_cons]
end VL
namespace VL
open PySem PySem.Spec
open PyProof.Rows L2
/-! ### evaluation, by equations -/
section
variable (a b : FS) (f fa fb fc : FE) (g : En → Rs (List R)) (t t1 t2 : En → Rs Bool) (ρ : En) (i j : Nat) (js : List Nat) (F G : D → D → Rs R) (H : List D → Rs R)
theorem ap_gSeq : gSeq a b ρ = (a ρ).bind b := rfl
theorem ap_gNext : gNext ρ = .nx ρ := rfl
theorem ap_gCont : gCont ρ = .ct ρ := rfl
theorem ap_gBreak : gBreak ρ = .bk ρ := rfl
theorem ap_gFz : gFz i a ρ = a (frz i ρ) := rfl
/-- a decided if -/
def br (r : Rs Bool) (x y : So) : So := match r with
  | .ok true => x
  | .ok false => y
  | .ex e => .ex e
  | .bad => .bad
theorem ap_gIf : gIf t a b ρ = br (t ρ) (a ρ) (b ρ) := rfl
theorem br_t (x y : So) : br (.ok true) x y = x := rfl
theorem br_f (x y : So) : br (.ok false) x y = y := rfl
theorem br_b (k : Bool) (x y : So) : br (.ok k) x y = if k = true then x else y := by cases k <;> rfl
/-- a result put to use -/
def useS (r : Rs R) (k : R → So) : So := match r with
  | .ok r => k r
  | .ex e => .ex e
  | .bad => .bad
theorem useS_ok (r : R) (k : R → So) : useS (.ok r) k = k r := rfl
theorem ap_gRet : gRet f ρ = useS (f ρ) fun r => match r with | .bw _ => .bad | r => .rt r := by
  unfold gRet useS
  cases f ρ with
  | ok r => cases r <;> rfl
  | ex e => rfl
  | bad => rfl
theorem ap_gSet : gSet i f ρ = useS (f ρ) fun r => match r.fz with | some d => .nx (ρ.set i (.fr d)) | none => .bad := rfl
theorem ap_gOwn : gOwn i f ρ = useS (f ρ) fun r => match r with | .bw _ => .bad | r => .nx (ρ.set i (slot r)) := by
  unfold gOwn useS
  cases f ρ with
  | ok r => cases r <;> rfl
  | ex e => rfl
  | bad => rfl
theorem ap_gRetV : gRetV i ρ = match ρ[i]? with | some (.fr d) => .rt (.fr d) | some (.ol xs) => .rt (.ol xs) | some (.od xs) => .rt (.od xs) | _ => .bad := rfl
theorem ap_gApp : gApp i f ρ = match ρ[i]? with | some (.ol xs) => (useS (f ρ) fun r => (match r.fz with | some d => if xs.length < sizeN then .nx (ρ.set i (.ol (xs ++ [d]))) else .bad | none => .bad)) | _ => .bad := by
  unfold gApp useS
  generalize ρ[i]? = o
  cases o with
  | none => rfl
  | some s => cases s <;> rfl
theorem ap_gAug (op : Int → Int → Int) : gAug i op f ρ = match ρ[i]? with | some (.fr (.int x)) => (useS (f ρ) fun r => (match r with | .fr (.int y) => .nx (ρ.set i (.fr (.int (op x y)))) | _ => .bad)) | _ => .bad := by
  unfold gAug useS
  generalize ρ[i]? = o
  cases o with
  | none => rfl
  | some s =>
    cases s with
    | fr d =>
      cases d with
      | int x =>
        generalize f ρ = z
        cases z with
        | ok r =>
          cases r with
          | fr d => cases d <;> rfl
          | _ => rfl
        | ex e => rfl
        | bad => rfl
      | _ => rfl
    | _ => rfl
def useL (r : Rs (List D)) (k : List D → So) : So := match r with
  | .ok r => k r
  | .ex e => .ex e
  | .bad => .bad
theorem useL_ok (r : List D) (k : List D → So) : useL (.ok r) k = k r := rfl
theorem ap_gFor (fi : En → Rs (List D)) (st : D → En → Option En) : gFor fi st a ρ = useL (fi ρ) fun ds => gLoop st a ds ρ := rfl
theorem ap_gForget : gForget js a ρ = match a ρ with | .nx ρ' => .nx (wipeE ρ' js) | .ct ρ' => .ct (wipeE ρ' js) | o => o := rfl
theorem ap_gAsg (st : D → En → Option En) : gAsg f st ρ = useS (f ρ) fun r => match r.fz with | some d => (match st d ρ with | some ρ' => .nx ρ' | none => .bad) | none => .bad := rfl
theorem ap_gSetIx (fk : FE) : gSetIx i fk f ρ = useS (f ρ) fun r => match r.fz with
    | some d => (match ρ[i]? with
      | some (.ol xs) => (match fk ρ with
        | .ok (.fr (.int k)) => (match ixN xs.length k with
          | some j => .nx (ρ.set i (.ol (xs.set j d)))
          | none => .bad)
        | _ => .bad)
      | _ => .bad)
    | none => .bad := rfl
theorem ap_fVar : fVar i ρ = match ρ[i]? with | some (.fr d) => .ok (.fr d) | some (.ol xs) => .ok (.bw (.list xs)) | some (.od xs) => .ok (.bw (.dict xs)) | _ => .bad := rfl
theorem ap_fC (d : D) : fC d ρ = .ok (.fr d) := rfl
theorem ap_fOp : fOp F fa fb ρ = (fa ρ).bind fun x => (fb ρ).bind fun y => F x.d y.d := rfl
theorem ap_fB : fB f ρ = (f ρ).bind toB := rfl
theorem ap_toB (k : Bool) : toB (.fr (.bool k)) = .ok k := rfl
theorem ap_fTr : fTr f ρ = (f ρ).bind fun r => truth r.d := rfl
theorem ap_fCall : fCall H g ρ = (g ρ).bind (callR H) := rfl
theorem ap_fBlt : fBlt H g ρ = (g ρ).bind fun rs => H (rs.map R.d) := rfl
theorem ap_fNil : fNil ρ = .ok [] := rfl
theorem ap_fCons : fCons f g ρ = (f ρ).bind fun x => (g ρ).bind fun xs => .ok (x :: xs) := rfl
theorem ap_fLst : fLst g ρ = (g ρ).bind fun rs => fzL rs .ol := rfl
theorem ap_fTup : fTup g ρ = (g ρ).bind fun rs => fzL rs fun ds => .fr (.tuple ds) := rfl
theorem ap_fzL (rs : List R) (k : List D → R) : fzL rs k = match fzAll rs with | some ds => .ok (k ds) | none => .bad := rfl
theorem fzAll_nil : fzAll [] = some [] := rfl
theorem fzAll_fr (d : D) (rs : List R) : fzAll (.fr d :: rs) = (fzAll rs).map (d :: ·) := by
  show (match (R.fr d).fz, fzAll rs with | some d, some ds => some (d :: ds) | _, _ => none) = _
  cases fzAll rs <;> rfl
theorem fzAll_ol (d : List D) (rs : List R) : fzAll (.ol d :: rs) = (fzAll rs).map (.list d :: ·) := by
  show (match (R.ol d).fz, fzAll rs with | some d, some ds => some (d :: ds) | _, _ => none) = _
  cases fzAll rs <;> rfl
theorem fzAll_od (d : List (D × D)) (rs : List R) : fzAll (.od d :: rs) = (fzAll rs).map (.dict d :: ·) := by
  show (match (R.od d).fz, fzAll rs with | some d, some ds => some (d :: ds) | _, _ => none) = _
  cases fzAll rs <;> rfl
theorem fzAll_bw (d : D) (rs : List R) : fzAll (.bw d :: rs) = none := rfl
theorem fz_fr (d : D) : (R.fr d).fz = some d := rfl
theorem fz_ol (d : List D) : (R.ol d).fz = some (.list d) := rfl
theorem fz_od (d : List (D × D)) : (R.od d).fz = some (.dict d) := rfl
theorem fz_bw (d : D) : (R.bw d).fz = none := rfl
theorem ap_callR (rs : List R) : callR H rs = match fzAll rs with | some ds => H ds | none => (H (rs.map R.d)).bind fun r => if r.flat = true then .ok r else .bad := rfl
theorem ap_fSl (l h : En → Rs (Option Int)) : fSl f l h ρ = (f ρ).bind fun r => (l ρ).bind fun lo => (h ρ).bind fun hi => dSl r.d lo hi := rfl
theorem ap_fNoP : fNoP ρ = .ok none := rfl
def oInt : R → Rs (Option Int)
  | .fr (.int i) => .ok (some i)
  | _ => .bad
theorem ap_fP : fP f ρ = (f ρ).bind oInt := by
  unfold fP
  cases f ρ with
  | ok r =>
    cases r with
    | fr d => cases d <;> rfl
    | _ => rfl
  | ex e => rfl
  | bad => rfl
theorem ap_oInt (k : Int) : oInt (.fr (.int k)) = .ok (some k) := rfl
theorem ap_fIter (o : R → Rs (List D)) : fIter f o ρ = (f ρ).bind o := rfl
theorem ap_fRng1 : fRng1 g ρ = (g ρ).bind oRng1 := rfl
theorem ap_fRng2 : fRng2 g ρ = (g ρ).bind oRng2 := rfl
theorem ap_oRng1 (k : Int) : oRng1 [.fr (.int k)] = if rngOk k = true then .ok (rng 0 k.toNat) else .bad := rfl
theorem ap_oRng2 (k l : Int) : oRng2 [.fr (.int k), .fr (.int l)] = if (rngOk k && rngOk l) = true then .ok (rng k (l - k).toNat) else .bad := rfl
theorem lo_fr (q : Bool) (ds : List D) : listOf' q (.fr (.list ds)) = .ok ds := rfl
theorem lo_ol (q : Bool) (ds : List D) : listOf' q (.ol ds) = .ok ds := rfl
theorem lo_bw (ds : List D) : listOf' true (.bw (.list ds)) = .ok ds := rfl
theorem to_fr (ds : List D) : tupOf' (.fr (.tuple ds)) = .ok ds := rfl
theorem ap_fRep : fRep fa fb ρ = (fa ρ).bind fun x => (fb ρ).bind fun y => oRep x y := rfl
def repD (k : Nat) (xs : List D) : List D := (List.replicate k xs).flatten
theorem ap_oRep (xs : List D) (k : Int) : oRep (.ol xs) (.fr (.int k)) = if (decide (0 ≤ k) && decide (k ≤ 1000000) && decide (xs.length * k.toNat ≤ sizeN)) = true then .ok (.ol (repD k.toNat xs)) else .bad := rfl
def brR (r : R) (x y : Rs R) : Rs R := match r with
  | .fr (.bool true) => x
  | .fr (.bool false) => y
  | _ => .bad
theorem brR_b (k : Bool) (x y : Rs R) : brR (.fr (.bool k)) x y = if k = true then x else y := by cases k <;> rfl
theorem ap_fAnd : fAnd fa fb ρ = (fa ρ).bind fun r => brR r (fb ρ) (.ok (.fr (.bool false))) := by
  unfold fAnd
  cases fa ρ with
  | ok r =>
    cases r with
    | fr d =>
      cases d with
      | bool k => cases k <;> rfl
      | _ => rfl
    | _ => rfl
  | ex e => rfl
  | bad => rfl
theorem ap_fOr : fOr fa fb ρ = (fa ρ).bind fun r => brR r (.ok (.fr (.bool true))) (fb ρ) := by
  unfold fOr
  cases fa ρ with
  | ok r =>
    cases r with
    | fr d =>
      cases d with
      | bool k => cases k <;> rfl
      | _ => rfl
    | _ => rfl
  | ex e => rfl
  | bad => rfl
def notR : R → Rs R
  | .fr (.bool b) => .ok (.fr (.bool (!b)))
  | _ => .bad
theorem ap_fNot : fNot fa ρ = (fa ρ).bind notR := by
  unfold fNot
  cases fa ρ with
  | ok r =>
    cases r with
    | fr d => cases d <;> rfl
    | _ => rfl
  | ex e => rfl
  | bad => rfl
theorem ap_notR (k : Bool) : notR (.fr (.bool k)) = .ok (.fr (.bool (!k))) := rfl
theorem ap_fNeg : fNeg fa ρ = (fa ρ).bind fun r => dNeg r.d := rfl
theorem ap_dNeg (k : Int) : dNeg (.int k) = .ok (.fr (.int (-k))) := rfl
theorem ap_fIf : fIf t fa fb ρ = (t ρ).bind fun k => if k = true then fa ρ else fb ρ := rfl
theorem ap_fChain : fChain F G fa fb fc ρ = (fa ρ).bind fun x => (fb ρ).bind fun y => (F x.d y.d).bind fun z => brR z ((fc ρ).bind fun w => G y.d w.d) (.ok (.fr (.bool false))) := by
  unfold fChain
  cases fa ρ with
  | ok x =>
    cases fb ρ with
    | ok y =>
      simp only [Rs.bind_ok]
      cases F x.d y.d with
      | ok z =>
        cases z with
        | fr d =>
          cases d with
          | bool k => cases k <;> rfl
          | _ => rfl
        | _ => rfl
      | ex e => rfl
      | bad => rfl
    | ex e => rfl
    | bad => rfl
  | ex e => rfl
  | bad => rfl
theorem ap_fLc (fi : En → Rs (List D)) (st : D → En → Option En) (vs : List Nat) : fLc fi st t f vs ρ = (fi ρ).bind fun ds => (lcLoop st t f (wipeE ρ vs) ds).bind fun ys => .ok (.ol ys) := rfl
theorem ap_tAndB : tAndB t1 t2 ρ = (t1 ρ).bind fun k => if k = true then t2 ρ else .ok false := rfl
theorem ap_tOrB : tOrB t1 t2 ρ = (t1 ρ).bind fun k => if k = true then .ok true else t2 ρ := rfl
theorem ap_tNotB : tNotB t1 ρ = (t1 ρ).bind fun k => .ok (!k) := rfl
theorem ap_ttYes : ttYes ρ = .ok true := rfl
theorem tr_bool (k : Bool) : truth (.bool k) = .ok k := rfl
theorem tr_list (ds : List D) : truth (.list ds) = .ok (!ds.isEmpty) := rfl
theorem tr_tuple (ds : List D) : truth (.tuple ds) = .ok (!ds.isEmpty) := rfl
theorem tr_none : truth .none = .ok false := rfl
theorem tr_int (k : Int) : truth (.int k) = .ok (k != 0) := rfl
theorem ap_sName (d : D) : sName i d ρ = some (ρ.set i (.fr d)) := rfl
theorem ap_sTup (ds : List D) (s : List D → En → Option En) : sTup s (.tuple ds) ρ = s ds ρ := rfl
theorem ap_sCons (d : D) (ds : List D) (s : D → En → Option En) (u : List D → En → Option En) : sCons s u (d :: ds) ρ = (s d ρ).bind (u ds) := rfl
theorem ap_sNil : sNil [] ρ = some ρ := rfl
theorem w_nil : wipeE ρ [] = ρ := rfl
theorem w_cons : wipeE ρ (i :: js) = (wipeE ρ js).set i .un := rfl
theorem slot_fr (d : D) : slot (.fr d) = .fr d := rfl
theorem slot_ol (d : List D) : slot (.ol d) = .ol d := rfl
theorem slot_od (d : List (D × D)) : slot (.od d) = .od d := rfl
theorem ap_frz : frz i ρ = match ρ[i]? with | some (.ol xs) => ρ.set i (.fr (.list xs)) | some (.od xs) => ρ.set i (.fr (.dict xs)) | _ => ρ := rfl
end
/-! operations -/
theorem add_ii (i j : Int) : dAdd (.int i) (.int j) = .ok (.fr (.int (i + j))) := rfl
theorem add_tt (x y : List D) : dAdd (.tuple x) (.tuple y) = if x.length + y.length ≤ sizeN then .ok (.fr (.tuple (x ++ y))) else .bad := rfl
theorem add_ll (x y : List D) : dAdd (.list x) (.list y) = if x.length + y.length ≤ sizeN then .ok (.ol (x ++ y)) else .bad := rfl
theorem add_ss (x y : Str) : dAdd (.str x) (.str y) = if x.length + y.length ≤ sizeN then .ok (.fr (.str (x ++ y))) else .bad := rfl
theorem sub_ii (i j : Int) : dSub (.int i) (.int j) = .ok (.fr (.int (i - j))) := rfl
theorem mul_ii (i j : Int) : dMul (.int i) (.int j) = if cMul i j = true then .ok (.fr (.int (i * j))) else .bad := rfl
theorem mod_ii (i j : Int) : dMod (.int i) (.int j) = if decide (0 < j) = true then .ok (.fr (.int (i % j))) else .bad := rfl
theorem div_ii (i j : Int) : dDiv (.int i) (.int j) = if (decide (0 < j) && decide (j < 1073741824)) = true then .ok (.fr (.int (i / j))) else .bad := rfl
theorem pow_ii (i j : Int) : dPow (.int i) (.int j) = if (decide (0 ≤ j) && decide (j ≤ 1000) && decide (i.natAbs < 2 ^ 64)) = true then .ok (.fr (.int (i ^ j.toNat))) else .bad := rfl
theorem lt_ii (i j : Int) : dLt (.int i) (.int j) = .ok (.fr (.bool (decide (i < j)))) := rfl
theorem le_ii (i j : Int) : dLe (.int i) (.int j) = .ok (.fr (.bool (decide (i ≤ j)))) := rfl
theorem gt_ii (i j : Int) : dGt (.int i) (.int j) = .ok (.fr (.bool (decide (j < i)))) := rfl
theorem ge_ii (i j : Int) : dGe (.int i) (.int j) = .ok (.fr (.bool (decide (j ≤ i)))) := rfl
theorem isn_ (d : D) : dIsN d .none = .ok (.fr (.bool (isNone d))) := rfl
theorem notn_ (d : D) : dNotN d .none = .ok (.fr (.bool (!isNone d))) := rfl
theorem isNone_n : isNone .none = true := rfl
theorem isNone_i (i : Int) : isNone (.int i) = false := rfl
theorem isNone_t (i : List D) : isNone (.tuple i) = false := rfl
theorem isNone_l (i : List D) : isNone (.list i) = false := rfl
theorem isNone_s (i : Str) : isNone (.str i) = false := rfl
theorem isNone_b (i : Bool) : isNone (.bool i) = false := rfl
/-! data that == knows: no dict, depth at most n -/
def rk : Nat → D → Bool
  | _, .none => true
  | _, .bool _ => true
  | _, .int _ => true
  | _, .str _ => true
  | 0, _ => false
  | n + 1, .list ds => ds.all (rk n)
  | n + 1, .tuple ds => ds.all (rk n)
  | _ + 1, .dict _ => false
theorem rk_none (n : Nat) : rk n .none = true := by cases n <;> rfl
theorem rk_bool (n : Nat) (b : Bool) : rk n (.bool b) = true := by cases n <;> rfl
theorem rk_int (n : Nat) (b : Int) : rk n (.int b) = true := by cases n <;> rfl
theorem rk_str (n : Nat) (b : Str) : rk n (.str b) = true := by cases n <;> rfl
theorem rk_list (n : Nat) (ds : List D) : rk (n + 1) (.list ds) = ds.all (rk n) := rfl
theorem rk_tuple (n : Nat) (ds : List D) : rk (n + 1) (.tuple ds) = ds.all (rk n) := rfl
theorem rk_sound : ∀ (n : Nat) (d : D), rk n d = true → d.plain = true ∧ d.depth ≤ n
  | n, .none, _ => ⟨rfl, by simp [PyData.depth]⟩
  | n, .bool _, _ => ⟨rfl, by simp [PyData.depth]⟩
  | n, .int _, _ => ⟨rfl, by simp [PyData.depth]⟩
  | n, .str _, _ => ⟨rfl, by simp [PyData.depth]⟩
  | 0, .list _, h => by cases h
  | 0, .tuple _, h => by cases h
  | 0, .dict _, h => by cases h
  | n + 1, .dict _, h => by cases h
  | n + 1, .list ds, h => by
    have key : ∀ ds : List D, ds.all (rk n) = true → PyData.plainAll ds = true ∧ PyData.depthAll ds ≤ n := fun ds => by
      induction ds with
      | nil => intro _; exact ⟨rfl, by simp [PyData.depthAll]⟩
      | cons d ds ih =>
        intro h
        rw [List.all_cons, Bool.and_eq_true] at h
        obtain ⟨h1, h2⟩ := rk_sound n d h.1
        obtain ⟨h3, h4⟩ := ih h.2
        refine ⟨?_, ?_⟩
        · show (d.plain && PyData.plainAll ds) = true
          rw [h1, h3]; rfl
        · simp only [PyData.depthAll]; omega
    obtain ⟨h1, h2⟩ := key ds h
    exact ⟨h1, by simp only [PyData.depth]; omega⟩
  | n + 1, .tuple ds, h => by
    have key : ∀ ds : List D, ds.all (rk n) = true → PyData.plainAll ds = true ∧ PyData.depthAll ds ≤ n := fun ds => by
      induction ds with
      | nil => intro _; exact ⟨rfl, by simp [PyData.depthAll]⟩
      | cons d ds ih =>
        intro h
        rw [List.all_cons, Bool.and_eq_true] at h
        obtain ⟨h1, h2⟩ := rk_sound n d h.1
        obtain ⟨h3, h4⟩ := ih h.2
        refine ⟨?_, ?_⟩
        · show (d.plain && PyData.plainAll ds) = true
          rw [h1, h3]; rfl
        · simp only [PyData.depthAll]; omega
    obtain ⟨h1, h2⟩ := key ds h
    exact ⟨h1, by simp only [PyData.depth]; omega⟩
theorem ok_rk {d : D} (h : rk 20 d = true) : okD d = true := by
  obtain ⟨h1, h2⟩ := rk_sound 20 d h
  unfold okD
  rw [h1, decide_eq_true (by omega)]
  rfl
theorem eq_rk {d e : D} (h1 : rk 20 d = true) (h2 : rk 20 e = true) : dEq d e = .ok (.fr (.bool (PyData.eqv d e))) := by
  unfold dEq
  rw [ok_rk h1, ok_rk h2]
  rfl
theorem ne_rk {d e : D} (h1 : rk 20 d = true) (h2 : rk 20 e = true) : dNe d e = .ok (.fr (.bool (!PyData.eqv d e))) := by
  unfold dNe
  rw [ok_rk h1, ok_rk h2]
  rfl
theorem inl_rk {d : D} {ds : List D} (neg : Bool) (h1 : rk 20 d = true) (h2 : rk 20 (.list ds) = true) : dIn neg d (.list ds) = dInB neg (ds.any fun y => PyData.eqv y d) := by
  unfold dIn
  simp only [ok_rk h1, ok_rk h2, Bool.and_self, if_true]
theorem int_rk {d : D} {ds : List D} (neg : Bool) (h1 : rk 20 d = true) (h2 : rk 20 (.tuple ds) = true) : dIn neg d (.tuple ds) = dInB neg (ds.any fun y => PyData.eqv y d) := by
  unfold dIn
  simp only [ok_rk h1, ok_rk h2, Bool.and_self, if_true]
theorem inB_f (b : Bool) : dInB false b = .ok (.fr (.bool b)) := rfl
theorem inB_t (b : Bool) : dInB true b = .ok (.fr (.bool (!b))) := rfl
theorem ix_l (ds : List D) (i : Int) : dIx (.list ds) (.int i) = atD ds i := rfl
theorem ix_t (ds : List D) (i : Int) : dIx (.tuple ds) (.int i) = atD ds i := rfl
theorem atD_eq (ds : List D) (i : Int) : atD ds i = match atI ds i with | some d => .ok (.fr d) | none => .bad := rfl
theorem atI_0 {α : Type} (a : α) (l : List α) : atI (a :: l) 0 = some a := atI_nat (j := 0) rfl
theorem atI_1 {α : Type} (a b : α) (l : List α) : atI (a :: b :: l) 1 = some b := atI_nat (j := 1) rfl
theorem atI_2 {α : Type} (a b c : α) (l : List α) : atI (a :: b :: c :: l) 2 = some c := atI_nat (j := 2) rfl
theorem atI_3 {α : Type} (a b c d : α) (l : List α) : atI (a :: b :: c :: d :: l) 3 = some d := atI_nat (j := 3) rfl
theorem atI_4 {α : Type} (a b c d e : α) (l : List α) : atI (a :: b :: c :: d :: e :: l) 4 = some e := atI_nat (j := 4) rfl
theorem atI_5 {α : Type} (a b c d e f : α) (l : List α) : atI (a :: b :: c :: d :: e :: f :: l) 5 = some f := atI_nat (j := 5) rfl
theorem atI_6 {α : Type} (a b c d e f g : α) (l : List α) : atI (a :: b :: c :: d :: e :: f :: g :: l) 6 = some g := atI_nat (j := 6) rfl
theorem atI_7 {α : Type} (a b c d e f g h : α) (l : List α) : atI (a :: b :: c :: d :: e :: f :: g :: h :: l) 7 = some h := atI_nat (j := 7) rfl
theorem atI_ofNat {α : Type} (l : List α) (i : Nat) : atI l (i : Int) = l[i]? := by
  cases e : l[i]? with
  | some v => exact atI_nat e
  | none =>
    unfold atI ixN
    have h := List.getElem?_eq_none_iff.mp e
    rw [if_pos (by omega), if_neg (by omega)]
    rfl
theorem atI_pos {α : Type} {l : List α} {i : Int} (h : 0 ≤ i) : atI l i = l[i.toNat]? := by
  obtain ⟨n, rfl⟩ := Int.eq_ofNat_of_zero_le h
  rw [atI_ofNat]
  rfl
theorem atI_out {α : Type} {l : List α} {i : Int} (h : (l.length : Int) ≤ i) : atI l i = none := by
  unfold atI ixN
  rw [if_pos (by omega), if_neg (by omega)]
  rfl
theorem atI_map {α β : Type} (f : α → β) (l : List α) (i : Int) : atI (l.map f) i = (atI l i).map f := by
  unfold atI
  rw [List.length_map]
  cases ixN l.length i with
  | none => rfl
  | some j => simp
theorem sl_l (ds : List D) (lo hi : Option Int) : dSl (.list ds) lo hi = .ok (.ol (cutD ds lo hi)) := rfl
theorem sl_t (ds : List D) (lo hi : Option Int) : dSl (.tuple ds) lo hi = .ok (.fr (.tuple (cutD ds lo hi))) := rfl
theorem cut_from {α : Type} (l : List α) (i : Int) (h : 0 ≤ i) : cutD l (some i) none = l.drop i.toNat := by
  unfold cutD HT.sIx
  simp only [if_neg (show ¬ i < 0 by omega)]
  rw [List.take_of_length_le (by rw [List.length_drop]; omega)]
  by_cases h2 : i.toNat ≤ l.length
  · rw [Nat.min_eq_left h2]
  · rw [Nat.min_eq_right (by omega), List.drop_of_length_le (Nat.le_refl _), List.drop_of_length_le (by omega)]
theorem cut_to {α : Type} (l : List α) (i : Int) (h : 0 ≤ i) : cutD l none (some i) = l.take i.toNat := by
  unfold cutD HT.sIx
  simp only [if_neg (show ¬ i < 0 by omega), List.drop_zero, Nat.sub_zero]
  by_cases h2 : i.toNat ≤ l.length
  · rw [Nat.min_eq_left h2]
  · rw [Nat.min_eq_right (by omega), List.take_of_length_le (Nat.le_refl _), List.take_of_length_le (by omega)]
theorem len_l (ds : List D) : dLen [.list ds] = .ok (.fr (.int ds.length)) := rfl
theorem len_t (ds : List D) : dLen [.tuple ds] = .ok (.fr (.int ds.length)) := rfl
theorem min_ii (i j : Int) : dMin2 [.int i, .int j] = .ok (.fr (.int (if j < i then j else i))) := rfl
theorem max_ii (i j : Int) : dMax2 [.int i, .int j] = .ok (.fr (.int (if j > i then j else i))) := rfl
theorem list_l (ds : List D) : dListOf [.list ds] = .ok (.ol ds) := rfl
theorem list_t (ds : List D) : dListOf [.tuple ds] = .ok (.ol ds) := rfl
theorem tuple_l (ds : List D) : dTupOf [.list ds] = .ok (.fr (.tuple ds)) := rfl
theorem tuple_t (ds : List D) : dTupOf [.tuple ds] = .ok (.fr (.tuple ds)) := rfl
theorem int_i (i : Int) : dInt1 [.int i] = .ok (.fr (.int i)) := rfl
theorem int_b (i : Bool) : dInt1 [.bool i] = .ok (.fr (.int (if i = true then 1 else 0))) := rfl
theorem sorted_l {ds : List D} (h1 : rk 20 (.list ds) = true) (h2 : alikeB ds = true) (h3 : sortableB ds = true) : dSorted [.list ds] = .ok (.ol (ds.mergeSort dleD)) := by
  unfold dSorted
  simp only [ok_rk h1, h2, h3, Bool.and_self, if_true]
/-! equality of data -/
theorem ofString_inj {a b : String} : (Str.ofString a = Str.ofString b) = (a = b) := by
  refine propext ⟨fun h => ?_, fun h => by rw [h]⟩
  have h1 : (cpsOfBytes 0 0 a.toByteArray.data.toList).toArray = (cpsOfBytes 0 0 b.toByteArray.data.toList).toArray := congrArg Str.cps h
  have h2 : cpsOfBytes 0 0 a.toByteArray.data.toList = cpsOfBytes 0 0 b.toByteArray.data.toList := by
    have := congrArg Array.toList h1
    simpa using this
  rw [cpsOfBytes_string, cpsOfBytes_string] at h2
  have inj : ∀ (x y : List Char), x.map Char.toNat = y.map Char.toNat → x = y := by
    intro x
    induction x with
    | nil => intro y h; cases y with
      | nil => rfl
      | cons c y => cases h
    | cons c x ih =>
      intro y h
      cases y with
      | nil => cases h
      | cons d y =>
        rw [List.map_cons, List.map_cons] at h
        injection h with e1 e2
        have : c = d := Char.ext (UInt32.toNat_inj.mp e1)
        rw [this, ih y e2]
  exact String.toList_inj.mp (inj _ _ h2)
theorem eqv_ii (i j : Int) : PyData.eqv (.int i) (.int j) = decide (i = j) := by
  unfold PyData.eqv
  exact Bool.beq_eq_decide_eq i j
theorem eqv_ss (i j : Str) : PyData.eqv (.str i) (.str j) = decide (i = j) := by
  unfold PyData.eqv
  exact Bool.beq_eq_decide_eq i j
theorem eqv_bb (i j : Bool) : PyData.eqv (.bool i) (.bool j) = decide (i = j) := by
  unfold PyData.eqv
  exact Bool.beq_eq_decide_eq i j
theorem eqv_nn : PyData.eqv .none .none = true := by unfold PyData.eqv; rfl
theorem eqv_ni (j : Int) : PyData.eqv .none (.int j) = false := by unfold PyData.eqv; rfl
theorem eqv_in (j : Int) : PyData.eqv (.int j) .none = false := by unfold PyData.eqv; rfl
theorem eqv_is (i : Int) (j : Str) : PyData.eqv (.int i) (.str j) = false := by unfold PyData.eqv; rfl
theorem eqv_si (i : Int) (j : Str) : PyData.eqv (.str j) (.int i) = false := by unfold PyData.eqv; rfl
theorem eqv_ns (j : Str) : PyData.eqv .none (.str j) = false := by unfold PyData.eqv; rfl
theorem eqv_sn (j : Str) : PyData.eqv (.str j) .none = false := by unfold PyData.eqv; rfl
theorem eqv_ll (i j : List D) : PyData.eqv (.list i) (.list j) = PyData.eqvAll i j := by rw [PyData.eqv]
theorem eqv_tt (i j : List D) : PyData.eqv (.tuple i) (.tuple j) = PyData.eqvAll i j := by rw [PyData.eqv]
theorem eqva_nn : PyData.eqvAll [] [] = true := by rw [PyData.eqvAll]
theorem eqva_cc (x y : D) (i j : List D) : PyData.eqvAll (x :: i) (y :: j) = (PyData.eqv x y && PyData.eqvAll i j) := by rw [PyData.eqvAll]
theorem eqva_nc (y : D) (j : List D) : PyData.eqvAll [] (y :: j) = false := by rw [PyData.eqvAll]
theorem eqva_cn (y : D) (j : List D) : PyData.eqvAll (y :: j) [] = false := by rw [PyData.eqvAll]
theorem eqva_map {α : Type} {f : α → D} [DecidableEq α] (h : ∀ x y, PyData.eqv (f x) (f y) = decide (x = y)) : ∀ xs ys : List α, PyData.eqvAll (xs.map f) (ys.map f) = decide (xs = ys)
  | [], [] => by rw [List.map_nil, eqva_nn]; rfl
  | [], y :: ys => by rw [List.map_nil, List.map_cons, eqva_nc]; rfl
  | x :: xs, [] => by rw [List.map_nil, List.map_cons, eqva_cn]; rfl
  | x :: xs, y :: ys => by
    rw [List.map_cons, List.map_cons, eqva_cc, h, eqva_map h xs ys]
    by_cases e1 : x = y
    · by_cases e2 : xs = ys
      · simp [e1, e2]
      · simp [e1, e2]
    · simp [e1]
theorem eqv_self : ∀ (d : D), d.plain = true → PyData.eqv d d = true
  | .none, _ => eqv_nn
  | .bool b, _ => by rw [eqv_bb]; simp
  | .int b, _ => by rw [eqv_ii]; simp
  | .str b, _ => by rw [eqv_ss]; simp
  | .list ds, h => by rw [eqv_ll]; exact eqva_self ds h
  | .tuple ds, h => by rw [eqv_tt]; exact eqva_self ds h
  | .dict _, h => by cases h
where
  eqva_self : ∀ ds : List D, PyData.plainAll ds = true → PyData.eqvAll ds ds = true
  | [], _ => eqva_nn
  | d :: ds, h => by
    have h' : (d.plain && PyData.plainAll ds) = true := h
    rw [Bool.and_eq_true] at h'
    rw [eqva_cc, eqv_self d h'.1, eqva_self ds h'.2]
    rfl
theorem eqv_refl {d : D} (h : rk 20 d = true) : PyData.eqv d d = true := eqv_self d (rk_sound 20 d h).1
theorem any_map_eqv {α : Type} {f : α → D} [DecidableEq α] (h : ∀ x y, PyData.eqv (f x) (f y) = decide (x = y)) (xs : List α) (y : α) : ((xs.map f).any fun z => PyData.eqv z (f y)) = decide (y ∈ xs) := by
  rw [List.any_map, Bool.eq_iff_iff, List.any_eq_true]
  simp only [Function.comp, h, decide_eq_true_eq]
  constructor
  · rintro ⟨x, hx, rfl⟩; exact hx
  · intro hy; exact ⟨y, hy, rfl⟩
theorem all_map_rk {α : Type} {f : α → D} {n : Nat} (h : ∀ x, rk n (f x) = true) (xs : List α) : (xs.map f).all (rk n) = true := by
  rw [List.all_eq_true]
  intro d hd
  obtain ⟨x, _, rfl⟩ := List.mem_map.mp hd
  exact h x
/-! ifs that are not decided -/
theorem okite1 (c k : Bool) : (if c = true then Rs.ok true else Rs.ok k) = Rs.ok (c || k) := by cases c <;> rfl
theorem okite2 (c k : Bool) : (if c = true then Rs.ok k else Rs.ok false) = Rs.ok (c && k) := by cases c <;> rfl
theorem bind_ite (c : Prop) [Decidable c] (a b : So) (g : FS) : (if c then a else b).bind g = if c then a.bind g else b.bind g := by split <;> rfl
theorem rbind_ite {α β : Type} (c : Prop) [Decidable c] (a b : Rs α) (g : α → Rs β) : (if c then a else b).bind g = if c then a.bind g else b.bind g := by split <;> rfl
/-- a def's end -/
def fin (o : So) : Rs R := match o with
  | .nx _ => .ok (.fr .none)
  | .rt (.bw _) => .bad
  | .rt r => .ok r
  | .ex e => .ex e
  | _ => .bad
theorem fin_ite (c : Prop) [Decidable c] (a b : So) : fin (if c then a else b) = if c then fin a else fin b := by split <;> rfl
theorem fin_rt_fr (d : D) : fin (.rt (.fr d)) = .ok (.fr d) := rfl
theorem fin_rt_ol (d : List D) : fin (.rt (.ol d)) = .ok (.ol d) := rfl
theorem fin_nx (ρ : En) : fin (.nx ρ) = .ok (.fr .none) := rfl
theorem fin_bad : fin .bad = .bad := rfl
theorem fnR_eq (n : Nat) (g : FS) (ds : List D) : fnR n g ds = fin (g (ds.map Sl.fr ++ List.replicate (n - ds.length) Sl.un)) := by
  unfold fnR fin
  cases g (ds.map Sl.fr ++ List.replicate (n - ds.length) Sl.un) with
  | rt r => cases r <;> rfl
  | _ => rfl
/-- a loop, by what holds between its turns -/
theorem loop_ex {α β : Type} {f : α → D} {E : β → En} {st : D → En → Option En} {body : FS} (Q : Nat → β → Prop) (xs : List α) (b : β) (h0 : Q 0 b) (h : ∀ i b x, xs[i]? = some x → Q i b → ∃ b', Q (i + 1) b' ∧ ∃ ρ1, st (f x) (E b) = some ρ1 ∧ (body ρ1 = .nx (E b') ∨ body ρ1 = .ct (E b'))) :
    ∃ b', Q xs.length b' ∧ gLoop st body (xs.map f) (E b) = .nx (E b') := by
  have main : ∀ (ys : List α) (i : Nat) (b : β), Q i b → (∀ j, ys[j]? = xs[i + j]?) → ys.length + i = xs.length → ∃ b', Q xs.length b' ∧ gLoop st body (ys.map f) (E b) = .nx (E b') := by
    intro ys
    induction ys with
    | nil =>
      intro i b hb _ hl
      simp only [List.length_nil] at hl
      have e : i = xs.length := by omega
      exact ⟨b, e ▸ hb, rfl⟩
    | cons y ys ih =>
      intro i b hb hj hl
      obtain ⟨b1, h1, ρ1, e1, e2⟩ := h i b y (by have := hj 0; simpa using this.symm) hb
      obtain ⟨b', h2, h3⟩ := ih (i + 1) b1 h1 (fun j => by have := hj (j + 1); rw [show i + 1 + j = i + (j + 1) by omega, ← this]; simp) (by simp only [List.length_cons] at hl; omega)
      refine ⟨b', h2, ?_⟩
      rw [List.map_cons, gLoop_cons, e1]
      dsimp only
      rcases e2 with e2 | e2
      · rw [e2]; exact h3
      · rw [e2]; exact h3
  exact main xs 0 b h0 (fun j => by simp) (by simp)
theorem All2.snoc {α β : Type} {P : α → β → Prop} {a : α} {b : β} (r : P a b) : ∀ {as : List α} {bs : List β}, All2 P as bs → All2 P (as ++ [a]) (bs ++ [b])
  | _, _, .nil => .cons r .nil
  | _, _, .cons q t => .cons q (All2.snoc r t)
theorem range_at {n i x : Nat} (h : (List.range n)[i]? = some x) : x = i ∧ i < n := by
  obtain ⟨h1, h2⟩ := List.getElem?_eq_some_iff.mp h
  rw [List.length_range] at h1
  rw [List.getElem_range] at h2
  exact ⟨h2.symm, h1⟩
theorem take_at {α : Type} {l : List α} {i : Nat} {x : α} (h : l[i]? = some x) : l.take (i + 1) = l.take i ++ [x] := by
  obtain ⟨h1, h2⟩ := List.getElem?_eq_some_iff.mp h
  rw [List.take_succ_eq_append_getElem h1, h2]
end VL
namespace VL
open PySem PySem.Spec
open PyProof.Rows L2
local macro_rules | `(tactic| walk_at "vl") => `(tactic| simp only [fnR_eq, ap_gSeq, ap_gNext, ap_gCont, ap_gBreak, ap_gFz, ap_gIf, br_t, br_f, br_b, useS_ok, ap_gRet, ap_gSet, ap_gOwn, ap_gRetV, ap_gApp, ap_gAug, useL_ok, ap_gFor, ap_gForget, ap_gAsg, ap_gSetIx, ap_fVar, ap_fC, ap_fOp, ap_fB, ap_toB, ap_fTr, ap_fCall, ap_fBlt, ap_fNil, ap_fCons, ap_fLst, ap_fTup, ap_fzL, fzAll_nil, fzAll_fr, fzAll_ol, fzAll_od, fzAll_bw, fz_fr, fz_ol, fz_od, fz_bw, ap_callR, ap_fSl, ap_fNoP, ap_fP, ap_oInt, ap_fIter, ap_fRng1, ap_fRng2, ap_oRng1, ap_oRng2, lo_fr, lo_ol, lo_bw, to_fr, ap_fRep, ap_oRep, okite1, okite2, bind_ite, rbind_ite, fin_ite, fin_rt_fr, fin_rt_ol, fin_nx, fin_bad, brR_b, ap_fAnd, ap_fOr, ap_fNot, ap_notR, ap_fNeg, ap_dNeg, ap_fIf, ap_fChain, ap_fLc, ap_tAndB, ap_tOrB, ap_tNotB, ap_ttYes, tr_bool, tr_list, tr_tuple, tr_none, tr_int, ap_sName, ap_sTup, ap_sCons, ap_sNil, w_nil, w_cons, slot_fr, slot_ol, slot_od, ap_frz, add_ii, add_tt, add_ll, add_ss, sub_ii, mul_ii, mod_ii, div_ii, pow_ii, lt_ii, le_ii, gt_ii, ge_ii, isn_, notn_, isNone_n, isNone_i, isNone_t, isNone_l, isNone_s, isNone_b, rk_none, rk_bool, rk_int, rk_str, rk_list, rk_tuple, eq_rk, ne_rk, inl_rk, int_rk, inB_f, inB_t, ix_l, ix_t, atD_eq, atI_0, atI_1, atI_2, atI_3, atI_4, atI_5, atI_6, atI_7, atI_map, sl_l, sl_t, len_l, len_t, min_ii, max_ii, list_l, list_t, tuple_l, tuple_t, int_i, int_b, ofString_inj, eqv_ii, eqv_ss, eqv_bb, eqv_nn, eqv_ni, eqv_in, eqv_is, eqv_si, eqv_ns, eqv_sn, eqv_ll, eqv_tt, eqva_nn, eqva_cc, eqva_nc, eqva_cn, Rs.bind_ok, Rs.bind_bad, So.bind_nx, So.bind_rt, So.bind_ct, So.bind_bk, So.bind_bad, R.d_fr, R.d_ol, R.d_od, R.d_bw, R.flat,
  List.map_cons, List.map_nil, List.length_cons, List.length_nil, List.length_map, List.replicate_succ, List.replicate_zero, List.cons_append, List.nil_append, List.append_nil, List.getElem?_cons_zero, List.getElem?_cons_succ, List.set_cons_zero, List.set_cons_succ, List.all_cons, List.all_nil, List.any_cons, List.any_nil, Nat.zero_add, Nat.add_one_sub_one, Nat.reduceAdd, Nat.reduceSub, Nat.reduceMul, Nat.reduceLeDiff, Int.cast_ofNat_Int, Int.reduceLT, Int.reduceLE, Int.reduceAdd, Int.reduceMul, Int.reduceEq, Int.reduceNe, Int.reduceToNat, Int.reduceNeg, Int.reducePow, String.reduceEq, decide_true, decide_false, Bool.false_eq_true, Bool.or_true, Bool.or_false, Bool.true_or, Bool.false_or, Bool.and_true, Bool.true_and, Bool.and_false, Bool.false_and, Bool.not_true, Bool.not_false, Bool.and_self, Bool.or_self, if_true, if_false, ite_true, ite_false, reduceIte, Option.bind_some, Option.bind_none, Option.map_some, Option.map_none, and_self, and_true, true_and, eq_self])
/-! ### a law's own readers of the script -/
def gCell : FS := gSeq (gIf (fB (fOp dLt (fVar 1) (fBlt dLen (fCons (fVar 0) (fNil))))) (gRet (fOp dIx (fVar 0) (fVar 1))) (gNext)) (gRet (fC (.int 0)))
def FCell : List D → Rs R := fnR 2 gCell
def cellI (ns : List Int) (k : Nat) : Int := ns.getD k 0
theorem cell_eq (ns : List Int) (k : Nat) : FCell [.list (ns.map .int), .int k] = .ok (.fr (.int (cellI ns k))) := by
  unfold FCell gCell
  walk_at "vl"
  by_cases h : (k : Int) < (ns.length : Int)
  · have h' : k < ns.length := by omega
    simp only [h, decide_true, if_true, atI_ofNat, List.getElem?_eq_getElem h', Option.map_some]
    walk_at "vl"
    unfold cellI
    rw [List.getD_eq_getElem?_getD, List.getElem?_eq_getElem h']
    rfl
  · have h' : ns.length ≤ k := by omega
    simp only [h, decide_false, Bool.false_eq_true, if_false]
    try walk_at "vl"
    unfold cellI
    rw [List.getD_eq_getElem?_getD, List.getElem?_eq_none h']
    rfl
def gDraw : FS := gSeq (gSet 3 (fCall FCell (fCons (fVar 0) (fCons (fVar 1) (fNil))))) (gSeq (gIf (fB (fOp dLt (fVar 3) (fC (.int 0)))) (gSet 3 (fNeg (fVar 3))) (gNext)) (gSeq (gOwn 4 (fLst (fNil))) (gSeq (gIf (fB (fOp dGe (fVar 3) (fOp dPow (fC (.int 10)) (fC (.int 18))))) (gSeq (gSet 3 (fOp dSub (fVar 3) (fOp dPow (fC (.int 10)) (fC (.int 18))))) (gSeq (gFor (fIter (fVar 2) (listOf' false)) (sName 7) (gForget [7] (gSeq (gApp 4 (fOp dMod (fVar 3) (fVar 7))) (gSet 3 (fOp dDiv (fVar 3) (fVar 7)))))) (gRetV 4))) (gNext)) (gSeq (gSet 5 (fOp dMod (fOp dAdd (fOp dAdd (fVar 3) (fC (.int 1))) (fOp dMul (fC (.int 31)) (fVar 1))) (fC (.int 2147483647)))) (gSeq (gFor (fRng1 (fCons (fBlt dLen (fCons (fVar 2) (fNil))) (fNil))) (sName 6) (gForget [6] (gSeq (gSet 5 (fOp dMod (fOp dAdd (fOp dAdd (fOp dMul (fVar 5) (fC (.int 48271))) (fC (.int 11))) (fVar 6)) (fC (.int 2147483647)))) (gSeq (gSet 5 (fOp dMod (fOp dAdd (fOp dMul (fVar 5) (fC (.int 69621))) (fC (.int 3))) (fC (.int 2147483647)))) (gApp 4 (fOp dMod (fOp dDiv (fVar 5) (fC (.int 7))) (fOp dIx (fVar 2) (fVar 6)))))))) (gRetV 4))))))
def FDraw : List D → Rs R := fnR 8 gDraw
theorem cMul_31 (k : Int) : cMul 31 k = true := by simp [cMul]
theorem cMul_a (k : Int) : cMul k 48271 = true := by simp [cMul]
theorem cMul_b (k : Int) : cMul k 69621 = true := by simp [cMul]
theorem sz_small {n : Nat} (h : n ≤ 1000000) : n < sizeN := by unfold sizeN; omega
theorem szle_small {n : Nat} (h : n ≤ 1000000) : n ≤ sizeN := by unfold sizeN; omega
theorem rngOk_n {n : Nat} (h : n ≤ 8000000) : rngOk (n : Int) = true := by
  unfold rngOk
  rw [decide_eq_true (by omega), decide_eq_true (by omega)]
  rfl
def gDraw2 : FS := (gSeq (gOwn 4 (fLst (fNil))) (gSeq (gIf (fB (fOp dGe (fVar 3) (fOp dPow (fC (.int 10)) (fC (.int 18))))) (gSeq (gSet 3 (fOp dSub (fVar 3) (fOp dPow (fC (.int 10)) (fC (.int 18))))) (gSeq (gFor (fIter (fVar 2) (listOf' false)) (sName 7) (gForget [7] (gSeq (gApp 4 (fOp dMod (fVar 3) (fVar 7))) (gSet 3 (fOp dDiv (fVar 3) (fVar 7)))))) (gRetV 4))) (gNext)) (gSeq (gSet 5 (fOp dMod (fOp dAdd (fOp dAdd (fVar 3) (fC (.int 1))) (fOp dMul (fC (.int 31)) (fVar 1))) (fC (.int 2147483647)))) (gSeq (gFor (fRng1 (fCons (fBlt dLen (fCons (fVar 2) (fNil))) (fNil))) (sName 6) (gForget [6] (gSeq (gSet 5 (fOp dMod (fOp dAdd (fOp dAdd (fOp dMul (fVar 5) (fC (.int 48271))) (fC (.int 11))) (fVar 6)) (fC (.int 2147483647)))) (gSeq (gSet 5 (fOp dMod (fOp dAdd (fOp dMul (fVar 5) (fC (.int 69621))) (fC (.int 3))) (fC (.int 2147483647)))) (gApp 4 (fOp dMod (fOp dDiv (fVar 5) (fC (.int 7))) (fOp dIx (fVar 2) (fVar 6)))))))) (gRetV 4)))))
theorem draw_ok2 (ns : List Int) (k : Nat) (sizes : List Int) (hs : ∀ s ∈ sizes, 0 < s ∧ s < 1073741824) (hl : sizes.length ≤ 1000) (c : Int) :
    ∃ ds : List Int, fin (gDraw2 [.fr (.list (ns.map .int)), .fr (.int k), .fr (.list (sizes.map .int)), .fr (.int c), .un, .un, .un, .un]) = .ok (.ol (ds.map .int)) ∧ All2 (fun d s => 0 ≤ d ∧ d < s) ds sizes := by
  have e1018 : (10 : Int).natAbs < 2 ^ 64 := by decide
  unfold gDraw2
  by_cases hc : (1000000000000000000 : Int) ≤ c
  · -- digits by divisions
    obtain ⟨⟨c', ds⟩, ⟨h1, h2⟩, h3⟩ := loop_ex (f := PyData.int) (E := fun p : Int × List Int => [.fr (.list (ns.map .int)), .fr (.int k), .fr (.list (sizes.map .int)), .fr (.int p.1), .ol (p.2.map .int), .un, .un, .un])
      (st := sName 7) (body := gForget [7] (gSeq (gApp 4 (fOp dMod (fVar 3) (fVar 7))) (gSet 3 (fOp dDiv (fVar 3) (fVar 7))))) (fun i p => p.2.length = i ∧ All2 (fun d s => 0 ≤ d ∧ d < s) p.2 (sizes.take i)) sizes (c - 1000000000000000000, []) ⟨rfl, .nil⟩
      (fun i ⟨m, acc⟩ s hi ⟨q1, q2⟩ => by
        obtain ⟨hs0, hs1⟩ := hs s (List.mem_of_getElem? hi)
        have hil : i < sizes.length := (List.getElem?_eq_some_iff.mp hi).1
        have q1 : acc.length = i := q1
        have z := sz_small (show acc.length ≤ 1000000 by omega)
        refine ⟨(m / s, acc ++ [m % s]), ⟨by simp only [List.length_append, List.length_singleton]; omega, ?_⟩, _, rfl, .inl ?_⟩
        · rw [take_at hi]
          exact q2.snoc ⟨Int.emod_nonneg _ (by omega), Int.emod_lt_of_pos _ hs0⟩
        · repeat first | walk_at "vl" | simp only [hs0, hs1, z, List.map_append])
    refine ⟨ds, ?_, by rw [List.take_length] at h2; exact h2⟩
    simp only [List.map_nil] at h3
    repeat first | walk_at "vl" | simp only [hc, e1018, h3]
  · obtain ⟨⟨m', ds⟩, ⟨h1, h2⟩, h3⟩ := loop_ex (f := fun i : Nat => PyData.int (0 + (i : Int))) (E := fun p : Int × List Int => [.fr (.list (ns.map .int)), .fr (.int k), .fr (.list (sizes.map .int)), .fr (.int c), .ol (p.2.map .int), .fr (.int p.1), .un, .un])
      (st := sName 6) (body := gForget [6] (gSeq (gSet 5 (fOp dMod (fOp dAdd (fOp dAdd (fOp dMul (fVar 5) (fC (.int 48271))) (fC (.int 11))) (fVar 6)) (fC (.int 2147483647)))) (gSeq (gSet 5 (fOp dMod (fOp dAdd (fOp dMul (fVar 5) (fC (.int 69621))) (fC (.int 3))) (fC (.int 2147483647)))) (gApp 4 (fOp dMod (fOp dDiv (fVar 5) (fC (.int 7))) (fOp dIx (fVar 2) (fVar 6)))))))
      (fun i p => p.2.length = i ∧ All2 (fun d s => 0 ≤ d ∧ d < s) p.2 (sizes.take i)) (List.range sizes.length) ((c + 1 + 31 * k) % 2147483647, []) ⟨rfl, .nil⟩
      (fun i ⟨m, acc⟩ x hi ⟨q1, q2⟩ => by
        obtain ⟨rfl, hil⟩ := range_at hi
        obtain ⟨hs0, hs1⟩ := hs sizes[x] (List.getElem_mem hil)
        have hx : sizes[x]? = some sizes[x] := List.getElem?_eq_getElem hil
        have q1 : acc.length = x := q1
        have z := sz_small (show acc.length ≤ 1000000 by omega)
        refine ⟨(((m * 48271 + 11 + (x : Int)) % 2147483647 * 69621 + 3) % 2147483647, acc ++ [((m * 48271 + 11 + (x : Int)) % 2147483647 * 69621 + 3) % 2147483647 / 7 % sizes[x]]), ⟨by simp only [List.length_append, List.length_singleton]; omega, ?_⟩, _, rfl, .inl ?_⟩
        · rw [take_at hx]
          exact q2.snoc ⟨Int.emod_nonneg _ (by omega), Int.emod_lt_of_pos _ hs0⟩
        · repeat first | walk_at "vl" | simp only [cMul_a, cMul_b, Int.zero_add, atI_ofNat, hx, hs0, hs1, z, List.map_append])
    refine ⟨ds, ?_, by rw [List.length_range, List.take_length] at h2; exact h2⟩
    have e : rng 0 sizes.length = (List.range sizes.length).map fun i : Nat => PyData.int (0 + (i : Int)) := rfl
    simp only [List.map_nil] at h3
    repeat first | walk_at "vl" | simp only [hc, e1018, h3, e, cMul_31, rngOk_n (show sizes.length ≤ 8000000 by omega), Int.toNat_natCast]
theorem draw_ok (ns : List Int) (k : Nat) (sizes : List Int) (hs : ∀ s ∈ sizes, 0 < s ∧ s < 1073741824) (hl : sizes.length ≤ 1000) :
    ∃ ds : List Int, FDraw [.list (ns.map .int), .int k, .list (sizes.map .int)] = .ok (.ol (ds.map .int)) ∧ All2 (fun d s => 0 ≤ d ∧ d < s) ds sizes := by
  have e : gDraw = gSeq (gSet 3 (fCall FCell (fCons (fVar 0) (fCons (fVar 1) (fNil))))) (gSeq (gIf (fB (fOp dLt (fVar 3) (fC (.int 0)))) (gSet 3 (fNeg (fVar 3))) (gNext)) gDraw2) := rfl
  unfold FDraw
  rw [e]
  by_cases hn : cellI ns k < 0
  · obtain ⟨ds, h1, h2⟩ := draw_ok2 ns k sizes hs hl (-cellI ns k)
    refine ⟨ds, ?_, h2⟩
    repeat first | walk_at "vl" | simp only [cell_eq, hn, h1]
  · obtain ⟨ds, h1, h2⟩ := draw_ok2 ns k sizes hs hl (cellI ns k)
    refine ⟨ds, ?_, h2⟩
    repeat first | walk_at "vl" | simp only [cell_eq, hn, h1]
end VL
namespace VL
open PySem PySem.Spec
open PyProof.Rows L2
section
variable {X : Cx} {q : Bool} {tg e : Expr} {es : List Expr} {f : FE} {g : En → Rs (List R)} {pos p p1 p2 p3 : Pos}
/-! ### range(i, j, -1) -/
def rngD (lo : Int) (n : Nat) : List D := (List.range n).map fun (i : Nat) => PyData.int (lo - (i : Int))
theorem JOk.rngD {K : PySem.W.Frag} {O E : List Addr} {H1 : Hp} (lo : Int) (n : Nat) : JOk K O E H1 (Itc lo (-1) n) (rngD lo n) := fun i H2 k => by
  refine ⟨fun d hd => ?_, fun hle => ?_⟩
  · unfold VL.rngD at hd
    rw [List.getElem?_map] at hd
    obtain ⟨j, hj, e⟩ := Option.map_eq_some_iff.mp hd
    obtain ⟨h1, h2⟩ := List.getElem?_eq_some_iff.mp hj
    rw [List.length_range] at h1
    rw [List.getElem_range] at h2
    subst h2
    subst e
    refine ⟨h1, fun x H3 hy => ?_⟩
    obtain ⟨rfl, rfl⟩ := hy
    refine ⟨Same.refl _, fun _ _ _ => ?_⟩
    have e1 : lo + (i : Nat) * (-1 : Int) = lo - (i : Int) := by omega
    rw [e1]
    exact .int _
  · unfold VL.rngD at hle
    rw [List.length_map, List.length_range] at hle
    exact hle
def oRng3 : List R → Rs (List D)
  | [.fr (.int i), .fr (.int j), .fr (.int c)] => if c = -1 then (if rngOk i && rngOk j then .ok (rngD i (i - j).toNat) else .bad) else .bad
  | _ => .bad
def fRng3 (g : En → Rs (List R)) : En → Rs (List D) := fun ρ => (g ρ).bind oRng3
theorem rngD_len {lo : Int} {n : Nat} (h : n ≤ 16777216) : (rngD lo n).length ≤ sizeLine := by
  unfold rngD
  rw [List.length_map, List.length_range, sizeLine_eq]
  exact h
theorem i_range3 {a b c : Expr} {g : En → Rs (List R)} (hm : X.mg "range" = none) (ha : AV X [a, b, c] g) (hg : Gl X "range" := by rfl) (hs : starEach [a, b, c] X.env = (false, eval a X.env) :: starEach [b, c] X.env := by rfl) (hpl : (backTo pos (starEach [b, c] X.env)).any (·.1) = false := by rfl) : IV X q tg (.Call (.Name "range" p) [a, b, c] [] pos) (fRng3 g) := by
  refine ⟨pi_imp (pi_range3 hg hm ha.run hs hpl) fun σ H Q ⟨O, ρ, ds, I, hf, qq⟩ => ?_⟩
  obtain ⟨rs, e1, hf⟩ := Rs.bind_eq hf
  refine ⟨O, ρ, rs, I, e1, fun vs H1 s hv => ?_⟩
  unfold oRng3 at hf
  split at hf
  · rename_i i j c
    split at hf
    · rename_i hc
      subst hc
      split at hf
      · rename_i hj
        cases hf
        obtain ⟨v, v', v'', rfl, hr, hr', hr''⟩ := all2_3 hv
        cases (show Rep X.K H1 O v (.int i) from hr)
        cases (show Rep X.K H1 O v' (.int j) from hr')
        cases (show Rep X.K H1 O v'' (.int (-1)) from hr'')
        rw [Bool.and_eq_true] at hj
        obtain ⟨h1, h2⟩ := rngOk_iff hj.1
        obtain ⟨h3, h4⟩ := rngOk_iff hj.2
        exact ⟨i, j, -1, (i - j).toNat, rfl, RgC.neg (by omega) (by omega) (by omega) (by omega), qq _ H1 s (JOk.rngD i _) fun _ => rngD_len (by omega)⟩
      · cases hf
    · cases hf
  · cases hf
/-! ### xs[::-1] -/
def dRev : D → Rs R
  | .list ds => .ok (.ol ds.reverse)
  | _ => .bad
def fRev (f : FE) : FE := fun ρ => (f ρ).bind fun x => dRev x.d
theorem e_rev {k : Nat} (h : EV X e f) : EV X (.Subscript e (.Slice none none (some (.UnaryOp .USub (.Constant (.int 1) k p1) p2)) p3) pos) (fRev f) := by
  refine ⟨pe_imp (pe_revL h.run) fun σ H Q ⟨O, ρ, r, I, hf, q⟩ => ?_⟩
  obtain ⟨x, e1, hf⟩ := Rs.bind_eq hf
  refine ⟨O, ρ, x, I, e1, fun v H1 s1 rr => ?_⟩
  have t := rr.top
  unfold dRev at hf
  split at hf
  · rename_i ds ed
    rw [ed] at t
    cases hf
    obtain ⟨a, xs, rfl, hq, hr, hz⟩ := t.list
    exact ⟨a, xs, rfl, hq, fun p hp => q _ _ (s1.trans (same_upd hp)) ((rr_newL hp (by rw [List.length_reverse]; exact hz) hr.rev).left s1)⟩
  · cases hf
/-! ### a def as a value -/
theorem e_fn {x : Str} {a : Addr} (hm : X.mg x = some (.ref a)) (hn : FnAt X.K a x) (hg : Gl X x := by rfl) (hd : (x == ("__debug__" : Str)) = false := by decide) : EV X (.Name x p) (fC (fnD x)) :=
  e_of_c (v := .ref a) (pe_glob hg hm rfl hd) fun _ _ => .fn hn
/-- the defs that a name may hold -/
structure Hold (X : Cx) (k n : Nat) (x : Str) (F : List D → Rs R) : Prop where
  ex : ∃ (f : Addr) (fd : FuncData) (ps : List Str), FnAt X.K f x ∧ FnOk X.prog X.w X.K X.mg X.base CX0 k f fd ps (spF X.K n F) ∧ PySem.W.keepIn X.K (.ref f) = true ∧ Binds X.K fd ps []
def Holds (X : Cx) (k n : Nat) (l : List (Str × (List D → Rs R))) : Prop := ∀ q ∈ l, Hold X k n q.1 q.2
theorem holds_nil {k n : Nat} : Holds X k n [] := fun _ h => nomatch h
theorem holds_cons {k n : Nat} {x : Str} {F : List D → Rs R} {l : List (Str × (List D → Rs R))} {f : Addr} {fd : FuncData} {ps : List Str} (h1 : FnAt X.K f x) (h2 : FnOk X.prog X.w X.K X.mg X.base CX0 k f fd ps (spF X.K n F)) (h3 : PySem.W.keepIn X.K (.ref f) = true) (h4 : Binds X.K fd ps [])
    (t : Holds X k n l) : Holds X k n ((x, F) :: l) := fun q h => (List.mem_cons.mp h).elim (fun e => by rw [e]; exact ⟨f, fd, ps, h1, h2, h3, h4⟩) fun e => t q e
def fnFind (l : List (Str × (List D → Rs R))) : D → Option (Str × (List D → Rs R))
  | .dict [(.none, .str x)] => l.find? fun q => decide (q.1 = x)
  | _ => none
def fCallL (l : List (Str × (List D → Rs R))) (i : Nat) (g : En → Rs (List R)) : FE := fun ρ => match ρ[i]? with
  | some (.fr d) => match fnFind l d with
    | some q => (g ρ).bind (callR q.2)
    | none => .bad
  | _ => .bad
theorem fnFind_eq {l : List (Str × (List D → Rs R))} {d : D} {q : Str × (List D → Rs R)} (h : fnFind l d = some q) : d = fnD q.1 ∧ q ∈ l := by
  unfold fnFind at h
  split at h
  · rename_i x
    have h1 := List.find?_some h
    have h2 := List.mem_of_find?_eq_some h
    have h3 : q.1 = x := of_decide_eq_true h1
    subst h3
    exact ⟨rfl, h2⟩
  · cases h
theorem rep_fn {K : PySem.W.Frag} {H : Hp} {O : List Addr} {v : V} {x : Str} (h : Rep K H O v (fnD x)) : ∃ a, v = .ref a ∧ FnAt K a x := by
  unfold fnD at h
  generalize hd : (PyData.dict [(.none, .str x)]) = d at h
  cases h with
  | fn h => cases hd; exact ⟨_, rfl, h⟩
  | dic h1 h2 h3 =>
    cases hd
    generalize hk : [(PyData.none, PyData.str x)] = ds at h3
    cases h3 with
    | nil => cases hk
    | @cons k _ _ _ _ r t =>
      cases hk2 : k with
      | inl i => rw [hk2] at hk; unfold kD at hk; cases hk
      | inr y => rw [hk2] at hk; unfold kD at hk; cases hk
  | _ => cases hd
theorem e_callL {l : List (Str × (List D → Rs R))} {k n : Nat} (i : Nat) {x : Str} (A : Holds X k n l) (hr : Room k X.A) (ha : AV X (e :: es) g) (hn : (e :: es).length = n := by rfl) (hN : X.N[i]? = some x := by rfl) (hv : Vis X.env.scope x := by first | exact Or.inl rfl | exact Or.inr (Or.inl rfl) | exact Or.inr (Or.inr rfl)) (hdb : (x == ("__debug__" : Str)) = false := by decide) (hcd : (x == ("__classdict__" : Str)) = false := by decide)
    (he : starEach (e :: es) X.env = (false, eval e X.env) :: starEach es X.env := by rfl) (hpl : (backTo pos (starEach es X.env)).any (·.1) = false := by rfl) :
    EV X (.Call (.Name x p) (e :: es) [] pos) (fCallL l i g) := by
  refine ⟨⟨fun pins s σ H Q J ⟨O, ρ, r, I, hf, q⟩ => ?_⟩⟩
  unfold fCallL at hf
  split at hf
  · rename_i d ed
    split at hf
    · rename_i w ew
      obtain ⟨rfl, hw⟩ := fnFind_eq ew
      obtain ⟨ov, e0, v, rfl, hrep⟩ := I.get ed
      obtain ⟨f, fd, ps, h1, h2, h3, h4⟩ := (A w hw).ex
      obtain ⟨a, rfl, ha1⟩ := rep_fn hrep
      cases ha1.one h1
      refine (pe_callL (i := i) (dvs := []) (E := E0) h2 hr hN hv h3 h4 .nil pass0 ha.run hdb hcd he hpl).run pins s σ H Q J ⟨e0, ?_⟩
      obtain ⟨rs, e1, hf⟩ := Rs.bind_eq hf
      refine ⟨O, ρ, rs, I, e1, fun vs H1 s1 hv => ?_⟩
      show spF X.K n w.2 (vs ++ []) H1 Q E0
      rw [List.append_nil]
      have hlv : vs.length = n := by rw [hv.length, ha.len ρ rs e1]; exact hn
      unfold callR at hf
      split at hf
      · rename_i ds ed
        exact ⟨hlv, O, ds, r, fzAll_reps I.tr hv ed, Same.tr s1 I.tr, hf, fun v H' s2 rr => q v H' (s1.trans s2) (rr.left s1)⟩
      · obtain ⟨r', e2, hf⟩ := Rs.bind_eq hf
        split at hf
        · rename_i hfl
          cases hf
          exact ⟨hlv, [], _, r, all_bare hv, (fun _ z => nomatch z), e2, fun v H' s2 rr => q v H' (s1.trans s2) ((rr.left s1).flat hfl)⟩
        · cases hf
    · cases hf
  · cases hf
/-! ### isinstance -/
def tyN : D → Option String
  | .none => some "NoneType"
  | .bool _ => some "bool"
  | .int _ => some "int"
  | .str _ => some "str"
  | .list _ => some "list"
  | .tuple _ => some "tuple"
  | _ => none
def isiB (t T : String) : Bool := decide (t = T) || (decide (t = "bool") && decide (T = "int"))
def dIsi (T : String) (d : D) : Rs R := match tyN d with
  | some t => .ok (.fr (.bool (isiB t T)))
  | none => .bad
def fIsi (T : String) (f : FE) : FE := fun ρ => (f ρ).bind fun r => dIsi T r.d
/-- the types asked for -/
def isTys (T : String) : Prop := ∀ t ∈ ["NoneType", "bool", "int", "str", "list", "tuple"], kitB t T = some (isiB t T)
theorem top_ty {K : PySem.W.Frag} {H : Hp} {O : List Addr} {v : V} {d : D} {t : String} (h : Top K H O v d) (e : tyN d = some t) : TyX K H v (.type t) := by
  unfold tyN at e
  split at e
  · cases e; rw [h.none]; exact .base .non
  · cases e; rw [h.bool]; exact .base (.bl _)
  · cases e; rw [h.int]; exact .base (.int _)
  · cases e; rw [h.str]; exact .base (.str _)
  · cases e
    cases h with
    | rep r =>
      cases r with
      | lst h1 _ _ _ =>
        rcases h1 with h1 | ⟨o, h1⟩
        · exact .base (.lst h1)
        · exact .base (.frz h1)
      | lstK h1 _ =>
        obtain ⟨o, its, n, l, c, _⟩ := h1
        exact .kList l c
    | lst h1 _ _ => exact .base (.lst h1)
  · cases e
    cases h with
    | rep r =>
      cases r with
      | tup h1 _ _ _ =>
        rcases h1 with h1 | ⟨o, h1⟩
        · exact .base (.tup h1)
        · exact .fTuple h1
      | tupK h1 _ =>
        obtain ⟨o, its, n, l, c, _⟩ := h1
        exact .kTuple l c
  · cases e
theorem tyN_mem {d : D} {t : String} (e : tyN d = some t) : t ∈ ["NoneType", "bool", "int", "str", "list", "tuple"] := by
  unfold tyN at e
  split at e <;> first | (cases e; simp) | cases e
theorem e_isi {T : String} {x : Str} {a : Expr} {p4 : Pos} (hm : X.mg "isinstance" = none) (hmT : X.mg x = none) (hvT : bootBuiltins x = some (.type T)) (hk : isTys T) (ha : EV X a f) (hg : Gl X "isinstance" := by rfl) (hgT : Gl X x := by rfl) (hnT : x ≠ "__name__" := by decide) (hdT : (x == ("__debug__" : Str)) = false := by decide)
    (hs1 : starEach [a, .Name x p4] X.env = (false, eval a X.env) :: starEach [.Name x p4] X.env := by rfl) (hs2 : starEach [.Name x p4] X.env = (false, eval (.Name x p4) X.env) :: starEach [] X.env := by rfl) (hpl : (backTo pos (starEach [.Name x p4] X.env)).any (·.1) = false := by rfl) :
    EV X (.Call (.Name "isinstance" p) [a, .Name x p4] [] pos) (fIsi T f) := by
  refine ⟨pe_imp (pe_callB call_isi hg hm boot_isinstance (pa_cons ha.run (pa_cons (pe_bltn (v := .ty T) hgT hmT hvT rfl hnT hdT) pa_nil hs2) hs1) (by decide) (by decide) hs1 hpl) fun σ H Q ⟨O, ρ, r, I, hf, q⟩ => ?_⟩
  obtain ⟨y, e1, hf⟩ := Rs.bind_eq hf
  refine ⟨O, ρ, y, I, e1, fun v H1 s1 rr => ?_⟩
  have t := rr.top
  unfold dIsi at hf
  split at hf
  · rename_i t' et
    cases hf
    exact ⟨v, .ty T, _, _, _, rfl, .ty T, top_ty t et, kit_ty (hk t' (tyN_mem et)), q _ H1 s1 (.bl _)⟩
  · cases hf
theorem isTys_tuple : isTys "tuple" := by unfold isTys; decide +kernel
theorem isTys_list : isTys "list" := by unfold isTys; decide +kernel
theorem isTys_int : isTys "int" := by unfold isTys; decide +kernel
theorem isTys_str : isTys "str" := by unfold isTys; decide +kernel
theorem isTys_bool : isTys "bool" := by unfold isTys; decide +kernel
theorem isTys_dict : isTys "dict" := by unfold isTys; decide +kernel
end
/-! ### evaluation -/
section
variable {f : FE} {g : En → Rs (List R)} {ρ : En}
theorem ap_fRng3 : fRng3 g ρ = (g ρ).bind oRng3 := rfl
theorem ap_oRng3 (i j : Int) : oRng3 [.fr (.int i), .fr (.int j), .fr (.int (-1))] = if (rngOk i && rngOk j) = true then .ok (rngD i (i - j).toNat) else .bad := rfl
theorem ap_fRev : fRev f ρ = (f ρ).bind fun x => dRev x.d := rfl
theorem rev_l (ds : List D) : dRev (.list ds) = .ok (.ol ds.reverse) := rfl
theorem ap_fCallL (l : List (Str × (List D → Rs R))) (i : Nat) : fCallL l i g ρ = match ρ[i]? with
  | some (.fr d) => match fnFind l d with
    | some q => (g ρ).bind (callR q.2)
    | none => .bad
  | _ => .bad := rfl
theorem ff_nil (d : D) : fnFind [] d = none := by
  unfold fnFind
  split <;> rfl
theorem ff_cons (x y : Str) (F : List D → Rs R) (l : List (Str × (List D → Rs R))) : fnFind ((x, F) :: l) (fnD y) = if x = y then some (x, F) else fnFind l (fnD y) := by
  show ((x, F) :: l).find? (fun q => decide (q.1 = y)) = _
  rw [List.find?_cons]
  by_cases h : x = y
  · simp [h]
  · simp [h]; rfl
theorem ap_fIsi (T : String) : fIsi T f ρ = (f ρ).bind fun r => dIsi T r.d := rfl
theorem isi_n (T : String) : dIsi T .none = .ok (.fr (.bool (isiB "NoneType" T))) := rfl
theorem isi_b (T : String) (b : Bool) : dIsi T (.bool b) = .ok (.fr (.bool (isiB "bool" T))) := rfl
theorem isi_i (T : String) (b : Int) : dIsi T (.int b) = .ok (.fr (.bool (isiB "int" T))) := rfl
theorem isi_s (T : String) (b : Str) : dIsi T (.str b) = .ok (.fr (.bool (isiB "str" T))) := rfl
theorem isi_l (T : String) (b : List D) : dIsi T (.list b) = .ok (.fr (.bool (isiB "list" T))) := rfl
theorem isi_t (T : String) (b : List D) : dIsi T (.tuple b) = .ok (.fr (.bool (isiB "tuple" T))) := rfl
theorem ap_isiB (t T : String) : isiB t T = (decide (t = T) || (decide (t = "bool") && decide (T = "int"))) := rfl
end
end VL
namespace VL
open PySem PySem.Spec
open PyProof.Rows L2
/-! ### what the top holds -/
/-- a value of the written part that is this data -/
def IC (K : PySem.W.Frag) (u : Value) (d : D) : Prop := ∃ v : V, RelV v u ∧ ∀ (H : Hp) (O : List Addr), Rep K H O v d
theorem ic_int {K : PySem.W.Frag} {i : Int} {t : Tok} : IC K (.int i t) (.int i) := ⟨.int i, ⟨t, rfl⟩, fun _ _ => .int i⟩
theorem ic_str {K : PySem.W.Frag} {x : Str} {t : Tok} : IC K (.str x t) (.str x) := ⟨.str x, ⟨t, rfl⟩, fun _ _ => .str x⟩
theorem ics_vals {K : PySem.W.Frag} : ∀ {us : List Value} {ds : List D}, All2 (IC K) us ds → ∃ vs : List V, Vals vs us ∧ ∀ (H : Hp) (O : List Addr), Reps K H O vs ds
  | _, _, .nil => ⟨[], .nil, fun _ _ => .nil⟩
  | _, _, .cons ⟨v, r, q⟩ t => by
    obtain ⟨vs, h1, h2⟩ := ics_vals t
    exact ⟨v :: vs, .cons r h1, fun H O => .cons (q H O) (h2 H O)⟩
theorem ic_tup {K : PySem.W.Frag} {a : Addr} {od : Option Addr} {its : Array Value} {n : Nat} {sl : Array (Option Value)} {ds : List D} (h : K.lookup a = some ⟨.type "tuple", od, .seq its n, sl⟩) (hz : its.size ≤ 1000 := by decide) (t : All2 (IC K) its.toList ds) : IC K (.ref a) (.tuple ds) := by
  obtain ⟨vs, h1, h2⟩ := ics_vals t
  exact ⟨.ref a, rfl, fun H O => .tupK ⟨_, its, n, h, rfl, rfl, by rw [sizeLine_eq]; omega, h1⟩ (h2 H O)⟩
theorem ic_fn {K : PySem.W.Frag} {a : Addr} {x : Str} (h : FnAt K a x) : IC K (.ref a) (fnD x) := ⟨.ref a, rfl, fun _ _ => .fn h⟩
/-- a name of the top -/
def GC (K : PySem.W.Frag) (mg : Str → Option Value) (x : Str) (d : D) : Prop := ∃ u, mg x = some u ∧ IC K u d
/-- a dict of the top with text keys -/
def GD (K : PySem.W.Frag) (w : World) (mg : Str → Option Value) (x : Str) (tbl : List (Str × D)) : Prop :=
  ∃ a es n, mg x = some (.ref a) ∧ KDict K w a es n ∧ All2 (fun (e : DictEntry) (p : Str × D) => (∃ t, e.key = .str p.1 t) ∧ IC K e.val p.2) es.toList tbl
def tbGet : List (Str × D) → Str → Option D
  | [], _ => none
  | (k, d) :: r, x => if k = x then some d else tbGet r x
theorem kd_find {K : PySem.W.Frag} {x : Str} : ∀ {es : List DictEntry} {tbl : List (Str × D)}, All2 (fun (e : DictEntry) (p : Str × D) => (∃ t, e.key = .str p.1 t) ∧ IC K e.val p.2) es tbl →
    (∀ d, tbGet tbl x = some d → ∃ e, es.find? (fun e => e.key.isStr x) = some e ∧ IC K e.val d) ∧ (tbGet tbl x = none → es.find? (fun e => e.key.isStr x) = none) ∧ es.any (fun e => e.refKey) = false
  | _, _, .nil => ⟨(fun d h => nomatch h), fun _ => rfl, rfl⟩
  | _, _, .cons (a := e) (b := p) (as := es) (bs := tbl) ⟨⟨t, ek⟩, ic⟩ r => by
    obtain ⟨h1, h2, h3⟩ := kd_find (x := x) r
    obtain ⟨k, d0⟩ := p
    have ek : e.key = .str k t := ek
    have hs : e.key.isStr x = decide (k = x) := by
      rw [ek]
      show (k == x) = _
      by_cases h : k = x
      · subst h; simp
      · rw [decide_eq_false h]; exact beq_eq_false_iff_ne.mpr h
    have hr : e.refKey = false := by unfold DictEntry.refKey; rw [ek]
    unfold tbGet
    rw [List.find?_cons, hs, List.any_cons, hr, h3]
    by_cases h : k = x
    · rw [if_pos h, decide_eq_true h]
      exact ⟨fun d hd => by cases hd; exact ⟨e, rfl, ic⟩, (fun h => nomatch h), rfl⟩
    · rw [if_neg h, decide_eq_false h]
      exact ⟨h1, h2, rfl⟩
theorem kd_ns {K : PySem.W.Frag} {w : World} {a : Addr} {es : Array DictEntry} {n : Nat} {tbl : List (Str × D)} {x : Str} (hd : KDict K w a es n) (r : All2 (fun (e : DictEntry) (p : Str × D) => (∃ t, e.key = .str p.1 t) ∧ IC K e.val p.2) es.toList tbl) :
    (∀ d, tbGet tbl x = some d → ∃ u, PySem.W.nsIn K a x = some (some u) ∧ IC K u d) ∧ (tbGet tbl x = none → PySem.W.nsIn K a x = some none) := by
  obtain ⟨h1, h2, h3⟩ := kd_find (x := x) r
  unfold PySem.W.nsIn
  rw [hd.at_]
  dsimp only
  refine ⟨fun d e => ?_, fun e => ?_⟩
  · obtain ⟨en, g1, g2⟩ := h1 d e
    exact ⟨en.val, by rw [g1], g2⟩
  · rw [h2 e, h3]
    rfl
theorem gd_mk {K : PySem.W.Frag} {w : World} {mg : Str → Option Value} {x : Str} {a : Addr} {es : Array DictEntry} {n : Nat} {tbl : List (Str × D)} (hm : mg x = some (.ref a)) (hl : K.lookup a = some ⟨.type "dict", none, .dict es n, #[]⟩) (hk : PySem.W.KeysLit w.params es.toList) (lo : (a == sysModules) = false)
    (r : All2 (fun (e : DictEntry) (p : Str × D) => (∃ t, e.key = .str p.1 t) ∧ IC K e.val p.2) es.toList tbl) : GD K w mg x tbl := ⟨a, es, n, hm, ⟨hl, hk, lo⟩, r⟩
section
variable {X : Cx} {a b e k : Expr} {f fk : FE} {pos p p2 : Pos}
theorem e_glob {x : Str} {d : D} (h : GC X.K X.mg x d) (hg : Gl X x := by rfl) (hd : (x == ("__debug__" : Str)) = false := by decide) : EV X (.Name x p) (fC d) := by
  obtain ⟨u, hm, v, r, q⟩ := h
  exact e_of_c (pe_glob hg hm r hd) q
def fKGet (tbl : List (Str × D)) (f : FE) : FE := fun ρ => (f ρ).bind fun r => match r.d with
  | .str z => match tbGet tbl z with
    | some d => .ok (.fr d)
    | none => .bad
  | _ => .bad
theorem e_kget {x : Str} {tbl : List (Str × D)} (h : GD X.K X.w X.mg x tbl) (he : EV X e f) (hg : Gl X x := by rfl) (hd : (x == ("__debug__" : Str)) = false := by decide) (hs : PlainIx e := by exact fun _ _ => rfl) : EV X (.Subscript (.Name x p) e pos) (fKGet tbl f) := by
  obtain ⟨a, es, n, hm, kd, r⟩ := h
  refine ⟨pe_imp (pe_ix ix_kdict (pe_glob (v := .ref a) hg hm rfl hd) he.run hs) fun σ H Q ⟨O, ρ, r', I, hf, q⟩ => ?_⟩
  obtain ⟨y, e1, hf⟩ := Rs.bind_eq hf
  refine ⟨O, ρ, y, I, e1, fun v H1 s1 rr => ?_⟩
  have t := rr.top
  split at hf
  · rename_i z ez
    rw [ez] at t
    split at hf
    · rename_i d ed
      cases hf
      obtain ⟨u, g1, v0, g2, g3⟩ := (kd_ns (x := z) kd r).1 d ed
      exact ⟨a, z, v0, rfl, t.str, ⟨es, n, u, kd.at_, kd.lit, g1, g2⟩, q v0 H1 s1 (g3 H1 O)⟩
    · cases hf
  · cases hf
def fKIn (neg : Bool) (tbl : List (Str × D)) (f : FE) : FE := fun ρ => (f ρ).bind fun r => match r.d with
  | .str z => dInB neg (tbGet tbl z).isSome
  | _ => .bad
theorem kd_is {K : PySem.W.Frag} {w : World} {a : Addr} {es : Array DictEntry} {n : Nat} {tbl : List (Str × D)} (x : Str) (hd : KDict K w a es n) (r : All2 (fun (e : DictEntry) (p : Str × D) => (∃ t, e.key = .str p.1 t) ∧ IC K e.val p.2) es.toList tbl) :
    ∃ o, PySem.W.nsIn K a x = some o ∧ o.isSome = (tbGet tbl x).isSome := by
  obtain ⟨h1, h2⟩ := kd_ns (x := x) hd r
  cases e : tbGet tbl x with
  | none => exact ⟨none, h2 e, rfl⟩
  | some d =>
    obtain ⟨u, g1, _⟩ := h1 d e
    exact ⟨some u, g1, rfl⟩
theorem e_kin {x : Str} {tbl : List (Str × D)} (h : GD X.K X.w X.mg x tbl) (he : EV X e f) (hg : Gl X x := by rfl) (hd : (x == ("__debug__" : Str)) = false := by decide) (hm' : behindInMarks .In (.Name x p) = false := by first | exact nomark _ | rfl) : EV X (.Compare e [.In] [.Name x p] pos) (fKIn false tbl f) := by
  obtain ⟨a, es, n, hm, kd, r⟩ := h
  refine ⟨pe_imp (pe_cmpR (op_in_kd kd) he.run (pe_glob (v := .ref a) hg hm rfl hd) hm') fun σ H Q ⟨O, ρ, r', I, hf, q⟩ => ?_⟩
  obtain ⟨y, e1, hf⟩ := Rs.bind_eq hf
  refine ⟨O, ρ, y, I, e1, fun v H1 s1 rr => ?_⟩
  have t := rr.top
  split at hf
  · rename_i z ez
    rw [ez] at t
    cases hf
    obtain ⟨o, g1, g2⟩ := kd_is z kd r
    exact ⟨z, o, t.str, rfl, g1, q _ H1 s1 (by rw [g2]; exact .bl _)⟩
  · cases hf
theorem e_knotin {x : Str} {tbl : List (Str × D)} (h : GD X.K X.w X.mg x tbl) (he : EV X e f) (hg : Gl X x := by rfl) (hd : (x == ("__debug__" : Str)) = false := by decide) (hm' : behindInMarks .NotIn (.Name x p) = false := by first | exact nomark _ | rfl) : EV X (.Compare e [.NotIn] [.Name x p] pos) (fKIn true tbl f) := by
  obtain ⟨a, es, n, hm, kd, r⟩ := h
  refine ⟨pe_imp (pe_cmpR (op_notIn_kd kd) he.run (pe_glob (v := .ref a) hg hm rfl hd) hm') fun σ H Q ⟨O, ρ, r', I, hf, q⟩ => ?_⟩
  obtain ⟨y, e1, hf⟩ := Rs.bind_eq hf
  refine ⟨O, ρ, y, I, e1, fun v H1 s1 rr => ?_⟩
  have t := rr.top
  split at hf
  · rename_i z ez
    rw [ez] at t
    cases hf
    obtain ⟨o, g1, g2⟩ := kd_is z kd r
    exact ⟨z, o, t.str, rfl, g1, q _ H1 s1 (by rw [g2]; exact .bl _)⟩
  · cases hf
theorem t_kin {x : Str} {tbl : List (Str × D)} (h : GD X.K X.w X.mg x tbl) (he : EV X e f) (hg : Gl X x := by rfl) (hd : (x == ("__debug__" : Str)) = false := by decide) (hm' : behindInMarks .In (.Name x p) = false := by first | exact nomark _ | rfl) : TV X (.Compare e [.In] [.Name x p] pos) (fB (fKIn false tbl f)) := by
  obtain ⟨a, es, n, hm, kd, r⟩ := h
  refine ⟨pt_imp (pt_cmpR (op_in_kd kd) he.run (pe_glob (v := .ref a) hg hm rfl hd) hm') fun σ H Q ⟨O, ρ, b, I, hf, q⟩ => ?_⟩
  obtain ⟨r', e0, e2⟩ := Rs.bind_eq hf
  cases toB_eq e2
  obtain ⟨y, e1, e0⟩ := Rs.bind_eq e0
  refine ⟨O, ρ, y, I, e1, fun v H1 s1 rr => ?_⟩
  have t := rr.top
  split at e0
  · rename_i z ez
    rw [ez] at t
    cases e0
    obtain ⟨o, g1, g2⟩ := kd_is z kd r
    exact ⟨z, o, t.str, rfl, g1, _, rfl, by rw [g2]; exact q H1 s1⟩
  · cases e0
theorem t_knotin {x : Str} {tbl : List (Str × D)} (h : GD X.K X.w X.mg x tbl) (he : EV X e f) (hg : Gl X x := by rfl) (hd : (x == ("__debug__" : Str)) = false := by decide) (hm' : behindInMarks .NotIn (.Name x p) = false := by first | exact nomark _ | rfl) : TV X (.Compare e [.NotIn] [.Name x p] pos) (fB (fKIn true tbl f)) := by
  obtain ⟨a, es, n, hm, kd, r⟩ := h
  refine ⟨pt_imp (pt_cmpR (op_notIn_kd kd) he.run (pe_glob (v := .ref a) hg hm rfl hd) hm') fun σ H Q ⟨O, ρ, b, I, hf, q⟩ => ?_⟩
  obtain ⟨r', e0, e2⟩ := Rs.bind_eq hf
  cases toB_eq e2
  obtain ⟨y, e1, e0⟩ := Rs.bind_eq e0
  refine ⟨O, ρ, y, I, e1, fun v H1 s1 rr => ?_⟩
  have t := rr.top
  split at e0
  · rename_i z ez
    rw [ez] at t
    cases e0
    obtain ⟨o, g1, g2⟩ := kd_is z kd r
    exact ⟨z, o, t.str, rfl, g1, _, rfl, by rw [g2]; exact q H1 s1⟩
  · cases e0
/-! ### displays of dicts -/
structure PV (X : Cx) (pos : Pos) (keys : List (Option Expr)) (values : List Expr) (fs : List (FE × FE)) : Prop where
  run : PPs X pos keys values (fs.map fun p => (tE X.K p.1, tE X.K p.2))
theorem pv_nil : PV X pos [] [] [] := ⟨pps_nil⟩
theorem pv_cons {ks : List (Option Expr)} {vs : List Expr} {fs : List (FE × FE)} (h1 : EV X k fk) (h2 : EV X e f) (t : PV X pos ks vs fs) : PV X pos (some k :: ks) (e :: vs) ((fk, f) :: fs) := ⟨pps_cons h1.run h2.run t.run⟩
def evalP : List (FE × FE) → En → Rs (List (D × D))
  | [], _ => .ok []
  | (fk, f) :: r, ρ => (fk ρ).bind fun x => (f ρ).bind fun y => match y.fz with
    | some d => if isKey x.d = true then (evalP r ρ).bind fun ps => .ok ((x.d, d) :: ps) else .bad
    | none => .bad
def dmerge (ps : List (D × D)) : List (D × D) := ps.foldl (fun acc p => dputD acc p.1 p.2) []
def fDisp (fs : List (FE × FE)) : FE := fun ρ => (evalP fs ρ).bind fun ps => .ok (.od (dmerge ps))
theorem pairs_read {K : PySem.W.Frag} {O : List Addr} {σ : L2.St} {ρ : En} : ∀ {fs : List (FE × FE)} {ps : List (D × D)} {H : Hp} {Q : List (V × V) → Hp → Prop}, ER K O H σ ρ → evalP fs ρ = .ok ps →
    (∀ kvs H2, Same H H2 → KReps K H2 O kvs ps → kvs.length = fs.length → Q (kvs.map fun kv => (kV kv.1, kv.2)) H2) → tPairs (fs.map fun p => (tE K p.1, tE K p.2)) σ H Q
  | [], _, H, Q, I, e, q => by
    cases e
    exact q [] H (Same.refl H) .nil rfl
  | (fk, f) :: r, ps, H, Q, I, e, q => by
    unfold evalP at e
    obtain ⟨x, e1, e⟩ := Rs.bind_eq e
    obtain ⟨y, e2, e⟩ := Rs.bind_eq e
    split at e
    · rename_i d ed
      split at e
      · rename_i hk
        obtain ⟨ps', e3, e⟩ := Rs.bind_eq e
        cases e
        obtain ⟨k, hk⟩ := isKey_kD hk
        rw [hk] at q
        refine ⟨O, ρ, x, I, e1, fun v H1 s1 r1 => ⟨O, ρ, y, I.same s1, e2, fun u H2 s2 r2 => pairs_read (I.same (s1.trans s2)) e3 fun kvs H3 s3 kr hl => ?_⟩⟩
        have t := r1.top
        rw [hk] at t
        have hz : Rep K H2 O u d := r2.rep (Same.tr s1 I.tr) ed
        have := q ((k, u) :: kvs) H3 ((s1.trans s2).trans s3) (.cons (hz.same s3) kr) (by rw [List.length_cons, List.length_cons, hl])
        rw [List.map_cons] at this
        rw [rep_kD t]
        exact this
      · cases e
    · cases e
theorem kreps_merge {K : PySem.W.Frag} {H : Hp} {O : List Addr} : ∀ {kvs : List (Key × V)} {ps : List (D × D)} {vs : List (Key × V)} {ds : List (D × D)}, KReps K H O kvs ps → KReps K H O vs ds → KReps K H O (mergeK vs kvs) (ps.foldl (fun acc p => dputD acc p.1 p.2) ds)
  | _, _, _, _, .nil, s => s
  | _, _, _, _, .cons (k := k) (v := v) (vs := kvs) (ds := ps) (d := d) r t, s => by
    have h := kreps_merge t (s.put (k := k) r)
    exact h
theorem e_disp {keys : List (Option Expr)} {values : List Expr} {fs : List (FE × FE)} {n : Nat} (h : PV X pos keys values fs) (hf : fs.length = n := by rfl) (hn : n ≤ 15 := by decide) (hall : keys.all (·.isSome) = true := by rfl) (hl : keys.length = values.length := by rfl) (h0 : keys ≠ [] := by exact fun h => nomatch h) (h15 : keys.length ≤ 15 := by decide) :
    EV X (.Dict keys values pos) (fDisp fs) := by
  refine ⟨pe_imp (pe_disp h.run hall hl h0 h15) fun σ H Q ⟨O, ρ, r, I, e, q⟩ => ?_⟩
  obtain ⟨ps, e1, e⟩ := Rs.bind_eq e
  cases e
  intro p hp
  have s0 : Same H (upd H p (.dK [])) := same_upd hp
  have hpO : p ∉ O := fun z => I.tr p z hp
  have B : ER X.K (p :: O) (upd H p (.dK [])) σ ρ := ⟨I.at_.imp fun ov s q => SR.more s0 hp q, I.nd, fun a h => List.mem_cons_of_mem _ (I.sub a h), fun a h => (List.mem_cons.mp h).elim (fun e => by rw [e, upd_same]; exact fun z => nomatch z) (Same.tr s0 I.tr a)⟩
  refine pairs_read B e1 fun kvs H2 s2 kr hl => ?_
  have h2 : H2 p = some (.dK []) := s2 _ _ upd_same
  refine ⟨h2, kvs, rfl, by rw [hl, hf]; exact hn, q _ _ (fun a o e => ?_) ⟨p, _, rfl, hp, upd_same, ?_⟩⟩
  · rw [upd_ne (ne_of_none e hp)]
    exact s2 _ _ (s0 _ _ e)
  · exact (kreps_merge kr .nil).ev (fun a o e n => by rw [upd_ne fun z => n (by rw [z]; exact List.mem_cons_self)]; exact e) fun a h => .inl h
def fDNew : FE := fun _ => .ok (.od [])
theorem e_dnew : EV X (.Dict [] [] pos) fDNew := by
  refine ⟨pe_imp pe_dnewK fun σ H Q ⟨O, ρ, r, I, e, q⟩ => ?_⟩
  cases e
  exact fun p hp => q _ _ (same_upd hp) ⟨p, [], rfl, hp, upd_same, .nil⟩
end
end VL
namespace VL
open PySem PySem.Spec
open PyProof.Rows L2
/-! ### own dicts are written -/
section
variable {X : Cx} {e k : Expr} {f fk : FE} {pos : Pos}
/-- d[k] = e -/
def gDPut (i : Nat) (fk f : FE) : FS := fun ρ => match f ρ with
  | .ok r => match r.fz with
    | some d => match ρ[i]? with
      | some (.od kvs) => match fk ρ with
        | .ok rk => if (isKey rk.d && decide (kvs.length < sizeN)) = true then .nx (ρ.set i (.od (dputD kvs rk.d d))) else .bad
        | _ => .bad
      | _ => .bad
    | none => .bad
  | .ex e => .ex e
  | .bad => .bad
theorem s_dput (i : Nat) {x : Str} {p2 spos : Pos} (hu : X.A.units + 64 < cLine) (he : EV X e f) (hk : EV X k fk) (hN : X.N[i]? = some x := by rfl) (hv : Vis X.env.scope x := by first | exact Or.inl rfl | exact Or.inr (Or.inl rfl) | exact Or.inr (Or.inr rfl)) (hd : (x == ("__debug__" : Str)) = false := by decide)
    (hcd : (x == ("__classdict__" : Str)) = false := by decide) (hs : swapsWith e (some (.Subscript (.Name x p2) k spos)) pos.line X.env = pure false := by rfl) : SV X (.Assign [.Subscript (.Name x p2) k spos] e pos) (gDPut i fk f) := by
  refine ⟨ps_imp (ps_dput (by omega) (pe_var hN hv hd hcd) hk.run he.run hs) fun D σ H ⟨O, ρ, I, q⟩ => ?_⟩
  unfold gDPut at q
  split at q
  · rename_i r ef
    split at q
    · rename_i d ed
      split at q
      · rename_i kvs ei
        split at q
        · rename_i rk ek
          split at q
          · rename_i hc
            rw [Bool.and_eq_true, decide_eq_true_eq] at hc
            obtain ⟨κ, hκ⟩ := isKey_kD hc.1
            rw [hκ] at q
            obtain ⟨ov, e1, p, vs, rfl, h1, hr⟩ := I.get ei
            have hp : p ∈ O := I.sub p (own_at e1 ei (by simp [Sl.own]))
            refine ⟨O, ρ, r, I, ef, fun v H1 s rr => ⟨_, e1, O, ρ, rk, I.same s, ek, fun w H2 s2 r2 => ?_⟩⟩
            have s12 := s.trans s2
            have t := r2.top
            rw [hκ] at t
            have hv' := (rr.rep I.tr ed).same s2
            have hl := hr.length
            have hz := hc.2
            rw [sizeN_eq] at hz
            obtain ⟨J, E⟩ := (I.same s12).mut (o := .dK (putK vs κ v)) (s' := .od (dputD kvs (kD κ) d)) e1 ei rfl rfl ⟨p, _, rfl, upd_same, (((hr.same s12).put hv').ev (fun a u e n => by rw [upd_ne fun z => n (by rw [z]; exact hp)]; exact e) fun a h => .inl h)⟩
            refine ⟨p, _, rfl, ?_, q O _ σ J ((ER.same_evo s12).trans I E)⟩
            rw [rep_kD t]
            exact DPut.k (s12 _ _ h1) (by rw [hl]; exact hz)
          · exact q.elim
        · exact q.elim
      · exact q.elim
    · exact q.elim
  · exact q.elim
  · exact q.elim
/-- del d[k] -/
def gDDel (i : Nat) (fk : FE) : FS := fun ρ => match ρ[i]? with
  | some (.od kvs) => match fk ρ with
    | .ok rk => if (isKey rk.d && (dgetD kvs rk.d).isSome) = true then .nx (ρ.set i (.od (ddropD kvs rk.d))) else .bad
    | _ => .bad
  | _ => .bad
theorem KReps.isK {K : PySem.W.Frag} {H : Hp} {O : List Addr} {k : Key} {vs : List (Key × V)} {ds : List (D × D)} (h : KReps K H O vs ds) : (valV vs k).isSome = (dgetD ds (kD k)).isSome := by
  obtain ⟨h1, h2⟩ := h.get (k := k)
  cases e : dgetD ds (kD k) with
  | none => rw [h2 e]; rfl
  | some d =>
    obtain ⟨v, e2, _⟩ := h1 d e
    rw [e2]; rfl
theorem s_ddel (i : Nat) {x : Str} {p2 spos : Pos} (hk : EV X k fk) (hN : X.N[i]? = some x := by rfl) (hv : Vis X.env.scope x := by first | exact Or.inl rfl | exact Or.inr (Or.inl rfl) | exact Or.inr (Or.inr rfl)) (hd : (x == ("__debug__" : Str)) = false := by decide)
    (hcd : (x == ("__classdict__" : Str)) = false := by decide) : SV X (.Delete [.Subscript (.Name x p2) k spos] pos) (gDDel i fk) := by
  refine ⟨ps_imp (ps_ddel (pe_var hN hv hd hcd) hk.run) fun D σ H ⟨O, ρ, I, q⟩ => ?_⟩
  unfold gDDel at q
  split at q
  · rename_i kvs ei
    split at q
    · rename_i rk ek
      split at q
      · rename_i hc
        rw [Bool.and_eq_true] at hc
        obtain ⟨κ, hκ⟩ := isKey_kD hc.1
        rw [hκ] at q hc
        obtain ⟨ov, e1, p, vs, rfl, h1, hr⟩ := I.get ei
        have hp : p ∈ O := I.sub p (own_at e1 ei (by simp [Sl.own]))
        refine ⟨_, e1, O, ρ, rk, I, ek, fun w H2 s2 r2 => ?_⟩
        have t := r2.top
        rw [hκ] at t
        obtain ⟨J, E⟩ := (I.same s2).mut (o := .dK (dropK vs κ)) (s' := .od (ddropD kvs (kD κ))) e1 ei rfl rfl ⟨p, _, rfl, upd_same, (((hr.same s2).drop).ev (fun a u e n => by rw [upd_ne fun z => n (by rw [z]; exact hp)]; exact e) fun a h => .inl h)⟩
        exact ⟨p, vs, κ, rfl, s2 _ _ h1, rep_kD t, by rw [hr.isK]; exact hc.2, q O _ σ J ((ER.same_evo s2).trans I E)⟩
      · exact q.elim
    · exact q.elim
  · exact q.elim
end
/-! ### evaluation -/
section
variable {f fk : FE} {ρ : En}
theorem ap_gDPut (i : Nat) : gDPut i fk f ρ = useS (f ρ) fun r => match r.fz with
    | some d => (match ρ[i]? with
      | some (.od kvs) => (match fk ρ with
        | .ok rk => if (isKey rk.d && decide (kvs.length < sizeN)) = true then .nx (ρ.set i (.od (dputD kvs rk.d d))) else .bad
        | _ => .bad)
      | _ => .bad)
    | none => .bad := rfl
theorem ap_gDDel (i : Nat) : gDDel i fk ρ = match ρ[i]? with
  | some (.od kvs) => (match fk ρ with
    | .ok rk => if (isKey rk.d && (dgetD kvs rk.d).isSome) = true then .nx (ρ.set i (.od (ddropD kvs rk.d))) else .bad
    | _ => .bad)
  | _ => .bad := rfl
theorem ap_fKGet (tbl : List (Str × D)) : fKGet tbl f ρ = (f ρ).bind fun r => (match r.d with
  | .str z => (match tbGet tbl z with
    | some d => .ok (.fr d)
    | none => .bad)
  | _ => .bad) := rfl
theorem ap_fKIn (neg : Bool) (tbl : List (Str × D)) : fKIn neg tbl f ρ = (f ρ).bind fun r => (match r.d with
  | .str z => dInB neg (tbGet tbl z).isSome
  | _ => .bad) := rfl
theorem tb_nil (x : Str) : tbGet [] x = none := rfl
theorem tb_cons (k x : Str) (d : D) (r : List (Str × D)) : tbGet ((k, d) :: r) x = if k = x then some d else tbGet r x := rfl
theorem ap_fDisp (fs : List (FE × FE)) : fDisp fs ρ = (evalP fs ρ).bind fun ps => .ok (.od (dmerge ps)) := rfl
theorem evp_nil : evalP [] ρ = .ok [] := rfl
theorem evp_cons (r : List (FE × FE)) : evalP ((fk, f) :: r) ρ = (fk ρ).bind fun x => (f ρ).bind fun y => (match y.fz with
    | some d => if isKey x.d = true then (evalP r ρ).bind fun ps => .ok ((x.d, d) :: ps) else .bad
    | none => .bad) := rfl
theorem dmerge_eq (ps : List (D × D)) : dmerge ps = ps.foldl (fun acc p => dputD acc p.1 p.2) [] := rfl
theorem ap_fDNew : fDNew ρ = .ok (.od []) := rfl
theorem isk_i (i : Int) : isKey (.int i) = true := rfl
theorem isk_s (i : Str) : isKey (.str i) = true := rfl
theorem keq_ii (i j : Int) : kEq (.int i) (.int j) = decide (i = j) := rfl
theorem keq_ss (i j : Str) : kEq (.str i) (.str j) = decide (i = j) := rfl
theorem dput_nil (k v : D) : dputD [] k v = [(k, v)] := rfl
theorem dput_cons (k k' v v' : D) (r : List (D × D)) : dputD ((k', v') :: r) k v = if kEq k' k = true then (k', v) :: r.map (fun p => if kEq p.1 k = true then (p.1, v) else p) else (k', v') :: dputD r k v := by
  unfold dputD
  rw [List.any_cons]
  by_cases h : kEq k' k = true
  · rw [h, Bool.true_or, if_pos rfl, if_pos rfl, List.map_cons, if_pos h]
  · have h' : kEq k' k = false := by simpa using h
    rw [h', Bool.false_or, if_neg Bool.false_ne_true, List.map_cons]
    by_cases h2 : (r.any fun p => kEq p.1 k) = true
    · rw [if_pos h2, if_pos h2, if_neg h]
    · rw [if_neg h2, if_neg h2]
      rfl
theorem dget_nil (k : D) : dgetD [] k = none := rfl
theorem dget_cons (k k' v' : D) (r : List (D × D)) : dgetD ((k', v') :: r) k = if kEq k' k = true then some v' else dgetD r k := by
  unfold dgetD
  rw [List.find?_cons]
  dsimp only
  cases kEq k' k <;> rfl
theorem okd_nil : okDict [] = true := rfl
theorem okd_s (x : Str) (v : D) (r : List (D × D)) : okDict ((.str x, v) :: r) = true := rfl
theorem okd_i (x : Int) (v : D) (r : List (D × D)) : okDict ((.int x, v) :: r) = true := rfl
theorem ix_d (kvs : List (D × D)) (k : D) : dIx (.dict kvs) k = if (isKey k && okDict kvs) = true then (match dgetD kvs k with
    | some d => .ok (.fr d)
    | none => .bad) else .bad := by
  unfold dIx
  cases k <;> rfl
theorem in_ds (neg : Bool) (x : Str) (kvs : List (D × D)) : dIn neg (.str x) (.dict kvs) = if okDict kvs = true then dInB neg (dgetD kvs (.str x)).isSome else .bad := by
  unfold dIn
  simp only [isk_s, Bool.true_and]
theorem in_di (neg : Bool) (x : Int) (kvs : List (D × D)) : dIn neg (.int x) (.dict kvs) = if okDict kvs = true then dInB neg (dgetD kvs (.int x)).isSome else .bad := by
  unfold dIn
  simp only [isk_i, Bool.true_and]
end
end VL
namespace K
open PySem PySem.Spec
open PyProof.Rows L2 VL
/-! ### the text -/
def topS (i : Nat) : Stmt := PySem.Challenge.pw_ordershown_k02_possible_results.main.body.getD i (.Pass ⟨0, 0, 0, 0⟩)
abbrev s_is_possible : Stmt := topS 5
abbrev N_is_possible : List Str := ["kind", "operation", "result"]
theorem sc_is_possible : FnScope N_is_possible ["kind", "operation", "result"] (defScope s_is_possible) := ⟨rfl, rfl, rfl, by decide +kernel, rfl, by decide +kernel, by decide +kernel⟩
abbrev s__law_cell : Stmt := topS 7
abbrev N__law_cell : List Str := ["_law_script", "_law_k"]
theorem sc__law_cell : FnScope N__law_cell ["_law_script", "_law_k"] (defScope s__law_cell) := ⟨rfl, rfl, rfl, by decide +kernel, rfl, by decide +kernel, by decide +kernel⟩
abbrev s__law_draw : Stmt := topS 8
abbrev N__law_draw : List Str := ["_law_script", "_law_k", "_law_sizes", "_law_cell_here", "_law_drawn", "_law_stirred", "_law_j", "_law_size"]
theorem sc__law_draw : FnScope N__law_draw ["_law_script", "_law_k", "_law_sizes"] (defScope s__law_draw) := ⟨rfl, rfl, rfl, by decide +kernel, rfl, by decide +kernel, by decide +kernel⟩
abbrev s__law_names : Stmt := topS 9
abbrev N__law_names : List Str := ["_law_kind"]
theorem sc__law_names : FnScope N__law_names ["_law_kind"] (defScope s__law_names) := ⟨rfl, rfl, rfl, by decide +kernel, rfl, by decide +kernel, by decide +kernel⟩
abbrev s__law_might : Stmt := topS 10
abbrev N__law_might : List Str := ["_law_word", "_law_result"]
theorem sc__law_might : FnScope N__law_might ["_law_word", "_law_result"] (defScope s__law_might) := ⟨rfl, rfl, rfl, by decide +kernel, rfl, by decide +kernel, by decide +kernel⟩
abbrev s_law : Stmt := topS 11
abbrev N_law : List Str := ["_law_script", "_law_rows", "_law_k", "_law_kind", "_law_digits", "_law_word", "_law_result"]
theorem sc_law : FnScope N_law ["_law_script"] (defScope s_law) := ⟨rfl, rfl, rfl, by decide +kernel, rfl, by decide +kernel, by decide +kernel⟩
/-- what the top has left -/
structure Txt (w : World) (K : PySem.W.Frag) (mg : Str → Option Value) (f_is_possible f__law_cell f__law_draw f__law_names f__law_might f_law : Addr) (d_is_possible d__law_cell d__law_draw d__law_names d__law_might d_law : FuncData) : Prop where
  n_is_possible : Fun K "is_possible" "is_possible" s_is_possible f_is_possible d_is_possible
  g_is_possible : mg "is_possible" = some (.ref f_is_possible)
  b_is_possible : Binds K d_is_possible ["kind", "operation", "result"] []
  n__law_cell : Fun K "_law_cell" "_law_cell" s__law_cell f__law_cell d__law_cell
  g__law_cell : mg "_law_cell" = some (.ref f__law_cell)
  b__law_cell : Binds K d__law_cell ["_law_script", "_law_k"] []
  n__law_draw : Fun K "_law_draw" "_law_draw" s__law_draw f__law_draw d__law_draw
  g__law_draw : mg "_law_draw" = some (.ref f__law_draw)
  b__law_draw : Binds K d__law_draw ["_law_script", "_law_k", "_law_sizes"] []
  n__law_names : Fun K "_law_names" "_law_names" s__law_names f__law_names d__law_names
  g__law_names : mg "_law_names" = some (.ref f__law_names)
  b__law_names : Binds K d__law_names ["_law_kind"] []
  n__law_might : Fun K "_law_might" "_law_might" s__law_might f__law_might d__law_might
  g__law_might : mg "_law_might" = some (.ref f__law_might)
  b__law_might : Binds K d__law_might ["_law_word", "_law_result"] []
  n_law : Fun K "law" "law" s_law f_law d_law
  g_law : mg "law" = some (.ref f_law)
  b_law : Binds K d_law ["_law_script"] []
  q_NUMBERS : GC K mg "NUMBERS" (.tuple [.str "read", .str "get", .str "take"])
  q_OPERATIONS : GD K w mg "OPERATIONS" [("register", .tuple [.str "write", .str "read", .str "swap"]), ("counter", .tuple [.str "add", .str "get"]), ("set", .tuple [.str "insert", .str "remove", .str "has"]), ("queue", .tuple [.str "put", .str "take"])]
  q_RESULT : GC K mg "RESULT" (.int 9999)
  q_WORDS : GD K w mg "WORDS" [("write", .tuple [.str "ok"]), ("read", .tuple []), ("swap", .tuple [.str "yes", .str "no"]), ("add", .tuple [.str "ok"]), ("get", .tuple []), ("insert", .tuple [.str "yes", .str "no"]), ("remove", .tuple [.str "yes", .str "no"]), ("has", .tuple [.str "yes", .str "no"]), ("put", .tuple [.str "ok"]), ("take", .tuple [.str "empty"])]
  m_int : mg "int" = none
  m_isinstance : mg "isinstance" = none
  m_len : mg "len" = none
  m_max : mg "max" = none
  m_min : mg "min" = none
  m_range : mg "range" = none
  m_str : mg "str" = none
section
variable {P : Program} {w : World} {K : PySem.W.Frag} {mg : Str → Option Value} {base : Heap} {f_is_possible f__law_cell f__law_draw f__law_names f__law_might f_law : Addr} {d_is_possible d__law_cell d__law_draw d__law_names d__law_might d_law : FuncData}
def g_is_possible : FS := gSeq (gIf (fB (fOp (dIn true) (fVar 1) (fKGet [("register", .tuple [.str "write", .str "read", .str "swap"]), ("counter", .tuple [.str "add", .str "get"]), ("set", .tuple [.str "insert", .str "remove", .str "has"]), ("queue", .tuple [.str "put", .str "take"])] (fVar 0)))) (gRet (fC (.bool false))) (gNext)) (gSeq (gIf (fTr (fIsi "str" (fVar 2))) (gRet (fOp (dIn false) (fVar 2) (fKGet [("write", .tuple [.str "ok"]), ("read", .tuple []), ("swap", .tuple [.str "yes", .str "no"]), ("add", .tuple [.str "ok"]), ("get", .tuple []), ("insert", .tuple [.str "yes", .str "no"]), ("remove", .tuple [.str "yes", .str "no"]), ("has", .tuple [.str "yes", .str "no"]), ("put", .tuple [.str "ok"]), ("take", .tuple [.str "empty"])] (fVar 1)))) (gNext)) (gRet (fAnd (fOp (dIn false) (fVar 1) (fC (.tuple [.str "read", .str "get", .str "take"]))) (fChain dLe dLe (fC (.int 0)) (fVar 2) (fC (.int 9999))))))
def F_is_possible : List D → Rs R := fnR 3 g_is_possible
theorem ok_is_possible (T : Txt w K mg f_is_possible f__law_cell f__law_draw f__law_names f__law_might f_law d_is_possible d__law_cell d__law_draw d__law_names d__law_might d_law) : FnOk P w K mg base CX0 1 f_is_possible d_is_possible ["kind", "operation", "result"] (spF K 3 F_is_possible) := by
  unfold F_is_possible g_is_possible
  exact fn_ok rfl rfl T.n_is_possible sc_is_possible fun cdv A outer s H E hr => b_cons (s_if (t_cmp (v_notin hr.units) (e_var 1) (e_kget T.q_OPERATIONS (e_var 0))) (b_one (s_ret (e_bl))) (b_nil)) (b_cons (s_if (t_truth (e_isi T.m_isinstance T.m_str (by decide +kernel) isTys_str (e_var 2))) (b_one (s_ret (e_cmp (v_in hr.units) (e_var 2) (e_kget T.q_WORDS (e_var 1))))) (b_nil)) (b_one (s_ret (e_and (e_cmp (v_in hr.units) (e_var 1) (e_glob T.q_NUMBERS)) (e_one (e_chain (v_le) (v_le) (e_int) (e_var 2) (e_glob T.q_RESULT)))))))
def g__law_cell : FS := gSeq (gIf (fB (fOp dLt (fVar 1) (fBlt dLen (fCons (fVar 0) (fNil))))) (gRet (fOp dIx (fVar 0) (fVar 1))) (gNext)) (gRet (fC (.int 0)))
def F__law_cell : List D → Rs R := fnR 2 g__law_cell
theorem ok__law_cell (T : Txt w K mg f_is_possible f__law_cell f__law_draw f__law_names f__law_might f_law d_is_possible d__law_cell d__law_draw d__law_names d__law_might d_law) : FnOk P w K mg base CX0 1 f__law_cell d__law_cell ["_law_script", "_law_k"] (spF K 2 F__law_cell) := by
  unfold F__law_cell g__law_cell
  exact fn_ok rfl rfl T.n__law_cell sc__law_cell fun cdv A outer s H E hr => b_cons (s_if (t_cmp (v_lt) (e_var 1) (e_blt c_len T.m_len PySem.boot_len (a_cons (e_var 0) (a_nil)))) (b_one (s_ret (e_ix hr.units (e_var 0) (e_var 1)))) (b_nil)) (b_one (s_ret (e_int)))
def g__law_draw : FS := gSeq (gSet 3 (fCall F__law_cell (fCons (fVar 0) (fCons (fVar 1) (fNil))))) (gSeq (gIf (fB (fOp dLt (fVar 3) (fC (.int 0)))) (gSet 3 (fNeg (fVar 3))) (gNext)) (gSeq (gOwn 4 (fLst (fNil))) (gSeq (gIf (fB (fOp dGe (fVar 3) (fOp dPow (fC (.int 10)) (fC (.int 18))))) (gSeq (gSet 3 (fOp dSub (fVar 3) (fOp dPow (fC (.int 10)) (fC (.int 18))))) (gSeq (gFor (fIter (fVar 2) (listOf' false)) (sName 7) (gForget [7] (gSeq (gApp 4 (fOp dMod (fVar 3) (fVar 7))) (gSet 3 (fOp dDiv (fVar 3) (fVar 7)))))) (gRetV 4))) (gNext)) (gSeq (gSet 5 (fOp dMod (fOp dAdd (fOp dAdd (fVar 3) (fC (.int 1))) (fOp dMul (fC (.int 31)) (fVar 1))) (fC (.int 2147483647)))) (gSeq (gFor (fRng1 (fCons (fBlt dLen (fCons (fVar 2) (fNil))) (fNil))) (sName 6) (gForget [6] (gSeq (gSet 5 (fOp dMod (fOp dAdd (fOp dAdd (fOp dMul (fVar 5) (fC (.int 48271))) (fC (.int 11))) (fVar 6)) (fC (.int 2147483647)))) (gSeq (gSet 5 (fOp dMod (fOp dAdd (fOp dMul (fVar 5) (fC (.int 69621))) (fC (.int 3))) (fC (.int 2147483647)))) (gApp 4 (fOp dMod (fOp dDiv (fVar 5) (fC (.int 7))) (fOp dIx (fVar 2) (fVar 6)))))))) (gRetV 4))))))
def F__law_draw : List D → Rs R := fnR 8 g__law_draw
theorem ok__law_draw (T : Txt w K mg f_is_possible f__law_cell f__law_draw f__law_names f__law_might f_law d_is_possible d__law_cell d__law_draw d__law_names d__law_might d_law) : FnOk P w K mg base CX0 2 f__law_draw d__law_draw ["_law_script", "_law_k", "_law_sizes"] (spF K 3 F__law_draw) := by
  unfold F__law_draw g__law_draw
  exact fn_ok rfl rfl T.n__law_draw sc__law_draw fun cdv A outer s H E hr => b_cons (s_set 3 sc__law_draw.nd (e_call ((ok__law_cell T).mono (by decide)) hr T.g__law_cell T.n__law_cell.kp T.b__law_cell (a_cons (e_var 0) (a_cons (e_var 1) (a_nil))))) (b_cons (s_if (t_cmp (v_lt) (e_var 3) (e_int)) (b_one (s_set 3 sc__law_draw.nd (e_neg (e_var 3)))) (b_nil)) (b_cons (s_own 4 sc__law_draw.nd (e_lst (a_nil))) (b_cons (s_if (t_cmp (v_ge) (e_var 3) (e_op v_pow (e_int) (e_int))) (b_cons (s_set 3 sc__law_draw.nd (e_op v_sub (e_var 3) (e_op v_pow (e_int) (e_int)))) (b_cons (s_for PassesOwn.never rfl (i_list (e_var 2)) (g_name 7 sc__law_draw.nd) (b_forget [7] (b_cons (s_app 4 (e_op v_mod (e_var 3) (e_var 7))) (b_one (s_set 3 sc__law_draw.nd (e_op v_div (e_var 3) (e_var 7))))))) (b_one (s_retv 4)))) (b_nil)) (b_cons (s_set 5 sc__law_draw.nd (e_op v_mod (e_opT v_add (e_opT v_add (e_var 3) (e_int)) (e_op v_mul (e_int) (e_var 1))) (e_int))) (b_cons (s_for PassesOwn.never rfl (i_range1 T.m_range (a_cons (e_blt c_len T.m_len PySem.boot_len (a_cons (e_var 2) (a_nil))) (a_nil))) (g_name 6 sc__law_draw.nd) (b_forget [6] (b_cons (s_set 5 sc__law_draw.nd (e_op v_mod (e_opT v_add (e_opT v_add (e_op v_mul (e_var 5) (e_int)) (e_int)) (e_var 6)) (e_int))) (b_cons (s_set 5 sc__law_draw.nd (e_op v_mod (e_opT v_add (e_op v_mul (e_var 5) (e_int)) (e_int)) (e_int))) (b_one (s_app 4 (e_op v_mod (e_op v_div (e_var 5) (e_int)) (e_ix hr.units (e_var 2) (e_var 6))))))))) (b_one (s_retv 4)))))))
def g__law_names : FS := gRet (fOp dIx (fDisp [(fC (.str "register"), fLst (fCons (fC (.str "write")) (fCons (fC (.str "read")) (fCons (fC (.str "swap")) (fNil))))), (fC (.str "counter"), fLst (fCons (fC (.str "add")) (fCons (fC (.str "get")) (fNil)))), (fC (.str "set"), fLst (fCons (fC (.str "insert")) (fCons (fC (.str "remove")) (fCons (fC (.str "has")) (fNil))))), (fC (.str "queue"), fLst (fCons (fC (.str "put")) (fCons (fC (.str "take")) (fNil))))]) (fVar 0))
def F__law_names : List D → Rs R := fnR 1 g__law_names
theorem ok__law_names (T : Txt w K mg f_is_possible f__law_cell f__law_draw f__law_names f__law_might f_law d_is_possible d__law_cell d__law_draw d__law_names d__law_might d_law) : FnOk P w K mg base CX0 1 f__law_names d__law_names ["_law_kind"] (spF K 1 F__law_names) := by
  unfold F__law_names g__law_names
  exact fn_ok rfl rfl T.n__law_names sc__law_names fun cdv A outer s H E hr => b_one (s_ret (e_ix hr.units (e_disp (pv_cons (e_str) (e_lst (a_cons (e_str) (a_cons (e_str) (a_cons (e_str) (a_nil))))) (pv_cons (e_str) (e_lst (a_cons (e_str) (a_cons (e_str) (a_nil)))) (pv_cons (e_str) (e_lst (a_cons (e_str) (a_cons (e_str) (a_cons (e_str) (a_nil))))) (pv_cons (e_str) (e_lst (a_cons (e_str) (a_cons (e_str) (a_nil)))) (pv_nil)))))) (e_var 0)))
def g__law_might : FS := gSeq (gIf (fTr (fIsi "int" (fVar 1))) (gRet (fAnd (fOp (dIn false) (fVar 0) (fLst (fCons (fC (.str "read")) (fCons (fC (.str "get")) (fCons (fC (.str "take")) (fNil)))))) (fChain dLe dLe (fC (.int 0)) (fVar 1) (fC (.int 9999))))) (gNext)) (gSeq (gIf (fB (fOp (dIn false) (fVar 0) (fLst (fCons (fC (.str "write")) (fCons (fC (.str "add")) (fCons (fC (.str "put")) (fNil))))))) (gRet (fOp dEq (fVar 1) (fC (.str "ok")))) (gNext)) (gSeq (gIf (fB (fOp dEq (fVar 0) (fC (.str "take")))) (gRet (fOp dEq (fVar 1) (fC (.str "empty")))) (gNext)) (gRet (fAnd (fOp (dIn false) (fVar 0) (fLst (fCons (fC (.str "swap")) (fCons (fC (.str "insert")) (fCons (fC (.str "remove")) (fCons (fC (.str "has")) (fNil))))))) (fOp (dIn false) (fVar 1) (fLst (fCons (fC (.str "yes")) (fCons (fC (.str "no")) (fNil)))))))))
def F__law_might : List D → Rs R := fnR 2 g__law_might
theorem ok__law_might (T : Txt w K mg f_is_possible f__law_cell f__law_draw f__law_names f__law_might f_law d_is_possible d__law_cell d__law_draw d__law_names d__law_might d_law) : FnOk P w K mg base CX0 1 f__law_might d__law_might ["_law_word", "_law_result"] (spF K 2 F__law_might) := by
  unfold F__law_might g__law_might
  exact fn_ok rfl rfl T.n__law_might sc__law_might fun cdv A outer s H E hr => b_cons (s_if (t_truth (e_isi T.m_isinstance T.m_int (by decide +kernel) isTys_int (e_var 1))) (b_one (s_ret (e_and (e_cmp (v_in hr.units) (e_var 0) (e_lst (a_cons (e_str) (a_cons (e_str) (a_cons (e_str) (a_nil)))))) (e_one (e_chain (v_le) (v_le) (e_int) (e_var 1) (e_int)))))) (b_nil)) (b_cons (s_if (t_cmp (v_in hr.units) (e_var 0) (e_lst (a_cons (e_str) (a_cons (e_str) (a_cons (e_str) (a_nil)))))) (b_one (s_ret (e_cmp (v_eq hr.units) (e_var 1) (e_str)))) (b_nil)) (b_cons (s_if (t_cmp (v_eq hr.units) (e_var 0) (e_str)) (b_one (s_ret (e_cmp (v_eq hr.units) (e_var 1) (e_str)))) (b_nil)) (b_one (s_ret (e_and (e_cmp (v_in hr.units) (e_var 0) (e_lst (a_cons (e_str) (a_cons (e_str) (a_cons (e_str) (a_cons (e_str) (a_nil))))))) (e_one (e_cmp (v_in hr.units) (e_var 1) (e_lst (a_cons (e_str) (a_cons (e_str) (a_nil)))))))))))
def g_law : FS := gSeq (gOwn 1 (fLst (fNil))) (gSeq (gFor (fRng1 (fCons (fBlt dMin2 (fCons (fC (.int 20)) (fCons (fBlt dMax2 (fCons (fC (.int 1)) (fCons (fBlt dLen (fCons (fVar 0) (fNil))) (fNil)))) (fNil)))) (fNil))) (sName 2) (gForget [2, 4] (gSeq (gSet 4 (fCall F__law_draw (fCons (fVar 0) (fCons (fVar 2) (fCons (fLst (fCons (fC (.int 10004)) (fCons (fC (.int 8)) (fNil)))) (fNil)))))) (gSeq (gApp 1 (fOp dSub (fOp dIx (fVar 4) (fC (.int 0))) (fC (.int 2)))) (gApp 1 (fOp dIx (fLst (fCons (fC (.str "ok")) (fCons (fC (.str "yes")) (fCons (fC (.str "no")) (fCons (fC (.str "empty")) (fCons (fC (.str "maybe")) (fCons (fC (.str "")) (fCons (fC (.str "0")) (fCons (fC (.str "none")) (fNil)))))))))) (fOp dIx (fVar 4) (fC (.int 1))))))))) (gSeq (gFor (fIter (fLst (fCons (fC (.str "register")) (fCons (fC (.str "counter")) (fCons (fC (.str "set")) (fCons (fC (.str "queue")) (fNil)))))) (listOf' false)) (sName 3) (gForget [3, 5, 6] (gFor (fIter (fCall F__law_names (fCons (fVar 3) (fNil))) (listOf' false)) (sName 5) (gForget [5, 6] (gFor (fIter (fOp dAdd (fVar 1) (fLst (fCons (fNeg (fC (.int 1))) (fCons (fC (.int 0)) (fCons (fC (.int 9999)) (fCons (fC (.int 10000)) (fCons (fC (.str "ok")) (fCons (fC (.str "yes")) (fCons (fC (.str "no")) (fCons (fC (.str "empty")) (fNil))))))))))) (listOf' false)) (sName 6) (gForget [6] (gIf (fB (fOp dNe (fCall F_is_possible (fCons (fVar 3) (fCons (fVar 5) (fCons (fVar 6) (fNil))))) (fCall F__law_might (fCons (fVar 5) (fCons (fVar 6) (fNil)))))) (gRet (fC (.bool false))) (gNext)))))))) (gRet (fC (.bool true)))))
def F_law : List D → Rs R := fnR 7 g_law
theorem ok_law (T : Txt w K mg f_is_possible f__law_cell f__law_draw f__law_names f__law_might f_law d_is_possible d__law_cell d__law_draw d__law_names d__law_might d_law) : FnOk P w K mg base CX0 3 f_law d_law ["_law_script"] (spF K 1 F_law) := by
  unfold F_law g_law
  exact fn_ok rfl rfl T.n_law sc_law fun cdv A outer s H E hr => b_cons (s_own 1 sc_law.nd (e_lst (a_nil))) (b_cons (s_for PassesOwn.never rfl (i_range1 T.m_range (a_cons (e_blt (c_min2 rfl) T.m_min (by decide +kernel) (a_cons (e_int) (a_cons (e_blt (c_max2 rfl) T.m_max (by decide +kernel) (a_cons (e_int) (a_cons (e_blt c_len T.m_len PySem.boot_len (a_cons (e_var 0) (a_nil))) (a_nil)))) (a_nil)))) (a_nil))) (g_name 2 sc_law.nd) (b_forget [2, 4] (b_cons (s_set 4 sc_law.nd (e_call ((ok__law_draw T).mono (by decide)) hr T.g__law_draw T.n__law_draw.kp T.b__law_draw (a_cons (e_var 0) (a_cons (e_var 2) (a_cons (e_lst (a_cons (e_int) (a_cons (e_int) (a_nil)))) (a_nil)))))) (b_cons (s_app 1 (e_op v_sub (e_ix hr.units (e_var 4) (e_int)) (e_int))) (b_one (s_app 1 (e_ix hr.units (e_lst (a_cons (e_str) (a_cons (e_str) (a_cons (e_str) (a_cons (e_str) (a_cons (e_str) (a_cons (e_str) (a_cons (e_str) (a_cons (e_str) (a_nil)))))))))) (e_ix hr.units (e_var 4) (e_int))))))))) (b_cons (s_for PassesOwn.never rfl (i_list (e_lst (a_cons (e_str) (a_cons (e_str) (a_cons (e_str) (a_cons (e_str) (a_nil))))))) (g_name 3 sc_law.nd) (b_forget [3, 5, 6] (b_one (s_for PassesOwn.never rfl (i_list (e_call ((ok__law_names T).mono (by decide)) hr T.g__law_names T.n__law_names.kp T.b__law_names (a_cons (e_var 3) (a_nil)))) (g_name 5 sc_law.nd) (b_forget [5, 6] (b_one (s_for PassesOwn.never rfl (i_list (e_opT v_add (e_var 1) (e_lst (a_cons (e_neg (e_int)) (a_cons (e_int) (a_cons (e_int) (a_cons (e_int) (a_cons (e_str) (a_cons (e_str) (a_cons (e_str) (a_cons (e_str) (a_nil)))))))))))) (g_name 6 sc_law.nd) (b_forget [6] (b_one (s_if (t_cmp (v_ne hr.units) (e_call ((ok_is_possible T).mono (by decide)) hr T.g_is_possible T.n_is_possible.kp T.b_is_possible (a_cons (e_var 3) (a_cons (e_var 5) (a_cons (e_var 6) (a_nil))))) (e_call ((ok__law_might T).mono (by decide)) hr T.g__law_might T.n__law_might.kp T.b__law_might (a_cons (e_var 5) (a_cons (e_var 6) (a_nil))))) (b_one (s_ret (e_bl))) (b_nil))))))))))) (b_one (s_ret (e_bl)))))
end
end K
namespace K
open PySem PySem.Spec PyProof.Rows L2 VL
local macro_rules | `(tactic| walk_at "vl") => `(tactic| simp only [ap_gDPut, ap_gDDel, ap_fKGet, ap_fKIn, tb_nil, tb_cons, ap_fDisp, evp_nil, evp_cons, dmerge_eq, ap_fDNew, isk_i, isk_s, keq_ii, keq_ss, dput_nil, dput_cons, dget_nil, dget_cons, okd_nil, okd_s, okd_i, ix_d, in_ds, in_di, List.foldl_cons, List.foldl_nil, Option.isSome_some, Option.isSome_none, ap_fRng3, ap_oRng3, ap_fRev, rev_l, ap_fCallL, ff_nil, ff_cons, ap_fIsi, isi_n, isi_b, isi_i, isi_s, isi_l, isi_t, ap_isiB, fnR_eq, ap_gSeq, ap_gNext, ap_gCont, ap_gBreak, ap_gFz, ap_gIf, br_t, br_f, br_b, useS_ok, ap_gRet, ap_gSet, ap_gOwn, ap_gRetV, ap_gApp, ap_gAug, useL_ok, ap_gFor, ap_gForget, ap_gAsg, ap_gSetIx, ap_fVar, ap_fC, ap_fOp, ap_fB, ap_toB, ap_fTr, ap_fCall, ap_fBlt, ap_fNil, ap_fCons, ap_fLst, ap_fTup, ap_fzL, fzAll_nil, fzAll_fr, fzAll_ol, fzAll_od, fzAll_bw, fz_fr, fz_ol, fz_od, fz_bw, ap_callR, ap_fSl, ap_fNoP, ap_fP, ap_oInt, ap_fIter, ap_fRng1, ap_fRng2, ap_oRng1, ap_oRng2, lo_fr, lo_ol, lo_bw, to_fr, ap_fRep, ap_oRep, okite1, okite2, bind_ite, rbind_ite, fin_ite, fin_rt_fr, fin_rt_ol, fin_nx, fin_bad, brR_b, ap_fAnd, ap_fOr, ap_fNot, ap_notR, ap_fNeg, ap_dNeg, ap_fIf, ap_fChain, ap_fLc, ap_tAndB, ap_tOrB, ap_tNotB, ap_ttYes, tr_bool, tr_list, tr_tuple, tr_none, tr_int, ap_sName, ap_sTup, ap_sCons, ap_sNil, w_nil, w_cons, slot_fr, slot_ol, slot_od, ap_frz, add_ii, add_tt, add_ll, add_ss, sub_ii, mul_ii, mod_ii, div_ii, pow_ii, lt_ii, le_ii, gt_ii, ge_ii, isn_, notn_, isNone_n, isNone_i, isNone_t, isNone_l, isNone_s, isNone_b, rk_none, rk_bool, rk_int, rk_str, rk_list, rk_tuple, eq_rk, ne_rk, inl_rk, int_rk, inB_f, inB_t, ix_l, ix_t, atD_eq, atI_0, atI_1, atI_2, atI_3, atI_4, atI_5, atI_6, atI_7, atI_map, sl_l, sl_t, len_l, len_t, min_ii, max_ii, list_l, list_t, tuple_l, tuple_t, int_i, int_b, ofString_inj, eqv_ii, eqv_ss, eqv_bb, eqv_nn, eqv_ni, eqv_in, eqv_is, eqv_si, eqv_ns, eqv_sn, eqv_ll, eqv_tt, eqva_nn, eqva_cc, eqva_nc, eqva_cn, Rs.bind_ok, Rs.bind_bad, So.bind_nx, So.bind_rt, So.bind_ct, So.bind_bk, So.bind_bad, R.d_fr, R.d_ol, R.d_od, R.d_bw, R.flat,
  List.map_cons, List.map_nil, List.length_cons, List.length_nil, List.length_map, List.replicate_succ, List.replicate_zero, List.cons_append, List.nil_append, List.append_nil, List.getElem?_cons_zero, List.getElem?_cons_succ, List.set_cons_zero, List.set_cons_succ, List.all_cons, List.all_nil, List.any_cons, List.any_nil, Nat.zero_add, Nat.add_one_sub_one, Nat.reduceAdd, Nat.reduceSub, Nat.reduceMul, Nat.reduceLeDiff, Int.cast_ofNat_Int, Int.reduceLT, Int.reduceLE, Int.reduceAdd, Int.reduceMul, Int.reduceEq, Int.reduceNe, Int.reduceToNat, Int.reduceNeg, Int.reducePow, String.reduceEq, decide_true, decide_false, Bool.false_eq_true, Bool.or_true, Bool.or_false, Bool.true_or, Bool.false_or, Bool.and_true, Bool.true_and, Bool.and_false, Bool.false_and, Bool.not_true, Bool.not_false, Bool.and_self, Bool.or_self, if_true, if_false, ite_true, ite_false, reduceIte, Option.bind_some, Option.bind_none, Option.map_some, Option.map_none, and_self, and_true, true_and, eq_self])
theorem ld_eq : F__law_draw = FDraw := rfl
theorem rk_row {d : D} (h : (∃ i, d = .int i) ∨ ∃ x, d = .str x) (n : Nat) : rk n d = true := by
  rcases h with ⟨i, rfl⟩ | ⟨x, rfl⟩
  · exact rk_int n i
  · exact rk_str n x
def okI (w : String) (i : Int) : Bool := (decide (w = "read") || decide (w = "get") || decide (w = "take")) && (decide (0 ≤ i) && decide (i ≤ 9999))
def okS (w : String) (x : Str) : Bool := if (decide (w = "write") || decide (w = "add") || decide (w = "put")) = true then decide (x = "ok") else if w = "take" then decide (x = "empty") else
  (decide (w = "swap") || decide (w = "insert") || decide (w = "remove") || decide (w = "has")) && (decide (x = "yes") || decide (x = "no"))
theorem in_nil (x : Str) : dIn false (.str x) (.tuple []) = .ok (.fr (.bool false)) := int_rk false (rk_str 20 x) rfl
theorem both_i (k w : String) (h : (k, w) ∈ [("register", "write"), ("register", "read"), ("register", "swap"), ("counter", "add"), ("counter", "get"), ("set", "insert"), ("set", "remove"), ("set", "has"), ("queue", "put"), ("queue", "take")]) (i : Int) : F_is_possible [.str k, .str w, .int i] = .ok (.fr (.bool (okI w i))) ∧ F__law_might [.str w, .int i] = .ok (.fr (.bool (okI w i))) := by
  unfold F_is_possible g_is_possible F__law_might g__law_might okI
  simp only [List.mem_cons, List.not_mem_nil, or_false, Prod.mk.injEq] at h
  rcases h with ⟨rfl, rfl⟩ | ⟨rfl, rfl⟩ | ⟨rfl, rfl⟩ | ⟨rfl, rfl⟩ | ⟨rfl, rfl⟩ | ⟨rfl, rfl⟩ | ⟨rfl, rfl⟩ | ⟨rfl, rfl⟩ | ⟨rfl, rfl⟩ | ⟨rfl, rfl⟩
  all_goals
    by_cases h0 : (0 : Int) ≤ i
    · constructor <;> repeat first | walk_at "vl" | simp only [h0]
    · constructor <;> repeat first | walk_at "vl" | simp only [h0]
theorem both_s (k w : String) (h : (k, w) ∈ [("register", "write"), ("register", "read"), ("register", "swap"), ("counter", "add"), ("counter", "get"), ("set", "insert"), ("set", "remove"), ("set", "has"), ("queue", "put"), ("queue", "take")]) (x : Str) : F_is_possible [.str k, .str w, .str x] = .ok (.fr (.bool (okS w x))) ∧ F__law_might [.str w, .str x] = .ok (.fr (.bool (okS w x))) := by
  unfold F_is_possible g_is_possible F__law_might g__law_might okS
  simp only [List.mem_cons, List.not_mem_nil, or_false, Prod.mk.injEq] at h
  by_cases h1 : x = "ok"
  · subst h1
    rcases h with ⟨rfl, rfl⟩ | ⟨rfl, rfl⟩ | ⟨rfl, rfl⟩ | ⟨rfl, rfl⟩ | ⟨rfl, rfl⟩ | ⟨rfl, rfl⟩ | ⟨rfl, rfl⟩ | ⟨rfl, rfl⟩ | ⟨rfl, rfl⟩ | ⟨rfl, rfl⟩
    all_goals constructor <;> repeat first | walk_at "vl" | simp only [in_nil]
  by_cases h2 : x = "yes"
  · subst h2
    rcases h with ⟨rfl, rfl⟩ | ⟨rfl, rfl⟩ | ⟨rfl, rfl⟩ | ⟨rfl, rfl⟩ | ⟨rfl, rfl⟩ | ⟨rfl, rfl⟩ | ⟨rfl, rfl⟩ | ⟨rfl, rfl⟩ | ⟨rfl, rfl⟩ | ⟨rfl, rfl⟩
    all_goals constructor <;> repeat first | walk_at "vl" | simp only [in_nil]
  by_cases h3 : x = "no"
  · subst h3
    rcases h with ⟨rfl, rfl⟩ | ⟨rfl, rfl⟩ | ⟨rfl, rfl⟩ | ⟨rfl, rfl⟩ | ⟨rfl, rfl⟩ | ⟨rfl, rfl⟩ | ⟨rfl, rfl⟩ | ⟨rfl, rfl⟩ | ⟨rfl, rfl⟩ | ⟨rfl, rfl⟩
    all_goals constructor <;> repeat first | walk_at "vl" | simp only [in_nil]
  by_cases h4 : x = "empty"
  · subst h4
    rcases h with ⟨rfl, rfl⟩ | ⟨rfl, rfl⟩ | ⟨rfl, rfl⟩ | ⟨rfl, rfl⟩ | ⟨rfl, rfl⟩ | ⟨rfl, rfl⟩ | ⟨rfl, rfl⟩ | ⟨rfl, rfl⟩ | ⟨rfl, rfl⟩ | ⟨rfl, rfl⟩
    all_goals constructor <;> repeat first | walk_at "vl" | simp only [in_nil]
  have g1 : ¬ ("ok" : Str) = x := fun e => h1 e.symm
  have g2 : ¬ ("yes" : Str) = x := fun e => h2 e.symm
  have g3 : ¬ ("no" : Str) = x := fun e => h3 e.symm
  have g4 : ¬ ("empty" : Str) = x := fun e => h4 e.symm
  rcases h with ⟨rfl, rfl⟩ | ⟨rfl, rfl⟩ | ⟨rfl, rfl⟩ | ⟨rfl, rfl⟩ | ⟨rfl, rfl⟩ | ⟨rfl, rfl⟩ | ⟨rfl, rfl⟩ | ⟨rfl, rfl⟩ | ⟨rfl, rfl⟩ | ⟨rfl, rfl⟩
  all_goals constructor <;> repeat first | walk_at "vl" | simp only [in_nil, h1, h2, h3, h4, g1, g2, g3, g4]
theorem both (k w : String) (h : (k, w) ∈ [("register", "write"), ("register", "read"), ("register", "swap"), ("counter", "add"), ("counter", "get"), ("set", "insert"), ("set", "remove"), ("set", "has"), ("queue", "put"), ("queue", "take")]) (d : D) (hd : (∃ i, d = .int i) ∨ ∃ x, d = .str x) : ∃ b, F_is_possible [.str k, .str w, d] = .ok (.fr (.bool b)) ∧ F__law_might [.str w, d] = .ok (.fr (.bool b)) := by
  rcases hd with ⟨i, rfl⟩ | ⟨x, rfl⟩
  · exact ⟨_, both_i k w h i⟩
  · exact ⟨_, both_s k w h x⟩
end K
namespace K
open PySem PySem.Spec PyProof.Rows L2 VL
local macro_rules | `(tactic| walk_at "vl") => `(tactic| simp only [ap_gDPut, ap_gDDel, ap_fKGet, ap_fKIn, tb_nil, tb_cons, ap_fDisp, evp_nil, evp_cons, dmerge_eq, ap_fDNew, isk_i, isk_s, keq_ii, keq_ss, dput_nil, dput_cons, dget_nil, dget_cons, okd_nil, okd_s, okd_i, ix_d, in_ds, in_di, List.foldl_cons, List.foldl_nil, Option.isSome_some, Option.isSome_none, ap_fRng3, ap_oRng3, ap_fRev, rev_l, ap_fCallL, ff_nil, ff_cons, ap_fIsi, isi_n, isi_b, isi_i, isi_s, isi_l, isi_t, ap_isiB, fnR_eq, ap_gSeq, ap_gNext, ap_gCont, ap_gBreak, ap_gFz, ap_gIf, br_t, br_f, br_b, useS_ok, ap_gRet, ap_gSet, ap_gOwn, ap_gRetV, ap_gApp, ap_gAug, useL_ok, ap_gFor, ap_gForget, ap_gAsg, ap_gSetIx, ap_fVar, ap_fC, ap_fOp, ap_fB, ap_toB, ap_fTr, ap_fCall, ap_fBlt, ap_fNil, ap_fCons, ap_fLst, ap_fTup, ap_fzL, fzAll_nil, fzAll_fr, fzAll_ol, fzAll_od, fzAll_bw, fz_fr, fz_ol, fz_od, fz_bw, ap_callR, ap_fSl, ap_fNoP, ap_fP, ap_oInt, ap_fIter, ap_fRng1, ap_fRng2, ap_oRng1, ap_oRng2, lo_fr, lo_ol, lo_bw, to_fr, ap_fRep, ap_oRep, okite1, okite2, bind_ite, rbind_ite, fin_ite, fin_rt_fr, fin_rt_ol, fin_nx, fin_bad, brR_b, ap_fAnd, ap_fOr, ap_fNot, ap_notR, ap_fNeg, ap_dNeg, ap_fIf, ap_fChain, ap_fLc, ap_tAndB, ap_tOrB, ap_tNotB, ap_ttYes, tr_bool, tr_list, tr_tuple, tr_none, tr_int, ap_sName, ap_sTup, ap_sCons, ap_sNil, w_nil, w_cons, slot_fr, slot_ol, slot_od, ap_frz, add_ii, add_tt, add_ll, add_ss, sub_ii, mul_ii, mod_ii, div_ii, pow_ii, lt_ii, le_ii, gt_ii, ge_ii, isn_, notn_, isNone_n, isNone_i, isNone_t, isNone_l, isNone_s, isNone_b, rk_none, rk_bool, rk_int, rk_str, rk_list, rk_tuple, eq_rk, ne_rk, inl_rk, int_rk, inB_f, inB_t, ix_l, ix_t, atD_eq, atI_0, atI_1, atI_2, atI_3, atI_4, atI_5, atI_6, atI_7, atI_map, sl_l, sl_t, len_l, len_t, min_ii, max_ii, list_l, list_t, tuple_l, tuple_t, int_i, int_b, ofString_inj, eqv_ii, eqv_ss, eqv_bb, eqv_nn, eqv_ni, eqv_in, eqv_is, eqv_si, eqv_ns, eqv_sn, eqv_ll, eqv_tt, eqva_nn, eqva_cc, eqva_nc, eqva_cn, Rs.bind_ok, Rs.bind_bad, So.bind_nx, So.bind_rt, So.bind_ct, So.bind_bk, So.bind_bad, R.d_fr, R.d_ol, R.d_od, R.d_bw, R.flat,
  List.map_cons, List.map_nil, List.length_cons, List.length_nil, List.length_map, List.replicate_succ, List.replicate_zero, List.cons_append, List.nil_append, List.append_nil, List.getElem?_cons_zero, List.getElem?_cons_succ, List.set_cons_zero, List.set_cons_succ, List.all_cons, List.all_nil, List.any_cons, List.any_nil, Nat.zero_add, Nat.add_one_sub_one, Nat.reduceAdd, Nat.reduceSub, Nat.reduceMul, Nat.reduceLeDiff, Int.cast_ofNat_Int, Int.reduceLT, Int.reduceLE, Int.reduceAdd, Int.reduceMul, Int.reduceEq, Int.reduceNe, Int.reduceToNat, Int.reduceNeg, Int.reducePow, String.reduceEq, decide_true, decide_false, Bool.false_eq_true, Bool.or_true, Bool.or_false, Bool.true_or, Bool.false_or, Bool.and_true, Bool.true_and, Bool.and_false, Bool.false_and, Bool.not_true, Bool.not_false, Bool.and_self, Bool.or_self, if_true, if_false, ite_true, ite_false, reduceIte, Option.bind_some, Option.bind_none, Option.map_some, Option.map_none, and_self, and_true, true_and, eq_self])
theorem names_eq (k : String) (h : k = "register" ∨ k = "counter" ∨ k = "set" ∨ k = "queue") : F__law_names [.str k] = .ok (.fr (.list (if k = "register" then [.str "write", .str "read", .str "swap"] else if k = "counter" then [.str "add", .str "get"] else if k = "set" then [.str "insert", .str "remove", .str "has"] else [.str "put", .str "take"]))) := by
  unfold F__law_names g__law_names
  rcases h with rfl | rfl | rfl | rfl <;> repeat first | walk_at "vl"
inductive Row where
  | i (n : Int) | s (x : Str)
def Row.d : Row → D
  | .i n => .int n
  | .s x => .str x
theorem row_is (r : Row) : (∃ i, r.d = .int i) ∨ ∃ x, r.d = .str x := by cases r <;> simp [Row.d]
def gI : FS := gForget [6] (gIf (fB (fOp dNe (fCall F_is_possible (fCons (fVar 3) (fCons (fVar 5) (fCons (fVar 6) (fNil))))) (fCall F__law_might (fCons (fVar 5) (fCons (fVar 6) (fNil)))))) (gRet (fC (.bool false))) (gNext))
theorem inner (k w : String) (h : (k, w) ∈ [("register", "write"), ("register", "read"), ("register", "swap"), ("counter", "add"), ("counter", "get"), ("set", "insert"), ("set", "remove"), ("set", "has"), ("queue", "put"), ("queue", "take")]) (S : D) (L : List D) (rs : List Row) :
    gLoop (sName 6) gI (rs.map Row.d) [.fr S, .ol L, .un, .fr (.str k), .un, .fr (.str w), .un] = .nx [.fr S, .ol L, .un, .fr (.str k), .un, .fr (.str w), .un] := by
  refine loop_all rs fun r _ => ⟨_, rfl, .inl ?_⟩
  obtain ⟨b, h1, h2⟩ := both k w h r.d (row_is r)
  unfold gI
  cases b <;> repeat first | walk_at "vl" | simp only [h1, h2]
theorem all2_2' {P : Int → Int → Prop} {ds : List Int} {a b : Int} (h : All2 P ds [a, b]) : ∃ x y, ds = [x, y] ∧ P x a ∧ P y b := by
  obtain ⟨x, y, e, h1, h2⟩ := all2_2 h
  exact ⟨x, y, e, h1, h2⟩
theorem lst8 (y : Int) (h : 0 ≤ y ∧ y < 8) : ∃ x : Str, atI [PyData.str "ok", .str "yes", .str "no", .str "empty", .str "maybe", .str "", .str "0", .str "none"] y = some (.str x) := by
  have e : y = 0 ∨ y = 1 ∨ y = 2 ∨ y = 3 ∨ y = 4 ∨ y = 5 ∨ y = 6 ∨ y = 7 := by omega
  rcases e with rfl | rfl | rfl | rfl | rfl | rfl | rfl | rfl <;> exact ⟨_, rfl⟩
def gRow : FS := gForget [2, 4] (gSeq (gSet 4 (fCall F__law_draw (fCons (fVar 0) (fCons (fVar 2) (fCons (fLst (fCons (fC (.int 10004)) (fCons (fC (.int 8)) (fNil)))) (fNil)))))) (gSeq (gApp 1 (fOp dSub (fOp dIx (fVar 4) (fC (.int 0))) (fC (.int 2)))) (gApp 1 (fOp dIx (fLst (fCons (fC (.str "ok")) (fCons (fC (.str "yes")) (fCons (fC (.str "no")) (fCons (fC (.str "empty")) (fCons (fC (.str "maybe")) (fCons (fC (.str "")) (fCons (fC (.str "0")) (fCons (fC (.str "none")) (fNil)))))))))) (fOp dIx (fVar 4) (fC (.int 1)))))))
theorem rows_ok (ns : List Int) (m : Nat) (hm : m ≤ 20) : ∃ rs : List Row, rs.length ≤ 40 ∧ gLoop (sName 2) gRow (rng 0 m) [.fr (.list (ns.map .int)), .ol [], .un, .un, .un, .un, .un] = .nx [.fr (.list (ns.map .int)), .ol (rs.map Row.d), .un, .un, .un, .un, .un] := by
  obtain ⟨rs, h1, h2⟩ := loop_ex (f := fun i : Nat => PyData.int (0 + (i : Int))) (E := fun rs : List Row => [.fr (.list (ns.map .int)), .ol (rs.map Row.d), .un, .un, .un, .un, .un]) (st := sName 2) (body := gRow)
    (fun i rs => rs.length ≤ 2 * i) (List.range m) [] (Nat.zero_le _) (fun i rs x hi q => by
      obtain ⟨rfl, hij⟩ := range_at hi
      obtain ⟨hd, d1, d2⟩ := draw_ok ns x [10004, 8] (by decide) (by decide)
      obtain ⟨a, b, rfl, ha, hb⟩ := all2_2' d2
      obtain ⟨s, hs⟩ := lst8 b hb
      simp only [List.map_cons, List.map_nil] at d1
      have z1 := sz_small (show rs.length ≤ 1000000 by omega)
      have z2 := sz_small (show rs.length + 1 ≤ 1000000 by omega)
      refine ⟨rs ++ [.i (a - 2), .s s], by rw [List.length_append]; simp only [List.length_cons, List.length_nil]; omega, _, rfl, .inl ?_⟩
      unfold gRow
      repeat first | walk_at "vl" | simp only [Int.zero_add, ld_eq, d1, hs, z1, z2, List.length_append, List.append_assoc, List.map_append, Row.d])
  rw [List.length_range] at h1
  exact ⟨rs, by omega, h2⟩
theorem law_true (ns : List Int) (hn : ns.length ≤ 63) : F_law [.list (ns.map .int)] = .ok (.fr (.bool true)) := by
  obtain ⟨m, em, hm⟩ : ∃ m : Nat, (if (if (ns.length : Int) > 1 then (ns.length : Int) else 1) < 20 then (if (ns.length : Int) > 1 then (ns.length : Int) else 1) else 20) = (m : Int) ∧ m ≤ 20 := by
    by_cases h1 : (ns.length : Int) > 1
    · rw [if_pos h1]
      by_cases h2 : (ns.length : Int) < 20
      · rw [if_pos h2]; exact ⟨ns.length, rfl, by omega⟩
      · rw [if_neg h2]; exact ⟨20, rfl, by omega⟩
    · rw [if_neg h1]; exact ⟨1, rfl, by omega⟩
  obtain ⟨rs, h1, h2⟩ := rows_ok ns m hm
  unfold gRow at h2
  have L : rs.map Row.d ++ [PyData.int (-1), .int 0, .int 9999, .int 10000, .str "ok", .str "yes", .str "no", .str "empty"] = (rs ++ [Row.i (-1), Row.i 0, Row.i 9999, Row.i 10000, Row.s "ok", Row.s "yes", Row.s "no", Row.s "empty"]).map Row.d := by
    rw [List.map_append]; rfl
  have hz := szle_small (show rs.length + 8 ≤ 1000000 by omega)
  have inn := fun (k w : String) h => inner k w h (.list (ns.map .int)) (rs.map Row.d) (rs ++ [Row.i (-1), Row.i 0, Row.i 9999, Row.i 10000, Row.s "ok", Row.s "yes", Row.s "no", Row.s "empty"])
  unfold gI at inn
  have a1 := inn "register" "write" (by decide)
  have a2 := inn "register" "read" (by decide)
  have a3 := inn "register" "swap" (by decide)
  have a4 := inn "counter" "add" (by decide)
  have a5 := inn "counter" "get" (by decide)
  have a6 := inn "set" "insert" (by decide)
  have a7 := inn "set" "remove" (by decide)
  have a8 := inn "set" "has" (by decide)
  have a9 := inn "queue" "put" (by decide)
  have b1 := inn "queue" "take" (by decide)
  have n1 := names_eq "register" (by decide)
  have n2 := names_eq "counter" (by decide)
  have n3 := names_eq "set" (by decide)
  have n4 := names_eq "queue" (by decide)
  simp only [String.reduceEq, if_true, if_false, reduceIte] at n1 n2 n3 n4
  unfold F_law g_law
  repeat first | walk_at "vl" | simp only [em, rngOk_n (show m ≤ 8000000 by omega), Int.toNat_natCast, h2, L, hz, gLoop_cons, gLoop_nil, n1, n2, n3, n4, a1, a2, a3, a4, a5, a6, a7, a8, a9, b1]
end K
namespace K
open PySem PySem.Spec
open PyProof.Rows L2 VL
/-! ### the end -/
theorem reps_ints {K : PySem.W.Frag} {H : Hp} {O : List Addr} : ∀ ns : List Int, Reps K H O (ns.map V.int) (ns.map PyData.int)
  | [] => .nil
  | n :: ns => .cons (.int n) (reps_ints ns)
def spLaw (K : PySem.W.Frag) : Sp := fun vs H Q _ => ∃ (a : Addr) (ns : List Int), vs = [.ref a] ∧ SqL K H a (ns.map V.int) ∧ ns.length ≤ 63 ∧ ∀ H', Q (.bl true) H'
theorem law_ok {P : Program} {w : World} {K : PySem.W.Frag} {mg : Str → Option Value} {base : Heap} {f_is_possible f__law_cell f__law_draw f__law_names f__law_might f_law : Addr} {d_is_possible d__law_cell d__law_draw d__law_names d__law_might d_law : FuncData} (T : Txt w K mg f_is_possible f__law_cell f__law_draw f__law_names f__law_might f_law d_is_possible d__law_cell d__law_draw d__law_names d__law_might d_law) : FnOk P w K mg base CX0 3 f_law d_law ["_law_script"] (spLaw K) := by
  refine (ok_law T).imp fun vs H Q E ⟨a, ns, e, hs, hn, q⟩ => ?_
  subst e
  have hz : (ns.map V.int).length ≤ sizeLine := by rw [List.length_map, sizeLine_eq]; omega
  refine ⟨rfl, [], [.list (ns.map .int)], .fr (.bool true), .cons ?_ .nil, (fun _ z => nomatch z), law_true ns hn, fun v H' s r => ?_⟩
  · rcases hs with hs | hs
    · exact .lst hs (fun z => nomatch z) hz (reps_ints ns)
    · exact .lstK hs (reps_ints ns)
  · cases (show Rep K H' [] v (.bool true) from r)
    exact q H'
theorem all_mk {l : PySem.W.OpenLaw} {w : World} {K : PySem.W.Frag} {h : Heap} {mg : Str → Option Value} {fa f0 f1 f2 f3 f4 f5 : Addr} (X : K.In h) (G : h.Ns mainGlobals mg) (hfa : mg "law" = some (.ref fa))
    {od0 an0 od1 an1 od2 an2 od3 an3 od4 an4 od5 an5 : Option Addr} {sl0 sl1 sl2 sl3 sl4 sl5 : Array (Option Value)} {oc0 kV0 dc0 pm0 cd0 ct0 oc1 kV1 dc1 pm1 cd1 ct1 oc2 kV2 dc2 pm2 cd2 ct2 oc3 kV3 dc3 pm3 cd3 ct3 oc4 kV4 dc4 pm4 cd4 ct4 oc5 kV5 dc5 pm5 cd5 ct5 : Value}
    (a0 : PySem.W.nsIn K mainGlobals "is_possible" = some (some (.ref f0))) (l0 : K.lookup f0 = some ⟨oc0, od0, .func (PySem.W.fnOf "is_possible" "is_possible" (defArgs s_is_possible) (defBody s_is_possible) (defScope s_is_possible) .none kV0 dc0 pm0 an0 cd0 ct0), sl0⟩) (c0 : PySem.W.codeIn K cd0 "is_possible" = true) (k0 : PySem.W.keepIn K (.ref f0) = true)
    (a1 : PySem.W.nsIn K mainGlobals "_law_cell" = some (some (.ref f1))) (l1 : K.lookup f1 = some ⟨oc1, od1, .func (PySem.W.fnOf "_law_cell" "_law_cell" (defArgs s__law_cell) (defBody s__law_cell) (defScope s__law_cell) .none kV1 dc1 pm1 an1 cd1 ct1), sl1⟩) (c1 : PySem.W.codeIn K cd1 "_law_cell" = true) (k1 : PySem.W.keepIn K (.ref f1) = true)
    (a2 : PySem.W.nsIn K mainGlobals "_law_draw" = some (some (.ref f2))) (l2 : K.lookup f2 = some ⟨oc2, od2, .func (PySem.W.fnOf "_law_draw" "_law_draw" (defArgs s__law_draw) (defBody s__law_draw) (defScope s__law_draw) .none kV2 dc2 pm2 an2 cd2 ct2), sl2⟩) (c2 : PySem.W.codeIn K cd2 "_law_draw" = true) (k2 : PySem.W.keepIn K (.ref f2) = true)
    (a3 : PySem.W.nsIn K mainGlobals "_law_names" = some (some (.ref f3))) (l3 : K.lookup f3 = some ⟨oc3, od3, .func (PySem.W.fnOf "_law_names" "_law_names" (defArgs s__law_names) (defBody s__law_names) (defScope s__law_names) .none kV3 dc3 pm3 an3 cd3 ct3), sl3⟩) (c3 : PySem.W.codeIn K cd3 "_law_names" = true) (k3 : PySem.W.keepIn K (.ref f3) = true)
    (a4 : PySem.W.nsIn K mainGlobals "_law_might" = some (some (.ref f4))) (l4 : K.lookup f4 = some ⟨oc4, od4, .func (PySem.W.fnOf "_law_might" "_law_might" (defArgs s__law_might) (defBody s__law_might) (defScope s__law_might) .none kV4 dc4 pm4 an4 cd4 ct4), sl4⟩) (c4 : PySem.W.codeIn K cd4 "_law_might" = true) (k4 : PySem.W.keepIn K (.ref f4) = true)
    (a5 : PySem.W.nsIn K mainGlobals "law" = some (some (.ref f5))) (l5 : K.lookup f5 = some ⟨oc5, od5, .func (PySem.W.fnOf "law" "law" (defArgs s_law) (defBody s_law) (defScope s_law) .none kV5 dc5 pm5 an5 cd5 ct5), sl5⟩) (c5 : PySem.W.codeIn K cd5 "law" = true) (k5 : PySem.W.keepIn K (.ref f5) = true)
    {u2 : Tok} {u3 : Tok} {u4 : Tok} {w1 : Addr} {x1 : Option Addr} {y1 : Nat} {v1 : Array (Option Value)} (aNUMBERS : PySem.W.nsIn K mainGlobals "NUMBERS" = some (some (.ref w1)))
    (e1 : K.lookup w1 = some ⟨.type "tuple", x1, .seq #[.str "read" u2, .str "get" u3, .str "take" u4] y1, v1⟩)
    {u6 : Tok} {u7 : Tok} {u8 : Tok} {w5 : Addr} {x5 : Option Addr} {y5 : Nat} {v5 : Array (Option Value)} {hOPERATIONS_0 : Int} {kOPERATIONS_0 : Tok}
    {u10 : Tok} {u11 : Tok} {w9 : Addr} {x9 : Option Addr} {y9 : Nat} {v9 : Array (Option Value)} {hOPERATIONS_1 : Int} {kOPERATIONS_1 : Tok}
    {u13 : Tok} {u14 : Tok} {u15 : Tok} {w12 : Addr} {x12 : Option Addr} {y12 : Nat} {v12 : Array (Option Value)} {hOPERATIONS_2 : Int} {kOPERATIONS_2 : Tok}
    {u17 : Tok} {u18 : Tok} {w16 : Addr} {x16 : Option Addr} {y16 : Nat} {v16 : Array (Option Value)} {hOPERATIONS_3 : Int} {kOPERATIONS_3 : Tok}
    {wOPERATIONS : Addr} {yOPERATIONS : Nat}
    (aOPERATIONS : PySem.W.nsIn K mainGlobals "OPERATIONS" = some (some (.ref wOPERATIONS))) (lOPERATIONS : K.lookup wOPERATIONS = some ⟨.type "dict", none, .dict #[⟨hOPERATIONS_0, .str "register" kOPERATIONS_0, .ref w5⟩, ⟨hOPERATIONS_1, .str "counter" kOPERATIONS_1, .ref w9⟩, ⟨hOPERATIONS_2, .str "set" kOPERATIONS_2, .ref w12⟩, ⟨hOPERATIONS_3, .str "queue" kOPERATIONS_3, .ref w16⟩] yOPERATIONS, #[]⟩) (dOPERATIONS : PySem.W.KeysLit w.params [⟨hOPERATIONS_0, .str "register" kOPERATIONS_0, .ref w5⟩, ⟨hOPERATIONS_1, .str "counter" kOPERATIONS_1, .ref w9⟩, ⟨hOPERATIONS_2, .str "set" kOPERATIONS_2, .ref w12⟩, ⟨hOPERATIONS_3, .str "queue" kOPERATIONS_3, .ref w16⟩]) (oOPERATIONS : (wOPERATIONS == sysModules) = false)
    (e5 : K.lookup w5 = some ⟨.type "tuple", x5, .seq #[.str "write" u6, .str "read" u7, .str "swap" u8] y5, v5⟩)
    (e9 : K.lookup w9 = some ⟨.type "tuple", x9, .seq #[.str "add" u10, .str "get" u11] y9, v9⟩)
    (e12 : K.lookup w12 = some ⟨.type "tuple", x12, .seq #[.str "insert" u13, .str "remove" u14, .str "has" u15] y12, v12⟩)
    (e16 : K.lookup w16 = some ⟨.type "tuple", x16, .seq #[.str "put" u17, .str "take" u18] y16, v16⟩)
    {u19 : Tok} (aRESULT : PySem.W.nsIn K mainGlobals "RESULT" = some (some (.int 9999 u19)))
    {u21 : Tok} {w20 : Addr} {x20 : Option Addr} {y20 : Nat} {v20 : Array (Option Value)} {hWORDS_0 : Int} {kWORDS_0 : Tok}
    {w22 : Addr} {x22 : Option Addr} {y22 : Nat} {v22 : Array (Option Value)} {hWORDS_1 : Int} {kWORDS_1 : Tok}
    {u24 : Tok} {u25 : Tok} {w23 : Addr} {x23 : Option Addr} {y23 : Nat} {v23 : Array (Option Value)} {hWORDS_2 : Int} {kWORDS_2 : Tok}
    {u27 : Tok} {w26 : Addr} {x26 : Option Addr} {y26 : Nat} {v26 : Array (Option Value)} {hWORDS_3 : Int} {kWORDS_3 : Tok}
    {w28 : Addr} {x28 : Option Addr} {y28 : Nat} {v28 : Array (Option Value)} {hWORDS_4 : Int} {kWORDS_4 : Tok}
    {u30 : Tok} {u31 : Tok} {w29 : Addr} {x29 : Option Addr} {y29 : Nat} {v29 : Array (Option Value)} {hWORDS_5 : Int} {kWORDS_5 : Tok}
    {u33 : Tok} {u34 : Tok} {w32 : Addr} {x32 : Option Addr} {y32 : Nat} {v32 : Array (Option Value)} {hWORDS_6 : Int} {kWORDS_6 : Tok}
    {u36 : Tok} {u37 : Tok} {w35 : Addr} {x35 : Option Addr} {y35 : Nat} {v35 : Array (Option Value)} {hWORDS_7 : Int} {kWORDS_7 : Tok}
    {u39 : Tok} {w38 : Addr} {x38 : Option Addr} {y38 : Nat} {v38 : Array (Option Value)} {hWORDS_8 : Int} {kWORDS_8 : Tok}
    {u41 : Tok} {w40 : Addr} {x40 : Option Addr} {y40 : Nat} {v40 : Array (Option Value)} {hWORDS_9 : Int} {kWORDS_9 : Tok}
    {wWORDS : Addr} {yWORDS : Nat}
    (aWORDS : PySem.W.nsIn K mainGlobals "WORDS" = some (some (.ref wWORDS))) (lWORDS : K.lookup wWORDS = some ⟨.type "dict", none, .dict #[⟨hWORDS_0, .str "write" kWORDS_0, .ref w20⟩, ⟨hWORDS_1, .str "read" kWORDS_1, .ref w22⟩, ⟨hWORDS_2, .str "swap" kWORDS_2, .ref w23⟩, ⟨hWORDS_3, .str "add" kWORDS_3, .ref w26⟩, ⟨hWORDS_4, .str "get" kWORDS_4, .ref w28⟩, ⟨hWORDS_5, .str "insert" kWORDS_5, .ref w29⟩, ⟨hWORDS_6, .str "remove" kWORDS_6, .ref w32⟩, ⟨hWORDS_7, .str "has" kWORDS_7, .ref w35⟩, ⟨hWORDS_8, .str "put" kWORDS_8, .ref w38⟩, ⟨hWORDS_9, .str "take" kWORDS_9, .ref w40⟩] yWORDS, #[]⟩) (dWORDS : PySem.W.KeysLit w.params [⟨hWORDS_0, .str "write" kWORDS_0, .ref w20⟩, ⟨hWORDS_1, .str "read" kWORDS_1, .ref w22⟩, ⟨hWORDS_2, .str "swap" kWORDS_2, .ref w23⟩, ⟨hWORDS_3, .str "add" kWORDS_3, .ref w26⟩, ⟨hWORDS_4, .str "get" kWORDS_4, .ref w28⟩, ⟨hWORDS_5, .str "insert" kWORDS_5, .ref w29⟩, ⟨hWORDS_6, .str "remove" kWORDS_6, .ref w32⟩, ⟨hWORDS_7, .str "has" kWORDS_7, .ref w35⟩, ⟨hWORDS_8, .str "put" kWORDS_8, .ref w38⟩, ⟨hWORDS_9, .str "take" kWORDS_9, .ref w40⟩]) (oWORDS : (wWORDS == sysModules) = false)
    (e20 : K.lookup w20 = some ⟨.type "tuple", x20, .seq #[.str "ok" u21] y20, v20⟩)
    (e22 : K.lookup w22 = some ⟨.type "tuple", x22, .seq #[] y22, v22⟩)
    (e23 : K.lookup w23 = some ⟨.type "tuple", x23, .seq #[.str "yes" u24, .str "no" u25] y23, v23⟩)
    (e26 : K.lookup w26 = some ⟨.type "tuple", x26, .seq #[.str "ok" u27] y26, v26⟩)
    (e28 : K.lookup w28 = some ⟨.type "tuple", x28, .seq #[] y28, v28⟩)
    (e29 : K.lookup w29 = some ⟨.type "tuple", x29, .seq #[.str "yes" u30, .str "no" u31] y29, v29⟩)
    (e32 : K.lookup w32 = some ⟨.type "tuple", x32, .seq #[.str "yes" u33, .str "no" u34] y32, v32⟩)
    (e35 : K.lookup w35 = some ⟨.type "tuple", x35, .seq #[.str "yes" u36, .str "no" u37] y35, v35⟩)
    (e38 : K.lookup w38 = some ⟨.type "tuple", x38, .seq #[.str "ok" u39] y38, v38⟩)
    (e40 : K.lookup w40 = some ⟨.type "tuple", x40, .seq #[.str "empty" u41] y40, v40⟩)
    (z_int : PySem.W.nsIn K mainGlobals "int" = some none)
    (z_isinstance : PySem.W.nsIn K mainGlobals "isinstance" = some none)
    (z_len : PySem.W.nsIn K mainGlobals "len" = some none)
    (z_max : PySem.W.nsIn K mainGlobals "max" = some none)
    (z_min : PySem.W.nsIn K mainGlobals "min" = some none)
    (z_range : PySem.W.nsIn K mainGlobals "range" = some none)
    (z_str : PySem.W.nsIn K mainGlobals "str" = some none) :
    ∃ fd : FuncData, (∀ (s : Shared) (v : Value), BindsTo s fd ⟨[v], []⟩ [("_law_script", v)]) ∧ ∀ base : Heap, K.In base → base.Ns mainGlobals mg → FnOk l.prog w K mg base CX0 3 fa fd ["_law_script"] (spLaw K) := by
  have e := hfa.symm.trans (PySem.W.mg_of X G a5)
  cases e
  have F0 := fun_mk (st := s_is_possible) l0 c0 k0
  have F1 := fun_mk (st := s__law_cell) l1 c1 k1
  have F2 := fun_mk (st := s__law_draw) l2 c2 k2
  have F3 := fun_mk (st := s__law_names) l3 c3 k3
  have F4 := fun_mk (st := s__law_might) l4 c4 k4
  have F5 := fun_mk (st := s_law) l5 c5 k5
  have b0 := F0.binds (ps := ["kind", "operation", "result"]) fun _ _ _ _ _ _ us hl => match us, hl with | [_, _, _], _ => rfl
  have b1 := F1.binds (ps := ["_law_script", "_law_k"]) fun _ _ _ _ _ _ us hl => match us, hl with | [_, _], _ => rfl
  have b2 := F2.binds (ps := ["_law_script", "_law_k", "_law_sizes"]) fun _ _ _ _ _ _ us hl => match us, hl with | [_, _, _], _ => rfl
  have b3 := F3.binds (ps := ["_law_kind"]) fun _ _ _ _ _ _ us hl => match us, hl with | [_], _ => rfl
  have b4 := F4.binds (ps := ["_law_word", "_law_result"]) fun _ _ _ _ _ _ us hl => match us, hl with | [_, _], _ => rfl
  have b5 := F5.binds (ps := ["_law_script"]) fun _ _ _ _ _ _ us hl => match us, hl with | [_], _ => rfl
  exact ⟨_, fun s v => .of_eq rfl, fun base _ _ => law_ok (w := w) (base := base) ⟨F0, PySem.W.mg_of X G a0, b0, F1, PySem.W.mg_of X G a1, b1, F2, PySem.W.mg_of X G a2, b2, F3, PySem.W.mg_of X G a3, b3, F4, PySem.W.mg_of X G a4, b4, F5, PySem.W.mg_of X G a5, b5, ⟨_, PySem.W.mg_of X G aNUMBERS, ic_tup e1 (Nat.le_of_ble_eq_true rfl) (All2.cons (ic_str) (All2.cons (ic_str) (All2.cons (ic_str) (All2.nil))))⟩, gd_mk (PySem.W.mg_of X G aOPERATIONS) lOPERATIONS dOPERATIONS oOPERATIONS (All2.cons ⟨⟨_, rfl⟩, ic_tup e5 (Nat.le_of_ble_eq_true rfl) (All2.cons (ic_str) (All2.cons (ic_str) (All2.cons (ic_str) (All2.nil))))⟩ (All2.cons ⟨⟨_, rfl⟩, ic_tup e9 (Nat.le_of_ble_eq_true rfl) (All2.cons (ic_str) (All2.cons (ic_str) (All2.nil)))⟩ (All2.cons ⟨⟨_, rfl⟩, ic_tup e12 (Nat.le_of_ble_eq_true rfl) (All2.cons (ic_str) (All2.cons (ic_str) (All2.cons (ic_str) (All2.nil))))⟩ (All2.cons ⟨⟨_, rfl⟩, ic_tup e16 (Nat.le_of_ble_eq_true rfl) (All2.cons (ic_str) (All2.cons (ic_str) (All2.nil)))⟩ (All2.nil))))), ⟨_, PySem.W.mg_of X G aRESULT, ic_int⟩, gd_mk (PySem.W.mg_of X G aWORDS) lWORDS dWORDS oWORDS (All2.cons ⟨⟨_, rfl⟩, ic_tup e20 (Nat.le_of_ble_eq_true rfl) (All2.cons (ic_str) (All2.nil))⟩ (All2.cons ⟨⟨_, rfl⟩, ic_tup e22 (Nat.le_of_ble_eq_true rfl) (All2.nil)⟩ (All2.cons ⟨⟨_, rfl⟩, ic_tup e23 (Nat.le_of_ble_eq_true rfl) (All2.cons (ic_str) (All2.cons (ic_str) (All2.nil)))⟩ (All2.cons ⟨⟨_, rfl⟩, ic_tup e26 (Nat.le_of_ble_eq_true rfl) (All2.cons (ic_str) (All2.nil))⟩ (All2.cons ⟨⟨_, rfl⟩, ic_tup e28 (Nat.le_of_ble_eq_true rfl) (All2.nil)⟩ (All2.cons ⟨⟨_, rfl⟩, ic_tup e29 (Nat.le_of_ble_eq_true rfl) (All2.cons (ic_str) (All2.cons (ic_str) (All2.nil)))⟩ (All2.cons ⟨⟨_, rfl⟩, ic_tup e32 (Nat.le_of_ble_eq_true rfl) (All2.cons (ic_str) (All2.cons (ic_str) (All2.nil)))⟩ (All2.cons ⟨⟨_, rfl⟩, ic_tup e35 (Nat.le_of_ble_eq_true rfl) (All2.cons (ic_str) (All2.cons (ic_str) (All2.nil)))⟩ (All2.cons ⟨⟨_, rfl⟩, ic_tup e38 (Nat.le_of_ble_eq_true rfl) (All2.cons (ic_str) (All2.nil))⟩ (All2.cons ⟨⟨_, rfl⟩, ic_tup e40 (Nat.le_of_ble_eq_true rfl) (All2.cons (ic_str) (All2.nil))⟩ (All2.nil))))))))))), PySem.W.mg_none_of X G z_int, PySem.W.mg_none_of X G z_isinstance, PySem.W.mg_none_of X G z_len, PySem.W.mg_none_of X G z_max, PySem.W.mg_none_of X G z_min, PySem.W.mg_none_of X G z_range, PySem.W.mg_none_of X G z_str⟩⟩
end K
open PySem PySem.W PyProof.Rows
set_option maxHeartbeats 0 in
theorem PySem.Challenge.cw_ordershown_k02_possible_results_holds : PySem.Challenge.rw_ordershown_k02_possible_results.Holds := by
  w_on; o_law; k_head; (case hw => w_witness2)
  k_fill
  refine L2.walk_of (l := PySem.Challenge.rw_ordershown_k02_possible_results) (n := 63) (k := 3) (x := "_law_script") (CX := fun _ => L2.CX0) (sp := fun w => K.spLaw _) rfl (by decide) rfl ⟨rfl, by decide, by decide⟩ (fun w h Y => PySem.W.kIn_of Y) ?F (fun _ _ a ns hl _ hS => ⟨a, ns, rfl, hS, hl, fun _ => rfl⟩) (fun _ _ _ _ _ h => h)
  case F =>
    intro w mg fa h KX G hmg
    refine' K.all_mk KX G hmg ?a0 ?l0 ?c0 ?k0 ?a1 ?l1 ?c1 ?k1 ?a2 ?l2 ?c2 ?k2 ?a3 ?l3 ?c3 ?k3 ?a4 ?l4 ?c4 ?k4 ?a5 ?l5 ?c5 ?k5 ?aNUMBERS ?e1 ?aOPERATIONS ?lOPERATIONS ?dOPERATIONS ?oOPERATIONS ?e5 ?e9 ?e12 ?e16 ?aRESULT ?aWORDS ?lWORDS ?dWORDS ?oWORDS ?e20 ?e22 ?e23 ?e26 ?e28 ?e29 ?e32 ?e35 ?e38 ?e40 ?z_int ?z_isinstance ?z_len ?z_max ?z_min ?z_range ?z_str
    (case a0 => k_is)
    (case l0 => k_is)
    (case c0 => k_is)
    (case k0 => k_is)
    (case a1 => k_is)
    (case l1 => k_is)
    (case c1 => k_is)
    (case k1 => k_is)
    (case a2 => k_is)
    (case l2 => k_is)
    (case c2 => k_is)
    (case k2 => k_is)
    (case a3 => k_is)
    (case l3 => k_is)
    (case c3 => k_is)
    (case k3 => k_is)
    (case a4 => k_is)
    (case l4 => k_is)
    (case c4 => k_is)
    (case k4 => k_is)
    (case a5 => k_is)
    (case l5 => k_is)
    (case c5 => k_is)
    (case k5 => k_is)
    (case aNUMBERS => k_is)
    (case e1 => k_is)
    (case aOPERATIONS => k_is)
    (case lOPERATIONS => k_is)
    (case dOPERATIONS => exact ⟨⟨_, _, rfl, rfl⟩, ⟨_, _, rfl, rfl⟩, ⟨_, _, rfl, rfl⟩, ⟨_, _, rfl, rfl⟩, True.intro⟩)
    (case oOPERATIONS => rfl)
    (case e5 => k_is)
    (case e9 => k_is)
    (case e12 => k_is)
    (case e16 => k_is)
    (case aRESULT => k_is)
    (case aWORDS => k_is)
    (case lWORDS => k_is)
    (case dWORDS => exact ⟨⟨_, _, rfl, rfl⟩, ⟨_, _, rfl, rfl⟩, ⟨_, _, rfl, rfl⟩, ⟨_, _, rfl, rfl⟩, ⟨_, _, rfl, rfl⟩, ⟨_, _, rfl, rfl⟩, ⟨_, _, rfl, rfl⟩, ⟨_, _, rfl, rfl⟩, ⟨_, _, rfl, rfl⟩, ⟨_, _, rfl, rfl⟩, True.intro⟩)
    (case oWORDS => rfl)
    (case e20 => k_is)
    (case e22 => k_is)
    (case e23 => k_is)
    (case e26 => k_is)
    (case e28 => k_is)
    (case e29 => k_is)
    (case e32 => k_is)
    (case e35 => k_is)
    (case e38 => k_is)
    (case e40 => k_is)
    (case z_int => k_is)
    (case z_isinstance => k_is)
    (case z_len => k_is)
    (case z_max => k_is)
    (case z_min => k_is)
    (case z_range => k_is)
    (case z_str => k_is)
#print axioms PySem.Challenge.cw_ordershown_k02_possible_results_holds
