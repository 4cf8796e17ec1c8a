import PyProof.Rows.All
import Wide.All
import OpenK.AllK
import Wide.FinOn
import HandS.Base
import HandS.Call
import HandS.List
import HandS.Words
import KE.KeyNested
import HandS.Exc
import HandS.ExcOwn
import HandS.WordsExc
import HandS.SetIn
import HandS.Comp
import HandS.Deep
import HandS.TupAny
import HandS.Text
import KE.SortData
import KE.DataEq
import HandS.Dict
import HandS.More
import HandS.Style
import HandS.CallLocal
import HandS.IsInst
import HandS.Iter
import HandS.Small
import KE.GoesEnum
import KE.GoesMore
import HandS.AnyAll
import HandS.GenOver
import HandS.SetFor
import HandS.TupSets
import PyProof.FactsAll.set_2
import KE.KIndexOf
import HandS.Remove
import HandS.Conv
import HandS.Ends
import PySem.Challenge.RW_ordershown_k48_orders_and_rings
set_option Elab.async false
set_option linter.all false
set_option maxRecDepth 100000
set_option maxHeartbeats 4000000
/-! VL: a layer of values over the hand layer: what stands at names is data (PyData); what a term of the program does is a function of data. -/
namespace VL
open PySem PySem.Spec
open PyProof.Rows L2
abbrev D := PyData
/-- what stands throughout: the tables of code objects, the world -/
class Vx where
  τ : List Addr
  w : World
variable [Vx]
/-- a table of code objects, as it grows -/
def tabO (P : Addr) : HO := .ext fun h => ∃ ps : Array Value, h.get? P = some { cls := .none, data := .fields ps } ∧ TriplesOk ps.toList
/-- a dict whose keys are tuples of any depth -/
def dxO (a : Addr) (es : List (NestedKey × Addr × V)) : HO := .ext fun h => es.length ≤ sizeLine ∧ (a == sysModules) = false ∧ ∃ xs : List (NestedKey × Addr × Value),
  Paired (fun (p : NestedKey × Addr × V) (q : NestedKey × Addr × Value) => p.1 = q.1 ∧ p.2.1 = q.2.1 ∧ RelV p.2.2 q.2.2) es xs ∧
  ∃ o ens ep, h.get? a = some o ∧ o.ExactDict ∧ o.data = .dict ens ep ∧ ens.toList = xs.map (fun x => (⟨x.1.hash Vx.w, .ref x.2.1, x.2.2⟩ : DictEntry)) ∧ (xs.map (·.1)).Nodup
/-- a key as data -/
def kD : Key → D
  | .inl i => .int i
  | .inr x => .str x
/-- a list, a tuple of the written part -/
def LK (K : PySem.W.Frag) (a : Addr) (xs : List V) : Prop :=
  ∃ (o : Obj) (its : Array Value) (n : Nat), K.lookup a = some o ∧ o.cls = .type "list" ∧ o.dict = none ∧ o.data = .seq its n ∧ its.size ≤ sizeLine ∧ Vals xs its.toList
def TK (K : PySem.W.Frag) (a : Addr) (xs : List V) : Prop :=
  ∃ (o : Obj) (its : Array Value) (n : Nat), K.lookup a = some o ∧ o.cls = .type "tuple" ∧ o.data = .seq its n ∧ its.size ≤ sizeLine ∧ Vals xs its.toList
/-- a def as data: its name -/
def fnD (x : Str) : D := .dict [(.none, .str x)]
/-- the def of that name at the top -/
def FnAt (K : PySem.W.Frag) (a : Addr) (x : Str) : Prop := PySem.W.nsIn K mainGlobals x = some (some (.ref a))
theorem FnAt.one {K : PySem.W.Frag} {a b : Addr} {x : Str} (h : FnAt K a x) (k : FnAt K b x) : a = b := Value.ref.inj (Option.some.inj (Option.some.inj (h.symm.trans k)))
/-- an instance as data: its class's name, its fields -/
def insD (x : Str) (fs : List (D × D)) : D := .dict ((.none, .tuple [.str x]) :: fs)
/-- a dict with tuples as keys as data -/
def xD (kvs : List (D × D)) : D := .dict ((.none, .none) :: kvs)
def keyF (fs : List (Str × V)) : List (Key × V) := fs.map fun p => (.inr p.1, p.2)
mutual
/-- the value stands for the data; none of its objects is in O -/
inductive Rep (K : PySem.W.Frag) (H : Hp) (O : List Addr) : V → D → Prop
  | non : Rep K H O .non .none
  | bl (b : Bool) : Rep K H O (.bl b) (.bool b)
  | int (i : Int) : Rep K H O (.int i) (.int i)
  | str (x : Str) : Rep K H O (.str x) (.str x)
  | lst {a : Addr} {xs : List V} {ds : List D} : Rd H a (.lst xs) → a ∉ O → xs.length ≤ sizeLine → Reps K H O xs ds → Rep K H O (.ref a) (.list ds)
  | lstK {a : Addr} {xs : List V} {ds : List D} : LK K a xs → Reps K H O xs ds → Rep K H O (.ref a) (.list ds)
  | tup {a : Addr} {xs : List V} {ds : List D} : Rd H a (.tup xs) → a ∉ O → xs.length ≤ sizeLine → Reps K H O xs ds → Rep K H O (.ref a) (.tuple ds)
  | tupK {a : Addr} {xs : List V} {ds : List D} : TK K a xs → Reps K H O xs ds → Rep K H O (.ref a) (.tuple ds)
  | dic {a : Addr} {kvs : List (Key × V)} {ds : List (D × D)} : Rd H a (.dK kvs) → a ∉ O → KReps K H O kvs ds → Rep K H O (.ref a) (.dict ds)
  | dicX {a : Addr} {es : List (NestedKey × Addr × V)} {ds : List (D × D)} : Rd H a (dxO a es) → a ∉ O → XReps K H O es ds → Rep K H O (.ref a) (xD ds)
  | ins {a C dx : Addr} {fs : List (Str × V)} {ds : List (D × D)} {x : Str} : H a = some (.ins C dx fs) → a ∉ O → FnAt K C x → KReps K H O (keyF fs) ds → Rep K H O (.ref a) (insD x ds)
  | fn {a : Addr} {x : Str} : FnAt K a x → Rep K H O (.ref a) (fnD x)
inductive Reps (K : PySem.W.Frag) (H : Hp) (O : List Addr) : List V → List D → Prop
  | nil : Reps K H O [] []
  | cons {v : V} {vs : List V} {d : D} {ds : List D} : Rep K H O v d → Reps K H O vs ds → Reps K H O (v :: vs) (d :: ds)
inductive KReps (K : PySem.W.Frag) (H : Hp) (O : List Addr) : List (Key × V) → List (D × D) → Prop
  | nil : KReps K H O [] []
  | cons {k : Key} {v : V} {d : D} {vs : List (Key × V)} {ds : List (D × D)} : Rep K H O v d → KReps K H O vs ds → KReps K H O ((k, v) :: vs) ((kD k, d) :: ds)
inductive XReps (K : PySem.W.Frag) (H : Hp) (O : List Addr) : List (NestedKey × Addr × V) → List (D × D) → Prop
  | nil : XReps K H O [] []
  | cons {k : NestedKey} {b : Addr} {v : V} {d : D} {vs : List (NestedKey × Addr × V)} {ds : List (D × D)} : Rep K H O (.ref b) k.data → Rep K H O v d → XReps K H O vs ds → XReps K H O ((k, b, v) :: vs) ((k.data, d) :: ds)
end
section
variable {K : PySem.W.Frag} {H H' : Hp} {O O' : List Addr}
theorem Rd.keep {a : Addr} {u : HO} (h : Rd H a u) (k : ∀ o, H a = some o → H' a = some o) : Rd H' a u := by
  rcases h with h | ⟨o, h⟩
  · exact .inl (k _ h)
  · exact .inr ⟨o, k _ h⟩
theorem Rd.has {a : Addr} {u : HO} (h : Rd H a u) : H a ≠ none := by
  rcases h with h | ⟨o, h⟩
  · rw [h]; exact fun z => nomatch z
  · rw [h]; exact fun z => nomatch z
theorem nf_lst (xs : List V) : ∀ o w, HO.lst xs ≠ .frz o w := fun _ _ z => nomatch z
theorem nf_tup (xs : List V) : ∀ o w, HO.tup xs ≠ .frz o w := fun _ _ z => nomatch z
theorem nf_dK (xs : List (Key × V)) : ∀ o w, HO.dK xs ≠ .frz o w := fun _ _ z => nomatch z
theorem nf_dx (a : Addr) (xs : List (NestedKey × Addr × V)) : ∀ o w, dxO a xs ≠ .frz o w := fun _ _ z => nomatch z
/-- what was readable outside O is readable -/
structure Kp (O : List Addr) (H H' : Hp) : Prop where
  rd : ∀ a u, (∀ o w, u ≠ .frz o w) → a ∉ O → Rd H a u → Rd H' a u
  ins : ∀ a C dx fs, a ∉ O → H a = some (.ins C dx fs) → H' a = some (.ins C dx fs)
theorem Kp.of (k : ∀ a o, H a = some o → a ∉ O → H' a = some o) : Kp O H H' := ⟨fun _ _ _ h q => Rd.keep q fun o e => k _ o e h, fun _ _ _ _ h e => k _ _ e h⟩
mutual
/-- what was readable outside O is readable; what is in O' was in O or is new -/
theorem Rep.evR (k : Kp O H H') (n : ∀ a ∈ O', a ∈ O ∨ H a = none) : ∀ {v : V} {d : D}, Rep K H O v d → Rep K H' O' v d
  | _, _, .non => .non
  | _, _, .bl b => .bl b
  | _, _, .int i => .int i
  | _, _, .str x => .str x
  | _, _, .lst h1 h2 hz h3 => .lst (k.rd _ _ (nf_lst _) h2 h1) (fun z => (n _ z).elim h2 fun e => Rd.has h1 e) hz (Reps.evR k n h3)
  | _, _, .lstK h1 h3 => .lstK h1 (Reps.evR k n h3)
  | _, _, .tup h1 h2 hz h3 => .tup (k.rd _ _ (nf_tup _) h2 h1) (fun z => (n _ z).elim h2 fun e => Rd.has h1 e) hz (Reps.evR k n h3)
  | _, _, .tupK h1 h3 => .tupK h1 (Reps.evR k n h3)
  | _, _, .dic h1 h2 h3 => .dic (k.rd _ _ (nf_dK _) h2 h1) (fun z => (n _ z).elim h2 fun e => Rd.has h1 e) (KReps.evR k n h3)
  | _, _, .dicX h1 h2 h3 => .dicX (k.rd _ _ (nf_dx _ _) h2 h1) (fun z => (n _ z).elim h2 fun e => Rd.has h1 e) (XReps.evR k n h3)
  | _, _, .ins h1 h2 h3 h4 => .ins (k.ins _ _ _ _ h2 h1) (fun z => (n _ z).elim h2 fun e => by rw [h1] at e; cases e) h3 (KReps.evR k n h4)
  | _, _, .fn h => .fn h
theorem Reps.evR (k : Kp O H H') (n : ∀ a ∈ O', a ∈ O ∨ H a = none) : ∀ {vs : List V} {ds : List D}, Reps K H O vs ds → Reps K H' O' vs ds
  | _, _, .nil => .nil
  | _, _, .cons h1 h2 => .cons (Rep.evR k n h1) (Reps.evR k n h2)
theorem KReps.evR (k : Kp O H H') (n : ∀ a ∈ O', a ∈ O ∨ H a = none) : ∀ {vs : List (Key × V)} {ds : List (D × D)}, KReps K H O vs ds → KReps K H' O' vs ds
  | _, _, .nil => .nil
  | _, _, .cons h1 h2 => .cons (Rep.evR k n h1) (KReps.evR k n h2)
theorem XReps.evR (k : Kp O H H') (n : ∀ a ∈ O', a ∈ O ∨ H a = none) : ∀ {vs : List (NestedKey × Addr × V)} {ds : List (D × D)}, XReps K H O vs ds → XReps K H' O' vs ds
  | _, _, .nil => .nil
  | _, _, .cons h0 h1 h2 => .cons (Rep.evR k n h0) (Rep.evR k n h1) (XReps.evR k n h2)
end
/-- what was tracked outside O is as it was; what is in O' was in O or is new -/
theorem Rep.ev (k : ∀ a o, H a = some o → a ∉ O → H' a = some o) (n : ∀ a ∈ O', a ∈ O ∨ H a = none) {v : V} {d : D} (r : Rep K H O v d) : Rep K H' O' v d := r.evR (.of k) n
theorem Reps.ev (k : ∀ a o, H a = some o → a ∉ O → H' a = some o) (n : ∀ a ∈ O', a ∈ O ∨ H a = none) {vs : List V} {ds : List D} (r : Reps K H O vs ds) : Reps K H' O' vs ds := r.evR (.of k) n
theorem KReps.ev (k : ∀ a o, H a = some o → a ∉ O → H' a = some o) (n : ∀ a ∈ O', a ∈ O ∨ H a = none) {vs : List (Key × V)} {ds : List (D × D)} (r : KReps K H O vs ds) : KReps K H' O' vs ds := r.evR (.of k) n
theorem XReps.ev (k : ∀ a o, H a = some o → a ∉ O → H' a = some o) (n : ∀ a ∈ O', a ∈ O ∨ H a = none) {vs : List (NestedKey × Addr × V)} {ds : List (D × D)} (r : XReps K H O vs ds) : XReps K H' O' vs ds := r.evR (.of k) n
theorem Rep.same (h : Same H H') {v : V} {d : D} (r : Rep K H O v d) : Rep K H' O v d := r.ev (fun a o e _ => h a o e) fun _ z => .inl z
theorem Reps.same (h : Same H H') {vs : List V} {ds : List D} (r : Reps K H O vs ds) : Reps K H' O vs ds := r.ev (fun a o e _ => h a o e) fun _ z => .inl z
theorem XReps.same (h : Same H H') {vs : List (NestedKey × Addr × V)} {ds : List (D × D)} (r : XReps K H O vs ds) : XReps K H' O vs ds := r.ev (fun a o e _ => h a o e) fun _ z => .inl z
theorem KReps.same (h : Same H H') {vs : List (Key × V)} {ds : List (D × D)} (r : KReps K H O vs ds) : KReps K H' O vs ds := r.ev (fun a o e _ => h a o e) fun _ z => .inl z
theorem Reps.length : ∀ {vs : List V} {ds : List D}, Reps K H O vs ds → vs.length = ds.length
  | _, _, .nil => rfl
  | _, _, .cons _ t => congrArg (· + 1) (Reps.length t)
theorem Reps.get : ∀ {vs : List V} {ds : List D} {i : Nat} {v : V}, Reps K H O vs ds → vs[i]? = some v → ∃ d, ds[i]? = some d ∧ Rep K H O v d
  | _, _, _, _, .nil, e => by simp at e
  | _, _, 0, _, .cons r _, e => by simp at e; subst e; exact ⟨_, rfl, r⟩
  | _, _, i + 1, _, .cons _ t, e => by
    obtain ⟨d, h1, h2⟩ := Reps.get (i := i) t (by simpa using e)
    exact ⟨d, by simpa using h1, h2⟩
theorem Reps.get' : ∀ {vs : List V} {ds : List D} {i : Nat} {d : D}, Reps K H O vs ds → ds[i]? = some d → ∃ v, vs[i]? = some v ∧ Rep K H O v d
  | _, _, _, _, .nil, e => by simp at e
  | _, _, 0, _, .cons r _, e => by simp at e; subst e; exact ⟨_, rfl, r⟩
  | _, _, i + 1, _, .cons _ t, e => by
    obtain ⟨d, h1, h2⟩ := Reps.get' (i := i) t (by simpa using e)
    exact ⟨d, by simpa using h1, h2⟩
theorem Reps.append : ∀ {vs ws : List V} {ds es : List D}, Reps K H O vs ds → Reps K H O ws es → Reps K H O (vs ++ ws) (ds ++ es)
  | _, _, _, _, .nil, s => s
  | _, _, _, _, .cons r t, s => .cons r (Reps.append t s)
theorem Reps.take : ∀ {vs : List V} {ds : List D} (n : Nat), Reps K H O vs ds → Reps K H O (vs.take n) (ds.take n)
  | _, _, 0, _ => .nil
  | _, _, _ + 1, .nil => .nil
  | _, _, n + 1, .cons r t => .cons r (Reps.take n t)
theorem Reps.drop : ∀ {vs : List V} {ds : List D} (n : Nat), Reps K H O vs ds → Reps K H O (vs.drop n) (ds.drop n)
  | _, _, 0, r => r
  | _, _, _ + 1, .nil => .nil
  | _, _, n + 1, .cons _ t => Reps.drop n t
theorem Reps.set {v : V} {d : D} (r : Rep K H O v d) : ∀ {vs : List V} {ds : List D} (i : Nat), Reps K H O vs ds → Reps K H O (vs.set i v) (ds.set i d)
  | _, _, _, .nil => .nil
  | _, _, 0, .cons _ t => .cons r t
  | _, _, i + 1, .cons q t => .cons q (Reps.set r i t)
theorem Reps.rev {vs : List V} {ds : List D} (r : Reps K H O vs ds) : Reps K H O vs.reverse ds.reverse := by
  induction ds generalizing vs with
  | nil => cases r; exact .nil
  | cons d ds ih =>
    cases r with
    | cons h1 h2 =>
      rw [List.reverse_cons, List.reverse_cons]
      exact (ih h2).append (.cons h1 .nil)
theorem Reps.rep {vs : List V} {ds : List D} (r : Reps K H O vs ds) : ∀ k : Nat, Reps K H O (List.replicate k vs).flatten (List.replicate k ds).flatten
  | 0 => .nil
  | k + 1 => by
    rw [List.replicate_succ, List.replicate_succ, List.flatten_cons, List.flatten_cons]
    exact r.append (Reps.rep r k)
end
/-- as Rep, but the value's own object may be in O -/
inductive Top (K : PySem.W.Frag) (H : Hp) (O : List Addr) : V → D → Prop
  | rep {v : V} {d : D} : Rep K H O v d → Top K H O v d
  | lst {a : Addr} {xs : List V} {ds : List D} : H a = some (.lst xs) → xs.length ≤ sizeLine → Reps K H O xs ds → Top K H O (.ref a) (.list ds)
  | dic {a : Addr} {kvs : List (Key × V)} {ds : List (D × D)} : H a = some (.dK kvs) → KReps K H O kvs ds → Top K H O (.ref a) (.dict ds)
section
variable {K : PySem.W.Frag} {H H' : Hp} {O O' : List Addr} {v : V}
theorem Top.same (h : Same H H') {d : D} (r : Top K H O v d) : Top K H' O v d := by
  cases r with
  | rep r => exact .rep (r.same h)
  | lst e z r => exact .lst (h _ _ e) z (r.same h)
  | dic e r => exact .dic (h _ _ e) (r.same h)
theorem LK.len {a : Addr} {xs : List V} (h : LK K a xs) : xs.length ≤ sizeLine := by
  obtain ⟨o, its, n, _, _, _, _, z, r⟩ := h
  have e := r.length
  simp only [Array.length_toList] at e
  omega
theorem TK.len {a : Addr} {xs : List V} (h : TK K a xs) : xs.length ≤ sizeLine := by
  obtain ⟨o, its, n, _, _, _, z, r⟩ := h
  have e := r.length
  simp only [Array.length_toList] at e
  omega
theorem Top.list {ds : List D} (t : Top K H O v (.list ds)) : ∃ a xs, v = .ref a ∧ SqL K H a xs ∧ Reps K H O xs ds ∧ xs.length ≤ sizeLine := by
  cases t with
  | rep r =>
    cases r with
    | lst h1 h2 hz h3 => exact ⟨_, _, rfl, .inl h1, h3, hz⟩
    | lstK h1 h3 => exact ⟨_, _, rfl, .inr h1, h3, h1.len⟩
  | lst e z r => exact ⟨_, _, rfl, .of e, r, z⟩
theorem Top.tuple {ds : List D} (t : Top K H O v (.tuple ds)) : ∃ a xs, v = .ref a ∧ SqT K H a xs ∧ Reps K H O xs ds ∧ xs.length ≤ sizeLine := by
  cases t with
  | rep r =>
    cases r with
    | tup h1 h2 hz h3 => exact ⟨_, _, rfl, .inl h1, h3, hz⟩
    | tupK h1 h3 => exact ⟨_, _, rfl, .inr h1, h3, h1.len⟩
theorem Top.int {i : Int} (t : Top K H O v (.int i)) : v = .int i := by
  cases t with
  | rep r => cases r; rfl
theorem Top.str {x : Str} (t : Top K H O v (.str x)) : v = .str x := by
  cases t with
  | rep r => cases r; rfl
theorem Top.bool {b : Bool} (t : Top K H O v (.bool b)) : v = .bl b := by
  cases t with
  | rep r => cases r; rfl
theorem Top.none (t : Top K H O v .none) : v = .non := by
  cases t with
  | rep r => cases r; rfl
end
/-! ### own trees -/
/-- what is made and written in place: lists, dicts and instances, one within the other; data at the leaves -/
inductive T where
  | fz (d : D) | ol (ts : List T) | od (kvs : List (D × T)) | ox (kvs : List (D × D)) | oi (x : Str) (fs : List (D × T))
mutual
def T.d : T → D
  | .fz d => d
  | .ol ts => .list (T.ds ts)
  | .od kvs => .dict (T.kds kvs)
  | .ox kvs => xD kvs
  | .oi x fs => insD x (T.kds fs)
def T.ds : List T → List D
  | [] => []
  | t :: ts => t.d :: T.ds ts
def T.kds : List (D × T) → List (D × D)
  | [] => []
  | (k, t) :: ts => (k, t.d) :: T.kds ts
end
mutual
/-- the value is the tree; its own objects are A -/
inductive Tr (K : PySem.W.Frag) (H : Hp) (O : List Addr) : V → T → List Addr → Prop
  | fz {v : V} {d : D} : Rep K H O v d → Tr K H O v (.fz d) []
  | ol {a : Addr} {vs : List V} {ts : List T} {A : List Addr} : H a = some (.lst vs) → vs.length ≤ sizeLine → Trs K H O vs ts A → Tr K H O (.ref a) (.ol ts) (a :: A)
  | od {a : Addr} {vs : List (Key × V)} {ts : List (D × T)} {A : List Addr} : H a = some (.dK vs) → KTrs K H O vs ts A → Tr K H O (.ref a) (.od ts) (a :: A)
  | ox {a : Addr} {es : List (NestedKey × Addr × V)} {ds : List (D × D)} : H a = some (dxO a es) → XReps K H O es ds → Tr K H O (.ref a) (.ox ds) [a]
  | oi {a C dx : Addr} {fs : List (Str × V)} {ts : List (D × T)} {x : Str} {A : List Addr} : H a = some (.ins C dx fs) → FnAt K C x → KTrs K H O (keyF fs) ts A → Tr K H O (.ref a) (.oi x ts) (a :: A)
inductive Trs (K : PySem.W.Frag) (H : Hp) (O : List Addr) : List V → List T → List Addr → Prop
  | nil : Trs K H O [] [] []
  | cons {v : V} {vs : List V} {t : T} {ts : List T} {A B : List Addr} : Tr K H O v t A → Trs K H O vs ts B → Trs K H O (v :: vs) (t :: ts) (A ++ B)
inductive KTrs (K : PySem.W.Frag) (H : Hp) (O : List Addr) : List (Key × V) → List (D × T) → List Addr → Prop
  | nil : KTrs K H O [] [] []
  | cons {k : Key} {v : V} {vs : List (Key × V)} {t : T} {ts : List (D × T)} {A B : List Addr} : Tr K H O v t A → KTrs K H O vs ts B → KTrs K H O ((k, v) :: vs) ((kD k, t) :: ts) (A ++ B)
end
section
variable {K : PySem.W.Frag} {H H' : Hp} {O O' : List Addr}
mutual
/-- the tree's own objects are as they were; what was readable outside O is readable -/
theorem Tr.evR (k : Kp O H H') (n : ∀ a ∈ O', a ∈ O ∨ H a = none) : ∀ {v : V} {t : T} {A : List Addr}, Tr K H O v t A → (∀ a ∈ A, H' a = H a) → Tr K H' O' v t A
  | _, _, _, .fz r, _ => .fz (r.evR k n)
  | _, _, _, .ol h z r, m => .ol ((m _ List.mem_cons_self).trans h) z (Trs.evR k n r fun a q => m a (List.mem_cons_of_mem _ q))
  | _, _, _, .od h r, m => .od ((m _ List.mem_cons_self).trans h) (KTrs.evR k n r fun a q => m a (List.mem_cons_of_mem _ q))
  | _, _, _, .ox h r, m => .ox ((m _ List.mem_cons_self).trans h) (r.evR k n)
  | _, _, _, .oi h f r, m => .oi ((m _ List.mem_cons_self).trans h) f (KTrs.evR k n r fun a q => m a (List.mem_cons_of_mem _ q))
theorem Trs.evR (k : Kp O H H') (n : ∀ a ∈ O', a ∈ O ∨ H a = none) : ∀ {v : List V} {t : List T} {A : List Addr}, Trs K H O v t A → (∀ a ∈ A, H' a = H a) → Trs K H' O' v t A
  | _, _, _, .nil, _ => .nil
  | _, _, _, .cons r s, m => .cons (Tr.evR k n r fun a q => m a (List.mem_append_left _ q)) (Trs.evR k n s fun a q => m a (List.mem_append_right _ q))
theorem KTrs.evR (k : Kp O H H') (n : ∀ a ∈ O', a ∈ O ∨ H a = none) : ∀ {v : List (Key × V)} {t : List (D × T)} {A : List Addr}, KTrs K H O v t A → (∀ a ∈ A, H' a = H a) → KTrs K H' O' v t A
  | _, _, _, .nil, _ => .nil
  | _, _, _, .cons r s, m => .cons (Tr.evR k n r fun a q => m a (List.mem_append_left _ q)) (KTrs.evR k n s fun a q => m a (List.mem_append_right _ q))
end
mutual
theorem Tr.foot : ∀ {v : V} {t : T} {A : List Addr}, Tr K H O v t A → ∀ a ∈ A, Mut (H a)
  | _, _, _, .fz _, a, h => nomatch h
  | _, _, _, .ol e _ r, a, h => (List.mem_cons.mp h).elim (fun z => by rw [z, e]; trivial) fun z => Trs.foot r a z
  | _, _, _, .od e r, a, h => (List.mem_cons.mp h).elim (fun z => by rw [z, e]; trivial) fun z => KTrs.foot r a z
  | _, _, _, .ox e r, a, h => (List.mem_cons.mp h).elim (fun z => by rw [z, e]; trivial) fun z => nomatch z
  | _, _, _, .oi e _ r, a, h => (List.mem_cons.mp h).elim (fun z => by rw [z, e]; trivial) fun z => KTrs.foot r a z
theorem Trs.foot : ∀ {v : List V} {t : List T} {A : List Addr}, Trs K H O v t A → ∀ a ∈ A, Mut (H a)
  | _, _, _, .nil, a, h => nomatch h
  | _, _, _, .cons r s, a, h => (List.mem_append.mp h).elim (Tr.foot r a) (Trs.foot s a)
theorem KTrs.foot : ∀ {v : List (Key × V)} {t : List (D × T)} {A : List Addr}, KTrs K H O v t A → ∀ a ∈ A, Mut (H a)
  | _, _, _, .nil, a, h => nomatch h
  | _, _, _, .cons r s, a, h => (List.mem_append.mp h).elim (Tr.foot r a) (KTrs.foot s a)
end
theorem mut_has {o : Option HO} (h : Mut o) : o ≠ none := fun e => by rw [e] at h; exact h
theorem Tr.same (h : Same H H') {v : V} {t : T} {A : List Addr} (r : Tr K H O v t A) : Tr K H' O v t A := r.evR (.of fun a o e _ => h a o e) (fun _ z => .inl z) fun a z => by
  cases e : H a with
  | none => exact absurd e (mut_has (r.foot a z))
  | some o => exact h a o e
mutual
/-- a tree as data: its objects leave O -/
theorem Tr.rep (hA : ∀ a ∈ O', a ∈ O) : ∀ {v : V} {t : T} {A : List Addr}, Tr K H O v t A → (∀ a ∈ A, a ∉ O') → Rep K H O' v t.d
  | _, _, _, .fz r, _ => by unfold T.d; exact r.ev (fun _ _ e _ => e) fun a z => .inl (hA a z)
  | _, _, _, .ol h z r, m => by unfold T.d; exact .lst (.inl h) (m _ List.mem_cons_self) z (Trs.reps hA r fun a q => m a (List.mem_cons_of_mem _ q))
  | _, _, _, .od h r, m => by unfold T.d; exact .dic (.inl h) (m _ List.mem_cons_self) (KTrs.reps hA r fun a q => m a (List.mem_cons_of_mem _ q))
  | _, _, _, .ox h r, m => by unfold T.d; exact .dicX (.inl h) (m _ List.mem_cons_self) (r.ev (fun _ _ e _ => e) fun a z => .inl (hA a z))
  | _, _, _, .oi h f r, m => by unfold T.d; exact .ins h (m _ List.mem_cons_self) f (KTrs.reps hA r fun a q => m a (List.mem_cons_of_mem _ q))
theorem Trs.reps (hA : ∀ a ∈ O', a ∈ O) : ∀ {v : List V} {t : List T} {A : List Addr}, Trs K H O v t A → (∀ a ∈ A, a ∉ O') → Reps K H O' v (T.ds t)
  | _, _, _, .nil, _ => by unfold T.ds; exact .nil
  | _, _, _, .cons r s, m => by unfold T.ds; exact .cons (Tr.rep hA r fun a q => m a (List.mem_append_left _ q)) (Trs.reps hA s fun a q => m a (List.mem_append_right _ q))
theorem KTrs.reps (hA : ∀ a ∈ O', a ∈ O) : ∀ {v : List (Key × V)} {t : List (D × T)} {A : List Addr}, KTrs K H O v t A → (∀ a ∈ A, a ∉ O') → KReps K H O' v (T.kds t)
  | _, _, _, .nil, _ => by unfold T.kds; exact .nil
  | _, _, _, .cons r s, m => by unfold T.kds; exact .cons (Tr.rep hA r fun a q => m a (List.mem_append_left _ q)) (KTrs.reps hA s fun a q => m a (List.mem_append_right _ q))
end
end
theorem Tr.bare {K : PySem.W.Frag} {H : Hp} {O : List Addr} {v : V} {t : T} {A : List Addr} (h : Tr K H O v t A) : Rep K H [] v t.d := h.rep (O' := []) (fun a z => absurd z (List.not_mem_nil)) fun a _ z => absurd z (List.not_mem_nil)
/-! ### results -/
/-- what an expression gives: data; a new list or dict of one's own; the object that a name owns; what is to be read alone; a new tree -/
inductive R where
  | fr (d : D) | ol (xs : List D) | od (kvs : List (D × D)) | bw (d : D) | bt (d : D) | ot (t : T)
def R.d : R → D
  | .fr d => d
  | .ol xs => .list xs
  | .od kvs => .dict kvs
  | .bw d => d
  | .bt d => d
  | .ot t => t.d
@[simp] theorem R.d_fr (d : D) : (R.fr d).d = d := rfl
@[simp] theorem R.d_ol (xs : List D) : (R.ol xs).d = .list xs := rfl
@[simp] theorem R.d_od (xs : List (D × D)) : (R.od xs).d = .dict xs := rfl
@[simp] theorem R.d_bw (d : D) : (R.bw d).d = d := rfl
@[simp] theorem R.d_bt (d : D) : (R.bt d).d = d := rfl
@[simp] theorem R.d_ot (t : T) : (R.ot t).d = t.d := rfl
def R.isBt : R → Bool
  | .bt _ => true
  | .ot _ => true
  | _ => false
/-- what an exception tells -/
structure Exn where
  cls : String
  args : List D
/-- an outcome -/
inductive Rs (α : Type) where
  | ok (a : α) | ex (e : Exn) | bad
def Rs.bind {α β : Type} (x : Rs α) (f : α → Rs β) : Rs β := match x with
  | .ok a => f a
  | .ex e => .ex e
  | .bad => .bad
@[simp] theorem Rs.bind_ok {α β : Type} (a : α) (f : α → Rs β) : (Rs.ok a).bind f = f a := rfl
@[simp] theorem Rs.bind_ex {α β : Type} (e : Exn) (f : α → Rs β) : (Rs.ex e : Rs α).bind f = .ex e := rfl
@[simp] theorem Rs.bind_bad {α β : Type} (f : α → Rs β) : (Rs.bad : Rs α).bind f = .bad := rfl
theorem Rs.bind_eq {α β : Type} {x : Rs α} {f : α → Rs β} {b : β} (h : x.bind f = .ok b) : ∃ a, x = .ok a ∧ f a = .ok b := by
  cases x with
  | ok a => exact ⟨a, rfl, h⟩
  | ex e => cases h
  | bad => cases h
/-- the value v, in the heap H' behind H, for a result -/
def RR (K : PySem.W.Frag) (O : List Addr) (H H' : Hp) (v : V) : R → Prop
  | .fr d => Rep K H' O v d
  | .ol xs => ∃ p vs, v = .ref p ∧ H p = none ∧ H' p = some (.lst vs) ∧ vs.length ≤ sizeLine ∧ Reps K H' (p :: O) vs xs
  | .od kvs => ∃ p vs, v = .ref p ∧ H p = none ∧ H' p = some (.dK vs) ∧ KReps K H' (p :: O) vs kvs
  | .bw d => Top K H' O v d
  | .bt d => Rep K H' [] v d
  | .ot t => ∃ A, Tr K H' (A ++ O) v t A ∧ A.Nodup ∧ ∀ a ∈ A, H a = none
theorem Rep.less {K : PySem.W.Frag} {H : Hp} {O O1 : List Addr} {v : V} {d : D} (h : Rep K H O v d) (s : ∀ a ∈ O1, a ∈ O) : Rep K H O1 v d := h.ev (fun _ _ e _ => e) fun a z => .inl (s a z)
theorem Reps.less {K : PySem.W.Frag} {H : Hp} {O O1 : List Addr} {v : List V} {d : List D} (h : Reps K H O v d) (s : ∀ a ∈ O1, a ∈ O) : Reps K H O1 v d := h.ev (fun _ _ e _ => e) fun a z => .inl (s a z)
theorem KReps.less {K : PySem.W.Frag} {H : Hp} {O O1 : List Addr} {v : List (Key × V)} {d : List (D × D)} (h : KReps K H O v d) (s : ∀ a ∈ O1, a ∈ O) : KReps K H O1 v d := h.ev (fun _ _ e _ => e) fun a z => .inl (s a z)
theorem XReps.less {K : PySem.W.Frag} {H : Hp} {O O1 : List Addr} {v : List (NestedKey × Addr × V)} {d : List (D × D)} (h : XReps K H O v d) (s : ∀ a ∈ O1, a ∈ O) : XReps K H O1 v d := h.ev (fun _ _ e _ => e) fun a z => .inl (s a z)
theorem Top.bare {K : PySem.W.Frag} {H : Hp} {O : List Addr} {v : V} {d : D} (t : Top K H O v d) : Rep K H [] v d := by
  have n : ∀ a ∈ ([] : List Addr), a ∈ O := fun _ h => nomatch h
  cases t with
  | rep r => exact r.less n
  | lst e z r => exact .lst (.inl e) (fun h => nomatch h) z (r.less n)
  | dic e r => exact .dic (.inl e) (fun h => nomatch h) (r.less n)
section
variable {K : PySem.W.Frag} {H H1 H2 : Hp} {O : List Addr} {v : V}
theorem RR.top {r : R} (h : RR K O H H1 v r) (hb : r.isBt = false) : Top K H1 O v r.d := by
  cases r with
  | fr d => exact .rep h
  | ol xs =>
    obtain ⟨p, vs, rfl, _, e, z, q⟩ := h
    exact .lst e z (q.ev (fun _ _ e _ => e) fun _ z => .inl (List.mem_cons_of_mem _ z))
  | od kvs =>
    obtain ⟨p, vs, rfl, _, e, q⟩ := h
    exact .dic e (q.ev (fun _ _ e _ => e) fun _ z => .inl (List.mem_cons_of_mem _ z))
  | bw d => exact h
  | bt d => cases hb
  | ot t => cases hb
theorem RR.bare {r : R} (h : RR K O H H1 v r) : Rep K H1 [] v r.d := by
  cases r with
  | bt d => exact h
  | ot t =>
    obtain ⟨A, h1, _, _⟩ := h
    exact h1.bare
  | fr d => exact (RR.top (r := .fr d) h rfl).bare
  | ol d => exact (RR.top (r := .ol d) h rfl).bare
  | od d => exact (RR.top (r := .od d) h rfl).bare
  | bw d => exact (RR.top (r := .bw d) h rfl).bare
theorem RR.left {r : R} (s : Same H H1) (h : RR K O H1 H2 v r) : RR K O H H2 v r := by
  cases r with
  | fr d => exact h
  | ol xs =>
    obtain ⟨p, vs, e1, e2, e3, z, q⟩ := h
    exact ⟨p, vs, e1, s.free e2, e3, z, q⟩
  | od xs =>
    obtain ⟨p, vs, e1, e2, e3, q⟩ := h
    exact ⟨p, vs, e1, s.free e2, e3, q⟩
  | bw d => exact h
  | bt d => exact h
  | ot t =>
    obtain ⟨A, h1, h2, h3⟩ := h
    exact ⟨A, h1, h2, fun a z => s.free (h3 a z)⟩
theorem RR.right {r : R} (h : RR K O H H1 v r) (s : Same H1 H2) : RR K O H H2 v r := by
  cases r with
  | fr d => exact Rep.same s h
  | ol xs =>
    obtain ⟨p, vs, e1, e2, e3, z, q⟩ := h
    exact ⟨p, vs, e1, e2, s _ _ e3, z, q.same s⟩
  | od xs =>
    obtain ⟨p, vs, e1, e2, e3, q⟩ := h
    exact ⟨p, vs, e1, e2, s _ _ e3, q.same s⟩
  | bw d => exact Top.same s h
  | bt d => exact Rep.same s h
  | ot t =>
    obtain ⟨A, h1, h2, h3⟩ := h
    exact ⟨A, h1.same s, h2, h3⟩
/-- as data alone -/
def R.fz : R → Option D
  | .fr d => some d
  | .ol xs => some (.list xs)
  | .od kvs => some (.dict kvs)
  | .bw _ => none
  | .bt _ => none
  | .ot t => some t.d
theorem RR.rep {r : R} {d : D} (hO : ∀ a ∈ O, H a ≠ none) (h : RR K O H H1 v r) (e : r.fz = some d) : Rep K H1 O v d := by
  cases r with
  | fr d' => cases e; exact h
  | ol xs =>
    cases e
    obtain ⟨p, vs, rfl, e2, e3, hz, q⟩ := h
    exact .lst (.inl e3) (fun z => hO _ z e2) hz (q.ev (fun _ _ e _ => e) fun _ z => .inl (List.mem_cons_of_mem _ z))
  | od xs =>
    cases e
    obtain ⟨p, vs, rfl, e2, e3, q⟩ := h
    exact .dic (.inl e3) (fun z => hO _ z e2) (q.ev (fun _ _ e _ => e) fun _ z => .inl (List.mem_cons_of_mem _ z))
  | bw d => cases e
  | bt d => cases e
  | ot t =>
    cases e
    obtain ⟨A, h1, h2, h3⟩ := h
    exact h1.rep (fun a z => List.mem_append_right _ z) fun a z y => hO a y (h3 a z)
end
/-! ### names -/
/-- what stands at a name: unknown; data; an own list, an own dict; an own tree; the tree that a parameter brought -/
inductive Sl where
  | un | fr (d : D) | ol (xs : List D) | od (kvs : List (D × D)) | ot (t : T) | pt (t : T)
abbrev En := List Sl
/-- a name's own objects; the value that it must keep -/
structure Gh where
  A : List Addr
  pi : Option V
/-- the contexts' own objects and ours; the names' -/
structure Og where
  O : List Addr
  γ : List Gh
instance : CoeOut Og (List Addr) := ⟨Og.O⟩
def ownG : List Gh → List Addr
  | [] => []
  | g :: γ => g.A ++ ownG γ
def Og.own (G : Og) : List Addr := ownG G.γ
/-- one name -/
def SR (K : PySem.W.Frag) (H : Hp) (O : List Addr) (g : Gh) (ov : Option V) : Sl → Prop
  | .un => g.A = []
  | .fr d => (∃ v, ov = some v ∧ Rep K H O v d) ∧ g.A = []
  | .ol xs => ∃ a vs, ov = some (.ref a) ∧ H a = some (.lst vs) ∧ vs.length ≤ sizeLine ∧ Reps K H O vs xs ∧ g.A = [a]
  | .od kvs => ∃ a vs, ov = some (.ref a) ∧ H a = some (.dK vs) ∧ KReps K H O vs kvs ∧ g.A = [a]
  | .ot t => ∃ v, ov = some v ∧ Tr K H O v t g.A
  | .pt t => ∃ v, ov = some v ∧ Tr K H O v t g.A ∧ g.pi = some v
inductive All2 {α β : Type} (P : α → β → Prop) : List α → List β → Prop
  | nil : All2 P [] []
  | cons {a : α} {b : β} {as : List α} {bs : List β} : P a b → All2 P as bs → All2 P (a :: as) (b :: bs)
theorem All2.imp {α β : Type} {P Q : α → β → Prop} (h : ∀ a b, P a b → Q a b) : ∀ {as : List α} {bs : List β}, All2 P as bs → All2 Q as bs
  | _, _, .nil => .nil
  | _, _, .cons r t => .cons (h _ _ r) (All2.imp h t)
theorem All2.length {α β : Type} {P : α → β → Prop} : ∀ {as : List α} {bs : List β}, All2 P as bs → as.length = bs.length
  | _, _, .nil => rfl
  | _, _, .cons _ t => congrArg (· + 1) (All2.length t)
theorem All2.get {α β : Type} {P : α → β → Prop} : ∀ {as : List α} {bs : List β} {i : Nat} {b : β}, All2 P as bs → bs[i]? = some b → ∃ a, as[i]? = some a ∧ P a b
  | _, _, _, _, .nil, e => by simp at e
  | _, _, 0, _, .cons r _, e => by simp at e; subst e; exact ⟨_, rfl, r⟩
  | _, _, i + 1, _, .cons _ t, e => by
    obtain ⟨d, h1, h2⟩ := All2.get (i := i) t (by simpa using e)
    exact ⟨d, by simpa using h1, h2⟩
theorem All2.set {α β : Type} {P : α → β → Prop} {a : α} {b : β} (r : P a b) : ∀ {as : List α} {bs : List β} (i : Nat), All2 P as bs → All2 P (as.set i a) (bs.set i b)
  | _, _, _, .nil => .nil
  | _, _, 0, .cons _ t => .cons r t
  | _, _, i + 1, .cons q t => .cons q (All2.set r i t)
inductive All3 {α β γ : Type} (P : γ → α → β → Prop) : List γ → List α → List β → Prop
  | nil : All3 P [] [] []
  | cons {c : γ} {a : α} {b : β} {cs : List γ} {as : List α} {bs : List β} : P c a b → All3 P cs as bs → All3 P (c :: cs) (a :: as) (b :: bs)
section
variable {α β γ : Type} {P Q : γ → α → β → Prop}
theorem All3.imp (h : ∀ c a b, P c a b → Q c a b) : ∀ {cs : List γ} {as : List α} {bs : List β}, All3 P cs as bs → All3 Q cs as bs
  | _, _, _, .nil => .nil
  | _, _, _, .cons r t => .cons (h _ _ _ r) (All3.imp h t)
theorem All3.impM : ∀ {cs : List γ} {as : List α} {bs : List β}, (∀ c ∈ cs, ∀ a b, P c a b → Q c a b) → All3 P cs as bs → All3 Q cs as bs
  | _, _, _, _, .nil => .nil
  | _, _, _, h, .cons r t => .cons (h _ List.mem_cons_self _ _ r) (All3.impM (fun c q => h c (List.mem_cons_of_mem _ q)) t)
theorem All3.len : ∀ {cs : List γ} {as : List α} {bs : List β}, All3 P cs as bs → as.length = bs.length ∧ cs.length = bs.length
  | _, _, _, .nil => ⟨rfl, rfl⟩
  | _, _, _, .cons _ t => ⟨congrArg (· + 1) (All3.len t).1, congrArg (· + 1) (All3.len t).2⟩
theorem All3.get : ∀ {cs : List γ} {as : List α} {bs : List β} {i : Nat} {b : β}, All3 P cs as bs → bs[i]? = some b → ∃ c a, cs[i]? = some c ∧ as[i]? = some a ∧ P c a b
  | _, _, _, _, _, .nil, e => by simp at e
  | _, _, _, 0, _, .cons r _, e => by simp at e; subst e; exact ⟨_, _, rfl, rfl, r⟩
  | _, _, _, i + 1, _, .cons _ t, e => by
    obtain ⟨c, a, h1, h2, h3⟩ := All3.get (i := i) t (by simpa using e)
    exact ⟨c, a, by simpa using h1, by simpa using h2, h3⟩
theorem All3.set {c : γ} {a : α} {b : β} (r : P c a b) : ∀ {cs : List γ} {as : List α} {bs : List β} (i : Nat), All3 P cs as bs → All3 P (cs.set i c) (as.set i a) (bs.set i b)
  | _, _, _, _, .nil => .nil
  | _, _, _, 0, .cons _ t => .cons r t
  | _, _, _, i + 1, .cons q t => .cons q (All3.set r i t)
/-- one place is set, the others change their reading -/
theorem All3.setO {c : γ} {a : α} {b : β} (r : Q c a b) : ∀ {cs : List γ} {as : List α} {bs : List β} (i : Nat), (∀ j c' a' b', j ≠ i → cs[j]? = some c' → P c' a' b' → Q c' a' b') → All3 P cs as bs → All3 Q (cs.set i c) (as.set i a) (bs.set i b)
  | _, _, _, _, _, .nil => .nil
  | _, _, _, 0, h, .cons _ t => .cons r (All3.ofAt (fun j c' a' b' e q => h (j + 1) c' a' b' (Nat.succ_ne_zero j) (by simpa using e) q) t)
  | _, _, _, i + 1, h, .cons q t => .cons (h 0 _ _ _ (fun z => nomatch z) rfl q) (All3.setO r i (fun j c' a' b' n e q => h (j + 1) c' a' b' (fun z => n (Nat.succ.inj z)) (by simpa using e) q) t)
where
  All3.ofAt : ∀ {cs : List γ} {as : List α} {bs : List β}, (∀ j c' a' b', cs[j]? = some c' → P c' a' b' → Q c' a' b') → All3 P cs as bs → All3 Q cs as bs
    | _, _, _, _, .nil => .nil
    | _, _, _, h, .cons q t => .cons (h 0 _ _ _ rfl q) (All3.ofAt (fun j c' a' b' e q => h (j + 1) c' a' b' (by simpa using e) q) t)
end
/-- what is owned may be written; the tables stand -/
structure Hg (O : List Addr) (H : Hp) : Prop where
  mu : ∀ a ∈ O, Mut (H a)
  tb : ∀ P ∈ Vx.τ, H P = some (tabO P) ∧ P ∉ O
theorem Hg.tr {O : List Addr} {H : Hp} (h : Hg O H) : ∀ a ∈ O, H a ≠ none := fun a z => mut_has (h.mu a z)
theorem Hg.same {O : List Addr} {H H' : Hp} (g : Hg O H) (h : Same H H') : Hg O H' := ⟨fun a z => by
  have m := g.mu a z
  cases e : H a with
  | none => rw [e] at m; exact m.elim
  | some o => rw [h a o e, ← e]; exact m, fun P z => ⟨h _ _ (g.tb P z).1, (g.tb P z).2⟩⟩
theorem Hg.less {O O' : List Addr} {H : Hp} (g : Hg O H) (s : ∀ a ∈ O', a ∈ O) : Hg O' H := ⟨fun a z => g.mu a (s a z), fun P z => ⟨(g.tb P z).1, fun y => (g.tb P z).2 (s P y)⟩⟩
/-- the names hold what ρ says; O: the own objects (and those of the contexts around) -/
structure ER (K : PySem.W.Frag) (G : Og) (H : Hp) (σ : L2.St) (ρ : En) : Prop where
  at_ : All3 (SR K H G.O) G.γ σ ρ
  nd : G.own.Nodup
  sub : ∀ a ∈ G.own, a ∈ G.O
  hg : Hg G.O H
section
variable {K : PySem.W.Frag} {H H' : Hp} {O O' : List Addr} {G : Og} {σ : L2.St} {ρ : En}
theorem SR.same (h : Same H H') {g : Gh} {ov : Option V} {s : Sl} (r : SR K H O g ov s) : SR K H' O g ov s := by
  cases s with
  | un => exact r
  | fr d => obtain ⟨⟨v, e, q⟩, z⟩ := r; exact ⟨⟨v, e, q.same h⟩, z⟩
  | ol xs => obtain ⟨a, vs, e, q, w, z, y⟩ := r; exact ⟨a, vs, e, h _ _ q, w, z.same h, y⟩
  | od xs => obtain ⟨a, vs, e, q, z, y⟩ := r; exact ⟨a, vs, e, h _ _ q, z.same h, y⟩
  | ot t => obtain ⟨v, e, q⟩ := r; exact ⟨v, e, q.same h⟩
  | pt t => obtain ⟨v, e, q, z⟩ := r; exact ⟨v, e, q.same h, z⟩
theorem Same.tr (h : Same H H') (t : ∀ a ∈ O, H a ≠ none) : ∀ a ∈ O, H' a ≠ none := fun a z e => t a z (h.free e)
theorem ER.tr (I : ER K G H σ ρ) : ∀ a ∈ G.O, H a ≠ none := I.hg.tr
theorem ER.same (I : ER K G H σ ρ) (h : Same H H') : ER K G H' σ ρ := ⟨I.at_.imp fun _ _ _ r => r.same h, I.nd, I.sub, I.hg.same h⟩
theorem ER.get (I : ER K G H σ ρ) {i : Nat} {s : Sl} (e : ρ[i]? = some s) : ∃ g ov, G.γ[i]? = some g ∧ σ[i]? = some ov ∧ SR K H G.O g ov s := I.at_.get e
theorem ER.len (I : ER K G H σ ρ) : σ.length = ρ.length := I.at_.len.1
theorem ER.lenG (I : ER K G H σ ρ) : G.γ.length = ρ.length := I.at_.len.2
theorem own_atG : ∀ {γ : List Gh} {i : Nat} {g : Gh} {a : Addr}, γ[i]? = some g → a ∈ g.A → a ∈ ownG γ
  | [], _, _, _, h, _ => by simp at h
  | g :: γ, 0, _, _, h, ha => by simp at h; subst h; exact List.mem_append_left _ ha
  | g :: γ, i + 1, _, _, h, ha => List.mem_append_right _ (own_atG (i := i) (by simpa using h) ha)
/-- one's own is in O -/
theorem ER.mine (I : ER K G H σ ρ) {i : Nat} {g : Gh} (e : G.γ[i]? = some g) {a : Addr} (h : a ∈ g.A) : a ∈ G.O := I.sub a (own_atG e h)
end
/-! ### expressions -/
/-- what an expression does: a result of the names -/
abbrev FE := En → Rs R
/-- the reading of an expression that is f -/
def tE (K : PySem.W.Frag) (f : FE) : TE := fun σ H Q => ∃ (O : Og) (ρ : En) (r : R), ER K O H σ ρ ∧ f ρ = .ok r ∧ ∀ v H', Same H H' → RR K O H H' v r → Q v H'
/-- .. of a test -/
def tT (K : PySem.W.Frag) (f : En → Rs Bool) : TT := fun σ H Q => ∃ (O : Og) (ρ : En) (b : Bool), ER K O H σ ρ ∧ f ρ = .ok b ∧ ∀ H', Same H H' → Q b H'
/-- .. of arguments -/
def tA (K : PySem.W.Frag) (f : En → Rs (List R)) : TA := fun σ H Q => ∃ (O : Og) (ρ : En) (rs : List R), ER K O H σ ρ ∧ f ρ = .ok rs ∧ ∀ vs H', Same H H' → All2 (RR K O H H') vs rs → Q vs H'
structure EV (X : Cx) (e : Expr) (f : FE) : Prop where
  run : PE X e (tE X.K f)
structure TV (X : Cx) (e : Expr) (f : En → Rs Bool) : Prop where
  run : PT X e (tT X.K f)
structure AV (X : Cx) (es : List Expr) (f : En → Rs (List R)) : Prop where
  run : PA X es (tA X.K f)
  len : ∀ ρ rs, f ρ = .ok rs → rs.length = es.length
theorem pe_imp {X : Cx} {e : Expr} {t u : TE} (h : PE X e t) (i : ∀ σ H Q, u σ H Q → t σ H Q) : PE X e u := ⟨fun pins s σ H Q I q => h.run pins s σ H Q I (i σ H Q q)⟩
theorem pt_imp {X : Cx} {e : Expr} {t u : TT} (h : PT X e t) (i : ∀ σ H Q, u σ H Q → t σ H Q) : PT X e u := ⟨fun pins s σ H Q I q => h.run pins s σ H Q I (i σ H Q q)⟩
theorem pa_imp {X : Cx} {e : List Expr} {t u : TA} (h : PA X e t) (i : ∀ σ H Q, u σ H Q → t σ H Q) : PA X e u := ⟨fun pos pins s σ H Q I q => h.run pos pins s σ H Q I (i σ H Q q)⟩
section
variable {X : Cx} {a b c e : Expr} {es : List Expr} {f fa fb fc : FE} {pos : Pos}
/-! names and constants -/
def fVar (i : Nat) : FE := fun ρ => match ρ[i]? with
  | some (.fr d) => .ok (.fr d)
  | some (.ol xs) => .ok (.bw (.list xs))
  | some (.od xs) => .ok (.bw (.dict xs))
  | some (.ot t) => .ok (.bt t.d)
  | some (.pt t) => .ok (.bt t.d)
  | _ => .bad
theorem e_var (i : Nat) {x : Str} (hN : X.N[i]? = some x := by rfl) (hv : Vis X.env.scope x := by first | exact Or.inl rfl | exact Or.inr (Or.inl rfl) | exact Or.inr (Or.inr rfl)) (hd : (x == ("__debug__" : Str)) = false := by decide)
    (hcd : (x == ("__classdict__" : Str)) = false := by decide) : EV X (.Name x pos) (fVar i) := by
  refine ⟨pe_imp (pe_var hN hv hd hcd) fun σ H Q ⟨O, ρ, r, I, hf, q⟩ => ?_⟩
  unfold fVar at hf
  split at hf
  · rename_i d e
    cases hf
    obtain ⟨g, ov, eg, e1, ⟨v, rfl, r⟩, _⟩ := I.get e
    exact ⟨v, e1, q v H (Same.refl H) r⟩
  · rename_i xs e
    cases hf
    obtain ⟨g, ov, eg, e1, p, vs, rfl, h1, z, r, _⟩ := I.get e
    exact ⟨_, e1, q _ H (Same.refl H) (.lst h1 z r)⟩
  · rename_i xs e
    cases hf
    obtain ⟨g, ov, eg, e1, p, vs, rfl, h1, r, _⟩ := I.get e
    exact ⟨_, e1, q _ H (Same.refl H) (.dic h1 r)⟩
  · rename_i t e
    cases hf
    obtain ⟨g, ov, eg, e1, v, rfl, h1⟩ := I.get e
    exact ⟨_, e1, q _ H (Same.refl H) h1.bare⟩
  · rename_i t e
    cases hf
    obtain ⟨g, ov, eg, e1, v, rfl, h1, _⟩ := I.get e
    exact ⟨_, e1, q _ H (Same.refl H) h1.bare⟩
  · cases hf
def fC (d : D) : FE := fun _ => .ok (.fr d)
theorem e_of_c {v : V} {d : D} (h : PE X e (tC v)) (r : ∀ H O, Rep X.K H O v d) : EV X e (fC d) := by
  refine ⟨pe_imp h fun σ H Q ⟨O, ρ, r', I, hf, q⟩ => ?_⟩
  cases hf
  exact q v H (Same.refl H) (r H O)
theorem e_int {i : Int} {j : Nat} : EV X (.Constant (.int i) j pos) (fC (.int i)) := e_of_c pe_int fun _ _ => .int i
theorem e_bl {b : Bool} {j : Nat} : EV X (.Constant (.bool b) j pos) (fC (.bool b)) := e_of_c pe_bl fun _ _ => .bl b
theorem e_non {j : Nat} : EV X (.Constant .none j pos) (fC .none) := e_of_c pe_non fun _ _ => .non
theorem e_str {x : Str} {j : Nat} : EV X (.Constant (.str x) j pos) (fC (.str x)) := e_of_c pe_str fun _ _ => .str x
/-! arguments -/
def fNil : En → Rs (List R) := fun _ => .ok []
def fCons (f : FE) (g : En → Rs (List R)) : En → Rs (List R) := fun ρ => (f ρ).bind fun x => (g ρ).bind fun xs => .ok (x :: xs)
theorem a_nil : AV X [] fNil := ⟨pa_imp pa_nil fun σ H Q ⟨O, ρ, rs, I, hf, q⟩ => by cases hf; exact q [] H (Same.refl H) .nil, fun ρ rs h => by cases h; rfl⟩
theorem a_cons {g : En → Rs (List R)} (h : EV X e f) (t : AV X es g) (hs : starEach (e :: es) X.env = (false, eval e X.env) :: starEach es X.env := by rfl) : AV X (e :: es) (fCons f g) := by
  refine ⟨pa_imp (pa_cons h.run t.run hs) fun σ H Q ⟨O, ρ, rs, I, hf, q⟩ => ?_, fun ρ rs hf => by
    obtain ⟨x, e1, hf⟩ := Rs.bind_eq hf
    obtain ⟨xs, e2, hf⟩ := Rs.bind_eq hf
    cases hf
    exact congrArg (· + 1) (t.len ρ xs e2)⟩
  obtain ⟨x, e1, hf⟩ := Rs.bind_eq hf
  obtain ⟨xs, e2, hf⟩ := Rs.bind_eq hf
  cases hf
  refine ⟨O, ρ, x, I, e1, fun v H1 s1 r1 => ⟨O, ρ, xs, I.same s1, e2, fun vs H2 s2 r2 => q _ H2 (s1.trans s2) (.cons (r1.right s2) (r2.imp fun _ _ r => r.left s1))⟩⟩
/-! operations on values -/
mutual
/-- data that nobody can change: no list, no dict in it -/
def imm : D → Bool
  | .none => true
  | .bool _ => true
  | .int _ => true
  | .str _ => true
  | .tuple ds => imms ds
  | _ => false
def imms : List D → Bool
  | [] => true
  | d :: ds => imm d && imms ds
end
section
variable {K : PySem.W.Frag} {H : Hp} {O O' : List Addr}
mutual
theorem Rep.imm (hO : ∀ a ∈ O, Mut (H a)) : ∀ {d : D} {v : V}, Rep K H O' v d → imm d = true → Rep K H O v d
  | .none, _, .non, _ => .non
  | .bool _, _, .bl b, _ => .bl b
  | .int _, _, .int i, _ => .int i
  | .str _, _, .str x, _ => .str x
  | .tuple _, _, .tup h1 h2 hz h3, e => .tup h1 (fun z => by
      have m := hO _ z
      rcases h1 with h1 | ⟨o, h1⟩
      · rw [h1] at m; exact m
      · rw [h1] at m; exact m) hz (Reps.imm hO h3 (by unfold VL.imm at e; exact e))
  | .tuple _, _, .tupK h1 h3, e => .tupK h1 (Reps.imm hO h3 (by unfold VL.imm at e; exact e))
  | .list _, _, .lst _ _ _ _, e => by unfold VL.imm at e; cases e
  | .list _, _, .lstK _ _, e => by unfold VL.imm at e; cases e
  | .dict _, _, .dic _ _ _, e => by unfold VL.imm at e; cases e
  | .dict _, _, .dicX _ _ _, e => by unfold VL.imm at e; cases e
  | .dict _, _, .ins _ _ _ _, e => by unfold VL.imm at e; cases e
  | .dict _, _, .fn _, e => by unfold VL.imm at e; cases e
theorem Reps.imm (hO : ∀ a ∈ O, Mut (H a)) : ∀ {d : List D} {v : List V}, Reps K H O' v d → imms d = true → Reps K H O v d
  | _, _, .nil, _ => .nil
  | _, _, .cons h1 h2, e => by
    unfold VL.imms at e
    rw [Bool.and_eq_true] at e
    exact .cons (Rep.imm hO h1 e.1) (Reps.imm hO h2 e.2)
end
theorem KReps.imm (hO : ∀ a ∈ O, Mut (H a)) : ∀ {d : List (D × D)} {v : List (Key × V)}, KReps K H O' v d → imms (d.map (·.2)) = true → KReps K H O v d
  | _, _, .nil, _ => .nil
  | _, _, .cons h1 h2, e => by
    rw [List.map_cons] at e
    unfold VL.imms at e
    rw [Bool.and_eq_true] at e
    exact .cons (Rep.imm hO h1 e.1) (KReps.imm hO h2 e.2)
end
/-- a result that was got without looking at what is owned -/
def immR : R → Rs R
  | .fr d => .ok (if imm d then .fr d else .bt d)
  | .ol xs => if imms xs then .ok (.ol xs) else .bad
  | .od kvs => if imms (kvs.map (·.2)) then .ok (.od kvs) else .bad
  | .bw d => .ok (.bt d)
  | .bt d => .ok (.bt d)
  | .ot _ => .bad
theorem RR.immR {K : PySem.W.Frag} {O : List Addr} {H H' : Hp} {v : V} {r r' : R} (hO : ∀ a ∈ O, Mut (H a)) (s : Same H H') (h : RR K [] H H' v r) (e : immR r = .ok r') : RR K O H H' v r' := by
  have hO' : ∀ a ∈ O, Mut (H' a) := fun a z => by
    have m := hO a z
    cases q : H a with
    | none => rw [q] at m; exact m.elim
    | some o => rw [s a o q, ← q]; exact m
  cases r with
  | fr d =>
    have e : Rs.ok (if VL.imm d = true then R.fr d else R.bt d) = .ok r' := e
    split at e
    · rename_i hi
      cases e
      exact Rep.imm hO' h hi
    · cases e
      exact Rep.less h fun _ z => nomatch z
  | ol xs =>
    have e : (if imms xs = true then Rs.ok (R.ol xs) else .bad) = .ok r' := e
    split at e
    · rename_i hi
      cases e
      obtain ⟨p, vs, rfl, e2, e3, z, q⟩ := h
      refine ⟨p, vs, rfl, e2, e3, z, q.imm (fun a y => ?_) hi⟩
      rcases List.mem_cons.mp y with y | y
      · rw [y, e3]; trivial
      · exact hO' a y
    · cases e
  | od xs =>
    have e : (if imms (xs.map (·.2)) = true then Rs.ok (R.od xs) else .bad) = .ok r' := e
    split at e
    · rename_i hi
      cases e
      obtain ⟨p, vs, rfl, e2, e3, q⟩ := h
      refine ⟨p, vs, rfl, e2, e3, q.imm (fun a y => ?_) hi⟩
      rcases List.mem_cons.mp y with y | y
      · rw [y, e3]; trivial
      · exact hO' a y
    · cases e
  | bw d => cases e; exact Top.bare h
  | bt d => cases e; exact h
  | ot t => cases e
/-- the operation on two values is F on their data -/
def VOp (X : Cx) (f : Value → Value → Sem Value) (F : D → D → Rs R) : Prop :=
  OpR X f fun x y H Q => ∃ O d e r, Top X.K H O x d ∧ Top X.K H O y e ∧ F d e = .ok r ∧ ∀ v H', Same H H' → RR X.K O H H' v r → Q v H'
def opR (F : D → D → Rs R) (x y : R) : Rs R := if (x.isBt || y.isBt) = true then (F x.d y.d).bind immR else F x.d y.d
def fOp (F : D → D → Rs R) (fa fb : FE) : FE := fun ρ => (fa ρ).bind fun x => (fb ρ).bind fun y => opR F x y
theorem opR_top {K : PySem.W.Frag} {F : D → D → Rs R} {O : List Addr} {H H0 H1 : Hp} {v u : V} {x y r : R} (hg : Hg O H1) (r1 : RR K O H H1 v x) (r2 : RR K O H0 H1 u y) (hf : opR F x y = .ok r) :
    ∃ O' r', Top K H1 O' v x.d ∧ Top K H1 O' u y.d ∧ Hg O' H1 ∧ F x.d y.d = .ok r' ∧ ∀ v' H', Same H1 H' → RR K O' H1 H' v' r' → RR K O H1 H' v' r := by
  unfold opR at hf
  split at hf
  · obtain ⟨r', e3, e4⟩ := Rs.bind_eq hf
    exact ⟨[], r', .rep r1.bare, .rep r2.bare, hg.less (fun _ z => absurd z List.not_mem_nil), e3, fun v' H' s3 r3 => RR.immR hg.mu s3 r3 e4⟩
  · rename_i hb
    simp only [Bool.or_eq_true, not_or, Bool.not_eq_true] at hb
    exact ⟨O, r, r1.top hb.1, r2.top hb.2, hg, hf, fun _ _ _ r3 => r3⟩
/-- an operation's reading, the own objects known to stand -/
def rOpT (K : PySem.W.Frag) (F : D → D → Rs R) : R2 := fun x y H Q => ∃ O d e r, Top K H O x d ∧ Top K H O y e ∧ (∀ a ∈ O, H a ≠ none) ∧ F d e = .ok r ∧ ∀ v H', Same H H' → RR K O H H' v r → Q v H'
theorem two_t {F : D → D → Rs R} (ha : EV X a fa) (hb : EV X b fb) {σ : L2.St} {H : Hp} {Q : VK} (h : tE X.K (fOp F fa fb) σ H Q) :
    tE X.K fa σ H fun x H1 => tE X.K fb σ H1 fun y H2 => rOpT X.K F x y H2 Q := by
  obtain ⟨O, ρ, r, I, hf, q⟩ := h
  obtain ⟨x, e1, hf⟩ := Rs.bind_eq hf
  obtain ⟨y, e2, hf⟩ := Rs.bind_eq hf
  refine ⟨O, ρ, x, I, e1, fun v H1 s1 r1 => ⟨O, ρ, y, I.same s1, e2, fun u H2 s2 r2 => ?_⟩⟩
  have s12 := s1.trans s2
  unfold opR at hf
  split at hf
  · obtain ⟨r', e3, e4⟩ := Rs.bind_eq hf
    exact ⟨[], _, _, r', .rep (r1.right s2).bare, .rep r2.bare, (fun _ z => nomatch z), e3, fun v' H' s3 r3 => q v' H' (s12.trans s3) ((RR.immR (I.hg.same s12).mu s3 r3 e4).left s12)⟩
  · rename_i hb
    simp only [Bool.or_eq_true, not_or, Bool.not_eq_true] at hb
    exact ⟨O, _, _, r, (r1.right s2).top hb.1, r2.top hb.2, (I.hg.same s12).tr, hf, fun v' H' s3 r3 => q v' H' (s12.trans s3) (r3.left s12)⟩
/-- one operand -/
def opU (F : D → Rs R) (x : R) : Rs R := if x.isBt = true then (F x.d).bind immR else F x.d
theorem opU_top {K : PySem.W.Frag} {F : D → Rs R} {O : List Addr} {H H1 : Hp} {v : V} {x r : R} (hg : Hg O H1) (rr : RR K O H H1 v x) (hf : opU F x = .ok r) :
    ∃ O' r', Top K H1 O' v x.d ∧ Hg O' H1 ∧ F x.d = .ok r' ∧ ∀ v' H', Same H1 H' → RR K O' H1 H' v' r' → RR K O H1 H' v' r := by
  unfold opU at hf
  split at hf
  · obtain ⟨r', e3, e4⟩ := Rs.bind_eq hf
    exact ⟨[], r', .rep rr.bare, hg.less (fun _ z => absurd z List.not_mem_nil), e3, fun v' H' s3 r3 => RR.immR hg.mu s3 r3 e4⟩
  · rename_i hb
    exact ⟨O, r, rr.top (by simpa using hb), hg, hf, fun _ _ _ r3 => r3⟩
/-- a row of operands -/
def opL (F : List D → Rs R) (xs : List R) : Rs R := if xs.any R.isBt = true then (F (xs.map R.d)).bind immR else F (xs.map R.d)
theorem opL_top {K : PySem.W.Frag} {F : List D → Rs R} {O : List Addr} {H H1 : Hp} {vs : List V} {xs : List R} {r : R} (hg : Hg O H1) (rr : All2 (RR K O H H1) vs xs) (hf : opL F xs = .ok r) :
    ∃ O' r', All2 (Top K H1 O') vs (xs.map R.d) ∧ Hg O' H1 ∧ F (xs.map R.d) = .ok r' ∧ ∀ v' H', Same H1 H' → RR K O' H1 H' v' r' → RR K O H1 H' v' r := by
  have bare : ∀ {vs : List V} {xs : List R}, All2 (RR K O H H1) vs xs → All2 (Top K H1 []) vs (xs.map R.d) := fun {vs xs} h => by
    induction h with
    | nil => exact .nil
    | cons r _ ih => exact .cons (.rep r.bare) ih
  have top : ∀ {vs : List V} {xs : List R}, All2 (RR K O H H1) vs xs → xs.any R.isBt = false → All2 (Top K H1 O) vs (xs.map R.d) := fun {vs xs} h => by
    induction h with
    | nil => exact fun _ => .nil
    | cons r _ ih =>
      intro e
      rw [List.any_cons, Bool.or_eq_false_iff] at e
      exact .cons (r.top e.1) (ih e.2)
  unfold opL at hf
  split at hf
  · obtain ⟨r', e3, e4⟩ := Rs.bind_eq hf
    exact ⟨[], r', bare rr, hg.less (fun _ z => absurd z List.not_mem_nil), e3, fun v' H' s3 r3 => RR.immR hg.mu s3 r3 e4⟩
  · rename_i hb
    exact ⟨O, r, top rr (by simpa using hb), hg, hf, fun _ _ _ r3 => r3⟩
theorem two {F : D → D → Rs R} (ha : EV X a fa) (hb : EV X b fb) {σ : L2.St} {H : Hp} {Q : VK} (h : tE X.K (fOp F fa fb) σ H Q) :
    tE X.K fa σ H fun x H1 => tE X.K fb σ H1 fun y H2 => ∃ O d e r, Top X.K H2 O x d ∧ Top X.K H2 O y e ∧ F d e = .ok r ∧ ∀ v H', Same H2 H' → RR X.K O H2 H' v r → Q v H' := by
  obtain ⟨O, ρ, r, I, e1, q⟩ := two_t ha hb h
  refine ⟨O, ρ, r, I, e1, fun v H1 s1 r1 => ?_⟩
  obtain ⟨O2, ρ2, r2, I2, e2, q2⟩ := q v H1 s1 r1
  refine ⟨O2, ρ2, r2, I2, e2, fun u H2 s2 rr => ?_⟩
  obtain ⟨O3, d, e, r3, h1, h2, _, h4, h5⟩ := q2 u H2 s2 rr
  exact ⟨O3, d, e, r3, h1, h2, h4, h5⟩
theorem e_op {op : Operator} {F : D → D → Rs R} (ho : VOp X (binaryOp op) F) (ha : EV X a fa) (hb : EV X b fb) : EV X (.BinOp a op b pos) (fOp F fa fb) :=
  ⟨pe_imp (pe_op ho ha.run hb.run) fun σ H Q h => two ha hb h⟩
theorem e_cmp {op : CmpOp} {F : D → D → Rs R} (ho : VOp X (compareOp op) F) (ha : EV X a fa) (hb : EV X b fb) (hm : behindInMarks op b = false := by first | exact nomark _ | rfl) : EV X (.Compare a [op] [b] pos) (fOp F fa fb) :=
  ⟨pe_imp (pe_cmpR ho ha.run hb.run hm) fun σ H Q h => two ha hb h⟩
/-- a value as a test -/
def toB : R → Rs Bool
  | .fr (.bool b) => .ok b
  | _ => .bad
def fB (f : FE) : En → Rs Bool := fun ρ => (f ρ).bind toB
theorem toB_eq {r : R} {b : Bool} (h : toB r = .ok b) : r = .fr (.bool b) := by
  unfold toB at h
  split at h
  · cases h; rfl
  · cases h
theorem t_cmp {op : CmpOp} {F : D → D → Rs R} (ho : VOp X (compareOp op) F) (ha : EV X a fa) (hb : EV X b fb) (hm : behindInMarks op b = false := by first | exact nomark _ | rfl) : TV X (.Compare a [op] [b] pos) (fB (fOp F fa fb)) := by
  refine ⟨pt_imp (pt_cmpR ho ha.run hb.run hm) fun σ H Q ⟨O, ρ, k, I, hf, q⟩ => ?_⟩
  obtain ⟨r, e1, e2⟩ := Rs.bind_eq hf
  cases toB_eq e2
  refine two ha hb ⟨O, ρ, _, I, e1, fun v H' s r => ?_⟩
  cases (show Rep X.K H' O v (.bool k) from r)
  exact ⟨k, rfl, q H' s⟩
end
end VL
namespace VL
open PySem PySem.Spec
open PyProof.Rows L2
variable [Vx]
/-! ### statements -/
/-- a statement's outcome -/
inductive So where
  | nx (ρ : En) | rt (r : R) (ρ : En) | bk (ρ : En) | ct (ρ : En) | ex (e : Exn) (ρ : En) | bad
abbrev FS := En → So
/-- the contexts' own objects -/
def Og.ctx (O : Og) : List Addr := O.O.filter fun a => decide (a ∉ O.own)
theorem mem_ctx {O : Og} {a : Addr} : a ∈ O.ctx ↔ a ∈ O.O ∧ a ∉ O.own := by simp [Og.ctx]
/-- from one state to a later one -/
structure Evo (O : Og) (H : Hp) (O' : Og) (H' : Hp) : Prop where
  same : ∀ a o, H a = some o → a ∉ O.own → H' a = some o
  keep : ∀ a ∈ O.O, a ∉ O.own → a ∈ O'.O
  new : ∀ a ∈ O'.own, a ∈ O.own ∨ H a = none
  newO : ∀ a ∈ O'.O, a ∈ O.O ∨ H a = none
  pi : O'.γ.map Gh.pi = O.γ.map Gh.pi
section
variable {K : PySem.W.Frag} {H H1 H2 : Hp} {O O1 O2 : Og} {σ σ1 σ2 : L2.St} {ρ ρ1 ρ2 : En}
theorem Evo.refl : Evo O H O H := ⟨fun _ _ e _ => e, fun _ e _ => e, fun _ e => .inl e, fun _ e => .inl e, rfl⟩
theorem Evo.back (E : Evo O H O1 H1) {a : Addr} (h : H1 a = none) : a ∈ O.own ∨ H a = none := by
  cases q : H a with
  | none => exact .inr rfl
  | some o =>
    by_cases z : a ∈ O.own
    · exact .inl z
    · rw [E.same a o q z] at h; cases h
theorem Evo.out (E : Evo O H O1 H1) {a : Addr} (h : a ∉ O.own) (t : H a ≠ none) : a ∉ O1.own := fun z => (E.new a z).elim h t
theorem Evo.trans (I : ER K O H σ ρ) (E : Evo O H O1 H1) (F : Evo O1 H1 O2 H2) : Evo O H O2 H2 where
  same := fun a o e n => F.same a o (E.same a o e n) (E.out n (by rw [e]; exact fun z => nomatch z))
  keep := fun a e n => F.keep a (E.keep a e n) (E.out n (I.tr a e))
  new := fun a e => (F.new a e).elim (fun z => E.new a z) fun z => E.back z
  newO := fun a e => (F.newO a e).elim (fun z => E.newO a z) fun z => (E.back z).imp (I.sub a) fun z => z
  pi := F.pi.trans E.pi
theorem ER.same_evo (h : Same H H1) : Evo O H O H1 := ⟨fun a o e _ => h a o e, fun _ e _ => e, fun _ e => .inl e, fun _ e => .inl e, rfl⟩
/-- a returned value: in O' what is owned behind the return -/
def RT (K : PySem.W.Frag) (O O' : Og) (H H' : Hp) (v : V) : R → Prop
  | .fr d => Rep K H' O'.O v d
  | .ol xs => ∃ p vs, v = .ref p ∧ (p ∈ O.own ∨ H p = none) ∧ p ∉ O'.O ∧ H' p = some (.lst vs) ∧ vs.length ≤ sizeLine ∧ Reps K H' (p :: O'.O) vs xs
  | .od xs => ∃ p vs, v = .ref p ∧ (p ∈ O.own ∨ H p = none) ∧ p ∉ O'.O ∧ H' p = some (.dK vs) ∧ KReps K H' (p :: O'.O) vs xs
  | .ot t => ∃ A, Tr K H' (A ++ O'.O) v t A ∧ A.Nodup ∧ ∀ a ∈ A, (a ∈ O.own ∨ H a = none) ∧ a ∉ O'.O
  | .bw _ => False
  | .bt _ => False
theorem Evo.ctx (I : ER K O H σ ρ) (E : Evo O H O1 H1) : ∀ a ∈ O.ctx, a ∈ O1.ctx := fun a h => by
  obtain ⟨h1, h2⟩ := mem_ctx.mp h
  exact mem_ctx.mpr ⟨E.keep a h1 h2, E.out h2 (I.tr a h1)⟩
theorem cons_less {O O1 : List Addr} {p : Addr} (s : ∀ a ∈ O1, a ∈ O) : ∀ a ∈ p :: O1, a ∈ p :: O := fun a h => (List.mem_cons.mp h).elim (fun e => e ▸ List.mem_cons_self) fun z => List.mem_cons_of_mem _ (s a z)
theorem RT.back (I : ER K O H σ ρ) (E : Evo O H O1 H1) {v : V} {r : R} (h : RT K O1 O2 H1 H2 v r) : RT K O O2 H H2 v r := by
  cases r with
  | fr d => exact h
  | ol xs =>
    obtain ⟨p, vs, e1, e2, e3, z, q⟩ := h
    exact ⟨p, vs, e1, e2.elim (fun z => E.new p z) fun z => E.back z, e3, z, q⟩
  | od xs =>
    obtain ⟨p, vs, e1, e2, e3, q⟩ := h
    exact ⟨p, vs, e1, e2.elim (fun z => E.new p z) fun z => E.back z, e3, q⟩
  | ot t =>
    obtain ⟨A, h1, h2, h3⟩ := h
    exact ⟨A, h1, h2, fun a z => ⟨(h3 a z).1.elim (fun z => E.new a z) fun z => E.back z, (h3 a z).2⟩⟩
  | bw d => exact h
  | bt d => exact h
/-- the exception in the air tells e -/
def ExcIs (K : PySem.W.Frag) (H : Hp) (cls : Value) (d : Option Addr) (e : Exn) : Prop := ∃ C, cls = .ref C ∧ FnAt K C e.cls ∧ (e.args = [] ∨ ∃ dx fs, d = some dx ∧ H dx = some (.dK fs) ∧ KReps K H [] fs (e.args.zipIdx.map fun p => (.int p.2, p.1)))
/-- what is wanted behind a statement of this outcome -/
def Post (K : PySem.W.Frag) (W : WX) (O : Og) (H : Hp) (D : Ends) : So → Prop
  | .nx ρ' => ∀ O' H' σ', ER K O' H' σ' ρ' → Evo O H O' H' → D.nx σ' H'
  | .bk ρ' => ∀ O' H' σ', ER K O' H' σ' ρ' → Evo O H O' H' → D.bk σ' H'
  | .ct ρ' => ∀ O' H' σ', ER K O' H' σ' ρ' → Evo O H O' H' → D.ct σ' H'
  | .rt r ρ' => ∀ v O' H' σ', ER K O' H' σ' ρ' → Evo O H O' H' → RT K O O' H H' v r → D.rt v H'
  | .ex e ρ' => ∀ O' H' σ' cls d, ER K O' H' σ' ρ' → Evo O H O' H' → ExcIs K H' cls d e → W cls d σ' H'
  | .bad => False
theorem Post.next {W : WX} (I : ER K O H σ ρ) (E : Evo O H O1 H1) {D : Ends} {o : So} (h : Post K W O H D o) : Post K W O1 H1 D o := by
  cases o with
  | nx ρ' => exact fun O' H' σ' J F => h O' H' σ' J (E.trans I F)
  | bk ρ' => exact fun O' H' σ' J F => h O' H' σ' J (E.trans I F)
  | ct ρ' => exact fun O' H' σ' J F => h O' H' σ' J (E.trans I F)
  | rt r ρ' => exact fun v O' H' σ' J F q => h v O' H' σ' J (E.trans I F) (q.back I E)
  | ex e ρ' => exact fun O' H' σ' cls d J F x => h O' H' σ' cls d J (E.trans I F) x
  | bad => exact h
end
/-- the reading of a statement that is g -/
def tS (K : PySem.W.Frag) (W : WX) (g : FS) : TS := fun D σ H => ∃ (O : Og) (ρ : En), ER K O H σ ρ ∧ Post K W O H D (g ρ)
structure SV (X : Cx) (W : WX) (st : Stmt) (g : FS) : Prop where
  run : PS X st (tS X.K W g)
structure BV (X : Cx) (W : WX) (st : List Stmt) (g : FS) : Prop where
  run : PSs X st (tS X.K W g)
theorem ps_imp {X : Cx} {e : Stmt} {t u : TS} (h : PS X e t) (i : ∀ D σ H, u D σ H → t D σ H) : PS X e u := ⟨fun pins s σ H D I q => h.run pins s σ H D I (i D σ H q)⟩
theorem pss_imp {X : Cx} {e : List Stmt} {t u : TS} (h : PSs X e t) (i : ∀ D σ H, u D σ H → t D σ H) : PSs X e u := ⟨fun pins s σ H D I q => h.run pins s σ H D I (i D σ H q)⟩
section
variable {X : Cx} {st : Stmt} {sts : List Stmt} {W : WX} {g g1 g2 : FS} {e c : Expr} {f : FE} {pos : Pos}
def gNext : FS := fun ρ => .nx ρ
def So.bind (o : So) (g : FS) : So := match o with
  | .nx ρ => g ρ
  | o => o
@[simp] theorem So.bind_nx (ρ : En) (g : FS) : (So.nx ρ).bind g = g ρ := rfl
@[simp] theorem So.bind_rt (r : R) (ρ : En) (g : FS) : (So.rt r ρ).bind g = .rt r ρ := rfl
@[simp] theorem So.bind_bk (ρ : En) (g : FS) : (So.bk ρ).bind g = .bk ρ := rfl
@[simp] theorem So.bind_ct (ρ : En) (g : FS) : (So.ct ρ).bind g = .ct ρ := rfl
@[simp] theorem So.bind_ex (e : Exn) (ρ : En) (g : FS) : (So.ex e ρ).bind g = .ex e ρ := rfl
@[simp] theorem So.bind_bad (g : FS) : So.bad.bind g = .bad := rfl
def gSeq (g1 g2 : FS) : FS := fun ρ => (g1 ρ).bind g2
theorem b_nil : BV X W [] gNext := ⟨pss_imp pss_nil fun D σ H ⟨O, ρ, I, q⟩ => q O H σ I .refl⟩
theorem b_cons (h1 : SV X W st g1) (h2 : BV X W sts g2) : BV X W (st :: sts) (gSeq g1 g2) := by
  refine ⟨pss_imp (pss_cons h1.run h2.run) fun D σ H ⟨O, ρ, I, q⟩ => ?_⟩
  refine ⟨O, ρ, I, ?_⟩
  unfold gSeq at q
  cases e : g1 ρ with
  | nx ρ1 =>
    rw [e] at q
    exact fun O1 H1 σ1 J E => ⟨O1, ρ1, J, q.next I E⟩
  | rt r ρ' => rw [e] at q; exact q
  | bk r => rw [e] at q; exact q
  | ct r => rw [e] at q; exact q
  | ex r => rw [e] at q; exact q
  | bad => rw [e] at q; exact q
theorem b_one (h1 : SV X W st g1) : BV X W [st] g1 := ⟨pss_one h1.run⟩
theorem s_pass : SV X W (.Pass pos) gNext := ⟨ps_imp ps_pass fun D σ H ⟨O, ρ, I, q⟩ => q O H σ I .refl⟩
def gCont : FS := fun ρ => .ct ρ
def gBreak : FS := fun ρ => .bk ρ
theorem s_continue : SV X W (.Continue pos) gCont := ⟨ps_imp ps_continue fun D σ H ⟨O, ρ, I, q⟩ => q O H σ I .refl⟩
theorem s_break : SV X W (.Break pos) gBreak := ⟨ps_imp ps_break fun D σ H ⟨O, ρ, I, q⟩ => q O H σ I .refl⟩
/-! an if -/
def gIf (t : En → Rs Bool) (g1 g2 : FS) : FS := fun ρ => match t ρ with
  | .ok true => g1 ρ
  | .ok false => g2 ρ
  | .ex _ => .bad
  | .bad => .bad
theorem s_if {t : En → Rs Bool} {a b : List Stmt} (hc : TV X c t) (h1 : BV X W a g1) (h2 : BV X W b g2) : SV X W (.If c a b pos) (gIf t g1 g2) := by
  refine ⟨ps_imp (ps_if hc.run h1.run h2.run) fun D σ H ⟨O, ρ, I, q⟩ => ?_⟩
  unfold gIf at q
  split at q
  · rename_i e
    exact ⟨O, ρ, true, I, e, fun H1 s => ⟨O, ρ, I.same s, q.next I (ER.same_evo s)⟩⟩
  · rename_i e
    exact ⟨O, ρ, false, I, e, fun H1 s => ⟨O, ρ, I.same s, q.next I (ER.same_evo s)⟩⟩
  · exact q.elim
  · exact q.elim
/-! return -/
def gRet (f : FE) : FS := fun ρ => match f ρ with
  | .ok (.bw _) => .bad
  | .ok (.bt _) => .bad
  | .ok r => .rt r ρ
  | .ex _ => .bad
  | .bad => .bad
theorem RR.rt {K : PySem.W.Frag} {O : Og} {H H' : Hp} {σ : L2.St} {ρ : En} (I : ER K O H σ ρ) {v : V} {r : R} (h : RR K O H H' v r) (n : ∀ d, r ≠ .bw d) (m : ∀ d, r ≠ .bt d) : RT K O O H H' v r := by
  cases r with
  | fr d => exact h
  | ol xs =>
    obtain ⟨p, vs, e1, e2, e3, z, q⟩ := h
    exact ⟨p, vs, e1, .inr e2, (fun y => I.tr p y e2), e3, z, q⟩
  | od xs =>
    obtain ⟨p, vs, e1, e2, e3, q⟩ := h
    exact ⟨p, vs, e1, .inr e2, (fun y => I.tr p y e2), e3, q⟩
  | ot t =>
    obtain ⟨A, h1, h2, h3⟩ := h
    exact ⟨A, h1, h2, fun a z => ⟨.inr (h3 a z), fun y => I.tr a y (h3 a z)⟩⟩
  | bw d => exact absurd rfl (n d)
  | bt d => exact absurd rfl (m d)
theorem s_ret (h : EV X e f) : SV X W (.Return (some e) pos) (gRet f) := by
  refine ⟨ps_imp (ps_ret h.run) fun D σ H ⟨O, ρ, I, q⟩ => ?_⟩
  unfold gRet at q
  split at q
  · exact q.elim
  · exact q.elim
  · rename_i r n m e
    exact ⟨O, ρ, r, I, e, fun v H' s rr => q v O H' σ (I.same s) (ER.same_evo s) (RR.rt I rr (fun d z => n d z) fun d z => m d z)⟩
  · exact q.elim
  · exact q.elim
end
/-! ### a name is stored -/
theorem own_split : ∀ {γ : List Gh} (i : Nat), i < γ.length → ∃ A B : List Addr, ∃ g, γ[i]? = some g ∧ ownG γ = A ++ (g.A ++ B) ∧ ∀ g', ownG (γ.set i g') = A ++ (g'.A ++ B)
  | [], _, h => absurd h (Nat.not_lt_zero _)
  | g :: γ, 0, _ => ⟨[], ownG γ, g, rfl, rfl, fun _ => rfl⟩
  | g :: γ, i + 1, h => by
    obtain ⟨A, B, g0, e1, e3, e4⟩ := own_split (γ := γ) i (Nat.lt_of_succ_lt_succ h)
    refine ⟨g.A ++ A, B, g0, by simpa using e1, ?_, fun g' => ?_⟩
    · show g.A ++ ownG γ = _
      rw [e3, List.append_assoc]
    · show g.A ++ ownG (γ.set i g') = _
      rw [e4, List.append_assoc]
theorem map_pi_set : ∀ {γ : List Gh} {i : Nat} {g : Gh} {A : List Addr}, γ[i]? = some g → (γ.set i ⟨A, g.pi⟩).map Gh.pi = γ.map Gh.pi
  | [], _, _, _, h => by simp at h
  | g :: γ, 0, _, _, h => by simp at h; subst h; rfl
  | g :: γ, i + 1, _, _, h => by
    show g.pi :: ((γ.set i _).map Gh.pi) = g.pi :: γ.map Gh.pi
    rw [map_pi_set (by simpa using h)]
/-- a slot for a result -/
def slot : R → Sl
  | .fr d => .fr d
  | .ol xs => .ol xs
  | .od xs => .od xs
  | .ot t => .ot t
  | .bw _ => .un
  | .bt _ => .un
section
variable {K : PySem.W.Frag} {H H1 : Hp} {O : Og} {σ : L2.St} {ρ : En}
theorem nd_mid {A m B : List Addr} (h : (A ++ (m ++ B)).Nodup) : (A ++ B).Nodup := h.sublist (List.Sublist.append (List.Sublist.refl A) (List.sublist_append_right m B))
theorem perm_mid {A m B : List Addr} : (A ++ (m ++ B)).Perm (m ++ (A ++ B)) := by
  rw [← List.append_assoc, ← List.append_assoc]
  exact List.perm_append_comm.append_right B
theorem nd_ins {A m B : List Addr} (h : (A ++ B).Nodup) (hm : m.Nodup) (n : ∀ p ∈ m, p ∉ A ++ B) : (A ++ (m ++ B)).Nodup :=
  perm_mid.nodup_iff.mpr (List.nodup_append.mpr ⟨hm, h, fun a ha b hb e => n a ha (e ▸ hb)⟩)
theorem mem_mid {A m B : List Addr} {a : Addr} (h : a ∈ A ++ B) : a ∈ A ++ (m ++ B) := by
  simp only [List.mem_append] at h ⊢
  exact h.imp id .inr
theorem mem_mid_iff {A m B : List Addr} {a : Addr} : a ∈ A ++ (m ++ B) ↔ a ∈ m ∨ a ∈ A ++ B := by
  simp only [List.mem_append]
  constructor
  · rintro (h | h | h)
    · exact .inr (.inl h)
    · exact .inl h
    · exact .inr (.inr h)
  · rintro (h | h | h)
    · exact .inr (.inl h)
    · exact .inl h
    · exact .inr (.inr h)
theorem SR.move {O O' : List Addr} (k : Kp O H H1) (n : ∀ a ∈ O', a ∈ O ∨ H a = none) {g : Gh} {ov : Option V} {s : Sl} (m : ∀ a ∈ g.A, H1 a = H a) (r : SR K H O g ov s) : SR K H1 O' g ov s := by
  cases s with
  | un => exact r
  | fr d => obtain ⟨⟨v, e, q⟩, z⟩ := r; exact ⟨⟨v, e, q.evR k n⟩, z⟩
  | ol xs => obtain ⟨a, vs, e, q, w, z, y⟩ := r; exact ⟨a, vs, e, (m a (by rw [y]; exact List.mem_singleton_self a)).trans q, w, z.evR k n, y⟩
  | od xs => obtain ⟨a, vs, e, q, z, y⟩ := r; exact ⟨a, vs, e, (m a (by rw [y]; exact List.mem_singleton_self a)).trans q, z.evR k n, y⟩
  | ot t => obtain ⟨v, e, q⟩ := r; exact ⟨v, e, q.evR k n m⟩
  | pt t => obtain ⟨v, e, q, z⟩ := r; exact ⟨v, e, q.evR k n m, z⟩
/-- a slot's own objects stand -/
theorem SR.foot {O : List Addr} {g : Gh} {ov : Option V} {s : Sl} (r : SR K H O g ov s) : ∀ a ∈ g.A, Mut (H a) := fun b hb => by
  cases s with
  | un => rw [show g.A = [] from r] at hb; cases hb
  | fr d => rw [r.2] at hb; cases hb
  | ol xs => obtain ⟨a, vs, e, q, w, z, y⟩ := r; rw [y] at hb; rw [List.mem_singleton.mp hb, q]; trivial
  | od xs => obtain ⟨a, vs, e, q, z, y⟩ := r; rw [y] at hb; rw [List.mem_singleton.mp hb, q]; trivial
  | ot t => obtain ⟨v, e, q⟩ := r; exact q.foot b hb
  | pt t => obtain ⟨v, e, q, _⟩ := r; exact q.foot b hb
theorem same_at {b : Addr} (s : Same H H1) (h : H b ≠ none) : H1 b = H b := by
  cases e : H b with
  | none => exact absurd e h
  | some o => exact s b o e
theorem SR.less {O O1 : List Addr} (s : ∀ a ∈ O1, a ∈ O) {g : Gh} {ov : Option V} {sl : Sl} (r : SR K H O g ov sl) : SR K H O1 g ov sl :=
  r.move (.of fun _ _ e _ => e) (fun a h => .inl (s a h)) fun _ _ => rfl
theorem SR.more {O A : List Addr} {g : Gh} {ov : Option V} {s : Sl} (s1 : Same H1 H) (h1 : ∀ a ∈ A, H1 a = none) (r : SR K H1 O g ov s) : SR K H (A ++ O) g ov s :=
  r.move (.of fun a o e _ => s1 a o e) (fun a h => (List.mem_append.mp h).elim (fun e => .inr (h1 a e)) .inl) fun a h => same_at s1 (mut_has (r.foot a h))
/-- a new object that is none of the names' -/
theorem ER.guard (I : ER K O H σ ρ) (s : Same H H1) {p : Addr} (e2 : H p = none) (mu : Mut (H1 p)) : ER K ⟨p :: O.O, O.γ⟩ H1 σ ρ :=
  ⟨I.at_.imp fun g ov s' q => SR.more (A := [p]) s (fun a z => by rw [List.mem_singleton.mp z]; exact e2) q, I.nd, fun a h => List.mem_cons_of_mem _ (I.sub a h),
    ⟨fun a h => (List.mem_cons.mp h).elim (fun e => by rw [e]; exact mu) ((I.hg.same s).mu a), fun P z => ⟨((I.hg.same s).tb P z).1, fun h => (List.mem_cons.mp h).elim (fun e => by have := (I.hg.tb P z).1; rw [e, e2] at this; cases this) (I.hg.tb P z).2⟩⟩⟩
theorem set_off {α : Type} {l : List α} {i : Nat} {x : α} (h : ¬ i < l.length) : l.set i x = l := List.set_eq_of_length_le (by omega)
/-- a slot is given something else: its own objects leave; A: what is new in its place -/
theorem ER.storeA (I : ER K O H σ ρ) (s : Same H H1) {A : List Addr} {v : Option V} {sl : Sl} (e2 : ∀ a ∈ A, H a = none) (hA : A.Nodup) (hr : ∀ π, SR K H1 (A ++ O.O) ⟨A, π⟩ v sl) (i : Nat) :
    ∃ O' : Og, ER K O' H1 (σ.set i v) (ρ.set i sl) ∧ Evo O H O' H1 ∧ O'.O = A ++ O.O := by
  have Is := I.same s
  have hp : ∀ a ∈ A, a ∉ O.O := fun a h z => I.tr a z (e2 a h)
  have hg : Hg (A ++ O.O) H1 := ⟨fun a h => (List.mem_append.mp h).elim (fun z => (hr none).foot a z) fun z => Is.hg.mu a z, fun P z => ⟨(Is.hg.tb P z).1, fun h => (List.mem_append.mp h).elim (fun y => by have := (I.hg.tb P z).1; rw [e2 P y] at this; cases this) (Is.hg.tb P z).2⟩⟩
  have I2 : All3 (SR K H1 (A ++ O.O)) O.γ σ ρ := I.at_.imp fun g ov s' q => SR.more s e2 q
  have newO : ∀ a ∈ A ++ O.O, a ∈ O.O ∨ H a = none := fun a h => (List.mem_append.mp h).elim (fun z => .inr (e2 a z)) .inl
  by_cases hi : i < O.γ.length
  · obtain ⟨L, B, g, f1, f3, f4⟩ := own_split (γ := O.γ) i hi
    have f5 : (⟨A ++ O.O, O.γ.set i ⟨A, g.pi⟩⟩ : Og).own = L ++ (A ++ B) := f4 ⟨A, g.pi⟩
    have hm : ∀ a ∈ (⟨A ++ O.O, O.γ.set i ⟨A, g.pi⟩⟩ : Og).own, a ∈ O.own ∨ a ∈ A := fun a h => by
      rw [f5] at h
      show a ∈ ownG O.γ ∨ a ∈ A
      rw [f3]
      exact (mem_mid_iff.mp h).elim .inr fun z => .inl (mem_mid z)
    have nd := I.nd
    unfold Og.own at nd
    rw [f3] at nd
    refine ⟨⟨A ++ O.O, O.γ.set i ⟨A, g.pi⟩⟩, ⟨I2.set (hr g.pi) i, ?_, fun a h => ?_, hg⟩, ⟨fun a o e _ => s a o e, fun a h _ => List.mem_append_right _ h, fun a h => (hm a h).imp id (e2 a), newO, map_pi_set f1⟩, rfl⟩
    · rw [f5]
      refine nd_ins (nd_mid nd) hA fun p z y => hp p z (I.sub p ?_)
      show p ∈ ownG O.γ
      rw [f3]
      exact mem_mid y
    · exact (hm a h).elim (fun z => List.mem_append_right _ (I.sub a z)) fun z => List.mem_append_left _ z
  · have := I.len
    have := I.lenG
    rw [set_off (l := σ) (by omega), set_off (l := ρ) (by omega)]
    exact ⟨⟨A ++ O.O, O.γ⟩, ⟨I2, I.nd, fun a h => List.mem_append_right _ (I.sub a h), hg⟩, ⟨fun a o e _ => s a o e, fun a h _ => List.mem_append_right _ h, fun a h => .inl h, newO, rfl⟩, rfl⟩
/-- data put at a name -/
theorem ER.put (I : ER K O H σ ρ) {v : V} {d : D} (r : Rep K H O v d) (i : Nat) : ∃ O' : Og, ER K O' H (σ.set i (some v)) (ρ.set i (.fr d)) ∧ Evo O H O' H ∧ O'.O = O.O := by
  obtain ⟨O', J, E, e⟩ := I.storeA (Same.refl H) (A := []) (v := some v) (sl := .fr d) (fun a h => absurd h List.not_mem_nil) List.nodup_nil (fun π => ⟨⟨v, rfl, by rw [List.nil_append]; exact r⟩, rfl⟩) i
  exact ⟨O', J, E, by rw [e, List.nil_append]⟩
theorem ER.putFz (I : ER K O H σ ρ) (s : Same H H1) {v : V} {d : D} (h : Rep K H1 O v d) (i : Nat) : ∃ O' : Og, ER K O' H1 (σ.set i (some v)) (ρ.set i (.fr d)) ∧ Evo O H O' H1 := by
  obtain ⟨O', J, E, _⟩ := (I.same s).put h i
  exact ⟨O', J, (ER.same_evo s).trans I E⟩
/-- a result put at a name -/
theorem ER.store (I : ER K O H σ ρ) (s : Same H H1) {v : V} {r : R} (h : RR K O H H1 v r) (n : ∀ d, r ≠ .bw d) (m : ∀ d, r ≠ .bt d) (i : Nat) :
    ∃ O' : Og, ER K O' H1 (σ.set i (some v)) (ρ.set i (slot r)) ∧ Evo O H O' H1 := by
  cases r with
  | fr d => exact I.putFz s (show Rep K H1 O v d from h) i
  | ol xs =>
    obtain ⟨p, vs, rfl, e2, e3, z, q⟩ := h
    obtain ⟨O', J, E, _⟩ := I.storeA (A := [p]) (v := some (.ref p)) (sl := .ol xs) s (fun a y => by rw [List.mem_singleton.mp y]; exact e2) (List.nodup_cons.mpr ⟨List.not_mem_nil, List.nodup_nil⟩) (fun π => ⟨p, vs, rfl, e3, z, q, rfl⟩) i
    exact ⟨O', J, E⟩
  | od xs =>
    obtain ⟨p, vs, rfl, e2, e3, q⟩ := h
    obtain ⟨O', J, E, _⟩ := I.storeA (A := [p]) (v := some (.ref p)) (sl := .od xs) s (fun a y => by rw [List.mem_singleton.mp y]; exact e2) (List.nodup_cons.mpr ⟨List.not_mem_nil, List.nodup_nil⟩) (fun π => ⟨p, vs, rfl, e3, q, rfl⟩) i
    exact ⟨O', J, E⟩
  | ot t =>
    obtain ⟨A, h1, h2, h3⟩ := h
    obtain ⟨O', J, E, _⟩ := I.storeA (A := A) (v := some v) (sl := .ot t) s h3 h2 (fun π => ⟨v, rfl, h1⟩) i
    exact ⟨O', J, E⟩
  | bw d => exact absurd rfl (n d)
  | bt d => exact absurd rfl (m d)
end
section
variable {X : Cx} {W : WX} {e : Expr} {f : FE} {pos : Pos}
/-- x = e, what is new is x's own -/
def gOwn (i : Nat) (f : FE) : FS := fun ρ => match f ρ with
  | .ok (.bw _) => .bad
  | .ok (.bt _) => .bad
  | .ok r => .nx (ρ.set i (slot r))
  | .ex _ => .bad
  | .bad => .bad
theorem s_own (i : Nat) {x : Str} {p2 : Pos} (hN : X.N.Nodup) (h : EV X e f) (hi : X.N[i]? = some x := by rfl) (hx : Loc X.env.scope x := by first | exact Or.inl rfl | exact Or.inr rfl) (hs : swapsWith e (some (.Name x p2)) pos.line X.env = pure false := by rfl)
    (hf : X.fn x = true ∨ X.env.scope.names.lookup x = some .local := by first | exact .inl rfl | exact .inr rfl | assumption) : SV X W (.Assign [.Name x p2] e pos) (gOwn i f) := by
  refine ⟨ps_imp (ps_set hN hi hx h.run hs hf) fun D σ H ⟨O, ρ, I, q⟩ => ?_⟩
  unfold gOwn at q
  split at q
  · exact q.elim
  · exact q.elim
  · rename_i r n m e
    refine ⟨O, ρ, r, I, e, fun v H1 s rr => ?_⟩
    obtain ⟨O', J, E⟩ := I.store s rr (fun d z => n d z) (fun d z => m d z) i
    exact q O' H1 _ J E
  · exact q.elim
  · exact q.elim
/-- x = e, a tree from then on -/
def toT : R → Option T
  | .ol xs => some (.ol (xs.map .fz))
  | .od kvs => some (.od (kvs.map fun p => (p.1, .fz p.2)))
  | .ot t => some t
  | _ => none
theorem trs_fz {K : PySem.W.Frag} {H : Hp} {O : List Addr} : ∀ {vs : List V} {ds : List D}, Reps K H O vs ds → Trs K H O vs (ds.map .fz) []
  | _, _, .nil => .nil
  | _, _, .cons r t => .cons (A := []) (B := []) (.fz r) (trs_fz t)
theorem ktrs_fz {K : PySem.W.Frag} {H : Hp} {O : List Addr} : ∀ {vs : List (Key × V)} {ds : List (D × D)}, KReps K H O vs ds → KTrs K H O vs (ds.map fun p => (p.1, .fz p.2)) []
  | _, _, .nil => .nil
  | _, _, .cons r t => .cons (A := []) (B := []) (.fz r) (ktrs_fz t)
theorem RR.toT {K : PySem.W.Frag} {O : List Addr} {H H1 : Hp} {v : V} {r : R} {t : T} (h : RR K O H H1 v r) (e : VL.toT r = some t) : RR K O H H1 v (.ot t) := by
  cases r with
  | fr d => cases e
  | bw d => cases e
  | bt d => cases e
  | ot t' => cases e; exact h
  | ol xs =>
    cases e
    obtain ⟨p, vs, rfl, e2, e3, z, q⟩ := h
    exact ⟨[p], .ol e3 z (trs_fz q), List.nodup_cons.mpr ⟨List.not_mem_nil, List.nodup_nil⟩, fun a y => by rw [List.mem_singleton.mp y]; exact e2⟩
  | od xs =>
    cases e
    obtain ⟨p, vs, rfl, e2, e3, q⟩ := h
    exact ⟨[p], .od e3 (ktrs_fz q), List.nodup_cons.mpr ⟨List.not_mem_nil, List.nodup_nil⟩, fun a y => by rw [List.mem_singleton.mp y]; exact e2⟩
def gOwnT (i : Nat) (f : FE) : FS := fun ρ => match f ρ with
  | .ok r => match toT r with
    | some t => .nx (ρ.set i (.ot t))
    | none => .bad
  | .ex _ => .bad
  | .bad => .bad
theorem s_ownT (i : Nat) {x : Str} {p2 : Pos} (hN : X.N.Nodup) (h : EV X e f) (hi : X.N[i]? = some x := by rfl) (hx : Loc X.env.scope x := by first | exact Or.inl rfl | exact Or.inr rfl) (hs : swapsWith e (some (.Name x p2)) pos.line X.env = pure false := by rfl)
    (hf : X.fn x = true ∨ X.env.scope.names.lookup x = some .local := by first | exact .inl rfl | exact .inr rfl | assumption) : SV X W (.Assign [.Name x p2] e pos) (gOwnT i f) := by
  refine ⟨ps_imp (ps_set hN hi hx h.run hs hf) fun D σ H ⟨O, ρ, I, q⟩ => ?_⟩
  unfold gOwnT at q
  split at q
  · rename_i r e
    split at q
    · rename_i t et
      refine ⟨O, ρ, r, I, e, fun v H1 s rr => ?_⟩
      obtain ⟨O', J, E⟩ := I.store s (rr.toT et) (fun d z => nomatch z) (fun d z => nomatch z) i
      exact q O' H1 _ J E
    · exact q.elim
  · exact q.elim
  · exact q.elim
/-- x = e, data from then on -/
def gSet (i : Nat) (f : FE) : FS := fun ρ => match f ρ with
  | .ok r => match r.fz with
    | some d => .nx (ρ.set i (.fr d))
    | none => .bad
  | .ex _ => .bad
  | .bad => .bad
theorem s_set (i : Nat) {x : Str} {p2 : Pos} (hN : X.N.Nodup) (h : EV X e f) (hi : X.N[i]? = some x := by rfl) (hx : Loc X.env.scope x := by first | exact Or.inl rfl | exact Or.inr rfl) (hs : swapsWith e (some (.Name x p2)) pos.line X.env = pure false := by rfl)
    (hf : X.fn x = true ∨ X.env.scope.names.lookup x = some .local := by first | exact .inl rfl | exact .inr rfl | assumption) : SV X W (.Assign [.Name x p2] e pos) (gSet i f) := by
  refine ⟨ps_imp (ps_set hN hi hx h.run hs hf) fun D σ H ⟨O, ρ, I, q⟩ => ?_⟩
  unfold gSet at q
  split at q
  · rename_i r e
    split at q
    · rename_i d ed
      refine ⟨O, ρ, r, I, e, fun v H1 s rr => ?_⟩
      obtain ⟨O', J, E⟩ := I.putFz s (RR.rep I.tr rr ed) i
      exact q O' H1 _ J E
    · exact q.elim
  · exact q.elim
  · exact q.elim
/-- a name is data from here on -/
def frz (i : Nat) (ρ : En) : En := match ρ[i]? with
  | some (.ol xs) => ρ.set i (.fr (.list xs))
  | some (.od xs) => ρ.set i (.fr (.dict xs))
  | some (.ot t) => ρ.set i (.fr t.d)
  | _ => ρ
theorem set_get {α : Type} : ∀ {l : List α} {i : Nat} {x : α}, l[i]? = some x → l.set i x = l
  | [], _, _, h => by simp at h
  | a :: l, 0, x, h => by simp at h; subst h; rfl
  | a :: l, i + 1, x, h => by
    show a :: l.set i x = a :: l
    rw [set_get (by simpa using h)]
/-- a slot's own objects leave the own ones -/
theorem ER.leave {K : PySem.W.Frag} {H : Hp} {O : Og} {σ : L2.St} {ρ : En} (I : ER K O H σ ρ) {i : Nat} {g : Gh} {ov : Option V} {sl : Sl} (eg : O.γ[i]? = some g) (e1 : σ[i]? = some ov)
    (hr : ∀ O1 : List Addr, (∀ a ∈ O1, a ∈ O.O) → (∀ a ∈ g.A, a ∉ O1) → SR K H O1 ⟨[], g.pi⟩ ov sl) : ∃ O' : Og, ER K O' H σ (ρ.set i sl) ∧ Evo O H O' H ∧ (∀ a ∈ O'.O, a ∈ O.O) ∧ ∀ a ∈ g.A, a ∉ O'.O := by
  have hlt : i < O.γ.length := (List.getElem?_eq_some_iff.mp eg).1
  obtain ⟨A, B, g0, f1, f3, f4⟩ := own_split (γ := O.γ) i hlt
  rw [eg] at f1; cases f1
  let O1 : List Addr := O.O.filter fun a => decide (a ∉ g.A)
  have f6 : (⟨O1, O.γ.set i ⟨[], g.pi⟩⟩ : Og).own = A ++ B := f4 ⟨[], g.pi⟩
  have hl : ∀ a ∈ O1, a ∈ O.O := fun a h => (List.mem_filter.mp h).1
  have ho : ∀ a ∈ g.A, a ∉ O1 := fun a h z => of_decide_eq_true (List.mem_filter.mp z).2 h
  have nd := I.nd
  unfold Og.own at nd
  rw [f3] at nd
  have hs : ∀ a ∈ (⟨O1, O.γ.set i ⟨[], g.pi⟩⟩ : Og).own, a ∈ O.own := fun a h => by
    rw [f6] at h
    show a ∈ ownG O.γ
    rw [f3]
    exact mem_mid h
  have out : ∀ a ∈ A ++ B, a ∉ g.A := fun a h z => (List.nodup_append.mp (perm_mid.nodup_iff.mp nd)).2.2 a z a h rfl
  have I2 : All3 (SR K H O1) O.γ σ ρ := I.at_.imp fun g ov s q => q.less hl
  have I3 := I2.set (c := ⟨[], g.pi⟩) (a := ov) (b := sl) (hr O1 hl ho) i
  rw [set_get e1] at I3
  refine ⟨⟨O1, O.γ.set i ⟨[], g.pi⟩⟩, ⟨I3, by rw [f6]; exact nd_mid nd, fun a h => ?_, I.hg.less hl⟩, ⟨fun a o e _ => e, fun a h n => ?_, fun a h => .inl (hs a h), fun a h => .inl (hl a h), map_pi_set eg⟩, hl, ho⟩
  · refine List.mem_filter.mpr ⟨I.sub a (hs a h), decide_eq_true (out a ?_)⟩
    rw [← f6]; exact h
  · exact List.mem_filter.mpr ⟨h, decide_eq_true fun z => n (own_atG eg z)⟩
theorem ER.frz {K : PySem.W.Frag} {H : Hp} {O : Og} {σ : L2.St} {ρ : En} (I : ER K O H σ ρ) (i : Nat) : ∃ O' : Og, ER K O' H σ (frz i ρ) ∧ Evo O H O' H := by
  unfold VL.frz
  split
  · rename_i xs e
    obtain ⟨g, ov, eg, e1, p, vs, rfl, h1, z, r, hA⟩ := I.get e
    obtain ⟨O', J, E, _⟩ := I.leave (sl := .fr (.list xs)) eg e1 fun O1 hl hn => ⟨⟨_, rfl, .lst (.inl h1) (hn p (by rw [hA]; exact List.mem_singleton_self p)) z (r.less hl)⟩, rfl⟩
    exact ⟨O', J, E⟩
  · rename_i xs e
    obtain ⟨g, ov, eg, e1, p, vs, rfl, h1, r, hA⟩ := I.get e
    obtain ⟨O', J, E, _⟩ := I.leave (sl := .fr (.dict xs)) eg e1 fun O1 hl hn => ⟨⟨_, rfl, .dic (.inl h1) (hn p (by rw [hA]; exact List.mem_singleton_self p)) (r.less hl)⟩, rfl⟩
    exact ⟨O', J, E⟩
  · rename_i t e
    obtain ⟨g, ov, eg, e1, v, rfl, r⟩ := I.get e
    obtain ⟨O', J, E, _⟩ := I.leave (sl := .fr t.d) eg e1 fun O1 hl hn => ⟨⟨_, rfl, r.rep hl hn⟩, rfl⟩
    exact ⟨O', J, E⟩
  · exact ⟨O, I, .refl⟩
def gFz (i : Nat) (g : FS) : FS := fun ρ => g (frz i ρ)
theorem s_fz (i : Nat) {st : Stmt} {g : FS} (h : SV X W st g) : SV X W st (gFz i g) := by
  refine ⟨ps_imp h.run fun D σ H ⟨O, ρ, I, q⟩ => ?_⟩
  obtain ⟨O', J, E⟩ := I.frz i
  exact ⟨O', _, J, q.next I E⟩
/-- return x -/
def gRetV (i : Nat) : FS := fun ρ => match ρ[i]? with
  | some (.fr d) => .rt (.fr d) ρ
  | some (.ol xs) => .rt (.ol xs) (ρ.set i .un)
  | some (.od xs) => .rt (.od xs) (ρ.set i .un)
  | some (.ot t) => .rt (.ot t) (ρ.set i .un)
  | _ => .bad
theorem s_retv (i : Nat) {x : Str} {p2 : Pos} (hN : X.N[i]? = some x := by rfl) (hv : Vis X.env.scope x := by first | exact Or.inl rfl | exact Or.inr (Or.inl rfl) | exact Or.inr (Or.inr rfl)) (hd : (x == ("__debug__" : Str)) = false := by decide)
    (hcd : (x == ("__classdict__" : Str)) = false := by decide) : SV X W (.Return (some (.Name x p2)) pos) (gRetV i) := by
  refine ⟨ps_imp (ps_ret (pe_var hN hv hd hcd)) fun D σ H ⟨O, ρ, I, q⟩ => ?_⟩
  unfold gRetV at q
  split at q
  · rename_i d e
    obtain ⟨g, ov, eg, e1, ⟨v, rfl, r⟩, _⟩ := I.get e
    exact ⟨v, e1, q v O H σ I .refl r⟩
  · rename_i xs e
    obtain ⟨g, ov, eg, e1, p, vs, rfl, h1, z, r, hA⟩ := I.get e
    obtain ⟨O', J, E, hl, ho⟩ := I.leave (sl := .un) eg e1 fun _ _ _ => rfl
    have hp : p ∈ g.A := by rw [hA]; exact List.mem_singleton_self p
    exact ⟨_, e1, q _ O' H σ J E ⟨p, vs, rfl, .inl (own_atG eg hp), ho p hp, h1, z, r.less fun a h => (List.mem_cons.mp h).elim (fun e => e ▸ I.mine eg hp) (hl a)⟩⟩
  · rename_i xs e
    obtain ⟨g, ov, eg, e1, p, vs, rfl, h1, r, hA⟩ := I.get e
    obtain ⟨O', J, E, hl, ho⟩ := I.leave (sl := .un) eg e1 fun _ _ _ => rfl
    have hp : p ∈ g.A := by rw [hA]; exact List.mem_singleton_self p
    exact ⟨_, e1, q _ O' H σ J E ⟨p, vs, rfl, .inl (own_atG eg hp), ho p hp, h1, r.less fun a h => (List.mem_cons.mp h).elim (fun e => e ▸ I.mine eg hp) (hl a)⟩⟩
  · rename_i t e
    obtain ⟨g, ov, eg, e1, v, rfl, r⟩ := I.get e
    obtain ⟨O', J, E, hl, ho⟩ := I.leave (sl := .un) eg e1 fun _ _ _ => rfl
    have hnd : g.A.Nodup := by
      obtain ⟨A, B, g0, f1, f3, _⟩ := own_split (γ := O.γ) i (List.getElem?_eq_some_iff.mp eg).1
      rw [eg] at f1; cases f1
      have nd := I.nd
      unfold Og.own at nd
      rw [f3] at nd
      exact (List.nodup_append.mp (List.nodup_append.mp nd).2.1).1
    exact ⟨v, e1, q v O' H σ J E ⟨g.A, r.evR (.of fun _ _ e _ => e) (fun a h => .inl ((List.mem_append.mp h).elim (I.mine eg) (hl a))) fun _ _ => rfl, hnd, fun a h => ⟨.inl (own_atG eg h), ho a h⟩⟩⟩
  · exact q.elim
end
end VL
namespace VL
open PySem PySem.Spec
open PyProof.Rows L2
variable [Vx]
/-! ### defs -/
/-- a body's outcome as a result -/
def fin0 : So → Rs R
  | .nx _ => .ok (.fr .none)
  | .rt (.bw _) _ => .bad
  | .rt (.bt _) _ => .bad
  | .rt r _ => .ok r
  | .ex e _ => .ex e
  | _ => .bad
/-- a body as a function of the arguments: n names in all -/
def fnR (n : Nat) (g : FS) (ds : List D) : Rs R := fin0 (g (ds.map Sl.fr ++ List.replicate (n - ds.length) Sl.un))
/-- what is wanted of a result, of an exception -/
def RsW (K : PySem.W.Frag) (A : List Addr) (H : Hp) (Q : VK) (E : XK) : Rs R → Prop
  | .ok r => ∀ v H', Same H H' → RR K A H H' v r → Q v H'
  | .ex e => ∀ cls d H', Same H H' → ExcIs K H' cls d e → E cls d H'
  | .bad => False
/-- the promise of a def of n parameters whose function is F -/
def spF (K : PySem.W.Frag) (n : Nat) (F : List D → Rs R) : Sp := fun vs H Q E => vs.length = n ∧ ∃ (A : List Addr) (ds : List D), Reps K H A vs ds ∧ Hg A H ∧ RsW K A H Q E (F ds)
def γ0 (n : Nat) : List Gh := List.replicate n ⟨[], none⟩
theorem own_γ0 : ∀ n, ownG (γ0 n) = []
  | 0 => rfl
  | n + 1 => by
    show ([] : List Addr) ++ ownG (γ0 n) = []
    rw [List.nil_append]
    exact own_γ0 n
theorem start_all {K : PySem.W.Frag} {H : Hp} {A : List Addr} : ∀ {vs : List V} {ds : List D} (m : Nat), Reps K H A vs ds → All3 (SR K H A) (γ0 (ds.length + m)) (vs.map some ++ List.replicate m none) (ds.map Sl.fr ++ List.replicate m Sl.un)
  | _, _, 0, .nil => .nil
  | _, _, m + 1, .nil => by
    rw [List.replicate_succ, List.replicate_succ]
    show All3 _ (γ0 (0 + (m + 1))) _ _
    rw [Nat.zero_add]
    have h := start_all (K := K) (H := H) (A := A) m .nil
    rw [List.length_nil, Nat.zero_add] at h
    exact .cons rfl h
  | _, _, m, .cons (d := d) (ds := ds) r t => by
    have h := start_all m t
    have e : (d :: ds).length + m = (ds.length + m) + 1 := by rw [List.length_cons]; omega
    rw [e]
    exact .cons ⟨⟨_, rfl, r⟩, rfl⟩ h
theorem start_ER {K : PySem.W.Frag} {H : Hp} {A : List Addr} {vs : List V} {ds : List D} (r : Reps K H A vs ds) (t : Hg A H) (N : List Str) : ER K ⟨A, γ0 (ds.length + (N.length - ds.length))⟩ H (L2.start N vs) (ds.map Sl.fr ++ List.replicate (N.length - ds.length) Sl.un) := by
  have hl := r.length
  unfold L2.start
  rw [hl]
  have e : (⟨A, γ0 (ds.length + (N.length - ds.length))⟩ : Og).own = [] := own_γ0 _
  exact ⟨start_all _ r, by rw [e]; exact List.nodup_nil, fun a h => (by rw [e] at h; cases h), t⟩
/-- what a body's context gives -/
structure Lv (X : Cx) (W : WX) : Prop where
  tk : Takes X W
  po : PassesOwn (model X.prog X.w) X.A X.env X.xe
  calm : X.calm = true
  kds : PySem.W.kdsCode X.K X.env.code = true
section
variable {P : Program} {w : World} {K : PySem.W.Frag} {mg : Str → Option Value} {base : Heap}
/-- from the body's outcome to the promise -/
theorem fn_end {N : List Str} {g : FS} {vs : List V} {H : Hp} {Q : VK} {E : XK} {m : Nat} (h : spF K m (fnR N.length g) vs H Q E) : tS K (fun cls d _ H' => E cls d H') g { nx := fun _ H' => Q .non H', rt := Q } (L2.start N vs) H := by
  obtain ⟨_, A0, ds, hrep, ht, hf⟩ := h
  have I := start_ER hrep ht N
  have e1 : (⟨A0, γ0 (ds.length + (N.length - ds.length))⟩ : Og).own = [] := own_γ0 _
  refine ⟨⟨A0, γ0 (ds.length + (N.length - ds.length))⟩, _, I, ?_⟩
  unfold fnR at hf
  generalize g (ds.map Sl.fr ++ List.replicate (N.length - ds.length) Sl.un) = so at hf
  have same : ∀ {O' : Og} {H' : Hp}, Evo ⟨A0, γ0 (ds.length + (N.length - ds.length))⟩ H O' H' → Same H H' := fun {O' H'} E a o z => E.same a o z (by rw [e1]; exact fun z => nomatch z)
  cases so with
  | nx ρ' => exact fun O' H' σ' J E => hf .non H' (same E) .non
  | rt r' ρ' =>
    intro v O' H' σ' J E rt
    have s : Same H H' := same E
    have hA : ∀ a ∈ A0, a ∈ O'.O := fun a h => E.keep a h (by rw [e1]; exact fun z => nomatch z)
    cases r' with
    | fr d => exact hf v H' s (Rep.less (show Rep K H' O'.O v d from rt) hA)
    | ol xs =>
      obtain ⟨p, us, a1, a2, _, a3, a4, a5⟩ := rt
      rw [e1] at a2
      exact hf v H' s ⟨p, us, a1, a2.elim (fun z => nomatch z) id, a3, a4, a5.less (cons_less hA)⟩
    | od xs =>
      obtain ⟨p, us, a1, a2, _, a3, a5⟩ := rt
      rw [e1] at a2
      exact hf v H' s ⟨p, us, a1, a2.elim (fun z => nomatch z) id, a3, a5.less (cons_less hA)⟩
    | ot t =>
      obtain ⟨B, a1, a2, a3⟩ := rt
      rw [e1] at a3
      exact hf v H' s ⟨B, a1.evR (.of fun _ _ e _ => e) (fun a h => .inl ((List.mem_append.mp h).elim (List.mem_append_left _) fun z => List.mem_append_right _ (hA a z))) (fun _ _ => rfl), a2, fun a z => (a3 a z).1.elim (fun z => nomatch z) id⟩
    | bw d => exact rt.elim
    | bt d => exact rt.elim
  | bk ρ' => exact hf.elim
  | ct ρ' => exact hf.elim
  | ex e ρ' => exact fun O' H' σ' cls d J E x => hf cls d H' (same E) x
  | bad => exact hf.elim
/-- a def keeps its promise -/
theorem fn_ok {x qual : Str} {st : Stmt} {f : Addr} {fd : FuncData} {N ps : List Str} {k n m : Nat} {g : FS} (hn : N.length = n) (hm : ps.length = m) (F : Fun K x qual st f fd) (S : FnScope N ps (defScope st))
    (hbody : ∀ (cdv : Value) (A : Around) (outer : List Env) (s : Shared) (H : Hp) (E : XK), Room k (A.deeper (envOfC qual (defScope st) s.heap.objs.size f cdv)) → Lv (cxOf (L2.CX P w) P w K mg base N qual (defScope st) f cdv A outer s H E) (fun cls d _ H' => E cls d H') →
      BV (cxOf (L2.CX P w) P w K mg base N qual (defScope st) f cdv A outer s H E) (fun cls d _ H' => E cls d H') (defBody st) g) : FnOk P w K mg base (L2.CX P w) (k + 1) f fd ps (spF K m (fnR n g)) := by
  subst hn hm
  obtain ⟨oc, od, kV, doc, pm, an, cdv, ct, osl, rfl, lk, hcd⟩ := F.ex
  refine fn_of lk hcd S (fun vs H Q E h => h.1) fun A outer s H vs Q E hr h => ⟨_, (hbody cdv A outer s H E hr ⟨takes_of rfl rfl rfl rfl, passes_of rfl, rfl, kdsCode_of hcd⟩).run, ?_⟩
  exact fn_end h
/-- a def with its code object -/
structure FunC (K : PySem.W.Frag) (x qual : Str) (st : Stmt) (f : Addr) (fd : FuncData) (c : Addr) : Prop where
  ex : ∃ (oc : Value) (od : Option Addr) (kV doc pm : Value) (an : Option Addr) (ct : Value) (osl : Array (Option Value)),
    fd = PySem.W.fnOf x qual (defArgs st) (defBody st) (defScope st) .none kV doc pm an (.ref c) ct ∧ K.lookup f = some ⟨oc, od, .func fd, osl⟩ ∧ PySem.W.codeIn K (.ref c) qual = true
  kp : PySem.W.keepIn K (.ref f) = true
theorem fn_okC {x qual : Str} {st : Stmt} {f c : Addr} {fd : FuncData} {N ps : List Str} {k n m : Nat} {g : FS} (hn : N.length = n) (hm : ps.length = m) (F : FunC K x qual st f fd c) (S : FnScope N ps (defScope st))
    (hbody : ∀ (A : Around) (outer : List Env) (s : Shared) (H : Hp) (E : XK), Room k (A.deeper (envOfC qual (defScope st) s.heap.objs.size f (.ref c))) → Lv (cxOf (L2.CX P w) P w K mg base N qual (defScope st) f (.ref c) A outer s H E) (fun cls d _ H' => E cls d H') →
      BV (cxOf (L2.CX P w) P w K mg base N qual (defScope st) f (.ref c) A outer s H E) (fun cls d _ H' => E cls d H') (defBody st) g) : FnOk P w K mg base (L2.CX P w) (k + 1) f fd ps (spF K m (fnR n g)) := by
  subst hn hm
  obtain ⟨oc, od, kV, doc, pm, an, ct, osl, rfl, lk, hcd⟩ := F.ex
  refine fn_of lk hcd S (fun vs H Q E h => h.1) fun A outer s H vs Q E hr h => ⟨_, (hbody A outer s H E hr ⟨takes_of rfl rfl rfl rfl, passes_of rfl, rfl, kdsCode_of hcd⟩).run, ?_⟩
  exact fn_end h
end
/-! ### calls -/
def fzAll : List R → Option (List D)
  | [] => some []
  | r :: rs => match r.fz, fzAll rs with
    | some d, some ds => some (d :: ds)
    | _, _ => none
/-- no exception -/
def Rs.sure {α : Type} : Rs α → Rs α
  | .ok a => .ok a
  | _ => .bad
theorem Rs.sure_eq {α : Type} {x : Rs α} {a : α} (h : x.sure = .ok a) : x = .ok a := by
  cases x with
  | ok b => cases h; rfl
  | ex e => cases h
  | bad => cases h
/-- F on results: where an own object is handed on, what comes back is flat -/
def callR (F : List D → Rs R) (rs : List R) : Rs R := match fzAll rs with
  | some ds => (F ds).sure
  | none => (F (rs.map R.d)).sure.bind immR
section
variable {K : PySem.W.Frag} {H H1 : Hp} {O : List Addr}
theorem fzAll_reps (ht : ∀ a ∈ O, H a ≠ none) : ∀ {vs : List V} {rs : List R} {ds : List D}, All2 (RR K O H H1) vs rs → fzAll rs = some ds → Reps K H1 O vs ds
  | _, _, _, .nil, e => by cases e; exact .nil
  | _, _, _, .cons r t, e => by
    unfold fzAll at e
    split at e
    · rename_i d ds e1 e2
      cases e
      exact .cons (r.rep ht e1) (fzAll_reps ht t e2)
    · cases e
theorem all_bare : ∀ {vs : List V} {rs : List R}, All2 (RR K O H H1) vs rs → Reps K H1 [] vs (rs.map R.d)
  | _, _, .nil => .nil
  | _, _, .cons r t => .cons r.bare (all_bare t)
end
def fCall (F : List D → Rs R) (g : En → Rs (List R)) : FE := fun ρ => (g ρ).bind (callR F)
section
variable {X : Cx} {k : Nat} {f : Addr} {fd : FuncData} {ps : List Str} {F : List D → Rs R} {x : Str} {p pos : Pos} {e : Expr} {es : List Expr} {g : En → Rs (List R)} {n : Nat}
theorem e_call (G : FnOk X.prog X.w X.K X.mg X.base (L2.CX X.prog X.w) k f fd ps (spF X.K n F)) (hr : Room k X.A) (hm : X.mg x = some (.ref f)) (hk : PySem.W.keepIn X.K (.ref f) = true) (hb : Binds X.K fd ps []) (ha : AV X (e :: es) g) (hn : (e :: es).length = n := by rfl) (hg : Gl X x := by rfl) (hdb : (x == ("__debug__" : Str)) = false := by decide)
    (he : starEach (e :: es) X.env = (false, eval e X.env) :: starEach es X.env := by rfl) (hpl : (backTo pos (starEach es X.env)).any (·.1) = false := by rfl) :
    EV X (.Call (.Name x p) (e :: es) [] pos) (fCall F g) := by
  refine ⟨pe_imp (pe_call G hr hg hm hk hb .nil passL ha.run hdb he hpl) fun σ H Q ⟨O, ρ, r, I, hf, q⟩ => ?_⟩
  obtain ⟨rs, e1, hf⟩ := Rs.bind_eq hf
  refine ⟨O, ρ, rs, I, e1, fun vs H1 s1 hv => ?_⟩
  show spF X.K n F (vs ++ []) H1 Q E0
  rw [List.append_nil]
  have hlv : vs.length = n := by rw [hv.length, ha.len ρ rs e1]; exact hn
  unfold callR at hf
  split at hf
  · rename_i ds ed
    refine ⟨hlv, O, ds, fzAll_reps I.tr hv ed, I.hg.same s1, ?_⟩
    rw [Rs.sure_eq hf]
    exact fun v H' s2 rr => q v H' (s1.trans s2) (RR.left s1 rr)
  · obtain ⟨r', e2, hf⟩ := Rs.bind_eq hf
    refine ⟨hlv, [], _, all_bare hv, (I.hg.same s1).less (fun _ z => absurd z List.not_mem_nil), ?_⟩
    rw [Rs.sure_eq e2]
    exact fun v H' s2 rr => q v H' (s1.trans s2) (RR.left s1 (RR.immR (I.hg.same s1).mu s2 rr hf))
end
/-! ### what is walked -/
/-- J gives the data ds one after the other; what stands in E may change meanwhile -/
def JOk (K : PySem.W.Frag) (O E : List Addr) (H1 : Hp) (J : It) (ds : List D) : Prop := ∀ i H2, (∀ a o, H1 a = some o → a ∉ E → H2 a = some o) →
  (∀ d, ds[i]? = some d → J.go i H2 ∧ ∀ x H3, J.yld i H2 x H3 → Same H2 H3 ∧ ∀ O2, (∀ a ∈ O2, a ∈ O ∨ H1 a = none) → (∀ a ∈ O2, H2 a ≠ none) → Rep K H3 O2 x d) ∧ (ds.length ≤ i → J.stop i H2)
/-- q: within a comprehension (nothing that stands is changed) -/
def mayE (q : Bool) (O : List Addr) : List Addr := if q then [] else O
def tI (K : PySem.W.Frag) (q : Bool) (f : En → Rs (List D)) : TI := fun σ H R => ∃ (O : Og) (ρ : En) (ds : List PyData), ER K O H σ ρ ∧ f ρ = .ok ds ∧ ∀ J H1, Same H H1 → JOk K O (mayE q O) H1 J ds → (q = true → ds.length ≤ sizeLine) → R J H1
structure IV (X : Cx) (q : Bool) (tg iter : Expr) (f : En → Rs (List D)) : Prop where
  run : PI X tg iter (tI X.K q f)
theorem pi_imp {X : Cx} {tg e : Expr} {t u : TI} (h : PI X tg e t) (i : ∀ σ H Q, u σ H Q → t σ H Q) : PI X tg e u := ⟨fun pins s σ H Q I q => h.run pins s σ H Q I (i σ H Q q)⟩
/-- the items of a list, of a tuple; an own list only within a comprehension -/
def listOf' (q : Bool) : R → Rs (List D)
  | .fr (.list ds) => .ok ds
  | .ol ds => .ok ds
  | .bw (.list ds) => if q then .ok ds else .bad
  | .bt (.list ds) => if q && imms ds then .ok ds else .bad
  | _ => .bad
def tupOf' : R → Rs (List D)
  | .fr (.tuple ds) => .ok ds
  | .bt (.tuple ds) => if imms ds then .ok ds else .bad
  | _ => .bad
def fIter (f : FE) (o : R → Rs (List D)) : En → Rs (List D) := fun ρ => (f ρ).bind o
section
variable {K : PySem.W.Frag} {H H1 : Hp} {O E : List Addr}
theorem JOk.seq {J : It} {ds : List D} {xs : List V} {S : Hp → Prop} (hr : Reps K H1 O xs ds) (hE : ∀ a ∈ E, a ∈ O) (hS : ∀ H2, (∀ a o, H1 a = some o → a ∉ E → H2 a = some o) → S H2)
    (go : ∀ i H2 x, S H2 → xs[i]? = some x → J.go i H2 ∧ ∀ y H3, J.yld i H2 y H3 → H3 = H2 ∧ y = x) (stop : ∀ i H2, S H2 → xs.length ≤ i → J.stop i H2) : JOk K O E H1 J ds := fun i H2 k => by
  refine ⟨fun d hd => ?_, fun hle => stop i H2 (hS H2 k) (by rw [hr.length]; exact hle)⟩
  obtain ⟨x, hx, hxd⟩ := hr.get' hd
  obtain ⟨g1, g2⟩ := go i H2 x (hS H2 k) hx
  refine ⟨g1, fun y H3 hy => ?_⟩
  obtain ⟨rfl, rfl⟩ := g2 y H3 hy
  exact ⟨Same.refl _, fun O2 h1 h2 => hxd.ev (fun a o e n => k a o e fun z => n (hE a z)) h1⟩
theorem JOk.list {ds : List D} {a : Addr} {xs : List V} (hr : Reps K H1 O xs ds) (hE : ∀ a ∈ E, a ∈ O) (hS : ∀ H2, (∀ a o, H1 a = some o → a ∉ E → H2 a = some o) → SqL K H2 a xs) : JOk K O E H1 (Itl K a) ds :=
  JOk.seq hr hE hS (fun i H2 x h hx => ⟨⟨xs, x, h, hx⟩, fun y H3 ⟨e, hy⟩ => ⟨e, Option.some.inj ((hy xs h).symm.trans hx)⟩⟩) fun i H2 h hle => ⟨xs, h, hle⟩
theorem JOk.tup {ds : List D} {a : Addr} {xs : List V} (hr : Reps K H1 O xs ds) (hE : ∀ a ∈ E, a ∈ O) (hS : ∀ H2, (∀ a o, H1 a = some o → a ∉ E → H2 a = some o) → SqT K H2 a xs) : JOk K O E H1 (Itt K a) ds :=
  JOk.seq hr hE hS (fun i H2 x h hx => ⟨⟨xs, x, h, hx⟩, fun y H3 ⟨e, hy⟩ => ⟨e, Option.some.inj ((hy xs h).symm.trans hx)⟩⟩) fun i H2 h hle => ⟨xs, h, hle⟩
theorem mayE_sub (q : Bool) : ∀ a ∈ mayE q O, a ∈ O := fun a h => by
  unfold mayE at h
  cases q with
  | true => cases h
  | false => exact h
end
section
variable {X : Cx} {q : Bool} {tg e : Expr} {f : FE} {pos p : Pos}
theorem i_list (h : EV X e f) : IV X q tg e (fIter f (listOf' q)) := by
  refine ⟨pi_imp (pi_list h.run) fun σ H Q ⟨O, ρ, ds, I, hf, qq⟩ => ?_⟩
  obtain ⟨r, e1, hf⟩ := Rs.bind_eq hf
  refine ⟨O, ρ, r, I, e1, fun v H1 s rr => ?_⟩
  have main : ∀ (a : Addr) (xs : List V), v = .ref a → SqL X.K H1 a xs → xs.length ≤ sizeLine → Reps X.K H1 O xs ds → (∀ H2, (∀ a o, H1 a = some o → a ∉ mayE q O → H2 a = some o) → SqL X.K H2 a xs) → iList X.K (fun _ _ Q' => Q' v H1) σ H Q := fun a xs ev hs hz hr hS => by
    exact ⟨a, ev, ⟨xs, hs⟩, qq _ H1 s (JOk.list hr (mayE_sub q) hS) fun _ => by rw [← hr.length]; exact hz⟩
  have go : ∀ {z : Rep X.K H1 O v (.list ds)}, iList X.K (fun _ _ Q' => Q' v H1) σ H Q := fun {z} => by
    cases z with
    | lst h1 h2 hz h3 => exact main _ _ rfl (.inl h1) hz h3 fun H2 k => .inl (Rd.keep h1 fun o e => k _ o e fun z => h2 (mayE_sub q _ z))
    | lstK h1 h3 => exact main _ _ rfl (.inr h1) h1.len h3 fun H2 k => .inr h1
  unfold listOf' at hf
  split at hf
  · cases hf
    exact go (z := rr.rep I.tr rfl)
  · cases hf
    exact go (z := rr.rep I.tr rfl)
  · split at hf
    · rename_i hq
      cases hf
      subst hq
      cases (show Top X.K H1 O v (.list ds) from rr) with
      | rep z => exact go (z := z)
      | lst e z r => exact main _ _ rfl (.of e) z r fun H2 k => .of (k _ _ e (fun z => nomatch z))
    · cases hf
  · split at hf
    · rename_i hq
      cases hf
      rw [Bool.and_eq_true] at hq
      obtain ⟨hq, hi⟩ := hq
      subst hq
      cases (show Rep X.K H1 [] v (.list ds) from rr) with
      | lst h1 h2 hz h3 => exact main _ _ rfl (.inl h1) hz (h3.imm (I.hg.same s).mu hi) fun H2 k => .inl (Rd.keep h1 fun o e => k _ o e fun z => nomatch z)
      | lstK h1 h3 => exact main _ _ rfl (.inr h1) h1.len (h3.imm (I.hg.same s).mu hi) fun H2 k => .inr h1
    · cases hf
  · cases hf
theorem i_tup (h : EV X e f) : IV X q tg e (fIter f tupOf') := by
  refine ⟨pi_imp (pi_tup h.run) fun σ H Q ⟨O, ρ, ds, I, hf, qq⟩ => ?_⟩
  obtain ⟨r, e1, hf⟩ := Rs.bind_eq hf
  refine ⟨O, ρ, r, I, e1, fun v H1 s rr => ?_⟩
  have hz : Rep X.K H1 O v (.tuple ds) := by
    unfold tupOf' at hf
    split at hf
    · cases hf; exact rr
    · split at hf
      · rename_i hi
        cases hf
        exact Rep.imm (I.hg.same s).mu rr (by unfold imm; exact hi)
      · cases hf
    · cases hf
  cases hz with
  | tup h1 h2 hz h3 => exact ⟨_, rfl, ⟨_, .inl h1⟩, qq _ H1 s (JOk.tup h3 (mayE_sub q) fun H2 k => .inl (Rd.keep h1 fun o e => k _ o e fun z => h2 (mayE_sub q _ z))) fun _ => by rw [← h3.length]; exact hz⟩
  | tupK h1 h3 => exact ⟨_, rfl, ⟨_, .inr h1⟩, qq _ H1 s (JOk.tup h3 (mayE_sub q) fun H2 k => .inr h1) fun _ => by rw [← h3.length]; exact h1.len⟩
def rng (lo : Int) (n : Nat) : List D := (List.range n).map fun (i : Nat) => PyData.int (lo + (i : Int))
theorem JOk.rng {K : PySem.W.Frag} {O E : List Addr} {H1 : Hp} (lo : Int) (n : Nat) : JOk K O E H1 (Itr lo n) (rng lo n) := fun i H2 k => by
  refine ⟨fun d hd => ?_, fun hle => ?_⟩
  · unfold VL.rng at hd
    rw [List.getElem?_map] at hd
    obtain ⟨j, hj, e⟩ := Option.map_eq_some_iff.mp hd
    obtain ⟨h1, h2⟩ := List.getElem?_eq_some_iff.mp hj
    rw [List.length_range] at h1
    rw [List.getElem_range] at h2
    subst h2
    subst e
    refine ⟨h1, fun x H3 hy => ?_⟩
    obtain ⟨rfl, rfl⟩ := hy
    exact ⟨Same.refl _, fun _ _ _ => .int _⟩
  · unfold VL.rng at hle
    rw [List.length_map, List.length_range] at hle
    exact hle
def big : Int := 2 ^ 62
/-- a range's end -/
def rngOk (i : Int) : Bool := decide (-8000000 ≤ i) && decide (i ≤ 8000000)
def oRng1 : List R → Rs (List D)
  | [.fr (.int j)] => if rngOk j then .ok (rng 0 j.toNat) else .bad
  | _ => .bad
def oRng2 : List R → Rs (List D)
  | [.fr (.int i), .fr (.int j)] => if rngOk i && rngOk j then .ok (rng i (j - i).toNat) else .bad
  | _ => .bad
theorem rngOk_iff {i : Int} (h : rngOk i = true) : -8000000 ≤ i ∧ i ≤ 8000000 := by
  unfold rngOk at h
  rw [Bool.and_eq_true] at h
  exact ⟨of_decide_eq_true h.1, of_decide_eq_true h.2⟩
theorem rng_len {lo : Int} {n : Nat} (h : n ≤ 16777216) : (rng lo n).length ≤ sizeLine := by
  unfold rng
  rw [List.length_map, List.length_range, sizeLine_eq]
  exact h
theorem all2_1 {α β : Type} {P : α → β → Prop} {vs : List α} {b : β} (h : All2 P vs [b]) : ∃ a, vs = [a] ∧ P a b := by
  cases h with
  | cons r t => cases t; exact ⟨_, rfl, r⟩
theorem all2_2 {α β : Type} {P : α → β → Prop} {vs : List α} {b c : β} (h : All2 P vs [b, c]) : ∃ a a', vs = [a, a'] ∧ P a b ∧ P a' c := by
  cases h with
  | cons r t =>
    obtain ⟨a', rfl, q⟩ := all2_1 t
    exact ⟨_, _, rfl, r, q⟩
theorem all2_3 {α β : Type} {P : α → β → Prop} {vs : List α} {b c d : β} (h : All2 P vs [b, c, d]) : ∃ a a' a'', vs = [a, a', a''] ∧ P a b ∧ P a' c ∧ P a'' d := by
  cases h with
  | cons r t =>
    obtain ⟨a', a'', rfl, q, z⟩ := all2_2 t
    exact ⟨_, _, _, rfl, r, q, z⟩
def fRng1 (g : En → Rs (List R)) : En → Rs (List D) := fun ρ => (g ρ).bind oRng1
def fRng2 (g : En → Rs (List R)) : En → Rs (List D) := fun ρ => (g ρ).bind oRng2
theorem i_range1 {a : Expr} {g : En → Rs (List R)} (hm : X.mg "range" = none) (ha : AV X [a] g) (hg : Gl X "range" := by rfl) (hs : starEach [a] X.env = [(false, eval a X.env)] := by rfl) : IV X q tg (.Call (.Name "range" p) [a] [] pos) (fRng1 g) := by
  refine ⟨pi_imp (pi_range1 hg hm ha.run hs) fun σ H Q ⟨O, ρ, ds, I, hf, qq⟩ => ?_⟩
  obtain ⟨rs, e1, hf⟩ := Rs.bind_eq hf
  refine ⟨O, ρ, rs, I, e1, fun vs H1 s hv => ?_⟩
  unfold oRng1 at hf
  split at hf
  · rename_i j
    split at hf
    · rename_i hj
      cases hf
      obtain ⟨v, rfl, hr⟩ := all2_1 hv
      cases (show Rep X.K H1 O v (.int j) from hr)
      obtain ⟨h1, h2⟩ := rngOk_iff hj
      exact ⟨j, rfl, by omega, by omega, qq _ H1 s (JOk.rng 0 j.toNat) fun _ => rng_len (by omega)⟩
    · cases hf
  · cases hf
theorem i_range2 {a b : Expr} {g : En → Rs (List R)} (hm : X.mg "range" = none) (ha : AV X [a, b] g) (hg : Gl X "range" := by rfl) (hs : starEach [a, b] X.env = [(false, eval a X.env), (false, eval b X.env)] := by rfl) (hs2 : starEach [b] X.env = [(false, eval b X.env)] := by rfl) : IV X q tg (.Call (.Name "range" p) [a, b] [] pos) (fRng2 g) := by
  refine ⟨pi_imp (pi_range2 hg hm ha.run hs hs2) fun σ H Q ⟨O, ρ, ds, I, hf, qq⟩ => ?_⟩
  obtain ⟨rs, e1, hf⟩ := Rs.bind_eq hf
  refine ⟨O, ρ, rs, I, e1, fun vs H1 s hv => ?_⟩
  unfold oRng2 at hf
  split at hf
  · rename_i i j
    split at hf
    · rename_i hj
      cases hf
      obtain ⟨v, v', rfl, hr, hr'⟩ := all2_2 hv
      cases (show Rep X.K H1 O v (.int i) from hr)
      cases (show Rep X.K H1 O v' (.int j) from hr')
      rw [Bool.and_eq_true] at hj
      obtain ⟨h1, h2⟩ := rngOk_iff hj.1
      obtain ⟨h3, h4⟩ := rngOk_iff hj.2
      exact ⟨i, j, rfl, ⟨by omega, by omega, by omega, by omega⟩, qq _ H1 s (JOk.rng i (j - i).toNat) fun _ => rng_len (by omega)⟩
    · cases hf
  · cases hf
end
/-! ### targets -/
/-- σ' is σ but for the names at js -/
def Only (js : List Nat) (σ σ' : L2.St) : Prop := σ'.length = σ.length ∧ ∀ i, i ∉ js → σ'[i]? = σ[i]?
theorem Only.refl {js : List Nat} {σ : L2.St} : Only js σ σ := ⟨rfl, fun _ _ => rfl⟩
theorem Only.trans {js ks : List Nat} {σ σ1 σ2 : L2.St} (h : Only js σ σ1) (k : Only ks σ1 σ2) : Only (js ++ ks) σ σ2 :=
  ⟨k.1.trans h.1, fun i hi => (k.2 i fun z => hi (List.mem_append_right _ z)).trans (h.2 i fun z => hi (List.mem_append_left _ z))⟩
def tG (K : PySem.W.Frag) (js : List Nat) (st : D → En → Option En) : TG := fun v σ H Q => ∃ (O : Og) (ρ : En) (d : PyData) (ρ' : En), ER K O H σ ρ ∧ Rep K H O v d ∧ st d ρ = some ρ' ∧ ∀ (O' : Og) (σ' : L2.St), ER K O' H σ' ρ' → Evo O H O' H → O'.O = O.O → Only js σ σ' → Q σ' H
structure GV (X : Cx) (tg : Expr) (js : List Nat) (st : D → En → Option En) : Prop where
  run : PG X tg (tG X.K js st)
def tGs (K : PySem.W.Frag) (js : List Nat) (st : List D → En → Option En) : TGs := fun vs σ H Q => ∃ (O : Og) (ρ : En) (ds : List PyData) (ρ' : En), ER K O H σ ρ ∧ Reps K H O vs ds ∧ st ds ρ = some ρ' ∧ ∀ (O' : Og) (σ' : L2.St), ER K O' H σ' ρ' → Evo O H O' H → O'.O = O.O → Only js σ σ' → Q σ' H
structure GsV (X : Cx) (tgs : List Expr) (js : List Nat) (st : List D → En → Option En) : Prop where
  run : PGs X tgs (tGs X.K js st)
theorem pg_imp {X : Cx} {e : Expr} {t u : TG} (h : PG X e t) (i : ∀ v σ H Q, u v σ H Q → t v σ H Q) : PG X e u := ⟨fun pins s σ H v u' Q I r q => h.run pins s σ H v u' Q I r (i v σ H Q q)⟩
theorem pgs_imp {X : Cx} {e : List Expr} {t u : TGs} (h : PGs X e t) (i : ∀ v σ H Q, u v σ H Q → t v σ H Q) : PGs X e u := ⟨fun pins s σ H v u' Q I r q => h.run pins s σ H v u' Q I r (i v σ H Q q)⟩
def sName (i : Nat) : D → En → Option En := fun d ρ => some (ρ.set i (.fr d))
def sNil : List D → En → Option En
  | [], ρ => some ρ
  | _, _ => none
def sCons (s : D → En → Option En) (t : List D → En → Option En) : List D → En → Option En
  | d :: ds, ρ => (s d ρ).bind (t ds)
  | [], _ => none
def sTup (t : List D → En → Option En) : D → En → Option En
  | .tuple ds, ρ => t ds ρ
  | _, _ => none
section
variable {X : Cx} {pos : Pos}
theorem g_name (i : Nat) {x : Str} (hN : X.N.Nodup) (hi : X.N[i]? = some x := by rfl) (hx : Loc X.env.scope x := by first | exact Or.inl rfl | exact Or.inr rfl) (hf : X.fn x = true ∨ X.env.scope.names.lookup x = some .local := by first | exact .inl rfl | exact .inr rfl | assumption) : GV X (.Name x pos) [i] (sName i) := by
  refine ⟨pg_imp (pg_name hN hi hx hf) fun v σ H Q ⟨O, ρ, d, ρ', I, r, hs, q⟩ => ?_⟩
  cases hs
  obtain ⟨O', J, E, z⟩ := I.put r i
  exact q O' _ J E z ⟨List.length_set .., fun j hj => List.getElem?_set_ne fun e => hj (by simp [e])⟩
theorem gs_nil : GsV X [] [] sNil := by
  refine ⟨pgs_imp pgs_nil fun vs σ H Q ⟨O, ρ, ds, ρ', I, r, hs, q⟩ => ?_⟩
  unfold sNil at hs
  split at hs
  · cases hs
    cases r
    exact ⟨rfl, q O σ I .refl rfl .refl⟩
  · cases hs
theorem gs_cons {e : Expr} {es : List Expr} {js ks : List Nat} {s : D → En → Option En} {t : List D → En → Option En} (h1 : GV X e js s) (h2 : GsV X es ks t) (hs : (assignEach (e :: es) X.env).map (·.2) = assign e X.env :: (assignEach es X.env).map (·.2) := by rfl) : GsV X (e :: es) (js ++ ks) (sCons s t) := by
  refine ⟨pgs_imp (pgs_cons h1.run h2.run hs) fun vs σ H Q ⟨O, ρ, ds, ρ', I, r, hs, q⟩ => ?_⟩
  unfold sCons at hs
  split at hs
  · cases r with
    | cons r1 r2 =>
      obtain ⟨ρ1, e1, e2⟩ := Option.bind_eq_some_iff.mp hs
      exact ⟨_, _, rfl, O, ρ, _, ρ1, I, r1, e1, fun O1 σ1 J E z1 o1 => ⟨O1, ρ1, _, ρ', J, r2.ev (fun _ _ e _ => e) E.newO, e2, fun O2 σ2 J2 E2 z2 o2 => q O2 σ2 J2 (E.trans I E2) (z2.trans z1) (o1.trans o2)⟩⟩
  · cases hs
theorem g_tup {es : List Expr} {k : Nat} {js : List Nat} {t : List D → En → Option En} {n : Nat} (hc : X.calm = true) (h : GsV X es js t) (hlen : ∀ ds ρ ρ', t ds ρ = some ρ' → ds.length = n)
    (hn : (assignEach es X.env).length = n := by rfl) (hst : (assignEach es X.env).findIdx? (·.1) = none := by rfl) : GV X (.Tuple es k pos) js (sTup t) := by
  refine ⟨pg_imp (pg_tup hc h.run hn hst) fun v σ H Q ⟨O, ρ, d, ρ', I, r, hs, q⟩ => ?_⟩
  unfold sTup at hs
  split at hs
  · rename_i ds
    obtain ⟨a, xs, rfl, hq, hr, _⟩ := (Top.rep r).tuple
    exact ⟨a, xs, rfl, hq, by rw [hr.length]; exact hlen ds ρ ρ' hs, O, ρ, ds, ρ', I, hr, hs, q⟩
  · cases hs
theorem sNil_len (ds : List D) (ρ ρ' : En) (h : sNil ds ρ = some ρ') : ds.length = 0 := by
  unfold sNil at h
  split at h
  · rfl
  · cases h
theorem sCons_len {s : D → En → Option En} {t : List D → En → Option En} {n : Nat} (ht : ∀ ds ρ ρ', t ds ρ = some ρ' → ds.length = n) (ds : List D) (ρ ρ' : En) (h : sCons s t ds ρ = some ρ') : ds.length = n + 1 := by
  unfold sCons at h
  split at h
  · obtain ⟨ρ1, _, e2⟩ := Option.bind_eq_some_iff.mp h
    rw [List.length_cons, ht _ _ _ e2]
  · cases h
end
/-- target = value -/
def gAsg (f : FE) (st : D → En → Option En) : FS := fun ρ => match f ρ with
  | .ok r => match r.fz with
    | some d => match st d ρ with
      | some ρ' => .nx ρ'
      | none => .bad
    | none => .bad
  | .ex _ => .bad
  | .bad => .bad
section
variable {X : Cx} {W : WX} {pos : Pos}
theorem s_asg {tg e : Expr} {f : FE} {js : List Nat} {st : D → En → Option En} (he : EV X e f) (hg : GV X tg js st) (hs : swapsWithSole [tg] e pos.line X.env = pure false := by rfl) (hw : swappedStores [tg] e X.env = pure none := by rfl)
    (h1 : (assignEach [tg] X.env).map (·.2) = [assign tg X.env] := by rfl) : SV X W (.Assign [tg] e pos) (gAsg f st) := by
  refine ⟨ps_imp (ps_asg he.run hg.run hs hw h1) fun D σ H ⟨O, ρ, I, q⟩ => ?_⟩
  unfold gAsg at q
  split at q
  · rename_i r e
    split at q
    · rename_i d ed
      split at q
      · rename_i ρ' es
        exact ⟨O, ρ, r, I, e, fun v H1 s rr => ⟨O, ρ, d, ρ', I.same s, RR.rep I.tr rr ed, es, fun O' σ' J E _ _ => q O' H1 σ' J ((ER.same_evo s).trans I E)⟩⟩
      · exact q.elim
    · exact q.elim
  · exact q.elim
  · exact q.elim
end
/-! ### for -/
def gLoop (st : D → En → Option En) (body : FS) : List D → En → So
  | [], ρ => .nx ρ
  | d :: ds, ρ => match st d ρ with
    | none => .bad
    | some ρ1 => match body ρ1 with
      | .nx ρ2 => gLoop st body ds ρ2
      | .ct ρ2 => gLoop st body ds ρ2
      | .bk ρ2 => .nx ρ2
      | .rt r ρ2 => .rt r ρ2
      | .ex e ρ2 => .ex e ρ2
      | .bad => .bad
theorem gLoop_nil (st : D → En → Option En) (body : FS) (ρ : En) : gLoop st body [] ρ = .nx ρ := rfl
theorem gLoop_cons (st : D → En → Option En) (body : FS) (d : D) (ds : List D) (ρ : En) : gLoop st body (d :: ds) ρ = match st d ρ with
    | none => .bad
    | some ρ1 => match body ρ1 with
      | .nx ρ2 => gLoop st body ds ρ2
      | .ct ρ2 => gLoop st body ds ρ2
      | .bk ρ2 => .nx ρ2
      | .rt r ρ2 => .rt r ρ2
      | .ex e ρ2 => .ex e ρ2
      | .bad => .bad := rfl
def gFor (f : En → Rs (List D)) (st : D → En → Option En) (body : FS) : FS := fun ρ => match f ρ with
  | .ok ds => gLoop st body ds ρ
  | .ex _ => .bad
  | .bad => .bad
section
variable {X : Cx} {W : WX} {pos : Pos}
def ForRest (J : It) (g : TG) (tb : TS) (D : Ends) (σ : L2.St) (H1 : Hp) : Prop := ∃ W : Nat → Nat → L2.St → Hp → Prop, (∃ m, W 0 m σ H1) ∧ ∀ i m σ H, W i m σ H →
  (J.stop i H ∧ D.nx σ H) ∨ (J.go i H ∧ ∃ N : L2.St → Hp → Prop, (∀ σ' H', N σ' H' → ∃ m', m' < m ∧ W (i + 1) m' σ' H') ∧ ∀ x H', J.yld i H x H' → g x σ H' fun σ2 H2 => tb { D with nx := N, ct := N, bk := D.nx } σ2 H2)
theorem for_rest {js : List Nat} {st : D → En → Option En} {g : FS} {O : Og} {H1 : Hp} {σ : L2.St} {ρ : En} {D : Ends} {ds : List PyData} {J : It} (I1 : ER X.K O H1 σ ρ) (q1 : Post X.K W O H1 D (gLoop st g ds ρ)) (jok : JOk X.K O O H1 J ds) : ForRest J (tG X.K js st) (tS X.K W g) D σ H1 := by
  refine ⟨fun i m σ' H' => m = ds.length - i ∧ i ≤ ds.length ∧ ∃ (O' : Og) (ρ' : En), ER X.K O' H' σ' ρ' ∧ Evo O H1 O' H' ∧ gLoop st g (ds.drop i) ρ' = gLoop st g ds ρ,
    ⟨ds.length, by simp, Nat.zero_le _, O, ρ, I1, .refl, by simp⟩, ?_⟩
  rintro i m σ' H' ⟨rfl, hi, O', ρ', I', E, hl⟩
  have k : ∀ a o, H1 a = some o → a ∉ O.O → H' a = some o := fun a o e n => E.same a o e fun z => n (I1.sub a z)
  obtain ⟨jgo, jstop⟩ := jok i H' k
  by_cases hlt : i < ds.length
  · obtain ⟨go, item⟩ := jgo ds[i] (List.getElem?_eq_getElem hlt)
    refine .inr ⟨go, fun σ3 H3 => i + 1 ≤ ds.length ∧ ∃ (O' : Og) (ρ' : En), ER X.K O' H3 σ3 ρ' ∧ Evo O H1 O' H3 ∧ gLoop st g (ds.drop (i + 1)) ρ' = gLoop st g ds ρ, fun σ3 H3 h3 => ⟨ds.length - (i + 1), by omega, rfl, h3⟩, fun x H2 hy => ?_⟩
    obtain ⟨s2, hx⟩ := item x H2 hy
    have I2 := I'.same s2
    have E2 : Evo O H1 O' H2 := E.trans I1 (ER.same_evo s2)
    have hd := hx O' (fun a h => E.newO a h) I'.tr
    rw [List.drop_eq_getElem_cons hlt] at hl
    have q2 : Post X.K W O' H2 D (gLoop st g (ds[i] :: ds.drop (i + 1)) ρ') := by
      rw [hl]
      exact q1.next I1 E2
    rw [gLoop_cons] at hl q2
    cases e1 : st ds[i] ρ' with
    | none => rw [e1] at q2; exact q2.elim
    | some ρ1 =>
      rw [e1] at hl q2
      dsimp only at hl q2
      refine ⟨O', ρ', ds[i], ρ1, I2, hd, e1, fun O4 σ2 J2 E3 _ _ => ⟨O4, ρ1, J2, ?_⟩⟩
      have E4 : Evo O H1 O4 H2 := E2.trans I1 E3
      cases e2 : g ρ1 with
      | nx ρ2 =>
        rw [e2] at hl
        exact fun O3 H3 σ3 J3 E5 => ⟨hlt, O3, ρ2, J3, E4.trans I1 E5, hl⟩
      | ct ρ2 =>
        rw [e2] at hl
        exact fun O3 H3 σ3 J3 E5 => ⟨hlt, O3, ρ2, J3, E4.trans I1 E5, hl⟩
      | bk ρ2 =>
        rw [e2] at q2
        exact q2.next I2 E3
      | rt r ρ2 =>
        rw [e2] at q2
        exact q2.next I2 E3
      | ex z ρ2 =>
        rw [e2] at q2
        exact q2.next I2 E3
      | bad => rw [e2] at q2; exact q2.elim
  · have e : i = ds.length := by omega
    subst e
    rw [List.drop_length] at hl
    have hl : So.nx ρ' = gLoop st g ds ρ := hl
    rw [← hl] at q1
    exact .inl ⟨jstop (Nat.le_refl _), q1 O' H' σ' I' E⟩
theorem s_for {tg iter : Expr} {body : List Stmt} {f : En → Rs (List D)} {js : List Nat} {st : D → En → Option En} {g : FS} (hp : PassesOwn (model X.prog X.w) X.A X.env X.xe) (hc : X.calm = true) (hi : IV X false tg iter f) (hg : GV X tg js st) (hb : BV X W body g)
    (hs : ∀ x, foldedSetIterable iter X.env x = pure x := by intro _; rfl) : SV X W (.For tg iter body [] pos) (gFor f st g) := by
  refine ⟨ps_imp (ps_for hp hc hi.run hg.run hb.run hs) fun D σ H ⟨O, ρ, I, q⟩ => ?_⟩
  unfold gFor at q
  split at q
  · rename_i ds e
    exact ⟨O, ρ, ds, I, e, fun J H1 s jok _ => for_rest (I.same s) (q.next I (ER.same_evo s)) jok⟩
  · exact q.elim
  · exact q.elim
end
end VL
namespace VL
open PySem PySem.Spec
open PyProof.Rows L2
variable [Vx]
/-! ### operations on ints, texts, tuples, lists -/
theorem vop_or {X : Cx} {f : Value → Value → Sem Value} {r : R2} {F : D → D → Rs R} (h : OpR X f r) (i : ∀ x y H Q, (∃ O d e r, Top X.K H O x d ∧ Top X.K H O y e ∧ F d e = .ok r ∧ ∀ v H', Same H H' → RR X.K O H H' v r → Q v H') → r x y H Q) : VOp X f F :=
  fun pins s σ H x y v u Q I rx ry q => h pins s σ H x y v u Q I rx ry (i x y H Q q)
def sizeN : Nat := 16777216
theorem sizeN_eq : sizeN = sizeLine := sizeLine_eq.symm
section
variable {X : Cx}
/-- list + list -/
def rCatL (K : PySem.W.Frag) : R2 := fun x y H Q => ∃ l b xs zs, x = .ref l ∧ y = .ref b ∧ SqL K H l xs ∧ SqL K H b zs ∧ xs.length + zs.length ≤ sizeLine ∧ ∀ p, H p = none → Q (.ref p) (upd H p (.lst (xs ++ zs)))
theorem op_catL : OpR X (binaryOp .Add) (rCatL X.K) := by
  intro pins s σ H x y v u Q I rx ry h
  obtain ⟨l, b, xs, zs, rfl, rfl, hH, hB, hz, q⟩ := h
  cases rx
  cases ry
  obtain ⟨its, r, p1, _⟩ := I.list hH
  obtain ⟨its2, r2, p2, _⟩ := I.list hB
  obtain ⟨⟨cls, dd, data, sl⟩, ho, hc, n, hd⟩ := p1.isList
  obtain ⟨⟨cls2, dd2, data2, sl2⟩, ho2, hc2, n2, hd2⟩ := p2.isList
  simp only at hc hd hc2 hd2
  subst hc hd hc2 hd2
  have hl := r.length
  have hl2 := r2.length
  have e : its.toArray ++ its2.toArray = (its ++ its2).toArray := by simp
  refine concat_meets ⟨_, ho, rfl⟩ ⟨_, ho2, rfl⟩ noFill_list_add seq_list_add PySem.F.slot_list_add PySem.F.entry_list_add (PySem.F.args_list_add_2 _ _) (list_addW l b its.toArray its2.toArray n n2 dd dd2 sl sl2 (by simp only [List.size_toArray]; omega)) ⟨ho, ho2, ?_⟩
  rw [e]
  exact ⟨.ref _, _, I.lnew (t' := s.toks) (r.append r2) (by rw [List.length_append]; omega), rfl, q _ I.fresh⟩
theorem same_upd {H : Hp} {p : Addr} {o : HO} (h : H p = none) : Same H (upd H p o) := fun b x e => by
  rw [upd_ne (ne_of_none e h)]
  exact e
/-- a new list of items -/
theorem rr_newL {K : PySem.W.Frag} {O : List Addr} {H : Hp} {p : Addr} {vs : List V} {ds : List D} (hp : H p = none) (hz : vs.length ≤ sizeLine) (r : Reps K H O vs ds) : RR K O H (upd H p (.lst vs)) (.ref p) (.ol ds) :=
  ⟨p, vs, rfl, hp, upd_same, hz, r.ev (fun a o e _ => same_upd hp a o e) fun a z => (List.mem_cons.mp z).elim (fun e => .inr (by rw [e]; exact hp)) .inl⟩
theorem rr_newT {K : PySem.W.Frag} {O : List Addr} {H : Hp} {p : Addr} {vs : List V} {ds : List D} (hO : ∀ a ∈ O, H a ≠ none) (hp : H p = none) (hz : vs.length ≤ sizeLine) (r : Reps K H O vs ds) : RR K O H (upd H p (.tup vs)) (.ref p) (.fr (.tuple ds)) :=
  .tup (.inl upd_same) (fun z => hO p z hp) hz (r.same (same_upd hp))
/-- + -/
def dAdd : D → D → Rs R
  | .int i, .int j => .ok (.fr (.int (i + j)))
  | .str x, .str y => if x.length + y.length ≤ sizeN then .ok (.fr (.str (x ++ y))) else .bad
  | .tuple xs, .tuple ys => if xs.length + ys.length ≤ sizeN then .ok (.fr (.tuple (xs ++ ys))) else .bad
  | .list xs, .list ys => if xs.length + ys.length ≤ sizeN then .ok (.ol (xs ++ ys)) else .bad
  | _, _ => .bad
/-- as VOp, the own objects known to stand -/
def VOpT (X : Cx) (f : Value → Value → Sem Value) (F : D → D → Rs R) : Prop := OpR X f (rOpT X.K F)
theorem e_opT {op : Operator} {F : D → D → Rs R} {a b : Expr} {fa fb : FE} {pos : Pos} (ho : VOpT X (binaryOp op) F) (ha : EV X a fa) (hb : EV X b fb) : EV X (.BinOp a op b pos) (fOp F fa fb) :=
  ⟨pe_imp (pe_op ho ha.run hb.run) fun σ H Q h => two_t ha hb h⟩
theorem v_add : VOpT X (binaryOp .Add) dAdd := by
  intro pins s σ H x y v u Q I rx ry h
  obtain ⟨O, d, e, r, hx, hy, ht, hf, q⟩ := h
  unfold dAdd at hf
  split at hf
  · cases hf
    exact op_add pins s σ H x y v u Q I rx ry ⟨_, _, hx.int, hy.int, q _ H (Same.refl H) (.int _)⟩
  · split at hf
    · rename_i hz
      cases hf
      exact op_add_str pins s σ H x y v u Q I rx ry ⟨_, _, hx.str, hy.str, by rw [sizeN_eq] at hz; exact hz, q _ H (Same.refl H) (.str _)⟩
    · cases hf
  · rename_i ds es
    split at hf
    · rename_i hz
      cases hf
      obtain ⟨a, xs, rfl, hq, hr, hl⟩ := hx.tuple
      obtain ⟨b, ys, rfl, hq2, hr2, hl2⟩ := hy.tuple
      have e1 := hr.length
      have e2 := hr2.length
      rw [sizeN_eq] at hz
      have back : ∀ {c : Addr} {zs : List V} {cs : List D}, Top X.K H O (.ref c) (.tuple cs) → Rep X.K H O (.ref c) (.tuple cs) := fun {c zs cs} t => by
        cases t with
        | rep r => exact r
      refine op_catA pins s σ H _ _ v u Q I rx ry ⟨a, b, xs, ys, rfl, rfl, hq, hq2, by omega, fun z => ?_, fun _ z => ?_, fun _ _ p hp => ?_⟩
      · subst z
        cases hr
        exact q _ H (Same.refl H) (back (zs := ys) hy)
      · subst z
        cases hr2
        rw [List.append_nil] at q
        exact q _ H (Same.refl H) (back (zs := xs) hx)
      · exact q _ _ (same_upd hp) (rr_newT ht hp (by rw [List.length_append]; omega) (hr.append hr2))
    · cases hf
  · split at hf
    · rename_i hz
      cases hf
      obtain ⟨a, xs, rfl, hq, hr, hl⟩ := hx.list
      obtain ⟨b, ys, rfl, hq2, hr2, hl2⟩ := hy.list
      have e1 := hr.length
      have e2 := hr2.length
      rw [sizeN_eq] at hz
      exact op_catL pins s σ H _ _ v u Q I rx ry ⟨a, b, xs, ys, rfl, rfl, hq, hq2, by omega, fun p hp => q _ _ (same_upd hp) (rr_newL hp (by rw [List.length_append]; omega) (hr.append hr2))⟩
    · cases hf
  · cases hf
/-- ints -/
def dI (C : Int → Int → Bool) (g : Int → Int → D) : D → D → Rs R
  | .int i, .int j => if C i j then .ok (.fr (g i j)) else .bad
  | _, _ => .bad
theorem v_int {f : Value → Value → Sem Value} {C : Int → Int → Bool} {C' : Int → Int → Prop} {g : Int → Int → V} {g' : Int → Int → D} (h : OpR X f (rI C' g)) (hC : ∀ i j, C i j = true → C' i j) (hg : ∀ K H O i j, Rep K H O (g i j) (g' i j)) : VOp X f (dI C g') := by
  refine vop_or h fun x y H Q ⟨O, d, e, r, hx, hy, hf, q⟩ => ?_
  unfold dI at hf
  split at hf
  · split at hf
    · rename_i hc
      cases hf
      exact ⟨_, _, hx.int, hy.int, hC _ _ hc, q _ H (Same.refl H) (hg _ _ _ _ _)⟩
    · cases hf
  · cases hf
theorem v_int0 {f : Value → Value → Sem Value} {g : Int → Int → V} {g' : Int → Int → D} (h : OpR X f (rI0 g)) (hg : ∀ K H O i j, Rep K H O (g i j) (g' i j)) : VOp X f (dI (fun _ _ => true) g') := by
  refine vop_or h fun x y H Q ⟨O, d, e, r, hx, hy, hf, q⟩ => ?_
  unfold dI at hf
  split at hf
  · simp only [if_true] at hf
    cases hf
    exact ⟨_, _, hx.int, hy.int, q _ H (Same.refl H) (hg _ _ _ _ _)⟩
  · cases hf
def dSub := dI (fun _ _ => true) fun i j => .int (i - j)
theorem v_sub : VOp X (binaryOp .Sub) dSub := v_int0 op_sub fun _ _ _ _ _ => .int _
def cMul (i j : Int) : Bool := (decide (-(2 ^ 64) < i) && decide (i < 2 ^ 64)) || (decide (-(2 ^ 64) < j) && decide (j < 2 ^ 64))
def dMul := dI cMul fun i j => .int (i * j)
theorem v_mul : VOp X (binaryOp .Mult) dMul := v_int op_mul (fun i j h => by
  unfold cMul at h
  simp only [Bool.or_eq_true, Bool.and_eq_true, decide_eq_true_eq] at h
  exact h) fun _ _ _ _ _ => .int _
def dMod := dI (fun _ j => decide (0 < j)) fun i j => .int (i % j)
theorem v_mod : VOp X (binaryOp .Mod) dMod := v_int op_mod (fun i j h => of_decide_eq_true h) fun _ _ _ _ _ => .int _
def dDiv := dI (fun _ j => decide (0 < j) && decide (j < 1073741824)) fun i j => .int (i / j)
theorem v_div : VOp X (binaryOp .FloorDiv) dDiv := v_int op_fdiv (fun i j h => by
  simp only [Bool.and_eq_true, decide_eq_true_eq] at h
  exact h) fun _ _ _ _ _ => .int _
def dPow := dI (fun i j => decide (0 ≤ j) && decide (j ≤ 1000) && decide (i.natAbs < 2 ^ 64)) fun i j => .int (i ^ j.toNat)
theorem v_pow : VOp X (binaryOp .Pow) dPow := v_int op_pow (fun i j h => by
  simp only [Bool.and_eq_true, decide_eq_true_eq] at h
  exact ⟨h.1.1, by omega, h.2⟩) fun _ _ _ _ _ => .int _
def dLt := dI (fun _ _ => true) fun i j => .bool (decide (i < j))
def dLe := dI (fun _ _ => true) fun i j => .bool (decide (i ≤ j))
def dGt := dI (fun _ _ => true) fun i j => .bool (decide (j < i))
def dGe := dI (fun _ _ => true) fun i j => .bool (decide (j ≤ i))
theorem v_lt : VOp X (compareOp .Lt) dLt := v_int0 op_lt fun _ _ _ _ _ => .bl _
theorem v_le : VOp X (compareOp .LtE) dLe := v_int0 op_le fun _ _ _ _ _ => .bl _
theorem v_gt : VOp X (compareOp .Gt) dGt := v_int0 op_gt fun _ _ _ _ _ => .bl _
theorem v_ge : VOp X (compareOp .GtE) dGe := v_int0 op_ge fun _ _ _ _ _ => .bl _
/-! == of data -/
/-- the data that == is known of -/
def okD (d : D) : Bool := d.plain && decide (d.depth ≤ 50)
theorem Rep.dp : ∀ {d : D} {v : V} {K : PySem.W.Frag} {H : Hp} {O : List Addr}, d.plain = true → Rep K H O v d → Dp K H v d
  | .none, _, _, _, _, _, h => by cases h; exact .non
  | .bool _, _, _, _, _, _, h => by cases h; exact .bl _
  | .int _, _, _, _, _, _, h => by cases h; exact .int _
  | .str _, _, _, _, _, _, h => by cases h; exact .str _
  | .list ds, _, _, _, _, p, h => by
    have p' : PyData.plainAll ds = true := p
    cases h with
    | lst h1 h2 hz h3 => exact .lst (.inl h1) (repsDp p' h3)
    | lstK h1 h3 => exact .lst (.inr h1) (repsDp p' h3)
  | .tuple ds, _, _, _, _, p, h => by
    have p' : PyData.plainAll ds = true := p
    cases h with
    | tup h1 h2 hz h3 => exact .tup (.inl h1) (repsDp p' h3)
    | tupK h1 h3 => exact .tup (.inr h1) (repsDp p' h3)
  | .dict _, _, _, _, _, p, _ => by cases p
where
  repsDp : ∀ {ds : List D} {vs : List V} {K : PySem.W.Frag} {H : Hp} {O : List Addr}, PyData.plainAll ds = true → Reps K H O vs ds → DpAll K H vs ds
  | [], _, _, _, _, _, h => by cases h; exact .nil
  | d :: ds, _, _, _, _, p, h => by
    have p' : (d.plain && PyData.plainAll ds) = true := p
    rw [Bool.and_eq_true] at p'
    cases h with
    | cons r t => exact .cons (Rep.dp p'.1 r) (repsDp p'.2 t)
theorem Top.dp {K : PySem.W.Frag} {H : Hp} {O : List Addr} {v : V} {d : D} (p : d.plain = true) (t : Top K H O v d) : Dp K H v d := Rep.dp p t.bare
def dEq : D → D → Rs R := fun d e => if okD d && okD e then .ok (.fr (.bool (PyData.eqv d e))) else .bad
def dNe : D → D → Rs R := fun d e => if okD d && okD e then .ok (.fr (.bool (!PyData.eqv d e))) else .bad
theorem v_eq (hu : X.A.units + 64 < cLine) : VOp X (compareOp .Eq) dEq := by
  intro pins s σ H x y v u Q I rx ry h
  obtain ⟨O, d, e, r, hx, hy, hf, q⟩ := h
  unfold dEq okD at hf
  split at hf
  · rename_i hc
    simp only [Bool.and_eq_true, decide_eq_true_eq] at hc
    cases hf
    obtain ⟨as, r1⟩ := Dp.reads I d x v (hx.dp hc.1.1) rx
    obtain ⟨bs, r2⟩ := Dp.reads I e y u (hy.dp hc.2.1) ry
    exact SeqAt.eq_plain r1 r2 hc.1.1 hc.2.1 (by omega) ⟨.bl _, H, I, rfl, q _ H (Same.refl H) (.bl _)⟩
  · cases hf
theorem v_ne (hu : X.A.units + 64 < cLine) : VOp X (compareOp .NotEq) dNe := by
  intro pins s σ H x y v u Q I rx ry h
  obtain ⟨O, d, e, r, hx, hy, hf, q⟩ := h
  unfold dNe okD at hf
  split at hf
  · rename_i hc
    simp only [Bool.and_eq_true, decide_eq_true_eq] at hc
    cases hf
    obtain ⟨as, r1⟩ := Dp.reads I d x v (hx.dp hc.1.1) rx
    obtain ⟨bs, r2⟩ := Dp.reads I e y u (hy.dp hc.2.1) ry
    exact SeqAt.ne_plain r1 r2 hc.1.1 hc.2.1 (by omega) ⟨.bl _, H, I, rfl, q _ H (Same.refl H) (.bl _)⟩
  · cases hf
end
end VL
namespace VL
open PySem PySem.Spec
open PyProof.Rows L2
variable [Vx]
/-! ### dicts as data -/
def kEq : D → D → Bool
  | .int i, .int j => decide (i = j)
  | .str x, .str y => decide (x = y)
  | _, _ => false
def isKey : D → Bool
  | .int _ => true
  | .str _ => true
  | _ => false
def dgetD (kvs : List (D × D)) (k : D) : Option D := (kvs.find? fun p => kEq p.1 k).map (·.2)
def dputD (kvs : List (D × D)) (k v : D) : List (D × D) := if (kvs.any fun p => kEq p.1 k) = true then kvs.map (fun p => if kEq p.1 k = true then (p.1, v) else p) else kvs ++ [(k, v)]
def ddropD (kvs : List (D × D)) (k : D) : List (D × D) := kvs.filter fun p => !kEq p.1 k
/-- not a def -/
def okDict : List (D × D) → Bool
  | (.none, _) :: _ => false
  | _ => true
theorem kEq_kD (a b : Key) : kEq (kD a) (kD b) = decide (a = b) := by
  cases a <;> cases b <;> simp [kD, kEq]
theorem isKey_kD {d : D} (h : isKey d = true) : ∃ k : Key, d = kD k := by
  cases d with
  | int i => exact ⟨.inl i, rfl⟩
  | str x => exact ⟨.inr x, rfl⟩
  | _ => cases h
theorem rep_kD {K : PySem.W.Frag} {H : Hp} {O : List Addr} {v : V} {k : Key} (h : Top K H O v (kD k)) : v = kV k := by
  cases k with
  | inl i => exact h.int
  | inr x => exact h.str
section
variable {K : PySem.W.Frag} {H : Hp} {O : List Addr} {v : V}
theorem KReps.get {k : Key} : ∀ {vs : List (Key × V)} {ds : List (D × D)}, KReps K H O vs ds → (∀ d, dgetD ds (kD k) = some d → ∃ v, valV vs k = some v ∧ Rep K H O v d) ∧ (dgetD ds (kD k) = none → valV vs k = none)
  | _, _, .nil => ⟨(fun d h => nomatch h), fun _ => rfl⟩
  | _, _, .cons (k := k') (v := w) (d := d0) (vs := vs) (ds := ds) r t => by
    obtain ⟨h1, h2⟩ := KReps.get (k := k) t
    unfold dgetD at h1 h2 ⊢
    rw [List.find?_cons]
    dsimp only
    rw [kEq_kD]
    by_cases e : k' = k
    · rw [decide_eq_true e]
      exact ⟨fun d h => by cases h; exact ⟨w, valV_pos e, r⟩, fun h => by cases h⟩
    · rw [decide_eq_false e]
      rw [valV_neg (p := (k', w)) e]
      exact ⟨h1, h2⟩
theorem KReps.length : ∀ {vs : List (Key × V)} {ds : List (D × D)}, KReps K H O vs ds → vs.length = ds.length
  | _, _, .nil => rfl
  | _, _, .cons _ t => congrArg (· + 1) (KReps.length t)
theorem KReps.anyK {k : Key} : ∀ {vs : List (Key × V)} {ds : List (D × D)}, KReps K H O vs ds → (vs.any fun kv => decide (kv.1 = k)) = ds.any fun p => kEq p.1 (kD k)
  | _, _, .nil => rfl
  | _, _, .cons (k := k') r t => by
    rw [List.any_cons, List.any_cons, KReps.anyK t]
    dsimp only
    rw [kEq_kD]
theorem KReps.mapK {k : Key} {d : D} (r : Rep K H O v d) : ∀ {vs : List (Key × V)} {ds : List (D × D)}, KReps K H O vs ds → KReps K H O (vs.map fun kv => if kv.1 = k then (kv.1, v) else kv) (ds.map fun p => if kEq p.1 (kD k) = true then (p.1, d) else p)
  | _, _, .nil => .nil
  | _, _, .cons (k := k') q t => by
    rw [List.map_cons, List.map_cons]
    dsimp only
    rw [kEq_kD]
    by_cases e : k' = k
    · rw [if_pos e, if_pos (decide_eq_true e)]
      exact .cons r (KReps.mapK r t)
    · rw [if_neg e, if_neg (by rw [decide_eq_false e]; exact Bool.false_ne_true)]
      exact .cons q (KReps.mapK r t)
theorem KReps.append : ∀ {vs ws : List (Key × V)} {ds es : List (D × D)}, KReps K H O vs ds → KReps K H O ws es → KReps K H O (vs ++ ws) (ds ++ es)
  | _, _, _, _, .nil, s => s
  | _, _, _, _, .cons r t, s => .cons r (KReps.append t s)
theorem KReps.put {k : Key} {d : D} {vs : List (Key × V)} {ds : List (D × D)} (r : Rep K H O v d) (h : KReps K H O vs ds) : KReps K H O (putK vs k v) (dputD ds (kD k) d) := by
  unfold putK dputD
  rw [h.anyK (k := k)]
  split
  · exact h.mapK r
  · exact h.append (.cons r .nil)
theorem KReps.drop {k : Key} : ∀ {vs : List (Key × V)} {ds : List (D × D)}, KReps K H O vs ds → KReps K H O (dropK vs k) (ddropD ds (kD k))
  | _, _, .nil => .nil
  | _, _, .cons (k := k') (v := w) (d := d0) (vs := vs) (ds := ds) q t => by
    have ih := KReps.drop (k := k) t
    unfold dropK ddropD at ih ⊢
    rw [List.filter_cons, List.filter_cons]
    dsimp only
    rw [kEq_kD]
    by_cases e : k' = k
    · simp only [e, ne_eq, not_true, decide_false, decide_true, Bool.not_true]
      exact ih
    · simp only [e, ne_eq, not_false_iff, decide_true, decide_false, Bool.not_false, if_true]
      exact .cons q ih
/-- what a dict's data stands for -/
theorem Top.dict {ds : List (D × D)} (t : Top K H O v (.dict ds)) (h : okDict ds = true) : ∃ a vs, v = .ref a ∧ Rd H a (.dK vs) ∧ KReps K H O vs ds := by
  cases t with
  | rep r =>
    generalize hd : PyData.dict ds = d at r
    cases r with
    | dic h1 h2 h3 => cases hd; exact ⟨_, _, rfl, h1, h3⟩
    | fn h1 => unfold fnD at hd; cases hd; cases h
    | dicX h1 h2 h3 => unfold xD at hd; cases hd; cases h
    | ins h1 h2 h3 h4 => unfold insD at hd; cases hd; cases h
    | _ => cases hd
  | dic h1 h3 => exact ⟨_, _, rfl, .inl h1, h3⟩
end
/-- d[y], there, by values -/
theorem ix_dict {X : Cx} (hu : X.A.units + 64 < cLine) : IxR X (fun x y H Q => ∃ a v, x = .ref a ∧ DGet H a y (some v) ∧ Q v H) := by
  intro value slice pins s σ H x y v u Q I rx ry h hs
  obtain ⟨a, w, rfl, g, q⟩ := h
  obtain rfl : v = Value.ref a := rx
  exact tail_any (dict_typeIs I g) slot_dict_getitem.lookup (d_getItem (by omega) I g ry fun w' s' I' rw' => ⟨w, H, I', rw', q⟩) hs
section
variable {X : Cx}
/-! x in c, c a list, a tuple, a text (one sign), a dict -/
def dInB (neg : Bool) (b : Bool) : Rs R := .ok (.fr (.bool (if neg then !b else b)))
def signOf (x : Str) : Option Nat := match x.cps.toList with
  | [c] => some c
  | _ => none
theorem signOf_eq {x : Str} {c : Nat} (h : signOf x = some c) : x = ⟨#[c]⟩ := by
  unfold signOf at h
  split at h
  · rename_i c' e
    cases h
    cases x with
    | mk cps =>
      simp only at e
      congr 1
      apply Array.toList_inj.mp
      rw [e]
  · cases h
def dIn (neg : Bool) : D → D → Rs R
  | d, .list ds => if okD d && okD (.list ds) then dInB neg (ds.any fun y => PyData.eqv y d) else .bad
  | d, .tuple ds => if okD d && okD (.tuple ds) then dInB neg (ds.any fun y => PyData.eqv y d) else .bad
  | .str x, .str y => match signOf x with
    | some c => dInB neg (decide (c ∈ y.cps.toList))
    | none => .bad
  | d, .dict kvs => if isKey d && okDict kvs then dInB neg (dgetD kvs d).isSome else .bad
  | _, _ => .bad
theorem dIn_get {K : PySem.W.Frag} {H : Hp} {O : List Addr} {x y : V} {d : D} {kvs : List (D × D)} (hc : (isKey d && okDict kvs) = true) (hx : Top K H O x d) (hy : Top K H O y (.dict kvs)) : ∃ a o, y = .ref a ∧ DGet H a x o ∧ o.isSome = (dgetD kvs d).isSome := by
  rw [Bool.and_eq_true] at hc
  obtain ⟨k, rfl⟩ := isKey_kD hc.1
  obtain ⟨a, vs, rfl, h1, h2⟩ := hy.dict hc.2
  obtain ⟨g1, g2⟩ := h2.get (k := k)
  refine ⟨a, valV vs k, rfl, by rw [rep_kD hx]; exact .inl ⟨vs, k, h1, rfl, rfl⟩, ?_⟩
  cases e : dgetD kvs (kD k) with
  | none => rw [g2 e]; rfl
  | some d' =>
    obtain ⟨v, e2, _⟩ := g1 d' e
    rw [e2]
    rfl
theorem dInB_ok {K : PySem.W.Frag} {neg b : Bool} {r : R} {O : List Addr} {H : Hp} {Q : VK} (h : dInB neg b = .ok r) (q : ∀ v H', Same H H' → RR K O H H' v r → Q v H') : Q (.bl (if neg then !b else b)) H := by
  unfold dInB at h
  cases h
  exact q _ H (Same.refl H) (.bl _)
theorem okD_seq {d : D} {ds : List D} {A : Nat} (h : (okD d && okD (.list ds)) = true) (hu : A + 64 < cLine) : d.plain = true ∧ PyData.plainAll ds = true ∧ A + 1 + min (PyData.depthAll ds) d.depth < cLine := by
  unfold okD at h
  simp only [Bool.and_eq_true, decide_eq_true_eq] at h
  exact ⟨h.1.1, h.2.1, by omega⟩
theorem v_in (hu : X.A.units + 64 < cLine) : VOp X (compareOp .In) (dIn false) := by
  intro pins s σ H x y v u Q I rx ry h
  obtain ⟨O, d, e, r, hx, hy, hf, q⟩ := h
  unfold dIn at hf
  split at hf
  · rename_i ds
    split at hf
    · rename_i hc
      obtain ⟨p1, p2, hm⟩ := okD_seq hc hu
      have fin := dInB_ok hf q
      obtain ⟨as, r1⟩ := Dp.reads I _ x v (hx.dp p1) rx
      obtain ⟨bs, r2⟩ := Dp.reads I (.list ds) y u (hy.dp p2) ry
      exact SeqAt.in_list_data r2 r1 p2 p1 hm ⟨.bl _, H, I, rfl, fin⟩
    · cases hf
  · rename_i ds
    split at hf
    · rename_i hc
      obtain ⟨p1, p2, hm⟩ := okD_seq (ds := ds) hc hu
      have fin := dInB_ok hf q
      obtain ⟨as, r1⟩ := Dp.reads I _ x v (hx.dp p1) rx
      obtain ⟨bs, r2⟩ := Dp.reads I (.tuple ds) y u (hy.dp p2) ry
      exact SeqAt.in_tuple_data r2 r1 p2 p1 hm ⟨.bl _, H, I, rfl, fin⟩
    · cases hf
  · split at hf
    · rename_i c e
      have fin := dInB_ok hf q
      exact op_in_sign pins s σ H x y v u Q I rx ry ⟨c, _, by rw [hx.str, signOf_eq e], hy.str, fin⟩
    · cases hf
  · split at hf
    · rename_i hc
      have fin := dInB_ok hf q
      obtain ⟨a, o, rfl, g, e⟩ := dIn_get hc hx hy
      obtain rfl : u = Value.ref a := ry
      exact d_in (by omega) I g rx fun s' I' => ⟨.bl o.isSome, H, I', rfl, by rw [e]; exact fin⟩
    · cases hf
  · cases hf
theorem v_notin (hu : X.A.units + 64 < cLine) : VOp X (compareOp .NotIn) (dIn true) := by
  intro pins s σ H x y v u Q I rx ry h
  obtain ⟨O, d, e, r, hx, hy, hf, q⟩ := h
  unfold dIn at hf
  split at hf
  · rename_i ds
    split at hf
    · rename_i hc
      obtain ⟨p1, p2, hm⟩ := okD_seq hc hu
      have fin := dInB_ok hf q
      obtain ⟨as, r1⟩ := Dp.reads I _ x v (hx.dp p1) rx
      obtain ⟨bs, r2⟩ := Dp.reads I (.list ds) y u (hy.dp p2) ry
      exact SeqAt.notIn_list_data r2 r1 p2 p1 hm ⟨.bl _, H, I, rfl, fin⟩
    · cases hf
  · rename_i ds
    split at hf
    · rename_i hc
      obtain ⟨p1, p2, hm⟩ := okD_seq (ds := ds) hc hu
      have fin := dInB_ok hf q
      obtain ⟨as, r1⟩ := Dp.reads I _ x v (hx.dp p1) rx
      obtain ⟨bs, r2⟩ := Dp.reads I (.tuple ds) y u (hy.dp p2) ry
      exact SeqAt.notIn_tuple_data r2 r1 p2 p1 hm ⟨.bl _, H, I, rfl, fin⟩
    · cases hf
  · split at hf
    · rename_i c e
      have fin := dInB_ok hf q
      exact op_notIn_sign pins s σ H x y v u Q I rx ry ⟨c, _, by rw [hx.str, signOf_eq e], hy.str, fin⟩
    · cases hf
  · split at hf
    · rename_i hc
      have fin := dInB_ok hf q
      obtain ⟨a, o, rfl, g, e⟩ := dIn_get hc hx hy
      obtain rfl : u = Value.ref a := ry
      exact d_notIn (by omega) I g rx fun s' I' => ⟨.bl (!o.isSome), H, I', rfl, by rw [e]; exact fin⟩
    · cases hf
  · cases hf
/-! is None -/
def isNone : D → Bool
  | .none => true
  | _ => false
def dIsN (d e : D) : Rs R := match e with
  | .none => .ok (.fr (.bool (isNone d)))
  | _ => .bad
def dNotN (d e : D) : Rs R := match e with
  | .none => .ok (.fr (.bool (!isNone d)))
  | _ => .bad
theorem Top.isNone {K : PySem.W.Frag} {H : Hp} {O : List Addr} {v : V} {d : D} (t : Top K H O v d) : decide (v = .non) = VL.isNone d := by
  cases t with
  | rep r => cases r <;> first | rfl | exact decide_eq_false (fun z => nomatch z)
  | lst _ _ _ => exact decide_eq_false (fun z => nomatch z)
  | dic _ _ => exact decide_eq_false (fun z => nomatch z)
theorem v_isN : VOp X (compareOp .Is) dIsN := by
  refine vop_or op_isN fun x y H Q ⟨O, d, e, r, hx, hy, hf, q⟩ => ?_
  unfold dIsN at hf
  split at hf
  · cases hf
    refine ⟨hy.none, ?_⟩
    rw [hx.isNone]
    exact q _ H (Same.refl H) (.bl _)
  · cases hf
theorem v_notN : VOp X (compareOp .IsNot) dNotN := by
  refine vop_or op_notN fun x y H Q ⟨O, d, e, r, hx, hy, hf, q⟩ => ?_
  unfold dNotN at hf
  split at hf
  · cases hf
    refine ⟨hy.none, ?_⟩
    rw [hx.isNone]
    exact q _ H (Same.refl H) (.bl _)
  · cases hf
/-! ### subscripts -/
def atD (ds : List D) (i : Int) : Rs R := match atI ds i with
  | some d => .ok (.fr d)
  | none => .bad
def dIx : D → D → Rs R
  | .list ds, .int i => atD ds i
  | .tuple ds, .int i => atD ds i
  | .str x, .int i => if x.length ≤ sizeN then match atI x.cps.toList i with
    | some c => .ok (.fr (.str ⟨#[c]⟩))
    | none => .bad
    else .bad
  | .dict kvs, k => if isKey k && okDict kvs then match dgetD kvs k with
    | some d => .ok (.fr d)
    | none => .bad
    else .bad
  | _, _ => .bad
def VIx (X : Cx) (F : D → D → Rs R) : Prop :=
  IxR X fun x y H Q => ∃ O d e r, Top X.K H O x d ∧ Top X.K H O y e ∧ F d e = .ok r ∧ ∀ v H', Same H H' → RR X.K O H H' v r → Q v H'
theorem reps_at {K : PySem.W.Frag} {H : Hp} {O : List Addr} {vs : List V} {ds : List D} {i : Int} {d : D} (r : Reps K H O vs ds) (h : atI ds i = some d) : ∃ v, atI vs i = some v ∧ Rep K H O v d := by
  unfold atI at h ⊢
  rw [r.length]
  cases e : ixN ds.length i with
  | none => rw [e] at h; cases h
  | some j =>
    rw [e] at h
    exact r.get' (i := j) h
theorem v_ix (hu : X.A.units + 64 < cLine) : VIx X dIx := by
  intro value slice pins s σ H x y v u Q I rx ry h hs
  obtain ⟨O, d, e, r, hx, hy, hf, q⟩ := h
  unfold dIx at hf
  split at hf
  · unfold atD at hf
    split at hf
    · rename_i d' ed
      cases hf
      obtain ⟨a, xs, rfl, hq, hr, _⟩ := hx.list
      obtain ⟨w, h1, h2⟩ := reps_at hr ed
      exact ix_list value slice pins s σ H _ y v u Q I rx ry ⟨a, xs, _, w, rfl, hy.int, hq, h1, q _ H (Same.refl H) h2⟩ hs
    · cases hf
  · unfold atD at hf
    split at hf
    · rename_i d' ed
      cases hf
      obtain ⟨a, xs, rfl, hq, hr, _⟩ := hx.tuple
      obtain ⟨w, h1, h2⟩ := reps_at hr ed
      exact ix_tup value slice pins s σ H _ y v u Q I rx ry ⟨a, xs, _, w, rfl, hy.int, hq, h1, q _ H (Same.refl H) h2⟩ hs
    · cases hf
  · split at hf
    · rename_i hz
      split at hf
      · rename_i c ec
        cases hf
        rw [sizeN_eq] at hz
        exact ix_str value slice pins s σ H x y v u Q I rx ry ⟨_, _, c, hx.str, hy.int, hz, ec, q _ H (Same.refl H) (.str _)⟩ hs
      · cases hf
    · cases hf
  · split at hf
    · rename_i hc
      split at hf
      · rename_i d' ed
        cases hf
        rw [Bool.and_eq_true] at hc
        obtain ⟨k, rfl⟩ := isKey_kD hc.1
        obtain ⟨a, vs, rfl, h1, h2⟩ := hx.dict hc.2
        obtain ⟨w, h3, h4⟩ := (h2.get (k := k)).1 d' ed
        exact ix_dict hu value slice pins s σ H _ y v u Q I rx ry ⟨a, w, rfl, by rw [rep_kD hy, ← h3]; exact .inl ⟨vs, k, h1, rfl, rfl⟩, q _ H (Same.refl H) h4⟩ hs
      · cases hf
    · cases hf
  · cases hf
variable {a b c e : Expr} {es : List Expr} {f fa fb fc : FE} {g : En → Rs (List R)} {pos p p2 : Pos}
theorem e_ix (hu : X.A.units + 64 < cLine) (ha : EV X a fa) (hb : EV X b fb) (hs : PlainIx b := by exact fun _ _ => rfl) : EV X (.Subscript a b pos) (fOp dIx fa fb) :=
  ⟨pe_imp (pe_ix (v_ix hu) ha.run hb.run hs) fun σ H Q h => two ha hb h⟩
/-! slices -/
/-- an optional part -/
def fNoP : En → Rs (Option Int) := fun _ => .ok none
def fP (f : FE) : En → Rs (Option Int) := fun ρ => (f ρ).bind fun r => match r with
  | .fr (.int i) => .ok (some i)
  | _ => .bad
def tO (K : PySem.W.Frag) (f : En → Rs (Option Int)) : TO := fun σ H Q => ∃ O ρ o, ER K O H σ ρ ∧ f ρ = .ok o ∧ ∀ H', Same H H' → Q o H'
structure OV (X : Cx) (e : Option Expr) (f : En → Rs (Option Int)) : Prop where
  run : PO X e (tO X.K f)
theorem o_none : OV X none fNoP := ⟨⟨fun pins s σ H Q I ⟨O, ρ, o, J, hf, q⟩ => by
  cases hf
  exact po_none.run pins s σ H Q I (q H (Same.refl H))⟩⟩
theorem o_some (h : EV X e f) : OV X (some e) (fP f) := ⟨⟨fun pins s σ H Q I ⟨O, ρ, o, J, hf, q⟩ => by
  obtain ⟨r, e1, hf⟩ := Rs.bind_eq hf
  refine (po_some h.run).run pins s σ H Q I ⟨O, ρ, r, J, e1, fun v H1 s1 rr => ?_⟩
  split at hf
  · cases hf
    cases (show Rep X.K H1 O v (.int _) from rr)
    exact ⟨_, rfl, q H1 s1⟩
  · cases hf⟩⟩
/-- the items of xs[lo:hi] -/
def cutD {α : Type} (xs : List α) (lo hi : Option Int) : List α := (xs.drop (HT.sIx xs.length 0 lo)).take (HT.sIx xs.length xs.length hi - HT.sIx xs.length 0 lo)
def dSl (d : D) (lo hi : Option Int) : Rs R := match d with
  | .list ds => .ok (.ol (cutD ds lo hi))
  | .tuple ds => .ok (.fr (.tuple (cutD ds lo hi)))
  | _ => .bad
def fSl (f : FE) (l h : En → Rs (Option Int)) : FE := fun ρ => (f ρ).bind fun r => (l ρ).bind fun lo => (h ρ).bind fun hi => opU (fun d => dSl d lo hi) r
theorem reps_cut {K : PySem.W.Frag} {H : Hp} {O : List Addr} {vs : List V} {ds : List D} (r : Reps K H O vs ds) (lo hi : Option Int) : Reps K H O (cutV vs lo hi) (cutD ds lo hi) := by
  unfold cutV cutD
  rw [r.length]
  exact (r.drop _).take _
theorem sIx_whole {α : Type} {xs : List α} {lo hi : Option Int} (h : HT.sIx xs.length 0 lo = 0 ∧ HT.sIx xs.length xs.length hi = xs.length) : cutD xs lo hi = xs := by
  unfold cutD
  rw [h.1, h.2]
  simp
theorem e_slice {lo hi : Option Expr} {l h : En → Rs (Option Int)} (he : EV X e f) (hl : OV X lo l) (hh : OV X hi h) : EV X (.Subscript e (.Slice lo hi none p2) pos) (fSl f l h) := by
  refine ⟨pe_imp (pe_slice (sl_list.or sl_tupA) he.run hl.run hh.run) fun σ H Q ⟨O, ρ, r, I, hf, q⟩ => ?_⟩
  obtain ⟨x, e1, hf⟩ := Rs.bind_eq hf
  obtain ⟨lo, e2, hf⟩ := Rs.bind_eq hf
  obtain ⟨hi, e3, hf⟩ := Rs.bind_eq hf
  refine ⟨O, ρ, x, I, e1, fun v H1 s1 rr => ⟨O, ρ, lo, I.same s1, e2, fun H2 s2 => ⟨O, ρ, hi, I.same (s1.trans s2), e3, fun H3 s3 => ?_⟩⟩⟩
  have s13 := (s1.trans s2).trans s3
  obtain ⟨O', r', t, hg, hf, back⟩ := opU_top (I.hg.same s13) (rr.right (s2.trans s3)) hf
  unfold dSl at hf
  split at hf
  · rename_i ds ed
    cases hf
    rw [ed] at t
    obtain ⟨a, xs, rfl, hq, hr, hz⟩ := t.list
    exact .inl ⟨a, xs, rfl, hq, fun p hp => q _ _ (s13.trans (same_upd hp)) ((back _ _ (same_upd hp) (rr_newL hp (Nat.le_trans (cutV_length xs lo hi) hz) (reps_cut hr lo hi))).left s13)⟩
  · rename_i ds ed
    cases hf
    rw [ed] at t
    obtain ⟨a, xs, rfl, hq, hr, hz⟩ := t.tuple
    have bk : Rep X.K H3 O' (.ref a) (.tuple ds) := by
      cases t with
      | rep r => exact r
    refine .inr ⟨a, xs, rfl, hq, fun w => ?_, fun _ p hp => q _ _ (s13.trans (same_upd hp)) ((back _ _ (same_upd hp) (rr_newT hg.tr hp (Nat.le_trans (cutV_length xs lo hi) hz) (reps_cut hr lo hi))).left s13)⟩
    rw [hr.length] at w
    have ew := sIx_whole w
    exact q _ H3 s13 ((back (.ref a) H3 (Same.refl _) (show Rep X.K H3 O' (.ref a) (.tuple (cutD ds lo hi)) by rw [ew]; exact bk)).left s13)
  · cases hf
/-! ### displays -/
def fzL (rs : List R) (k : List D → R) : Rs R := match fzAll rs with
  | some ds => .ok (k ds)
  | none => .bad
def fLst (g : En → Rs (List R)) : FE := fun ρ => (g ρ).bind fun rs => fzL rs .ol
def fTup (g : En → Rs (List R)) : FE := fun ρ => (g ρ).bind fun rs => fzL rs fun ds => .fr (.tuple ds)
theorem e_lst (h : AV X es g) (hz : es.length ≤ 16777216 := by decide) : EV X (.List es pos) (fLst g) := by
  refine ⟨pe_imp (pe_lst h.run) fun σ H Q ⟨O, ρ, r, I, hf, q⟩ => ?_⟩
  obtain ⟨rs, e1, hf⟩ := Rs.bind_eq hf
  refine ⟨O, ρ, rs, I, e1, fun vs H1 s1 hv => ?_⟩
  unfold fzL at hf
  split at hf
  · rename_i ds ed
    cases hf
    have hr := fzAll_reps I.tr hv ed
    have hl : vs.length ≤ sizeLine := by rw [hv.length, h.len ρ rs e1, sizeLine_eq]; exact hz
    exact ⟨hl, fun p hp => q _ _ (s1.trans (same_upd hp)) ((rr_newL hp hl hr).left s1)⟩
  · cases hf
theorem e_tup {k : Nat} (h : AV X es g) (hz : es.length ≤ 16777216 := by decide) : EV X (.Tuple es k pos) (fTup g) := by
  refine ⟨pe_imp (pe_tup h.run) fun σ H Q ⟨O, ρ, r, I, hf, q⟩ => ?_⟩
  obtain ⟨rs, e1, hf⟩ := Rs.bind_eq hf
  refine ⟨O, ρ, rs, I, e1, fun vs H1 s1 hv => ?_⟩
  unfold fzL at hf
  split at hf
  · rename_i ds ed
    cases hf
    have hr := fzAll_reps I.tr hv ed
    have hl : vs.length ≤ sizeLine := by rw [hv.length, h.len ρ rs e1, sizeLine_eq]; exact hz
    exact ⟨hl, fun p hp => q _ _ (s1.trans (same_upd hp)) ((rr_newT (Same.tr s1 I.tr) hp hl hr).left s1)⟩
  · cases hf
/-- [..] * n -/
def oRep : R → R → Rs R
  | .ol xs, .fr (.int k) => if decide (0 ≤ k) && decide (k ≤ 1000000) && decide (xs.length * k.toNat ≤ sizeN) then .ok (.ol (List.replicate k.toNat xs).flatten) else .bad
  | _, _ => .bad
def fRep (fa fb : FE) : FE := fun ρ => (fa ρ).bind fun x => (fb ρ).bind fun y => oRep x y
theorem len_rep {α : Type} (xs : List α) : ∀ k : Nat, (List.replicate k xs).flatten.length = k * xs.length
  | 0 => by simp
  | k + 1 => by
    rw [List.replicate_succ, List.flatten_cons, List.length_append, len_rep xs k, Nat.succ_mul]
    omega
theorem e_rep (ha : EV X a fa) (hb : EV X b fb) : EV X (.BinOp a .Mult b pos) (fRep fa fb) := by
  refine ⟨pe_imp (pe_op op_rep ha.run hb.run) fun σ H Q ⟨O, ρ, r, I, hf, q⟩ => ?_⟩
  obtain ⟨x, e1, hf⟩ := Rs.bind_eq hf
  obtain ⟨y, e2, hf⟩ := Rs.bind_eq hf
  refine ⟨O, ρ, x, I, e1, fun v H1 s1 r1 => ⟨O, ρ, y, I.same s1, e2, fun u H2 s2 r2 => ?_⟩⟩
  unfold oRep at hf
  split at hf
  · rename_i _ xs k _
    split at hf
    · rename_i hc
      simp only [Bool.and_eq_true, decide_eq_true_eq] at hc
      cases hf
      obtain ⟨l, vs, rfl, h0, h1, hz, hr⟩ := r1
      cases (show Rep X.K H2 O u (.int k) from r2)
      have hn := hc.2
      rw [sizeN_eq] at hn
      have hr2 : Reps X.K H2 O vs xs := (hr.same s2).less fun a z => List.mem_cons_of_mem _ z
      have hl := hr2.length
      refine ⟨l, k, vs, rfl, rfl, s2 _ _ h1, by omega, by omega, by rw [hl]; exact hn, fun p hp => ?_⟩
      have s12 := s1.trans s2
      exact q _ _ (s12.trans (same_upd hp)) ((rr_newL hp (by rw [len_rep, hl, Nat.mul_comm]; exact hn) (hr2.rep k.toNat)).left s12)
    · cases hf
  · cases hf
/-! ### calls of built-ins -/
/-- the call of f is F -/
def rCallT (K : PySem.W.Frag) (F : List D → Rs R) : List V → Hp → VK → Prop := fun xs H Q => ∃ (O : List Addr) (ds : List D) (r : R), All2 (Top K H O) xs ds ∧ (∀ a ∈ O, H a ≠ none) ∧ F ds = .ok r ∧ ∀ v H', Same H H' → RR K O H H' v r → Q v H'
def VCall (X : Cx) (f : Value) (F : List D → Rs R) : Prop := CallR X f (rCallT X.K F)
def fBlt (F : List D → Rs R) (g : En → Rs (List R)) : FE := fun ρ => (g ρ).bind (opL F)
theorem e_blt {F : List D → Rs R} {id : String} {x : Str} (hc : VCall X (.builtin id) F) (hm : X.mg x = none) (hv : bootBuiltins x = some (.builtin id)) (ha : AV X (e :: es) g) (hg : Gl X x := by rfl) (hn : x ≠ "__name__" := by decide) (hdb : (x == ("__debug__" : Str)) = false := by decide)
    (he : starEach (e :: es) X.env = (false, eval e X.env) :: starEach es X.env := by rfl) (hpl : (backTo pos (starEach es X.env)).any (·.1) = false := by rfl) : EV X (.Call (.Name x p) (e :: es) [] pos) (fBlt F g) := by
  refine ⟨pe_imp (pe_callB hc hg hm hv ha.run hn hdb he hpl) fun σ H Q ⟨O, ρ, r, I, hf, q⟩ => ?_⟩
  obtain ⟨rs, e1, hf⟩ := Rs.bind_eq hf
  refine ⟨O, ρ, rs, I, e1, fun vs H1 s1 hv => ?_⟩
  obtain ⟨O', r', t, hg, hf, back⟩ := opL_top (I.hg.same s1) hv hf
  exact ⟨O', _, r', t, hg.tr, hf, fun v H' s2 rr => q v H' (s1.trans s2) ((back v H' s2 rr).left s1)⟩
theorem e_ty {F : List D → Rs R} {T : String} {x : Str} (hc : VCall X (.type T) F) (hm : X.mg x = none) (hv : bootBuiltins x = some (.type T)) (ha : AV X (e :: es) g) (hg : Gl X x := by rfl) (hn : x ≠ "__name__" := by decide) (hdb : (x == ("__debug__" : Str)) = false := by decide)
    (he : starEach (e :: es) X.env = (false, eval e X.env) :: starEach es X.env := by rfl) (hpl : (backTo pos (starEach es X.env)).any (·.1) = false := by rfl) : EV X (.Call (.Name x p) (e :: es) [] pos) (fBlt F g) := by
  refine ⟨pe_imp (pe_callTy hc hg hm hv ha.run hn hdb he hpl) fun σ H Q ⟨O, ρ, r, I, hf, q⟩ => ?_⟩
  obtain ⟨rs, e1, hf⟩ := Rs.bind_eq hf
  refine ⟨O, ρ, rs, I, e1, fun vs H1 s1 hv => ?_⟩
  obtain ⟨O', r', t, hg, hf, back⟩ := opL_top (I.hg.same s1) hv hf
  exact ⟨O', _, r', t, hg.tr, hf, fun v H' s2 rr => q v H' (s1.trans s2) ((back v H' s2 rr).left s1)⟩
theorem vcall_or {f : Value} {r : List V → Hp → VK → Prop} {F : List D → Rs R} (h : CallR X f r) (i : ∀ xs H Q, (∃ O ds r, All2 (Top X.K H O) xs ds ∧ (∀ a ∈ O, H a ≠ none) ∧ F ds = .ok r ∧ ∀ v H', Same H H' → RR X.K O H H' v r → Q v H') → r xs H Q) : VCall X f F :=
  fun pins s σ H xs us Q I rx h1 => h pins s σ H xs us Q I rx (i xs H Q h1)
/-- len -/
def dLen : List D → Rs R
  | [.list ds] => .ok (.fr (.int ds.length))
  | [.tuple ds] => .ok (.fr (.int ds.length))
  | [.str x] => if x.length ≤ sizeN then .ok (.fr (.int x.length)) else .bad
  | _ => .bad
theorem c_len : VCall X (.builtin "len") dLen := by
  refine vcall_or call_len fun xs H Q ⟨O, ds, r, hx, ht, hf, q⟩ => ?_
  unfold dLen at hf
  split at hf
  · obtain ⟨v, rfl, hv⟩ := all2_1 hx
    cases hf
    obtain ⟨a, vs, rfl, hq, hr, _⟩ := hv.list
    exact ⟨_, _, rfl, .inl ⟨vs, hq, rfl⟩, q _ H (Same.refl H) (by rw [hr.length]; exact .int _)⟩
  · obtain ⟨v, rfl, hv⟩ := all2_1 hx
    cases hf
    obtain ⟨a, vs, rfl, hq, hr, _⟩ := hv.tuple
    exact ⟨_, _, rfl, .inr ⟨vs, hq, rfl⟩, q _ H (Same.refl H) (by rw [hr.length]; exact .int _)⟩
  · obtain ⟨v, rfl, hv⟩ := all2_1 hx
    split at hf
    · rename_i hz
      cases hf
      cases hv.str
      rw [sizeN_eq] at hz
      exact ⟨_, _, rfl, ⟨hz, rfl⟩, q _ H (Same.refl H) (.int _)⟩
    · cases hf
  · cases hf
/-- min, max of two ints -/
def dMin2 : List D → Rs R
  | [.int i, .int j] => .ok (.fr (.int (if j < i then j else i)))
  | _ => .bad
def dMax2 : List D → Rs R
  | [.int i, .int j] => .ok (.fr (.int (if j > i then j else i)))
  | _ => .bad
theorem c_min2 (hc : X.calm = true) : VCall X (.builtin "min") dMin2 := by
  refine vcall_or (call_min2 hc) fun xs H Q ⟨O, ds, r, hx, ht, hf, q⟩ => ?_
  unfold dMin2 at hf
  split at hf
  · obtain ⟨v, w, rfl, hv, hw⟩ := all2_2 hx
    cases hf
    exact ⟨_, _, by rw [hv.int, hw.int], q _ H (Same.refl H) (.int _)⟩
  · cases hf
theorem c_max2 (hc : X.calm = true) : VCall X (.builtin "max") dMax2 := by
  refine vcall_or (call_max2 hc) fun xs H Q ⟨O, ds, r, hx, ht, hf, q⟩ => ?_
  unfold dMax2 at hf
  split at hf
  · obtain ⟨v, w, rfl, hv, hw⟩ := all2_2 hx
    cases hf
    exact ⟨_, _, by rw [hv.int, hw.int], q _ H (Same.refl H) (.int _)⟩
  · cases hf
/-- list(x), tuple(x) of a list or a tuple -/
def dListOf : List D → Rs R
  | [.list ds] => .ok (.ol ds)
  | [.tuple ds] => .ok (.ol ds)
  | _ => .bad
theorem c_list : VCall X (.type "list") dListOf := by
  refine vcall_or call_list_of fun xs H Q ⟨O, ds, r, hx, ht, hf, q⟩ => ?_
  unfold dListOf at hf
  split at hf
  · obtain ⟨v, rfl, hv⟩ := all2_1 hx
    cases hf
    obtain ⟨a, vs, rfl, hq, hr, hz⟩ := hv.list
    exact ⟨a, vs, rfl, .inl hq, fun l hl => q _ _ (same_upd hl) (rr_newL hl hz hr)⟩
  · obtain ⟨v, rfl, hv⟩ := all2_1 hx
    cases hf
    obtain ⟨a, vs, rfl, hq, hr, hz⟩ := hv.tuple
    exact ⟨a, vs, rfl, .inr hq, fun l hl => q _ _ (same_upd hl) (rr_newL hl hz hr)⟩
  · cases hf
def dTupOf : List D → Rs R
  | [.list ds] => .ok (.fr (.tuple ds))
  | [.tuple ds] => .ok (.fr (.tuple ds))
  | _ => .bad
theorem c_tuple : VCall X (.type "tuple") dTupOf := by
  refine vcall_or call_tuple_of fun xs H Q ⟨O, ds, r, hx, ht, hf, q⟩ => ?_
  unfold dTupOf at hf
  split at hf
  · obtain ⟨v, rfl, hv⟩ := all2_1 hx
    cases hf
    obtain ⟨a, vs, rfl, hq, hr, hz⟩ := hv.list
    exact ⟨a, vs, rfl, .inl ⟨hq, fun l hl => q _ _ (same_upd hl) (rr_newT ht hl hz hr)⟩⟩
  · obtain ⟨v, rfl, hv⟩ := all2_1 hx
    cases hf
    obtain ⟨a, vs, rfl, hq, hr, hz⟩ := id hv.tuple
    refine ⟨a, vs, rfl, .inr ⟨hq, q _ H (Same.refl H) ?_⟩⟩
    cases hv with
    | rep r => exact r
  · cases hf
/-- int(n), int(True) -/
def dInt1 : List D → Rs R
  | [.int i] => .ok (.fr (.int i))
  | [.bool b] => .ok (.fr (.int (if b then 1 else 0)))
  | _ => .bad
theorem c_int : VCall X (.type "int") dInt1 := by
  refine vcall_or call_int1 fun xs H Q ⟨O, ds, r, hx, ht, hf, q⟩ => ?_
  unfold dInt1 at hf
  split at hf
  · obtain ⟨v, rfl, hv⟩ := all2_1 hx
    cases hf
    exact .inl ⟨_, by rw [hv.int], q _ H (Same.refl H) (.int _)⟩
  · obtain ⟨v, rfl, hv⟩ := all2_1 hx
    cases hf
    exact .inr ⟨_, by rw [hv.bool], q _ H (Same.refl H) (.int _)⟩
  · cases hf
/-- sorted -/
def dleD : D → D → Bool := PySem.W.dataLe false (fun d : D => d)
def sortableB (ds : List D) : Bool := (ds.all fun d => match d with | .tuple (_ :: _) => true | _ => false) || ds.all fun d => match d with | .none => false | .tuple _ => false | _ => true
def alikeB (ds : List D) : Bool := ds.all fun d => ds.all fun e => PySem.W.alike d e
def dSorted : List D → Rs R
  | [.list ds] => if okD (.list ds) && alikeB ds && sortableB ds then .ok (.ol (ds.mergeSort dleD)) else .bad
  | _ => .bad
theorem depth_mem : ∀ {ds : List D} {d : D}, d ∈ ds → d.depth ≤ PyData.depthAll ds
  | x :: ds, d, h => by
    simp only [PyData.depthAll]
    rcases List.mem_cons.mp h with e | h
    · rw [e]; omega
    · have := depth_mem h; omega
theorem each_of {K : PySem.W.Frag} {H : Hp} {O : List Addr} : ∀ {vs : List V} {us : List Value} {ds : List D}, Vals vs us → Reps K H O vs ds → PySem.W.EachIs (fun u d => ∃ v, RelV v u ∧ Rep K H O v d) us ds
  | _, _, _, .nil, .nil => .nil
  | _, _, _, .cons r t, .cons r' t' => .cons ⟨_, r, r'⟩ (each_of t t')
theorem of_each {K : PySem.W.Frag} {H : Hp} {O : List Addr} : ∀ {us : List Value} {ds : List D}, PySem.W.EachIs (fun u d => ∃ v, RelV v u ∧ Rep K H O v d) us ds → ∃ vs, Vals vs us ∧ Reps K H O vs ds
  | _, _, .nil => ⟨[], .nil, .nil⟩
  | _, _, .cons ⟨v, r, r'⟩ t => by
    obtain ⟨vs, h1, h2⟩ := of_each t
    exact ⟨v :: vs, .cons r h1, .cons r' h2⟩
theorem sortable_of {ds : List D} (h : sortableB ds = true) : PySem.W.Sortable ds := by
  unfold sortableB at h
  rw [Bool.or_eq_true, List.all_eq_true, List.all_eq_true] at h
  rcases h with h | h
  · refine .inl fun d hd => ?_
    have := h d hd
    split at this
    · exact ⟨_, _, rfl⟩
    · cases this
  · refine .inr fun d hd => ?_
    have := h d hd
    split at this
    · cases this
    · cases this
    · rename_i n1 n2
      exact ⟨n1, n2⟩
theorem reads_all {X : Cx} {pins : List (Addr × Obj)} {σ : L2.St} {H : Hp} {s : Shared} {O : List Addr} (I : Inv X pins σ H s) : ∀ {ds : List D} {vs : List V} {us : List Value}, PyData.plainAll ds = true → Vals vs us → Reps X.K H O vs ds → PySem.W.EachIs (fun u d => ∃ as, Reads s.heap u d as) us ds
  | [], _, _, _, r, h => by cases h; cases r; exact .nil
  | d :: ds, _, _, p, r, h => by
    have p' : (d.plain && PyData.plainAll ds) = true := p
    rw [Bool.and_eq_true] at p'
    cases h with
    | cons r' t' =>
      cases r with
      | cons r1 r2 => exact .cons (Dp.reads I d _ _ (r'.dp p'.1) r1) (reads_all I p'.2 r2 t')
theorem c_sorted (hu : X.A.units + 64 < cLine) : VCall X (.builtin "sorted") dSorted := by
  intro pins s σ H xs us Q I rx ⟨O, ds', r, hx, ht, hf, q⟩
  unfold dSorted at hf
  split at hf
  · rename_i ds
    split at hf
    · rename_i hc
      unfold okD at hc
      simp only [Bool.and_eq_true, decide_eq_true_eq] at hc
      obtain ⟨⟨⟨p1, p2⟩, p3⟩, p4⟩ := hc
      have p1' : PyData.plainAll ds = true := p1
      have p2' : PyData.depthAll ds + 1 ≤ 50 := p2
      cases hf
      obtain ⟨v, rfl, hv⟩ := all2_1 hx
      obtain ⟨a, vs, rfl, hq, hr, hz⟩ := hv.list
      obtain ⟨u, rfl, ru⟩ := vals1 rx
      cases ru
      obtain ⟨its, rv, pl, _⟩ := I.list hq
      have hal : PySem.W.AllAlike (ds.map fun d : D => d) := by
        rw [List.map_id']
        intro d hd d' hd'
        exact List.all_eq_true.mp (List.all_eq_true.mp p3 d hd) d' hd'
      have hk : PySem.W.Sortable (ds.map fun d : D => d) := by
        rw [List.map_id']
        exact sortable_of p4
      refine PySem.W.sorted_data (enc := fun d : D => d) pl.isList (each_of rv hr) (reads_all I p1' rv hr) hal hk (by rw [← hr.length]; exact hz) (fun d hd => by have := depth_mem hd; show X.A.units + 2 + d.depth < _; omega) fun out hlo hout => ?_
      obtain ⟨ws, h1, h2⟩ := of_each hout
      have hlw : ws.length ≤ sizeLine := by rw [h1.length, hlo, ← hr.length]; exact hz
      have hnew : H (s.heap.objs.size + 1) = none := I.hok.fresh (Nat.le_succ _)
      refine ⟨.ref (s.heap.objs.size + 1), upd H (s.heap.objs.size + 1) (.lst ws), ?_, rfl, q _ _ (same_upd hnew) (rr_newL hnew hlw h2)⟩
      obtain ⟨c, hc⟩ := sortedAll_at s.heap its out.toArray
      refine I.laid (t' := s.toks) (fun b o e => sortedAll_old e) (Nat.le_succ _) ?_
      exact ⟨hlw, out, c, h1, hc⟩
    · cases hf
  · cases hf
end
end VL
namespace VL
open PySem PySem.Spec
open PyProof.Rows L2
variable [Vx]
section
variable {X : Cx} {a b c e : Expr} {es rest : List Expr} {f fa fb fc : FE} {g : En → Rs (List R)} {t t1 t2 : En → Rs Bool} {pos p p2 : Pos}
/-! ### and, or, not, if else, chains -/
def fAnd (fa fb : FE) : FE := fun ρ => (fa ρ).bind fun r => match r with
  | .fr (.bool true) => fb ρ
  | .fr (.bool false) => .ok (.fr (.bool false))
  | _ => .bad
def fOr (fa fb : FE) : FE := fun ρ => (fa ρ).bind fun r => match r with
  | .fr (.bool true) => .ok (.fr (.bool true))
  | .fr (.bool false) => fb ρ
  | _ => .bad
def fNot (fa : FE) : FE := fun ρ => (fa ρ).bind fun r => match r with
  | .fr (.bool b) => .ok (.fr (.bool (!b)))
  | _ => .bad
theorem e_one {op : BoolOp} (h : EV X a fa) : EV X (.BoolOp op [a] pos) fa := ⟨pe_one h.run⟩
theorem e_and (ha : EV X a fa) (hb : EV X (.BoolOp .And (b :: rest) pos) fb) : EV X (.BoolOp .And (a :: b :: rest) pos) (fAnd fa fb) := by
  refine ⟨pe_imp (pe_and ha.run hb.run) fun σ H Q ⟨O, ρ, r, I, hf, q⟩ => ?_⟩
  obtain ⟨x, e1, hf⟩ := Rs.bind_eq hf
  refine ⟨O, ρ, x, I, e1, fun v H1 s1 rr => ?_⟩
  split at hf
  · cases (show Rep X.K H1 O v (.bool true) from rr)
    exact ⟨true, rfl, O, ρ, r, I.same s1, hf, fun v H2 s2 rr => q v H2 (s1.trans s2) (rr.left s1)⟩
  · cases (show Rep X.K H1 O v (.bool false) from rr)
    cases hf
    exact ⟨false, rfl, q _ H1 s1 (.bl _)⟩
  · cases hf
theorem e_or (ha : EV X a fa) (hb : EV X (.BoolOp .Or (b :: rest) pos) fb) : EV X (.BoolOp .Or (a :: b :: rest) pos) (fOr fa fb) := by
  refine ⟨pe_imp (pe_or ha.run hb.run) fun σ H Q ⟨O, ρ, r, I, hf, q⟩ => ?_⟩
  obtain ⟨x, e1, hf⟩ := Rs.bind_eq hf
  refine ⟨O, ρ, x, I, e1, fun v H1 s1 rr => ?_⟩
  split at hf
  · cases (show Rep X.K H1 O v (.bool true) from rr)
    cases hf
    exact ⟨true, rfl, q _ H1 s1 (.bl _)⟩
  · cases (show Rep X.K H1 O v (.bool false) from rr)
    exact ⟨false, rfl, O, ρ, r, I.same s1, hf, fun v H2 s2 rr => q v H2 (s1.trans s2) (rr.left s1)⟩
  · cases hf
theorem e_not (ha : EV X a fa) : EV X (.UnaryOp .Not a pos) (fNot fa) := by
  refine ⟨pe_imp (pe_not ha.run) fun σ H Q ⟨O, ρ, r, I, hf, q⟩ => ?_⟩
  obtain ⟨x, e1, hf⟩ := Rs.bind_eq hf
  refine ⟨O, ρ, x, I, e1, fun v H1 s1 rr => ?_⟩
  split at hf
  · cases (show Rep X.K H1 O v (.bool _) from rr)
    cases hf
    exact ⟨_, rfl, q _ H1 s1 (.bl _)⟩
  · cases hf
def dNeg : D → Rs R
  | .int i => .ok (.fr (.int (-i)))
  | _ => .bad
def fNeg (fa : FE) : FE := fun ρ => (fa ρ).bind fun r => dNeg r.d
theorem e_neg (ha : EV X a fa) : EV X (.UnaryOp .USub a pos) (fNeg fa) := by
  refine ⟨pe_imp (pe_un un_neg ha.run) fun σ H Q ⟨O, ρ, r, I, hf, q⟩ => ?_⟩
  obtain ⟨x, e1, hf⟩ := Rs.bind_eq hf
  refine ⟨O, ρ, x, I, e1, fun v H1 s1 rr => ?_⟩
  have t : Top X.K H1 [] v x.d := .rep rr.bare
  unfold dNeg at hf
  split at hf
  · rename_i i ed
    rw [ed] at t
    cases hf
    exact ⟨i, t.int, q _ H1 s1 (.int _)⟩
  · cases hf
def fIf (t : En → Rs Bool) (fa fb : FE) : FE := fun ρ => (t ρ).bind fun k => if k then fa ρ else fb ρ
theorem e_if (hc : TV X c t) (ha : EV X a fa) (hb : EV X b fb) : EV X (.IfExp c a b pos) (fIf t fa fb) := by
  refine ⟨pe_imp (pe_ifExp hc.run ha.run hb.run) fun σ H Q ⟨O, ρ, r, I, hf, q⟩ => ?_⟩
  obtain ⟨k, e1, hf⟩ := Rs.bind_eq hf
  refine ⟨O, ρ, k, I, e1, fun H1 s1 => ?_⟩
  cases k with
  | true => exact ⟨O, ρ, r, I.same s1, hf, fun v H2 s2 rr => q v H2 (s1.trans s2) (rr.left s1)⟩
  | false => exact ⟨O, ρ, r, I.same s1, hf, fun v H2 s2 rr => q v H2 (s1.trans s2) (rr.left s1)⟩
/-! tests -/
structure WV (X : Cx) (e : Expr) (f : En → Rs Bool) : Prop where
  run : PW X e (tT X.K f)
theorem pw_imp {X : Cx} {e : Expr} {t u : TT} (h : PW X e t) (i : ∀ σ H Q, u σ H Q → t σ H Q) : PW X e u := ⟨fun wh pins s σ H Q I q => h.run wh pins s σ H Q I (i σ H Q q)⟩
theorem t_w (h : WV X e t) : TV X e t := ⟨h.run.pt⟩
def tAndB (t1 t2 : En → Rs Bool) : En → Rs Bool := fun ρ => (t1 ρ).bind fun k => if k then t2 ρ else .ok false
def tOrB (t1 t2 : En → Rs Bool) : En → Rs Bool := fun ρ => (t1 ρ).bind fun k => if k then .ok true else t2 ρ
def tNotB (t1 : En → Rs Bool) : En → Rs Bool := fun ρ => (t1 ρ).bind fun k => .ok (!k)
theorem w_and1 (h : TV X a t) : WV X (.BoolOp .And [a] pos) t := ⟨pw_and1 h.run⟩
theorem w_or1 (h : TV X a t) : WV X (.BoolOp .Or [a] pos) t := ⟨pw_or1 h.run⟩
theorem w_and (h1 : TV X a t1) (h2 : WV X (.BoolOp .And (b :: rest) pos) t2) : WV X (.BoolOp .And (a :: b :: rest) pos) (tAndB t1 t2) := by
  refine ⟨pw_imp (pw_and h1.run h2.run) fun σ H Q ⟨O, ρ, k, I, hf, q⟩ => ?_⟩
  obtain ⟨k1, e1, hf⟩ := Rs.bind_eq hf
  refine ⟨O, ρ, k1, I, e1, fun H1 s1 => ?_⟩
  cases k1 with
  | true => exact ⟨O, ρ, k, I.same s1, hf, fun H2 s2 => q H2 (s1.trans s2)⟩
  | false => cases hf; exact q H1 s1
theorem w_or (h1 : TV X a t1) (h2 : WV X (.BoolOp .Or (b :: rest) pos) t2) : WV X (.BoolOp .Or (a :: b :: rest) pos) (tOrB t1 t2) := by
  refine ⟨pw_imp (pw_or h1.run h2.run) fun σ H Q ⟨O, ρ, k, I, hf, q⟩ => ?_⟩
  obtain ⟨k1, e1, hf⟩ := Rs.bind_eq hf
  refine ⟨O, ρ, k1, I, e1, fun H1 s1 => ?_⟩
  cases k1 with
  | true => cases hf; exact q H1 s1
  | false => exact ⟨O, ρ, k, I.same s1, hf, fun H2 s2 => q H2 (s1.trans s2)⟩
theorem t_not (h : TV X a t) : TV X (.UnaryOp .Not a pos) (tNotB t) := by
  refine ⟨pt_imp (pt_not h.run) fun σ H Q ⟨O, ρ, k, I, hf, q⟩ => ?_⟩
  obtain ⟨k1, e1, hf⟩ := Rs.bind_eq hf
  cases hf
  exact ⟨O, ρ, k1, I, e1, fun H1 s1 => q H1 s1⟩
/-- truth -/
def truth : D → Rs Bool
  | .none => .ok false
  | .bool b => .ok b
  | .int i => .ok (i != 0)
  | .str x => if x.length ≤ sizeN then .ok ((x.length : Int) != 0) else .bad
  | .list ds => .ok (!ds.isEmpty)
  | .tuple ds => .ok (!ds.isEmpty)
  | _ => .bad
def fTr (f : FE) : En → Rs Bool := fun ρ => (f ρ).bind fun r => truth r.d
theorem reps_empty {K : PySem.W.Frag} {H : Hp} {O : List Addr} {vs : List V} {ds : List D} (r : Reps K H O vs ds) : vs.isEmpty = ds.isEmpty := by cases r <;> rfl
theorem t_truth (h : EV X a fa) (he : ∀ whole, isTrue a X.env whole = (do let v ← whole; standAt a.pos; holding [v] (truthy v)) := by exact fun _ => rfl) : TV X a (fTr fa) := by
  refine ⟨pt_imp (pt_truth h.run he) fun σ H Q ⟨O, ρ, k, I, hf, q⟩ => ?_⟩
  obtain ⟨x, e1, hf⟩ := Rs.bind_eq hf
  refine ⟨O, ρ, x, I, e1, fun v H1 s1 rr => ?_⟩
  have t : Top X.K H1 [] v x.d := .rep rr.bare
  generalize x.d = d at t hf
  unfold truth at hf
  split at hf
  · cases hf; rw [t.none]; exact ⟨false, rfl, q H1 s1⟩
  · cases hf; rw [t.bool]; exact ⟨_, rfl, q H1 s1⟩
  · cases hf; rw [t.int]; exact ⟨_, rfl, q H1 s1⟩
  · split at hf
    · rename_i hz
      cases hf
      rw [t.str]
      rw [sizeN_eq] at hz
      exact ⟨_, ⟨hz, rfl⟩, q H1 s1⟩
    · cases hf
  · cases hf
    obtain ⟨p, vs, rfl, hq, hr, _⟩ := t.list
    exact ⟨_, .inl ⟨vs, hq, by rw [reps_empty hr]⟩, q H1 s1⟩
  · cases hf
    obtain ⟨p, vs, rfl, hq, hr, _⟩ := t.tuple
    exact ⟨_, .inr (.inl ⟨vs, hq, by rw [reps_empty hr]⟩), q H1 s1⟩
  · cases hf
/-- a op b op' c -/
def fChain (F G : D → D → Rs R) (fa fb fc : FE) : FE := fun ρ => (fa ρ).bind fun x => (fb ρ).bind fun y => (opR F x y).bind fun z => match z with
  | .fr (.bool true) => (fc ρ).bind fun w => opR G y w
  | .fr (.bool false) => .ok (.fr (.bool false))
  | _ => .bad
theorem chain_read {F G : D → D → Rs R} {ha : EV X a fa} {hb : EV X b fb} {hc : EV X c fc} {σ : L2.St} {H : Hp} {Q : VK} (h : tE X.K (fChain F G fa fb fc) σ H Q) :
    tChain (fun x y H Q => ∃ O d e r, Top X.K H O x d ∧ Top X.K H O y e ∧ F d e = .ok r ∧ ∀ v H', Same H H' → RR X.K O H H' v r → Q v H') (fun x y H Q => ∃ O d e r, Top X.K H O x d ∧ Top X.K H O y e ∧ G d e = .ok r ∧ ∀ v H', Same H H' → RR X.K O H H' v r → Q v H')
      (tE X.K fa) (tE X.K fb) (tE X.K fc) σ H Q := by
  obtain ⟨O, ρ, r, I, hf, q⟩ := h
  obtain ⟨x, e1, hf⟩ := Rs.bind_eq hf
  obtain ⟨y, e2, hf⟩ := Rs.bind_eq hf
  obtain ⟨z, e3, hf⟩ := Rs.bind_eq hf
  refine ⟨O, ρ, x, I, e1, fun v H1 s1 r1 => ⟨O, ρ, y, I.same s1, e2, fun u H2 s2 r2 => ?_⟩⟩
  obtain ⟨O1, z', t1, t2, hg, e3, back⟩ := opR_top (I.hg.same (s1.trans s2)) (r1.right s2) r2 e3
  refine ⟨O1, _, _, z', t1, t2, e3, fun k H3 s3 r3 => ?_⟩
  have r3 := back k H3 s3 r3
  have s13 := (s1.trans s2).trans s3
  split at hf
  · cases (show Rep X.K H3 O k (.bool true) from r3)
    obtain ⟨w, e4, hf⟩ := Rs.bind_eq hf
    refine ⟨true, rfl, ?_⟩
    rw [if_pos rfl]
    refine ⟨O, ρ, w, I.same s13, e4, fun u' H4 s4 r4 => ?_⟩
    obtain ⟨O2, z2, t3, t4, hg2, e5, back2⟩ := opR_top (I.hg.same (s13.trans s4)) (r2.right (s3.trans s4)) r4 hf
    exact ⟨O2, _, _, z2, t3, t4, e5, fun v' H' s5 r5 => q v' H' ((s13.trans s4).trans s5) ((back2 v' H' s5 r5).left (s13.trans s4))⟩
  · cases (show Rep X.K H3 O k (.bool false) from r3)
    cases hf
    refine ⟨false, rfl, ?_⟩
    rw [if_neg Bool.false_ne_true]
    exact q _ H3 s13 (.bl _)
  · cases hf
theorem e_chain {op op' : CmpOp} {F G : D → D → Rs R} (ho : VOp X (compareOp op) F) (ho' : VOp X (compareOp op') G) (ha : EV X a fa) (hb : EV X b fb) (hc : EV X c fc) (hm : lastMarks [op, op'] [b, c] = false := by with_unfolding_all rfl) :
    EV X (.Compare a [op, op'] [b, c] pos) (fChain F G fa fb fc) := ⟨pe_imp (pe_chain ho ho' ha.run hb.run hc.run hm) fun σ H Q h => chain_read (ha := ha) (hb := hb) (hc := hc) h⟩
theorem t_chain {op op' : CmpOp} {F G : D → D → Rs R} (ho : VOp X (compareOp op) F) (ho' : VOp X (compareOp op') G) (ha : EV X a fa) (hb : EV X b fb) (hc : EV X c fc) (hm : lastMarks [op, op'] [b, c] = false := by with_unfolding_all rfl) :
    TV X (.Compare a [op, op'] [b, c] pos) (fB (fChain F G fa fb fc)) := by
  refine ⟨pt_imp (pt_chain ho ho' ha.run hb.run hc.run hm) fun σ H Q ⟨O, ρ, k, I, hf, q⟩ => ?_⟩
  obtain ⟨r, e1, e2⟩ := Rs.bind_eq hf
  cases toB_eq e2
  refine chain_read (ha := ha) (hb := hb) (hc := hc) ⟨O, ρ, _, I, e1, fun v H' s r => ?_⟩
  cases (show Rep X.K H' O v (.bool k) from r)
  exact ⟨k, rfl, q H' s⟩
end
/-! ### list comprehensions -/
def wipeE (ρ : En) : List Nat → En
  | [] => ρ
  | v :: vs => (wipeE ρ vs).set v .un
/-- the items -/
def lcLoop (st : D → En → Option En) (tt : En → Rs Bool) (fe : FE) (ρ : En) : List D → Rs (List D)
  | [] => .ok []
  | d :: ds => match st d ρ with
    | none => .bad
    | some ρ1 => (tt ρ1).bind fun k => if k then (fe ρ1).bind fun r => match r.fz with
        | some y => (lcLoop st tt fe ρ ds).bind fun ys => .ok (y :: ys)
        | none => .bad
      else lcLoop st tt fe ρ ds
def fLc (fi : En → Rs (List D)) (st : D → En → Option En) (tt : En → Rs Bool) (fe : FE) (vs : List Nat) : FE := fun ρ => (fi ρ).bind fun ds => (lcLoop st tt fe (wipeE ρ vs) ds).bind fun ys => .ok (.ol ys)
def ttYes : En → Rs Bool := fun _ => .ok true
structure TsV (X : Cx) (es : List Expr) (f : En → Rs Bool) : Prop where
  run : PTs X es (tT X.K f)
theorem ts_nil {X : Cx} : TsV X [] ttYes := ⟨⟨fun pins s σ H Q I ⟨O, ρ, b, J, hf, q⟩ => pts_nil.run pins s σ H Q I (by cases hf; exact q H (Same.refl H))⟩⟩
theorem ts_one {X : Cx} {c : Expr} {t : En → Rs Bool} (h : TV X c t) : TsV X [c] t := ⟨pts_one h.run⟩
theorem ER.wipe {K : PySem.W.Frag} {O : List Addr} {γ : List Gh} {H : Hp} {σ : L2.St} {ρ : En} (I : ER K ⟨O, γ⟩ H σ ρ) : ∀ vs : List Nat, ∃ γ', ER K ⟨O, γ'⟩ H (L2.wipe σ vs) (wipeE ρ vs)
  | [] => ⟨γ, I⟩
  | v :: vs => by
    obtain ⟨γ1, J⟩ := I.wipe vs
    show ∃ γ', ER K ⟨O, γ'⟩ H ((L2.wipe σ vs).set v none) ((wipeE ρ vs).set v .un)
    by_cases hi : v < γ1.length
    · obtain ⟨A, B, g, e1, e3, e4⟩ := own_split (γ := γ1) v hi
      have e5 : (⟨O, γ1.set v ⟨[], g.pi⟩⟩ : Og).own = A ++ B := e4 ⟨[], g.pi⟩
      have nd := J.nd
      unfold Og.own at nd
      rw [e3] at nd
      refine ⟨γ1.set v ⟨[], g.pi⟩, J.at_.set (c := ⟨[], g.pi⟩) (a := none) (b := .un) rfl v, by rw [e5]; exact nd_mid nd, fun a h => J.sub a ?_, J.hg⟩
      rw [e5] at h
      show a ∈ ownG γ1
      rw [e3]
      exact mem_mid h
    · have z1 : (L2.wipe σ vs).set v none = L2.wipe σ vs := List.set_eq_of_length_le (by have a1 := J.len; have a2 : γ1.length = _ := J.lenG; omega)
      have z2 : (wipeE ρ vs).set v .un = wipeE ρ vs := List.set_eq_of_length_le (by have a2 : γ1.length = _ := J.lenG; omega)
      rw [z1, z2]
      exact ⟨γ1, J⟩
theorem wipe_only : ∀ {vs : List Nat} {σ σ' : L2.St}, Only vs σ σ' → L2.wipe σ' vs = L2.wipe σ vs := by
  intro vs σ σ' h
  apply List.ext_getElem?
  intro i
  have key : ∀ (vs : List Nat) (τ : L2.St), (L2.wipe τ vs)[i]? = if i ∈ vs then (if i < τ.length then some none else none) else τ[i]? := by
    intro vs
    induction vs with
    | nil => intro τ; simp [L2.wipe]
    | cons v vs ih =>
      intro τ
      show ((L2.wipe τ vs).set v none)[i]? = _
      by_cases hv : v = i
      · subst hv
        rw [List.getElem?_set_self', ih τ]
        simp only [List.mem_cons, true_or, if_true]
        by_cases hl : v < τ.length
        · by_cases hm : v ∈ vs
          · simp [hl, hm]
          · simp [hl, hm]
        · by_cases hm : v ∈ vs
          · simp [hl, hm]
          · simp [hl, hm]
      · rw [List.getElem?_set_ne hv, ih τ]
        have : (i ∈ v :: vs) = (i ∈ vs) := by simp [Ne.symm hv]
        simp only [this]
  rw [key, key, h.1]
  by_cases hm : i ∈ vs
  · simp [hm]
  · simp only [hm, if_false]
    exact h.2 i hm
theorem wipe_wipe (σ : L2.St) (vs : List Nat) : L2.wipe (L2.wipe σ vs) vs = L2.wipe σ vs := by
  refine wipe_only ⟨wipe_length σ vs, fun i hi => ?_⟩
  have : ∀ (ws : List Nat), i ∉ ws → (L2.wipe σ ws)[i]? = σ[i]? := by
    intro ws
    induction ws with
    | nil => intro _; rfl
    | cons w ws ih =>
      intro h
      show ((L2.wipe σ ws).set w none)[i]? = _
      rw [List.getElem?_set_ne (fun e => h (by simp [e])), ih fun z => h (List.mem_cons_of_mem _ z)]
  exact this vs hi
section
variable {X : Cx}
theorem lc_read {K : PySem.W.Frag} {fi : En → Rs (List D)} {st : D → En → Option En} {tt : En → Rs Bool} {fe : FE} {vs js : List Nat} (hj : ∀ j ∈ js, j ∈ vs) {σ : L2.St} {H : Hp} {Q : VK} (h : tE K (fLc fi st tt fe vs) σ H Q) :
    tLc (tI K true fi) (tG K js st) (tT K tt) (tE K fe) vs σ H Q := by
  obtain ⟨O, ρ, r, I, hf, q⟩ := h
  obtain ⟨ds, e1, hf⟩ := Rs.bind_eq hf
  obtain ⟨zs, e2, hf⟩ := Rs.bind_eq hf
  cases hf
  refine ⟨O, ρ, ds, I, e1, fun J H1 s1 jok hlen D hD => ?_⟩
  have hz := hlen rfl
  have I1 := I.same s1
  have hDO : D ∉ O.O := fun z => I1.tr D z hD
  refine ⟨fun i m H' => m = ds.length - i ∧ i ≤ ds.length ∧ ∃ acc ys, Same H1 H' ∧ H' D = some (.lst acc) ∧ Reps K H' (D :: O) acc ys ∧ acc.length ≤ i ∧ ∃ rest, lcLoop st tt fe (wipeE ρ vs) (ds.drop i) = .ok rest ∧ ys ++ rest = zs,
    ⟨ds.length, by simp, Nat.zero_le _, [], [], same_upd hD, upd_same, .nil, Nat.le_refl _, zs, e2, rfl⟩, ?_⟩
  rintro i m H' ⟨rfl, hi, acc, ys, sm, hd, hr, ha, rest, hl, hzs⟩
  obtain ⟨jgo, jstop⟩ := jok i H' (fun a o e _ => sm a o e)
  have EW : ∀ {H2 : Hp}, Same H1 H2 → (∃ ac, H2 D = some (.lst ac)) → ∃ γ', ER K ⟨D :: O.O, γ'⟩ H2 (L2.wipe σ vs) (wipeE ρ vs) := fun {H2} s2 ⟨ac, hn⟩ => by
    have hg := I1.hg.same s2
    have B : ER K ⟨D :: O.O, O.γ⟩ H2 σ ρ := ⟨I1.at_.imp fun g ov s q => SR.more (A := [D]) s2 (fun a z => by rw [List.mem_singleton.mp z]; exact hD) q, I1.nd, fun a h => List.mem_cons_of_mem _ (I1.sub a h),
      ⟨fun a h => (List.mem_cons.mp h).elim (fun e => by rw [e, hn]; trivial) (hg.mu a), fun P z => ⟨(hg.tb P z).1, fun h => (List.mem_cons.mp h).elim (fun e => by have := (I1.hg.tb P z).1; rw [e, hD] at this; cases this) (hg.tb P z).2⟩⟩⟩
    exact B.wipe vs
  by_cases hlt : i < ds.length
  · obtain ⟨go, item⟩ := jgo ds[i] (List.getElem?_eq_getElem hlt)
    refine .inr ⟨go, fun H3 => i + 1 ≤ ds.length ∧ ∃ acc ys, Same H1 H3 ∧ H3 D = some (.lst acc) ∧ Reps K H3 (D :: O) acc ys ∧ acc.length ≤ i + 1 ∧ ∃ rest, lcLoop st tt fe (wipeE ρ vs) (ds.drop (i + 1)) = .ok rest ∧ ys ++ rest = zs, fun H3 h3 => ⟨ds.length - (i + 1), by omega, rfl, h3⟩, fun x H2 hy => ?_⟩
    obtain ⟨s2, hx⟩ := item x H2 hy
    have s12 := sm.trans s2
    have hd2 : H2 D = some (.lst acc) := s2 _ _ hd
    obtain ⟨γ2, I2⟩ := EW s12 ⟨_, hd2⟩
    have hxd := hx (D :: O) (fun a h => (List.mem_cons.mp h).elim (fun e => .inr (by rw [e]; exact hD)) .inl) (fun a h => (List.mem_cons.mp h).elim (fun e => by rw [e, hd]; exact fun z => nomatch z) (Same.tr sm I1.tr a))
    rw [List.drop_eq_getElem_cons hlt] at hl
    unfold lcLoop at hl
    cases e3 : st ds[i] (wipeE ρ vs) with
    | none => rw [e3] at hl; cases hl
    | some ρ1 =>
      rw [e3] at hl
      dsimp only at hl
      obtain ⟨k, e4, hl⟩ := Rs.bind_eq hl
      refine ⟨⟨D :: O.O, γ2⟩, wipeE ρ vs, ds[i], ρ1, I2, hxd, e3, fun O4 σ2 J2 hm hO4 on => ⟨?_, O4, ρ1, k, J2, e4, fun H3 s3 => ?_⟩⟩
      · rw [← wipe_wipe σ vs]
        exact wipe_only ⟨on.1, fun i hi => on.2 i fun z => hi (hj i z)⟩
      · have s13 := s12.trans s3
        have hd3 : H3 D = some (.lst acc) := s3 _ _ hd2
        cases k with
        | false =>
          simp only [Bool.false_eq_true, if_false] at hl ⊢
          exact ⟨hlt, acc, ys, s13, hd3, (hr.same s2).same s3, by omega, rest, hl, hzs⟩
        | true =>
          simp only [if_true] at hl ⊢
          obtain ⟨r, e5, hl⟩ := Rs.bind_eq hl
          refine ⟨O4, ρ1, r, J2.same s3, e5, fun v H4 s4 rr => ?_⟩
          split at hl
          · rename_i y ey
            obtain ⟨rest', e6, hl⟩ := Rs.bind_eq hl
            cases hl
            have hd4 : H4 D = some (.lst acc) := s4 _ _ hd3
            have hv : Rep K H4 (D :: O.O) v y := by
              have hv0 := RR.rep (J2.same s3).tr rr ey
              have hO4' : O4.O = D :: O.O := hO4
              rw [hO4'] at hv0
              exact hv0
            have kp : ∀ a o, H4 a = some o → a ∉ D :: O → (upd H4 D (.lst (acc ++ [v]))) a = some o := fun a o e n => by
              rw [upd_ne fun z => n (by rw [z]; exact List.mem_cons_self)]
              exact e
            refine ⟨acc, hd4, by omega, hlt, acc ++ [v], ys ++ [y], ?_, upd_same, ?_, by rw [List.length_append, List.length_singleton]; omega, rest', e6, by rw [List.append_assoc]; exact hzs⟩
            · intro a o e
              rw [upd_ne (ne_of_none e hD)]
              exact s4 _ _ (s13 _ _ e)
            · exact ((((hr.same s2).same s3).same s4).append (.cons hv .nil)).ev kp fun a z => .inl z
          · cases hl
  · have e : i = ds.length := by omega
    subst e
    rw [List.drop_length] at hl
    cases hl
    rw [List.append_nil] at hzs
    subst hzs
    exact .inl ⟨jstop (Nat.le_refl _), q _ H' (s1.trans sm) ⟨D, acc, rfl, s1.free hD, hd, Nat.le_trans ha hz, hr⟩⟩
variable {elt tg iter : Expr} {ifs : List Expr} {scope : Scope} {own' : List (Str × Nat)} {pos spos : Pos} {fi : En → Rs (List D)} {st : D → En → Option En} {tt : En → Rs Bool} {fe : FE} {js : List Nat}
theorem e_lc (hc : X.calm = true) (hN : X.N.Nodup) (hi : IV X true tg iter fi) (ok : BlkOk X.N X.env.scope scope own')
    (hg : ∀ (s : Shared) (H : Hp) (C : Addr) (cl : List (Str × Addr)) (fp : List Addr), GV (X.blk s H scope (compEnvC scope cl C X.env) fp) tg js st) (ht : ∀ (s : Shared) (H : Hp) (C : Addr) (cl : List (Str × Addr)) (fp : List Addr), TsV (X.blk s H scope (compEnvC scope cl C X.env) fp) ifs tt)
    (he : ∀ (s : Shared) (H : Hp) (C : Addr) (cl : List (Str × Addr)) (fp : List Addr), EV (X.blk s H scope (compEnvC scope cl C X.env) fp) elt fe) (hj : ∀ j ∈ js, j ∈ own'.map (·.2) := by decide) (hs : ∀ x, foldedSetIterable iter X.env x = pure x := by intro _; rfl) :
    EV X (.ListComp elt [⟨tg, iter, ifs, 0⟩] scope pos) (fLc fi st tt fe (own'.map (·.2))) :=
  ⟨pe_imp (pe_lc hc hN hi.run ok (fun s H C cl fp => (hg s H C cl fp).run) (fun s H C cl fp => (ht s H C cl fp).run) (fun s H C cl fp => (he s H C cl fp).run) hs) fun σ H Q h => lc_read hj h⟩
theorem setLc_ps {i : Nat} {y : Str} {py : Pos} (hc : X.calm = true) (hN : X.N.Nodup) (hi : IV X true tg iter fi) (ok : BlkOk X.N X.env.scope scope own')
    (hg : ∀ (s : Shared) (H : Hp) (C : Addr) (cl : List (Str × Addr)) (fp : List Addr), GV (X.blk s H scope (compEnvC scope cl C X.env) fp) tg js st) (ht : ∀ (s : Shared) (H : Hp) (C : Addr) (cl : List (Str × Addr)) (fp : List Addr), TsV (X.blk s H scope (compEnvC scope cl C X.env) fp) ifs tt)
    (he : ∀ (s : Shared) (H : Hp) (C : Addr) (cl : List (Str × Addr)) (fp : List Addr), EV (X.blk s H scope (compEnvC scope cl C X.env) fp) elt fe) (hj : ∀ j ∈ js, j ∈ own'.map (·.2))
    (hy : X.N[i]? = some y) (hyl : X.env.scope.names.lookup y = some .local)
    (hsw : swapsWith (.ListComp elt [⟨tg, iter, ifs, 0⟩] scope pos) (some (.Name y py)) spos.line X.env = pure true) (hs : ∀ x, foldedSetIterable iter X.env x = pure x := by intro _; rfl) :
    PS X (.Assign [.Name y py] (.ListComp elt [⟨tg, iter, ifs, 0⟩] scope pos) spos) (tAsg (tE X.K (fLc fi st tt fe (own'.map (·.2)))) (gName i)) :=
  ps_imp (ps_setLc hc hN hy hyl hsw hi.run ok (fun s H C cl fp => (hg s H C cl fp).run) (fun s H C cl fp => (ht s H C cl fp).run) (fun s H C cl fp => (he s H C cl fp).run) hs) fun D σ H h => lc_read hj h
/-- y = [..]: from the statement's reading -/
theorem s_own_of {W : WX} {i : Nat} {st' : Stmt} {f : FE} (h : PS X st' (tAsg (tE X.K f) (gName i))) : SV X W st' (gOwn i f) := by
  refine ⟨ps_imp h fun D σ H ⟨O, ρ, I, q⟩ => ?_⟩
  unfold gOwn at q
  split at q
  · exact q.elim
  · exact q.elim
  · rename_i r n m e
    refine ⟨O, ρ, r, I, e, fun v H1 s rr => ?_⟩
    obtain ⟨O', J, E⟩ := I.store s rr (fun d z => n d z) (fun d z => m d z) i
    exact q O' H1 _ J E
  · exact q.elim
  · exact q.elim
theorem s_set_of {W : WX} {i : Nat} {st' : Stmt} {f : FE} (h : PS X st' (tAsg (tE X.K f) (gName i))) : SV X W st' (gSet i f) := by
  refine ⟨ps_imp h fun D σ H ⟨O, ρ, I, q⟩ => ?_⟩
  unfold gSet at q
  split at q
  · rename_i r e
    split at q
    · rename_i d ed
      refine ⟨O, ρ, r, I, e, fun v H1 s rr => ?_⟩
      obtain ⟨O', J, E⟩ := I.putFz s (RR.rep I.tr rr ed) i
      exact q O' H1 _ J E
    · exact q.elim
  · exact q.elim
  · exact q.elim
theorem s_ownT_of {W : WX} {i : Nat} {st' : Stmt} {f : FE} (h : PS X st' (tAsg (tE X.K f) (gName i))) : SV X W st' (gOwnT i f) := by
  refine ⟨ps_imp h fun D σ H ⟨O, ρ, I, q⟩ => ?_⟩
  unfold gOwnT at q
  split at q
  · rename_i r e
    split at q
    · rename_i t et
      refine ⟨O, ρ, r, I, e, fun v H1 s rr => ?_⟩
      obtain ⟨O', J, E⟩ := I.store s (rr.toT et) (fun d z => nomatch z) (fun d z => nomatch z) i
      exact q O' H1 _ J E
    · exact q.elim
  · exact q.elim
  · exact q.elim
end
end VL
namespace VL
open PySem PySem.Spec
open PyProof.Rows L2
variable [Vx]
/-! ### own lists are changed -/
theorem All2.of_get {α β : Type} {P : α → β → Prop} : ∀ {as : List α} {bs : List β}, as.length = bs.length → (∀ (i : Nat) (a : α) (b : β), as[i]? = some a → bs[i]? = some b → P a b) → All2 P as bs
  | [], [], _, _ => .nil
  | a :: as, b :: bs, h, k => .cons (k 0 a b rfl rfl) (All2.of_get (Nat.succ.inj h) fun i x y e1 e2 => k (i + 1) x y (by simpa using e1) (by simpa using e2))
  | [], _ :: _, h, _ => by cases h
  | _ :: _, [], h, _ => by cases h
theorem All2.get2 {α β : Type} {P : α → β → Prop} : ∀ {as : List α} {bs : List β}, All2 P as bs → ∀ (i : Nat) (a : α) (b : β), as[i]? = some a → bs[i]? = some b → P a b
  | _, _, .nil, _, _, _, e, _ => by simp at e
  | _, _, .cons r _, 0, _, _, e1, e2 => by simp at e1 e2; subst e1; subst e2; exact r
  | _, _, .cons _ t, i + 1, a, b, e1, e2 => All2.get2 t i a b (by simpa using e1) (by simpa using e2)
theorem own_ne : ∀ {γ : List Gh} {i j : Nat} {a b : Addr} {gi gj : Gh}, (ownG γ).Nodup → i ≠ j → γ[i]? = some gi → γ[j]? = some gj → a ∈ gi.A → b ∈ gj.A → a ≠ b
  | [], _, _, _, _, _, _, _, _, h, _, _, _ => by simp at h
  | g :: γ, 0, 0, _, _, _, _, _, n, _, _, _, _ => absurd rfl n
  | g :: γ, 0, j + 1, a, b, gi, gj, nd, _, h1, h2, ha, hb => by
    simp at h1
    subst h1
    have hb' : b ∈ ownG γ := own_atG (i := j) (by simpa using h2) hb
    exact fun e => (List.nodup_append.mp nd).2.2 a ha b hb' e
  | g :: γ, i + 1, 0, a, b, gi, gj, nd, _, h1, h2, ha, hb => by
    simp at h2
    subst h2
    have ha' : a ∈ ownG γ := own_atG (i := i) (by simpa using h1) ha
    exact fun e => (List.nodup_append.mp nd).2.2 b hb a ha' e.symm
  | g :: γ, i + 1, j + 1, a, b, gi, gj, nd, n, h1, h2, ha, hb =>
    own_ne (i := i) (j := j) (List.nodup_append.mp nd).2.1 (fun e => n (by rw [e])) (by simpa using h1) (by simpa using h2) ha hb
section
variable {K : PySem.W.Frag} {H : Hp} {O : Og} {σ : L2.St} {ρ : En}
/-- what one name owns has changed, and what it is -/
theorem ER.chgS {H' : Hp} {O1 A1 : List Addr} (I : ER K O H σ ρ) {i : Nat} {g : Gh} {ov : Option V} {s' : Sl} (eg : O.γ[i]? = some g) (e1 : σ[i]? = some ov) (kept : ∀ a o, H a = some o → a ∉ g.A → H' a = some o)
    (k1 : ∀ a ∈ O.O, a ∉ g.A → a ∈ O1) (k2 : ∀ a ∈ O1, a ∈ O.O ∨ H a = none) (hA : A1.Nodup) (k3 : ∀ a ∈ A1, a ∈ O1) (k4 : ∀ a ∈ A1, a ∈ g.A ∨ H a = none) (k5 : ∀ a ∈ O1, Mut (H' a)) (r : SR K H' O1 ⟨A1, g.pi⟩ ov s') :
    ER K ⟨O1, O.γ.set i ⟨A1, g.pi⟩⟩ H' σ (ρ.set i s') ∧ Evo O H ⟨O1, O.γ.set i ⟨A1, g.pi⟩⟩ H' := by
  have gO : ∀ a ∈ g.A, a ∈ O.O := fun a h => I.mine eg h
  have kp : Kp O.O H H' := .of fun a o e n => kept a o e fun z => n (gO a z)
  have A := All3.setO (Q := SR K H' O1) (c := ⟨A1, g.pi⟩) (a := ov) (b := s') r i (fun j c' a' b' n ec q => q.move kp k2 fun a h => by
    have hne : a ∉ g.A := fun z => own_ne I.nd n ec eg h z rfl
    cases e : H a with
    | none => exact absurd e (mut_has (q.foot a h))
    | some o => exact kept a o e hne) I.at_
  rw [set_get e1] at A
  obtain ⟨L, B, g0, f1, f3, f4⟩ := own_split (γ := O.γ) i (List.getElem?_eq_some_iff.mp eg).1
  rw [eg] at f1; cases f1
  have f5 : (⟨O1, O.γ.set i ⟨A1, g.pi⟩⟩ : Og).own = L ++ (A1 ++ B) := f4 ⟨A1, g.pi⟩
  have nd := I.nd
  unfold Og.own at nd
  rw [f3] at nd
  have out : ∀ a ∈ L ++ B, a ∉ g.A := fun a h z => (List.nodup_append.mp (perm_mid.nodup_iff.mp nd)).2.2 a z a h rfl
  have inO : ∀ a ∈ L ++ B, a ∈ O.own := fun a h => by
    show a ∈ ownG O.γ
    rw [f3]
    exact mem_mid h
  refine ⟨⟨A, ?_, fun a h => ?_, ⟨k5, fun P z => ⟨kept P _ (I.hg.tb P z).1 fun y => (I.hg.tb P z).2 (gO P y), fun y => (k2 P y).elim (I.hg.tb P z).2 fun e => by rw [(I.hg.tb P z).1] at e; cases e⟩⟩⟩,
    ⟨fun a o e n => kept a o e fun z => n (own_atG eg z), fun a h n => k1 a h fun z => n (own_atG eg z), fun a h => ?_, k2, map_pi_set eg⟩⟩
  · rw [f5]
    refine nd_ins (nd_mid nd) hA fun p z y => (k4 p z).elim (out p y) fun e => I.tr p (I.sub p (inO p y)) e
  · rw [f5] at h
    rcases mem_mid_iff.mp h with h | h
    · exact k3 a h
    · exact k1 a (I.sub a (inO a h)) (out a h)
  · rw [f5] at h
    rcases mem_mid_iff.mp h with h | h
    · exact (k4 a h).imp (own_atG eg) id
    · exact .inl (inO a h)
/-- one of the own objects of the name i is written -/
theorem ER.mutG (I : ER K O H σ ρ) {i : Nat} {p : Addr} {g : Gh} {ov : Option V} {s' : Sl} {o : HO} (eg : O.γ[i]? = some g) (e1 : σ[i]? = some ov) (hp : p ∈ g.A) (mu : Mut (some o)) (r : SR K (upd H p o) O.O g ov s') :
    ER K O (upd H p o) σ (ρ.set i s') ∧ Evo O H O (upd H p o) := by
  have nd : g.A.Nodup := by
    obtain ⟨L, B, g0, f1, f3, f4⟩ := own_split (γ := O.γ) i (List.getElem?_eq_some_iff.mp eg).1
    rw [eg] at f1; cases f1
    have nd := I.nd
    unfold Og.own at nd
    rw [f3] at nd
    exact (List.nodup_append.mp (List.nodup_append.mp nd).2.1).1
  have h := I.chgS (H' := upd H p o) (O1 := O.O) (A1 := g.A) eg e1 (fun a u e n => by rw [upd_ne fun z => n (by rw [z]; exact hp)]; exact e) (fun a z _ => z) (fun a z => .inl z) nd (fun a z => I.mine eg z) (fun a z => .inl z)
    (fun a z => by
      by_cases y : a = p
      · rw [y, upd_same]; exact mu
      · rw [upd_ne y]; exact I.hg.mu a z) r
  have e : (⟨O.O, O.γ.set i ⟨g.A, g.pi⟩⟩ : Og) = O := by rw [show (⟨g.A, g.pi⟩ : Gh) = g from rfl, set_get eg]
  rw [e] at h
  exact h
theorem ER.mut (I : ER K O H σ ρ) {i : Nat} {p : Addr} {g : Gh} {s' : Sl} {o : HO} (eg : O.γ[i]? = some g) (e1 : σ[i]? = some (some (.ref p))) (hA : g.A = [p]) (mu : Mut (some o)) (r : SR K (upd H p o) O.O g (some (.ref p)) s') :
    ER K O (upd H p o) σ (ρ.set i s') ∧ Evo O H O (upd H p o) := I.mutG eg e1 (by rw [hA]; exact List.mem_singleton_self p) mu r
theorem upd_reps {O : List Addr} {p : Addr} {o : HO} {vs : List V} {ds : List D} (hp : p ∈ O) (r : Reps K H O vs ds) : Reps K (upd H p o) O vs ds :=
  r.ev (fun a u e n => by rw [upd_ne fun z => n (by rw [z]; exact hp)]; exact e) fun a h => .inl h
end
section
variable {X : Cx} {W : WX} {e : Expr} {f : FE} {pos cpos apos : Pos}
/-- xs.append(e) -/
def gApp (i : Nat) (f : FE) : FS := fun ρ => match ρ[i]? with
  | some (.ol xs) => match f ρ with
    | .ok r => match r.fz with
      | some d => if xs.length < sizeN then .nx (ρ.set i (.ol (xs ++ [d]))) else .bad
      | none => .bad
    | .ex _ => .bad
    | .bad => .bad
  | _ => .bad
theorem s_app (i : Nat) {x : Str} {p2 : Pos} (he : EV X e f) (hN : X.N[i]? = some x := by rfl) (hv : Vis X.env.scope x := by first | exact Or.inl rfl | exact Or.inr (Or.inl rfl) | exact Or.inr (Or.inr rfl)) (hd : (x == ("__debug__" : Str)) = false := by decide)
    (hcd : (x == ("__classdict__" : Str)) = false := by decide)
    (hbase : attributeBase (.Name x p2) "append" X.env (eval (.Name x p2) X.env) = eval (.Name x p2) X.env := by rfl)
    (hfew : ((backTo cpos (starEach [e] X.env)).all (fun x => !x.1) && (backToKw cpos (keywordEach [] X.env)).all (fun x => x.1.isSome)
      && decide (([e]).length + ([] : List Keyword).length + (if ([] : List Keyword).isEmpty then 0 else 1) < 30)) = true := by rfl)
    (hline : (apos.endLine == cpos.line) = true := by rfl) (hs : starEach [e] X.env = (false, eval e X.env) :: starEach [] X.env := by rfl) (hplain : (backTo cpos (starEach [] X.env)).any (·.1) = false := by rfl)
    (hsw : swapsWith (.Call (.Attribute (.Name x p2) "append" apos) [e] [] cpos) none pos.line X.env = pure false := by rfl) : SV X W (.Expr (.Call (.Attribute (.Name x p2) "append" apos) [e] [] cpos) pos) (gApp i f) := by
  refine ⟨ps_imp (ps_expr (pe_bm PySem.F.plainAttrs_list PySem.F.slot_list_append PySem.F.type_list_append mt_append (pe_var hN hv hd hcd) (pa_cons he.run pa_nil hs) hbase hfew hline hs hplain) hsw) fun D σ H ⟨O, ρ, I, q⟩ => ?_⟩
  unfold gApp at q
  split at q
  · rename_i xs ei
    split at q
    · rename_i r ef
      split at q
      · rename_i d ed
        split at q
        · rename_i hz
          obtain ⟨g, ov, eg, e1, p, vs, rfl, h1, hzz, hr, hA⟩ := I.get ei
          have hp : p ∈ O.O := I.mine eg (by rw [hA]; exact List.mem_singleton_self p)
          refine ⟨_, e1, .inl ⟨rfl, vs, .of h1⟩, O, ρ, r, I, ef, fun v H1 s rr => ?_⟩
          rw [sizeN_eq] at hz
          have hl := hr.length
          have I1 := I.same s
          have hv := RR.rep I.tr rr ed
          obtain ⟨J, E⟩ := I1.mut (o := .lst (vs ++ [v])) (s' := .ol (xs ++ [d])) eg e1 hA trivial ⟨p, _, rfl, upd_same, by rw [List.length_append, List.length_singleton]; omega, upd_reps hp ((hr.same s).append (.cons hv .nil)), hA⟩
          exact ⟨p, vs, v, rfl, rfl, s _ _ h1, by omega, q O _ σ J ((ER.same_evo s).trans I E)⟩
        · exact q.elim
      · exact q.elim
    · exact q.elim
    · exact q.elim
  · exact q.elim
/-- xs[k] = e -/
def gSetIx (i : Nat) (fk f : FE) : FS := fun ρ => match f ρ with
  | .ok r => match r.fz with
    | some d => match ρ[i]? with
      | some (.ol xs) => match fk ρ with
        | .ok (.fr (.int k)) => match ixN xs.length k with
          | some j => .nx (ρ.set i (.ol (xs.set j d)))
          | none => .bad
        | _ => .bad
      | _ => .bad
    | none => .bad
  | .ex _ => .bad
  | .bad => .bad
theorem s_setIx (i : Nat) {x : Str} {p2 : Pos} {k : Expr} {fk : FE} {spos : Pos} (he : EV X e f) (hk : EV X k fk) (hN : X.N[i]? = some x := by rfl) (hv : Vis X.env.scope x := by first | exact Or.inl rfl | exact Or.inr (Or.inl rfl) | exact Or.inr (Or.inr rfl)) (hd : (x == ("__debug__" : Str)) = false := by decide)
    (hcd : (x == ("__classdict__" : Str)) = false := by decide)
    (ha : ∀ v, assign (.Subscript (.Name x p2) k spos) X.env v = (do
      let ov ← holding [v] (eval (.Name x p2) X.env)
      let iv ← holding [v, ov] (eval k X.env)
      standAt spos
      holding [v, ov, iv] (setItem ov iv v)
      release [v, ov, iv] []) := by intro _; rfl)
    (hs : swapsWithSole [.Subscript (.Name x p2) k spos] e pos.line X.env = pure false := by rfl) (hw : swappedStores [.Subscript (.Name x p2) k spos] e X.env = pure none := by rfl)
    (h1 : (assignEach [.Subscript (.Name x p2) k spos] X.env).map (·.2) = [assign (.Subscript (.Name x p2) k spos) X.env] := by rfl) : SV X W (.Assign [.Subscript (.Name x p2) k spos] e pos) (gSetIx i fk f) := by
  refine ⟨ps_imp (ps_asg he.run (pg_sub (pe_var hN hv hd hcd) hk.run set_list ha) hs hw h1) fun D σ H ⟨O, ρ, I, q⟩ => ?_⟩
  unfold gSetIx at q
  split at q
  · rename_i r ef
    split at q
    · rename_i d ed
      split at q
      · rename_i xs ei
        split at q
        · rename_i kk ek
          split at q
          · rename_i j ej
            obtain ⟨g, ov, eg, e1, p, vs, rfl, h1, hzz, hr, hA⟩ := I.get ei
            have hp : p ∈ O.O := I.mine eg (by rw [hA]; exact List.mem_singleton_self p)
            refine ⟨O, ρ, r, I, ef, fun v H1 s rr => ?_⟩
            have I1 := I.same s
            refine ⟨_, e1, O, ρ, _, I1, ek, fun w H2 s2 r2 => ?_⟩
            cases (show Rep X.K H2 O w (.int kk) from r2)
            have s12 := s.trans s2
            have hv := (RR.rep I.tr rr ed).same s2
            have hl := hr.length
            obtain ⟨J, E⟩ := (I.same s12).mut (o := .lst (vs.set j v)) (s' := .ol (xs.set j d)) eg e1 hA trivial ⟨p, _, rfl, upd_same, by rw [List.length_set]; exact hzz, upd_reps hp ((hr.same s12).set hv j), hA⟩
            exact ⟨p, vs, kk, j, rfl, rfl, s12 _ _ h1, by rw [hl]; exact ej, q O _ σ J ((ER.same_evo s12).trans I E)⟩
          · exact q.elim
        · exact q.elim
      · exact q.elim
    · exact q.elim
  · exact q.elim
  · exact q.elim
/-- x = y.pop() -/
def gPop (i j : Nat) : FS := fun ρ => match ρ[j]? with
  | some (.ol xs) => match xs[xs.length - 1]? with
    | some d => .nx ((ρ.set j (.ol xs.dropLast)).set i (.fr d))
    | none => .bad
  | _ => .bad
theorem reps_dropLast {K : PySem.W.Frag} {H : Hp} {O : List Addr} {vs : List V} {ds : List D} (r : Reps K H O vs ds) : Reps K H O vs.dropLast ds.dropLast := by
  rw [List.dropLast_eq_take, List.dropLast_eq_take, r.length]
  exact r.take _
theorem s_pop (i j : Nat) {x y : Str} {p1 p2 : Pos} (hN : X.N.Nodup) (hi : X.N[i]? = some x := by rfl) (hx : Loc X.env.scope x := by first | exact Or.inl rfl | exact Or.inr rfl) (hj : X.N[j]? = some y := by rfl) (hv : Vis X.env.scope y := by first | exact Or.inl rfl | exact Or.inr (Or.inl rfl) | exact Or.inr (Or.inr rfl)) (hd : (y == ("__debug__" : Str)) = false := by decide)
    (hcd : (y == ("__classdict__" : Str)) = false := by decide)
    (hbase : attributeBase (.Name y p2) "pop" X.env (eval (.Name y p2) X.env) = eval (.Name y p2) X.env := by rfl) (hline : (apos.endLine == cpos.line) = true := by rfl)
    (hsw : swapsWith (.Call (.Attribute (.Name y p2) "pop" apos) [] [] cpos) (some (.Name x p1)) pos.line X.env = pure false := by rfl) (hf : X.fn x = true ∨ X.env.scope.names.lookup x = some .local := by first | exact .inl rfl | exact .inr rfl | assumption) :
    SV X W (.Assign [.Name x p1] (.Call (.Attribute (.Name y p2) "pop" apos) [] [] cpos) pos) (gPop i j) := by
  refine ⟨ps_imp (ps_set hN hi hx (pe_bm0 PySem.F.plainAttrs_list PySem.F.slot_list_pop PySem.F.type_list_pop mt_pop (pe_var hj hv hd hcd) hbase hline) hsw hf) fun D σ H ⟨O, ρ, I, q⟩ => ?_⟩
  unfold gPop at q
  split at q
  · rename_i xs ei
    split at q
    · rename_i d ed
      obtain ⟨g, ov, eg, e1, p, vs, rfl, h1, hzz, hr, hA⟩ := I.get ei
      have hp : p ∈ O.O := I.mine eg (by rw [hA]; exact List.mem_singleton_self p)
      obtain ⟨v, hv1, hv2⟩ := hr.get' ed
      rw [← hr.length] at hv1
      have up : Rep X.K (upd H p (.lst vs.dropLast)) O v d := hv2.ev (fun a u e n => by rw [upd_ne fun z => n (by rw [z]; exact hp)]; exact e) fun a h => .inl h
      obtain ⟨J, E⟩ := I.mut (o := .lst vs.dropLast) (s' := .ol xs.dropLast) eg e1 hA trivial ⟨p, _, rfl, upd_same, by rw [List.length_dropLast]; omega, upd_reps hp (reps_dropLast hr), hA⟩
      obtain ⟨O2, J2, E2⟩ := J.putFz (Same.refl _) up i
      exact ⟨_, e1, .inl ⟨rfl, vs, .of h1⟩, p, vs, v, rfl, rfl, h1, hv1, q O2 _ _ J2 (E.trans I E2)⟩
    · exact q.elim
  · exact q.elim
/-- x += e, ints -/
def gAug (i : Nat) (op : Int → Int → Int) (f : FE) : FS := fun ρ => match ρ[i]? with
  | some (.fr (.int a)) => match f ρ with
    | .ok (.fr (.int b)) => .nx (ρ.set i (.fr (.int (op a b))))
    | _ => .bad
  | _ => .bad
theorem s_aug (i : Nat) {x : Str} {p2 : Pos} {op : Operator} {g : Int → Int → Int} (hN : X.N.Nodup) (ho : PIp X op (ipI g)) (he : EV X e f) (hi : X.N[i]? = some x := by rfl) (hx : Loc X.env.scope x := by first | exact Or.inl rfl | exact Or.inr rfl)
    (hf : X.fn x = true ∨ X.env.scope.names.lookup x = some .local := by first | exact .inl rfl | exact .inr rfl | assumption) : SV X W (.AugAssign (.Name x p2) op e pos) (gAug i g f) := by
  refine ⟨ps_imp (ps_aug hN hi hx he.run ho hf) fun D σ H ⟨O, ρ, I, q⟩ => ?_⟩
  unfold gAug at q
  split at q
  · rename_i a ei
    split at q
    · rename_i b ef
      obtain ⟨gh, ov, eg, e1, ⟨v, rfl, hr⟩, _⟩ := I.get ei
      cases (show Rep X.K H O v (.int a) from hr)
      refine ⟨_, e1, O, ρ, _, I, ef, fun w H1 s rr => ?_⟩
      cases (show Rep X.K H1 O w (.int b) from rr)
      obtain ⟨O2, J, E⟩ := I.putFz s (Rep.int (g a b)) i
      exact ⟨a, b, rfl, rfl, q O2 _ _ J E⟩
    · exact q.elim
  · exact q.elim
/-! ### while -/
def whl (t : En → Rs Bool) (body : FS) : Nat → En → So
  | 0, _ => .bad
  | n + 1, ρ => match t ρ with
    | .ok true => match body ρ with
      | .nx ρ2 => whl t body n ρ2
      | .ct ρ2 => whl t body n ρ2
      | .bk ρ2 => .nx ρ2
      | .rt r ρ2 => .rt r ρ2
      | .ex e ρ2 => .ex e ρ2
      | .bad => .bad
    | .ok false => .nx ρ
    | .ex _ => .bad
    | .bad => .bad
theorem whl_succ (t : En → Rs Bool) (body : FS) (n : Nat) (ρ : En) : whl t body (n + 1) ρ = match t ρ with
    | .ok true => match body ρ with
      | .nx ρ2 => whl t body n ρ2
      | .ct ρ2 => whl t body n ρ2
      | .bk ρ2 => .nx ρ2
      | .rt r ρ2 => .rt r ρ2
      | .ex e ρ2 => .ex e ρ2
      | .bad => .bad
    | .ok false => .nx ρ
    | .ex _ => .bad
    | .bad => .bad := rfl
def gWhile (fuel : Nat) (t : En → Rs Bool) (body : FS) : FS := whl t body fuel
theorem s_while (fuel : Nat) {c : Expr} {body : List Stmt} {t : En → Rs Bool} {g : FS} (hp : PassesOwn (model X.prog X.w) X.A X.env X.xe) (hc : TV X c t) (hb : BV X W body g) : SV X W (.While c body [] pos) (gWhile fuel t g) := by
  refine ⟨ps_imp (ps_while hp hc.run hb.run) fun D σ H ⟨O, ρ, I, q⟩ => ?_⟩
  have q : Post X.K W O H D (whl t g fuel ρ) := q
  refine ⟨fun m σ' H' => ∃ (O' : Og) (ρ' : En), ER X.K O' H' σ' ρ' ∧ Evo O H O' H' ∧ whl t g m ρ' = whl t g fuel ρ, ⟨fuel, O, ρ, I, .refl, rfl⟩, ?_⟩
  rintro m σ' H' ⟨O', ρ', I', E, hl⟩
  have q1 : Post X.K W O' H' D (whl t g m ρ') := by rw [hl]; exact q.next I E
  cases m with
  | zero => exact q1.elim
  | succ m =>
    rw [whl_succ] at hl q1
    cases e1 : t ρ' with
    | ex z => rw [e1] at q1; exact q1.elim
    | bad => rw [e1] at q1; exact q1.elim
    | ok b =>
      refine ⟨O', ρ', b, I', e1, fun H1 s1 => ?_⟩
      rw [e1] at hl q1
      have I1 := I'.same s1
      have E1 := E.trans I (ER.same_evo s1)
      cases b with
      | false =>
        rw [if_neg Bool.false_ne_true]
        exact q1 O' H1 σ' I1 (ER.same_evo s1)
      | true =>
        rw [if_pos rfl]
        dsimp only at hl q1
        refine ⟨fun σ2 H2 => ∃ (O2 : Og) (ρ2 : En), ER X.K O2 H2 σ2 ρ2 ∧ Evo O H O2 H2 ∧ whl t g m ρ2 = whl t g fuel ρ, fun σ2 H2 h => ⟨m, Nat.lt_succ_self m, h⟩, O', ρ', I1, ?_⟩
        cases e2 : g ρ' with
        | nx ρ2 =>
          rw [e2] at hl
          have hl' : whl t g m ρ2 = whl t g fuel ρ := hl
          exact fun O3 H3 σ3 J3 E5 => ⟨O3, ρ2, J3, E1.trans I E5, hl'⟩
        | ct ρ2 =>
          rw [e2] at hl
          have hl' : whl t g m ρ2 = whl t g fuel ρ := hl
          exact fun O3 H3 σ3 J3 E5 => ⟨O3, ρ2, J3, E1.trans I E5, hl'⟩
        | bk ρ2 => rw [e2] at q1; exact q1.next I' (ER.same_evo s1)
        | rt r ρ2 => rw [e2] at q1; exact q1.next I' (ER.same_evo s1)
        | ex z ρ2 => rw [e2] at q1; exact q1.next I' (ER.same_evo s1)
        | bad => rw [e2] at q1; exact q1.elim
end
end VL
namespace VL
open PySem PySem.Spec
open PyProof.Rows L2
variable [Vx]
/-! ### names are forgotten -/
theorem ER.forget {K : PySem.W.Frag} {O : Og} {H : Hp} {σ : L2.St} {ρ : En} (I : ER K O H σ ρ) : ∀ vs : List Nat, ∃ O' : Og, ER K O' H σ (wipeE ρ vs) ∧ Evo O H O' H
  | [] => ⟨O, I, .refl⟩
  | v :: vs => by
    obtain ⟨O1, J, E1⟩ := I.forget vs
    show ∃ O' : Og, ER K O' H σ ((wipeE ρ vs).set v .un) ∧ Evo O H O' H
    by_cases hi : v < O1.γ.length
    · obtain ⟨A, B, g, e1, e3, e4⟩ := own_split (γ := O1.γ) v hi
      have e5 : (⟨O1.O, O1.γ.set v ⟨[], g.pi⟩⟩ : Og).own = A ++ B := e4 ⟨[], g.pi⟩
      have nd := J.nd
      unfold Og.own at nd
      rw [e3] at nd
      have hs : ∀ a ∈ (⟨O1.O, O1.γ.set v ⟨[], g.pi⟩⟩ : Og).own, a ∈ O1.own := fun a h => by
        rw [e5] at h
        show a ∈ ownG O1.γ
        rw [e3]
        exact mem_mid h
      have hv : v < σ.length := by have a1 := J.len; have a2 := J.lenG; omega
      have hA := J.at_.set (c := ⟨[], g.pi⟩) (a := σ[v]) (b := .un) rfl v
      rw [set_get (List.getElem?_eq_getElem hv)] at hA
      exact ⟨⟨O1.O, O1.γ.set v ⟨[], g.pi⟩⟩, ⟨hA, by rw [e5]; exact nd_mid nd, fun a h => J.sub a (hs a h), J.hg⟩, E1.trans I ⟨fun a o e _ => e, fun a h _ => h, fun a h => .inl (hs a h), fun a h => .inl h, map_pi_set e1⟩⟩
    · have z2 : (wipeE ρ vs).set v .un = wipeE ρ vs := List.set_eq_of_length_le (by have := J.lenG; omega)
      rw [z2]
      exact ⟨O1, J, E1⟩
def gForget (js : List Nat) (g : FS) : FS := fun ρ => match g ρ with
  | .nx ρ' => .nx (wipeE ρ' js)
  | .ct ρ' => .ct (wipeE ρ' js)
  | o => o
theorem b_forget (js : List Nat) {X : Cx} {W : WX} {sts : List Stmt} {g : FS} (h : BV X W sts g) : BV X W sts (gForget js g) := by
  refine ⟨pss_imp h.run fun D σ H ⟨O, ρ, I, q⟩ => ⟨O, ρ, I, ?_⟩⟩
  unfold gForget at q
  cases e : g ρ with
  | nx ρ' =>
    rw [e] at q
    exact fun O' H' σ' J E => let ⟨O2, J2, E2⟩ := J.forget js; q O2 H' σ' J2 (E.trans I E2)
  | ct ρ' =>
    rw [e] at q
    exact fun O' H' σ' J E => let ⟨O2, J2, E2⟩ := J.forget js; q O2 H' σ' J2 (E.trans I E2)
  | rt r ρ2 => rw [e] at q; exact q
  | bk r => rw [e] at q; exact q
  | ex r ρ2 => rw [e] at q; exact q
  | bad => rw [e] at q; exact q
/-! ### loops as folds -/
section
variable {α β : Type} {f : α → D} {E : β → En} {st : D → En → Option En} {body : FS}
theorem loop_fold {step : β → α → β} (Q : β → Prop) : ∀ (xs : List α) (b : β), Q b → (∀ b x, x ∈ xs → Q b → Q (step b x) ∧ ∃ ρ1, st (f x) (E b) = some ρ1 ∧ (body ρ1 = .nx (E (step b x)) ∨ body ρ1 = .ct (E (step b x)))) → gLoop st body (xs.map f) (E b) = .nx (E (xs.foldl step b)) ∧ Q (xs.foldl step b)
  | [], b, hb, _ => ⟨rfl, hb⟩
  | x :: xs, b, hb, h => by
    obtain ⟨h1, ρ1, e1, e2⟩ := h b x List.mem_cons_self hb
    have ih := loop_fold Q xs (step b x) h1 fun b y hy => h b y (List.mem_cons_of_mem _ hy)
    rw [List.map_cons, gLoop_cons, e1]
    dsimp only
    rcases e2 with e2 | e2
    · rw [e2]; exact ih
    · rw [e2]; exact ih
/-- by the place -/
theorem loop_foldi {step : β → α → β} (Q : Nat → β → Prop) (xs : List α) (b : β) (h0 : Q 0 b) (h : ∀ i b x, xs[i]? = some x → Q i b → Q (i + 1) (step b x) ∧ ∃ ρ1, st (f x) (E b) = some ρ1 ∧ (body ρ1 = .nx (E (step b x)) ∨ body ρ1 = .ct (E (step b x)))) :
    gLoop st body (xs.map f) (E b) = .nx (E (xs.foldl step b)) ∧ Q xs.length (xs.foldl step b) := by
  have main : ∀ (xs ys : List α) (i : Nat) (b : β), Q i b → (∀ j, ys[j]? = xs[i + j]?) → ys.length + i = xs.length → (∀ i b x, xs[i]? = some x → Q i b → Q (i + 1) (step b x) ∧ ∃ ρ1, st (f x) (E b) = some ρ1 ∧ (body ρ1 = .nx (E (step b x)) ∨ body ρ1 = .ct (E (step b x)))) →
      gLoop st body (ys.map f) (E b) = .nx (E (ys.foldl step b)) ∧ Q xs.length (ys.foldl step b) := by
    intro xs ys
    induction ys with
    | nil =>
      intro i b hb _ hl _
      simp only [List.length_nil] at hl
      have e : i = xs.length := by omega
      exact ⟨rfl, e ▸ hb⟩
    | cons y ys ih =>
      intro i b hb hj hl hh
      obtain ⟨h1, ρ1, e1, e2⟩ := hh i b y (by have := hj 0; simpa using this.symm) hb
      have ih' := ih (i + 1) (step b y) h1 (fun j => by have := hj (j + 1); rw [show i + 1 + j = i + (j + 1) by omega, ← this]; simp) (by simp only [List.length_cons] at hl; omega) hh
      rw [List.map_cons, gLoop_cons, e1]
      dsimp only
      rcases e2 with e2 | e2
      · rw [e2]; exact ih'
      · rw [e2]; exact ih'
  exact main xs xs 0 b h0 (fun j => by simp) (by simp) h
/-- nothing is carried -/
theorem loop_all {ρ : En} : ∀ (xs : List α), (∀ x ∈ xs, ∃ ρ1, st (f x) ρ = some ρ1 ∧ (body ρ1 = .nx ρ ∨ body ρ1 = .ct ρ)) → gLoop st body (xs.map f) ρ = .nx ρ
  | [], _ => rfl
  | x :: xs, h => by
    obtain ⟨ρ1, e1, e2⟩ := h x List.mem_cons_self
    have ih := loop_all xs fun y hy => h y (List.mem_cons_of_mem _ hy)
    rw [List.map_cons, gLoop_cons, e1]
    dsimp only
    rcases e2 with e2 | e2
    · rw [e2]; exact ih
    · rw [e2]; exact ih
/-- a search: the first item at which the body returns -/
theorem loop_find {ρ : En} {r : α → Option R} : ∀ (xs : List α), (∀ x ∈ xs, ∃ ρ1, st (f x) ρ = some ρ1 ∧ ((r x = none ∧ (body ρ1 = .nx ρ ∨ body ρ1 = .ct ρ)) ∨ ∃ v ρ2, r x = some v ∧ body ρ1 = .rt v ρ2)) →
    ∃ ρ2, gLoop st body (xs.map f) ρ = match xs.findSome? r with | some v => .rt v ρ2 | none => .nx ρ
  | [], _ => ⟨ρ, rfl⟩
  | x :: xs, h => by
    obtain ⟨ρ1, e1, e2⟩ := h x List.mem_cons_self
    obtain ⟨ρ9, ih⟩ := loop_find xs fun y hy => h y (List.mem_cons_of_mem _ hy)
    rw [List.map_cons, gLoop_cons, e1]
    dsimp only
    rw [List.findSome?_cons]
    rcases e2 with ⟨e3, e2⟩ | ⟨v, ρ2, e3, e2⟩
    · rw [e3]
      rcases e2 with e2 | e2
      · rw [e2]; exact ⟨ρ9, ih⟩
      · rw [e2]; exact ⟨ρ9, ih⟩
    · rw [e3, e2]
      exact ⟨ρ2, rfl⟩
end
/-- a comprehension over data of one make -/
theorem lc_map {α : Type} {f : α → D} {st : D → En → Option En} {tt : En → Rs Bool} {fe : FE} {ρ : En} {p : α → Bool} {g : α → D} : ∀ (xs : List α), (∀ x ∈ xs, ∃ ρ1, st (f x) ρ = some ρ1 ∧ tt ρ1 = .ok (p x) ∧ (p x = true → ∃ r, fe ρ1 = .ok r ∧ r.fz = some (g x))) →
    lcLoop st tt fe ρ (xs.map f) = .ok ((xs.filter p).map g)
  | [], _ => rfl
  | x :: xs, h => by
    obtain ⟨ρ1, e1, e2, e3⟩ := h x List.mem_cons_self
    have ih := lc_map xs fun y hy => h y (List.mem_cons_of_mem _ hy)
    rw [List.map_cons]
    unfold lcLoop
    rw [e1]
    dsimp only
    rw [e2, Rs.bind_ok]
    cases hp : p x with
    | false =>
      rw [if_neg Bool.false_ne_true, ih, List.filter_cons_of_neg (by rw [hp]; exact Bool.false_ne_true)]
    | true =>
      obtain ⟨r, e4, e5⟩ := e3 hp
      rw [if_pos rfl, e4, Rs.bind_ok, e5]
      dsimp only
      rw [ih, Rs.bind_ok, List.filter_cons_of_pos hp, List.map_cons]
end VL
namespace VL
open PySem PySem.Spec
open PyProof.Rows L2
variable [Vx]
/-! ### evaluation, by equations -/
section
variable (a b : FS) (f fa fb fc : FE) (g : En → Rs (List R)) (t t1 t2 : En → Rs Bool) (ρ : En) (i j : Nat) (js : List Nat) (F G : D → D → Rs R) (H : List D → Rs R)
theorem ap_gSeq : gSeq a b ρ = (a ρ).bind b := rfl
theorem ap_gNext : gNext ρ = .nx ρ := rfl
theorem ap_gCont : gCont ρ = .ct ρ := rfl
theorem ap_gBreak : gBreak ρ = .bk ρ := rfl
theorem ap_gFz : gFz i a ρ = a (frz i ρ) := rfl
/-- a decided if -/
def br (r : Rs Bool) (x y : So) : So := match r with
  | .ok true => x
  | .ok false => y
  | .ex _ => .bad
  | .bad => .bad
theorem ap_gIf : gIf t a b ρ = br (t ρ) (a ρ) (b ρ) := rfl
theorem br_t (x y : So) : br (.ok true) x y = x := rfl
theorem br_f (x y : So) : br (.ok false) x y = y := rfl
theorem br_b (k : Bool) (x y : So) : br (.ok k) x y = if k = true then x else y := by cases k <;> rfl
/-- a result put to use -/
def useS (r : Rs R) (k : R → So) : So := match r with
  | .ok r => k r
  | .ex _ => .bad
  | .bad => .bad
theorem useS_ok (r : R) (k : R → So) : useS (.ok r) k = k r := rfl
def retR (ρ : En) (r : R) : So := match r with
  | .bw _ => .bad
  | .bt _ => .bad
  | r => .rt r ρ
theorem retR_fr (d : D) : retR ρ (.fr d) = .rt (.fr d) ρ := rfl
theorem retR_ol (d : List D) : retR ρ (.ol d) = .rt (.ol d) ρ := rfl
theorem retR_od (d : List (D × D)) : retR ρ (.od d) = .rt (.od d) ρ := rfl
theorem retR_ot (d : T) : retR ρ (.ot d) = .rt (.ot d) ρ := rfl
theorem ap_gRet : gRet f ρ = useS (f ρ) (retR ρ) := by
  unfold gRet useS
  cases f ρ with
  | ok r => cases r <;> rfl
  | ex e => rfl
  | bad => rfl
def setR (i : Nat) (ρ : En) (r : R) : So := match r.fz with
  | some d => .nx (ρ.set i (.fr d))
  | none => .bad
theorem setR_fr (d : D) : setR i ρ (.fr d) = .nx (ρ.set i (.fr d)) := rfl
theorem setR_ol (d : List D) : setR i ρ (.ol d) = .nx (ρ.set i (.fr (.list d))) := rfl
theorem setR_od (d : List (D × D)) : setR i ρ (.od d) = .nx (ρ.set i (.fr (.dict d))) := rfl
theorem setR_ot (d : T) : setR i ρ (.ot d) = .nx (ρ.set i (.fr d.d)) := rfl
theorem ap_gSet : gSet i f ρ = useS (f ρ) (setR i ρ) := by
  unfold gSet useS
  cases f ρ <;> rfl
def ownR (i : Nat) (ρ : En) (r : R) : So := match r with
  | .bw _ => .bad
  | .bt _ => .bad
  | r => .nx (ρ.set i (slot r))
theorem ownR_fr (d : D) : ownR i ρ (.fr d) = .nx (ρ.set i (.fr d)) := rfl
theorem ownR_ol (d : List D) : ownR i ρ (.ol d) = .nx (ρ.set i (.ol d)) := rfl
theorem ownR_od (d : List (D × D)) : ownR i ρ (.od d) = .nx (ρ.set i (.od d)) := rfl
theorem ownR_ot (d : T) : ownR i ρ (.ot d) = .nx (ρ.set i (.ot d)) := rfl
theorem ap_gOwn : gOwn i f ρ = useS (f ρ) (ownR i ρ) := by
  unfold gOwn useS
  cases f ρ with
  | ok r => cases r <;> rfl
  | ex e => rfl
  | bad => rfl
def ownT (i : Nat) (ρ : En) (r : R) : So := match toT r with
  | some t => .nx (ρ.set i (.ot t))
  | none => .bad
theorem ownT_ol (d : List D) : ownT i ρ (.ol d) = .nx (ρ.set i (.ot (.ol (d.map .fz)))) := rfl
theorem ownT_od (d : List (D × D)) : ownT i ρ (.od d) = .nx (ρ.set i (.ot (.od (d.map fun p => (p.1, .fz p.2))))) := rfl
theorem ownT_ot (d : T) : ownT i ρ (.ot d) = .nx (ρ.set i (.ot d)) := rfl
theorem ap_gOwnT : gOwnT i f ρ = useS (f ρ) (ownT i ρ) := by
  unfold gOwnT useS
  cases f ρ <;> rfl
theorem ap_gRetV : gRetV i ρ = match ρ[i]? with | some (.fr d) => .rt (.fr d) ρ | some (.ol xs) => .rt (.ol xs) (ρ.set i .un) | some (.od xs) => .rt (.od xs) (ρ.set i .un) | some (.ot t) => .rt (.ot t) (ρ.set i .un) | _ => .bad := rfl
theorem ap_gApp : gApp i f ρ = match ρ[i]? with | some (.ol xs) => (useS (f ρ) fun r => (match r.fz with | some d => if xs.length < sizeN then .nx (ρ.set i (.ol (xs ++ [d]))) else .bad | none => .bad)) | _ => .bad := by
  unfold gApp useS
  generalize ρ[i]? = o
  cases o with
  | none => rfl
  | some s => cases s <;> rfl
theorem ap_gAug (op : Int → Int → Int) : gAug i op f ρ = match ρ[i]? with | some (.fr (.int x)) => (useS (f ρ) fun r => (match r with | .fr (.int y) => .nx (ρ.set i (.fr (.int (op x y)))) | _ => .bad)) | _ => .bad := by
  unfold gAug useS
  generalize ρ[i]? = o
  cases o with
  | none => rfl
  | some s =>
    cases s with
    | fr d =>
      cases d with
      | int x =>
        generalize f ρ = z
        cases z with
        | ok r =>
          cases r with
          | fr d => cases d <;> rfl
          | _ => rfl
        | ex e => rfl
        | bad => rfl
      | _ => rfl
    | _ => rfl
def useL (r : Rs (List D)) (k : List D → So) : So := match r with
  | .ok r => k r
  | .ex _ => .bad
  | .bad => .bad
theorem useL_ok (r : List D) (k : List D → So) : useL (.ok r) k = k r := rfl
theorem ap_gFor (fi : En → Rs (List D)) (st : D → En → Option En) : gFor fi st a ρ = useL (fi ρ) fun ds => gLoop st a ds ρ := rfl
theorem ap_gForget : gForget js a ρ = match a ρ with | .nx ρ' => .nx (wipeE ρ' js) | .ct ρ' => .ct (wipeE ρ' js) | o => o := rfl
theorem ap_gAsg (st : D → En → Option En) : gAsg f st ρ = useS (f ρ) fun r => match r.fz with | some d => (match st d ρ with | some ρ' => .nx ρ' | none => .bad) | none => .bad := rfl
theorem ap_gSetIx (fk : FE) : gSetIx i fk f ρ = useS (f ρ) fun r => match r.fz with
    | some d => (match ρ[i]? with
      | some (.ol xs) => (match fk ρ with
        | .ok (.fr (.int k)) => (match ixN xs.length k with
          | some j => .nx (ρ.set i (.ol (xs.set j d)))
          | none => .bad)
        | _ => .bad)
      | _ => .bad)
    | none => .bad := rfl
theorem ap_fVar : fVar i ρ = match ρ[i]? with | some (.fr d) => .ok (.fr d) | some (.ol xs) => .ok (.bw (.list xs)) | some (.od xs) => .ok (.bw (.dict xs)) | some (.ot t) => .ok (.bt t.d) | some (.pt t) => .ok (.bt t.d) | _ => .bad := rfl
theorem ap_fC (d : D) : fC d ρ = .ok (.fr d) := rfl
theorem ap_fOp : fOp F fa fb ρ = (fa ρ).bind fun x => (fb ρ).bind fun y => opR F x y := rfl
theorem opR_frfr (x : D) (y : D) : opR F (.fr x) (.fr y) = F x y := rfl
theorem opR_frol (x : D) (y : List D) : opR F (.fr x) (.ol y) = F x (.list y) := rfl
theorem opR_frod (x : D) (y : List (D × D)) : opR F (.fr x) (.od y) = F x (.dict y) := rfl
theorem opR_frbw (x : D) (y : D) : opR F (.fr x) (.bw y) = F x y := rfl
theorem opR_olfr (x : List D) (y : D) : opR F (.ol x) (.fr y) = F (.list x) y := rfl
theorem opR_olol (x : List D) (y : List D) : opR F (.ol x) (.ol y) = F (.list x) (.list y) := rfl
theorem opR_olod (x : List D) (y : List (D × D)) : opR F (.ol x) (.od y) = F (.list x) (.dict y) := rfl
theorem opR_olbw (x : List D) (y : D) : opR F (.ol x) (.bw y) = F (.list x) y := rfl
theorem opR_odfr (x : List (D × D)) (y : D) : opR F (.od x) (.fr y) = F (.dict x) y := rfl
theorem opR_odol (x : List (D × D)) (y : List D) : opR F (.od x) (.ol y) = F (.dict x) (.list y) := rfl
theorem opR_odod (x : List (D × D)) (y : List (D × D)) : opR F (.od x) (.od y) = F (.dict x) (.dict y) := rfl
theorem opR_odbw (x : List (D × D)) (y : D) : opR F (.od x) (.bw y) = F (.dict x) y := rfl
theorem opR_bwfr (x : D) (y : D) : opR F (.bw x) (.fr y) = F x y := rfl
theorem opR_bwol (x : D) (y : List D) : opR F (.bw x) (.ol y) = F x (.list y) := rfl
theorem opR_bwod (x : D) (y : List (D × D)) : opR F (.bw x) (.od y) = F x (.dict y) := rfl
theorem opR_bwbw (x : D) (y : D) : opR F (.bw x) (.bw y) = F x y := rfl
theorem opR_bt1 (x : D) (y : R) : opR F (.bt x) y = (F x y.d).bind immR := rfl
theorem opR_bt2 (x : R) (y : D) : opR F x (.bt y) = (F x.d y).bind immR := by cases x <;> rfl
theorem immR_fr (x : D) : immR (.fr x) = .ok (if imm x = true then .fr x else .bt x) := rfl
theorem immR_ol (x : List D) : immR (.ol x) = if imms x = true then .ok (.ol x) else .bad := rfl
theorem immR_od (x : List (D × D)) : immR (.od x) = if imms (x.map (·.2)) = true then .ok (.od x) else .bad := rfl
theorem immR_bt (x : D) : immR (.bt x) = .ok (.bt x) := rfl
theorem immR_bw (x : D) : immR (.bw x) = .ok (.bt x) := rfl
theorem imm_n : imm .none = true := by unfold imm; rfl
theorem imm_b (x : Bool) : imm (.bool x) = true := by unfold imm; rfl
theorem imm_i (x : Int) : imm (.int x) = true := by unfold imm; rfl
theorem imm_s (x : Str) : imm (.str x) = true := by unfold imm; rfl
theorem imm_t (x : List D) : imm (.tuple x) = imms x := by rw [imm]
theorem imm_l (x : List D) : imm (.list x) = false := by unfold imm; rfl
theorem imm_d (x : List (D × D)) : imm (.dict x) = false := by unfold imm; rfl
theorem imms_n : imms [] = true := by unfold imms; rfl
theorem imms_c (x : D) (y : List D) : imms (x :: y) = (imm x && imms y) := by rw [imms]
theorem imms_map {α : Type} {f : α → D} (h : ∀ x, imm (f x) = true) : ∀ xs : List α, imms (xs.map f) = true
  | [] => imms_n
  | x :: xs => by rw [List.map_cons, imms_c, h, imms_map h xs]; rfl
theorem imms_app : ∀ xs ys : List D, imms (xs ++ ys) = (imms xs && imms ys)
  | [], ys => by rw [List.nil_append, imms_n, Bool.true_and]
  | x :: xs, ys => by rw [List.cons_append, imms_c, imms_app xs ys, imms_c, Bool.and_assoc]
theorem opU_fr (F : D → Rs R) (x : D) : opU F (.fr x) = F x := rfl
theorem opU_ol (F : D → Rs R) (x : List D) : opU F (.ol x) = F (.list x) := rfl
theorem opU_od (F : D → Rs R) (x : List (D × D)) : opU F (.od x) = F (.dict x) := rfl
theorem opU_bw (F : D → Rs R) (x : D) : opU F (.bw x) = F x := rfl
theorem opU_bt (F : D → Rs R) (x : D) : opU F (.bt x) = (F x).bind immR := rfl
theorem bt_fr (x : D) : (R.fr x).isBt = false := rfl
theorem bt_ol (x : List D) : (R.ol x).isBt = false := rfl
theorem bt_od (x : List (D × D)) : (R.od x).isBt = false := rfl
theorem bt_bw (x : D) : (R.bw x).isBt = false := rfl
theorem bt_bt (x : D) : (R.bt x).isBt = true := rfl
theorem ap_opL (rs : List R) : opL H rs = if rs.any R.isBt = true then (H (rs.map R.d)).bind immR else H (rs.map R.d) := rfl
theorem ap_fB : fB f ρ = (f ρ).bind toB := rfl
theorem ap_toB (k : Bool) : toB (.fr (.bool k)) = .ok k := rfl
theorem ap_fTr : fTr f ρ = (f ρ).bind fun r => truth r.d := rfl
theorem ap_fCall : fCall H g ρ = (g ρ).bind (callR H) := rfl
theorem ap_fBlt : fBlt H g ρ = (g ρ).bind (opL H) := rfl
theorem ap_fNil : fNil ρ = .ok [] := rfl
theorem ap_fCons : fCons f g ρ = (f ρ).bind fun x => (g ρ).bind fun xs => .ok (x :: xs) := rfl
theorem ap_fLst : fLst g ρ = (g ρ).bind fun rs => fzL rs .ol := rfl
theorem ap_fTup : fTup g ρ = (g ρ).bind fun rs => fzL rs fun ds => .fr (.tuple ds) := rfl
theorem ap_fzL (rs : List R) (k : List D → R) : fzL rs k = match fzAll rs with | some ds => .ok (k ds) | none => .bad := rfl
theorem fzAll_nil : fzAll [] = some [] := rfl
theorem fzAll_fr (d : D) (rs : List R) : fzAll (.fr d :: rs) = (fzAll rs).map (d :: ·) := by
  show (match (R.fr d).fz, fzAll rs with | some d, some ds => some (d :: ds) | _, _ => none) = _
  cases fzAll rs <;> rfl
theorem fzAll_ol (d : List D) (rs : List R) : fzAll (.ol d :: rs) = (fzAll rs).map (.list d :: ·) := by
  show (match (R.ol d).fz, fzAll rs with | some d, some ds => some (d :: ds) | _, _ => none) = _
  cases fzAll rs <;> rfl
theorem fzAll_od (d : List (D × D)) (rs : List R) : fzAll (.od d :: rs) = (fzAll rs).map (.dict d :: ·) := by
  show (match (R.od d).fz, fzAll rs with | some d, some ds => some (d :: ds) | _, _ => none) = _
  cases fzAll rs <;> rfl
theorem fzAll_bw (d : D) (rs : List R) : fzAll (.bw d :: rs) = none := rfl
theorem fz_fr (d : D) : (R.fr d).fz = some d := rfl
theorem fz_ol (d : List D) : (R.ol d).fz = some (.list d) := rfl
theorem fz_od (d : List (D × D)) : (R.od d).fz = some (.dict d) := rfl
theorem fz_bw (d : D) : (R.bw d).fz = none := rfl
theorem fz_bt (d : D) : (R.bt d).fz = none := rfl
theorem fz_ot (d : T) : (R.ot d).fz = some d.d := rfl
theorem fzAll_bt (d : D) (rs : List R) : fzAll (.bt d :: rs) = none := rfl
theorem fzAll_ot (d : T) (rs : List R) : fzAll (.ot d :: rs) = (fzAll rs).map (d.d :: ·) := by
  show (match (R.ot d).fz, fzAll rs with | some d, some ds => some (d :: ds) | _, _ => none) = _
  cases fzAll rs <;> rfl
theorem sure_ok {α : Type} (a : α) : (Rs.ok a).sure = .ok a := rfl
theorem sure_bad {α : Type} : (Rs.bad : Rs α).sure = .bad := rfl
theorem ap_callR (rs : List R) : callR H rs = match fzAll rs with | some ds => (H ds).sure | none => (H (rs.map R.d)).sure.bind immR := rfl
theorem ap_fSl (l h : En → Rs (Option Int)) : fSl f l h ρ = (f ρ).bind fun r => (l ρ).bind fun lo => (h ρ).bind fun hi => opU (fun d => dSl d lo hi) r := rfl
theorem ap_fNoP : fNoP ρ = .ok none := rfl
def oInt : R → Rs (Option Int)
  | .fr (.int i) => .ok (some i)
  | _ => .bad
theorem ap_fP : fP f ρ = (f ρ).bind oInt := by
  unfold fP
  cases f ρ with
  | ok r =>
    cases r with
    | fr d => cases d <;> rfl
    | _ => rfl
  | ex e => rfl
  | bad => rfl
theorem ap_oInt (k : Int) : oInt (.fr (.int k)) = .ok (some k) := rfl
theorem ap_fIter (o : R → Rs (List D)) : fIter f o ρ = (f ρ).bind o := rfl
theorem ap_fRng1 : fRng1 g ρ = (g ρ).bind oRng1 := rfl
theorem ap_fRng2 : fRng2 g ρ = (g ρ).bind oRng2 := rfl
theorem ap_oRng1 (k : Int) : oRng1 [.fr (.int k)] = if rngOk k = true then .ok (rng 0 k.toNat) else .bad := rfl
theorem ap_oRng2 (k l : Int) : oRng2 [.fr (.int k), .fr (.int l)] = if (rngOk k && rngOk l) = true then .ok (rng k (l - k).toNat) else .bad := rfl
theorem lo_fr (q : Bool) (ds : List D) : listOf' q (.fr (.list ds)) = .ok ds := rfl
theorem lo_ol (q : Bool) (ds : List D) : listOf' q (.ol ds) = .ok ds := rfl
theorem lo_bw (ds : List D) : listOf' true (.bw (.list ds)) = .ok ds := rfl
theorem lo_bt (ds : List D) : listOf' true (.bt (.list ds)) = if imms ds = true then .ok ds else .bad := rfl
theorem to_bt (ds : List D) : tupOf' (.bt (.tuple ds)) = if imms ds = true then .ok ds else .bad := rfl
theorem to_fr (ds : List D) : tupOf' (.fr (.tuple ds)) = .ok ds := rfl
theorem ap_fRep : fRep fa fb ρ = (fa ρ).bind fun x => (fb ρ).bind fun y => oRep x y := rfl
def repD (k : Nat) (xs : List D) : List D := (List.replicate k xs).flatten
theorem ap_oRep (xs : List D) (k : Int) : oRep (.ol xs) (.fr (.int k)) = if (decide (0 ≤ k) && decide (k ≤ 1000000) && decide (xs.length * k.toNat ≤ sizeN)) = true then .ok (.ol (repD k.toNat xs)) else .bad := rfl
def brR (r : R) (x y : Rs R) : Rs R := match r with
  | .fr (.bool true) => x
  | .fr (.bool false) => y
  | _ => .bad
theorem brR_b (k : Bool) (x y : Rs R) : brR (.fr (.bool k)) x y = if k = true then x else y := by cases k <;> rfl
theorem ap_fAnd : fAnd fa fb ρ = (fa ρ).bind fun r => brR r (fb ρ) (.ok (.fr (.bool false))) := by
  unfold fAnd
  cases fa ρ with
  | ok r =>
    cases r with
    | fr d =>
      cases d with
      | bool k => cases k <;> rfl
      | _ => rfl
    | _ => rfl
  | ex e => rfl
  | bad => rfl
theorem ap_fOr : fOr fa fb ρ = (fa ρ).bind fun r => brR r (.ok (.fr (.bool true))) (fb ρ) := by
  unfold fOr
  cases fa ρ with
  | ok r =>
    cases r with
    | fr d =>
      cases d with
      | bool k => cases k <;> rfl
      | _ => rfl
    | _ => rfl
  | ex e => rfl
  | bad => rfl
def notR : R → Rs R
  | .fr (.bool b) => .ok (.fr (.bool (!b)))
  | _ => .bad
theorem ap_fNot : fNot fa ρ = (fa ρ).bind notR := by
  unfold fNot
  cases fa ρ with
  | ok r =>
    cases r with
    | fr d => cases d <;> rfl
    | _ => rfl
  | ex e => rfl
  | bad => rfl
theorem ap_notR (k : Bool) : notR (.fr (.bool k)) = .ok (.fr (.bool (!k))) := rfl
theorem ap_fNeg : fNeg fa ρ = (fa ρ).bind fun r => dNeg r.d := rfl
theorem ap_dNeg (k : Int) : dNeg (.int k) = .ok (.fr (.int (-k))) := rfl
theorem ap_fIf : fIf t fa fb ρ = (t ρ).bind fun k => if k = true then fa ρ else fb ρ := rfl
theorem ap_fChain : fChain F G fa fb fc ρ = (fa ρ).bind fun x => (fb ρ).bind fun y => (opR F x y).bind fun z => brR z ((fc ρ).bind fun w => opR G y w) (.ok (.fr (.bool false))) := by
  unfold fChain
  cases fa ρ with
  | ok x =>
    cases fb ρ with
    | ok y =>
      simp only [Rs.bind_ok]
      cases opR F x y with
      | ok z =>
        cases z with
        | fr d =>
          cases d with
          | bool k => cases k <;> rfl
          | _ => rfl
        | _ => rfl
      | ex e => rfl
      | bad => rfl
    | ex e => rfl
    | bad => rfl
  | ex e => rfl
  | bad => rfl
theorem ap_fLc (fi : En → Rs (List D)) (st : D → En → Option En) (vs : List Nat) : fLc fi st t f vs ρ = (fi ρ).bind fun ds => (lcLoop st t f (wipeE ρ vs) ds).bind fun ys => .ok (.ol ys) := rfl
theorem ap_tAndB : tAndB t1 t2 ρ = (t1 ρ).bind fun k => if k = true then t2 ρ else .ok false := rfl
theorem ap_tOrB : tOrB t1 t2 ρ = (t1 ρ).bind fun k => if k = true then .ok true else t2 ρ := rfl
theorem ap_tNotB : tNotB t1 ρ = (t1 ρ).bind fun k => .ok (!k) := rfl
theorem ap_ttYes : ttYes ρ = .ok true := rfl
theorem tr_bool (k : Bool) : truth (.bool k) = .ok k := rfl
theorem tr_list (ds : List D) : truth (.list ds) = .ok (!ds.isEmpty) := rfl
theorem tr_tuple (ds : List D) : truth (.tuple ds) = .ok (!ds.isEmpty) := rfl
theorem tr_none : truth .none = .ok false := rfl
theorem tr_int (k : Int) : truth (.int k) = .ok (k != 0) := rfl
theorem ap_sName (d : D) : sName i d ρ = some (ρ.set i (.fr d)) := rfl
theorem ap_sTup (ds : List D) (s : List D → En → Option En) : sTup s (.tuple ds) ρ = s ds ρ := rfl
theorem ap_sCons (d : D) (ds : List D) (s : D → En → Option En) (u : List D → En → Option En) : sCons s u (d :: ds) ρ = (s d ρ).bind (u ds) := rfl
theorem ap_sNil : sNil [] ρ = some ρ := rfl
theorem w_nil : wipeE ρ [] = ρ := rfl
theorem w_cons : wipeE ρ (i :: js) = (wipeE ρ js).set i .un := rfl
theorem slot_fr (d : D) : slot (.fr d) = .fr d := rfl
theorem slot_ol (d : List D) : slot (.ol d) = .ol d := rfl
theorem slot_od (d : List (D × D)) : slot (.od d) = .od d := rfl
theorem slot_ot (d : T) : slot (.ot d) = .ot d := rfl
theorem ap_frz : frz i ρ = match ρ[i]? with | some (.ol xs) => ρ.set i (.fr (.list xs)) | some (.od xs) => ρ.set i (.fr (.dict xs)) | some (.ot t) => ρ.set i (.fr t.d) | _ => ρ := rfl
end
/-! operations -/
theorem add_ii (i j : Int) : dAdd (.int i) (.int j) = .ok (.fr (.int (i + j))) := rfl
theorem add_tt (x y : List D) : dAdd (.tuple x) (.tuple y) = if x.length + y.length ≤ sizeN then .ok (.fr (.tuple (x ++ y))) else .bad := rfl
theorem add_ll (x y : List D) : dAdd (.list x) (.list y) = if x.length + y.length ≤ sizeN then .ok (.ol (x ++ y)) else .bad := rfl
theorem add_ss (x y : Str) : dAdd (.str x) (.str y) = if x.length + y.length ≤ sizeN then .ok (.fr (.str (x ++ y))) else .bad := rfl
theorem sub_ii (i j : Int) : dSub (.int i) (.int j) = .ok (.fr (.int (i - j))) := rfl
theorem mul_ii (i j : Int) : dMul (.int i) (.int j) = if cMul i j = true then .ok (.fr (.int (i * j))) else .bad := rfl
theorem mod_ii (i j : Int) : dMod (.int i) (.int j) = if decide (0 < j) = true then .ok (.fr (.int (i % j))) else .bad := rfl
theorem div_ii (i j : Int) : dDiv (.int i) (.int j) = if (decide (0 < j) && decide (j < 1073741824)) = true then .ok (.fr (.int (i / j))) else .bad := rfl
theorem pow_ii (i j : Int) : dPow (.int i) (.int j) = if (decide (0 ≤ j) && decide (j ≤ 1000) && decide (i.natAbs < 2 ^ 64)) = true then .ok (.fr (.int (i ^ j.toNat))) else .bad := rfl
theorem lt_ii (i j : Int) : dLt (.int i) (.int j) = .ok (.fr (.bool (decide (i < j)))) := rfl
theorem le_ii (i j : Int) : dLe (.int i) (.int j) = .ok (.fr (.bool (decide (i ≤ j)))) := rfl
theorem gt_ii (i j : Int) : dGt (.int i) (.int j) = .ok (.fr (.bool (decide (j < i)))) := rfl
theorem ge_ii (i j : Int) : dGe (.int i) (.int j) = .ok (.fr (.bool (decide (j ≤ i)))) := rfl
theorem isn_ (d : D) : dIsN d .none = .ok (.fr (.bool (isNone d))) := rfl
theorem notn_ (d : D) : dNotN d .none = .ok (.fr (.bool (!isNone d))) := rfl
theorem isNone_n : isNone .none = true := rfl
theorem isNone_i (i : Int) : isNone (.int i) = false := rfl
theorem isNone_t (i : List D) : isNone (.tuple i) = false := rfl
theorem isNone_l (i : List D) : isNone (.list i) = false := rfl
theorem isNone_s (i : Str) : isNone (.str i) = false := rfl
theorem isNone_b (i : Bool) : isNone (.bool i) = false := rfl
/-! data that == knows: no dict, depth at most n -/
def rk : Nat → D → Bool
  | _, .none => true
  | _, .bool _ => true
  | _, .int _ => true
  | _, .str _ => true
  | 0, _ => false
  | n + 1, .list ds => ds.all (rk n)
  | n + 1, .tuple ds => ds.all (rk n)
  | _ + 1, .dict _ => false
theorem rk_none (n : Nat) : rk n .none = true := by cases n <;> rfl
theorem rk_bool (n : Nat) (b : Bool) : rk n (.bool b) = true := by cases n <;> rfl
theorem rk_int (n : Nat) (b : Int) : rk n (.int b) = true := by cases n <;> rfl
theorem rk_str (n : Nat) (b : Str) : rk n (.str b) = true := by cases n <;> rfl
theorem rk_list (n : Nat) (ds : List D) : rk (n + 1) (.list ds) = ds.all (rk n) := rfl
theorem rk_tuple (n : Nat) (ds : List D) : rk (n + 1) (.tuple ds) = ds.all (rk n) := rfl
theorem rk_sound : ∀ (n : Nat) (d : D), rk n d = true → d.plain = true ∧ d.depth ≤ n
  | n, .none, _ => ⟨rfl, by simp [PyData.depth]⟩
  | n, .bool _, _ => ⟨rfl, by simp [PyData.depth]⟩
  | n, .int _, _ => ⟨rfl, by simp [PyData.depth]⟩
  | n, .str _, _ => ⟨rfl, by simp [PyData.depth]⟩
  | 0, .list _, h => by cases h
  | 0, .tuple _, h => by cases h
  | 0, .dict _, h => by cases h
  | n + 1, .dict _, h => by cases h
  | n + 1, .list ds, h => by
    have key : ∀ ds : List D, ds.all (rk n) = true → PyData.plainAll ds = true ∧ PyData.depthAll ds ≤ n := fun ds => by
      induction ds with
      | nil => intro _; exact ⟨rfl, by simp [PyData.depthAll]⟩
      | cons d ds ih =>
        intro h
        rw [List.all_cons, Bool.and_eq_true] at h
        obtain ⟨h1, h2⟩ := rk_sound n d h.1
        obtain ⟨h3, h4⟩ := ih h.2
        refine ⟨?_, ?_⟩
        · show (d.plain && PyData.plainAll ds) = true
          rw [h1, h3]; rfl
        · simp only [PyData.depthAll]; omega
    obtain ⟨h1, h2⟩ := key ds h
    exact ⟨h1, by simp only [PyData.depth]; omega⟩
  | n + 1, .tuple ds, h => by
    have key : ∀ ds : List D, ds.all (rk n) = true → PyData.plainAll ds = true ∧ PyData.depthAll ds ≤ n := fun ds => by
      induction ds with
      | nil => intro _; exact ⟨rfl, by simp [PyData.depthAll]⟩
      | cons d ds ih =>
        intro h
        rw [List.all_cons, Bool.and_eq_true] at h
        obtain ⟨h1, h2⟩ := rk_sound n d h.1
        obtain ⟨h3, h4⟩ := ih h.2
        refine ⟨?_, ?_⟩
        · show (d.plain && PyData.plainAll ds) = true
          rw [h1, h3]; rfl
        · simp only [PyData.depthAll]; omega
    obtain ⟨h1, h2⟩ := key ds h
    exact ⟨h1, by simp only [PyData.depth]; omega⟩
theorem ok_rk {d : D} (h : rk 20 d = true) : okD d = true := by
  obtain ⟨h1, h2⟩ := rk_sound 20 d h
  unfold okD
  rw [h1, decide_eq_true (by omega)]
  rfl
theorem eq_rk {d e : D} (h1 : rk 20 d = true) (h2 : rk 20 e = true) : dEq d e = .ok (.fr (.bool (PyData.eqv d e))) := by
  unfold dEq
  rw [ok_rk h1, ok_rk h2]
  rfl
theorem ne_rk {d e : D} (h1 : rk 20 d = true) (h2 : rk 20 e = true) : dNe d e = .ok (.fr (.bool (!PyData.eqv d e))) := by
  unfold dNe
  rw [ok_rk h1, ok_rk h2]
  rfl
theorem inl_rk {d : D} {ds : List D} (neg : Bool) (h1 : rk 20 d = true) (h2 : rk 20 (.list ds) = true) : dIn neg d (.list ds) = dInB neg (ds.any fun y => PyData.eqv y d) := by
  unfold dIn
  simp only [ok_rk h1, ok_rk h2, Bool.and_self, if_true]
theorem int_rk {d : D} {ds : List D} (neg : Bool) (h1 : rk 20 d = true) (h2 : rk 20 (.tuple ds) = true) : dIn neg d (.tuple ds) = dInB neg (ds.any fun y => PyData.eqv y d) := by
  unfold dIn
  simp only [ok_rk h1, ok_rk h2, Bool.and_self, if_true]
theorem inB_f (b : Bool) : dInB false b = .ok (.fr (.bool b)) := rfl
theorem inB_t (b : Bool) : dInB true b = .ok (.fr (.bool (!b))) := rfl
theorem ix_l (ds : List D) (i : Int) : dIx (.list ds) (.int i) = atD ds i := rfl
theorem ix_t (ds : List D) (i : Int) : dIx (.tuple ds) (.int i) = atD ds i := rfl
theorem atD_eq (ds : List D) (i : Int) : atD ds i = match atI ds i with | some d => .ok (.fr d) | none => .bad := rfl
theorem atI_0 {α : Type} (a : α) (l : List α) : atI (a :: l) 0 = some a := atI_nat (j := 0) rfl
theorem atI_1 {α : Type} (a b : α) (l : List α) : atI (a :: b :: l) 1 = some b := atI_nat (j := 1) rfl
theorem atI_2 {α : Type} (a b c : α) (l : List α) : atI (a :: b :: c :: l) 2 = some c := atI_nat (j := 2) rfl
theorem atI_3 {α : Type} (a b c d : α) (l : List α) : atI (a :: b :: c :: d :: l) 3 = some d := atI_nat (j := 3) rfl
theorem atI_4 {α : Type} (a b c d e : α) (l : List α) : atI (a :: b :: c :: d :: e :: l) 4 = some e := atI_nat (j := 4) rfl
theorem atI_5 {α : Type} (a b c d e f : α) (l : List α) : atI (a :: b :: c :: d :: e :: f :: l) 5 = some f := atI_nat (j := 5) rfl
theorem atI_6 {α : Type} (a b c d e f g : α) (l : List α) : atI (a :: b :: c :: d :: e :: f :: g :: l) 6 = some g := atI_nat (j := 6) rfl
theorem atI_7 {α : Type} (a b c d e f g h : α) (l : List α) : atI (a :: b :: c :: d :: e :: f :: g :: h :: l) 7 = some h := atI_nat (j := 7) rfl
theorem atI_ofNat {α : Type} (l : List α) (i : Nat) : atI l (i : Int) = l[i]? := by
  cases e : l[i]? with
  | some v => exact atI_nat e
  | none =>
    unfold atI ixN
    have h := List.getElem?_eq_none_iff.mp e
    rw [if_pos (by omega), if_neg (by omega)]
    rfl
theorem atI_pos {α : Type} {l : List α} {i : Int} (h : 0 ≤ i) : atI l i = l[i.toNat]? := by
  obtain ⟨n, rfl⟩ := Int.eq_ofNat_of_zero_le h
  rw [atI_ofNat]
  rfl
theorem atI_out {α : Type} {l : List α} {i : Int} (h : (l.length : Int) ≤ i) : atI l i = none := by
  unfold atI ixN
  rw [if_pos (by omega), if_neg (by omega)]
  rfl
theorem atI_map {α β : Type} (f : α → β) (l : List α) (i : Int) : atI (l.map f) i = (atI l i).map f := by
  unfold atI
  rw [List.length_map]
  cases ixN l.length i with
  | none => rfl
  | some j => simp
theorem sl_l (ds : List D) (lo hi : Option Int) : dSl (.list ds) lo hi = .ok (.ol (cutD ds lo hi)) := rfl
theorem sl_t (ds : List D) (lo hi : Option Int) : dSl (.tuple ds) lo hi = .ok (.fr (.tuple (cutD ds lo hi))) := rfl
theorem cut_from {α : Type} (l : List α) (i : Int) (h : 0 ≤ i) : cutD l (some i) none = l.drop i.toNat := by
  unfold cutD HT.sIx
  simp only [if_neg (show ¬ i < 0 by omega)]
  rw [List.take_of_length_le (by rw [List.length_drop]; omega)]
  by_cases h2 : i.toNat ≤ l.length
  · rw [Nat.min_eq_left h2]
  · rw [Nat.min_eq_right (by omega), List.drop_of_length_le (Nat.le_refl _), List.drop_of_length_le (by omega)]
theorem cut_to {α : Type} (l : List α) (i : Int) (h : 0 ≤ i) : cutD l none (some i) = l.take i.toNat := by
  unfold cutD HT.sIx
  simp only [if_neg (show ¬ i < 0 by omega), List.drop_zero, Nat.sub_zero]
  by_cases h2 : i.toNat ≤ l.length
  · rw [Nat.min_eq_left h2]
  · rw [Nat.min_eq_right (by omega), List.take_of_length_le (Nat.le_refl _), List.take_of_length_le (by omega)]
theorem len_l (ds : List D) : dLen [.list ds] = .ok (.fr (.int ds.length)) := rfl
theorem len_t (ds : List D) : dLen [.tuple ds] = .ok (.fr (.int ds.length)) := rfl
theorem min_ii (i j : Int) : dMin2 [.int i, .int j] = .ok (.fr (.int (if j < i then j else i))) := rfl
theorem max_ii (i j : Int) : dMax2 [.int i, .int j] = .ok (.fr (.int (if j > i then j else i))) := rfl
theorem list_l (ds : List D) : dListOf [.list ds] = .ok (.ol ds) := rfl
theorem list_t (ds : List D) : dListOf [.tuple ds] = .ok (.ol ds) := rfl
theorem tuple_l (ds : List D) : dTupOf [.list ds] = .ok (.fr (.tuple ds)) := rfl
theorem tuple_t (ds : List D) : dTupOf [.tuple ds] = .ok (.fr (.tuple ds)) := rfl
theorem int_i (i : Int) : dInt1 [.int i] = .ok (.fr (.int i)) := rfl
theorem int_b (i : Bool) : dInt1 [.bool i] = .ok (.fr (.int (if i = true then 1 else 0))) := rfl
theorem sorted_l {ds : List D} (h1 : rk 20 (.list ds) = true) (h2 : alikeB ds = true) (h3 : sortableB ds = true) : dSorted [.list ds] = .ok (.ol (ds.mergeSort dleD)) := by
  unfold dSorted
  simp only [ok_rk h1, h2, h3, Bool.and_self, if_true]
/-! equality of data -/
theorem ofString_inj {a b : String} : (Str.ofString a = Str.ofString b) = (a = b) := by
  refine propext ⟨fun h => ?_, fun h => by rw [h]⟩
  have h1 : (cpsOfBytes 0 0 a.toByteArray.data.toList).toArray = (cpsOfBytes 0 0 b.toByteArray.data.toList).toArray := congrArg Str.cps h
  have h2 : cpsOfBytes 0 0 a.toByteArray.data.toList = cpsOfBytes 0 0 b.toByteArray.data.toList := by
    have := congrArg Array.toList h1
    simpa using this
  rw [cpsOfBytes_string, cpsOfBytes_string] at h2
  have inj : ∀ (x y : List Char), x.map Char.toNat = y.map Char.toNat → x = y := by
    intro x
    induction x with
    | nil => intro y h; cases y with
      | nil => rfl
      | cons c y => cases h
    | cons c x ih =>
      intro y h
      cases y with
      | nil => cases h
      | cons d y =>
        rw [List.map_cons, List.map_cons] at h
        injection h with e1 e2
        have : c = d := Char.ext (UInt32.toNat_inj.mp e1)
        rw [this, ih y e2]
  exact String.toList_inj.mp (inj _ _ h2)
theorem eqv_ii (i j : Int) : PyData.eqv (.int i) (.int j) = decide (i = j) := by
  unfold PyData.eqv
  exact Bool.beq_eq_decide_eq i j
theorem eqv_ss (i j : Str) : PyData.eqv (.str i) (.str j) = decide (i = j) := by
  unfold PyData.eqv
  exact Bool.beq_eq_decide_eq i j
theorem eqv_bb (i j : Bool) : PyData.eqv (.bool i) (.bool j) = decide (i = j) := by
  unfold PyData.eqv
  exact Bool.beq_eq_decide_eq i j
theorem eqv_nn : PyData.eqv .none .none = true := by unfold PyData.eqv; rfl
theorem eqv_ni (j : Int) : PyData.eqv .none (.int j) = false := by unfold PyData.eqv; rfl
theorem eqv_in (j : Int) : PyData.eqv (.int j) .none = false := by unfold PyData.eqv; rfl
theorem eqv_is (i : Int) (j : Str) : PyData.eqv (.int i) (.str j) = false := by unfold PyData.eqv; rfl
theorem eqv_si (i : Int) (j : Str) : PyData.eqv (.str j) (.int i) = false := by unfold PyData.eqv; rfl
theorem eqv_ns (j : Str) : PyData.eqv .none (.str j) = false := by unfold PyData.eqv; rfl
theorem eqv_sn (j : Str) : PyData.eqv (.str j) .none = false := by unfold PyData.eqv; rfl
theorem eqv_ll (i j : List D) : PyData.eqv (.list i) (.list j) = PyData.eqvAll i j := by rw [PyData.eqv]
theorem eqv_tt (i j : List D) : PyData.eqv (.tuple i) (.tuple j) = PyData.eqvAll i j := by rw [PyData.eqv]
theorem eqva_nn : PyData.eqvAll [] [] = true := by rw [PyData.eqvAll]
theorem eqva_cc (x y : D) (i j : List D) : PyData.eqvAll (x :: i) (y :: j) = (PyData.eqv x y && PyData.eqvAll i j) := by rw [PyData.eqvAll]
theorem eqva_nc (y : D) (j : List D) : PyData.eqvAll [] (y :: j) = false := by rw [PyData.eqvAll]
theorem eqva_cn (y : D) (j : List D) : PyData.eqvAll (y :: j) [] = false := by rw [PyData.eqvAll]
theorem eqva_map {α : Type} {f : α → D} [DecidableEq α] (h : ∀ x y, PyData.eqv (f x) (f y) = decide (x = y)) : ∀ xs ys : List α, PyData.eqvAll (xs.map f) (ys.map f) = decide (xs = ys)
  | [], [] => by rw [List.map_nil, eqva_nn]; rfl
  | [], y :: ys => by rw [List.map_nil, List.map_cons, eqva_nc]; rfl
  | x :: xs, [] => by rw [List.map_nil, List.map_cons, eqva_cn]; rfl
  | x :: xs, y :: ys => by
    rw [List.map_cons, List.map_cons, eqva_cc, h, eqva_map h xs ys]
    by_cases e1 : x = y
    · by_cases e2 : xs = ys
      · simp [e1, e2]
      · simp [e1, e2]
    · simp [e1]
theorem eqv_self : ∀ (d : D), d.plain = true → PyData.eqv d d = true
  | .none, _ => eqv_nn
  | .bool b, _ => by rw [eqv_bb]; simp
  | .int b, _ => by rw [eqv_ii]; simp
  | .str b, _ => by rw [eqv_ss]; simp
  | .list ds, h => by rw [eqv_ll]; exact eqva_self ds h
  | .tuple ds, h => by rw [eqv_tt]; exact eqva_self ds h
  | .dict _, h => by cases h
where
  eqva_self : ∀ ds : List D, PyData.plainAll ds = true → PyData.eqvAll ds ds = true
  | [], _ => eqva_nn
  | d :: ds, h => by
    have h' : (d.plain && PyData.plainAll ds) = true := h
    rw [Bool.and_eq_true] at h'
    rw [eqva_cc, eqv_self d h'.1, eqva_self ds h'.2]
    rfl
theorem eqv_refl {d : D} (h : rk 20 d = true) : PyData.eqv d d = true := eqv_self d (rk_sound 20 d h).1
theorem any_map_eqv {α : Type} {f : α → D} [DecidableEq α] (h : ∀ x y, PyData.eqv (f x) (f y) = decide (x = y)) (xs : List α) (y : α) : ((xs.map f).any fun z => PyData.eqv z (f y)) = decide (y ∈ xs) := by
  rw [List.any_map, Bool.eq_iff_iff, List.any_eq_true]
  simp only [Function.comp, h, decide_eq_true_eq]
  constructor
  · rintro ⟨x, hx, rfl⟩; exact hx
  · intro hy; exact ⟨y, hy, rfl⟩
theorem all_map_rk {α : Type} {f : α → D} {n : Nat} (h : ∀ x, rk n (f x) = true) (xs : List α) : (xs.map f).all (rk n) = true := by
  rw [List.all_eq_true]
  intro d hd
  obtain ⟨x, _, rfl⟩ := List.mem_map.mp hd
  exact h x
/-! ifs that are not decided -/
theorem okite1 (c k : Bool) : (if c = true then Rs.ok true else Rs.ok k) = Rs.ok (c || k) := by cases c <;> rfl
theorem okite2 (c k : Bool) : (if c = true then Rs.ok k else Rs.ok false) = Rs.ok (c && k) := by cases c <;> rfl
theorem bind_ite (c : Prop) [Decidable c] (a b : So) (g : FS) : (if c then a else b).bind g = if c then a.bind g else b.bind g := by split <;> rfl
theorem rbind_ite {α β : Type} (c : Prop) [Decidable c] (a b : Rs α) (g : α → Rs β) : (if c then a else b).bind g = if c then a.bind g else b.bind g := by split <;> rfl
/-- a def's end -/
def fin (o : So) : Rs R := match o with
  | .nx _ => .ok (.fr .none)
  | .rt (.bw _) _ => .bad
  | .rt (.bt _) _ => .bad
  | .rt r _ => .ok r
  | .ex e _ => .ex e
  | _ => .bad
theorem fin_ite (c : Prop) [Decidable c] (a b : So) : fin (if c then a else b) = if c then fin a else fin b := by split <;> rfl
theorem fin_rt_fr (d : D) (ρ : En) : fin (.rt (.fr d) ρ) = .ok (.fr d) := rfl
theorem fin_rt_ol (d : List D) (ρ : En) : fin (.rt (.ol d) ρ) = .ok (.ol d) := rfl
theorem fin_rt_od (d : List (D × D)) (ρ : En) : fin (.rt (.od d) ρ) = .ok (.od d) := rfl
theorem fin_rt_ot (d : T) (ρ : En) : fin (.rt (.ot d) ρ) = .ok (.ot d) := rfl
theorem fin_nx (ρ : En) : fin (.nx ρ) = .ok (.fr .none) := rfl
theorem fin_ex (e : Exn) (ρ : En) : fin (.ex e ρ) = .ex e := rfl
theorem fin_bad : fin .bad = .bad := rfl
theorem fnR_eq (n : Nat) (g : FS) (ds : List D) : fnR n g ds = fin (g (ds.map Sl.fr ++ List.replicate (n - ds.length) Sl.un)) := by
  unfold fnR fin0 fin
  cases g (ds.map Sl.fr ++ List.replicate (n - ds.length) Sl.un) with
  | rt r => cases r <;> rfl
  | _ => rfl
/-- a loop, by what holds between its turns -/
theorem loop_ex {α β : Type} {f : α → D} {E : β → En} {st : D → En → Option En} {body : FS} (Q : Nat → β → Prop) (xs : List α) (b : β) (h0 : Q 0 b) (h : ∀ i b x, xs[i]? = some x → Q i b → ∃ b', Q (i + 1) b' ∧ ∃ ρ1, st (f x) (E b) = some ρ1 ∧ (body ρ1 = .nx (E b') ∨ body ρ1 = .ct (E b'))) :
    ∃ b', Q xs.length b' ∧ gLoop st body (xs.map f) (E b) = .nx (E b') := by
  have main : ∀ (ys : List α) (i : Nat) (b : β), Q i b → (∀ j, ys[j]? = xs[i + j]?) → ys.length + i = xs.length → ∃ b', Q xs.length b' ∧ gLoop st body (ys.map f) (E b) = .nx (E b') := by
    intro ys
    induction ys with
    | nil =>
      intro i b hb _ hl
      simp only [List.length_nil] at hl
      have e : i = xs.length := by omega
      exact ⟨b, e ▸ hb, rfl⟩
    | cons y ys ih =>
      intro i b hb hj hl
      obtain ⟨b1, h1, ρ1, e1, e2⟩ := h i b y (by have := hj 0; simpa using this.symm) hb
      obtain ⟨b', h2, h3⟩ := ih (i + 1) b1 h1 (fun j => by have := hj (j + 1); rw [show i + 1 + j = i + (j + 1) by omega, ← this]; simp) (by simp only [List.length_cons] at hl; omega)
      refine ⟨b', h2, ?_⟩
      rw [List.map_cons, gLoop_cons, e1]
      dsimp only
      rcases e2 with e2 | e2
      · rw [e2]; exact h3
      · rw [e2]; exact h3
  exact main xs 0 b h0 (fun j => by simp) (by simp)
theorem All2.snoc {α β : Type} {P : α → β → Prop} {a : α} {b : β} (r : P a b) : ∀ {as : List α} {bs : List β}, All2 P as bs → All2 P (as ++ [a]) (bs ++ [b])
  | _, _, .nil => .cons r .nil
  | _, _, .cons q t => .cons q (All2.snoc r t)
theorem range_at {n i x : Nat} (h : (List.range n)[i]? = some x) : x = i ∧ i < n := by
  obtain ⟨h1, h2⟩ := List.getElem?_eq_some_iff.mp h
  rw [List.length_range] at h1
  rw [List.getElem_range] at h2
  exact ⟨h2.symm, h1⟩
theorem take_at {α : Type} {l : List α} {i : Nat} {x : α} (h : l[i]? = some x) : l.take (i + 1) = l.take i ++ [x] := by
  obtain ⟨h1, h2⟩ := List.getElem?_eq_some_iff.mp h
  rw [List.take_succ_eq_append_getElem h1, h2]
end VL
namespace VL
open PySem PySem.Spec
open PyProof.Rows L2
variable [Vx]
local macro_rules | `(tactic| walk_at "vl") => `(tactic| simp only [fnR_eq, ap_gSeq, ap_gNext, ap_gCont, ap_gBreak, ap_gFz, ap_gIf, br_t, br_f, br_b, useS_ok, ap_gRet, ap_gSet, ap_gOwn, ap_gRetV, ap_gApp, ap_gAug, useL_ok, ap_gFor, ap_gForget, ap_gAsg, ap_gSetIx, ap_fVar, ap_fC, ap_fOp, ap_fB, ap_toB, ap_fTr, ap_fCall, ap_fBlt, ap_fNil, ap_fCons, ap_fLst, ap_fTup, ap_fzL, fzAll_nil, fzAll_fr, fzAll_ol, fzAll_od, fzAll_bw, fz_fr, fz_ol, fz_od, fz_bw, ap_callR, sure_ok, sure_bad, ap_fSl, ap_fNoP, ap_fP, ap_oInt, ap_fIter, ap_fRng1, ap_fRng2, ap_oRng1, ap_oRng2, lo_fr, lo_ol, lo_bw, to_fr, ap_fRep, ap_oRep, okite1, okite2, bind_ite, rbind_ite, fin_ite, fin_rt_fr, fin_rt_ol, fin_nx, fin_bad, brR_b, ap_fAnd, ap_fOr, ap_fNot, ap_notR, ap_fNeg, ap_dNeg, ap_fIf, ap_fChain, ap_fLc, ap_tAndB, ap_tOrB, ap_tNotB, ap_ttYes, tr_bool, tr_list, tr_tuple, tr_none, tr_int, ap_sName, ap_sTup, ap_sCons, ap_sNil, w_nil, w_cons, slot_fr, slot_ol, slot_od, ap_frz, add_ii, add_tt, add_ll, add_ss, sub_ii, mul_ii, mod_ii, div_ii, pow_ii, lt_ii, le_ii, gt_ii, ge_ii, isn_, notn_, isNone_n, isNone_i, isNone_t, isNone_l, isNone_s, isNone_b, rk_none, rk_bool, rk_int, rk_str, rk_list, rk_tuple, eq_rk, ne_rk, inl_rk, int_rk, inB_f, inB_t, ix_l, ix_t, atD_eq, atI_0, atI_1, atI_2, atI_3, atI_4, atI_5, atI_6, atI_7, atI_map, sl_l, sl_t, len_l, len_t, min_ii, max_ii, list_l, list_t, tuple_l, tuple_t, int_i, int_b, ofString_inj, eqv_ii, eqv_ss, eqv_bb, eqv_nn, eqv_ni, eqv_in, eqv_is, eqv_si, eqv_ns, eqv_sn, eqv_ll, eqv_tt, eqva_nn, eqva_cc, eqva_nc, eqva_cn, Rs.bind_ok, Rs.bind_bad, So.bind_nx, So.bind_rt, So.bind_ct, So.bind_bk, So.bind_bad, R.d_fr, R.d_ol, R.d_od, R.d_bw, retR_fr, retR_ol, retR_od, retR_ot, setR_fr, setR_ol, setR_od, setR_ot, ownR_fr, ownR_ol, ownR_od, ownR_ot, ownT_ol, ownT_od, ownT_ot, ap_gOwnT, opR_frfr, opR_frol, opR_frod, opR_frbw, opR_olfr, opR_olol, opR_olod, opR_olbw, opR_odfr, opR_odol, opR_odod, opR_odbw, opR_bwfr, opR_bwol, opR_bwod, opR_bwbw, opR_bt1, opR_bt2, immR_fr, immR_ol, immR_od, immR_bt, immR_bw, imm_n, imm_b, imm_i, imm_s, imm_t, imm_l, imm_d, imms_n, imms_c, opU_fr, opU_ol, opU_od, opU_bw, opU_bt, bt_fr, bt_ol, bt_od, bt_bw, bt_bt, ap_opL, fz_bt, fz_ot, fzAll_bt, fzAll_ot, lo_bt, to_bt, slot_ot, fin_rt_od, fin_rt_ot, fin_ex, R.d_bt, R.d_ot, Rs.bind_ex, So.bind_ex,
  List.map_cons, List.map_nil, List.length_cons, List.length_nil, List.length_map, List.replicate_succ, List.replicate_zero, List.cons_append, List.nil_append, List.append_nil, List.getElem?_cons_zero, List.getElem?_cons_succ, List.set_cons_zero, List.set_cons_succ, List.all_cons, List.all_nil, List.any_cons, List.any_nil, Nat.zero_add, Nat.add_one_sub_one, Nat.reduceAdd, Nat.reduceSub, Nat.reduceMul, Nat.reduceLeDiff, Int.cast_ofNat_Int, Int.reduceLT, Int.reduceLE, Int.reduceAdd, Int.reduceMul, Int.reduceEq, Int.reduceNe, Int.reduceToNat, Int.reduceNeg, Int.reducePow, String.reduceEq, decide_true, decide_false, Bool.false_eq_true, Bool.or_true, Bool.or_false, Bool.true_or, Bool.false_or, Bool.and_true, Bool.true_and, Bool.and_false, Bool.false_and, Bool.not_true, Bool.not_false, Bool.and_self, Bool.or_self, if_true, if_false, ite_true, ite_false, reduceIte, Option.bind_some, Option.bind_none, Option.map_some, Option.map_none, and_self, and_true, true_and, eq_self])
/-! ### a law's own readers of the script -/
def gCell : FS := gSeq (gIf (fB (fOp dLt (fVar 1) (fBlt dLen (fCons (fVar 0) (fNil))))) (gRet (fOp dIx (fVar 0) (fVar 1))) (gNext)) (gRet (fC (.int 0)))
def FCell : List D → Rs R := fnR 2 gCell
def cellI (ns : List Int) (k : Nat) : Int := ns.getD k 0
theorem cell_eq (ns : List Int) (k : Nat) : FCell [.list (ns.map .int), .int k] = .ok (.fr (.int (cellI ns k))) := by
  unfold FCell gCell
  walk_at "vl"
  by_cases h : (k : Int) < (ns.length : Int)
  · have h' : k < ns.length := by omega
    simp only [h, decide_true, if_true, atI_ofNat, List.getElem?_eq_getElem h', Option.map_some]
    walk_at "vl"
    unfold cellI
    rw [List.getD_eq_getElem?_getD, List.getElem?_eq_getElem h']
    rfl
  · have h' : ns.length ≤ k := by omega
    simp only [h, decide_false, Bool.false_eq_true, if_false]
    try walk_at "vl"
    unfold cellI
    rw [List.getD_eq_getElem?_getD, List.getElem?_eq_none h']
    rfl
def gDraw : FS := gSeq (gSet 3 (fCall FCell (fCons (fVar 0) (fCons (fVar 1) (fNil))))) (gSeq (gIf (fB (fOp dLt (fVar 3) (fC (.int 0)))) (gSet 3 (fNeg (fVar 3))) (gNext)) (gSeq (gOwn 4 (fLst (fNil))) (gSeq (gIf (fB (fOp dGe (fVar 3) (fOp dPow (fC (.int 10)) (fC (.int 18))))) (gSeq (gSet 3 (fOp dSub (fVar 3) (fOp dPow (fC (.int 10)) (fC (.int 18))))) (gSeq (gFor (fIter (fVar 2) (listOf' false)) (sName 7) (gForget [7] (gSeq (gApp 4 (fOp dMod (fVar 3) (fVar 7))) (gSet 3 (fOp dDiv (fVar 3) (fVar 7)))))) (gRetV 4))) (gNext)) (gSeq (gSet 5 (fOp dMod (fOp dAdd (fOp dAdd (fVar 3) (fC (.int 1))) (fOp dMul (fC (.int 31)) (fVar 1))) (fC (.int 2147483647)))) (gSeq (gFor (fRng1 (fCons (fBlt dLen (fCons (fVar 2) (fNil))) (fNil))) (sName 6) (gForget [6] (gSeq (gSet 5 (fOp dMod (fOp dAdd (fOp dAdd (fOp dMul (fVar 5) (fC (.int 48271))) (fC (.int 11))) (fVar 6)) (fC (.int 2147483647)))) (gSeq (gSet 5 (fOp dMod (fOp dAdd (fOp dMul (fVar 5) (fC (.int 69621))) (fC (.int 3))) (fC (.int 2147483647)))) (gApp 4 (fOp dMod (fOp dDiv (fVar 5) (fC (.int 7))) (fOp dIx (fVar 2) (fVar 6)))))))) (gRetV 4))))))
def FDraw : List D → Rs R := fnR 8 gDraw
theorem cMul_31 (k : Int) : cMul 31 k = true := by simp [cMul]
theorem cMul_a (k : Int) : cMul k 48271 = true := by simp [cMul]
theorem cMul_b (k : Int) : cMul k 69621 = true := by simp [cMul]
theorem sz_small {n : Nat} (h : n ≤ 1000000) : n < sizeN := by unfold sizeN; omega
theorem szle_small {n : Nat} (h : n ≤ 1000000) : n ≤ sizeN := by unfold sizeN; omega
theorem rngOk_n {n : Nat} (h : n ≤ 8000000) : rngOk (n : Int) = true := by
  unfold rngOk
  rw [decide_eq_true (by omega), decide_eq_true (by omega)]
  rfl
def gDraw2 : FS := (gSeq (gOwn 4 (fLst (fNil))) (gSeq (gIf (fB (fOp dGe (fVar 3) (fOp dPow (fC (.int 10)) (fC (.int 18))))) (gSeq (gSet 3 (fOp dSub (fVar 3) (fOp dPow (fC (.int 10)) (fC (.int 18))))) (gSeq (gFor (fIter (fVar 2) (listOf' false)) (sName 7) (gForget [7] (gSeq (gApp 4 (fOp dMod (fVar 3) (fVar 7))) (gSet 3 (fOp dDiv (fVar 3) (fVar 7)))))) (gRetV 4))) (gNext)) (gSeq (gSet 5 (fOp dMod (fOp dAdd (fOp dAdd (fVar 3) (fC (.int 1))) (fOp dMul (fC (.int 31)) (fVar 1))) (fC (.int 2147483647)))) (gSeq (gFor (fRng1 (fCons (fBlt dLen (fCons (fVar 2) (fNil))) (fNil))) (sName 6) (gForget [6] (gSeq (gSet 5 (fOp dMod (fOp dAdd (fOp dAdd (fOp dMul (fVar 5) (fC (.int 48271))) (fC (.int 11))) (fVar 6)) (fC (.int 2147483647)))) (gSeq (gSet 5 (fOp dMod (fOp dAdd (fOp dMul (fVar 5) (fC (.int 69621))) (fC (.int 3))) (fC (.int 2147483647)))) (gApp 4 (fOp dMod (fOp dDiv (fVar 5) (fC (.int 7))) (fOp dIx (fVar 2) (fVar 6)))))))) (gRetV 4)))))
theorem draw_ok2 (ns : List Int) (k : Nat) (sizes : List Int) (hs : ∀ s ∈ sizes, 0 < s ∧ s < 1073741824) (hl : sizes.length ≤ 1000) (c : Int) :
    ∃ ds : List Int, fin (gDraw2 [.fr (.list (ns.map .int)), .fr (.int k), .fr (.list (sizes.map .int)), .fr (.int c), .un, .un, .un, .un]) = .ok (.ol (ds.map .int)) ∧ All2 (fun d s => 0 ≤ d ∧ d < s) ds sizes := by
  have e1018 : (10 : Int).natAbs < 2 ^ 64 := by decide
  unfold gDraw2
  by_cases hc : (1000000000000000000 : Int) ≤ c
  · -- digits by divisions
    obtain ⟨⟨c', ds⟩, ⟨h1, h2⟩, h3⟩ := loop_ex (f := PyData.int) (E := fun p : Int × List Int => [.fr (.list (ns.map .int)), .fr (.int k), .fr (.list (sizes.map .int)), .fr (.int p.1), .ol (p.2.map .int), .un, .un, .un])
      (st := sName 7) (body := gForget [7] (gSeq (gApp 4 (fOp dMod (fVar 3) (fVar 7))) (gSet 3 (fOp dDiv (fVar 3) (fVar 7))))) (fun i p => p.2.length = i ∧ All2 (fun d s => 0 ≤ d ∧ d < s) p.2 (sizes.take i)) sizes (c - 1000000000000000000, []) ⟨rfl, .nil⟩
      (fun i ⟨m, acc⟩ s hi ⟨q1, q2⟩ => by
        obtain ⟨hs0, hs1⟩ := hs s (List.mem_of_getElem? hi)
        have hil : i < sizes.length := (List.getElem?_eq_some_iff.mp hi).1
        have q1 : acc.length = i := q1
        have z := sz_small (show acc.length ≤ 1000000 by omega)
        refine ⟨(m / s, acc ++ [m % s]), ⟨by simp only [List.length_append, List.length_singleton]; omega, ?_⟩, _, rfl, .inl ?_⟩
        · rw [take_at hi]
          exact q2.snoc ⟨Int.emod_nonneg _ (by omega), Int.emod_lt_of_pos _ hs0⟩
        · repeat first | walk_at "vl" | simp only [hs0, hs1, z, List.map_append])
    refine ⟨ds, ?_, by rw [List.take_length] at h2; exact h2⟩
    simp only [List.map_nil] at h3
    repeat first | walk_at "vl" | simp only [hc, e1018, h3]
  · obtain ⟨⟨m', ds⟩, ⟨h1, h2⟩, h3⟩ := loop_ex (f := fun i : Nat => PyData.int (0 + (i : Int))) (E := fun p : Int × List Int => [.fr (.list (ns.map .int)), .fr (.int k), .fr (.list (sizes.map .int)), .fr (.int c), .ol (p.2.map .int), .fr (.int p.1), .un, .un])
      (st := sName 6) (body := gForget [6] (gSeq (gSet 5 (fOp dMod (fOp dAdd (fOp dAdd (fOp dMul (fVar 5) (fC (.int 48271))) (fC (.int 11))) (fVar 6)) (fC (.int 2147483647)))) (gSeq (gSet 5 (fOp dMod (fOp dAdd (fOp dMul (fVar 5) (fC (.int 69621))) (fC (.int 3))) (fC (.int 2147483647)))) (gApp 4 (fOp dMod (fOp dDiv (fVar 5) (fC (.int 7))) (fOp dIx (fVar 2) (fVar 6)))))))
      (fun i p => p.2.length = i ∧ All2 (fun d s => 0 ≤ d ∧ d < s) p.2 (sizes.take i)) (List.range sizes.length) ((c + 1 + 31 * k) % 2147483647, []) ⟨rfl, .nil⟩
      (fun i ⟨m, acc⟩ x hi ⟨q1, q2⟩ => by
        obtain ⟨rfl, hil⟩ := range_at hi
        obtain ⟨hs0, hs1⟩ := hs sizes[x] (List.getElem_mem hil)
        have hx : sizes[x]? = some sizes[x] := List.getElem?_eq_getElem hil
        have q1 : acc.length = x := q1
        have z := sz_small (show acc.length ≤ 1000000 by omega)
        refine ⟨(((m * 48271 + 11 + (x : Int)) % 2147483647 * 69621 + 3) % 2147483647, acc ++ [((m * 48271 + 11 + (x : Int)) % 2147483647 * 69621 + 3) % 2147483647 / 7 % sizes[x]]), ⟨by simp only [List.length_append, List.length_singleton]; omega, ?_⟩, _, rfl, .inl ?_⟩
        · rw [take_at hx]
          exact q2.snoc ⟨Int.emod_nonneg _ (by omega), Int.emod_lt_of_pos _ hs0⟩
        · repeat first | walk_at "vl" | simp only [cMul_a, cMul_b, Int.zero_add, atI_ofNat, hx, hs0, hs1, z, List.map_append])
    refine ⟨ds, ?_, by rw [List.length_range, List.take_length] at h2; exact h2⟩
    have e : rng 0 sizes.length = (List.range sizes.length).map fun i : Nat => PyData.int (0 + (i : Int)) := rfl
    simp only [List.map_nil] at h3
    repeat first | walk_at "vl" | simp only [hc, e1018, h3, e, cMul_31, rngOk_n (show sizes.length ≤ 8000000 by omega), Int.toNat_natCast]
theorem draw_ok (ns : List Int) (k : Nat) (sizes : List Int) (hs : ∀ s ∈ sizes, 0 < s ∧ s < 1073741824) (hl : sizes.length ≤ 1000) :
    ∃ ds : List Int, FDraw [.list (ns.map .int), .int k, .list (sizes.map .int)] = .ok (.ol (ds.map .int)) ∧ All2 (fun d s => 0 ≤ d ∧ d < s) ds sizes := by
  have e : gDraw = gSeq (gSet 3 (fCall FCell (fCons (fVar 0) (fCons (fVar 1) (fNil))))) (gSeq (gIf (fB (fOp dLt (fVar 3) (fC (.int 0)))) (gSet 3 (fNeg (fVar 3))) (gNext)) gDraw2) := rfl
  unfold FDraw
  rw [e]
  by_cases hn : cellI ns k < 0
  · obtain ⟨ds, h1, h2⟩ := draw_ok2 ns k sizes hs hl (-cellI ns k)
    refine ⟨ds, ?_, h2⟩
    repeat first | walk_at "vl" | simp only [cell_eq, hn, h1]
  · obtain ⟨ds, h1, h2⟩ := draw_ok2 ns k sizes hs hl (cellI ns k)
    refine ⟨ds, ?_, h2⟩
    repeat first | walk_at "vl" | simp only [cell_eq, hn, h1]
end VL
namespace VL
open PySem PySem.Spec
open PyProof.Rows L2
variable [Vx]
section
variable {X : Cx} {q : Bool} {tg e : Expr} {es : List Expr} {f : FE} {g : En → Rs (List R)} {pos p p1 p2 p3 : Pos}
/-! ### range(i, j, -1) -/
def rngD (lo : Int) (n : Nat) : List D := (List.range n).map fun (i : Nat) => PyData.int (lo - (i : Int))
theorem JOk.rngD {K : PySem.W.Frag} {O E : List Addr} {H1 : Hp} (lo : Int) (n : Nat) : JOk K O E H1 (Itc lo (-1) n) (rngD lo n) := fun i H2 k => by
  refine ⟨fun d hd => ?_, fun hle => ?_⟩
  · unfold VL.rngD at hd
    rw [List.getElem?_map] at hd
    obtain ⟨j, hj, e⟩ := Option.map_eq_some_iff.mp hd
    obtain ⟨h1, h2⟩ := List.getElem?_eq_some_iff.mp hj
    rw [List.length_range] at h1
    rw [List.getElem_range] at h2
    subst h2
    subst e
    refine ⟨h1, fun x H3 hy => ?_⟩
    obtain ⟨rfl, rfl⟩ := hy
    refine ⟨Same.refl _, fun _ _ _ => ?_⟩
    have e1 : lo + (i : Nat) * (-1 : Int) = lo - (i : Int) := by omega
    rw [e1]
    exact .int _
  · unfold VL.rngD at hle
    rw [List.length_map, List.length_range] at hle
    exact hle
def oRng3 : List R → Rs (List D)
  | [.fr (.int i), .fr (.int j), .fr (.int c)] => if c = -1 then (if rngOk i && rngOk j then .ok (rngD i (i - j).toNat) else .bad) else .bad
  | _ => .bad
def fRng3 (g : En → Rs (List R)) : En → Rs (List D) := fun ρ => (g ρ).bind oRng3
theorem rngD_len {lo : Int} {n : Nat} (h : n ≤ 16777216) : (rngD lo n).length ≤ sizeLine := by
  unfold rngD
  rw [List.length_map, List.length_range, sizeLine_eq]
  exact h
theorem i_range3 {a b c : Expr} {g : En → Rs (List R)} (hm : X.mg "range" = none) (ha : AV X [a, b, c] g) (hg : Gl X "range" := by rfl) (hs : starEach [a, b, c] X.env = (false, eval a X.env) :: starEach [b, c] X.env := by rfl) (hpl : (backTo pos (starEach [b, c] X.env)).any (·.1) = false := by rfl) : IV X q tg (.Call (.Name "range" p) [a, b, c] [] pos) (fRng3 g) := by
  refine ⟨pi_imp (pi_range3 hg hm ha.run hs hpl) fun σ H Q ⟨O, ρ, ds, I, hf, qq⟩ => ?_⟩
  obtain ⟨rs, e1, hf⟩ := Rs.bind_eq hf
  refine ⟨O, ρ, rs, I, e1, fun vs H1 s hv => ?_⟩
  unfold oRng3 at hf
  split at hf
  · rename_i i j c
    split at hf
    · rename_i hc
      subst hc
      split at hf
      · rename_i hj
        cases hf
        obtain ⟨v, v', v'', rfl, hr, hr', hr''⟩ := all2_3 hv
        cases (show Rep X.K H1 O v (.int i) from hr)
        cases (show Rep X.K H1 O v' (.int j) from hr')
        cases (show Rep X.K H1 O v'' (.int (-1)) from hr'')
        rw [Bool.and_eq_true] at hj
        obtain ⟨h1, h2⟩ := rngOk_iff hj.1
        obtain ⟨h3, h4⟩ := rngOk_iff hj.2
        exact ⟨i, j, -1, (i - j).toNat, rfl, RgC.neg (by omega) (by omega) (by omega) (by omega), qq _ H1 s (JOk.rngD i _) fun _ => rngD_len (by omega)⟩
      · cases hf
    · cases hf
  · cases hf
/-! ### xs[::-1] -/
def dRev : D → Rs R
  | .list ds => .ok (.ol ds.reverse)
  | _ => .bad
def fRev (f : FE) : FE := fun ρ => (f ρ).bind (opU dRev)
theorem e_rev {k : Nat} (h : EV X e f) : EV X (.Subscript e (.Slice none none (some (.UnaryOp .USub (.Constant (.int 1) k p1) p2)) p3) pos) (fRev f) := by
  refine ⟨pe_imp (pe_revL h.run) fun σ H Q ⟨O, ρ, r, I, hf, q⟩ => ?_⟩
  obtain ⟨x, e1, hf⟩ := Rs.bind_eq hf
  refine ⟨O, ρ, x, I, e1, fun v H1 s1 rr => ?_⟩
  obtain ⟨O', r', t, hg, hf, back⟩ := opU_top (I.hg.same s1) rr hf
  unfold dRev at hf
  split at hf
  · rename_i ds ed
    rw [ed] at t
    cases hf
    obtain ⟨a, xs, rfl, hq, hr, hz⟩ := t.list
    exact ⟨a, xs, rfl, hq, fun p hp => q _ _ (s1.trans (same_upd hp)) ((back _ _ (same_upd hp) (rr_newL hp (by rw [List.length_reverse]; exact hz) hr.rev)).left s1)⟩
  · cases hf
/-! ### a def as a value -/
theorem e_fn {x : Str} {a : Addr} (hm : X.mg x = some (.ref a)) (hn : FnAt X.K a x) (hg : Gl X x := by rfl) (hd : (x == ("__debug__" : Str)) = false := by decide) : EV X (.Name x p) (fC (fnD x)) :=
  e_of_c (v := .ref a) (pe_glob hg hm rfl hd) fun _ _ => .fn hn
/-- the defs that a name may hold -/
structure Hold (X : Cx) (k n : Nat) (x : Str) (F : List D → Rs R) : Prop where
  ex : ∃ (f : Addr) (fd : FuncData) (ps : List Str), FnAt X.K f x ∧ FnOk X.prog X.w X.K X.mg X.base (L2.CX X.prog X.w) k f fd ps (spF X.K n F) ∧ PySem.W.keepIn X.K (.ref f) = true ∧ Binds X.K fd ps []
def Holds (X : Cx) (k n : Nat) (l : List (Str × (List D → Rs R))) : Prop := ∀ q ∈ l, Hold X k n q.1 q.2
theorem holds_nil {k n : Nat} : Holds X k n [] := fun _ h => nomatch h
theorem holds_cons {k n : Nat} {x : Str} {F : List D → Rs R} {l : List (Str × (List D → Rs R))} {f : Addr} {fd : FuncData} {ps : List Str} (h1 : FnAt X.K f x) (h2 : FnOk X.prog X.w X.K X.mg X.base (L2.CX X.prog X.w) k f fd ps (spF X.K n F)) (h3 : PySem.W.keepIn X.K (.ref f) = true) (h4 : Binds X.K fd ps [])
    (t : Holds X k n l) : Holds X k n ((x, F) :: l) := fun q h => (List.mem_cons.mp h).elim (fun e => by rw [e]; exact ⟨f, fd, ps, h1, h2, h3, h4⟩) fun e => t q e
def fnFind (l : List (Str × (List D → Rs R))) : D → Option (Str × (List D → Rs R))
  | .dict [(.none, .str x)] => l.find? fun q => decide (q.1 = x)
  | _ => none
def fCallL (l : List (Str × (List D → Rs R))) (i : Nat) (g : En → Rs (List R)) : FE := fun ρ => match ρ[i]? with
  | some (.fr d) => match fnFind l d with
    | some q => (g ρ).bind (callR q.2)
    | none => .bad
  | _ => .bad
theorem fnFind_eq {l : List (Str × (List D → Rs R))} {d : D} {q : Str × (List D → Rs R)} (h : fnFind l d = some q) : d = fnD q.1 ∧ q ∈ l := by
  unfold fnFind at h
  split at h
  · rename_i x
    have h1 := List.find?_some h
    have h2 := List.mem_of_find?_eq_some h
    have h3 : q.1 = x := of_decide_eq_true h1
    subst h3
    exact ⟨rfl, h2⟩
  · cases h
theorem rep_fn {K : PySem.W.Frag} {H : Hp} {O : List Addr} {v : V} {x : Str} (h : Rep K H O v (fnD x)) : ∃ a, v = .ref a ∧ FnAt K a x := by
  unfold fnD at h
  generalize hd : (PyData.dict [(.none, .str x)]) = d at h
  cases h with
  | fn h => cases hd; exact ⟨_, rfl, h⟩
  | dic h1 h2 h3 =>
    cases hd
    generalize hk : [(PyData.none, PyData.str x)] = ds at h3
    cases h3 with
    | nil => cases hk
    | @cons k _ _ _ _ r t =>
      cases hk2 : k with
      | inl i => rw [hk2] at hk; unfold kD at hk; cases hk
      | inr y => rw [hk2] at hk; unfold kD at hk; cases hk
  | _ => cases hd
theorem e_callL {l : List (Str × (List D → Rs R))} {k n : Nat} (i : Nat) {x : Str} (A : Holds X k n l) (hr : Room k X.A) (ha : AV X (e :: es) g) (hn : (e :: es).length = n := by rfl) (hN : X.N[i]? = some x := by rfl) (hv : Vis X.env.scope x := by first | exact Or.inl rfl | exact Or.inr (Or.inl rfl) | exact Or.inr (Or.inr rfl)) (hdb : (x == ("__debug__" : Str)) = false := by decide) (hcd : (x == ("__classdict__" : Str)) = false := by decide)
    (he : starEach (e :: es) X.env = (false, eval e X.env) :: starEach es X.env := by rfl) (hpl : (backTo pos (starEach es X.env)).any (·.1) = false := by rfl) :
    EV X (.Call (.Name x p) (e :: es) [] pos) (fCallL l i g) := by
  refine ⟨⟨fun pins s σ H Q J ⟨O, ρ, r, I, hf, q⟩ => ?_⟩⟩
  unfold fCallL at hf
  split at hf
  · rename_i d ed
    split at hf
    · rename_i w ew
      obtain ⟨rfl, hw⟩ := fnFind_eq ew
      obtain ⟨gh, ov, eg, e0, ⟨v, rfl, hrep⟩, _⟩ := I.get ed
      obtain ⟨f, fd, ps, h1, h2, h3, h4⟩ := (A w hw).ex
      obtain ⟨a, rfl, ha1⟩ := rep_fn hrep
      cases ha1.one h1
      refine (pe_callL (i := i) (dvs := []) (E := E0) h2 hr hN hv h3 h4 .nil passL ha.run hdb hcd he hpl).run pins s σ H Q J ⟨e0, ?_⟩
      obtain ⟨rs, e1, hf⟩ := Rs.bind_eq hf
      refine ⟨O, ρ, rs, I, e1, fun vs H1 s1 hv => ?_⟩
      show spF X.K n w.2 (vs ++ []) H1 Q E0
      rw [List.append_nil]
      have hlv : vs.length = n := by rw [hv.length, ha.len ρ rs e1]; exact hn
      unfold callR at hf
      split at hf
      · rename_i ds ed
        refine ⟨hlv, O, ds, fzAll_reps I.tr hv ed, I.hg.same s1, ?_⟩
        rw [Rs.sure_eq hf]
        exact fun v H' s2 rr => q v H' (s1.trans s2) (RR.left s1 rr)
      · obtain ⟨r', e2, hf⟩ := Rs.bind_eq hf
        refine ⟨hlv, [], _, all_bare hv, (I.hg.same s1).less (fun _ z => absurd z List.not_mem_nil), ?_⟩
        rw [Rs.sure_eq e2]
        exact fun v H' s2 rr => q v H' (s1.trans s2) (RR.left s1 (RR.immR (I.hg.same s1).mu s2 rr hf))
    · cases hf
  · cases hf
/-! ### isinstance -/
def tyN : D → Option String
  | .none => some "NoneType"
  | .bool _ => some "bool"
  | .int _ => some "int"
  | .str _ => some "str"
  | .list _ => some "list"
  | .tuple _ => some "tuple"
  | _ => none
def isiB (t T : String) : Bool := decide (t = T) || (decide (t = "bool") && decide (T = "int"))
def dIsi (T : String) (d : D) : Rs R := match tyN d with
  | some t => .ok (.fr (.bool (isiB t T)))
  | none => .bad
def fIsi (T : String) (f : FE) : FE := fun ρ => (f ρ).bind fun r => dIsi T r.d
/-- the types asked for -/
def isTys (T : String) : Prop := ∀ t ∈ ["NoneType", "bool", "int", "str", "list", "tuple"], kitB t T = some (isiB t T)
theorem top_ty {K : PySem.W.Frag} {H : Hp} {O : List Addr} {v : V} {d : D} {t : String} (h : Top K H O v d) (e : tyN d = some t) : TyX K H v (.type t) := by
  unfold tyN at e
  split at e
  · cases e; rw [h.none]; exact .base .non
  · cases e; rw [h.bool]; exact .base (.bl _)
  · cases e; rw [h.int]; exact .base (.int _)
  · cases e; rw [h.str]; exact .base (.str _)
  · cases e
    cases h with
    | rep r =>
      cases r with
      | lst h1 _ _ _ =>
        rcases h1 with h1 | ⟨o, h1⟩
        · exact .base (.lst h1)
        · exact .base (.frz h1)
      | lstK h1 _ =>
        obtain ⟨o, its, n, l, c, _⟩ := h1
        exact .kList l c
    | lst h1 _ _ => exact .base (.lst h1)
  · cases e
    cases h with
    | rep r =>
      cases r with
      | tup h1 _ _ _ =>
        rcases h1 with h1 | ⟨o, h1⟩
        · exact .base (.tup h1)
        · exact .fTuple h1
      | tupK h1 _ =>
        obtain ⟨o, its, n, l, c, _⟩ := h1
        exact .kTuple l c
  · cases e
theorem tyN_mem {d : D} {t : String} (e : tyN d = some t) : t ∈ ["NoneType", "bool", "int", "str", "list", "tuple"] := by
  unfold tyN at e
  split at e <;> first | (cases e; simp) | cases e
theorem e_isi {T : String} {x : Str} {a : Expr} {p4 : Pos} (hm : X.mg "isinstance" = none) (hmT : X.mg x = none) (hvT : bootBuiltins x = some (.type T)) (hk : isTys T) (ha : EV X a f) (hg : Gl X "isinstance" := by rfl) (hgT : Gl X x := by rfl) (hnT : x ≠ "__name__" := by decide) (hdT : (x == ("__debug__" : Str)) = false := by decide)
    (hs1 : starEach [a, .Name x p4] X.env = (false, eval a X.env) :: starEach [.Name x p4] X.env := by rfl) (hs2 : starEach [.Name x p4] X.env = (false, eval (.Name x p4) X.env) :: starEach [] X.env := by rfl) (hpl : (backTo pos (starEach [.Name x p4] X.env)).any (·.1) = false := by rfl) :
    EV X (.Call (.Name "isinstance" p) [a, .Name x p4] [] pos) (fIsi T f) := by
  refine ⟨pe_imp (pe_callB call_isi hg hm boot_isinstance (pa_cons ha.run (pa_cons (pe_bltn (v := .ty T) hgT hmT hvT rfl hnT hdT) pa_nil hs2) hs1) (by decide) (by decide) hs1 hpl) fun σ H Q ⟨O, ρ, r, I, hf, q⟩ => ?_⟩
  obtain ⟨y, e1, hf⟩ := Rs.bind_eq hf
  refine ⟨O, ρ, y, I, e1, fun v H1 s1 rr => ?_⟩
  have t := Top.rep (O := []) rr.bare
  unfold dIsi at hf
  split at hf
  · rename_i t' et
    cases hf
    exact ⟨v, .ty T, _, _, _, rfl, .ty T, top_ty t et, kit_ty (hk t' (tyN_mem et)), q _ H1 s1 (.bl _)⟩
  · cases hf
theorem isTys_tuple : isTys "tuple" := by unfold isTys; decide +kernel
theorem isTys_list : isTys "list" := by unfold isTys; decide +kernel
theorem isTys_int : isTys "int" := by unfold isTys; decide +kernel
theorem isTys_str : isTys "str" := by unfold isTys; decide +kernel
theorem isTys_bool : isTys "bool" := by unfold isTys; decide +kernel
theorem isTys_dict : isTys "dict" := by unfold isTys; decide +kernel
end
/-! ### evaluation -/
section
variable {f : FE} {g : En → Rs (List R)} {ρ : En}
theorem ap_fRng3 : fRng3 g ρ = (g ρ).bind oRng3 := rfl
theorem ap_oRng3 (i j : Int) : oRng3 [.fr (.int i), .fr (.int j), .fr (.int (-1))] = if (rngOk i && rngOk j) = true then .ok (rngD i (i - j).toNat) else .bad := rfl
theorem ap_fRev : fRev f ρ = (f ρ).bind (opU dRev) := rfl
theorem rev_l (ds : List D) : dRev (.list ds) = .ok (.ol ds.reverse) := rfl
theorem ap_fCallL (l : List (Str × (List D → Rs R))) (i : Nat) : fCallL l i g ρ = match ρ[i]? with
  | some (.fr d) => match fnFind l d with
    | some q => (g ρ).bind (callR q.2)
    | none => .bad
  | _ => .bad := rfl
theorem ff_nil (d : D) : fnFind [] d = none := by
  unfold fnFind
  split <;> rfl
theorem ff_cons (x y : Str) (F : List D → Rs R) (l : List (Str × (List D → Rs R))) : fnFind ((x, F) :: l) (fnD y) = if x = y then some (x, F) else fnFind l (fnD y) := by
  show ((x, F) :: l).find? (fun q => decide (q.1 = y)) = _
  rw [List.find?_cons]
  by_cases h : x = y
  · simp [h]
  · simp [h]; rfl
theorem ap_fIsi (T : String) : fIsi T f ρ = (f ρ).bind fun r => dIsi T r.d := rfl
theorem isi_n (T : String) : dIsi T .none = .ok (.fr (.bool (isiB "NoneType" T))) := rfl
theorem isi_b (T : String) (b : Bool) : dIsi T (.bool b) = .ok (.fr (.bool (isiB "bool" T))) := rfl
theorem isi_i (T : String) (b : Int) : dIsi T (.int b) = .ok (.fr (.bool (isiB "int" T))) := rfl
theorem isi_s (T : String) (b : Str) : dIsi T (.str b) = .ok (.fr (.bool (isiB "str" T))) := rfl
theorem isi_l (T : String) (b : List D) : dIsi T (.list b) = .ok (.fr (.bool (isiB "list" T))) := rfl
theorem isi_t (T : String) (b : List D) : dIsi T (.tuple b) = .ok (.fr (.bool (isiB "tuple" T))) := rfl
theorem ap_isiB (t T : String) : isiB t T = (decide (t = T) || (decide (t = "bool") && decide (T = "int"))) := rfl
end
end VL
namespace VL
open PySem PySem.Spec
open PyProof.Rows L2
variable [Vx]
/-! ### what the top holds -/
/-- a value of the written part that is this data -/
def IC (K : PySem.W.Frag) (u : Value) (d : D) : Prop := ∃ v : V, RelV v u ∧ ∀ (H : Hp) (O : List Addr), Rep K H O v d
theorem ic_int {K : PySem.W.Frag} {i : Int} {t : Tok} : IC K (.int i t) (.int i) := ⟨.int i, ⟨t, rfl⟩, fun _ _ => .int i⟩
theorem ic_str {K : PySem.W.Frag} {x : Str} {t : Tok} : IC K (.str x t) (.str x) := ⟨.str x, ⟨t, rfl⟩, fun _ _ => .str x⟩
theorem ics_vals {K : PySem.W.Frag} : ∀ {us : List Value} {ds : List D}, All2 (IC K) us ds → ∃ vs : List V, Vals vs us ∧ ∀ (H : Hp) (O : List Addr), Reps K H O vs ds
  | _, _, .nil => ⟨[], .nil, fun _ _ => .nil⟩
  | _, _, .cons ⟨v, r, q⟩ t => by
    obtain ⟨vs, h1, h2⟩ := ics_vals t
    exact ⟨v :: vs, .cons r h1, fun H O => .cons (q H O) (h2 H O)⟩
theorem ic_tup {K : PySem.W.Frag} {a : Addr} {od : Option Addr} {its : Array Value} {n : Nat} {sl : Array (Option Value)} {ds : List D} (h : K.lookup a = some ⟨.type "tuple", od, .seq its n, sl⟩) (hz : its.size ≤ 1000 := by decide) (t : All2 (IC K) its.toList ds) : IC K (.ref a) (.tuple ds) := by
  obtain ⟨vs, h1, h2⟩ := ics_vals t
  exact ⟨.ref a, rfl, fun H O => .tupK ⟨_, its, n, h, rfl, rfl, by rw [sizeLine_eq]; omega, h1⟩ (h2 H O)⟩
theorem ic_fn {K : PySem.W.Frag} {a : Addr} {x : Str} (h : FnAt K a x) : IC K (.ref a) (fnD x) := ⟨.ref a, rfl, fun _ _ => .fn h⟩
/-- a name of the top -/
def GC (K : PySem.W.Frag) (mg : Str → Option Value) (x : Str) (d : D) : Prop := ∃ u, mg x = some u ∧ IC K u d
/-- a dict of the top with text keys -/
def GD (K : PySem.W.Frag) (w : World) (mg : Str → Option Value) (x : Str) (tbl : List (Str × D)) : Prop :=
  ∃ a es n, mg x = some (.ref a) ∧ KDict K w a es n ∧ All2 (fun (e : DictEntry) (p : Str × D) => (∃ t, e.key = .str p.1 t) ∧ IC K e.val p.2) es.toList tbl
def tbGet : List (Str × D) → Str → Option D
  | [], _ => none
  | (k, d) :: r, x => if k = x then some d else tbGet r x
theorem kd_find {K : PySem.W.Frag} {x : Str} : ∀ {es : List DictEntry} {tbl : List (Str × D)}, All2 (fun (e : DictEntry) (p : Str × D) => (∃ t, e.key = .str p.1 t) ∧ IC K e.val p.2) es tbl →
    (∀ d, tbGet tbl x = some d → ∃ e, es.find? (fun e => e.key.isStr x) = some e ∧ IC K e.val d) ∧ (tbGet tbl x = none → es.find? (fun e => e.key.isStr x) = none) ∧ es.any (fun e => e.refKey) = false
  | _, _, .nil => ⟨(fun d h => nomatch h), fun _ => rfl, rfl⟩
  | _, _, .cons (a := e) (b := p) (as := es) (bs := tbl) ⟨⟨t, ek⟩, ic⟩ r => by
    obtain ⟨h1, h2, h3⟩ := kd_find (x := x) r
    obtain ⟨k, d0⟩ := p
    have ek : e.key = .str k t := ek
    have hs : e.key.isStr x = decide (k = x) := by
      rw [ek]
      show (k == x) = _
      by_cases h : k = x
      · subst h; simp
      · rw [decide_eq_false h]; exact beq_eq_false_iff_ne.mpr h
    have hr : e.refKey = false := by unfold DictEntry.refKey; rw [ek]
    unfold tbGet
    rw [List.find?_cons, hs, List.any_cons, hr, h3]
    by_cases h : k = x
    · rw [if_pos h, decide_eq_true h]
      exact ⟨fun d hd => by cases hd; exact ⟨e, rfl, ic⟩, (fun h => nomatch h), rfl⟩
    · rw [if_neg h, decide_eq_false h]
      exact ⟨h1, h2, rfl⟩
theorem kd_ns {K : PySem.W.Frag} {w : World} {a : Addr} {es : Array DictEntry} {n : Nat} {tbl : List (Str × D)} {x : Str} (hd : KDict K w a es n) (r : All2 (fun (e : DictEntry) (p : Str × D) => (∃ t, e.key = .str p.1 t) ∧ IC K e.val p.2) es.toList tbl) :
    (∀ d, tbGet tbl x = some d → ∃ u, PySem.W.nsIn K a x = some (some u) ∧ IC K u d) ∧ (tbGet tbl x = none → PySem.W.nsIn K a x = some none) := by
  obtain ⟨h1, h2, h3⟩ := kd_find (x := x) r
  unfold PySem.W.nsIn
  rw [hd.at_]
  dsimp only
  refine ⟨fun d e => ?_, fun e => ?_⟩
  · obtain ⟨en, g1, g2⟩ := h1 d e
    exact ⟨en.val, by rw [g1], g2⟩
  · rw [h2 e, h3]
    rfl
theorem gd_mk {K : PySem.W.Frag} {w : World} {mg : Str → Option Value} {x : Str} {a : Addr} {es : Array DictEntry} {n : Nat} {tbl : List (Str × D)} (hm : mg x = some (.ref a)) (hl : K.lookup a = some ⟨.type "dict", none, .dict es n, #[]⟩) (hk : PySem.W.KeysLit w.params es.toList) (lo : (a == sysModules) = false)
    (r : All2 (fun (e : DictEntry) (p : Str × D) => (∃ t, e.key = .str p.1 t) ∧ IC K e.val p.2) es.toList tbl) : GD K w mg x tbl := ⟨a, es, n, hm, ⟨hl, hk, lo⟩, r⟩
section
variable {X : Cx} {a b e k : Expr} {f fk : FE} {pos p p2 : Pos}
theorem e_glob {x : Str} {d : D} (h : GC X.K X.mg x d) (hg : Gl X x := by rfl) (hd : (x == ("__debug__" : Str)) = false := by decide) : EV X (.Name x p) (fC d) := by
  obtain ⟨u, hm, v, r, q⟩ := h
  exact e_of_c (pe_glob hg hm r hd) q
def fKGet (tbl : List (Str × D)) (f : FE) : FE := fun ρ => (f ρ).bind fun r => match r.d with
  | .str z => match tbGet tbl z with
    | some d => .ok (.fr d)
    | none => .bad
  | _ => .bad
theorem e_kget {x : Str} {tbl : List (Str × D)} (h : GD X.K X.w X.mg x tbl) (he : EV X e f) (hg : Gl X x := by rfl) (hd : (x == ("__debug__" : Str)) = false := by decide) (hs : PlainIx e := by exact fun _ _ => rfl) : EV X (.Subscript (.Name x p) e pos) (fKGet tbl f) := by
  obtain ⟨a, es, n, hm, kd, r⟩ := h
  refine ⟨pe_imp (pe_ix ix_kdict (pe_glob (v := .ref a) hg hm rfl hd) he.run hs) fun σ H Q ⟨O, ρ, r', I, hf, q⟩ => ?_⟩
  obtain ⟨y, e1, hf⟩ := Rs.bind_eq hf
  refine ⟨O, ρ, y, I, e1, fun v H1 s1 rr => ?_⟩
  have t := Top.rep (O := []) rr.bare
  split at hf
  · rename_i z ez
    rw [ez] at t
    split at hf
    · rename_i d ed
      cases hf
      obtain ⟨u, g1, v0, g2, g3⟩ := (kd_ns (x := z) kd r).1 d ed
      exact ⟨a, z, v0, rfl, t.str, ⟨es, n, u, kd.at_, kd.lit, g1, g2⟩, q v0 H1 s1 (g3 H1 O)⟩
    · cases hf
  · cases hf
def fKIn (neg : Bool) (tbl : List (Str × D)) (f : FE) : FE := fun ρ => (f ρ).bind fun r => match r.d with
  | .str z => dInB neg (tbGet tbl z).isSome
  | _ => .bad
theorem kd_is {K : PySem.W.Frag} {w : World} {a : Addr} {es : Array DictEntry} {n : Nat} {tbl : List (Str × D)} (x : Str) (hd : KDict K w a es n) (r : All2 (fun (e : DictEntry) (p : Str × D) => (∃ t, e.key = .str p.1 t) ∧ IC K e.val p.2) es.toList tbl) :
    ∃ o, PySem.W.nsIn K a x = some o ∧ o.isSome = (tbGet tbl x).isSome := by
  obtain ⟨h1, h2⟩ := kd_ns (x := x) hd r
  cases e : tbGet tbl x with
  | none => exact ⟨none, h2 e, rfl⟩
  | some d =>
    obtain ⟨u, g1, _⟩ := h1 d e
    exact ⟨some u, g1, rfl⟩
theorem e_kin {x : Str} {tbl : List (Str × D)} (h : GD X.K X.w X.mg x tbl) (he : EV X e f) (hg : Gl X x := by rfl) (hd : (x == ("__debug__" : Str)) = false := by decide) (hm' : behindInMarks .In (.Name x p) = false := by first | exact nomark _ | rfl) : EV X (.Compare e [.In] [.Name x p] pos) (fKIn false tbl f) := by
  obtain ⟨a, es, n, hm, kd, r⟩ := h
  refine ⟨pe_imp (pe_cmpR (op_in_kd kd) he.run (pe_glob (v := .ref a) hg hm rfl hd) hm') fun σ H Q ⟨O, ρ, r', I, hf, q⟩ => ?_⟩
  obtain ⟨y, e1, hf⟩ := Rs.bind_eq hf
  refine ⟨O, ρ, y, I, e1, fun v H1 s1 rr => ?_⟩
  have t := Top.rep (O := []) rr.bare
  split at hf
  · rename_i z ez
    rw [ez] at t
    cases hf
    obtain ⟨o, g1, g2⟩ := kd_is z kd r
    exact ⟨z, o, t.str, rfl, g1, q _ H1 s1 (by rw [g2]; exact .bl _)⟩
  · cases hf
theorem e_knotin {x : Str} {tbl : List (Str × D)} (h : GD X.K X.w X.mg x tbl) (he : EV X e f) (hg : Gl X x := by rfl) (hd : (x == ("__debug__" : Str)) = false := by decide) (hm' : behindInMarks .NotIn (.Name x p) = false := by first | exact nomark _ | rfl) : EV X (.Compare e [.NotIn] [.Name x p] pos) (fKIn true tbl f) := by
  obtain ⟨a, es, n, hm, kd, r⟩ := h
  refine ⟨pe_imp (pe_cmpR (op_notIn_kd kd) he.run (pe_glob (v := .ref a) hg hm rfl hd) hm') fun σ H Q ⟨O, ρ, r', I, hf, q⟩ => ?_⟩
  obtain ⟨y, e1, hf⟩ := Rs.bind_eq hf
  refine ⟨O, ρ, y, I, e1, fun v H1 s1 rr => ?_⟩
  have t := Top.rep (O := []) rr.bare
  split at hf
  · rename_i z ez
    rw [ez] at t
    cases hf
    obtain ⟨o, g1, g2⟩ := kd_is z kd r
    exact ⟨z, o, t.str, rfl, g1, q _ H1 s1 (by rw [g2]; exact .bl _)⟩
  · cases hf
theorem t_kin {x : Str} {tbl : List (Str × D)} (h : GD X.K X.w X.mg x tbl) (he : EV X e f) (hg : Gl X x := by rfl) (hd : (x == ("__debug__" : Str)) = false := by decide) (hm' : behindInMarks .In (.Name x p) = false := by first | exact nomark _ | rfl) : TV X (.Compare e [.In] [.Name x p] pos) (fB (fKIn false tbl f)) := by
  obtain ⟨a, es, n, hm, kd, r⟩ := h
  refine ⟨pt_imp (pt_cmpR (op_in_kd kd) he.run (pe_glob (v := .ref a) hg hm rfl hd) hm') fun σ H Q ⟨O, ρ, b, I, hf, q⟩ => ?_⟩
  obtain ⟨r', e0, e2⟩ := Rs.bind_eq hf
  cases toB_eq e2
  obtain ⟨y, e1, e0⟩ := Rs.bind_eq e0
  refine ⟨O, ρ, y, I, e1, fun v H1 s1 rr => ?_⟩
  have t := Top.rep (O := []) rr.bare
  split at e0
  · rename_i z ez
    rw [ez] at t
    cases e0
    obtain ⟨o, g1, g2⟩ := kd_is z kd r
    exact ⟨z, o, t.str, rfl, g1, _, rfl, by rw [g2]; exact q H1 s1⟩
  · cases e0
theorem t_knotin {x : Str} {tbl : List (Str × D)} (h : GD X.K X.w X.mg x tbl) (he : EV X e f) (hg : Gl X x := by rfl) (hd : (x == ("__debug__" : Str)) = false := by decide) (hm' : behindInMarks .NotIn (.Name x p) = false := by first | exact nomark _ | rfl) : TV X (.Compare e [.NotIn] [.Name x p] pos) (fB (fKIn true tbl f)) := by
  obtain ⟨a, es, n, hm, kd, r⟩ := h
  refine ⟨pt_imp (pt_cmpR (op_notIn_kd kd) he.run (pe_glob (v := .ref a) hg hm rfl hd) hm') fun σ H Q ⟨O, ρ, b, I, hf, q⟩ => ?_⟩
  obtain ⟨r', e0, e2⟩ := Rs.bind_eq hf
  cases toB_eq e2
  obtain ⟨y, e1, e0⟩ := Rs.bind_eq e0
  refine ⟨O, ρ, y, I, e1, fun v H1 s1 rr => ?_⟩
  have t := Top.rep (O := []) rr.bare
  split at e0
  · rename_i z ez
    rw [ez] at t
    cases e0
    obtain ⟨o, g1, g2⟩ := kd_is z kd r
    exact ⟨z, o, t.str, rfl, g1, _, rfl, by rw [g2]; exact q H1 s1⟩
  · cases e0
/-! ### displays of dicts -/
structure PV (X : Cx) (pos : Pos) (keys : List (Option Expr)) (values : List Expr) (fs : List (FE × FE)) : Prop where
  run : PPs X pos keys values (fs.map fun p => (tE X.K p.1, tE X.K p.2))
theorem pv_nil : PV X pos [] [] [] := ⟨pps_nil⟩
theorem pv_cons {ks : List (Option Expr)} {vs : List Expr} {fs : List (FE × FE)} (h1 : EV X k fk) (h2 : EV X e f) (t : PV X pos ks vs fs) : PV X pos (some k :: ks) (e :: vs) ((fk, f) :: fs) := ⟨pps_cons h1.run h2.run t.run⟩
def evalP : List (FE × FE) → En → Rs (List (D × D))
  | [], _ => .ok []
  | (fk, f) :: r, ρ => (fk ρ).bind fun x => (f ρ).bind fun y => match y.fz with
    | some d => if isKey x.d = true then (evalP r ρ).bind fun ps => .ok ((x.d, d) :: ps) else .bad
    | none => .bad
def dmerge (ps : List (D × D)) : List (D × D) := ps.foldl (fun acc p => dputD acc p.1 p.2) []
def fDisp (fs : List (FE × FE)) : FE := fun ρ => (evalP fs ρ).bind fun ps => .ok (.od (dmerge ps))
theorem pairs_read {K : PySem.W.Frag} {O : Og} {σ : L2.St} {ρ : En} : ∀ {fs : List (FE × FE)} {ps : List (D × D)} {H : Hp} {Q : List (V × V) → Hp → Prop}, ER K O H σ ρ → evalP fs ρ = .ok ps →
    (∀ kvs H2, Same H H2 → KReps K H2 O kvs ps → kvs.length = fs.length → Q (kvs.map fun kv => (kV kv.1, kv.2)) H2) → tPairs (fs.map fun p => (tE K p.1, tE K p.2)) σ H Q
  | [], _, H, Q, I, e, q => by
    cases e
    exact q [] H (Same.refl H) .nil rfl
  | (fk, f) :: r, ps, H, Q, I, e, q => by
    unfold evalP at e
    obtain ⟨x, e1, e⟩ := Rs.bind_eq e
    obtain ⟨y, e2, e⟩ := Rs.bind_eq e
    split at e
    · rename_i d ed
      split at e
      · rename_i hk
        obtain ⟨ps', e3, e⟩ := Rs.bind_eq e
        cases e
        obtain ⟨k, hk⟩ := isKey_kD hk
        rw [hk] at q
        refine ⟨O, ρ, x, I, e1, fun v H1 s1 r1 => ⟨O, ρ, y, I.same s1, e2, fun u H2 s2 r2 => pairs_read (I.same (s1.trans s2)) e3 fun kvs H3 s3 kr hl => ?_⟩⟩
        have t := Top.rep (O := []) r1.bare
        rw [hk] at t
        have hz : Rep K H2 O u d := RR.rep (Same.tr s1 I.tr) r2 ed
        have := q ((k, u) :: kvs) H3 ((s1.trans s2).trans s3) (.cons (hz.same s3) kr) (by rw [List.length_cons, List.length_cons, hl])
        rw [List.map_cons] at this
        rw [rep_kD t]
        exact this
      · cases e
    · cases e
theorem kreps_merge {K : PySem.W.Frag} {H : Hp} {O : List Addr} : ∀ {kvs : List (Key × V)} {ps : List (D × D)} {vs : List (Key × V)} {ds : List (D × D)}, KReps K H O kvs ps → KReps K H O vs ds → KReps K H O (mergeK vs kvs) (ps.foldl (fun acc p => dputD acc p.1 p.2) ds)
  | _, _, _, _, .nil, s => s
  | _, _, _, _, .cons (k := k) (v := v) (vs := kvs) (ds := ps) (d := d) r t, s => by
    have h := kreps_merge t (s.put (k := k) r)
    exact h
theorem e_disp {keys : List (Option Expr)} {values : List Expr} {fs : List (FE × FE)} {n : Nat} (h : PV X pos keys values fs) (hf : fs.length = n := by rfl) (hn : n ≤ 15 := by decide) (hall : keys.all (·.isSome) = true := by rfl) (hl : keys.length = values.length := by rfl) (h0 : keys ≠ [] := by exact fun h => nomatch h) (h15 : keys.length ≤ 15 := by decide) :
    EV X (.Dict keys values pos) (fDisp fs) := by
  refine ⟨pe_imp (pe_disp h.run hall hl h0 h15) fun σ H Q ⟨O, ρ, r, I, e, q⟩ => ?_⟩
  obtain ⟨ps, e1, e⟩ := Rs.bind_eq e
  cases e
  intro p hp
  have s0 : Same H (upd H p (.dK [])) := same_upd hp
  have hpO : p ∉ O.O := fun z => I.tr p z hp
  have B : ER X.K ⟨p :: O.O, O.γ⟩ (upd H p (.dK [])) σ ρ := I.guard s0 hp (by rw [upd_same]; trivial)
  refine pairs_read B e1 fun kvs H2 s2 kr hl => ?_
  have h2 : H2 p = some (.dK []) := s2 _ _ upd_same
  refine ⟨h2, kvs, rfl, by rw [hl, hf]; exact hn, q _ _ (fun a o e => ?_) ⟨p, _, rfl, hp, upd_same, ?_⟩⟩
  · rw [upd_ne (ne_of_none e hp)]
    exact s2 _ _ (s0 _ _ e)
  · exact (kreps_merge kr .nil).ev (fun a o e n => by rw [upd_ne fun z => n (by rw [z]; exact List.mem_cons_self)]; exact e) fun a h => .inl h
def fDNew : FE := fun _ => .ok (.od [])
theorem e_dnew : EV X (.Dict [] [] pos) fDNew := by
  refine ⟨pe_imp pe_dnewK fun σ H Q ⟨O, ρ, r, I, e, q⟩ => ?_⟩
  cases e
  exact fun p hp => q _ _ (same_upd hp) ⟨p, [], rfl, hp, upd_same, .nil⟩
end
end VL
namespace VL
open PySem PySem.Spec
open PyProof.Rows L2
variable [Vx]
/-! ### own dicts are written -/
section
variable {X : Cx} {W : WX} {e k : Expr} {f fk : FE} {pos : Pos}
/-- d[k] = e -/
def gDPut (i : Nat) (fk f : FE) : FS := fun ρ => match f ρ with
  | .ok r => match r.fz with
    | some d => match ρ[i]? with
      | some (.od kvs) => match fk ρ with
        | .ok rk => if (isKey rk.d && decide (kvs.length < sizeN)) = true then .nx (ρ.set i (.od (dputD kvs rk.d d))) else .bad
        | _ => .bad
      | _ => .bad
    | none => .bad
  | .ex _ => .bad
  | .bad => .bad
theorem s_dput (i : Nat) {x : Str} {p2 spos : Pos} (hu : X.A.units + 64 < cLine) (he : EV X e f) (hk : EV X k fk) (hN : X.N[i]? = some x := by rfl) (hv : Vis X.env.scope x := by first | exact Or.inl rfl | exact Or.inr (Or.inl rfl) | exact Or.inr (Or.inr rfl)) (hd : (x == ("__debug__" : Str)) = false := by decide)
    (hcd : (x == ("__classdict__" : Str)) = false := by decide) (hs : swapsWith e (some (.Subscript (.Name x p2) k spos)) pos.line X.env = pure false := by rfl) : SV X W (.Assign [.Subscript (.Name x p2) k spos] e pos) (gDPut i fk f) := by
  refine ⟨ps_imp (ps_dput (by omega) (pe_var hN hv hd hcd) hk.run he.run hs) fun D σ H ⟨O, ρ, I, q⟩ => ?_⟩
  unfold gDPut at q
  split at q
  · rename_i r ef
    split at q
    · rename_i d ed
      split at q
      · rename_i kvs ei
        split at q
        · rename_i rk ek
          split at q
          · rename_i hc
            rw [Bool.and_eq_true, decide_eq_true_eq] at hc
            obtain ⟨κ, hκ⟩ := isKey_kD hc.1
            rw [hκ] at q
            obtain ⟨g, ov, eg, e1, p, vs, rfl, h1, hr, hA⟩ := I.get ei
            have hp : p ∈ O.O := I.mine eg (by rw [hA]; exact List.mem_singleton_self p)
            refine ⟨O, ρ, r, I, ef, fun v H1 s rr => ⟨_, e1, O, ρ, rk, I.same s, ek, fun w H2 s2 r2 => ?_⟩⟩
            have s12 := s.trans s2
            have t := Top.rep (O := []) r2.bare
            rw [hκ] at t
            have hv' := (RR.rep I.tr rr ed).same s2
            have hl := hr.length
            have hz := hc.2
            rw [sizeN_eq] at hz
            obtain ⟨J, E⟩ := (I.same s12).mut (o := .dK (putK vs κ v)) (s' := .od (dputD kvs (kD κ) d)) eg e1 hA trivial ⟨p, _, rfl, upd_same, (((hr.same s12).put hv').ev (fun a u e n => by rw [upd_ne fun z => n (by rw [z]; exact hp)]; exact e) fun a h => .inl h), hA⟩
            refine ⟨p, _, rfl, ?_, q O _ σ J ((ER.same_evo s12).trans I E)⟩
            rw [rep_kD t]
            exact DPut.k (s12 _ _ h1) (by rw [hl]; exact hz)
          · exact q.elim
        · exact q.elim
      · exact q.elim
    · exact q.elim
  · exact q.elim
  · exact q.elim
/-- del d[k] -/
def gDDel (i : Nat) (fk : FE) : FS := fun ρ => match ρ[i]? with
  | some (.od kvs) => match fk ρ with
    | .ok rk => if (isKey rk.d && (dgetD kvs rk.d).isSome) = true then .nx (ρ.set i (.od (ddropD kvs rk.d))) else .bad
    | _ => .bad
  | _ => .bad
theorem KReps.isK {K : PySem.W.Frag} {H : Hp} {O : List Addr} {k : Key} {vs : List (Key × V)} {ds : List (D × D)} (h : KReps K H O vs ds) : (valV vs k).isSome = (dgetD ds (kD k)).isSome := by
  obtain ⟨h1, h2⟩ := h.get (k := k)
  cases e : dgetD ds (kD k) with
  | none => rw [h2 e]; rfl
  | some d =>
    obtain ⟨v, e2, _⟩ := h1 d e
    rw [e2]; rfl
theorem s_ddel (i : Nat) {x : Str} {p2 spos : Pos} (hk : EV X k fk) (hN : X.N[i]? = some x := by rfl) (hv : Vis X.env.scope x := by first | exact Or.inl rfl | exact Or.inr (Or.inl rfl) | exact Or.inr (Or.inr rfl)) (hd : (x == ("__debug__" : Str)) = false := by decide)
    (hcd : (x == ("__classdict__" : Str)) = false := by decide) : SV X W (.Delete [.Subscript (.Name x p2) k spos] pos) (gDDel i fk) := by
  refine ⟨ps_imp (ps_ddel (pe_var hN hv hd hcd) hk.run) fun D σ H ⟨O, ρ, I, q⟩ => ?_⟩
  unfold gDDel at q
  split at q
  · rename_i kvs ei
    split at q
    · rename_i rk ek
      split at q
      · rename_i hc
        rw [Bool.and_eq_true] at hc
        obtain ⟨κ, hκ⟩ := isKey_kD hc.1
        rw [hκ] at q hc
        obtain ⟨g, ov, eg, e1, p, vs, rfl, h1, hr, hA⟩ := I.get ei
        have hp : p ∈ O.O := I.mine eg (by rw [hA]; exact List.mem_singleton_self p)
        refine ⟨_, e1, O, ρ, rk, I, ek, fun w H2 s2 r2 => ?_⟩
        have t := Top.rep (O := []) r2.bare
        rw [hκ] at t
        obtain ⟨J, E⟩ := (I.same s2).mut (o := .dK (dropK vs κ)) (s' := .od (ddropD kvs (kD κ))) eg e1 hA trivial ⟨p, _, rfl, upd_same, (((hr.same s2).drop).ev (fun a u e n => by rw [upd_ne fun z => n (by rw [z]; exact hp)]; exact e) fun a h => .inl h), hA⟩
        exact ⟨p, vs, κ, rfl, s2 _ _ h1, rep_kD t, by rw [hr.isK]; exact hc.2, q O _ σ J ((ER.same_evo s2).trans I E)⟩
      · exact q.elim
    · exact q.elim
  · exact q.elim
end
/-! ### evaluation -/
section
variable {f fk : FE} {ρ : En}
theorem ap_gDPut (i : Nat) : gDPut i fk f ρ = useS (f ρ) fun r => match r.fz with
    | some d => (match ρ[i]? with
      | some (.od kvs) => (match fk ρ with
        | .ok rk => if (isKey rk.d && decide (kvs.length < sizeN)) = true then .nx (ρ.set i (.od (dputD kvs rk.d d))) else .bad
        | _ => .bad)
      | _ => .bad)
    | none => .bad := rfl
theorem ap_gDDel (i : Nat) : gDDel i fk ρ = match ρ[i]? with
  | some (.od kvs) => (match fk ρ with
    | .ok rk => if (isKey rk.d && (dgetD kvs rk.d).isSome) = true then .nx (ρ.set i (.od (ddropD kvs rk.d))) else .bad
    | _ => .bad)
  | _ => .bad := rfl
theorem ap_fKGet (tbl : List (Str × D)) : fKGet tbl f ρ = (f ρ).bind fun r => (match r.d with
  | .str z => (match tbGet tbl z with
    | some d => .ok (.fr d)
    | none => .bad)
  | _ => .bad) := rfl
theorem ap_fKIn (neg : Bool) (tbl : List (Str × D)) : fKIn neg tbl f ρ = (f ρ).bind fun r => (match r.d with
  | .str z => dInB neg (tbGet tbl z).isSome
  | _ => .bad) := rfl
theorem tb_nil (x : Str) : tbGet [] x = none := rfl
theorem tb_cons (k x : Str) (d : D) (r : List (Str × D)) : tbGet ((k, d) :: r) x = if k = x then some d else tbGet r x := rfl
theorem ap_fDisp (fs : List (FE × FE)) : fDisp fs ρ = (evalP fs ρ).bind fun ps => .ok (.od (dmerge ps)) := rfl
theorem evp_nil : evalP [] ρ = .ok [] := rfl
theorem evp_cons (r : List (FE × FE)) : evalP ((fk, f) :: r) ρ = (fk ρ).bind fun x => (f ρ).bind fun y => (match y.fz with
    | some d => if isKey x.d = true then (evalP r ρ).bind fun ps => .ok ((x.d, d) :: ps) else .bad
    | none => .bad) := rfl
theorem dmerge_eq (ps : List (D × D)) : dmerge ps = ps.foldl (fun acc p => dputD acc p.1 p.2) [] := rfl
theorem ap_fDNew : fDNew ρ = .ok (.od []) := rfl
theorem isk_i (i : Int) : isKey (.int i) = true := rfl
theorem isk_s (i : Str) : isKey (.str i) = true := rfl
theorem keq_ii (i j : Int) : kEq (.int i) (.int j) = decide (i = j) := rfl
theorem keq_ss (i j : Str) : kEq (.str i) (.str j) = decide (i = j) := rfl
theorem dput_nil (k v : D) : dputD [] k v = [(k, v)] := rfl
theorem dput_cons (k k' v v' : D) (r : List (D × D)) : dputD ((k', v') :: r) k v = if kEq k' k = true then (k', v) :: r.map (fun p => if kEq p.1 k = true then (p.1, v) else p) else (k', v') :: dputD r k v := by
  unfold dputD
  rw [List.any_cons]
  by_cases h : kEq k' k = true
  · rw [h, Bool.true_or, if_pos rfl, if_pos rfl, List.map_cons, if_pos h]
  · have h' : kEq k' k = false := by simpa using h
    rw [h', Bool.false_or, if_neg Bool.false_ne_true, List.map_cons]
    by_cases h2 : (r.any fun p => kEq p.1 k) = true
    · rw [if_pos h2, if_pos h2, if_neg h]
    · rw [if_neg h2, if_neg h2]
      rfl
theorem dget_nil (k : D) : dgetD [] k = none := rfl
theorem dget_cons (k k' v' : D) (r : List (D × D)) : dgetD ((k', v') :: r) k = if kEq k' k = true then some v' else dgetD r k := by
  unfold dgetD
  rw [List.find?_cons]
  dsimp only
  cases kEq k' k <;> rfl
theorem okd_nil : okDict [] = true := rfl
theorem okd_s (x : Str) (v : D) (r : List (D × D)) : okDict ((.str x, v) :: r) = true := rfl
theorem okd_i (x : Int) (v : D) (r : List (D × D)) : okDict ((.int x, v) :: r) = true := rfl
theorem ix_d (kvs : List (D × D)) (k : D) : dIx (.dict kvs) k = if (isKey k && okDict kvs) = true then (match dgetD kvs k with
    | some d => .ok (.fr d)
    | none => .bad) else .bad := by
  unfold dIx
  cases k <;> rfl
theorem in_ds (neg : Bool) (x : Str) (kvs : List (D × D)) : dIn neg (.str x) (.dict kvs) = if okDict kvs = true then dInB neg (dgetD kvs (.str x)).isSome else .bad := by
  unfold dIn
  simp only [isk_s, Bool.true_and]
theorem in_di (neg : Bool) (x : Int) (kvs : List (D × D)) : dIn neg (.int x) (.dict kvs) = if okDict kvs = true then dInB neg (dgetD kvs (.int x)).isSome else .bad := by
  unfold dIn
  simp only [isk_i, Bool.true_and]
end
end VL
namespace VL
open PySem PySem.Spec
open PyProof.Rows L2
variable [Vx]
/-! ### enumerate -/
def enumD (ds : List D) : List D := ds.mapIdx fun i d => .tuple [.int i, d]
section
variable {X : Cx} {q : Bool} {e k : Expr} {f fk : FE} {pos p p2 tpos : Pos}
theorem enum_at {ds : List D} {i : Nat} {d : D} (h : (enumD ds)[i]? = some d) : ∃ x, ds[i]? = some x ∧ d = .tuple [.int i, x] := by
  unfold enumD at h
  rw [List.getElem?_mapIdx] at h
  obtain ⟨x, h1, h2⟩ := Option.map_eq_some_iff.mp h
  exact ⟨x, h1, h2.symm⟩
theorem JOk.enum {K : PySem.W.Frag} {O E : List Addr} {H1 : Hp} {ds : List D} {a : Addr} {xs : List V} (hr : Reps K H1 O xs ds) (hE : ∀ a ∈ E, a ∈ O) (hS : ∀ H2, (∀ a o, H1 a = some o → a ∉ E → H2 a = some o) → SqL K H2 a xs) : JOk K O E H1 (Ite K a) (enumD ds) := fun i H2 k => by
  refine ⟨fun d hd => ?_, fun hle => ⟨xs, hS H2 k, by unfold enumD at hle; rw [List.length_mapIdx] at hle; rw [hr.length]; exact hle⟩⟩
  obtain ⟨x, hx, rfl⟩ := enum_at hd
  obtain ⟨v, hv, hrep⟩ := hr.get' hx
  refine ⟨⟨xs, v, hS H2 k, hv⟩, fun y H3 hy => ?_⟩
  obtain ⟨T, w, rfl, hT, rfl, hw⟩ := hy
  cases Option.some.inj ((hw xs (hS H2 k)).symm.trans hv)
  have s3 : Same H2 (upd H2 T (.tup [.int (i : Nat), v])) := same_upd hT
  refine ⟨s3, fun O2 h1 h2 => ?_⟩
  have r2 : Rep K H2 O2 v x := hrep.ev (fun a o e n => k a o e fun z => n (hE a z)) h1
  exact .tup (.inl upd_same) (fun z => h2 T z hT) (by rw [sizeLine_eq]; exact Nat.le_of_ble_eq_true rfl) (.cons (.int _) (.cons (r2.same s3) .nil))
def fEnum (f : FE) (q : Bool) : En → Rs (List D) := fun ρ => (fIter f (listOf' q) ρ).bind fun ds => .ok (enumD ds)
theorem i_enum {elts : List Expr} {kk : Nat} (hm : X.mg "enumerate" = none) (h : EV X e f) (hg : Gl X "enumerate" := by rfl) (hs : starEach [e] X.env = [(false, eval e X.env)] := by rfl) : IV X q (.Tuple elts kk tpos) (.Call (.Name "enumerate" p) [e] [] pos) (fEnum f q) := by
  refine ⟨pi_imp (pi_enum hg hm (pa_cons h.run pa_nil hs) hs) fun σ H Q ⟨O, ρ, ds', I, hf0, qq⟩ => ?_⟩
  obtain ⟨ds, hf1, h2⟩ := Rs.bind_eq hf0
  clear hf0
  cases h2
  obtain ⟨r, e1, hf⟩ := Rs.bind_eq hf1
  refine ⟨O, ρ, r, I, e1, fun v H1 s rr => ?_⟩
  have main : ∀ (a : Addr) (xs : List V), v = .ref a → SqL X.K H1 a xs → xs.length ≤ sizeLine → Reps X.K H1 O xs ds → (∀ H2, (∀ a o, H1 a = some o → a ∉ mayE q O → H2 a = some o) → SqL X.K H2 a xs) → ∃ a xs, ([v] : List V) = [.ref a] ∧ SqL X.K H1 a xs ∧ Q (Ite X.K a) H1 := fun a xs ev hs hz hr hS => by
    subst ev
    exact ⟨a, xs, rfl, hs, qq _ H1 s (JOk.enum hr (mayE_sub q) hS) fun _ => by unfold enumD; rw [List.length_mapIdx, ← hr.length]; exact hz⟩
  have go : ∀ {z : Rep X.K H1 O v (.list ds)}, ∃ a xs, ([v] : List V) = [.ref a] ∧ SqL X.K H1 a xs ∧ Q (Ite X.K a) H1 := fun {z} => by
    cases z with
    | lst h1 h2 hz h3 => exact main _ _ rfl (.inl h1) hz h3 fun H2 k => .inl (Rd.keep h1 fun o e => k _ o e fun z => h2 (mayE_sub q _ z))
    | lstK h1 h3 => exact main _ _ rfl (.inr h1) h1.len h3 fun H2 k => .inr h1
  unfold listOf' at hf
  split at hf
  · cases hf
    exact go (z := rr.rep I.tr rfl)
  · cases hf
    exact go (z := rr.rep I.tr rfl)
  · split at hf
    · rename_i hq
      cases hf
      subst hq
      cases (show Top X.K H1 O v (.list ds) from rr) with
      | rep z => exact go (z := z)
      | lst e z r => exact main _ _ rfl (.of e) z r fun H2 k => .of (k _ _ e (fun z => nomatch z))
    · cases hf
  · split at hf
    · rename_i hq
      cases hf
      rw [Bool.and_eq_true] at hq
      obtain ⟨hq, hi⟩ := hq
      subst hq
      cases (show Rep X.K H1 [] v (.list ds) from rr) with
      | lst h1 h2 hz h3 => exact main _ _ rfl (.inl h1) hz (h3.imm (I.hg.same s).mu hi) fun H2 k => .inl (Rd.keep h1 fun o e => k _ o e fun z => nomatch z)
      | lstK h1 h3 => exact main _ _ rfl (.inr h1) h1.len (h3.imm (I.hg.same s).mu hi) fun H2 k => .inr h1
    · cases hf
  · cases hf
/-! ### targets that write -/
def tGH (K : PySem.W.Frag) (st : D → En → Option En) : TG := fun v σ H Q => ∃ (O : Og) (ρ : En) (d : PyData) (ρ' : En), ER K O H σ ρ ∧ Rep K H O v d ∧ st d ρ = some ρ' ∧ ∀ (O' : Og) (H' : Hp) (σ' : L2.St), ER K O' H' σ' ρ' → Evo O H O' H' → Q σ' H'
structure HV (X : Cx) (tg : Expr) (st : D → En → Option En) : Prop where
  run : PG X tg (tGH X.K st)
def tGsH (K : PySem.W.Frag) (st : List D → En → Option En) : TGs := fun vs σ H Q => ∃ (O : Og) (ρ : En) (ds : List PyData) (ρ' : En), ER K O H σ ρ ∧ Reps K H O vs ds ∧ st ds ρ = some ρ' ∧ ∀ (O' : Og) (H' : Hp) (σ' : L2.St), ER K O' H' σ' ρ' → Evo O H O' H' → Q σ' H'
structure HsV (X : Cx) (tgs : List Expr) (st : List D → En → Option En) : Prop where
  run : PGs X tgs (tGsH X.K st)
theorem h_of_g {tg : Expr} {js : List Nat} {st : D → En → Option En} (h : GV X tg js st) : HV X tg st :=
  ⟨pg_imp h.run fun v σ H Q ⟨O, ρ, d, ρ', I, r, hs, q⟩ => ⟨O, ρ, d, ρ', I, r, hs, fun O' σ' J E _ _ => q O' H σ' J E⟩⟩
theorem hs_nil : HsV X [] sNil := by
  refine ⟨pgs_imp pgs_nil fun vs σ H Q ⟨O, ρ, ds, ρ', I, r, hs, q⟩ => ?_⟩
  unfold sNil at hs
  split at hs
  · cases hs
    cases r
    exact ⟨rfl, q O H σ I .refl⟩
  · cases hs
theorem Evo.reps {K : PySem.W.Frag} {O O1 : Og} {H H1 : Hp} {σ : L2.St} {ρ : En} (I : ER K O H σ ρ) (E : Evo O H O1 H1) {vs : List V} {ds : List D} (r : Reps K H O vs ds) : Reps K H1 O1 vs ds :=
  r.ev (fun a o e n => E.same a o e fun z => n (I.sub a z)) E.newO
theorem hs_cons {e : Expr} {es : List Expr} {s : D → En → Option En} {t : List D → En → Option En} (h1 : HV X e s) (h2 : HsV X es t) (hs : (assignEach (e :: es) X.env).map (·.2) = assign e X.env :: (assignEach es X.env).map (·.2) := by rfl) : HsV X (e :: es) (sCons s t) := by
  refine ⟨pgs_imp (pgs_cons h1.run h2.run hs) fun vs σ H Q ⟨O, ρ, ds, ρ', I, r, hs, q⟩ => ?_⟩
  unfold sCons at hs
  split at hs
  · cases r with
    | cons r1 r2 =>
      obtain ⟨ρ1, e1, e2⟩ := Option.bind_eq_some_iff.mp hs
      exact ⟨_, _, rfl, O, ρ, _, ρ1, I, r1, e1, fun O1 H1 σ1 J E => ⟨O1, ρ1, _, ρ', J, E.reps I r2, e2, fun O2 H2 σ2 J2 E2 => q O2 H2 σ2 J2 (E.trans I E2)⟩⟩
  · cases hs
theorem h_tup {es : List Expr} {k : Nat} {t : List D → En → Option En} {n : Nat} (hc : X.calm = true) (h : HsV X es t) (hlen : ∀ ds ρ ρ', t ds ρ = some ρ' → ds.length = n)
    (hn : (assignEach es X.env).length = n := by rfl) (hst : (assignEach es X.env).findIdx? (·.1) = none := by rfl) : HV X (.Tuple es k pos) (sTup t) := by
  refine ⟨pg_imp (pg_tup hc h.run hn hst) fun v σ H Q ⟨O, ρ, d, ρ', I, r, hs, q⟩ => ?_⟩
  unfold sTup at hs
  split at hs
  · rename_i ds
    obtain ⟨a, xs, rfl, hq, hr, _⟩ := (Top.rep r).tuple
    exact ⟨a, xs, rfl, hq, by rw [hr.length]; exact hlen ds ρ ρ' hs, O, ρ, ds, ρ', I, hr, hs, q⟩
  · cases hs
/-- d[k] as a target -/
def sDPutT (i : Nat) (fk : FE) : D → En → Option En := fun d ρ => match ρ[i]? with
  | some (.od kvs) => match fk ρ with
    | .ok rk => if (isKey rk.d && decide (kvs.length < sizeN)) = true then some (ρ.set i (.od (dputD kvs rk.d d))) else none
    | _ => none
  | _ => none
theorem h_dput (i : Nat) {x : Str} {spos : Pos} (hu : X.A.units + 64 < cLine) (hk : EV X k fk) (hN : X.N[i]? = some x := by rfl) (hv : Vis X.env.scope x := by first | exact Or.inl rfl | exact Or.inr (Or.inl rfl) | exact Or.inr (Or.inr rfl)) (hd : (x == ("__debug__" : Str)) = false := by decide)
    (hcd : (x == ("__classdict__" : Str)) = false := by decide)
    (ha : ∀ v, assign (.Subscript (.Name x p2) k spos) X.env v = (do
      let ov ← holding [v] (eval (.Name x p2) X.env)
      let iv ← holding [v, ov] (eval k X.env)
      standAt spos
      holding [v, ov, iv] (setItem ov iv v)
      release [v, ov, iv] []) := by intro _; rfl) : HV X (.Subscript (.Name x p2) k spos) (sDPutT i fk) := by
  refine ⟨pg_imp (pg_sub (pe_var hN hv hd hcd) hk.run (set_dict (by omega)) ha) fun v σ H Q ⟨O, ρ, d, ρ', I, r, hs, q⟩ => ?_⟩
  unfold sDPutT at hs
  split at hs
  · rename_i kvs ei
    split at hs
    · rename_i rk ek
      split at hs
      · rename_i hc
        rw [Bool.and_eq_true, decide_eq_true_eq] at hc
        cases hs
        obtain ⟨κ, hκ⟩ := isKey_kD hc.1
        rw [hκ] at q
        obtain ⟨g, ov, eg, e1, pp, vs, rfl, h1, hr, hA⟩ := I.get ei
        have hp : pp ∈ O.O := I.mine eg (by rw [hA]; exact List.mem_singleton_self pp)
        refine ⟨_, e1, O, ρ, rk, I, ek, fun w H2 s2 r2 => ?_⟩
        have t := Top.rep (O := []) r2.bare
        rw [hκ] at t
        have hl := hr.length
        have hz := hc.2
        rw [sizeN_eq] at hz
        obtain ⟨J, E⟩ := (I.same s2).mut (o := .dK (putK vs κ v)) (s' := .od (dputD kvs (kD κ) d)) eg e1 hA trivial ⟨pp, _, rfl, upd_same, (((hr.same s2).put (r.same s2)).ev (fun a u e n => by rw [upd_ne fun z => n (by rw [z]; exact hp)]; exact e) fun a h => .inl h), hA⟩
        refine ⟨pp, _, rfl, ?_, q O _ σ J ((ER.same_evo s2).trans I E)⟩
        rw [rep_kD t]
        exact DPut.k (s2 _ _ h1) (by rw [hl]; exact hz)
      · cases hs
    · cases hs
  · cases hs
theorem s_asgH {W : WX} {tg e : Expr} {f : FE} {st : D → En → Option En} (he : EV X e f) (hg : HV X tg st) (hs : swapsWithSole [tg] e pos.line X.env = pure false := by rfl) (hw : swappedStores [tg] e X.env = pure none := by rfl)
    (h1 : (assignEach [tg] X.env).map (·.2) = [assign tg X.env] := by rfl) : SV X W (.Assign [tg] e pos) (gAsg f st) := by
  refine ⟨ps_imp (ps_asg he.run hg.run hs hw h1) fun D σ H ⟨O, ρ, I, q⟩ => ?_⟩
  unfold gAsg at q
  split at q
  · rename_i r e
    split at q
    · rename_i d ed
      split at q
      · rename_i ρ' es
        exact ⟨O, ρ, r, I, e, fun v H1 s rr => ⟨O, ρ, d, ρ', I.same s, RR.rep I.tr rr ed, es, fun O' H' σ' J E => q O' H' σ' J ((ER.same_evo s).trans I E)⟩⟩
      · exact q.elim
    · exact q.elim
  · exact q.elim
  · exact q.elim
end
end VL
namespace VL
open PySem PySem.Spec
open PyProof.Rows L2
variable [Vx]
/-! ### a locked dict -/
theorem own_mem : ∀ {γ : List Gh} {g : Gh} {a : Addr}, g ∈ γ → a ∈ g.A → a ∈ ownG γ
  | _ :: _, _, _, h, ha => (List.mem_cons.mp h).elim (fun e => by rw [e] at ha; exact List.mem_append_left _ ha) fun z => List.mem_append_right _ (own_mem z ha)
/-- the heap changed apart from O, all that was readable is readable -/
theorem ER.chg {K : PySem.W.Frag} {H H' : Hp} {O : Og} {σ : L2.St} {ρ : En} (I : ER K O H σ ρ) (h1 : ∀ a ∈ O.O, H' a = H a) (h2 : Kp O.O H H') (h3 : ∀ P ∈ Vx.τ, H' P = H P) : ER K O H' σ ρ :=
  ⟨I.at_.impM fun g hg ov s q => q.move h2 (fun a h => .inl h) fun a h => h1 a (I.sub a (own_mem hg h)), I.nd, I.sub, ⟨fun a h => by rw [h1 a h]; exact I.hg.mu a h, fun P z => ⟨by rw [h3 P z]; exact (I.hg.tb P z).1, (I.hg.tb P z).2⟩⟩⟩
section
variable {K : PySem.W.Frag} {H H' : Hp} {O : List Addr} {σ : L2.St} {ρ : En}
theorem rd_lock {d : Addr} {u : HO} {od : Obj} (hd : H d = some u) (nf : ∀ o w, u ≠ .frz o w) : ∀ a w, (∀ o x, w ≠ .frz o x) → a ∉ O → Rd H a w → Rd (upd H d (.frz od u)) a w := fun a w nw _ r => by
  by_cases e : a = d
  · subst e
    rcases r with r | ⟨o, r⟩
    · rw [hd] at r
      cases r
      exact .inr ⟨od, upd_same⟩
    · rw [hd] at r
      cases r
      exact absurd rfl (nf _ _)
  · exact Rd.keep r fun o z => by rw [upd_ne e]; exact z
theorem rd_unlock {d : Addr} {u : HO} {od : Obj} (hd : H d = some (.frz od u)) : ∀ a w, (∀ o x, w ≠ .frz o x) → a ∉ O → Rd H a w → Rd (upd H d u) a w := fun a w nw _ r => by
  by_cases e : a = d
  · subst e
    rcases r with r | ⟨o, r⟩
    · rw [hd] at r
      cases r
      exact absurd rfl (nw _ _)
    · rw [hd] at r
      cases r
      exact .inl upd_same
  · exact Rd.keep r fun o z => by rw [upd_ne e]; exact z
theorem kp_lock {d : Addr} {kvs : List (Key × V)} {od : Obj} (hd : H d = some (.dK kvs)) : Kp O H (upd H d (.frz od (.dK kvs))) :=
  ⟨rd_lock hd (nf_dK kvs), fun a C dx fs _ e => by rw [upd_ne fun z => by rw [z, hd] at e; cases e]; exact e⟩
theorem kp_unlock {d : Addr} {kvs : List (Key × V)} {od : Obj} (hd : H d = some (.frz od (.dK kvs))) : Kp O H (upd H d (.dK kvs)) :=
  ⟨rd_unlock hd, fun a C dx fs _ e => by rw [upd_ne fun z => by rw [z, hd] at e; cases e]; exact e⟩
theorem tb_upd {d : Addr} {u w : HO} (g : ∀ P ∈ Vx.τ, H P = some (tabO P)) (hd : H d = some u) (n : ∀ P, u ≠ tabO P) : ∀ P ∈ Vx.τ, upd H d w P = H P := fun P z => upd_ne fun e => by
  have := g P z
  rw [e, hd] at this
  exact n d (Option.some.inj this)
end
/-! ### for k in d, d a name that holds data -/
def dKeys (ds : List (D × D)) : List D := ds.map (·.1)
/-- no exception -/
def So.sure : So → So
  | .ex _ _ => .bad
  | o => o
theorem Post.sure {K : PySem.W.Frag} {W : WX} {O : Og} {H : Hp} {D : Ends} {so : So} (q : Post K W O H D so.sure) : Post K W O H D so := by
  cases so with
  | ex e ρ => exact q.elim
  | _ => exact q
def gForD (i : Nat) (st : D → En → Option En) (body : FS) : FS := fun ρ => match ρ[i]? with
  | some (.fr (.dict ds)) => if okDict ds = true then (gLoop st body (dKeys ds) ρ).sure else .bad
  | _ => .bad
theorem kreps_key {K : PySem.W.Frag} {H : Hp} {O : List Addr} : ∀ {vs : List (Key × V)} {ds : List (D × D)} {i : Nat} {d : D}, KReps K H O vs ds → (dKeys ds)[i]? = some d → ∃ k v, vs[i]? = some (k, v) ∧ d = kD k
  | _, _, _, _, .nil, e => by simp [dKeys] at e
  | _, _, 0, _, .cons r _, e => by simp [dKeys] at e; subst e; exact ⟨_, _, rfl, rfl⟩
  | _, _, i + 1, _, .cons _ t, e => by
    obtain ⟨k, v, h1, h2⟩ := kreps_key (i := i) t (by simpa [dKeys] using e)
    exact ⟨k, v, by simpa using h1, h2⟩
theorem rep_ofK {K : PySem.W.Frag} {H : Hp} {O : List Addr} (k : Key) : Rep K H O (kV k) (kD k) := by
  cases k with
  | inl i => exact .int i
  | inr x => exact .str x
theorem JOk.keys {K : PySem.W.Frag} {O E : List Addr} {H1 : Hp} {a : Addr} {o : Obj} {kvs : List (Key × V)} {ds : List (D × D)} (hE : ∀ a ∈ E, a ∈ O) (haO : a ∉ O) (he : H1 a = some (.frz o (.dK kvs))) (hr : KReps K H1 O kvs ds) : JOk K O E H1 (Itk a o kvs) (dKeys ds) := fun i H2 k => by
  have h2 : H2 a = some (.frz o (.dK kvs)) := k a _ he fun z => haO (hE a z)
  refine ⟨fun d hd => ?_, fun hle => ⟨h2, by unfold dKeys at hle; rw [List.length_map] at hle; rw [hr.length]; exact hle⟩⟩
  obtain ⟨κ, v, h3, rfl⟩ := kreps_key hr hd
  refine ⟨⟨h2, (List.getElem?_eq_some_iff.mp h3).1⟩, fun x H3 hy => ?_⟩
  obtain ⟨rfl, κ', v', h4, rfl⟩ := hy
  rw [h3] at h4
  cases h4
  exact ⟨Same.refl _, fun _ _ _ => rep_ofK κ⟩
section
variable {X : Cx} {W : WX} {pos p : Pos}
/-- the ends of a statement in which d is locked -/
def lockEnds (d : Addr) (od : Obj) (u : HO) (D : Ends) : Ends := ⟨fun σ' H' => H' d = some (.frz od u) ∧ D.nx σ' (upd H' d u), fun v H' => H' d = some (.frz od u) ∧ D.rt v (upd H' d u), fun σ' H' => H' d = some (.frz od u) ∧ D.bk σ' (upd H' d u), fun σ' H' => H' d = some (.frz od u) ∧ D.ct σ' (upd H' d u)⟩
theorem lock_post {K : PySem.W.Frag} {W : WX} {O : Og} {H : Hp} {σ : L2.St} {ρ : En} {d : Addr} {kvs : List (Key × V)} {od : Obj} {D : Ends} {so : So} (I : ER K O H σ ρ) (hdO : d ∉ O.O) (hd : H d = some (.dK kvs)) (q : Post K W O H D so.sure) :
    Post K W O (upd H d (.frz od (.dK kvs))) (lockEnds d od (.dK kvs) D) so.sure := by
  have hds : d ∉ O.own := fun z => hdO (I.sub d z)
  have none_iff : ∀ a, upd H d (.frz od (.dK kvs)) a = none → H a = none := fun a h => by
    by_cases e : a = d
    · rw [e, upd_same] at h; cases h
    · rwa [upd_ne e] at h
  have back : ∀ {O' : Og} {H' : Hp} {σ' : L2.St} {ρ' : En}, ER K O' H' σ' ρ' → Evo O (upd H d (.frz od (.dK kvs))) O' H' → H' d = some (.frz od (.dK kvs)) ∧ d ∉ O'.O ∧ ER K O' (upd H' d (.dK kvs)) σ' ρ' ∧ Evo O H O' (upd H' d (.dK kvs)) := fun {O' H' σ' ρ'} J E => by
    have h1 : H' d = some (.frz od (.dK kvs)) := E.same d _ upd_same hds
    have hdO' : d ∉ O'.O := fun z => (E.newO d z).elim hdO fun z => by rw [upd_same] at z; cases z
    refine ⟨h1, hdO', J.chg (fun a h => upd_ne fun e => hdO' (e ▸ h)) (kp_unlock h1) (tb_upd (fun P z => (J.hg.tb P z).1) h1 fun P z => nomatch z), fun a o e n => ?_, E.keep, fun a h => (E.new a h).imp id (none_iff a), fun a h => (E.newO a h).imp id (none_iff a), E.pi⟩
    by_cases z : a = d
    · subst z
      rw [upd_same, ← e, hd]
    · rw [upd_ne z]
      exact E.same a o (by rw [upd_ne z]; exact e) n
  cases so with
  | nx ρ' => exact fun O' H' σ' J E => let ⟨a, _, b, c⟩ := back J E; ⟨a, q O' _ σ' b c⟩
  | bk ρ' => exact fun O' H' σ' J E => let ⟨a, _, b, c⟩ := back J E; ⟨a, q O' _ σ' b c⟩
  | ct ρ' => exact fun O' H' σ' J E => let ⟨a, _, b, c⟩ := back J E; ⟨a, q O' _ σ' b c⟩
  | rt r ρ' =>
    intro v O' H' σ' J E rt
    obtain ⟨h1, hdO', J2, E2⟩ := back J E
    refine ⟨h1, q v O' _ σ' J2 E2 ?_⟩
    have kp : ∀ {Z : List Addr}, Kp Z H' (upd H' d (.dK kvs)) := fun {Z} => kp_unlock h1
    cases r with
    | fr d' => exact Rep.evR kp (fun a h => .inl h) rt
    | ol xs =>
      obtain ⟨pp, vs, a1, a2, a9, a3, a4, a5⟩ := rt
      have ne : pp ≠ d := fun e => by rw [e, h1] at a3; cases a3
      exact ⟨pp, vs, a1, a2.imp id (none_iff pp), a9, by rw [upd_ne ne]; exact a3, a4, a5.evR kp fun a h => .inl h⟩
    | od xs =>
      obtain ⟨pp, vs, a1, a2, a9, a3, a5⟩ := rt
      have ne : pp ≠ d := fun e => by rw [e, h1] at a3; cases a3
      exact ⟨pp, vs, a1, a2.imp id (none_iff pp), a9, by rw [upd_ne ne]; exact a3, a5.evR kp fun a h => .inl h⟩
    | ot t =>
      obtain ⟨A, a1, a2, a3⟩ := rt
      refine ⟨A, a1.evR kp (fun a h => .inl h) fun a z => upd_ne fun e => ?_, a2, fun a z => ⟨(a3 a z).1.imp id (none_iff a), (a3 a z).2⟩⟩
      have m := a1.foot a z
      rw [e, h1] at m
      exact m
    | bw d' => exact rt
    | bt d' => exact rt
  | ex e ρ' => exact q.elim
  | bad => exact q
theorem s_forD (i : Nat) {x : Str} {tg : Expr} {body : List Stmt} {js : List Nat} {st : D → En → Option En} {g : FS} (hp : PassesOwn (model X.prog X.w) X.A X.env X.xe) (hc : X.calm = true) (hg : GV X tg js st) (hb : BV X W body g)
    (hN : X.N[i]? = some x := by rfl) (hv : Vis X.env.scope x := by first | exact Or.inl rfl | exact Or.inr (Or.inl rfl) | exact Or.inr (Or.inr rfl)) (hd : (x == ("__debug__" : Str)) = false := by decide) (hcd : (x == ("__classdict__" : Str)) = false := by decide)
    (hs : ∀ y, foldedSetIterable (.Name x p) X.env y = pure y := by intro _; rfl) : SV X W (.For tg (.Name x p) body [] pos) (gForD i st g) := by
  have h := ps_for (pos := pos) hp hc (pi_keys (tg := tg) (pe_var (pos := p) hN hv hd hcd)) hg.run hb.run hs
  refine ⟨⟨fun pins s σ H D I q => ?_⟩⟩
  obtain ⟨O, ρ, R, q⟩ := q
  unfold gForD at q
  split at q
  · rename_i ds ed
    split at q
    · rename_i hok
      obtain ⟨gh, ov, eg, e1, ⟨v, rfl, hr⟩, _⟩ := R.get ed
      have core : ∀ {H0 : Hp} {D0 : Ends} {a : Addr} {o : Obj} {kvs : List (Key × V)}, v = .ref a → ER X.K O H0 σ ρ → a ∉ O.O → H0 a = some (.frz o (.dK kvs)) → KReps X.K H0 O kvs ds → Post X.K W O H0 D0 (gLoop st g (dKeys ds) ρ) → tFor (iKeys (L2.tVar i)) (tG X.K js st) (tS X.K W g) D0 σ H0 := fun {H0 D0 a o kvs} ev J haO he kr q0 => by
        exact ⟨v, e1, a, o, ev, .inl ⟨kvs, he, for_rest J q0 (JOk.keys (fun _ h => h) haO he kr)⟩⟩
      have hrd : ∃ a kvs, v = .ref a ∧ Rd H a (.dK kvs) ∧ a ∉ O.O ∧ KReps X.K H O kvs ds := by
        generalize hdd : PyData.dict ds = dd at hr
        cases hr with
        | dic h1 h2 h3 => cases hdd; exact ⟨_, _, rfl, h1, h2, h3⟩
        | fn h1 => unfold fnD at hdd; cases hdd; cases hok
        | dicX h1 h2 h3 => unfold xD at hdd; cases hdd; cases hok
        | ins h1 h2 h3 h4 => unfold insD at hdd; cases hdd; cases hok
        | _ => cases hdd
      obtain ⟨a, kvs, ev, hrd, haO, kr⟩ := hrd
      rcases hrd with hh | ⟨o, hh⟩
      · refine (ps_lock h).run pins s σ H D I ⟨a, .dK kvs, hh, True.intro, fun od => ?_⟩
        exact core ev (R.chg (fun b hb => upd_ne fun e => haO (e ▸ hb)) (kp_lock hh) (tb_upd (fun P z => (R.hg.tb P z).1) hh fun P z => nomatch z)) haO upd_same (kr.evR (kp_lock hh) fun a h => .inl h) (Post.sure (lock_post R haO hh q))
      · exact h.run pins s σ H D I (core ev R haO hh kr (Post.sure q))
    · exact q.elim
  · exact q.elim
/-! ### dict(x): of pairs, of a dict -/
def pairOf : D → Option (D × D)
  | .tuple [k, v] => if isKey k = true then some (k, v) else none
  | _ => none
def pairsOf : List D → Option (List (D × D))
  | [] => some []
  | d :: ds => match pairOf d, pairsOf ds with
    | some p, some ps => some (p :: ps)
    | _, _ => none
def dDict : List D → Rs R
  | [.list ds] => match pairsOf ds with
    | some ps => .ok (.od (dmerge ps))
    | none => .bad
  | [.dict ds] => if okDict ds = true then .ok (.od ds) else .bad
  | _ => .bad
theorem pairs_reps {K : PySem.W.Frag} {H : Hp} {O : List Addr} : ∀ {vs : List V} {ds : List D} {ps : List (D × D)}, Reps K H O vs ds → pairsOf ds = some ps → ∃ (as : List Addr) (kvs : List (Key × V)), vs = as.map V.ref ∧ Paired (fun p kv => SqT K H p [kV kv.1, kv.2]) as kvs ∧ KReps K H O kvs ps
  | _, _, _, .nil, e => by cases e; exact ⟨[], [], rfl, .nil, .nil⟩
  | _, _, _, .cons (v := v) (d := d) r t, e => by
    unfold pairsOf at e
    split at e
    · rename_i p ps' e1 e2
      cases e
      obtain ⟨as, kvs, h1, h2, h3⟩ := pairs_reps t e2
      unfold pairOf at e1
      split at e1
      · rename_i k w
        split at e1
        · rename_i hk
          cases e1
          obtain ⟨κ, rfl⟩ := isKey_kD hk
          obtain ⟨a, xs, rfl, hq, hr, _⟩ := (Top.rep r).tuple
          cases hr with
          | cons r1 r2 =>
            cases r2 with
            | cons r2 r3 =>
              cases r3
              rw [rep_kD (Top.rep r1)] at hq
              exact ⟨a :: as, (κ, _) :: kvs, by rw [h1]; rfl, .cons hq h2, .cons r2 h3⟩
        · cases e1
      · cases e1
    · cases e
theorem c_dict (hc : X.calm = true) : VCall X (.type "dict") dDict := by
  intro pins s σ H xs us Q I rx ⟨O, ds', r, hx, ht, hf, q⟩
  unfold dDict at hf
  split at hf
  · rename_i ds
    split at hf
    · rename_i ps ep
      cases hf
      obtain ⟨v, rfl, hv⟩ := all2_1 hx
      obtain ⟨a, vs, rfl, hq, hr, hz⟩ := hv.list
      obtain ⟨as, kvs, rfl, h2, h3⟩ := pairs_reps hr ep
      exact call_dictP hc pins s σ H _ us Q I rx ⟨a, as, kvs, rfl, hq, h2, fun p hp => q _ _ (same_upd hp) ⟨p, _, rfl, hp, upd_same, (kreps_merge h3 .nil).ev (fun b o e _ => same_upd hp b o e) fun b z => (List.mem_cons.mp z).elim (fun e => .inr (by rw [e]; exact hp)) .inl⟩⟩
    · cases hf
  · rename_i ds
    split at hf
    · rename_i hok
      cases hf
      obtain ⟨v, rfl, hv⟩ := all2_1 hx
      obtain ⟨a, vs, rfl, h1, h3⟩ := hv.dict hok
      exact call_dictD pins s σ H _ us Q I rx ⟨a, vs, rfl, h1, fun p hp => q _ _ (same_upd hp) ⟨p, _, rfl, hp, upd_same, h3.ev (fun b o e _ => same_upd hp b o e) fun b z => (List.mem_cons.mp z).elim (fun e => .inr (by rw [e]; exact hp)) .inl⟩⟩
    · cases hf
  · cases hf
end
end VL
namespace VL
open PySem PySem.Spec
open PyProof.Rows L2
variable [Vx]
/-! ### a list or a tuple (true: a tuple) -/
def Sq (K : PySem.W.Frag) (H : Hp) : Bool → Addr → List V → Prop
  | true, a, xs => SqT K H a xs
  | false, a, xs => SqL K H a xs
def rawQ (h : Heap) : Bool → Addr → Array Value → Prop
  | true, a, its => h.IsTuple a its
  | false, a, its => h.IsList a its
def itQ (h : Heap) : Bool → Addr → Addr → Nat → Prop
  | true, it, a, i => h.IsTupleIter it a i
  | false, it, a, i => h.IsListIter it a i
def objQ : Bool → Addr → Obj
  | true, a => { cls := .type "tuple_iterator", data := .fields #[.ref a, .int 0 0] }
  | false, a => { cls := .type "list_iterator", data := .fields #[.ref a, .int 0 0] }
section
variable {X : Cx} {pins : List (Addr × Obj)} {σ : L2.St} {H : Hp} {s : Shared}
theorem Inv.sq (I : Inv X pins σ H s) : ∀ {t : Bool} {a : Addr} {xs : List V}, Sq X.K H t a xs → ∃ its : List Value, Vals xs its ∧ rawQ s.heap t a its.toArray ∧ xs.length ≤ sizeLine
  | true, a, xs, h => let ⟨its, r, p, z⟩ := I.tuple h; ⟨its, r, (show s.heap.IsTuple a its.toArray from p), z⟩
  | false, a, xs, h => let ⟨its, r, p, z⟩ := I.list h; ⟨its, r, p.isList, z⟩
theorem Inv.sq_inj (I : Inv X pins σ H s) : ∀ {t : Bool} {a : Addr} {xs ys : List V}, Sq X.K H t a xs → Sq X.K H t a ys → xs = ys
  | true, _, _, _, h, k => I.tuple_inj h k
  | false, _, _, _, h, k => I.list_inj h k
end
theorem rawQ.lt {h : Heap} : ∀ {t : Bool} {a : Addr} {its : Array Value}, rawQ h t a its → a < h.objs.size
  | true, _, _, x => let ⟨_, ho, _⟩ := x; Heap.lt_size ho
  | false, _, _, x => let ⟨_, ho, _⟩ := x; Heap.lt_size ho
theorem rawQ.at {h h' : Heap} : ∀ {t : Bool} {a : Addr} {its : Array Value}, rawQ h t a its → (∀ o, h.get? a = some o → h'.get? a = some o) → rawQ h' t a its
  | true, _, _, x, k => let ⟨o, ho, r⟩ := x; ⟨o, k o ho, r⟩
  | false, _, _, x, k => let ⟨o, ho, r⟩ := x; ⟨o, k o ho, r⟩
theorem itQ.obj {h : Heap} : ∀ {t : Bool} {it a : Addr} {i : Nat}, itQ h t it a i → ∃ o, h.get? it = some o ∧ ∀ v, o.data ≠ .cell v
  | true, _, _, _, x => let ⟨o, e, _, d⟩ := x; ⟨o, e, fun v z => by rw [d] at z; cases z⟩
  | false, _, _, _, x => let ⟨o, e, _, d⟩ := x; ⟨o, e, fun v z => by rw [d] at z; cases z⟩
theorem itQ.at {h h' : Heap} : ∀ {t : Bool} {it a : Addr} {i : Nat}, itQ h t it a i → (∀ o, h.get? it = some o → h'.get? it = some o) → itQ h' t it a i
  | true, _, _, _, x, k => let ⟨o, e, r⟩ := x; ⟨o, k o e, r⟩
  | false, _, _, _, x, k => let ⟨o, e, r⟩ := x; ⟨o, k o e, r⟩
theorem draws_sq {prog : Program} {w : World} {A : Around} (hh : A.handled = none) (it a : Addr) (hne : a ≠ it) (its : Array Value) : ∀ t : Bool,
    Draws prog w A it [it, a] its.size (fun i v => its[i]? = some v) (fun i h => itQ h t it a i ∧ rawQ h t a its)
  | true => Draws.tuple hh it a hne its
  | false => Draws.list hh it a hne its
theorem begins_sq (a : Addr) (its : Array Value) : ∀ t : Bool, Begins (.ref a) (objQ t a) fun h => rawQ h t a its
  | true => begins_tuple a its
  | false => begins_list a its
theorem itQ.new {h : Heap} {it a : Addr} : ∀ {t : Bool}, h.get? it = some (objQ t a) → itQ h t it a 0
  | true, e => ⟨_, e, rfl, rfl⟩
  | false, e => ⟨_, e, rfl, rfl⟩
theorem objQ_free (a : Addr) : ∀ t : Bool, (objQ t a).isFreed = false
  | true => rfl
  | false => rfl
/-! ### walking it -/
def ItS (K : PySem.W.Frag) : Bool → Addr → It
  | true, a => Itt K a
  | false, a => Itl K a
theorem JOk.sq {K : PySem.W.Frag} {O E : List Addr} {H1 : Hp} {ds : List D} {a : Addr} {xs : List V} (hr : Reps K H1 O xs ds) (hE : ∀ a ∈ E, a ∈ O) : ∀ {t : Bool}, (∀ H2, (∀ a o, H1 a = some o → a ∉ E → H2 a = some o) → Sq K H2 t a xs) → JOk K O E H1 (ItS K t a) ds
  | true, hS => JOk.tup hr hE hS
  | false, hS => JOk.list hr hE hS
section
variable {X : Cx} {tg : Expr}
theorem pi_sq {l : Expr} {tl : TE} (hl : PE X l tl) : PI X tg l fun σ H R => tl σ H fun x H1 => ∃ t a, x = .ref a ∧ (∃ xs, Sq X.K H1 t a xs) ∧ R (ItS X.K t a) H1 := by
  refine ⟨fun pins s σ H R I h => ?_⟩
  refine thn (hl.run pins s σ H _ I h) fun v s1 ⟨x, H1, I1, r1, t, a, ex, ⟨xs, hq⟩, q⟩ => ?_
  subst ex
  cases r1
  obtain ⟨its, rv, p, hz⟩ := Inv.sq I1 hq
  refine (begins_sq a its.toArray t).iter X.prog X.w X.A X.xe s1 _ p ?_
  have st0 : itQ (s1.heap.push (objQ t a)) t s1.heap.objs.size a 0 := itQ.new (Heap.get?_push_size _ (objQ_free a t))
  have I2 : Inv X pins σ H1 { s1 with heap := s1.heap.push (objQ t a) } := I1.kept (t' := s1.toks) fun b o z => Heap.get?_push_of_some _ z
  have fp : ∀ b ∈ [s1.heap.objs.size], FpOk X pins H1 b := fun b hb => by
    rw [List.mem_singleton.mp hb]
    exact I1.fpOk (Nat.le_refl _) (I1.hok.fresh (Nat.le_refl _))
  cases t with
  | true => exact ⟨_, [_], _, _, H1, rfl, I2, turn_tuple a _, st0, fp, q⟩
  | false => exact ⟨_, [_], _, _, H1, rfl, I2, turn_list a _, st0, fp, q⟩
end
/-- the items of a list or a tuple; of an own list only within a comprehension -/
def seqOf (q : Bool) : R → Rs (List D)
  | .fr (.list ds) => .ok ds
  | .fr (.tuple ds) => .ok ds
  | .ol ds => .ok ds
  | .bw (.list ds) => if q then .ok ds else .bad
  | .bt (.list ds) => if q && imms ds then .ok ds else .bad
  | .bt (.tuple ds) => if imms ds then .ok ds else .bad
  | _ => .bad
/-- what a value that can be walked stands for, at the walk's start and later on -/
theorem seq_at {K : PySem.W.Frag} {q : Bool} {G : Og} {H H1 : Hp} {σ : L2.St} {ρ : En} {r : R} {v : V} {ds : List D} (I : ER K G H σ ρ) (s : Same H H1) (rr : RR K G H H1 v r) (hf : seqOf q r = .ok ds) :
    ∃ t a xs, v = .ref a ∧ Sq K H1 t a xs ∧ xs.length ≤ sizeLine ∧ Reps K H1 G xs ds ∧ ∀ H2, (∀ a o, H1 a = some o → a ∉ mayE q G → H2 a = some o) → Sq K H2 t a xs := by
  have lst : Rep K H1 G v (.list ds) → ∃ t a xs, v = .ref a ∧ Sq K H1 t a xs ∧ xs.length ≤ sizeLine ∧ Reps K H1 G xs ds ∧ ∀ H2, (∀ a o, H1 a = some o → a ∉ mayE q G → H2 a = some o) → Sq K H2 t a xs := fun z => by
    cases z with
    | lst h1 h2 hz h3 => exact ⟨false, _, _, rfl, .inl h1, hz, h3, fun H2 k => .inl (Rd.keep h1 fun o e => k _ o e fun z => h2 (mayE_sub q _ z))⟩
    | lstK h1 h3 => exact ⟨false, _, _, rfl, .inr h1, h1.len, h3, fun H2 k => .inr h1⟩
  have tup : Rep K H1 G v (.tuple ds) → ∃ t a xs, v = .ref a ∧ Sq K H1 t a xs ∧ xs.length ≤ sizeLine ∧ Reps K H1 G xs ds ∧ ∀ H2, (∀ a o, H1 a = some o → a ∉ mayE q G → H2 a = some o) → Sq K H2 t a xs := fun z => by
    cases z with
    | tup h1 h2 hz h3 => exact ⟨true, _, _, rfl, .inl h1, hz, h3, fun H2 k => .inl (Rd.keep h1 fun o e => k _ o e fun z => h2 (mayE_sub q _ z))⟩
    | tupK h1 h3 => exact ⟨true, _, _, rfl, .inr h1, h1.len, h3, fun H2 k => .inr h1⟩
  unfold seqOf at hf
  split at hf
  · cases hf; exact lst rr
  · cases hf; exact tup rr
  · cases hf; exact lst (RR.rep I.tr rr rfl)
  · split at hf
    · rename_i hq
      cases hf
      subst hq
      cases (show Top K H1 G v (.list ds) from rr) with
      | rep z => exact lst z
      | lst e z r => exact ⟨false, _, _, rfl, .of e, z, r, fun H2 k => .of (k _ _ e fun z => nomatch z)⟩
    · cases hf
  · split at hf
    · rename_i hq
      cases hf
      rw [Bool.and_eq_true] at hq
      obtain ⟨hq, hi⟩ := hq
      subst hq
      cases (show Rep K H1 [] v (.list ds) from rr) with
      | lst h1 h2 hz h3 => exact ⟨false, _, _, rfl, .inl h1, hz, h3.imm (I.hg.same s).mu hi, fun H2 k => .inl (Rd.keep h1 fun o e => k _ o e fun z => nomatch z)⟩
      | lstK h1 h3 => exact ⟨false, _, _, rfl, .inr h1, h1.len, h3.imm (I.hg.same s).mu hi, fun H2 k => .inr h1⟩
    · cases hf
  · split at hf
    · rename_i hi
      cases hf
      exact tup (Rep.imm (I.hg.same s).mu rr (by unfold imm; exact hi))
    · cases hf
  · cases hf
section
variable {X : Cx} {q : Bool} {tg e : Expr} {f : FE} {pos p tpos : Pos}
theorem i_seq (h : EV X e f) : IV X q tg e (fIter f (seqOf q)) := by
  refine ⟨pi_imp (pi_sq h.run) fun σ H Q ⟨O, ρ, ds, I, hf, qq⟩ => ?_⟩
  obtain ⟨r, e1, hf⟩ := Rs.bind_eq hf
  refine ⟨O, ρ, r, I, e1, fun v H1 s rr => ?_⟩
  obtain ⟨t, a, xs, rfl, h1, hz, hr, hS⟩ := seq_at I s rr hf
  exact ⟨t, a, rfl, ⟨xs, h1⟩, qq _ H1 s (JOk.sq hr (mayE_sub q) hS) fun _ => by rw [← hr.length]; exact hz⟩
end
/-! ### enumerate -/
def IteQ (K : PySem.W.Frag) (t : Bool) (a : Addr) : It :=
  ⟨fun i H => ∃ (xs : List V) (x : V), Sq K H t a xs ∧ xs[i]? = some x,
    fun i H v H' => ∃ T x, v = .ref T ∧ H T = none ∧ H' = upd H T (.tup [.int (i : Nat), x]) ∧ ∀ xs, Sq K H t a xs → xs[i]? = some x,
    fun i H => ∃ xs : List V, Sq K H t a xs ∧ xs.length ≤ i⟩
theorem turn_enumQ {P : Program} {w : World} {K : PySem.W.Frag} {elts : List Expr} {kk : Nat} {tpos : Pos} (t : Bool) (a e it : Addr) (hai : a ≠ it) (hae : a ≠ e) (hne : e ≠ it) :
    Turn P w K (.Tuple elts kk tpos) (IteQ K t a) [e, it] e (fun i h => (∃ old, IsEnum h e it ((i : Nat) : Int) old) ∧ itQ h t it a i) where
  mem := by simp
  obj := fun i h st b hb => by
    obtain ⟨⟨old, he⟩, hi⟩ := st
    rcases (show b = e ∨ b = it by simpa using hb) with z | z
    · rw [z]; exact ⟨_, he, fun v q => nomatch q⟩
    · rw [z]; exact hi.obj
  keep := fun i h h' st k => let ⟨⟨old, he⟩, hi⟩ := st; ⟨⟨old, k e (by simp) _ he⟩, itQ.at hi fun o q => k it (by simp) o q⟩
  item := by
    intro X hP hw hK hc i pins s σ H E I hf st hg
    subst hP hw hK
    obtain ⟨⟨old, he⟩, hit⟩ := st
    obtain ⟨xs, x, hq, hx⟩ := hg
    obtain ⟨its, rv, p, hz⟩ := Inv.sq I hq
    obtain ⟨u, hu, ru⟩ := rv.get hx
    have hlt : i < its.toArray.size := by
      have := (List.getElem?_eq_some_iff.mp hu).1
      simpa using this
    have hel : e < s.heap.objs.size := Heap.lt_size he
    have hil : it < s.heap.objs.size := by obtain ⟨_, z, _⟩ := hit.obj; exact Heap.lt_size z
    refine wpAny_pyNext_enum_itemD (draws_sq (A := X.A.in1) (show X.A.in1.handled = none from I.ok.hd hc) it a hai its.toArray t) he ⟨hit, p⟩ hlt hne (by simp [hne, Ne.symm hae]) fun y h' tk hy ho st' hT hsz hk => ?_
    have ey : u = y := by
      have hy' : its.toArray[i]? = some y := hy
      have hu' : its.toArray[i]? = some u := by simpa using hu
      exact Option.some.inj (hu'.symm.trans hy')
    subst ey
    refine ⟨_, rfl, wpAny_letOwnedTupleGo_enum (s := { s with heap := h', toks := tk + 1 }) ho fun h'' he' sb => ?_⟩
    have hT2 := (sb.2 _ (Nat.ne_of_gt hel)).trans hT
    have new : ObjOk X.prog X.w (upd H s.heap.objs.size (.tup [.int (i : Nat), x])) h'' s.heap.objs.size (.tup [.int (i : Nat), x]) :=
      ⟨by show 2 ≤ sizeLine; decide, [.int i tk, u], .cons ⟨_, rfl⟩ (.cons ru .nil), ⟨_, hT2, rfl, _, rfl⟩⟩
    have I1 : Inv X pins σ (upd H s.heap.objs.size (.tup [.int (i : Nat), x])) { s with heap := h'', toks := tk + 1 } := by
      refine I.turnedNew (ch := [e, it]) (fun b ob hb z => ?_) hf (Nat.le_refl _) new
      have b1 : b ≠ e := fun y => hb (by simp [y])
      have b2 : b ≠ it := fun y => hb (by simp [y])
      exact (sb.2 b b1).trans (hk b ob b1 b2 z)
    refine ⟨.ref s.heap.objs.size, _, I1, rfl, ⟨_, x, rfl, I.hok.fresh (Nat.le_refl _), rfl, fun ys hy => by rw [Inv.sq_inj I hy hq]; exact hx⟩, ⟨⟨u, ?_⟩, itQ.at st'.1 fun o z => (sb.2 it (Ne.symm hne)).trans z⟩, fun b hb => ?_⟩
    · rw [show ((i + 1 : Nat) : Int) = (i : Int) + 1 by omega]
      exact he'
    · have hb' : b < s.heap.objs.size := by
        rcases (show b = e ∨ b = it by simpa using hb) with z | z
        · rw [z]; exact hel
        · rw [z]; exact hil
      rw [upd_ne (Nat.ne_of_lt hb')]
      exact (hf b hb).1
  done := by
    intro X hP hw hK hc i pins s σ H E I hf st hg
    subst hP hw hK
    obtain ⟨⟨old, he⟩, hit⟩ := st
    obtain ⟨xs, hq, hx⟩ := hg
    obtain ⟨its, rv, p, hz⟩ := Inv.sq I hq
    obtain ⟨f0, f1, f2, f3, f4, f5⟩ := hf it (by simp)
    have hl := rv.length
    have fin : ∀ h', Heap.ExtBut it s.heap h' → (none : Option Value) = none ∧ Inv X pins σ H { s with heap := h' } := fun h' eb => ⟨rfl, I.turned (t' := s.toks) (fun b o hb z => eb b o hb z) f0 f1 f3 f4 f5⟩
    have hi : its.toArray[i]? = none := by simp; omega
    cases t with
    | true =>
      have hT : s.TypeIs (.ref e) "enumerate" := ⟨_, he, rfl⟩
      unfold pyNext
      refine wpAny_bind (wpAny_attempt (wpAny_callSpecial?_slot (name := Str.ofString "__next__") hT F.slot_enumerate_next
        (wpAny_call_entry F.slot_enumerate_next hT F.entry_enumerate_next ?_ (F.args_enumerate_next_1 _))))
      show wpAny _ _ (field (.ref e) 2 >>= _) _ _ _
      refine wpAny_bind (wpAny_field he rfl (x := .ref it) rfl ?_)
      refine wpAny_bind (wpAny_nextOf_tuple_end (show X.A.in1.handled = none from I.ok.hd hc) hit p hi fun h' x eb ex => ?_)
      obtain ⟨o, ho, hcl⟩ := ex
      refine wpAny_bind (wpAny_isInstance (T := "StopIteration") (b := true) ⟨o, ho, hcl⟩ isSubtype_stop ?_)
      exact wpAny_pure (fin h' eb)
    | false => exact wpAny_pyNext_enum_end (I.ok.hd hc) he hit p hi fin
  self := fun A i s Q E st h => let ⟨⟨_, he⟩, _⟩ := st; wpAny_pyIter_enum he h
theorem meets_enumQ {v : Value} {o : Obj} {H : Heap → Prop} (B : Begins v o H) :
    Meets (Builtin.«enumerate.__new__» ⟨[.type "enumerate", v], []⟩) (fun _ R s => H s.heap ∧
      R (.ok (.ret (.ref (s.heap.push o).objs.size))) { s with heap := (s.heap.push o).push { cls := .type "enumerate", data := .fields #[.none, .bool false, .ref s.heap.objs.size, rawInt 0, .none, .none] } }) :=
  .of_wp fun prog w A R s h => by
    obtain ⟨hp, g, d, tk, os⟩ := s
    obtain ⟨h1, h⟩ := h
    have hsub := sub_enumerate
    have q1 : ∀ {A' : Around} {E : Value → Shared → Prop} {Q : Value → Shared → Prop}, Q (.ref hp.objs.size) ⟨hp.push o, g, d, tk, os⟩ → wpAny (model prog w) A' (pyIter v) Q E ⟨hp, g, d, tk, os⟩ := fun z => B.iter prog w _ _ ⟨hp, g, d, tk, os⟩ _ h1 z
    wp_walk using q1
    refine wpAny_stack_any fun st => wpAny_pure ?_
    split
    · rename_i c _ _ _ _ _
      cases (c == Value.type "enumerate")
      · wp_walk using q1
        exact ⟨_, rfl, h⟩
      · wp_walk using q1
        exact ⟨_, rfl, h⟩
    · wp_walk using q1
      exact ⟨_, rfl, h⟩
section
variable {prog : Program} {w : World} {A : Around} {E : Value → Shared → Prop} {s : Shared}
theorem call_enumQ {v : Value} {o : Obj} {H : Heap → Prop} {Q : Value → Shared → Prop} (B : Begins v o H) (h1 : H s.heap)
    (h : ∀ h', IsEnum h' (s.heap.objs.size + 1) s.heap.objs.size 0 .none → h'.get? s.heap.objs.size = some o → (∀ b o, s.heap.get? b = some o → h'.get? b = some o) → Q (.ref (s.heap.objs.size + 1)) { s with heap := h' }) :
    wpAny (model prog w) A (call (.type "enumerate") [v]) Q E s := by
  refine callType_new F.called_enumerate (by decide) (F.typeCall_enumerate_1 _) (F.newCall_enumerate_1 _) (fun obj => F.args_object_init_2 obj _) F.entry_enumerate_new (meets_enumQ B) ⟨h1, ?_⟩
  have hz : (s.heap.push o).objs.size = s.heap.objs.size + 1 := Heap.size_push ..
  show _ ∧ _
  rw [hz]
  have g0 := Heap.get?_push_size (s.heap.push o) (o := { cls := .type "enumerate", data := .fields #[.none, .bool false, .ref s.heap.objs.size, rawInt 0, .none, .none] }) rfl
  rw [hz] at g0
  exact ⟨⟨_, g0, rfl⟩, h _ g0 (Heap.get?_push_of_some _ (Heap.get?_push_size _ B.free)) fun b o x => Heap.get?_push_of_some _ (Heap.get?_push_of_some _ x)⟩
end
theorem JOk.enumQ {K : PySem.W.Frag} {O E : List Addr} {H1 : Hp} {ds : List D} {a : Addr} {xs : List V} {t : Bool} (hr : Reps K H1 O xs ds) (hE : ∀ a ∈ E, a ∈ O) (hS : ∀ H2, (∀ a o, H1 a = some o → a ∉ E → H2 a = some o) → Sq K H2 t a xs) : JOk K O E H1 (IteQ K t a) (enumD ds) := fun i H2 k => by
  have hq := hS H2 k
  refine ⟨fun d hd => ?_, fun hle => ⟨xs, hq, by unfold enumD at hle; rw [List.length_mapIdx] at hle; rw [hr.length]; exact hle⟩⟩
  obtain ⟨y, hy, rfl⟩ := enum_at hd
  obtain ⟨x, hx, hrep⟩ := hr.get' hy
  refine ⟨⟨xs, x, hq, hx⟩, fun v H3 ⟨T, x', ev, hT, eH, hu⟩ => ?_⟩
  subst ev eH
  have ex : x = x' := Option.some.inj (hx.symm.trans (hu xs hq))
  subst ex
  have s3 : Same H2 (upd H2 T (.tup [.int (i : Nat), x])) := same_upd hT
  refine ⟨s3, fun O2 h1 h2 => ?_⟩
  have r2 : Rep K H2 O2 x y := hrep.ev (fun a o e n => k a o e fun z => n (hE a z)) h1
  exact .tup (.inl upd_same) (fun z => h2 T z hT) (by rw [sizeLine_eq]; exact Nat.le_of_ble_eq_true rfl) (.cons (.int _) (.cons (r2.same s3) .nil))
def fEnumQ (f : FE) (q : Bool) : En → Rs (List D) := fun ρ => (fIter f (seqOf q) ρ).bind fun ds => .ok (enumD ds)
section
variable {X : Cx} {q : Bool} {tg e : Expr} {f : FE} {pos p tpos : Pos}
theorem i_enumQ {elts : List Expr} {kk : Nat} (hm : X.mg "enumerate" = none) (h : EV X e f) (hg : Gl X "enumerate" := by rfl) (hs : starEach [e] X.env = [(false, eval e X.env)] := by rfl) : IV X q (.Tuple elts kk tpos) (.Call (.Name "enumerate" p) [e] [] pos) (fEnumQ f q) := by
  refine ⟨⟨fun pins s σ H Q J hq => ?_⟩⟩
  obtain ⟨O, ρ, ds', I, hf0, qq⟩ := hq
  obtain ⟨ds, hf1, h2⟩ := Rs.bind_eq hf0
  clear hf0
  cases h2
  obtain ⟨r, e1, hf⟩ := Rs.bind_eq hf1
  refine Call_ (ld_blt J hg hm boot_enumerate (PyProof.Rows.callWith_type1 (thn ((pa_cons h.run pa_nil hs).run pos pins s σ H (fun vs H1 => ∃ v, vs = [v] ∧ Same H H1 ∧ RR X.K O H H1 v r) J ⟨O, ρ, r, I, e1, fun v H1 s1 rr => ⟨v, rfl, s1, rr⟩⟩) fun us s1 ⟨vs, H1, J1, r1, q1⟩ => ?_) hs rfl))
  obtain ⟨v, rfl, s1', rr⟩ := q1
  obtain ⟨t, a, xs, rfl, h1, hz, hr, hS⟩ := seq_at I s1' rr hf
  cases r1 with
  | cons r1 r2 =>
    cases r2
    cases r1
    obtain ⟨its, rv, p', _⟩ := Inv.sq J1 h1
    have la := p'.lt
    refine call_enumQ (begins_sq a its.toArray t) p' fun h' he hit hk => wpAny_pyIter_enum he ?_
    have J2 : Inv X pins σ H1 { s1 with heap := h' } := J1.kept (t' := s1.toks) hk
    refine ⟨s1.heap.objs.size + 1, [s1.heap.objs.size + 1, s1.heap.objs.size], _, _, H1, rfl, J2, turn_enumQ t a (s1.heap.objs.size + 1) s1.heap.objs.size (Nat.ne_of_lt la) (Nat.ne_of_lt (Nat.lt_succ_of_lt la)) (Nat.succ_ne_self _), ⟨⟨.none, he⟩, itQ.new hit⟩, fun b hb => ?_,
      qq _ H1 s1' (JOk.enumQ hr (mayE_sub q) hS) fun _ => by unfold enumD; rw [List.length_mapIdx, ← hr.length]; exact hz⟩
    have hle : s1.heap.objs.size ≤ b := by
      rcases (show b = s1.heap.objs.size + 1 ∨ b = s1.heap.objs.size by simpa using hb) with z | z
      · rw [z]; exact Nat.le_add_right _ _
      · rw [z]; exact Nat.le_refl _
    exact J1.fpOk hle (J1.hok.fresh hle)
end
end VL
namespace VL
open PySem PySem.Spec
open PyProof.Rows L2
variable [Vx]
/-! ### all(.. for .. in ..) -/
section
variable {X : Cx} {pins : List (Addr × Obj)} {σ : L2.St} {H : Hp} {s : Shared}
/-- a table of code objects has grown -/
theorem inv_tabE {P : Addr} {ps : Array Value} {h' : Heap} {g' : Array GenState} {d' : Drawn} {t' : Nat} (I : Inv X pins σ H s) (hP : H P = some (tabO P))
    (k : ∀ b o, b ≠ P → s.heap.get? b = some o → h'.get? b = some o) (hm : h'.get? P = some { cls := .none, data := .fields ps }) (ht : TriplesOk ps.toList) (hg : AllBare g') :
    Inv X pins σ H { s with heap := h', gens := g', drawn := d', toks := t' } := by
  have nN : ∀ b, H b = none → b ≠ P := fun b e z => by
    rw [z, hP] at e
    cases e
  refine I.step (g' := g') (d' := d') (ch := []) (fun b hb => absurd hb List.not_mem_nil) (fun b o _ _ _ e n => k b o (nN b n) e) (fun b o _ _ _ e n => ⟨o.slots, k b o (nN b n) e⟩)
    (fun b o _ e n => n) (fun b o _ e => ?_) (fun b xs e => e) (fun b o u e => e) (fun b qs e => ⟨#[], by rw [e]; simp⟩) (fun m hn => ?_) (fun b u e => ?_) hg
  · by_cases hb : b = P
    · rw [hb]; exact ⟨_, hm⟩
    · exact ⟨o, k b o hb e⟩
  · obtain ⟨ob, es, ep, ho, r⟩ := hn
    exact ⟨ob, es, ep, k _ ob (nN _ I.free) ho, r⟩
  · by_cases hb : b = P
    · rw [hb, hP] at e
      cases e
      rw [hb]
      obtain ⟨_, _, st⟩ := I.hok P _ hP
      exact ⟨⟨ps, hm, ht⟩, ⟨_, hm⟩, st⟩
    · refine (I.hok b u e).stay (fun d v hd q => k d v ?_ q) (fun d q => q) fun d xs q => q
      rcases hd with z | z
      · rw [z]; exact hb
      · intro y
        rw [y, hP] at z
        cases z
end
/-- the context of a generator expression's frame -/
abbrev gxEnv (X : Cx) (scope : Scope) (C : Addr) (code : Value) : Env := genEnv scope (cloFrom X.env.cells scope.names []) C code builtinsNs X.env
abbrev Cxg (X : Cx) (s : Shared) (H : Hp) (scope : Scope) (C : Addr) (code : Value) (a : Addr) (go : Obj) (fp : List Addr) (A : Around) : Cx :=
  { X with A := A, s_0 := s, H_0 := H, env := gxEnv X scope C code, outer := X.stack, stack := gxEnv X scope C code :: X.stack, ex := fp, fn := fun _ => false, pn := [(a, go)], xe := fun _ _ => False }
section
variable {X : Cx} {pins : List (Addr × Obj)} {σ : L2.St} {H : Hp} {s : Shared}
theorem gx_start {scope : Scope} {own : List (Str × Nat)} {fp : List Addr} {code : Value} {A : Around} {go : Obj} {h' : Heap} {g' : Array GenState} {t' : Nat} {m : Str → Option Value} (I : Inv X pins σ H s) (ok : BlkOk X.N X.env.scope scope own) (nc : ∀ y ∈ scope.names, y.2 ≠ .cell) (hN : X.N.Nodup)
    (hfp : ∀ b ∈ fp, FpOk X pins H b ∧ b < s.heap.objs.size) (hA : A.frames = some (gxEnv X scope s.heap.objs.size code :: X.stack)) (hh : A.handled = none) (hgo : ∀ v, go.data ≠ .cell v)
    (k : ∀ b o, s.heap.get? b = some o → h'.get? b = some o) (hns : h'.Ns s.heap.objs.size m) (ha : h'.get? (s.heap.objs.size + 1) = some go) (hg : AllBare g') :
    Inv (Cxg X s H scope s.heap.objs.size code (s.heap.objs.size + 1) go fp A) [] (wipe σ (own.map (·.2))) H { s with heap := h', gens := g', toks := t' } := by
  have hfree : ∀ y ∈ scope.names, y.2 = .free → ∃ c, X.env.cells.lookup y.1 = some c := fun y hy e => by
    rcases ok.free y hy e with k | k
    · exact I.ok.has _ (.inl k)
    · exact I.ok.has _ (.inr k)
  generalize hY : Cxg X s H scope s.heap.objs.size code (s.heap.objs.size + 1) go fp A = Y
  generalize hcl : cloFrom X.env.cells scope.names [] = cl at hY
  have cm : ∀ {y c}, (y, c) ∈ cl → X.env.cells.lookup y = some c ∧ c < s.heap.objs.size := fun {y c} hm => by
    rw [← hcl] at hm
    rcases cloFrom_mem hm with hm | ⟨h1, rfl⟩
    · cases hm
    · obtain ⟨c, hc⟩ := hfree _ h1 rfl
      rw [hc]
      obtain ⟨w, z⟩ := I.cell _ _ hc
      exact ⟨rfl, z.lt⟩
  have mem : ∀ {y c}, cl.lookup y = some c → X.env.cells.lookup y = some c ∧ c < s.heap.objs.size := fun {y c} e => cm (PySem.mem_of_lookup e)
  have look : ∀ {y}, scope.names.lookup y = some .free → ∃ c, cl.lookup y = some c ∧ X.env.cells.lookup y = some c := fun {y} hl => by
    have hy : (y, NameKind.free) ∈ scope.names := PySem.mem_of_lookup hl
    obtain ⟨c', e'⟩ := mem_lookup (cloFrom_has (cells := X.env.cells) (acc := []) hy)
    rw [hcl] at e'
    exact ⟨c', e', (mem e').1⟩
  have ecl : Y.env.cells = cl := by rw [← hY, ← hcl]; rfl
  have eL : Y.env.locals = s.heap.objs.size := by rw [← hY]; rfl
  have esc : Y.env.scope = scope := by rw [← hY]; rfl
  have okY : Y.Ok := by
    refine ⟨by rw [← hY]; exact I.ok.mod, by rw [esc]; exact ok.kind, by rw [← hY]; exact I.ok.glob, by rw [← hY]; rfl, by rw [eL, ← hY]; exact Nat.le_refl _, fun y z c e1 e2 => ?_, fun y hy => ?_, fun y c z e => ?_, fun _ => by rw [← hY]; exact hh, ?_, ?_, fun b hb => ⟨?_, fun y c e z => ?_⟩, by rw [← hY]; exact I.bs, by rw [← hY]; exact Nat.le_trans I.ok.bsz I.sz,
      fun b o e hb => ?_, fun b hb z => ?_, by rw [← hY]; exact I.stack, by rw [← hY]; exact I.stkFree⟩
    · rw [ecl] at e1 e2
      exact I.ok.inj y z c (mem e1).1 (mem e2).1
    · rw [ecl]
      have key : scope.names.lookup y = some .free → ∃ c, cl.lookup y = some c := fun z => let ⟨c, h1, _⟩ := look z; ⟨c, h1⟩
      unfold Env.kindOf at hy
      rw [esc] at hy
      rcases hy with hy | hy
      · exact absurd rfl (nc _ (PySem.mem_of_lookup hy))
      · exact key hy
    · rw [← hY] at z; cases z
    · rw [← hY]; exact hA
    · refine .inr ?_
      rw [← hY]
      exact ⟨rfl, rfl⟩
    · rw [eL]
      have hb' : b ∈ fp := by rw [← hY] at hb; exact hb
      exact Nat.ne_of_lt (hfp b hb').2
    · have hb' : b ∈ fp := by rw [← hY] at hb; exact hb
      rw [ecl] at e
      exact (hfp b hb').1.2.2.2.2.1 y c (mem e).1 z
    · have hb' : b ∈ fp := by rw [← hY] at hb; exact hb
      have e' : X.base.get? b = some o := by rw [← hY] at e; exact e
      rcases (hfp b hb').1.2.2.2.1 with z | z
      · exact I.ok.noex b o e' z
      · exact absurd (Nat.lt_of_lt_of_le (Heap.lt_size e') (Nat.le_trans I.ok.bsz z)) (Nat.lt_irrefl _)
    · have hb' : b ∈ fp := by rw [← hY] at hb; exact hb
      have z' : b ∈ frs X.stack := by rw [← hY] at z; exact z
      rcases List.mem_cons.mp (I.stkSub b z') with z | z
      · exact (hfp b hb').1.2.1 z
      · exact (hfp b hb').1.2.2.1 z
  refine ⟨okY, by rw [← hY], hg, ?_, ⟨m, by rw [eL]; exact hns, fun i y av e1 e2 e3 => ?_⟩, fun y c e => ?_, by rw [eL]; exact I.hok.fresh (Nat.le_refl _), fun y c e => ?_, fun p hp => ?_, ?_, ?_⟩
  · rw [← hY]; exact Un.kept k
  · have e1 : X.N[i]? = some y := by rw [← hY] at e1; exact e1
    obtain ⟨e2, hne⟩ := wipe_some e2
    have e3 : Vis scope y := by rw [esc] at e3; exact e3
    have hfr : scope.names.lookup y = some .free := by
      have no : ∀ k', scope.names.lookup y = some k' → ¬ (k' = .local ∨ k' = .cell) := fun k' e hh => by
        rcases ok.own _ (PySem.mem_of_lookup e) hh with e' | e'
        · obtain ⟨p, hp, hpy⟩ := List.mem_map.mp e'
          have e3 := ok.ix p hp
          have : p.1 = y := hpy
          rw [this] at e3
          exact hne (List.mem_map.mpr ⟨p, hp, nodup_ix hN e3 e1⟩)
        · exact e' (List.mem_of_getElem? e1)
      rcases e3 with e3 | e3 | e3
      · exact absurd (.inl rfl) (no _ e3)
      · exact absurd (.inr rfl) (no _ e3)
      · exact e3
    obtain ⟨m0, hn, hl⟩ := I.loc
    have hvis : Vis X.env.scope y := (ok.free _ (PySem.mem_of_lookup hfr) rfl).elim (fun k => .inr (.inl k)) (fun k => .inr (.inr k))
    obtain ⟨w, r, q⟩ := hl i y av e1 e2 hvis
    refine ⟨w, r, .inr ⟨.inr ?_, ?_⟩⟩
    · unfold Env.kindOf
      rw [esc]; exact hfr
    · obtain ⟨c, h1, h2⟩ := look hfr
      rcases q with ⟨k0, _⟩ | ⟨_, c', e', z⟩
      · have k0 : X.env.scope.names.lookup y = some .local := k0
        rcases ok.free _ (PySem.mem_of_lookup hfr) rfl with k' | k' <;> rw [show X.env.scope.names.lookup y = _ from k'] at k0 <;> cases k0
      · rw [h2] at e'; cases e'
        exact ⟨c, by rw [ecl]; exact h1, z.keeps k⟩
  · rw [ecl] at e
    obtain ⟨w, z⟩ := I.cell y c (mem e).1
    exact ⟨w, z.keeps k⟩
  · rw [ecl] at e
    exact I.freeC y c (mem e).1
  · have hp' : p ∈ [(s.heap.objs.size + 1, go)] := by
      rw [← hY] at hp
      rw [List.append_nil] at hp
      exact hp
    rw [List.mem_singleton.mp hp']
    refine ⟨ha, I.hok.fresh (Nat.le_succ _), by rw [eL]; exact Nat.succ_ne_self _, ?_, hgo⟩
    rw [← hY]
    intro z
    rcases List.mem_cons.mp (I.stkSub _ z) with z | z
    · have hlt : X.env.locals < s.heap.objs.size := I.lt
      rw [← z] at hlt
      exact absurd (Nat.lt_of_succ_lt hlt) (Nat.lt_irrefl _)
    · exact I.nofs (Nat.le_succ _) z
  · rw [← hY]; exact I.hok.kept k
  · rw [← hY, wipe_length]; exact I.len
end
/-! the frame's code -/
/-- what follows, by turns left -/
def GxW (Y : Cx) (fp : List Addr) (tn : Nat → Heap → Prop) (σ : L2.St) (W : Nat → Nat → Hp → Prop) (m i : Nat) (H : Hp) (s : Shared) : Prop :=
  Inv Y [] σ H s ∧ tn i s.heap ∧ (∀ b ∈ fp, H b = none) ∧ W i m H
def gxY (Y : Cx) (fp : List Addr) (tn : Nat → Heap → Prop) (σ : L2.St) (W : Nat → Nat → Hp → Prop) (al : Bool) (Q : VK) : Protocol := fun n s₀ v s kap =>
  ∃ k : Bool, v = .bool k ∧ ((k = al ∧ (∃ σ' H, Inv Y [] σ' H s) ∧ ∀ G : Array GenState, AllBare G → kap (.send .none) { s with gens := G }) ∨ (k ≠ al ∧ ∃ σ' H, Inv Y [] σ' H s ∧ Q (.bl k) H))
def gxR (Y : Cx) (al : Bool) (Q : VK) : Shared → Prop := fun s => ∃ σ' H, Inv Y [] σ' H s ∧ Q (.bl al) H
def tGx (al : Bool) (wi : TI) (g : TG) (tt : TT) (te : TE) (vs : List Nat) : TE := fun σ H Q => wi σ H fun J H1 => ∃ W : Nat → Nat → Hp → Prop, (∃ m, W 0 m H1) ∧ ∀ i m H, W i m H →
  (J.stop i H ∧ Q (.bl al) H) ∨ (J.go i H ∧ ∃ Nx : Hp → Prop, (∀ H', Nx H' → ∃ m', m' < m ∧ W (i + 1) m' H') ∧ ∀ x H', J.yld i H x H' → g x (wipe σ vs) H' fun σ2 H2 => wipe σ2 vs = wipe σ vs ∧ tt σ2 H2 fun b H3 =>
    if b = true then te σ2 H3 fun y H4 => ∃ k : Bool, y = .bl k ∧ ((k = al ∧ Nx H4) ∨ (k ≠ al ∧ Q (.bl k) H4)) else Nx H3)
section
variable {Y : Cx} {pins : List (Addr × Obj)} {H : Hp} {s : Shared}
/-- other generators' states -/
theorem inv_gens {σ : L2.St} (I : Inv Y pins σ H s) {G : Array GenState} (hg : AllBare G) : Inv Y pins σ H { s with gens := G } :=
  ⟨I.ok, I.os, hg, I.base, I.loc, I.cell, I.free, I.freeC, I.pin, I.hok, I.len⟩
theorem seg_gx {A : Around} {elt tg iter : Expr} {ifs : List Expr} {scope : Scope} {pos : Pos} {it : Addr} {fp : List Addr} {tn : Nat → Heap → Prop} {J : It} {σ : L2.St} {vs : List Nat} {W : Nat → Nat → Hp → Prop} {al : Bool} {Q : VK} {g : TG} {tt : TT} {te : TE}
    (hYA : Y.A = A.deeper Y.env) (hc : Y.calm = true) (hco : Y.env.scope.isCoroutine = false) (T : Turn Y.prog Y.w Y.K tg J fp it tn) (pg : PG Y tg g) (pt : PTs Y ifs tt) (pe : PE Y elt te) (hxe : Y.xe = fun _ _ => False) (hex : fp = Y.ex)
    (hpn : ∀ p ∈ Y.pn, p.1 ∉ fp)
    (turn : ∀ i m H, W i m H → (J.stop i H ∧ Q (.bl al) H) ∨ (J.go i H ∧ ∃ Nx : Hp → Prop, (∀ H', Nx H' → ∃ m', m' < m ∧ W (i + 1) m' H') ∧ ∀ x H', J.yld i H x H' → g x (wipe σ vs) H' fun σ2 H2 => wipe σ2 vs = wipe σ vs ∧ tt σ2 H2 fun b H3 =>
      if b = true then te σ2 H3 fun y H4 => ∃ k : Bool, y = .bl k ∧ ((k = al ∧ Nx H4) ∨ (k ≠ al ∧ Q (.bl k) H4)) else Nx H3)) :
    ∀ (m n i : Nat) (H : Hp) (s₀ s : Shared), m < n → GxW Y fp tn (wipe σ vs) W m i H s →
      Seg (model Y.prog Y.w) A (fun n s₀ r s₁ => r = .ok .next ∧ gxR Y al Q s₁) (gxY Y fp tn (wipe σ vs) W al Q) n s₀ (.compLoop (.GeneratorExp elt [⟨tg, iter, ifs, 0⟩] scope pos) 0 (.ref it) .none Y.env)
        ((model Y.prog Y.w).den (.compLoop (.GeneratorExp elt [⟨tg, iter, ifs, 0⟩] scope pos) 0 (.ref it) .none Y.env)) [] s := by
  have hov : A.over (.compLoop (.GeneratorExp elt [⟨tg, iter, ifs, 0⟩] scope pos) 0 (.ref it) .none Y.env) [] = Y.A := hYA.symm
  intro m
  induction m using Nat.strongRecOn with
  | ind m ih =>
    intro n i H s₀ s hmn ⟨I, st, nf, w0⟩
    have stat : ∀ {σ' : L2.St} {H' : Hp} {s' : Shared}, Inv Y [] σ' H' s' → (∀ b ∈ fp, H' b = none) → ∀ b ∈ fp, FpOk Y [] H' b := fun {σ' H' s'} I' hn b hb =>
      ⟨hn b hb, (I'.ok.exf b (hex ▸ hb)).1, I'.ok.exfs b (hex ▸ hb), .inl (hex ▸ hb), fun x c e => (I'.ok.exf b (hex ▸ hb)).2 x c e, fun p hp z => by
        rw [List.append_nil] at hp
        exact hpn p hp (z ▸ hb)⟩
    show Seg _ A _ _ _ s₀ _ ((compTurn (.GeneratorExp elt [⟨tg, iter, ifs, 0⟩] scope pos) 0 (.ref it) .none Y.env).onRaise (leaving Y.env)) [] s
    rw [compTurn_gen, Sem.onRaise_eq_wrap]
    refine seg_bind_wrap (wpAny_standAt ?_)
    refine seg_bind_wrap ?_
    rw [hov]
    rcases turn i m H w0 with ⟨stop, qq⟩ | ⟨go, Nx, hNx, step⟩
    · refine wpAny_mono (T.done Y rfl rfl rfl hc i [] s _ H (fun _ _ => False) I (stat I nf) st stop) (fun r s6 ⟨hr, I6⟩ => ?_) fun _ _ z => z.elim
      subst hr
      exact seg_end (.ok .next) ⟨rfl, _, H, I6, qq⟩
    · refine wpAny_mono (T.item Y rfl rfl rfl hc i [] s _ H (fun _ _ => False) I (stat I nf) st go) (fun r s6 ⟨u, hr, h6⟩ => ?_) fun _ _ z => z.elim
      subst hr
      refine seg_bind_wrap ?_
      rw [hov]
      refine wpAny_mono h6 (fun _ s7 ⟨x, H7, I7, r7, y7, st7, n7⟩ => ?_) fun _ _ z => z.elim
      have I7' := I7.pinned (stat I7 n7) (T.obj _ _ st7)
      have noX : ∀ {e : Value} {s' : Shared}, Y.xe e s' → False := fun {e s'} z => by rw [hxe] at z; exact z
      refine seg_bind_wrap ?_
      rw [hov]
      refine wpAny_mono (pg.run _ s7 _ H7 x u _ I7' r7 (step x H7 y7)) (fun _ s8 ⟨σ8, H8, I8, hw8, q8⟩ => ?_) fun _ _ z => (noX z).elim
      refine seg_bind_wrap ?_
      rw [hov]
      refine wpAny_mono (pt.run _ s8 σ8 H8 _ I8 q8) (fun b s9 ⟨H9, I9, q9⟩ => ?_) fun _ _ z => (noX z).elim
      -- the turn's end
      have fin : ∀ {s' : Shared} {H' : Hp}, Inv Y ([] ++ pinsAt fp s7.heap) σ8 H' s' → Nx H' → ∃ m', m' < m ∧ GxW Y fp tn (wipe σ vs) W m' (i + 1) H' s' := fun {s' H'} I' nx => by
        obtain ⟨m', hm, w'⟩ := hNx H' nx
        have pin' : ∀ b ∈ fp, ∀ o, s7.heap.get? b = some o → s'.heap.get? b = some o ∧ H' b = none := fun b hb o e =>
          let z := I'.pin (b, o) (List.mem_append_right _ (List.mem_append_right _ (mem_pinsAt hb e)))
          ⟨z.1, z.2.1⟩
        have hl : (wipe σ vs).length = σ8.length := by rw [← hw8, wipe_length]
        refine ⟨m', hm, (I'.unpinned (pins := [])).weak hl (fun j v e => ?_), T.keep _ _ _ st7 fun b hb o e => (pin' b hb o e).1, fun b hb => ?_, w'⟩
        · rw [← hw8] at e
          exact (wipe_some e).1
        · obtain ⟨o, e, _⟩ := T.obj _ _ st7 b hb
          exact (pin' b hb o e).2
      cases b with
      | false =>
        simp only [Bool.false_eq_true, if_false] at q9 ⊢
        obtain ⟨m', hm, G⟩ := fin I9 q9
        exact seg_again rfl (ih m' hm n (i + 1) H9 s₀ s9 (Nat.lt_trans hm hmn) G)
      | true =>
        simp only [if_true] at q9 ⊢
        have hy : ∀ v, yieldOut Y.env v = yieldValue v := fun v => by simp only [yieldOut, hco, Bool.false_eq_true, if_false]
        simp only [hy]
        rw [Sem.bind_eq_wrap', Sem.bind_eq_wrap', Sem.wrap_wrap, Sem.wrap_wrap]
        refine seg_wrap ?_
        rw [hov]
        refine wpAny_mono (pe.run _ s9 σ8 H9 _ I9 q9) (fun z s10 ⟨yv, H10, I10, r10, k, ek, hk⟩ => ?_) fun _ _ z => (noX z).elim
        subst ek
        obtain rfl : z = Value.bool k := r10
        obtain ⟨n, rfl⟩ : ∃ n', n = n' + 1 := ⟨n - 1, by omega⟩
        refine seg_at (seg_yield rfl rfl rfl ?_)
        refine ⟨k, rfl, ?_⟩
        rcases hk with ⟨e1, nx⟩ | ⟨e1, qq⟩
        · obtain ⟨m', hm, G⟩ := fin I10 nx
          refine .inl ⟨e1, ⟨_, H10, G.1⟩, fun G' hG' => ?_⟩
          exact seg_again rfl (ih m' hm n (i + 1) H10 _ _ (by omega) ⟨inv_gens G.1 hG', G.2⟩)
        · exact .inr ⟨e1, σ8, H10, I10.unpinned (pins := []), qq⟩
end
/-! all's loop -/
section
variable {Y : Cx}
/-- the generator at a, number g, waits; as many as n items may come -/
structure GxReady (Y : Cx) (A : Around) (a : Addr) (g : Nat) (R : Shared → Prop) (P : Protocol) (n : Nat) (s : Shared) : Prop where
  gen : s.heap.IsGen a g
  lim : s.heap.NoLimit
  go : ∃ gs, s.gens[g]? = some gs ∧ gs.Goes (model Y.prog Y.w) A.in1 (fun n s₀ r s₁ => r = .ok .next ∧ R s₁) P n (.send .none) (s.setGen g .running)
theorem setGen_bare {s : Shared} {g : Nat} {x : GenState} (h : AllBare s.gens) (hx : x.bare = true) : AllBare (s.setGen g x).gens := by
  intro y hy
  obtain ⟨i, hi, rfl⟩ := Array.mem_iff_getElem.mp hy
  by_cases e : i = g
  · subst e
    have : (s.setGen i x).gens[i]? = some x := by
      have hlt : i < s.gens.size := by simpa [Shared.setGen] using hi
      simp [Shared.setGen, hlt]
    rw [Array.getElem?_eq_getElem hi] at this
    rw [Option.some.inj this]
    exact hx
  · have h1 : (s.setGen g x).gens[i]? = s.gens[i]? := by simp [Shared.setGen, Ne.symm e]
    rw [Array.getElem?_eq_getElem hi] at h1
    obtain ⟨hi', e'⟩ := Array.getElem?_eq_some_iff.mp h1.symm
    rw [← e']
    exact h _ (Array.getElem_mem hi')
theorem all_loop {A : Around} {a : Addr} {g : Nat} {fp : List Addr} {tn : Nat → Heap → Prop} {σ : L2.St} {W : Nat → Nat → Hp → Prop} {Q : VK} {R : Result → Shared → Prop} (hh : A.handled = none) (hroom : A.depth < recursionLimit) (hgp : ∀ {σ' : L2.St} {H : Hp} {s : Shared}, Inv Y [] σ' H s → s.heap.IsGen a g)
    (hR : ∀ (b : Bool) (σ' : L2.St) (H : Hp) (s : Shared), Inv Y [] σ' H s → Q (.bl b) H → R (.ok (.ret (.bool b))) s) :
    ∀ (n : Nat) (s : Shared), AllBare s.gens → GxReady Y A.in1 a g (gxR Y true Q) (gxY Y fp tn σ W true Q) n s → codeAny (model Y.prog Y.w) A (.builtin "all.loop" ⟨[.ref a], []⟩) R s := by
  intro n
  induction n with
  | zero =>
    intro s hb ⟨hg, hl, gs, hgs, hgo⟩
    refine codeAny_builtin F.entry_all_loop ?_
    rw [Around.under_plainId F.plain_all_loop _]
    show wpAny _ A.in1 (pyNext (.ref a) >>= _) _ _ s
    refine wpAny_bind ?_
    refine wpAny_pyNext_genexpQ (P := fun _ _ s₁ => gxR Y true Q s₁) (show A.in1.handled = none from hh) hl hroom hg hgs hgo (fun v s₁ gs' hbr hv => ?_) (fun s₁ hp h' hk => ?_)
    · obtain ⟨k, rfl, hk⟩ := hv
      rcases hk with ⟨_, ⟨_, _, I1⟩, hk⟩ | ⟨e1, σ', H, I, q⟩
      · exact (hk s₁.gens I1.bare).elim
      · have e2 : k = false := by cases k <;> simp_all
        subst e2
        refine wpAny_bind (wpAny_holding (wpAny_truthy_bool ?_))
        refine wpAny_bind (wpAny_letGo ?_)
        simp only [Bool.false_eq_true, if_false]
        refine wpAny_bind (wpAny_rule (wpAny_pure ?_))
        exact hR false σ' H _ (inv_gens I (setGen_bare I.bare hbr)) q
    · obtain ⟨σ', H, I, q⟩ := hp
      refine wpAny_bind (wpAny_rule (wpAny_pure ?_))
      have I2 := inv_gens I (setGen_bare (g := g) (x := .finished) I.bare rfl)
      exact hR true σ' H _ (I2.kept (t' := s₁.toks) hk) q
  | succ n ih =>
    intro s hb ⟨hg, hl, gs, hgs, hgo⟩
    have hlt : g < s.gens.size := by
      rcases Nat.lt_or_ge g s.gens.size with h | h
      · exact h
      · rw [Array.getElem?_eq_none h] at hgs; cases hgs
    refine codeAny_builtin F.entry_all_loop ?_
    rw [Around.under_plainId F.plain_all_loop _]
    show wpAny _ A.in1 (pyNext (.ref a) >>= _) _ _ s
    refine wpAny_bind (GenW.wpAny_gsz (Nat.le_refl _) ?_)
    refine wpAny_pyNext_genexpQ (P := fun _ _ s₁ => gxR Y true Q s₁) (show A.in1.handled = none from hh) hl hroom hg hgs hgo (fun v s₁ gs' hbr hv hsz => ?_) (fun s₁ hp h' hk _ => ?_)
    · obtain ⟨k, rfl, hk⟩ := hv
      rw [GenW.setGen_size] at hsz
      rcases hk with ⟨rfl, ⟨σ', H, I1⟩, hk⟩ | ⟨e1, σ', H, I, q⟩
      · refine wpAny_bind (wpAny_holding (wpAny_truthy_bool ?_))
        refine wpAny_bind (wpAny_letGo ?_)
        simp only [if_true]
        have b1 := setGen_bare (g := g) I1.bare hbr
        refine wpAny_pure ⟨plainId_quiet F.plain_all_loop _, ih _ b1 ⟨(show s₁.heap.IsGen a g from hgp I1), (show s₁.heap.NoLimit from I1.nolimit), gs', ?_, ?_⟩⟩
        · have hg1 : g < s₁.gens.size := Nat.lt_of_lt_of_le hlt hsz
          simp [Shared.setGen, hg1]
        · exact hk _ (setGen_bare (g := g) (x := .running) b1 rfl)
      · have e2 : k = false := by cases k <;> simp_all
        subst e2
        refine wpAny_bind (wpAny_holding (wpAny_truthy_bool ?_))
        refine wpAny_bind (wpAny_letGo ?_)
        simp only [Bool.false_eq_true, if_false]
        refine wpAny_bind (wpAny_rule (wpAny_pure ?_))
        exact hR false σ' H _ (inv_gens I (setGen_bare I.bare hbr)) q
    · obtain ⟨σ', H, I, q⟩ := hp
      refine wpAny_bind (wpAny_rule (wpAny_pure ?_))
      have I2 := inv_gens I (setGen_bare (g := g) (x := .finished) I.bare rfl)
      exact hR true σ' H _ (I2.kept (t' := s₁.toks) hk) q
end
/-! ### the rule -/
section
variable {X : Cx}
theorem pe_all {k : Nat} {c P : Addr} {elt tg iter : Expr} {ifs : List Expr} {scope : Scope} {own : List (Str × Nat)} {p pos gpos : Pos} {wi : TI} {g : TG} {tt : TT} {te : TE} (hr : Room (k + 1) X.A) (hc : X.calm = true) (hN : X.N.Nodup) (hm : X.mg "all" = none)
    (TB : GxR.TabB X.base X.mg c P) (hcode : X.env.code = .ref c) (hi : PI X tg iter wi) (ok : BlkOk X.N X.env.scope scope own) (nc : ∀ y ∈ scope.names, y.2 ≠ .cell) (h0 : scope.names.lookup (".0" : Str) = some NameKind.local) (hco : scope.isCoroutine = false)
    (hg : ∀ (s : Shared) (H : Hp) (C : Addr) (code : Value) (a : Addr) (go : Obj) (fp : List Addr) (A : Around), Room k A → PG (Cxg X s H scope C code a go fp A) tg g)
    (ht : ∀ (s : Shared) (H : Hp) (C : Addr) (code : Value) (a : Addr) (go : Obj) (fp : List Addr) (A : Around), Room k A → PTs (Cxg X s H scope C code a go fp A) ifs tt)
    (he : ∀ (s : Shared) (H : Hp) (C : Addr) (code : Value) (a : Addr) (go : Obj) (fp : List Addr) (A : Around), Room k A → PE (Cxg X s H scope C code a go fp A) elt te)
    (hs : ∀ x, genFold iter X.env x = pure x := by intro _; rfl) (hgl : Gl X "all" := by rfl)
    (hst : starEach [.GeneratorExp elt [⟨tg, iter, ifs, 0⟩] scope gpos] X.env = (false, eval (.GeneratorExp elt [⟨tg, iter, ifs, 0⟩] scope gpos) X.env) :: starEach [] X.env := by rfl) :
    PE X (.Call (.Name "all" p) [.GeneratorExp elt [⟨tg, iter, ifs, 0⟩] scope gpos] [] pos) (tGx true (fun σ H R => wi σ H fun J H1 => H1 P = some (tabO P) ∧ R J H1) g tt te (own.map (·.2))) := by
  refine ⟨fun pins s σ H Q I h => ?_⟩
  refine wpAny_Call_Name_kw (ld_blt I hgl hm (show bootBuiltins "all" = some (.builtin "all") by decide +kernel) ?_)
  refine PyProof.Rows.callWith_builtin1 ?_ hst (by rfl)
  rw [hst]
  show wpAny _ _ (spliced ((false, eval (.GeneratorExp elt [⟨tg, iter, ifs, 0⟩] scope gpos) X.env) :: backTo pos (starEach [] X.env))) _ _ s
  have hfree : ∀ y ∈ scope.names, y.2 = .free → ∃ c, X.env.cells.lookup y.1 = some c := fun y hy e => by
    rcases ok.free y hy e with k | k
    · exact I.ok.has _ (.inl k)
    · exact I.ok.has _ (.inr k)
  refine Calls.spliced_cons (wpAny_GeneratorExp_make hco (closure_ok hfree) nc h0 ok.kind (by have := hr.dp; omega) ?_ hs)
  refine thn (hi.run pins s σ H _ I h) fun xv s1 hx => thn hx fun itv s2 h2 => ?_
  obtain ⟨it, fp, tn, J, H2, e, I2, T, st2, f2, hP, W, ⟨m0, w0⟩, turn⟩ := h2
  subst e
  refine ⟨I2.nolimit, ?_⟩
  obtain ⟨⟨ps, hPs, htr⟩, _, _⟩ := I2.hok P _ hP
  have cd : PySem.W.CodeHd s2.heap c P := TB.code.keeps fun b u e => I2.bk b u e
  have nfp : ∀ b ∈ fp, b ≠ P := fun b hb z => by
    have := (f2 b hb).1
    rw [z, hP] at this
    cases this
  -- behind the code object
  have cont : ∀ (code : Value) (h3 : Heap) (tk : Nat), Inv X pins σ H2 { s2 with heap := h3, toks := tk } → tn 0 h3 → (∀ b ∈ fp, b < h3.objs.size) →
      wpAny (model X.prog X.w) X.A (builtinsFor X.env.globals X.env.builtins) (fun bi s₄ => ∀ h', h'.Ns s₄.heap.objs.size (fun y => if y = ".0" then some (.ref it) else none) → Heap.SameBut s₄.heap.objs.size (s₄.heap.push { cls := .type "frame", data := .dict #[] }) h' →
        wpAny (model X.prog X.w) X.A (spliced (backTo pos (starEach [] X.env))) (fun vs s' => wpAny (model X.prog X.w) X.A (call (.builtin "all") (.ref h'.objs.size :: vs)) (EP X pins σ Q) X.xe s') X.xe { s₄ with
            gens := s₄.gens.push (.fresh (.compStart (.GeneratorExp elt [⟨tg, iter, ifs, 0⟩] scope gpos) 0 (.ref it) .none (genEnv scope (cloFrom X.env.cells scope.names []) s₄.heap.objs.size code bi X.env))),
            toks := s₄.toks + 1 + 1 + 1,
            heap := h'.push { cls := .type "generator", data := .fields #[.int s₄.gens.size 0, .str "<genexpr>" (s₄.toks + 1), .str (X.env.qual ++ "<genexpr>") (s₄.toks + 1 + 1)] } }) X.xe { s2 with heap := h3, toks := tk } := by
    intro code h3 tk I3 st3 sz3
    obtain ⟨bm, ob, e1, e2, e3, e4, e5, e6, e7, e8⟩ := TB.bm
    refine wpAny_builtinsFor (m := X.mg) (by rw [I3.ok.glob]; exact I3.mod.glob.keeps I3.bk) e1 e2 (I3.bk _ _ e5) e6 e7 e8 ?_
    intro h' hns hsb
    generalize hs3 : ({ s2 with heap := h3, toks := tk } : Shared) = s3 at I3 hns hsb ⊢
    have eh3 : s3.heap = h3 := by rw [← hs3]
    generalize hgo : ({ cls := .type "generator", data := .fields #[.int s3.gens.size 0, .str "<genexpr>" (s3.toks + 1), .str (X.env.qual ++ "<genexpr>") (s3.toks + 1 + 1)] } : Obj) = go
    have hsz : h'.objs.size = s3.heap.objs.size + 1 := by rw [hsb.1, Heap.size_push]
    have k3 : ∀ b o, s3.heap.get? b = some o → (h'.push go).get? b = some o := fun b o e => Heap.get?_push_of_some _ (hsb.extBut b o (Nat.ne_of_lt (Heap.lt_size e)) (Heap.get?_push_of_some _ e))
    have hga : (h'.push go).get? (s3.heap.objs.size + 1) = some go := by
      rw [← hsz]
      exact Heap.get?_push_size _ (by rw [← hgo]; rfl)
    -- the frame's context
    have f3 : ∀ b ∈ fp, FpOk X pins H2 b ∧ b < s3.heap.objs.size := fun b hb => ⟨f2 b hb, by rw [eh3]; exact sz3 b hb⟩
    let ce : Env := gxEnv X scope s3.heap.objs.size code
    have hroomA : Room k (X.A.in1.in1.deeper ce) := by
      have d := hr.dp
      have u := hr.un
      refine ⟨hr.hd, ?_, ?_⟩
      · show X.A.depth + 1 + 3 * k + 5 < _
        omega
      · show X.A.units + 1 + 1 + 3 + 16 * k + 200 < _
        omega
    have hfr : (X.A.in1.in1.deeper ce).frames = some (ce :: X.stack) := by
      show (X.A.deeper ce).frames = _
      unfold Around.deeper
      simp [I.ok.frames]
    have hgens : AllBare (s3.gens.push (.fresh (.compStart (.GeneratorExp elt [⟨tg, iter, ifs, 0⟩] scope gpos) 0 (.ref it) .none ce))) := I3.bare.push rfl
    have I5 := gx_start (code := code) (A := X.A.in1.in1.deeper ce) (go := go) (t' := s3.toks + 1 + 1 + 1) I3 ok nc hN f3 hfr hr.hd (by rw [← hgo]; exact fun v z => by cases z) k3 (hns.push _) hga hgens
    generalize hs5 : ({ s3 with heap := h'.push go, gens := s3.gens.push (.fresh (.compStart (.GeneratorExp elt [⟨tg, iter, ifs, 0⟩] scope gpos) 0 (.ref it) .none ce)), toks := s3.toks + 1 + 1 + 1 } : Shared) = s5 at I5
    have es5 : s5.gens[s3.gens.size]? = some (.fresh (.compStart (.GeneratorExp elt [⟨tg, iter, ifs, 0⟩] scope gpos) 0 (.ref it) .none ce)) := by
      rw [← hs5]
      exact Array.getElem?_push_size ..
    refine Calls.spliced_nil ?_
    show wpAny _ _ (call (.builtin "all") [.ref h'.objs.size]) _ _ _
    rw [hsz]
    generalize hY : Cxg X s3 H2 scope s3.heap.objs.size code (s3.heap.objs.size + 1) go fp (X.A.in1.in1.deeper ce) = Y at I5
    have hgp : ∀ {σ' : L2.St} {H' : Hp} {s' : Shared}, Inv Y [] σ' H' s' → s'.heap.IsGen (s3.heap.objs.size + 1) s3.gens.size := fun {σ' H' s'} I' => by
      have hp : (s3.heap.objs.size + 1, go) ∈ Y.pn ++ [] := by rw [← hY]; exact List.mem_cons_self
      exact ⟨go, _, _, (I'.pin _ hp).1, by rw [← hgo], by rw [← hgo], by rw [← hgo]⟩
    have eYp : Y.prog = X.prog := by rw [← hY]
    have eYw : Y.w = X.w := by rw [← hY]
    have st5 : tn 0 s5.heap := T.keep _ _ _ (show tn 0 s3.heap by rw [eh3]; exact st3) fun b _ o e => by rw [← hs5]; exact k3 b o e
    -- back in the def's context
    have back : ∀ {σ' : L2.St} {H' : Hp} {s' : Shared}, Inv Y [] σ' H' s' → Inv X pins σ H' s' := fun {σ' H' s'} I' => by
      have o := I'.os
      have b := I'.base
      have hk := I'.hok
      rw [← hY] at o b hk
      exact I3.call' (ch := fp) o b hk I'.bare fun b hb => ⟨(f3 b hb).1.2.2.2.1, (f3 b hb).1.2.1, (f3 b hb).1.2.2.2.2.1, (f3 b hb).1.2.2.2.2.2⟩
    have pg := hg s3 H2 s3.heap.objs.size code (s3.heap.objs.size + 1) go fp _ hroomA
    have pt := ht s3 H2 s3.heap.objs.size code (s3.heap.objs.size + 1) go fp _ hroomA
    have pe := he s3 H2 s3.heap.objs.size code (s3.heap.objs.size + 1) go fp _ hroomA
    rw [hY] at pg pt pe
    have hce : Y.env = ce := by rw [← hY]
    have seg := seg_gx (A := X.A.in1.in1) (elt := elt) (tg := tg) (iter := iter) (ifs := ifs) (scope := scope) (pos := gpos) (it := it) (fp := fp) (tn := tn) (J := J) (σ := σ) (vs := own.map (·.2)) (W := W) (al := true) (Q := Q) (g := g) (tt := tt) (te := te) (Y := Y)
      (by rw [hce, ← hY]) (by rw [← hY]; exact hc) (by rw [← hY]; exact hco) (by rw [← hY]; exact T) pg pt pe (by rw [← hY]) (by rw [← hY]) (fun q hq z => by
        rw [← hY] at hq
        rw [List.mem_singleton.mp hq] at z
        exact absurd (f3 _ z).2 (by exact Nat.not_lt.mpr (Nat.le_succ _))) turn
    refine call_function_tree F.kind_all F.plain_all F.entry_all (F.args_all1 _) ?_
    unfold Builtin.«all»
    refine wpAny_bind (m := oneArg "all" _) (wpAny_pure ?_)
    refine wpAny_bind (wpAny_pyIter_gen (g := s3.gens.size) (hgp I5) ?_)
    refine wpAny_pure ⟨plainId_quiet F.plain_all_loop _, ?_⟩
    have key := all_loop (Y := Y) (A := X.A) (a := s3.heap.objs.size + 1) (g := s3.gens.size) (fp := fp) (tn := tn) (σ := wipe σ (own.map (·.2))) (W := W) (Q := Q) (R := fun r s' => match r with | .ok (.ret v) => EP X pins σ Q v s' | .ok _ => False | .error e => X.xe e s') hr.hd hr.depth hgp
      (fun b σ' H' s' I' q => ⟨.bl b, H', back I', rfl, q⟩) (m0 + 1) s5 I5.bare ⟨hgp I5, I5.nolimit, _, es5, ?_⟩
    · rw [eYp, eYw] at key
      exact key
    · refine ⟨rfl, ?_⟩
      have loop := seg m0 (m0 + 1) 0 H2 (s5.setGen s3.gens.size .running) (s5.setGen s3.gens.size .running) (Nat.lt_succ_self _) ⟨inv_gens I5 (setGen_bare I5.bare rfl), st5, fun b hb => (f2 b hb).1, w0⟩
      rw [hce] at loop
      show Seg _ X.A.in1.in1 _ _ _ _ _ ((compStart (.GeneratorExp elt [⟨tg, iter, ifs, 0⟩] scope gpos) 0 (.ref it) .none ce).onRaise (leaving ce)) [] _
      unfold compStart
      rw [Sem.onRaise_eq_wrap]
      show Seg _ X.A.in1.in1 _ _ _ _ _ ((ask >>= _).wrap _ _ _ _) [] _
      refine seg_bind_wrap (wpAny_askSetting ?_)
      split
      · exact seg_again rfl loop
      · have selfT : ∀ {Q' : Value → Shared → Prop} {E' : Value → Shared → Prop} {A' : Around}, Q' (.ref it) (s5.setGen s3.gens.size .running) → wpAny (model Y.prog Y.w) A' (pyIter (.ref it)) Q' E' (s5.setGen s3.gens.size .running) := fun {Q' E' A'} q => by
          rw [eYp, eYw]
          exact T.self A' 0 _ _ _ st5 q
        first
          | exact seg_bind_wrap (wpAny_rule (seg_bind_wrap (wpAny_standAt (seg_bind_wrap (selfT (seg_again rfl loop))))))
          | (refine seg_bind_wrap (wpAny_rule ?_); show Seg _ X.A.in1.in1 _ _ _ _ _ ((standAt iter.pos >>= _).wrap _ _ _ _) [] _; exact seg_bind_wrap (wpAny_standAt (seg_bind_wrap (selfT (seg_again rfl loop)))))
  cases hf : codeAmong gpos ps.toList with
  | none =>
    refine wpAny_genexprCodeX hcode (cd.code hPs htr) (cd.tab hPs) hf fun c' h' tk hx hge hlt hco' _ htab' _ => ?_
    obtain ⟨o1, us, f1, tf, fl, tgg, inF, tx, tt', op, _, _, _, _, _, _, _, _, _, htr', _⟩ := hco'
    have hk : ∀ b o, b ≠ P → s2.heap.get? b = some o → h'.get? b = some o := fun b o hb e => hx b o hb e
    refine cont _ h' tk (inv_tabE (g' := s2.gens) (d' := s2.drawn) (t' := tk) I2 hP hk htab'.2 htr' I2.bare) (T.keep _ _ _ st2 fun b hb o e => hk b o (nfp b hb) e) fun b hb => ?_
    obtain ⟨o, e, _⟩ := T.obj _ _ st2 b hb
    exact Heap.lt_size (hk b o (nfp b hb) e)
  | some cv =>
    refine wpAny_genexprCode_hit hcode (cd.code hPs htr) hf ?_
    exact cont cv s2.heap s2.toks I2 st2 fun b hb => let ⟨o, e, _⟩ := T.obj _ _ st2 b hb; Heap.lt_size e
end
end VL
namespace VL
open PySem PySem.Spec
open PyProof.Rows L2
variable [Vx]
/-! ### places in trees -/
def tgetD (kvs : List (D × T)) (k : D) : Option T := (kvs.find? fun p => kEq p.1 k).map (·.2)
def tputD (kvs : List (D × T)) (k : D) (t : T) : List (D × T) := if (kvs.any fun p => kEq p.1 k) = true then kvs.map (fun p => if kEq p.1 k = true then (p.1, t) else p) else kvs ++ [(k, t)]
/-- the key stands once at most -/
def oneK (kvs : List (D × T)) (k : D) : Bool := decide ((kvs.filter fun p => kEq p.1 k).length ≤ 1)
section
variable {K : PySem.W.Frag} {H H1 : Hp} {O : List Addr}
theorem Trs.length : ∀ {vs : List V} {ts : List T} {A : List Addr}, Trs K H O vs ts A → vs.length = ts.length
  | _, _, _, .nil => rfl
  | _, _, _, .cons _ t => congrArg (· + 1) (Trs.length t)
theorem KTrs.length : ∀ {vs : List (Key × V)} {ts : List (D × T)} {A : List Addr}, KTrs K H O vs ts A → vs.length = ts.length
  | _, _, _, .nil => rfl
  | _, _, _, .cons _ t => congrArg (· + 1) (KTrs.length t)
theorem Trs.append : ∀ {vs ws : List V} {ts us : List T} {A B : List Addr}, Trs K H O vs ts A → Trs K H O ws us B → Trs K H O (vs ++ ws) (ts ++ us) (A ++ B)
  | _, _, _, _, _, _, .nil, s => s
  | _, _, _, _, _, _, .cons r t, s => by
    rw [List.append_assoc]
    exact .cons r (Trs.append t s)
theorem KTrs.append : ∀ {vs ws : List (Key × V)} {ts us : List (D × T)} {A B : List Addr}, KTrs K H O vs ts A → KTrs K H O ws us B → KTrs K H O (vs ++ ws) (ts ++ us) (A ++ B)
  | _, _, _, _, _, _, .nil, s => s
  | _, _, _, _, _, _, .cons r t, s => by
    rw [List.append_assoc]
    exact .cons r (KTrs.append t s)
/-- what later heaps must keep -/
structure Ft (O : List Addr) (H H2 : Hp) (O2 A : List Addr) : Prop where
  kp : Kp O H H2
  nw : ∀ a ∈ O2, a ∈ O ∨ H a = none
  at_ : ∀ a ∈ A, H2 a = H a
theorem Ft.less {H2 : Hp} {O2 A B : List Addr} (h : Ft O H H2 O2 A) (s : ∀ a ∈ B, a ∈ A) : Ft O H H2 O2 B := ⟨h.kp, h.nw, fun a z => h.at_ a (s a z)⟩
/-- one of the trees -/
theorem Trs.split : ∀ {vs : List V} {ts : List T} {A : List Addr} {j : Nat} {t : T}, Trs K H O vs ts A → ts[j]? = some t →
    ∃ v A1 B A2, vs[j]? = some v ∧ A = A1 ++ (B ++ A2) ∧ Tr K H O v t B ∧ ∀ H2 O2 v2 u C, Ft O H H2 O2 (A1 ++ A2) → Tr K H2 O2 v2 u C → Trs K H2 O2 (vs.set j v2) (ts.set j u) (A1 ++ (C ++ A2))
  | _, _, _, _, _, .nil, e => by simp at e
  | _, _, _, 0, _, .cons (v := v) (A := A) (B := B) r t, e => by
    simp at e
    subst e
    exact ⟨v, [], A, B, rfl, rfl, r, fun H2 O2 v2 u C f q => show Trs K H2 O2 _ _ (C ++ B) from .cons q (t.evR f.kp f.nw fun a z => f.at_ a z)⟩
  | _, _, _, j + 1, _, .cons (v := v) (A := A) (B := B) r t, e => by
    obtain ⟨w, A1, B1, A2, e1, e2, e3, e4⟩ := Trs.split (j := j) t (by simpa using e)
    subst e2
    refine ⟨w, A ++ A1, B1, A2, by simpa using e1, by rw [List.append_assoc], e3, fun H2 O2 v2 u C f q => ?_⟩
    rw [List.append_assoc]
    exact .cons (r.evR f.kp f.nw fun a z => f.at_ a (List.mem_append_left _ (List.mem_append_left _ z))) (e4 H2 O2 v2 u C (f.less fun a z => by
      rw [List.append_assoc]
      exact List.mem_append_right _ z) q)
/-- no such key -/
theorem KTrs.mapN {k : Key} {v : V} {u : T} : ∀ {vs : List (Key × V)} {ts : List (D × T)} {A : List Addr}, KTrs K H O vs ts A → (ts.filter fun p => kEq p.1 (kD k)).length = 0 →
    (vs.map fun kv => if kv.1 = k then (kv.1, v) else kv) = vs ∧ (ts.map fun p => if kEq p.1 (kD k) = true then (p.1, u) else p) = ts
  | _, _, _, .nil, _ => ⟨rfl, rfl⟩
  | _, _, _, .cons (k := k') r t, e => by
    rw [List.filter_cons] at e
    dsimp only at e
    rw [kEq_kD] at e
    by_cases h : k' = k
    · rw [if_pos (by simpa using h)] at e
      simp at e
    · rw [if_neg (by simpa using h)] at e
      obtain ⟨h1, h2⟩ := KTrs.mapN (v := v) (u := u) t e
      rw [List.map_cons, List.map_cons, h1, h2]
      dsimp only
      rw [kEq_kD, if_neg h, if_neg (by simpa using h)]
      exact ⟨rfl, rfl⟩
theorem KTrs.split {k : Key} : ∀ {vs : List (Key × V)} {ts : List (D × T)} {A : List Addr} {t : T}, KTrs K H O vs ts A → oneK ts (kD k) = true → tgetD ts (kD k) = some t →
    ∃ v A1 B A2, valV vs k = some v ∧ A = A1 ++ (B ++ A2) ∧ Tr K H O v t B ∧ (vs.map fun kv => if kv.1 = k then (kv.1, v) else kv) = vs ∧
      ∀ H2 O2 v2 u C, Ft O H H2 O2 (A1 ++ A2) → Tr K H2 O2 v2 u C → KTrs K H2 O2 (vs.map fun kv => if kv.1 = k then (kv.1, v2) else kv) (ts.map fun p => if kEq p.1 (kD k) = true then (p.1, u) else p) (A1 ++ (C ++ A2))
  | _, _, _, _, .nil, _, e => by cases e
  | _, _, _, t0, .cons (k := k') (v := v) (vs := vs) (ts := ts) (A := A) (B := B) r t, o, e => by
    unfold oneK at o
    unfold tgetD at e
    rw [List.filter_cons, decide_eq_true_eq] at o
    rw [List.find?_cons] at e
    dsimp only at e o
    rw [kEq_kD] at e o
    by_cases h : k' = k
    · rw [if_pos (by simpa using h)] at o
      rw [decide_eq_true h] at e
      cases e
      have o0 : (ts.filter fun p => kEq p.1 (kD k)).length = 0 := by
        rw [List.length_cons] at o
        omega
      refine ⟨v, [], A, B, valV_pos h, rfl, r, ?_, fun H2 O2 v2 u C f q => ?_⟩
      · rw [List.map_cons, (KTrs.mapN (v := v) (u := .fz .none) t o0).1, if_pos h]
      · obtain ⟨h1, h2⟩ := KTrs.mapN (v := v2) (u := u) t o0
        rw [List.map_cons, List.map_cons, h1, h2]
        dsimp only
        rw [kEq_kD, if_pos h, if_pos (by simpa using h)]
        show KTrs K H2 O2 _ _ (C ++ B)
        exact .cons q (t.evR f.kp f.nw fun a z => f.at_ a z)
    · rw [if_neg (by simpa using h)] at o
      rw [decide_eq_false h] at e
      obtain ⟨w, A1, B1, A2, e1, e2, e3, e5, e4⟩ := KTrs.split (k := k) t (decide_eq_true o) e
      subst e2
      refine ⟨w, A ++ A1, B1, A2, by rw [valV_neg (p := (k', v)) h]; exact e1, by rw [List.append_assoc], e3, ?_, fun H2 O2 v2 u C f q => ?_⟩
      · rw [List.map_cons, e5, if_neg h]
      · rw [List.map_cons, List.map_cons, List.append_assoc]
        dsimp only
        rw [kEq_kD, if_neg h, if_neg (by simpa using h)]
        exact .cons (r.evR f.kp f.nw fun a z => f.at_ a (List.mem_append_left _ (List.mem_append_left _ z))) (e4 H2 O2 v2 u C (f.less fun a z => by
          rw [List.append_assoc]
          exact List.mem_append_right _ z) q)
theorem KTrs.anyK {k : Key} : ∀ {vs : List (Key × V)} {ts : List (D × T)} {A : List Addr}, KTrs K H O vs ts A → (vs.any fun kv => decide (kv.1 = k)) = ts.any fun p => kEq p.1 (kD k)
  | _, _, _, .nil => rfl
  | _, _, _, .cons (k := k') r t => by
    rw [List.any_cons, List.any_cons, KTrs.anyK t]
    dsimp only
    rw [kEq_kD]
theorem tget_any : ∀ {ts : List (D × T)} {k : D}, (ts.any fun p => kEq p.1 k) = (tgetD ts k).isSome
  | [], _ => rfl
  | p :: ts, k => by
    unfold tgetD
    rw [List.any_cons, List.find?_cons]
    by_cases h : kEq p.1 k = true
    · rw [h]; rfl
    · rw [Bool.not_eq_true] at h
      rw [h]
      exact tget_any
/-- the value v' with the tree t' stands in the value v with the footprint A; f: the whole tree, with another in its place -/
def Hole (K : PySem.W.Frag) (H : Hp) (O : List Addr) (v : V) (A : List Addr) (f : T → T) (v' : V) (t' : T) : Prop :=
  ∃ A1 B A2, A = A1 ++ (B ++ A2) ∧ Tr K H O v' t' B ∧ ∀ H2 O2 u C, Ft O H H2 O2 (A1 ++ A2) → Tr K H2 O2 v' u C → Tr K H2 O2 v (f u) (A1 ++ (C ++ A2))
theorem Hole.self {v : V} {t : T} {A : List Addr} (h : Tr K H O v t A) : Hole K H O v A (fun u => u) v t := ⟨[], A, [], by simp, h, fun H2 O2 u C _ q => by simpa using q⟩
theorem Hole.comp {v v1 v2 : V} {t1 t2 : T} {A : List Addr} {f : T → T} {g : T → T} (h : Hole K H O v A f v1 t1) (i : ∀ B, Tr K H O v1 t1 B → Hole K H O v1 B g v2 t2) : Hole K H O v A (fun u => f (g u)) v2 t2 := by
  obtain ⟨A1, B, A2, e, r, q⟩ := h
  obtain ⟨B1, C, B2, e', r', q'⟩ := i B r
  subst e e'
  refine ⟨A1 ++ B1, C, B2 ++ A2, by simp only [List.append_assoc], r', fun H2 O2 u D' ft x => ?_⟩
  have y := q' H2 O2 u D' (ft.less fun a z => by
    simp only [List.mem_append] at z ⊢
    rcases z with z | z
    · exact .inl (.inr z)
    · exact .inr (.inl z)) x
  have w := q H2 O2 (g u) _ (ft.less fun a z => by
    simp only [List.mem_append] at z ⊢
    rcases z with z | z
    · exact .inl (.inl z)
    · exact .inr (.inr z)) y
  simp only [List.append_assoc] at w ⊢
  exact w
theorem lst_at {p : Addr} {vs : List V} {ts : List T} {A : List Addr} {j : Nat} {t : T} (e : H p = some (.lst vs)) (hz : vs.length ≤ sizeLine) (r : Trs K H O vs ts A) (h : ts[j]? = some t) :
    ∃ v, vs[j]? = some v ∧ Hole K H O (.ref p) (p :: A) (fun u => .ol (ts.set j u)) v t := by
  obtain ⟨v, A1, B, A2, e1, e2, e3, e4⟩ := r.split h
  subst e2
  refine ⟨v, e1, p :: A1, B, A2, rfl, e3, fun H2 O2 u C ft q => ?_⟩
  have z := e4 H2 O2 v u C (ft.less fun a z => List.mem_cons_of_mem _ z) q
  rw [set_get e1] at z
  exact .ol ((ft.at_ p List.mem_cons_self).trans e) hz z
theorem dic_at {p : Addr} {vs : List (Key × V)} {ts : List (D × T)} {A : List Addr} {k : Key} {t : T} (e : H p = some (.dK vs)) (r : KTrs K H O vs ts A) (o : oneK ts (kD k) = true) (h : tgetD ts (kD k) = some t) :
    ∃ v, valV vs k = some v ∧ Hole K H O (.ref p) (p :: A) (fun u => .od (tputD ts (kD k) u)) v t := by
  obtain ⟨v, A1, B, A2, e1, e2, e3, e5, e4⟩ := r.split o h
  subst e2
  refine ⟨v, e1, p :: A1, B, A2, rfl, e3, fun H2 O2 u C ft q => ?_⟩
  have z := e4 H2 O2 v u C (ft.less fun a z => List.mem_cons_of_mem _ z) q
  rw [e5] at z
  unfold tputD
  rw [tget_any, h]
  exact .od ((ft.at_ p List.mem_cons_self).trans e) z
end
/-- the tree that a name holds -/
def treeAt (i : Nat) (ρ : En) : Option T := match ρ[i]? with
  | some (.ot t) => some t
  | some (.pt t) => some t
  | _ => none
def putT (i : Nat) (ρ : En) (t : T) : En := match ρ[i]? with
  | some (.pt _) => ρ.set i (.pt t)
  | _ => ρ.set i (.ot t)
theorem ER.tree {K : PySem.W.Frag} {H : Hp} {O : Og} {σ : L2.St} {ρ : En} (I : ER K O H σ ρ) {i : Nat} {t : T} (e : treeAt i ρ = some t) : ∃ g v, O.γ[i]? = some g ∧ σ[i]? = some (some v) ∧ Tr K H O.O v t g.A ∧
    ∀ {H1 : Hp} {O1 A1 : List Addr} {t1 : T}, Tr K H1 O1 v t1 A1 → ∃ sl, putT i ρ t1 = ρ.set i sl ∧ SR K H1 O1 ⟨A1, g.pi⟩ (some v) sl := by
  unfold treeAt at e
  unfold putT
  split at e
  · rename_i t' ei
    cases e
    obtain ⟨g, ov, eg, e1, v, rfl, h1⟩ := I.get ei
    refine ⟨g, v, eg, e1, h1, fun {H1 O1 A1 t1} q => ⟨.ot t1, by rw [ei], v, rfl, q⟩⟩
  · rename_i t' ei
    cases e
    obtain ⟨g, ov, eg, e1, v, rfl, h1, hp⟩ := I.get ei
    refine ⟨g, v, eg, e1, h1, fun {H1 O1 A1 t1} q => ⟨.pt t1, by rw [ei], v, rfl, q, hp⟩⟩
  · cases e
/-- what a place gives: the tree there; the whole, with another in its place -/
abbrev FP := En → Rs (T × (T → T))
def AtP (K : PySem.W.Frag) (H : Hp) (O : Og) (σ : L2.St) (ρ : En) (i : Nat) (p : T × (T → T)) (v : V) : Prop :=
  ∃ g w t, O.γ[i]? = some g ∧ σ[i]? = some (some w) ∧ treeAt i ρ = some t ∧ Tr K H O.O w t g.A ∧ Hole K H O.O w g.A p.2 v p.1
def tPl (K : PySem.W.Frag) (i : Nat) (f : FP) : TE := fun σ H Q => ∃ (O : Og) (ρ : En) (p : T × (T → T)), ER K O H σ ρ ∧ f ρ = .ok p ∧ ∀ v H', Same H H' → (∀ H0, Same H0 H → ER K O H0 σ ρ → AtP K H0 O σ ρ i p v) → Q v H'
structure PlV (X : Cx) (i : Nat) (e : Expr) (f : FP) : Prop where
  run : PE X e (tPl X.K i f)
section
variable {X : Cx} {W : WX} {a e k : Expr} {f fk : FE} {fp : FP} {pos p p2 cpos apos : Pos}
def pVar (i : Nat) : FP := fun ρ => match treeAt i ρ with
  | some t => .ok (t, fun u => u)
  | none => .bad
theorem pl_var (i : Nat) {x : Str} (hN : X.N[i]? = some x := by rfl) (hv : Vis X.env.scope x := by first | exact Or.inl rfl | exact Or.inr (Or.inl rfl) | exact Or.inr (Or.inr rfl)) (hd : (x == ("__debug__" : Str)) = false := by decide)
    (hcd : (x == ("__classdict__" : Str)) = false := by decide) : PlV X i (.Name x pos) (pVar i) := by
  refine ⟨pe_imp (pe_var hN hv hd hcd) fun σ H Q ⟨O, ρ, r, I, hf, q⟩ => ?_⟩
  unfold pVar at hf
  split at hf
  · rename_i t e
    cases hf
    obtain ⟨g, v, eg, e1, h1, _⟩ := I.tree e
    refine ⟨v, e1, q v H (Same.refl H) fun H0 s0 I0 => ?_⟩
    obtain ⟨g', v', eg', e1', h1', _⟩ := I0.tree e
    rw [e1] at e1'
    cases e1'
    exact ⟨g', v, t, eg', e1, e, h1', .self h1'⟩
  · cases hf
def plIx (x : T × (T → T)) (r : R) : Rs (T × (T → T)) := match x.1 with
  | .ol ts => match r.d with
    | .int n => match ixN ts.length n with
      | some j => match ts[j]? with
        | some t => .ok (t, fun u => x.2 (.ol (ts.set j u)))
        | none => .bad
      | none => .bad
    | _ => .bad
  | .od kvs => if (isKey r.d && oneK kvs r.d) = true then match tgetD kvs r.d with
    | some t => .ok (t, fun u => x.2 (.od (tputD kvs r.d u)))
    | none => .bad
    else .bad
  | _ => .bad
def pIx (fp : FP) (fk : FE) : FP := fun ρ => (fp ρ).bind fun x => (fk ρ).bind fun r => plIx x r
theorem AtP.same {K : PySem.W.Frag} {H H1 : Hp} {O : Og} {σ : L2.St} {ρ : En} {i : Nat} {x : T × (T → T)} {v : V} (s : Same H H1) (h : AtP K H O σ ρ i x v) : AtP K H1 O σ ρ i x v := by
  obtain ⟨g, w, t, e1, e2, e3, r, A1, B, A2, e4, r1, q⟩ := h
  refine ⟨g, w, t, e1, e2, e3, r.same s, A1, B, A2, e4, r1.same s, fun H2 O2 u C ft x => q H2 O2 u C ⟨?_, ?_, ?_⟩ x⟩
  · exact ⟨fun a u nf n h => ft.kp.rd a u nf n (Rd.keep h fun o e => s a o e), fun a C' dx fs n h => ft.kp.ins a C' dx fs n (s _ _ h)⟩
  · exact fun a z => (ft.nw a z).imp id fun e => s.free e
  · intro a z
    have hm : Mut (H a) := r.foot a (by
      rw [e4]
      exact mem_mid z)
    rw [ft.at_ a z]
    exact same_at s (mut_has hm)
theorem pl_ix (hu : X.A.units + 64 < cLine) (h : PlV X i a fp) (hk : EV X k fk) (hs : PlainIx k := by exact fun _ _ => rfl) : PlV X i (.Subscript a k pos) (pIx fp fk) := by
  refine ⟨pe_imp (pe_ix (r := fun x y H Q => ∃ v, ((∃ p vs n, x = .ref p ∧ y = .int n ∧ H p = some (.lst vs) ∧ atI vs n = some v) ∨ (∃ p vs κ, x = .ref p ∧ y = kV κ ∧ H p = some (.dK vs) ∧ valV vs κ = some v)) ∧ Q v H) ?_ h.run hk.run hs) fun σ H Q ⟨O, ρ, r, I, hf, q⟩ => ?_⟩
  · intro value slice pins s σ H x y v u Q I rx ry h hs
    obtain ⟨w, h | h, q⟩ := h
    · obtain ⟨p, vs, n, rfl, rfl, e1, e2⟩ := h
      exact ix_list value slice pins s σ H _ _ v u Q I rx ry ⟨p, vs, n, w, rfl, rfl, .of e1, e2, q⟩ hs
    · obtain ⟨p, vs, κ, rfl, rfl, e1, e2⟩ := h
      exact ix_dict hu value slice pins s σ H _ _ v u Q I rx ry ⟨p, w, rfl, .inl ⟨vs, κ, .inl e1, rfl, by rw [e2]⟩, q⟩ hs
  · obtain ⟨x, e1, hf⟩ := Rs.bind_eq hf
    obtain ⟨y, e2, hf⟩ := Rs.bind_eq hf
    refine ⟨O, ρ, x, I, e1, fun v H1 s1 at1 => ⟨O, ρ, y, I.same s1, e2, fun u H2 s2 r2 => ?_⟩⟩
    have s12 := s1.trans s2
    obtain ⟨g, w, t, eg, ew, et, rt, ho⟩ := at1 H (Same.refl H) I
    obtain ⟨x1, x2⟩ := x
    have t2 := Top.rep (O := []) r2.bare
    unfold plIx at hf
    split at hf
    · rename_i ts ets
      split at hf
      · rename_i n en
        rw [en] at t2
        split at hf
        · rename_i j ej
          split at hf
          · rename_i t' et'
            cases hf
            dsimp only at ets
            subst ets
            obtain ⟨A1, B, A2, _, rB, _⟩ := id ho
            cases rB with
            | ol h1 hz h3 =>
              obtain ⟨v', g1, _⟩ := lst_at h1 hz h3 et'
              refine ⟨v', .inl ⟨_, _, n, rfl, t2.int, s12 _ _ h1, ?_⟩, q v' H2 s12 fun H0 s0 I0 => ?_⟩
              · unfold atI
                rw [h3.length, ej]
                exact g1
              · obtain ⟨g0, w0, t0, eg0, ew0, et0, rt0, ho0⟩ := at1 H0 s0 I0
                refine ⟨g0, w0, t0, eg0, ew0, et0, rt0, ho0.comp fun B' rB' => ?_⟩
                cases rB' with
                | ol h1' hz' h3' =>
                  have h1'' := s0 _ _ h1'
                  rw [h1] at h1''
                  cases h1''
                  obtain ⟨v'', g1', g2'⟩ := lst_at h1' hz h3' et'
                  rw [g1] at g1'
                  cases g1'
                  exact g2'
          · cases hf
        · cases hf
      · cases hf
    · rename_i kvs ek
      split at hf
      · rename_i hc
        rw [Bool.and_eq_true] at hc
        obtain ⟨κ, hκ⟩ := isKey_kD hc.1
        rw [hκ] at t2 hf hc
        split at hf
        · rename_i t' et'
          cases hf
          dsimp only at ek
          subst ek
          obtain ⟨A1, B, A2, _, rB, _⟩ := id ho
          cases rB with
          | od h1 h3 =>
            obtain ⟨v', g1, _⟩ := dic_at h1 h3 hc.2 et'
            refine ⟨v', .inr ⟨_, _, κ, rfl, rep_kD t2, s12 _ _ h1, g1⟩, q v' H2 s12 fun H0 s0 I0 => ?_⟩
            obtain ⟨g0, w0, t0, eg0, ew0, et0, rt0, ho0⟩ := at1 H0 s0 I0
            refine ⟨g0, w0, t0, eg0, ew0, et0, rt0, ho0.comp fun B' rB' => ?_⟩
            cases rB' with
            | od h1' h3' =>
              have h1'' := s0 _ _ h1'
              rw [h1] at h1''
              cases h1''
              obtain ⟨v'', g1', g2'⟩ := dic_at h1' h3' hc.2 et'
              rw [g1] at g1'
              cases g1'
              exact g2'
        · cases hf
      · cases hf
    · cases hf
end
end VL
namespace VL
open PySem PySem.Spec
open PyProof.Rows L2
variable [Vx]
/-! ### a place is written -/
/-- data as a tree: a leaf -/
def toLf (r : R) : Option T := r.fz.map .fz
/-- what may be put into a tree -/
def LfOk (lf : R → Option T) : Prop := ∀ (K : PySem.W.Frag) (O : List Addr) (H H1 : Hp) (v : V) (r : R) (t : T), (∀ a ∈ O, H a ≠ none) → RR K O H H1 v r → lf r = some t → ∃ A, Tr K H1 (A ++ O) v t A ∧ A.Nodup ∧ ∀ a ∈ A, H a = none
theorem lf_data : LfOk toLf := by
  intro K O H H1 v r t hO rr e
  unfold toLf at e
  cases ed : r.fz with
  | none => rw [ed] at e; cases e
  | some d =>
    rw [ed] at e
    cases e
    exact ⟨[], .fz (RR.rep hO rr ed), List.nodup_nil, fun a z => absurd z List.not_mem_nil⟩
theorem lf_tree : LfOk toT := by
  intro K O H H1 v r t hO rr e
  exact rr.toT e
section
variable {K : PySem.W.Frag} {H H2 : Hp} {O : Og} {σ : L2.St} {ρ : En} {i : Nat}
/-- the object at a place is written; B: what is new below it -/
theorem ER.plant {H1 : Hp} (I : ER K O H σ ρ) (s1 : Same H H1) (s2 : Same H1 H2) {p : Addr} {x : T × (T → T)} (h : AtP K H1 O σ ρ i x (.ref p)) {o : HO} (mu : Mut (some o)) {B : List Addr} (hB : B.Nodup) (nB : ∀ a ∈ B, H1 a = none) (mB : ∀ a ∈ B, Mut (H2 a)) {u : T}
    (hr : ∀ (A C : List Addr), (C = p :: A) → Tr K H1 O.O (.ref p) x.1 C → C.Nodup → ∃ A', Tr K (upd H2 p o) (B ++ O.O) (.ref p) u (p :: A') ∧ A'.Nodup ∧ ∀ a ∈ A', a ∈ A ∨ a ∈ B) (hp : ∀ C, Tr K H1 O.O (.ref p) x.1 C → ∃ A, C = p :: A) :
    ∃ O', ER K O' (upd H2 p o) σ (putT i ρ (x.2 u)) ∧ Evo O H O' (upd H2 p o) := by
  obtain ⟨g, w, t, eg, ew, et, rt, A1, C, A2, eA, rC, fill⟩ := h
  obtain ⟨A, rfl⟩ := hp C rC
  have nd : g.A.Nodup := by
    obtain ⟨L, B', g0, f1, f3, f4⟩ := own_split (γ := O.γ) i (List.getElem?_eq_some_iff.mp eg).1
    rw [eg] at f1; cases f1
    have nd := I.nd
    unfold Og.own at nd
    rw [f3] at nd
    exact (List.nodup_append.mp (List.nodup_append.mp nd).2.1).1
  have s12 := s1.trans s2
  have hC : (p :: A).Nodup := by
    rw [eA] at nd
    exact (List.nodup_append.mp (List.nodup_append.mp nd).2.1).1
  obtain ⟨A', r', nA', mA'⟩ := hr A _ rfl rC hC
  have pg : p ∈ g.A := by
    rw [eA]
    exact mem_mid_iff.mpr (.inl List.mem_cons_self)
  have gO : ∀ a ∈ g.A, a ∈ O.O := fun a z => I.mine eg z
  have out : ∀ a ∈ A1 ++ A2, a ∉ p :: A := fun a z y => by
    rw [eA] at nd
    exact (List.nodup_append.mp (perm_mid.nodup_iff.mp nd)).2.2 a y a z rfl
  have inG : ∀ a ∈ A1 ++ A2, a ∈ g.A := fun a z => by rw [eA]; exact mem_mid z
  have mg : ∀ a ∈ g.A, Mut (H1 a) := fun a z => rt.foot a z
  have hH1 : ∀ a ∈ g.A, H a ≠ none := fun a z => I.tr a (gO a z)
  have pB : p ∉ B := fun z => mut_has (mg p pg) (nB p z)
  have kp1 : Kp O.O H1 (upd H2 p o) := .of fun a u' e n => by
    rw [upd_ne fun z => n (by rw [z]; exact gO p pg)]
    exact s2 _ _ e
  have ft : Ft O.O H1 (upd H2 p o) (B ++ O.O) (A1 ++ A2) := ⟨kp1, fun a z => (List.mem_append.mp z).elim (fun y => .inr (nB a y)) .inl, fun a z => by
    rw [upd_ne fun y => out a z (by rw [y]; exact List.mem_cons_self)]
    exact same_at s2 (mut_has (mg a (inG a z)))⟩
  have whole := fill _ _ u (p :: A') ft r'
  obtain ⟨g', w', eg', ew', _, back⟩ := I.tree et
  rw [eg] at eg'; cases eg'
  rw [ew] at ew'; cases ew'
  obtain ⟨sl, es, rs⟩ := back whole
  rw [es]
  have nA : ∀ a ∈ A', a ∉ A1 ++ A2 := fun a z y => by
    rcases mA' a z with h | h
    · exact out a y (List.mem_cons_of_mem _ h)
    · exact mut_has (mg a (inG a y)) (nB a h)
  have npA : p ∉ A' := fun z => by
    rcases mA' p z with h | h
    · exact (List.nodup_cons.mp hC).1 h
    · exact pB h
  refine ⟨_, I.chgS (H' := upd H2 p o) (O1 := B ++ O.O) (A1 := A1 ++ ((p :: A') ++ A2)) eg ew (fun a u' e n => ?_) (fun a z _ => List.mem_append_right _ z) (fun a z => ?_) ?_ (fun a z => ?_) (fun a z => ?_) (fun a z => ?_) rs⟩
  · rw [upd_ne fun z => n (by rw [z]; exact pg)]
    exact s12 _ _ e
  · exact (List.mem_append.mp z).elim (fun y => .inr (s1.free (nB a y))) .inl
  · rw [eA] at nd
    refine nd_ins (nd_mid nd) (List.nodup_cons.mpr ⟨npA, nA'⟩) fun q z y => ?_
    rcases List.mem_cons.mp z with z | z
    · exact out q y (by rw [z]; exact List.mem_cons_self)
    · exact nA q z y
  · rcases mem_mid_iff.mp z with z | z
    · rcases List.mem_cons.mp z with z | z
      · rw [z]; exact List.mem_append_right _ (gO p pg)
      · rcases mA' a z with h | h
        · exact List.mem_append_right _ (gO a (by rw [eA]; exact mem_mid_iff.mpr (.inl (List.mem_cons_of_mem _ h))))
        · exact List.mem_append_left _ h
    · exact List.mem_append_right _ (gO a (inG a z))
  · rcases mem_mid_iff.mp z with z | z
    · rcases List.mem_cons.mp z with z | z
      · rw [z]; exact .inl pg
      · rcases mA' a z with h | h
        · exact .inl (by rw [eA]; exact mem_mid_iff.mpr (.inl (List.mem_cons_of_mem _ h)))
        · exact .inr (s1.free (nB a h))
    · exact .inl (inG a z)
  · by_cases y : a = p
    · rw [y, upd_same]; exact mu
    · rw [upd_ne y]
      rcases List.mem_append.mp z with z | z
      · exact mB a z
      · exact (I.same s12).hg.mu a z
end
section
variable {K : PySem.W.Frag} {H1 H2 : Hp} {O B : List Addr} {p : Addr}
theorem Kp.up (s2 : Same H1 H2) (pO : p ∈ O) {o : HO} : Kp O H1 (upd H2 p o) := .of fun a u' e n => by
  rw [upd_ne fun z => n (by rw [z]; exact pO)]
  exact s2 _ _ e
theorem new_up {v : V} {t : T} (pO : p ∈ O) (pB : p ∉ B) (r : Tr K H2 (B ++ O) v t B) {o : HO} : Tr K (upd H2 p o) (B ++ O) v t B :=
  r.evR (.of fun a u' e n => by rw [upd_ne fun z => n (by rw [z]; exact List.mem_append_right _ pO)]; exact e) (fun a z => .inl z) fun a z => by rw [upd_ne fun y => pB (by rw [← y]; exact z)]
theorem old_up {vs : List V} {ts : List T} {A : List Addr} (s2 : Same H1 H2) (pO : p ∈ O) (nB : ∀ a ∈ B, H1 a = none) (r : Trs K H1 O vs ts A) (pA : p ∉ A) {o : HO} : Trs K (upd H2 p o) (B ++ O) vs ts A :=
  r.evR (Kp.up s2 pO) (fun a z => (List.mem_append.mp z).elim (fun y => .inr (nB a y)) .inl) fun a z => by
    rw [upd_ne fun y => pA (by rw [← y]; exact z)]
    exact same_at s2 (mut_has (r.foot a z))
theorem oldk_up {vs : List (Key × V)} {ts : List (D × T)} {A : List Addr} (s2 : Same H1 H2) (pO : p ∈ O) (nB : ∀ a ∈ B, H1 a = none) (r : KTrs K H1 O vs ts A) (pA : p ∉ A) {o : HO} : KTrs K (upd H2 p o) (B ++ O) vs ts A :=
  r.evR (Kp.up s2 pO) (fun a z => (List.mem_append.mp z).elim (fun y => .inr (nB a y)) .inl) fun a z => by
    rw [upd_ne fun y => pA (by rw [← y]; exact z)]
    exact same_at s2 (mut_has (r.foot a z))
theorem ft_up {A : List Addr} (s2 : Same H1 H2) (pO : p ∈ O) (nB : ∀ a ∈ B, H1 a = none) (mA : ∀ a ∈ A, Mut (H1 a)) (pA : p ∉ A) {o : HO} : Ft O H1 (upd H2 p o) (B ++ O) A :=
  ⟨Kp.up s2 pO, fun a z => (List.mem_append.mp z).elim (fun y => .inr (nB a y)) .inl, fun a z => by
    rw [upd_ne fun y => pA (by rw [← y]; exact z)]
    exact same_at s2 (mut_has (mA a z))⟩
/-- the place's value is one of the name's own -/
theorem AtP.inO {H : Hp} {O : Og} {σ : L2.St} {ρ : En} {i : Nat} {x : T × (T → T)} (I : ER K O H σ ρ) (h : AtP K H1 O σ ρ i x (.ref p)) {A : List Addr} (hp : ∀ C, Tr K H1 O.O (.ref p) x.1 C → p ∈ C) : p ∈ O.O := by
  obtain ⟨g, w, t, eg, ew, et, rt, A1, C, A2, eA, rC, fill⟩ := h
  refine I.mine eg ?_
  rw [eA]
  exact mem_mid_iff.mpr (.inl (hp C rC))
end
section
variable {X : Cx} {W : WX} {a e k : Expr} {f fk : FE} {fp : FP} {i : Nat} {pos p p2 cpos apos spos : Pos} {lf : R → Option T}
/-- place.append(e) -/
def gPlApp (i : Nat) (lf : R → Option T) (fp : FP) (f : FE) : FS := fun ρ => match fp ρ with
  | .ok x => match x.1 with
    | .ol ts => match f ρ with
      | .ok r => match lf r with
        | some t => if ts.length < sizeN then .nx (putT i ρ (x.2 (.ol (ts ++ [t])))) else .bad
        | none => .bad
      | _ => .bad
    | _ => .bad
  | _ => .bad
theorem s_plApp (hl : LfOk lf) (ha : PlV X i a fp) (he : EV X e f)
    (hbase : attributeBase a "append" X.env (eval a X.env) = eval a X.env := by rfl)
    (hfew : ((backTo cpos (starEach [e] X.env)).all (fun x => !x.1) && (backToKw cpos (keywordEach [] X.env)).all (fun x => x.1.isSome)
      && decide (([e]).length + ([] : List Keyword).length + (if ([] : List Keyword).isEmpty then 0 else 1) < 30)) = true := by rfl)
    (hline : (apos.endLine == cpos.line) = true := by rfl) (hs : starEach [e] X.env = (false, eval e X.env) :: starEach [] X.env := by rfl) (hplain : (backTo cpos (starEach [] X.env)).any (·.1) = false := by rfl)
    (hsw : swapsWith (.Call (.Attribute a "append" apos) [e] [] cpos) none pos.line X.env = pure false := by rfl) : SV X W (.Expr (.Call (.Attribute a "append" apos) [e] [] cpos) pos) (gPlApp i lf fp f) := by
  refine ⟨ps_imp (ps_expr (pe_bm PySem.F.plainAttrs_list PySem.F.slot_list_append PySem.F.type_list_append mt_append ha.run (pa_cons he.run pa_nil hs) hbase hfew hline hs hplain) hsw) fun D σ H ⟨O, ρ, I, q⟩ => ?_⟩
  unfold gPlApp at q
  split at q
  · rename_i x ex
    split at q
    · rename_i ts ets
      split at q
      · rename_i r ef
        split at q
        · rename_i t' et'
          split at q
          · rename_i hz
            refine ⟨O, ρ, x, I, ex, fun v H1 s1 at0 => ?_⟩
            have at1 := (at0 H (Same.refl H) I).same s1
            obtain ⟨x1, x2⟩ := x
            dsimp only at ets
            subst ets
            obtain ⟨g, w, t, eg, ew, et, rt, A1, C, A2, eA, rC, fill⟩ := id at1
            cases rC with
            | ol h1 hzz hr =>
              rename_i pp vs A
              refine ⟨.inl ⟨rfl, vs, .of h1⟩, O, ρ, r, I.same s1, ef, fun u H2 s2 rr => ?_⟩
              obtain ⟨B, rB, ndB, nB⟩ := hl X.K O.O H1 H2 u r t' (I.same s1).tr rr et'
              have hlen := hr.length
              rw [sizeN_eq] at hz
              have pO : pp ∈ O.O := at1.inO (A := []) I fun C rC => by cases rC; exact List.mem_cons_self
              have pB : pp ∉ B := fun z => by rw [nB pp z] at h1; cases h1
              obtain ⟨O', J, E⟩ := I.plant s1 s2 at1 (o := .lst (vs ++ [u])) (u := .ol (ts ++ [t'])) trivial ndB nB (fun a z => rB.foot a z) (fun A0 C0 eC r0 nC => by
                cases r0 with
                | ol h1' hz' hr' =>
                  cases eC
                  rw [h1] at h1'
                  cases h1'
                  have nA := List.nodup_cons.mp nC
                  refine ⟨A0 ++ B, .ol upd_same (by rw [List.length_append, List.length_singleton]; omega) ((old_up s2 pO nB hr' nA.1).append ?_), List.nodup_append.mpr ⟨nA.2, ndB, fun a z b y e => ?_⟩, fun a z => List.mem_append.mp z⟩
                  · have := Trs.cons (new_up (o := .lst (vs ++ [u])) pO pB rB) (.nil (K := X.K) (H := upd H2 pp (.lst (vs ++ [u]))) (O := B ++ O.O))
                    rw [List.append_nil] at this
                    exact this
                  · have m := hr'.foot a z
                    rw [e, nB b y] at m
                    exact m) (fun C rC => by cases rC; exact ⟨_, rfl⟩)
              exact ⟨pp, vs, u, rfl, rfl, s2 _ _ h1, by omega, q O' _ σ J E⟩
          · exact q.elim
        · exact q.elim
      · exact q.elim
    · exact q.elim
  · exact q.elim
/-- place[k] = e -/
def plSet (x : T × (T → T)) (rk : R) (t : T) : Option T := match x.1 with
  | .ol ts => match rk.d with
    | .int n => match ixN ts.length n with
      | some j => some (x.2 (.ol (ts.set j t)))
      | none => none
    | _ => none
  | .od kvs => if (isKey rk.d && oneK kvs rk.d && decide (kvs.length < sizeN)) = true then some (x.2 (.od (tputD kvs rk.d t))) else none
  | _ => none
def gPlSet (i : Nat) (lf : R → Option T) (fp : FP) (fk f : FE) : FS := fun ρ => match f ρ with
  | .ok r => match lf r with
    | some t => match fp ρ with
      | .ok x => match fk ρ with
        | .ok rk => match plSet x rk t with
          | some w => .nx (putT i ρ w)
          | none => .bad
        | _ => .bad
      | _ => .bad
    | none => .bad
  | _ => .bad
def rSetB : TSet := fun x y v H Q => rSetL x y v H Q ∨ rSetD x y v H Q
theorem set_both (hu : X.A.units + 1 < cLine) : PSet X rSetB := by
  intro pins s σ H o i v ov iv u Q I ro ri rv h
  rcases h with h | h
  · exact set_list pins s σ H o i v ov iv u Q I ro ri rv h
  · exact set_dict hu pins s σ H o i v ov iv u Q I ro ri rv h
theorem KTrs.out {K : PySem.W.Frag} {H : Hp} {O : List Addr} {k : Key} : ∀ {vs : List (Key × V)} {ts : List (D × T)} {A : List Addr}, KTrs K H O vs ts A → tgetD ts (kD k) = none → (vs.any fun kv => decide (kv.1 = k)) = false
  | _, _, _, h, e => by
    rw [h.anyK (k := k), tget_any, e]
    rfl
theorem s_plSet (hu : X.A.units + 64 < cLine) (hl : LfOk lf) (hpl : PlV X i a fp) (hk : EV X k fk) (he : EV X e f)
    (ha : ∀ v, assign (.Subscript a k spos) X.env v = (do
      let ov ← holding [v] (eval a X.env)
      let iv ← holding [v, ov] (eval k X.env)
      standAt spos
      holding [v, ov, iv] (setItem ov iv v)
      release [v, ov, iv] []) := by intro _; rfl)
    (hs : swapsWithSole [.Subscript a k spos] e pos.line X.env = pure false := by rfl) (hw : swappedStores [.Subscript a k spos] e X.env = pure none := by rfl)
    (h1 : (assignEach [.Subscript a k spos] X.env).map (·.2) = [assign (.Subscript a k spos) X.env] := by rfl) : SV X W (.Assign [.Subscript a k spos] e pos) (gPlSet i lf fp fk f) := by
  refine ⟨ps_imp (ps_asg he.run (pg_sub hpl.run hk.run (set_both (by omega)) ha) hs hw h1) fun D σ H ⟨O, ρ, I, q⟩ => ?_⟩
  unfold gPlSet at q
  split at q
  · rename_i r ef
    split at q
    · rename_i t' et'
      split at q
      · rename_i x ex
        split at q
        · rename_i rk ek
          split at q
          · rename_i whole ew
            refine ⟨O, ρ, r, I, ef, fun u H1 s1 rr => ⟨O, ρ, x, I.same s1, ex, fun v H2 s2 at2 => ⟨O, ρ, rk, I.same (s1.trans s2), ek, fun y H3 s3 r3 => ?_⟩⟩⟩
            obtain ⟨B, rB, ndB, nB⟩ := hl X.K O.O H H1 u r t' I.tr rr et'
            have s13 := (s1.trans s2).trans s3
            have t3 := Top.rep (O := []) r3.bare
            obtain ⟨x1, x2⟩ := x
            have rB3 : Tr X.K H3 (B ++ O.O) u t' B := rB.same (s2.trans s3)
            have at0 := at2 H s1 I
            unfold plSet at ew
            split at ew
            · rename_i ts ets
              dsimp only at ets
              subst ets
              split at ew
              · rename_i n en
                rw [en] at t3
                split at ew
                · rename_i j ej
                  cases ew
                  obtain ⟨g, w, t, eg, ew, et, rt, A1, C, A2, eA, rC, fill⟩ := id at0
                  cases rC with
                  | ol h1 hzz hr =>
                    rename_i pp vs A
                    have hlen := hr.length
                    have pO : pp ∈ O.O := at0.inO (A := []) I fun C rC => by cases rC; exact List.mem_cons_self
                    have pB : pp ∉ B := fun z => I.tr pp pO (nB pp z)
                    obtain ⟨O', J, E⟩ := I.plant (Same.refl H) s13 at0 (o := .lst (vs.set j u)) (u := .ol (ts.set j t')) trivial ndB nB (fun a z => rB3.foot a z) (fun A0 C0 eC r0 nC => by
                      cases r0 with
                      | ol h1' hz' hr' =>
                        cases eC
                        rw [h1] at h1'
                        cases h1'
                        have nA := List.nodup_cons.mp nC
                        have hj : j < ts.length := (ixN_seq ej).2.1
                        obtain ⟨w0, B1, B2, B3, g1, g2, g3, g4⟩ := hr'.split (List.getElem?_eq_getElem hj)
                        subst g2
                        have z := g4 _ _ u t' B (ft_up (o := .lst (vs.set j u)) s13 pO nB (fun a z => hr'.foot a (mem_mid z)) fun z => nA.1 (mem_mid z)) (new_up pO pB rB3)
                        exact ⟨B1 ++ (B ++ B3), .ol upd_same (by rw [List.length_set]; exact hz') z, nd_ins (nd_mid nA.2) ndB fun q z y => mut_has (hr'.foot q (mem_mid y)) (nB q z), fun a z => (mem_mid_iff.mp z).elim .inr fun y => .inl (mem_mid y)⟩) (fun C rC => by cases rC; exact ⟨_, rfl⟩)
                    exact .inl ⟨pp, vs, n, j, rfl, t3.int, s13 _ _ h1, by rw [hlen]; exact ej, q O' _ σ J E⟩
                · cases ew
              · cases ew
            · rename_i kvs ek'
              dsimp only at ek'
              subst ek'
              split at ew
              · rename_i hc
                simp only [Bool.and_eq_true, decide_eq_true_eq] at hc
                cases ew
                obtain ⟨κ, hκ⟩ := isKey_kD hc.1.1
                rw [hκ] at t3 hc q
                obtain ⟨g, w, t, eg, ew, et, rt, A1, C, A2, eA, rC, fill⟩ := id at0
                cases rC with
                | od h1 hr =>
                  rename_i pp vs A
                  have hlen := hr.length
                  have hz := hc.2
                  rw [sizeN_eq] at hz
                  have pO : pp ∈ O.O := at0.inO (A := []) I fun C rC => by cases rC; exact List.mem_cons_self
                  have pB : pp ∉ B := fun z => I.tr pp pO (nB pp z)
                  obtain ⟨O', J, E⟩ := I.plant (Same.refl H) s13 at0 (o := .dK (putK vs κ u)) (u := .od (tputD kvs (kD κ) t')) trivial ndB nB (fun a z => rB3.foot a z) (fun A0 C0 eC r0 nC => by
                    cases r0 with
                    | od h1' hr' =>
                      cases eC
                      rw [h1] at h1'
                      cases h1'
                      have nA := List.nodup_cons.mp nC
                      unfold putK tputD
                      rw [hr'.anyK (k := κ), tget_any]
                      cases et : tgetD kvs (kD κ) with
                      | some t0 =>
                        obtain ⟨w0, B1, B2, B3, g1, g2, g3, _, g4⟩ := hr'.split hc.1.2 et
                        subst g2
                        have z := g4 _ _ u t' B (ft_up (o := .dK (vs.map fun kv => if kv.1 = κ then (kv.1, u) else kv)) s13 pO nB (fun a z => hr'.foot a (mem_mid z)) fun z => nA.1 (mem_mid z)) (new_up pO pB rB3)
                        exact ⟨B1 ++ (B ++ B3), .od upd_same z, nd_ins (nd_mid nA.2) ndB fun q z y => mut_has (hr'.foot q (mem_mid y)) (nB q z), fun a z => (mem_mid_iff.mp z).elim .inr fun y => .inl (mem_mid y)⟩
                      | none =>
                        refine ⟨A0 ++ B, .od upd_same ((oldk_up s13 pO nB hr' nA.1).append ?_), List.nodup_append.mpr ⟨nA.2, ndB, fun a z b y e => ?_⟩, fun a z => List.mem_append.mp z⟩
                        · have := KTrs.cons (k := κ) (new_up (o := .dK (vs ++ [(κ, u)])) pO pB rB3) (.nil (K := X.K) (H := upd H3 pp (.dK (vs ++ [(κ, u)]))) (O := B ++ O.O))
                          rw [List.append_nil] at this
                          exact this
                        · have m := hr'.foot a z
                          rw [e, nB b y] at m
                          exact m) (fun C rC => by cases rC; exact ⟨_, rfl⟩)
                  refine .inr ⟨pp, _, rfl, ?_, q O' _ σ J E⟩
                  rw [rep_kD t3]
                  exact DPut.k (s13 _ _ h1) (by rw [hlen]; exact hz)
              · cases ew
            · cases ew
          · exact q.elim
        · exact q.elim
      · exact q.elim
    · exact q.elim
  · exact q.elim
end
end VL
namespace VL
open PySem PySem.Spec
open PyProof.Rows L2
variable [Vx]
/-! ### evaluation of walks and places -/
section
variable {f fk : FE} {fp : FP} {ρ : En} {q : Bool}
theorem so_frl (ds : List D) : seqOf q (.fr (.list ds)) = .ok ds := rfl
theorem so_frt (ds : List D) : seqOf q (.fr (.tuple ds)) = .ok ds := rfl
theorem so_ol (ds : List D) : seqOf q (.ol ds) = .ok ds := rfl
theorem so_bw (ds : List D) : seqOf true (.bw (.list ds)) = .ok ds := rfl
theorem so_btl (ds : List D) : seqOf true (.bt (.list ds)) = if imms ds = true then .ok ds else .bad := by
  show (if (true && imms ds) = true then Rs.ok ds else .bad) = _
  rw [Bool.true_and]
theorem so_btt (ds : List D) : seqOf q (.bt (.tuple ds)) = if imms ds = true then .ok ds else .bad := rfl
theorem ap_fEnumQ : fEnumQ f q ρ = (fIter f (seqOf q) ρ).bind fun ds => .ok (enumD ds) := rfl
theorem ap_pVar (i : Nat) : pVar i ρ = match treeAt i ρ with
  | some t => .ok (t, fun u => u)
  | none => .bad := rfl
theorem ap_treeAt (i : Nat) : treeAt i ρ = match ρ[i]? with
  | some (.ot t) => some t
  | some (.pt t) => some t
  | _ => none := rfl
theorem ap_putT (i : Nat) (t : T) : putT i ρ t = match ρ[i]? with
  | some (.pt _) => ρ.set i (.pt t)
  | _ => ρ.set i (.ot t) := rfl
theorem ap_pIx : pIx fp fk ρ = (fp ρ).bind fun x => (fk ρ).bind fun r => plIx x r := rfl
theorem px_ol (ts : List T) (b : T → T) (r : R) : plIx (.ol ts, b) r = match r.d with
    | .int n => (match ixN ts.length n with
      | some j => (match ts[j]? with
        | some t => .ok (t, fun u => b (.ol (ts.set j u)))
        | none => .bad)
      | none => .bad)
    | _ => .bad := rfl
theorem px_od (kvs : List (D × T)) (b : T → T) (r : R) : plIx (.od kvs, b) r = if (isKey r.d && oneK kvs r.d) = true then (match tgetD kvs r.d with
    | some t => .ok (t, fun u => b (.od (tputD kvs r.d u)))
    | none => .bad)
    else .bad := rfl
def useP (r : Rs (T × (T → T))) (k : T × (T → T) → So) : So := match r with
  | .ok x => k x
  | _ => .bad
theorem useP_ok (x : T × (T → T)) (k : T × (T → T) → So) : useP (.ok x) k = k x := rfl
def appK (i : Nat) (lf : R → Option T) (f : FE) (ρ : En) (x : T × (T → T)) : So := match x.1 with
  | .ol ts => useR (f ρ) fun r => match lf r with
    | some t => if ts.length < sizeN then .nx (putT i ρ (x.2 (.ol (ts ++ [t])))) else .bad
    | none => .bad
  | _ => .bad
where
  useR (r : Rs R) (k : R → So) : So := match r with
    | .ok x => k x
    | _ => .bad
theorem ap_gPlApp (i : Nat) (lf : R → Option T) : gPlApp i lf fp f ρ = useP (fp ρ) fun x => appK i lf f ρ x := by
  unfold gPlApp useP appK
  rfl
theorem appK_ol (i : Nat) (lf : R → Option T) (ts : List T) (b : T → T) : appK i lf f ρ (.ol ts, b) = useS (f ρ) fun r => match lf r with
    | some t => if ts.length < sizeN then .nx (putT i ρ (b (.ol (ts ++ [t])))) else .bad
    | none => .bad := by
  unfold appK appK.useR useS
  cases f ρ <;> rfl
theorem ap_gPlSet (i : Nat) (lf : R → Option T) : gPlSet i lf fp fk f ρ = useS (f ρ) fun r => match lf r with
    | some t => useP (fp ρ) fun x => useS (fk ρ) fun rk => match plSet x rk t with
      | some w => .nx (putT i ρ w)
      | none => .bad
    | none => .bad := by
  unfold gPlSet useS useP
  cases f ρ with
  | ok r =>
    dsimp only
    cases lf r with
    | none => rfl
    | some t =>
      dsimp only
      cases fp ρ with
      | ok x => dsimp only; cases fk ρ <;> rfl
      | ex e => rfl
      | bad => rfl
  | ex e => rfl
  | bad => rfl
theorem ps_ol (ts : List T) (b : T → T) (rk : R) (t : T) : plSet (.ol ts, b) rk t = match rk.d with
    | .int n => (match ixN ts.length n with
      | some j => some (b (.ol (ts.set j t)))
      | none => none)
    | _ => none := rfl
theorem ps_od (kvs : List (D × T)) (b : T → T) (rk : R) (t : T) : plSet (.od kvs, b) rk t = if (isKey rk.d && oneK kvs rk.d && decide (kvs.length < sizeN)) = true then some (b (.od (tputD kvs rk.d t))) else none := rfl
theorem lf_fr (d : D) : toLf (.fr d) = some (.fz d) := rfl
theorem lf_ol (d : List D) : toLf (.ol d) = some (.fz (.list d)) := rfl
theorem lf_od (d : List (D × D)) : toLf (.od d) = some (.fz (.dict d)) := rfl
theorem tT_ol (d : List D) : toT (.ol d) = some (.ol (d.map .fz)) := rfl
theorem tT_od (d : List (D × D)) : toT (.od d) = some (.od (d.map fun p => (p.1, .fz p.2))) := rfl
theorem tT_ot (t : T) : toT (.ot t) = some t := rfl
theorem td_fz (d : D) : T.d (.fz d) = d := by unfold T.d; rfl
theorem td_ol (ts : List T) : T.d (.ol ts) = .list (T.ds ts) := by
  conv => lhs; unfold T.d
theorem td_od (ts : List (D × T)) : T.d (.od ts) = .dict (T.kds ts) := by
  conv => lhs; unfold T.d
theorem tds_map {α : Type} (g : α → T) : ∀ xs : List α, T.ds (xs.map g) = xs.map fun x => (g x).d
  | [] => by unfold T.ds; rfl
  | x :: xs => by
    rw [List.map_cons]
    unfold T.ds
    rw [tds_map g xs, List.map_cons]
theorem tds_fz (xs : List D) : T.ds (xs.map .fz) = xs := by
  rw [tds_map]
  conv => rhs; rw [← List.map_id xs]
  exact List.map_congr_left fun d _ => td_fz d
theorem ixN_n (n j : Nat) (h : j < n) : ixN n (j : Int) = some j := by
  unfold ixN
  rw [if_pos (Int.natCast_nonneg j), if_pos (by omega), Int.toNat_natCast]
end
end VL
namespace VL
open PySem PySem.Spec
open PyProof.Rows L2
variable [Vx]
/-! ### all(e for ..) as a function of data -/
def gxLoop (al : Bool) (st : D → En → Option En) (tt : En → Rs Bool) (fe : FE) (ρ : En) : List D → Rs Bool
  | [] => .ok al
  | d :: ds => match st d ρ with
    | none => .bad
    | some ρ1 => (tt ρ1).bind fun k => if k = true then (fe ρ1).bind fun r => match r with
        | .fr (.bool b) => if b = al then gxLoop al st tt fe ρ ds else .ok b
        | _ => .bad
      else gxLoop al st tt fe ρ ds
def fAll (al : Bool) (fi : En → Rs (List D)) (st : D → En → Option En) (tt : En → Rs Bool) (fe : FE) (vs : List Nat) : FE := fun ρ => (fi ρ).bind fun ds => (gxLoop al st tt fe (wipeE ρ vs) ds).bind fun b => .ok (.fr (.bool b))
section
variable {X : Cx}
theorem gx_read {K : PySem.W.Frag} {al : Bool} {P : Addr} (hP : P ∈ Vx.τ) {fi : En → Rs (List D)} {st : D → En → Option En} {tt : En → Rs Bool} {fe : FE} {vs js : List Nat} (hj : ∀ j ∈ js, j ∈ vs) {σ : L2.St} {H : Hp} {Q : VK} (h : tE K (fAll al fi st tt fe vs) σ H Q) :
    tGx al (fun σ H R => tI K true fi σ H fun J H1 => H1 P = some (tabO P) ∧ R J H1) (tG K js st) (tT K tt) (tE K fe) vs σ H Q := by
  obtain ⟨O, ρ, r, I, hf, q⟩ := h
  obtain ⟨ds, e1, hf⟩ := Rs.bind_eq hf
  obtain ⟨bb, e2, hf⟩ := Rs.bind_eq hf
  cases hf
  refine ⟨O, ρ, ds, I, e1, fun J H1 s1 jok _ => ?_⟩
  have I1 := I.same s1
  refine ⟨(I1.hg.tb P hP).1, fun i m H' => m = ds.length - i ∧ i ≤ ds.length ∧ Same H1 H' ∧ gxLoop al st tt fe (wipeE ρ vs) (ds.drop i) = .ok bb, ⟨ds.length, by simp, Nat.zero_le _, Same.refl _, e2⟩, ?_⟩
  rintro i m H' ⟨rfl, hi, sm, hl⟩
  obtain ⟨jgo, jstop⟩ := jok i H' (fun a o e _ => sm a o e)
  by_cases hlt : i < ds.length
  · obtain ⟨go, item⟩ := jgo ds[i] (List.getElem?_eq_getElem hlt)
    refine .inr ⟨go, fun H3 => i + 1 ≤ ds.length ∧ Same H1 H3 ∧ gxLoop al st tt fe (wipeE ρ vs) (ds.drop (i + 1)) = .ok bb, fun H3 h3 => ⟨ds.length - (i + 1), by omega, rfl, h3⟩, fun x H2 hy => ?_⟩
    obtain ⟨s2, hx⟩ := item x H2 hy
    have s12 := sm.trans s2
    have B : ER K ⟨O.O, O.γ⟩ H2 σ ρ := I1.same s12
    obtain ⟨γ2, I2⟩ := B.wipe vs
    have hxd := hx O.O (fun a h => .inl h) (fun a h => Same.tr sm I1.tr a h)
    rw [List.drop_eq_getElem_cons hlt] at hl
    unfold gxLoop at hl
    cases e3 : st ds[i] (wipeE ρ vs) with
    | none => rw [e3] at hl; cases hl
    | some ρ1 =>
      rw [e3] at hl
      dsimp only at hl
      obtain ⟨k, e4, hl⟩ := Rs.bind_eq hl
      refine ⟨⟨O.O, γ2⟩, wipeE ρ vs, ds[i], ρ1, I2, hxd, e3, fun O4 σ2 J2 hm hO4 on => ⟨?_, O4, ρ1, k, J2, e4, fun H3 s3 => ?_⟩⟩
      · rw [← wipe_wipe σ vs]
        exact wipe_only ⟨on.1, fun i hi => on.2 i fun z => hi (hj i z)⟩
      · have s13 := s12.trans s3
        cases k with
        | false =>
          simp only [Bool.false_eq_true, if_false] at hl ⊢
          exact ⟨hlt, s13, hl⟩
        | true =>
          simp only [if_true] at hl ⊢
          obtain ⟨r, e5, hl⟩ := Rs.bind_eq hl
          refine ⟨O4, ρ1, r, J2.same s3, e5, fun v H4 s4 rr => ?_⟩
          split at hl
          · rename_i b
            cases (show Rep K H4 O4.O v (.bool b) from rr)
            refine ⟨b, rfl, ?_⟩
            split at hl
            · rename_i hb
              exact .inl ⟨hb, hlt, s13.trans s4, hl⟩
            · rename_i hb
              cases hl
              exact .inr ⟨hb, q _ H4 (s1.trans (s13.trans s4)) (.bl _)⟩
          · cases hl
  · have e : i = ds.length := by omega
    subst e
    rw [List.drop_length] at hl
    cases hl
    exact .inl ⟨jstop (Nat.le_refl _), q _ H' (s1.trans sm) (.bl _)⟩
variable {k : Nat} {c P : Addr} {elt tg iter : Expr} {ifs : List Expr} {scope : Scope} {own' : List (Str × Nat)} {p pos gpos : Pos} {fi : En → Rs (List D)} {st : D → En → Option En} {tt : En → Rs Bool} {fe : FE} {js : List Nat}
theorem e_all (hr : Room (k + 1) X.A) (hc : X.calm = true) (hN : X.N.Nodup) (hm : X.mg "all" = none) (TB : GxR.TabB X.base X.mg c P) (hP : P ∈ Vx.τ) (hcode : X.env.code = .ref c) (hi : IV X true tg iter fi) (ok : BlkOk X.N X.env.scope scope own')
    (hg : ∀ (s : Shared) (H : Hp) (C : Addr) (code : Value) (a : Addr) (go : Obj) (fp : List Addr) (A : Around), Room k A → GV (Cxg X s H scope C code a go fp A) tg js st)
    (ht : ∀ (s : Shared) (H : Hp) (C : Addr) (code : Value) (a : Addr) (go : Obj) (fp : List Addr) (A : Around), Room k A → TsV (Cxg X s H scope C code a go fp A) ifs tt)
    (he : ∀ (s : Shared) (H : Hp) (C : Addr) (code : Value) (a : Addr) (go : Obj) (fp : List Addr) (A : Around), Room k A → EV (Cxg X s H scope C code a go fp A) elt fe)
    (hj : ∀ j ∈ js, j ∈ own'.map (·.2) := by decide) (nc : ∀ y ∈ scope.names, y.2 ≠ .cell := by decide +kernel) (h0 : scope.names.lookup (".0" : Str) = some NameKind.local := by decide +kernel) (hco : scope.isCoroutine = false := by rfl)
    (hs : ∀ x, genFold iter X.env x = pure x := by intro _; rfl) (hgl : Gl X "all" := by rfl)
    (hst : starEach [.GeneratorExp elt [⟨tg, iter, ifs, 0⟩] scope gpos] X.env = (false, eval (.GeneratorExp elt [⟨tg, iter, ifs, 0⟩] scope gpos) X.env) :: starEach [] X.env := by rfl) :
    EV X (.Call (.Name "all" p) [.GeneratorExp elt [⟨tg, iter, ifs, 0⟩] scope gpos] [] pos) (fAll true fi st tt fe (own'.map (·.2))) := by
  refine ⟨pe_imp (pe_all hr hc hN hm TB hcode hi.run ok nc h0 hco (fun s H C code a go fp A h => (hg s H C code a go fp A h).run) (fun s H C code a go fp A h => (ht s H C code a go fp A h).run) (fun s H C code a go fp A h => (he s H C code a go fp A h).run) hs hgl hst) fun σ H Q h => gx_read hP hj h⟩
theorem ap_fAll (al : Bool) (vs : List Nat) (ρ : En) : fAll al fi st tt fe vs ρ = (fi ρ).bind fun ds => (gxLoop al st tt fe (wipeE ρ vs) ds).bind fun b => .ok (.fr (.bool b)) := rfl
/-- all of the items, by a test of them -/
theorem gx_all {α : Type} {f : α → D} {ρ : En} {pr t : α → Bool} : ∀ (xs : List α), (∀ x ∈ xs, ∃ ρ1, st (f x) ρ = some ρ1 ∧ tt ρ1 = .ok (pr x) ∧ (pr x = true → fe ρ1 = .ok (.fr (.bool (t x))))) →
    gxLoop true st tt fe ρ (xs.map f) = .ok ((xs.filter pr).all t)
  | [], _ => rfl
  | x :: xs, h => by
    obtain ⟨ρ1, e1, e2, e3⟩ := h x List.mem_cons_self
    have ih := gx_all xs fun y hy => h y (List.mem_cons_of_mem _ hy)
    rw [List.map_cons]
    unfold gxLoop
    rw [e1]
    dsimp only
    rw [e2, Rs.bind_ok, List.filter_cons]
    cases hp : pr x with
    | false =>
      simp only [Bool.false_eq_true, if_false]
      exact ih
    | true =>
      simp only [if_true]
      rw [e3 hp, Rs.bind_ok, List.all_cons]
      cases ht : t x with
      | true => simp only [if_true, Bool.true_and]; exact ih
      | false => simp only [Bool.false_eq_true, if_false, Bool.false_and]
end
end VL
namespace VL
open PySem PySem.Spec
open PyProof.Rows L2
/-! ### small sets of ints: one taken over into a new one -/
section
variable {P : Program} {w : World} {A : Around} {E : Value → Shared → Prop} {s : Shared} {a r : Addr} {S : Int → Bool} {n : Nat}
abbrev newSetO (w : World) : Obj := { cls := .type "set", dict := none, data := .set #[] 0 (.fresh 0 0 (!w.params.followText "set-order")) }
theorem merge_new {each : Sem Unit} {Q : Unit → Shared → Prop} (hne : r ≠ a) (hr : s.heap.get? r = some (newSetO w)) (R : SetR w s.heap a S n) (hn : n ≤ 4) (hQ : ∀ h', Heap.SameBut r s.heap h' → SetR w h' r S n → Q () { s with heap := h' }) :
    wpAny (model P w) A (setMerge r a each) Q E s := by
  obtain ⟨o, es, ep, t, ho, hex, hd, g, nd, hm, hb, hf, hsz, ris, led⟩ := R
  unfold setMerge
  have e1 : (r == a) = false := beq_eq_false_iff_ne.mpr hne
  simp only [e1, Bool.false_eq_true, if_false, pure_bind]
  refine wpAny_bind (wpAny_setState_of ho hd hf ?_)
  dsimp only
  split
  · rename_i he
    have he' : es = #[] := Array.isEmpty_iff.mp he
    subst he'
    refine wpAny_pure (hQ s.heap (Heap.SameBut.refl r s.heap) ?_)
    have hn0 : n = 0 := by rw [← hsz]; rfl
    subst hn0
    refine (setR_new_at (ns := []) hr).congr fun k => ?_
    have := hm k
    cases hS : S k with
    | false => simp
    | true => rw [hS] at this; simp at this
  · rename_i he
    have ht0 : (SetTable.fresh 0 0 (!w.params.followText "set-order")).fits (#[] : Array (Int × Value)).size = true := rfl
    refine wpAny_bind ?_
    unfold setRoomFor
    refine wpAny_bind (wpAny_setState_of hr rfl ht0 ?_)
    dsimp only
    have hroom : (SetTable.fresh 0 0 (!w.params.followText "set-order")).roomFor es.size = none := by
      unfold SetTable.roomFor
      rw [if_neg]
      show ¬ ((0 + 0 + es.size) * 5 ≥ 7 * 3)
      omega
    rw [hroom]
    dsimp only
    refine wpAny_pure ?_
    refine wpAny_bind (wpAny_setState_of hr rfl ht0 ?_)
    dsimp only
    have fin : ∀ (es1 : Array (Int × Value)) (t1 : SetTable), es1.toList.Perm es.toList → t1.fits es1.size = true → Ris t1.place.toList → (w.params.followText "set-order" = true ∨ t1.led = true) → wpAny (model P w) A (storeSet r es1 t1) Q E s := fun es1 t1 pm hf1 r1 l1 => by
      have hs1 : es1.size = es.size := by rw [← Array.length_toList, pm.length_eq, Array.length_toList]
      refine wpAny_storeSet_of hr rfl ?_ (fits_of_scanBound (by rw [hs1]; exact hb))
      refine hQ _ (Heap.SameBut.update s.heap r (Obj.putSet es1 t1)) ?_
      exact ⟨_, es1, _, t1, store_at hr rfl, ⟨rfl, rfl, rfl⟩, rfl, fun e he => g e (pm.mem_iff.mp he), (pm.map keyOf).nodup_iff.mpr nd, fun k => (hm k).trans (pm.map keyOf).mem_iff.symm, by rw [hs1]; exact hb, hf1, hs1.trans hsz, r1, l1⟩
    have ledT : w.params.followText "set-order" = true ∨ ((!w.params.followText "set-order") && t.led) = true := by
      cases hq : w.params.followText "set-order" with
      | true => exact .inl rfl
      | false =>
        rcases led with z | z
        · rw [hq] at z; cases z
        · exact .inr (by rw [z]; rfl)
    cases hrd : (SetTable.fresh 0 0 (!w.params.followText "set-order")).road t with
    | slotForSlot => exact fin es _ (List.Perm.refl _) (by cases t; exact hf) ris ledT
    | oneByOne =>
      unfold SetTable.road at hrd
      exfalso
      have h0 : ((SetTable.fresh 0 0 (!w.params.followText "set-order")).fill != 0) = false := rfl
      rw [h0, if_neg Bool.false_ne_true] at hrd
      split at hrd <;> cases hrd
    | clean =>
      dsimp only
      -- the table is laid anew
      have hns : (es.map (·.1)).size ≤ 7 := by rw [Array.size_map]; omega
      obtain ⟨t', order, e2, pm, tk, hmask, hled, _, hdm⟩ := relaid_ok { SetTable.fresh 0 0 ((!w.params.followText "set-order") && t.led) with plain := t.plain } (hs := es.map (·.1)) (wanted := 0) (M := 7) rfl (.inl rfl) hns
      have e3 : SetTable.laid (SetTable.fresh 0 0 (!w.params.followText "set-order")).mask (SetTable.fresh 0 0 (!w.params.followText "set-order")).finger (SetTable.fresh 0 0 (!w.params.followText "set-order")).moves
          ((SetTable.fresh 0 0 (!w.params.followText "set-order")).led && t.led) ((SetTable.fresh 0 0 (!w.params.followText "set-order")).plain && t.plain) (es.map (·.1)) = some (t', order) := by
        rw [← e2]
        rfl
      rw [e3]
      rw [Array.size_map] at pm
      have perm : (order.filterMap fun i => es[i]?).toList.Perm es.toList := by
        rw [Array.toList_filterMap]
        refine (pm.filterMap _).trans ?_
        have : (List.range es.size).filterMap (fun i => es[i]?) = es.toList := by
          have gen : ∀ m, m ≤ es.size → (List.range m).filterMap (fun i => es[i]?) = es.toList.take m := fun m => by
            induction m with
            | zero => exact fun _ => rfl
            | succ m ih =>
              intro hlt
              have hlt' : m < es.size := hlt
              have em : es[m]? = some es[m] := Array.getElem?_eq_getElem hlt'
              rw [List.range_succ, List.filterMap_append, ih (Nat.le_of_lt hlt'), List.filterMap_cons_some em, List.filterMap_nil, List.take_succ, Array.getElem?_toList, em]
              rfl
          have h1 := gen es.size (Nat.le_refl _)
          rw [← Array.length_toList, List.take_length] at h1
          rw [Array.length_toList] at h1
          exact h1
        rw [this]
      have size : (order.filterMap fun i => es[i]?).size = es.size := by rw [← Array.length_toList, perm.length_eq, Array.length_toList]
      refine wpAny_bind (m := if ((order.filterMap fun i => es[i]?).size != es.size) = true then do
          unsupported "internal:set-table-lost-an-element"
          pure (order.filterMap fun i => es[i]?, t') else pure (order.filterMap fun i => es[i]?, t')) ?_
      rw [if_neg (by rw [size]; simp)]
      refine wpAny_pure ?_
      dsimp only
      refine fin _ t' perm ?_ tk.ris (by rw [hled]; exact ledT)
      unfold SetTable.fits SetTable.fill
      rw [hdm, hmask, tk.sz, size]
      have hl : (order.toList.map fun i => (es.map (·.1)).getD i 0).length = es.size := by rw [List.length_map, pm.length_eq, List.length_range]
      rw [hl]
      simp
      omega
theorem walk_one {i : Int} {others : List Addr} {f : Option Addr} {Q : Array (Int × Value) → Shared → Prop} (R : SetR w s.heap a S 1) (hS : S i = true) (hQ : ∀ tk, Q #[(hashInt i, .int i tk)] s) : wpAny (model P w) A (setWalkUnseen a others f) Q E s := by
  obtain ⟨o, es, ep, t, ho, hex, hd, g, nd, hm, hb, hf, hsz, ris, led⟩ := R
  obtain ⟨e, he⟩ : ∃ e, es.toList = [e] := List.length_eq_one_iff.mp (by rw [Array.length_toList]; exact hsz)
  have hes : es = #[e] := by
    apply Array.toList_inj.mp
    rw [he]
  obtain ⟨k, tk, g1, g2⟩ := g e (by rw [he]; exact List.mem_singleton_self e)
  have hk : i = k := by
    have := (hm i).mp hS
    rw [he] at this
    have z : i = keyOf e := List.mem_singleton.mp this
    unfold keyOf at z
    rw [g1] at z
    exact z
  have fin : Q es s := by
    have := hQ tk
    rw [hk, ← g1, ← g2] at this
    rw [hes]
    exact this
  have walk : wpAny (model P w) A (setWalk a) Q E s := by
    unfold setWalk
    refine wpAny_bind (wpAny_setState_of ho hd hf ?_)
    dsimp only
    refine wpAny_bind (wpAny_byText ?_)
    cases w.params.followText "set-order" with
    | true =>
      simp only [if_true]
      refine wpAny_bind (wpAny_askSetting (wpAny_pure ?_))
      have pp := pick_perm (w.params.setOrder a ep) es
      rw [he] at pp
      have : pickOrder (w.params.setOrder a ep) es = es := by
        apply Array.toList_inj.mp
        rw [he]
        exact List.perm_singleton.mp pp
      have z : Q (pickOrder (w.params.setOrder a ep) es) s := by
        rw [this]
        exact fin
      exact z
    | false =>
      simp only [Bool.false_eq_true, if_false]
      refine wp_if_neg (show ¬ (!t.plain && decide (es.size > 1)) = true by rw [hsz]; simp) ?_
      refine wpAny_bind (m := if (!t.led && decide (es.size > 1)) = true then unsupported "set:maker-not-led" else pure ()) ?_
      rw [if_neg (by rw [hsz]; simp)]
      exact wpAny_pure (wpAny_pure fin)
  unfold setWalkUnseen
  refine wpAny_bind (wpAny_setState_of ho hd hf ?_)
  dsimp only
  refine wpAny_bind (wpAny_byText ?_)
  have c : (w.params.followText "set-order" || t.led && t.plain || decide (es.size ≤ 1)) = true := by
    rw [hsz]
    simp
  rw [if_pos c]
  exact walk
end
end VL
namespace VL
open PySem PySem.Spec
open PyProof.Rows L2
/-! ### tables of any of the small sizes can be laid -/
/-- the way i -> 5 i + 1 meets every slot -/
def Full (m : Nat) : Prop := (∀ j, j ≤ m → ∃ b, b ≤ m ∧ lcgN m b = j) ∧ lcgN m (m + 1) = 0
def fullB (m : Nat) : Bool := ((List.range (m + 1)).all fun j => (List.range (m + 1)).any fun b => lcgN m b == j) && lcgN m (m + 1) == 0
theorem full_by {m : Nat} (h : fullB m = true) : Full m := by
  unfold fullB at h
  rw [Bool.and_eq_true] at h
  refine ⟨fun j hj => ?_, beq_iff_eq.mp h.2⟩
  obtain ⟨b, hb, e⟩ := List.any_eq_true.mp (List.all_eq_true.mp h.1 j (List.mem_range.mpr (by omega)))
  exact ⟨b, by have := List.mem_range.mp hb; omega, beq_iff_eq.mp e⟩
theorem full7 : Full 7 := full_by (by decide +kernel)
theorem full15 : Full 15 := full_by (by decide +kernel)
theorem full31 : Full 31 := full_by (by decide +kernel)
theorem full63 : Full 63 := full_by (by decide +kernel)
theorem full127 : Full 127 := full_by (by decide +kernel)
section
variable {m : Nat}
theorem full_mod (F : Full m) : ∀ k, lcgN m (m + 1 + k) = lcgN m k
  | 0 => F.2
  | k + 1 => congrArg (fun z => (z * 5 + 1) % (m + 1)) (full_mod F k)
theorem full_from (F : Full m) {i j : Nat} (hi : i ≤ m) (hj : j ≤ m) : ∃ k, k ≤ m ∧ lcgI m i k = j := by
  obtain ⟨x, hx, rfl⟩ := F.1 i hi
  obtain ⟨y, hy, rfl⟩ := F.1 j hj
  by_cases c : x ≤ y
  · exact ⟨y - x, by omega, by rw [lcgN_add, Nat.add_sub_cancel' c]⟩
  · refine ⟨y + (m + 1) - x, by omega, ?_⟩
    rw [lcgN_add, show x + (y + (m + 1) - x) = m + 1 + y by omega, full_mod F]
theorem full_free (F : Full m) (owner : Array (Option Nat)) (hs : owner.size = m + 1) (h : Int) {j : Nat} (hj : j ≤ m) (hf : oAt owner j = none) :
    ∃ y, SetTable.layClean.free m owner (SetTable.turns m) (SetTable.bits h % (m + 1)) (SetTable.bits h) = some y ∧ y < owner.size ∧ oAt owner y = none := by
  obtain ⟨k0, hk0, e0⟩ := full_from F (runI_le m (SetTable.bits h) 12) hj
  have e1 : runI m (SetTable.bits h) (12 + k0) = j := by rw [runI_tail (bits_lt h)]; exact e0
  have e2 : way m h (off m (SetTable.bits h % (m + 1)) (SetTable.bits h) (12 + k0)) = j := by
    have z := nth_off m (12 + k0) (SetTable.bits h % (m + 1)) (SetTable.bits h)
    rw [itL_run] at z
    exact (congrArg SetTable.Probe.j z).trans e1
  obtain ⟨N, n1, n2, n3⟩ := st_least (p := fun k => oAt owner (way m h k) = none) _ (show oAt owner (way m h (off m (SetTable.bits h % (m + 1)) (SetTable.bits h) (12 + k0))) = none by rw [e2]; exact hf)
  have busy : ∀ k, k < N → (oAt owner (way m h k)).isNone = false := fun k hk => by
    have := n3 k hk
    revert this
    cases oAt owner (way m h k) with
    | none => exact fun q => absurd rfl q
    | some _ => exact fun _ => rfl
  have free : (oAt owner (way m h N)).isNone = true := by
    have z : oAt owner (way m h N) = none := n2
    rw [z]
    rfl
  refine ⟨way m h N, free_spec m owner (SetTable.turns m) (12 + k0) _ _ N (by unfold SetTable.turns; omega) n1 busy free, ?_, n2⟩
  rcases Nat.lt_or_ge (way m h N) owner.size with q | q
  · exact q
  · have z : oAt owner (way m h N) = some 0 := by
      show owner.getD (way m h N) (some 0) = some 0
      rw [Array.getD_eq_getD_getElem?, Array.getElem?_eq_none q]
      rfl
    have z2 : oAt owner (way m h N) = none := n2
    rw [z2] at z
    cases z
/-- n of the slots are taken, by the numbers below n -/
structure Sat (m n : Nat) (owner : Array (Option Nat)) : Prop where
  sz : owner.size = m + 1
  all : ∀ k, k < n → ∃ j, j ≤ m ∧ oAt owner j = some k
  few : ∃ ps : List Nat, ps.length = n ∧ ∀ j, j ≤ m → oAt owner j ≠ none → j ∈ ps
theorem Sat.start (m : Nat) : Sat m 0 (Array.replicate (m + 1) none) := by
  refine ⟨Array.size_replicate, fun k hk => absurd hk (Nat.not_lt_zero _), [], rfl, fun j hj e => ?_⟩
  exact absurd (oAt_init hj) e
theorem Sat.next (F : Full m) {n : Nat} {owner : Array (Option Nat)} (W : Sat m n owner) (hn : n ≤ m) (h : Int) :
    ∃ y, SetTable.layClean.free m owner (SetTable.turns m) (SetTable.bits h % (m + 1)) (SetTable.bits h) = some y ∧ Sat m (n + 1) (owner.setIfInBounds y (some n)) := by
  obtain ⟨ps, hp, inp⟩ := W.few
  obtain ⟨x, hx, nx⟩ := st_missing ps (m + 1) (by omega)
  have fx : oAt owner x = none := by
    cases z : oAt owner x with
    | none => rfl
    | some k => exact absurd (inp x (by omega) (by rw [z]; exact fun q => nomatch q)) nx
  obtain ⟨y, e1, e2, e3⟩ := full_free F owner W.sz h (Nat.le_of_lt_succ hx) fx
  have ym : y ≤ m := by have := W.sz; omega
  refine ⟨y, e1, by rw [Array.size_setIfInBounds]; exact W.sz, fun k hk => ?_, y :: ps, by rw [List.length_cons, hp], fun j hj e => ?_⟩
  · by_cases c : k = n
    · rw [c]
      exact ⟨y, ym, oAt_set_self (some n) e2⟩
    · obtain ⟨j, h1, h2⟩ := W.all k (by omega)
      have ne : j ≠ y := fun q => by
        rw [q, e3] at h2
        cases h2
      exact ⟨j, h1, (oAt_set_ne _ ne).trans h2⟩
  · by_cases c : j = y
    · rw [c]
      exact List.mem_cons_self
    · rw [oAt_set_ne _ c] at e
      exact List.mem_cons_of_mem _ (inp j hj e)
theorem Sat.fold (F : Full m) : ∀ (hs : List Int) (n : Nat) (owner : Array (Option Nat)), Sat m n owner → n + hs.length ≤ m → ∃ o2, hs.foldl (stepF m) (some (owner, n)) = some (o2, n + hs.length) ∧ Sat m (n + hs.length) o2
  | [], n, owner, W, _ => ⟨owner, rfl, W⟩
  | h :: hs, n, owner, W, hl => by
    have hl : n + (hs.length + 1) ≤ m := hl
    obtain ⟨y, e, W2⟩ := W.next F (by omega) h
    obtain ⟨o2, f1, f2⟩ := Sat.fold F hs (n + 1) _ W2 (by omega)
    rw [List.length_cons, show n + (hs.length + 1) = n + 1 + hs.length by omega, List.foldl_cons, stepF_some e]
    exact ⟨o2, f1, f2⟩
theorem full_lay (F : Full m) {hs : Array Int} (hn : hs.size ≤ m) : ∃ owner, SetTable.layClean m hs = some owner ∧ Sat m hs.size owner := by
  obtain ⟨o2, f1, f2⟩ := Sat.fold F hs.toList 0 _ (Sat.start m) (by rw [Array.length_toList]; omega)
  rw [Nat.zero_add, Array.length_toList] at f1 f2
  refine ⟨o2, ?_, f2⟩
  rw [layClean_eq, f1]
  rfl
/-- the new table and the order of its elements -/
theorem full_laid (F : Full m) (fg mv : Nat) (l p : Bool) {hs : Array Int} (hn : hs.size ≤ m) :
    ∃ t order, SetTable.laid m fg mv l p hs = some (t, order) ∧ order.toList.Perm (List.range hs.size) ∧ t.fits hs.size = true ∧ Ris t.place.toList ∧ t.led = l ∧ t.mask = m ∧ t.dummies = #[] := by
  obtain ⟨owner, e, W⟩ := full_lay F hn
  have lives : SetTable.laid m fg mv l p hs = some ({ mask := m, place := ((liveOf m owner).map (·.1)).toArray, dummies := #[], finger := fg, led := l, moves := mv, plain := p }, ((liveOf m owner).map (·.2)).toArray) := by
    show (SetTable.layClean m hs).bind _ = _
    rw [e]
    rfl
  obtain ⟨r1, r2⟩ := ris_live (fun j => owner.getD j none) (List.range (m + 1)) (show (List.range (m + 1)).Pairwise (· < ·) from List.pairwise_lt_range)
  have rp : ((liveOf m owner).map (·.1)).Pairwise (· < ·) := r1
  have rn : ((liveOf m owner).map (·.1)).Nodup := rp.imp fun h => Nat.ne_of_lt h
  have len : (liveOf m owner).length = hs.size := by
    obtain ⟨ps, p1, p2⟩ := W.few
    have up := nat_nodup_len ((liveOf m owner).map (·.1)) ps rn fun x hx => by
      obtain ⟨⟨y, k⟩, hq, rfl⟩ := List.mem_map.mp hx
      obtain ⟨b1, b2⟩ := (mem_live W.sz).mp hq
      exact p2 _ b1 (by rw [b2]; exact fun z => nomatch z)
    have down := nat_nodup_len (List.range hs.size) ((liveOf m owner).map (·.2)) List.nodup_range fun k hk => by
      obtain ⟨j, b1, b2⟩ := W.all k (List.mem_range.mp hk)
      exact List.mem_map_of_mem (f := Prod.snd) ((mem_live W.sz).mpr ⟨b1, b2⟩)
    rw [List.length_map] at up down
    rw [List.length_range] at down
    omega
  refine ⟨_, _, lives, perm_range hs.size _ (by rw [List.length_map]; exact len) fun k hk => ?_, ?_, r1, rfl, rfl, rfl⟩
  · obtain ⟨j, b1, b2⟩ := W.all k hk
    exact List.mem_map_of_mem (f := Prod.snd) ((mem_live W.sz).mpr ⟨b1, b2⟩)
  · unfold SetTable.fits SetTable.fill
    have z : ((liveOf m owner).map (·.1)).toArray.size = hs.size := by rw [List.size_toArray, List.length_map]; exact len
    show (((liveOf m owner).map (·.1)).toArray.size == hs.size && decide (((liveOf m owner).map (·.1)).toArray.size + (#[] : Array Nat).size ≤ m)) = true
    rw [z]
    simp
    exact hn
end
end VL
namespace VL
open PySem PySem.Spec
open PyProof.Rows L2
/-! ### sets of ints: laid anew, joined -/
section
variable {P : Program} {w : World} {A : Around} {E : Value → Shared → Prop} {s : Shared} {a r : Addr} {S : Int → Bool} {n : Nat}
/-- as SetR, with the object -/
structure SetX (w : World) (h : Heap) (a : Addr) (S : Int → Bool) (n : Nat) (o : Obj) (es : Array (Int × Value)) (ep : Nat) (t : SetTable) : Prop where
  at_ : h.get? a = some o
  ex : o.ExactSet
  dt : o.data = .set es ep t
  gd : ∀ e ∈ es.toList, GoodE e
  nd : (es.toList.map keyOf).Nodup
  mm : ∀ k, S k = true ↔ k ∈ es.toList.map keyOf
  bd : es.size < scanBound
  ft : t.fits es.size = true
  sz : es.size = n
  rs : Ris t.place.toList
  ld : w.params.followText "set-order" = true ∨ t.led = true
theorem SetX.toR {h : Heap} {o : Obj} {es : Array (Int × Value)} {ep : Nat} {t : SetTable} (X : SetX w h a S n o es ep t) : SetR w h a S n := ⟨o, es, ep, t, X.at_, X.ex, X.dt, X.gd, X.nd, X.mm, X.bd, X.ft, X.sz, X.rs, X.ld⟩
theorem setX_of {h : Heap} (R : SetR w h a S n) : ∃ o es ep t, SetX w h a S n o es ep t := by
  obtain ⟨o, es, ep, t, h1, h2, h3, h4, h5, h6, h7, h8, h9, h10, h11⟩ := R
  exact ⟨o, es, ep, t, h1, h2, h3, h4, h5, h6, h7, h8, h9, h10, h11⟩
/-- the elements, in another order, in another table -/
theorem store_perm {o : Obj} {es : Array (Int × Value)} {ep : Nat} {t : SetTable} {o0 : Obj} {es0 : Array (Int × Value)} {ep0 : Nat} {t0 : SetTable} {S0 : Int → Bool} {n0 : Nat} {Q : Unit → Shared → Prop} (Y : SetX w s.heap r S0 n0 o0 es0 ep0 t0) {h : Heap} (X : SetX w h a S n o es ep t)
    (es1 : Array (Int × Value)) (t1 : SetTable) (pm : es1.toList.Perm es.toList) (f1 : t1.fits es1.size = true) (r1 : Ris t1.place.toList) (l1 : w.params.followText "set-order" = true ∨ t1.led = true)
    (hQ : ∀ h' o' ep', Heap.SameBut r s.heap h' → SetX w h' r S n o' es1 ep' t1 → Q () { s with heap := h' }) : wpAny (model P w) A (storeSet r es1 t1) Q E s := by
  have z : es1.size = es.size := by rw [← Array.length_toList, pm.length_eq, Array.length_toList]
  refine wpAny_storeSet_of Y.at_ Y.dt ?_ (fits_of_scanBound (by rw [z]; exact X.bd))
  exact hQ _ _ _ (Heap.SameBut.update s.heap r (Obj.putSet es1 t1)) ⟨store_at Y.at_ Y.dt, Y.ex, rfl, fun e he => X.gd e (pm.mem_iff.mp he), (pm.map keyOf).nodup_iff.mpr X.nd, fun k => (X.mm k).trans (pm.map keyOf).mem_iff.symm, by rw [z]; exact X.bd, f1, z.trans X.sz, r1, l1⟩
theorem order_perm {es : Array (Int × Value)} {order : Array Nat} (pm : order.toList.Perm (List.range es.size)) : (order.filterMap fun i => es[i]?).toList.Perm es.toList := by
  rw [Array.toList_filterMap]
  refine (pm.filterMap _).trans ?_
  have gen : ∀ m, m ≤ es.size → (List.range m).filterMap (fun i => es[i]?) = es.toList.take m := fun m => by
    induction m with
    | zero => exact fun _ => rfl
    | succ m ih =>
      intro hlt
      have hlt' : m < es.size := hlt
      have em : es[m]? = some es[m] := Array.getElem?_eq_getElem hlt'
      rw [List.range_succ, List.filterMap_append, ih (Nat.le_of_lt hlt'), List.filterMap_cons_some em, List.filterMap_nil, List.take_succ, Array.getElem?_toList, em]
      rfl
  have h1 := gen es.size (Nat.le_refl _)
  rw [← Array.length_toList, List.take_length] at h1
  rw [Array.length_toList] at h1
  rw [h1]
theorem relay_ok {wanted M : Nat} {Q : Unit → Shared → Prop} (R : SetR w s.heap r S n) (hw : SetTable.sizeAbove wanted - 1 = M) (hw2 : SetTable.sizeAbove wanted ≤ 128) (F : Full M) (hn : n ≤ M)
    (hQ : ∀ h' o es ep t, Heap.SameBut r s.heap h' → SetX w h' r S n o es ep t → t.mask = M → t.dummies = #[] → Q () { s with heap := h' }) : wpAny (model P w) A (setRelay r wanted) Q E s := by
  obtain ⟨o, es, ep, t, X⟩ := setX_of R
  unfold setRelay
  refine wpAny_bind (wpAny_setState_of X.at_ X.dt X.ft ?_)
  dsimp only
  rw [if_neg (by have : (128 : Nat) ≤ sizeLine := by rw [sizeLine_eq]; decide
                 omega)]
  obtain ⟨t', order, e1, pm, ft, rs, ld, mk, dm⟩ := full_laid F t.finger (t.movedTo (SetTable.sizeAbove wanted - 1)) t.led t.plain (hs := es.map (·.1)) (by rw [Array.size_map, X.sz]; exact hn)
  have e2 : t.relaid (es.map (·.1)) wanted = some (t', order) := by
    rw [← e1, ← hw]
    rfl
  rw [e2]
  rw [Array.size_map] at pm ft
  have perm := order_perm pm
  have size : (order.filterMap fun i => es[i]?).size = es.size := by rw [← Array.length_toList, perm.length_eq, Array.length_toList]
  refine wpAny_bind (m := if ((order.filterMap fun i => es[i]?).size != es.size) = true then do
      unsupported "internal:set-table-lost-an-element"
      pure (order.filterMap fun i => es[i]?, t') else pure (order.filterMap fun i => es[i]?, t')) ?_
  rw [if_neg (by rw [size]; simp)]
  refine wpAny_pure ?_
  dsimp only
  exact store_perm X X _ t' perm (by rw [size]; exact ft) rs (by rw [ld]; exact X.ld) fun h' o' ep' sb Y => hQ h' o' _ ep' t' sb Y mk dm
/-- the sizes that come -/
theorem sizes0 : ∀ k < 61, SetTable.sizeAbove (k * 2) ≤ 128 ∧ (SetTable.sizeAbove (k * 2) - 1 = 7 ∨ SetTable.sizeAbove (k * 2) - 1 = 15 ∨ SetTable.sizeAbove (k * 2) - 1 = 31 ∨ SetTable.sizeAbove (k * 2) - 1 = 63 ∨ SetTable.sizeAbove (k * 2) - 1 = 127) ∧ k ≤ SetTable.sizeAbove (k * 2) - 1 := by decide
theorem sizes (k : Nat) (h : k ≤ 60) : ∃ M, SetTable.sizeAbove (k * 2) - 1 = M ∧ SetTable.sizeAbove (k * 2) ≤ 128 ∧ (M = 7 ∨ M = 15 ∨ M = 31 ∨ M = 63 ∨ M = 127) ∧ k ≤ M :=
  ⟨_, rfl, (sizes0 k (Nat.lt_succ_of_le h)).1, (sizes0 k (Nat.lt_succ_of_le h)).2.1, (sizes0 k (Nat.lt_succ_of_le h)).2.2⟩
theorem size_full {M : Nat} (h : M = 7 ∨ M = 15 ∨ M = 31 ∨ M = 63 ∨ M = 127) : Full M := by
  rcases h with rfl | rfl | rfl | rfl | rfl
  · exact full7
  · exact full15
  · exact full31
  · exact full63
  · exact full127
/-- room is made -/
theorem room_ok {more : Nat} {Q : Unit → Shared → Prop} (R : SetR w s.heap r S n) (hm : n + more ≤ 60)
    (hQ : ∀ h' o es ep t, Heap.SameBut r s.heap h' → SetX w h' r S n o es ep t → ((∃ o0 es0 ep0, SetX w s.heap r S n o0 es0 ep0 t ∧ t.roomFor more = none) ∨ (Full t.mask ∧ n + more ≤ t.mask ∧ t.dummies = #[])) → Q () { s with heap := h' }) : wpAny (model P w) A (setRoomFor r more) Q E s := by
  obtain ⟨o, es, ep, t, X⟩ := setX_of R
  unfold setRoomFor
  refine wpAny_bind (wpAny_setState_of X.at_ X.dt X.ft ?_)
  dsimp only
  have hp : t.place.size = n := by
    have := X.ft
    unfold SetTable.fits at this
    rw [Bool.and_eq_true, beq_iff_eq] at this
    exact this.1.trans X.sz
  cases hr : t.roomFor more with
  | none =>
    dsimp only
    exact wpAny_pure (hQ s.heap o es ep t (Heap.SameBut.refl r s.heap) X (.inl ⟨o, es, ep, X, hr⟩))
  | some wanted =>
    dsimp only
    have hwn : wanted = (n + more) * 2 := by
      unfold SetTable.roomFor at hr
      split at hr
      · cases hr
        rw [hp]
      · cases hr
    obtain ⟨M, m1, m2, m3, m4⟩ := sizes (n + more) hm
    rw [← hwn] at m1 m2
    exact relay_ok R m1 m2 (size_full m3) (by omega) fun h' o' es' ep' t' sb Y mk dm => hQ h' o' es' ep' t' sb Y (.inr ⟨by rw [mk]; exact size_full m3, by rw [mk]; exact m4, dm⟩)
theorem place_n {h : Heap} {o : Obj} {es : Array (Int × Value)} {ep : Nat} {t : SetTable} (X : SetX w h a S n o es ep t) : t.place.size = n := by
  have := X.ft
  unfold SetTable.fits at this
  rw [Bool.and_eq_true, beq_iff_eq] at this
  exact this.1.trans X.sz
theorem fresh_r {h : Heap} (hr : h.get? r = some (newSetO w)) : SetR w h r (fun _ => false) 0 := (setR_new_at (ns := []) hr).congr fun k => by simp
/-- a set's elements are taken over into a new set -/
theorem union_new {each : Sem Unit} {Q : Unit → Shared → Prop} (hne : r ≠ a) (hr : s.heap.get? r = some (newSetO w)) (R : SetR w s.heap a S n) (hn : n ≤ 60) (hQ : ∀ h', Heap.SameBut r s.heap h' → SetR w h' r S n → (n = 0 → h' = s.heap) → Q () { s with heap := h' }) :
    wpAny (model P w) A (setMerge r a each) Q E s := by
  obtain ⟨o, es, ep, t, X⟩ := setX_of R
  unfold setMerge
  have e1 : (r == a) = false := beq_eq_false_iff_ne.mpr hne
  simp only [e1, Bool.false_eq_true, if_false, pure_bind]
  refine wpAny_bind (wpAny_setState_of X.at_ X.dt X.ft ?_)
  dsimp only
  have hsz := X.sz
  split
  · rename_i he
    have he' : es = #[] := Array.isEmpty_iff.mp he
    subst he'
    refine wpAny_pure (hQ s.heap (Heap.SameBut.refl r s.heap) ?_ fun _ => rfl)
    have hn0 : n = 0 := by rw [← hsz]; rfl
    subst hn0
    refine (fresh_r hr).congr fun k => ?_
    have := X.mm k
    cases hS : S k with
    | false => rfl
    | true => rw [hS] at this; simp at this
  · rename_i he
    rw [hsz]
    refine wpAny_bind (room_ok (fresh_r hr) (by omega) fun h1 o1 es1 ep1 t1 sb Y cs => ?_)
    have p0 := place_n Y
    obtain ⟨F, hm, dm⟩ : Full t1.mask ∧ n ≤ t1.mask ∧ t1.dummies = #[] := by
      rcases cs with ⟨o0, es0, ep0, X0, hroom⟩ | ⟨c1, c2, c3⟩
      · have eo := X0.at_
        rw [hr] at eo
        cases eo
        have ed := X0.dt
        cases ed
        refine ⟨full7, ?_, rfl⟩
        show n ≤ 7
        unfold SetTable.roomFor at hroom
        split at hroom
        · cases hroom
        · rename_i hlt
          have : ¬ ((0 + 0 + n) * 5 ≥ 7 * 3) := hlt
          omega
      · exact ⟨c1, by omega, c3⟩
    refine wpAny_bind (wpAny_setState_of (s := { s with heap := h1 }) Y.at_ Y.dt Y.ft ?_)
    dsimp only
    have ledT : w.params.followText "set-order" = true ∨ (t1.led && t.led) = true := by
      rcases X.ld with z | z
      · exact .inl z
      · rcases Y.ld with y | y
        · exact .inl y
        · exact .inr (by rw [y, z]; rfl)
    have fill0 : (t1.fill != 0) = false := by
      unfold SetTable.fill
      rw [p0, dm]
      rfl
    have done : ∀ h' o' ep' es' t', Heap.SameBut r h1 h' → SetX w h' r S n o' es' ep' t' → Q () { s with heap := h' } := fun h' o' ep' es' t' sb' Z => hQ h' (sb.trans sb') Z.toR fun z => absurd (show es.isEmpty = true by rw [Array.isEmpty_iff_size_eq_zero, hsz, z]) he
    cases hrd : t1.road t with
    | slotForSlot => exact store_perm (s := { s with heap := h1 }) Y X es _ (List.Perm.refl _) (by have := X.ft; cases t; exact this) X.rs ledT fun h' o' ep' sb' Z => done h' o' ep' _ _ sb' Z
    | oneByOne =>
      exfalso
      unfold SetTable.road at hrd
      rw [fill0, if_neg Bool.false_ne_true] at hrd
      split at hrd <;> cases hrd
    | clean =>
      dsimp only
      obtain ⟨t', order, e2, pm, ft, rs, ld, mk, dm'⟩ := full_laid F t1.finger t1.moves (t1.led && t.led) (t1.plain && t.plain) (hs := es.map (·.1)) (by rw [Array.size_map, hsz]; exact hm)
      rw [e2]
      rw [Array.size_map] at pm ft
      have perm := order_perm pm
      have size : (order.filterMap fun i => es[i]?).size = es.size := by rw [← Array.length_toList, perm.length_eq, Array.length_toList]
      refine wpAny_bind (m := if ((order.filterMap fun i => es[i]?).size != es.size) = true then do
          unsupported "internal:set-table-lost-an-element"
          pure (order.filterMap fun i => es[i]?, t') else pure (order.filterMap fun i => es[i]?, t')) ?_
      rw [if_neg (by rw [size]; simp)]
      refine wpAny_pure ?_
      dsimp only
      exact store_perm (s := { s with heap := h1 }) Y X _ t' perm (by rw [size]; exact ft) rs (by rw [ld]; exact ledT) fun h' o' ep' sb' Z => done h' o' ep' _ _ sb' Z
/-- one more element is taken over -/
theorem union_one {each : Sem Unit} {i : Int} {Q : Unit → Shared → Prop} (hne : r ≠ a) (R : SetR w s.heap r S n) (h0 : 0 < n) (hn : n ≤ 59) (R2 : SetR w s.heap a (fun k => decide (k = i)) 1)
    (he : ∀ (s' : Shared) (Q' : Unit → Shared → Prop), s'.heap.get? a = s.heap.get? a → Q' () s' → wpAny (model P w) A each Q' E s')
    (hQ : ∀ h', Heap.SameBut r s.heap h' → SetR w h' r (fun k => S k || decide (k = i)) (if S i = true then n else n + 1) → Q () { s with heap := h' }) : wpAny (model P w) A (setMerge r a each) Q E s := by
  obtain ⟨o, es, ep, t, X⟩ := setX_of R2
  unfold setMerge
  have e1 : (r == a) = false := beq_eq_false_iff_ne.mpr hne
  simp only [e1, Bool.false_eq_true, if_false, pure_bind]
  refine wpAny_bind (wpAny_setState_of X.at_ X.dt X.ft ?_)
  dsimp only
  rw [if_neg (by rw [Array.isEmpty_iff_size_eq_zero, X.sz]; decide), X.sz]
  refine wpAny_bind (room_ok R (by omega) fun h1 o1 es1 ep1 t1 sb Y cs => ?_)
  have p1 := place_n Y
  refine wpAny_bind (wpAny_setState_of (s := { s with heap := h1 }) Y.at_ Y.dt Y.ft ?_)
  dsimp only
  have hrd : t1.road t = .oneByOne := by
    unfold SetTable.road
    rw [if_pos]
    unfold SetTable.fill
    rw [p1]
    simp
    omega
  rw [hrd]
  dsimp only
  have keepA : h1.get? a = s.heap.get? a := sb.2 a (Ne.symm hne)
  have R2' : SetR w h1 a (fun k => decide (k = i)) 1 := R2.at fun o e => keepA.trans e
  refine wpAny_bind (walk_one (s := { s with heap := h1 }) R2' (decide_eq_true rfl) fun tk => ?_)
  rw [← Array.forIn_toList]
  simp only [List.forIn_cons, List.forIn_nil, bind_assoc]
  refine wpAny_bind (wpAny_holding (setR_add_hashed (s := { s with heap := h1 }) (a := r) (k := i) Y.toR (by unfold scanBound; omega) fun h2 sb2 R3 => ?_))
  have keep2 : h2.get? a = s.heap.get? a := (sb2.2 a (Ne.symm hne)).trans keepA
  refine wpAny_bind (he { s with heap := h2 } _ keep2 ?_)
  have X2 : h2.get? a = some o := keep2.trans X.at_
  refine wpAny_bind (wpAny_setState_of (s := { s with heap := h2 }) X2 X.dt X.ft ?_)
  dsimp only
  rw [if_neg (by simp)]
  simp only [pure_bind]
  exact wpAny_pure (hQ h2 (sb.trans sb2) R3)
end
end VL
namespace VL
open PySem PySem.Spec
open PyProof.Rows L2
/-! ### set | set -/
theorem entry_or : entryFor table "set.__or__" = some Builtin.«frozenset.__or__» :=
  entryFor_alias (id' := "frozenset.__or__") (by kernel_rfl) rfl (by decide +kernel) (by kernel_rfl)
theorem set_is_set : isSubtype (.type "set") (.type "set") = pure true := by rw [isSubtype_type]; kernel_rfl
section
variable {P : Program} {w : World} {A : Around} {E : Value → Shared → Prop} {s : Shared} {a b : Addr} {S : Int → Bool} {n : Nat}
theorem SetR.ty (R : SetR w s.heap a S n) : s.TypeIs (.ref a) "set" := by
  obtain ⟨o, es, ep, t, ho, hex, _⟩ := R
  exact ⟨o, ho, hex.1⟩
theorem any_set {Q : Bool → Shared → Prop} (R : SetR w s.heap a S n) (h : Q true s) : wpAny (model P w) A (Builtin.Frozenset.isAnySet (.ref a)) Q E s := by
  unfold Builtin.Frozenset.isAnySet orM
  refine wpAny_bind (wpAny_isInstance (SetR.ty R) set_is_set ?_)
  exact wpAny_pure h
theorem new_set {Q : Value → Shared → Prop} (h : Q (.ref s.heap.objs.size) { s with heap := s.heap.push (newSetO w) }) : wpAny (model P w) A (newSet (.type "set")) Q E s := by
  unfold newSet
  refine wpAny_bind (wpAny_byText ?_)
  dsimp only
  simp only [newObj]
  exact wpAny_bind (wpAny_alloc (wpAny_pure h))
theorem copy_set {Q : Value → Shared → Prop} (R : SetR w s.heap a S n) (hn : n ≤ 60) (h : ∀ h', (∀ c o, s.heap.get? c = some o → h'.get? c = some o) → SetR w h' s.heap.objs.size S n → (n = 0 → h'.get? s.heap.objs.size = some (newSetO w)) → Q (.ref s.heap.objs.size) { s with heap := h' }) :
    wpAny (model P w) A (Builtin.Frozenset.copyOf a) Q E s := by
  unfold Builtin.Frozenset.copyOf Builtin.Frozenset.baseOf
  refine wpAny_bind (wpAny_bind (wpAny_isInstance (SetR.ty R) set_is_set (wpAny_pure ?_)))
  simp only [if_true]
  refine wpAny_bind (new_set ?_)
  unfold Builtin.Frozenset.addrOf
  refine wpAny_bind (wpAny_pure ?_)
  have hlt := R.lt
  have R' : SetR w (s.heap.push (newSetO w)) a S n := R.at fun o e => Heap.get?_push_of_some _ e
  refine wpAny_bind (union_new (s := { s with heap := s.heap.push (newSetO w) }) (Nat.ne_of_gt hlt) (Heap.get?_push_size _ rfl) R' hn fun h' sb R2 z0 => ?_)
  exact wpAny_pure (h h' (fun c o e => (sb.2 c (Nat.ne_of_lt (Heap.lt_size e))).trans (Heap.get?_push_of_some _ e)) R2 fun z => by rw [z0 z]; exact Heap.get?_push_size _ rfl)
theorem op_set_or {i : Int} {Q : Value → Shared → Prop} (hne : a ≠ b) (R : SetR w s.heap a S n) (hn : n ≤ 58) (R2 : SetR w s.heap b (fun k => decide (k = i)) 1)
    (h : ∀ h' r m, (∀ c o, s.heap.get? c = some o → h'.get? c = some o) → s.heap.objs.size ≤ r → SetR w h' r (fun k => S k || decide (k = i)) m → m ≤ n + 1 → Q (.ref r) { s with heap := h' }) : wpAny (model P w) A (binaryOp .BitOr (.ref a) (.ref b)) Q E s := by
  refine wpAny_binaryOp_same (SetR.ty R) (SetR.ty R2) F.fills_set_or F.slot_set_or ?_
  refine wpAny_call_entry F.slot_set_or (SetR.ty R) entry_or ?_ (F.args_set_or_2 _ _)
  unfold Builtin.«frozenset.__or__»
  refine wpAny_bind (m := Builtin.Frozenset.slot1 "__or__" _) (wpAny_of_eq (a := (Value.ref a, Value.ref b)) (by rfl) ?_)
  refine wpAny_bind ?_
  show wpAny _ _ (andM (Builtin.Frozenset.isAnySet (.ref a)) (Builtin.Frozenset.isAnySet (.ref b))) _ _ _
  unfold andM
  refine wpAny_bind (any_set R ?_)
  refine any_set R2 ?_
  simp only [Bool.not_true, Bool.false_eq_true, if_false]
  refine wpAny_bind (m := Builtin.Frozenset.addrOf (.ref a)) (wpAny_of_eq (a := a) (by rfl) ?_)
  refine wpAny_bind ?_
  refine wpAny_bind (m := Builtin.Frozenset.copyOf a) (copy_set R (by omega) fun h1 k1 R1 z1 => ?_)
  dsimp only
  have ner : (Value.ref b != Value.ref a) = true := by
    rw [bne_iff_ne]
    exact fun z => hne (Value.ref.inj z).symm
  rw [ner]
  simp only [if_true]
  refine wpAny_bind (m := Builtin.Frozenset.addrOf (.ref s.heap.objs.size)) (wpAny_of_eq (a := s.heap.objs.size) (by rfl) ?_)
  have Rb : SetR w h1 b (fun k => decide (k = i)) 1 := R2.at fun o e => k1 b o e
  have nb : s.heap.objs.size ≠ b := Nat.ne_of_gt R2.lt
  unfold Builtin.Frozenset.updateFrom
  refine wpAny_bind (wpAny_holding (wpAny_bind (any_set (s := { s with heap := h1 }) Rb ?_)))
  simp only [if_true]
  refine wpAny_bind (m := Builtin.Frozenset.addrOf (.ref b)) (wpAny_of_eq (a := b) (by rfl) ?_)
  unfold Builtin.Frozenset.merge
  obtain ⟨o, es, ep, t, X⟩ := setX_of Rb
  refine wpAny_bind (wpAny_setEpoch_of (s := { s with heap := h1 }) X.at_ X.dt X.ft ?_)
  have fin : ∀ h2 m, Heap.SameBut s.heap.objs.size h1 h2 → SetR w h2 s.heap.objs.size (fun k => S k || decide (k = i)) m → m ≤ n + 1 → Q (.ref s.heap.objs.size) { s with heap := h2 } := fun h2 m sb R3 hm =>
    h h2 _ m (fun c o e => (sb.2 c (Nat.ne_of_lt (Heap.lt_size e))).trans (k1 c o e)) (Nat.le_refl _) R3 hm
  have last : ∀ h2, Q (.ref s.heap.objs.size) { s with heap := h2 } → wpAny (model P w) A.in1 (ret (Value.ref s.heap.objs.size)) (fun fin s' => ∃ v, fin = Fin.done (Flow.ret v) ∧ v ≠ Value.notImplemented ∧ Q v s') E { s with heap := h2 } := fun h2 q =>
    wpAny_pure ⟨_, rfl, (fun z => nomatch z), q⟩
  by_cases h0 : n = 0
  · refine union_new (s := { s with heap := h1 }) nb (z1 h0) Rb (by decide) fun h2 sb R3 _ => ?_
    refine wpAny_pure (last h2 (fin h2 1 sb (R3.congr fun k => ?_) (by omega)))
    have hS : S k = false := by
      obtain ⟨_, es', _, _, Y⟩ := setX_of R
      cases q : S k with
      | false => rfl
      | true =>
        have hm := (Y.mm k).mp q
        have : es'.toList = [] := List.length_eq_zero_iff.mp (by rw [Array.length_toList, Y.sz, h0])
        rw [this] at hm
        cases hm
    rw [hS]
    rfl
  · refine union_one (s := { s with heap := h1 }) nb R1 (Nat.pos_of_ne_zero h0) (by omega) Rb (fun s' Q' hk q => ?_) fun h2 sb R3 => ?_
    · unfold Builtin.Frozenset.unchanged
      refine wpAny_bind (wpAny_setEpoch_of (s := s') (hk.trans X.at_) X.dt X.ft ?_)
      rw [if_neg (by simp)]
      exact wpAny_pure q
    · exact wpAny_pure (last h2 (fin h2 _ sb R3 (by split <;> omega)))
end
end VL
namespace VL
open PySem PySem.Spec
open PyProof.Rows L2
variable [Vx]
/-! ### sorted(set(xs) | {i}) -/
/-- a set of ints that is known -/
def setO (w : World) (a : Addr) (S : Int → Bool) (n : Nat) : HO := .ext fun h => SetR w h a S n
theorem setO_new {P : Program} {w : World} {H : Hp} {h : Heap} {a : Addr} {S : Int → Bool} {n : Nat} (R : SetR w h a S n) : ObjOk P w H h a (setO w a S n) := by
  have ⟨o, _, _, _, ho, _⟩ := R
  exact ⟨R, ⟨o, ho⟩, fun h1 h2 p k => SetR.at p k⟩
section
variable {X : Cx}
theorem setO_get {pins : List (Addr × Obj)} {σ : L2.St} {H : Hp} {s : Shared} {a : Addr} {S : Int → Bool} {n : Nat} (I : Inv X pins σ H s) (ha : H a = some (setO X.w a S n)) : SetR X.w s.heap a S n := (I.hok a _ ha).1
/-- set(xs) of a tuple -/
def rSetT (K : PySem.W.Frag) (w : World) : List V → Hp → VK → Prop := fun xs H Q => ∃ (a : Addr) (ns : List Int), xs = [.ref a] ∧ SqT K H a (ns.map V.int) ∧ ns.length ≤ 57 ∧ ∀ p m, H p = none → m ≤ ns.length → Q (.ref p) (upd H p (setO w p (fun j => decide (j ∈ ns)) m))
theorem cr_setT (hc : X.calm = true) : CallR X (.type "set") (rSetT X.K X.w) := by
  intro pins s σ H xs us Q I rx h
  obtain ⟨a, ns, rfl, hq, hl, q⟩ := h
  cases rx with
  | cons r rr =>
    cases rr
    cases r
    obtain ⟨its, rv, pt, hz⟩ := I.tuple hq
    refine call_set_tupI ns (I.ok.hd hc) (show s.heap.IsTuple a its.toArray from pt) (ints_of_vals rv) (by unfold scanBound; omega) fun h' tk c R1 hcn k => ?_
    exact ⟨.ref _, _, I.laid (t' := tk) k (Nat.le_refl _) (setO_new R1), rfl, q _ c (I.hok.fresh (Nat.le_refl _)) hcn⟩
/-- set | {i} -/
def rOrS (w : World) : R2 := fun x y H Q => ∃ (a b : Addr) (S : Int → Bool) (n : Nat) (i : Int), x = .ref a ∧ y = .ref b ∧ H a = some (setO w a S n) ∧ n ≤ 58 ∧ H b = some (setO w b (fun k => decide (k = i)) 1) ∧ a ≠ b ∧
  ∀ p m, H p = none → m ≤ n + 1 → Q (.ref p) (upd H p (setO w p (fun k => S k || decide (k = i)) m))
theorem op_orS : OpR X (binaryOp .BitOr) (rOrS X.w) := by
  intro pins s σ H x y v u Q I rx ry h
  obtain ⟨a, b, S, n, i, rfl, rfl, ha, hn, hb, hne, q⟩ := h
  cases rx
  cases ry
  refine op_set_or hne (setO_get I ha) hn (setO_get I hb) fun h' r m k hle R hm => ?_
  exact ⟨.ref r, _, I.laid (t' := s.toks) k hle (setO_new R), rfl, q r m (I.hok.fresh hle) hm⟩
/-- {e} -/
def rSet1 (w : World) (te : TE) : TE := fun σ H Q => ∀ D, H D = none → te σ (upd H D (setO w D (fun _ => false) 0)) fun y H1 => H1 D = some (setO w D (fun _ => false) 0) ∧ ∃ i, y = .int i ∧ Q (.ref D) (upd H1 D (setO w D (fun k => decide (k = i)) 1))
theorem pe_set1 {e : Expr} {te : TE} {pos : Pos} (he : PE X e te) (hcd : PySem.W.kdsCode X.K X.env.code = true) (hp : [e].all PySem.W.kdsPlain = true := by rfl) : PE X (.Set [e] 0 pos) (rSet1 X.w te) := by
  refine ⟨fun pins s σ H Q I h => ?_⟩
  rw [arm_eval_Set]
  refine wpAny_bind (wpAny_standAt ?_)
  refine wpAny_bind (PySem.W.kds_main I.kIn hcd fun b => ?_)
  rw [PySem.W.kds_star [e] hp]
  have road : displayRoad 0 [e] = .oneByOne := rfl
  rw [road]
  unfold setDisplay
  rw [if_neg (by decide)]
  refine wpAny_bind (new_set ?_)
  dsimp only
  have I1 := I.laid (h' := s.heap.push (newSetO X.w)) (t' := s.toks) (o := setO X.w s.heap.objs.size (fun _ => false) 0) (fun b u e => Heap.get?_push_of_some _ e) (Nat.le_refl _) (setO_new (fresh_r (Heap.get?_push_size _ rfl)))
  have hD := I.hok.fresh (Nat.le_refl s.heap.objs.size)
  have run := he.run pins _ σ _ _ I1 (h s.heap.objs.size hD)
  have ee : evalEach [e] X.env = [eval e X.env] := rfl
  rw [ee]
  simp only [List.map_cons, List.map_nil, List.length_cons, List.length_nil, List.findIdx?_cons, List.findIdx?_nil, Bool.false_eq_true, if_false, Option.map_none, Option.getD_none, Nat.zero_add, show ¬ (1 > 30) by decide, List.take_succ_cons, List.take_zero, List.drop_succ_cons, List.drop_zero, List.forIn_nil]
  refine wpAny_bind (wpAny_holding ?_)
  refine wpAny_bind (m := evalAll _) (PySem.W.kds_all pos [e] _ _ ?_)
  refine wpAny_mono run (fun v s1 hv => ?_) fun _ _ z => z
  obtain ⟨y, H1, I2, ry, hd, i, rfl, q⟩ := hv
  obtain ⟨tk, rfl⟩ := ry
  show wpAny _ _ _ _ _ _
  refine wpAny_bind (wpAny_holding ?_)
  simp only [List.forIn_cons, List.forIn_nil, bind_assoc]
  unfold setAdd
  refine wpAny_bind (wpAny_holding (wpAny_bind ((intKind X.prog X.w).pyHash (intKind_is X.prog X.w i tk) ?_)))
  have R0 := setO_get I2 hd
  refine setR_add_hashed (s := { s1 with toks := s1.toks + 1 }) R0 (by decide) fun h' sb R1 => ?_
  have R2 : SetR X.w h' s.heap.objs.size (fun k => decide (k = i)) 1 := R1.congr fun k => by simp
  have I3 : Inv X pins σ (upd H1 s.heap.objs.size (setO X.w s.heap.objs.size (fun k => decide (k = i)) 1)) { s1 with heap := h', toks := s1.toks + 1 } :=
    I2.write (e := s.heap.objs.size) (t' := s1.toks + 1) (by rw [hd]; trivial) (.inl rfl) (fun b u hb hu => (sb.2 b hb).trans hu) (let ⟨o, _, _, _, ho, _⟩ := R2; ⟨o, ho⟩) (setO_new R2)
  simp only [pure_bind]
  rw [if_neg (by decide)]
  refine wpAny_pure ?_
  refine wpAny_pure (wpAny_pure ?_)
  exact ⟨.ref s.heap.objs.size, _, I3, rfl, q⟩
/-- sorted(a set of ints) -/
def rSortS (w : World) : List V → Hp → VK → Prop := fun xs H Q => ∃ (a : Addr) (S : Int → Bool) (n : Nat), xs = [.ref a] ∧ H a = some (setO w a S n) ∧ n < 64 ∧
  ∀ (p : Addr) (ns : List Int), H p = none → ns.Pairwise (· < ·) → (∀ k, k ∈ ns ↔ S k = true) → ns.length = n → Q (.ref p) (upd H p (.lst (ns.map V.int)))
theorem cr_sortS (hc : X.calm = true) : CallR X (.builtin "sorted") (rSortS X.w) := by
  intro pins s σ H xs us Q I rx h
  obtain ⟨a, S, n, rfl, ha, hn, q⟩ := h
  cases rx with
  | cons r rr =>
    cases rr
    cases r
    refine sorted_set (setO_get I ha) (I.ok.hd hc) hn fun s' p out c ns k g o hle hp hi hr hm hl => ?_
    have hlen := hi.length
    have new : ObjOk X.prog X.w (upd H p (.lst (ns.map V.int))) s'.heap p (.lst (ns.map V.int)) := by
      refine ⟨by rw [List.length_map, hl, sizeLine_eq]; omega, out.toList, c, vals_ints hi, ?_⟩
      rw [hp]
    have I1 := I.laid (h' := s'.heap) (t' := s'.toks) k hle new
    have es : s' = { s with heap := s'.heap, toks := s'.toks, drawn := s'.drawn } := by
      cases s'
      cases s
      simp only at g o
      subst g o
      rfl
    have I2 : Inv X pins σ (upd H p (.lst (ns.map V.int))) s' := by
      rw [es]
      exact ⟨I1.ok, I1.os, I1.bare, I1.base, I1.loc, I1.cell, I1.free, I1.freeC, I1.pin, I1.hok, I1.len⟩
    exact ⟨.ref p, _, I2, rfl, q p ns (I.hok.fresh hle) hr hm hl⟩
/-! the list that comes -/
def ins1 (i : Int) : List Int → List Int
  | [] => [i]
  | x :: xs => if i < x then i :: x :: xs else if i = x then x :: xs else x :: ins1 i xs
def setI (xs : List Int) : List Int := xs.foldr ins1 []
theorem mem_ins1 {i k : Int} : ∀ {xs : List Int}, k ∈ ins1 i xs ↔ k = i ∨ k ∈ xs
  | [] => by simp [ins1]
  | x :: xs => by
    unfold ins1
    split
    · simp
    · split
      · rename_i h
        subst h
        simp
      · rw [List.mem_cons, mem_ins1, List.mem_cons]
        constructor
        · rintro (h | h | h)
          · exact .inr (.inl h)
          · exact .inl h
          · exact .inr (.inr h)
        · rintro (h | h | h)
          · exact .inr (.inl h)
          · exact .inl h
          · exact .inr (.inr h)
theorem ins1_rise {i : Int} : ∀ {xs : List Int}, xs.Pairwise (· < ·) → (ins1 i xs).Pairwise (· < ·)
  | [], _ => List.pairwise_singleton _ _
  | x :: xs, h => by
    obtain ⟨h1, h2⟩ := List.pairwise_cons.mp h
    unfold ins1
    split
    · rename_i c
      exact List.pairwise_cons.mpr ⟨fun y hy => (List.mem_cons.mp hy).elim (fun e => e ▸ c) fun z => Int.lt_trans c (h1 y z), h⟩
    · split
      · exact h
      · refine List.pairwise_cons.mpr ⟨fun y hy => ?_, ins1_rise h2⟩
        rcases mem_ins1.mp hy with rfl | z
        · omega
        · exact h1 y z
theorem setI_rise : ∀ xs : List Int, (setI xs).Pairwise (· < ·)
  | [] => .nil
  | x :: xs => ins1_rise (setI_rise xs)
theorem mem_setI {k : Int} : ∀ {xs : List Int}, k ∈ setI xs ↔ k ∈ xs
  | [] => Iff.rfl
  | x :: xs => by
    show k ∈ ins1 x (setI xs) ↔ _
    rw [mem_ins1, mem_setI, List.mem_cons]
theorem rise_eq {xs ys : List Int} (hx : xs.Pairwise (· < ·)) (hy : ys.Pairwise (· < ·)) (h : ∀ k, k ∈ xs ↔ k ∈ ys) : xs = ys := by
  have nx : xs.Nodup := hx.imp fun h => Int.ne_of_lt h
  have ny : ys.Nodup := hy.imp fun h => Int.ne_of_lt h
  have pm : xs.Perm ys := by
    rw [List.perm_iff_count]
    intro k
    rw [nx.count, ny.count]
    simp only [h k]
  exact pm.eq_of_pairwise (le := fun a b => a < b) (fun a b _ _ h1 h2 => absurd (Int.lt_trans h1 h2) (Int.lt_irrefl a)) hx hy
def intsL : List D → Option (List Int)
  | [] => some []
  | .int i :: ds => (intsL ds).map (i :: ·)
  | _ => none
theorem intsL_map : ∀ xs : List Int, intsL (xs.map .int) = some xs
  | [] => rfl
  | x :: xs => by
    show (intsL (xs.map .int)).map (x :: ·) = _
    rw [intsL_map xs]
    rfl
theorem intsL_eq : ∀ {ds : List D} {xs : List Int}, intsL ds = some xs → ds = xs.map .int
  | [], _, h => by cases h; rfl
  | .int i :: ds, _, h => by
    obtain ⟨ys, h1, rfl⟩ := Option.map_eq_some_iff.mp h
    rw [intsL_eq h1]
    rfl
  | .none :: _, _, h => by cases h
  | .bool _ :: _, _, h => by cases h
  | .str _ :: _, _, h => by cases h
  | .list _ :: _, _, h => by cases h
  | .tuple _ :: _, _, h => by cases h
  | .dict _ :: _, _, h => by cases h
def suR (x y : R) : Rs R := match x.d, y.d with
  | .tuple ds, .int i => match intsL ds with
    | some xs => if xs.length ≤ 57 then .ok (.ol ((ins1 i (setI xs)).map .int)) else .bad
    | none => .bad
  | _, _ => .bad
def fSU (fa fb : FE) : FE := fun ρ => (fa ρ).bind fun x => (fb ρ).bind fun y => suR x y
theorem reps_ints' {K : PySem.W.Frag} {H : Hp} {O : List Addr} : ∀ {vs : List V} {xs : List Int}, Reps K H O vs (xs.map .int) → vs = xs.map V.int
  | _, [], .nil => rfl
  | _, x :: xs, .cons r t => by
    rw [(Top.rep r).int, reps_ints' t]
    rfl
theorem reps_of_ints {K : PySem.W.Frag} {H : Hp} {O : List Addr} : ∀ xs : List Int, Reps K H O (xs.map V.int) (xs.map .int)
  | [] => .nil
  | x :: xs => .cons (.int x) (reps_of_ints xs)
theorem e_su {a b : Expr} {fa fb : FE} {p1 p2 p3 p4 p5 p6 : Pos} (hc : X.calm = true) (hcd : PySem.W.kdsCode X.K X.env.code = true) (hms : X.mg "sorted" = none) (hmt : X.mg "set" = none) (ha : EV X a fa) (hb : EV X b fb) (hgs : Gl X "sorted" := by rfl) (hgt : Gl X "set" := by rfl)
    (he1 : starEach [a] X.env = (false, eval a X.env) :: starEach [] X.env := by rfl) (hp : [b].all PySem.W.kdsPlain = true := by rfl) :
    EV X (.Call (.Name "sorted" p1) [.BinOp (.Call (.Name "set" p2) [a] [] p3) .BitOr (.Set [b] 0 p4) p5] [] p6) (fSU fa fb) := by
  have P1 := pe_callTy (p := p2) (pos := p3) (cr_setT hc) hgt hmt (by decide +kernel) (pa_cons ha.run pa_nil he1) (by decide) (by decide) he1 (by rfl)
  have P2 := pe_op (pos := p5) op_orS P1 (pe_set1 (pos := p4) hb.run hcd hp)
  have P3 := pe_callB (p := p1) (pos := p6) (cr_sortS hc) hgs hms (by decide +kernel) (pa_cons P2 pa_nil (by rfl)) (by decide) (by decide) (by rfl) (by rfl)
  refine ⟨pe_imp P3 fun σ H Q ⟨O, ρ, r, I, hf, q⟩ => ?_⟩
  obtain ⟨x, e1, hf⟩ := Rs.bind_eq hf
  obtain ⟨y, e2, hf⟩ := Rs.bind_eq hf
  unfold suR at hf
  split at hf
  · rename_i ds i ex ey
    split at hf
    · rename_i xs hxs
      split at hf
      · rename_i hlen
        cases hf
        refine ⟨O, ρ, x, I, e1, fun v H1 s1 r1 => ?_⟩
        have t1 := Top.rep (O := []) r1.bare
        rw [ex, intsL_eq hxs] at t1
        obtain ⟨A, vs, rfl, hq, hr, _⟩ := t1.tuple
        rw [reps_ints' hr] at hq
        refine ⟨A, xs, rfl, hq, hlen, fun p m hp hm D hD => ?_⟩
        have neD : p ≠ D := fun z => by rw [z, upd_same] at hD; cases hD
        have hD1 : H1 D = none := by rw [upd_ne (Ne.symm neD)] at hD; exact hD
        have sA : Same H1 (upd H1 p (setO X.w p (fun j => decide (j ∈ xs)) m)) := same_upd hp
        have sB := sA.trans (same_upd (o := setO X.w D (fun _ => false) 0) hD)
        refine ⟨O, ρ, y, I.same (s1.trans sB), e2, fun u H3 s3 r3 => ⟨s3 _ _ upd_same, i, ?_, ?_⟩⟩
        · have t3 := Top.rep (O := []) r3.bare
          rw [ey] at t3
          exact t3.int
        · have hp3 : H3 p = some (setO X.w p (fun j => decide (j ∈ xs)) m) := s3 _ _ (by rw [upd_ne neD, upd_same])
          refine ⟨p, D, _, m, i, rfl, rfl, by rw [upd_ne neD]; exact hp3, by omega, upd_same, neD, fun p2 m2 hp2 hm2 => ?_⟩
          refine ⟨p2, _, m2, rfl, upd_same, by omega, fun p3 ns hp3' hrise hmem hl => ?_⟩
          have ens : ns = ins1 i (setI xs) := rise_eq hrise (ins1_rise (setI_rise xs)) fun k => by
            rw [hmem k, mem_ins1, mem_setI, Bool.or_eq_true, decide_eq_true_eq, decide_eq_true_eq]
            exact Or.comm
          have nD : ∀ b o, H1 b = some o → b ≠ D := fun b o e z => by rw [z, hD1] at e; cases e
          have same1 : Same H1 (upd H3 D (setO X.w D (fun k => decide (k = i)) 1)) := fun b o e => by
            rw [upd_ne (nD b o e)]
            exact (sB.trans s3) b o e
          have same2 := same1.trans (same_upd (o := setO X.w p2 (fun k => decide (k ∈ xs) || decide (k = i)) m2) hp2)
          have same3 := (s1.trans same2).trans (same_upd (o := .lst (ns.map V.int)) hp3')
          refine q _ _ same3 ⟨p3, ns.map V.int, rfl, (s1.trans same2).free hp3', upd_same, by rw [List.length_map, hl, sizeLine_eq]; omega, ?_⟩
          rw [ens]
          exact reps_of_ints _
      · cases hf
    · cases hf
  · cases hf
end
theorem ap_fSU (fa fb : FE) (ρ : En) : fSU fa fb ρ = (fa ρ).bind fun x => (fb ρ).bind fun y => suR x y := rfl
theorem su_ti (xs : List Int) (i : Int) : suR (.fr (.tuple (xs.map .int))) (.fr (.int i)) = if xs.length ≤ 57 then .ok (.ol ((ins1 i (setI xs)).map .int)) else .bad := by
  show (match intsL (xs.map .int) with | some xs => (if xs.length ≤ 57 then Rs.ok (R.ol ((ins1 i (setI xs)).map .int)) else .bad) | none => .bad) = _
  rw [intsL_map]
end VL
namespace VL
open PySem PySem.Spec
open PyProof.Rows L2
variable [Vx]
/-! ### f(..), f an expression that gives one of some defs -/
def fCallE (l : List (Str × (List D → Rs R))) (ff : FE) (g : En → Rs (List R)) : FE := fun ρ => (ff ρ).bind fun y => match fnFind l y.d with
  | some q => (g ρ).bind (callR q.2)
  | none => .bad
section
variable {X : Cx} {e fe : Expr} {es : List Expr} {ff : FE} {g : En → Rs (List R)} {pos : Pos}
theorem e_callE {l : List (Str × (List D → Rs R))} {k n : Nat} (A : Holds X k n l) (hr : Room k X.A) (hfe : EV X fe ff) (ha : AV X (e :: es) g) (hn : (e :: es).length = n := by rfl)
    (ht : eval (.Call fe (e :: es) [] pos) X.env = (do callWith pos (← eval fe X.env) [] (backTo pos (starEach (e :: es) X.env)) (backToKw pos (keywordEach [] X.env))) := by rfl)
    (he : starEach (e :: es) X.env = (false, eval e X.env) :: starEach es X.env := by rfl) (hpl : (backTo pos (starEach es X.env)).any (·.1) = false := by rfl) : EV X (.Call fe (e :: es) [] pos) (fCallE l ff g) := by
  refine ⟨⟨fun pins s σ H Q J ⟨O, ρ, r, I, hf, q⟩ => ?_⟩⟩
  obtain ⟨y, e0, hf⟩ := Rs.bind_eq hf
  split at hf
  · rename_i w ew
    obtain ⟨ed, hw⟩ := fnFind_eq ew
    obtain ⟨f, fd, ps, h1, h2, h3, h4⟩ := (A w hw).ex
    refine Call_ (thn (hfe.run.run pins s σ H (fun v H1 => Same H H1 ∧ RR X.K O H H1 v y) J ⟨O, ρ, y, I, e0, fun v H1 s1 rr => ⟨s1, rr⟩⟩) fun u s1 ⟨v, H1, J1, r1, sm, rr⟩ => ?_) ht
    have rb := rr.bare
    rw [ed] at rb
    obtain ⟨a, ev, ha1⟩ := rep_fn rb
    have ea := ha1.one h1
    rw [ev, ea] at r1
    obtain rfl : u = Value.ref f := r1
    obtain ⟨rs, e1, hf⟩ := Rs.bind_eq hf
    have args := ha.run.run pos pins s1 σ H1 (fun vs H2 => spF X.K n w.2 vs H2 Q E0) J1 ⟨O, ρ, rs, I.same sm, e1, fun vs H2 s2 hv => ?_⟩
    · refine PySem.W.callWith_K (h₀ := X.base) J1.ok.mod.kin h3 (thn args fun us s2 ⟨vs, H2, J2, rv, q2⟩ => ⟨J2.kIn, ?_⟩) he hpl
      exact run_fn (dvs := []) (ds := []) (E := E0) h2 hr h4 .nil passL J2 rv (by rw [List.append_nil]; exact q2)
    · have hlv : vs.length = n := by rw [hv.length, ha.len ρ rs e1]; exact hn
      have I1 := I.same sm
      unfold callR at hf
      split at hf
      · rename_i ds ed
        refine ⟨hlv, O, ds, fzAll_reps I1.tr hv ed, I1.hg.same s2, ?_⟩
        rw [Rs.sure_eq hf]
        exact fun v H' s3 rr => q v H' ((sm.trans s2).trans s3) (RR.left (sm.trans s2) rr)
      · obtain ⟨r', e2, hf⟩ := Rs.bind_eq hf
        refine ⟨hlv, [], _, all_bare hv, (I1.hg.same s2).less (fun _ z => absurd z List.not_mem_nil), ?_⟩
        rw [Rs.sure_eq e2]
        exact fun v H' s3 rr => q v H' ((sm.trans s2).trans s3) (RR.left (sm.trans s2) (RR.immR (I1.hg.same s2).mu s3 rr hf))
  · cases hf
theorem ap_fCallE (l : List (Str × (List D → Rs R))) (ρ : En) : fCallE l ff g ρ = (ff ρ).bind fun y => match fnFind l y.d with
  | some q => (g ρ).bind (callR q.2)
  | none => .bad := rfl
end
end VL
namespace VL
open PySem PySem.Spec
open PyProof.Rows L2
variable [Vx]
/-! ### texts.index(text) -/
/-- a list of texts -/
def strsOf : List D → Option (List Str)
  | [] => some []
  | .str s :: r => (strsOf r).map (s :: ·)
  | _ => none
theorem strsOf_eq : ∀ {ds : List D} {ys : List Str}, strsOf ds = some ys → ds = ys.map PyData.str
  | [], ys, h => by
    cases h
    rfl
  | d :: r, ys, h => by
    unfold strsOf at h
    split at h
    · rename_i z
      cases z
    · rename_i s r' z
      cases z
      obtain ⟨zs, e, rfl⟩ := Option.map_eq_some_iff.mp h
      rw [strsOf_eq e]
      rfl
    · cases h
theorem strsOf_map : ∀ ys : List Str, strsOf (ys.map PyData.str) = some ys
  | [] => rfl
  | y :: r => by
    show (strsOf (r.map PyData.str)).map (y :: ·) = _
    rw [strsOf_map r]
    rfl
def dIndex (c k : D) : Rs R := match c, k with
  | .list ds, .str x => match strsOf ds with
    | some ys => if x ∈ ys then .ok (.fr (.int (ys.idxOf x : Nat))) else .bad
    | none => .bad
  | _, _ => .bad
theorem dIndex_eq {c k : D} {r : R} (h : dIndex c k = .ok r) : ∃ (ys : List Str) (x : Str), c = .list (ys.map PyData.str) ∧ k = .str x ∧ x ∈ ys ∧ r = .fr (.int (ys.idxOf x : Nat)) := by
  unfold dIndex at h
  split at h
  · split at h
    · rename_i ds x _ ys e
      split at h
      · rename_i m
        cases h
        exact ⟨ys, x, by rw [strsOf_eq e], rfl, m, rfl⟩
      · cases h
    · cases h
  · cases h
theorem reps_strs {K : PySem.W.Frag} {H : Hp} {O : List Addr} : ∀ {ys : List Str} {vs : List V}, Reps K H O vs (ys.map PyData.str) → vs = ys.map V.str
  | [], vs, h => by
    cases h
    rfl
  | y :: r, vs, h => by
    cases h with
    | cons a b =>
      rw [reps_strs b, Top.str (.rep a)]
      rfl
section
variable {X : Cx} {fa fb : FE}
def rIdx (K : PySem.W.Frag) : V → List V → Hp → VK → Prop := fun x xs H Q => ∃ (a : Addr) (ys : List Str) (k : Str), x = .ref a ∧ xs = [.str k] ∧ SqL K H a (ys.map V.str) ∧ k ∈ ys ∧ Q (.int (ys.idxOf k : Nat)) H
theorem mt_idx : MtR X "list.index" (rIdx X.K) := by
  intro pins s σ H x xs v us Q I rx rv h
  obtain ⟨a, ys, k, rfl, rfl, hq, hk, q⟩ := h
  cases rx
  obtain ⟨u, rfl, ru⟩ := rv.one
  obtain ⟨t, rfl⟩ := ru
  obtain ⟨its, r, ⟨o, n, e, c1, c2, c3⟩, hz⟩ := I.list hq
  rw [List.length_map] at hz
  exact SeqAt.list_index_strs (s := s) ⟨o, e, c1, n, c3⟩ (strs_of_vals r) hz hk ⟨.int _, H, I.tok _, ⟨_, rfl⟩, q⟩
/-- c.index(k) -/
def fIdx (fa fb : FE) : FE := fun ρ => (fa ρ).bind fun x => (fb ρ).bind fun y => dIndex x.d y.d
theorem e_index {o e : Expr} {apos cpos : Pos} (ho : EV X o fa) (he : EV X e fb)
    (hbase : attributeBase o "index" X.env (eval o X.env) = eval o X.env := by rfl)
    (hfew : ((backTo cpos (starEach [e] X.env)).all (fun x => !x.1) && (backToKw cpos (keywordEach [] X.env)).all (fun x => x.1.isSome)
      && decide (([e] : List Expr).length + ([] : List Keyword).length + (if ([] : List Keyword).isEmpty then 0 else 1) < 30)) = true := by rfl)
    (hline : (apos.endLine == cpos.line) = true := by rfl) (hs : starEach [e] X.env = (false, eval e X.env) :: starEach [] X.env := by rfl) (hplain : (backTo cpos (starEach [] X.env)).any (·.1) = false := by rfl) :
    EV X (.Call (.Attribute o "index" apos) [e] [] cpos) (fIdx fa fb) := by
  refine ⟨pe_imp (pe_bm PySem.F.plainAttrs_list PySem.F.slot_list_index PySem.F.type_list_index mt_idx ho.run (pa_cons he.run pa_nil hs) hbase hfew hline hs hplain) fun σ H Q ⟨O, ρ, r, I, hf, q⟩ => ?_⟩
  obtain ⟨x, e1, hf⟩ := Rs.bind_eq hf
  obtain ⟨y, e2, hf⟩ := Rs.bind_eq hf
  obtain ⟨ys, k, hx, hy, hk, rfl⟩ := dIndex_eq hf
  refine ⟨O, ρ, x, I, e1, fun v H1 s1 r1 => ?_⟩
  have t1 := r1.bare
  rw [hx] at t1
  have t1 : Top X.K H1 [] v (.list (ys.map PyData.str)) := .rep t1
  obtain ⟨a, xs, rfl, hq, _, _⟩ := t1.list
  refine ⟨.inl ⟨rfl, xs, hq⟩, O, ρ, y, I.same s1, e2, fun u H2 s2 r2 => ?_⟩
  obtain ⟨a2, xs2, z, hq2, hr2, _⟩ := (t1.same s2).list
  cases z
  have t2 := r2.bare
  rw [hy] at t2
  rw [reps_strs hr2] at hq2
  exact ⟨a, ys, k, rfl, by rw [Top.str (.rep t2)], hq2, hk, q _ _ (s1.trans s2) (.int _)⟩
end
end VL
namespace VL
open PySem PySem.Spec
open PyProof.Rows L2
variable [Vx]
/-! ### xs.remove(k), numbers -/
/-- a list of numbers -/
def numsOf : List D → Option (List Int)
  | [] => some []
  | .int s :: r => (numsOf r).map (s :: ·)
  | _ => none
theorem numsOf_eq : ∀ {ds : List D} {ys : List Int}, numsOf ds = some ys → ds = ys.map PyData.int
  | [], ys, h => by
    cases h
    rfl
  | d :: r, ys, h => by
    unfold numsOf at h
    split at h
    · rename_i z
      cases z
    · rename_i s r' z
      cases z
      obtain ⟨zs, e, rfl⟩ := Option.map_eq_some_iff.mp h
      rw [numsOf_eq e]
      rfl
    · cases h
theorem numsOf_map : ∀ ys : List Int, numsOf (ys.map PyData.int) = some ys
  | [] => rfl
  | y :: r => by
    show (numsOf (r.map PyData.int)).map (y :: ·) = _
    rw [numsOf_map r]
    rfl
theorem reps_nums {K : PySem.W.Frag} {H : Hp} {O : List Addr} : ∀ {ys : List Int} {vs : List V}, Reps K H O vs (ys.map PyData.int) → vs = ys.map V.int
  | [], vs, h => by
    cases h
    rfl
  | y :: r, vs, h => by
    cases h with
    | cons a b =>
      rw [reps_nums b, Top.int (.rep a)]
      rfl
theorem nums_reps {K : PySem.W.Frag} {H : Hp} {O : List Addr} : ∀ ys : List Int, Reps K H O (ys.map V.int) (ys.map PyData.int)
  | [] => .nil
  | y :: r => .cons (.int y) (nums_reps r)
section
variable {X : Cx} {W : WX} {e : Expr} {f : FE} {pos cpos apos : Pos}
def gRem (i : Nat) (f : FE) : FS := fun ρ => match ρ[i]? with
  | some (.ol xs) => match f ρ with
    | .ok (.fr (.int k)) => match numsOf xs with
      | some ns => if k ∈ ns then .nx (ρ.set i (.ol ((ns.erase k).map PyData.int))) else .bad
      | none => .bad
    | _ => .bad
  | _ => .bad
theorem s_rem (i : Nat) {x : Str} {p2 : Pos} (he : EV X e f) (hN : X.N[i]? = some x := by rfl) (hv : Vis X.env.scope x := by first | exact Or.inl rfl | exact Or.inr (Or.inl rfl) | exact Or.inr (Or.inr rfl)) (hd : (x == ("__debug__" : Str)) = false := by decide)
    (hcd : (x == ("__classdict__" : Str)) = false := by decide)
    (hbase : attributeBase (.Name x p2) "remove" X.env (eval (.Name x p2) X.env) = eval (.Name x p2) X.env := by rfl)
    (hfew : ((backTo cpos (starEach [e] X.env)).all (fun x => !x.1) && (backToKw cpos (keywordEach [] X.env)).all (fun x => x.1.isSome)
      && decide (([e]).length + ([] : List Keyword).length + (if ([] : List Keyword).isEmpty then 0 else 1) < 30)) = true := by rfl)
    (hline : (apos.endLine == cpos.line) = true := by rfl) (hs : starEach [e] X.env = (false, eval e X.env) :: starEach [] X.env := by rfl) (hplain : (backTo cpos (starEach [] X.env)).any (·.1) = false := by rfl)
    (hsw : swapsWith (.Call (.Attribute (.Name x p2) "remove" apos) [e] [] cpos) none pos.line X.env = pure false := by rfl) : SV X W (.Expr (.Call (.Attribute (.Name x p2) "remove" apos) [e] [] cpos) pos) (gRem i f) := by
  refine ⟨ps_imp (ps_expr (pe_bm PySem.F.plainAttrs_list PySem.F.slot_list_remove PySem.F.type_list_remove mt_remove (pe_var hN hv hd hcd) (pa_cons he.run pa_nil hs) hbase hfew hline hs hplain) hsw) fun D σ H ⟨O, ρ, I, q⟩ => ?_⟩
  unfold gRem at q
  split at q
  · rename_i xs ei
    split at q
    · rename_i k ef
      split at q
      · rename_i ns en
        split at q
        · rename_i hk
          obtain ⟨g, ov, eg, e1, p, vs, rfl, h1, hzz, hr, hA⟩ := I.get ei
          have hp : p ∈ O.O := I.mine eg (by rw [hA]; exact List.mem_singleton_self p)
          have ex := numsOf_eq en
          subst ex
          have ev := reps_nums hr
          subst ev
          refine ⟨_, e1, .inl ⟨rfl, _, .of h1⟩, O, ρ, _, I, ef, fun v H1 s rr => ?_⟩
          cases (show Rep X.K H1 O.O v (.int k) from rr)
          obtain ⟨j, _, hj, hno, hh⟩ := L2.first_at hk
          have I1 := I.same s
          have hl : (((ns.erase k).map V.int)).length ≤ sizeLine := by
            have := List.length_erase_le (a := k) (l := ns)
            rw [List.length_map] at hzz ⊢
            omega
          obtain ⟨J, E⟩ := I1.mut (o := .lst ((ns.erase k).map V.int)) (s' := .ol ((ns.erase k).map PyData.int)) eg e1 hA trivial ⟨p, _, rfl, upd_same, hl, nums_reps _, hA⟩
          exact ⟨p, ns, k, j, rfl, rfl, s _ _ h1, hj, hno, by rw [hh]; exact q O _ σ J ((ER.same_evo s).trans I E)⟩
        · exact q.elim
      · exact q.elim
    · exact q.elim
  · exact q.elim
end
/-! ### a def that calls itself -/
theorem fn_none {P : Program} {w : World} {K : PySem.W.Frag} {mg : Str → Option Value} {base : Heap} {CX : CXT} {k m : Nat} {f : Addr} {fd : FuncData} {ps : List Str} (hm : ps.length = m) : FnOk P w K mg base CX k f fd ps (spF K m fun _ => .bad) :=
  ⟨fun vs H Q E h => h.1.trans hm.symm, fun A outer s H args us vs Q E hr he hb hv ⟨_, _, _, _, _, z⟩ => absurd z id⟩
/-- at most n calls stand one in the other -/
def recF (G : (List D → Rs R) → List D → Rs R) : Nat → List D → Rs R
  | 0 => fun _ => .bad
  | n + 1 => G (recF G n)
theorem fn_rec {P : Program} {w : World} {K : PySem.W.Frag} {mg : Str → Option Value} {base : Heap} {CX : CXT} {k m : Nat} {f : Addr} {fd : FuncData} {ps : List Str} {G : (List D → Rs R) → List D → Rs R} (hm : ps.length = m)
    (h : ∀ (n : Nat) (F : List D → Rs R), FnOk P w K mg base CX (k + n) f fd ps (spF K m F) → FnOk P w K mg base CX (k + n + 1) f fd ps (spF K m (G F))) : ∀ n, FnOk P w K mg base CX (k + n) f fd ps (spF K m (recF G n))
  | 0 => fn_none hm
  | n + 1 => h n _ (fn_rec hm h n)
end VL
namespace VL
open PySem PySem.Spec
open PyProof.Rows L2
variable [Vx]
/-! ### list(range(..)) -/
theorem reps_rng {K : PySem.W.Frag} {H : Hp} {O : List Addr} (lo : Int) : ∀ is : List Nat, Reps K H O (is.map fun (i : Nat) => V.int (lo + (i : Int))) (is.map fun (i : Nat) => PyData.int (lo + (i : Int)))
  | [] => .nil
  | i :: r => .cons (.int _) (reps_rng lo r)
section
variable {X : Cx} {a b : Expr} {fa fb : FE} {p p2 pos pos2 : Pos}
def fLR1 (fa : FE) : FE := fun ρ => (fa ρ).bind fun x => (oRng1 [x]).bind fun ds => .ok (.ol ds)
def fLR2 (fa fb : FE) : FE := fun ρ => (fa ρ).bind fun x => (fb ρ).bind fun y => (oRng2 [x, y]).bind fun ds => .ok (.ol ds)
theorem e_listRg1 (hc : X.calm = true) (hl : X.mg "list" = none) (hm : X.mg "range" = none) (ha : EV X a fa) (hgl : Gl X "list" := by rfl) (hg : Gl X "range" := by rfl) (hs : starEach [a] X.env = (false, eval a X.env) :: starEach [] X.env := by rfl)
    (na : starEach [(.Call (.Name "range" p) [a] [] pos : Expr)] X.env = (false, eval (.Call (.Name "range" p) [a] [] pos) X.env) :: starEach [] X.env := by rfl) : EV X (.Call (.Name "list" p2) [.Call (.Name "range" p) [a] [] pos] [] pos2) (fLR1 fa) := by
  refine ⟨pe_imp (pe_listRg hc hgl hl (prg_1 hg hm ha.run hs) na) fun σ H Q ⟨O, ρ, r, I, hf, q⟩ => ?_⟩
  obtain ⟨x, e1, hf⟩ := Rs.bind_eq hf
  obtain ⟨ds, e2, hf⟩ := Rs.bind_eq hf
  cases hf
  unfold oRng1 at e2
  split at e2
  · rename_i j z
    cases z
    split at e2
    · rename_i hj
      cases e2
      obtain ⟨h1, h2⟩ := rngOk_iff hj
      refine ⟨O, ρ, _, I, e1, fun v H1 s r1 => ?_⟩
      cases (show Rep X.K H1 O v (.int j) from r1)
      refine ⟨j, rfl, ⟨by omega, by omega, by omega, by omega, by omega⟩, fun l hl => ?_⟩
      have g := rr_newL (K := X.K) (O := O) hl (vs := rgV 0 j) (ds := rng 0 j.toNat) (by rw [rgV_length, sizeLine_eq]; omega) (by unfold rgV rng; rw [Int.sub_zero]; exact reps_rng 0 _)
      exact q _ _ (s.trans (same_upd hl)) (g.left s)
    · cases e2
  · cases e2
theorem e_listRg2 (hc : X.calm = true) (hl : X.mg "list" = none) (hm : X.mg "range" = none) (ha : EV X a fa) (hb : EV X b fb) (hgl : Gl X "list" := by rfl) (hg : Gl X "range" := by rfl) (hs : starEach [a, b] X.env = (false, eval a X.env) :: starEach [b] X.env := by rfl)
    (nb : starEach [b] X.env = (false, eval b X.env) :: starEach [] X.env := by rfl) (hp : (backTo pos (starEach [b] X.env)).any (·.1) = false := by rfl)
    (na : starEach [(.Call (.Name "range" p) [a, b] [] pos : Expr)] X.env = (false, eval (.Call (.Name "range" p) [a, b] [] pos) X.env) :: starEach [] X.env := by rfl) : EV X (.Call (.Name "list" p2) [.Call (.Name "range" p) [a, b] [] pos] [] pos2) (fLR2 fa fb) := by
  refine ⟨pe_imp (pe_listRg hc hgl hl (prg_2 hg hm ha.run hb.run hs nb hp) na) fun σ H Q ⟨O, ρ, r, I, hf, q⟩ => ?_⟩
  obtain ⟨x, e1, hf⟩ := Rs.bind_eq hf
  obtain ⟨y, e2, hf⟩ := Rs.bind_eq hf
  obtain ⟨ds, e3, hf⟩ := Rs.bind_eq hf
  cases hf
  unfold oRng2 at e3
  split at e3
  · rename_i i j z
    cases z
    split at e3
    · rename_i hj
      cases e3
      rw [Bool.and_eq_true] at hj
      obtain ⟨h1, h2⟩ := rngOk_iff hj.1
      obtain ⟨h3, h4⟩ := rngOk_iff hj.2
      refine ⟨O, ρ, _, I, e1, fun v H1 s r1 => ?_⟩
      cases (show Rep X.K H1 O v (.int i) from r1)
      refine ⟨O, ρ, _, I.same s, e2, fun u H2 s2 r2 => ?_⟩
      cases (show Rep X.K H2 O u (.int j) from r2)
      refine ⟨i, j, rfl, rfl, ⟨by omega, by omega, by omega, by omega, by omega⟩, fun l hl => ?_⟩
      have g := rr_newL (K := X.K) (O := O) hl (vs := rgV i j) (ds := rng i (j - i).toNat) (by rw [rgV_length, sizeLine_eq]; omega) (by unfold rgV rng; exact reps_rng i _)
      exact q _ _ ((s.trans s2).trans (same_upd hl)) (g.left (s.trans s2))
    · cases e3
  · cases e3
end
end VL
/-! the laws of histories: what their own builders of histories make -/
namespace HL
open PySem PySem.Spec PyProof.Rows L2 VL
def b__law_dropped_1 : FS := gForget [3] (gIf (fB (fOp dNe (fVar 3) (fVar 1))) (gDPut 2 (fVar 3) (fOp dIx (fVar 0) (fVar 3))) (gNext))
def g__law_dropped : FS := gSeq (gOwn 2 (fDNew)) (gSeq (gForD 0 (sName 3) (b__law_dropped_1)) (gRetV 2))
def F__law_dropped : List D → Rs R := fnR 4 g__law_dropped
def g__law_names : FS := gRet (fOp dIx (fDisp [(fC (.str "register"), fLst (fCons (fC (.str "write")) (fCons (fC (.str "read")) (fCons (fC (.str "swap")) (fNil))))), (fC (.str "counter"), fLst (fCons (fC (.str "add")) (fCons (fC (.str "get")) (fNil)))), (fC (.str "set"), fLst (fCons (fC (.str "insert")) (fCons (fC (.str "remove")) (fCons (fC (.str "has")) (fNil))))), (fC (.str "queue"), fLst (fCons (fC (.str "put")) (fCons (fC (.str "take")) (fNil))))]) (fVar 0))
def F__law_names : List D → Rs R := fnR 1 g__law_names
def g__law_many : FS := gSeq (gIf (fB (fOp dEq (fVar 0) (fC (.str "swap")))) (gRet (fC (.int 2))) (gNext)) (gRet (fBlt dInt1 (fCons (fOp (dIn false) (fVar 0) (fLst (fCons (fC (.str "write")) (fCons (fC (.str "add")) (fCons (fC (.str "insert")) (fCons (fC (.str "remove")) (fCons (fC (.str "has")) (fCons (fC (.str "put")) (fNil))))))))) (fNil))))
def F__law_many : List D → Rs R := fnR 1 g__law_many
def g__law_first : FS := gSeq (gIf (tOrB (fB (fOp dEq (fVar 0) (fC (.str "register")))) (fB (fOp dEq (fVar 0) (fC (.str "counter"))))) (gRet (fC (.int 0))) (gNext)) (gRet (fTup (fNil)))
def F__law_first : List D → Rs R := fnR 1 g__law_first
def g__law_step : FS := gSeq (gIf (fB (fOp dEq (fVar 2) (fC (.str "write")))) (gRet (fTup (fCons (fOp dIx (fVar 3) (fC (.int 0))) (fCons (fC (.str "ok")) (fNil))))) (gNext)) (gSeq (gIf (tOrB (fB (fOp dEq (fVar 2) (fC (.str "read")))) (fB (fOp dEq (fVar 2) (fC (.str "get"))))) (gRet (fTup (fCons (fVar 1) (fCons (fVar 1) (fNil))))) (gNext)) (gSeq (gIf (fB (fOp dEq (fVar 2) (fC (.str "swap")))) (gSeq (gIf (fB (fOp dEq (fVar 1) (fOp dIx (fVar 3) (fC (.int 0))))) (gRet (fTup (fCons (fOp dIx (fVar 3) (fC (.int 1))) (fCons (fC (.str "yes")) (fNil))))) (gNext)) (gRet (fTup (fCons (fVar 1) (fCons (fC (.str "no")) (fNil)))))) (gNext)) (gSeq (gIf (fB (fOp dEq (fVar 2) (fC (.str "add")))) (gRet (fTup (fCons (fOp dAdd (fVar 1) (fOp dIx (fVar 3) (fC (.int 0)))) (fCons (fC (.str "ok")) (fNil))))) (gNext)) (gSeq (gIf (fB (fOp dEq (fVar 2) (fC (.str "put")))) (gRet (fTup (fCons (fOp dAdd (fVar 1) (fTup (fCons (fOp dIx (fVar 3) (fC (.int 0))) (fNil)))) (fCons (fC (.str "ok")) (fNil))))) (gNext)) (gSeq (gIf (fB (fOp dEq (fVar 2) (fC (.str "take")))) (gSeq (gIf (fB (fOp dEq (fBlt dLen (fCons (fVar 1) (fNil))) (fC (.int 0)))) (gRet (fTup (fCons (fVar 1) (fCons (fC (.str "empty")) (fNil))))) (gNext)) (gRet (fTup (fCons (fSl (fVar 1) (fP (fC (.int 1))) (fNoP)) (fCons (fOp dIx (fVar 1) (fC (.int 0))) (fNil)))))) (gNext)) (gSeq (gSet 4 (fOp dIx (fLst (fCons (fC (.str "no")) (fCons (fC (.str "yes")) (fNil)))) (fBlt dInt1 (fCons (fOp dNe (fOp (dIn false) (fOp dIx (fVar 3) (fC (.int 0))) (fVar 1)) (fOp dEq (fVar 2) (fC (.str "insert")))) (fNil))))) (gSeq (gIf (fB (fOp dEq (fVar 2) (fC (.str "insert")))) (gRet (fTup (fCons (fBlt dTupOf (fCons (fBlt dSorted (fCons (fOp dAdd (fLc (fIter (fVar 1) (seqOf true)) (sName 5) (fB (fOp dNe (fVar 5) (fOp dIx (fVar 3) (fC (.int 0))))) (fVar 5) [5]) (fLst (fCons (fOp dIx (fVar 3) (fC (.int 0))) (fNil)))) (fNil))) (fNil))) (fCons (fVar 4) (fNil))))) (gNext)) (gSeq (gIf (fB (fOp dEq (fVar 2) (fC (.str "remove")))) (gRet (fTup (fCons (fBlt dTupOf (fCons (fLc (fIter (fVar 1) (seqOf true)) (sName 5) (fB (fOp dNe (fVar 5) (fOp dIx (fVar 3) (fC (.int 0))))) (fVar 5) [5]) (fNil))) (fCons (fVar 4) (fNil))))) (gNext)) (gRet (fTup (fCons (fVar 1) (fCons (fVar 4) (fNil)))))))))))))
def F__law_step : List D → Rs R := fnR 6 g__law_step
def b__law_objects_1 : FS := gForget [5] (gApp 4 (fTup (fCons (fOp dIx (fLst (fCons (fC (.str "a1")) (fCons (fC (.str "q")) (fCons (fC (.str "zz")) (fNil))))) (fVar 5)) (fCons (fOp dIx (fVar 3) (fOp dIx (fVar 2) (fVar 5))) (fNil)))))
def g__law_objects : FS := gSeq (gSet 2 (fCall FDraw (fCons (fVar 0) (fCons (fVar 1) (fCons (fLst (fCons (fC (.int 4)) (fCons (fC (.int 4)) (fCons (fC (.int 4)) (fCons (fC (.int 5)) (fNil)))))) (fNil)))))) (gSeq (gSet 3 (fLst (fCons (fC (.str "register")) (fCons (fC (.str "counter")) (fCons (fC (.str "set")) (fCons (fC (.str "queue")) (fNil))))))) (gSeq (gOwn 4 (fLst (fNil))) (gSeq (gFor (fRng1 (fCons (fOp dIx (fLst (fCons (fC (.int 1)) (fCons (fC (.int 1)) (fCons (fC (.int 2)) (fCons (fC (.int 2)) (fCons (fC (.int 3)) (fNil))))))) (fOp dIx (fVar 2) (fC (.int 3)))) (fNil))) (sName 5) (b__law_objects_1)) (gRetV 4))))
def F__law_objects : List D → Rs R := fnR 6 g__law_objects
def g__law_args : FS := gRet (fBlt dTupOf (fCons (fSl (fLst (fCons (fOp dMod (fVar 1) (fC (.int 4))) (fCons (fOp dMod (fVar 2) (fC (.int 4))) (fNil)))) (fNoP) (fP (fCall F__law_many (fCons (fVar 0) (fNil))))) (fNil)))
def F__law_args : List D → Rs R := fnR 3 g__law_args
def b__law_weave_1 : FS := gForget [11, 14, 15, 16] (gSeq (gSet 14 (fOp dIx (fLst (fCons (fC (.str "c")) (fCons (fC (.str "d")) (fCons (fC (.str "e2")) (fNil))))) (fOp dIx (fVar 4) (fOp dAdd (fOp dMul (fC (.int 6)) (fVar 11)) (fC (.int 1)))))) (gSeq (gIf (tAndB (fB (fOp (dIn true) (fVar 14) (fVar 8))) (fB (fOp dLt (fVar 10) (fVar 3)))) (gSeq (gSet 12 (fOp dIx (fOp dIx (fVar 2) (fOp dMod (fOp dIx (fVar 4) (fOp dAdd (fOp dMul (fC (.int 6)) (fVar 11)) (fC (.int 2)))) (fBlt dLen (fCons (fVar 2) (fNil))))) (fC (.int 0)))) (gSeq (gSet 16 (fCall F__law_names (fCons (fOp dIx (fVar 6) (fVar 12)) (fNil)))) (gSeq (gSet 17 (fOp dIx (fVar 16) (fOp dMod (fOp dIx (fVar 4) (fOp dMul (fC (.int 6)) (fVar 11))) (fBlt dLen (fCons (fVar 16) (fNil)))))) (gSeq (gSet 18 (fCall F__law_args (fCons (fVar 17) (fCons (fOp dIx (fVar 4) (fOp dAdd (fOp dMul (fC (.int 6)) (fVar 11)) (fC (.int 3)))) (fCons (fOp dIx (fVar 4) (fOp dAdd (fOp dMul (fC (.int 6)) (fVar 11)) (fC (.int 4)))) (fNil)))))) (gSeq (gApp 7 (fTup (fCons (fC (.str "call")) (fCons (fVar 14) (fCons (fVar 12) (fCons (fVar 17) (fCons (fVar 18) (fNil)))))))) (gSeq (gDPut 8 (fVar 14) (fTup (fCons (fVar 12) (fCons (fVar 17) (fCons (fVar 18) (fNil)))))) (gSet 10 (fOp dAdd (fVar 10) (fC (.int 1)))))))))) (gIf (fB (fOp (dIn false) (fVar 14) (fVar 8))) (gSeq (gIf (fB (fOp (dIn true) (fVar 14) (fVar 9))) (gSeq (gAsg (fOp dIx (fVar 8) (fVar 14)) (sTup (sCons (sName 12) (sCons (sName 17) (sCons (sName 18) (sNil)))))) (gAsg (fCall F__law_step (fCons (fOp dIx (fVar 6) (fVar 12)) (fCons (fOp dIx (fVar 5) (fVar 12)) (fCons (fVar 17) (fCons (fVar 18) (fNil)))))) (sTup (sCons (sDPutT 5 (fVar 12)) (sCons (sDPutT 9 (fVar 14)) (sNil)))))) (gNext)) (gIf (tOrB (fB (fOp dGt (fOp dIx (fVar 4) (fOp dAdd (fOp dMul (fC (.int 6)) (fVar 11)) (fC (.int 5)))) (fC (.int 0)))) (fB (fOp dEq (fVar 10) (fVar 3)))) (gSeq (gApp 7 (fTup (fCons (fC (.str "return")) (fCons (fVar 14) (fCons (fOp dIx (fVar 9) (fVar 14)) (fNil)))))) (gSeq (gFz 8 (gOwn 8 (fCall F__law_dropped (fCons (fVar 8) (fCons (fVar 14) (fNil)))))) (gFz 9 (gOwn 9 (fCall F__law_dropped (fCons (fVar 9) (fCons (fVar 14) (fNil)))))))) (gNext))) (gNext))) (gSeq (gSet 15 (fOp dIx (fLst (fCons (fC (.str "c")) (fCons (fC (.str "d")) (fCons (fC (.str "e2")) (fNil))))) (fOp dIx (fVar 4) (fOp dAdd (fOp dMul (fC (.int 6)) (fVar 11)) (fC (.int 5)))))) (gIf (tAndB (fB (fOp (dIn false) (fVar 15) (fVar 8))) (tAndB (fB (fOp (dIn true) (fVar 15) (fVar 9))) (fB (fOp dEq (fOp dIx (fVar 4) (fOp dAdd (fOp dMul (fC (.int 6)) (fVar 11)) (fC (.int 3)))) (fC (.int 0)))))) (gSeq (gAsg (fOp dIx (fVar 8) (fVar 15)) (sTup (sCons (sName 12) (sCons (sName 17) (sCons (sName 18) (sNil)))))) (gAsg (fCall F__law_step (fCons (fOp dIx (fVar 6) (fVar 12)) (fCons (fOp dIx (fVar 5) (fVar 12)) (fCons (fVar 17) (fCons (fVar 18) (fNil)))))) (sTup (sCons (sDPutT 5 (fVar 12)) (sCons (sDPutT 9 (fVar 15)) (sNil)))))) (gNext)))))
def b__law_weave_2 : FS := gForget [13] (gDPut 5 (fVar 12) (fCall F__law_first (fCons (fVar 13) (fNil))))
def g__law_weave : FS := gSeq (gSet 4 (fCall FDraw (fCons (fVar 0) (fCons (fVar 1) (fCons (fRep (fLst (fCons (fC (.int 4)) (fCons (fC (.int 3)) (fCons (fC (.int 5)) (fCons (fC (.int 4)) (fCons (fC (.int 4)) (fCons (fC (.int 3)) (fNil)))))))) (fC (.int 24))) (fNil)))))) (gSeq (gOwn 5 (fDNew)) (gSeq (gFor (fIter (fVar 2) (seqOf false)) (sTup (sCons (sName 12) (sCons (sName 13) (sNil)))) (b__law_weave_2)) (gSeq (gSet 6 (fBlt dDict (fCons (fVar 2) (fNil)))) (gSeq (gOwn 7 (fLst (fNil))) (gSeq (gOwn 8 (fDNew)) (gSeq (gOwn 9 (fDNew)) (gSeq (gSet 10 (fC (.int 0))) (gSeq (gFor (fRng1 (fCons (fC (.int 24)) (fNil))) (sName 11) (b__law_weave_1)) (gRetV 7)))))))))
def F__law_weave : List D → Rs R := fnR 19 g__law_weave
def b__law_spoil_1 : FS := gForget [5, 6, 7] (gSeq (gSet 6 (fOp dMod (fOp dIx (fVar 3) (fOp dAdd (fC (.int 1)) (fOp dMul (fC (.int 2)) (fVar 5)))) (fBlt dMax2 (fCons (fC (.int 1)) (fCons (fBlt dLen (fCons (fVar 4) (fNil))) (fNil)))))) (gIf (tAndB (fB (fOp dGt (fBlt dLen (fCons (fVar 4) (fNil))) (fC (.int 0)))) (fB (fOp dEq (fOp dIx (fOp dIx (fVar 4) (fVar 6)) (fC (.int 0))) (fC (.str "return"))))) (gSeq (gSet 7 (fOp dIx (fOp dIx (fVar 4) (fVar 6)) (fC (.int 2)))) (gIf (tAndB (fTr (fIsi "int" (fVar 7))) (fB (fOp dLe (fVar 7) (fC (.int 9))))) (gSetIx 4 (fVar 6) (fTup (fCons (fC (.str "return")) (fCons (fOp dIx (fOp dIx (fVar 4) (fVar 6)) (fC (.int 1))) (fCons (fOp dIx (fVar 3) (fOp dAdd (fC (.int 2)) (fOp dMul (fC (.int 2)) (fVar 5)))) (fNil)))))) (gIf (fB (fOp dEq (fVar 7) (fC (.str "yes")))) (gSetIx 4 (fVar 6) (fTup (fCons (fC (.str "return")) (fCons (fOp dIx (fOp dIx (fVar 4) (fVar 6)) (fC (.int 1))) (fCons (fC (.str "no")) (fNil)))))) (gIf (fB (fOp dEq (fVar 7) (fC (.str "no")))) (gSetIx 4 (fVar 6) (fTup (fCons (fC (.str "return")) (fCons (fOp dIx (fOp dIx (fVar 4) (fVar 6)) (fC (.int 1))) (fCons (fC (.str "yes")) (fNil)))))) (gNext))))) (gNext)))
def g__law_spoil : FS := gSeq (gSet 3 (fCall FDraw (fCons (fVar 0) (fCons (fVar 1) (fCons (fLst (fCons (fC (.int 3)) (fCons (fC (.int 24)) (fCons (fC (.int 6)) (fCons (fC (.int 24)) (fCons (fC (.int 6)) (fNil))))))) (fNil)))))) (gSeq (gOwn 4 (fBlt dListOf (fCons (fVar 2) (fNil)))) (gSeq (gFor (fRng1 (fCons (fOp dIx (fVar 3) (fC (.int 0))) (fNil))) (sName 5) (b__law_spoil_1)) (gRetV 4)))
def F__law_spoil : List D → Rs R := fnR 8 g__law_spoil
def g__law_history : FS := gSeq (gSet 3 (fCall F__law_objects (fCons (fVar 0) (fCons (fVar 1) (fNil))))) (gSeq (gSet 4 (fCall F__law_spoil (fCons (fVar 0) (fCons (fOp dAdd (fVar 1) (fC (.int 2))) (fCons (fCall F__law_weave (fCons (fVar 0) (fCons (fOp dAdd (fVar 1) (fC (.int 1))) (fCons (fVar 3) (fCons (fVar 2) (fNil)))))) (fNil)))))) (gRet (fTup (fCons (fBlt dTupOf (fCons (fVar 3) (fNil))) (fCons (fBlt dTupOf (fCons (fVar 4) (fNil))) (fNil))))))
def F__law_history : List D → Rs R := fnR 5 g__law_history
def b__law_ops_1 : FS := gForget [3] (gIf (fB (fOp dEq (fOp dIx (fOp dIx (fVar 0) (fVar 3)) (fC (.int 0))) (fC (.str "call")))) (gSeq (gDPut 2 (fOp dIx (fOp dIx (fVar 0) (fVar 3)) (fC (.int 1))) (fBlt dLen (fCons (fVar 1) (fNil)))) (gPlApp 1 toT (pVar 1) (fLst (fCons (fOp dIx (fOp dIx (fVar 0) (fVar 3)) (fC (.int 1))) (fCons (fOp dIx (fOp dIx (fVar 0) (fVar 3)) (fC (.int 2))) (fCons (fOp dIx (fOp dIx (fVar 0) (fVar 3)) (fC (.int 3))) (fCons (fOp dIx (fOp dIx (fVar 0) (fVar 3)) (fC (.int 4))) (fCons (fC .none) (fCons (fVar 3) (fCons (fC .none) (fNil))))))))))) (gSeq (gPlSet 1 toLf (pIx (pVar 1) (fOp dIx (fVar 2) (fOp dIx (fOp dIx (fVar 0) (fVar 3)) (fC (.int 1))))) (fC (.int 4)) (fOp dIx (fOp dIx (fVar 0) (fVar 3)) (fC (.int 2)))) (gPlSet 1 toLf (pIx (pVar 1) (fOp dIx (fVar 2) (fOp dIx (fOp dIx (fVar 0) (fVar 3)) (fC (.int 1))))) (fC (.int 6)) (fVar 3))))
def g__law_ops : FS := gSeq (gOwnT 1 (fLst (fNil))) (gSeq (gOwn 2 (fDNew)) (gSeq (gFor (fRng1 (fCons (fBlt dLen (fCons (fVar 0) (fNil))) (fNil))) (sName 3) (b__law_ops_1)) (gFz 1 (gRet (fLc (fIter (fVar 1) (seqOf true)) (sName 4) (ttYes) (fBlt dTupOf (fCons (fVar 4) (fNil))) [4])))))
def F__law_ops : List D → Rs R := fnR 5 g__law_ops
local macro_rules | `(tactic| walk_at "vl") => `(tactic| simp only [so_frl, so_frt, so_ol, so_bw, so_btl, so_btt, ap_fEnumQ, ap_pVar, ap_treeAt, ap_putT, ap_pIx, px_ol, px_od, useP_ok, ap_gPlApp, appK_ol, ap_gPlSet, ps_ol, ps_od, lf_fr, lf_ol, lf_od, tT_ol, tT_od, tT_ot, td_fz, td_ol, td_od, ap_gDPut, ap_gDDel, ap_fKGet, ap_fKIn, tb_nil, tb_cons, ap_fDisp, evp_nil, evp_cons, dmerge_eq, ap_fDNew, isk_i, isk_s, keq_ii, keq_ss, dput_nil, dput_cons, dget_nil, dget_cons, okd_nil, okd_s, okd_i, ix_d, in_ds, in_di, List.foldl_cons, List.foldl_nil, Option.isSome_some, Option.isSome_none, ap_fRng3, ap_oRng3, ap_fRev, rev_l, ap_fCallL, ff_nil, ff_cons, ap_fIsi, isi_n, isi_b, isi_i, isi_s, isi_l, isi_t, ap_isiB, fnR_eq, ap_gSeq, ap_gNext, ap_gCont, ap_gBreak, ap_gFz, ap_gIf, br_t, br_f, br_b, useS_ok, ap_gRet, ap_gSet, ap_gOwn, ap_gRetV, ap_gApp, ap_gAug, useL_ok, ap_gFor, ap_gForget, ap_gAsg, ap_gSetIx, ap_fVar, ap_fC, ap_fOp, ap_fB, ap_toB, ap_fTr, ap_fCall, ap_fBlt, ap_fNil, ap_fCons, ap_fLst, ap_fTup, ap_fzL, fzAll_nil, fzAll_fr, fzAll_ol, fzAll_od, fzAll_bw, fz_fr, fz_ol, fz_od, fz_bw, ap_callR, sure_ok, sure_bad, ap_fSl, ap_fNoP, ap_fP, ap_oInt, ap_fIter, ap_fRng1, ap_fRng2, ap_oRng1, ap_oRng2, lo_fr, lo_ol, lo_bw, to_fr, ap_fRep, ap_oRep, okite1, okite2, bind_ite, rbind_ite, fin_ite, fin_rt_fr, fin_rt_ol, fin_nx, fin_bad, brR_b, ap_fAnd, ap_fOr, ap_fNot, ap_notR, ap_fNeg, ap_dNeg, ap_fIf, ap_fChain, ap_fLc, ap_tAndB, ap_tOrB, ap_tNotB, ap_ttYes, tr_bool, tr_list, tr_tuple, tr_none, tr_int, ap_sName, ap_sTup, ap_sCons, ap_sNil, w_nil, w_cons, slot_fr, slot_ol, slot_od, ap_frz, add_ii, add_tt, add_ll, add_ss, sub_ii, mul_ii, mod_ii, div_ii, pow_ii, lt_ii, le_ii, gt_ii, ge_ii, isn_, notn_, isNone_n, isNone_i, isNone_t, isNone_l, isNone_s, isNone_b, rk_none, rk_bool, rk_int, rk_str, rk_list, rk_tuple, eq_rk, ne_rk, inl_rk, int_rk, inB_f, inB_t, ix_l, ix_t, atD_eq, atI_0, atI_1, atI_2, atI_3, atI_4, atI_5, atI_6, atI_7, atI_map, sl_l, sl_t, len_l, len_t, min_ii, max_ii, list_l, list_t, tuple_l, tuple_t, int_i, int_b, ofString_inj, eqv_ii, eqv_ss, eqv_bb, eqv_nn, eqv_ni, eqv_in, eqv_is, eqv_si, eqv_ns, eqv_sn, eqv_ll, eqv_tt, eqva_nn, eqva_cc, eqva_nc, eqva_cn, Rs.bind_ok, Rs.bind_bad, So.bind_nx, So.bind_rt, So.bind_ct, So.bind_bk, So.bind_bad, R.d_fr, R.d_ol, R.d_od, R.d_bw, retR_fr, retR_ol, retR_od, retR_ot, setR_fr, setR_ol, setR_od, setR_ot, ownR_fr, ownR_ol, ownR_od, ownR_ot, ownT_ol, ownT_od, ownT_ot, ap_gOwnT, opR_frfr, opR_frol, opR_frod, opR_frbw, opR_olfr, opR_olol, opR_olod, opR_olbw, opR_odfr, opR_odol, opR_odod, opR_odbw, opR_bwfr, opR_bwol, opR_bwod, opR_bwbw, opR_bt1, opR_bt2, immR_fr, immR_ol, immR_od, immR_bt, immR_bw, imm_n, imm_b, imm_i, imm_s, imm_t, imm_l, imm_d, imms_n, imms_c, opU_fr, opU_ol, opU_od, opU_bw, opU_bt, bt_fr, bt_ol, bt_od, bt_bw, bt_bt, ap_opL, fz_bt, fz_ot, fzAll_bt, fzAll_ot, lo_bt, to_bt, slot_ot, fin_rt_od, fin_rt_ot, fin_ex, R.d_bt, R.d_ot, Rs.bind_ex, So.bind_ex,
  List.map_cons, List.map_nil, List.length_cons, List.length_nil, List.length_map, List.replicate_succ, List.replicate_zero, List.cons_append, List.nil_append, List.append_nil, List.getElem?_cons_zero, List.getElem?_cons_succ, List.set_cons_zero, List.set_cons_succ, List.all_cons, List.all_nil, List.any_cons, List.any_nil, Nat.zero_add, Nat.add_one_sub_one, Nat.reduceAdd, Nat.reduceSub, Nat.reduceMul, Nat.reduceLeDiff, Int.cast_ofNat_Int, Int.reduceLT, Int.reduceLE, Int.reduceAdd, Int.reduceMul, Int.reduceEq, Int.reduceNe, Int.reduceToNat, Int.reduceNeg, Int.reducePow, String.reduceEq, decide_true, decide_false, Bool.false_eq_true, Bool.true_eq_false, Bool.or_true, Bool.or_false, Bool.true_or, Bool.false_or, Bool.and_true, Bool.true_and, Bool.and_false, Bool.false_and, Bool.not_true, Bool.not_false, Bool.and_self, Bool.or_self, if_true, if_false, ite_true, ite_false, reduceIte, Option.bind_some, Option.bind_none, Option.map_some, Option.map_none, and_self, and_true, true_and, eq_self])
variable [Vx]
theorem ap_gForD (i : Nat) (st : D → En → Option En) (body : FS) (ρ : En) : gForD i st body ρ = match ρ[i]? with
  | some (.fr (.dict ds)) => if okDict ds = true then (gLoop st body (dKeys ds) ρ).sure else .bad
  | _ => .bad := rfl
/-! ### dicts with texts as keys -/
section
variable {α : Type} {g : α → D}
def aget (l : List (Str × α)) (c : Str) : Option α := (l.find? fun p => decide (p.1 = c)).map (·.2)
def aput (l : List (Str × α)) (c : Str) (x : α) : List (Str × α) := if (l.any fun p => decide (p.1 = c)) = true then l.map (fun p => if p.1 = c then (p.1, x) else p) else l ++ [(c, x)]
def adrop (l : List (Str × α)) (c : Str) : List (Str × α) := l.filter fun p => decide (p.1 ≠ c)
/-- such a dict as data -/
def aD (g : α → D) (l : List (Str × α)) : List (D × D) := l.map fun p => (.str p.1, g p.2)
theorem aD_ok : ∀ l : List (Str × α), okDict (aD g l) = true
  | [] => rfl
  | _ :: _ => rfl
theorem aD_any (c : Str) : ∀ l : List (Str × α), ((aD g l).any fun p => kEq p.1 (.str c)) = l.any fun p => decide (p.1 = c)
  | [] => rfl
  | p :: l => by
    show (kEq (.str p.1) (.str c) || (aD g l).any _) = _
    rw [aD_any c l, keq_ss, List.any_cons]
theorem aD_get (c : Str) : ∀ l : List (Str × α), dgetD (aD g l) (.str c) = (aget l c).map g
  | [] => rfl
  | p :: l => by
    have ih := aD_get c l
    show dgetD ((.str p.1, g p.2) :: aD g l) (.str c) = _
    rw [dget_cons, keq_ss, ih]
    unfold aget
    rw [List.find?_cons]
    by_cases h : p.1 = c
    · simp [h]
    · simp [h]
theorem aD_put (c : Str) (x : α) (l : List (Str × α)) : dputD (aD g l) (.str c) (g x) = aD g (aput l c x) := by
  unfold dputD aput
  rw [aD_any]
  split
  · unfold aD
    rw [List.map_map, List.map_map]
    refine List.map_congr_left fun p _ => ?_
    show (if kEq (.str p.1) (.str c) = true then _ else _) = _
    rw [keq_ss, Function.comp]
    by_cases h : p.1 = c
    · simp [h]
    · simp [h]
  · unfold aD
    rw [List.map_append]
    rfl
theorem aget_put (l : List (Str × α)) (c b : Str) (x : α) : aget (aput l c x) b = if c = b then some x else aget l b := by
  unfold aput
  induction l with
  | nil =>
    simp only [List.any_nil, Bool.false_eq_true, if_false, List.nil_append]
    unfold aget
    rw [List.find?_cons]
    by_cases h : c = b
    · simp [h]
    · simp [h]
  | cons p l ih =>
    rw [List.any_cons]
    by_cases hp : p.1 = c
    · simp only [hp, decide_true, Bool.true_or, if_true]
      rw [List.map_cons, if_pos hp]
      unfold aget
      rw [List.find?_cons, List.find?_cons]
      by_cases h : c = b
      · simp [hp, h]
      · rw [if_neg h]
        have e1 : decide (p.1 = b) = false := by rw [hp]; exact decide_eq_false h
        simp only [e1]
        have : ∀ l : List (Str × α), (l.map fun p => if p.1 = c then (p.1, x) else p).find? (fun p => decide (p.1 = b)) = l.find? fun p => decide (p.1 = b) := fun l => by
          induction l with
          | nil => rfl
          | cons q l ih =>
            rw [List.map_cons, List.find?_cons, List.find?_cons, ih]
            by_cases hq : q.1 = c
            · rw [if_pos hq]
              have : decide (q.1 = b) = false := by rw [hq]; exact decide_eq_false h
              simp only [this]
            · rw [if_neg hq]
        rw [this]
    · simp only [hp, decide_false, Bool.false_or]
      by_cases ha : (l.any fun p => decide (p.1 = c)) = true
      · rw [if_pos ha] at ih ⊢
        rw [List.map_cons, if_neg hp]
        unfold aget at ih ⊢
        rw [List.find?_cons, List.find?_cons]
        by_cases h : p.1 = b
        · simp only [h, decide_true]
          rw [if_neg fun e => hp (h.trans e.symm)]
        · simp only [h, decide_false]
          exact ih
      · rw [if_neg ha] at ih ⊢
        rw [List.cons_append]
        unfold aget at ih ⊢
        rw [List.find?_cons, List.find?_cons]
        by_cases h : p.1 = b
        · simp only [h, decide_true]
          rw [if_neg fun e => hp (h.trans e.symm)]
        · simp only [h, decide_false]
          exact ih
theorem mem_aput {l : List (Str × α)} {c : Str} {x : α} {p : Str × α} (h : p ∈ aput l c x) : p ∈ l ∨ p = (c, x) := by
  unfold aput at h
  split at h
  · obtain ⟨q, hq, e⟩ := List.mem_map.mp h
    by_cases z : q.1 = c
    · rw [if_pos z] at e
      exact .inr (by rw [← e, z])
    · rw [if_neg z] at e
      exact .inl (e ▸ hq)
  · exact (List.mem_append.mp h).imp id List.mem_singleton.mp
theorem keys_aput (l : List (Str × α)) (c : Str) (x : α) : (aput l c x).map (·.1) = if (l.any fun p => decide (p.1 = c)) = true then l.map (·.1) else l.map (·.1) ++ [c] := by
  unfold aput
  split
  · rw [List.map_map]
    refine List.map_congr_left fun p _ => ?_
    rw [Function.comp]
    split <;> rfl
  · rw [List.map_append]; rfl
theorem any_key {l : List (Str × α)} {c : Str} : (l.any fun p => decide (p.1 = c)) = true ↔ c ∈ l.map (·.1) := by
  rw [List.any_eq_true, List.mem_map]
  simp only [decide_eq_true_eq]
theorem nodup_aput {l : List (Str × α)} {c : Str} {x : α} (h : (l.map (·.1)).Nodup) : ((aput l c x).map (·.1)).Nodup := by
  rw [keys_aput]
  split
  · exact h
  · rename_i hn
    refine List.nodup_append.mpr ⟨h, List.nodup_cons.mpr ⟨List.not_mem_nil, List.nodup_nil⟩, fun a ha b hb e => hn (any_key.mpr ?_)⟩
    rw [List.mem_singleton.mp hb] at e
    exact e ▸ ha
theorem mem_aget {l : List (Str × α)} {c : Str} {x : α} (h : aget l c = some x) : (c, x) ∈ l := by
  unfold aget at h
  obtain ⟨p, hp, e⟩ := Option.map_eq_some_iff.mp h
  have h1 := List.find?_some hp
  have h2 := List.mem_of_find?_eq_some hp
  have h1 : p.1 = c := of_decide_eq_true h1
  rw [← e, ← h1]
  exact h2
theorem aget_some {l : List (Str × α)} {c : Str} : (aget l c).isSome = (l.any fun p => decide (p.1 = c)) := by
  unfold aget
  rw [Option.isSome_map]
  induction l with
  | nil => rfl
  | cons p l ih =>
    rw [List.find?_cons, List.any_cons]
    by_cases h : p.1 = c
    · simp [h]
    · simp only [h, decide_false, Bool.false_or]
      exact ih
theorem aget_drop (l : List (Str × α)) (c b : Str) : aget (adrop l c) b = if b = c then none else aget l b := by
  unfold aget adrop
  induction l with
  | nil => simp
  | cons p l ih =>
    rw [List.filter_cons]
    by_cases h : p.1 = c
    · simp only [h, ne_eq, not_true, decide_false, Bool.false_eq_true, if_false]
      rw [ih, List.find?_cons]
      by_cases hb : b = c
      · simp [hb]
      · have : decide (p.1 = b) = false := decide_eq_false fun e => hb (e.symm.trans h)
        rw [if_neg hb, if_neg hb, this]
    · simp only [h, ne_eq, not_false_iff, decide_true, if_true]
      rw [List.find?_cons, List.find?_cons]
      by_cases hb : p.1 = b
      · simp only [hb, decide_true]
        rw [if_neg fun e => h (hb.trans e)]
      · simp only [hb, decide_false]
        exact ih
theorem nodup_adrop {l : List (Str × α)} {c : Str} (h : (l.map (·.1)).Nodup) : ((adrop l c).map (·.1)).Nodup := h.sublist ((List.filter_sublist).map _)
theorem mem_adrop {l : List (Str × α)} {c : Str} {p : Str × α} (h : p ∈ adrop l c) : p ∈ l := (List.mem_filter.mp h).1
/-- a dict, but one key -/
theorem dropped (l : List (Str × α)) (c : Str) (hn : (l.map (·.1)).Nodup) (hl : l.length ≤ 1000) : F__law_dropped [.dict (aD g l), .str c] = .ok (.od (aD g (adrop l c))) := by
  have ek : dKeys (aD g l) = l.map fun p => PyData.str p.1 := by
    unfold dKeys aD
    rw [List.map_map]
    rfl
  obtain ⟨m, h1, h2⟩ := loop_ex (f := fun p : Str × α => PyData.str p.1) (E := fun m : List (Str × α) => [.fr (.dict (aD g l)), .fr (.str c), .od (aD g m), .un]) (st := sName 3) (body := b__law_dropped_1)
    (fun i m => m = adrop (l.take i) c) l [] rfl (fun i m p hi hm => by
      have hlt : i < l.length := (List.getElem?_eq_some_iff.mp hi).1
      have hg : aget l p.1 = some p.2 := by
        unfold aget
        cases hf : l.find? (fun q => decide (q.1 = p.1)) with
        | none =>
          have := List.find?_eq_none.mp hf p (List.mem_of_getElem? hi)
          simp at this
        | some q =>
          have h1 : q.1 = p.1 := of_decide_eq_true (List.find?_some (p := fun q : Str × α => decide (q.1 = p.1)) hf)
          have h2 := List.mem_of_find?_eq_some hf
          have : q = p := by
            obtain ⟨j, hj, ej⟩ := List.getElem_of_mem h2
            obtain ⟨hi', ei⟩ := List.getElem?_eq_some_iff.mp hi
            have : j = i := nodup_ix hn (x := p.1) (by rw [List.getElem?_map, List.getElem?_eq_getElem hj, ej]; exact congrArg some h1) (by rw [List.getElem?_map, hi]; rfl)
            subst this
            exact ej.symm.trans ei
          rw [this]
          rfl
      rw [take_at hi]
      by_cases hc : p.1 = c
      · refine ⟨m, ?_, _, rfl, .inl ?_⟩
        · unfold adrop at hm ⊢
          rw [List.filter_append, ← hm]
          simp [hc]
        · unfold b__law_dropped_1
          repeat first | walk_at "vl" | simp only [hc, ne_eq, not_true]
      · have hml : m.length ≤ 1000 := by
          rw [hm]
          unfold adrop
          exact Nat.le_trans (List.length_filter_le ..) (by rw [List.length_take]; omega)
        have z : (aD g m).length < sizeN := sz_small (by unfold aD; rw [List.length_map]; omega)
        refine ⟨aput m p.1 p.2, ?_, _, rfl, .inl ?_⟩
        · unfold adrop at hm ⊢
          rw [List.filter_append, ← hm]
          have hnot : ¬ (m.any fun q => decide (q.1 = p.1)) = true := fun h => by
            obtain ⟨q, hq, e⟩ := List.mem_map.mp (any_key.mp h)
            rw [hm] at hq
            have hq' := (List.mem_filter.mp hq).1
            obtain ⟨j, hj, ej⟩ := List.getElem_of_mem hq'
            rw [List.length_take] at hj
            rw [List.getElem_take] at ej
            obtain ⟨hi', ei⟩ := List.getElem?_eq_some_iff.mp hi
            have : j = i := nodup_ix hn (x := p.1) (by rw [List.getElem?_map, List.getElem?_eq_getElem (by omega), ej]; exact congrArg some e) (by rw [List.getElem?_map, hi]; rfl)
            omega
          unfold aput
          rw [if_neg hnot]
          simp [hc]
        · unfold b__law_dropped_1
          repeat first | walk_at "vl" | simp only [hc, aD_get, hg, aD_ok, z, aD_put])
  rw [List.take_length] at h1
  subst h1
  have e0 : aD g ([] : List (Str × α)) = [] := rfl
  rw [e0] at h2
  unfold F__law_dropped g__law_dropped
  repeat first | walk_at "vl" | simp only [ap_gForD, aD_ok, ek, h2, So.sure]
end
end HL
namespace HL
open PySem PySem.Spec PyProof.Rows L2 VL
local macro_rules | `(tactic| walk_at "vl") => `(tactic| simp only [so_frl, so_frt, so_ol, so_bw, so_btl, so_btt, ap_fEnumQ, ap_pVar, ap_treeAt, ap_putT, ap_pIx, px_ol, px_od, useP_ok, ap_gPlApp, appK_ol, ap_gPlSet, ps_ol, ps_od, lf_fr, lf_ol, lf_od, tT_ol, tT_od, tT_ot, td_fz, td_ol, td_od, ap_gDPut, ap_gDDel, ap_fKGet, ap_fKIn, tb_nil, tb_cons, ap_fDisp, evp_nil, evp_cons, dmerge_eq, ap_fDNew, isk_i, isk_s, keq_ii, keq_ss, dput_nil, dput_cons, dget_nil, dget_cons, okd_nil, okd_s, okd_i, ix_d, in_ds, in_di, List.foldl_cons, List.foldl_nil, Option.isSome_some, Option.isSome_none, ap_fRng3, ap_oRng3, ap_fRev, rev_l, ap_fCallL, ff_nil, ff_cons, ap_fIsi, isi_n, isi_b, isi_i, isi_s, isi_l, isi_t, ap_isiB, fnR_eq, ap_gSeq, ap_gNext, ap_gCont, ap_gBreak, ap_gFz, ap_gIf, br_t, br_f, br_b, useS_ok, ap_gRet, ap_gSet, ap_gOwn, ap_gRetV, ap_gApp, ap_gAug, useL_ok, ap_gFor, ap_gForget, ap_gAsg, ap_gSetIx, ap_fVar, ap_fC, ap_fOp, ap_fB, ap_toB, ap_fTr, ap_fCall, ap_fBlt, ap_fNil, ap_fCons, ap_fLst, ap_fTup, ap_fzL, fzAll_nil, fzAll_fr, fzAll_ol, fzAll_od, fzAll_bw, fz_fr, fz_ol, fz_od, fz_bw, ap_callR, sure_ok, sure_bad, ap_fSl, ap_fNoP, ap_fP, ap_oInt, ap_fIter, ap_fRng1, ap_fRng2, ap_oRng1, ap_oRng2, lo_fr, lo_ol, lo_bw, to_fr, ap_fRep, ap_oRep, okite1, okite2, bind_ite, rbind_ite, fin_ite, fin_rt_fr, fin_rt_ol, fin_nx, fin_bad, brR_b, ap_fAnd, ap_fOr, ap_fNot, ap_notR, ap_fNeg, ap_dNeg, ap_fIf, ap_fChain, ap_fLc, ap_tAndB, ap_tOrB, ap_tNotB, ap_ttYes, tr_bool, tr_list, tr_tuple, tr_none, tr_int, ap_sName, ap_sTup, ap_sCons, ap_sNil, w_nil, w_cons, slot_fr, slot_ol, slot_od, ap_frz, add_ii, add_tt, add_ll, add_ss, sub_ii, mul_ii, mod_ii, div_ii, pow_ii, lt_ii, le_ii, gt_ii, ge_ii, isn_, notn_, isNone_n, isNone_i, isNone_t, isNone_l, isNone_s, isNone_b, rk_none, rk_bool, rk_int, rk_str, rk_list, rk_tuple, eq_rk, ne_rk, inl_rk, int_rk, inB_f, inB_t, ix_l, ix_t, atD_eq, atI_0, atI_1, atI_2, atI_3, atI_4, atI_5, atI_6, atI_7, atI_map, sl_l, sl_t, len_l, len_t, min_ii, max_ii, list_l, list_t, tuple_l, tuple_t, int_i, int_b, ofString_inj, eqv_ii, eqv_ss, eqv_bb, eqv_nn, eqv_ni, eqv_in, eqv_is, eqv_si, eqv_ns, eqv_sn, eqv_ll, eqv_tt, eqva_nn, eqva_cc, eqva_nc, eqva_cn, Rs.bind_ok, Rs.bind_bad, So.bind_nx, So.bind_rt, So.bind_ct, So.bind_bk, So.bind_bad, R.d_fr, R.d_ol, R.d_od, R.d_bw, retR_fr, retR_ol, retR_od, retR_ot, setR_fr, setR_ol, setR_od, setR_ot, ownR_fr, ownR_ol, ownR_od, ownR_ot, ownT_ol, ownT_od, ownT_ot, ap_gOwnT, opR_frfr, opR_frol, opR_frod, opR_frbw, opR_olfr, opR_olol, opR_olod, opR_olbw, opR_odfr, opR_odol, opR_odod, opR_odbw, opR_bwfr, opR_bwol, opR_bwod, opR_bwbw, opR_bt1, opR_bt2, immR_fr, immR_ol, immR_od, immR_bt, immR_bw, imm_n, imm_b, imm_i, imm_s, imm_t, imm_l, imm_d, imms_n, imms_c, opU_fr, opU_ol, opU_od, opU_bw, opU_bt, bt_fr, bt_ol, bt_od, bt_bw, bt_bt, ap_opL, fz_bt, fz_ot, fzAll_bt, fzAll_ot, lo_bt, to_bt, slot_ot, fin_rt_od, fin_rt_ot, fin_ex, R.d_bt, R.d_ot, Rs.bind_ex, So.bind_ex,
  List.map_cons, List.map_nil, List.length_cons, List.length_nil, List.length_map, List.replicate_succ, List.replicate_zero, List.cons_append, List.nil_append, List.append_nil, List.getElem?_cons_zero, List.getElem?_cons_succ, List.set_cons_zero, List.set_cons_succ, List.all_cons, List.all_nil, List.any_cons, List.any_nil, Nat.zero_add, Nat.add_one_sub_one, Nat.reduceAdd, Nat.reduceSub, Nat.reduceMul, Nat.reduceLeDiff, Int.cast_ofNat_Int, Int.reduceLT, Int.reduceLE, Int.reduceAdd, Int.reduceMul, Int.reduceEq, Int.reduceNe, Int.reduceToNat, Int.reduceNeg, Int.reducePow, String.reduceEq, decide_true, decide_false, Bool.false_eq_true, Bool.true_eq_false, Bool.or_true, Bool.or_false, Bool.true_or, Bool.false_or, Bool.and_true, Bool.true_and, Bool.and_false, Bool.false_and, Bool.not_true, Bool.not_false, Bool.and_self, Bool.or_self, if_true, if_false, ite_true, ite_false, reduceIte, Option.bind_some, Option.bind_none, Option.map_some, Option.map_none, and_self, and_true, true_and, eq_self])
variable [Vx]
/-! ### kinds, words, arguments, steps -/
def kindsL : List Str := ["register", "counter", "set", "queue"]
def namesL : List Str := ["a1", "q", "zz"]
def clientsL : List Str := ["c", "d", "e2"]
/-- a kind's words with the number of arguments -/
def wordsL : List (Str × Str × Nat) := [("register", "write", 1), ("register", "read", 0), ("register", "swap", 2), ("counter", "add", 1), ("counter", "get", 0), ("set", "insert", 1), ("set", "remove", 1), ("set", "has", 1), ("queue", "put", 1), ("queue", "take", 0)]
def manyW (w : Str) : Nat := if w = "swap" then 2 else if w ∈ (["write", "add", "insert", "remove", "has", "put"] : List Str) then 1 else 0
def wordsOf (k : Str) : List Str := if k = "register" then ["write", "read", "swap"] else if k = "counter" then ["add", "get"] else if k = "set" then ["insert", "remove", "has"] else ["put", "take"]
theorem kinds_cases {k : Str} (h : k ∈ kindsL) : k = "register" ∨ k = "counter" ∨ k = "set" ∨ k = "queue" := by
  unfold kindsL at h
  simpa using h
theorem names_eq {k : Str} (h : k ∈ kindsL) : F__law_names [.str k] = .ok (.fr (.list ((wordsOf k).map .str))) := by
  unfold F__law_names g__law_names wordsOf
  rcases kinds_cases h with rfl | rfl | rfl | rfl <;> repeat first | walk_at "vl"
theorem many_eq {k w : Str} (hk : k ∈ kindsL) (h : w ∈ wordsOf k) : F__law_many [.str w] = .ok (.fr (.int (manyW w))) := by
  unfold F__law_many g__law_many manyW
  have hw : w = "write" ∨ w = "read" ∨ w = "swap" ∨ w = "add" ∨ w = "get" ∨ w = "insert" ∨ w = "remove" ∨ w = "has" ∨ w = "put" ∨ w = "take" := by
    unfold wordsOf at h
    rcases kinds_cases hk with rfl | rfl | rfl | rfl
    · simp [ofString_inj] at h; rcases h with h | h | h <;> simp [h]
    · simp [ofString_inj] at h; rcases h with h | h <;> simp [h]
    · simp [ofString_inj] at h; rcases h with h | h | h <;> simp [h]
    · simp [ofString_inj] at h; rcases h with h | h <;> simp [h]
  rcases hw with rfl | rfl | rfl | rfl | rfl | rfl | rfl | rfl | rfl | rfl <;> (repeat first | walk_at "vl" | simp only [List.mem_cons, List.not_mem_nil, or_false, or_true, true_or, false_or, Nat.cast_ofNat_Int, Int.natCast_one, Int.natCast_zero]) <;> rfl
theorem args_eq {k w : Str} (hk : k ∈ kindsL) (h : w ∈ wordsOf k) (x y : Int) : F__law_args [.str w, .int x, .int y] = .ok (.fr (.tuple (([x % 4, y % 4].take (manyW w)).map .int))) := by
  unfold F__law_args g__law_args
  have e : ([PyData.int (x % 4), .int (y % 4)] : List D) = [x % 4, y % 4].map .int := rfl
  repeat first | walk_at "vl" | simp only [many_eq hk h, cut_to _ _ (Int.natCast_nonneg (manyW w)), Int.toNat_natCast, e, List.map_take]
theorem manyW_le (w : Str) : manyW w ≤ 2 := by
  unfold manyW
  split
  · exact Nat.le_refl _
  · split <;> decide
/-- the state of an object -/
inductive St where
  | i (n : Int) | t (xs : List Int)
def St.d : St → D
  | .i n => .int n
  | .t xs => .tuple (xs.map .int)
def StOk (k : Str) (s : St) (n : Nat) : Prop := match s with
  | .i _ => k = "register" ∨ k = "counter"
  | .t xs => (k = "set" ∨ k = "queue") ∧ xs.length ≤ n
/-- a result -/
inductive Res where
  | i (n : Int) | s (x : Str)
def Res.d : Res → D
  | .i n => .int n
  | .s x => .str x
theorem first_ok {k : Str} (hk : k ∈ kindsL) : ∃ s : St, F__law_first [.str k] = .ok (.fr s.d) ∧ StOk k s 0 := by
  unfold F__law_first g__law_first
  rcases kinds_cases hk with rfl | rfl | rfl | rfl
  · exact ⟨.i 0, by repeat first | walk_at "vl" | simp only [St.d], by unfold StOk; simp⟩
  · exact ⟨.i 0, by repeat first | walk_at "vl" | simp only [St.d], by unfold StOk; simp⟩
  · exact ⟨.t [], by repeat first | walk_at "vl" | simp only [St.d], by unfold StOk; simp⟩
  · exact ⟨.t [], by repeat first | walk_at "vl" | simp only [St.d], by unfold StOk; simp⟩
theorem in_ints (neg : Bool) (i : Int) (xs : List Int) : dIn neg (.int i) (.tuple (xs.map .int)) = dInB neg (decide (i ∈ xs)) := by
  have h1 : rk 20 (.tuple (xs.map .int)) = true := by
    rw [rk_tuple]
    exact all_map_rk (fun x => rk_int 19 x) xs
  rw [int_rk neg (rk_int 20 i) h1, any_map_eqv (fun x y => eqv_ii x y)]
theorem lc_ints {α : Type} (g : α → D) (p : α → Bool) (xs : List α) : ((xs.filter p).map g) = (xs.filter p).map g := rfl
theorem sort_ints (xs : List Int) : ∃ ys : List Int, dSorted [.list (xs.map .int)] = .ok (.ol (ys.map .int)) ∧ ys.length = xs.length := by
  have h1 : rk 20 (.list (xs.map PyData.int)) = true := by
    rw [rk_list]
    exact all_map_rk (fun x => rk_int 19 x) xs
  have h2 : alikeB (xs.map PyData.int) = true := by
    unfold alikeB
    rw [List.all_map, List.all_eq_true]
    intro x _
    rw [Function.comp, List.all_map, List.all_eq_true]
    intro y _
    rfl
  have h3 : sortableB (xs.map PyData.int) = true := by
    unfold sortableB
    rw [Bool.or_eq_true]
    right
    rw [List.all_map, List.all_eq_true]
    intro x _
    rfl
  have hp := List.mergeSort_perm (xs.map PyData.int) dleD
  have all : ∀ d ∈ (xs.map PyData.int).mergeSort dleD, ∃ i, d = .int i := fun d hd => by
    obtain ⟨i, _, e⟩ := List.mem_map.mp (hp.mem_iff.mp hd)
    exact ⟨i, e.symm⟩
  have : ∀ l : List D, (∀ d ∈ l, ∃ i, d = .int i) → ∃ ys : List Int, l = ys.map .int := fun l => by
    induction l with
    | nil => exact fun _ => ⟨[], rfl⟩
    | cons d l ih =>
      intro h
      obtain ⟨i, rfl⟩ := h d List.mem_cons_self
      obtain ⟨ys, rfl⟩ := ih fun e he => h e (List.mem_cons_of_mem _ he)
      exact ⟨i :: ys, rfl⟩
  obtain ⟨ys, hy⟩ := this _ all
  refine ⟨ys, by rw [sorted_l h1 h2 h3, hy], ?_⟩
  have := hp.length_eq
  rw [hy] at this
  simpa using this
theorem step_ok {k w : Str} {s : St} {a : List Int} {n : Nat} (hk : k ∈ kindsL) (hw : w ∈ wordsOf k) (hs : StOk k s n) (hn : n ≤ 1000) (ha : a.length = manyW w) :
    ∃ (s' : St) (r : Res), F__law_step [.str k, s.d, .str w, .tuple (a.map .int)] = .ok (.fr (.tuple [s'.d, r.d])) ∧ StOk k s' (n + 1) := by
  unfold F__law_step g__law_step
  have one : ∀ {a : List Int}, a.length = 1 → ∃ x, a = [x] := fun {a} h => List.length_eq_one_iff.mp h
  have two : ∀ {a : List Int}, a.length = 2 → ∃ x y, a = [x, y] := fun {a} h => by
    match a, h with
    | [x, y], _ => exact ⟨x, y, rfl⟩
  unfold wordsOf at hw
  unfold manyW at ha
  cases s with
  | i m =>
    unfold StOk at hs
    rcases hs with rfl | rfl
    · simp only [if_true, List.mem_cons, List.not_mem_nil, or_false] at hw
      rcases hw with rfl | rfl | rfl
      · obtain ⟨x, rfl⟩ := one (a := a) (by simpa [ofString_inj] using ha)
        exact ⟨.i x, .s "ok", by repeat first | walk_at "vl" | simp only [St.d, Res.d], .inl rfl⟩
      · exact ⟨.i m, .i m, by repeat first | walk_at "vl" | simp only [St.d, Res.d], .inl rfl⟩
      · obtain ⟨x, y, rfl⟩ := two (a := a) (by simpa [ofString_inj] using ha)
        by_cases h : m = x
        · exact ⟨.i y, .s "yes", by repeat first | walk_at "vl" | simp only [St.d, Res.d, h], .inl rfl⟩
        · exact ⟨.i m, .s "no", by repeat first | walk_at "vl" | simp only [St.d, Res.d, h], .inl rfl⟩
    · simp only [ofString_inj, String.reduceEq, if_false, if_true, List.mem_cons, List.not_mem_nil, or_false] at hw
      rcases hw with rfl | rfl
      · obtain ⟨x, rfl⟩ := one (a := a) (by simpa [ofString_inj] using ha)
        exact ⟨.i (m + x), .s "ok", by repeat first | walk_at "vl" | simp only [St.d, Res.d], .inr rfl⟩
      · exact ⟨.i m, .i m, by repeat first | walk_at "vl" | simp only [St.d, Res.d], .inr rfl⟩
  | t xs =>
    unfold StOk at hs
    obtain ⟨hs, hl⟩ := hs
    rcases hs with rfl | rfl
    · simp only [ofString_inj, String.reduceEq, if_false, if_true, List.mem_cons, List.not_mem_nil, or_false] at hw
      have key : ∀ (x : Int) (s0 s1 s2 s4 s5 : Sl), lcLoop (sName 5) (fB (fOp dNe (fVar 5) (fOp dIx (fVar 3) (fC (.int 0))))) (fVar 5) [s0, s1, s2, .fr (.tuple [.int x]), s4, s5] (xs.map .int) = .ok ((xs.filter fun y => decide (y ≠ x)).map .int) := fun x s0 s1 s2 s4 s5 => by
        refine lc_map xs fun y _ => ⟨_, rfl, ?_, fun _ => ⟨.fr (.int y), ?_, rfl⟩⟩
        · repeat first | walk_at "vl" | simp only [decide_not, ne_eq]
        · repeat first | walk_at "vl"
      have fl : ∀ x : Int, (xs.filter fun y => decide (y ≠ x)).length ≤ n := fun x => Nat.le_trans (List.length_filter_le ..) hl
      rcases hw with rfl | rfl | rfl
      · obtain ⟨x, rfl⟩ := one (a := a) (by simpa [ofString_inj] using ha)
        obtain ⟨ys, e1, e2⟩ := sort_ints ((xs.filter fun y => decide (y ≠ x)) ++ [x])
        have hle : ys.length ≤ n + 1 := by
          rw [e2, List.length_append, List.length_singleton]
          have := fl x
          omega
        have z := szle_small (show (xs.filter fun y => decide (y ≠ x)).length + 1 ≤ 1000000 by have := fl x; omega)
        simp only [List.map_append, List.map_cons, List.map_nil] at e1
        by_cases h : x ∈ xs
        · refine ⟨.t ys, .s "no", ?_, .inl rfl, hle⟩
          repeat first | walk_at "vl" | simp only [St.d, Res.d, in_ints, dInB, h, key, e1, z]
        · refine ⟨.t ys, .s "yes", ?_, .inl rfl, hle⟩
          repeat first | walk_at "vl" | simp only [St.d, Res.d, in_ints, dInB, h, key, e1, z]
      · obtain ⟨x, rfl⟩ := one (a := a) (by simpa [ofString_inj] using ha)
        have hle := Nat.le_succ_of_le (fl x)
        by_cases h : x ∈ xs
        · refine ⟨.t (xs.filter fun y => decide (y ≠ x)), .s "yes", ?_, .inl rfl, hle⟩
          repeat first | walk_at "vl" | simp only [St.d, Res.d, in_ints, dInB, h, key]
        · refine ⟨.t (xs.filter fun y => decide (y ≠ x)), .s "no", ?_, .inl rfl, hle⟩
          repeat first | walk_at "vl" | simp only [St.d, Res.d, in_ints, dInB, h, key]
      · obtain ⟨x, rfl⟩ := one (a := a) (by simpa [ofString_inj] using ha)
        by_cases h : x ∈ xs
        · refine ⟨.t xs, .s "yes", ?_, .inl rfl, Nat.le_succ_of_le hl⟩
          repeat first | walk_at "vl" | simp only [St.d, Res.d, in_ints, dInB, h]
        · refine ⟨.t xs, .s "no", ?_, .inl rfl, Nat.le_succ_of_le hl⟩
          repeat first | walk_at "vl" | simp only [St.d, Res.d, in_ints, dInB, h]
    · simp only [ofString_inj, String.reduceEq, if_false, if_true, List.mem_cons, List.not_mem_nil, or_false] at hw
      rcases hw with rfl | rfl
      · obtain ⟨x, rfl⟩ := one (a := a) (by simpa [ofString_inj] using ha)
        have z := szle_small (show xs.length + 1 ≤ 1000000 by omega)
        refine ⟨.t (xs ++ [x]), .s "ok", by repeat first | walk_at "vl" | simp only [St.d, Res.d, z, List.map_append], .inr rfl, ?_⟩
        rw [List.length_append, List.length_singleton]
        omega
      · cases xs with
        | nil => exact ⟨.t [], .s "empty", by repeat first | walk_at "vl" | simp only [St.d, Res.d, Int.natCast_zero], .inr rfl, Nat.zero_le _⟩
        | cons y ys =>
          have hne : ¬ ((ys.length : Int) + 1 = 0) := by omega
          refine ⟨.t ys, .i y, ?_, .inr rfl, by rw [List.length_cons] at hl; omega⟩
          repeat first | walk_at "vl" | simp only [St.d, Res.d, Int.natCast_add, Int.natCast_one, hne, cut_from _ 1 (by decide), List.drop_succ_cons, List.drop_zero]
end HL
namespace HL
open PySem PySem.Spec PyProof.Rows L2 VL
def g_first_state : FS := gRet (fKGet [("register", .int 0), ("counter", .int 0), ("set", .tuple []), ("queue", .tuple [])] (fVar 0))
def F_first_state : List D → Rs R := fnR 1 g_first_state
def g_operations_of_kind : FS := gRet (fBlt dListOf (fCons (fKGet [("register", .tuple [.str "write", .str "read", .str "swap"]), ("counter", .tuple [.str "add", .str "get"]), ("set", .tuple [.str "insert", .str "remove", .str "has"]), ("queue", .tuple [.str "put", .str "take"])] (fVar 0)) (fNil)))
def F_operations_of_kind : List D → Rs R := fnR 1 g_operations_of_kind
def g_yes_or_no : FS := gRet (fIf (fTr (fVar 0)) (fC (.str "yes")) (fC (.str "no")))
def F_yes_or_no : List D → Rs R := fnR 1 g_yes_or_no
def g_step_register : FS := gSeq (gIf (fB (fOp dEq (fVar 1) (fC (.str "write")))) (gRet (fTup (fCons (fOp dIx (fVar 2) (fC (.int 0))) (fCons (fC (.str "ok")) (fNil))))) (gNext)) (gSeq (gIf (fB (fOp dEq (fVar 1) (fC (.str "read")))) (gRet (fTup (fCons (fVar 0) (fCons (fVar 0) (fNil))))) (gNext)) (gSeq (gIf (fB (fOp dEq (fVar 0) (fOp dIx (fVar 2) (fC (.int 0))))) (gRet (fTup (fCons (fOp dIx (fVar 2) (fC (.int 1))) (fCons (fC (.str "yes")) (fNil))))) (gNext)) (gRet (fTup (fCons (fVar 0) (fCons (fC (.str "no")) (fNil)))))))
def F_step_register : List D → Rs R := fnR 3 g_step_register
def g_step_counter : FS := gSeq (gIf (fB (fOp dEq (fVar 1) (fC (.str "add")))) (gRet (fTup (fCons (fOp dAdd (fVar 0) (fOp dIx (fVar 2) (fC (.int 0)))) (fCons (fC (.str "ok")) (fNil))))) (gNext)) (gRet (fTup (fCons (fVar 0) (fCons (fVar 0) (fNil)))))
def F_step_counter : List D → Rs R := fnR 3 g_step_counter
def g_step_set : FS := gSeq (gSet 3 (fOp dIx (fVar 2) (fC (.int 0)))) (gSeq (gSet 4 (fOp (dIn false) (fVar 3) (fVar 0))) (gSeq (gIf (fB (fOp dEq (fVar 1) (fC (.str "insert")))) (gRet (fTup (fCons (fBlt dTupOf (fCons (fSU (fVar 0) (fVar 3)) (fNil))) (fCons (fCall F_yes_or_no (fCons (fNot (fVar 4)) (fNil))) (fNil))))) (gNext)) (gSeq (gIf (fB (fOp dEq (fVar 1) (fC (.str "remove")))) (gRet (fTup (fCons (fBlt dTupOf (fCons (fLc (fIter (fVar 0) (seqOf true)) (sName 5) (fB (fOp dNe (fVar 5) (fVar 3))) (fVar 5) [5]) (fNil))) (fCons (fCall F_yes_or_no (fCons (fVar 4) (fNil))) (fNil))))) (gNext)) (gRet (fTup (fCons (fVar 0) (fCons (fCall F_yes_or_no (fCons (fVar 4) (fNil))) (fNil))))))))
def F_step_set : List D → Rs R := fnR 6 g_step_set
def g_step_queue : FS := gSeq (gIf (fB (fOp dEq (fVar 1) (fC (.str "put")))) (gRet (fTup (fCons (fOp dAdd (fVar 0) (fTup (fCons (fOp dIx (fVar 2) (fC (.int 0))) (fNil)))) (fCons (fC (.str "ok")) (fNil))))) (gNext)) (gSeq (gIf (fB (fOp dEq (fBlt dLen (fCons (fVar 0) (fNil))) (fC (.int 0)))) (gRet (fTup (fCons (fVar 0) (fCons (fC (.str "empty")) (fNil))))) (gNext)) (gRet (fTup (fCons (fSl (fVar 0) (fP (fC (.int 1))) (fNoP)) (fCons (fOp dIx (fVar 0) (fC (.int 0))) (fNil))))))
def F_step_queue : List D → Rs R := fnR 3 g_step_queue
def g_step : FS := gRet (fCallE [("step_register", F_step_register), ("step_counter", F_step_counter), ("step_set", F_step_set), ("step_queue", F_step_queue)] (fKGet [("register", fnD "step_register"), ("counter", fnD "step_counter"), ("set", fnD "step_set"), ("queue", fnD "step_queue")] (fVar 0)) (fCons (fVar 1) (fCons (fVar 2) (fCons (fVar 3) (fNil)))))
def F_step : List D → Rs R := fnR 4 g_step
local macro_rules | `(tactic| walk_at "vl") => `(tactic| simp only [ap_fSU, su_ti, ap_fCallE, so_frl, so_frt, so_ol, so_bw, so_btl, so_btt, ap_fEnumQ, ap_pVar, ap_treeAt, ap_putT, ap_pIx, px_ol, px_od, useP_ok, ap_gPlApp, appK_ol, ap_gPlSet, ps_ol, ps_od, lf_fr, lf_ol, lf_od, tT_ol, tT_od, tT_ot, td_fz, td_ol, td_od, ap_gDPut, ap_gDDel, ap_fKGet, ap_fKIn, tb_nil, tb_cons, ap_fDisp, evp_nil, evp_cons, dmerge_eq, ap_fDNew, isk_i, isk_s, keq_ii, keq_ss, dput_nil, dput_cons, dget_nil, dget_cons, okd_nil, okd_s, okd_i, ix_d, in_ds, in_di, List.foldl_cons, List.foldl_nil, Option.isSome_some, Option.isSome_none, ap_fRng3, ap_oRng3, ap_fRev, rev_l, ap_fCallL, ff_nil, ff_cons, ap_fIsi, isi_n, isi_b, isi_i, isi_s, isi_l, isi_t, ap_isiB, fnR_eq, ap_gSeq, ap_gNext, ap_gCont, ap_gBreak, ap_gFz, ap_gIf, br_t, br_f, br_b, useS_ok, ap_gRet, ap_gSet, ap_gOwn, ap_gRetV, ap_gApp, ap_gAug, useL_ok, ap_gFor, ap_gForget, ap_gAsg, ap_gSetIx, ap_fVar, ap_fC, ap_fOp, ap_fB, ap_toB, ap_fTr, ap_fCall, ap_fBlt, ap_fNil, ap_fCons, ap_fLst, ap_fTup, ap_fzL, fzAll_nil, fzAll_fr, fzAll_ol, fzAll_od, fzAll_bw, fz_fr, fz_ol, fz_od, fz_bw, ap_callR, sure_ok, sure_bad, ap_fSl, ap_fNoP, ap_fP, ap_oInt, ap_fIter, ap_fRng1, ap_fRng2, ap_oRng1, ap_oRng2, lo_fr, lo_ol, lo_bw, to_fr, ap_fRep, ap_oRep, okite1, okite2, bind_ite, rbind_ite, fin_ite, fin_rt_fr, fin_rt_ol, fin_nx, fin_bad, brR_b, ap_fAnd, ap_fOr, ap_fNot, ap_notR, ap_fNeg, ap_dNeg, ap_fIf, ap_fChain, ap_fLc, ap_tAndB, ap_tOrB, ap_tNotB, ap_ttYes, tr_bool, tr_list, tr_tuple, tr_none, tr_int, ap_sName, ap_sTup, ap_sCons, ap_sNil, w_nil, w_cons, slot_fr, slot_ol, slot_od, ap_frz, add_ii, add_tt, add_ll, add_ss, sub_ii, mul_ii, mod_ii, div_ii, pow_ii, lt_ii, le_ii, gt_ii, ge_ii, isn_, notn_, isNone_n, isNone_i, isNone_t, isNone_l, isNone_s, isNone_b, rk_none, rk_bool, rk_int, rk_str, rk_list, rk_tuple, eq_rk, ne_rk, inl_rk, int_rk, inB_f, inB_t, ix_l, ix_t, atD_eq, atI_0, atI_1, atI_2, atI_3, atI_4, atI_5, atI_6, atI_7, atI_map, sl_l, sl_t, len_l, len_t, min_ii, max_ii, list_l, list_t, tuple_l, tuple_t, int_i, int_b, ofString_inj, eqv_ii, eqv_ss, eqv_bb, eqv_nn, eqv_ni, eqv_in, eqv_is, eqv_si, eqv_ns, eqv_sn, eqv_ll, eqv_tt, eqva_nn, eqva_cc, eqva_nc, eqva_cn, Rs.bind_ok, Rs.bind_bad, So.bind_nx, So.bind_rt, So.bind_ct, So.bind_bk, So.bind_bad, R.d_fr, R.d_ol, R.d_od, R.d_bw, retR_fr, retR_ol, retR_od, retR_ot, setR_fr, setR_ol, setR_od, setR_ot, ownR_fr, ownR_ol, ownR_od, ownR_ot, ownT_ol, ownT_od, ownT_ot, ap_gOwnT, opR_frfr, opR_frol, opR_frod, opR_frbw, opR_olfr, opR_olol, opR_olod, opR_olbw, opR_odfr, opR_odol, opR_odod, opR_odbw, opR_bwfr, opR_bwol, opR_bwod, opR_bwbw, opR_bt1, opR_bt2, immR_fr, immR_ol, immR_od, immR_bt, immR_bw, imm_n, imm_b, imm_i, imm_s, imm_t, imm_l, imm_d, imms_n, imms_c, opU_fr, opU_ol, opU_od, opU_bw, opU_bt, bt_fr, bt_ol, bt_od, bt_bw, bt_bt, ap_opL, fz_bt, fz_ot, fzAll_bt, fzAll_ot, lo_bt, to_bt, slot_ot, fin_rt_od, fin_rt_ot, fin_ex, R.d_bt, R.d_ot, Rs.bind_ex, So.bind_ex,
  List.map_cons, List.map_nil, List.length_cons, List.length_nil, List.length_map, List.replicate_succ, List.replicate_zero, List.cons_append, List.nil_append, List.append_nil, List.getElem?_cons_zero, List.getElem?_cons_succ, List.set_cons_zero, List.set_cons_succ, List.all_cons, List.all_nil, List.any_cons, List.any_nil, Nat.zero_add, Nat.add_one_sub_one, Nat.reduceAdd, Nat.reduceSub, Nat.reduceMul, Nat.reduceLeDiff, Int.cast_ofNat_Int, Int.reduceLT, Int.reduceLE, Int.reduceAdd, Int.reduceMul, Int.reduceEq, Int.reduceNe, Int.reduceToNat, Int.reduceNeg, Int.reducePow, String.reduceEq, decide_true, decide_false, Bool.false_eq_true, Bool.true_eq_false, Bool.or_true, Bool.or_false, Bool.true_or, Bool.false_or, Bool.and_true, Bool.true_and, Bool.and_false, Bool.false_and, Bool.not_true, Bool.not_false, Bool.and_self, Bool.or_self, if_true, if_false, ite_true, ite_false, reduceIte, Option.bind_some, Option.bind_none, Option.map_some, Option.map_none, and_self, and_true, true_and, eq_self])
variable [Vx]
theorem sort_rise {xs ys : List Int} (hx : xs.Nodup) (hy : ys.Pairwise (· < ·)) (hm : ∀ p, p ∈ xs ↔ p ∈ ys) : dSorted [.list (xs.map PyData.int)] = .ok (.ol (ys.map .int)) := by
  have h1 : rk 20 (.list (xs.map PyData.int)) = true := by
    rw [rk_list]
    exact all_map_rk (fun x => rk_int 19 x) xs
  have h2 : alikeB (xs.map PyData.int) = true := by
    unfold alikeB
    rw [List.all_map, List.all_eq_true]
    intro x _
    rw [Function.comp, List.all_map, List.all_eq_true]
    intro y _
    rfl
  have h3 : sortableB (xs.map PyData.int) = true := by
    unfold sortableB
    rw [Bool.or_eq_true]
    right
    rw [List.all_map, List.all_eq_true]
    intro x _
    rfl
  rw [sorted_l h1 h2 h3, ← List.map_mergeSort (r := fun a b => decide (a ≤ b)) (fun a _ b _ => ?_)]
  · congr 3
    have nd : ys.Nodup := hy.imp fun h => Int.ne_of_lt h
    have pm : (xs.mergeSort fun a b => decide (a ≤ b)).Perm ys := (List.mergeSort_perm ..).trans (by
      rw [List.perm_iff_count]
      intro a
      rw [hx.count, nd.count]
      simp only [hm a])
    refine pm.eq_of_pairwise (le := fun a b => a ≤ b) (fun a b _ _ h1 h2 => Int.le_antisymm h1 h2) ?_ (hy.imp fun h => Int.le_of_lt h)
    exact (List.pairwise_mergeSort (fun a b c h1 h2 => by simp at h1 h2 ⊢; omega) (fun a b => by simp; omega) xs).imp fun h => by simpa using h
  · show decide (a ≤ b) = !(decide (b < a) || (!decide (a < b) && false))
    rw [Bool.and_false, Bool.or_false, ← decide_not]
    exact decide_eq_decide.mpr (by omega)
/-- as StOk, a set's elements rising -/
def StR (k : Str) (s : St) (n : Nat) : Prop := match s with
  | .i _ => k = "register" ∨ k = "counter"
  | .t xs => (k = "set" ∧ xs.Pairwise (· < ·) ∨ k = "queue") ∧ xs.length ≤ n
theorem ins_len (i : Int) : ∀ xs : List Int, (ins1 i xs).length ≤ xs.length + 1
  | [] => Nat.le_refl _
  | x :: xs => by
    unfold ins1
    split
    · exact Nat.le_refl _
    · split
      · exact Nat.le_succ _
      · have := ins_len i xs
        simp only [List.length_cons]
        omega
theorem setI_self {xs : List Int} (h : xs.Pairwise (· < ·)) : setI xs = xs := rise_eq (setI_rise xs) h fun _ => mem_setI
theorem step_both {k w : Str} {s : St} {a : List Int} {n : Nat} (hk : k ∈ kindsL) (hw : w ∈ wordsOf k) (hs : StR k s n) (hn : n ≤ 57) (ha : a.length = manyW w) :
    ∃ (s' : St) (r : Res), F__law_step [.str k, s.d, .str w, .tuple (a.map .int)] = .ok (.fr (.tuple [s'.d, r.d])) ∧ F_step [.str k, s.d, .str w, .tuple (a.map .int)] = .ok (.fr (.tuple [s'.d, r.d])) ∧ StR k s' (n + 1) := by
  unfold F__law_step g__law_step F_step g_step
  have one : ∀ {a : List Int}, a.length = 1 → ∃ x, a = [x] := fun {a} h => List.length_eq_one_iff.mp h
  have two : ∀ {a : List Int}, a.length = 2 → ∃ x y, a = [x, y] := fun {a} h => by
    match a, h with
    | [x, y], _ => exact ⟨x, y, rfl⟩
  unfold wordsOf at hw
  unfold manyW at ha
  cases s with
  | i m =>
    unfold StR at hs
    rcases hs with rfl | rfl
    · simp only [if_true, List.mem_cons, List.not_mem_nil, or_false] at hw
      rcases hw with rfl | rfl | rfl
      · obtain ⟨x, rfl⟩ := one (a := a) (by simpa [ofString_inj] using ha)
        exact ⟨.i x, .s "ok", by repeat first | walk_at "vl" | simp only [St.d, Res.d], by repeat first | walk_at "vl" | simp only [St.d, Res.d, F_step_register, g_step_register], .inl rfl⟩
      · exact ⟨.i m, .i m, by repeat first | walk_at "vl" | simp only [St.d, Res.d], by repeat first | walk_at "vl" | simp only [St.d, Res.d, F_step_register, g_step_register], .inl rfl⟩
      · obtain ⟨x, y, rfl⟩ := two (a := a) (by simpa [ofString_inj] using ha)
        by_cases h : m = x
        · exact ⟨.i y, .s "yes", by repeat first | walk_at "vl" | simp only [St.d, Res.d, h], by repeat first | walk_at "vl" | simp only [St.d, Res.d, h, F_step_register, g_step_register], .inl rfl⟩
        · exact ⟨.i m, .s "no", by repeat first | walk_at "vl" | simp only [St.d, Res.d, h], by repeat first | walk_at "vl" | simp only [St.d, Res.d, h, F_step_register, g_step_register], .inl rfl⟩
    · simp only [ofString_inj, String.reduceEq, if_false, if_true, List.mem_cons, List.not_mem_nil, or_false] at hw
      rcases hw with rfl | rfl
      · obtain ⟨x, rfl⟩ := one (a := a) (by simpa [ofString_inj] using ha)
        exact ⟨.i (m + x), .s "ok", by repeat first | walk_at "vl" | simp only [St.d, Res.d], by repeat first | walk_at "vl" | simp only [St.d, Res.d, F_step_counter, g_step_counter], .inr rfl⟩
      · exact ⟨.i m, .i m, by repeat first | walk_at "vl" | simp only [St.d, Res.d], by repeat first | walk_at "vl" | simp only [St.d, Res.d, F_step_counter, g_step_counter], .inr rfl⟩
  | t xs =>
    unfold StR at hs
    obtain ⟨hs, hl⟩ := hs
    rcases hs with ⟨rfl, hrise⟩ | rfl
    · simp only [ofString_inj, String.reduceEq, if_false, if_true, List.mem_cons, List.not_mem_nil, or_false] at hw
      have key : ∀ (x : Int) (s0 s1 s2 s4 s5 : Sl), lcLoop (sName 5) (fB (fOp dNe (fVar 5) (fOp dIx (fVar 3) (fC (.int 0))))) (fVar 5) [s0, s1, s2, .fr (.tuple [.int x]), s4, s5] (xs.map .int) = .ok ((xs.filter fun y => decide (y ≠ x)).map .int) := fun x s0 s1 s2 s4 s5 => by
        refine lc_map xs fun y _ => ⟨_, rfl, ?_, fun _ => ⟨.fr (.int y), ?_, rfl⟩⟩
        · repeat first | walk_at "vl" | simp only [decide_not, ne_eq]
        · repeat first | walk_at "vl"
      have key2 : ∀ (x : Int) (s0 s1 s2 s4 s5 : Sl), lcLoop (sName 5) (fB (fOp dNe (fVar 5) (fVar 3))) (fVar 5) [s0, s1, s2, .fr (.int x), s4, s5] (xs.map .int) = .ok ((xs.filter fun y => decide (y ≠ x)).map .int) := fun x s0 s1 s2 s4 s5 => by
        refine lc_map xs fun y _ => ⟨_, rfl, ?_, fun _ => ⟨.fr (.int y), ?_, rfl⟩⟩
        · repeat first | walk_at "vl" | simp only [decide_not, ne_eq]
        · repeat first | walk_at "vl"
      have fl : ∀ x : Int, (xs.filter fun y => decide (y ≠ x)).length ≤ n := fun x => Nat.le_trans (List.length_filter_le ..) hl
      have fr : ∀ x : Int, (xs.filter fun y => decide (y ≠ x)).Pairwise (· < ·) := fun x => List.Pairwise.filter _ hrise
      rcases hw with rfl | rfl | rfl
      · obtain ⟨x, rfl⟩ := one (a := a) (by simpa [ofString_inj] using ha)
        have e1 : dSorted [.list (((xs.filter fun y => decide (y ≠ x)) ++ [x]).map .int)] = .ok (.ol ((ins1 x xs).map .int)) := sort_rise (by
          refine List.nodup_append.mpr ⟨(fr x).imp fun h => Int.ne_of_lt h, List.nodup_cons.mpr ⟨List.not_mem_nil, List.nodup_nil⟩, fun y hy z hz e => ?_⟩
          rw [List.mem_singleton.mp hz] at e
          have := (List.mem_filter.mp hy).2
          simp [e] at this) (ins1_rise hrise) fun p => by
          rw [mem_ins1, List.mem_append, List.mem_filter, List.mem_singleton, decide_eq_true_eq]
          constructor
          · rintro (⟨h, _⟩ | h)
            · exact .inr h
            · exact .inl h
          · rintro (h | h)
            · exact .inr h
            · by_cases e : p = x
              · exact .inr e
              · exact .inl ⟨h, e⟩
        have hle : (ins1 x xs).length ≤ n + 1 := Nat.le_trans (ins_len x xs) (Nat.succ_le_succ hl)
        have z := szle_small (show (xs.filter fun y => decide (y ≠ x)).length + 1 ≤ 1000000 by have := fl x; omega)
        have hx57 : xs.length ≤ 57 := by omega
        simp only [List.map_append, List.map_cons, List.map_nil] at e1
        by_cases h : x ∈ xs
        · refine ⟨.t (ins1 x xs), .s "no", ?_, ?_, .inl ⟨rfl, ins1_rise hrise⟩, hle⟩
          · repeat first | walk_at "vl" | simp only [St.d, Res.d, in_ints, dInB, h, key, e1, z]
          · repeat first | walk_at "vl" | simp only [St.d, Res.d, in_ints, dInB, h, F_step_set, g_step_set, F_yes_or_no, g_yes_or_no, setI_self hrise, hx57]
        · refine ⟨.t (ins1 x xs), .s "yes", ?_, ?_, .inl ⟨rfl, ins1_rise hrise⟩, hle⟩
          · repeat first | walk_at "vl" | simp only [St.d, Res.d, in_ints, dInB, h, key, e1, z]
          · repeat first | walk_at "vl" | simp only [St.d, Res.d, in_ints, dInB, h, F_step_set, g_step_set, F_yes_or_no, g_yes_or_no, setI_self hrise, hx57]
      · obtain ⟨x, rfl⟩ := one (a := a) (by simpa [ofString_inj] using ha)
        have hle := Nat.le_succ_of_le (fl x)
        by_cases h : x ∈ xs
        · refine ⟨.t (xs.filter fun y => decide (y ≠ x)), .s "yes", ?_, ?_, .inl ⟨rfl, fr x⟩, hle⟩
          · repeat first | walk_at "vl" | simp only [St.d, Res.d, in_ints, dInB, h, key]
          · repeat first | walk_at "vl" | simp only [St.d, Res.d, in_ints, dInB, h, key2, F_step_set, g_step_set, F_yes_or_no, g_yes_or_no]
        · refine ⟨.t (xs.filter fun y => decide (y ≠ x)), .s "no", ?_, ?_, .inl ⟨rfl, fr x⟩, hle⟩
          · repeat first | walk_at "vl" | simp only [St.d, Res.d, in_ints, dInB, h, key]
          · repeat first | walk_at "vl" | simp only [St.d, Res.d, in_ints, dInB, h, key2, F_step_set, g_step_set, F_yes_or_no, g_yes_or_no]
      · obtain ⟨x, rfl⟩ := one (a := a) (by simpa [ofString_inj] using ha)
        by_cases h : x ∈ xs
        · refine ⟨.t xs, .s "yes", ?_, ?_, .inl ⟨rfl, hrise⟩, Nat.le_succ_of_le hl⟩
          · repeat first | walk_at "vl" | simp only [St.d, Res.d, in_ints, dInB, h]
          · repeat first | walk_at "vl" | simp only [St.d, Res.d, in_ints, dInB, h, F_step_set, g_step_set, F_yes_or_no, g_yes_or_no]
        · refine ⟨.t xs, .s "no", ?_, ?_, .inl ⟨rfl, hrise⟩, Nat.le_succ_of_le hl⟩
          · repeat first | walk_at "vl" | simp only [St.d, Res.d, in_ints, dInB, h]
          · repeat first | walk_at "vl" | simp only [St.d, Res.d, in_ints, dInB, h, F_step_set, g_step_set, F_yes_or_no, g_yes_or_no]
    · simp only [ofString_inj, String.reduceEq, if_false, if_true, List.mem_cons, List.not_mem_nil, or_false] at hw
      rcases hw with rfl | rfl
      · obtain ⟨x, rfl⟩ := one (a := a) (by simpa [ofString_inj] using ha)
        have z := szle_small (show xs.length + 1 ≤ 1000000 by omega)
        refine ⟨.t (xs ++ [x]), .s "ok", by repeat first | walk_at "vl" | simp only [St.d, Res.d, z, List.map_append], by repeat first | walk_at "vl" | simp only [St.d, Res.d, z, List.map_append, F_step_queue, g_step_queue], .inr rfl, ?_⟩
        rw [List.length_append, List.length_singleton]
        omega
      · cases xs with
        | nil => exact ⟨.t [], .s "empty", by repeat first | walk_at "vl" | simp only [St.d, Res.d, Int.natCast_zero], by repeat first | walk_at "vl" | simp only [St.d, Res.d, Int.natCast_zero, F_step_queue, g_step_queue], .inr rfl, Nat.zero_le _⟩
        | cons y ys =>
          have hne : ¬ ((ys.length : Int) + 1 = 0) := by omega
          refine ⟨.t ys, .i y, ?_, ?_, .inr rfl, by rw [List.length_cons] at hl; omega⟩
          · repeat first | walk_at "vl" | simp only [St.d, Res.d, Int.natCast_add, Int.natCast_one, hne, cut_from _ 1 (by decide), List.drop_succ_cons, List.drop_zero]
          · repeat first | walk_at "vl" | simp only [St.d, Res.d, Int.natCast_add, Int.natCast_one, hne, cut_from _ 1 (by decide), List.drop_succ_cons, List.drop_zero, F_step_queue, g_step_queue]
end HL
namespace M48
/-! rings and orders, plain -/
abbrev Pairs := List (Int × Int)
def Walk (ps : Pairs) : List Int → Prop
  | [] => True
  | [_] => True
  | a :: b :: r => (a, b) ∈ ps ∧ Walk ps (b :: r)
def Link (ps : Pairs) (x y : List Int) : Prop := ∀ l ∈ x.getLast?, ∀ h ∈ y.head?, (l, h) ∈ ps
theorem walk_app (ps : Pairs) : ∀ x y : List Int, Walk ps (x ++ y) ↔ Walk ps x ∧ Walk ps y ∧ Link ps x y
  | [], y => by simp [Walk, Link]
  | [a], [] => by simp [Walk, Link]
  | [a], b :: r => by
    simp only [List.singleton_append, Walk, Link, List.getLast?_singleton, List.head?_cons, Option.mem_def, Option.some.injEq, true_and]
    constructor
    · rintro ⟨h1, h2⟩
      exact ⟨h2, fun l e h f => by rw [← e, ← f]; exact h1⟩
    · rintro ⟨h2, h1⟩
      exact ⟨h1 a rfl b rfl, h2⟩
  | a :: b :: r, y => by
    have ih := walk_app ps (b :: r) y
    simp only [List.cons_append] at ih
    simp only [List.cons_append, Walk]
    have e : Link ps (a :: b :: r) y ↔ Link ps (b :: r) y := by
      unfold Link
      rw [List.getLast?_cons_cons]
    rw [ih, e, and_assoc]
/-- a ring: from the last back to the first -/
structure Ring (ps : Pairs) (c : List Int) : Prop where
  ne : c ≠ []
  walk : Walk ps c
  nodup : c.Nodup
  close : Link ps c c
theorem sub_len : ∀ {p S : List Int}, p.Nodup → (∀ x ∈ p, x ∈ S) → p.length ≤ S.length
  | [], S, _, _ => Nat.zero_le _
  | a :: r, S, h, hs => by
    have ha := hs a List.mem_cons_self
    have h1 := (List.nodup_cons.mp h)
    have ih := sub_len (S := S.erase a) h1.2 fun x hx => (List.mem_erase_of_ne (by intro e; subst e; exact h1.1 hx)).mpr (hs x (List.mem_cons_of_mem _ hx))
    rw [List.length_erase_of_mem ha] at ih
    have : 0 < S.length := List.length_pos_of_mem ha
    rw [List.length_cons]
    omega
theorem ring_grow {ps : Pairs} {S : List Int} (hp : ∀ t ∈ S, ∃ u ∈ S, (u, t) ∈ ps) : ∀ (n : Nat) (v : Int) (r : List Int), Walk ps (v :: r) → (v :: r).Nodup → (∀ x ∈ v :: r, x ∈ S) → S.length < r.length + n → ∃ c, Ring ps c ∧ ∀ x ∈ c, x ∈ S
  | 0, v, r, hw, hn, hs, hl => by
    have := sub_len hn hs
    rw [List.length_cons] at this
    omega
  | n + 1, v, r, hw, hn, hs, hl => by
    obtain ⟨u, hu, he⟩ := hp v (hs v List.mem_cons_self)
    by_cases hm : u ∈ v :: r
    · obtain ⟨a, b, e⟩ := List.append_of_mem hm
      have e' : v :: r = (a ++ [u]) ++ b := by rw [e]; simp
      have w1 := ((walk_app ps (a ++ [u]) b).mp (e' ▸ hw)).1
      have hn2 : ((a ++ [u]) ++ b).Nodup := e' ▸ hn
      refine ⟨a ++ [u], ⟨by simp, w1, (List.nodup_append.mp hn2).1, ?_⟩, fun x hx => hs x (by rw [e']; exact List.mem_append_left _ hx)⟩
      intro l hl' h hh
      have el : l = u := by simpa using hl'.symm
      have eh : h = v := by
        cases a with
        | nil =>
          simp at hh e
          rw [← hh, ← e.1]
        | cons a0 a1 =>
          simp at hh e
          rw [← hh, ← e.1]
      rw [el, eh]
      exact he
    · exact ring_grow hp n u (v :: r) ⟨he, hw⟩ (List.nodup_cons.mpr ⟨hm, hn⟩) (fun x hx => (List.mem_cons.mp hx).elim (fun z => z ▸ hu) (hs x)) (by rw [List.length_cons]; omega)
theorem ring_of {ps : Pairs} {S : List Int} (h0 : S ≠ []) (hp : ∀ t ∈ S, ∃ u ∈ S, (u, t) ∈ ps) : ∃ c, Ring ps c ∧ ∀ x ∈ c, x ∈ S := by
  cases S with
  | nil => exact absurd rfl h0
  | cons v r => exact ring_grow hp ((v :: r).length + 1) v [] trivial (by simp) (fun x hx => by simp at hx; rw [hx]; exact List.mem_cons_self) (by simp)
/-- the least number of a list -/
theorem least_of : ∀ {c : List Int}, c ≠ [] → ∃ m ∈ c, ∀ x ∈ c, m ≤ x
  | [a], _ => ⟨a, by simp, by simp⟩
  | a :: b :: r, _ => by
    obtain ⟨m, h1, h2⟩ := least_of (c := b :: r) (by simp)
    by_cases h : a ≤ m
    · exact ⟨a, List.mem_cons_self, fun x hx => (List.mem_cons.mp hx).elim (fun e => by omega) fun z => by have := h2 x z; omega⟩
    · exact ⟨m, List.mem_cons_of_mem _ h1, fun x hx => (List.mem_cons.mp hx).elim (fun e => by omega) (h2 x)⟩
theorem getLast?_app {x y : List Int} (h : y ≠ []) : (x ++ y).getLast? = y.getLast? := by
  rw [List.getLast?_append]
  cases e : y.getLast? with
  | none => exact absurd (List.getLast?_eq_none_iff.mp e) h
  | some z => rfl
/-- turned to its least number -/
theorem ring_turn {ps : Pairs} {c : List Int} (R : Ring ps c) : ∃ m r, Ring ps (m :: r) ∧ (∀ x ∈ r, m < x) ∧ ∀ x, x ∈ m :: r ↔ x ∈ c := by
  obtain ⟨m, hm, hl⟩ := least_of R.ne
  obtain ⟨a, b, rfl⟩ := List.append_of_mem hm
  obtain ⟨w1, w2, w3⟩ := (walk_app ps a (m :: b)).mp R.walk
  obtain ⟨n1, n2, n3⟩ := List.nodup_append.mp R.nodup
  have hmem : ∀ x, x ∈ m :: (b ++ a) ↔ x ∈ a ++ m :: b := fun x => by simp only [List.mem_cons, List.mem_append]; constructor <;> intro h <;> rcases h with h | h | h <;> simp [h]
  have hne : m ∉ b ++ a := fun h => (List.mem_append.mp h).elim (List.nodup_cons.mp n2).1 fun z => n3 m z m List.mem_cons_self rfl
  refine ⟨m, b ++ a, ⟨by simp, ?_, ?_, ?_⟩, fun x hx => ?_, hmem⟩
  · show Walk ps ((m :: b) ++ a)
    refine (walk_app ps _ _).mpr ⟨w2, w1, fun l hl' h hh => ?_⟩
    refine R.close l ?_ h ?_
    · rw [getLast?_app (by simp)]
      exact hl'
    · cases a with
      | nil => cases hh
      | cons a0 a1 => exact hh
  · refine List.nodup_cons.mpr ⟨hne, ?_⟩
    refine List.nodup_append.mpr ⟨(List.nodup_cons.mp n2).2, n1, fun x hx y hy e => n3 y hy x (List.mem_cons_of_mem _ hx) e.symm⟩
  · intro l hl' h hh
    cases a with
    | nil =>
      rw [List.append_nil] at hl' hh
      exact R.close l hl' h hh
    | cons a0 a1 =>
      refine w3 l ?_ h (by simpa using hh)
      rw [show m :: (b ++ (a0 :: a1)) = (m :: b) ++ (a0 :: a1) from rfl, getLast?_app (by simp)] at hl'
      exact hl'
  · have h1 := hl x ((hmem x).mp (List.mem_cons_of_mem _ hx))
    have h2 : x ≠ m := fun e => hne (e ▸ hx)
    omega
/-- each number of a ring has one before it -/
theorem ring_pred {ps : Pairs} {c : List Int} (R : Ring ps c) : ∀ t ∈ c, ∃ u ∈ c, (u, t) ∈ ps := by
  intro t ht
  obtain ⟨a, b, rfl⟩ := List.append_of_mem ht
  obtain ⟨w1, w2, w3⟩ := (walk_app ps a (t :: b)).mp R.walk
  cases e : a.getLast? with
  | some l => exact ⟨l, List.mem_append_left _ (List.mem_of_getLast? e), w3 l e t rfl⟩
  | none =>
    have ea := List.getLast?_eq_none_iff.mp e
    subst ea
    cases e2 : (t :: b).getLast? with
    | none => simp at e2
    | some l => exact ⟨l, List.mem_of_getLast? e2, R.close l e2 t rfl⟩
/-! orders -/
def free (ps : Pairs) (left : List Int) : List Int := left.filter fun t => !(ps.any fun p => decide (p.2 = t) && decide (p.1 ∈ left))
theorem mem_free {ps : Pairs} {left : List Int} {t : Int} : t ∈ free ps left ↔ t ∈ left ∧ ∀ u ∈ left, (u, t) ∉ ps := by
  unfold free
  rw [List.mem_filter]
  simp only [Bool.not_eq_true', List.any_eq_false, Bool.and_eq_true, decide_eq_true_eq, not_and, Prod.forall]
  exact ⟨fun ⟨h1, h2⟩ => ⟨h1, fun u hu hp => h2 u t hp rfl hu⟩, fun ⟨h1, h2⟩ => ⟨h1, fun u v hp e hu => h2 u hu (e ▸ hp)⟩⟩
def kahn (ps : Pairs) : Nat → List Int → Option (List Int)
  | 0, _ => some []
  | n + 1, left => match free ps left with
    | [] => none
    | t :: _ => (kahn ps n (left.filter fun x => decide (x ≠ t))).map (t :: ·)
theorem filter_len {t : Int} : ∀ {left : List Int}, left.Nodup → t ∈ left → (left.filter fun x => decide (x ≠ t)).length + 1 = left.length := by
  intro left h ht
  have e : (left.filter fun x => decide (x ≠ t)) = left.erase t := by
    rw [List.Nodup.erase_eq_filter h]
    congr 1
    funext x
    by_cases z : x = t <;> simp [z]
  rw [e, List.length_erase_of_mem ht]
  have := List.length_pos_of_mem ht
  omega
theorem kahn_none {ps : Pairs} : ∀ (n : Nat) (left : List Int), left.Nodup → left.length = n → (kahn ps n left = none ↔ ∃ S : List Int, S ≠ [] ∧ (∀ x ∈ S, x ∈ left) ∧ ∀ t ∈ S, ∃ u ∈ S, (u, t) ∈ ps)
  | 0, left, _, hl => by
    constructor
    · intro h
      cases h
    · rintro ⟨S, h1, h2, _⟩
      cases S with
      | nil => exact absurd rfl h1
      | cons s r =>
        have := h2 s List.mem_cons_self
        rw [List.length_eq_zero_iff.mp hl] at this
        cases this
  | n + 1, left, hn, hl => by
    unfold kahn
    split
    · rename_i hf
      refine ⟨fun _ => ⟨left, fun e => by rw [e] at hl; simp at hl, fun x h => h, fun t ht => ?_⟩, fun _ => rfl⟩
      refine Classical.byContradiction fun hno => ?_
      have : t ∈ free ps left := mem_free.mpr ⟨ht, fun u hu hp => hno ⟨u, hu, hp⟩⟩
      rw [hf] at this
      cases this
    · rename_i t r hf
      have ht : t ∈ free ps left := by rw [hf]; exact List.mem_cons_self
      obtain ⟨ht1, ht2⟩ := mem_free.mp ht
      have hlen := filter_len hn ht1
      rw [Option.map_eq_none_iff, kahn_none n _ (hn.filter _) (by omega)]
      constructor
      · rintro ⟨S, h1, h2, h3⟩
        exact ⟨S, h1, fun x hx => (List.mem_filter.mp (h2 x hx)).1, h3⟩
      · rintro ⟨S, h1, h2, h3⟩
        refine ⟨S, h1, fun x hx => List.mem_filter.mpr ⟨h2 x hx, ?_⟩, h3⟩
        refine decide_eq_true fun e => ?_
        obtain ⟨u, hu, hp⟩ := h3 x hx
        exact ht2 u (h2 u hu) (e ▸ hp)
/-- no order just if there is a ring that begins with its least number -/
theorem kahn_ring {ps : Pairs} {left : List Int} (hn : left.Nodup) (hp : ∀ p ∈ ps, p.1 ∈ left) : kahn ps left.length left = none ↔ ∃ m r, Ring ps (m :: r) ∧ ∀ x ∈ r, m < x := by
  rw [kahn_none _ _ hn rfl]
  constructor
  · rintro ⟨S, h1, h2, h3⟩
    obtain ⟨c, R, _⟩ := ring_of h1 h3
    obtain ⟨m, r, R', hm, _⟩ := ring_turn R
    exact ⟨m, r, R', hm⟩
  · rintro ⟨m, r, R, _⟩
    refine ⟨m :: r, by simp, fun x hx => ?_, ring_pred R⟩
    obtain ⟨a, b, e⟩ := List.append_of_mem hx
    have w := R.walk
    rw [e] at w
    obtain ⟨_, w2, _⟩ := (walk_app ps a (x :: b)).mp w
    cases b with
    | cons y b' => exact hp _ w2.1
    | nil =>
      have : (m :: r).getLast? = some x := by rw [e]; simp
      exact hp _ (R.close x this m rfl)
end M48
namespace M48
/-! the least closing row -/
def lexLe : List Int → List Int → Bool
  | [], _ => true
  | _ :: _, [] => false
  | a :: r, b :: s => decide (a < b) || (decide (a = b) && lexLe r s)
theorem lexLe_refl : ∀ x : List Int, lexLe x x = true
  | [] => rfl
  | a :: r => by simp [lexLe, lexLe_refl r]
theorem lexLe_anti : ∀ {x y : List Int}, lexLe x y = true → lexLe y x = true → x = y
  | [], [], _, _ => rfl
  | [], _ :: _, _, h => by simp [lexLe] at h
  | _ :: _, [], h, _ => by simp [lexLe] at h
  | a :: r, b :: s, h1, h2 => by
    simp only [lexLe, Bool.or_eq_true, decide_eq_true_eq, Bool.and_eq_true] at h1 h2
    have e : a = b := by omega
    subst e
    have g1 : lexLe r s = true := h1.elim (fun z => absurd z (Int.lt_irrefl a)) (·.2)
    have g2 : lexLe s r = true := h2.elim (fun z => absurd z (Int.lt_irrefl a)) (·.2)
    rw [lexLe_anti g1 g2]
theorem lexLe_lt (p : List Int) {a b : Int} (h : a < b) (x y : List Int) : lexLe (p ++ a :: x) (p ++ b :: y) = true := by
  induction p with
  | nil => simp [lexLe, h]
  | cons c r ih => simp [lexLe, ih]
def IsMin (S : List Int → Prop) : Option (List Int) → Prop
  | none => ∀ x, ¬ S x
  | some m => S m ∧ ∀ x, S x → lexLe m x = true
theorem IsMin.uniq {S : List Int → Prop} : ∀ {r r' : Option (List Int)}, IsMin S r → IsMin S r' → r = r'
  | none, none, _, _ => rfl
  | none, some m, h, h' => absurd h'.1 (h m)
  | some m, none, h, h' => absurd h.1 (h' m)
  | some m, some m', h, h' => by rw [lexLe_anti (h.2 m' h'.1) (h'.2 m h.1)]
theorem IsMin.congr {S T : List Int → Prop} (e : ∀ x, S x ↔ T x) {r : Option (List Int)} (h : IsMin S r) : IsMin T r := by
  cases r with
  | none => exact fun x z => h x ((e x).mpr z)
  | some m => exact ⟨(e m).mp h.1, fun x z => h.2 x ((e x).mpr z)⟩
def lst (r : List Int) : Int := r.getLastD 0
def hd (r : List Int) : Int := r.headD 0
theorem lst_snoc (r : List Int) (v : Int) : lst (r ++ [v]) = v := by simp [lst]
theorem hd_snoc {r : List Int} (h : r ≠ []) (v : Int) : hd (r ++ [v]) = hd r := by
  cases r with
  | nil => exact absurd rfl h
  | cons a b => rfl
/-- rows of n more numbers -/
def Ext (ps : Pairs) : Nat → List Int → List Int → Prop
  | 0, row, x => x = row ∧ (lst row, hd row) ∈ ps
  | n + 1, row, x => ∃ v, (lst row, v) ∈ ps ∧ hd row < v ∧ v ∉ row ∧ Ext ps n (row ++ [v]) x
theorem Ext.pre {ps : Pairs} : ∀ {n : Nat} {row x : List Int}, Ext ps n row x → ∃ e, x = row ++ e
  | 0, row, x, h => ⟨[], by rw [h.1, List.append_nil]⟩
  | n + 1, row, x, ⟨v, _, _, _, h⟩ => by
    obtain ⟨e, he⟩ := h.pre
    exact ⟨v :: e, by rw [he]; simp⟩
def dfs (ps : Pairs) : Nat → List Int → Option (List Int)
  | 0, row => if (lst row, hd row) ∈ ps then some row else none
  | n + 1, row => ps.findSome? fun p => if p.1 = lst row ∧ hd row < p.2 ∧ p.2 ∉ row then dfs ps n (row ++ [p.2]) else none
/-- sorted pairs -/
def Rise (ps : Pairs) : Prop := ps.Pairwise fun p q => p.1 < q.1 ∨ (p.1 = q.1 ∧ p.2 ≤ q.2)
theorem find_first {α β : Type} {f : α → Option β} : ∀ {l : List α} {b : β}, l.findSome? f = some b → ∃ l1 a l2, l = l1 ++ a :: l2 ∧ f a = some b ∧ ∀ x ∈ l1, f x = none
  | a :: l, b, h => by
    rw [List.findSome?_cons] at h
    split at h
    · rename_i c e
      cases h
      exact ⟨[], a, l, rfl, e, fun x z => nomatch z⟩
    · rename_i e
      obtain ⟨l1, a', l2, rfl, h1, h2⟩ := find_first h
      exact ⟨a :: l1, a', l2, rfl, h1, fun x hx => (List.mem_cons.mp hx).elim (fun z => z ▸ e) (h2 x)⟩
theorem dfs_min {ps : Pairs} (hs : Rise ps) : ∀ (n : Nat) (row : List Int), IsMin (Ext ps n row) (dfs ps n row)
  | 0, row => by
    unfold dfs
    split
    · rename_i h
      exact ⟨⟨rfl, h⟩, fun x hx => by rw [hx.1]; exact lexLe_refl _⟩
    · rename_i h
      exact fun x hx => h hx.2
  | n + 1, row => by
    have ih := fun v => dfs_min hs n (row ++ [v])
    unfold dfs
    cases e : ps.findSome? (fun p => if p.1 = lst row ∧ hd row < p.2 ∧ p.2 ∉ row then dfs ps n (row ++ [p.2]) else none) with
    | none =>
      rw [List.findSome?_eq_none_iff] at e
      rintro x ⟨v, h1, h2, h3, h4⟩
      have := e _ h1
      rw [if_pos ⟨rfl, h2, h3⟩] at this
      have g := ih v
      rw [this] at g
      exact g x h4
    | some m =>
      obtain ⟨l1, p, l2, el, hp, hno⟩ := find_first e
      split at hp
      · rename_i hc
        have g := ih p.2
        rw [hp] at g
        refine ⟨⟨p.2, by rw [← hc.1, el]; exact List.mem_append_right _ List.mem_cons_self, hc.2.1, hc.2.2, g.1⟩, ?_⟩
        rintro x ⟨v, h1, h2, h3, h4⟩
        have hle : p.2 ≤ v := by
          have hm : (lst row, v) ∈ l1 ++ p :: l2 := el ▸ h1
          rcases List.mem_append.mp hm with z | z
          · have := hno _ z
            rw [if_pos ⟨rfl, h2, h3⟩] at this
            have g' := ih v
            rw [this] at g'
            exact absurd h4 (g' x)
          · rcases List.mem_cons.mp z with z | z
            · rw [← z]
              exact Int.le_refl _
            · have hs' : (l1 ++ p :: l2).Pairwise fun p q => p.1 < q.1 ∨ (p.1 = q.1 ∧ p.2 ≤ q.2) := el ▸ hs
              have t : p.1 < lst row ∨ (p.1 = lst row ∧ p.2 ≤ v) := (List.pairwise_cons.mp (List.pairwise_append.mp hs').2.1).1 _ z
              have t2 := hc.1
              omega
        rcases Int.lt_or_eq_of_le hle with z | z
        · obtain ⟨e1, he1⟩ := g.1.pre
          obtain ⟨e2, he2⟩ := h4.pre
          rw [he1, he2, List.append_assoc, List.append_assoc]
          exact lexLe_lt row z e1 e2
        · subst z
          exact g.2 x h4
      · cases hp
/-- the least of several starts -/
def Rows (ps : Pairs) (n : Nat) (x : List Int) : Prop := ∃ s, (∃ p ∈ ps, p.1 = s) ∧ Ext ps n [s] x
theorem starts_min {ps : Pairs} (hs : Rise ps) {starts : List Int} (hst : starts.Pairwise (· < ·)) (hm : ∀ s, s ∈ starts ↔ ∃ p ∈ ps, p.1 = s) (n : Nat) : IsMin (Rows ps n) (starts.findSome? fun s => dfs ps n [s]) := by
  cases e : starts.findSome? (fun s => dfs ps n [s]) with
  | none =>
    rw [List.findSome?_eq_none_iff] at e
    rintro x ⟨s, h1, h2⟩
    have g := dfs_min hs n [s]
    rw [e s ((hm s).mpr h1)] at g
    exact g x h2
  | some m =>
    obtain ⟨l1, s, l2, el, h1, hno⟩ := find_first e
    have g := dfs_min hs n [s]
    rw [h1] at g
    refine ⟨⟨s, (hm s).mp (by rw [el]; exact List.mem_append_right _ List.mem_cons_self), g.1⟩, ?_⟩
    rintro x ⟨s', h2, h3⟩
    have hm' : s' ∈ l1 ++ s :: l2 := el ▸ (hm s').mpr h2
    rcases List.mem_append.mp hm' with z | z
    · have g' := dfs_min hs n [s']
      rw [hno s' z] at g'
      exact absurd h3 (g' x)
    · rcases List.mem_cons.mp z with z | z
      · rw [z] at h3
        exact g.2 x h3
      · have hs' : (l1 ++ s :: l2).Pairwise (· < ·) := el ▸ hst
        have hlt := (List.pairwise_cons.mp (List.pairwise_append.mp hs').2.1).1 _ z
        obtain ⟨e1, he1⟩ := g.1.pre
        obtain ⟨e2, he2⟩ := h3.pre
        rw [he1, he2]
        exact lexLe_lt [] hlt e1 e2
/-! rows from behind -/
def Way (ps : Pairs) : Nat → List Int → Prop
  | 0, x => ∃ s, (∃ p ∈ ps, p.1 = s) ∧ x = [s]
  | n + 1, x => ∃ w v, Way ps n w ∧ (lst w, v) ∈ ps ∧ v ∉ w ∧ hd w < v ∧ x = w ++ [v]
theorem way_rows {ps : Pairs} : ∀ {n : Nat} {w : List Int}, Way ps n w → ∀ (k : Nat) (x : List Int), Ext ps k w x → Rows ps (n + k) x
  | 0, w, ⟨s, h1, h2⟩, k, x, h => ⟨s, h1, by rw [Nat.zero_add, ← h2]; exact h⟩
  | n + 1, w, ⟨w', v, h1, h2, h3, h4, h5⟩, k, x, h => by
    have := way_rows h1 (k + 1) x ⟨v, h2, h4, h3, h5 ▸ h⟩
    rw [show n + 1 + k = n + (k + 1) by omega]
    exact this
theorem ext_way {ps : Pairs} : ∀ (k : Nat) {n : Nat} {w x : List Int}, Way ps n w → Ext ps k w x → Way ps (n + k) x ∧ (lst x, hd x) ∈ ps
  | 0, n, w, x, h, e => by
    obtain ⟨rfl, h2⟩ := e
    exact ⟨h, h2⟩
  | k + 1, n, w, x, h, ⟨v, h1, h2, h3, h4⟩ => by
    have := ext_way k (n := n + 1) (w := w ++ [v]) ⟨w, v, h, h1, h3, h2, rfl⟩ h4
    rw [show n + (k + 1) = n + 1 + k by omega]
    exact this
theorem rows_way {ps : Pairs} {n : Nat} {x : List Int} : Rows ps n x ↔ Way ps n x ∧ (lst x, hd x) ∈ ps := by
  constructor
  · rintro ⟨s, h1, h2⟩
    have := ext_way n (n := 0) (w := [s]) ⟨s, h1, rfl⟩ h2
    rwa [Nat.zero_add] at this
  · rintro ⟨h1, h2⟩
    exact way_rows h1 0 x ⟨rfl, h2⟩
end M48
namespace M48
/-! rows and rings -/
structure Shape (ps : Pairs) (n : Nat) (x : List Int) : Prop where
  len : x.length = n + 1
  walk : Walk ps x
  nodup : x.Nodup
  up : ∀ y ∈ x, y = hd x ∨ hd x < y
theorem lst_last {x : List Int} (h : x ≠ []) : x.getLast? = some (lst x) := by
  unfold lst
  cases e : x.getLast? with
  | none => exact absurd (List.getLast?_eq_none_iff.mp e) h
  | some z => rw [List.getLastD_eq_getLast?, e]; rfl
theorem hd_head {x : List Int} (h : x ≠ []) : x.head? = some (hd x) := by
  cases x with
  | nil => exact absurd rfl h
  | cons a r => rfl
theorem ne_of_len {x : List Int} {n : Nat} (h : x.length = n + 1) : x ≠ [] := by
  intro e
  rw [e] at h
  simp at h
theorem way_shape {ps : Pairs} : ∀ {n : Nat} {x : List Int}, Way ps n x → Shape ps n x
  | 0, x, ⟨s, _, e⟩ => by
    subst e
    exact ⟨rfl, trivial, by simp, fun y hy => .inl (List.mem_singleton.mp hy)⟩
  | n + 1, x, ⟨w, v, h1, h2, h3, h4, e⟩ => by
    subst e
    have S := way_shape h1
    have hw := ne_of_len S.len
    refine ⟨by rw [List.length_append, S.len]; rfl, (walk_app ps w [v]).mpr ⟨S.walk, trivial, fun l hl h hh => ?_⟩, ?_, fun y hy => ?_⟩
    · rw [lst_last hw] at hl
      cases hl
      cases hh
      exact h2
    · exact List.nodup_append.mpr ⟨S.nodup, by simp, fun a ha b hb e => h3 (by simp at hb; rw [← hb, ← e]; exact ha)⟩
    · rw [hd_snoc hw]
      rcases List.mem_append.mp hy with z | z
      · exact S.up y z
      · simp at z
        rw [z]
        exact .inr h4
theorem rows_ring {ps : Pairs} {n : Nat} {x : List Int} (h : Rows ps n x) : Ring ps x ∧ x.length = n + 1 := by
  obtain ⟨h1, h2⟩ := rows_way.mp h
  have S := way_shape h1
  have hx := ne_of_len S.len
  refine ⟨⟨hx, S.walk, S.nodup, fun l hl h hh => ?_⟩, S.len⟩
  rw [lst_last hx] at hl
  rw [hd_head hx] at hh
  cases hl
  cases hh
  exact h2
theorem ring_next {ps : Pairs} {c : List Int} (R : Ring ps c) : ∀ x ∈ c, ∃ y ∈ c, (x, y) ∈ ps := by
  intro x hx
  obtain ⟨a, b, e⟩ := List.append_of_mem hx
  have w := R.walk
  rw [e] at w
  obtain ⟨_, w2, _⟩ := (walk_app ps a (x :: b)).mp w
  cases b with
  | cons y b' => exact ⟨y, by rw [e]; simp, w2.1⟩
  | nil =>
    have : c.getLast? = some x := by rw [e]; simp
    exact ⟨hd c, by
      have := hd_head R.ne
      exact List.mem_of_head? this, R.close x this (hd c) (hd_head R.ne)⟩
theorem way_of {ps : Pairs} {m : Int} (hm : ∃ p ∈ ps, p.1 = m) : ∀ (n : Nat) (r : List Int), r.length = n → Walk ps (m :: r) → (m :: r).Nodup → (∀ x ∈ r, m < x) → Way ps n (m :: r)
  | 0, r, hl, _, _, _ => ⟨m, hm, by rw [List.length_eq_zero_iff.mp hl]⟩
  | n + 1, r, hl, hw, hn, hu => by
    have hr : r ≠ [] := by
      intro e
      rw [e] at hl
      simp at hl
    have e : r = r.dropLast ++ [r.getLast hr] := (List.dropLast_concat_getLast hr).symm
    generalize r.dropLast = q at e
    generalize r.getLast hr = v at e
    subst e
    have hw' : Walk ps ((m :: q) ++ [v]) := hw
    obtain ⟨w1, _, w3⟩ := (walk_app ps (m :: q) [v]).mp hw'
    have hn' : ((m :: q) ++ [v]).Nodup := hn
    obtain ⟨n1, _, n3⟩ := List.nodup_append.mp hn'
    have hq : q.length = n := by
      rw [List.length_append, List.length_singleton] at hl
      omega
    refine ⟨m :: q, v, way_of hm n q hq w1 n1 fun x hx => hu x (List.mem_append_left _ hx), ?_, fun z => n3 v z v (by simp) rfl, hu v (by simp), rfl⟩
    exact w3 _ (lst_last (by simp)) v rfl
theorem ring_rows {ps : Pairs} {m : Int} {r : List Int} (R : Ring ps (m :: r)) (hu : ∀ x ∈ r, m < x) : Rows ps r.length (m :: r) := by
  obtain ⟨y, _, hp⟩ := ring_next R m List.mem_cons_self
  refine rows_way.mpr ⟨way_of ⟨_, hp, rfl⟩ _ r rfl R.walk R.nodup hu, ?_⟩
  exact R.close _ (lst_last (by simp)) _ rfl
theorem rows_few {ps : Pairs} {starts : List Int} (hm : ∀ p ∈ ps, p.1 ∈ starts) {n : Nat} {x : List Int} (h : Rows ps n x) : n + 1 ≤ starts.length := by
  obtain ⟨R, hl⟩ := rows_ring h
  rw [← hl]
  exact sub_len R.nodup fun y hy => let ⟨z, _, hp⟩ := ring_next R y hy; hm _ hp
theorem rows_zero {ps : Pairs} (hne : ∀ p ∈ ps, p.1 ≠ p.2) (x : List Int) : ¬ Rows ps 0 x := by
  rintro ⟨s, _, rfl, h⟩
  exact hne _ h rfl
/-- the first closing row of a sorted list of rows -/
theorem find_min {ps : Pairs} {W : List (List Int)} {n : Nat} (hs : W.Pairwise fun a b => lexLe a b = true) (hm : ∀ x, x ∈ W ↔ Way ps n x) : IsMin (Rows ps n) (W.find? fun w => decide ((lst w, hd w) ∈ ps)) := by
  cases e : W.find? (fun w => decide ((lst w, hd w) ∈ ps)) with
  | none =>
    rw [List.find?_eq_none] at e
    intro x hx
    obtain ⟨h1, h2⟩ := rows_way.mp hx
    exact e x ((hm x).mpr h1) (decide_eq_true h2)
  | some w =>
    obtain ⟨hw, l1, l2, rfl, hno⟩ := List.find?_eq_some_iff_append.mp e
    refine ⟨rows_way.mpr ⟨(hm w).mp (by simp), of_decide_eq_true hw⟩, fun x hx => ?_⟩
    obtain ⟨h1, h2⟩ := rows_way.mp hx
    rcases List.mem_append.mp ((hm x).mpr h1) with z | z
    · have := hno x z
      rw [decide_eq_true h2] at this
      cases this
    · rcases List.mem_cons.mp z with z | z
      · rw [z]
        exact lexLe_refl _
      · exact (List.pairwise_cons.mp (List.pairwise_append.mp hs).2.1).1 x z
/-! the two searches -/
theorem range_more {β : Type} {M : Nat → Option β} {k : Nat} (h : ∀ j, k ≤ j → M j = none) : ∀ d : Nat, (List.range (k + d)).findSome? M = (List.range k).findSome? M
  | 0 => rfl
  | d + 1 => by
    rw [show k + (d + 1) = (k + d) + 1 from rfl, List.range_succ, List.findSome?_append, range_more h d]
    rw [show ([k + d] : List Nat).findSome? M = none by rw [List.findSome?_cons, h _ (by omega)]; rfl]
    cases (List.range k).findSome? M <;> rfl
theorem range_less {β : Type} {M : Nat → Option β} (h : M 0 = none) : ∀ k : Nat, (List.range k).findSome? M = (List.range (k - 1)).findSome? fun i => M (i + 1)
  | 0 => rfl
  | k + 1 => by
    rw [List.range_succ_eq_map, List.findSome?_cons, h, List.findSome?_map]
    rfl
/-- the program's search and the law's -/
theorem search_both {ps : Pairs} (hne : ∀ p ∈ ps, p.1 ≠ p.2) {qs : Pairs} (hq : ∀ p, p ∈ qs ↔ p ∈ ps) (hs : Rise qs) {starts : List Int} (hst : starts.Pairwise (· < ·)) (hm : ∀ s, s ∈ starts ↔ ∃ p ∈ ps, p.1 = s) (h8 : starts.length ≤ 8)
    {W : Nat → List (List Int)} (hW : ∀ n, n < 8 → (W n).Pairwise (fun a b => lexLe a b = true) ∧ ∀ x, x ∈ W n ↔ Way ps n x) :
    (List.range (starts.length - 1)).findSome? (fun i => starts.findSome? fun s => dfs qs (i + 1) [s]) = (List.range 8).findSome? (fun t => (W t).find? fun w => decide ((lst w, hd w) ∈ ps)) := by
  have hm' : ∀ s, s ∈ starts ↔ ∃ p ∈ qs, p.1 = s := fun s => (hm s).trans ⟨fun ⟨p, a, b⟩ => ⟨p, (hq p).mpr a, b⟩, fun ⟨p, a, b⟩ => ⟨p, (hq p).mp a, b⟩⟩
  have ext_eq : ∀ (n : Nat) (row x : List Int), Ext qs n row x ↔ Ext ps n row x := by
    intro n
    induction n with
    | zero => exact fun row x => by simp only [Ext, hq]
    | succ n ih => exact fun row x => by simp only [Ext, hq, ih]
  have rows_eq : ∀ (n : Nat) (x : List Int), Rows qs n x ↔ Rows ps n x := fun n x => by
    simp only [Rows, hq, ext_eq]
  have hM : ∀ n, IsMin (Rows ps n) (starts.findSome? fun s => dfs qs n [s]) := fun n => (starts_min hs hst hm' n).congr (rows_eq n)
  have none_of : ∀ n, (∀ x, ¬ Rows ps n x) → (starts.findSome? fun s => dfs qs n [s]) = none := fun n h => (hM n).uniq (r' := none) h
  have e1 : (List.range 8).findSome? (fun t => (W t).find? fun w => decide ((lst w, hd w) ∈ ps)) = (List.range 8).findSome? (fun t => starts.findSome? fun s => dfs qs t [s]) := by
    have : ∀ l : List Nat, (∀ t ∈ l, t < 8) → l.findSome? (fun t => (W t).find? fun w => decide ((lst w, hd w) ∈ ps)) = l.findSome? (fun t => starts.findSome? fun s => dfs qs t [s]) := by
      intro l
      induction l with
      | nil => exact fun _ => rfl
      | cons t r ih =>
        intro h
        obtain ⟨w1, w2⟩ := hW t (h t List.mem_cons_self)
        rw [List.findSome?_cons, List.findSome?_cons, (find_min w1 w2).uniq (hM t), ih fun u hu => h u (List.mem_cons_of_mem _ hu)]
    exact this _ fun t ht => List.mem_range.mp ht
  rw [e1, show (8 : Nat) = starts.length + (8 - starts.length) by omega, range_more (fun j hj => none_of j fun x hx => ?_), range_less (M := fun t => starts.findSome? fun s => dfs qs t [s]) (none_of 0 fun x hx => rows_zero hne x hx)]
  have := rows_few (starts := starts) (fun p hp => (hm _).mpr ⟨p, hp, rfl⟩) hx
  omega
/-- something is found just if there is a ring -/
theorem search_none {ps : Pairs} {starts : List Int} (hm : ∀ p ∈ ps, p.1 ∈ starts) (h8 : starts.length ≤ 8) {W : Nat → List (List Int)} (hW : ∀ n, n < 8 → (W n).Pairwise (fun a b => lexLe a b = true) ∧ ∀ x, x ∈ W n ↔ Way ps n x) :
    ((List.range 8).findSome? (fun t => (W t).find? fun w => decide ((lst w, hd w) ∈ ps))) ≠ none ↔ ∃ m r, Ring ps (m :: r) ∧ ∀ x ∈ r, m < x := by
  rw [ne_eq, List.findSome?_eq_none_iff]
  constructor
  · intro h
    refine Classical.byContradiction fun hno => h fun t ht => ?_
    obtain ⟨w1, w2⟩ := hW t (List.mem_range.mp ht)
    refine (find_min w1 w2).uniq (r' := none) fun x hx => hno ?_
    obtain ⟨R, _⟩ := rows_ring hx
    obtain ⟨m, r, R', hu, _⟩ := ring_turn R
    exact ⟨m, r, R', hu⟩
  · rintro ⟨m, r, R, hu⟩ h
    have hr := ring_rows R hu
    have := rows_few hm hr
    have ht : r.length < 8 := by omega
    obtain ⟨w1, w2⟩ := hW r.length ht
    have g := find_min w1 w2
    rw [h r.length (List.mem_range.mpr ht)] at g
    exact g _ hr
end M48
namespace M48
/-! the law's ways -/
theorem lexLe_total : ∀ x y : List Int, (lexLe x y || lexLe y x) = true
  | [], _ => by simp [lexLe]
  | _ :: _, [] => by simp [lexLe]
  | a :: r, b :: s => by
    have ih := lexLe_total r s
    simp only [lexLe, Bool.or_eq_true, decide_eq_true_eq, Bool.and_eq_true] at ih ⊢
    by_cases h : a = b
    · rcases ih with z | z
      · exact .inl (.inr ⟨h, z⟩)
      · exact .inr (.inr ⟨h.symm, z⟩)
    · by_cases h2 : a < b
      · exact .inl (.inl h2)
      · exact .inr (.inl (by omega))
theorem lexLe_trans : ∀ x y z : List Int, lexLe x y = true → lexLe y z = true → lexLe x z = true
  | [], _, _, _, _ => by simp [lexLe]
  | _ :: _, [], _, h, _ => by simp [lexLe] at h
  | _ :: _, _ :: _, [], _, h => by simp [lexLe] at h
  | a :: r, b :: s, c :: t, h1, h2 => by
    have ih := lexLe_trans r s t
    simp only [lexLe, Bool.or_eq_true, decide_eq_true_eq, Bool.and_eq_true] at h1 h2 ih ⊢
    rcases h1 with h1 | ⟨h1, h1'⟩ <;> rcases h2 with h2 | ⟨h2, h2'⟩
    · exact .inl (by omega)
    · exact .inl (by omega)
    · exact .inl (by omega)
    · exact .inr ⟨by omega, ih h1' h2'⟩
def sortR (W : List (List Int)) : List (List Int) := W.mergeSort lexLe
theorem sortR_mem {W : List (List Int)} (x : List Int) : x ∈ sortR W ↔ x ∈ W := (List.mergeSort_perm W lexLe).mem_iff
theorem sortR_len (W : List (List Int)) : (sortR W).length = W.length := (List.mergeSort_perm W lexLe).length_eq
theorem sortR_sorted (W : List (List Int)) : (sortR W).Pairwise fun a b => lexLe a b = true := List.pairwise_mergeSort lexLe_trans (fun a b => by simpa using lexLe_total a b) W
def ext1 (w : List Int) (p : Int × Int) : Option (List Int) := if p.1 = lst w ∧ p.2 ∉ w ∧ hd w < p.2 then some (w ++ [p.2]) else none
def longer (ps : Pairs) (W : List (List Int)) : List (List Int) := W.flatMap fun w => ps.filterMap (ext1 w)
def firsts : Pairs → List Int → List Int
  | [], acc => acc
  | p :: r, acc => firsts r (if p.1 ∈ acc then acc else acc ++ [p.1])
theorem mem_firsts : ∀ (ps : Pairs) (acc : List Int) (s : Int), s ∈ firsts ps acc ↔ s ∈ acc ∨ ∃ p ∈ ps, p.1 = s
  | [], acc, s => by simp [firsts]
  | p :: r, acc, s => by
    rw [firsts, mem_firsts r]
    by_cases h : p.1 ∈ acc
    · rw [if_pos h]
      simp only [List.mem_cons, exists_eq_or_imp]
      constructor
      · rintro (z | z)
        · exact .inl z
        · exact .inr (.inr z)
      · rintro (z | z | z)
        · exact .inl z
        · exact .inl (z ▸ h)
        · exact .inr z
    · rw [if_neg h, List.mem_append, List.mem_singleton]
      constructor
      · rintro ((z | z) | ⟨q, hq, z⟩)
        · exact .inl z
        · exact .inr ⟨p, List.mem_cons_self, z.symm⟩
        · exact .inr ⟨q, List.mem_cons_of_mem _ hq, z⟩
      · rintro (z | ⟨q, hq, z⟩)
        · exact .inl (.inl z)
        · rcases List.mem_cons.mp hq with e | e
          · exact .inl (.inr (e ▸ z.symm))
          · exact .inr ⟨q, e, z⟩
theorem firsts_nodup : ∀ (ps : Pairs) (acc : List Int), acc.Nodup → (firsts ps acc).Nodup
  | [], _, h => h
  | p :: r, acc, h => by
    rw [firsts]
    refine firsts_nodup r _ ?_
    by_cases z : p.1 ∈ acc
    · rw [if_pos z]; exact h
    · rw [if_neg z]
      exact List.nodup_append.mpr ⟨h, by simp, fun a ha b hb e => z (by simp at hb; rw [← hb, ← e]; exact ha)⟩
theorem firsts_len : ∀ (ps : Pairs) (acc : List Int), (firsts ps acc).length ≤ acc.length + ps.length
  | [], _ => Nat.le_refl _
  | p :: r, acc => by
    rw [firsts]
    have := firsts_len r (if p.1 ∈ acc then acc else acc ++ [p.1])
    rw [List.length_cons]
    have h : (if p.1 ∈ acc then acc else acc ++ [p.1]).length ≤ acc.length + 1 := by
      split
      · omega
      · rw [List.length_append, List.length_singleton]; exact Nat.le_refl _
    omega
theorem firsts_rise : ∀ (ps : Pairs) (acc : List Int), Rise ps → acc.Pairwise (· < ·) → (∀ a ∈ acc, ∀ p ∈ ps, a ≤ p.1) → (firsts ps acc).Pairwise (· < ·)
  | [], _, _, h, _ => h
  | p :: r, acc, hr, h, hl => by
    rw [firsts]
    have hr' := List.pairwise_cons.mp hr
    refine firsts_rise r _ hr'.2 ?_ ?_
    · split
      · exact h
      · rename_i z
        refine List.pairwise_append.mpr ⟨h, List.pairwise_singleton _ _, fun a ha b hb => ?_⟩
        rw [List.mem_singleton.mp hb]
        have := hl a ha p List.mem_cons_self
        have hne : a ≠ p.1 := fun e => z (e ▸ ha)
        omega
    · intro a ha q hq
      have hq' := hr'.1 q hq
      have hle : p.1 ≤ q.1 := by rcases hq' with z | z <;> omega
      split at ha
      · exact hl a ha q (List.mem_cons_of_mem _ hq)
      · rcases List.mem_append.mp ha with z | z
        · exact hl a z q (List.mem_cons_of_mem _ hq)
        · rw [List.mem_singleton.mp z]
          exact hle
def W (ps : Pairs) : Nat → List (List Int)
  | 0 => sortR ((firsts ps []).map fun s => [s])
  | n + 1 => sortR (longer ps (W ps n))
theorem mem_longer {ps : Pairs} {V : List (List Int)} {x : List Int} : x ∈ longer ps V ↔ ∃ w v, w ∈ V ∧ (lst w, v) ∈ ps ∧ v ∉ w ∧ hd w < v ∧ x = w ++ [v] := by
  unfold longer
  rw [List.mem_flatMap]
  constructor
  · rintro ⟨w, hw, h⟩
    obtain ⟨p, hp, e⟩ := List.mem_filterMap.mp h
    unfold ext1 at e
    split at e
    · rename_i q
      cases e
      exact ⟨w, p.2, hw, by rw [← q.1]; exact hp, q.2.1, q.2.2, rfl⟩
    · cases e
  · rintro ⟨w, v, hw, h1, h2, h3, rfl⟩
    refine ⟨w, hw, List.mem_filterMap.mpr ⟨(lst w, v), h1, ?_⟩⟩
    unfold ext1
    rw [if_pos ⟨rfl, h2, h3⟩]
theorem W_way (ps : Pairs) : ∀ (n : Nat) (x : List Int), x ∈ W ps n ↔ Way ps n x
  | 0, x => by
    rw [W, sortR_mem, List.mem_map]
    simp only [mem_firsts, List.not_mem_nil, false_or, Way]
    exact ⟨fun ⟨s, h, e⟩ => ⟨s, h, e.symm⟩, fun ⟨s, h, e⟩ => ⟨s, h, e.symm⟩⟩
  | n + 1, x => by
    rw [W, sortR_mem, mem_longer]
    simp only [Way, W_way ps n]
theorem W_sorted (ps : Pairs) : ∀ n : Nat, (W ps n).Pairwise fun a b => lexLe a b = true
  | 0 => sortR_sorted _
  | n + 1 => sortR_sorted _
/-! there are not too many ways -/
def left (ps : Pairs) (w : List Int) : Nat := (ps.filter fun p => decide (p.1 ∉ w)).length
def wt (ps : Pairs) (w : List Int) : Nat := 2 ^ left ps w.dropLast
def wts (ps : Pairs) (V : List (List Int)) : Nat := (V.map (wt ps)).sum
theorem sum_perm {l m : List Nat} (h : l.Perm m) : l.sum = m.sum := h.sum_nat
theorem wts_sortR (ps : Pairs) (V : List (List Int)) : wts ps (sortR V) = wts ps V := sum_perm ((List.mergeSort_perm V lexLe).map _)
theorem wts_app (ps : Pairs) (V U : List (List Int)) : wts ps (V ++ U) = wts ps V + wts ps U := by unfold wts; rw [List.map_append, List.sum_append]
theorem len_wts (ps : Pairs) : ∀ V : List (List Int), V.length ≤ wts ps V
  | [] => Nat.zero_le _
  | v :: V => by
    have := len_wts ps V
    have h : 1 ≤ wt ps v := Nat.one_le_two_pow
    show V.length + 1 ≤ wt ps v + wts ps V
    omega
theorem outs_le (ps : Pairs) (w : List Int) : wts ps (ps.filterMap (ext1 w)) ≤ (ps.filter fun p => decide (p.1 = lst w)).length * 2 ^ left ps w := by
  have : ∀ qs : Pairs, wts ps (qs.filterMap (ext1 w)) ≤ (qs.filter fun p => decide (p.1 = lst w)).length * 2 ^ left ps w := by
    intro qs
    induction qs with
    | nil => exact Nat.zero_le _
    | cons p r ih =>
      rw [List.filterMap_cons, List.filter_cons]
      by_cases h : p.1 = lst w ∧ p.2 ∉ w ∧ hd w < p.2
      · unfold ext1
        rw [if_pos h, if_pos (decide_eq_true h.1)]
        dsimp only
        rw [List.length_cons, Nat.succ_mul]
        show wt ps (w ++ [p.2]) + wts ps (r.filterMap (ext1 w)) ≤ _
        have e : wt ps (w ++ [p.2]) = 2 ^ left ps w := by unfold wt; rw [List.dropLast_concat]
        omega
      · unfold ext1
        rw [if_neg h]
        dsimp only
        refine Nat.le_trans ih (Nat.mul_le_mul_right _ ?_)
        split
        · rw [List.length_cons]; omega
        · exact Nat.le_refl _
  exact this ps
theorem split_left (ps : Pairs) (w : List Int) (hn : w.Nodup) (h0 : w ≠ []) : left ps w.dropLast = (ps.filter fun p => decide (p.1 = lst w)).length + left ps w := by
  have e : w = w.dropLast ++ [lst w] := by
    rw [show lst w = w.getLast h0 by unfold lst; rw [List.getLastD_eq_getLast?, List.getLast?_eq_some_getLast h0]; rfl]
    exact (List.dropLast_concat_getLast h0).symm
  have hl : lst w ∉ w.dropLast := fun z => by
    rw [e] at hn
    exact (List.nodup_append.mp hn).2.2 _ z _ (List.mem_singleton_self _) rfl
  have hm : ∀ x, x ∈ w ↔ x ∈ w.dropLast ∨ x = lst w := fun x => by
    have : x ∈ w ↔ x ∈ w.dropLast ++ [lst w] := by rw [← e]
    rw [this, List.mem_append, List.mem_singleton]
  unfold left
  induction ps with
  | nil => rfl
  | cons p r ih =>
    rw [List.filter_cons, List.filter_cons, List.filter_cons]
    by_cases h1 : p.1 = lst w
    · have a1 : p.1 ∉ w.dropLast := h1 ▸ hl
      have a2 : ¬ p.1 ∉ w := fun z => z ((hm _).mpr (.inr h1))
      rw [if_pos (decide_eq_true a1), if_pos (decide_eq_true h1), if_neg (by rw [decide_eq_false a2]; exact Bool.false_ne_true), List.length_cons, List.length_cons, ih]
      omega
    · by_cases h2 : p.1 ∈ w.dropLast
      · have a1 : ¬ p.1 ∉ w.dropLast := fun z => z h2
        have a2 : ¬ p.1 ∉ w := fun z => z ((hm _).mpr (.inl h2))
        rw [if_neg (by rw [decide_eq_false a1]; exact Bool.false_ne_true), if_neg (by rw [decide_eq_false h1]; exact Bool.false_ne_true), if_neg (by rw [decide_eq_false a2]; exact Bool.false_ne_true), ih]
      · have a2 : p.1 ∉ w := fun z => ((hm _).mp z).elim h2 h1
        rw [if_pos (decide_eq_true h2), if_neg (by rw [decide_eq_false h1]; exact Bool.false_ne_true), if_pos (decide_eq_true a2), List.length_cons, List.length_cons, ih]
        omega
theorem mul_pow_le (d n : Nat) : d * 2 ^ n ≤ 2 ^ (d + n) := by
  rw [Nat.pow_add]
  exact Nat.mul_le_mul_right _ (Nat.le_of_lt Nat.lt_two_pow_self)
theorem wts_one (ps : Pairs) (w : List Int) (hn : w.Nodup) (h0 : w ≠ []) : wts ps (ps.filterMap (ext1 w)) ≤ wt ps w := by
  refine Nat.le_trans (outs_le ps w) (Nat.le_trans (mul_pow_le _ _) ?_)
  unfold wt
  rw [split_left ps w hn h0]
  exact Nat.le_refl _
theorem wts_longer (ps : Pairs) : ∀ (V : List (List Int)), (∀ w ∈ V, w.Nodup ∧ w ≠ []) → wts ps (longer ps V) ≤ wts ps V
  | [], _ => Nat.zero_le _
  | w :: V, h => by
    have h1 := wts_one ps w (h w List.mem_cons_self).1 (h w List.mem_cons_self).2
    have h2 := wts_longer ps V fun u hu => h u (List.mem_cons_of_mem _ hu)
    have e : longer ps (w :: V) = ps.filterMap (ext1 w) ++ longer ps V := by unfold longer; rw [List.flatMap_cons]
    rw [e, wts_app]
    show _ ≤ wt ps w + wts ps V
    omega
theorem way_ok {ps : Pairs} : ∀ {n : Nat} {x : List Int}, Way ps n x → x.Nodup ∧ x ≠ []
  | 0, x, ⟨s, _, e⟩ => by rw [e]; simp
  | n + 1, x, ⟨w, v, h, h2, h3, h4, e⟩ => by
    rw [e]
    refine ⟨List.nodup_append.mpr ⟨(way_ok h).1, by simp, fun a ha b hb e => h3 (by simp at hb; rw [← hb, ← e]; exact ha)⟩, by simp⟩
theorem wts_zero (ps : Pairs) (ss : List Int) : wts ps (ss.map fun s => [s]) = ss.length * 2 ^ ps.length := by
  induction ss with
  | nil => simp [wts]
  | cons s r ih =>
    rw [List.map_cons, List.length_cons, Nat.succ_mul, ← ih]
    show wt ps [s] + wts ps _ = _
    have : wt ps [s] = 2 ^ ps.length := by
      unfold wt left
      congr 1
      rw [List.filter_eq_self.mpr]
      intro a _
      exact decide_eq_true (by simp)
    omega
theorem wts_W (ps : Pairs) : ∀ n : Nat, wts ps (W ps n) ≤ (firsts ps []).length * 2 ^ ps.length
  | 0 => by rw [W, wts_sortR, wts_zero]; exact Nat.le_refl _
  | n + 1 => by
    rw [W, wts_sortR]
    exact Nat.le_trans (wts_longer ps _ fun w hw => way_ok ((W_way ps n w).mp hw)) (wts_W ps n)
theorem longer_len (ps : Pairs) (hl : ps.length ≤ 20) (hf : (firsts ps []).length ≤ 8) (n : Nat) : (longer ps (W ps n)).length ≤ 8388608 := by
  have h := wts_W ps (n + 1)
  rw [W, wts_sortR] at h
  refine Nat.le_trans (len_wts ps _) (Nat.le_trans h (Nat.le_trans (Nat.mul_le_mul hf (Nat.pow_le_pow_right (by decide) hl)) (by decide)))
end M48
/-! sorted of rows that stand for something ordered -/
namespace VL
open PySem PySem.Spec
open PyProof.Rows L2
variable [Vx]
theorem sort_gen {α : Type} (f : α → D) (le : α → α → Bool) (hle : ∀ a b, dleD (f a) (f b) = le a b) (hal : ∀ a b, PySem.W.alike (f a) (f b) = true) (hs : (∀ a, ∃ x r, f a = .tuple (x :: r)) ∨ ∀ a, f a ≠ .none ∧ ∀ r, f a ≠ .tuple r) (hrk : ∀ a, rk 19 (f a) = true) (xs : List α) :
    dSorted [.list (xs.map f)] = .ok (.ol ((xs.mergeSort le).map f)) := by
  have h1 : rk 20 (.list (xs.map f)) = true := by
    rw [rk_list]
    exact all_map_rk (fun x => hrk x) xs
  have h2 : alikeB (xs.map f) = true := by
    unfold alikeB
    rw [List.all_eq_true]
    intro d hd
    obtain ⟨x, _, rfl⟩ := List.mem_map.mp hd
    rw [List.all_eq_true]
    intro e he
    obtain ⟨y, _, rfl⟩ := List.mem_map.mp he
    exact hal x y
  have h3 : sortableB (xs.map f) = true := by
    unfold sortableB
    rw [Bool.or_eq_true]
    rcases hs with hs | hs
    · left
      rw [List.all_eq_true]
      intro d hd
      obtain ⟨x, _, rfl⟩ := List.mem_map.mp hd
      obtain ⟨a, r, e⟩ := hs x
      rw [e]
    · right
      rw [List.all_eq_true]
      intro d hd
      obtain ⟨x, _, rfl⟩ := List.mem_map.mp hd
      obtain ⟨n1, n2⟩ := hs x
      cases e : f x with
      | none => exact absurd e n1
      | tuple r => exact absurd e (n2 r)
      | _ => rfl
  rw [sorted_l h1 h2 h3, ← List.map_mergeSort (r := le) (fun a _ b _ => (hle a b).symm)]
def rowD (x : List Int) : D := .list (x.map .int)
def prD (p : Int × Int) : D := .tuple [.int p.1, .int p.2]
theorem lexLe_le : ∀ x y : List Int, M48.lexLe x y = decide (x ≤ y)
  | [], y => by simp [M48.lexLe]
  | a :: r, [] => by simp [M48.lexLe]
  | a :: r, b :: s => by
    rw [M48.lexLe, lexLe_le r s, ← Bool.decide_and, ← Bool.decide_or]
    exact decide_eq_decide.mpr List.cons_le_cons_iff.symm
theorem dle_row (x y : List Int) : dleD (rowD x) (rowD y) = M48.lexLe x y := by
  rw [lexLe_le]
  exact congrFun (congrFun (PySem.W.dataLe_rows (fun b : List Int => b)) x) y
theorem alike_row (x y : List Int) : PySem.W.alike (rowD x) (rowD y) = true := PySem.W.alike_ints x y
theorem sort_rows (xs : List (List Int)) : dSorted [.list (xs.map rowD)] = .ok (.ol ((M48.sortR xs).map rowD)) :=
  sort_gen rowD M48.lexLe dle_row alike_row (.inr fun a => ⟨(fun z => nomatch z), fun r z => nomatch z⟩) (fun a => by unfold rowD; rw [rk_list]; exact all_map_rk (fun x => rk_int 18 x) a) xs
def leP (p q : Int × Int) : Bool := decide (p.1 < q.1 ∨ (p.1 = q.1 ∧ p.2 ≤ q.2))
theorem dle_pr (p q : Int × Int) : dleD (prD p) (prD q) = leP p q := congrFun (congrFun (PySem.W.dataLe_ii (fun b : Int × Int => b.1) (fun b => b.2)) p) q
theorem sort_prs (xs : List (Int × Int)) : dSorted [.list (xs.map prD)] = .ok (.ol ((xs.mergeSort leP).map prD)) :=
  sort_gen prD leP dle_pr (fun a b => by simp [prD, PySem.W.alike, PySem.W.alikeAll]) (.inl fun a => ⟨_, _, rfl⟩) (fun a => by simp [prD, rk_tuple, rk_int]) xs
theorem leP_rise (xs : List (Int × Int)) : M48.Rise (xs.mergeSort leP) :=
  (List.pairwise_mergeSort (le := leP) (fun a b c h1 h2 => by unfold leP at *; simp only [decide_eq_true_eq] at *; omega) (fun a b => by unfold leP; simp only [Bool.or_eq_true, decide_eq_true_eq]; omega) xs).imp fun {a b} h => by unfold leP at h; exact of_decide_eq_true h
theorem leP_mem {xs : List (Int × Int)} (p : Int × Int) : p ∈ xs.mergeSort leP ↔ p ∈ xs := (List.mergeSort_perm xs leP).mem_iff
theorem leP_len (xs : List (Int × Int)) : (xs.mergeSort leP).length = xs.length := (List.mergeSort_perm xs leP).length_eq
end VL
namespace K
open PySem PySem.Spec
open PyProof.Rows L2 VL
/-! ### the text -/
section
variable [Vx]
def topS (i : Nat) : Stmt := PySem.Challenge.pw_ordershown_k48_orders_and_rings.main.body.getD i (.Pass ⟨0, 0, 0, 0⟩)
abbrev s_transactions_of : Stmt := topS 1
abbrev N_transactions_of : List Str := ["schedule", "found", "operation"]
theorem sc_transactions_of : FnScope N_transactions_of ["schedule"] (defScope s_transactions_of) := ⟨rfl, rfl, rfl, by decide +kernel, rfl, by decide +kernel, by decide +kernel⟩
abbrev s_without_aborted : Stmt := topS 2
abbrev N_without_aborted : List Str := ["schedule", "aborted", "operation"]
theorem sc_without_aborted : FnScope N_without_aborted ["schedule"] (defScope s_without_aborted) := ⟨rfl, rfl, rfl, by decide +kernel, rfl, by decide +kernel, by decide +kernel⟩
abbrev s_do_conflict : Stmt := topS 4
abbrev N_do_conflict : List Str := ["first", "second"]
theorem sc_do_conflict : FnScope N_do_conflict ["first", "second"] (defScope s_do_conflict) := ⟨rfl, rfl, rfl, by decide +kernel, rfl, by decide +kernel, by decide +kernel⟩
abbrev s_conflict_graph : Stmt := topS 5
abbrev N_conflict_graph : List Str := ["schedule", "kept", "pairs", "j", "i", "pair"]
theorem sc_conflict_graph : FnScope N_conflict_graph ["schedule"] (defScope s_conflict_graph) := ⟨rfl, rfl, rfl, by decide +kernel, rfl, by decide +kernel, by decide +kernel⟩
abbrev s_order_of : Stmt := topS 6
abbrev N_order_of : List Str := ["numbers", "pairs", "left", "order", "held", "ready", "number", "first", "second"]
theorem sc_order_of : FnScope N_order_of ["numbers", "pairs"] (defScope s_order_of) := ⟨rfl, rfl, rfl, by decide +kernel, rfl, by decide +kernel, by decide +kernel⟩
abbrev s_closing : Stmt := topS 7
abbrev N_closing : List Str := ["pairs", "row", "size", "first", "second", "found"]
theorem sc_closing : FnScope N_closing ["pairs", "row", "size"] (defScope s_closing) := ⟨rfl, rfl, rfl, by decide +kernel, rfl, by decide +kernel, by decide +kernel⟩
abbrev s_ring_in : Stmt := topS 8
abbrev N_ring_in : List Str := ["pairs", "ordered", "starts", "size", "first", "_", "start", "found"]
theorem sc_ring_in : FnScope N_ring_in ["pairs"] (defScope s_ring_in) := ⟨rfl, rfl, rfl, by decide +kernel, rfl, by decide +kernel, by decide +kernel⟩
abbrev s_serial_order : Stmt := topS 9
abbrev N_serial_order : List Str := ["schedule"]
theorem sc_serial_order : FnScope N_serial_order ["schedule"] (defScope s_serial_order) := ⟨rfl, rfl, rfl, by decide +kernel, rfl, by decide +kernel, by decide +kernel⟩
abbrev s_ring_of : Stmt := topS 10
abbrev N_ring_of : List Str := ["schedule"]
theorem sc_ring_of : FnScope N_ring_of ["schedule"] (defScope s_ring_of) := ⟨rfl, rfl, rfl, by decide +kernel, rfl, by decide +kernel, by decide +kernel⟩
abbrev s__law_cell : Stmt := topS 12
abbrev N__law_cell : List Str := ["_law_script", "_law_k"]
theorem sc__law_cell : FnScope N__law_cell ["_law_script", "_law_k"] (defScope s__law_cell) := ⟨rfl, rfl, rfl, by decide +kernel, rfl, by decide +kernel, by decide +kernel⟩
abbrev s__law_draw : Stmt := topS 13
abbrev N__law_draw : List Str := ["_law_script", "_law_k", "_law_sizes", "_law_cell_here", "_law_drawn", "_law_mixed", "_law_j", "_law_size"]
theorem sc__law_draw : FnScope N__law_draw ["_law_script", "_law_k", "_law_sizes"] (defScope s__law_draw) := ⟨rfl, rfl, rfl, by decide +kernel, rfl, by decide +kernel, by decide +kernel⟩
abbrev s__law_schedule : Stmt := topS 14
abbrev N__law_schedule : List Str := ["_law_script", "_law_k", "_law_head", "_law_schedule_here", "_law_ended", "_law_j", "_law_digits", "_law_t", "_law_item"]
theorem sc__law_schedule : FnScope N__law_schedule ["_law_script", "_law_k"] (defScope s__law_schedule) := ⟨rfl, rfl, rfl, by decide +kernel, rfl, by decide +kernel, by decide +kernel⟩
abbrev s__law_kept : Stmt := topS 15
abbrev N__law_kept : List Str := ["_law_schedule_here", "_law_gone", "_law_op"]
theorem sc__law_kept : FnScope N__law_kept ["_law_schedule_here"] (defScope s__law_kept) := ⟨rfl, rfl, rfl, by decide +kernel, rfl, by decide +kernel, by decide +kernel⟩
abbrev s__law_numbers : Stmt := topS 16
abbrev N__law_numbers : List Str := ["_law_schedule_here", "_law_numbers_here", "_law_op"]
theorem sc__law_numbers : FnScope N__law_numbers ["_law_schedule_here"] (defScope s__law_numbers) := ⟨rfl, rfl, rfl, by decide +kernel, rfl, by decide +kernel, by decide +kernel⟩
abbrev s__law_clash : Stmt := topS 17
abbrev N__law_clash : List Str := ["_law_one", "_law_other"]
theorem sc__law_clash : FnScope N__law_clash ["_law_one", "_law_other"] (defScope s__law_clash) := ⟨rfl, rfl, rfl, by decide +kernel, rfl, by decide +kernel, by decide +kernel⟩
abbrev s__law_graph : Stmt := topS 18
abbrev N__law_graph : List Str := ["_law_schedule_here", "_law_kept_here", "_law_pairs", "_law_k", "_law_j", "_law_pair"]
theorem sc__law_graph : FnScope N__law_graph ["_law_schedule_here"] (defScope s__law_graph) := ⟨rfl, rfl, rfl, by decide +kernel, rfl, by decide +kernel, by decide +kernel⟩
abbrev s__law_order : Stmt := topS 19
abbrev N__law_order : List Str := ["_law_numbers_here", "_law_pairs", "_law_left", "_law_order_here", "_law_turn", "_law_free", "_law_t", "_law_u", "_law_v"]
theorem sc__law_order : FnScope N__law_order ["_law_numbers_here", "_law_pairs"] (defScope s__law_order) := ⟨rfl, rfl, rfl, by decide +kernel, rfl, by decide +kernel, by decide +kernel⟩
abbrev s__law_ring : Stmt := topS 20
abbrev N__law_ring : List Str := ["_law_pairs", "_law_ways", "_law_pair", "_law_turn", "_law_way", "_law_longer", "_law_u", "_law_v"]
theorem sc__law_ring : FnScope N__law_ring ["_law_pairs"] (defScope s__law_ring) := ⟨rfl, rfl, rfl, by decide +kernel, rfl, by decide +kernel, by decide +kernel⟩
abbrev s_law : Stmt := topS 21
abbrev N_law : List Str := ["_law_script", "_law_w", "_law_head", "_law_digits", "_law_numbers_here", "_law_pairs", "_law_j", "_law_order_here", "_law_handed", "_law_schedule_here", "_law_graph_here", "_law_pair"]
theorem sc_law : FnScope N_law ["_law_script"] (defScope s_law) := ⟨rfl, rfl, rfl, by decide +kernel, rfl, by decide +kernel, by decide +kernel⟩
/-- what the top has left -/
structure Txt (w : World) (K : PySem.W.Frag) (mg : Str → Option Value) (f_transactions_of f_without_aborted f_do_conflict f_conflict_graph f_order_of f_closing f_ring_in f_serial_order f_ring_of f__law_cell f__law_draw f__law_schedule f__law_kept f__law_numbers f__law_clash f__law_graph f__law_order f__law_ring f_law : Addr) (d_transactions_of d_without_aborted d_do_conflict d_conflict_graph d_order_of d_closing d_ring_in d_serial_order d_ring_of d__law_cell d__law_draw d__law_schedule d__law_kept d__law_numbers d__law_clash d__law_graph d__law_order d__law_ring d_law : FuncData) : Prop where
  n_transactions_of : Fun K "transactions_of" "transactions_of" s_transactions_of f_transactions_of d_transactions_of
  g_transactions_of : mg "transactions_of" = some (.ref f_transactions_of)
  b_transactions_of : Binds K d_transactions_of ["schedule"] []
  n_without_aborted : Fun K "without_aborted" "without_aborted" s_without_aborted f_without_aborted d_without_aborted
  g_without_aborted : mg "without_aborted" = some (.ref f_without_aborted)
  b_without_aborted : Binds K d_without_aborted ["schedule"] []
  n_do_conflict : Fun K "do_conflict" "do_conflict" s_do_conflict f_do_conflict d_do_conflict
  g_do_conflict : mg "do_conflict" = some (.ref f_do_conflict)
  b_do_conflict : Binds K d_do_conflict ["first", "second"] []
  n_conflict_graph : Fun K "conflict_graph" "conflict_graph" s_conflict_graph f_conflict_graph d_conflict_graph
  g_conflict_graph : mg "conflict_graph" = some (.ref f_conflict_graph)
  b_conflict_graph : Binds K d_conflict_graph ["schedule"] []
  n_order_of : Fun K "order_of" "order_of" s_order_of f_order_of d_order_of
  g_order_of : mg "order_of" = some (.ref f_order_of)
  b_order_of : Binds K d_order_of ["numbers", "pairs"] []
  n_closing : Fun K "closing" "closing" s_closing f_closing d_closing
  g_closing : mg "closing" = some (.ref f_closing)
  b_closing : Binds K d_closing ["pairs", "row", "size"] []
  n_ring_in : Fun K "ring_in" "ring_in" s_ring_in f_ring_in d_ring_in
  g_ring_in : mg "ring_in" = some (.ref f_ring_in)
  b_ring_in : Binds K d_ring_in ["pairs"] []
  n_serial_order : Fun K "serial_order" "serial_order" s_serial_order f_serial_order d_serial_order
  g_serial_order : mg "serial_order" = some (.ref f_serial_order)
  b_serial_order : Binds K d_serial_order ["schedule"] []
  n_ring_of : Fun K "ring_of" "ring_of" s_ring_of f_ring_of d_ring_of
  g_ring_of : mg "ring_of" = some (.ref f_ring_of)
  b_ring_of : Binds K d_ring_of ["schedule"] []
  n__law_cell : Fun K "_law_cell" "_law_cell" s__law_cell f__law_cell d__law_cell
  g__law_cell : mg "_law_cell" = some (.ref f__law_cell)
  b__law_cell : Binds K d__law_cell ["_law_script", "_law_k"] []
  n__law_draw : Fun K "_law_draw" "_law_draw" s__law_draw f__law_draw d__law_draw
  g__law_draw : mg "_law_draw" = some (.ref f__law_draw)
  b__law_draw : Binds K d__law_draw ["_law_script", "_law_k", "_law_sizes"] []
  n__law_schedule : Fun K "_law_schedule" "_law_schedule" s__law_schedule f__law_schedule d__law_schedule
  g__law_schedule : mg "_law_schedule" = some (.ref f__law_schedule)
  b__law_schedule : Binds K d__law_schedule ["_law_script", "_law_k"] []
  n__law_kept : Fun K "_law_kept" "_law_kept" s__law_kept f__law_kept d__law_kept
  g__law_kept : mg "_law_kept" = some (.ref f__law_kept)
  b__law_kept : Binds K d__law_kept ["_law_schedule_here"] []
  n__law_numbers : Fun K "_law_numbers" "_law_numbers" s__law_numbers f__law_numbers d__law_numbers
  g__law_numbers : mg "_law_numbers" = some (.ref f__law_numbers)
  b__law_numbers : Binds K d__law_numbers ["_law_schedule_here"] []
  n__law_clash : Fun K "_law_clash" "_law_clash" s__law_clash f__law_clash d__law_clash
  g__law_clash : mg "_law_clash" = some (.ref f__law_clash)
  b__law_clash : Binds K d__law_clash ["_law_one", "_law_other"] []
  n__law_graph : Fun K "_law_graph" "_law_graph" s__law_graph f__law_graph d__law_graph
  g__law_graph : mg "_law_graph" = some (.ref f__law_graph)
  b__law_graph : Binds K d__law_graph ["_law_schedule_here"] []
  n__law_order : Fun K "_law_order" "_law_order" s__law_order f__law_order d__law_order
  g__law_order : mg "_law_order" = some (.ref f__law_order)
  b__law_order : Binds K d__law_order ["_law_numbers_here", "_law_pairs"] []
  n__law_ring : Fun K "_law_ring" "_law_ring" s__law_ring f__law_ring d__law_ring
  g__law_ring : mg "_law_ring" = some (.ref f__law_ring)
  b__law_ring : Binds K d__law_ring ["_law_pairs"] []
  n_law : Fun K "law" "law" s_law f_law d_law
  g_law : mg "law" = some (.ref f_law)
  b_law : Binds K d_law ["_law_script"] []
  m_len : mg "len" = none
  m_list : mg "list" = none
  m_min : mg "min" = none
  m_range : mg "range" = none
  m_sorted : mg "sorted" = none
section
variable {P : Program} {w : World} {K : PySem.W.Frag} {mg : Str → Option Value} {base : Heap} {f_transactions_of f_without_aborted f_do_conflict f_conflict_graph f_order_of f_closing f_ring_in f_serial_order f_ring_of f__law_cell f__law_draw f__law_schedule f__law_kept f__law_numbers f__law_clash f__law_graph f__law_order f__law_ring f_law : Addr} {d_transactions_of d_without_aborted d_do_conflict d_conflict_graph d_order_of d_closing d_ring_in d_serial_order d_ring_of d__law_cell d__law_draw d__law_schedule d__law_kept d__law_numbers d__law_clash d__law_graph d__law_order d__law_ring d_law : FuncData}
def b_transactions_of_1 : FS := gForget [2] (gIf (fB (fOp (dIn true) (fOp dIx (fVar 2) (fC (.int 1))) (fVar 1))) (gApp 1 (fOp dIx (fVar 2) (fC (.int 1)))) (gNext))
def g_transactions_of : FS := gSeq (gOwn 1 (fLst (fNil))) (gSeq (gFor (fIter (fVar 0) (seqOf false)) (sName 2) (b_transactions_of_1)) (gRet (fBlt dSorted (fCons (fVar 1) (fNil)))))
def F_transactions_of : List D → Rs R := fnR 3 g_transactions_of
theorem ok_transactions_of (T : Txt w K mg f_transactions_of f_without_aborted f_do_conflict f_conflict_graph f_order_of f_closing f_ring_in f_serial_order f_ring_of f__law_cell f__law_draw f__law_schedule f__law_kept f__law_numbers f__law_clash f__law_graph f__law_order f__law_ring f_law d_transactions_of d_without_aborted d_do_conflict d_conflict_graph d_order_of d_closing d_ring_in d_serial_order d_ring_of d__law_cell d__law_draw d__law_schedule d__law_kept d__law_numbers d__law_clash d__law_graph d__law_order d__law_ring d_law) : FnOk P w K mg base (L2.CX P w) 1 f_transactions_of d_transactions_of ["schedule"] (spF K 1 F_transactions_of) := by
  unfold F_transactions_of g_transactions_of
  exact fn_ok rfl rfl T.n_transactions_of sc_transactions_of fun cdv A outer s H E hr L => b_cons (s_own 1 sc_transactions_of.nd (e_lst (a_nil))) (b_cons (s_for L.po L.calm (i_seq (e_var 0)) (g_name 2 sc_transactions_of.nd) (b_forget [2] (b_one (s_if (t_cmp (v_notin hr.units) (e_ix hr.units (e_var 2) (e_int)) (e_var 1)) (b_one (s_app 1 (e_ix hr.units (e_var 2) (e_int)))) (b_nil))))) (b_one (s_ret (e_blt (c_sorted hr.units) T.m_sorted (by decide +kernel) (a_cons (e_var 1) (a_nil))))))
def g_without_aborted : FS := gSeq (gSet 1 (fLc (fIter (fVar 0) (seqOf true)) (sName 2) (fB (fOp dEq (fOp dIx (fVar 2) (fC (.int 0))) (fC (.str "abort")))) (fOp dIx (fVar 2) (fC (.int 1))) [2])) (gRet (fLc (fIter (fVar 0) (seqOf true)) (sName 2) (fB (fOp (dIn true) (fOp dIx (fVar 2) (fC (.int 1))) (fVar 1))) (fVar 2) [2]))
def F_without_aborted : List D → Rs R := fnR 3 g_without_aborted
theorem ok_without_aborted (T : Txt w K mg f_transactions_of f_without_aborted f_do_conflict f_conflict_graph f_order_of f_closing f_ring_in f_serial_order f_ring_of f__law_cell f__law_draw f__law_schedule f__law_kept f__law_numbers f__law_clash f__law_graph f__law_order f__law_ring f_law d_transactions_of d_without_aborted d_do_conflict d_conflict_graph d_order_of d_closing d_ring_in d_serial_order d_ring_of d__law_cell d__law_draw d__law_schedule d__law_kept d__law_numbers d__law_clash d__law_graph d__law_order d__law_ring d_law) : FnOk P w K mg base (L2.CX P w) 1 f_without_aborted d_without_aborted ["schedule"] (spF K 1 F_without_aborted) := by
  unfold F_without_aborted g_without_aborted
  exact fn_ok rfl rfl T.n_without_aborted sc_without_aborted fun cdv A outer s H E hr L => b_cons (s_set 1 sc_without_aborted.nd (e_lc (own' := [("operation", 2)]) rfl sc_without_aborted.nd (i_seq (e_var 0)) (blkOk_by (N := N_without_aborted) (sc := defScope s_without_aborted) (by decide +kernel)) (fun _ _ _ _ _ => g_name 2 sc_without_aborted.nd) (fun _ _ _ _ _ => ts_one (t_cmp (v_eq hr.units) (e_ix hr.units (e_var 2) (e_int)) (e_str))) (fun _ _ _ _ _ => e_ix hr.units (e_var 2) (e_int)))) (b_one (s_ret (e_lc (own' := [("operation", 2)]) rfl sc_without_aborted.nd (i_seq (e_var 0)) (blkOk_by (N := N_without_aborted) (sc := defScope s_without_aborted) (by decide +kernel)) (fun _ _ _ _ _ => g_name 2 sc_without_aborted.nd) (fun _ _ _ _ _ => ts_one (t_cmp (v_notin hr.units) (e_ix hr.units (e_var 2) (e_int)) (e_var 1))) (fun _ _ _ _ _ => e_var 2))))
def g_do_conflict : FS := gSeq (gIf (tOrB (fB (fOp dLt (fBlt dLen (fCons (fVar 0) (fNil))) (fC (.int 3)))) (tOrB (fB (fOp dLt (fBlt dLen (fCons (fVar 1) (fNil))) (fC (.int 3)))) (tOrB (fB (fOp dEq (fOp dIx (fVar 0) (fC (.int 1))) (fOp dIx (fVar 1) (fC (.int 1))))) (fB (fOp dNe (fOp dIx (fVar 0) (fC (.int 2))) (fOp dIx (fVar 1) (fC (.int 2)))))))) (gRet (fC (.bool false))) (gNext)) (gRet (fOp (dIn false) (fC (.str "write")) (fTup (fCons (fOp dIx (fVar 0) (fC (.int 0))) (fCons (fOp dIx (fVar 1) (fC (.int 0))) (fNil))))))
def F_do_conflict : List D → Rs R := fnR 2 g_do_conflict
theorem ok_do_conflict (T : Txt w K mg f_transactions_of f_without_aborted f_do_conflict f_conflict_graph f_order_of f_closing f_ring_in f_serial_order f_ring_of f__law_cell f__law_draw f__law_schedule f__law_kept f__law_numbers f__law_clash f__law_graph f__law_order f__law_ring f_law d_transactions_of d_without_aborted d_do_conflict d_conflict_graph d_order_of d_closing d_ring_in d_serial_order d_ring_of d__law_cell d__law_draw d__law_schedule d__law_kept d__law_numbers d__law_clash d__law_graph d__law_order d__law_ring d_law) : FnOk P w K mg base (L2.CX P w) 1 f_do_conflict d_do_conflict ["first", "second"] (spF K 2 F_do_conflict) := by
  unfold F_do_conflict g_do_conflict
  exact fn_ok rfl rfl T.n_do_conflict sc_do_conflict fun cdv A outer s H E hr L => b_cons (s_if (t_w (w_or (t_cmp (v_lt) (e_blt c_len T.m_len PySem.boot_len (a_cons (e_var 0) (a_nil))) (e_int)) (w_or (t_cmp (v_lt) (e_blt c_len T.m_len PySem.boot_len (a_cons (e_var 1) (a_nil))) (e_int)) (w_or (t_cmp (v_eq hr.units) (e_ix hr.units (e_var 0) (e_int)) (e_ix hr.units (e_var 1) (e_int))) (w_or1 (t_cmp (v_ne hr.units) (e_ix hr.units (e_var 0) (e_int)) (e_ix hr.units (e_var 1) (e_int)))))))) (b_one (s_ret (e_bl))) (b_nil)) (b_one (s_ret (e_cmp (v_in hr.units) (e_str) (e_tup (a_cons (e_ix hr.units (e_var 0) (e_int)) (a_cons (e_ix hr.units (e_var 1) (e_int)) (a_nil)))))))
def b_conflict_graph_1 : FS := gForget [4, 5] (gSeq (gSet 5 (fTup (fCons (fOp dIx (fOp dIx (fVar 1) (fVar 4)) (fC (.int 1))) (fCons (fOp dIx (fOp dIx (fVar 1) (fVar 3)) (fC (.int 1))) (fNil))))) (gIf (tAndB (fTr (fCall F_do_conflict (fCons (fOp dIx (fVar 1) (fVar 4)) (fCons (fOp dIx (fVar 1) (fVar 3)) (fNil))))) (fB (fOp (dIn true) (fVar 5) (fVar 2)))) (gApp 2 (fVar 5)) (gNext)))
def b_conflict_graph_2 : FS := gForget [3, 4, 5] (gFor (fRng1 (fCons (fVar 3) (fNil))) (sName 4) (b_conflict_graph_1))
def g_conflict_graph : FS := gSeq (gSet 1 (fCall F_without_aborted (fCons (fVar 0) (fNil)))) (gSeq (gOwn 2 (fLst (fNil))) (gSeq (gFor (fRng1 (fCons (fBlt dLen (fCons (fVar 1) (fNil))) (fNil))) (sName 3) (b_conflict_graph_2)) (gRet (fBlt dSorted (fCons (fVar 2) (fNil))))))
def F_conflict_graph : List D → Rs R := fnR 6 g_conflict_graph
theorem ok_conflict_graph (T : Txt w K mg f_transactions_of f_without_aborted f_do_conflict f_conflict_graph f_order_of f_closing f_ring_in f_serial_order f_ring_of f__law_cell f__law_draw f__law_schedule f__law_kept f__law_numbers f__law_clash f__law_graph f__law_order f__law_ring f_law d_transactions_of d_without_aborted d_do_conflict d_conflict_graph d_order_of d_closing d_ring_in d_serial_order d_ring_of d__law_cell d__law_draw d__law_schedule d__law_kept d__law_numbers d__law_clash d__law_graph d__law_order d__law_ring d_law) : FnOk P w K mg base (L2.CX P w) 2 f_conflict_graph d_conflict_graph ["schedule"] (spF K 1 F_conflict_graph) := by
  unfold F_conflict_graph g_conflict_graph
  exact fn_ok rfl rfl T.n_conflict_graph sc_conflict_graph fun cdv A outer s H E hr L => b_cons (s_set 1 sc_conflict_graph.nd (e_call ((ok_without_aborted T).mono (by decide)) hr T.g_without_aborted T.n_without_aborted.kp T.b_without_aborted (a_cons (e_var 0) (a_nil)))) (b_cons (s_own 2 sc_conflict_graph.nd (e_lst (a_nil))) (b_cons (s_for L.po L.calm (i_range1 T.m_range (a_cons (e_blt c_len T.m_len PySem.boot_len (a_cons (e_var 1) (a_nil))) (a_nil))) (g_name 3 sc_conflict_graph.nd) (b_forget [3, 4, 5] (b_one (s_for L.po L.calm (i_range1 T.m_range (a_cons (e_var 3) (a_nil))) (g_name 4 sc_conflict_graph.nd) (b_forget [4, 5] (b_cons (s_set 5 sc_conflict_graph.nd (e_tup (a_cons (e_ix hr.units (e_ix hr.units (e_var 1) (e_var 4)) (e_int)) (a_cons (e_ix hr.units (e_ix hr.units (e_var 1) (e_var 3)) (e_int)) (a_nil))))) (b_one (s_if (t_w (w_and (t_truth (e_call ((ok_do_conflict T).mono (by decide)) hr T.g_do_conflict T.n_do_conflict.kp T.b_do_conflict (a_cons (e_ix hr.units (e_var 1) (e_var 4)) (a_cons (e_ix hr.units (e_var 1) (e_var 3)) (a_nil))))) (w_and1 (t_cmp (v_notin hr.units) (e_var 5) (e_var 2))))) (b_one (s_app 2 (e_var 5))) (b_nil))))))))) (b_one (s_ret (e_blt (c_sorted hr.units) T.m_sorted (by decide +kernel) (a_cons (e_var 2) (a_nil)))))))
def b_order_of_1 : FS := gForget [4, 5] (gSeq (gSet 4 (fLc (fIter (fVar 1) (seqOf true)) (sTup (sCons (sName 7) (sCons (sName 8) (sNil)))) (fB (fOp (dIn false) (fVar 7) (fVar 2))) (fVar 8) [7, 8])) (gSeq (gSet 5 (fLc (fIter (fVar 2) (seqOf true)) (sName 6) (fB (fOp (dIn true) (fVar 6) (fVar 4))) (fVar 6) [6])) (gSeq (gIf (fB (fOp dEq (fBlt dLen (fCons (fVar 5) (fNil))) (fC (.int 0)))) (gRet (fC .none)) (gNext)) (gSeq (gApp 3 (fOp dIx (fVar 5) (fC (.int 0)))) (gRem 2 (fOp dIx (fVar 5) (fC (.int 0))))))))
def g_order_of : FS := gSeq (gOwn 2 (fBlt dSorted (fCons (fVar 0) (fNil)))) (gSeq (gOwn 3 (fLst (fNil))) (gSeq (gWhile 64 (fB (fOp dGt (fBlt dLen (fCons (fVar 2) (fNil))) (fC (.int 0)))) (b_order_of_1)) (gRetV 3)))
def F_order_of : List D → Rs R := fnR 9 g_order_of
theorem ok_order_of (T : Txt w K mg f_transactions_of f_without_aborted f_do_conflict f_conflict_graph f_order_of f_closing f_ring_in f_serial_order f_ring_of f__law_cell f__law_draw f__law_schedule f__law_kept f__law_numbers f__law_clash f__law_graph f__law_order f__law_ring f_law d_transactions_of d_without_aborted d_do_conflict d_conflict_graph d_order_of d_closing d_ring_in d_serial_order d_ring_of d__law_cell d__law_draw d__law_schedule d__law_kept d__law_numbers d__law_clash d__law_graph d__law_order d__law_ring d_law) : FnOk P w K mg base (L2.CX P w) 1 f_order_of d_order_of ["numbers", "pairs"] (spF K 2 F_order_of) := by
  unfold F_order_of g_order_of
  exact fn_ok rfl rfl T.n_order_of sc_order_of fun cdv A outer s H E hr L => b_cons (s_own 2 sc_order_of.nd (e_blt (c_sorted hr.units) T.m_sorted (by decide +kernel) (a_cons (e_var 0) (a_nil)))) (b_cons (s_own 3 sc_order_of.nd (e_lst (a_nil))) (b_cons (s_while 64 L.po (t_cmp (v_gt) (e_blt c_len T.m_len PySem.boot_len (a_cons (e_var 2) (a_nil))) (e_int)) (b_forget [4, 5] (b_cons (s_set 4 sc_order_of.nd (e_lc (own' := [("first", 7), ("second", 8)]) rfl sc_order_of.nd (i_seq (e_var 1)) (blkOk_by (N := N_order_of) (sc := defScope s_order_of) (by decide +kernel)) (fun _ _ _ _ _ => g_tup rfl (gs_cons (g_name 7 sc_order_of.nd) (gs_cons (g_name 8 sc_order_of.nd) (gs_nil))) (sCons_len (sCons_len (sNil_len)))) (fun _ _ _ _ _ => ts_one (t_cmp (v_in hr.units) (e_var 7) (e_var 2))) (fun _ _ _ _ _ => e_var 8))) (b_cons (s_set_of (setLc_ps (i := 5) (own' := [("number", 6)]) rfl sc_order_of.nd (i_seq (e_var 2)) (blkOk_by (N := N_order_of) (sc := defScope s_order_of) (by decide +kernel)) (fun _ _ _ _ _ => g_name 6 sc_order_of.nd) (fun _ _ _ _ _ => ts_one (t_cmp (v_notin hr.units) (e_var 6) (e_var 4))) (fun _ _ _ _ _ => e_var 6) (by decide) rfl rfl (sw_true rfl rfl rfl (by decide +kernel)))) (b_cons (s_if (t_cmp (v_eq hr.units) (e_blt c_len T.m_len PySem.boot_len (a_cons (e_var 5) (a_nil))) (e_int)) (b_one (s_ret (e_non))) (b_nil)) (b_cons (s_app 3 (e_ix hr.units (e_var 5) (e_int))) (b_one (s_rem 2 (e_ix hr.units (e_var 5) (e_int)))))))))) (b_one (s_retv 3))))
def b_closing_1 (F : List D → Rs R) : FS := gForget [3, 4, 5] (gIf (tAndB (fB (fOp dEq (fVar 3) (fOp dIx (fVar 1) (fNeg (fC (.int 1)))))) (tAndB (fB (fOp dGt (fVar 4) (fOp dIx (fVar 1) (fC (.int 0))))) (fB (fOp (dIn true) (fVar 4) (fVar 1))))) (gSeq (gSet 5 (fCall F (fCons (fVar 0) (fCons (fOp dAdd (fVar 1) (fLst (fCons (fVar 4) (fNil)))) (fCons (fVar 2) (fNil)))))) (gIf (fB (fOp dNotN (fVar 5) (fC .none))) (gRetV 5) (gNext))) (gNext))
def g_closing (F : List D → Rs R) : FS := gSeq (gIf (fB (fOp dEq (fBlt dLen (fCons (fVar 1) (fNil))) (fVar 2))) (gRet (fIf (fB (fOp (dIn false) (fTup (fCons (fOp dIx (fVar 1) (fNeg (fC (.int 1)))) (fCons (fOp dIx (fVar 1) (fC (.int 0))) (fNil)))) (fVar 0))) (fVar 1) (fC .none))) (gNext)) (gSeq (gFor (fIter (fVar 0) (seqOf false)) (sTup (sCons (sName 3) (sCons (sName 4) (sNil)))) ((b_closing_1 F))) (gRet (fC .none)))
def G_closing (F : List D → Rs R) : List D → Rs R := fnR 6 (g_closing F)
def F_closing : List D → Rs R := recF G_closing 9
theorem okr_closing (T : Txt w K mg f_transactions_of f_without_aborted f_do_conflict f_conflict_graph f_order_of f_closing f_ring_in f_serial_order f_ring_of f__law_cell f__law_draw f__law_schedule f__law_kept f__law_numbers f__law_clash f__law_graph f__law_order f__law_ring f_law d_transactions_of d_without_aborted d_do_conflict d_conflict_graph d_order_of d_closing d_ring_in d_serial_order d_ring_of d__law_cell d__law_draw d__law_schedule d__law_kept d__law_numbers d__law_clash d__law_graph d__law_order d__law_ring d_law) : ∀ n, FnOk P w K mg base (L2.CX P w) (0 + n) f_closing d_closing ["pairs", "row", "size"] (spF K 3 (recF G_closing n)) := fn_rec rfl fun n F hF => by
  unfold G_closing g_closing
  exact fn_ok rfl rfl T.n_closing sc_closing fun cdv A outer s H E hr L => b_cons (s_if (t_cmp (v_eq hr.units) (e_blt c_len T.m_len PySem.boot_len (a_cons (e_var 1) (a_nil))) (e_var 2)) (b_one (s_ret (e_if (t_cmp (v_in hr.units) (e_tup (a_cons (e_ix hr.units (e_var 1) (e_neg (e_int))) (a_cons (e_ix hr.units (e_var 1) (e_int)) (a_nil)))) (e_var 0)) (e_var 1) (e_non)))) (b_nil)) (b_cons (s_for L.po L.calm (i_seq (e_var 0)) (g_tup rfl (gs_cons (g_name 3 sc_closing.nd) (gs_cons (g_name 4 sc_closing.nd) (gs_nil))) (sCons_len (sCons_len (sNil_len)))) (b_forget [3, 4, 5] (b_one (s_if (t_w (w_and (t_cmp (v_eq hr.units) (e_var 3) (e_ix hr.units (e_var 1) (e_neg (e_int)))) (w_and (t_cmp (v_gt) (e_var 4) (e_ix hr.units (e_var 1) (e_int))) (w_and1 (t_cmp (v_notin hr.units) (e_var 4) (e_var 1)))))) (b_cons (s_set 5 sc_closing.nd (e_call hF hr T.g_closing T.n_closing.kp T.b_closing (a_cons (e_var 0) (a_cons (e_opT v_add (e_var 1) (e_lst (a_cons (e_var 4) (a_nil)))) (a_cons (e_var 2) (a_nil)))))) (b_one (s_if (t_cmp (v_notN) (e_var 5) (e_non)) (b_one (s_retv 5)) (b_nil)))) (b_nil))))) (b_one (s_ret (e_non))))
theorem ok_closing (T : Txt w K mg f_transactions_of f_without_aborted f_do_conflict f_conflict_graph f_order_of f_closing f_ring_in f_serial_order f_ring_of f__law_cell f__law_draw f__law_schedule f__law_kept f__law_numbers f__law_clash f__law_graph f__law_order f__law_ring f_law d_transactions_of d_without_aborted d_do_conflict d_conflict_graph d_order_of d_closing d_ring_in d_serial_order d_ring_of d__law_cell d__law_draw d__law_schedule d__law_kept d__law_numbers d__law_clash d__law_graph d__law_order d__law_ring d_law) : FnOk P w K mg base (L2.CX P w) 9 f_closing d_closing ["pairs", "row", "size"] (spF K 3 F_closing) := okr_closing T 9
def b_ring_in_1 : FS := gForget [6, 7] (gSeq (gSet 7 (fCall F_closing (fCons (fVar 1) (fCons (fLst (fCons (fVar 6) (fNil))) (fCons (fVar 3) (fNil)))))) (gIf (fB (fOp dNotN (fVar 7) (fC .none))) (gRetV 7) (gNext)))
def b_ring_in_2 : FS := gForget [3, 6, 7] (gFz 2 (gFor (fIter (fVar 2) (seqOf false)) (sName 6) (b_ring_in_1)))
def b_ring_in_3 : FS := gForget [4, 5] (gIf (fB (fOp (dIn true) (fVar 4) (fVar 2))) (gApp 2 (fVar 4)) (gNext))
def g_ring_in : FS := gSeq (gSet 1 (fBlt dSorted (fCons (fVar 0) (fNil)))) (gSeq (gOwn 2 (fLst (fNil))) (gSeq (gFor (fIter (fVar 1) (seqOf false)) (sTup (sCons (sName 4) (sCons (sName 5) (sNil)))) (b_ring_in_3)) (gSeq (gFor (fRng2 (fCons (fC (.int 2)) (fCons (fOp dAdd (fBlt dLen (fCons (fVar 2) (fNil))) (fC (.int 1))) (fNil)))) (sName 3) (b_ring_in_2)) (gRet (fC .none)))))
def F_ring_in : List D → Rs R := fnR 8 g_ring_in
theorem ok_ring_in (T : Txt w K mg f_transactions_of f_without_aborted f_do_conflict f_conflict_graph f_order_of f_closing f_ring_in f_serial_order f_ring_of f__law_cell f__law_draw f__law_schedule f__law_kept f__law_numbers f__law_clash f__law_graph f__law_order f__law_ring f_law d_transactions_of d_without_aborted d_do_conflict d_conflict_graph d_order_of d_closing d_ring_in d_serial_order d_ring_of d__law_cell d__law_draw d__law_schedule d__law_kept d__law_numbers d__law_clash d__law_graph d__law_order d__law_ring d_law) : FnOk P w K mg base (L2.CX P w) 10 f_ring_in d_ring_in ["pairs"] (spF K 1 F_ring_in) := by
  unfold F_ring_in g_ring_in
  exact fn_ok rfl rfl T.n_ring_in sc_ring_in fun cdv A outer s H E hr L => b_cons (s_set 1 sc_ring_in.nd (e_blt (c_sorted hr.units) T.m_sorted (by decide +kernel) (a_cons (e_var 0) (a_nil)))) (b_cons (s_own 2 sc_ring_in.nd (e_lst (a_nil))) (b_cons (s_for L.po L.calm (i_seq (e_var 1)) (g_tup rfl (gs_cons (g_name 4 sc_ring_in.nd) (gs_cons (g_name 5 sc_ring_in.nd) (gs_nil))) (sCons_len (sCons_len (sNil_len)))) (b_forget [4, 5] (b_one (s_if (t_cmp (v_notin hr.units) (e_var 4) (e_var 2)) (b_one (s_app 2 (e_var 4))) (b_nil))))) (b_cons (s_for L.po L.calm (i_range2 T.m_range (a_cons (e_int) (a_cons (e_opT v_add (e_blt c_len T.m_len PySem.boot_len (a_cons (e_var 2) (a_nil))) (e_int)) (a_nil)))) (g_name 3 sc_ring_in.nd) (b_forget [3, 6, 7] (b_one (s_fz 2 (s_for L.po L.calm (i_seq (e_var 2)) (g_name 6 sc_ring_in.nd) (b_forget [6, 7] (b_cons (s_set 7 sc_ring_in.nd (e_call ((ok_closing T).mono (by decide)) hr T.g_closing T.n_closing.kp T.b_closing (a_cons (e_var 1) (a_cons (e_lst (a_cons (e_var 6) (a_nil))) (a_cons (e_var 3) (a_nil)))))) (b_one (s_if (t_cmp (v_notN) (e_var 7) (e_non)) (b_one (s_retv 7)) (b_nil)))))))))) (b_one (s_ret (e_non))))))
def g_serial_order : FS := gRet (fCall F_order_of (fCons (fCall F_transactions_of (fCons (fCall F_without_aborted (fCons (fVar 0) (fNil))) (fNil))) (fCons (fCall F_conflict_graph (fCons (fVar 0) (fNil))) (fNil))))
def F_serial_order : List D → Rs R := fnR 1 g_serial_order
theorem ok_serial_order (T : Txt w K mg f_transactions_of f_without_aborted f_do_conflict f_conflict_graph f_order_of f_closing f_ring_in f_serial_order f_ring_of f__law_cell f__law_draw f__law_schedule f__law_kept f__law_numbers f__law_clash f__law_graph f__law_order f__law_ring f_law d_transactions_of d_without_aborted d_do_conflict d_conflict_graph d_order_of d_closing d_ring_in d_serial_order d_ring_of d__law_cell d__law_draw d__law_schedule d__law_kept d__law_numbers d__law_clash d__law_graph d__law_order d__law_ring d_law) : FnOk P w K mg base (L2.CX P w) 3 f_serial_order d_serial_order ["schedule"] (spF K 1 F_serial_order) := by
  unfold F_serial_order g_serial_order
  exact fn_ok rfl rfl T.n_serial_order sc_serial_order fun cdv A outer s H E hr L => b_one (s_ret (e_call ((ok_order_of T).mono (by decide)) hr T.g_order_of T.n_order_of.kp T.b_order_of (a_cons (e_call ((ok_transactions_of T).mono (by decide)) hr T.g_transactions_of T.n_transactions_of.kp T.b_transactions_of (a_cons (e_call ((ok_without_aborted T).mono (by decide)) hr T.g_without_aborted T.n_without_aborted.kp T.b_without_aborted (a_cons (e_var 0) (a_nil))) (a_nil))) (a_cons (e_call ((ok_conflict_graph T).mono (by decide)) hr T.g_conflict_graph T.n_conflict_graph.kp T.b_conflict_graph (a_cons (e_var 0) (a_nil))) (a_nil)))))
def g_ring_of : FS := gRet (fCall F_ring_in (fCons (fCall F_conflict_graph (fCons (fVar 0) (fNil))) (fNil)))
def F_ring_of : List D → Rs R := fnR 1 g_ring_of
theorem ok_ring_of (T : Txt w K mg f_transactions_of f_without_aborted f_do_conflict f_conflict_graph f_order_of f_closing f_ring_in f_serial_order f_ring_of f__law_cell f__law_draw f__law_schedule f__law_kept f__law_numbers f__law_clash f__law_graph f__law_order f__law_ring f_law d_transactions_of d_without_aborted d_do_conflict d_conflict_graph d_order_of d_closing d_ring_in d_serial_order d_ring_of d__law_cell d__law_draw d__law_schedule d__law_kept d__law_numbers d__law_clash d__law_graph d__law_order d__law_ring d_law) : FnOk P w K mg base (L2.CX P w) 11 f_ring_of d_ring_of ["schedule"] (spF K 1 F_ring_of) := by
  unfold F_ring_of g_ring_of
  exact fn_ok rfl rfl T.n_ring_of sc_ring_of fun cdv A outer s H E hr L => b_one (s_ret (e_call ((ok_ring_in T).mono (by decide)) hr T.g_ring_in T.n_ring_in.kp T.b_ring_in (a_cons (e_call ((ok_conflict_graph T).mono (by decide)) hr T.g_conflict_graph T.n_conflict_graph.kp T.b_conflict_graph (a_cons (e_var 0) (a_nil))) (a_nil))))
def g__law_cell : FS := gSeq (gIf (fB (fOp dLt (fVar 1) (fBlt dLen (fCons (fVar 0) (fNil))))) (gRet (fOp dIx (fVar 0) (fVar 1))) (gNext)) (gRet (fC (.int 0)))
def F__law_cell : List D → Rs R := fnR 2 g__law_cell
theorem ok__law_cell (T : Txt w K mg f_transactions_of f_without_aborted f_do_conflict f_conflict_graph f_order_of f_closing f_ring_in f_serial_order f_ring_of f__law_cell f__law_draw f__law_schedule f__law_kept f__law_numbers f__law_clash f__law_graph f__law_order f__law_ring f_law d_transactions_of d_without_aborted d_do_conflict d_conflict_graph d_order_of d_closing d_ring_in d_serial_order d_ring_of d__law_cell d__law_draw d__law_schedule d__law_kept d__law_numbers d__law_clash d__law_graph d__law_order d__law_ring d_law) : FnOk P w K mg base (L2.CX P w) 1 f__law_cell d__law_cell ["_law_script", "_law_k"] (spF K 2 F__law_cell) := by
  unfold F__law_cell g__law_cell
  exact fn_ok rfl rfl T.n__law_cell sc__law_cell fun cdv A outer s H E hr L => b_cons (s_if (t_cmp (v_lt) (e_var 1) (e_blt c_len T.m_len PySem.boot_len (a_cons (e_var 0) (a_nil)))) (b_one (s_ret (e_ix hr.units (e_var 0) (e_var 1)))) (b_nil)) (b_one (s_ret (e_int)))
def g__law_draw : FS := gSeq (gSet 3 (fCall F__law_cell (fCons (fVar 0) (fCons (fVar 1) (fNil))))) (gSeq (gIf (fB (fOp dLt (fVar 3) (fC (.int 0)))) (gSet 3 (fNeg (fVar 3))) (gNext)) (gSeq (gOwn 4 (fLst (fNil))) (gSeq (gIf (fB (fOp dGe (fVar 3) (fOp dPow (fC (.int 10)) (fC (.int 18))))) (gSeq (gSet 3 (fOp dSub (fVar 3) (fOp dPow (fC (.int 10)) (fC (.int 18))))) (gSeq (gFor (fIter (fVar 2) (listOf' false)) (sName 7) (gForget [7] (gSeq (gApp 4 (fOp dMod (fVar 3) (fVar 7))) (gSet 3 (fOp dDiv (fVar 3) (fVar 7)))))) (gRetV 4))) (gNext)) (gSeq (gSet 5 (fOp dMod (fOp dAdd (fOp dAdd (fVar 3) (fC (.int 1))) (fOp dMul (fC (.int 31)) (fVar 1))) (fC (.int 2147483647)))) (gSeq (gFor (fRng1 (fCons (fBlt dLen (fCons (fVar 2) (fNil))) (fNil))) (sName 6) (gForget [6] (gSeq (gSet 5 (fOp dMod (fOp dAdd (fOp dAdd (fOp dMul (fVar 5) (fC (.int 48271))) (fC (.int 11))) (fVar 6)) (fC (.int 2147483647)))) (gSeq (gSet 5 (fOp dMod (fOp dAdd (fOp dMul (fVar 5) (fC (.int 69621))) (fC (.int 3))) (fC (.int 2147483647)))) (gApp 4 (fOp dMod (fOp dDiv (fVar 5) (fC (.int 7))) (fOp dIx (fVar 2) (fVar 6)))))))) (gRetV 4))))))
def F__law_draw : List D → Rs R := fnR 8 g__law_draw
theorem ok__law_draw (T : Txt w K mg f_transactions_of f_without_aborted f_do_conflict f_conflict_graph f_order_of f_closing f_ring_in f_serial_order f_ring_of f__law_cell f__law_draw f__law_schedule f__law_kept f__law_numbers f__law_clash f__law_graph f__law_order f__law_ring f_law d_transactions_of d_without_aborted d_do_conflict d_conflict_graph d_order_of d_closing d_ring_in d_serial_order d_ring_of d__law_cell d__law_draw d__law_schedule d__law_kept d__law_numbers d__law_clash d__law_graph d__law_order d__law_ring d_law) : FnOk P w K mg base (L2.CX P w) 2 f__law_draw d__law_draw ["_law_script", "_law_k", "_law_sizes"] (spF K 3 F__law_draw) := by
  unfold F__law_draw g__law_draw
  exact fn_ok rfl rfl T.n__law_draw sc__law_draw fun cdv A outer s H E hr L => b_cons (s_set 3 sc__law_draw.nd (e_call ((ok__law_cell T).mono (by decide)) hr T.g__law_cell T.n__law_cell.kp T.b__law_cell (a_cons (e_var 0) (a_cons (e_var 1) (a_nil))))) (b_cons (s_if (t_cmp (v_lt) (e_var 3) (e_int)) (b_one (s_set 3 sc__law_draw.nd (e_neg (e_var 3)))) (b_nil)) (b_cons (s_own 4 sc__law_draw.nd (e_lst (a_nil))) (b_cons (s_if (t_cmp (v_ge) (e_var 3) (e_op v_pow (e_int) (e_int))) (b_cons (s_set 3 sc__law_draw.nd (e_op v_sub (e_var 3) (e_op v_pow (e_int) (e_int)))) (b_cons (s_for L.po L.calm (i_list (e_var 2)) (g_name 7 sc__law_draw.nd) (b_forget [7] (b_cons (s_app 4 (e_op v_mod (e_var 3) (e_var 7))) (b_one (s_set 3 sc__law_draw.nd (e_op v_div (e_var 3) (e_var 7))))))) (b_one (s_retv 4)))) (b_nil)) (b_cons (s_set 5 sc__law_draw.nd (e_op v_mod (e_opT v_add (e_opT v_add (e_var 3) (e_int)) (e_op v_mul (e_int) (e_var 1))) (e_int))) (b_cons (s_for L.po L.calm (i_range1 T.m_range (a_cons (e_blt c_len T.m_len PySem.boot_len (a_cons (e_var 2) (a_nil))) (a_nil))) (g_name 6 sc__law_draw.nd) (b_forget [6] (b_cons (s_set 5 sc__law_draw.nd (e_op v_mod (e_opT v_add (e_opT v_add (e_op v_mul (e_var 5) (e_int)) (e_int)) (e_var 6)) (e_int))) (b_cons (s_set 5 sc__law_draw.nd (e_op v_mod (e_opT v_add (e_op v_mul (e_var 5) (e_int)) (e_int)) (e_int))) (b_one (s_app 4 (e_op v_mod (e_op v_div (e_var 5) (e_int)) (e_ix hr.units (e_var 2) (e_var 6))))))))) (b_one (s_retv 4)))))))
def b__law_schedule_1 : FS := gForget [5, 6, 7, 8] (gSeq (gSet 6 (fSl (fCall F__law_draw (fCons (fVar 0) (fCons (fOp dAdd (fOp dAdd (fVar 1) (fC (.int 1))) (fOp dDiv (fVar 5) (fC (.int 14)))) (fCons (fRep (fLst (fCons (fC (.int 5)) (fCons (fC (.int 11)) (fCons (fC (.int 3)) (fNil))))) (fC (.int 14))) (fNil))))) (fP (fOp dMul (fC (.int 3)) (fOp dMod (fVar 5) (fC (.int 14))))) (fNoP))) (gSeq (gSet 7 (fOp dAdd (fC (.int 1)) (fOp dMod (fOp dIx (fVar 6) (fC (.int 0))) (fOp dAdd (fC (.int 2)) (fOp dIx (fVar 2) (fC (.int 1))))))) (gSeq (gIf (fB (fOp (dIn false) (fVar 7) (fVar 4))) (gCont) (gNext)) (gSeq (gSet 8 (fOp dIx (fC (.str "xyz")) (fOp dMod (fOp dIx (fVar 6) (fC (.int 2))) (fOp dAdd (fC (.int 1)) (fOp dIx (fVar 2) (fC (.int 2))))))) (gIf (fB (fOp dLt (fOp dIx (fVar 6) (fC (.int 1))) (fC (.int 5)))) (gApp 3 (fTup (fCons (fC (.str "read")) (fCons (fVar 7) (fCons (fVar 8) (fNil)))))) (gIf (fB (fOp dLt (fOp dIx (fVar 6) (fC (.int 1))) (fC (.int 9)))) (gApp 3 (fTup (fCons (fC (.str "write")) (fCons (fVar 7) (fCons (fVar 8) (fNil)))))) (gSeq (gApp 3 (fTup (fCons (fOp dIx (fLst (fCons (fC (.str "commit")) (fCons (fC (.str "abort")) (fNil)))) (fOp dSub (fOp dIx (fVar 6) (fC (.int 1))) (fC (.int 9)))) (fCons (fVar 7) (fNil))))) (gApp 4 (fVar 7)))))))))
def g__law_schedule : FS := gSeq (gSet 2 (fCall F__law_draw (fCons (fVar 0) (fCons (fVar 1) (fCons (fLst (fCons (fC (.int 14)) (fCons (fC (.int 4)) (fCons (fC (.int 3)) (fNil))))) (fNil)))))) (gSeq (gOwn 3 (fLst (fNil))) (gSeq (gOwn 4 (fLst (fNil))) (gSeq (gFor (fRng1 (fCons (fOp dMul (fC (.int 2)) (fOp dIx (fVar 2) (fC (.int 0)))) (fNil))) (sName 5) (b__law_schedule_1)) (gRetV 3))))
def F__law_schedule : List D → Rs R := fnR 9 g__law_schedule
theorem ok__law_schedule (T : Txt w K mg f_transactions_of f_without_aborted f_do_conflict f_conflict_graph f_order_of f_closing f_ring_in f_serial_order f_ring_of f__law_cell f__law_draw f__law_schedule f__law_kept f__law_numbers f__law_clash f__law_graph f__law_order f__law_ring f_law d_transactions_of d_without_aborted d_do_conflict d_conflict_graph d_order_of d_closing d_ring_in d_serial_order d_ring_of d__law_cell d__law_draw d__law_schedule d__law_kept d__law_numbers d__law_clash d__law_graph d__law_order d__law_ring d_law) : FnOk P w K mg base (L2.CX P w) 3 f__law_schedule d__law_schedule ["_law_script", "_law_k"] (spF K 2 F__law_schedule) := by
  unfold F__law_schedule g__law_schedule
  exact fn_ok rfl rfl T.n__law_schedule sc__law_schedule fun cdv A outer s H E hr L => b_cons (s_set 2 sc__law_schedule.nd (e_call ((ok__law_draw T).mono (by decide)) hr T.g__law_draw T.n__law_draw.kp T.b__law_draw (a_cons (e_var 0) (a_cons (e_var 1) (a_cons (e_lst (a_cons (e_int) (a_cons (e_int) (a_cons (e_int) (a_nil))))) (a_nil)))))) (b_cons (s_own 3 sc__law_schedule.nd (e_lst (a_nil))) (b_cons (s_own 4 sc__law_schedule.nd (e_lst (a_nil))) (b_cons (s_for L.po L.calm (i_range1 T.m_range (a_cons (e_op v_mul (e_int) (e_ix hr.units (e_var 2) (e_int))) (a_nil))) (g_name 5 sc__law_schedule.nd) (b_forget [5, 6, 7, 8] (b_cons (s_set 6 sc__law_schedule.nd (e_slice (e_call ((ok__law_draw T).mono (by decide)) hr T.g__law_draw T.n__law_draw.kp T.b__law_draw (a_cons (e_var 0) (a_cons (e_opT v_add (e_opT v_add (e_var 1) (e_int)) (e_op v_div (e_var 5) (e_int))) (a_cons (e_rep (e_lst (a_cons (e_int) (a_cons (e_int) (a_cons (e_int) (a_nil))))) (e_int)) (a_nil))))) (o_some (e_op v_mul (e_int) (e_op v_mod (e_var 5) (e_int)))) (o_none))) (b_cons (s_set 7 sc__law_schedule.nd (e_opT v_add (e_int) (e_op v_mod (e_ix hr.units (e_var 6) (e_int)) (e_opT v_add (e_int) (e_ix hr.units (e_var 2) (e_int)))))) (b_cons (s_if (t_cmp (v_in hr.units) (e_var 7) (e_var 4)) (b_one (s_continue)) (b_nil)) (b_cons (s_set 8 sc__law_schedule.nd (e_ix hr.units (e_str) (e_op v_mod (e_ix hr.units (e_var 6) (e_int)) (e_opT v_add (e_int) (e_ix hr.units (e_var 2) (e_int)))))) (b_one (s_if (t_cmp (v_lt) (e_ix hr.units (e_var 6) (e_int)) (e_int)) (b_one (s_app 3 (e_tup (a_cons (e_str) (a_cons (e_var 7) (a_cons (e_var 8) (a_nil))))))) (b_one (s_if (t_cmp (v_lt) (e_ix hr.units (e_var 6) (e_int)) (e_int)) (b_one (s_app 3 (e_tup (a_cons (e_str) (a_cons (e_var 7) (a_cons (e_var 8) (a_nil))))))) (b_cons (s_app 3 (e_tup (a_cons (e_ix hr.units (e_lst (a_cons (e_str) (a_cons (e_str) (a_nil)))) (e_op v_sub (e_ix hr.units (e_var 6) (e_int)) (e_int))) (a_cons (e_var 7) (a_nil))))) (b_one (s_app 4 (e_var 7)))))))))))))) (b_one (s_retv 3)))))
def g__law_kept : FS := gSeq (gSet 1 (fLc (fIter (fVar 0) (seqOf true)) (sName 2) (fB (fOp dEq (fOp dIx (fVar 2) (fC (.int 0))) (fC (.str "abort")))) (fOp dIx (fVar 2) (fC (.int 1))) [2])) (gRet (fLc (fIter (fVar 0) (seqOf true)) (sName 2) (fB (fOp (dIn true) (fOp dIx (fVar 2) (fC (.int 1))) (fVar 1))) (fVar 2) [2]))
def F__law_kept : List D → Rs R := fnR 3 g__law_kept
theorem ok__law_kept (T : Txt w K mg f_transactions_of f_without_aborted f_do_conflict f_conflict_graph f_order_of f_closing f_ring_in f_serial_order f_ring_of f__law_cell f__law_draw f__law_schedule f__law_kept f__law_numbers f__law_clash f__law_graph f__law_order f__law_ring f_law d_transactions_of d_without_aborted d_do_conflict d_conflict_graph d_order_of d_closing d_ring_in d_serial_order d_ring_of d__law_cell d__law_draw d__law_schedule d__law_kept d__law_numbers d__law_clash d__law_graph d__law_order d__law_ring d_law) : FnOk P w K mg base (L2.CX P w) 1 f__law_kept d__law_kept ["_law_schedule_here"] (spF K 1 F__law_kept) := by
  unfold F__law_kept g__law_kept
  exact fn_ok rfl rfl T.n__law_kept sc__law_kept fun cdv A outer s H E hr L => b_cons (s_set 1 sc__law_kept.nd (e_lc (own' := [("_law_op", 2)]) rfl sc__law_kept.nd (i_seq (e_var 0)) (blkOk_by (N := N__law_kept) (sc := defScope s__law_kept) (by decide +kernel)) (fun _ _ _ _ _ => g_name 2 sc__law_kept.nd) (fun _ _ _ _ _ => ts_one (t_cmp (v_eq hr.units) (e_ix hr.units (e_var 2) (e_int)) (e_str))) (fun _ _ _ _ _ => e_ix hr.units (e_var 2) (e_int)))) (b_one (s_ret (e_lc (own' := [("_law_op", 2)]) rfl sc__law_kept.nd (i_seq (e_var 0)) (blkOk_by (N := N__law_kept) (sc := defScope s__law_kept) (by decide +kernel)) (fun _ _ _ _ _ => g_name 2 sc__law_kept.nd) (fun _ _ _ _ _ => ts_one (t_cmp (v_notin hr.units) (e_ix hr.units (e_var 2) (e_int)) (e_var 1))) (fun _ _ _ _ _ => e_var 2))))
def b__law_numbers_1 : FS := gForget [2] (gIf (fB (fOp (dIn true) (fOp dIx (fVar 2) (fC (.int 1))) (fVar 1))) (gApp 1 (fOp dIx (fVar 2) (fC (.int 1)))) (gNext))
def g__law_numbers : FS := gSeq (gOwn 1 (fLst (fNil))) (gSeq (gFor (fIter (fVar 0) (seqOf false)) (sName 2) (b__law_numbers_1)) (gRet (fBlt dSorted (fCons (fVar 1) (fNil)))))
def F__law_numbers : List D → Rs R := fnR 3 g__law_numbers
theorem ok__law_numbers (T : Txt w K mg f_transactions_of f_without_aborted f_do_conflict f_conflict_graph f_order_of f_closing f_ring_in f_serial_order f_ring_of f__law_cell f__law_draw f__law_schedule f__law_kept f__law_numbers f__law_clash f__law_graph f__law_order f__law_ring f_law d_transactions_of d_without_aborted d_do_conflict d_conflict_graph d_order_of d_closing d_ring_in d_serial_order d_ring_of d__law_cell d__law_draw d__law_schedule d__law_kept d__law_numbers d__law_clash d__law_graph d__law_order d__law_ring d_law) : FnOk P w K mg base (L2.CX P w) 1 f__law_numbers d__law_numbers ["_law_schedule_here"] (spF K 1 F__law_numbers) := by
  unfold F__law_numbers g__law_numbers
  exact fn_ok rfl rfl T.n__law_numbers sc__law_numbers fun cdv A outer s H E hr L => b_cons (s_own 1 sc__law_numbers.nd (e_lst (a_nil))) (b_cons (s_for L.po L.calm (i_seq (e_var 0)) (g_name 2 sc__law_numbers.nd) (b_forget [2] (b_one (s_if (t_cmp (v_notin hr.units) (e_ix hr.units (e_var 2) (e_int)) (e_var 1)) (b_one (s_app 1 (e_ix hr.units (e_var 2) (e_int)))) (b_nil))))) (b_one (s_ret (e_blt (c_sorted hr.units) T.m_sorted (by decide +kernel) (a_cons (e_var 1) (a_nil))))))
def g__law_clash : FS := gSeq (gIf (tOrB (fB (fOp dLt (fBlt dLen (fCons (fVar 0) (fNil))) (fC (.int 3)))) (tOrB (fB (fOp dLt (fBlt dLen (fCons (fVar 1) (fNil))) (fC (.int 3)))) (tOrB (fB (fOp dEq (fOp dIx (fVar 0) (fC (.int 1))) (fOp dIx (fVar 1) (fC (.int 1))))) (fB (fOp dNe (fOp dIx (fVar 0) (fC (.int 2))) (fOp dIx (fVar 1) (fC (.int 2)))))))) (gRet (fC (.bool false))) (gNext)) (gRet (fOr (fOp dEq (fOp dIx (fVar 0) (fC (.int 0))) (fC (.str "write"))) (fOp dEq (fOp dIx (fVar 1) (fC (.int 0))) (fC (.str "write")))))
def F__law_clash : List D → Rs R := fnR 2 g__law_clash
theorem ok__law_clash (T : Txt w K mg f_transactions_of f_without_aborted f_do_conflict f_conflict_graph f_order_of f_closing f_ring_in f_serial_order f_ring_of f__law_cell f__law_draw f__law_schedule f__law_kept f__law_numbers f__law_clash f__law_graph f__law_order f__law_ring f_law d_transactions_of d_without_aborted d_do_conflict d_conflict_graph d_order_of d_closing d_ring_in d_serial_order d_ring_of d__law_cell d__law_draw d__law_schedule d__law_kept d__law_numbers d__law_clash d__law_graph d__law_order d__law_ring d_law) : FnOk P w K mg base (L2.CX P w) 1 f__law_clash d__law_clash ["_law_one", "_law_other"] (spF K 2 F__law_clash) := by
  unfold F__law_clash g__law_clash
  exact fn_ok rfl rfl T.n__law_clash sc__law_clash fun cdv A outer s H E hr L => b_cons (s_if (t_w (w_or (t_cmp (v_lt) (e_blt c_len T.m_len PySem.boot_len (a_cons (e_var 0) (a_nil))) (e_int)) (w_or (t_cmp (v_lt) (e_blt c_len T.m_len PySem.boot_len (a_cons (e_var 1) (a_nil))) (e_int)) (w_or (t_cmp (v_eq hr.units) (e_ix hr.units (e_var 0) (e_int)) (e_ix hr.units (e_var 1) (e_int))) (w_or1 (t_cmp (v_ne hr.units) (e_ix hr.units (e_var 0) (e_int)) (e_ix hr.units (e_var 1) (e_int)))))))) (b_one (s_ret (e_bl))) (b_nil)) (b_one (s_ret (e_or (e_cmp (v_eq hr.units) (e_ix hr.units (e_var 0) (e_int)) (e_str)) (e_one (e_cmp (v_eq hr.units) (e_ix hr.units (e_var 1) (e_int)) (e_str))))))
def b__law_graph_1 : FS := gForget [4, 5] (gSeq (gSet 5 (fTup (fCons (fOp dIx (fOp dIx (fVar 1) (fVar 4)) (fC (.int 1))) (fCons (fOp dIx (fOp dIx (fVar 1) (fVar 3)) (fC (.int 1))) (fNil))))) (gIf (tAndB (fTr (fCall F__law_clash (fCons (fOp dIx (fVar 1) (fVar 4)) (fCons (fOp dIx (fVar 1) (fVar 3)) (fNil))))) (fB (fOp (dIn true) (fVar 5) (fVar 2)))) (gApp 2 (fVar 5)) (gNext)))
def b__law_graph_2 : FS := gForget [3, 4, 5] (gFor (fRng1 (fCons (fVar 3) (fNil))) (sName 4) (b__law_graph_1))
def g__law_graph : FS := gSeq (gSet 1 (fCall F__law_kept (fCons (fVar 0) (fNil)))) (gSeq (gOwn 2 (fLst (fNil))) (gSeq (gFor (fRng1 (fCons (fBlt dLen (fCons (fVar 1) (fNil))) (fNil))) (sName 3) (b__law_graph_2)) (gRet (fBlt dSorted (fCons (fVar 2) (fNil))))))
def F__law_graph : List D → Rs R := fnR 6 g__law_graph
theorem ok__law_graph (T : Txt w K mg f_transactions_of f_without_aborted f_do_conflict f_conflict_graph f_order_of f_closing f_ring_in f_serial_order f_ring_of f__law_cell f__law_draw f__law_schedule f__law_kept f__law_numbers f__law_clash f__law_graph f__law_order f__law_ring f_law d_transactions_of d_without_aborted d_do_conflict d_conflict_graph d_order_of d_closing d_ring_in d_serial_order d_ring_of d__law_cell d__law_draw d__law_schedule d__law_kept d__law_numbers d__law_clash d__law_graph d__law_order d__law_ring d_law) : FnOk P w K mg base (L2.CX P w) 2 f__law_graph d__law_graph ["_law_schedule_here"] (spF K 1 F__law_graph) := by
  unfold F__law_graph g__law_graph
  exact fn_ok rfl rfl T.n__law_graph sc__law_graph fun cdv A outer s H E hr L => b_cons (s_set 1 sc__law_graph.nd (e_call ((ok__law_kept T).mono (by decide)) hr T.g__law_kept T.n__law_kept.kp T.b__law_kept (a_cons (e_var 0) (a_nil)))) (b_cons (s_own 2 sc__law_graph.nd (e_lst (a_nil))) (b_cons (s_for L.po L.calm (i_range1 T.m_range (a_cons (e_blt c_len T.m_len PySem.boot_len (a_cons (e_var 1) (a_nil))) (a_nil))) (g_name 3 sc__law_graph.nd) (b_forget [3, 4, 5] (b_one (s_for L.po L.calm (i_range1 T.m_range (a_cons (e_var 3) (a_nil))) (g_name 4 sc__law_graph.nd) (b_forget [4, 5] (b_cons (s_set 5 sc__law_graph.nd (e_tup (a_cons (e_ix hr.units (e_ix hr.units (e_var 1) (e_var 4)) (e_int)) (a_cons (e_ix hr.units (e_ix hr.units (e_var 1) (e_var 3)) (e_int)) (a_nil))))) (b_one (s_if (t_w (w_and (t_truth (e_call ((ok__law_clash T).mono (by decide)) hr T.g__law_clash T.n__law_clash.kp T.b__law_clash (a_cons (e_ix hr.units (e_var 1) (e_var 4)) (a_cons (e_ix hr.units (e_var 1) (e_var 3)) (a_nil))))) (w_and1 (t_cmp (v_notin hr.units) (e_var 5) (e_var 2))))) (b_one (s_app 2 (e_var 5))) (b_nil))))))))) (b_one (s_ret (e_blt (c_sorted hr.units) T.m_sorted (by decide +kernel) (a_cons (e_var 2) (a_nil)))))))
def b__law_order_1 : FS := gForget [4, 5] (gSeq (gSet 5 (fLc (fIter (fVar 2) (seqOf true)) (sName 6) (fB (fOp dEq (fBlt dLen (fCons (fLc (fIter (fVar 1) (seqOf true)) (sTup (sCons (sName 7) (sCons (sName 8) (sNil)))) (tAndB (fB (fOp dEq (fVar 8) (fVar 6))) (fB (fOp (dIn false) (fVar 7) (fVar 2)))) (fC (.int 1)) [7, 8]) (fNil))) (fC (.int 0)))) (fVar 6) [6])) (gSeq (gIf (fB (fOp dEq (fBlt dLen (fCons (fVar 5) (fNil))) (fC (.int 0)))) (gRet (fC .none)) (gNext)) (gSeq (gApp 3 (fOp dIx (fVar 5) (fC (.int 0)))) (gSet 2 (fLc (fIter (fVar 2) (seqOf true)) (sName 6) (fB (fOp dNe (fVar 6) (fOp dIx (fVar 5) (fC (.int 0))))) (fVar 6) [6])))))
def g__law_order : FS := gSeq (gSet 2 (fBlt dSorted (fCons (fVar 0) (fNil)))) (gSeq (gOwn 3 (fLst (fNil))) (gSeq (gFor (fRng1 (fCons (fBlt dLen (fCons (fVar 0) (fNil))) (fNil))) (sName 4) (b__law_order_1)) (gRetV 3)))
def F__law_order : List D → Rs R := fnR 9 g__law_order
theorem ok__law_order (T : Txt w K mg f_transactions_of f_without_aborted f_do_conflict f_conflict_graph f_order_of f_closing f_ring_in f_serial_order f_ring_of f__law_cell f__law_draw f__law_schedule f__law_kept f__law_numbers f__law_clash f__law_graph f__law_order f__law_ring f_law d_transactions_of d_without_aborted d_do_conflict d_conflict_graph d_order_of d_closing d_ring_in d_serial_order d_ring_of d__law_cell d__law_draw d__law_schedule d__law_kept d__law_numbers d__law_clash d__law_graph d__law_order d__law_ring d_law) : FnOk P w K mg base (L2.CX P w) 1 f__law_order d__law_order ["_law_numbers_here", "_law_pairs"] (spF K 2 F__law_order) := by
  unfold F__law_order g__law_order
  exact fn_ok rfl rfl T.n__law_order sc__law_order fun cdv A outer s H E hr L => b_cons (s_set 2 sc__law_order.nd (e_blt (c_sorted hr.units) T.m_sorted (by decide +kernel) (a_cons (e_var 0) (a_nil)))) (b_cons (s_own 3 sc__law_order.nd (e_lst (a_nil))) (b_cons (s_for L.po L.calm (i_range1 T.m_range (a_cons (e_blt c_len T.m_len PySem.boot_len (a_cons (e_var 0) (a_nil))) (a_nil))) (g_name 4 sc__law_order.nd) (b_forget [4, 5] (b_cons (s_set 5 sc__law_order.nd (e_lc (own' := [("_law_t", 6)]) rfl sc__law_order.nd (i_seq (e_var 2)) (blkOk_by (N := N__law_order) (sc := defScope s__law_order) (by decide +kernel)) (fun _ _ _ _ _ => g_name 6 sc__law_order.nd) (fun _ _ _ _ _ => ts_one (t_cmp (v_eq hr.units) (e_blt c_len T.m_len PySem.boot_len (a_cons (e_lc (own' := [("_law_u", 7), ("_law_v", 8)]) rfl sc__law_order.nd (i_seq (e_var 1)) (blkOk_by (N := N__law_order) (by rfl)) (fun _ _ _ _ _ => g_tup rfl (gs_cons (g_name 7 sc__law_order.nd) (gs_cons (g_name 8 sc__law_order.nd) (gs_nil))) (sCons_len (sCons_len (sNil_len)))) (fun _ _ _ _ _ => ts_one (t_w (w_and (t_cmp (v_eq hr.units) (e_var 8) (e_var 6)) (w_and1 (t_cmp (v_in hr.units) (e_var 7) (e_var 2)))))) (fun _ _ _ _ _ => e_int)) (a_nil))) (e_int))) (fun _ _ _ _ _ => e_var 6))) (b_cons (s_if (t_cmp (v_eq hr.units) (e_blt c_len T.m_len PySem.boot_len (a_cons (e_var 5) (a_nil))) (e_int)) (b_one (s_ret (e_non))) (b_nil)) (b_cons (s_app 3 (e_ix hr.units (e_var 5) (e_int))) (b_one (s_set 2 sc__law_order.nd (e_lc (own' := [("_law_t", 6)]) rfl sc__law_order.nd (i_seq (e_var 2)) (blkOk_by (N := N__law_order) (sc := defScope s__law_order) (by decide +kernel)) (fun _ _ _ _ _ => g_name 6 sc__law_order.nd) (fun _ _ _ _ _ => ts_one (t_cmp (v_ne hr.units) (e_var 6) (e_ix hr.units (e_var 5) (e_int)))) (fun _ _ _ _ _ => e_var 6))))))))) (b_one (s_retv 3))))
def b__law_ring_1 : FS := gForget [6, 7] (gIf (tAndB (fB (fOp dEq (fVar 6) (fOp dIx (fVar 4) (fNeg (fC (.int 1)))))) (tAndB (fB (fOp (dIn true) (fVar 7) (fVar 4))) (fB (fOp dGt (fVar 7) (fOp dIx (fVar 4) (fC (.int 0))))))) (gApp 5 (fOp dAdd (fVar 4) (fLst (fCons (fVar 7) (fNil))))) (gNext))
def b__law_ring_2 : FS := gForget [6, 7] (gFor (fIter (fVar 0) (seqOf false)) (sTup (sCons (sName 6) (sCons (sName 7) (sNil)))) (b__law_ring_1))
def b__law_ring_3 : FS := gIf (fB (fOp (dIn false) (fTup (fCons (fOp dIx (fVar 4) (fNeg (fC (.int 1)))) (fCons (fOp dIx (fVar 4) (fC (.int 0))) (fNil)))) (fVar 0))) (gRetV 4) (gNext)
def b__law_ring_4 : FS := gForget [3, 4, 5, 6, 7] (gSeq (gFz 1 (gFor (fIter (fVar 1) (seqOf false)) (sName 4) (b__law_ring_3))) (gSeq (gOwn 5 (fLst (fNil))) (gSeq (gFz 1 (gFor (fIter (fVar 1) (seqOf false)) (sName 4) (b__law_ring_2))) (gOwn 1 (fBlt dSorted (fCons (fVar 5) (fNil)))))))
def b__law_ring_5 : FS := gForget [2] (gIf (fB (fOp (dIn true) (fLst (fCons (fOp dIx (fVar 2) (fC (.int 0))) (fNil))) (fVar 1))) (gApp 1 (fLst (fCons (fOp dIx (fVar 2) (fC (.int 0))) (fNil)))) (gNext))
def g__law_ring : FS := gSeq (gOwn 1 (fLst (fNil))) (gSeq (gFor (fIter (fVar 0) (seqOf false)) (sName 2) (b__law_ring_5)) (gSeq (gOwn 1 (fBlt dSorted (fCons (fVar 1) (fNil)))) (gSeq (gFor (fRng1 (fCons (fC (.int 8)) (fNil))) (sName 3) (b__law_ring_4)) (gRet (fC .none)))))
def F__law_ring : List D → Rs R := fnR 8 g__law_ring
theorem ok__law_ring (T : Txt w K mg f_transactions_of f_without_aborted f_do_conflict f_conflict_graph f_order_of f_closing f_ring_in f_serial_order f_ring_of f__law_cell f__law_draw f__law_schedule f__law_kept f__law_numbers f__law_clash f__law_graph f__law_order f__law_ring f_law d_transactions_of d_without_aborted d_do_conflict d_conflict_graph d_order_of d_closing d_ring_in d_serial_order d_ring_of d__law_cell d__law_draw d__law_schedule d__law_kept d__law_numbers d__law_clash d__law_graph d__law_order d__law_ring d_law) : FnOk P w K mg base (L2.CX P w) 1 f__law_ring d__law_ring ["_law_pairs"] (spF K 1 F__law_ring) := by
  unfold F__law_ring g__law_ring
  exact fn_ok rfl rfl T.n__law_ring sc__law_ring fun cdv A outer s H E hr L => b_cons (s_own 1 sc__law_ring.nd (e_lst (a_nil))) (b_cons (s_for L.po L.calm (i_seq (e_var 0)) (g_name 2 sc__law_ring.nd) (b_forget [2] (b_one (s_if (t_cmp (v_notin hr.units) (e_lst (a_cons (e_ix hr.units (e_var 2) (e_int)) (a_nil))) (e_var 1)) (b_one (s_app 1 (e_lst (a_cons (e_ix hr.units (e_var 2) (e_int)) (a_nil))))) (b_nil))))) (b_cons (s_own 1 sc__law_ring.nd (e_blt (c_sorted hr.units) T.m_sorted (by decide +kernel) (a_cons (e_var 1) (a_nil)))) (b_cons (s_for L.po L.calm (i_range1 T.m_range (a_cons (e_int) (a_nil))) (g_name 3 sc__law_ring.nd) (b_forget [3, 4, 5, 6, 7] (b_cons (s_fz 1 (s_for L.po L.calm (i_seq (e_var 1)) (g_name 4 sc__law_ring.nd) (b_one (s_if (t_cmp (v_in hr.units) (e_tup (a_cons (e_ix hr.units (e_var 4) (e_neg (e_int))) (a_cons (e_ix hr.units (e_var 4) (e_int)) (a_nil)))) (e_var 0)) (b_one (s_retv 4)) (b_nil))))) (b_cons (s_own 5 sc__law_ring.nd (e_lst (a_nil))) (b_cons (s_fz 1 (s_for L.po L.calm (i_seq (e_var 1)) (g_name 4 sc__law_ring.nd) (b_forget [6, 7] (b_one (s_for L.po L.calm (i_seq (e_var 0)) (g_tup rfl (gs_cons (g_name 6 sc__law_ring.nd) (gs_cons (g_name 7 sc__law_ring.nd) (gs_nil))) (sCons_len (sCons_len (sNil_len)))) (b_forget [6, 7] (b_one (s_if (t_w (w_and (t_cmp (v_eq hr.units) (e_var 6) (e_ix hr.units (e_var 4) (e_neg (e_int)))) (w_and (t_cmp (v_notin hr.units) (e_var 7) (e_var 4)) (w_and1 (t_cmp (v_gt) (e_var 7) (e_ix hr.units (e_var 4) (e_int))))))) (b_one (s_app 5 (e_opT v_add (e_var 4) (e_lst (a_cons (e_var 7) (a_nil)))))) (b_nil))))))))) (b_one (s_own 1 sc__law_ring.nd (e_blt (c_sorted hr.units) T.m_sorted (by decide +kernel) (a_cons (e_var 5) (a_nil)))))))))) (b_one (s_ret (e_non))))))
def b_law_1 : FS := gForget [6, 11] (gSeq (gSet 11 (fTup (fCons (fOp dIx (fVar 4) (fOp dMod (fOp dIx (fVar 3) (fOp dMul (fC (.int 2)) (fVar 6))) (fBlt dLen (fCons (fVar 4) (fNil))))) (fCons (fOp dIx (fVar 4) (fOp dMod (fOp dIx (fVar 3) (fOp dAdd (fOp dMul (fC (.int 2)) (fVar 6)) (fC (.int 1)))) (fBlt dLen (fCons (fVar 4) (fNil))))) (fNil))))) (gSeq (gIf (tAndB (fB (fOp dEq (fOp dIx (fVar 2) (fC (.int 2))) (fC (.int 0)))) (fB (fOp dGt (fOp dIx (fVar 11) (fC (.int 0))) (fOp dIx (fVar 11) (fC (.int 1)))))) (gSet 11 (fTup (fCons (fOp dIx (fVar 11) (fC (.int 1))) (fCons (fOp dIx (fVar 11) (fC (.int 0))) (fNil))))) (gNext)) (gIf (fB (fOp dNe (fOp dIx (fVar 11) (fC (.int 0))) (fOp dIx (fVar 11) (fC (.int 1))))) (gApp 5 (fVar 11)) (gNext))))
def b_law_2 : FS := gForget [1, 2, 3, 4, 5, 6, 7, 8, 9, 10, 11] (gSeq (gSet 2 (fCall F__law_draw (fCons (fVar 0) (fCons (fOp dMul (fC (.int 4)) (fVar 1)) (fCons (fLst (fCons (fC (.int 8)) (fCons (fC (.int 21)) (fCons (fC (.int 3)) (fNil))))) (fNil)))))) (gSeq (gSet 3 (fCall F__law_draw (fCons (fVar 0) (fCons (fOp dAdd (fOp dMul (fC (.int 4)) (fVar 1)) (fC (.int 1))) (fCons (fRep (fLst (fCons (fC (.int 8)) (fCons (fC (.int 8)) (fNil)))) (fC (.int 20))) (fNil)))))) (gSeq (gSet 4 (fLR2 (fC (.int 1)) (fOp dAdd (fC (.int 2)) (fOp dIx (fVar 2) (fC (.int 0)))))) (gSeq (gIf (fB (fOp dEq (fOp dIx (fVar 2) (fC (.int 2))) (fC (.int 1)))) (gSet 4 (fSl (fLst (fCons (fC (.int 4)) (fCons (fC (.int 1)) (fCons (fNeg (fC (.int 2))) (fCons (fC (.int 0)) (fCons (fC (.int 9)) (fCons (fC (.int 7)) (fCons (fC (.int 12)) (fCons (fC (.int 5)) (fNil)))))))))) (fNoP) (fP (fOp dAdd (fC (.int 1)) (fOp dIx (fVar 2) (fC (.int 0))))))) (gNext)) (gSeq (gOwn 5 (fLst (fNil))) (gSeq (gFor (fRng1 (fCons (fOp dIx (fVar 2) (fC (.int 1))) (fNil))) (sName 6) (b_law_1)) (gSeq (gSet 7 (fCall F__law_order (fCons (fVar 4) (fCons (fVar 5) (fNil))))) (gSeq (gSet 8 (fTup (fCons (fBlt dListOf (fCons (fVar 4) (fNil))) (fCons (fBlt dListOf (fCons (fVar 5) (fNil))) (fNil))))) (gSeq (gFz 5 (gIf (tOrB (fB (fOp dNe (fCall F_order_of (fCons (fOp dIx (fVar 8) (fC (.int 0))) (fCons (fOp dIx (fVar 8) (fC (.int 1))) (fNil)))) (fVar 7))) (tOrB (fB (fOp dNe (fCall F_ring_in (fCons (fOp dIx (fVar 8) (fC (.int 1))) (fNil))) (fCall F__law_ring (fCons (fVar 5) (fNil))))) (fB (fOp dNe (fVar 8) (fTup (fCons (fVar 4) (fCons (fVar 5) (fNil)))))))) (gRet (fC (.bool false))) (gNext))) (gSeq (gIf (fB (fOp dNe (fOp dIsN (fVar 7) (fC .none)) (fOp dNotN (fCall F__law_ring (fCons (fVar 5) (fNil))) (fC .none)))) (gRet (fC (.bool false))) (gNext)) (gSeq (gSet 9 (fCall F__law_schedule (fCons (fVar 0) (fCons (fOp dAdd (fOp dMul (fC (.int 4)) (fVar 1)) (fC (.int 2))) (fNil))))) (gSeq (gSet 10 (fCall F__law_graph (fCons (fVar 9) (fNil)))) (gIf (tOrB (fB (fOp dNe (fCall F_serial_order (fCons (fVar 9) (fNil))) (fCall F__law_order (fCons (fCall F__law_numbers (fCons (fCall F__law_kept (fCons (fVar 9) (fNil))) (fNil))) (fCons (fVar 10) (fNil)))))) (fB (fOp dNe (fCall F_ring_of (fCons (fVar 9) (fNil))) (fCall F__law_ring (fCons (fVar 10) (fNil)))))) (gRet (fC (.bool false))) (gNext))))))))))))))
def g_law : FS := gSeq (gFor (fRng1 (fCons (fBlt dMin2 (fCons (fC (.int 6)) (fCons (fOp dAdd (fC (.int 1)) (fOp dDiv (fBlt dLen (fCons (fVar 0) (fNil))) (fC (.int 4)))) (fNil)))) (fNil))) (sName 1) (b_law_2)) (gRet (fC (.bool true)))
def F_law : List D → Rs R := fnR 12 g_law
theorem ok_law (T : Txt w K mg f_transactions_of f_without_aborted f_do_conflict f_conflict_graph f_order_of f_closing f_ring_in f_serial_order f_ring_of f__law_cell f__law_draw f__law_schedule f__law_kept f__law_numbers f__law_clash f__law_graph f__law_order f__law_ring f_law d_transactions_of d_without_aborted d_do_conflict d_conflict_graph d_order_of d_closing d_ring_in d_serial_order d_ring_of d__law_cell d__law_draw d__law_schedule d__law_kept d__law_numbers d__law_clash d__law_graph d__law_order d__law_ring d_law) : FnOk P w K mg base (L2.CX P w) 12 f_law d_law ["_law_script"] (spF K 1 F_law) := by
  unfold F_law g_law
  exact fn_ok rfl rfl T.n_law sc_law fun cdv A outer s H E hr L => b_cons (s_for L.po L.calm (i_range1 T.m_range (a_cons (e_blt (c_min2 rfl) T.m_min (by decide +kernel) (a_cons (e_int) (a_cons (e_opT v_add (e_int) (e_op v_div (e_blt c_len T.m_len PySem.boot_len (a_cons (e_var 0) (a_nil))) (e_int))) (a_nil)))) (a_nil))) (g_name 1 sc_law.nd) (b_forget [1, 2, 3, 4, 5, 6, 7, 8, 9, 10, 11] (b_cons (s_set 2 sc_law.nd (e_call ((ok__law_draw T).mono (by decide)) hr T.g__law_draw T.n__law_draw.kp T.b__law_draw (a_cons (e_var 0) (a_cons (e_op v_mul (e_int) (e_var 1)) (a_cons (e_lst (a_cons (e_int) (a_cons (e_int) (a_cons (e_int) (a_nil))))) (a_nil)))))) (b_cons (s_set 3 sc_law.nd (e_call ((ok__law_draw T).mono (by decide)) hr T.g__law_draw T.n__law_draw.kp T.b__law_draw (a_cons (e_var 0) (a_cons (e_opT v_add (e_op v_mul (e_int) (e_var 1)) (e_int)) (a_cons (e_rep (e_lst (a_cons (e_int) (a_cons (e_int) (a_nil)))) (e_int)) (a_nil)))))) (b_cons (s_set 4 sc_law.nd (e_listRg2 L.calm T.m_list T.m_range (e_int) (e_opT v_add (e_int) (e_ix hr.units (e_var 2) (e_int))))) (b_cons (s_if (t_cmp (v_eq hr.units) (e_ix hr.units (e_var 2) (e_int)) (e_int)) (b_one (s_set 4 sc_law.nd (e_slice (e_lst (a_cons (e_int) (a_cons (e_int) (a_cons (e_neg (e_int)) (a_cons (e_int) (a_cons (e_int) (a_cons (e_int) (a_cons (e_int) (a_cons (e_int) (a_nil)))))))))) (o_none) (o_some (e_opT v_add (e_int) (e_ix hr.units (e_var 2) (e_int))))))) (b_nil)) (b_cons (s_own 5 sc_law.nd (e_lst (a_nil))) (b_cons (s_for L.po L.calm (i_range1 T.m_range (a_cons (e_ix hr.units (e_var 2) (e_int)) (a_nil))) (g_name 6 sc_law.nd) (b_forget [6, 11] (b_cons (s_set 11 sc_law.nd (e_tup (a_cons (e_ix hr.units (e_var 4) (e_op v_mod (e_ix hr.units (e_var 3) (e_op v_mul (e_int) (e_var 6))) (e_blt c_len T.m_len PySem.boot_len (a_cons (e_var 4) (a_nil))))) (a_cons (e_ix hr.units (e_var 4) (e_op v_mod (e_ix hr.units (e_var 3) (e_opT v_add (e_op v_mul (e_int) (e_var 6)) (e_int))) (e_blt c_len T.m_len PySem.boot_len (a_cons (e_var 4) (a_nil))))) (a_nil))))) (b_cons (s_if (t_w (w_and (t_cmp (v_eq hr.units) (e_ix hr.units (e_var 2) (e_int)) (e_int)) (w_and1 (t_cmp (v_gt) (e_ix hr.units (e_var 11) (e_int)) (e_ix hr.units (e_var 11) (e_int)))))) (b_one (s_set 11 sc_law.nd (e_tup (a_cons (e_ix hr.units (e_var 11) (e_int)) (a_cons (e_ix hr.units (e_var 11) (e_int)) (a_nil)))))) (b_nil)) (b_one (s_if (t_cmp (v_ne hr.units) (e_ix hr.units (e_var 11) (e_int)) (e_ix hr.units (e_var 11) (e_int))) (b_one (s_app 5 (e_var 11))) (b_nil))))))) (b_cons (s_set 7 sc_law.nd (e_call ((ok__law_order T).mono (by decide)) hr T.g__law_order T.n__law_order.kp T.b__law_order (a_cons (e_var 4) (a_cons (e_var 5) (a_nil))))) (b_cons (s_set 8 sc_law.nd (e_tup (a_cons (e_ty c_list T.m_list (by decide +kernel) (a_cons (e_var 4) (a_nil))) (a_cons (e_ty c_list T.m_list (by decide +kernel) (a_cons (e_var 5) (a_nil))) (a_nil))))) (b_cons (s_fz 5 (s_if (t_w (w_or (t_cmp (v_ne hr.units) (e_call ((ok_order_of T).mono (by decide)) hr T.g_order_of T.n_order_of.kp T.b_order_of (a_cons (e_ix hr.units (e_var 8) (e_int)) (a_cons (e_ix hr.units (e_var 8) (e_int)) (a_nil)))) (e_var 7)) (w_or (t_cmp (v_ne hr.units) (e_call ((ok_ring_in T).mono (by decide)) hr T.g_ring_in T.n_ring_in.kp T.b_ring_in (a_cons (e_ix hr.units (e_var 8) (e_int)) (a_nil))) (e_call ((ok__law_ring T).mono (by decide)) hr T.g__law_ring T.n__law_ring.kp T.b__law_ring (a_cons (e_var 5) (a_nil)))) (w_or1 (t_cmp (v_ne hr.units) (e_var 8) (e_tup (a_cons (e_var 4) (a_cons (e_var 5) (a_nil))))))))) (b_one (s_ret (e_bl))) (b_nil))) (b_cons (s_if (t_cmp (v_ne hr.units) (e_cmp (v_isN) (e_var 7) (e_non)) (e_cmp (v_notN) (e_call ((ok__law_ring T).mono (by decide)) hr T.g__law_ring T.n__law_ring.kp T.b__law_ring (a_cons (e_var 5) (a_nil))) (e_non))) (b_one (s_ret (e_bl))) (b_nil)) (b_cons (s_set 9 sc_law.nd (e_call ((ok__law_schedule T).mono (by decide)) hr T.g__law_schedule T.n__law_schedule.kp T.b__law_schedule (a_cons (e_var 0) (a_cons (e_opT v_add (e_op v_mul (e_int) (e_var 1)) (e_int)) (a_nil))))) (b_cons (s_set 10 sc_law.nd (e_call ((ok__law_graph T).mono (by decide)) hr T.g__law_graph T.n__law_graph.kp T.b__law_graph (a_cons (e_var 9) (a_nil)))) (b_one (s_if (t_w (w_or (t_cmp (v_ne hr.units) (e_call ((ok_serial_order T).mono (by decide)) hr T.g_serial_order T.n_serial_order.kp T.b_serial_order (a_cons (e_var 9) (a_nil))) (e_call ((ok__law_order T).mono (by decide)) hr T.g__law_order T.n__law_order.kp T.b__law_order (a_cons (e_call ((ok__law_numbers T).mono (by decide)) hr T.g__law_numbers T.n__law_numbers.kp T.b__law_numbers (a_cons (e_call ((ok__law_kept T).mono (by decide)) hr T.g__law_kept T.n__law_kept.kp T.b__law_kept (a_cons (e_var 9) (a_nil))) (a_nil))) (a_cons (e_var 10) (a_nil))))) (w_or1 (t_cmp (v_ne hr.units) (e_call ((ok_ring_of T).mono (by decide)) hr T.g_ring_of T.n_ring_of.kp T.b_ring_of (a_cons (e_var 9) (a_nil))) (e_call ((ok__law_ring T).mono (by decide)) hr T.g__law_ring T.n__law_ring.kp T.b__law_ring (a_cons (e_var 10) (a_nil))))))) (b_one (s_ret (e_bl))) (b_nil))))))))))))))))) (b_one (s_ret (e_bl)))
end
end
end K
namespace K
open PySem PySem.Spec PyProof.Rows L2 VL
variable [Vx]
local macro_rules | `(tactic| walk_at "vl") => `(tactic| simp only [ap_fSU, su_ti, ap_fCallE, so_frl, so_frt, so_ol, so_bw, so_btl, so_btt, ap_fEnumQ, ap_pVar, ap_treeAt, ap_putT, ap_pIx, px_ol, px_od, useP_ok, ap_gPlApp, appK_ol, ap_gPlSet, ps_ol, ps_od, lf_fr, lf_ol, lf_od, tT_ol, tT_od, tT_ot, td_fz, td_ol, td_od, ap_gDPut, ap_gDDel, ap_fKGet, ap_fKIn, tb_nil, tb_cons, ap_fDisp, evp_nil, evp_cons, dmerge_eq, ap_fDNew, isk_i, isk_s, keq_ii, keq_ss, dput_nil, dput_cons, dget_nil, dget_cons, okd_nil, okd_s, okd_i, ix_d, in_ds, in_di, List.foldl_cons, List.foldl_nil, Option.isSome_some, Option.isSome_none, ap_fRng3, ap_oRng3, ap_fRev, rev_l, ap_fCallL, ff_nil, ff_cons, ap_fIsi, isi_n, isi_b, isi_i, isi_s, isi_l, isi_t, ap_isiB, fnR_eq, ap_gSeq, ap_gNext, ap_gCont, ap_gBreak, ap_gFz, ap_gIf, br_t, br_f, br_b, useS_ok, ap_gRet, ap_gSet, ap_gOwn, ap_gRetV, ap_gApp, ap_gAug, useL_ok, ap_gFor, ap_gForget, ap_gAsg, ap_gSetIx, ap_fVar, ap_fC, ap_fOp, ap_fB, ap_toB, ap_fTr, ap_fCall, ap_fBlt, ap_fNil, ap_fCons, ap_fLst, ap_fTup, ap_fzL, fzAll_nil, fzAll_fr, fzAll_ol, fzAll_od, fzAll_bw, fz_fr, fz_ol, fz_od, fz_bw, ap_callR, sure_ok, sure_bad, ap_fSl, ap_fNoP, ap_fP, ap_oInt, ap_fIter, ap_fRng1, ap_fRng2, ap_oRng1, ap_oRng2, lo_fr, lo_ol, lo_bw, to_fr, ap_fRep, ap_oRep, okite1, okite2, bind_ite, rbind_ite, fin_ite, fin_rt_fr, fin_rt_ol, fin_nx, fin_bad, brR_b, ap_fAnd, ap_fOr, ap_fNot, ap_notR, ap_fNeg, ap_dNeg, ap_fIf, ap_fChain, ap_fLc, ap_tAndB, ap_tOrB, ap_tNotB, ap_ttYes, tr_bool, tr_list, tr_tuple, tr_none, tr_int, ap_sName, ap_sTup, ap_sCons, ap_sNil, w_nil, w_cons, slot_fr, slot_ol, slot_od, ap_frz, add_ii, add_tt, add_ll, add_ss, sub_ii, mul_ii, mod_ii, div_ii, pow_ii, lt_ii, le_ii, gt_ii, ge_ii, isn_, notn_, isNone_n, isNone_i, isNone_t, isNone_l, isNone_s, isNone_b, rk_none, rk_bool, rk_int, rk_str, rk_list, rk_tuple, eq_rk, ne_rk, inl_rk, int_rk, inB_f, inB_t, ix_l, ix_t, atD_eq, atI_0, atI_1, atI_2, atI_3, atI_4, atI_5, atI_6, atI_7, atI_map, sl_l, sl_t, len_l, len_t, min_ii, max_ii, list_l, list_t, tuple_l, tuple_t, int_i, int_b, ofString_inj, eqv_ii, eqv_ss, eqv_bb, eqv_nn, eqv_ni, eqv_in, eqv_is, eqv_si, eqv_ns, eqv_sn, eqv_ll, eqv_tt, eqva_nn, eqva_cc, eqva_nc, eqva_cn, Rs.bind_ok, Rs.bind_bad, So.bind_nx, So.bind_rt, So.bind_ct, So.bind_bk, So.bind_bad, R.d_fr, R.d_ol, R.d_od, R.d_bw, retR_fr, retR_ol, retR_od, retR_ot, setR_fr, setR_ol, setR_od, setR_ot, ownR_fr, ownR_ol, ownR_od, ownR_ot, ownT_ol, ownT_od, ownT_ot, ap_gOwnT, opR_frfr, opR_frol, opR_frod, opR_frbw, opR_olfr, opR_olol, opR_olod, opR_olbw, opR_odfr, opR_odol, opR_odod, opR_odbw, opR_bwfr, opR_bwol, opR_bwod, opR_bwbw, opR_bt1, opR_bt2, immR_fr, immR_ol, immR_od, immR_bt, immR_bw, imm_n, imm_b, imm_i, imm_s, imm_t, imm_l, imm_d, imms_n, imms_c, opU_fr, opU_ol, opU_od, opU_bw, opU_bt, bt_fr, bt_ol, bt_od, bt_bw, bt_bt, ap_opL, fz_bt, fz_ot, fzAll_bt, fzAll_ot, lo_bt, to_bt, slot_ot, fin_rt_od, fin_rt_ot, fin_ex, R.d_bt, R.d_ot, Rs.bind_ex, So.bind_ex,
  List.map_cons, List.map_nil, List.length_cons, List.length_nil, List.length_map, List.replicate_succ, List.replicate_zero, List.cons_append, List.nil_append, List.append_nil, List.getElem?_cons_zero, List.getElem?_cons_succ, List.set_cons_zero, List.set_cons_succ, List.all_cons, List.all_nil, List.any_cons, List.any_nil, Nat.zero_add, Nat.add_one_sub_one, Nat.reduceAdd, Nat.reduceSub, Nat.reduceMul, Nat.reduceLeDiff, Int.cast_ofNat_Int, Int.reduceLT, Int.reduceLE, Int.reduceAdd, Int.reduceMul, Int.reduceEq, Int.reduceNe, Int.reduceToNat, Int.reduceNeg, Int.reducePow, String.reduceEq, decide_true, decide_false, Bool.false_eq_true, Bool.true_eq_false, Bool.or_true, Bool.or_false, Bool.true_or, Bool.false_or, Bool.and_true, Bool.true_and, Bool.and_false, Bool.false_and, Bool.not_true, Bool.not_false, Bool.and_self, Bool.or_self, if_true, if_false, ite_true, ite_false, reduceIte, Option.bind_some, Option.bind_none, Option.map_some, Option.map_none, and_self, and_true, true_and, eq_self])
/-! ### operations of schedules -/
inductive Op where
  | rd (t : Int) (x : Str) | wr (t : Int) (x : Str) | cm (t : Int) | ab (t : Int)
  deriving DecidableEq
def Op.d : Op → D
  | .rd t x => .tuple [.str "read", .int t, .str x]
  | .wr t x => .tuple [.str "write", .int t, .str x]
  | .cm t => .tuple [.str "commit", .int t]
  | .ab t => .tuple [.str "abort", .int t]
def Op.t : Op → Int
  | .rd t _ => t
  | .wr t _ => t
  | .cm t => t
  | .ab t => t
def Op.isAb : Op → Bool
  | .ab _ => true
  | _ => false
def Op.clash (a b : Op) : Bool := match a, b with
  | .rd t x, .wr u y => !decide (t = u) && decide (x = y)
  | .wr t x, .rd u y => !decide (t = u) && decide (x = y)
  | .wr t x, .wr u y => !decide (t = u) && decide (x = y)
  | _, _ => false
theorem rk_op (n : Nat) (o : Op) : rk (n + 1) o.d = true := by
  cases o <;> simp [Op.d, rk_tuple, rk_int, rk_str]
theorem op_tup (o : Op) : ∃ w r, o.d = .tuple (w :: .int o.t :: r) := by cases o <;> exact ⟨_, _, rfl⟩
theorem op_ab (o : Op) : ∃ w r, o.d = .tuple (.str w :: .int o.t :: r) ∧ decide (w = Str.ofString "abort") = o.isAb := by
  cases o <;> refine ⟨_, _, rfl, ?_⟩ <;> simp [Op.isAb, ofString_inj]
/-! without_aborted -/
def gone (ops : List Op) : List Int := (ops.filter Op.isAb).map Op.t
def kept (ops : List Op) : List Op := ops.filter fun o => !decide (o.t ∈ gone ops)
theorem rk_ints (n : Nat) (xs : List Int) : rk (n + 1) (.list (xs.map .int)) = true := by rw [rk_list]; exact all_map_rk (fun x => rk_int n x) xs
theorem rk_ops (n : Nat) (xs : List Op) : rk (n + 2) (.list (xs.map Op.d)) = true := by rw [rk_list]; exact all_map_rk (fun x => rk_op n x) xs
theorem any_int (xs : List Int) (y : Int) : ((xs.map PyData.int).any fun z => PyData.eqv z (.int y)) = decide (y ∈ xs) := any_map_eqv eqv_ii xs y
theorem in_ints (neg : Bool) (xs : List Int) (y : Int) : dIn neg (.int y) (.list (xs.map .int)) = dInB neg (decide (y ∈ xs)) := by
  rw [inl_rk neg (rk_int 20 y) (rk_ints 19 xs), any_int]
theorem wa_eq (ops : List Op) : F_without_aborted [.list (ops.map Op.d)] = .ok (.ol ((kept ops).map Op.d)) := by
  have h1 : lcLoop (sName 2) (fB (fOp dEq (fOp dIx (fVar 2) (fC (.int 0))) (fC (.str "abort")))) (fOp dIx (fVar 2) (fC (.int 1))) [.fr (.list (ops.map Op.d)), .un, .un] (ops.map Op.d) = .ok ((ops.filter Op.isAb).map fun o => .int o.t) :=
    lc_map ops fun o _ => by
      obtain ⟨w, r, e, ew⟩ := op_ab o
      refine ⟨_, rfl, ?_, fun _ => ⟨.fr (.int o.t), ?_, rfl⟩⟩
      · repeat first | walk_at "vl" | simp only [e, ew]
      · repeat first | walk_at "vl" | simp only [e, ew]
  have h2 : lcLoop (sName 2) (fB (fOp (dIn true) (fOp dIx (fVar 2) (fC (.int 1))) (fVar 1))) (fVar 2) [.fr (.list (ops.map Op.d)), .fr (.list ((gone ops).map .int)), .un] (ops.map Op.d) = .ok ((kept ops).map Op.d) :=
    lc_map ops fun o _ => by
      obtain ⟨w, r, e, ew⟩ := op_ab o
      refine ⟨_, rfl, ?_, fun _ => ⟨.fr o.d, ?_, rfl⟩⟩
      · repeat first | walk_at "vl" | simp only [e, in_ints]
      · repeat first | walk_at "vl"
  have e1 : ((ops.filter Op.isAb).map fun o => PyData.int o.t) = (gone ops).map .int := by
    unfold gone
    rw [List.map_map]
    rfl
  unfold F_without_aborted g_without_aborted
  repeat first | walk_at "vl" | simp only [h1, e1, h2]
theorem lk_eq : F__law_kept = F_without_aborted := rfl
theorem ln_eq : F__law_numbers = F_transactions_of := rfl
/-! transactions_of -/
theorem alike_int (xs : List Int) : alikeB (xs.map .int) = true := by
  unfold alikeB
  rw [List.all_eq_true]
  intro d hd
  obtain ⟨x, _, rfl⟩ := List.mem_map.mp hd
  rw [List.all_eq_true]
  intro e he
  obtain ⟨y, _, rfl⟩ := List.mem_map.mp he
  simp [PySem.W.alike]
theorem sortable_int (xs : List Int) : sortableB (xs.map .int) = true := by
  unfold sortableB
  rw [Bool.or_eq_true]
  right
  rw [List.all_eq_true]
  intro d hd
  obtain ⟨x, _, rfl⟩ := List.mem_map.mp hd
  rfl
theorem rise_of {xs : List Int} (hx : xs.Nodup) : ∃ ys : List Int, ys.Pairwise (· < ·) ∧ ys.length = xs.length ∧ ∀ p, p ∈ xs ↔ p ∈ ys := by
  have hp := List.mergeSort_perm xs fun a b => decide (a ≤ b)
  have h1 := List.pairwise_mergeSort (le := fun a b : Int => decide (a ≤ b)) (fun a b c h1 h2 => by simp at *; omega) (fun a b => by simp; omega) xs
  have h2 : (xs.mergeSort fun a b => decide (a ≤ b)).Nodup := hp.nodup_iff.mpr hx
  refine ⟨_, ?_, hp.length_eq, fun p => hp.mem_iff.symm⟩
  exact (h1.and h2).imp fun {a b} h => by
    have := h.1
    have := h.2
    simp at *
    omega
theorem to_ok (ops : List Op) (hl : ops.length ≤ 100) : ∃ ys : List Int, F_transactions_of [.list (ops.map Op.d)] = .ok (.ol (ys.map .int)) ∧ ys.Pairwise (· < ·) ∧ ∀ t, t ∈ ys ↔ ∃ o ∈ ops, o.t = t := by
  obtain ⟨acc, ⟨h0, h1, h3⟩, h2⟩ := loop_ex (f := Op.d) (E := fun acc : List Int => [.fr (.list (ops.map Op.d)), .ol (acc.map .int), .un]) (st := sName 2)
    (body := b_transactions_of_1) (fun i acc => acc.length ≤ i ∧ acc.Nodup ∧ ∀ t, t ∈ acc ↔ ∃ o ∈ ops.take i, o.t = t) ops [] ⟨Nat.zero_le _, by simp, by simp⟩
    (fun i acc o hi ⟨q, q2, q3⟩ => by
      have hil : i < ops.length := (List.getElem?_eq_some_iff.mp hi).1
      obtain ⟨w, r, e⟩ := op_tup o
      have z := sz_small (show acc.length ≤ 1000000 by omega)
      have et : ops.take (i + 1) = ops.take i ++ [o] := by rw [List.take_add_one, hi]; rfl
      unfold b_transactions_of_1
      by_cases hm : o.t ∈ acc
      · refine ⟨acc, ⟨by omega, q2, fun t => ?_⟩, _, rfl, .inl ?_⟩
        · rw [q3, et]
          constructor
          · rintro ⟨o', h1, h2⟩
            exact ⟨o', List.mem_append_left _ h1, h2⟩
          · rintro ⟨o', h1, h2⟩
            rcases List.mem_append.mp h1 with z | z
            · exact ⟨o', z, h2⟩
            · rw [List.mem_singleton.mp z] at h2
              rw [h2] at hm
              exact (q3 t).mp hm
        · repeat first | walk_at "vl" | simp only [e, in_ints, hm]
      · refine ⟨acc ++ [o.t], ⟨by rw [List.length_append, List.length_singleton]; omega, ?_, fun t => ?_⟩, _, rfl, .inl ?_⟩
        · exact List.nodup_append.mpr ⟨q2, by simp, fun a ha b hb e => hm (by simp at hb; rw [← hb, ← e]; exact ha)⟩
        · rw [List.mem_append, q3, et, List.mem_singleton]
          constructor
          · rintro (⟨o', h1, h2⟩ | h)
            · exact ⟨o', List.mem_append_left _ h1, h2⟩
            · exact ⟨o, List.mem_append_right _ (by simp), h.symm⟩
          · rintro ⟨o', h1, h2⟩
            rcases List.mem_append.mp h1 with z | z
            · exact .inl ⟨o', z, h2⟩
            · rw [List.mem_singleton.mp z] at h2
              exact .inr h2.symm
        · repeat first | walk_at "vl" | simp only [e, in_ints, hm, z, List.map_append])
  rw [List.take_length] at h3
  obtain ⟨ys, y1, y2, y3⟩ := rise_of h1
  refine ⟨ys, ?_, y1, fun t => (y3 t).symm.trans (h3 t)⟩
  have hs := HL.sort_rise h1 y1 y3
  unfold F_transactions_of g_transactions_of
  simp only [List.map_nil] at h2
  generalize b_transactions_of_1 = bb at h2 ⊢
  repeat first | walk_at "vl" | simp only [h2, hs]
/-! conflict_graph -/
theorem str_ne_r : (Str.ofString "read" = Str.ofString "write") = False := by rw [ofString_inj]; simp
theorem in_tup2 (neg : Bool) (d a b : D) (h : rk 20 d = true) (h1 : rk 19 a = true) (h2 : rk 19 b = true) : dIn neg d (.tuple [a, b]) = dInB neg (PyData.eqv a d || PyData.eqv b d) := by
  rw [int_rk neg h (by simp only [rk_tuple, List.all_cons, List.all_nil, h1, h2]; rfl)]
  simp
theorem dc_eq (a b : Op) : F_do_conflict [a.d, b.d] = .ok (.fr (.bool (a.clash b))) := by
  unfold F_do_conflict g_do_conflict
  cases a <;> cases b <;> simp only [Op.d, Op.clash] <;> (repeat first | walk_at "vl" | simp only [in_tup2, rk_str]) <;> (try rfl)
  all_goals
    rename_i t x u y
    by_cases h1 : t = u
    · simp [h1]
    · by_cases h2 : x = y
      · simp [h1, h2]
      · simp [h1, h2]
theorem lc_eq (a b : Op) : F__law_clash [a.d, b.d] = .ok (.fr (.bool (a.clash b))) := by
  unfold F__law_clash g__law_clash
  cases a <;> cases b <;> simp only [Op.d, Op.clash] <;> (repeat first | walk_at "vl") <;> (try rfl)
  all_goals
    rename_i t x u y
    by_cases h1 : t = u
    · simp [h1]
    · by_cases h2 : x = y
      · simp [h1, h2]
      · simp [h1, h2]
def gIn (Fc : List D → Rs R) : FS := (gForget [4, 5] (gSeq (gSet 5 (fTup (fCons (fOp dIx (fOp dIx (fVar 1) (fVar 4)) (fC (.int 1))) (fCons (fOp dIx (fOp dIx (fVar 1) (fVar 3)) (fC (.int 1))) (fNil))))) (gIf (tAndB (fTr (fCall Fc (fCons (fOp dIx (fVar 1) (fVar 4)) (fCons (fOp dIx (fVar 1) (fVar 3)) (fNil))))) (fB (fOp (dIn true) (fVar 5) (fVar 2)))) (gApp 2 (fVar 5)) (gNext))))
def gOut (Fc : List D → Rs R) : FS := gForget [3, 4, 5] (gFor (fRng1 (fCons (fVar 3) (fNil))) (sName 4) (gIn Fc))
def gGr (Fk Fc : List D → Rs R) : FS := gSeq (gSet 1 (fCall Fk (fCons (fVar 0) (fNil)))) (gSeq (gOwn 2 (fLst (fNil))) (gSeq (gFor (fRng1 (fCons (fBlt dLen (fCons (fVar 1) (fNil))) (fNil))) (sName 3) (gOut Fc)) (gRet (fBlt dSorted (fCons (fVar 2) (fNil))))))
theorem cg_gr : F_conflict_graph = fnR 6 (gGr F_without_aborted F_do_conflict) := rfl
theorem lg_gr : F__law_graph = fnR 6 (gGr F_without_aborted F__law_clash) := rfl
def pr (p : Int × Int) : D := .tuple [.int p.1, .int p.2]
theorem rk_pr (n : Nat) (p : Int × Int) : rk (n + 1) (pr p) = true := by simp [pr, rk_tuple, rk_int]
theorem rk_prs (n : Nat) (xs : List (Int × Int)) : rk (n + 2) (.list (xs.map pr)) = true := by rw [rk_list]; exact all_map_rk (fun x => rk_pr n x) xs
theorem eqv_pr (p q : Int × Int) : PyData.eqv (pr p) (pr q) = decide (p = q) := by
  obtain ⟨a, b⟩ := p
  obtain ⟨c, d⟩ := q
  simp only [pr, eqv_tt, eqva_cc, eqva_nn, eqv_ii, Bool.and_true]
  by_cases h1 : a = c <;> by_cases h2 : b = d <;> simp [h1, h2]
theorem in_prs (neg : Bool) (xs : List (Int × Int)) (a b : Int) : dIn neg (.tuple [.int a, .int b]) (.list (xs.map pr)) = dInB neg (decide ((a, b) ∈ xs)) := by
  show dIn neg (pr (a, b)) _ = _
  rw [inl_rk neg (rk_pr 19 (a, b)) (rk_prs 18 xs), any_map_eqv eqv_pr]
  exact congrArg (dInB neg) (decide_eq_decide.mpr Iff.rfl)
theorem alike_pr (xs : List (Int × Int)) : alikeB (xs.map pr) = true := by
  unfold alikeB
  rw [List.all_eq_true]
  intro d hd
  obtain ⟨x, _, rfl⟩ := List.mem_map.mp hd
  rw [List.all_eq_true]
  intro e he
  obtain ⟨y, _, rfl⟩ := List.mem_map.mp he
  simp [PySem.W.alike, PySem.W.alikeAll, pr]
theorem sortable_pr (xs : List (Int × Int)) : sortableB (xs.map pr) = true := by
  unfold sortableB
  rw [Bool.or_eq_true]
  left
  rw [List.all_eq_true]
  intro d hd
  obtain ⟨x, _, rfl⟩ := List.mem_map.mp hd
  rfl
def stepP (ks : List Op) (j : Nat) (ps : List (Int × Int)) (i : Nat) : List (Int × Int) := match ks[i]?, ks[j]? with
  | some a, some b => if a.clash b && !decide ((a.t, b.t) ∈ ps) then ps ++ [(a.t, b.t)] else ps
  | _, _ => ps
def rowP (ks : List Op) (ps : List (Int × Int)) (j : Nat) : List (Int × Int) := (List.range j).foldl (stepP ks j) ps
def allP (ks : List Op) : List (Int × Int) := (List.range ks.length).foldl (rowP ks) []
theorem op_ix (o : Op) : dIx o.d (.int 1) = .ok (.fr (.int o.t)) := by
  obtain ⟨w, r, e⟩ := op_tup o
  rw [e, ix_t, atD_eq, atI_1]
theorem gr_eq (Fc : List D → Rs R) (hc : ∀ a b : Op, Fc [a.d, b.d] = .ok (.fr (.bool (a.clash b)))) (ops : List Op) (hl : (kept ops).length ≤ 100) : fnR 6 (gGr F_without_aborted Fc) [.list (ops.map Op.d)] = .ok (.ol (((allP (kept ops)).map pr).mergeSort dleD)) := by
  generalize hk : kept ops = ks at hl
  have row : ∀ (j : Nat) (ps : List (Int × Int)), j < ks.length → ps.length ≤ 100 * j → gLoop (sName 4) (gIn Fc) ((List.range j).map fun i : Nat => PyData.int (0 + (i : Int))) [.fr (.list (ops.map Op.d)), .fr (.list (ks.map Op.d)), .ol (ps.map pr), .fr (.int (0 + (j : Int))), .un, .un] =
      .nx [.fr (.list (ops.map Op.d)), .fr (.list (ks.map Op.d)), .ol ((rowP ks ps j).map pr), .fr (.int (0 + (j : Int))), .un, .un] ∧ (rowP ks ps j).length ≤ 100 * j + j := fun j ps hj hps => by
    have h := loop_foldi (f := fun i : Nat => PyData.int (0 + (i : Int))) (E := fun ps : List (Int × Int) => [.fr (.list (ops.map Op.d)), .fr (.list (ks.map Op.d)), .ol (ps.map pr), .fr (.int (0 + (j : Int))), .un, .un]) (st := sName 4) (body := gIn Fc) (step := stepP ks j)
      (fun i qs => qs.length ≤ 100 * j + i) (List.range j) ps (by omega) (fun i qs x hi q => by
        obtain ⟨rfl, hij⟩ := range_at hi
        have hx : ks[x]? = some ks[x] := List.getElem?_eq_getElem (by omega)
        have hy : ks[j]? = some ks[j] := List.getElem?_eq_getElem hj
        have z := sz_small (show qs.length ≤ 1000000 by omega)
        unfold stepP
        rw [hx, hy]
        dsimp only
        generalize ks[x] = a at hx
        generalize ks[j] = b at hy
        refine ⟨by split <;> (try rw [List.length_append, List.length_singleton]) <;> omega, _, rfl, .inl ?_⟩
        unfold gIn
        cases hcl : a.clash b with
        | false => repeat first | walk_at "vl" | simp only [Int.zero_add, atI_ofNat, hx, hy, op_ix, hc, hcl, in_prs]
        | true =>
          by_cases hm : (a.t, b.t) ∈ qs
          · repeat first | walk_at "vl" | simp only [Int.zero_add, atI_ofNat, hx, hy, op_ix, hc, hcl, in_prs, hm]
          · repeat first | walk_at "vl" | simp only [Int.zero_add, atI_ofNat, hx, hy, op_ix, hc, hcl, in_prs, hm, z, List.map_append, pr])
    rw [List.length_range] at h
    exact h
  have all := loop_foldi (f := fun i : Nat => PyData.int (0 + (i : Int))) (E := fun ps : List (Int × Int) => [.fr (.list (ops.map Op.d)), .fr (.list (ks.map Op.d)), .ol (ps.map pr), .un, .un, .un]) (st := sName 3) (body := gOut Fc) (step := rowP ks)
    (fun i qs => qs.length ≤ 100 * i) (List.range ks.length) [] (Nat.zero_le _) (fun i qs x hi q => by
      obtain ⟨rfl, hij⟩ := range_at hi
      obtain ⟨h1, h2⟩ := row x qs hij q
      refine ⟨by omega, _, rfl, .inl ?_⟩
      have e : rng 0 x = (List.range x).map fun i : Nat => PyData.int (0 + (i : Int)) := rfl
      unfold gOut
      repeat first | walk_at "vl" | simp only [Int.zero_add, rngOk_n (show x ≤ 8000000 by omega), Int.toNat_natCast, e]
      simp only [Int.zero_add] at h1
      repeat first | walk_at "vl" | simp only [h1])
  obtain ⟨h1, h2⟩ := all
  rw [List.length_range] at h2
  have e : rng 0 ks.length = (List.range ks.length).map fun i : Nat => PyData.int (0 + (i : Int)) := rfl
  simp only [List.map_nil] at h1
  unfold gGr
  repeat first | walk_at "vl" | simp only [wa_eq, hk, rngOk_n (show ks.length ≤ 8000000 by omega), Int.toNat_natCast, e, h1, sorted_l (rk_prs 18 _) (alike_pr _) (sortable_pr _)]
  try rfl
/-! the law's schedules -/
theorem ld_eq : F__law_draw = FDraw := rfl
def sz42 : List Int := (List.replicate 14 [5, 11, 3]).flatten
theorem rep42 : repD 14 [.int 5, .int 11, .int 3] = sz42.map .int := rfl
theorem all2_at {α β : Type} {P : α → β → Prop} {as : List α} {bs : List β} (h : All2 P as bs) {i : Nat} {b : β} (e : bs[i]? = some b) : ∃ a, as[i]? = some a ∧ P a b := h.get e
theorem drop3 {ds : List Int} (h : All2 (fun d s => 0 ≤ d ∧ d < s) ds sz42) (m : Nat) (hm : m < 14) : ∃ a b c r, ds.drop (3 * m) = a :: b :: c :: r ∧ (0 ≤ a ∧ a < 5) ∧ (0 ≤ b ∧ b < 11) ∧ (0 ≤ c ∧ c < 3) := by
  have e : sz42[3 * m]? = some 5 ∧ sz42[3 * m + 1]? = some 11 ∧ sz42[3 * m + 2]? = some 3 := by
    have : ∀ m : Nat, m < 14 → sz42[3 * m]? = some 5 ∧ sz42[3 * m + 1]? = some 11 ∧ sz42[3 * m + 2]? = some 3 := by decide
    exact this m hm
  obtain ⟨a, ea, ha⟩ := h.get e.1
  obtain ⟨b, eb, hb⟩ := h.get e.2.1
  obtain ⟨c, ec, hc⟩ := h.get e.2.2
  obtain ⟨la, ga⟩ := List.getElem?_eq_some_iff.mp ea
  obtain ⟨lb, gb⟩ := List.getElem?_eq_some_iff.mp eb
  obtain ⟨lc, gc⟩ := List.getElem?_eq_some_iff.mp ec
  refine ⟨a, b, c, ds.drop (3 * m + 3), ?_, ha, hb, hc⟩
  rw [List.drop_eq_getElem_cons la, List.drop_eq_getElem_cons lb, List.drop_eq_getElem_cons lc, ga, gb, gc]
theorem xyz_ix (i : Int) (h : 0 ≤ i ∧ i < 3) : ∃ x, dIx (.str "xyz") (.int i) = .ok (.fr (.str x)) := by
  have e : i = 0 ∨ i = 1 ∨ i = 2 := by omega
  rcases e with rfl | rfl | rfl <;> exact ⟨_, rfl⟩
theorem all2_3' {P : Int → Int → Prop} {ds : List Int} {a b c : Int} (h : All2 P ds [a, b, c]) : ∃ x y z, ds = [x, y, z] ∧ P x a ∧ P y b ∧ P z c := by
  obtain ⟨x, y, z, e, h1, h2, h3⟩ := all2_3 h
  exact ⟨x, y, z, e, h1, h2, h3⟩
theorem sched_ok (ns : List Int) (k : Nat) : ∃ ops : List Op, F__law_schedule [.list (ns.map .int), .int k] = .ok (.ol (ops.map Op.d)) ∧ ops.length ≤ 26 ∧ ∀ o ∈ ops, 1 ≤ o.t ∧ o.t ≤ 5 := by
  obtain ⟨hd, h1, h2⟩ := draw_ok ns k [14, 4, 3] (by decide) (by decide)
  obtain ⟨h0, h4, h3, rfl, ⟨a0, a1⟩, ⟨b0, b1⟩, ⟨c0, c1⟩⟩ := all2_3' h2
  obtain ⟨n, rfl⟩ := Int.eq_ofNat_of_zero_le a0
  simp only [List.map_cons, List.map_nil] at h1
  have L := loop_ex (f := fun i : Nat => PyData.int (0 + (i : Int))) (E := fun p : List Op × List Int => [.fr (.list (ns.map .int)), .fr (.int k), .fr (.list [.int (n : Int), .int h4, .int h3]), .ol (p.1.map Op.d), .ol (p.2.map .int), .un, .un, .un, .un]) (st := sName 5)
    (body := gForget [5, 6, 7, 8] (gSeq (gSet 6 (fSl (fCall F__law_draw (fCons (fVar 0) (fCons (fOp dAdd (fOp dAdd (fVar 1) (fC (.int 1))) (fOp dDiv (fVar 5) (fC (.int 14)))) (fCons (fRep (fLst (fCons (fC (.int 5)) (fCons (fC (.int 11)) (fCons (fC (.int 3)) (fNil))))) (fC (.int 14))) (fNil))))) (fP (fOp dMul (fC (.int 3)) (fOp dMod (fVar 5) (fC (.int 14))))) (fNoP))) (gSeq (gSet 7 (fOp dAdd (fC (.int 1)) (fOp dMod (fOp dIx (fVar 6) (fC (.int 0))) (fOp dAdd (fC (.int 2)) (fOp dIx (fVar 2) (fC (.int 1))))))) (gSeq (gIf (fB (fOp (dIn false) (fVar 7) (fVar 4))) (gCont) (gNext)) (gSeq (gSet 8 (fOp dIx (fC (.str "xyz")) (fOp dMod (fOp dIx (fVar 6) (fC (.int 2))) (fOp dAdd (fC (.int 1)) (fOp dIx (fVar 2) (fC (.int 2))))))) (gIf (fB (fOp dLt (fOp dIx (fVar 6) (fC (.int 1))) (fC (.int 5)))) (gApp 3 (fTup (fCons (fC (.str "read")) (fCons (fVar 7) (fCons (fVar 8) (fNil)))))) (gIf (fB (fOp dLt (fOp dIx (fVar 6) (fC (.int 1))) (fC (.int 9)))) (gApp 3 (fTup (fCons (fC (.str "write")) (fCons (fVar 7) (fCons (fVar 8) (fNil)))))) (gSeq (gApp 3 (fTup (fCons (fOp dIx (fLst (fCons (fC (.str "commit")) (fCons (fC (.str "abort")) (fNil)))) (fOp dSub (fOp dIx (fVar 6) (fC (.int 1))) (fC (.int 9)))) (fCons (fVar 7) (fNil))))) (gApp 4 (fVar 7))))))))))
    (fun i p => p.1.length ≤ i ∧ p.2.length ≤ i ∧ ∀ o ∈ p.1, 1 ≤ o.t ∧ o.t ≤ 5) (List.range (2 * n)) ([], []) ⟨Nat.zero_le _, Nat.zero_le _, fun o h => absurd h List.not_mem_nil⟩
    (fun i ⟨ops, ended⟩ x hi ⟨q1, q2, q3⟩ => by
      obtain ⟨rfl, hij⟩ := range_at hi
      have q1 : ops.length ≤ x := q1
      have q2 : ended.length ≤ x := q2
      have z1 := sz_small (show ops.length ≤ 1000000 by omega)
      have z2 := sz_small (show ended.length ≤ 1000000 by omega)
      obtain ⟨ds, d1, d2⟩ := draw_ok ns (k + 1 + x / 14) sz42 (by decide) (by decide)
      obtain ⟨a, b, c, r, e3, ha, hb, hc⟩ := drop3 d2 (x % 14) (Nat.mod_lt _ (by decide))
      have ek : (k : Int) + 1 + (x : Int) / 14 = ((k + 1 + x / 14 : Nat) : Int) := by omega
      have em : (3 * ((x : Int) % 14)) = ((3 * (x % 14) : Nat) : Int) := by omega
      have hm0 : (0 : Int) < 2 + h4 := by omega
      have hm1 : (0 : Int) < 1 + h3 := by omega
      have hx0 : 0 ≤ c % (1 + h3) ∧ c % (1 + h3) < 3 := ⟨Int.emod_nonneg _ (by omega), by have := Int.emod_lt_of_pos c hm1; omega⟩
      obtain ⟨xs, exs⟩ := xyz_ix _ hx0
      have q3 : ∀ o ∈ ops, 1 ≤ o.t ∧ o.t ≤ 5 := q3
      have q4 : ∀ o : Op, o.t = 1 + a % (2 + h4) → ∀ o' ∈ ops ++ [o], 1 ≤ o'.t ∧ o'.t ≤ 5 := fun o eo o' ho => by
        rcases List.mem_append.mp ho with z | z
        · exact q3 o' z
        · rw [List.mem_singleton.mp z, eo]
          have := Int.emod_nonneg a (show (2 + h4) ≠ 0 by omega)
          have := Int.emod_lt_of_pos a hm0
          omega
      have ecut : cutD (ds.map PyData.int) (some ((3 * (x % 14) : Nat) : Int)) none = .int a :: .int b :: .int c :: r.map .int := by
        rw [cut_from _ _ (by omega), Int.toNat_natCast, ← List.map_drop, e3]
        rfl
      have c3 : ∀ m : Int, cMul 3 m = true := fun m => by simp [cMul]
      have s42 : ([PyData.int 5, PyData.int 11, PyData.int 3] : List D).length * 14 ≤ sizeN := by decide
      by_cases hin : 1 + a % (2 + h4) ∈ ended
      · refine ⟨(ops, ended), ⟨by show ops.length ≤ _; omega, by show ended.length ≤ _; omega, q3⟩, _, rfl, .inr ?_⟩
        repeat first | walk_at "vl" | simp only [Int.zero_add, ek, em, c3, rep42, ld_eq, d1, ecut, hm0, in_ints, hin, szle_small (show 3 * 14 ≤ 1000000 by decide)]
      · by_cases hb5 : b < 5
        · refine ⟨(ops ++ [.rd (1 + a % (2 + h4)) xs], ended), ⟨by show (ops ++ [_]).length ≤ _; rw [List.length_append, List.length_singleton]; omega, by show ended.length ≤ _; omega, q4 _ rfl⟩, _, rfl, .inl ?_⟩
          repeat first | walk_at "vl" | simp only [Int.zero_add, ek, em, c3, rep42, ld_eq, d1, ecut, hm0, hm1, in_ints, hin, exs, hb5, z1, List.map_append, Op.d, szle_small (show 3 * 14 ≤ 1000000 by decide)]
        · by_cases hb9 : b < 9
          · refine ⟨(ops ++ [.wr (1 + a % (2 + h4)) xs], ended), ⟨by show (ops ++ [_]).length ≤ _; rw [List.length_append, List.length_singleton]; omega, by show ended.length ≤ _; omega, q4 _ rfl⟩, _, rfl, .inl ?_⟩
            repeat first | walk_at "vl" | simp only [Int.zero_add, ek, em, c3, rep42, ld_eq, d1, ecut, hm0, hm1, in_ints, hin, exs, hb5, hb9, z1, List.map_append, Op.d, szle_small (show 3 * 14 ≤ 1000000 by decide)]
          · have e9 : b = 9 ∨ b = 10 := by omega
            rcases e9 with rfl | rfl
            · refine ⟨(ops ++ [.cm (1 + a % (2 + h4))], ended ++ [1 + a % (2 + h4)]), ⟨by show (ops ++ [_]).length ≤ _; rw [List.length_append, List.length_singleton]; omega, by show (ended ++ [_]).length ≤ _; rw [List.length_append, List.length_singleton]; omega, q4 _ rfl⟩, _, rfl, .inl ?_⟩
              repeat first | walk_at "vl" | simp only [Int.zero_add, ek, em, c3, rep42, ld_eq, d1, ecut, hm0, hm1, in_ints, hin, exs, z1, z2, List.map_append, Op.d, Int.reduceSub, szle_small (show 3 * 14 ≤ 1000000 by decide)]
            · refine ⟨(ops ++ [.ab (1 + a % (2 + h4))], ended ++ [1 + a % (2 + h4)]), ⟨by show (ops ++ [_]).length ≤ _; rw [List.length_append, List.length_singleton]; omega, by show (ended ++ [_]).length ≤ _; rw [List.length_append, List.length_singleton]; omega, q4 _ rfl⟩, _, rfl, .inl ?_⟩
              repeat first | walk_at "vl" | simp only [Int.zero_add, ek, em, c3, rep42, ld_eq, d1, ecut, hm0, hm1, in_ints, hin, exs, z1, z2, List.map_append, Op.d, Int.reduceSub, szle_small (show 3 * 14 ≤ 1000000 by decide)])
  obtain ⟨⟨ops, ended⟩, ⟨q1, q2, q3⟩, hl⟩ := L
  rw [List.length_range] at q1
  refine ⟨ops, ?_, by have q1 : ops.length ≤ 2 * n := q1; omega, q3⟩
  have e : rng 0 (2 * n) = (List.range (2 * n)).map fun i : Nat => PyData.int (0 + (i : Int)) := rfl
  have c2 : ∀ m : Int, cMul 2 m = true := fun m => by simp [cMul]
  have e2 : 2 * (n : Int) = ((2 * n : Nat) : Int) := by omega
  simp only [List.map_nil, ld_eq] at hl
  unfold F__law_schedule g__law_schedule b__law_schedule_1
  repeat first | walk_at "vl" | simp only [ld_eq, h1, c2, e2, rngOk_n (show 2 * n ≤ 8000000 by omega), Int.toNat_natCast, e, hl]
/-! the law -/
theorem ne_self {d : D} (h : rk 20 d = true) : dNe d d = .ok (.fr (.bool false)) := by
  rw [ne_rk h h, eqv_refl h]
  rfl
theorem rk_sorted {ds : List D} {n : Nat} (h : rk (n + 1) (.list ds) = true) : rk (n + 1) (.list (ds.mergeSort dleD)) = true := by
  rw [rk_list] at h ⊢
  rw [(List.mergeSort_perm _ _).all_eq]
  exact h
end K
namespace K
open PySem PySem.Spec PyProof.Rows L2 VL
variable [Vx]
local macro_rules | `(tactic| walk_at "vl") => `(tactic| simp only [ap_fSU, su_ti, ap_fCallE, so_frl, so_frt, so_ol, so_bw, so_btl, so_btt, ap_fEnumQ, ap_pVar, ap_treeAt, ap_putT, ap_pIx, px_ol, px_od, useP_ok, ap_gPlApp, appK_ol, ap_gPlSet, ps_ol, ps_od, lf_fr, lf_ol, lf_od, tT_ol, tT_od, tT_ot, td_fz, td_ol, td_od, ap_gDPut, ap_gDDel, ap_fKGet, ap_fKIn, tb_nil, tb_cons, ap_fDisp, evp_nil, evp_cons, dmerge_eq, ap_fDNew, isk_i, isk_s, keq_ii, keq_ss, dput_nil, dput_cons, dget_nil, dget_cons, okd_nil, okd_s, okd_i, ix_d, in_ds, in_di, List.foldl_cons, List.foldl_nil, Option.isSome_some, Option.isSome_none, ap_fRng3, ap_oRng3, ap_fRev, rev_l, ap_fCallL, ff_nil, ff_cons, ap_fIsi, isi_n, isi_b, isi_i, isi_s, isi_l, isi_t, ap_isiB, fnR_eq, ap_gSeq, ap_gNext, ap_gCont, ap_gBreak, ap_gFz, ap_gIf, br_t, br_f, br_b, useS_ok, ap_gRet, ap_gSet, ap_gOwn, ap_gRetV, ap_gApp, ap_gAug, useL_ok, ap_gFor, ap_gForget, ap_gAsg, ap_gSetIx, ap_fVar, ap_fC, ap_fOp, ap_fB, ap_toB, ap_fTr, ap_fCall, ap_fBlt, ap_fNil, ap_fCons, ap_fLst, ap_fTup, ap_fzL, fzAll_nil, fzAll_fr, fzAll_ol, fzAll_od, fzAll_bw, fz_fr, fz_ol, fz_od, fz_bw, ap_callR, sure_ok, sure_bad, ap_fSl, ap_fNoP, ap_fP, ap_oInt, ap_fIter, ap_fRng1, ap_fRng2, ap_oRng1, ap_oRng2, lo_fr, lo_ol, lo_bw, to_fr, ap_fRep, ap_oRep, okite1, okite2, bind_ite, rbind_ite, fin_ite, fin_rt_fr, fin_rt_ol, fin_nx, fin_bad, brR_b, ap_fAnd, ap_fOr, ap_fNot, ap_notR, ap_fNeg, ap_dNeg, ap_fIf, ap_fChain, ap_fLc, ap_tAndB, ap_tOrB, ap_tNotB, ap_ttYes, tr_bool, tr_list, tr_tuple, tr_none, tr_int, ap_sName, ap_sTup, ap_sCons, ap_sNil, w_nil, w_cons, slot_fr, slot_ol, slot_od, ap_frz, add_ii, add_tt, add_ll, add_ss, sub_ii, mul_ii, mod_ii, div_ii, pow_ii, lt_ii, le_ii, gt_ii, ge_ii, isn_, notn_, isNone_n, isNone_i, isNone_t, isNone_l, isNone_s, isNone_b, rk_none, rk_bool, rk_int, rk_str, rk_list, rk_tuple, eq_rk, ne_rk, inl_rk, int_rk, inB_f, inB_t, ix_l, ix_t, atD_eq, atI_0, atI_1, atI_2, atI_3, atI_4, atI_5, atI_6, atI_7, atI_map, sl_l, sl_t, len_l, len_t, min_ii, max_ii, list_l, list_t, tuple_l, tuple_t, int_i, int_b, ofString_inj, eqv_ii, eqv_ss, eqv_bb, eqv_nn, eqv_ni, eqv_in, eqv_is, eqv_si, eqv_ns, eqv_sn, eqv_ll, eqv_tt, eqva_nn, eqva_cc, eqva_nc, eqva_cn, Rs.bind_ok, Rs.bind_bad, So.bind_nx, So.bind_rt, So.bind_ct, So.bind_bk, So.bind_bad, R.d_fr, R.d_ol, R.d_od, R.d_bw, retR_fr, retR_ol, retR_od, retR_ot, setR_fr, setR_ol, setR_od, setR_ot, ownR_fr, ownR_ol, ownR_od, ownR_ot, ownT_ol, ownT_od, ownT_ot, ap_gOwnT, opR_frfr, opR_frol, opR_frod, opR_frbw, opR_olfr, opR_olol, opR_olod, opR_olbw, opR_odfr, opR_odol, opR_odod, opR_odbw, opR_bwfr, opR_bwol, opR_bwod, opR_bwbw, opR_bt1, opR_bt2, immR_fr, immR_ol, immR_od, immR_bt, immR_bw, imm_n, imm_b, imm_i, imm_s, imm_t, imm_l, imm_d, imms_n, imms_c, opU_fr, opU_ol, opU_od, opU_bw, opU_bt, bt_fr, bt_ol, bt_od, bt_bw, bt_bt, ap_opL, fz_bt, fz_ot, fzAll_bt, fzAll_ot, lo_bt, to_bt, slot_ot, fin_rt_od, fin_rt_ot, fin_ex, R.d_bt, R.d_ot, Rs.bind_ex, So.bind_ex,
  List.map_cons, List.map_nil, List.length_cons, List.length_nil, List.length_map, List.replicate_succ, List.replicate_zero, List.cons_append, List.nil_append, List.append_nil, List.getElem?_cons_zero, List.getElem?_cons_succ, List.set_cons_zero, List.set_cons_succ, List.all_cons, List.all_nil, List.any_cons, List.any_nil, Nat.zero_add, Nat.add_one_sub_one, Nat.reduceAdd, Nat.reduceSub, Nat.reduceMul, Nat.reduceLeDiff, Int.cast_ofNat_Int, Int.reduceLT, Int.reduceLE, Int.reduceAdd, Int.reduceMul, Int.reduceEq, Int.reduceNe, Int.reduceToNat, Int.reduceNeg, Int.reducePow, String.reduceEq, decide_true, decide_false, Bool.false_eq_true, Bool.true_eq_false, Bool.or_true, Bool.or_false, Bool.true_or, Bool.false_or, Bool.and_true, Bool.true_and, Bool.and_false, Bool.false_and, Bool.not_true, Bool.not_false, Bool.and_self, Bool.or_self, if_true, if_false, ite_true, ite_false, reduceIte, Option.bind_some, Option.bind_none, Option.map_some, Option.map_none, and_self, and_true, true_and, eq_self])
/-! ### the law's order -/
open M48 in
def Elo (ns : List Int) (ps : Pairs) (left acc : List Int) (x : Sl) : En := [.fr (.list (ns.map .int)), .fr (.list (ps.map pr)), .fr (.list (left.map .int)), .ol (acc.map .int), x, .un, .un, .un, .un]
theorem len0 (ps : List (Int × Int)) (q : Int × Int → Bool) : decide (((ps.filter q).length : Int) = 0) = !(ps.any q) := by
  induction ps with
  | nil => rfl
  | cons p r ih =>
    rw [List.filter_cons, List.any_cons]
    cases q p with
    | true => simp; omega
    | false => simpa using ih
open M48 in
theorem lo_free (ns : List Int) (ps : Pairs) (left acc : List Int) (x : Sl) : lcLoop (sName 6) (fB (fOp dEq (fBlt dLen (fCons (fLc (fIter (fVar 1) (seqOf true)) (sTup (sCons (sName 7) (sCons (sName 8) (sNil)))) (tAndB (fB (fOp dEq (fVar 8) (fVar 6))) (fB (fOp (dIn false) (fVar 7) (fVar 2)))) (fC (.int 1)) [7, 8]) (fNil))) (fC (.int 0)))) (fVar 6) (Elo ns ps left acc x) (left.map PyData.int) = .ok ((free ps left).map .int) :=
  lc_map left fun t _ => by
    have h1 : lcLoop (sTup (sCons (sName 7) (sCons (sName 8) (sNil)))) (tAndB (fB (fOp dEq (fVar 8) (fVar 6))) (fB (fOp (dIn false) (fVar 7) (fVar 2)))) (fC (.int 1)) [.fr (.list (ns.map .int)), .fr (.list (ps.map pr)), .fr (.list (left.map .int)), .ol (acc.map .int), x, .un, .fr (.int t), .un, .un] (ps.map pr) = .ok ((ps.filter fun p => decide (p.2 = t) && decide (p.1 ∈ left)).map fun _ => PyData.int 1) :=
      lc_map ps fun p _ => by
        obtain ⟨a, b⟩ := p
        refine ⟨_, rfl, ?_, fun _ => ⟨.fr (.int 1), ?_, rfl⟩⟩
        · by_cases hb : b = t
          · repeat first | walk_at "vl" | simp only [in_ints, hb]
          · repeat first | walk_at "vl" | simp only [in_ints, hb]
        · repeat first | walk_at "vl"
    refine ⟨_, rfl, ?_, fun _ => ⟨.fr (.int t), ?_, rfl⟩⟩
    · unfold Elo
      repeat first | walk_at "vl" | simp only [h1, len0]
    · unfold Elo
      repeat first | walk_at "vl"
end K
namespace K
open PySem PySem.Spec PyProof.Rows L2 VL
variable [Vx]
local macro_rules | `(tactic| walk_at "vl") => `(tactic| simp only [ap_fSU, su_ti, ap_fCallE, so_frl, so_frt, so_ol, so_bw, so_btl, so_btt, ap_fEnumQ, ap_pVar, ap_treeAt, ap_putT, ap_pIx, px_ol, px_od, useP_ok, ap_gPlApp, appK_ol, ap_gPlSet, ps_ol, ps_od, lf_fr, lf_ol, lf_od, tT_ol, tT_od, tT_ot, td_fz, td_ol, td_od, ap_gDPut, ap_gDDel, ap_fKGet, ap_fKIn, tb_nil, tb_cons, ap_fDisp, evp_nil, evp_cons, dmerge_eq, ap_fDNew, isk_i, isk_s, keq_ii, keq_ss, dput_nil, dput_cons, dget_nil, dget_cons, okd_nil, okd_s, okd_i, ix_d, in_ds, in_di, List.foldl_cons, List.foldl_nil, Option.isSome_some, Option.isSome_none, ap_fRng3, ap_oRng3, ap_fRev, rev_l, ap_fCallL, ff_nil, ff_cons, ap_fIsi, isi_n, isi_b, isi_i, isi_s, isi_l, isi_t, ap_isiB, fnR_eq, ap_gSeq, ap_gNext, ap_gCont, ap_gBreak, ap_gFz, ap_gIf, br_t, br_f, br_b, useS_ok, ap_gRet, ap_gSet, ap_gOwn, ap_gRetV, ap_gApp, ap_gAug, useL_ok, ap_gFor, ap_gForget, ap_gAsg, ap_gSetIx, ap_fVar, ap_fC, ap_fOp, ap_fB, ap_toB, ap_fTr, ap_fCall, ap_fBlt, ap_fNil, ap_fCons, ap_fLst, ap_fTup, ap_fzL, fzAll_nil, fzAll_fr, fzAll_ol, fzAll_od, fzAll_bw, fz_fr, fz_ol, fz_od, fz_bw, ap_callR, sure_ok, sure_bad, ap_fSl, ap_fNoP, ap_fP, ap_oInt, ap_fIter, ap_fRng1, ap_fRng2, ap_oRng1, ap_oRng2, lo_fr, lo_ol, lo_bw, to_fr, ap_fRep, ap_oRep, okite1, okite2, bind_ite, rbind_ite, fin_ite, fin_rt_fr, fin_rt_ol, fin_nx, fin_bad, brR_b, ap_fAnd, ap_fOr, ap_fNot, ap_notR, ap_fNeg, ap_dNeg, ap_fIf, ap_fChain, ap_fLc, ap_tAndB, ap_tOrB, ap_tNotB, ap_ttYes, tr_bool, tr_list, tr_tuple, tr_none, tr_int, ap_sName, ap_sTup, ap_sCons, ap_sNil, w_nil, w_cons, slot_fr, slot_ol, slot_od, ap_frz, add_ii, add_tt, add_ll, add_ss, sub_ii, mul_ii, mod_ii, div_ii, pow_ii, lt_ii, le_ii, gt_ii, ge_ii, isn_, notn_, isNone_n, isNone_i, isNone_t, isNone_l, isNone_s, isNone_b, rk_none, rk_bool, rk_int, rk_str, rk_list, rk_tuple, eq_rk, ne_rk, inl_rk, int_rk, inB_f, inB_t, ix_l, ix_t, atD_eq, atI_0, atI_1, atI_2, atI_3, atI_4, atI_5, atI_6, atI_7, atI_map, sl_l, sl_t, len_l, len_t, min_ii, max_ii, list_l, list_t, tuple_l, tuple_t, int_i, int_b, ofString_inj, eqv_ii, eqv_ss, eqv_bb, eqv_nn, eqv_ni, eqv_in, eqv_is, eqv_si, eqv_ns, eqv_sn, eqv_ll, eqv_tt, eqva_nn, eqva_cc, eqva_nc, eqva_cn, Rs.bind_ok, Rs.bind_bad, So.bind_nx, So.bind_rt, So.bind_ct, So.bind_bk, So.bind_bad, R.d_fr, R.d_ol, R.d_od, R.d_bw, retR_fr, retR_ol, retR_od, retR_ot, setR_fr, setR_ol, setR_od, setR_ot, ownR_fr, ownR_ol, ownR_od, ownR_ot, ownT_ol, ownT_od, ownT_ot, ap_gOwnT, opR_frfr, opR_frol, opR_frod, opR_frbw, opR_olfr, opR_olol, opR_olod, opR_olbw, opR_odfr, opR_odol, opR_odod, opR_odbw, opR_bwfr, opR_bwol, opR_bwod, opR_bwbw, opR_bt1, opR_bt2, immR_fr, immR_ol, immR_od, immR_bt, immR_bw, imm_n, imm_b, imm_i, imm_s, imm_t, imm_l, imm_d, imms_n, imms_c, opU_fr, opU_ol, opU_od, opU_bw, opU_bt, bt_fr, bt_ol, bt_od, bt_bw, bt_bt, ap_opL, fz_bt, fz_ot, fzAll_bt, fzAll_ot, lo_bt, to_bt, slot_ot, fin_rt_od, fin_rt_ot, fin_ex, R.d_bt, R.d_ot, Rs.bind_ex, So.bind_ex,
  List.map_cons, List.map_nil, List.length_cons, List.length_nil, List.length_map, List.replicate_succ, List.replicate_zero, List.cons_append, List.nil_append, List.append_nil, List.getElem?_cons_zero, List.getElem?_cons_succ, List.set_cons_zero, List.set_cons_succ, List.all_cons, List.all_nil, List.any_cons, List.any_nil, Nat.zero_add, Nat.add_one_sub_one, Nat.reduceAdd, Nat.reduceSub, Nat.reduceMul, Nat.reduceLeDiff, Int.cast_ofNat_Int, Int.reduceLT, Int.reduceLE, Int.reduceAdd, Int.reduceMul, Int.reduceEq, Int.reduceNe, Int.reduceToNat, Int.reduceNeg, Int.reducePow, String.reduceEq, decide_true, decide_false, Bool.false_eq_true, Bool.true_eq_false, Bool.or_true, Bool.or_false, Bool.true_or, Bool.false_or, Bool.and_true, Bool.true_and, Bool.and_false, Bool.false_and, Bool.not_true, Bool.not_false, Bool.and_self, Bool.or_self, if_true, if_false, ite_true, ite_false, reduceIte, Option.bind_some, Option.bind_none, Option.map_some, Option.map_none, and_self, and_true, true_and, eq_self])
open M48 in
theorem lo_none (ns : List Int) (ps : Pairs) (left acc : List Int) (i : D) (h : free ps left = []) : ∃ ρ, b__law_order_1 (Elo ns ps left acc (.fr i)) = .rt (.fr .none) ρ := by
  have h1 := lo_free ns ps left acc (.fr i)
  rw [h] at h1
  unfold Elo at h1
  unfold b__law_order_1 Elo
  repeat first | walk_at "vl" | simp only [h1]
  try exact ⟨_, rfl⟩
open M48 in
theorem lo_some (ns : List Int) (ps : Pairs) (left acc : List Int) (i : D) (t : Int) (r : List Int) (hz : acc.length ≤ 1000) (h : free ps left = t :: r) : b__law_order_1 (Elo ns ps left acc (.fr i)) = .nx (Elo ns ps (left.filter fun x => decide (x ≠ t)) (acc ++ [t]) .un) := by
  have h1 := lo_free ns ps left acc (.fr i)
  rw [h] at h1
  unfold Elo at h1
  have z := sz_small (show acc.length ≤ 1000000 by omega)
  have h2 : lcLoop (sName 6) (fB (fOp dNe (fVar 6) (fOp dIx (fVar 5) (fC (.int 0))))) (fVar 6) [.fr (.list (ns.map .int)), .fr (.list (ps.map pr)), .fr (.list (left.map .int)), .ol ((acc ++ [t]).map .int), .fr i, .fr (.list (.int t :: r.map .int)), .un, .un, .un] (left.map PyData.int) = .ok ((left.filter fun x => decide (x ≠ t)).map .int) :=
    lc_map left fun x _ => by
      refine ⟨_, rfl, ?_, fun _ => ⟨.fr (.int x), ?_, rfl⟩⟩
      · by_cases e : x = t
        · repeat first | walk_at "vl" | simp only [e]
          try simp
        · repeat first | walk_at "vl" | simp only [e]
          try simp [e]
      · repeat first | walk_at "vl"
  simp only [List.map_append, List.map_cons, List.map_nil] at h2
  simp only [List.map_cons] at h1
  have hl : ¬ ((((r.length + 1 : Nat)) : Int) = 0) := by omega
  unfold b__law_order_1 Elo
  repeat first | walk_at "vl" | simp only [h1, h2, z, hl, List.map_append]
  try rfl
end K
namespace K
open PySem PySem.Spec PyProof.Rows L2 VL
variable [Vx]
local macro_rules | `(tactic| walk_at "vl") => `(tactic| simp only [ap_fSU, su_ti, ap_fCallE, so_frl, so_frt, so_ol, so_bw, so_btl, so_btt, ap_fEnumQ, ap_pVar, ap_treeAt, ap_putT, ap_pIx, px_ol, px_od, useP_ok, ap_gPlApp, appK_ol, ap_gPlSet, ps_ol, ps_od, lf_fr, lf_ol, lf_od, tT_ol, tT_od, tT_ot, td_fz, td_ol, td_od, ap_gDPut, ap_gDDel, ap_fKGet, ap_fKIn, tb_nil, tb_cons, ap_fDisp, evp_nil, evp_cons, dmerge_eq, ap_fDNew, isk_i, isk_s, keq_ii, keq_ss, dput_nil, dput_cons, dget_nil, dget_cons, okd_nil, okd_s, okd_i, ix_d, in_ds, in_di, List.foldl_cons, List.foldl_nil, Option.isSome_some, Option.isSome_none, ap_fRng3, ap_oRng3, ap_fRev, rev_l, ap_fCallL, ff_nil, ff_cons, ap_fIsi, isi_n, isi_b, isi_i, isi_s, isi_l, isi_t, ap_isiB, fnR_eq, ap_gSeq, ap_gNext, ap_gCont, ap_gBreak, ap_gFz, ap_gIf, br_t, br_f, br_b, useS_ok, ap_gRet, ap_gSet, ap_gOwn, ap_gRetV, ap_gApp, ap_gAug, useL_ok, ap_gFor, ap_gForget, ap_gAsg, ap_gSetIx, ap_fVar, ap_fC, ap_fOp, ap_fB, ap_toB, ap_fTr, ap_fCall, ap_fBlt, ap_fNil, ap_fCons, ap_fLst, ap_fTup, ap_fzL, fzAll_nil, fzAll_fr, fzAll_ol, fzAll_od, fzAll_bw, fz_fr, fz_ol, fz_od, fz_bw, ap_callR, sure_ok, sure_bad, ap_fSl, ap_fNoP, ap_fP, ap_oInt, ap_fIter, ap_fRng1, ap_fRng2, ap_oRng1, ap_oRng2, lo_fr, lo_ol, lo_bw, to_fr, ap_fRep, ap_oRep, okite1, okite2, bind_ite, rbind_ite, fin_ite, fin_rt_fr, fin_rt_ol, fin_nx, fin_bad, brR_b, ap_fAnd, ap_fOr, ap_fNot, ap_notR, ap_fNeg, ap_dNeg, ap_fIf, ap_fChain, ap_fLc, ap_tAndB, ap_tOrB, ap_tNotB, ap_ttYes, tr_bool, tr_list, tr_tuple, tr_none, tr_int, ap_sName, ap_sTup, ap_sCons, ap_sNil, w_nil, w_cons, slot_fr, slot_ol, slot_od, ap_frz, add_ii, add_tt, add_ll, add_ss, sub_ii, mul_ii, mod_ii, div_ii, pow_ii, lt_ii, le_ii, gt_ii, ge_ii, isn_, notn_, isNone_n, isNone_i, isNone_t, isNone_l, isNone_s, isNone_b, rk_none, rk_bool, rk_int, rk_str, rk_list, rk_tuple, eq_rk, ne_rk, inl_rk, int_rk, inB_f, inB_t, ix_l, ix_t, atD_eq, atI_0, atI_1, atI_2, atI_3, atI_4, atI_5, atI_6, atI_7, atI_map, sl_l, sl_t, len_l, len_t, min_ii, max_ii, list_l, list_t, tuple_l, tuple_t, int_i, int_b, ofString_inj, eqv_ii, eqv_ss, eqv_bb, eqv_nn, eqv_ni, eqv_in, eqv_is, eqv_si, eqv_ns, eqv_sn, eqv_ll, eqv_tt, eqva_nn, eqva_cc, eqva_nc, eqva_cn, Rs.bind_ok, Rs.bind_bad, So.bind_nx, So.bind_rt, So.bind_ct, So.bind_bk, So.bind_bad, R.d_fr, R.d_ol, R.d_od, R.d_bw, retR_fr, retR_ol, retR_od, retR_ot, setR_fr, setR_ol, setR_od, setR_ot, ownR_fr, ownR_ol, ownR_od, ownR_ot, ownT_ol, ownT_od, ownT_ot, ap_gOwnT, opR_frfr, opR_frol, opR_frod, opR_frbw, opR_olfr, opR_olol, opR_olod, opR_olbw, opR_odfr, opR_odol, opR_odod, opR_odbw, opR_bwfr, opR_bwol, opR_bwod, opR_bwbw, opR_bt1, opR_bt2, immR_fr, immR_ol, immR_od, immR_bt, immR_bw, imm_n, imm_b, imm_i, imm_s, imm_t, imm_l, imm_d, imms_n, imms_c, opU_fr, opU_ol, opU_od, opU_bw, opU_bt, bt_fr, bt_ol, bt_od, bt_bw, bt_bt, ap_opL, fz_bt, fz_ot, fzAll_bt, fzAll_ot, lo_bt, to_bt, slot_ot, fin_rt_od, fin_rt_ot, fin_ex, R.d_bt, R.d_ot, Rs.bind_ex, So.bind_ex,
  List.map_cons, List.map_nil, List.length_cons, List.length_nil, List.length_map, List.replicate_succ, List.replicate_zero, List.cons_append, List.nil_append, List.append_nil, List.getElem?_cons_zero, List.getElem?_cons_succ, List.set_cons_zero, List.set_cons_succ, List.all_cons, List.all_nil, List.any_cons, List.any_nil, Nat.zero_add, Nat.add_one_sub_one, Nat.reduceAdd, Nat.reduceSub, Nat.reduceMul, Nat.reduceLeDiff, Int.cast_ofNat_Int, Int.reduceLT, Int.reduceLE, Int.reduceAdd, Int.reduceMul, Int.reduceEq, Int.reduceNe, Int.reduceToNat, Int.reduceNeg, Int.reducePow, String.reduceEq, decide_true, decide_false, Bool.false_eq_true, Bool.true_eq_false, Bool.or_true, Bool.or_false, Bool.true_or, Bool.false_or, Bool.and_true, Bool.true_and, Bool.and_false, Bool.false_and, Bool.not_true, Bool.not_false, Bool.and_self, Bool.or_self, if_true, if_false, ite_true, ite_false, reduceIte, Option.bind_some, Option.bind_none, Option.map_some, Option.map_none, and_self, and_true, true_and, eq_self])
open M48 in
def ordR : Option (List Int) → R
  | none => .fr .none
  | some os => .ol (os.map .int)
open M48 in
theorem lo_loop (ns : List Int) (ps : Pairs) : ∀ (is : List D) (left acc : List Int), acc.length + is.length ≤ 1000 →
    (kahn ps is.length left = none → ∃ ρ, gLoop (sName 4) b__law_order_1 is (Elo ns ps left acc .un) = .rt (.fr .none) ρ) ∧
    (∀ os, kahn ps is.length left = some os → ∃ left', gLoop (sName 4) b__law_order_1 is (Elo ns ps left acc .un) = .nx (Elo ns ps left' (acc ++ os) .un))
  | [], left, acc, _ => ⟨fun h => (nomatch h), fun os h => by
      cases h
      exact ⟨left, by rw [List.append_nil]; rfl⟩⟩
  | i :: is, left, acc, hl => by
    rw [List.length_cons] at hl
    have e : sName 4 i (Elo ns ps left acc .un) = some (Elo ns ps left acc (.fr i)) := rfl
    rw [List.length_cons, kahn, VL.gLoop_cons, e]
    dsimp only
    cases hf : free ps left with
    | nil =>
      obtain ⟨ρ, h⟩ := lo_none ns ps left acc i hf
      rw [h]
      exact ⟨fun _ => ⟨ρ, rfl⟩, fun os z => nomatch z⟩
    | cons t r =>
      rw [lo_some ns ps left acc i t r (by omega) hf]
      dsimp only
      obtain ⟨g1, g2⟩ := lo_loop ns ps is (left.filter fun x => decide (x ≠ t)) (acc ++ [t]) (by rw [List.length_append, List.length_singleton]; omega)
      refine ⟨fun z => g1 (Option.map_eq_none_iff.mp z), fun os z => ?_⟩
      obtain ⟨os', z1, rfl⟩ := Option.map_eq_some_iff.mp z
      obtain ⟨left', h⟩ := g2 os' z1
      exact ⟨left', by rw [h, List.append_assoc]; rfl⟩
open M48 in
theorem lo_ok (ns ys : List Int) (ps : Pairs) (hn : ns.Nodup) (hy : ys.Pairwise (· < ·)) (hm : ∀ p, p ∈ ns ↔ p ∈ ys) (hl : ns.length ≤ 100) : F__law_order [.list (ns.map .int), .list (ps.map pr)] = .ok (ordR (kahn ps ns.length ys)) := by
  have hs := HL.sort_rise hn hy hm
  obtain ⟨g1, g2⟩ := lo_loop ns ps (rng 0 ns.length) ys [] (by unfold rng; rw [List.length_map, List.length_range]; simp; omega)
  have el : (rng 0 ns.length).length = ns.length := by unfold rng; rw [List.length_map, List.length_range]
  rw [el] at g1 g2
  unfold Elo at g1 g2
  have r1 := rngOk_n (show ns.length ≤ 8000000 by omega)
  cases hk : kahn ps ns.length ys with
  | none =>
    obtain ⟨ρ, h⟩ := g1 hk
    unfold F__law_order g__law_order
    generalize b__law_order_1 = bb at h ⊢
    simp only [List.map_nil] at h
    repeat first | walk_at "vl" | simp only [hs, r1, Int.toNat_natCast, h]
    try rfl
  | some os =>
    obtain ⟨left', h⟩ := g2 os hk
    unfold F__law_order g__law_order
    generalize b__law_order_1 = bb at h ⊢
    simp only [List.map_nil, List.nil_append] at h
    repeat first | walk_at "vl" | simp only [hs, r1, Int.toNat_natCast, h]
    try rfl
end K
namespace K
open PySem PySem.Spec PyProof.Rows L2 VL
variable [Vx]
local macro_rules | `(tactic| walk_at "vl") => `(tactic| simp only [ap_fSU, su_ti, ap_fCallE, so_frl, so_frt, so_ol, so_bw, so_btl, so_btt, ap_fEnumQ, ap_pVar, ap_treeAt, ap_putT, ap_pIx, px_ol, px_od, useP_ok, ap_gPlApp, appK_ol, ap_gPlSet, ps_ol, ps_od, lf_fr, lf_ol, lf_od, tT_ol, tT_od, tT_ot, td_fz, td_ol, td_od, ap_gDPut, ap_gDDel, ap_fKGet, ap_fKIn, tb_nil, tb_cons, ap_fDisp, evp_nil, evp_cons, dmerge_eq, ap_fDNew, isk_i, isk_s, keq_ii, keq_ss, dput_nil, dput_cons, dget_nil, dget_cons, okd_nil, okd_s, okd_i, ix_d, in_ds, in_di, List.foldl_cons, List.foldl_nil, Option.isSome_some, Option.isSome_none, ap_fRng3, ap_oRng3, ap_fRev, rev_l, ap_fCallL, ff_nil, ff_cons, ap_fIsi, isi_n, isi_b, isi_i, isi_s, isi_l, isi_t, ap_isiB, fnR_eq, ap_gSeq, ap_gNext, ap_gCont, ap_gBreak, ap_gFz, ap_gIf, br_t, br_f, br_b, useS_ok, ap_gRet, ap_gSet, ap_gOwn, ap_gRetV, ap_gApp, ap_gAug, useL_ok, ap_gFor, ap_gForget, ap_gAsg, ap_gSetIx, ap_fVar, ap_fC, ap_fOp, ap_fB, ap_toB, ap_fTr, ap_fCall, ap_fBlt, ap_fNil, ap_fCons, ap_fLst, ap_fTup, ap_fzL, fzAll_nil, fzAll_fr, fzAll_ol, fzAll_od, fzAll_bw, fz_fr, fz_ol, fz_od, fz_bw, ap_callR, sure_ok, sure_bad, ap_fSl, ap_fNoP, ap_fP, ap_oInt, ap_fIter, ap_fRng1, ap_fRng2, ap_oRng1, ap_oRng2, lo_fr, lo_ol, lo_bw, to_fr, ap_fRep, ap_oRep, okite1, okite2, bind_ite, rbind_ite, fin_ite, fin_rt_fr, fin_rt_ol, fin_nx, fin_bad, brR_b, ap_fAnd, ap_fOr, ap_fNot, ap_notR, ap_fNeg, ap_dNeg, ap_fIf, ap_fChain, ap_fLc, ap_tAndB, ap_tOrB, ap_tNotB, ap_ttYes, tr_bool, tr_list, tr_tuple, tr_none, tr_int, ap_sName, ap_sTup, ap_sCons, ap_sNil, w_nil, w_cons, slot_fr, slot_ol, slot_od, ap_frz, add_ii, add_tt, add_ll, add_ss, sub_ii, mul_ii, mod_ii, div_ii, pow_ii, lt_ii, le_ii, gt_ii, ge_ii, isn_, notn_, isNone_n, isNone_i, isNone_t, isNone_l, isNone_s, isNone_b, rk_none, rk_bool, rk_int, rk_str, rk_list, rk_tuple, eq_rk, ne_rk, inl_rk, int_rk, inB_f, inB_t, ix_l, ix_t, atD_eq, atI_0, atI_1, atI_2, atI_3, atI_4, atI_5, atI_6, atI_7, atI_map, sl_l, sl_t, len_l, len_t, min_ii, max_ii, list_l, list_t, tuple_l, tuple_t, int_i, int_b, ofString_inj, eqv_ii, eqv_ss, eqv_bb, eqv_nn, eqv_ni, eqv_in, eqv_is, eqv_si, eqv_ns, eqv_sn, eqv_ll, eqv_tt, eqva_nn, eqva_cc, eqva_nc, eqva_cn, Rs.bind_ok, Rs.bind_bad, So.bind_nx, So.bind_rt, So.bind_ct, So.bind_bk, So.bind_bad, R.d_fr, R.d_ol, R.d_od, R.d_bw, retR_fr, retR_ol, retR_od, retR_ot, setR_fr, setR_ol, setR_od, setR_ot, ownR_fr, ownR_ol, ownR_od, ownR_ot, ownT_ol, ownT_od, ownT_ot, ap_gOwnT, opR_frfr, opR_frol, opR_frod, opR_frbw, opR_olfr, opR_olol, opR_olod, opR_olbw, opR_odfr, opR_odol, opR_odod, opR_odbw, opR_bwfr, opR_bwol, opR_bwod, opR_bwbw, opR_bt1, opR_bt2, immR_fr, immR_ol, immR_od, immR_bt, immR_bw, imm_n, imm_b, imm_i, imm_s, imm_t, imm_l, imm_d, imms_n, imms_c, opU_fr, opU_ol, opU_od, opU_bw, opU_bt, bt_fr, bt_ol, bt_od, bt_bw, bt_bt, ap_opL, fz_bt, fz_ot, fzAll_bt, fzAll_ot, lo_bt, to_bt, slot_ot, fin_rt_od, fin_rt_ot, fin_ex, R.d_bt, R.d_ot, Rs.bind_ex, So.bind_ex,
  List.map_cons, List.map_nil, List.length_cons, List.length_nil, List.length_map, List.replicate_succ, List.replicate_zero, List.cons_append, List.nil_append, List.append_nil, List.getElem?_cons_zero, List.getElem?_cons_succ, List.set_cons_zero, List.set_cons_succ, List.all_cons, List.all_nil, List.any_cons, List.any_nil, Nat.zero_add, Nat.add_one_sub_one, Nat.reduceAdd, Nat.reduceSub, Nat.reduceMul, Nat.reduceLeDiff, Int.cast_ofNat_Int, Int.reduceLT, Int.reduceLE, Int.reduceAdd, Int.reduceMul, Int.reduceEq, Int.reduceNe, Int.reduceToNat, Int.reduceNeg, Int.reducePow, String.reduceEq, decide_true, decide_false, Bool.false_eq_true, Bool.true_eq_false, Bool.or_true, Bool.or_false, Bool.true_or, Bool.false_or, Bool.and_true, Bool.true_and, Bool.and_false, Bool.false_and, Bool.not_true, Bool.not_false, Bool.and_self, Bool.or_self, if_true, if_false, ite_true, ite_false, reduceIte, Option.bind_some, Option.bind_none, Option.map_some, Option.map_none, and_self, and_true, true_and, eq_self])
/-! ### the program's order -/
open M48 in
def Eof (ns : List Int) (ps : Pairs) (left acc : List Int) : En := [.fr (.list (ns.map .int)), .fr (.list (ps.map pr)), .ol (left.map .int), .ol (acc.map .int), .un, .un, .un, .un, .un]
open M48 in
def heldL (ps : Pairs) (left : List Int) : List Int := (ps.filter fun p => decide (p.1 ∈ left)).map Prod.snd
open M48 in
theorem of_held (ns : List Int) (ps : Pairs) (left acc : List Int) : lcLoop (sTup (sCons (sName 7) (sCons (sName 8) (sNil)))) (fB (fOp (dIn false) (fVar 7) (fVar 2))) (fVar 8) (Eof ns ps left acc) (ps.map pr) = .ok ((heldL ps left).map .int) := by
  have h : lcLoop (sTup (sCons (sName 7) (sCons (sName 8) (sNil)))) (fB (fOp (dIn false) (fVar 7) (fVar 2))) (fVar 8) (Eof ns ps left acc) (ps.map pr) = .ok ((ps.filter fun p => decide (p.1 ∈ left)).map fun p => PyData.int p.2) :=
    lc_map ps fun p _ => by
      obtain ⟨a, b⟩ := p
      refine ⟨_, rfl, ?_, fun _ => ⟨.fr (.int b), ?_, rfl⟩⟩
      · unfold Eof
        repeat first | walk_at "vl" | simp only [in_ints]
      · unfold Eof
        repeat first | walk_at "vl"
  rw [h]
  unfold heldL
  rw [List.map_map]
  rfl
open M48 in
theorem held_free (ps : Pairs) (left : List Int) : (left.filter fun t => !decide (t ∈ heldL ps left)) = free ps left := by
  unfold free heldL
  congr 1
  funext t
  rw [← Bool.not_not (ps.any _)]
  congr 1
  rw [Bool.eq_iff_iff]
  simp only [decide_eq_true_eq, List.mem_map, List.mem_filter, Bool.not_not, List.any_eq_true, Bool.and_eq_true]
  constructor
  · rintro ⟨p, ⟨h1, h2⟩, h3⟩
    exact ⟨p, h1, h3, h2⟩
  · rintro ⟨p, h1, h3, h2⟩
    exact ⟨p, ⟨h1, h2⟩, h3⟩
open M48 in
theorem of_ready (ns : List Int) (ps : Pairs) (left acc : List Int) : lcLoop (sName 6) (fB (fOp (dIn true) (fVar 6) (fVar 4))) (fVar 6) [.fr (.list (ns.map .int)), .fr (.list (ps.map pr)), .ol (left.map .int), .ol (acc.map .int), .fr (.list ((heldL ps left).map .int)), .un, .un, .un, .un] (left.map PyData.int) = .ok ((free ps left).map .int) := by
  rw [← held_free]
  exact lc_map left fun t _ => by
    refine ⟨_, rfl, ?_, fun _ => ⟨.fr (.int t), ?_, rfl⟩⟩
    · repeat first | walk_at "vl" | simp only [in_ints]
    · repeat first | walk_at "vl"
end K
namespace K
open PySem PySem.Spec PyProof.Rows L2 VL
variable [Vx]
local macro_rules | `(tactic| walk_at "vl") => `(tactic| simp only [ap_fSU, su_ti, ap_fCallE, so_frl, so_frt, so_ol, so_bw, so_btl, so_btt, ap_fEnumQ, ap_pVar, ap_treeAt, ap_putT, ap_pIx, px_ol, px_od, useP_ok, ap_gPlApp, appK_ol, ap_gPlSet, ps_ol, ps_od, lf_fr, lf_ol, lf_od, tT_ol, tT_od, tT_ot, td_fz, td_ol, td_od, ap_gDPut, ap_gDDel, ap_fKGet, ap_fKIn, tb_nil, tb_cons, ap_fDisp, evp_nil, evp_cons, dmerge_eq, ap_fDNew, isk_i, isk_s, keq_ii, keq_ss, dput_nil, dput_cons, dget_nil, dget_cons, okd_nil, okd_s, okd_i, ix_d, in_ds, in_di, List.foldl_cons, List.foldl_nil, Option.isSome_some, Option.isSome_none, ap_fRng3, ap_oRng3, ap_fRev, rev_l, ap_fCallL, ff_nil, ff_cons, ap_fIsi, isi_n, isi_b, isi_i, isi_s, isi_l, isi_t, ap_isiB, fnR_eq, ap_gSeq, ap_gNext, ap_gCont, ap_gBreak, ap_gFz, ap_gIf, br_t, br_f, br_b, useS_ok, ap_gRet, ap_gSet, ap_gOwn, ap_gRetV, ap_gApp, ap_gAug, useL_ok, ap_gFor, ap_gForget, ap_gAsg, ap_gSetIx, ap_fVar, ap_fC, ap_fOp, ap_fB, ap_toB, ap_fTr, ap_fCall, ap_fBlt, ap_fNil, ap_fCons, ap_fLst, ap_fTup, ap_fzL, fzAll_nil, fzAll_fr, fzAll_ol, fzAll_od, fzAll_bw, fz_fr, fz_ol, fz_od, fz_bw, ap_callR, sure_ok, sure_bad, ap_fSl, ap_fNoP, ap_fP, ap_oInt, ap_fIter, ap_fRng1, ap_fRng2, ap_oRng1, ap_oRng2, lo_fr, lo_ol, lo_bw, to_fr, ap_fRep, ap_oRep, okite1, okite2, bind_ite, rbind_ite, fin_ite, fin_rt_fr, fin_rt_ol, fin_nx, fin_bad, brR_b, ap_fAnd, ap_fOr, ap_fNot, ap_notR, ap_fNeg, ap_dNeg, ap_fIf, ap_fChain, ap_fLc, ap_tAndB, ap_tOrB, ap_tNotB, ap_ttYes, tr_bool, tr_list, tr_tuple, tr_none, tr_int, ap_sName, ap_sTup, ap_sCons, ap_sNil, w_nil, w_cons, slot_fr, slot_ol, slot_od, ap_frz, add_ii, add_tt, add_ll, add_ss, sub_ii, mul_ii, mod_ii, div_ii, pow_ii, lt_ii, le_ii, gt_ii, ge_ii, isn_, notn_, isNone_n, isNone_i, isNone_t, isNone_l, isNone_s, isNone_b, rk_none, rk_bool, rk_int, rk_str, rk_list, rk_tuple, eq_rk, ne_rk, inl_rk, int_rk, inB_f, inB_t, ix_l, ix_t, atD_eq, atI_0, atI_1, atI_2, atI_3, atI_4, atI_5, atI_6, atI_7, atI_map, sl_l, sl_t, len_l, len_t, min_ii, max_ii, list_l, list_t, tuple_l, tuple_t, int_i, int_b, ofString_inj, eqv_ii, eqv_ss, eqv_bb, eqv_nn, eqv_ni, eqv_in, eqv_is, eqv_si, eqv_ns, eqv_sn, eqv_ll, eqv_tt, eqva_nn, eqva_cc, eqva_nc, eqva_cn, Rs.bind_ok, Rs.bind_bad, So.bind_nx, So.bind_rt, So.bind_ct, So.bind_bk, So.bind_bad, R.d_fr, R.d_ol, R.d_od, R.d_bw, retR_fr, retR_ol, retR_od, retR_ot, setR_fr, setR_ol, setR_od, setR_ot, ownR_fr, ownR_ol, ownR_od, ownR_ot, ownT_ol, ownT_od, ownT_ot, ap_gOwnT, opR_frfr, opR_frol, opR_frod, opR_frbw, opR_olfr, opR_olol, opR_olod, opR_olbw, opR_odfr, opR_odol, opR_odod, opR_odbw, opR_bwfr, opR_bwol, opR_bwod, opR_bwbw, opR_bt1, opR_bt2, immR_fr, immR_ol, immR_od, immR_bt, immR_bw, imm_n, imm_b, imm_i, imm_s, imm_t, imm_l, imm_d, imms_n, imms_c, opU_fr, opU_ol, opU_od, opU_bw, opU_bt, bt_fr, bt_ol, bt_od, bt_bw, bt_bt, ap_opL, fz_bt, fz_ot, fzAll_bt, fzAll_ot, lo_bt, to_bt, slot_ot, fin_rt_od, fin_rt_ot, fin_ex, R.d_bt, R.d_ot, Rs.bind_ex, So.bind_ex,
  List.map_cons, List.map_nil, List.length_cons, List.length_nil, List.length_map, List.replicate_succ, List.replicate_zero, List.cons_append, List.nil_append, List.append_nil, List.getElem?_cons_zero, List.getElem?_cons_succ, List.set_cons_zero, List.set_cons_succ, List.all_cons, List.all_nil, List.any_cons, List.any_nil, Nat.zero_add, Nat.add_one_sub_one, Nat.reduceAdd, Nat.reduceSub, Nat.reduceMul, Nat.reduceLeDiff, Int.cast_ofNat_Int, Int.reduceLT, Int.reduceLE, Int.reduceAdd, Int.reduceMul, Int.reduceEq, Int.reduceNe, Int.reduceToNat, Int.reduceNeg, Int.reducePow, String.reduceEq, decide_true, decide_false, Bool.false_eq_true, Bool.true_eq_false, Bool.or_true, Bool.or_false, Bool.true_or, Bool.false_or, Bool.and_true, Bool.true_and, Bool.and_false, Bool.false_and, Bool.not_true, Bool.not_false, Bool.and_self, Bool.or_self, if_true, if_false, ite_true, ite_false, reduceIte, Option.bind_some, Option.bind_none, Option.map_some, Option.map_none, and_self, and_true, true_and, eq_self])
open M48 in
theorem of_none (ns : List Int) (ps : Pairs) (left acc : List Int) (h : free ps left = []) : ∃ ρ, b_order_of_1 (Eof ns ps left acc) = .rt (.fr .none) ρ := by
  have h1 := of_held ns ps left acc
  have h2 := of_ready ns ps left acc
  rw [h] at h2
  unfold Eof at h1
  unfold b_order_of_1 Eof
  repeat first | walk_at "vl" | simp only [h1, h2]
  try exact ⟨_, rfl⟩
open M48 in
theorem of_some (ns : List Int) (ps : Pairs) (left acc : List Int) (t : Int) (r : List Int) (hn : left.Nodup) (hz : acc.length ≤ 1000) (h : free ps left = t :: r) : b_order_of_1 (Eof ns ps left acc) = .nx (Eof ns ps (left.filter fun x => decide (x ≠ t)) (acc ++ [t])) := by
  have h1 := of_held ns ps left acc
  have h2 := of_ready ns ps left acc
  rw [h] at h2
  unfold Eof at h1
  have z := sz_small (show acc.length ≤ 1000000 by omega)
  have ht : t ∈ left := (mem_free.mp (by rw [h]; exact List.mem_cons_self)).1
  have e : (left.filter fun x => decide (x ≠ t)) = left.erase t := by
    rw [List.Nodup.erase_eq_filter hn]
    congr 1
    funext x
    by_cases z : x = t <;> simp [z]
  rw [e]
  simp only [List.map_cons] at h2
  have hl : ¬ ((((r.length + 1 : Nat)) : Int) = 0) := by omega
  have rem : ∀ acc' x4 x5, gRem 2 (fOp dIx (fVar 5) (fC (.int 0))) [.fr (.list (ns.map .int)), .fr (.list (ps.map pr)), .ol (left.map .int), .ol acc', x4, .fr (.list (.int t :: x5)), .un, .un, .un] = .nx [.fr (.list (ns.map .int)), .fr (.list (ps.map pr)), .ol ((left.erase t).map .int), .ol acc', x4, .fr (.list (.int t :: x5)), .un, .un, .un] := fun acc' x4 x5 => by
    have e5 : fOp dIx (fVar 5) (fC (.int 0)) [.fr (.list (ns.map .int)), .fr (.list (ps.map pr)), .ol (left.map .int), .ol acc', x4, .fr (.list (.int t :: x5)), .un, .un, .un] = .ok (.fr (.int t)) := by
      repeat first | walk_at "vl"
      try rfl
    unfold gRem
    rw [e5]
    dsimp only [List.getElem?_cons_succ, List.getElem?_cons_zero]
    rw [VL.numsOf_map]
    dsimp only
    rw [if_pos ht]
    rfl
  unfold b_order_of_1 Eof
  repeat first | walk_at "vl" | simp only [h1, h2, z, hl, rem, List.map_append]
  try rfl
open M48 in
def ofT : En → Rs Bool := fB (fOp dGt (fBlt dLen (fCons (fVar 2) (fNil))) (fC (.int 0)))
open M48 in
theorem ofT_eq (ns : List Int) (ps : Pairs) (left acc : List Int) : ofT (Eof ns ps left acc) = .ok (decide (0 < left.length)) := by
  unfold ofT Eof
  have e : decide ((0 : Int) < (left.length : Int)) = decide (0 < left.length) := decide_eq_decide.mpr (by omega)
  repeat first | walk_at "vl" | simp only [e]
open M48 in
theorem of_loop (ns : List Int) (ps : Pairs) : ∀ (n fuel : Nat) (left acc : List Int), left.length = n → n < fuel → left.Nodup → acc.length + n ≤ 1000 →
    (kahn ps n left = none → ∃ ρ, whl ofT b_order_of_1 fuel (Eof ns ps left acc) = .rt (.fr .none) ρ) ∧
    (∀ os, kahn ps n left = some os → ∃ left', whl ofT b_order_of_1 fuel (Eof ns ps left acc) = .nx (Eof ns ps left' (acc ++ os)))
  | 0, fuel + 1, left, acc, hn, hf, hd, hz => by
    rw [whl_succ, ofT_eq, hn]
    refine ⟨fun h => (nomatch h), fun os h => ?_⟩
    cases h
    exact ⟨left, by rw [List.append_nil]; rfl⟩
  | n + 1, fuel + 1, left, acc, hn, hf, hd, hz => by
    rw [whl_succ, ofT_eq, hn, kahn]
    rw [show decide (0 < n + 1) = true from decide_eq_true (Nat.succ_pos n)]
    dsimp only
    cases hfr : free ps left with
    | nil =>
      obtain ⟨ρ, h⟩ := of_none ns ps left acc hfr
      rw [h]
      exact ⟨fun _ => ⟨ρ, rfl⟩, fun os z => nomatch z⟩
    | cons t r =>
      rw [of_some ns ps left acc t r hd (by omega) hfr]
      dsimp only
      have ht : t ∈ left := (mem_free.mp (by rw [hfr]; exact List.mem_cons_self)).1
      have hlen := filter_len hd ht
      obtain ⟨g1, g2⟩ := of_loop ns ps n fuel (left.filter fun x => decide (x ≠ t)) (acc ++ [t]) (by omega) (by omega) (hd.filter _) (by rw [List.length_append, List.length_singleton]; omega)
      refine ⟨fun z => g1 (Option.map_eq_none_iff.mp z), fun os z => ?_⟩
      obtain ⟨os', z1, rfl⟩ := Option.map_eq_some_iff.mp z
      obtain ⟨left', h⟩ := g2 os' z1
      exact ⟨left', by rw [h, List.append_assoc]; rfl⟩
end K
namespace K
open PySem PySem.Spec PyProof.Rows L2 VL
variable [Vx]
local macro_rules | `(tactic| walk_at "vl") => `(tactic| simp only [ap_fSU, su_ti, ap_fCallE, so_frl, so_frt, so_ol, so_bw, so_btl, so_btt, ap_fEnumQ, ap_pVar, ap_treeAt, ap_putT, ap_pIx, px_ol, px_od, useP_ok, ap_gPlApp, appK_ol, ap_gPlSet, ps_ol, ps_od, lf_fr, lf_ol, lf_od, tT_ol, tT_od, tT_ot, td_fz, td_ol, td_od, ap_gDPut, ap_gDDel, ap_fKGet, ap_fKIn, tb_nil, tb_cons, ap_fDisp, evp_nil, evp_cons, dmerge_eq, ap_fDNew, isk_i, isk_s, keq_ii, keq_ss, dput_nil, dput_cons, dget_nil, dget_cons, okd_nil, okd_s, okd_i, ix_d, in_ds, in_di, List.foldl_cons, List.foldl_nil, Option.isSome_some, Option.isSome_none, ap_fRng3, ap_oRng3, ap_fRev, rev_l, ap_fCallL, ff_nil, ff_cons, ap_fIsi, isi_n, isi_b, isi_i, isi_s, isi_l, isi_t, ap_isiB, fnR_eq, ap_gSeq, ap_gNext, ap_gCont, ap_gBreak, ap_gFz, ap_gIf, br_t, br_f, br_b, useS_ok, ap_gRet, ap_gSet, ap_gOwn, ap_gRetV, ap_gApp, ap_gAug, useL_ok, ap_gFor, ap_gForget, ap_gAsg, ap_gSetIx, ap_fVar, ap_fC, ap_fOp, ap_fB, ap_toB, ap_fTr, ap_fCall, ap_fBlt, ap_fNil, ap_fCons, ap_fLst, ap_fTup, ap_fzL, fzAll_nil, fzAll_fr, fzAll_ol, fzAll_od, fzAll_bw, fz_fr, fz_ol, fz_od, fz_bw, ap_callR, sure_ok, sure_bad, ap_fSl, ap_fNoP, ap_fP, ap_oInt, ap_fIter, ap_fRng1, ap_fRng2, ap_oRng1, ap_oRng2, lo_fr, lo_ol, lo_bw, to_fr, ap_fRep, ap_oRep, okite1, okite2, bind_ite, rbind_ite, fin_ite, fin_rt_fr, fin_rt_ol, fin_nx, fin_bad, brR_b, ap_fAnd, ap_fOr, ap_fNot, ap_notR, ap_fNeg, ap_dNeg, ap_fIf, ap_fChain, ap_fLc, ap_tAndB, ap_tOrB, ap_tNotB, ap_ttYes, tr_bool, tr_list, tr_tuple, tr_none, tr_int, ap_sName, ap_sTup, ap_sCons, ap_sNil, w_nil, w_cons, slot_fr, slot_ol, slot_od, ap_frz, add_ii, add_tt, add_ll, add_ss, sub_ii, mul_ii, mod_ii, div_ii, pow_ii, lt_ii, le_ii, gt_ii, ge_ii, isn_, notn_, isNone_n, isNone_i, isNone_t, isNone_l, isNone_s, isNone_b, rk_none, rk_bool, rk_int, rk_str, rk_list, rk_tuple, eq_rk, ne_rk, inl_rk, int_rk, inB_f, inB_t, ix_l, ix_t, atD_eq, atI_0, atI_1, atI_2, atI_3, atI_4, atI_5, atI_6, atI_7, atI_map, sl_l, sl_t, len_l, len_t, min_ii, max_ii, list_l, list_t, tuple_l, tuple_t, int_i, int_b, ofString_inj, eqv_ii, eqv_ss, eqv_bb, eqv_nn, eqv_ni, eqv_in, eqv_is, eqv_si, eqv_ns, eqv_sn, eqv_ll, eqv_tt, eqva_nn, eqva_cc, eqva_nc, eqva_cn, Rs.bind_ok, Rs.bind_bad, So.bind_nx, So.bind_rt, So.bind_ct, So.bind_bk, So.bind_bad, R.d_fr, R.d_ol, R.d_od, R.d_bw, retR_fr, retR_ol, retR_od, retR_ot, setR_fr, setR_ol, setR_od, setR_ot, ownR_fr, ownR_ol, ownR_od, ownR_ot, ownT_ol, ownT_od, ownT_ot, ap_gOwnT, opR_frfr, opR_frol, opR_frod, opR_frbw, opR_olfr, opR_olol, opR_olod, opR_olbw, opR_odfr, opR_odol, opR_odod, opR_odbw, opR_bwfr, opR_bwol, opR_bwod, opR_bwbw, opR_bt1, opR_bt2, immR_fr, immR_ol, immR_od, immR_bt, immR_bw, imm_n, imm_b, imm_i, imm_s, imm_t, imm_l, imm_d, imms_n, imms_c, opU_fr, opU_ol, opU_od, opU_bw, opU_bt, bt_fr, bt_ol, bt_od, bt_bw, bt_bt, ap_opL, fz_bt, fz_ot, fzAll_bt, fzAll_ot, lo_bt, to_bt, slot_ot, fin_rt_od, fin_rt_ot, fin_ex, R.d_bt, R.d_ot, Rs.bind_ex, So.bind_ex,
  List.map_cons, List.map_nil, List.length_cons, List.length_nil, List.length_map, List.replicate_succ, List.replicate_zero, List.cons_append, List.nil_append, List.append_nil, List.getElem?_cons_zero, List.getElem?_cons_succ, List.set_cons_zero, List.set_cons_succ, List.all_cons, List.all_nil, List.any_cons, List.any_nil, Nat.zero_add, Nat.add_one_sub_one, Nat.reduceAdd, Nat.reduceSub, Nat.reduceMul, Nat.reduceLeDiff, Int.cast_ofNat_Int, Int.reduceLT, Int.reduceLE, Int.reduceAdd, Int.reduceMul, Int.reduceEq, Int.reduceNe, Int.reduceToNat, Int.reduceNeg, Int.reducePow, String.reduceEq, decide_true, decide_false, Bool.false_eq_true, Bool.true_eq_false, Bool.or_true, Bool.or_false, Bool.true_or, Bool.false_or, Bool.and_true, Bool.true_and, Bool.and_false, Bool.false_and, Bool.not_true, Bool.not_false, Bool.and_self, Bool.or_self, if_true, if_false, ite_true, ite_false, reduceIte, Option.bind_some, Option.bind_none, Option.map_some, Option.map_none, and_self, and_true, true_and, eq_self])
open M48 in
theorem of_ok (ns ys : List Int) (ps : Pairs) (hn : ns.Nodup) (hy : ys.Pairwise (· < ·)) (hm : ∀ p, p ∈ ns ↔ p ∈ ys) (hyl : ys.length = ns.length) (hl : ns.length ≤ 60) : F_order_of [.list (ns.map .int), .list (ps.map pr)] = .ok (ordR (kahn ps ns.length ys)) := by
  have hs := HL.sort_rise hn hy hm
  have hyn : ys.Nodup := hy.imp fun h => Int.ne_of_lt h
  obtain ⟨g1, g2⟩ := of_loop ns ps ns.length 64 ys [] hyl (by omega) hyn (by simp; omega)
  unfold Eof at g1 g2
  cases hk : kahn ps ns.length ys with
  | none =>
    obtain ⟨ρ, h⟩ := g1 hk
    have h : gWhile 64 ofT b_order_of_1 _ = _ := h
    unfold ofT at h
    unfold F_order_of g_order_of
    generalize b_order_of_1 = bb at h ⊢
    simp only [List.map_nil] at h
    repeat first | walk_at "vl" | simp only [hs, h]
    try rfl
  | some os =>
    obtain ⟨left', h⟩ := g2 os hk
    have h : gWhile 64 ofT b_order_of_1 _ = _ := h
    unfold ofT at h
    unfold F_order_of g_order_of
    generalize b_order_of_1 = bb at h ⊢
    simp only [List.map_nil, List.nil_append] at h
    repeat first | walk_at "vl" | simp only [hs, h]
    try rfl
end K
namespace K
open PySem PySem.Spec PyProof.Rows L2 VL
variable [Vx]
local macro_rules | `(tactic| walk_at "vl") => `(tactic| simp only [ap_fSU, su_ti, ap_fCallE, so_frl, so_frt, so_ol, so_bw, so_btl, so_btt, ap_fEnumQ, ap_pVar, ap_treeAt, ap_putT, ap_pIx, px_ol, px_od, useP_ok, ap_gPlApp, appK_ol, ap_gPlSet, ps_ol, ps_od, lf_fr, lf_ol, lf_od, tT_ol, tT_od, tT_ot, td_fz, td_ol, td_od, ap_gDPut, ap_gDDel, ap_fKGet, ap_fKIn, tb_nil, tb_cons, ap_fDisp, evp_nil, evp_cons, dmerge_eq, ap_fDNew, isk_i, isk_s, keq_ii, keq_ss, dput_nil, dput_cons, dget_nil, dget_cons, okd_nil, okd_s, okd_i, ix_d, in_ds, in_di, List.foldl_cons, List.foldl_nil, Option.isSome_some, Option.isSome_none, ap_fRng3, ap_oRng3, ap_fRev, rev_l, ap_fCallL, ff_nil, ff_cons, ap_fIsi, isi_n, isi_b, isi_i, isi_s, isi_l, isi_t, ap_isiB, fnR_eq, ap_gSeq, ap_gNext, ap_gCont, ap_gBreak, ap_gFz, ap_gIf, br_t, br_f, br_b, useS_ok, ap_gRet, ap_gSet, ap_gOwn, ap_gRetV, ap_gApp, ap_gAug, useL_ok, ap_gFor, ap_gForget, ap_gAsg, ap_gSetIx, ap_fVar, ap_fC, ap_fOp, ap_fB, ap_toB, ap_fTr, ap_fCall, ap_fBlt, ap_fNil, ap_fCons, ap_fLst, ap_fTup, ap_fzL, fzAll_nil, fzAll_fr, fzAll_ol, fzAll_od, fzAll_bw, fz_fr, fz_ol, fz_od, fz_bw, ap_callR, sure_ok, sure_bad, ap_fSl, ap_fNoP, ap_fP, ap_oInt, ap_fIter, ap_fRng1, ap_fRng2, ap_oRng1, ap_oRng2, lo_fr, lo_ol, lo_bw, to_fr, ap_fRep, ap_oRep, okite1, okite2, bind_ite, rbind_ite, fin_ite, fin_rt_fr, fin_rt_ol, fin_nx, fin_bad, brR_b, ap_fAnd, ap_fOr, ap_fNot, ap_notR, ap_fNeg, ap_dNeg, ap_fIf, ap_fChain, ap_fLc, ap_tAndB, ap_tOrB, ap_tNotB, ap_ttYes, tr_bool, tr_list, tr_tuple, tr_none, tr_int, ap_sName, ap_sTup, ap_sCons, ap_sNil, w_nil, w_cons, slot_fr, slot_ol, slot_od, ap_frz, add_ii, add_tt, add_ll, add_ss, sub_ii, mul_ii, mod_ii, div_ii, pow_ii, lt_ii, le_ii, gt_ii, ge_ii, isn_, notn_, isNone_n, isNone_i, isNone_t, isNone_l, isNone_s, isNone_b, rk_none, rk_bool, rk_int, rk_str, rk_list, rk_tuple, eq_rk, ne_rk, inl_rk, int_rk, inB_f, inB_t, ix_l, ix_t, atD_eq, atI_0, atI_1, atI_2, atI_3, atI_4, atI_5, atI_6, atI_7, atI_map, sl_l, sl_t, len_l, len_t, min_ii, max_ii, list_l, list_t, tuple_l, tuple_t, int_i, int_b, ofString_inj, eqv_ii, eqv_ss, eqv_bb, eqv_nn, eqv_ni, eqv_in, eqv_is, eqv_si, eqv_ns, eqv_sn, eqv_ll, eqv_tt, eqva_nn, eqva_cc, eqva_nc, eqva_cn, Rs.bind_ok, Rs.bind_bad, So.bind_nx, So.bind_rt, So.bind_ct, So.bind_bk, So.bind_bad, R.d_fr, R.d_ol, R.d_od, R.d_bw, retR_fr, retR_ol, retR_od, retR_ot, setR_fr, setR_ol, setR_od, setR_ot, ownR_fr, ownR_ol, ownR_od, ownR_ot, ownT_ol, ownT_od, ownT_ot, ap_gOwnT, opR_frfr, opR_frol, opR_frod, opR_frbw, opR_olfr, opR_olol, opR_olod, opR_olbw, opR_odfr, opR_odol, opR_odod, opR_odbw, opR_bwfr, opR_bwol, opR_bwod, opR_bwbw, opR_bt1, opR_bt2, immR_fr, immR_ol, immR_od, immR_bt, immR_bw, imm_n, imm_b, imm_i, imm_s, imm_t, imm_l, imm_d, imms_n, imms_c, opU_fr, opU_ol, opU_od, opU_bw, opU_bt, bt_fr, bt_ol, bt_od, bt_bw, bt_bt, ap_opL, fz_bt, fz_ot, fzAll_bt, fzAll_ot, lo_bt, to_bt, slot_ot, fin_rt_od, fin_rt_ot, fin_ex, R.d_bt, R.d_ot, Rs.bind_ex, So.bind_ex,
  List.map_cons, List.map_nil, List.length_cons, List.length_nil, List.length_map, List.replicate_succ, List.replicate_zero, List.cons_append, List.nil_append, List.append_nil, List.getElem?_cons_zero, List.getElem?_cons_succ, List.set_cons_zero, List.set_cons_succ, List.all_cons, List.all_nil, List.any_cons, List.any_nil, Nat.zero_add, Nat.add_one_sub_one, Nat.reduceAdd, Nat.reduceSub, Nat.reduceMul, Nat.reduceLeDiff, Int.cast_ofNat_Int, Int.reduceLT, Int.reduceLE, Int.reduceAdd, Int.reduceMul, Int.reduceEq, Int.reduceNe, Int.reduceToNat, Int.reduceNeg, Int.reducePow, String.reduceEq, decide_true, decide_false, Bool.false_eq_true, Bool.true_eq_false, Bool.or_true, Bool.or_false, Bool.true_or, Bool.false_or, Bool.and_true, Bool.true_and, Bool.and_false, Bool.false_and, Bool.not_true, Bool.not_false, Bool.and_self, Bool.or_self, if_true, if_false, ite_true, ite_false, reduceIte, Option.bind_some, Option.bind_none, Option.map_some, Option.map_none, and_self, and_true, true_and, eq_self])
/-! ### the program's search -/
open M48 in
def optR : Option (List Int) → R
  | none => .fr .none
  | some x => .fr (.list (x.map .int))
theorem row_last (row : List Int) (h : row ≠ []) : atI row (-1) = some (M48.lst row) := by
  have e : row = row.dropLast ++ [row.getLast h] := (List.dropLast_concat_getLast h).symm
  generalize row.dropLast = q at e
  generalize row.getLast h = v at e
  subst e
  rw [M48.lst_snoc]
  have e1 : (1 : Int) ≤ (q.length : Int) + 1 := by omega
  have e2 : (-1 + ((q.length : Int) + 1)).toNat = q.length := by omega
  unfold atI ixN
  simp [e1]
  rw [e2]
  simp
theorem row_first (row : List Int) (h : row ≠ []) : atI row 0 = some (M48.hd row) := by
  cases row with
  | nil => exact absurd rfl h
  | cons a r =>
    unfold atI ixN
    simp [M48.hd]
open M48 in
def Ecl (qs : Pairs) (row : List Int) (size : Nat) (x : Sl) : En := [.fr (.list (qs.map pr)), .fr (.list (row.map .int)), .fr (.int (size : Nat)), .un, .un, x]
open M48 in
theorem cl_turn (F : List D → Rs R) (qs : Pairs) (row : List Int) (size : Nat) (a b : Int) (hr : row ≠ []) (hz : row.length ≤ 1000) (o : Option (List Int)) (hF : F [.list (qs.map pr), .list ((row ++ [b]).map .int), .int (size : Nat)] = .ok (optR o)) :
    (if a = lst row ∧ hd row < b ∧ b ∉ row then o else none) = none ∧ b_closing_1 F ([.fr (.list (qs.map pr)), .fr (.list (row.map .int)), .fr (.int (size : Nat)), .fr (.int a), .fr (.int b), .un]) = .nx (Ecl qs row size .un) ∨
    ∃ x, (if a = lst row ∧ hd row < b ∧ b ∉ row then o else none) = some x ∧ ∃ ρ, b_closing_1 F ([.fr (.list (qs.map pr)), .fr (.list (row.map .int)), .fr (.int (size : Nat)), .fr (.int a), .fr (.int b), .un]) = .rt (.fr (.list (x.map .int))) ρ := by
  have i1 := row_last row hr
  have i0 := row_first row hr
  have z := szle_small (show row.length + 1 ≤ 1000000 by omega)
  simp only [List.map_append, List.map_cons, List.map_nil] at hF
  unfold b_closing_1 Ecl
  by_cases h1 : a = lst row
  · by_cases h2 : hd row < b
    · by_cases h3 : b ∈ row
      · left
        refine ⟨if_neg fun z => z.2.2 h3, ?_⟩
        repeat first | walk_at "vl" | simp only [i1, i0, in_ints, h1, h2, h3]
        try rfl
      · rw [if_pos ⟨h1, h2, h3⟩]
        cases o with
        | none =>
          left
          refine ⟨rfl, ?_⟩
          unfold optR at hF
          repeat first | walk_at "vl" | simp only [i1, i0, in_ints, h1, h2, h3, z, hF]
          try rfl
        | some x =>
          right
          refine ⟨x, rfl, ?_⟩
          unfold optR at hF
          repeat first | walk_at "vl" | simp only [i1, i0, in_ints, h1, h2, h3, z, hF]
          try exact ⟨_, rfl⟩
    · left
      refine ⟨if_neg fun z => h2 z.2.1, ?_⟩
      repeat first | walk_at "vl" | simp only [i1, i0, in_ints, h1, h2]
      try rfl
  · left
    refine ⟨if_neg fun z => h1 z.1, ?_⟩
    repeat first | walk_at "vl" | simp only [i1, i0, in_ints, h1]
    try rfl
end K
namespace K
open PySem PySem.Spec PyProof.Rows L2 VL
variable [Vx]
local macro_rules | `(tactic| walk_at "vl") => `(tactic| simp only [ap_fSU, su_ti, ap_fCallE, so_frl, so_frt, so_ol, so_bw, so_btl, so_btt, ap_fEnumQ, ap_pVar, ap_treeAt, ap_putT, ap_pIx, px_ol, px_od, useP_ok, ap_gPlApp, appK_ol, ap_gPlSet, ps_ol, ps_od, lf_fr, lf_ol, lf_od, tT_ol, tT_od, tT_ot, td_fz, td_ol, td_od, ap_gDPut, ap_gDDel, ap_fKGet, ap_fKIn, tb_nil, tb_cons, ap_fDisp, evp_nil, evp_cons, dmerge_eq, ap_fDNew, isk_i, isk_s, keq_ii, keq_ss, dput_nil, dput_cons, dget_nil, dget_cons, okd_nil, okd_s, okd_i, ix_d, in_ds, in_di, List.foldl_cons, List.foldl_nil, Option.isSome_some, Option.isSome_none, ap_fRng3, ap_oRng3, ap_fRev, rev_l, ap_fCallL, ff_nil, ff_cons, ap_fIsi, isi_n, isi_b, isi_i, isi_s, isi_l, isi_t, ap_isiB, fnR_eq, ap_gSeq, ap_gNext, ap_gCont, ap_gBreak, ap_gFz, ap_gIf, br_t, br_f, br_b, useS_ok, ap_gRet, ap_gSet, ap_gOwn, ap_gRetV, ap_gApp, ap_gAug, useL_ok, ap_gFor, ap_gForget, ap_gAsg, ap_gSetIx, ap_fVar, ap_fC, ap_fOp, ap_fB, ap_toB, ap_fTr, ap_fCall, ap_fBlt, ap_fNil, ap_fCons, ap_fLst, ap_fTup, ap_fzL, fzAll_nil, fzAll_fr, fzAll_ol, fzAll_od, fzAll_bw, fz_fr, fz_ol, fz_od, fz_bw, ap_callR, sure_ok, sure_bad, ap_fSl, ap_fNoP, ap_fP, ap_oInt, ap_fIter, ap_fRng1, ap_fRng2, ap_oRng1, ap_oRng2, lo_fr, lo_ol, lo_bw, to_fr, ap_fRep, ap_oRep, okite1, okite2, bind_ite, rbind_ite, fin_ite, fin_rt_fr, fin_rt_ol, fin_nx, fin_bad, brR_b, ap_fAnd, ap_fOr, ap_fNot, ap_notR, ap_fNeg, ap_dNeg, ap_fIf, ap_fChain, ap_fLc, ap_tAndB, ap_tOrB, ap_tNotB, ap_ttYes, tr_bool, tr_list, tr_tuple, tr_none, tr_int, ap_sName, ap_sTup, ap_sCons, ap_sNil, w_nil, w_cons, slot_fr, slot_ol, slot_od, ap_frz, add_ii, add_tt, add_ll, add_ss, sub_ii, mul_ii, mod_ii, div_ii, pow_ii, lt_ii, le_ii, gt_ii, ge_ii, isn_, notn_, isNone_n, isNone_i, isNone_t, isNone_l, isNone_s, isNone_b, rk_none, rk_bool, rk_int, rk_str, rk_list, rk_tuple, eq_rk, ne_rk, inl_rk, int_rk, inB_f, inB_t, ix_l, ix_t, atD_eq, atI_0, atI_1, atI_2, atI_3, atI_4, atI_5, atI_6, atI_7, atI_map, sl_l, sl_t, len_l, len_t, min_ii, max_ii, list_l, list_t, tuple_l, tuple_t, int_i, int_b, ofString_inj, eqv_ii, eqv_ss, eqv_bb, eqv_nn, eqv_ni, eqv_in, eqv_is, eqv_si, eqv_ns, eqv_sn, eqv_ll, eqv_tt, eqva_nn, eqva_cc, eqva_nc, eqva_cn, Rs.bind_ok, Rs.bind_bad, So.bind_nx, So.bind_rt, So.bind_ct, So.bind_bk, So.bind_bad, R.d_fr, R.d_ol, R.d_od, R.d_bw, retR_fr, retR_ol, retR_od, retR_ot, setR_fr, setR_ol, setR_od, setR_ot, ownR_fr, ownR_ol, ownR_od, ownR_ot, ownT_ol, ownT_od, ownT_ot, ap_gOwnT, opR_frfr, opR_frol, opR_frod, opR_frbw, opR_olfr, opR_olol, opR_olod, opR_olbw, opR_odfr, opR_odol, opR_odod, opR_odbw, opR_bwfr, opR_bwol, opR_bwod, opR_bwbw, opR_bt1, opR_bt2, immR_fr, immR_ol, immR_od, immR_bt, immR_bw, imm_n, imm_b, imm_i, imm_s, imm_t, imm_l, imm_d, imms_n, imms_c, opU_fr, opU_ol, opU_od, opU_bw, opU_bt, bt_fr, bt_ol, bt_od, bt_bw, bt_bt, ap_opL, fz_bt, fz_ot, fzAll_bt, fzAll_ot, lo_bt, to_bt, slot_ot, fin_rt_od, fin_rt_ot, fin_ex, R.d_bt, R.d_ot, Rs.bind_ex, So.bind_ex,
  List.map_cons, List.map_nil, List.length_cons, List.length_nil, List.length_map, List.replicate_succ, List.replicate_zero, List.cons_append, List.nil_append, List.append_nil, List.getElem?_cons_zero, List.getElem?_cons_succ, List.set_cons_zero, List.set_cons_succ, List.all_cons, List.all_nil, List.any_cons, List.any_nil, Nat.zero_add, Nat.add_one_sub_one, Nat.reduceAdd, Nat.reduceSub, Nat.reduceMul, Nat.reduceLeDiff, Int.cast_ofNat_Int, Int.reduceLT, Int.reduceLE, Int.reduceAdd, Int.reduceMul, Int.reduceEq, Int.reduceNe, Int.reduceToNat, Int.reduceNeg, Int.reducePow, String.reduceEq, decide_true, decide_false, Bool.false_eq_true, Bool.true_eq_false, Bool.or_true, Bool.or_false, Bool.true_or, Bool.false_or, Bool.and_true, Bool.true_and, Bool.and_false, Bool.false_and, Bool.not_true, Bool.not_false, Bool.and_self, Bool.or_self, if_true, if_false, ite_true, ite_false, reduceIte, Option.bind_some, Option.bind_none, Option.map_some, Option.map_none, and_self, and_true, true_and, eq_self])
open M48 in
theorem cl_loop (F : List D → Rs R) (qs : Pairs) (row : List Int) (size : Nat) (hr : row ≠ []) (hz : row.length ≤ 1000) (Dn : Int → Option (List Int)) (hF : ∀ b, F [.list (qs.map pr), .list ((row ++ [b]).map .int), .int (size : Nat)] = .ok (optR (Dn b))) : ∀ rs : Pairs,
    (rs.findSome? (fun p => if p.1 = lst row ∧ hd row < p.2 ∧ p.2 ∉ row then Dn p.2 else none) = none → gLoop (sTup (sCons (sName 3) (sCons (sName 4) (sNil)))) (b_closing_1 F) (rs.map pr) (Ecl qs row size .un) = .nx (Ecl qs row size .un)) ∧
    (∀ x, rs.findSome? (fun p => if p.1 = lst row ∧ hd row < p.2 ∧ p.2 ∉ row then Dn p.2 else none) = some x → ∃ ρ, gLoop (sTup (sCons (sName 3) (sCons (sName 4) (sNil)))) (b_closing_1 F) (rs.map pr) (Ecl qs row size .un) = .rt (.fr (.list (x.map .int))) ρ)
  | [] => ⟨fun _ => rfl, fun x h => nomatch h⟩
  | p :: rs => by
    obtain ⟨a, b⟩ := p
    have ih := cl_loop F qs row size hr hz Dn hF rs
    have e : (sTup (sCons (sName 3) (sCons (sName 4) (sNil)))) (pr (a, b)) (Ecl qs row size .un) = some [.fr (.list (qs.map pr)), .fr (.list (row.map .int)), .fr (.int (size : Nat)), .fr (.int a), .fr (.int b), .un] := rfl
    rw [List.map_cons, VL.gLoop_cons, e, List.findSome?_cons]
    dsimp only
    rcases cl_turn F qs row size a b hr hz (Dn b) (hF b) with ⟨h1, h2⟩ | ⟨x, h1, ρ, h2⟩
    · rw [h1, h2]
      exact ih
    · rw [h1, h2]
      refine ⟨fun z => (nomatch z), fun y z => ?_⟩
      cases z
      exact ⟨ρ, rfl⟩
open M48 in
theorem cl_ok (qs : Pairs) (size : Nat) (hs : size ≤ 900) : ∀ (n d : Nat) (row : List Int), row.length + d = size → d < n → row ≠ [] → recF G_closing n [.list (qs.map pr), .list (row.map .int), .int (size : Nat)] = .ok (optR (dfs qs d row))
  | n + 1, 0, row, hl, _, hr => by
    have i1 := row_last row hr
    have i0 := row_first row hr
    have e : ((row.length : Int) = (size : Int)) = True := by simp; omega
    show G_closing (recF G_closing n) _ = _
    unfold G_closing g_closing dfs
    by_cases h : (lst row, hd row) ∈ qs
    · rw [if_pos h]
      unfold optR
      repeat first | walk_at "vl" | simp only [e, i1, i0, in_prs, h]
      try rfl
    · rw [if_neg h]
      unfold optR
      repeat first | walk_at "vl" | simp only [e, i1, i0, in_prs, h]
      try rfl
  | n + 1, d + 1, row, hl, hd', hr => by
    have e : ((row.length : Int) = (size : Int)) = False := by simp; omega
    obtain ⟨g1, g2⟩ := cl_loop (recF G_closing n) qs row size hr (by omega) (fun b => dfs qs d (row ++ [b])) (fun b => cl_ok qs size hs n d (row ++ [b]) (by rw [List.length_append, List.length_singleton]; omega) (by omega) (by simp)) qs
    show G_closing (recF G_closing n) _ = _
    generalize recF G_closing n = Fn at g1 g2 ⊢
    unfold G_closing g_closing dfs
    unfold Ecl at g1 g2
    generalize b_closing_1 Fn = bb at g1 g2 ⊢
    cases hk : qs.findSome? (fun p => if p.1 = lst row ∧ hd row < p.2 ∧ p.2 ∉ row then dfs qs d (row ++ [p.2]) else none) with
    | none =>
      have h := g1 hk
      unfold optR
      repeat first | walk_at "vl" | simp only [e, h]
      try rfl
    | some x =>
      obtain ⟨ρ, h⟩ := g2 x hk
      unfold optR
      repeat first | walk_at "vl" | simp only [e, h]
      try rfl
end K
namespace K
open PySem PySem.Spec PyProof.Rows L2 VL
variable [Vx]
local macro_rules | `(tactic| walk_at "vl") => `(tactic| simp only [ap_fSU, su_ti, ap_fCallE, so_frl, so_frt, so_ol, so_bw, so_btl, so_btt, ap_fEnumQ, ap_pVar, ap_treeAt, ap_putT, ap_pIx, px_ol, px_od, useP_ok, ap_gPlApp, appK_ol, ap_gPlSet, ps_ol, ps_od, lf_fr, lf_ol, lf_od, tT_ol, tT_od, tT_ot, td_fz, td_ol, td_od, ap_gDPut, ap_gDDel, ap_fKGet, ap_fKIn, tb_nil, tb_cons, ap_fDisp, evp_nil, evp_cons, dmerge_eq, ap_fDNew, isk_i, isk_s, keq_ii, keq_ss, dput_nil, dput_cons, dget_nil, dget_cons, okd_nil, okd_s, okd_i, ix_d, in_ds, in_di, List.foldl_cons, List.foldl_nil, Option.isSome_some, Option.isSome_none, ap_fRng3, ap_oRng3, ap_fRev, rev_l, ap_fCallL, ff_nil, ff_cons, ap_fIsi, isi_n, isi_b, isi_i, isi_s, isi_l, isi_t, ap_isiB, fnR_eq, ap_gSeq, ap_gNext, ap_gCont, ap_gBreak, ap_gFz, ap_gIf, br_t, br_f, br_b, useS_ok, ap_gRet, ap_gSet, ap_gOwn, ap_gRetV, ap_gApp, ap_gAug, useL_ok, ap_gFor, ap_gForget, ap_gAsg, ap_gSetIx, ap_fVar, ap_fC, ap_fOp, ap_fB, ap_toB, ap_fTr, ap_fCall, ap_fBlt, ap_fNil, ap_fCons, ap_fLst, ap_fTup, ap_fzL, fzAll_nil, fzAll_fr, fzAll_ol, fzAll_od, fzAll_bw, fz_fr, fz_ol, fz_od, fz_bw, ap_callR, sure_ok, sure_bad, ap_fSl, ap_fNoP, ap_fP, ap_oInt, ap_fIter, ap_fRng1, ap_fRng2, ap_oRng1, ap_oRng2, lo_fr, lo_ol, lo_bw, to_fr, ap_fRep, ap_oRep, okite1, okite2, bind_ite, rbind_ite, fin_ite, fin_rt_fr, fin_rt_ol, fin_nx, fin_bad, brR_b, ap_fAnd, ap_fOr, ap_fNot, ap_notR, ap_fNeg, ap_dNeg, ap_fIf, ap_fChain, ap_fLc, ap_tAndB, ap_tOrB, ap_tNotB, ap_ttYes, tr_bool, tr_list, tr_tuple, tr_none, tr_int, ap_sName, ap_sTup, ap_sCons, ap_sNil, w_nil, w_cons, slot_fr, slot_ol, slot_od, ap_frz, add_ii, add_tt, add_ll, add_ss, sub_ii, mul_ii, mod_ii, div_ii, pow_ii, lt_ii, le_ii, gt_ii, ge_ii, isn_, notn_, isNone_n, isNone_i, isNone_t, isNone_l, isNone_s, isNone_b, rk_none, rk_bool, rk_int, rk_str, rk_list, rk_tuple, eq_rk, ne_rk, inl_rk, int_rk, inB_f, inB_t, ix_l, ix_t, atD_eq, atI_0, atI_1, atI_2, atI_3, atI_4, atI_5, atI_6, atI_7, atI_map, sl_l, sl_t, len_l, len_t, min_ii, max_ii, list_l, list_t, tuple_l, tuple_t, int_i, int_b, ofString_inj, eqv_ii, eqv_ss, eqv_bb, eqv_nn, eqv_ni, eqv_in, eqv_is, eqv_si, eqv_ns, eqv_sn, eqv_ll, eqv_tt, eqva_nn, eqva_cc, eqva_nc, eqva_cn, Rs.bind_ok, Rs.bind_bad, So.bind_nx, So.bind_rt, So.bind_ct, So.bind_bk, So.bind_bad, R.d_fr, R.d_ol, R.d_od, R.d_bw, retR_fr, retR_ol, retR_od, retR_ot, setR_fr, setR_ol, setR_od, setR_ot, ownR_fr, ownR_ol, ownR_od, ownR_ot, ownT_ol, ownT_od, ownT_ot, ap_gOwnT, opR_frfr, opR_frol, opR_frod, opR_frbw, opR_olfr, opR_olol, opR_olod, opR_olbw, opR_odfr, opR_odol, opR_odod, opR_odbw, opR_bwfr, opR_bwol, opR_bwod, opR_bwbw, opR_bt1, opR_bt2, immR_fr, immR_ol, immR_od, immR_bt, immR_bw, imm_n, imm_b, imm_i, imm_s, imm_t, imm_l, imm_d, imms_n, imms_c, opU_fr, opU_ol, opU_od, opU_bw, opU_bt, bt_fr, bt_ol, bt_od, bt_bw, bt_bt, ap_opL, fz_bt, fz_ot, fzAll_bt, fzAll_ot, lo_bt, to_bt, slot_ot, fin_rt_od, fin_rt_ot, fin_ex, R.d_bt, R.d_ot, Rs.bind_ex, So.bind_ex,
  List.map_cons, List.map_nil, List.length_cons, List.length_nil, List.length_map, List.replicate_succ, List.replicate_zero, List.cons_append, List.nil_append, List.append_nil, List.getElem?_cons_zero, List.getElem?_cons_succ, List.set_cons_zero, List.set_cons_succ, List.all_cons, List.all_nil, List.any_cons, List.any_nil, Nat.zero_add, Nat.add_one_sub_one, Nat.reduceAdd, Nat.reduceSub, Nat.reduceMul, Nat.reduceLeDiff, Int.cast_ofNat_Int, Int.reduceLT, Int.reduceLE, Int.reduceAdd, Int.reduceMul, Int.reduceEq, Int.reduceNe, Int.reduceToNat, Int.reduceNeg, Int.reducePow, String.reduceEq, decide_true, decide_false, Bool.false_eq_true, Bool.true_eq_false, Bool.or_true, Bool.or_false, Bool.true_or, Bool.false_or, Bool.and_true, Bool.true_and, Bool.and_false, Bool.false_and, Bool.not_true, Bool.not_false, Bool.and_self, Bool.or_self, if_true, if_false, ite_true, ite_false, reduceIte, Option.bind_some, Option.bind_none, Option.map_some, Option.map_none, and_self, and_true, true_and, eq_self])
/-! ring_in -/
open M48 in
def Eri (ps qs : Pairs) (S z a b : Sl) : En := [.fr (.list (ps.map pr)), .fr (.list (qs.map pr)), S, z, a, b, .un, .un]
open M48 in
theorem ri_starts (ps qs : Pairs) : ∀ (rs : Pairs) (acc : List Int), acc.length + rs.length ≤ 1000 → gLoop (sTup (sCons (sName 4) (sCons (sName 5) (sNil)))) b_ring_in_3 (rs.map pr) (Eri ps qs (.ol (acc.map .int)) .un .un .un) = .nx (Eri ps qs (.ol ((firsts rs acc).map .int)) .un .un .un)
  | [], acc, _ => rfl
  | p :: rs, acc, hl => by
    obtain ⟨a, b⟩ := p
    rw [List.length_cons] at hl
    have e : (sTup (sCons (sName 4) (sCons (sName 5) (sNil)))) (pr (a, b)) (Eri ps qs (.ol (acc.map .int)) .un .un .un) = some (Eri ps qs (.ol (acc.map .int)) .un (.fr (.int a)) (.fr (.int b))) := rfl
    have z := sz_small (show acc.length ≤ 1000000 by omega)
    rw [List.map_cons, VL.gLoop_cons, e, firsts]
    dsimp only
    by_cases h : a ∈ acc
    · have t : b_ring_in_3 (Eri ps qs (.ol (acc.map .int)) .un (.fr (.int a)) (.fr (.int b))) = .nx (Eri ps qs (.ol (acc.map .int)) .un .un .un) := by
        unfold b_ring_in_3 Eri
        repeat first | walk_at "vl" | simp only [in_ints, h]
        try rfl
      rw [t, if_pos h]
      exact ri_starts ps qs rs acc (by omega)
    · have t : b_ring_in_3 (Eri ps qs (.ol (acc.map .int)) .un (.fr (.int a)) (.fr (.int b))) = .nx (Eri ps qs (.ol ((acc ++ [a]).map .int)) .un .un .un) := by
        unfold b_ring_in_3 Eri
        repeat first | walk_at "vl" | simp only [in_ints, h, z, List.map_append]
        try rfl
      rw [t, if_neg h]
      exact ri_starts ps qs rs (acc ++ [a]) (by rw [List.length_append, List.length_singleton]; omega)
open M48 in
theorem ri_start (ps qs : Pairs) (S : Sl) (d : Nat) (hd : d ≤ 7) (s : Int) : 
    (dfs qs d [s] = none → b_ring_in_1 [.fr (.list (ps.map pr)), .fr (.list (qs.map pr)), S, .fr (.int ((d + 1 : Nat) : Int)), .un, .un, .fr (.int s), .un] = .nx (Eri ps qs S (.fr (.int ((d + 1 : Nat) : Int))) .un .un)) ∧
    ∀ x, dfs qs d [s] = some x → ∃ ρ, b_ring_in_1 [.fr (.list (ps.map pr)), .fr (.list (qs.map pr)), S, .fr (.int ((d + 1 : Nat) : Int)), .un, .un, .fr (.int s), .un] = .rt (.fr (.list (x.map .int))) ρ := by
  have h := cl_ok qs (d + 1) (by omega) 9 d [s] (by rw [List.length_singleton]; omega) (by omega) (by simp)
  have h : F_closing _ = _ := h
  simp only [List.map_cons, List.map_nil] at h
  unfold b_ring_in_1 Eri
  generalize ((d + 1 : Nat) : Int) = dd at h ⊢
  constructor
  · intro e
    rw [e] at h
    unfold optR at h
    repeat first | walk_at "vl" | simp only [h]
    try rfl
  · intro x e
    rw [e] at h
    unfold optR at h
    repeat first | walk_at "vl" | simp only [h]
    try exact ⟨_, rfl⟩
open M48 in
theorem ri_row (ps qs : Pairs) (S : Sl) (d : Nat) (hd : d ≤ 7) : ∀ ss : List Int,
    (ss.findSome? (fun s => dfs qs d [s]) = none → gLoop (sName 6) b_ring_in_1 (ss.map .int) (Eri ps qs S (.fr (.int ((d + 1 : Nat) : Int))) .un .un) = .nx (Eri ps qs S (.fr (.int ((d + 1 : Nat) : Int))) .un .un)) ∧
    ∀ x, ss.findSome? (fun s => dfs qs d [s]) = some x → ∃ ρ, gLoop (sName 6) b_ring_in_1 (ss.map .int) (Eri ps qs S (.fr (.int ((d + 1 : Nat) : Int))) .un .un) = .rt (.fr (.list (x.map .int))) ρ
  | [] => ⟨fun _ => rfl, fun x h => nomatch h⟩
  | s :: ss => by
    have ih := ri_row ps qs S d hd ss
    obtain ⟨h1, h2⟩ := ri_start ps qs S d hd s
    have e : sName 6 (.int s) (Eri ps qs S (.fr (.int ((d + 1 : Nat) : Int))) .un .un) = some [.fr (.list (ps.map pr)), .fr (.list (qs.map pr)), S, .fr (.int ((d + 1 : Nat) : Int)), .un, .un, .fr (.int s), .un] := rfl
    rw [List.map_cons, VL.gLoop_cons, e, List.findSome?_cons]
    dsimp only
    cases hk : dfs qs d [s] with
    | none => rw [h1 hk]; exact ih
    | some x =>
      obtain ⟨ρ, g⟩ := h2 x hk
      rw [g]
      refine ⟨fun z => (nomatch z), fun y z => ?_⟩
      cases z
      exact ⟨ρ, rfl⟩
def frS (st : List Int) (b : Bool) : Sl := if b then .fr (.list (st.map .int)) else .ol (st.map .int)
open M48 in
theorem ri_turn (ps qs : Pairs) (st : List Int) (b : Bool) (i : Nat) (hi : i ≤ 6) :
    (st.findSome? (fun s => dfs qs (i + 1) [s]) = none → b_ring_in_2 (Eri ps qs (frS st b) (.fr (.int (2 + (i : Int)))) .un .un) = .nx (Eri ps qs (frS st true) .un .un .un)) ∧
    ∀ x, st.findSome? (fun s => dfs qs (i + 1) [s]) = some x → ∃ ρ, b_ring_in_2 (Eri ps qs (frS st b) (.fr (.int (2 + (i : Int)))) .un .un) = .rt (.fr (.list (x.map .int))) ρ := by
  obtain ⟨h1, h2⟩ := ri_row ps qs (.fr (.list (st.map .int))) (i + 1) (by omega) st
  have e : ((i + 1 + 1 : Nat) : Int) = 2 + (i : Int) := by omega
  rw [e] at h1 h2
  unfold b_ring_in_2
  unfold Eri at h1 h2 ⊢
  generalize b_ring_in_1 = bb at h1 h2 ⊢
  constructor
  · intro k
    have h := h1 k
    cases b <;> unfold frS <;> (repeat first | walk_at "vl" | simp only [h]) <;> rfl
  · intro x k
    obtain ⟨ρ, h⟩ := h2 x k
    cases b <;> unfold frS <;> (repeat first | walk_at "vl" | simp only [h]) <;> exact ⟨_, rfl⟩
open M48 in
theorem ri_loop (ps qs : Pairs) (st : List Int) : ∀ (is : List Nat) (b : Bool), (∀ i ∈ is, i ≤ 6) →
    (is.findSome? (fun i => st.findSome? fun s => dfs qs (i + 1) [s]) = none → ∃ b', gLoop (sName 3) b_ring_in_2 (is.map fun i : Nat => PyData.int (2 + (i : Int))) (Eri ps qs (frS st b) .un .un .un) = .nx (Eri ps qs (frS st b') .un .un .un)) ∧
    ∀ x, is.findSome? (fun i => st.findSome? fun s => dfs qs (i + 1) [s]) = some x → ∃ ρ, gLoop (sName 3) b_ring_in_2 (is.map fun i : Nat => PyData.int (2 + (i : Int))) (Eri ps qs (frS st b) .un .un .un) = .rt (.fr (.list (x.map .int))) ρ
  | [], b, _ => ⟨fun _ => ⟨b, rfl⟩, fun x h => nomatch h⟩
  | i :: is, b, hi => by
    have ih := ri_loop ps qs st is true fun j hj => hi j (List.mem_cons_of_mem _ hj)
    obtain ⟨h1, h2⟩ := ri_turn ps qs st b i (hi i List.mem_cons_self)
    have e : sName 3 (.int (2 + (i : Int))) (Eri ps qs (frS st b) .un .un .un) = some (Eri ps qs (frS st b) (.fr (.int (2 + (i : Int)))) .un .un) := rfl
    rw [List.map_cons, VL.gLoop_cons, e, List.findSome?_cons]
    dsimp only
    cases hk : st.findSome? (fun s => dfs qs (i + 1) [s]) with
    | none => rw [h1 hk]; exact ih
    | some x =>
      obtain ⟨ρ, g⟩ := h2 x hk
      rw [g]
      refine ⟨fun z => (nomatch z), fun y z => ?_⟩
      cases z
      exact ⟨ρ, rfl⟩
open M48 in
def ringP (ps : Pairs) : Option (List Int) := (List.range ((firsts (ps.mergeSort leP) []).length - 1)).findSome? fun i => (firsts (ps.mergeSort leP) []).findSome? fun s => dfs (ps.mergeSort leP) (i + 1) [s]
def riIt : En → Rs (List D) := fRng2 (fCons (fC (.int 2)) (fCons (fOp dAdd (fBlt dLen (fCons (fVar 2) (fNil))) (fC (.int 1))) (fNil)))
theorem riIt_eq (st : List Int) (hl : st.length ≤ 1000) (a b c d e f g : Sl) : riIt [a, b, .ol (st.map .int), c, d, e, f, g] = .ok (rng 2 (st.length - 1)) := by
  have h : (fCons (fC (.int 2)) (fCons (fOp dAdd (fBlt dLen (fCons (fVar 2) (fNil))) (fC (.int 1))) (fNil))) [a, b, .ol (st.map .int), c, d, e, f, g] = .ok [.fr (.int 2), .fr (.int ((st.length : Int) + 1))] := by
    repeat first | walk_at "vl"
    try rfl
  have r1 : rngOk ((st.length : Int) + 1) = true := rngOk_n (n := st.length + 1) (by omega)
  have r2 : rngOk 2 = true := by decide
  have e : ((st.length : Int) + 1 - 2).toNat = st.length - 1 := by omega
  unfold riIt
  rw [ap_fRng2, h, Rs.bind_ok, ap_oRng2]
  rw [r2, r1, e]
  rfl
open M48 in
theorem ri_ok (ps : Pairs) (hl : ps.length ≤ 100) (h8 : (firsts (ps.mergeSort leP) []).length ≤ 8) : F_ring_in [.list (ps.map pr)] = .ok (optR (ringP ps)) := by
  have hs : dSorted [.list (ps.map pr)] = .ok (.ol ((ps.mergeSort leP).map pr)) := sort_prs ps
  unfold ringP
  generalize hq : ps.mergeSort leP = qs at hs h8 ⊢
  have ql : qs.length = ps.length := by rw [← hq, leP_len]
  have h1 := ri_starts ps qs qs [] (by simp; omega)
  generalize hst : firsts qs [] = st at h1 h8 ⊢
  obtain ⟨g1, g2⟩ := ri_loop ps qs st (List.range (st.length - 1)) false (fun i hi => by have := List.mem_range.mp hi; omega)
  have er : rng 2 (st.length - 1) = (List.range (st.length - 1)).map fun i : Nat => PyData.int (2 + (i : Int)) := rfl
  rw [← er] at g1 g2
  have f0 : frS st false = .ol (st.map .int) := rfl
  rw [f0] at g1 g2
  unfold Eri at h1 g1 g2
  have it := riIt_eq st (by omega)
  unfold F_ring_in g_ring_in
  rw [show fRng2 (fCons (fC (.int 2)) (fCons (fOp dAdd (fBlt dLen (fCons (fVar 2) (fNil))) (fC (.int 1))) (fNil))) = riIt from rfl]
  generalize riIt = ri at it ⊢
  generalize b_ring_in_3 = b3 at h1 ⊢
  generalize b_ring_in_2 = b2 at g1 g2 ⊢
  simp only [List.map_nil] at h1
  clear er
  generalize rng 2 (st.length - 1) = rr at it g1 g2
  generalize (List.range (st.length - 1)).findSome? (fun i => st.findSome? fun s => dfs qs (i + 1) [s]) = oo at g1 g2 ⊢
  cases hk : oo with
  | none =>
    obtain ⟨b', h⟩ := g1 hk
    clear g1 g2
    walk_at "vl"
    simp only [hs]
    walk_at "vl"
    rw [h1, So.bind_nx, ap_gSeq, ap_gFor, it, useL_ok, h]
    rfl
  | some x =>
    obtain ⟨ρ, h⟩ := g2 x hk
    walk_at "vl"
    simp only [hs]
    walk_at "vl"
    rw [h1, So.bind_nx, ap_gSeq, ap_gFor, it, useL_ok, h]
    rfl
end K
namespace K
open PySem PySem.Spec PyProof.Rows L2 VL
variable [Vx]
local macro_rules | `(tactic| walk_at "vl") => `(tactic| simp only [ap_fSU, su_ti, ap_fCallE, so_frl, so_frt, so_ol, so_bw, so_btl, so_btt, ap_fEnumQ, ap_pVar, ap_treeAt, ap_putT, ap_pIx, px_ol, px_od, useP_ok, ap_gPlApp, appK_ol, ap_gPlSet, ps_ol, ps_od, lf_fr, lf_ol, lf_od, tT_ol, tT_od, tT_ot, td_fz, td_ol, td_od, ap_gDPut, ap_gDDel, ap_fKGet, ap_fKIn, tb_nil, tb_cons, ap_fDisp, evp_nil, evp_cons, dmerge_eq, ap_fDNew, isk_i, isk_s, keq_ii, keq_ss, dput_nil, dput_cons, dget_nil, dget_cons, okd_nil, okd_s, okd_i, ix_d, in_ds, in_di, List.foldl_cons, List.foldl_nil, Option.isSome_some, Option.isSome_none, ap_fRng3, ap_oRng3, ap_fRev, rev_l, ap_fCallL, ff_nil, ff_cons, ap_fIsi, isi_n, isi_b, isi_i, isi_s, isi_l, isi_t, ap_isiB, fnR_eq, ap_gSeq, ap_gNext, ap_gCont, ap_gBreak, ap_gFz, ap_gIf, br_t, br_f, br_b, useS_ok, ap_gRet, ap_gSet, ap_gOwn, ap_gRetV, ap_gApp, ap_gAug, useL_ok, ap_gFor, ap_gForget, ap_gAsg, ap_gSetIx, ap_fVar, ap_fC, ap_fOp, ap_fB, ap_toB, ap_fTr, ap_fCall, ap_fBlt, ap_fNil, ap_fCons, ap_fLst, ap_fTup, ap_fzL, fzAll_nil, fzAll_fr, fzAll_ol, fzAll_od, fzAll_bw, fz_fr, fz_ol, fz_od, fz_bw, ap_callR, sure_ok, sure_bad, ap_fSl, ap_fNoP, ap_fP, ap_oInt, ap_fIter, ap_fRng1, ap_fRng2, ap_oRng1, ap_oRng2, lo_fr, lo_ol, lo_bw, to_fr, ap_fRep, ap_oRep, okite1, okite2, bind_ite, rbind_ite, fin_ite, fin_rt_fr, fin_rt_ol, fin_nx, fin_bad, brR_b, ap_fAnd, ap_fOr, ap_fNot, ap_notR, ap_fNeg, ap_dNeg, ap_fIf, ap_fChain, ap_fLc, ap_tAndB, ap_tOrB, ap_tNotB, ap_ttYes, tr_bool, tr_list, tr_tuple, tr_none, tr_int, ap_sName, ap_sTup, ap_sCons, ap_sNil, w_nil, w_cons, slot_fr, slot_ol, slot_od, ap_frz, add_ii, add_tt, add_ll, add_ss, sub_ii, mul_ii, mod_ii, div_ii, pow_ii, lt_ii, le_ii, gt_ii, ge_ii, isn_, notn_, isNone_n, isNone_i, isNone_t, isNone_l, isNone_s, isNone_b, rk_none, rk_bool, rk_int, rk_str, rk_list, rk_tuple, eq_rk, ne_rk, inl_rk, int_rk, inB_f, inB_t, ix_l, ix_t, atD_eq, atI_0, atI_1, atI_2, atI_3, atI_4, atI_5, atI_6, atI_7, atI_map, sl_l, sl_t, len_l, len_t, min_ii, max_ii, list_l, list_t, tuple_l, tuple_t, int_i, int_b, ofString_inj, eqv_ii, eqv_ss, eqv_bb, eqv_nn, eqv_ni, eqv_in, eqv_is, eqv_si, eqv_ns, eqv_sn, eqv_ll, eqv_tt, eqva_nn, eqva_cc, eqva_nc, eqva_cn, Rs.bind_ok, Rs.bind_bad, So.bind_nx, So.bind_rt, So.bind_ct, So.bind_bk, So.bind_bad, R.d_fr, R.d_ol, R.d_od, R.d_bw, retR_fr, retR_ol, retR_od, retR_ot, setR_fr, setR_ol, setR_od, setR_ot, ownR_fr, ownR_ol, ownR_od, ownR_ot, ownT_ol, ownT_od, ownT_ot, ap_gOwnT, opR_frfr, opR_frol, opR_frod, opR_frbw, opR_olfr, opR_olol, opR_olod, opR_olbw, opR_odfr, opR_odol, opR_odod, opR_odbw, opR_bwfr, opR_bwol, opR_bwod, opR_bwbw, opR_bt1, opR_bt2, immR_fr, immR_ol, immR_od, immR_bt, immR_bw, imm_n, imm_b, imm_i, imm_s, imm_t, imm_l, imm_d, imms_n, imms_c, opU_fr, opU_ol, opU_od, opU_bw, opU_bt, bt_fr, bt_ol, bt_od, bt_bw, bt_bt, ap_opL, fz_bt, fz_ot, fzAll_bt, fzAll_ot, lo_bt, to_bt, slot_ot, fin_rt_od, fin_rt_ot, fin_ex, R.d_bt, R.d_ot, Rs.bind_ex, So.bind_ex,
  List.map_cons, List.map_nil, List.length_cons, List.length_nil, List.length_map, List.replicate_succ, List.replicate_zero, List.cons_append, List.nil_append, List.append_nil, List.getElem?_cons_zero, List.getElem?_cons_succ, List.set_cons_zero, List.set_cons_succ, List.all_cons, List.all_nil, List.any_cons, List.any_nil, Nat.zero_add, Nat.add_one_sub_one, Nat.reduceAdd, Nat.reduceSub, Nat.reduceMul, Nat.reduceLeDiff, Int.cast_ofNat_Int, Int.reduceLT, Int.reduceLE, Int.reduceAdd, Int.reduceMul, Int.reduceEq, Int.reduceNe, Int.reduceToNat, Int.reduceNeg, Int.reducePow, String.reduceEq, decide_true, decide_false, Bool.false_eq_true, Bool.true_eq_false, Bool.or_true, Bool.or_false, Bool.true_or, Bool.false_or, Bool.and_true, Bool.true_and, Bool.and_false, Bool.false_and, Bool.not_true, Bool.not_false, Bool.and_self, Bool.or_self, if_true, if_false, ite_true, ite_false, reduceIte, Option.bind_some, Option.bind_none, Option.map_some, Option.map_none, and_self, and_true, true_and, eq_self])
/-! the law's ring -/
theorem eqv_row : ∀ x y : List Int, PyData.eqv (rowD x) (rowD y) = decide (x = y) := by
  intro x
  unfold rowD
  simp only [eqv_ll]
  induction x with
  | nil => intro y; cases y <;> simp [eqva_nn, eqva_nc]
  | cons a r ih =>
    intro y
    cases y with
    | nil => simp [eqva_cn]
    | cons b s =>
      rw [List.map_cons, List.map_cons, eqva_cc, eqv_ii, ih s, ← Bool.decide_and]
      exact decide_eq_decide.mpr (by rw [List.cons.injEq])
theorem rk_row (n : Nat) (x : List Int) : rk (n + 1) (rowD x) = true := by unfold rowD; rw [rk_list]; exact all_map_rk (fun x => rk_int n x) x
theorem in_rows (neg : Bool) (V : List (List Int)) (x : List Int) : dIn neg (.list (x.map .int)) (.list (V.map rowD)) = dInB neg (decide (x ∈ V)) := by
  show dIn neg (rowD x) _ = _
  rw [inl_rk neg (rk_row 19 x) (by rw [rk_list]; exact all_map_rk (fun x => rk_row 18 x) V), any_map_eqv eqv_row]
  exact congrArg (dInB neg) (decide_eq_decide.mpr Iff.rfl)
def sg (s : Int) : List Int := [s]
open M48 in
def Elr (ps : Pairs) (S t w l : Sl) : En := [.fr (.list (ps.map pr)), S, .un, t, w, l, .un, .un]
open M48 in
theorem lr_starts (ps : Pairs) : ∀ (rs : Pairs) (acc : List Int), acc.length + rs.length ≤ 1000 → gLoop (sName 2) b__law_ring_5 (rs.map pr) (Elr ps (.ol ((acc.map sg).map rowD)) .un .un .un) = .nx (Elr ps (.ol (((firsts rs acc).map sg).map rowD)) .un .un .un)
  | [], acc, _ => rfl
  | p :: rs, acc, hl => by
    obtain ⟨a, b⟩ := p
    rw [List.length_cons] at hl
    have e : sName 2 (pr (a, b)) (Elr ps (.ol ((acc.map sg).map rowD)) .un .un .un) = some [.fr (.list (ps.map pr)), (.ol ((acc.map sg).map rowD)), .fr (pr (a, b)), .un, .un, .un, .un, .un] := rfl
    have z := sz_small (show acc.length ≤ 1000000 by omega)
    have hin := in_rows true (acc.map sg) [a]
    have hmem : ([a] ∈ acc.map sg) ↔ a ∈ acc := by
      rw [List.mem_map]
      constructor
      · rintro ⟨s, hs, q⟩
        have q : s = a := (List.cons.inj q).1
        rw [← q]; exact hs
      · exact fun h => ⟨a, h, rfl⟩
    simp only [hmem] at hin
    simp only [List.map_cons, List.map_nil] at hin
    rw [List.map_cons, VL.gLoop_cons, e, firsts]
    dsimp only
    unfold pr
    by_cases h : a ∈ acc
    · have t : b__law_ring_5 [.fr (.list (ps.map fun p => PyData.tuple [.int p.1, .int p.2])), (.ol ((acc.map sg).map rowD)), .fr (.tuple [.int a, .int b]), .un, .un, .un, .un, .un] = .nx (Elr ps (.ol ((acc.map sg).map rowD)) .un .un .un) := by
        unfold b__law_ring_5 Elr
        generalize (acc.map sg).map rowD = A at hin ⊢
        repeat first | walk_at "vl" | simp only [hin, h]
        try rfl
      have t : b__law_ring_5 _ = _ := t
      erw [t]
      rw [if_pos h]
      exact lr_starts ps rs acc (by omega)
    · have t : b__law_ring_5 [.fr (.list (ps.map fun p => PyData.tuple [.int p.1, .int p.2])), (.ol ((acc.map sg).map rowD)), .fr (.tuple [.int a, .int b]), .un, .un, .un, .un, .un] = .nx (Elr ps (.ol (((acc ++ [a]).map sg).map rowD)) .un .un .un) := by
        have ea : ((acc ++ [a]).map sg).map rowD = (acc.map sg).map rowD ++ [.list [.int a]] := by simp [sg, rowD]
        have el : ((acc.map sg).map rowD).length = acc.length := by simp
        rw [ea]
        unfold b__law_ring_5 Elr
        generalize (acc.map sg).map rowD = A at hin el ⊢
        repeat first | walk_at "vl" | simp only [hin, h, el, z]
        try rfl
      erw [t]
      rw [if_neg h]
      exact lr_starts ps rs (acc ++ [a]) (by rw [List.length_append, List.length_singleton]; omega)
open M48 in
theorem lr_find (ps : Pairs) (S t : Sl) : ∀ (V : List (List Int)), (∀ w ∈ V, w ≠ []) → ∀ x4 : Sl,
    (V.find? (fun w => decide ((lst w, hd w) ∈ ps)) = none → ∃ x4', gLoop (sName 4) b__law_ring_3 (V.map rowD) (Elr ps S t x4 .un) = .nx (Elr ps S t x4' .un)) ∧
    ∀ w, V.find? (fun w => decide ((lst w, hd w) ∈ ps)) = some w → ∃ ρ, gLoop (sName 4) b__law_ring_3 (V.map rowD) (Elr ps S t x4 .un) = .rt (.fr (rowD w)) ρ
  | [], _, x4 => ⟨fun _ => ⟨x4, rfl⟩, fun w h => nomatch h⟩
  | v :: V, hV, x4 => by
    have ih := lr_find ps S t V (fun w hw => hV w (List.mem_cons_of_mem _ hw)) (.fr (rowD v))
    have h0 := hV v List.mem_cons_self
    have e : sName 4 (rowD v) (Elr ps S t x4 .un) = some (Elr ps S t (.fr (rowD v)) .un) := rfl
    have i1 := row_last v h0
    have i2 := row_first v h0
    rw [List.map_cons, VL.gLoop_cons, e, List.find?_cons]
    dsimp only
    by_cases h : (lst v, hd v) ∈ ps
    · have t : b__law_ring_3 (Elr ps S t (.fr (rowD v)) .un) = .rt (.fr (rowD v)) (Elr ps S t (.fr (rowD v)) .un) := by
        unfold b__law_ring_3 Elr rowD
        repeat first | walk_at "vl" | simp only [i1, i2, in_prs, h]
        try rfl
      rw [t, decide_eq_true h]
      exact ⟨fun z => (nomatch z), fun w z => by cases z; exact ⟨_, rfl⟩⟩
    · have t : b__law_ring_3 (Elr ps S t (.fr (rowD v)) .un) = .nx (Elr ps S t (.fr (rowD v)) .un) := by
        unfold b__law_ring_3 Elr rowD
        repeat first | walk_at "vl" | simp only [i1, i2, in_prs, h]
        try rfl
      rw [t, decide_eq_false h]
      exact ih
open M48 in
theorem lr_in (ps : Pairs) (S t : Sl) (w : List Int) (h0 : w ≠ []) (hw : w.length ≤ 1000) : ∀ (rs : Pairs) (acc : List (List Int)), acc.length + rs.length ≤ 9000000 →
    gLoop (sTup (sCons (sName 6) (sCons (sName 7) (sNil)))) b__law_ring_1 (rs.map pr) (Elr ps S t (.fr (rowD w)) (.ol (acc.map rowD))) = .nx (Elr ps S t (.fr (rowD w)) (.ol ((acc ++ rs.filterMap (ext1 w)).map rowD)))
  | [], acc, _ => by rw [List.filterMap_nil, List.append_nil]; rfl
  | p :: rs, acc, hl => by
    obtain ⟨a, b⟩ := p
    rw [List.length_cons] at hl
    have i1 := row_last w h0
    have i2 := row_first w h0
    have e : (sTup (sCons (sName 6) (sCons (sName 7) (sNil)))) (pr (a, b)) (Elr ps S t (.fr (rowD w)) (.ol (acc.map rowD))) = some [.fr (.list (ps.map pr)), S, .un, t, .fr (rowD w), .ol (acc.map rowD), .fr (.int a), .fr (.int b)] := rfl
    have z : acc.length < sizeN := by unfold sizeN; omega
    have z2 := szle_small (show w.length + 1 ≤ 1000000 by omega)
    rw [List.map_cons, VL.gLoop_cons, e, List.filterMap_cons]
    dsimp only
    have no : ¬ (a = lst w ∧ b ∉ w ∧ hd w < b) → b__law_ring_1 [.fr (.list (ps.map pr)), S, .un, t, .fr (rowD w), .ol (acc.map rowD), .fr (.int a), .fr (.int b)] = .nx (Elr ps S t (.fr (rowD w)) (.ol (acc.map rowD))) := fun h => by
      unfold b__law_ring_1 Elr rowD
      by_cases h1 : a = lst w
      · by_cases h2 : b ∈ w
        · repeat first | walk_at "vl" | simp only [i1, i2, in_ints, h1, h2]
          try rfl
        · have h3 : ¬ hd w < b := fun q => h ⟨h1, h2, q⟩
          repeat first | walk_at "vl" | simp only [i1, i2, in_ints, h1, h2, h3]
          try rfl
      · repeat first | walk_at "vl" | simp only [i1, i2, in_ints, h1]
        try rfl
    by_cases h : a = lst w ∧ b ∉ w ∧ hd w < b
    · have y : b__law_ring_1 [.fr (.list (ps.map pr)), S, .un, t, .fr (rowD w), .ol (acc.map rowD), .fr (.int a), .fr (.int b)] = .nx (Elr ps S t (.fr (rowD w)) (.ol ((acc ++ [w ++ [b]]).map rowD))) := by
        obtain ⟨h1, h2, h3⟩ := h
        have ea : (acc ++ [w ++ [b]]).map rowD = acc.map rowD ++ [.list (w.map .int ++ [.int b])] := by simp [rowD]
        have el : (acc.map rowD).length = acc.length := by simp
        rw [ea]
        unfold b__law_ring_1 Elr
        generalize acc.map rowD = A at el ⊢
        unfold rowD
        repeat first | walk_at "vl" | simp only [i1, i2, in_ints, h1, h2, h3, el, z, z2]
        try rfl
      rw [y]
      have e1 : ext1 w (a, b) = some (w ++ [b]) := if_pos h
      rw [e1]
      dsimp only
      rw [lr_in ps S t w h0 hw rs _ (by rw [List.length_append, List.length_singleton]; omega), List.append_assoc]
      rfl
    · rw [no h]
      have e1 : ext1 w (a, b) = none := if_neg h
      rw [e1]
      exact lr_in ps S t w h0 hw rs acc (by omega)
open M48 in
theorem lr_out (ps : Pairs) (hps : ps.length ≤ 1000) (S t : Sl) : ∀ (V : List (List Int)) (acc : List (List Int)), (∀ w ∈ V, w ≠ [] ∧ w.length ≤ 1000) → (acc ++ longer ps V).length ≤ 8900000 → ∀ x4 : Sl,
    ∃ x4', gLoop (sName 4) b__law_ring_2 (V.map rowD) (Elr ps S t x4 (.ol (acc.map rowD))) = .nx (Elr ps S t x4' (.ol ((acc ++ longer ps V).map rowD)))
  | [], acc, _, _, x4 => ⟨x4, by show _ = So.nx (Elr ps S t x4 (.ol ((acc ++ []).map rowD))); rw [List.append_nil]; rfl⟩
  | v :: V, acc, hV, hl, x4 => by
    have el : longer ps (v :: V) = ps.filterMap (ext1 v) ++ longer ps V := by unfold longer; rw [List.flatMap_cons]
    rw [el, ← List.append_assoc] at hl ⊢
    obtain ⟨x4', ih⟩ := lr_out ps hps S t V (acc ++ ps.filterMap (ext1 v)) (fun w hw => hV w (List.mem_cons_of_mem _ hw)) hl (.fr (rowD v))
    obtain ⟨h0, h1⟩ := hV v List.mem_cons_self
    have e : sName 4 (rowD v) (Elr ps S t x4 (.ol (acc.map rowD))) = some (Elr ps S t (.fr (rowD v)) (.ol (acc.map rowD))) := rfl
    have g := lr_in ps S t v h0 h1 ps acc (by rw [List.length_append, List.length_append] at hl; omega)
    have y : b__law_ring_2 (Elr ps S t (.fr (rowD v)) (.ol (acc.map rowD))) = .nx (Elr ps S t (.fr (rowD v)) (.ol ((acc ++ ps.filterMap (ext1 v)).map rowD))) := by
      unfold b__law_ring_2
      unfold Elr at g ⊢
      generalize b__law_ring_1 = bb at g ⊢
      repeat first | walk_at "vl" | simp only [g]
      try rfl
    rw [List.map_cons, VL.gLoop_cons, e]
    dsimp only
    rw [y]
    exact ⟨x4', ih⟩
open M48 in
theorem lr_turn (ps : Pairs) (hps : ps.length ≤ 20) (h8 : (firsts ps []).length ≤ 8) (n : Nat) (hn : n ≤ 100) (t : D) :
    ((W ps n).find? (fun w => decide ((lst w, hd w) ∈ ps)) = none → b__law_ring_4 (Elr ps (.ol ((W ps n).map rowD)) (.fr t) .un .un) = .nx (Elr ps (.ol ((W ps (n + 1)).map rowD)) .un .un .un)) ∧
    ∀ w, (W ps n).find? (fun w => decide ((lst w, hd w) ∈ ps)) = some w → ∃ ρ, b__law_ring_4 (Elr ps (.ol ((W ps n).map rowD)) (.fr t) .un .un) = .rt (.fr (rowD w)) ρ := by
  have wl : ∀ (n : Nat) (w : List Int), Way ps n w → w.length = n + 1 := fun n => by
    induction n with
    | zero => rintro w ⟨s, _, rfl⟩; rfl
    | succ n ih => rintro w ⟨u, v, hu, _, _, _, rfl⟩; rw [List.length_append, ih u hu]; rfl
  have hne : ∀ w ∈ W ps n, w ≠ [] ∧ w.length ≤ 1000 := fun w hw => ⟨(way_ok ((W_way ps n w).mp hw)).2, by have := wl n w ((W_way ps n w).mp hw); omega⟩
  obtain ⟨f1, f2⟩ := lr_find ps (.fr (.list ((W ps n).map rowD))) (.fr t) (W ps n) (fun w hw => (hne w hw).1) .un
  have es := sort_rows (longer ps (W ps n))
  have hlen := longer_len ps hps h8 n
  have eW : W ps (n + 1) = sortR (longer ps (W ps n)) := rfl
  rw [← eW] at es
  constructor
  · intro hk
    obtain ⟨x4, g1⟩ := f1 hk
    obtain ⟨x5, g2⟩ := lr_out ps (by omega) (.fr (.list ((W ps n).map rowD))) (.fr t) (W ps n) [] hne (by rw [List.nil_append]; omega) x4
    rw [List.nil_append] at g2
    unfold b__law_ring_4
    unfold Elr at g1 g2 ⊢
    generalize b__law_ring_3 = b3 at g1 ⊢
    generalize b__law_ring_2 = b2 at g2 ⊢
    generalize W ps (n + 1) = W' at es eW ⊢
    simp only [List.map_nil] at g2
    repeat first | walk_at "vl" | simp only [g1, g2, es]
    try rfl
  · intro w hk
    obtain ⟨ρ, g1⟩ := f2 w hk
    unfold b__law_ring_4
    unfold Elr at g1 ⊢
    generalize b__law_ring_3 = b3 at g1 ⊢
    generalize b__law_ring_2 = b2
    repeat first | walk_at "vl" | simp only [g1]
    try exact ⟨_, rfl⟩
open M48 in
def lawR (ps : Pairs) : Nat → Nat → Option (List Int)
  | _, 0 => none
  | n, k + 1 => match (W ps n).find? (fun w => decide ((lst w, hd w) ∈ ps)) with
    | some w => some w
    | none => lawR ps (n + 1) k
open M48 in
theorem lawR_rg (ps : Pairs) : ∀ k n : Nat, lawR ps n k = (List.range' n k).findSome? fun t => (W ps t).find? fun w => decide ((lst w, hd w) ∈ ps)
  | 0, _ => rfl
  | k + 1, n => by
    rw [lawR, List.range'_succ, List.findSome?_cons, lawR_rg ps k (n + 1)]
    cases (W ps n).find? fun w => decide ((lst w, hd w) ∈ ps) <;> rfl
open M48 in
theorem lawR_eq (ps : Pairs) : lawR ps 0 8 = (List.range 8).findSome? fun t => (W ps t).find? fun w => decide ((lst w, hd w) ∈ ps) := by
  rw [lawR_rg, List.range_eq_range']
open M48 in
theorem lr_loop (ps : Pairs) (hps : ps.length ≤ 20) (h8 : (firsts ps []).length ≤ 8) : ∀ (is : List D) (n : Nat), n + is.length ≤ 100 →
    (lawR ps n is.length = none → ∃ S, gLoop (sName 3) b__law_ring_4 is (Elr ps (.ol ((W ps n).map rowD)) .un .un .un) = .nx (Elr ps S .un .un .un)) ∧
    ∀ w, lawR ps n is.length = some w → ∃ ρ, gLoop (sName 3) b__law_ring_4 is (Elr ps (.ol ((W ps n).map rowD)) .un .un .un) = .rt (.fr (rowD w)) ρ
  | [], n, _ => ⟨fun _ => ⟨_, rfl⟩, fun w h => nomatch h⟩
  | t :: is, n, hl => by
    rw [List.length_cons] at hl
    have ih := lr_loop ps hps h8 is (n + 1) (by omega)
    obtain ⟨h1, h2⟩ := lr_turn ps hps h8 n (by omega) t
    have e : sName 3 t (Elr ps (.ol ((W ps n).map rowD)) .un .un .un) = some (Elr ps (.ol ((W ps n).map rowD)) (.fr t) .un .un) := rfl
    rw [VL.gLoop_cons, e, List.length_cons, lawR]
    dsimp only
    cases hk : (W ps n).find? (fun w => decide ((lst w, hd w) ∈ ps)) with
    | none => rw [h1 hk]; exact ih
    | some w =>
      obtain ⟨ρ, g⟩ := h2 w hk
      rw [g]
      refine ⟨fun z => (nomatch z), fun y z => ?_⟩
      cases z
      exact ⟨ρ, rfl⟩
open M48 in
theorem lr_ok (ps : Pairs) (hps : ps.length ≤ 20) (h8 : (firsts ps []).length ≤ 8) : F__law_ring [.list (ps.map pr)] = .ok (optR (lawR ps 0 8)) := by
  have g1 := lr_starts ps ps [] (by simp; omega)
  have es := sort_rows ((firsts ps []).map sg)
  have e0 : W ps 0 = sortR ((firsts ps []).map sg) := rfl
  rw [← e0] at es
  have r8 : rngOk 8 = true := by decide
  have er : (rng 0 8).length = 8 := rfl
  obtain ⟨f1, f2⟩ := lr_loop ps hps h8 (rng 0 8) 0 (by rw [er]; decide)
  rw [er] at f1 f2
  unfold F__law_ring g__law_ring
  unfold Elr at g1 f1 f2
  generalize b__law_ring_5 = b5 at g1 ⊢
  generalize b__law_ring_4 = b4 at f1 f2 ⊢
  generalize W ps 0 = W0 at es f1 f2
  simp only [List.map_nil] at g1
  cases hk : lawR ps 0 8 with
  | none =>
    obtain ⟨S, h⟩ := f1 hk
    repeat first | walk_at "vl" | simp only [g1, es, r8, h]
    try rfl
  | some w =>
    obtain ⟨ρ, h⟩ := f2 w hk
    repeat first | walk_at "vl" | simp only [g1, es, r8, h]
    try rfl
end K
namespace K
open PySem PySem.Spec PyProof.Rows L2 VL
variable [Vx]
local macro_rules | `(tactic| walk_at "vl") => `(tactic| simp only [ap_fSU, su_ti, ap_fCallE, so_frl, so_frt, so_ol, so_bw, so_btl, so_btt, ap_fEnumQ, ap_pVar, ap_treeAt, ap_putT, ap_pIx, px_ol, px_od, useP_ok, ap_gPlApp, appK_ol, ap_gPlSet, ps_ol, ps_od, lf_fr, lf_ol, lf_od, tT_ol, tT_od, tT_ot, td_fz, td_ol, td_od, ap_gDPut, ap_gDDel, ap_fKGet, ap_fKIn, tb_nil, tb_cons, ap_fDisp, evp_nil, evp_cons, dmerge_eq, ap_fDNew, isk_i, isk_s, keq_ii, keq_ss, dput_nil, dput_cons, dget_nil, dget_cons, okd_nil, okd_s, okd_i, ix_d, in_ds, in_di, List.foldl_cons, List.foldl_nil, Option.isSome_some, Option.isSome_none, ap_fRng3, ap_oRng3, ap_fRev, rev_l, ap_fCallL, ff_nil, ff_cons, ap_fIsi, isi_n, isi_b, isi_i, isi_s, isi_l, isi_t, ap_isiB, fnR_eq, ap_gSeq, ap_gNext, ap_gCont, ap_gBreak, ap_gFz, ap_gIf, br_t, br_f, br_b, useS_ok, ap_gRet, ap_gSet, ap_gOwn, ap_gRetV, ap_gApp, ap_gAug, useL_ok, ap_gFor, ap_gForget, ap_gAsg, ap_gSetIx, ap_fVar, ap_fC, ap_fOp, ap_fB, ap_toB, ap_fTr, ap_fCall, ap_fBlt, ap_fNil, ap_fCons, ap_fLst, ap_fTup, ap_fzL, fzAll_nil, fzAll_fr, fzAll_ol, fzAll_od, fzAll_bw, fz_fr, fz_ol, fz_od, fz_bw, ap_callR, sure_ok, sure_bad, ap_fSl, ap_fNoP, ap_fP, ap_oInt, ap_fIter, ap_fRng1, ap_fRng2, ap_oRng1, ap_oRng2, lo_fr, lo_ol, lo_bw, to_fr, ap_fRep, ap_oRep, okite1, okite2, bind_ite, rbind_ite, fin_ite, fin_rt_fr, fin_rt_ol, fin_nx, fin_bad, brR_b, ap_fAnd, ap_fOr, ap_fNot, ap_notR, ap_fNeg, ap_dNeg, ap_fIf, ap_fChain, ap_fLc, ap_tAndB, ap_tOrB, ap_tNotB, ap_ttYes, tr_bool, tr_list, tr_tuple, tr_none, tr_int, ap_sName, ap_sTup, ap_sCons, ap_sNil, w_nil, w_cons, slot_fr, slot_ol, slot_od, ap_frz, add_ii, add_tt, add_ll, add_ss, sub_ii, mul_ii, mod_ii, div_ii, pow_ii, lt_ii, le_ii, gt_ii, ge_ii, isn_, notn_, isNone_n, isNone_i, isNone_t, isNone_l, isNone_s, isNone_b, rk_none, rk_bool, rk_int, rk_str, rk_list, rk_tuple, eq_rk, ne_rk, inl_rk, int_rk, inB_f, inB_t, ix_l, ix_t, atD_eq, atI_0, atI_1, atI_2, atI_3, atI_4, atI_5, atI_6, atI_7, atI_map, sl_l, sl_t, len_l, len_t, min_ii, max_ii, list_l, list_t, tuple_l, tuple_t, int_i, int_b, ofString_inj, eqv_ii, eqv_ss, eqv_bb, eqv_nn, eqv_ni, eqv_in, eqv_is, eqv_si, eqv_ns, eqv_sn, eqv_ll, eqv_tt, eqva_nn, eqva_cc, eqva_nc, eqva_cn, Rs.bind_ok, Rs.bind_bad, So.bind_nx, So.bind_rt, So.bind_ct, So.bind_bk, So.bind_bad, R.d_fr, R.d_ol, R.d_od, R.d_bw, retR_fr, retR_ol, retR_od, retR_ot, setR_fr, setR_ol, setR_od, setR_ot, ownR_fr, ownR_ol, ownR_od, ownR_ot, ownT_ol, ownT_od, ownT_ot, ap_gOwnT, opR_frfr, opR_frol, opR_frod, opR_frbw, opR_olfr, opR_olol, opR_olod, opR_olbw, opR_odfr, opR_odol, opR_odod, opR_odbw, opR_bwfr, opR_bwol, opR_bwod, opR_bwbw, opR_bt1, opR_bt2, immR_fr, immR_ol, immR_od, immR_bt, immR_bw, imm_n, imm_b, imm_i, imm_s, imm_t, imm_l, imm_d, imms_n, imms_c, opU_fr, opU_ol, opU_od, opU_bw, opU_bt, bt_fr, bt_ol, bt_od, bt_bw, bt_bt, ap_opL, fz_bt, fz_ot, fzAll_bt, fzAll_ot, lo_bt, to_bt, slot_ot, fin_rt_od, fin_rt_ot, fin_ex, R.d_bt, R.d_ot, Rs.bind_ex, So.bind_ex,
  List.map_cons, List.map_nil, List.length_cons, List.length_nil, List.length_map, List.replicate_succ, List.replicate_zero, List.cons_append, List.nil_append, List.append_nil, List.getElem?_cons_zero, List.getElem?_cons_succ, List.set_cons_zero, List.set_cons_succ, List.all_cons, List.all_nil, List.any_cons, List.any_nil, Nat.zero_add, Nat.add_one_sub_one, Nat.reduceAdd, Nat.reduceSub, Nat.reduceMul, Nat.reduceLeDiff, Int.cast_ofNat_Int, Int.reduceLT, Int.reduceLE, Int.reduceAdd, Int.reduceMul, Int.reduceEq, Int.reduceNe, Int.reduceToNat, Int.reduceNeg, Int.reducePow, String.reduceEq, decide_true, decide_false, Bool.false_eq_true, Bool.true_eq_false, Bool.or_true, Bool.or_false, Bool.true_or, Bool.false_or, Bool.and_true, Bool.true_and, Bool.and_false, Bool.false_and, Bool.not_true, Bool.not_false, Bool.and_self, Bool.or_self, if_true, if_false, ite_true, ite_false, reduceIte, Option.bind_some, Option.bind_none, Option.map_some, Option.map_none, and_self, and_true, true_and, eq_self])
/-! facts for the law -/
theorem sub_len2 {α : Type} [DecidableEq α] : ∀ {p S : List α}, p.Nodup → (∀ x ∈ p, x ∈ S) → p.length ≤ S.length
  | [], _, _, _ => Nat.zero_le _
  | x :: p, S, hn, hs => by
    obtain ⟨h1, h2⟩ := List.nodup_cons.mp hn
    have := sub_len2 (p := p) (S := S.erase x) h2 fun y hy => (List.mem_erase_of_ne fun e => h1 (by rw [← e]; exact hy)).mpr (hs y (List.mem_cons_of_mem _ hy))
    have e := List.length_erase_of_mem (hs x List.mem_cons_self)
    have : 0 < S.length := List.length_pos_of_mem (hs x List.mem_cons_self)
    rw [List.length_cons]
    omega
theorem foldl_inv {α β : Type} {f : β → α → β} (P : β → Prop) (h : ∀ b a, P b → P (f b a)) : ∀ (l : List α) (b : β), P b → P (l.foldl f b)
  | [], _, hb => hb
  | a :: l, b, hb => foldl_inv P h l (f b a) (h b a hb)
/-- the graph's pairs -/
def GrOk (ops : List Op) (ps : List (Int × Int)) : Prop := ps.Nodup ∧ ∀ p ∈ ps, p.1 ≠ p.2 ∧ (∃ o ∈ ops, o.t = p.1) ∧ ∃ o ∈ ops, o.t = p.2
theorem clash_ne {a b : Op} (h : a.clash b = true) : a.t ≠ b.t := by
  cases a <;> cases b <;> simp [Op.clash, Op.t] at h ⊢ <;> exact h.1
theorem gr_inv (ks : List Op) : GrOk ks (allP ks) := by
  unfold allP
  refine foldl_inv (GrOk ks) (fun ps j hp => ?_) _ _ ⟨List.nodup_nil, fun p h => absurd h List.not_mem_nil⟩
  unfold rowP
  refine foldl_inv (GrOk ks) (fun ps i hp => ?_) _ _ hp
  unfold stepP
  split
  · rename_i a b ha hb
    split
    · rename_i h
      rw [Bool.and_eq_true, Bool.not_eq_true', decide_eq_false_iff_not] at h
      refine ⟨List.nodup_append.mpr ⟨hp.1, by simp, fun x hx y hy e => h.2 (by rw [List.mem_singleton] at hy; rw [← hy, ← e]; exact hx)⟩, fun p hpp => ?_⟩
      rcases List.mem_append.mp hpp with z | z
      · exact hp.2 p z
      · rw [List.mem_singleton.mp z]
        exact ⟨clash_ne h.1, ⟨a, List.mem_of_getElem? ha, rfl⟩, ⟨b, List.mem_of_getElem? hb, rfl⟩⟩
    · exact hp
  · exact hp
def five : List Int := [1, 2, 3, 4, 5]
def twenty : List (Int × Int) := (five.flatMap fun a => five.map fun b => (a, b)).filter fun p => p.1 != p.2
theorem mem_five {t : Int} (h : 1 ≤ t ∧ t ≤ 5) : t ∈ five := by
  have : t = 1 ∨ t = 2 ∨ t = 3 ∨ t = 4 ∨ t = 5 := by omega
  rcases this with rfl | rfl | rfl | rfl | rfl <;> decide
theorem gr_few {ks : List Op} (h : ∀ o ∈ ks, 1 ≤ o.t ∧ o.t ≤ 5) : (allP ks).length ≤ 20 := by
  obtain ⟨h1, h2⟩ := gr_inv ks
  have := sub_len2 (S := twenty) h1 fun p hp => by
    obtain ⟨n, ⟨a, ha, ea⟩, b, hb, eb⟩ := h2 p hp
    unfold twenty
    rw [List.mem_filter, List.mem_flatMap]
    refine ⟨⟨p.1, mem_five (ea ▸ h a ha), List.mem_map.mpr ⟨p.2, mem_five (eb ▸ h b hb), rfl⟩⟩, by simpa using n⟩
  exact this
/-- the law's graph, sorted -/
theorem gr_sorted (ps : List (Int × Int)) : (ps.map pr).mergeSort dleD = (ps.mergeSort leP).map pr := (List.map_mergeSort (r := leP) (s := dleD) (f := prD) fun a _ b _ => (dle_pr a b).symm).symm
open M48 in
/-- the program's ring is the law's, for pairs of few numbers -/
theorem rings (ps : Pairs) (hne : ∀ p ∈ ps, p.1 ≠ p.2) (S : List Int) (hS : S.length ≤ 8) (hm : ∀ p ∈ ps, p.1 ∈ S) :
    (firsts (ps.mergeSort leP) []).length ≤ 8 ∧ (firsts ps []).length ≤ 8 ∧ ringP ps = lawR ps 0 8 ∧ (lawR ps 0 8 ≠ none ↔ ∃ m r, Ring ps (m :: r) ∧ ∀ x ∈ r, m < x) := by
  have f1 : (firsts (ps.mergeSort leP) []).length ≤ 8 := Nat.le_trans (sub_len (firsts_nodup _ _ List.nodup_nil) fun x hx => by
    rcases (mem_firsts _ _ _).mp hx with z | ⟨p, hp, e⟩
    · cases z
    · exact e ▸ hm p ((leP_mem p).mp hp)) hS
  have f2 : (firsts ps []).length ≤ 8 := Nat.le_trans (sub_len (firsts_nodup _ _ List.nodup_nil) fun x hx => by
    rcases (mem_firsts _ _ _).mp hx with z | ⟨p, hp, e⟩
    · cases z
    · exact e ▸ hm p hp) hS
  have m1 : ∀ s, s ∈ firsts (ps.mergeSort leP) [] ↔ ∃ p ∈ ps, p.1 = s := fun s => by
    rw [mem_firsts]
    simp only [List.not_mem_nil, false_or, leP_mem]
  refine ⟨f1, f2, ?_, ?_⟩
  · rw [lawR_eq]
    exact search_both hne (leP_mem (xs := ps)) (leP_rise ps) (firsts_rise _ _ (leP_rise ps) List.Pairwise.nil fun a h => absurd h List.not_mem_nil) m1 f1 fun n _ => ⟨W_sorted ps n, W_way ps n⟩
  · rw [lawR_eq]
    exact search_none (fun p hp => (m1 p.1).mpr ⟨p, hp, rfl⟩) f1 fun n _ => ⟨W_sorted ps n, W_way ps n⟩
theorem firstn_nodup {ns : List Int} (h : ns.Nodup) (n : Nat) : (ns.take n).Nodup := h.sublist (List.take_sublist n ns)
end K
namespace K
open PySem PySem.Spec PyProof.Rows L2 VL
variable [Vx]
local macro_rules | `(tactic| walk_at "vl") => `(tactic| simp only [ap_fSU, su_ti, ap_fCallE, so_frl, so_frt, so_ol, so_bw, so_btl, so_btt, ap_fEnumQ, ap_pVar, ap_treeAt, ap_putT, ap_pIx, px_ol, px_od, useP_ok, ap_gPlApp, appK_ol, ap_gPlSet, ps_ol, ps_od, lf_fr, lf_ol, lf_od, tT_ol, tT_od, tT_ot, td_fz, td_ol, td_od, ap_gDPut, ap_gDDel, ap_fKGet, ap_fKIn, tb_nil, tb_cons, ap_fDisp, evp_nil, evp_cons, dmerge_eq, ap_fDNew, isk_i, isk_s, keq_ii, keq_ss, dput_nil, dput_cons, dget_nil, dget_cons, okd_nil, okd_s, okd_i, ix_d, in_ds, in_di, List.foldl_cons, List.foldl_nil, Option.isSome_some, Option.isSome_none, ap_fRng3, ap_oRng3, ap_fRev, rev_l, ap_fCallL, ff_nil, ff_cons, ap_fIsi, isi_n, isi_b, isi_i, isi_s, isi_l, isi_t, ap_isiB, fnR_eq, ap_gSeq, ap_gNext, ap_gCont, ap_gBreak, ap_gFz, ap_gIf, br_t, br_f, br_b, useS_ok, ap_gRet, ap_gSet, ap_gOwn, ap_gRetV, ap_gApp, ap_gAug, useL_ok, ap_gFor, ap_gForget, ap_gAsg, ap_gSetIx, ap_fVar, ap_fC, ap_fOp, ap_fB, ap_toB, ap_fTr, ap_fCall, ap_fBlt, ap_fNil, ap_fCons, ap_fLst, ap_fTup, ap_fzL, fzAll_nil, fzAll_fr, fzAll_ol, fzAll_od, fzAll_bw, fz_fr, fz_ol, fz_od, fz_bw, ap_callR, sure_ok, sure_bad, ap_fSl, ap_fNoP, ap_fP, ap_oInt, ap_fIter, ap_fRng1, ap_fRng2, ap_oRng1, ap_oRng2, lo_fr, lo_ol, lo_bw, to_fr, ap_fRep, ap_oRep, okite1, okite2, bind_ite, rbind_ite, fin_ite, fin_rt_fr, fin_rt_ol, fin_nx, fin_bad, brR_b, ap_fAnd, ap_fOr, ap_fNot, ap_notR, ap_fNeg, ap_dNeg, ap_fIf, ap_fChain, ap_fLc, ap_tAndB, ap_tOrB, ap_tNotB, ap_ttYes, tr_bool, tr_list, tr_tuple, tr_none, tr_int, ap_sName, ap_sTup, ap_sCons, ap_sNil, w_nil, w_cons, slot_fr, slot_ol, slot_od, ap_frz, add_ii, add_tt, add_ll, add_ss, sub_ii, mul_ii, mod_ii, div_ii, pow_ii, lt_ii, le_ii, gt_ii, ge_ii, isn_, notn_, isNone_n, isNone_i, isNone_t, isNone_l, isNone_s, isNone_b, rk_none, rk_bool, rk_int, rk_str, rk_list, rk_tuple, eq_rk, ne_rk, inl_rk, int_rk, inB_f, inB_t, ix_l, ix_t, atD_eq, atI_0, atI_1, atI_2, atI_3, atI_4, atI_5, atI_6, atI_7, atI_map, sl_l, sl_t, len_l, len_t, min_ii, max_ii, list_l, list_t, tuple_l, tuple_t, int_i, int_b, ofString_inj, eqv_ii, eqv_ss, eqv_bb, eqv_nn, eqv_ni, eqv_in, eqv_is, eqv_si, eqv_ns, eqv_sn, eqv_ll, eqv_tt, eqva_nn, eqva_cc, eqva_nc, eqva_cn, Rs.bind_ok, Rs.bind_bad, So.bind_nx, So.bind_rt, So.bind_ct, So.bind_bk, So.bind_bad, R.d_fr, R.d_ol, R.d_od, R.d_bw, retR_fr, retR_ol, retR_od, retR_ot, setR_fr, setR_ol, setR_od, setR_ot, ownR_fr, ownR_ol, ownR_od, ownR_ot, ownT_ol, ownT_od, ownT_ot, ap_gOwnT, opR_frfr, opR_frol, opR_frod, opR_frbw, opR_olfr, opR_olol, opR_olod, opR_olbw, opR_odfr, opR_odol, opR_odod, opR_odbw, opR_bwfr, opR_bwol, opR_bwod, opR_bwbw, opR_bt1, opR_bt2, immR_fr, immR_ol, immR_od, immR_bt, immR_bw, imm_n, imm_b, imm_i, imm_s, imm_t, imm_l, imm_d, imms_n, imms_c, opU_fr, opU_ol, opU_od, opU_bw, opU_bt, bt_fr, bt_ol, bt_od, bt_bw, bt_bt, ap_opL, fz_bt, fz_ot, fzAll_bt, fzAll_ot, lo_bt, to_bt, slot_ot, fin_rt_od, fin_rt_ot, fin_ex, R.d_bt, R.d_ot, Rs.bind_ex, So.bind_ex,
  List.map_cons, List.map_nil, List.length_cons, List.length_nil, List.length_map, List.replicate_succ, List.replicate_zero, List.cons_append, List.nil_append, List.append_nil, List.getElem?_cons_zero, List.getElem?_cons_succ, List.set_cons_zero, List.set_cons_succ, List.all_cons, List.all_nil, List.any_cons, List.any_nil, Nat.zero_add, Nat.add_one_sub_one, Nat.reduceAdd, Nat.reduceSub, Nat.reduceMul, Nat.reduceLeDiff, Int.cast_ofNat_Int, Int.reduceLT, Int.reduceLE, Int.reduceAdd, Int.reduceMul, Int.reduceEq, Int.reduceNe, Int.reduceToNat, Int.reduceNeg, Int.reducePow, String.reduceEq, decide_true, decide_false, Bool.false_eq_true, Bool.true_eq_false, Bool.or_true, Bool.or_false, Bool.true_or, Bool.false_or, Bool.and_true, Bool.true_and, Bool.and_false, Bool.false_and, Bool.not_true, Bool.not_false, Bool.and_self, Bool.or_self, if_true, if_false, ite_true, ite_false, reduceIte, Option.bind_some, Option.bind_none, Option.map_some, Option.map_none, and_self, and_true, true_and, eq_self])
/-! the law -/
theorem two_at {P : Int → Int → Prop} {xs ys : List Int} (h : All2 P xs ys) {i : Nat} {b : Int} (e : ys[i]? = some b) : ∃ a, xs[i]? = some a ∧ P a b := h.get e
def sz40 : List Int := (List.replicate 20 [8, 8]).flatten
theorem rep40 : repD 20 [.int 8, .int 8] = sz40.map .int := rfl
theorem sz40_at {i : Nat} (h : i < 40) : sz40[i]? = some 8 := by
  have : ∀ i : Fin 40, sz40[i.val]? = some 8 := by decide
  exact this ⟨i, h⟩
theorem two_dig {ds : List Int} (h : All2 (fun d s => 0 ≤ d ∧ d < s) ds sz40) {i : Nat} (hi : i < 40) : ∃ a, atI ds (i : Int) = some a ∧ 0 ≤ a ∧ a < 8 := by
  obtain ⟨a, h1, h2⟩ := two_at h (sz40_at hi)
  exact ⟨a, by rw [atI_ofNat]; exact h1, h2⟩
theorem at_mod {ns : List Int} (h : 0 < ns.length) {a : Int} (ha : 0 ≤ a) : ∃ x, atI ns (a % (ns.length : Int)) = some x ∧ x ∈ ns := by
  obtain ⟨k, rfl⟩ := Int.eq_ofNat_of_zero_le ha
  have hk : k % ns.length < ns.length := Nat.mod_lt _ h
  refine ⟨ns[k % ns.length], ?_, List.getElem_mem hk⟩
  rw [show (k : Int) % (ns.length : Int) = ((k % ns.length : Nat) : Int) by omega, atI_ofNat]
  exact List.getElem?_eq_getElem hk
open M48 in
def El (xs : List D) (w hd dg : D) (ns : List Int) (ps : Pairs) (j p : Sl) : En := [.fr (.list xs), .fr w, .fr hd, .fr dg, .fr (.list (ns.map .int)), .ol (ps.map pr), j, .un, .un, .un, .un, p]
open M48 in
theorem ps_turn (xs : List D) (w dg : D) (a b c : Int) (ds ns : List Int) (hn : 0 < ns.length) (hd : All2 (fun d s => 0 ≤ d ∧ d < s) ds sz40) (ps : Pairs) (hl : ps.length ≤ 1000) (j : Nat) (hj : j < 20) :
    ∃ ps' : Pairs, ps'.length ≤ ps.length + 1 ∧ (∀ p ∈ ps', p ∈ ps ∨ (p.1 ≠ p.2 ∧ p.1 ∈ ns ∧ p.2 ∈ ns)) ∧ b_law_1 (El xs w (.list [.int a, .int b, .int c]) (.list (ds.map .int)) ns ps (.fr (.int (0 + (j : Int)))) .un) = .nx (El xs w (.list [.int a, .int b, .int c]) (.list (ds.map .int)) ns ps' .un .un) := by
  obtain ⟨u, u1, u2, u3⟩ := two_dig hd (show 2 * j < 40 by omega)
  obtain ⟨v, v1, v2, v3⟩ := two_dig hd (show 2 * j + 1 < 40 by omega)
  obtain ⟨x, x1, x2⟩ := at_mod hn u2
  obtain ⟨y, y1, y2⟩ := at_mod hn v2
  have c2 : ∀ m : Int, cMul 2 m = true := fun m => by simp [cMul]
  have e1 : 2 * (j : Int) = ((2 * j : Nat) : Int) := by omega
  have e2 : ((2 * j : Nat) : Int) + 1 = ((2 * j + 1 : Nat) : Int) := by omega
  have hp : (0 : Int) < (ns.length : Int) := by omega
  have z := sz_small (show ps.length ≤ 1000000 by omega)
  have ea : ∀ p : Int × Int, (ps ++ [p]).map pr = ps.map pr ++ [.tuple [.int p.1, .int p.2]] := fun p => by rw [List.map_append]; rfl
  have el : (ps.map pr).length = ps.length := List.length_map ..
  unfold b_law_1 El
  by_cases h : x = y
  · refine ⟨ps, by omega, fun p hp => .inl hp, ?_⟩
    have hxy : ¬ y < x := by omega
    generalize ps.map pr = A at el
    repeat first | walk_at "vl" | simp only [Int.zero_add, c2, e1, e2, hp, u1, v1, x1, y1, hxy, h, bind_ite, Int.lt_irrefl, ite_self]
    try rfl
  · by_cases h0 : c = 0 ∧ y < x
    · refine ⟨ps ++ [(y, x)], by rw [List.length_append, List.length_singleton]; exact Nat.le_refl _, fun p hp => ?_, ?_⟩
      · rcases List.mem_append.mp hp with z | z
        · exact .inl z
        · rw [List.mem_singleton.mp z]
          exact .inr ⟨fun e => h e.symm, y2, x2⟩
      · rw [ea]
        generalize ps.map pr = A at el
        obtain ⟨rfl, h2⟩ := h0
        have hyx : ¬ y = x := fun e => h e.symm
        repeat first | walk_at "vl" | simp only [Int.zero_add, c2, e1, e2, hp, u1, v1, x1, y1, h2, hyx, el, z]
        try rfl
    · refine ⟨ps ++ [(x, y)], by rw [List.length_append, List.length_singleton]; exact Nat.le_refl _, fun p hp => ?_, ?_⟩
      · rcases List.mem_append.mp hp with z | z
        · exact .inl z
        · rw [List.mem_singleton.mp z]
          exact .inr ⟨h, x2, y2⟩
      · rw [ea]
        generalize ps.map pr = A at el
        by_cases hc : c = 0
        · have h2 : ¬ y < x := fun q => h0 ⟨hc, q⟩
          subst hc
          repeat first | walk_at "vl" | simp only [Int.zero_add, c2, e1, e2, hp, u1, v1, x1, y1, h2, h, el, z]
          try rfl
        · repeat first | walk_at "vl" | simp only [Int.zero_add, c2, e1, e2, hp, u1, v1, x1, y1, hc, h, el, z]
          try rfl
open M48 in
theorem ps_loop (xs : List D) (w dg : D) (a b c : Int) (ds ns : List Int) (hn : 0 < ns.length) (hd : All2 (fun d s => 0 ≤ d ∧ d < s) ds sz40) (m : Nat) (hm : m ≤ 20) :
    ∃ ps : Pairs, ps.length ≤ m ∧ (∀ p ∈ ps, p.1 ≠ p.2 ∧ p.1 ∈ ns ∧ p.2 ∈ ns) ∧ gLoop (sName 6) b_law_1 (rng 0 m) (El xs w (.list [.int a, .int b, .int c]) (.list (ds.map .int)) ns [] .un .un) = .nx (El xs w (.list [.int a, .int b, .int c]) (.list (ds.map .int)) ns ps .un .un) := by
  obtain ⟨ps, ⟨h1, h2⟩, h3⟩ := loop_ex (f := fun i : Nat => PyData.int (0 + (i : Int))) (E := fun ps : Pairs => El xs w (.list [.int a, .int b, .int c]) (.list (ds.map .int)) ns ps .un .un) (st := sName 6) (body := b_law_1)
    (fun i ps => ps.length ≤ i ∧ ∀ p ∈ ps, p.1 ≠ p.2 ∧ p.1 ∈ ns ∧ p.2 ∈ ns) (List.range m) [] ⟨Nat.zero_le _, fun p h => absurd h List.not_mem_nil⟩ (fun i ps j hi ⟨q1, q2⟩ => by
      obtain ⟨rfl, hij⟩ := range_at hi
      obtain ⟨ps', a1, a2, a3⟩ := ps_turn xs w dg a b c ds ns hn hd ps (by omega) j (by omega)
      exact ⟨ps', ⟨by omega, fun p hp => (a2 p hp).elim (q2 p) id⟩, _, rfl, .inl a3⟩)
  rw [List.length_range] at h1
  exact ⟨ps, h1, h2, h3⟩
end K
namespace K
open PySem PySem.Spec PyProof.Rows L2 VL
variable [Vx]
local macro_rules | `(tactic| walk_at "vl") => `(tactic| simp only [so_frl, so_frt, so_ol, so_bw, so_btl, so_btt, ap_fEnumQ, ap_pVar, ap_treeAt, ap_putT, ap_pIx, px_ol, px_od, useP_ok, ap_gPlApp, appK_ol, ap_gPlSet, ps_ol, ps_od, lf_fr, lf_ol, lf_od, tT_ol, tT_od, tT_ot, td_fz, td_ol, td_od, ap_gDPut, ap_gDDel, ap_fKGet, ap_fKIn, tb_nil, tb_cons, ap_fDisp, evp_nil, evp_cons, dmerge_eq, ap_fDNew, isk_i, isk_s, keq_ii, keq_ss, dput_nil, dput_cons, dget_nil, dget_cons, okd_nil, okd_s, okd_i, ix_d, in_ds, in_di, List.foldl_cons, List.foldl_nil, Option.isSome_some, Option.isSome_none, ap_fRng3, ap_oRng3, ap_fRev, rev_l, ap_fCallL, ff_nil, ff_cons, ap_fIsi, isi_n, isi_b, isi_i, isi_s, isi_l, isi_t, ap_isiB, fnR_eq, ap_gSeq, ap_gNext, ap_gCont, ap_gBreak, ap_gFz, ap_gIf, br_t, br_f, br_b, useS_ok, ap_gRet, ap_gSet, ap_gOwn, ap_gRetV, ap_gApp, ap_gAug, useL_ok, ap_gFor, ap_gForget, ap_gAsg, ap_gSetIx, ap_fVar, ap_fC, ap_fOp, ap_fB, ap_toB, ap_fTr, ap_fCall, ap_fBlt, ap_fNil, ap_fCons, ap_fLst, ap_fTup, ap_fzL, fzAll_nil, fzAll_fr, fzAll_ol, fzAll_od, fzAll_bw, fz_fr, fz_ol, fz_od, fz_bw, ap_callR, sure_ok, sure_bad, ap_fSl, ap_fNoP, ap_fP, ap_oInt, ap_fIter, ap_fRng1, ap_fRng2, ap_oRng1, ap_oRng2, lo_fr, lo_ol, lo_bw, to_fr, ap_fRep, ap_oRep, okite1, okite2, bind_ite, rbind_ite, fin_ite, fin_rt_fr, fin_rt_ol, fin_nx, fin_bad, brR_b, ap_fAnd, ap_fOr, ap_fNot, ap_notR, ap_fNeg, ap_dNeg, ap_fIf, ap_fChain, ap_fLc, ap_tAndB, ap_tOrB, ap_tNotB, ap_ttYes, tr_bool, tr_list, tr_tuple, tr_none, tr_int, ap_sName, ap_sTup, ap_sCons, ap_sNil, w_nil, w_cons, slot_fr, slot_ol, slot_od, ap_frz, add_ii, add_tt, add_ll, add_ss, sub_ii, mul_ii, mod_ii, div_ii, pow_ii, lt_ii, le_ii, gt_ii, ge_ii, isn_, notn_, isNone_n, isNone_i, isNone_t, isNone_l, isNone_s, isNone_b, rk_none, rk_bool, rk_int, rk_str, rk_list, rk_tuple, eq_rk, ne_rk, inl_rk, int_rk, inB_f, inB_t, ix_l, ix_t, atD_eq, atI_0, atI_1, atI_2, atI_3, atI_4, atI_5, atI_6, atI_7, atI_map, sl_l, sl_t, len_l, len_t, min_ii, max_ii, list_l, list_t, tuple_l, tuple_t, int_i, int_b, ofString_inj, eqv_ii, eqv_ss, eqv_bb, eqv_nn, eqv_ni, eqv_in, eqv_is, eqv_si, eqv_ns, eqv_sn, eqv_ll, eqv_tt, eqva_nn, eqva_cc, eqva_nc, eqva_cn, Rs.bind_ok, Rs.bind_bad, So.bind_nx, So.bind_rt, So.bind_ct, So.bind_bk, So.bind_bad, R.d_fr, R.d_ol, R.d_od, R.d_bw, retR_fr, retR_ol, retR_od, retR_ot, setR_fr, setR_ol, setR_od, setR_ot, ownR_fr, ownR_ol, ownR_od, ownR_ot, ownT_ol, ownT_od, ownT_ot, ap_gOwnT, opR_frfr, opR_frol, opR_frod, opR_frbw, opR_olfr, opR_olol, opR_olod, opR_olbw, opR_odfr, opR_odol, opR_odod, opR_odbw, opR_bwfr, opR_bwol, opR_bwod, opR_bwbw, opR_bt1, opR_bt2, immR_fr, immR_ol, immR_od, immR_bt, immR_bw, imm_n, imm_b, imm_i, imm_s, imm_t, imm_l, imm_d, imms_n, imms_c, opU_fr, opU_ol, opU_od, opU_bw, opU_bt, bt_fr, bt_ol, bt_od, bt_bw, bt_bt, ap_opL, fz_bt, fz_ot, fzAll_bt, fzAll_ot, lo_bt, to_bt, slot_ot, fin_rt_od, fin_rt_ot, fin_ex, R.d_bt, R.d_ot, Rs.bind_ex, So.bind_ex,
  List.map_cons, List.map_nil, List.length_cons, List.length_nil, List.length_map, List.replicate_succ, List.replicate_zero, List.cons_append, List.nil_append, List.append_nil, List.getElem?_cons_zero, List.getElem?_cons_succ, List.set_cons_zero, List.set_cons_succ, List.all_cons, List.all_nil, List.any_cons, List.any_nil, Nat.zero_add, Nat.add_one_sub_one, Nat.reduceAdd, Nat.reduceSub, Nat.reduceMul, Nat.reduceLeDiff, Int.cast_ofNat_Int, Int.reduceLT, Int.reduceLE, Int.reduceAdd, Int.reduceMul, Int.reduceEq, Int.reduceNe, Int.reduceToNat, Int.reduceNeg, Int.reducePow, String.reduceEq, decide_true, decide_false, Bool.false_eq_true, Bool.true_eq_false, Bool.or_true, Bool.or_false, Bool.true_or, Bool.false_or, Bool.and_true, Bool.true_and, Bool.and_false, Bool.false_and, Bool.not_true, Bool.not_false, Bool.and_self, Bool.or_self, if_true, if_false, ite_true, ite_false, reduceIte, Option.bind_some, Option.bind_none, Option.map_some, Option.map_none, and_self, and_true, true_and, eq_self])
/-! the law's turn -/
def b_sch : FS := gSeq (gSet 9 (fCall F__law_schedule (fCons (fVar 0) (fCons (fOp dAdd (fOp dMul (fC (.int 4)) (fVar 1)) (fC (.int 2))) (fNil))))) (gSeq (gSet 10 (fCall F__law_graph (fCons (fVar 9) (fNil)))) (gIf (tOrB (fB (fOp dNe (fCall F_serial_order (fCons (fVar 9) (fNil))) (fCall F__law_order (fCons (fCall F__law_numbers (fCons (fCall F__law_kept (fCons (fVar 9) (fNil))) (fNil))) (fCons (fVar 10) (fNil)))))) (fB (fOp dNe (fCall F_ring_of (fCons (fVar 9) (fNil))) (fCall F__law_ring (fCons (fVar 10) (fNil)))))) (gRet (fC (.bool false))) (gNext)))
def b_rest : FS := gSeq (gOwn 5 (fLst (fNil))) (gSeq (gFor (fRng1 (fCons (fOp dIx (fVar 2) (fC (.int 1))) (fNil))) (sName 6) (b_law_1)) (gSeq (gSet 7 (fCall F__law_order (fCons (fVar 4) (fCons (fVar 5) (fNil))))) (gSeq (gSet 8 (fTup (fCons (fBlt dListOf (fCons (fVar 4) (fNil))) (fCons (fBlt dListOf (fCons (fVar 5) (fNil))) (fNil))))) (gSeq (gFz 5 (gIf (tOrB (fB (fOp dNe (fCall F_order_of (fCons (fOp dIx (fVar 8) (fC (.int 0))) (fCons (fOp dIx (fVar 8) (fC (.int 1))) (fNil)))) (fVar 7))) (tOrB (fB (fOp dNe (fCall F_ring_in (fCons (fOp dIx (fVar 8) (fC (.int 1))) (fNil))) (fCall F__law_ring (fCons (fVar 5) (fNil))))) (fB (fOp dNe (fVar 8) (fTup (fCons (fVar 4) (fCons (fVar 5) (fNil)))))))) (gRet (fC (.bool false))) (gNext))) (gSeq (gIf (fB (fOp dNe (fOp dIsN (fVar 7) (fC .none)) (fOp dNotN (fCall F__law_ring (fCons (fVar 5) (fNil))) (fC .none)))) (gRet (fC (.bool false))) (gNext)) b_sch)))))
theorem b2_eq : b_law_2 = gForget [1, 2, 3, 4, 5, 6, 7, 8, 9, 10, 11] (gSeq (gSet 2 (fCall F__law_draw (fCons (fVar 0) (fCons (fOp dMul (fC (.int 4)) (fVar 1)) (fCons (fLst (fCons (fC (.int 8)) (fCons (fC (.int 21)) (fCons (fC (.int 3)) (fNil))))) (fNil)))))) (gSeq (gSet 3 (fCall F__law_draw (fCons (fVar 0) (fCons (fOp dAdd (fOp dMul (fC (.int 4)) (fVar 1)) (fC (.int 1))) (fCons (fRep (fLst (fCons (fC (.int 8)) (fCons (fC (.int 8)) (fNil)))) (fC (.int 20))) (fNil)))))) (gSeq (gSet 4 (fLR2 (fC (.int 1)) (fOp dAdd (fC (.int 2)) (fOp dIx (fVar 2) (fC (.int 0)))))) (gSeq (gIf (fB (fOp dEq (fOp dIx (fVar 2) (fC (.int 2))) (fC (.int 1)))) (gSet 4 (fSl (fLst (fCons (fC (.int 4)) (fCons (fC (.int 1)) (fCons (fNeg (fC (.int 2))) (fCons (fC (.int 0)) (fCons (fC (.int 9)) (fCons (fC (.int 7)) (fCons (fC (.int 12)) (fCons (fC (.int 5)) (fNil)))))))))) (fNoP) (fP (fOp dAdd (fC (.int 1)) (fOp dIx (fVar 2) (fC (.int 0))))))) (gNext)) b_rest)))) := rfl
open M48 in
theorem ne_ord (k : Option (List Int)) : opR dNe (ordR k) (ordR k) = .ok (.fr (.bool false)) := by
  cases k with
  | none => unfold ordR; repeat first | walk_at "vl"
  | some os =>
    have n := ne_self (rk_ints 19 os)
    unfold ordR
    repeat first | walk_at "vl" | simp only [n]
open M48 in
theorem ne_opt (k : Option (List Int)) : opR dNe (optR k) (optR k) = .ok (.fr (.bool false)) := by
  cases k with
  | none => unfold optR; repeat first | walk_at "vl"
  | some os =>
    have n := ne_self (rk_ints 19 os)
    unfold optR
    repeat first | walk_at "vl" | simp only [n]
open M48 in
theorem sc_ok (ns : List Int) (x : Nat) (s2 s3 s4 s5 s6 s7 s8 s11 : Sl) : ∃ t9 t10, b_sch [.fr (.list (ns.map .int)), .fr (.int (0 + (x : Int))), s2, s3, s4, s5, s6, s7, s8, .un, .un, s11] = .nx [.fr (.list (ns.map .int)), .fr (.int (0 + (x : Int))), s2, s3, s4, s5, s6, s7, s8, t9, t10, s11] := by
  obtain ⟨ops, h1, h2, h3⟩ := sched_ok ns (4 * x + 2)
  have hsub : ∀ o ∈ kept ops, o ∈ ops := fun o ho => (List.mem_filter.mp ho).1
  have hk : (kept ops).length ≤ 100 := by
    have : (kept ops).length ≤ ops.length := List.length_filter_le _ _
    omega
  have hb : ∀ o ∈ kept ops, 1 ≤ o.t ∧ o.t ≤ 5 := fun o ho => h3 o (hsub o ho)
  have g1 := gr_eq F_do_conflict dc_eq ops hk
  have g2 := gr_eq F__law_clash lc_eq ops hk
  rw [← cg_gr, gr_sorted] at g1
  rw [← lg_gr, gr_sorted] at g2
  obtain ⟨ys, y1, y2, y3⟩ := to_ok (kept ops) hk
  have w1 := wa_eq ops
  have few := gr_few hb
  obtain ⟨i1, i2⟩ := gr_inv (kept ops)
  have hyl : ys.length ≤ 5 := sub_len (S := five) (y2.imp fun h => Int.ne_of_lt h) fun t ht => by
    obtain ⟨o, ho, e⟩ := (y3 t).mp ht
    exact e ▸ mem_five (hb o ho)
  have hyn : ys.Nodup := y2.imp fun h => Int.ne_of_lt h
  have ql := leP_len (allP (kept ops))
  have qm := fun p => leP_mem (xs := allP (kept ops)) p
  generalize (allP (kept ops)).mergeSort leP = qs at g1 g2 ql qm
  have o1 := of_ok ys ys qs hyn y2 (fun _ => Iff.rfl) rfl (by omega)
  have o2 := lo_ok ys ys qs hyn y2 (fun _ => Iff.rfl) (by omega)
  obtain ⟨r1, r2, r3, _⟩ := rings qs (fun p hp => (i2 p ((qm p).mp hp)).1) five (by decide) fun p hp => by
    obtain ⟨_, ⟨o, ho, e⟩, _⟩ := i2 p ((qm p).mp hp)
    exact e ▸ mem_five (hb o ho)
  have q1 := ri_ok qs (by omega) r1
  have q2 := lr_ok qs (by omega) r2
  rw [r3] at q1
  have so : F_serial_order [.list (ops.map Op.d)] = .ok (ordR (kahn qs ys.length ys)) := by
    unfold F_serial_order g_serial_order
    cases hk : kahn qs ys.length ys with
    | none =>
      rw [hk] at o1
      unfold ordR at o1 ⊢
      repeat first | walk_at "vl" | simp only [w1, y1, g1, o1]
      try rfl
    | some os =>
      rw [hk] at o1
      unfold ordR at o1 ⊢
      repeat first | walk_at "vl" | simp only [w1, y1, g1, o1]
      try rfl
  have ro : F_ring_of [.list (ops.map Op.d)] = .ok (optR (lawR qs 0 8)) := by
    unfold F_ring_of g_ring_of
    cases hk : lawR qs 0 8 with
    | none =>
      rw [hk] at q1
      unfold optR at q1 ⊢
      repeat first | walk_at "vl" | simp only [g1, q1]
      try rfl
    | some os =>
      rw [hk] at q1
      unfold optR at q1 ⊢
      repeat first | walk_at "vl" | simp only [g1, q1]
      try rfl
  have e4 : 4 * (x : Int) + 2 = ((4 * x + 2 : Nat) : Int) := by omega
  have c4 : ∀ m : Int, cMul 4 m = true := fun m => by simp [cMul]
  unfold b_sch
  refine ⟨.fr (.list (ops.map Op.d)), .fr (.list (qs.map pr)), ?_⟩
  repeat first | walk_at "vl" | simp only [Int.zero_add, e4, c4, h1, g2, so, lk_eq, ln_eq, w1, y1, o2, ne_ord, ro, q2, ne_opt]
  try rfl
theorem imms_ints : ∀ l : List Int, imms (l.map .int) = true
  | [] => rfl
  | a :: l => by rw [List.map_cons, imms_c, imm_i, imms_ints l]; rfl
open M48 in
theorem imms_prs : ∀ l : Pairs, imms (l.map pr) = true
  | [] => rfl
  | a :: l => by rw [List.map_cons, imms_c, imms_prs l]; rfl
open M48 in
theorem rest_ok (xs : List Int) (x : Nat) (a c : Int) (m : Nat) (hm : m ≤ 20) (ds : List Int) (hd : All2 (fun d s => 0 ≤ d ∧ d < s) ds sz40) (ns : List Int) (hn : ns.Nodup) (h0 : 0 < ns.length) (h8 : ns.length ≤ 8) :
    ∃ t5 t6 t7 t8 t9 t10 t11, b_rest [.fr (.list (xs.map .int)), .fr (.int (0 + (x : Int))), .fr (.list [.int a, .int m, .int c]), .fr (.list (ds.map .int)), .fr (.list (ns.map .int)), .un, .un, .un, .un, .un, .un, .un] = .nx [.fr (.list (xs.map .int)), .fr (.int (0 + (x : Int))), .fr (.list [.int a, .int m, .int c]), .fr (.list (ds.map .int)), .fr (.list (ns.map .int)), t5, t6, t7, t8, t9, t10, t11] := by
  obtain ⟨ps, p1, p2, p3⟩ := ps_loop (xs.map .int) (.int (0 + (x : Int))) (.int 0) a m c ds ns h0 hd m hm
  obtain ⟨ys, y1, y2, y3⟩ := rise_of hn
  have o1 := of_ok ns ys ps hn y1 y3 y2 (by omega)
  have o2 := lo_ok ns ys ps hn y1 y3 (by omega)
  obtain ⟨r1, r2, r3, r4⟩ := rings ps (fun p hp => (p2 p hp).1) ns h8 fun p hp => (p2 p hp).2.1
  have q1 := ri_ok ps (by omega) r1
  have q2 := lr_ok ps (by omega) r2
  rw [r3] at q1
  have kr := kahn_ring (ps := ps) (left := ys) (y1.imp fun h => Int.ne_of_lt h) fun p hp => (y3 _).mp (p2 p hp).2.1
  rw [y2] at kr
  have n1 := ne_self (d := .tuple [.list (ns.map .int), .list (ps.map pr)]) (by rw [rk_tuple]; simp only [List.all_cons, List.all_nil, rk_ints 18 ns, rk_prs 17 ps, Bool.and_self])
  have rm : rngOk (m : Int) = true := rngOk_n (by omega)
  unfold El at p3
  unfold b_rest
  generalize b_law_1 = b1 at p3 ⊢
  simp only [List.map_nil] at p3
  cases hk : kahn ps ns.length ys with
  | none =>
    rw [hk] at o1 o2
    have hr : lawR ps 0 8 ≠ none := r4.mpr (kr.mp hk)
    obtain ⟨w, hw⟩ := Option.ne_none_iff_exists'.mp hr
    rw [hw] at q1 q2
    have n2 := ne_self (rk_ints 19 w)
    obtain ⟨t9, t10, s⟩ := sc_ok xs x (.fr (.list [.int a, .int m, .int c])) (.fr (.list (ds.map .int))) (.fr (.list (ns.map .int))) (.fr (.list (ps.map pr))) .un (.fr .none) (.fr (.tuple [.list (ns.map .int), .list (ps.map pr)])) .un
    unfold ordR at o1 o2
    unfold optR at q1 q2
    refine ⟨.fr (.list (ps.map pr)), .un, .fr .none, .fr (.tuple [.list (ns.map .int), .list (ps.map pr)]), t9, t10, .un, ?_⟩
    repeat first | walk_at "vl" | simp only [rm, Int.toNat_natCast, p3, o1, o2, q1, q2, n1, n2, s, imms_ints, imms_prs]
    try rfl
  | some os =>
    rw [hk] at o1 o2
    have hr : lawR ps 0 8 = none := Classical.byContradiction fun z => by
      have := kr.mpr (r4.mp z)
      rw [hk] at this
      cases this
    rw [hr] at q1 q2
    have n2 := ne_self (rk_ints 19 os)
    obtain ⟨t9, t10, s⟩ := sc_ok xs x (.fr (.list [.int a, .int m, .int c])) (.fr (.list (ds.map .int))) (.fr (.list (ns.map .int))) (.fr (.list (ps.map pr))) .un (.fr (.list (os.map .int))) (.fr (.tuple [.list (ns.map .int), .list (ps.map pr)])) .un
    unfold ordR at o1 o2
    unfold optR at q1 q2
    refine ⟨.fr (.list (ps.map pr)), .un, .fr (.list (os.map .int)), .fr (.tuple [.list (ns.map .int), .list (ps.map pr)]), t9, t10, .un, ?_⟩
    repeat first | walk_at "vl" | simp only [rm, Int.toNat_natCast, p3, o1, o2, q1, q2, n1, n2, s, imms_ints, imms_prs]
    try rfl
end K
namespace K
open PySem PySem.Spec PyProof.Rows L2 VL
variable [Vx]
local macro_rules | `(tactic| walk_at "vl") => `(tactic| simp only [so_frl, so_frt, so_ol, so_bw, so_btl, so_btt, ap_fEnumQ, ap_pVar, ap_treeAt, ap_putT, ap_pIx, px_ol, px_od, useP_ok, ap_gPlApp, appK_ol, ap_gPlSet, ps_ol, ps_od, lf_fr, lf_ol, lf_od, tT_ol, tT_od, tT_ot, td_fz, td_ol, td_od, ap_gDPut, ap_gDDel, ap_fKGet, ap_fKIn, tb_nil, tb_cons, ap_fDisp, evp_nil, evp_cons, dmerge_eq, ap_fDNew, isk_i, isk_s, keq_ii, keq_ss, dput_nil, dput_cons, dget_nil, dget_cons, okd_nil, okd_s, okd_i, ix_d, in_ds, in_di, List.foldl_cons, List.foldl_nil, Option.isSome_some, Option.isSome_none, ap_fRng3, ap_oRng3, ap_fRev, rev_l, ap_fCallL, ff_nil, ff_cons, ap_fIsi, isi_n, isi_b, isi_i, isi_s, isi_l, isi_t, ap_isiB, fnR_eq, ap_gSeq, ap_gNext, ap_gCont, ap_gBreak, ap_gFz, ap_gIf, br_t, br_f, br_b, useS_ok, ap_gRet, ap_gSet, ap_gOwn, ap_gRetV, ap_gApp, ap_gAug, useL_ok, ap_gFor, ap_gForget, ap_gAsg, ap_gSetIx, ap_fVar, ap_fC, ap_fOp, ap_fB, ap_toB, ap_fTr, ap_fCall, ap_fBlt, ap_fNil, ap_fCons, ap_fLst, ap_fTup, ap_fzL, fzAll_nil, fzAll_fr, fzAll_ol, fzAll_od, fzAll_bw, fz_fr, fz_ol, fz_od, fz_bw, ap_callR, sure_ok, sure_bad, ap_fSl, ap_fNoP, ap_fP, ap_oInt, ap_fIter, ap_fRng1, ap_fRng2, ap_oRng1, ap_oRng2, lo_fr, lo_ol, lo_bw, to_fr, ap_fRep, ap_oRep, okite1, okite2, bind_ite, rbind_ite, fin_ite, fin_rt_fr, fin_rt_ol, fin_nx, fin_bad, brR_b, ap_fAnd, ap_fOr, ap_fNot, ap_notR, ap_fNeg, ap_dNeg, ap_fIf, ap_fChain, ap_fLc, ap_tAndB, ap_tOrB, ap_tNotB, ap_ttYes, tr_bool, tr_list, tr_tuple, tr_none, tr_int, ap_sName, ap_sTup, ap_sCons, ap_sNil, w_nil, w_cons, slot_fr, slot_ol, slot_od, ap_frz, add_ii, add_tt, add_ll, add_ss, sub_ii, mul_ii, mod_ii, div_ii, pow_ii, lt_ii, le_ii, gt_ii, ge_ii, isn_, notn_, isNone_n, isNone_i, isNone_t, isNone_l, isNone_s, isNone_b, rk_none, rk_bool, rk_int, rk_str, rk_list, rk_tuple, eq_rk, ne_rk, inl_rk, int_rk, inB_f, inB_t, ix_l, ix_t, atD_eq, atI_0, atI_1, atI_2, atI_3, atI_4, atI_5, atI_6, atI_7, atI_map, sl_l, sl_t, len_l, len_t, min_ii, max_ii, list_l, list_t, tuple_l, tuple_t, int_i, int_b, ofString_inj, eqv_ii, eqv_ss, eqv_bb, eqv_nn, eqv_ni, eqv_in, eqv_is, eqv_si, eqv_ns, eqv_sn, eqv_ll, eqv_tt, eqva_nn, eqva_cc, eqva_nc, eqva_cn, Rs.bind_ok, Rs.bind_bad, So.bind_nx, So.bind_rt, So.bind_ct, So.bind_bk, So.bind_bad, R.d_fr, R.d_ol, R.d_od, R.d_bw, retR_fr, retR_ol, retR_od, retR_ot, setR_fr, setR_ol, setR_od, setR_ot, ownR_fr, ownR_ol, ownR_od, ownR_ot, ownT_ol, ownT_od, ownT_ot, ap_gOwnT, opR_frfr, opR_frol, opR_frod, opR_frbw, opR_olfr, opR_olol, opR_olod, opR_olbw, opR_odfr, opR_odol, opR_odod, opR_odbw, opR_bwfr, opR_bwol, opR_bwod, opR_bwbw, opR_bt1, opR_bt2, immR_fr, immR_ol, immR_od, immR_bt, immR_bw, imm_n, imm_b, imm_i, imm_s, imm_t, imm_l, imm_d, imms_n, imms_c, opU_fr, opU_ol, opU_od, opU_bw, opU_bt, bt_fr, bt_ol, bt_od, bt_bw, bt_bt, ap_opL, fz_bt, fz_ot, fzAll_bt, fzAll_ot, lo_bt, to_bt, slot_ot, fin_rt_od, fin_rt_ot, fin_ex, R.d_bt, R.d_ot, Rs.bind_ex, So.bind_ex,
  List.map_cons, List.map_nil, List.length_cons, List.length_nil, List.length_map, List.replicate_succ, List.replicate_zero, List.cons_append, List.nil_append, List.append_nil, List.getElem?_cons_zero, List.getElem?_cons_succ, List.set_cons_zero, List.set_cons_succ, List.all_cons, List.all_nil, List.any_cons, List.any_nil, Nat.zero_add, Nat.add_one_sub_one, Nat.reduceAdd, Nat.reduceSub, Nat.reduceMul, Nat.reduceLeDiff, Int.cast_ofNat_Int, Int.reduceLT, Int.reduceLE, Int.reduceAdd, Int.reduceMul, Int.reduceEq, Int.reduceNe, Int.reduceToNat, Int.reduceNeg, Int.reducePow, String.reduceEq, decide_true, decide_false, Bool.false_eq_true, Bool.true_eq_false, Bool.or_true, Bool.or_false, Bool.true_or, Bool.false_or, Bool.and_true, Bool.true_and, Bool.and_false, Bool.false_and, Bool.not_true, Bool.not_false, Bool.and_self, Bool.or_self, if_true, if_false, ite_true, ite_false, reduceIte, Option.bind_some, Option.bind_none, Option.map_some, Option.map_none, and_self, and_true, true_and, eq_self])
/-! the law -/
def ns1 (n : Nat) : List Int := (List.range n).map fun i : Nat => 1 + (i : Int)
theorem ns1_rng (n : Nat) : rng 1 n = (ns1 n).map .int := by unfold rng ns1; rw [List.map_map]; rfl
theorem ns1_nodup (n : Nat) : (ns1 n).Nodup := by
  unfold ns1
  refine List.Pairwise.map _ (fun a b (h : a < b) => ?_) List.pairwise_lt_range
  omega
def lit8 : List Int := [4, 1, -2, 0, 9, 7, 12, 5]
theorem law_turn (xs : List Int) (x : Nat) : b_law_2 [.fr (.list (xs.map .int)), .fr (.int (0 + (x : Int))), .un, .un, .un, .un, .un, .un, .un, .un, .un, .un] = .nx [.fr (.list (xs.map .int)), .un, .un, .un, .un, .un, .un, .un, .un, .un, .un, .un] := by
  obtain ⟨hd, h1, h2⟩ := draw_ok xs (4 * x) [8, 21, 3] (by decide) (by decide)
  obtain ⟨a, b, c, rfl, ⟨a0, a1⟩, ⟨b0, b1⟩, ⟨c0, c1⟩⟩ := all2_3' h2
  obtain ⟨n, rfl⟩ := Int.eq_ofNat_of_zero_le a0
  obtain ⟨m, rfl⟩ := Int.eq_ofNat_of_zero_le b0
  obtain ⟨ds, d1, d2⟩ := draw_ok xs (4 * x + 1) sz40 (by decide) (by decide)
  have e4 : 4 * (x : Int) = ((4 * x : Nat) : Int) := by omega
  have e5 : ((4 * x : Nat) : Int) + 1 = ((4 * x + 1 : Nat) : Int) := by omega
  have c4 : ∀ m : Int, cMul 4 m = true := fun m => by simp [cMul]
  have s40 : ([PyData.int 8, PyData.int 8] : List D).length * 20 ≤ sizeN := by decide
  have r1 : rngOk 1 = true := by decide
  have r2 : rngOk (2 + (n : Int)) = true := rngOk_n (n := 2 + n) (by omega)
  have er : (2 + (n : Int) - 1).toNat = n + 1 := by omega
  have lr : ∀ s4 : Sl, fLR2 (fC (.int 1)) (fOp dAdd (fC (.int 2)) (fOp dIx (fVar 2) (fC (.int 0)))) [.fr (.list (xs.map .int)), .fr (.int (x : Int)), .fr (.list [.int n, .int m, .int c]), .fr (.list (ds.map .int)), s4, .un, .un, .un, .un, .un, .un, .un] = .ok (.ol ((ns1 (n + 1)).map .int)) := fun s4 => by
    have h : (fOp dAdd (fC (.int 2)) (fOp dIx (fVar 2) (fC (.int 0)))) [.fr (.list (xs.map .int)), .fr (.int (x : Int)), .fr (.list [.int n, .int m, .int c]), .fr (.list (ds.map .int)), s4, .un, .un, .un, .un, .un, .un, .un] = .ok (.fr (.int (2 + (n : Int)))) := by
      repeat first | walk_at "vl"
      try rfl
    unfold fLR2
    rw [ap_fC, Rs.bind_ok, h, Rs.bind_ok, ap_oRng2, r1, r2, er, ns1_rng]
    rfl
  simp only [List.map_cons, List.map_nil] at h1
  rw [b2_eq]
  generalize hlr : fLR2 (fC (.int 1)) (fOp dAdd (fC (.int 2)) (fOp dIx (fVar 2) (fC (.int 0)))) = flr at lr ⊢
  by_cases hc : c = 1
  · subst hc
    have hcut : VL.cutD [PyData.int 4, PyData.int 1, PyData.int (-2), PyData.int 0, PyData.int 9, PyData.int 7, PyData.int 12, PyData.int 5] none (some (1 + (n : Int))) = (lit8.take (n + 1)).map .int := by
      have : n = 0 ∨ n = 1 ∨ n = 2 ∨ n = 3 ∨ n = 4 ∨ n = 5 ∨ n = 6 ∨ n = 7 := by omega
      rcases this with rfl | rfl | rfl | rfl | rfl | rfl | rfl | rfl <;> rfl
    obtain ⟨t5, t6, t7, t8, t9, t10, t11, hr⟩ := rest_ok xs x (n : Int) 1 m (by omega) ds d2 (lit8.take (n + 1)) (firstn_nodup (by decide) _) (by rw [List.length_take]; simp [lit8]; omega) (by rw [List.length_take]; simp [lit8]; omega)
    simp only [Int.zero_add] at hr
    generalize b_rest = br at hr ⊢
    repeat first | walk_at "vl" | simp only [Int.zero_add, e4, e5, c4, ld_eq, h1, rep40, s40, d1, lr, hcut, hr, szle_small (show 2 * 20 ≤ 1000000 by decide)]
    try rfl
  · obtain ⟨t5, t6, t7, t8, t9, t10, t11, hr⟩ := rest_ok xs x (n : Int) c m (by omega) ds d2 (ns1 (n + 1)) (ns1_nodup _) (by unfold ns1; rw [List.length_map, List.length_range]; omega) (by unfold ns1; rw [List.length_map, List.length_range]; omega)
    simp only [Int.zero_add] at hr
    generalize b_rest = br at hr ⊢
    repeat first | walk_at "vl" | simp only [Int.zero_add, e4, e5, c4, ld_eq, h1, rep40, s40, d1, lr, hc, hr, szle_small (show 2 * 20 ≤ 1000000 by decide)]
    try rfl
theorem law_true (ns : List Int) (hn : ns.length ≤ 63) : F_law [.list (ns.map .int)] = .ok (.fr (.bool true)) := by
  have fin' : ∀ m : Nat, gLoop (sName 1) b_law_2 (rng 0 m) [.fr (.list (ns.map .int)), .un, .un, .un, .un, .un, .un, .un, .un, .un, .un, .un] = .nx [.fr (.list (ns.map .int)), .un, .un, .un, .un, .un, .un, .un, .un, .un, .un, .un] := fun m => loop_all _ fun x _ => ⟨_, rfl, .inl (law_turn ns x)⟩
  unfold F_law g_law
  generalize b_law_2 = bb at fin' ⊢
  by_cases h8 : 1 + (ns.length : Int) / 4 < 6
  · obtain ⟨m, em⟩ := Int.eq_ofNat_of_zero_le (show (0 : Int) ≤ 1 + (ns.length : Int) / 4 by omega)
    have r1 := rngOk_n (show m ≤ 8000000 by omega)
    rw [em] at h8
    repeat first | walk_at "vl" | simp only [em, h8, r1, Int.toNat_natCast, fin']
  · have r1 : rngOk 6 = true := by decide
    repeat first | walk_at "vl" | simp only [h8, r1, fin']
end K
namespace K
open PySem PySem.Spec
open PyProof.Rows L2 VL
/-! ### the end -/
theorem reps_ints [Vx] {K : PySem.W.Frag} {H : Hp} {O : List Addr} : ∀ ns : List Int, Reps K H O (ns.map V.int) (ns.map PyData.int)
  | [] => .nil
  | n :: ns => .cons (.int n) (reps_ints ns)
def spLaw (K : PySem.W.Frag) : Sp := fun vs H Q _ => ∃ (a : Addr) (ns : List Int), vs = [.ref a] ∧ SqL K H a (ns.map V.int) ∧ ns.length ≤ 63 ∧ ∀ H', Q (.bl true) H'
theorem law_ok [Vx] (hτ : Vx.τ = []) {P : Program} {w : World} {K : PySem.W.Frag} {mg : Str → Option Value} {base : Heap} {f_transactions_of f_without_aborted f_do_conflict f_conflict_graph f_order_of f_closing f_ring_in f_serial_order f_ring_of f__law_cell f__law_draw f__law_schedule f__law_kept f__law_numbers f__law_clash f__law_graph f__law_order f__law_ring f_law : Addr} {d_transactions_of d_without_aborted d_do_conflict d_conflict_graph d_order_of d_closing d_ring_in d_serial_order d_ring_of d__law_cell d__law_draw d__law_schedule d__law_kept d__law_numbers d__law_clash d__law_graph d__law_order d__law_ring d_law : FuncData} (T : Txt w K mg f_transactions_of f_without_aborted f_do_conflict f_conflict_graph f_order_of f_closing f_ring_in f_serial_order f_ring_of f__law_cell f__law_draw f__law_schedule f__law_kept f__law_numbers f__law_clash f__law_graph f__law_order f__law_ring f_law d_transactions_of d_without_aborted d_do_conflict d_conflict_graph d_order_of d_closing d_ring_in d_serial_order d_ring_of d__law_cell d__law_draw d__law_schedule d__law_kept d__law_numbers d__law_clash d__law_graph d__law_order d__law_ring d_law) : FnOk P w K mg base (L2.CX P w) 12 f_law d_law ["_law_script"] (spLaw K) := by
  refine (ok_law T).imp fun vs H Q E ⟨a, ns, e, hs, hn, q⟩ => ?_
  subst e
  have hz : (ns.map V.int).length ≤ sizeLine := by rw [List.length_map, sizeLine_eq]; omega
  refine ⟨rfl, [], [.list (ns.map .int)], .cons ?_ .nil, ⟨(fun _ z => nomatch z), fun P z => absurd (show P ∈ ([] : List Addr) from hτ ▸ z) List.not_mem_nil⟩, ?_⟩
  · rcases hs with hs | hs
    · exact .lst hs (fun z => nomatch z) hz (reps_ints ns)
    · exact .lstK hs (reps_ints ns)
  · rw [law_true ns hn]
    intro v H' s r
    cases (show Rep K H' [] v (.bool true) from r)
    exact q H'
theorem all_mk {l : PySem.W.OpenLaw} {w : World} {K : PySem.W.Frag} {h : Heap} {mg : Str → Option Value} {fa f0 f1 f2 f3 f4 f5 f6 f7 f8 f9 f10 f11 f12 f13 f14 f15 f16 f17 f18 : Addr} (X : K.In h) (G : h.Ns mainGlobals mg) (hfa : mg "law" = some (.ref fa))
    {od0 an0 od1 an1 od2 an2 od3 an3 od4 an4 od5 an5 od6 an6 od7 an7 od8 an8 od9 an9 od10 an10 od11 an11 od12 an12 od13 an13 od14 an14 od15 an15 od16 an16 od17 an17 od18 an18 : Option Addr} {sl0 sl1 sl2 sl3 sl4 sl5 sl6 sl7 sl8 sl9 sl10 sl11 sl12 sl13 sl14 sl15 sl16 sl17 sl18 : Array (Option Value)} {oc0 kV0 dc0 pm0 cd0 ct0 oc1 kV1 dc1 pm1 cd1 ct1 oc2 kV2 dc2 pm2 cd2 ct2 oc3 kV3 dc3 pm3 cd3 ct3 oc4 kV4 dc4 pm4 cd4 ct4 oc5 kV5 dc5 pm5 cd5 ct5 oc6 kV6 dc6 pm6 cd6 ct6 oc7 kV7 dc7 pm7 cd7 ct7 oc8 kV8 dc8 pm8 cd8 ct8 oc9 kV9 dc9 pm9 cd9 ct9 oc10 kV10 dc10 pm10 cd10 ct10 oc11 kV11 dc11 pm11 cd11 ct11 oc12 kV12 dc12 pm12 cd12 ct12 oc13 kV13 dc13 pm13 cd13 ct13 oc14 kV14 dc14 pm14 cd14 ct14 oc15 kV15 dc15 pm15 cd15 ct15 oc16 kV16 dc16 pm16 cd16 ct16 oc17 kV17 dc17 pm17 cd17 ct17 oc18 kV18 dc18 pm18 cd18 ct18 : Value}
    (a0 : PySem.W.nsIn K mainGlobals "transactions_of" = some (some (.ref f0))) (l0 : K.lookup f0 = some ⟨oc0, od0, .func (PySem.W.fnOf "transactions_of" "transactions_of" (defArgs s_transactions_of) (defBody s_transactions_of) (defScope s_transactions_of) .none kV0 dc0 pm0 an0 cd0 ct0), sl0⟩) (c0 : PySem.W.codeIn K cd0 "transactions_of" = true) (k0 : PySem.W.keepIn K (.ref f0) = true)
    (a1 : PySem.W.nsIn K mainGlobals "without_aborted" = some (some (.ref f1))) (l1 : K.lookup f1 = some ⟨oc1, od1, .func (PySem.W.fnOf "without_aborted" "without_aborted" (defArgs s_without_aborted) (defBody s_without_aborted) (defScope s_without_aborted) .none kV1 dc1 pm1 an1 cd1 ct1), sl1⟩) (c1 : PySem.W.codeIn K cd1 "without_aborted" = true) (k1 : PySem.W.keepIn K (.ref f1) = true)
    (a2 : PySem.W.nsIn K mainGlobals "do_conflict" = some (some (.ref f2))) (l2 : K.lookup f2 = some ⟨oc2, od2, .func (PySem.W.fnOf "do_conflict" "do_conflict" (defArgs s_do_conflict) (defBody s_do_conflict) (defScope s_do_conflict) .none kV2 dc2 pm2 an2 cd2 ct2), sl2⟩) (c2 : PySem.W.codeIn K cd2 "do_conflict" = true) (k2 : PySem.W.keepIn K (.ref f2) = true)
    (a3 : PySem.W.nsIn K mainGlobals "conflict_graph" = some (some (.ref f3))) (l3 : K.lookup f3 = some ⟨oc3, od3, .func (PySem.W.fnOf "conflict_graph" "conflict_graph" (defArgs s_conflict_graph) (defBody s_conflict_graph) (defScope s_conflict_graph) .none kV3 dc3 pm3 an3 cd3 ct3), sl3⟩) (c3 : PySem.W.codeIn K cd3 "conflict_graph" = true) (k3 : PySem.W.keepIn K (.ref f3) = true)
    (a4 : PySem.W.nsIn K mainGlobals "order_of" = some (some (.ref f4))) (l4 : K.lookup f4 = some ⟨oc4, od4, .func (PySem.W.fnOf "order_of" "order_of" (defArgs s_order_of) (defBody s_order_of) (defScope s_order_of) .none kV4 dc4 pm4 an4 cd4 ct4), sl4⟩) (c4 : PySem.W.codeIn K cd4 "order_of" = true) (k4 : PySem.W.keepIn K (.ref f4) = true)
    (a5 : PySem.W.nsIn K mainGlobals "closing" = some (some (.ref f5))) (l5 : K.lookup f5 = some ⟨oc5, od5, .func (PySem.W.fnOf "closing" "closing" (defArgs s_closing) (defBody s_closing) (defScope s_closing) .none kV5 dc5 pm5 an5 cd5 ct5), sl5⟩) (c5 : PySem.W.codeIn K cd5 "closing" = true) (k5 : PySem.W.keepIn K (.ref f5) = true)
    (a6 : PySem.W.nsIn K mainGlobals "ring_in" = some (some (.ref f6))) (l6 : K.lookup f6 = some ⟨oc6, od6, .func (PySem.W.fnOf "ring_in" "ring_in" (defArgs s_ring_in) (defBody s_ring_in) (defScope s_ring_in) .none kV6 dc6 pm6 an6 cd6 ct6), sl6⟩) (c6 : PySem.W.codeIn K cd6 "ring_in" = true) (k6 : PySem.W.keepIn K (.ref f6) = true)
    (a7 : PySem.W.nsIn K mainGlobals "serial_order" = some (some (.ref f7))) (l7 : K.lookup f7 = some ⟨oc7, od7, .func (PySem.W.fnOf "serial_order" "serial_order" (defArgs s_serial_order) (defBody s_serial_order) (defScope s_serial_order) .none kV7 dc7 pm7 an7 cd7 ct7), sl7⟩) (c7 : PySem.W.codeIn K cd7 "serial_order" = true) (k7 : PySem.W.keepIn K (.ref f7) = true)
    (a8 : PySem.W.nsIn K mainGlobals "ring_of" = some (some (.ref f8))) (l8 : K.lookup f8 = some ⟨oc8, od8, .func (PySem.W.fnOf "ring_of" "ring_of" (defArgs s_ring_of) (defBody s_ring_of) (defScope s_ring_of) .none kV8 dc8 pm8 an8 cd8 ct8), sl8⟩) (c8 : PySem.W.codeIn K cd8 "ring_of" = true) (k8 : PySem.W.keepIn K (.ref f8) = true)
    (a9 : PySem.W.nsIn K mainGlobals "_law_cell" = some (some (.ref f9))) (l9 : K.lookup f9 = some ⟨oc9, od9, .func (PySem.W.fnOf "_law_cell" "_law_cell" (defArgs s__law_cell) (defBody s__law_cell) (defScope s__law_cell) .none kV9 dc9 pm9 an9 cd9 ct9), sl9⟩) (c9 : PySem.W.codeIn K cd9 "_law_cell" = true) (k9 : PySem.W.keepIn K (.ref f9) = true)
    (a10 : PySem.W.nsIn K mainGlobals "_law_draw" = some (some (.ref f10))) (l10 : K.lookup f10 = some ⟨oc10, od10, .func (PySem.W.fnOf "_law_draw" "_law_draw" (defArgs s__law_draw) (defBody s__law_draw) (defScope s__law_draw) .none kV10 dc10 pm10 an10 cd10 ct10), sl10⟩) (c10 : PySem.W.codeIn K cd10 "_law_draw" = true) (k10 : PySem.W.keepIn K (.ref f10) = true)
    (a11 : PySem.W.nsIn K mainGlobals "_law_schedule" = some (some (.ref f11))) (l11 : K.lookup f11 = some ⟨oc11, od11, .func (PySem.W.fnOf "_law_schedule" "_law_schedule" (defArgs s__law_schedule) (defBody s__law_schedule) (defScope s__law_schedule) .none kV11 dc11 pm11 an11 cd11 ct11), sl11⟩) (c11 : PySem.W.codeIn K cd11 "_law_schedule" = true) (k11 : PySem.W.keepIn K (.ref f11) = true)
    (a12 : PySem.W.nsIn K mainGlobals "_law_kept" = some (some (.ref f12))) (l12 : K.lookup f12 = some ⟨oc12, od12, .func (PySem.W.fnOf "_law_kept" "_law_kept" (defArgs s__law_kept) (defBody s__law_kept) (defScope s__law_kept) .none kV12 dc12 pm12 an12 cd12 ct12), sl12⟩) (c12 : PySem.W.codeIn K cd12 "_law_kept" = true) (k12 : PySem.W.keepIn K (.ref f12) = true)
    (a13 : PySem.W.nsIn K mainGlobals "_law_numbers" = some (some (.ref f13))) (l13 : K.lookup f13 = some ⟨oc13, od13, .func (PySem.W.fnOf "_law_numbers" "_law_numbers" (defArgs s__law_numbers) (defBody s__law_numbers) (defScope s__law_numbers) .none kV13 dc13 pm13 an13 cd13 ct13), sl13⟩) (c13 : PySem.W.codeIn K cd13 "_law_numbers" = true) (k13 : PySem.W.keepIn K (.ref f13) = true)
    (a14 : PySem.W.nsIn K mainGlobals "_law_clash" = some (some (.ref f14))) (l14 : K.lookup f14 = some ⟨oc14, od14, .func (PySem.W.fnOf "_law_clash" "_law_clash" (defArgs s__law_clash) (defBody s__law_clash) (defScope s__law_clash) .none kV14 dc14 pm14 an14 cd14 ct14), sl14⟩) (c14 : PySem.W.codeIn K cd14 "_law_clash" = true) (k14 : PySem.W.keepIn K (.ref f14) = true)
    (a15 : PySem.W.nsIn K mainGlobals "_law_graph" = some (some (.ref f15))) (l15 : K.lookup f15 = some ⟨oc15, od15, .func (PySem.W.fnOf "_law_graph" "_law_graph" (defArgs s__law_graph) (defBody s__law_graph) (defScope s__law_graph) .none kV15 dc15 pm15 an15 cd15 ct15), sl15⟩) (c15 : PySem.W.codeIn K cd15 "_law_graph" = true) (k15 : PySem.W.keepIn K (.ref f15) = true)
    (a16 : PySem.W.nsIn K mainGlobals "_law_order" = some (some (.ref f16))) (l16 : K.lookup f16 = some ⟨oc16, od16, .func (PySem.W.fnOf "_law_order" "_law_order" (defArgs s__law_order) (defBody s__law_order) (defScope s__law_order) .none kV16 dc16 pm16 an16 cd16 ct16), sl16⟩) (c16 : PySem.W.codeIn K cd16 "_law_order" = true) (k16 : PySem.W.keepIn K (.ref f16) = true)
    (a17 : PySem.W.nsIn K mainGlobals "_law_ring" = some (some (.ref f17))) (l17 : K.lookup f17 = some ⟨oc17, od17, .func (PySem.W.fnOf "_law_ring" "_law_ring" (defArgs s__law_ring) (defBody s__law_ring) (defScope s__law_ring) .none kV17 dc17 pm17 an17 cd17 ct17), sl17⟩) (c17 : PySem.W.codeIn K cd17 "_law_ring" = true) (k17 : PySem.W.keepIn K (.ref f17) = true)
    (a18 : PySem.W.nsIn K mainGlobals "law" = some (some (.ref f18))) (l18 : K.lookup f18 = some ⟨oc18, od18, .func (PySem.W.fnOf "law" "law" (defArgs s_law) (defBody s_law) (defScope s_law) .none kV18 dc18 pm18 an18 cd18 ct18), sl18⟩) (c18 : PySem.W.codeIn K cd18 "law" = true) (k18 : PySem.W.keepIn K (.ref f18) = true)
    (z_len : PySem.W.nsIn K mainGlobals "len" = some none)
    (z_list : PySem.W.nsIn K mainGlobals "list" = some none)
    (z_min : PySem.W.nsIn K mainGlobals "min" = some none)
    (z_range : PySem.W.nsIn K mainGlobals "range" = some none)
    (z_sorted : PySem.W.nsIn K mainGlobals "sorted" = some none) :
    ∃ fd : FuncData, (∀ (s : Shared) (v : Value), BindsTo s fd ⟨[v], []⟩ [("_law_script", v)]) ∧ ∀ base : Heap, K.In base → base.Ns mainGlobals mg → FnOk l.prog w K mg base (L2.CX l.prog w) 12 fa fd ["_law_script"] (spLaw K) := by
  have e := hfa.symm.trans (PySem.W.mg_of X G a18)
  cases e
  have F0 := fun_mk (st := s_transactions_of) l0 c0 k0
  have F1 := fun_mk (st := s_without_aborted) l1 c1 k1
  have F2 := fun_mk (st := s_do_conflict) l2 c2 k2
  have F3 := fun_mk (st := s_conflict_graph) l3 c3 k3
  have F4 := fun_mk (st := s_order_of) l4 c4 k4
  have F5 := fun_mk (st := s_closing) l5 c5 k5
  have F6 := fun_mk (st := s_ring_in) l6 c6 k6
  have F7 := fun_mk (st := s_serial_order) l7 c7 k7
  have F8 := fun_mk (st := s_ring_of) l8 c8 k8
  have F9 := fun_mk (st := s__law_cell) l9 c9 k9
  have F10 := fun_mk (st := s__law_draw) l10 c10 k10
  have F11 := fun_mk (st := s__law_schedule) l11 c11 k11
  have F12 := fun_mk (st := s__law_kept) l12 c12 k12
  have F13 := fun_mk (st := s__law_numbers) l13 c13 k13
  have F14 := fun_mk (st := s__law_clash) l14 c14 k14
  have F15 := fun_mk (st := s__law_graph) l15 c15 k15
  have F16 := fun_mk (st := s__law_order) l16 c16 k16
  have F17 := fun_mk (st := s__law_ring) l17 c17 k17
  have F18 := fun_mk (st := s_law) l18 c18 k18
  have b0 := F0.binds (ps := ["schedule"]) fun _ _ _ _ _ _ us hl => match us, hl with | [_], _ => rfl
  have b1 := F1.binds (ps := ["schedule"]) fun _ _ _ _ _ _ us hl => match us, hl with | [_], _ => rfl
  have b2 := F2.binds (ps := ["first", "second"]) fun _ _ _ _ _ _ us hl => match us, hl with | [_, _], _ => rfl
  have b3 := F3.binds (ps := ["schedule"]) fun _ _ _ _ _ _ us hl => match us, hl with | [_], _ => rfl
  have b4 := F4.binds (ps := ["numbers", "pairs"]) fun _ _ _ _ _ _ us hl => match us, hl with | [_, _], _ => rfl
  have b5 := F5.binds (ps := ["pairs", "row", "size"]) fun _ _ _ _ _ _ us hl => match us, hl with | [_, _, _], _ => rfl
  have b6 := F6.binds (ps := ["pairs"]) fun _ _ _ _ _ _ us hl => match us, hl with | [_], _ => rfl
  have b7 := F7.binds (ps := ["schedule"]) fun _ _ _ _ _ _ us hl => match us, hl with | [_], _ => rfl
  have b8 := F8.binds (ps := ["schedule"]) fun _ _ _ _ _ _ us hl => match us, hl with | [_], _ => rfl
  have b9 := F9.binds (ps := ["_law_script", "_law_k"]) fun _ _ _ _ _ _ us hl => match us, hl with | [_, _], _ => rfl
  have b10 := F10.binds (ps := ["_law_script", "_law_k", "_law_sizes"]) fun _ _ _ _ _ _ us hl => match us, hl with | [_, _, _], _ => rfl
  have b11 := F11.binds (ps := ["_law_script", "_law_k"]) fun _ _ _ _ _ _ us hl => match us, hl with | [_, _], _ => rfl
  have b12 := F12.binds (ps := ["_law_schedule_here"]) fun _ _ _ _ _ _ us hl => match us, hl with | [_], _ => rfl
  have b13 := F13.binds (ps := ["_law_schedule_here"]) fun _ _ _ _ _ _ us hl => match us, hl with | [_], _ => rfl
  have b14 := F14.binds (ps := ["_law_one", "_law_other"]) fun _ _ _ _ _ _ us hl => match us, hl with | [_, _], _ => rfl
  have b15 := F15.binds (ps := ["_law_schedule_here"]) fun _ _ _ _ _ _ us hl => match us, hl with | [_], _ => rfl
  have b16 := F16.binds (ps := ["_law_numbers_here", "_law_pairs"]) fun _ _ _ _ _ _ us hl => match us, hl with | [_, _], _ => rfl
  have b17 := F17.binds (ps := ["_law_pairs"]) fun _ _ _ _ _ _ us hl => match us, hl with | [_], _ => rfl
  have b18 := F18.binds (ps := ["_law_script"]) fun _ _ _ _ _ _ us hl => match us, hl with | [_], _ => rfl
  letI : Vx := ⟨[], w⟩
  exact ⟨_, fun s v => .of_eq rfl, fun base _ _ => law_ok rfl (w := w) (base := base) ⟨F0, PySem.W.mg_of X G a0, b0, F1, PySem.W.mg_of X G a1, b1, F2, PySem.W.mg_of X G a2, b2, F3, PySem.W.mg_of X G a3, b3, F4, PySem.W.mg_of X G a4, b4, F5, PySem.W.mg_of X G a5, b5, F6, PySem.W.mg_of X G a6, b6, F7, PySem.W.mg_of X G a7, b7, F8, PySem.W.mg_of X G a8, b8, F9, PySem.W.mg_of X G a9, b9, F10, PySem.W.mg_of X G a10, b10, F11, PySem.W.mg_of X G a11, b11, F12, PySem.W.mg_of X G a12, b12, F13, PySem.W.mg_of X G a13, b13, F14, PySem.W.mg_of X G a14, b14, F15, PySem.W.mg_of X G a15, b15, F16, PySem.W.mg_of X G a16, b16, F17, PySem.W.mg_of X G a17, b17, F18, PySem.W.mg_of X G a18, b18, PySem.W.mg_none_of X G z_len, PySem.W.mg_none_of X G z_list, PySem.W.mg_none_of X G z_min, PySem.W.mg_none_of X G z_range, PySem.W.mg_none_of X G z_sorted⟩⟩
end K
open PySem PySem.W PyProof.Rows
set_option maxHeartbeats 0 in
theorem PySem.Challenge.cw_ordershown_k48_orders_and_rings_holds : PySem.Challenge.rw_ordershown_k48_orders_and_rings.Holds := by
  w_on; o_law; k_head; (case hw => w_witness2)
  k_fill
  refine L2.walk_of (l := PySem.Challenge.rw_ordershown_k48_orders_and_rings) (n := 63) (k := 12) (x := "_law_script") (CX := fun w => L2.CX (PySem.Challenge.rw_ordershown_k48_orders_and_rings).prog w) (sp := fun w => K.spLaw _) rfl (by decide) rfl ⟨rfl, by decide, by decide⟩ (fun w h Y => PySem.W.kIn_of Y) ?F (fun _ _ a ns hl _ hS => ⟨a, ns, rfl, hS, hl, fun _ => rfl⟩) (fun _ _ _ _ _ h => by obtain ⟨_, _, _, _, _, _, _, _, _, _, _, _, z⟩ := h; exact z)
  case F =>
    intro w mg fa h KX G hmg
    refine' K.all_mk KX G hmg ?a0 ?l0 ?c0 ?k0 ?a1 ?l1 ?c1 ?k1 ?a2 ?l2 ?c2 ?k2 ?a3 ?l3 ?c3 ?k3 ?a4 ?l4 ?c4 ?k4 ?a5 ?l5 ?c5 ?k5 ?a6 ?l6 ?c6 ?k6 ?a7 ?l7 ?c7 ?k7 ?a8 ?l8 ?c8 ?k8 ?a9 ?l9 ?c9 ?k9 ?a10 ?l10 ?c10 ?k10 ?a11 ?l11 ?c11 ?k11 ?a12 ?l12 ?c12 ?k12 ?a13 ?l13 ?c13 ?k13 ?a14 ?l14 ?c14 ?k14 ?a15 ?l15 ?c15 ?k15 ?a16 ?l16 ?c16 ?k16 ?a17 ?l17 ?c17 ?k17 ?a18 ?l18 ?c18 ?k18 ?z_len ?z_list ?z_min ?z_range ?z_sorted
    (case a0 => k_is)
    (case l0 => k_is)
    (case c0 => k_is)
    (case k0 => k_is)
    (case a1 => k_is)
    (case l1 => k_is)
    (case c1 => k_is)
    (case k1 => k_is)
    (case a2 => k_is)
    (case l2 => k_is)
    (case c2 => k_is)
    (case k2 => k_is)
    (case a3 => k_is)
    (case l3 => k_is)
    (case c3 => k_is)
    (case k3 => k_is)
    (case a4 => k_is)
    (case l4 => k_is)
    (case c4 => k_is)
    (case k4 => k_is)
    (case a5 => k_is)
    (case l5 => k_is)
    (case c5 => k_is)
    (case k5 => k_is)
    (case a6 => k_is)
    (case l6 => k_is)
    (case c6 => k_is)
    (case k6 => k_is)
    (case a7 => k_is)
    (case l7 => k_is)
    (case c7 => k_is)
    (case k7 => k_is)
    (case a8 => k_is)
    (case l8 => k_is)
    (case c8 => k_is)
    (case k8 => k_is)
    (case a9 => k_is)
    (case l9 => k_is)
    (case c9 => k_is)
    (case k9 => k_is)
    (case a10 => k_is)
    (case l10 => k_is)
    (case c10 => k_is)
    (case k10 => k_is)
    (case a11 => k_is)
    (case l11 => k_is)
    (case c11 => k_is)
    (case k11 => k_is)
    (case a12 => k_is)
    (case l12 => k_is)
    (case c12 => k_is)
    (case k12 => k_is)
    (case a13 => k_is)
    (case l13 => k_is)
    (case c13 => k_is)
    (case k13 => k_is)
    (case a14 => k_is)
    (case l14 => k_is)
    (case c14 => k_is)
    (case k14 => k_is)
    (case a15 => k_is)
    (case l15 => k_is)
    (case c15 => k_is)
    (case k15 => k_is)
    (case a16 => k_is)
    (case l16 => k_is)
    (case c16 => k_is)
    (case k16 => k_is)
    (case a17 => k_is)
    (case l17 => k_is)
    (case c17 => k_is)
    (case k17 => k_is)
    (case a18 => k_is)
    (case l18 => k_is)
    (case c18 => k_is)
    (case k18 => k_is)
    (case z_len => k_is)
    (case z_list => k_is)
    (case z_min => k_is)
    (case z_range => k_is)
    (case z_sorted => k_is)
#print axioms PySem.Challenge.cw_ordershown_k48_orders_and_rings_holds
